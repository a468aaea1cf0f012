import PyProof.Rows.All
import Wide.All
import OpenK.AllK
import Wide.FinOn
import HandS.ForMost
import HandS.ForExc
import HandS.IsInst
import HandS.Flow
import HandS.Lambda
import HandS.TryMany
import HandS.AnyAll
import HandS.EndTab
import HandS.Walk
import HandS.TupAny
import KE.GoesMore
import KE.GoesZip
import KE.GoesEnum
import HandS.GenList
import KE.KSuper
import KE.KExcSuper
import HandS.FStr
import HandS.ExcInit
import KE.KExcIs
import HandS.ExcIs
import HandS.ExcField
import HandS.Style
import HandS.Text
import HandS.More
import PyProof.Rows.StrCountLaw
import HandS.Codes
import HandS.RaiseMore
import HandS.Replace
import HandS.SetKeys
import HandS.Property
import PyProof.DictMoreH
import HandS.Set
import HandS.SetFor
import PyProof.Rows.DictTallyStr
import HandS.Conv
import PyProof.StrBlock2
import PySem.Challenge.RW_crossfills_k03_words_by_clues
import KE.KNestM
import HandS.HeadHook4
import HandS.HeadWalk
import PySem.Builtin.Int.Common
/-! CfA: data, results and combinators of the mirrors; plain Lean. -/
namespace Cf

/-- the greatest length of a text or a list that a mirror makes -/
abbrev LIM : Nat := 16000000

inductive D where
  | non
  | bl (b : Bool)
  | int (i : Int)
  | str (s : List Nat)
  | tup (xs : List D)
  | lst (xs : List D)
  | dct (t : Bool) (ks vs : List D)
  | obj (c : String) (ns : List String) (vs : List D)
  | ref (n : Nat)
deriving Inhabited

/-- what stands in the small heap -/
inductive O where
  | lst (xs : List D)
  | ins (c : String) (ns : List String) (vs : List D)
  | dct (t : Bool) (ks vs : List D)
deriving Inhabited

inductive R (α : Type) where
  | ok (a : α) (h : List O)
  | er (c : String) (vs : List D) (h : List O)
  | no

def M (α : Type) := List O → R α

def R.next {α β : Type} (r : R α) (f : α → M β) : R β :=
  match r with
  | .ok a h => f a h
  | .er c vs h => .er c vs h
  | .no => .no
instance : Monad M where
  pure a := fun h => .ok a h
  bind m f := fun h => (m h).next f

def no {α : Type} : M α := fun _ => .no
def ret {α : Type} (a : α) : M α := fun h => .ok a h
/-- nothing is raised within -/
def noer {α : Type} (m : M α) : M α := fun h => match m h with
  | .er _ _ _ => .no
  | r => r
def ofOpt {α : Type} : Option α → M α
  | some a => ret a
  | none => no
def guardM (b : Bool) : M Unit := if b = true then ret () else no

/-- a written text -/
def cps (x : String) : List Nat := x.toList.map Char.toNat

def okL (s : List Nat) : Bool := decide (s.length ≤ 1000) && s.all fun c => decide (c < 1114112)
inductive Sl where
  | no
  | val (d : D)
  | own (d : D)
deriving Inhabited

abbrev S := List Sl
abbrev E := S → M D
abbrev T := S → M Bool
abbrev I := S → M (List D)

/-! ### equality of data, as Python's == has it -/
def b2i (b : Bool) : Int := if b = true then 1 else 0
mutual
def deq : D → D → Bool
  | .non, .non => true
  | .bl a, .bl b => a == b
  | .bl a, .int b => b2i a == b
  | .int a, .bl b => a == b2i b
  | .int a, .int b => a == b
  | .str a, .str b => a == b
  | .tup a, .tup b => deqs a b
  | .lst a, .lst b => deqs a b
  | _, _ => false
def deqs : List D → List D → Bool
  | [], [] => true
  | x :: xs, y :: ys => deq x y && deqs xs ys
  | _, _ => false
end
/-! data that == can be asked of -/
mutual
def plain : D → Bool
  | .non | .bl _ | .int _ | .str _ => true
  | .tup xs => plains xs
  | .lst xs => plains xs
  | .dct _ _ _ | .obj _ _ _ | .ref _ => false
def plains : List D → Bool
  | [] => true
  | x :: xs => plain x && plains xs
end
/-! how deep it is -/
mutual
def deep : D → Nat
  | .tup xs => deeps xs + 1
  | .lst xs => deeps xs + 1
  | .non | .bl _ | .int _ | .str _ | .dct _ _ _ | .obj _ _ _ | .ref _ => 0
def deeps : List D → Nat
  | [] => 0
  | x :: xs => max (deep x) (deeps xs)
end
/-- no list, no tuple -/
def flat : D → Bool
  | .non | .bl _ | .int _ | .str _ => true
  | _ => false

/-! ### values -/
def pAdd : D → D → M D
  | .int a, .int b => ret (.int (a + b))
  | .str a, .str b => if a.length + b.length ≤ LIM then ret (.str (a ++ b)) else no
  | .tup a, .tup b => if a.length + b.length ≤ LIM then ret (.tup (a ++ b)) else no
  | .lst a, .lst b => if a.length + b.length ≤ LIM then ret (.lst (a ++ b)) else no
  | _, _ => no
def pSub : D → D → M D
  | .int a, .int b => ret (.int (a - b))
  | _, _ => no
def pMul : D → D → M D
  | .int a, .int b => if (-(2 ^ 64) < a ∧ a < 2 ^ 64) ∨ (-(2 ^ 64) < b ∧ b < 2 ^ 64) then ret (.int (a * b)) else no
  | _, _ => no
def pMod : D → D → M D
  | .int a, .int b => if 0 < b ∧ b < 1073741824 * 2 then ret (.int (a % b)) else no
  | _, _ => no
def pFDiv : D → D → M D
  | .int a, .int b => if 0 < b ∧ b < 1073741824 then ret (.int (a / b)) else no
  | _, _ => no
def pPow : D → D → M D
  | .int a, .int b => if 0 ≤ b ∧ b ≤ 1000000 ∧ a.natAbs < 2 ^ 64 then ret (.int (a ^ b.toNat)) else no
  | _, _ => no
def eqable (x : D) : Bool := plain x && decide (deep x ≤ 60)
def pEq : D → D → M D := fun x y => if eqable x = true ∧ eqable y = true then ret (.bl (deq x y)) else no
def pNe : D → D → M D := fun x y => if eqable x = true ∧ eqable y = true then ret (.bl (!deq x y)) else no
def pCmp (f : Int → Int → Bool) (g : List Nat → List Nat → Bool) : D → D → M D
  | .int a, .int b => ret (.bl (f a b))
  | .str a, .str b => ret (.bl (g a b))
  | _, _ => no
def pLt : D → D → M D := pCmp (fun a b => decide (a < b)) (fun a b => decide (a < b))
def pLe : D → D → M D := pCmp (fun a b => decide (a ≤ b)) (fun a b => decide (a ≤ b))
def pGt : D → D → M D := pCmp (fun a b => decide (b < a)) (fun a b => decide (b < a))
def pGe : D → D → M D := pCmp (fun a b => decide (b ≤ a)) (fun a b => decide (b ≤ a))
def isNon : D → Bool
  | .non => true
  | _ => false
def pIsN (x : D) : M D := ret (.bl (isNon x))
def pNotN (x : D) : M D := ret (.bl (!isNon x))
/-- one text in another -/
def subIn (a b : List Nat) : Bool := (List.range (b.length + 1)).any fun i => (b.drop i).take a.length == a
def look (k : D) : List D → List D → Option D
  | x :: xs, v :: vs => if deq x k = true then some v else look k xs vs
  | _, _ => none
/-- what can be a key of a dict: an int, a text; a tuple of them -/
def keyD : D → Bool
  | .int _ | .str _ => true
  | _ => false
def keyOk (t : Bool) : D → Bool
  | .tup ds => t && ds.all keyD
  | d => !t && keyD d
def inD : D → D → Option Bool
  | x, .lst ys => if flat x = true ∧ ys.all flat = true then some (ys.any fun y => deq y x) else none
  | x, .tup ys => if flat x = true ∧ ys.all flat = true then some (ys.any fun y => deq y x) else none
  | .str a, .str b => some (subIn a b)
  | _, _ => none
def pIn (x y : D) : M D := ofOpt ((inD x y).map .bl)
def pNotIn (x y : D) : M D := ofOpt ((inD x y).map fun b => .bl (!b))
/-- an index of any sign -/
def ixOf (n : Nat) (i : Int) : Option Nat :=
  if 0 ≤ i then (if i < n then some i.toNat else none) else if -(n : Int) ≤ i then some (i + n).toNat else none
def getAt {α : Type} (xs : List α) (i : Int) : Option α := (ixOf xs.length i).bind fun j => xs[j]?
/-- the list at a place of the heap -/
def refGet (n : Nat) (f : List D → M D) : M D := fun h => match h[n]? with
  | some (.lst xs) => f xs h
  | _ => .no
def pIdx : D → D → M D
  | .lst xs, .int i => ofOpt (getAt xs i)
  | .tup xs, .int i => ofOpt (getAt xs i)
  | .str s, .int i => ofOpt ((getAt s i).map fun c => .str [c])
  | .ref n, .int i => refGet n fun xs => ofOpt (getAt xs i)
  | _, _ => no
def clip (n d : Nat) : Option Int → Nat
  | none => d
  | some v => if v < 0 then (v + (n : Int)).toNat else min v.toNat n
def cut {α : Type} (xs : List α) (lo hi : Option Int) : List α := (xs.drop (clip xs.length 0 lo)).take (clip xs.length xs.length hi - clip xs.length 0 lo)
def pSlice (x : D) (lo hi : Option Int) : M D := match x with
  | .str s => ret (.str (cut s lo hi))
  | .tup xs => ret (.tup (cut xs lo hi))
  | .lst xs => ret (.lst (cut xs lo hi))
  | _ => no
def pRev : D → M D
  | .str s => ret (.str s.reverse)
  | _ => no
def pLen : D → M D
  | .str s => ret (.int s.length)
  | .tup xs => ret (.int xs.length)
  | .lst xs => ret (.int xs.length)
  | .ref n => refGet n fun xs => ret (.int xs.length)
  | _ => no
def truth : D → Option Bool
  | .non => some false
  | .bl b => some b
  | .int i => some (i != 0)
  | .str s => some (!s.isEmpty)
  | .tup xs => some (!xs.isEmpty)
  | .lst xs => some (!xs.isEmpty)
  | _ => none
def pTruth (x : D) : M Bool := ofOpt (truth x)
def pInt : D → M D
  | .int i => ret (.int i)
  | .bl b => ret (.int (b2i b))
  | _ => no
def pTuple : D → M D
  | .tup xs => ret (.tup xs)
  | .lst xs => ret (.tup xs)
  | _ => no
def pList : D → M D
  | .tup xs => ret (.lst xs)
  | .lst xs => ret (.lst xs)
  | _ => no
/-- the built-in classes that isinstance is asked of -/
inductive Ty where
  | int | bool | str | tuple | list | dict | own (c : String)
def isTy : D → Ty → Bool
  | .bl _, .int => true
  | .bl _, .bool => true
  | .int _, .int => true
  | .str _, .str => true
  | .tup _, .tuple => true
  | .lst _, .list => true
  | .dct _ _ _, .dict => true
  | .obj c _ _, .own k => c == k
  | _, _ => false
def askable : D → Bool
  | .ref _ => false
  | .dct _ _ _ => false
  | .obj _ _ _ => false
  | _ => true
def pIsi (ts : List Ty) (x : D) : M D := if askable x = true then ret (.bl (ts.any (isTy x))) else no
def strsOf : List D → Option (List (List Nat))
  | [] => some []
  | .str s :: r => (strsOf r).map (s :: ·)
  | _ => none
def joinL (sep : List Nat) : List (List Nat) → List Nat
  | [] => []
  | [x] => x
  | x :: r => x ++ sep ++ joinL sep r
def seqOf : D → Option (List D)
  | .lst xs => some xs
  | .tup xs => some xs
  | _ => none
def pJoin (sep xs : D) : M D := match sep, (seqOf xs).bind strsOf with
  | .str p, some ys => if (ys.map (·.length)).sum + ys.length * p.length ≤ LIM then ret (.str (joinL p ys)) else no
  | _, _ => no
/-- how often a sign stands in a text -/
def pCount (x y : D) : M D := match x, y with
  | .str s, .str [c] => ret (.int (s.count c))
  | _, _ => no
/-- the place of a sign in a text -/
def ixD (c : Nat) : List Nat → Option Nat
  | [] => none
  | x :: r => if x = c then some 0 else (ixD c r).map (· + 1)
def pIndex (x y : D) : M D := match x, y with
  | .str s, .str [c] => ofOpt ((ixD c s).map fun (i : Nat) => D.int (i : Int))
  | _, _ => no
/-- cut at each sign c -/
def splitL (c : Nat) : List Nat → List Nat → List (List Nat)
  | acc, [] => [acc]
  | acc, x :: r => if x = c then acc :: splitL c [] r else splitL c (acc ++ [x]) r
def pSplit (x y : D) : M D := match x, y with
  | .str s, .str [c] => if c < 256 ∧ s.length ≤ LIM then ret (.lst ((splitL c [] s).map .str)) else no
  | _, _ => no
def pStr : D → M D
  | .str s => ret (.str s)
  | .int i => if i.natAbs < 2 ^ 64 then ret (.str (cps (toString i))) else no
  | _ => no
/-- a written dict from texts to numbers: in, not in, an item -/
def pInTab (t : List (List Nat × Int)) : D → M D
  | .str s => ret (.bl (t.lookup s).isSome)
  | _ => no
def pNotInTab (t : List (List Nat × Int)) : D → M D
  | .str s => ret (.bl (!(t.lookup s).isSome))
  | _ => no
def pGetTab (t : List (List Nat × Int)) : D → M D
  | .str s => ofOpt ((t.lookup s).map .int)
  | _ => no

/-! ### expressions -/
def eVar (i : Nat) : E := fun σ h => match σ[i]? with
  | some (.val d) => .ok d h
  | _ => .no
def eC (d : D) : E := fun _ => ret d
def e1 (f : D → M D) (a : E) : E := fun σ => a σ >>= f
def e2 (f : D → D → M D) (a b : E) : E := fun σ => a σ >>= fun x => b σ >>= fun y => f x y
def isStr : D → Bool
  | .str _ => true
  | _ => false
/-- a method of a text -/
def eS2 (f : D → D → M D) (a b : E) : E := fun σ => a σ >>= fun x => if isStr x = true then b σ >>= fun y => f x y else no
def evs : List E → S → M (List D)
  | [], _ => ret []
  | a :: as, σ => a σ >>= fun x => evs as σ >>= fun xs => ret (x :: xs)
def eN (f : List D → M D) (as : List E) : E := fun σ => evs as σ >>= f
def mkTup (xs : List D) : M D := ret (.tup xs)
def mkLst (xs : List D) : M D := ret (.lst xs)
def eTup (as : List E) : E := eN mkTup as
def eLst (as : List E) : E := eN mkLst as
/-- a new list in the heap -/
def eNewRef (as : List E) : E := eN (fun xs h => .ok (.ref h.length) (h ++ [.lst xs])) as
def tOf (a : E) : T := fun σ => a σ >>= pTruth
def tAnd (a b : T) : T := fun σ => a σ >>= fun c => if c = true then b σ else ret false
def tOr (a b : T) : T := fun σ => a σ >>= fun c => if c = true then ret true else b σ
def tNot (a : T) : T := fun σ => a σ >>= fun c => ret (!c)
/-- a test that gives True or False -/
def tBl (a : E) : T := fun σ => a σ >>= fun x => match x with
  | .bl b => ret b
  | _ => no
def eIf (t : T) (a b : E) : E := fun σ => t σ >>= fun c => if c = true then a σ else b σ
def eAnd (a b : E) : E := fun σ => a σ >>= fun x => pTruth x >>= fun c => if c = true then b σ else ret x
def eOr (a b : E) : E := fun σ => a σ >>= fun x => pTruth x >>= fun c => if c = true then ret x else b σ
def eNot (a : E) : E := fun σ => a σ >>= fun x => pTruth x >>= fun c => ret (.bl (!c))
/-- a op b op' c -/
def eChain (f g : D → D → M D) (a b c : E) : E := fun σ => a σ >>= fun x => b σ >>= fun y => f x y >>= fun z => match z with
  | .bl true => c σ >>= fun w => g y w
  | .bl false => ret (.bl false)
  | _ => no
def optInt : Option E → S → M (Option Int)
  | none, _ => ret none
  | some a, σ => a σ >>= fun x => match x with
    | .int i => ret (some i)
    | _ => no
def eSlice (a : E) (lo hi : Option E) : E := fun σ => a σ >>= fun x => optInt lo σ >>= fun l => optInt hi σ >>= fun u => pSlice x l u

/-! ### what is walked -/
def signs (s : List Nat) : List D := s.map fun c => .str [c]
def itemsOf : D → Option (List D)
  | .lst xs => some xs
  | .tup xs => some xs
  | .str s => some (signs s)
  | _ => none
def iOf (a : E) : I := fun σ => a σ >>= fun x => ofOpt (itemsOf x)
def small (i : Int) : Bool := decide (-(2 ^ 62) ≤ i) && decide (i < 2 ^ 62)
def rangeD (lo hi : Int) : List D := (List.range (hi - lo).toNat).map fun (k : Nat) => .int (lo + (k : Int))
def iRange1 (a : E) : I := fun σ => a σ >>= fun x => match x with
  | .int i => if small i = true then ret (rangeD 0 i) else no
  | _ => no
def iRange2 (a b : E) : I := fun σ => a σ >>= fun x => b σ >>= fun y => match x, y with
  | .int i, .int j => if small i = true ∧ small j = true then ret (rangeD i j) else no
  | _, _ => no
def zipD : List D → List D → List D
  | x :: xs, y :: ys => .tup [x, y] :: zipD xs ys
  | _, _ => []
def iZip (a b : E) : I := fun σ => a σ >>= fun x => b σ >>= fun y => match itemsOf x, itemsOf y with
  | some xs, some ys => ret (zipD xs ys)
  | _, _ => no
def enumD (k : Nat) : List D → List D
  | [] => []
  | x :: xs => .tup [.int k, x] :: enumD (k + 1) xs
def iEnum (a : E) : I := fun σ => a σ >>= fun x => match itemsOf x with
  | some xs => ret (enumD 0 xs)
  | _ => no

/-! ### targets -/
abbrev G := D → S → Option S
def gVar (i : Nat) : G := fun d σ => some (σ.set i (.val d))
def gsGo : List G → List D → S → Option S
  | [], [], σ => some σ
  | g :: gs, d :: ds, σ => (g d σ).bind fun σ' => gsGo gs ds σ'
  | _, _, _ => none
def gTup (gs : List G) : G := fun d σ => match d with
  | .tup ds => gsGo gs ds σ
  | _ => none

/-! ### comprehensions, all, any -/
def wipe (σ : S) : List Nat → S
  | [] => σ
  | v :: vs => (wipe σ vs).set v .no
def tYes : T := fun _ => ret true
def compGo (g : G) (t : T) (e : E) (σ : S) : List D → M (List D)
  | [] => ret []
  | d :: ds => match g d σ with
    | none => no
    | some σ1 => t σ1 >>= fun b => if b = true then e σ1 >>= fun y => compGo g t e σ ds >>= fun ys => ret (y :: ys) else compGo g t e σ ds
def comp (it : I) (g : G) (t : T) (e : E) (vs : List Nat) : S → M (List D) := fun σ => it σ >>= fun ds => noer (compGo g t e (wipe σ vs) ds) >>= fun ys => if ys.length ≤ LIM then ret ys else no
def eComp (it : I) (g : G) (t : T) (e : E) (vs : List Nat) : E := fun σ => comp it g t e vs σ >>= fun ys => ret (.lst ys)
def allGo (g : G) (t : T) (σ : S) : List D → M Bool
  | [] => ret true
  | d :: ds => match g d σ with
    | none => no
    | some σ1 => t σ1 >>= fun b => if b = true then allGo g t σ ds else ret false
def anyGo (g : G) (t : T) (σ : S) : List D → M Bool
  | [] => ret false
  | d :: ds => match g d σ with
    | none => no
    | some σ1 => t σ1 >>= fun b => if b = true then ret true else anyGo g t σ ds
def eAll (it : I) (g : G) (t : T) (vs : List Nat) : E := fun σ => it σ >>= fun ds => noer (allGo g t (wipe σ vs) ds) >>= fun b => ret (.bl b)
def eAny (it : I) (g : G) (t : T) (vs : List Nat) : E := fun σ => it σ >>= fun ds => noer (anyGo g t (wipe σ vs) ds) >>= fun b => ret (.bl b)

/-! ### statements -/
inductive RS where
  | nx (σ : S) (h : List O)
  | rt (d : D) (h : List O)
  | bk (σ : S) (h : List O)
  | ct (σ : S) (h : List O)
  | er (c : String) (vs : List D) (h : List O)
  | no
abbrev Ms := S → List O → RS
def R.stmt {α : Type} (r : R α) (f : α → List O → RS) : RS := match r with
  | .ok a h => f a h
  | .er c vs h => .er c vs h
  | .no => .no
def sPass : Ms := fun σ h => .nx σ h
def sSeq (a b : Ms) : Ms := fun σ h => match a σ h with
  | .nx σ' h' => b σ' h'
  | r => r
def sRet (e : E) : Ms := fun σ h => (e σ h).stmt .rt
def sExpr (e : E) : Ms := fun σ h => (e σ h).stmt fun _ h' => .nx σ h'
def sSet (i : Nat) (e : E) : Ms := fun σ h => (e σ h).stmt fun d h' => .nx (σ.set i (.val d)) h'
def sPar (i j : Nat) (a b : E) : Ms := fun σ h => (evs [a, b] σ h).stmt fun ds h' => match ds with
  | [x, y] => .nx ((σ.set i (.val x)).set j (.val y)) h'
  | _ => .no
/-- a target of any kind -/
def sAsg (e : E) (g : G) : Ms := fun σ h => (e σ h).stmt fun d h' => match g d σ with
  | some σ' => .nx σ' h'
  | none => .no
def sIf (t : T) (a b : Ms) : Ms := fun σ h => (t σ h).stmt fun c h' => if c = true then a σ h' else b σ h'
/-- lists that grow: made, one more, some more; from here on it stands for good -/
def ownAt (σ : S) (i : Nat) : Option (List D) := match σ[i]? with
  | some (.own (.lst ds)) => some ds
  | _ => none
def sOwn (i : Nat) (es : List E) : Ms := fun σ h => (evs es σ h).stmt fun ds h' => .nx (σ.set i (.own (.lst ds))) h'
def sApp (i : Nat) (e : E) : Ms := fun σ h => match ownAt σ i with
  | some ds => (e σ h).stmt fun d h' => if ds.length < LIM then .nx (σ.set i (.own (.lst (ds ++ [d])))) h' else .no
  | none => .no
def sExt (i : Nat) (e : E) : Ms := fun σ h => match ownAt σ i with
  | some ds => (e σ h).stmt fun d h' => match d with
    | .lst es => if ds.length + es.length ≤ LIM then .nx (σ.set i (.own (.lst (ds ++ es)))) h' else .no
    | _ => .no
  | none => .no
def sFrz (i : Nat) (m : Ms) : Ms := fun σ h => match ownAt σ i with
  | some ds => m (σ.set i (.val (.lst ds))) h
  | none => .no
def sBreak : Ms := fun σ h => .bk σ h
def sCont : Ms := fun σ h => .ct σ h
def forGo (g : G) (b : Ms) : List D → Ms
  | [], σ, h => .nx σ h
  | d :: ds, σ, h => match g d σ with
    | none => .no
    | some σ1 => match b σ1 h with
      | .nx σ2 h2 => forGo g b ds σ2 h2
      | .ct σ2 h2 => forGo g b ds σ2 h2
      | .bk σ2 h2 => .nx σ2 h2
      | r => r
def sFor (it : I) (g : G) (b : Ms) : Ms := fun σ h => (it σ h).stmt fun ds h' => forGo g b ds σ h'
/-- x[i] = e, x in the heap -/
def setRef (x i v : D) : List O → Option (List O) := fun h => match x, i with
  | .ref n, .int k => match h[n]? with
    | some (.lst xs) => (ixOf xs.length k).map fun j => h.set n (.lst (xs.set j v))
    | _ => none
  | _, _ => none
def sSetItem (x i e : E) : Ms := fun σ h => (e σ h).stmt fun v h1 => (x σ h1).stmt fun o h2 => (i σ h2).stmt fun k h3 => match setRef o k v h3 with
  | some h4 => .nx σ h4
  | none => .no
/-- raise C(e, ..) -/
def exOk1 : D → Bool
  | .str s => decide (s.length ≤ 1000000)
  | _ => false
def exOk (ds : List D) : Bool := !ds.isEmpty && ds.all exOk1
def sRaise (c : String) (es : List E) : Ms := fun σ h => (evs es σ h).stmt fun vs h' => if exOk vs = true then .er c vs h' else .no

/-- a def's body: n slots, k parameters -/
def run (n k : Nat) (b : Ms) (ds : List D) : M D := fun h => if ds.length = k then
  match b (ds.map .val ++ List.replicate (n - k) .no) h with
  | .nx _ h' => .ok .non h'
  | .rt d h' => .ok d h'
  | .er c vs h' => .er c vs h'
  | _ => .no
  else .no

/-! ### sorted; without what is there twice -/
def insS (x : List Nat) : List (List Nat) → List (List Nat)
  | [] => [x]
  | y :: r => if y < x then y :: insS x r else x :: y :: r
def sortL (ys : List (List Nat)) : List (List Nat) := ys.foldr insS []
def insU (x : List Nat) : List (List Nat) → List (List Nat)
  | [] => [x]
  | y :: r => if y < x then y :: insU x r else if x = y then y :: r else x :: y :: r
def sortU (ys : List (List Nat)) : List (List Nat) := ys.foldr insU []
/-- sorted(set(x)), x a list of texts -/
def pSortU : D → M D
  | .lst xs => match strsOf xs with
    | some ys => if ys.length < 64 then ret (.lst ((sortU ys).map .str)) else no
    | none => no
  | _ => no
/-- sorted(x), x a list of texts -/
def pSort : D → M D
  | .lst xs => match strsOf xs with
    | some ys => if ys.length < 64 then ret (.lst ((sortL ys).map .str)) else no
    | none => no
  | _ => no

/-- a text so many times -/
def pRep : D → D → M D
  | .str s, .int n => if s.length ≤ 1000 ∧ -1000000 ≤ n ∧ n ≤ 1000 then ret (.str (List.replicate n.toNat s).flatten) else no
  | _, _ => no
/-- list(range(n)) -/
def pRange : D → M D
  | .int n => if 0 ≤ n ∧ n ≤ 1000000 then ret (.lst (rangeD 0 n)) else no
  | _ => no
/-- isinstance(x, c), c a class of the program -/
def pIsiO (cs : List String) (c : String) : D → M D
  | .obj k _ _ => if k ∈ cs then ret (.bl (k == c)) else no
  | .dct _ _ _ => no
  | .ref _ => no
  | _ => ret (.bl false)
def whGo (t : T) (b : Ms) : Nat → Ms
  | 0, _, _ => .no
  | n + 1, σ, h => (t σ h).stmt fun c h1 => if c = true then match b σ h1 with
    | .nx σ2 h2 => whGo t b n σ2 h2
    | .ct σ2 h2 => whGo t b n σ2 h2
    | .bk σ2 h2 => .nx σ2 h2
    | r => r
    else .nx σ h1
/-- while: at most so many turns -/
def sWhile (n : Nat) (t : T) (b : Ms) : Ms := whGo t b n

/-! ### objects, dicts -/
def fldOf (f : String) : List String → List D → Option D
  | n :: ns, v :: vs => if n = f then some v else fldOf f ns vs
  | _, _ => none
def putNs (f : String) (ns : List String) : List String := if f ∈ ns then ns else ns ++ [f]
def putVs (f : String) (v : D) : List String → List D → List D
  | n :: ns, x :: vs => if n = f then v :: vs else x :: putVs f v ns vs
  | _, _ => [v]
/-- the fields of an instance of a class -/
def insOf (c : String) (x : D) (h : List O) : Option (List String × List D) := match x with
  | .obj k ns vs => if k = c then some (ns, vs) else none
  | .ref n => match h[n]? with
    | some (.ins k ns vs) => if k = c then some (ns, vs) else none
    | _ => none
  | _ => none
def pFld (c f : String) (x : D) : M D := fun h => match insOf c x h with
  | some (ns, vs) => ofOpt (fldOf f ns vs) h
  | none => .no
def setFld (c f : String) (x v : D) : List O → Option (List O) := fun h => match x with
  | .ref n => match h[n]? with
    | some (.ins k ns vs) => if k = c ∧ vs.length = ns.length ∧ ns.length < 100 then some (h.set n (.ins c (putNs f ns) (putVs f v ns vs))) else none
    | _ => none
  | _ => none
def sSetFld (c f : String) (x e : E) : Ms := fun σ h => (e σ h).stmt fun v h1 => (x σ h1).stmt fun o h2 => match setFld c f o v h2 with
  | some h3 => .nx σ h3
  | none => .no
def eNewDct (t : Bool) : E := fun _ h => .ok (.ref h.length) (h ++ [.dct t [] []])
def dctOf (d : D) (h : List O) : Option (Bool × List D × List D) := match d with
  | .dct t ks vs => some (t, ks, vs)
  | .ref n => match h[n]? with
    | some (.dct t ks vs) => some (t, ks, vs)
    | _ => none
  | _ => none
/-- what stands at a key: none where it can't be asked -/
def lookD (d k : D) (h : List O) : Option (Option D) := match dctOf d h with
  | some (t, ks, vs) => if keyOk t k = true ∧ ks.length = vs.length then some (look k ks vs) else none
  | none => none
def pInDct (k d : D) : M D := fun h => match lookD d k h with
  | some o => .ok (.bl o.isSome) h
  | none => .no
def pNotInDct (k d : D) : M D := fun h => match lookD d k h with
  | some o => .ok (.bl (!o.isSome)) h
  | none => .no
def pIdxDct (d k : D) : M D := fun h => match lookD d k h with
  | some (some v) => .ok v h
  | _ => .no
/-- d.get(k, z) -/
def eGetD (d k z : E) : E := fun σ => d σ >>= fun x => fun h => match dctOf x h with
  | some _ => (k σ >>= fun y => z σ >>= fun u => fun h3 => match lookD x y h3 with
    | some o => .ok (o.getD u) h3
    | none => .no) h
  | none => .no
def updV (k v : D) : List D → List D → List D
  | x :: ks, y :: vs => (if deq x k = true then v else y) :: updV k v ks vs
  | _, _ => []
def putD (k v : D) (ks vs : List D) : List D × List D := if (look k ks vs).isSome = true then (ks, updV k v ks vs) else (ks ++ [k], vs ++ [v])
def setDct (d k v : D) : List O → Option (List O) := fun h => match d with
  | .ref n => match h[n]? with
    | some (.dct t ks vs) => if keyOk t k = true ∧ ks.length = vs.length ∧ ks.length < LIM then some (h.set n (.dct t (putD k v ks vs).1 (putD k v ks vs).2)) else none
    | _ => none
  | _ => none
def sSetDct (d k e : E) : Ms := fun σ h => (e σ h).stmt fun v h1 => (d σ h1).stmt fun o h2 => (k σ h2).stmt fun y h3 => match setDct o y v h3 with
  | some h4 => .nx σ h4
  | none => .no
/-- d.setdefault(k, o), o a new empty list, a new empty dict -/
def setdef (ob : O) (d k : D) : M D := fun h => match lookD d k h with
  | some (some v) => match setDct d k .non h with
    | some _ => .ok v h
    | none => .no
  | some none => match setDct d k (.ref h.length) (h ++ [ob]) with
    | some h2 => .ok (.ref h.length) h2
    | none => .no
  | none => .no
def eSetdef (ob : O) (d k : E) : E := fun σ => d σ >>= fun x => fun h => match dctOf x h with
  | some _ => (k σ >>= fun y => setdef ob x y) h
  | none => .no
/-- sorted(d), d a dict whose keys are texts -/
def pSortD (d : D) : M D := fun h => match dctOf d h with
  | some (t, ks, vs) => match strsOf ks with
    | some ys => if t = false ∧ ys.length < 64 ∧ ys.all okL = true then .ok (.lst ((sortL ys).map .str)) h else .no
    | none => .no
  | none => .no
/-- x.append(e), x in the heap -/
def sAppR (x e : E) : Ms := fun σ h => (x σ h).stmt fun o h1 => match o with
  | .ref n => match h1[n]? with
    | some (.lst _) => (e σ h1).stmt fun v h2 => match h2[n]? with
      | some (.lst xs) => if xs.length < LIM then .nx σ (h2.set n (.lst (xs ++ [v]))) else .no
      | _ => .no
    | _ => .no
  | _ => .no

/-! ### an instance made; from then on it never changes -/
mutual
def lowD (n : Nat) : D → Bool
  | .ref m => decide (m < n)
  | .tup xs => lowDs n xs
  | .lst xs => lowDs n xs
  | .dct _ _ vs => lowDs n vs
  | .obj _ _ vs => lowDs n vs
  | .non | .bl _ | .int _ | .str _ => true
def lowDs (n : Nat) : List D → Bool
  | [] => true
  | x :: xs => lowD n x && lowDs n xs
end
def lowO (n : Nat) : O → Bool
  | .lst xs => lowDs n xs
  | .ins _ _ vs => lowDs n vs
  | .dct _ _ vs => lowDs n vs
/-- the value of what stands from n on in the small heap -/
def fz : Nat → List O → Nat → D → Option D
  | 0, _, _, _ => none
  | k + 1, h, n, .ref m => if n ≤ m then match h[m]? with
    | some (.lst xs) => (xs.mapM (fz k h n)).map .lst
    | some (.ins c ns vs) => (vs.mapM (fz k h n)).map (.obj c ns)
    | some (.dct t ks vs) => (vs.mapM (fz k h n)).map (.dct t ks)
    | none => none
    else none
  | k + 1, h, n, .lst xs => if lowDs n xs = true then some (.lst xs) else (xs.mapM (fz k h n)).map .lst
  | _ + 1, _, n, d => if lowD n d = true then some d else none
def eMake (c : String) (m : List D → M D) (as : List E) : E := fun σ => evs as σ >>= fun ds => fun h => match m (.ref h.length :: ds) (h ++ [.ins c [] []]) with
  | .ok d h2 => if isNon d = true ∧ (h2.take h.length).all (lowO h.length) = true then match fz 6 h2 h.length (.ref h.length) with
    | some v => .ok v (h2.take h.length)
    | none => .no
    else .no
  | .er k vs h2 => .er k vs h2
  | .no => .no
/-- an instance made that changes -/
def eMakeR (c : String) (m : List D → M D) (as : List E) : E := fun σ => evs as σ >>= fun ds => fun h => match m (.ref h.length :: ds) (h ++ [.ins c [] []]) with
  | .ok d h2 => if isNon d = true then .ok (.ref h.length) h2 else .no
  | .er k vs h2 => .er k vs h2
  | .no => .no
/-- a method; a property -/
def eMeth (c f : String) (m : List D → M D) (o : E) (as : List E) : E := fun σ => o σ >>= fun x => fun h => match insOf c x h with
  | some (ns, _) => if f ∈ ns then .no else (evs as σ >>= fun ds => m (x :: ds)) h
  | none => .no
def pProp (c : String) (m : List D → M D) (x : D) : M D := fun h => match insOf c x h with
  | some _ => noer (m [x]) h
  | none => .no

/-! ### what a call raised -/
def heardAs : String → List D → Option D
  | "BadArgument", [v] => some (.tup [.str (cps "bad"), v, .bl true])
  | _, _ => none
def eHeard (e : E) : E := fun σ h => match e σ h with
  | .ok _ h' => .ok (.tup []) h'
  | .er c vs h' => match heardAs c vs with
    | some d => .ok d h'
    | none => .no
  | .no => .no
end Cf
set_option Elab.async false
set_option linter.all false
set_option maxRecDepth 100000
set_option maxHeartbeats 2000000
/-! CfB: how data lies in the abstract heap; readings by mirrors. -/
namespace Cf
open PySem L2

structure Gd where
  cl : String → Option Addr
  T : List (Addr × Str)

structure Wd where
  K : PySem.W.Frag
  gd : Gd
  ρ : List Addr
  H : Hp
  N : Addr → Prop

def NoTbl (o : HO) : Prop := ∀ ps, o ≠ .tbl ps
def Frz (w : Wd) (a : Addr) : Prop := ¬ w.N a ∧ a ∉ w.ρ
def sv (s : List Nat) : V := .str ⟨s.toArray⟩
/-- a tuple, a list that stands for good: tracked and not to be written, or of the written part -/
def TupAt (w : Wd) (a : Addr) (xs : List V) : Prop := w.H a = some (.tup xs) ∧ Frz w a
def LstAt (w : Wd) (a : Addr) (xs : List V) : Prop := (Rd w.H a (.lst xs) ∧ Frz w a) ∨ SqL w.K (fun _ => none) a xs
theorem TupAt.sq {w : Wd} {a : Addr} {xs : List V} (h : TupAt w a xs) : SqT w.K w.H a xs := .inl (.inl h.1)
theorem LstAt.sq {w : Wd} {a : Addr} {xs : List V} (h : LstAt w a xs) : SqL w.K w.H a xs := by
  rcases h with h | (h | h) | h
  · exact .inl h.1
  · cases h
  · obtain ⟨_, h⟩ := h; cases h
  · exact .inr h

def dKey : D → Option Key
  | .int i => some (.inl i)
  | .str s => some (.inr ⟨s.toArray⟩)
  | _ => none
def dKeys : List D → Option (List Key)
  | [] => some []
  | d :: ds => (dKey d).bind fun k => (dKeys ds).map (k :: ·)
def dKeyT : D → Option (List Key)
  | .tup ds => dKeys ds
  | _ => none
/-- a dict at a: its keys, its values -/
def DctAt (H : Hp) (a : Addr) (t : Bool) (ks : List D) (xs : List V) : Prop :=
  match t with
  | true => ∃ kk : List (List Key), ks.map dKeyT = kk.map some ∧ kk.length = xs.length ∧ H a = some (.dT (kk.zip xs))
  | false => ∃ kk : List Key, ks.map dKey = kk.map some ∧ kk.length = xs.length ∧ H a = some (.dK (kk.zip xs))
structure SOk (s : List Nat) : Prop where
  len : s.length ≤ sizeLine
  ok : ∀ c ∈ s, c < 1114112
mutual
def Rep (w : Wd) : D → V → Prop
  | .non, v => v = .non
  | .bl b, v => v = .bl b
  | .int i, v => v = .int i
  | .str s, v => v = sv s ∧ SOk s
  | .tup ds, v => ∃ a xs, v = .ref a ∧ TupAt w a xs ∧ Reps w ds xs
  | .lst ds, v => ∃ a xs, v = .ref a ∧ LstAt w a xs ∧ Reps w ds xs
  | .dct t ks vs, v => ∃ a xs, v = .ref a ∧ DctAt w.H a t ks xs ∧ Frz w a ∧ Reps w vs xs
  | .obj c ns vs, v => ∃ a C dx fs, v = .ref a ∧ w.gd.cl c = some C ∧ w.H a = some (.ins C dx fs) ∧ Frz w a ∧ fs.map (·.1) = ns.map Str.ofString ∧ Reps w vs (fs.map (·.2))
  | .ref n, v => ∃ a, w.ρ[n]? = some a ∧ v = .ref a
def Reps (w : Wd) : List D → List V → Prop
  | [], xs => xs = []
  | d :: ds, xs => ∃ x r, xs = x :: r ∧ Rep w d x ∧ Reps w ds r
end

theorem Reps.length {w : Wd} : ∀ {ds : List D} {xs : List V}, Reps w ds xs → xs.length = ds.length
  | [], _, h => by rw [Reps] at h; rw [h]; rfl
  | d :: ds, _, h => by
    rw [Reps] at h
    obtain ⟨x, r, rfl, _, h2⟩ := h
    rw [List.length_cons, List.length_cons, Reps.length h2]
theorem Reps.nil {w : Wd} : Reps w [] [] := by rw [Reps]
theorem Reps.cons {w : Wd} {d : D} {ds : List D} {x : V} {xs : List V} (h : Rep w d x) (t : Reps w ds xs) : Reps w (d :: ds) (x :: xs) := by
  rw [Reps]; exact ⟨x, xs, rfl, h, t⟩
theorem Reps.get {w : Wd} : ∀ {ds : List D} {xs : List V} {i : Nat} {d : D}, Reps w ds xs → ds[i]? = some d → ∃ x, xs[i]? = some x ∧ Rep w d x
  | [], _, _, _, _, e => by simp at e
  | d :: ds, _, 0, _, h, e => by
    rw [Reps] at h
    obtain ⟨x, r, rfl, h1, _⟩ := h
    cases e
    exact ⟨x, rfl, h1⟩
  | d :: ds, _, i + 1, _, h, e => by
    rw [Reps] at h
    obtain ⟨x, r, rfl, _, h2⟩ := h
    obtain ⟨y, e1, e2⟩ := Reps.get (i := i) h2 (by simpa using e)
    exact ⟨y, by simpa using e1, e2⟩
theorem Reps.append {w : Wd} : ∀ {ds es : List D} {xs ys : List V}, Reps w ds xs → Reps w es ys → Reps w (ds ++ es) (xs ++ ys)
  | [], _, _, _, h, t => by rw [Reps] at h; subst h; exact t
  | d :: ds, _, _, _, h, t => by
    rw [Reps] at h
    obtain ⟨x, r, rfl, h1, h2⟩ := h
    exact .cons h1 (Reps.append h2 t)
theorem Reps.drop {w : Wd} : ∀ {ds : List D} {xs : List V} (n : Nat), Reps w ds xs → Reps w (ds.drop n) (xs.drop n)
  | _, _, 0, h => h
  | [], _, n + 1, h => by rw [Reps] at h; subst h; exact .nil
  | d :: ds, _, n + 1, h => by
    rw [Reps] at h
    obtain ⟨x, r, rfl, _, h2⟩ := h
    exact Reps.drop n h2
theorem Reps.take {w : Wd} : ∀ {ds : List D} {xs : List V} (n : Nat), Reps w ds xs → Reps w (ds.take n) (xs.take n)
  | _, _, 0, _ => .nil
  | [], _, n + 1, h => by rw [Reps] at h; subst h; exact .nil
  | d :: ds, _, n + 1, h => by
    rw [Reps] at h
    obtain ⟨x, r, rfl, h1, h2⟩ := h
    exact .cons h1 (Reps.take n h2)
theorem Reps.set {w : Wd} {d : D} {x : V} (hd : Rep w d x) : ∀ {ds : List D} {xs : List V} (i : Nat), Reps w ds xs → Reps w (ds.set i d) (xs.set i x)
  | [], _, i, h => by rw [Reps] at h; subst h; exact .nil
  | e :: ds, _, 0, h => by
    rw [Reps] at h
    obtain ⟨y, r, rfl, _, h2⟩ := h
    exact .cons hd h2
  | e :: ds, _, i + 1, h => by
    rw [Reps] at h
    obtain ⟨y, r, rfl, h1, h2⟩ := h
    exact .cons h1 (Reps.set hd i h2)
theorem Reps.isEmpty {w : Wd} {ds : List D} {xs : List V} (h : Reps w ds xs) : xs.isEmpty = ds.isEmpty := by
  have e := h.length
  cases ds <;> cases xs <;> simp at e ⊢

/-! ### steps of the heap -/
/-- what is not written stays -/
structure Step (w w' : Wd) : Prop where
  k : w'.K = w.K
  g : w'.gd = w.gd
  pre : w.ρ <+: w'.ρ
  keep : ∀ b o, w.H b = some o → b ∉ w.ρ → ¬ w.N b → NoTbl o → w'.H b = some o ∧ b ∉ w'.ρ ∧ ¬ w'.N b
/-- .. and what is owned neither -/
structure XS (w w' : Wd) : Prop where
  k : w'.K = w.K
  g : w'.gd = w.gd
  n : w'.N = w.N
  pre : w.ρ <+: w'.ρ
  keep : ∀ b o, w.H b = some o → b ∉ w.ρ → NoTbl o → w'.H b = some o ∧ b ∉ w'.ρ
theorem XS.refl (w : Wd) : XS w w := ⟨rfl, rfl, rfl, List.prefix_refl _, fun _ _ e n _ => ⟨e, n⟩⟩
theorem XS.trans {w w1 w2 : Wd} (a : XS w w1) (b : XS w1 w2) : XS w w2 :=
  ⟨b.k.trans a.k, b.g.trans a.g, b.n.trans a.n, a.pre.trans b.pre, fun c o e n t => let ⟨e1, n1⟩ := a.keep c o e n t; b.keep c o e1 n1 t⟩
theorem XS.step {w w' : Wd} (a : XS w w') : Step w w' :=
  ⟨a.k, a.g, a.pre, fun b o e n m t => let ⟨e1, n1⟩ := a.keep b o e n t; ⟨e1, n1, by rw [a.n]; exact m⟩⟩
theorem Step.refl (w : Wd) : Step w w := (XS.refl w).step
theorem Step.trans {w w1 w2 : Wd} (a : Step w w1) (b : Step w1 w2) : Step w w2 :=
  ⟨b.k.trans a.k, b.g.trans a.g, a.pre.trans b.pre, fun c o e n m t => let ⟨e1, n1, m1⟩ := a.keep c o e n m t; b.keep c o e1 n1 m1 t⟩

theorem tup_notbl {xs : List V} : NoTbl (.tup xs) := fun _ z => by cases z
theorem lst_notbl {xs : List V} : NoTbl (.lst xs) := fun _ z => by cases z
theorem frz_notbl {o : Obj} {u : HO} : NoTbl (.frz o u) := fun _ z => by cases z
theorem ins_notbl {C dx : Addr} {fs : List (Str × V)} : NoTbl (.ins C dx fs) := fun _ z => by cases z
theorem dT_notbl {kvs : List (List Key × V)} : NoTbl (.dT kvs) := fun _ z => by cases z
theorem dK_notbl {kvs : List (Key × V)} : NoTbl (.dK kvs) := fun _ z => by cases z
theorem rd_step {w w' : Wd} (a : Step w w') {p : Addr} {u : HO} (h : Rd w.H p u) (nu : NoTbl u) (f : Frz w p) : Rd w'.H p u ∧ Frz w' p := by
  rcases h with h | ⟨o, h⟩
  · obtain ⟨e, n, m⟩ := a.keep p u h f.2 f.1 nu
    exact ⟨.inl e, m, n⟩
  · obtain ⟨e, n, m⟩ := a.keep p _ h f.2 f.1 frz_notbl
    exact ⟨.inr ⟨o, e⟩, m, n⟩
theorem TupAt.step {w w' : Wd} (a : Step w w') {p : Addr} {xs : List V} (h : TupAt w p xs) : TupAt w' p xs := by
  obtain ⟨e, n, m⟩ := a.keep p _ h.1 h.2.2 h.2.1 tup_notbl
  exact ⟨e, m, n⟩
theorem LstAt.step {w w' : Wd} (a : Step w w') {p : Addr} {xs : List V} (h : LstAt w p xs) : LstAt w' p xs := by
  rcases h with h | h
  · exact .inl (rd_step a h.1 lst_notbl h.2)
  · exact .inr (by rw [a.k]; exact h)
theorem DctAt.ho {H : Hp} {a : Addr} {t : Bool} {ks : List D} {xs : List V} (d : DctAt H a t ks xs) : ∃ u, H a = some u ∧ NoTbl u := by
  cases t with
  | true => obtain ⟨_, _, _, e⟩ := d; exact ⟨_, e, dT_notbl⟩
  | false => obtain ⟨_, _, _, e⟩ := d; exact ⟨_, e, dK_notbl⟩
theorem DctAt.mv {H H' : Hp} {a : Addr} {t : Bool} {ks : List D} {xs : List V} (d : DctAt H a t ks xs) (e : ∀ u, H a = some u → NoTbl u → H' a = some u) : DctAt H' a t ks xs := by
  cases t with
  | true => obtain ⟨k, p, l, q⟩ := d; exact ⟨k, p, l, e _ q dT_notbl⟩
  | false => obtain ⟨k, p, l, q⟩ := d; exact ⟨k, p, l, e _ q dK_notbl⟩
theorem prefix_get {α : Type} {l l' : List α} (h : l <+: l') {i : Nat} {a : α} (e : l[i]? = some a) : l'[i]? = some a := by
  obtain ⟨t, rfl⟩ := h
  have hi : i < l.length := (List.getElem?_eq_some_iff.mp e).1
  rw [List.getElem?_append_left hi]; exact e
mutual
theorem Rep.step {w w' : Wd} (a : Step w w') : ∀ (d : D) (v : V), Rep w d v → Rep w' d v
  | .non, v, h => by rw [Rep] at h ⊢; exact h
  | .bl b, v, h => by rw [Rep] at h ⊢; exact h
  | .int i, v, h => by rw [Rep] at h ⊢; exact h
  | .str s, v, h => by rw [Rep] at h ⊢; exact h
  | .tup ds, v, h => by
    rw [Rep] at h ⊢
    obtain ⟨p, xs, e, t, r⟩ := h
    exact ⟨p, xs, e, t.step a, Reps.step a ds xs r⟩
  | .lst ds, v, h => by
    rw [Rep] at h ⊢
    obtain ⟨p, xs, e, t, r⟩ := h
    exact ⟨p, xs, e, t.step a, Reps.step a ds xs r⟩
  | .dct t ks vs, v, h => by
    rw [Rep] at h ⊢
    obtain ⟨p, xs, e, d, f, r⟩ := h
    obtain ⟨u, hu, nu⟩ := d.ho
    obtain ⟨_, n2, m2⟩ := a.keep p u hu f.2 f.1 nu
    exact ⟨p, xs, e, d.mv fun u hu nu => (a.keep p u hu f.2 f.1 nu).1, ⟨m2, n2⟩, Reps.step a vs xs r⟩
  | .obj c ns vs, v, h => by
    rw [Rep] at h ⊢
    obtain ⟨p, C, dx, fs, e, g, t, f, en, r⟩ := h
    obtain ⟨e2, n2, m2⟩ := a.keep p _ t f.2 f.1 ins_notbl
    exact ⟨p, C, dx, fs, e, by rw [a.g]; exact g, e2, ⟨m2, n2⟩, en, Reps.step a vs _ r⟩
  | .ref n, v, h => by
    rw [Rep] at h ⊢
    obtain ⟨p, e, r⟩ := h
    exact ⟨p, prefix_get a.pre e, r⟩
theorem Reps.step {w w' : Wd} (a : Step w w') : ∀ (ds : List D) (xs : List V), Reps w ds xs → Reps w' ds xs
  | [], xs, h => by rw [Reps] at h ⊢; exact h
  | d :: ds, xs, h => by
    rw [Reps] at h ⊢
    obtain ⟨x, r, e, h1, h2⟩ := h
    exact ⟨x, r, e, Rep.step a d x h1, Reps.step a ds r h2⟩
end

/-! ### the small heap, the slots -/
def ORep (w : Wd) (a : Addr) : O → Prop
  | .lst ds => ∃ xs, w.H a = some (.lst xs) ∧ Reps w ds xs
  | .ins c ns vs => ∃ C dx fs, w.gd.cl c = some C ∧ w.H a = some (.ins C dx fs) ∧ fs.map (·.1) = ns.map Str.ofString ∧ Reps w vs (fs.map (·.2))
  | .dct t ks vs => ∃ xs, DctAt w.H a t ks xs ∧ Reps w vs xs
theorem ORep.ho {w : Wd} {a : Addr} {o : O} (h : ORep w a o) : ∃ u, w.H a = some u ∧ NoTbl u := by
  cases o with
  | lst ds => obtain ⟨xs, e, _⟩ := h; exact ⟨_, e, lst_notbl⟩
  | ins c ns vs => obtain ⟨C, dx, fs, _, e, _⟩ := h; exact ⟨_, e, ins_notbl⟩
  | dct t ks vs => obtain ⟨xs, d, _⟩ := h; exact d.ho
theorem ORep.mv {w w' : Wd} (st : Step w w') {a : Addr} {o : O} (h : ORep w a o) (e : ∀ u, w.H a = some u → NoTbl u → w'.H a = some u) : ORep w' a o := by
  cases o with
  | lst ds => obtain ⟨xs, q, r⟩ := h; exact ⟨xs, e _ q lst_notbl, Reps.step st _ _ r⟩
  | ins c ns vs => obtain ⟨C, dx, fs, g, q, en, r⟩ := h; exact ⟨C, dx, fs, by rw [st.g]; exact g, e _ q ins_notbl, en, Reps.step st _ _ r⟩
  | dct t ks vs => obtain ⟨xs, d, r⟩ := h; exact ⟨xs, d.mv e, Reps.step st _ _ r⟩
structure RelH (w : Wd) (h : List O) : Prop where
  len : w.ρ.length = h.length
  nd : w.ρ.Nodup
  obj : ∀ (i : Nat) (o : O) (a : Addr), h[i]? = some o → w.ρ[i]? = some a → ORep w a o
  own : ∀ b, w.N b → (∃ o, w.H b = some o ∧ NoTbl o) ∧ b ∉ w.ρ
  tT : LamX.Tabs w.gd.T w.H
/-- owned: a list whose items stand for good; its address is told -/
inductive Own (w : Wd) : D → V → List Addr → Prop where
  | lst {ds : List D} {a : Addr} {xs : List V} (h : w.H a = some (.lst xs)) (n : w.N a) (r : Reps w ds xs) : Own w (.lst ds) (.ref a) [a]
/-- the slots, for an expression -/
structure SlE (w : Wd) (σ : L2.St) (aσ : S) : Prop where
  len : σ.length = aσ.length
  val : ∀ (i : Nat) (d : D), aσ[i]? = some (.val d) → ∃ v, σ[i]? = some (some v) ∧ Rep w d v
  own : ∀ (i : Nat) (d : D), aσ[i]? = some (.own d) → ∃ v t, σ[i]? = some (some v) ∧ Own w d v t
theorem Own.xs {w w' : Wd} (a : XS w w') (ow : ∀ b, w.N b → (∃ o, w.H b = some o ∧ NoTbl o) ∧ b ∉ w.ρ) {d : D} {v : V} {t : List Addr} (h : Own w d v t) : Own w' d v t := by
  cases h with
  | lst h n r => exact .lst (a.keep _ _ h (ow _ n).2 lst_notbl).1 (by rw [a.n]; exact n) (Reps.step a.step _ _ r)
theorem SlE.xs {w w' : Wd} {h : List O} {σ : L2.St} {aσ : S} (s : SlE w σ aσ) (a : XS w w') (r : RelH w h) : SlE w' σ aσ :=
  ⟨s.len, fun i d e => let ⟨v, e1, e2⟩ := s.val i d e; ⟨v, e1, Rep.step a.step _ _ e2⟩, fun i d e => let ⟨v, t, e1, e2⟩ := s.own i d e; ⟨v, t, e1, e2.xs a r.own⟩⟩

/-! ### what a result asks -/
/-- the own dict of an exception of the class c -/
def XdRep (w : Wd) (dx : Addr) (ns : List Str) (vs : List D) : Prop := ∃ fs : List (Str × V), w.H dx = some (.xd fs) ∧ fs.map (·.1) = ns ∧ Reps w vs (fs.map (·.2))
def exFields (c : String) : List Str :=
  if c = "BadArgument" then ["name"] else if c = "Unfilled" then ["part"] else if c = "Refused" then ["why"] else if c = "Unread" then ["why", "line"] else if c = "NoLine" then ["why"] else []
def Out {α : Type} (w : Wd) (X : XK) (r : R α) (P : α → List O → Wd → Prop) : Prop := match r with
  | .ok a h => ∀ w', XS w w' → RelH w' h → P a h w'
  | .er c vs h => ∀ w' C dx, XS w w' → RelH w' h → w.gd.cl c = some C → XdRep w' dx (exFields c) vs → X (.ref C) (some dx) w'.H
  | .no => False
theorem Out.bind {α β : Type} {w : Wd} {X : XK} {r : R α} {k : α → M β} {P : β → List O → Wd → Prop} (h : Out w X (r.next k) P) : Out w X r (fun a h1 w1 => Out w1 X (k a h1) P) := by
  cases r with
  | no => exact h
  | er c vs hh => exact h
  | ok a h1 =>
    intro w1 s1 r1
    have h' : Out w X (k a h1) P := h
    cases e : k a h1 with
    | no => rw [e] at h'; exact h'
    | er c vs h2 =>
      rw [e] at h'
      exact fun w2 C dx s2 r2 e2 e3 => h' w2 C dx (s1.trans s2) r2 (by rw [← s1.g]; exact e2) e3
    | ok b h2 =>
      rw [e] at h'
      exact fun w2 s2 r2 => h' w2 (s1.trans s2) r2
theorem Out.mono {α : Type} {w : Wd} {X : XK} {r : R α} {P P' : α → List O → Wd → Prop} (h : Out w X r P) (hp : ∀ a h w', P a h w' → P' a h w') : Out w X r P' := by
  cases r with
  | no => exact h
  | er c vs hh => exact h
  | ok a h1 => exact fun w' s r => hp _ _ _ (h w' s r)

/-! ### readings by mirrors -/
structure Wok (X : Cx) (gd : Gd) (w : Wd) : Prop where
  k : w.K = X.K
  g : w.gd = gd
def tE (K : PySem.W.Frag) (gd : Gd) (Ex : XK) (m : E) : TE := fun σ H Q => ∃ w h aσ, w.K = K ∧ w.gd = gd ∧ w.H = H ∧ RelH w h ∧ SlE w σ aσ ∧ Out w Ex (m aσ h) (fun d _ w' => ∀ v, Rep w' d v → Q v w'.H)
def tT (K : PySem.W.Frag) (gd : Gd) (Ex : XK) (m : T) : TT := fun σ H Q => ∃ w h aσ, w.K = K ∧ w.gd = gd ∧ w.H = H ∧ RelH w h ∧ SlE w σ aσ ∧ Out w Ex (m aσ h) (fun b _ w' => Q b w'.H)
def tA (K : PySem.W.Frag) (gd : Gd) (Ex : XK) (ms : List E) : TA := fun σ H Q => ∃ w h aσ, w.K = K ∧ w.gd = gd ∧ w.H = H ∧ RelH w h ∧ SlE w σ aσ ∧ Out w Ex (evs ms aσ h) (fun ds _ w' => ∀ vs, Reps w' ds vs → Q vs w'.H)
/-- an operation on two values -/
def r2 (K : PySem.W.Frag) (gd : Gd) (Ex : XK) (f : D → D → M D) : R2 := fun x y H Q => ∃ w h dx dy, w.K = K ∧ w.gd = gd ∧ w.H = H ∧ RelH w h ∧ Rep w dx x ∧ Rep w dy y ∧ Out w Ex (f dx dy h) (fun d _ w' => ∀ v, Rep w' d v → Q v w'.H)
def r1 (K : PySem.W.Frag) (gd : Gd) (Ex : XK) (f : D → M D) : V → Hp → VK → Prop := fun x H Q => ∃ w h dx, w.K = K ∧ w.gd = gd ∧ w.H = H ∧ RelH w h ∧ Rep w dx x ∧ Out w Ex (f dx h) (fun d _ w' => ∀ v, Rep w' d v → Q v w'.H)
def rN (K : PySem.W.Frag) (gd : Gd) (Ex : XK) (f : List D → M D) : List V → Hp → VK → Prop := fun xs H Q => ∃ w h ds, w.K = K ∧ w.gd = gd ∧ w.H = H ∧ RelH w h ∧ Reps w ds xs ∧ Out w Ex (f ds h) (fun d _ w' => ∀ v, Rep w' d v → Q v w'.H)
theorem PE.imp {X : Cx} {e : Expr} {t t' : TE} (h : PE X e t) (i : ∀ σ H Q, t' σ H Q → t σ H Q) : PE X e t' := ⟨fun pins s σ H Q I q => h.run pins s σ H Q I (i σ H Q q)⟩
theorem PT.imp {X : Cx} {e : Expr} {t t' : TT} (h : PT X e t) (i : ∀ σ H Q, t' σ H Q → t σ H Q) : PT X e t' := ⟨fun pins s σ H Q I q => h.run pins s σ H Q I (i σ H Q q)⟩
theorem PA.imp {X : Cx} {e : List Expr} {t t' : TA} (h : PA X e t) (i : ∀ σ H Q, t' σ H Q → t σ H Q) : PA X e t' := ⟨fun p pins s σ H Q I q => h.run p pins s σ H Q I (i σ H Q q)⟩
/-- the core of all: a mirror, then what comes -/
theorem tE_bind {K : PySem.W.Frag} {gd : Gd} {Ex : XK} {m : E} {w : Wd} {h : List O} {σ : L2.St} {aσ : S} {β : Type} {k : D → M β} {P : β → List O → Wd → Prop} {Q : V → Hp → Prop}
    (wk : w.K = K) (wg : w.gd = gd) (r : RelH w h) (s : SlE w σ aσ) (o : Out w Ex ((m aσ >>= k) h) P)
    (hq : ∀ (d : D) (h1 : List O) (w1 : Wd) (v : V), XS w w1 → w1.K = K → w1.gd = gd → RelH w1 h1 → SlE w1 σ aσ → Rep w1 d v → Out w1 Ex (k d h1) P → Q v w1.H) : tE K gd Ex m σ w.H Q := by
  refine ⟨w, h, aσ, wk, wg, rfl, r, s, ?_⟩
  have o' : Out w Ex (m aσ h) (fun a h1 w1 => Out w1 Ex (k a h1) P) := Out.bind o
  cases e : m aσ h with
  | no => rw [e] at o'; exact o'
  | er c vs h1 => rw [e] at o'; exact o'
  | ok d h1 =>
    rw [e] at o'
    exact fun w1 s1 r1 v rv => hq d h1 w1 v s1 (s1.k.trans wk) (s1.g.trans wg) r1 (s.xs s1 r) rv (o' w1 s1 r1)
theorem tT_bind {K : PySem.W.Frag} {gd : Gd} {Ex : XK} {m : T} {w : Wd} {h : List O} {σ : L2.St} {aσ : S} {β : Type} {k : Bool → M β} {P : β → List O → Wd → Prop} {Q : Bool → Hp → Prop}
    (wk : w.K = K) (wg : w.gd = gd) (r : RelH w h) (s : SlE w σ aσ) (o : Out w Ex ((m aσ >>= k) h) P)
    (hq : ∀ (d : Bool) (h1 : List O) (w1 : Wd), XS w w1 → w1.K = K → w1.gd = gd → RelH w1 h1 → SlE w1 σ aσ → Out w1 Ex (k d h1) P → Q d w1.H) : tT K gd Ex m σ w.H Q := by
  refine ⟨w, h, aσ, wk, wg, rfl, r, s, ?_⟩
  have o' : Out w Ex (m aσ h) (fun a h1 w1 => Out w1 Ex (k a h1) P) := Out.bind o
  cases e : m aσ h with
  | no => rw [e] at o'; exact o'
  | er c vs h1 => rw [e] at o'; exact o'
  | ok d h1 =>
    rw [e] at o'
    exact fun w1 s1 r1 => hq d h1 w1 s1 (s1.k.trans wk) (s1.g.trans wg) r1 (s.xs s1 r) (o' w1 s1 r1)
theorem tA_bind {K : PySem.W.Frag} {gd : Gd} {Ex : XK} {ms : List E} {w : Wd} {h : List O} {σ : L2.St} {aσ : S} {β : Type} {k : List D → M β} {P : β → List O → Wd → Prop} {Q : List V → Hp → Prop}
    (wk : w.K = K) (wg : w.gd = gd) (r : RelH w h) (s : SlE w σ aσ) (o : Out w Ex ((evs ms aσ >>= k) h) P)
    (hq : ∀ (d : List D) (h1 : List O) (w1 : Wd) (v : List V), XS w w1 → w1.K = K → w1.gd = gd → RelH w1 h1 → SlE w1 σ aσ → Reps w1 d v → Out w1 Ex (k d h1) P → Q v w1.H) : tA K gd Ex ms σ w.H Q := by
  refine ⟨w, h, aσ, wk, wg, rfl, r, s, ?_⟩
  have o' : Out w Ex (evs ms aσ h) (fun a h1 w1 => Out w1 Ex (k a h1) P) := Out.bind o
  cases e : evs ms aσ h with
  | no => rw [e] at o'; exact o'
  | er c vs h1 => rw [e] at o'; exact o'
  | ok d h1 =>
    rw [e] at o'
    exact fun w1 s1 r1 v rv => hq d h1 w1 v s1 (s1.k.trans wk) (s1.g.trans wg) r1 (s.xs s1 r) rv (o' w1 s1 r1)
theorem out_ret {α : Type} {w : Wd} {Ex : XK} {a : α} {h : List O} {P : α → List O → Wd → Prop} (o : Out w Ex (ret a h) P) (r : RelH w h) : P a h w := o w (XS.refl w) r

section
variable {X : Cx} {gd : Gd} {Ex : XK} {a b c : Expr} {ma mb mc : E} {pos : Pos}
/-! ### expressions -/
theorem R_bin {op : Operator} {f : D → D → M D} (ho : OpR X (binaryOp op) (r2 X.K gd Ex f)) (ha : PE X a (tE X.K gd Ex ma)) (hb : PE X b (tE X.K gd Ex mb)) : PE X (.BinOp a op b pos) (tE X.K gd Ex (e2 f ma mb)) := by
  refine PE.imp (pe_op ho ha hb) fun σ H Q h => ?_
  obtain ⟨w, h, aσ, wk, wg, rfl, r, s, o⟩ := h
  exact tE_bind wk wg r s o fun d h1 w1 v s1 k1 g1 r1 sl1 rv o1 => tE_bind k1 g1 r1 sl1 o1 fun d2 h2 w2 v2 s2 k2 g2 r2 sl2 rv2 o2 =>
    ⟨w2, h2, d, d2, k2, g2, rfl, r2, Rep.step s2.step _ _ rv, rv2, o2⟩
theorem R_var {i : Nat} {x : Str} (hN : X.N[i]? = some x) (hv : Vis X.env.scope x) (hd : (x == ("__debug__" : Str)) = false := by decide) (hcd : (x == ("__classdict__" : Str)) = false := by decide) : PE X (.Name x pos) (tE X.K gd Ex (eVar i)) := by
  refine PE.imp (pe_var hN hv hd hcd) fun σ H Q h => ?_
  obtain ⟨w, h, aσ, wk, wg, rfl, r, s, o⟩ := h
  unfold eVar at o
  cases e : aσ[i]? with
  | none => rw [e] at o; exact o.elim
  | some z =>
    rw [e] at o
    cases z with
    | no => exact o.elim
    | own d => exact o.elim
    | val d =>
      obtain ⟨v, e1, e2⟩ := s.val i d e
      exact ⟨v, e1, o w (XS.refl w) r v e2⟩
end
end Cf
set_option Elab.async false
set_option linter.all false
set_option maxRecDepth 100000
set_option maxHeartbeats 2000000
/-! CfC: the rules of operations. -/
namespace Cf
open PySem L2

/-! ### new objects -/
theorem Reps.xs {w w' : Wd} (a : XS w w') {ds : List D} {xs : List V} (h : Reps w ds xs) : Reps w' ds xs := Reps.step a.step _ _ h
/-- a new object that no one knows -/
def Wd.put (w : Wd) (p : Addr) (o : HO) : Wd := { w with H := upd w.H p o }
theorem xs_put {w : Wd} {p : Addr} {o : HO} (hp : w.H p = none) : XS w (w.put p o) :=
  ⟨rfl, rfl, rfl, List.prefix_refl _, fun b u e n _ => ⟨by show upd w.H p o b = _; rw [upd_ne (ne_of_none e hp)]; exact e, n⟩⟩
theorem RelH.ρt {w : Wd} {h : List O} (r : RelH w h) {a : Addr} (ha : a ∈ w.ρ) : ∃ o, w.H a = some o ∧ NoTbl o := by
  obtain ⟨i, hi, e⟩ := List.getElem_of_mem ha
  have hi' : i < h.length := by rw [← r.len]; exact hi
  have e1 : w.ρ[i]? = some a := by rw [List.getElem?_eq_getElem hi, e]
  have q := r.obj i h[i] a (List.getElem?_eq_getElem hi') e1
  exact q.ho
theorem RelH.frz_new {w : Wd} {h : List O} (r : RelH w h) {p : Addr} (hp : w.H p = none) : Frz w p :=
  ⟨fun n => (by obtain ⟨o, e, _⟩ := (r.own p n).1; rw [hp] at e; cases e), fun hm => (by obtain ⟨o, e, _⟩ := r.ρt hm; rw [hp] at e; cases e)⟩
theorem tabs_put {T : List (Addr × Str)} {H : Hp} {p : Addr} {o : HO} (t : LamX.Tabs T H) (hp : H p = none) : LamX.Tabs T (upd H p o) :=
  t.ext fun b u e => by rw [upd_ne (ne_of_none e hp)]; exact e
theorem RelH.put {w : Wd} {h : List O} (r : RelH w h) {p : Addr} {o : HO} (hp : w.H p = none) : RelH (w.put p o) h := by
  have a := xs_put (o := o) hp
  refine ⟨r.len, r.nd, fun i ob c e1 e2 => ?_, fun b hb => ?_, tabs_put r.tT hp⟩
  · exact (r.obj i ob c e1 e2).mv a.step fun u e _ => by show upd w.H p o c = _; rw [upd_ne (ne_of_none e hp)]; exact e
  · obtain ⟨⟨u, e, n⟩, m⟩ := r.own b hb
    exact ⟨⟨u, by show upd w.H p o b = _; rw [upd_ne (ne_of_none e hp)]; exact e, n⟩, m⟩
theorem Wd.put_same {w : Wd} {p : Addr} {o : HO} : (w.put p o).H p = some o := upd_same
theorem frz_put {w : Wd} {h : List O} (r : RelH w h) {p : Addr} {o : HO} (hp : w.H p = none) : Frz (w.put p o) p := r.frz_new hp
/-- a new tuple, a new list -/
theorem rep_tup {w : Wd} {h : List O} (r : RelH w h) {p : Addr} {ds : List D} {xs : List V} (hp : w.H p = none) (rs : Reps w ds xs) : Rep (w.put p (.tup xs)) (.tup ds) (.ref p) := by
  rw [Rep]; exact ⟨p, xs, rfl, ⟨upd_same, frz_put r hp⟩, rs.xs (xs_put hp)⟩
theorem rep_lst {w : Wd} {h : List O} (r : RelH w h) {p : Addr} {ds : List D} {xs : List V} (hp : w.H p = none) (rs : Reps w ds xs) : Rep (w.put p (.lst xs)) (.lst ds) (.ref p) := by
  rw [Rep]; exact ⟨p, xs, rfl, .inl ⟨.inl upd_same, frz_put r hp⟩, rs.xs (xs_put hp)⟩
/-- the end of a reading that gives a value without a new object -/
theorem out_val {w : Wd} {Ex : XK} {h : List O} {d : D} {v : V} {Q : V → Hp → Prop} (o : Out w Ex (ret d h) (fun d _ w' => ∀ v, Rep w' d v → Q v w'.H)) (r : RelH w h) (rv : Rep w d v) : Q v w.H := o w (XS.refl w) r v rv
theorem out_put {w : Wd} {Ex : XK} {h : List O} {d : D} {v : V} {p : Addr} {ob : HO} {Q : V → Hp → Prop} (o : Out w Ex (ret d h) (fun d _ w' => ∀ v, Rep w' d v → Q v w'.H)) (r : RelH w h) (hp : w.H p = none) (rv : Rep (w.put p ob) d v) : Q v (upd w.H p ob) :=
  o (w.put p ob) (xs_put hp) (r.put hp) v rv

theorem out_guard {α : Type} {c : Prop} [Decidable c] {w : Wd} {Ex : XK} {a : M α} {h : List O} {P : α → List O → Wd → Prop} (o : Out w Ex ((if c then a else no) h) P) : c ∧ Out w Ex (a h) P := by
  by_cases hc : c
  · rw [if_pos hc] at o; exact ⟨hc, o⟩
  · rw [if_neg hc] at o; exact o.elim
theorem size_le {n : Nat} (h : n ≤ LIM) : n ≤ sizeLine := Nat.le_trans h (by decide)
@[simp] theorem rep_non {w : Wd} {v : V} : Rep w .non v = (v = .non) := by rw [Rep]
@[simp] theorem rep_bl {w : Wd} {b : Bool} {v : V} : Rep w (.bl b) v = (v = .bl b) := by rw [Rep]
@[simp] theorem rep_int {w : Wd} {i : Int} {v : V} : Rep w (.int i) v = (v = .int i) := by rw [Rep]
@[simp] theorem rep_str {w : Wd} {s : List Nat} {v : V} : Rep w (.str s) v = (v = sv s ∧ SOk s) := by rw [Rep]
theorem rep_tup_iff {w : Wd} {ds : List D} {v : V} : Rep w (.tup ds) v ↔ ∃ a xs, v = .ref a ∧ TupAt w a xs ∧ Reps w ds xs := by rw [Rep]
theorem rep_lst_iff {w : Wd} {ds : List D} {v : V} : Rep w (.lst ds) v ↔ ∃ a xs, v = .ref a ∧ LstAt w a xs ∧ Reps w ds xs := by rw [Rep]
theorem rep_ref_iff {w : Wd} {n : Nat} {v : V} : Rep w (.ref n) v ↔ ∃ a, w.ρ[n]? = some a ∧ v = .ref a := by rw [Rep]
theorem sv_app (a b : List Nat) : (⟨a.toArray⟩ : Str) ++ (⟨b.toArray⟩ : Str) = ⟨(a ++ b).toArray⟩ := by
  show (⟨a.toArray ++ b.toArray⟩ : Str) = _
  simp
theorem sv_len (a : List Nat) : (⟨a.toArray⟩ : Str).length = a.length := by simp [Str.length]

theorem SOk.app {a b : List Nat} (h : SOk a) (k : SOk b) (l : a.length + b.length ≤ sizeLine) : SOk (a ++ b) :=
  ⟨by rw [List.length_append]; exact l, fun c hc => (List.mem_append.mp hc).elim (h.ok c) (k.ok c)⟩
theorem SOk.sub {a b : List Nat} (h : SOk a) (l : b.length ≤ a.length) (m : ∀ c ∈ b, c ∈ a) : SOk b := ⟨Nat.le_trans l h.len, fun c hc => h.ok c (m c hc)⟩
theorem SOk.one {a : List Nat} {c : Nat} (h : SOk a) (m : c ∈ a) : SOk [c] := ⟨by show 1 ≤ sizeLine; decide, fun d hd => by rw [List.mem_singleton] at hd; subst hd; exact h.ok _ m⟩
section
open PyProof.Rows
variable {prog : Program} {w : World} {A : Around} {E : Value → Shared → Prop} {s : Shared}
theorem add_listsP {l b : Addr} {vs ws : List Value} {Q : Value → Shared → Prop} (hl : s.heap.IsList l vs.toArray) (hb : s.heap.IsList b ws.toArray)
    (h : Q (.ref s.heap.objs.size) { s with heap := s.heap.push { cls := .type "list", data := .seq (vs ++ ws).toArray } }) (hsz : vs.length + ws.length ≤ sizeLine) :
    wpAny (model prog w) A (binaryOp .Add (.ref l) (.ref b)) Q E s := by
  obtain ⟨⟨cls, dd, data, sl⟩, ho, hc, n, hd⟩ := id hl
  obtain ⟨⟨cls2, dd2, data2, sl2⟩, ho2, hc2, n2, hd2⟩ := id hb
  simp only at hc hd hc2 hd2
  subst hc hd hc2 hd2
  have e : vs.toArray ++ ws.toArray = (vs ++ ws).toArray := by simp
  refine concat_meets ⟨_, ho, rfl⟩ ⟨_, ho2, rfl⟩ noFill_list_add seq_list_add PySem.F.slot_list_add PySem.F.entry_list_add (PySem.F.args_list_add_2 _ _) (list_addW l b vs.toArray ws.toArray n n2 dd dd2 sl sl2 (by simpa using hsz)) ⟨ho, ho2, ?_⟩
  rw [e]
  exact h
end

section
variable {X : Cx} {gd : Gd} {Ex : XK}
theorem o_add : OpR X (binaryOp .Add) (r2 X.K gd Ex pAdd) := by
  intro pins s σ H x y v u Q I rx ry h
  obtain ⟨w, h, dx, dy, wk, wg, rfl, r, hx, hy, o⟩ := h
  cases dx <;> cases dy <;> first
    | exact False.elim o
    | skip
  · rw [rep_int] at hx hy
    subst hx hy
    exact op_add pins s σ _ _ _ v u Q I rx ry ⟨_, _, rfl, rfl, out_val o r (by rw [rep_int])⟩
  · rename_i a b
    rw [rep_str] at hx hy
    obtain ⟨rfl, l1⟩ := hx
    obtain ⟨rfl, l2⟩ := hy
    obtain ⟨hl, o⟩ := out_guard o
    refine op_add_str pins s σ _ _ _ v u Q I rx ry ⟨_, _, rfl, rfl, by rw [sv_len, sv_len]; exact size_le hl, ?_⟩
    rw [sv_app]
    exact out_val o r (by rw [rep_str]; exact ⟨rfl, l1.app l2 (size_le hl)⟩)
  · rename_i a b
    rw [rep_tup_iff] at hx hy
    obtain ⟨p, xs, rfl, t1, q1⟩ := hx
    obtain ⟨p2, ys, rfl, t2, q2⟩ := hy
    obtain ⟨hl, o⟩ := out_guard o
    · have e1 := q1.length
      have e2 := q2.length
      refine op_catA pins s σ _ _ _ v u Q I rx ry ⟨_, _, xs, ys, rfl, rfl, wk ▸ t1.sq, wk ▸ t2.sq, by rw [e1, e2]; exact size_le hl, fun z => ?_, fun _ z => ?_, fun _ _ p hp => ?_⟩
      · have : a = [] := by subst z; exact List.length_eq_zero_iff.mp e1.symm
        subst this
        exact out_val o r (by rw [rep_tup_iff]; exact ⟨_, _, rfl, t2, q2⟩)
      · have : b = [] := by subst z; exact List.length_eq_zero_iff.mp e2.symm
        subst this
        rw [List.append_nil] at o
        exact out_val o r (by rw [rep_tup_iff]; exact ⟨_, _, rfl, t1, q1⟩)
      · exact out_put o r hp (rep_tup r hp (q1.append q2))
  · rename_i a b
    rw [rep_lst_iff] at hx hy
    obtain ⟨p, xs, rfl, t1, q1⟩ := hx
    obtain ⟨p2, ys, rfl, t2, q2⟩ := hy
    obtain ⟨hl, o⟩ := out_guard o
    obtain ⟨its, rv, p1, z1⟩ := I.list (wk ▸ t1.sq)
    obtain ⟨its2, rv2, p2, z2⟩ := I.list (wk ▸ t2.sq)
    cases rx
    cases ry
    have e1 := q1.length
    have e2 := q2.length
    have hz : xs.length + ys.length ≤ sizeLine := by rw [e1, e2]; exact size_le hl
    refine add_listsP p1.isList p2.isList ?_ (by rw [← rv.length, ← rv2.length]; exact hz)
    refine ⟨.ref _, _, I.lnew (t' := s.toks) (rv.append rv2) (by rw [List.length_append]; exact hz), rfl, ?_⟩
    exact out_put o r I.fresh (rep_lst r I.fresh (q1.append q2))
theorem o_sub : OpR X (binaryOp .Sub) (r2 X.K gd Ex pSub) := by
  intro pins s σ H x y v u Q I rx ry h
  obtain ⟨w, h, dx, dy, wk, wg, rfl, r, hx, hy, o⟩ := h
  cases dx <;> cases dy <;> first
    | exact False.elim o
    | skip
  rw [rep_int] at hx hy
  subst hx hy
  exact op_sub pins s σ _ _ _ v u Q I rx ry ⟨_, _, rfl, rfl, out_val o r (by rw [rep_int])⟩
theorem o_mul : OpR X (binaryOp .Mult) (r2 X.K gd Ex pMul) := by
  intro pins s σ H x y v u Q I rx ry h
  obtain ⟨w, h, dx, dy, wk, wg, rfl, r, hx, hy, o⟩ := h
  cases dx <;> cases dy <;> first
    | exact False.elim o
    | skip
  rename_i a b
  rw [rep_int] at hx hy
  subst hx hy
  obtain ⟨hl, o⟩ := out_guard o
  exact op_mul pins s σ _ _ _ v u Q I rx ry ⟨_, _, rfl, rfl, hl, out_val o r (by rw [rep_int])⟩
theorem o_mod : OpR X (binaryOp .Mod) (r2 X.K gd Ex pMod) := by
  intro pins s σ H x y v u Q I rx ry h
  obtain ⟨w, h, dx, dy, wk, wg, rfl, r, hx, hy, o⟩ := h
  cases dx <;> cases dy <;> first
    | exact False.elim o
    | skip
  rename_i a b
  rw [rep_int] at hx hy
  subst hx hy
  obtain ⟨hl, o⟩ := out_guard o
  exact op_mod pins s σ _ _ _ v u Q I rx ry ⟨_, _, rfl, rfl, hl.1, out_val o r (by rw [rep_int])⟩
theorem o_fdiv : OpR X (binaryOp .FloorDiv) (r2 X.K gd Ex pFDiv) := by
  intro pins s σ H x y v u Q I rx ry h
  obtain ⟨w, h, dx, dy, wk, wg, rfl, r, hx, hy, o⟩ := h
  cases dx <;> cases dy <;> first
    | exact False.elim o
    | skip
  rename_i a b
  rw [rep_int] at hx hy
  subst hx hy
  obtain ⟨hl, o⟩ := out_guard o
  exact op_fdiv pins s σ _ _ _ v u Q I rx ry ⟨_, _, rfl, rfl, hl, out_val o r (by rw [rep_int])⟩
theorem o_pow : OpR X (binaryOp .Pow) (r2 X.K gd Ex pPow) := by
  intro pins s σ H x y v u Q I rx ry h
  obtain ⟨w, h, dx, dy, wk, wg, rfl, r, hx, hy, o⟩ := h
  cases dx <;> cases dy <;> first
    | exact False.elim o
    | skip
  rename_i a b
  rw [rep_int] at hx hy
  subst hx hy
  obtain ⟨hl, o⟩ := out_guard o
  exact op_pow pins s σ _ _ _ v u Q I rx ry ⟨_, _, rfl, rfl, hl, out_val o r (by rw [rep_int])⟩
/-- comparisons of ints, of texts -/
theorem o_cmp {op : CmpOp} {f : Int → Int → Bool} {g : List Nat → List Nat → Bool} (hi : OpR X (compareOp op) (rI0 fun i j => .bl (f i j)))
    (hs : OpR X (compareOp op) (fun x y H Q => ∃ i j, x = .str i ∧ y = .str j ∧ Q (.bl (g i.cps.toList j.cps.toList)) H)) : OpR X (compareOp op) (r2 X.K gd Ex (pCmp f g)) := by
  intro pins s σ H x y v u Q I rx ry h
  obtain ⟨w, h, dx, dy, wk, wg, rfl, r, hx, hy, o⟩ := h
  cases dx <;> cases dy <;> first
    | exact False.elim o
    | skip
  · rw [rep_int] at hx hy
    subst hx hy
    exact hi pins s σ _ _ _ v u Q I rx ry ⟨_, _, rfl, rfl, out_val o r (by rw [rep_bl])⟩
  · rw [rep_str] at hx hy
    obtain ⟨rfl, l1⟩ := hx
    obtain ⟨rfl, l2⟩ := hy
    exact hs pins s σ _ _ _ v u Q I rx ry ⟨_, _, rfl, rfl, out_val o r (by rw [rep_bl])⟩
theorem lex_le (a b : List Nat) : (!decide (b < a)) = decide (a ≤ b) := by
  rw [Bool.eq_iff_iff]
  simp [List.not_lt]
theorem o_lt : OpR X (compareOp .Lt) (r2 X.K gd Ex pLt) := o_cmp op_lt op_lt_str
theorem o_le : OpR X (compareOp .LtE) (r2 X.K gd Ex pLe) := o_cmp op_le (by
  intro pins s σ H x y v u Q I rx ry h
  obtain ⟨i, j, e1, e2, q⟩ := h
  exact op_le_str pins s σ H x y v u Q I rx ry ⟨i, j, e1, e2, by rw [lex_le]; exact q⟩)
theorem o_gt : OpR X (compareOp .Gt) (r2 X.K gd Ex pGt) := o_cmp op_gt op_gt_str
theorem o_ge : OpR X (compareOp .GtE) (r2 X.K gd Ex pGe) := o_cmp op_ge (by
  intro pins s σ H x y v u Q I rx ry h
  obtain ⟨i, j, e1, e2, q⟩ := h
  exact op_ge_str pins s σ H x y v u Q I rx ry ⟨i, j, e1, e2, by rw [lex_le]; exact q⟩)
theorem RelV.isNon {w : Wd} {d : D} {v : V} (h : Rep w d v) : decide (v = .non) = isNon d := by
  cases d with
  | non => rw [rep_non] at h; subst h; rfl
  | bl b => rw [rep_bl] at h; subst h; rfl
  | int i => rw [rep_int] at h; subst h; rfl
  | str i => rw [rep_str] at h; obtain ⟨rfl, _⟩ := h; rfl
  | tup i => rw [rep_tup_iff] at h; obtain ⟨_, _, rfl, _⟩ := h; rfl
  | lst i => rw [rep_lst_iff] at h; obtain ⟨_, _, rfl, _⟩ := h; rfl
  | dct t a b => rw [Rep] at h; obtain ⟨p, xs, rfl, _⟩ := h; rfl
  | obj a b c => rw [Rep] at h; obtain ⟨_, _, _, _, rfl, _⟩ := h; rfl
  | ref n => rw [rep_ref_iff] at h; obtain ⟨_, _, rfl⟩ := h; rfl

/-! ### == -/
mutual
def pd : D → PyData
  | .bl b => .bool b
  | .int i => .int i
  | .str s => .str ⟨s.toArray⟩
  | .tup xs => .tuple (pds xs)
  | .lst xs => .list (pds xs)
  | .non | .dct _ _ _ | .obj _ _ _ | .ref _ => .none
def pds : List D → List PyData
  | [] => []
  | x :: xs => pd x :: pds xs
end
mutual
theorem dp_of {w : Wd} : ∀ (d : D) (v : V), plain d = true → Rep w d v → Dp w.K w.H v (pd d)
  | .non, v, _, h => by rw [rep_non] at h; subst h; rw [pd]; exact .non
  | .bl b, v, _, h => by rw [rep_bl] at h; subst h; rw [pd]; exact .bl b
  | .int i, v, _, h => by rw [rep_int] at h; subst h; rw [pd]; exact .int i
  | .str s, v, _, h => by rw [rep_str] at h; obtain ⟨rfl, _⟩ := h; rw [pd]; exact .str _
  | .tup ds, v, p, h => by
    rw [rep_tup_iff] at h
    obtain ⟨a, xs, rfl, t, r⟩ := h
    rw [pd]
    rw [plain] at p
    exact .tup t.sq (dps_of ds xs p r)
  | .lst ds, v, p, h => by
    rw [rep_lst_iff] at h
    obtain ⟨a, xs, rfl, t, r⟩ := h
    rw [pd]
    rw [plain] at p
    exact .lst t.sq (dps_of ds xs p r)
  | .dct _ _ _, v, p, h => by rw [plain] at p; cases p
  | .obj _ _ _, v, p, h => by rw [plain] at p; cases p
  | .ref _, v, p, h => by rw [plain] at p; cases p
theorem dps_of {w : Wd} : ∀ (ds : List D) (xs : List V), plains ds = true → Reps w ds xs → DpAll w.K w.H xs (pds ds)
  | [], xs, _, h => by rw [Reps] at h; subst h; rw [pds]; exact .nil
  | d :: ds, xs, p, h => by
    rw [Reps] at h
    obtain ⟨x, r, rfl, h1, h2⟩ := h
    rw [plains, Bool.and_eq_true] at p
    rw [pds]
    exact .cons (dp_of d x p.1 h1) (dps_of ds r p.2 h2)
end
mutual
theorem pd_ok {w : Wd} : ∀ (d : D) (v : V), plain d = true → Rep w d v → (pd d).canLay0 = true
  | .non, v, _, h => by rw [pd, PyData.canLay0]
  | .bl b, v, _, h => by rw [pd, PyData.canLay0]
  | .int i, v, _, h => by rw [pd, PyData.canLay0]
  | .str s, v, _, h => by
    rw [rep_str] at h
    rw [pd, PyData.canLay0]
    unfold PyData.strOk
    rw [← Array.all_toList, List.all_eq_true]
    intro c hc
    exact decide_eq_true (h.2.ok c (by simpa using hc))
  | .tup ds, v, p, h => by
    rw [rep_tup_iff] at h
    obtain ⟨a, xs, rfl, t, r⟩ := h
    rw [pd, PyData.canLay0]
    rw [plain] at p
    exact pds_ok ds xs p r
  | .lst ds, v, p, h => by
    rw [rep_lst_iff] at h
    obtain ⟨a, xs, rfl, t, r⟩ := h
    rw [pd, PyData.canLay0]
    rw [plain] at p
    exact pds_ok ds xs p r
  | .dct _ _ _, v, p, h => by rw [plain] at p; cases p
  | .obj _ _ _, v, p, h => by rw [plain] at p; cases p
  | .ref _, v, p, h => by rw [plain] at p; cases p
theorem pds_ok {w : Wd} : ∀ (ds : List D) (xs : List V), plains ds = true → Reps w ds xs → PyData.canLayAll0 (pds ds) = true
  | [], xs, _, h => by rw [pds, PyData.canLayAll0]
  | d :: ds, xs, p, h => by
    rw [Reps] at h
    obtain ⟨x, r, rfl, h1, h2⟩ := h
    rw [plains, Bool.and_eq_true] at p
    rw [pds, PyData.canLayAll0, pd_ok d x p.1 h1, pds_ok ds r p.2 h2]
    rfl
end
mutual
theorem pd_deep : ∀ d : D, (pd d).depth = deep d
  | .non => by rw [pd, PyData.depth, deep]
  | .bl b => by rw [pd, PyData.depth, deep]
  | .int i => by rw [pd, PyData.depth, deep]
  | .str s => by rw [pd, PyData.depth, deep]
  | .tup ds => by rw [pd, PyData.depth, deep, pds_deep ds]
  | .lst ds => by rw [pd, PyData.depth, deep, pds_deep ds]
  | .dct _ _ _ => by rw [pd, PyData.depth, deep]
  | .obj _ _ _ => by rw [pd, PyData.depth, deep]
  | .ref _ => by rw [pd, PyData.depth, deep]
theorem pds_deep : ∀ ds : List D, PyData.depthAll (pds ds) = deeps ds
  | [] => by rw [pds, PyData.depthAll, deeps]
  | d :: ds => by rw [pds, PyData.depthAll, deeps, pd_deep d, pds_deep ds]
end
mutual
theorem pd_eqv : ∀ d e : D, plain d = true → plain e = true → PyData.eqv (pd d) (pd e) = deq d e
  | .tup ds, .tup es, p, q => by rw [plain] at p q; rw [pd, pd, PyData.eqv, deq]; exact pds_eqv ds es p q
  | .lst ds, .lst es, p, q => by rw [plain] at p q; rw [pd, pd, PyData.eqv, deq]; exact pds_eqv ds es p q
  | .non, .non, _, _ | .non, .bl _, _, _ | .non, .int _, _, _ | .non, .str _, _, _ | .non, .tup _, _, _ | .non, .lst _, _, _ => by simp [pd, deq, PyData.eqv]
  | .bl _, .non, _, _ | .bl _, .bl _, _, _ | .bl _, .int _, _, _ | .bl _, .str _, _, _ | .bl _, .tup _, _, _ | .bl _, .lst _, _, _ => by simp [pd, deq, PyData.eqv, b2i]
  | .int _, .non, _, _ | .int _, .bl _, _, _ | .int _, .int _, _, _ | .int _, .str _, _, _ | .int _, .tup _, _, _ | .int _, .lst _, _, _ => by simp [pd, deq, PyData.eqv, b2i]
  | .str _, .non, _, _ | .str _, .bl _, _, _ | .str _, .int _, _, _ | .str _, .tup _, _, _ | .str _, .lst _, _, _ => by simp [pd, deq, PyData.eqv]
  | .str a, .str b, _, _ => by
    simp only [pd, deq, PyData.eqv]
    rw [Bool.eq_iff_iff]; simp
  | .tup _, .non, _, _ | .tup _, .bl _, _, _ | .tup _, .int _, _, _ | .tup _, .str _, _, _ | .tup _, .lst _, _, _ => by simp [pd, deq, PyData.eqv]
  | .lst _, .non, _, _ | .lst _, .bl _, _, _ | .lst _, .int _, _, _ | .lst _, .str _, _, _ | .lst _, .tup _, _, _ => by simp [pd, deq, PyData.eqv]
  | .dct _ _ _, e, p, q => by rw [plain] at p; cases p
  | .obj _ _ _, e, p, q => by rw [plain] at p; cases p
  | .ref _, e, p, q => by rw [plain] at p; cases p
  | d, .dct _ _ _, p, q => by rw [plain] at q; cases q
  | d, .obj _ _ _, p, q => by rw [plain] at q; cases q
  | d, .ref _, p, q => by rw [plain] at q; cases q
theorem pds_eqv : ∀ ds es : List D, plains ds = true → plains es = true → PyData.eqvAll (pds ds) (pds es) = deqs ds es
  | [], [], _, _ => by rw [pds, PyData.eqvAll, deqs]
  | [], e :: es, _, _ => by simp [pds, PyData.eqvAll, deqs]
  | d :: ds, [], _, _ => by simp [pds, PyData.eqvAll, deqs]
  | d :: ds, e :: es, p, q => by
    rw [plains, Bool.and_eq_true] at p q
    rw [pds, pds, PyData.eqvAll, deqs, pd_eqv d e p.1 q.1, pds_eqv ds es p.2 q.2]
end
theorem shaped_of {w : Wd} {d : D} {v : V} (e : eqable d = true) (h : Rep w d v) : SeqAt.shaped (pd d) = true := by
  unfold eqable at e
  rw [Bool.and_eq_true, decide_eq_true_eq] at e
  unfold SeqAt.shaped
  rw [pd_ok d v e.1 h, pd_deep]
  simp only [Bool.true_and, decide_eq_true_eq]
  omega
theorem plain_of {d : D} (e : eqable d = true) : plain d = true := by
  unfold eqable at e
  rw [Bool.and_eq_true] at e
  exact e.1
theorem o_eq (hu : X.A.units + 64 < cLine) : OpR X (compareOp .Eq) (r2 X.K gd Ex pEq) := by
  intro pins s σ H x y v u Q I rx ry h
  obtain ⟨w, h, dx, dy, wk, wg, rfl, r, hx, hy, o⟩ := h
  obtain ⟨⟨e1, e2⟩, o⟩ := out_guard o
  exact op_eqD hu pins s σ _ _ _ v u Q I rx ry ⟨pd dx, pd dy, wk ▸ dp_of dx x (plain_of e1) hx, wk ▸ dp_of dy y (plain_of e2) hy, shaped_of e1 hx, shaped_of e2 hy,
    by rw [pd_eqv dx dy (plain_of e1) (plain_of e2)]; exact out_val o r (by rw [rep_bl])⟩
theorem o_ne (hu : X.A.units + 64 < cLine) : OpR X (compareOp .NotEq) (r2 X.K gd Ex pNe) := by
  intro pins s σ H x y v u Q I rx ry h
  obtain ⟨w, h, dx, dy, wk, wg, rfl, r, hx, hy, o⟩ := h
  obtain ⟨⟨e1, e2⟩, o⟩ := out_guard o
  exact op_neD hu pins s σ _ _ _ v u Q I rx ry ⟨pd dx, pd dy, wk ▸ dp_of dx x (plain_of e1) hx, wk ▸ dp_of dy y (plain_of e2) hy, shaped_of e1 hx, shaped_of e2 hy,
    by rw [pd_eqv dx dy (plain_of e1) (plain_of e2)]; exact out_val o r (by rw [rep_bl])⟩
end
end Cf
set_option Elab.async false
set_option linter.all false
set_option maxRecDepth 100000
set_option maxHeartbeats 2000000
/-! CfD: the rules of operations, further: in, items, slices, len, texts, isinstance. -/
namespace Cf
open PySem L2

/-! ### what a value is -/
theorem rep_flat {w : Wd} {d : D} {v : V} (h : Rep w d v) (f : flat d = true) : flatV v = true := by
  cases d <;> first
    | (cases f; done)
    | (simp only [rep_non, rep_bl, rep_int, rep_str] at h; first | (subst h; rfl) | (obtain ⟨rfl, _⟩ := h; rfl))
theorem reps_flat {w : Wd} : ∀ {ds : List D} {xs : List V}, Reps w ds xs → ds.all flat = true → xs.all flatV = true
  | [], _, h, _ => by rw [Reps] at h; subst h; rfl
  | d :: ds, _, h, f => by
    rw [Reps] at h
    obtain ⟨x, r, rfl, h1, h2⟩ := h
    rw [List.all_cons, Bool.and_eq_true] at f ⊢
    exact ⟨rep_flat h1 f.1, reps_flat h2 f.2⟩
theorem sv_beq (a b : List Nat) : ((⟨a.toArray⟩ : Str) == ⟨b.toArray⟩) = (a == b) := by
  rw [Bool.eq_iff_iff]; simp
theorem flat_eq {w : Wd} {d e : D} {v u : V} (h : Rep w d v) (k : Rep w e u) (f : flat d = true) (g : flat e = true) : eqV v u = deq d e := by
  cases d <;> first
    | (cases f; done)
    | (cases e <;> first
        | (cases g; done)
        | (simp only [rep_non, rep_bl, rep_int, rep_str] at h k
           first
             | (subst h k; simp [eqV, deq, b2i])
             | (obtain ⟨rfl, _⟩ := h; obtain ⟨rfl, _⟩ := k; simp only [eqV, deq, sv]; exact sv_beq _ _)
             | (obtain ⟨rfl, _⟩ := h; subst k; simp [eqV, deq, sv])
             | (subst h; obtain ⟨rfl, _⟩ := k; simp [eqV, deq, sv])))
theorem flat_any {w : Wd} {d : D} {v : V} (h : Rep w d v) (f : flat d = true) : ∀ {ds : List D} {xs : List V}, Reps w ds xs → ds.all flat = true → inV v xs = ds.any fun e => deq e d
  | [], _, r, _ => by rw [Reps] at r; subst r; rfl
  | e :: ds, _, r, g => by
    rw [Reps] at r
    obtain ⟨x, t, rfl, h1, h2⟩ := r
    rw [List.all_cons, Bool.and_eq_true] at g
    have ih := flat_any h f h2 g.2
    unfold inV at ih ⊢
    rw [List.any_cons, List.any_cons, ih, flat_eq h1 h g.1 f]
theorem sub_in (a b : List Nat) : (!(Builtin.Str.occurrences ⟨b.toArray⟩ ⟨a.toArray⟩ 0 (⟨b.toArray⟩ : Str).length 1).isEmpty) = subIn a b := by
  rw [Bool.eq_iff_iff, StrLaws.found_iff]
  unfold subIn
  rw [List.any_eq_true]
  simp only [sv_len, StrLaws.subAt_eq, List.mem_range]
  constructor
  · rintro ⟨i, h1, h2⟩
    exact ⟨i, by omega, h2⟩
  · rintro ⟨i, h1, h2⟩
    refine ⟨i, ?_, h2⟩
    have e := congrArg List.length (beq_iff_eq.mp h2)
    rw [List.length_take, List.length_drop] at e
    omega
theorem out_opt {w : Wd} {Ex : XK} {x : Option D} {h : List O} {P : D → List O → Wd → Prop} (o : Out w Ex ((ofOpt x : M D) h) P) : ∃ d, x = some d ∧ Out w Ex (ret d h) P := by
  cases x with
  | none => exact o.elim
  | some d => exact ⟨d, rfl, o⟩
theorem out_optB {w : Wd} {Ex : XK} {x : Option Bool} {h : List O} {P : Bool → List O → Wd → Prop} (o : Out w Ex ((ofOpt x : M Bool) h) P) : ∃ d, x = some d ∧ Out w Ex (ret d h) P := by
  cases x with
  | none => exact o.elim
  | some d => exact ⟨d, rfl, o⟩
theorem out_ref {w : Wd} {Ex : XK} {n : Nat} {f : List D → M D} {h : List O} {P : D → List O → Wd → Prop} (o : Out w Ex ((refGet n f) h) P) : ∃ xs, h[n]? = some (.lst xs) ∧ Out w Ex (f xs h) P := by
  unfold refGet at o
  cases e : h[n]? with
  | none => rw [e] at o; exact o.elim
  | some x =>
    rw [e] at o
    cases x with
    | lst xs => exact ⟨xs, rfl, o⟩
    | ins _ _ _ => exact o.elim
    | dct _ _ _ => exact o.elim
theorem TupAt.ref {w : Wd} {ds : List D} {v : V} (h : Rep w (.tup ds) v) : ∃ a xs, v = .ref a ∧ SqT w.K w.H a xs ∧ Reps w ds xs := by
  rw [rep_tup_iff] at h; obtain ⟨a, xs, e, t, r⟩ := h; exact ⟨a, xs, e, t.sq, r⟩
theorem LstAt.ref {w : Wd} {ds : List D} {v : V} (h : Rep w (.lst ds) v) : ∃ a xs, v = .ref a ∧ SqL w.K w.H a xs ∧ Reps w ds xs := by
  rw [rep_lst_iff] at h; obtain ⟨a, xs, e, t, r⟩ := h; exact ⟨a, xs, e, t.sq, r⟩
/-- what inD tells, and what it asks of the values -/
theorem in_cases {w : Wd} {dx dy : D} {x y : V} {b : Bool} (hx : Rep w dx x) (hy : Rep w dy y) (e : inD dx dy = some b) :
    (∃ p xs, y = .ref p ∧ (SqL w.K w.H p xs ∨ SqT w.K w.H p xs) ∧ flatV x = true ∧ xs.all flatV = true ∧ inV x xs = b) ∨
    (∃ i j : Str, x = .str i ∧ y = .str j ∧ (!(Builtin.Str.occurrences j i 0 j.length 1).isEmpty) = b) := by
  unfold inD at e
  split at e
  · rename_i ys
    by_cases hf : flat dx = true ∧ ys.all flat = true
    · rw [if_pos hf] at e
      obtain ⟨a, xs, rfl, t, r⟩ := LstAt.ref hy
      exact .inl ⟨a, xs, rfl, .inl t, rep_flat hx hf.1, reps_flat r hf.2, by rw [flat_any hx hf.1 r hf.2]; exact Option.some.inj e⟩
    · rw [if_neg hf] at e; cases e
  · rename_i ys
    by_cases hf : flat dx = true ∧ ys.all flat = true
    · rw [if_pos hf] at e
      obtain ⟨a, xs, rfl, t, r⟩ := TupAt.ref hy
      exact .inl ⟨a, xs, rfl, .inr t, rep_flat hx hf.1, reps_flat r hf.2, by rw [flat_any hx hf.1 r hf.2]; exact Option.some.inj e⟩
    · rw [if_neg hf] at e; cases e
  · rename_i a b'
    rw [rep_str] at hx hy
    obtain ⟨rfl, _⟩ := hx
    obtain ⟨rfl, _⟩ := hy
    exact .inr ⟨_, _, rfl, rfl, by rw [sub_in]; exact Option.some.inj e⟩
  · cases e
section
variable {X : Cx} {gd : Gd} {Ex : XK}
theorem o_in : OpR X (compareOp .In) (r2 X.K gd Ex pIn) := by
  intro pins s σ H x y v u Q I rx ry h
  obtain ⟨w, h, dx, dy, wk, wg, rfl, r, hx, hy, o⟩ := h
  obtain ⟨d, e, o⟩ := out_opt o
  obtain ⟨b, e1, rfl⟩ := Option.map_eq_some_iff.mp e
  rcases in_cases hx hy e1 with ⟨p, xs, rfl, t, f1, f2, e2⟩ | ⟨i, j, rfl, rfl, e2⟩
  · exact op_in_seq pins s σ _ _ _ v u Q I rx ry ⟨p, xs, rfl, wk ▸ t, f1, f2, by rw [if_neg Bool.false_ne_true, e2]; exact out_val o r (by rw [rep_bl])⟩
  · exact op_in_str pins s σ _ _ _ v u Q I rx ry ⟨i, j, rfl, rfl, by rw [e2]; exact out_val o r (by rw [rep_bl])⟩
theorem o_notin : OpR X (compareOp .NotIn) (r2 X.K gd Ex pNotIn) := by
  intro pins s σ H x y v u Q I rx ry h
  obtain ⟨w, h, dx, dy, wk, wg, rfl, r, hx, hy, o⟩ := h
  obtain ⟨d, e, o⟩ := out_opt o
  obtain ⟨b, e1, rfl⟩ := Option.map_eq_some_iff.mp e
  rcases in_cases hx hy e1 with ⟨p, xs, rfl, t, f1, f2, e2⟩ | ⟨i, j, rfl, rfl, e2⟩
  · exact op_notIn_seq pins s σ _ _ _ v u Q I rx ry ⟨p, xs, rfl, wk ▸ t, f1, f2, by rw [if_pos rfl, e2]; exact out_val o r (by rw [rep_bl])⟩
  · exact op_notin_str pins s σ _ _ _ v u Q I rx ry ⟨i, j, rfl, rfl, by rw [e2]; exact out_val o r (by rw [rep_bl])⟩

/-! ### items -/
theorem ix_eq (n : Nat) (i : Int) : ixN n i = ixOf n i := rfl
theorem at_get {w : Wd} {ds : List D} {xs : List V} {i : Int} {d : D} (r : Reps w ds xs) (e : getAt ds i = some d) : ∃ x, atI xs i = some x ∧ Rep w d x := by
  unfold getAt at e
  unfold atI
  rw [r.length]
  rw [ix_eq]
  cases z : ixOf ds.length i with
  | none => rw [z] at e; cases e
  | some j =>
    rw [z] at e
    obtain ⟨x, e1, e2⟩ := r.get (i := j) (d := d) e
    exact ⟨x, e1, e2⟩
theorem getAt_mem {α : Type} {xs : List α} {i : Int} {d : α} (e : getAt xs i = some d) : d ∈ xs := by
  unfold getAt at e
  obtain ⟨j, _, h⟩ := Option.bind_eq_some_iff.mp e
  exact List.mem_of_getElem? h
theorem o_idx : IxR X (r2 X.K gd Ex pIdx) := by
  intro value slice pins s σ H x y v u Q I rx ry h hs
  obtain ⟨w, h, dx, dy, wk, wg, rfl, r, hx, hy, o⟩ := h
  unfold pIdx at o
  split at o
  · rename_i xs i
    obtain ⟨d, e, o⟩ := out_opt o
    obtain ⟨a, ys, rfl, t, q⟩ := LstAt.ref hx
    rw [rep_int] at hy
    subst hy
    obtain ⟨z, e1, e2⟩ := at_get q e
    exact ix_list value slice pins s σ _ _ _ v u Q I rx ry ⟨a, ys, i, z, rfl, rfl, wk ▸ t, e1, out_val o r e2⟩ hs
  · rename_i xs i
    obtain ⟨d, e, o⟩ := out_opt o
    obtain ⟨a, ys, rfl, t, q⟩ := TupAt.ref hx
    rw [rep_int] at hy
    subst hy
    obtain ⟨z, e1, e2⟩ := at_get q e
    exact ix_tup value slice pins s σ _ _ _ v u Q I rx ry ⟨a, ys, i, z, rfl, rfl, wk ▸ t, e1, out_val o r e2⟩ hs
  · rename_i ss i
    obtain ⟨d, e, o⟩ := out_opt o
    obtain ⟨c, e1, rfl⟩ := Option.map_eq_some_iff.mp e
    rw [rep_str] at hx
    obtain ⟨rfl, ok⟩ := hx
    rw [rep_int] at hy
    subst hy
    exact ix_str value slice pins s σ _ _ _ v u Q I rx ry ⟨_, i, c, rfl, rfl, by rw [sv_len]; exact ok.len, e1, out_val o r (by rw [rep_str]; exact ⟨rfl, ok.one (getAt_mem e1)⟩)⟩ hs
  · rename_i n i
    rw [rep_ref_iff] at hx
    obtain ⟨a, ea, rfl⟩ := hx
    rw [rep_int] at hy
    subst hy
    obtain ⟨xs, en, o⟩ := out_ref o
    · obtain ⟨d, e, o⟩ := out_opt o
      obtain ⟨ys, eh, q⟩ := r.obj n _ a en ea
      obtain ⟨z, e1, e2⟩ := at_get q e
      exact ix_list value slice pins s σ _ _ _ v u Q I rx ry ⟨a, ys, i, z, rfl, rfl, SqL.of eh, e1, out_val o r e2⟩ hs
  · exact o.elim
/-! ### slices -/
theorem clip_sIx (n d : Nat) (o : Option Int) : HT.sIx n d o = clip n d o := by cases o <;> rfl
theorem cut_reps {w : Wd} {ds : List D} {xs : List V} (r : Reps w ds xs) (lo hi : Option Int) : Reps w (cut ds lo hi) (cutV xs lo hi) := by
  unfold cut cutV
  rw [clip_sIx, clip_sIx, r.length]
  exact (r.drop _).take _
theorem cut_mem {α : Type} {xs : List α} {lo hi : Option Int} {c : α} (h : c ∈ cut xs lo hi) : c ∈ xs := List.mem_of_mem_drop (List.mem_of_mem_take h)
theorem cut_len {α : Type} (xs : List α) (lo hi : Option Int) : (cut xs lo hi).length ≤ xs.length := by
  unfold cut; rw [List.length_take, List.length_drop]; omega
theorem cut_whole {α : Type} {xs : List α} {lo hi : Option Int} (h : clip xs.length 0 lo = 0 ∧ clip xs.length xs.length hi = xs.length) : cut xs lo hi = xs := by
  unfold cut; rw [h.1, h.2]; simp
def rSl (K : PySem.W.Frag) (gd : Gd) (Ex : XK) : V → Option Int → Option Int → Hp → VK → Prop := fun x lo hi H Q => ∃ w h dx, w.K = K ∧ w.gd = gd ∧ w.H = H ∧ RelH w h ∧ Rep w dx x ∧ Out w Ex (pSlice dx lo hi h) (fun d _ w' => ∀ v, Rep w' d v → Q v w'.H)
theorem o_slice : SlR X (rSl X.K gd Ex) := by
  intro pins s σ H x v vl vu lo hi sl Q I rx hs pl pu h
  obtain ⟨w, h, dx, wk, wg, rfl, r, hx, o⟩ := h
  unfold pSlice at o
  split at o
  · rename_i ss
    rw [rep_str] at hx
    obtain ⟨rfl, ok⟩ := hx
    refine sl_str pins s σ _ _ v vl vu lo hi sl Q I rx hs pl pu ⟨_, rfl, by rw [sv_len]; exact ok.len, ?_⟩
    have e : cutS (⟨ss.toArray⟩ : Str) lo hi = ⟨(cut ss lo hi).toArray⟩ := by
      unfold cutS cut
      rw [sv_len, clip_sIx, clip_sIx]
    rw [e]
    exact out_val o r (by rw [rep_str]; exact ⟨rfl, ok.sub (cut_len _ _ _) fun c => cut_mem⟩)
  · rename_i ds
    rw [rep_tup_iff] at hx
    obtain ⟨a, xs, rfl, t, q⟩ := hx
    refine sl_tupA pins s σ _ _ v vl vu lo hi sl Q I rx hs pl pu ⟨a, xs, rfl, wk ▸ t.sq, fun hw => ?_, fun _ p hp => ?_⟩
    · rw [clip_sIx, clip_sIx, q.length] at hw
      rw [cut_whole hw] at o
      exact out_val o r (by rw [rep_tup_iff]; exact ⟨a, xs, rfl, t, q⟩)
    · exact out_put o r hp (rep_tup r hp (cut_reps q lo hi))
  · rename_i ds
    obtain ⟨a, xs, rfl, t, q⟩ := LstAt.ref hx
    exact sl_list pins s σ _ _ v vl vu lo hi sl Q I rx hs pl pu ⟨a, xs, rfl, wk ▸ t, fun p hp => out_put o r hp (rep_lst r hp (cut_reps q lo hi))⟩
  · exact o.elim
/-! ### len, int, tuple, list, isinstance -/
/-- a built-in's call of one value -/
def c1 (K : PySem.W.Frag) (gd : Gd) (Ex : XK) (f : D → M D) : List V → Hp → VK → Prop := fun xs H Q => ∃ x, xs = [x] ∧ r1 K gd Ex f x H Q
theorem o_len : CallR X (.builtin "len") (c1 X.K gd Ex pLen) := by
  intro pins s σ H xs us Q I rs h
  obtain ⟨x, rfl, w, h, dx, wk, wg, rfl, r, hx, o⟩ := h
  unfold pLen at o
  split at o
  · rename_i ss
    rw [rep_str] at hx
    obtain ⟨rfl, ok⟩ := hx
    refine call_len_str pins s σ _ _ us Q I rs ⟨_, rfl, by rw [sv_len]; exact ok.len, ?_⟩
    rw [sv_len]
    exact out_val o r (by rw [rep_int])
  · obtain ⟨a, ys, rfl, t, q⟩ := TupAt.ref hx
    refine call_len_seq pins s σ _ _ us Q I rs ⟨a, ys, rfl, .inr (wk ▸ t), ?_⟩
    rw [q.length]
    exact out_val o r (by rw [rep_int])
  · obtain ⟨a, ys, rfl, t, q⟩ := LstAt.ref hx
    refine call_len_seq pins s σ _ _ us Q I rs ⟨a, ys, rfl, .inl (wk ▸ t), ?_⟩
    rw [q.length]
    exact out_val o r (by rw [rep_int])
  · rename_i n
    rw [rep_ref_iff] at hx
    obtain ⟨a, ea, rfl⟩ := hx
    obtain ⟨xs, en, o⟩ := out_ref o
    · obtain ⟨ys, eh, q⟩ := r.obj n _ a en ea
      refine call_len_seq pins s σ _ _ us Q I rs ⟨a, ys, rfl, .inl (SqL.of eh), ?_⟩
      rw [q.length]
      exact out_val o r (by rw [rep_int])
  · exact o.elim
theorem o_int : CallR X (.type "int") (c1 X.K gd Ex pInt) := by
  intro pins s σ H xs us Q I rs h
  obtain ⟨x, rfl, w, h, dx, wk, wg, rfl, r, hx, o⟩ := h
  unfold pInt at o
  split at o
  · rw [rep_int] at hx
    subst hx
    exact call_int1 pins s σ _ _ us Q I rs (.inl ⟨_, rfl, out_val o r (by rw [rep_int])⟩)
  · rw [rep_bl] at hx
    subst hx
    exact call_int1 pins s σ _ _ us Q I rs (.inr ⟨_, rfl, out_val o r (by rw [rep_int]; rfl)⟩)
  · exact o.elim
theorem o_tuple : CallR X (.type "tuple") (c1 X.K gd Ex pTuple) := by
  intro pins s σ H xs us Q I rs h
  obtain ⟨x, rfl, w, h, dx, wk, wg, rfl, r, hx, o⟩ := h
  unfold pTuple at o
  split at o
  · rw [rep_tup_iff] at hx
    obtain ⟨a, ys, rfl, t, q⟩ := hx
    exact call_tuple_of pins s σ _ _ us Q I rs ⟨a, ys, rfl, .inr ⟨wk ▸ t.sq, out_val o r (by rw [rep_tup_iff]; exact ⟨a, ys, rfl, t, q⟩)⟩⟩
  · obtain ⟨a, ys, rfl, t, q⟩ := LstAt.ref hx
    exact call_tuple_of pins s σ _ _ us Q I rs ⟨a, ys, rfl, .inl ⟨wk ▸ t, fun p hp => out_put o r hp (rep_tup r hp q)⟩⟩
  · exact o.elim
theorem o_list : CallR X (.type "list") (c1 X.K gd Ex pList) := by
  intro pins s σ H xs us Q I rs h
  obtain ⟨x, rfl, w, h, dx, wk, wg, rfl, r, hx, o⟩ := h
  unfold pList at o
  split at o
  · obtain ⟨a, ys, rfl, t, q⟩ := TupAt.ref hx
    exact call_list_of pins s σ _ _ us Q I rs ⟨a, ys, rfl, .inr (wk ▸ t), fun p hp => out_put o r hp (rep_lst r hp q)⟩
  · obtain ⟨a, ys, rfl, t, q⟩ := LstAt.ref hx
    exact call_list_of pins s σ _ _ us Q I rs ⟨a, ys, rfl, .inl (wk ▸ t), fun p hp => out_put o r hp (rep_lst r hp q)⟩
  · exact o.elim
theorem tru_of {w : Wd} {d : D} {v : V} {b : Bool} (h : Rep w d v) (e : truth d = some b) : TruV w.K v w.H b := by
  unfold truth at e
  split at e
  · rw [rep_non] at h; subst h; exact (Option.some.inj e).symm
  · rw [rep_bl] at h; subst h; exact (Option.some.inj e).symm
  · rw [rep_int] at h; subst h; exact (Option.some.inj e).symm
  · rename_i ss
    rw [rep_str] at h
    obtain ⟨rfl, ok⟩ := h
    refine ⟨by rw [sv_len]; exact ok.len, ?_⟩
    rw [sv_len]
    rw [← Option.some.inj e]
    cases ss <;> simp
    omega
  · obtain ⟨a, ys, rfl, t, q⟩ := TupAt.ref h
    exact .inr (.inl ⟨ys, t, by rw [q.isEmpty]; exact (Option.some.inj e).symm⟩)
  · obtain ⟨a, ys, rfl, t, q⟩ := LstAt.ref h
    exact .inl ⟨ys, t, by rw [q.isEmpty]; exact (Option.some.inj e).symm⟩
  · cases e
end
end Cf
set_option Elab.async false
set_option linter.all false
set_option maxRecDepth 100000
set_option maxHeartbeats 2000000
/-! CfE: the rules of expressions and tests. -/
namespace Cf
open PySem L2

section
variable {X : Cx} {gd : Gd} {Ex : XK} {a b c : Expr} {ma mb mc : E} {pos : Pos}
/-! ### constants -/
theorem R_val {e : Expr} {v : V} {d : D} (h : PE X e (tC v)) (rv : ∀ w : Wd, Rep w d v) : PE X e (tE X.K gd Ex (eC d)) := by
  refine PE.imp h fun σ H Q h => ?_
  obtain ⟨w, h, aσ, wk, wg, rfl, r, s, o⟩ := h
  exact out_val o r (rv w)
theorem R_int {i : Int} {j : Nat} : PE X (.Constant (.int i) j pos) (tE X.K gd Ex (eC (.int i))) := R_val pe_int fun w => by rw [rep_int]
theorem R_bl {b : Bool} {j : Nat} : PE X (.Constant (.bool b) j pos) (tE X.K gd Ex (eC (.bl b))) := R_val pe_bl fun w => by rw [rep_bl]
theorem R_non {j : Nat} : PE X (.Constant .none j pos) (tE X.K gd Ex (eC .non)) := R_val pe_non fun w => by rw [rep_non]
theorem okL_of {s : List Nat} (h : okL s = true) : SOk s := by
  unfold okL at h
  rw [Bool.and_eq_true, decide_eq_true_eq, List.all_eq_true] at h
  exact ⟨Nat.le_trans h.1 (by decide), fun c hc => of_decide_eq_true (h.2 c hc)⟩
theorem str_cps (z : String) : Str.ofString z = ⟨(cps z).toArray⟩ := Str.ofString_eq_toList z
theorem R_str {z : String} {j : Nat} (h : okL (cps z) = true := by decide +kernel) : PE X (.Constant (.str (Str.ofString z)) j pos) (tE X.K gd Ex (eC (.str (cps z)))) :=
  R_val pe_str fun w => by rw [rep_str]; exact ⟨by rw [str_cps]; rfl, okL_of h⟩
/-- a module's constant -/
theorem R_glob {x : Str} {v : V} {u : Value} {d : D} (hg : Gl X x) (hm : X.mg x = some u) (r : RelV v u) (rv : ∀ w : Wd, Rep w d v) (hd : (x == ("__debug__" : Str)) = false := by decide) : PE X (.Name x pos) (tE X.K gd Ex (eC d)) := R_val (pe_glob hg hm r hd) rv

/-! ### one value, two values -/
theorem tE_1 {f : D → M D} {R : V → Hp → VK → Prop} {σ : L2.St} {H : Hp} {Q : VK} (h : tE X.K gd Ex (e1 f ma) σ H Q) (hR : ∀ x H1, r1 X.K gd Ex f x H1 Q → R x H1 Q) : tE X.K gd Ex ma σ H fun x H1 => R x H1 Q := by
  obtain ⟨w, h, aσ, wk, wg, rfl, r, s, o⟩ := h
  exact tE_bind wk wg r s o fun d h1 w1 v s1 k1 g1 r1 sl1 rv o1 => hR v _ ⟨w1, h1, d, k1, g1, rfl, r1, rv, o1⟩
theorem tE_2 {f : D → D → M D} {R : R2} {σ : L2.St} {H : Hp} {Q : VK} (h : tE X.K gd Ex (e2 f ma mb) σ H Q) (hR : ∀ x y H1, r2 X.K gd Ex f x y H1 Q → R x y H1 Q) :
    tE X.K gd Ex ma σ H fun x H1 => tE X.K gd Ex mb σ H1 fun y H2 => R x y H2 Q := by
  obtain ⟨w, h, aσ, wk, wg, rfl, r, s, o⟩ := h
  exact tE_bind wk wg r s o fun d h1 w1 v s1 k1 g1 r1 sl1 rv o1 => tE_bind k1 g1 r1 sl1 o1 fun d2 h2 w2 v2 s2 k2 g2 r2 sl2 rv2 o2 =>
    hR v v2 _ ⟨w2, h2, d, d2, k2, g2, rfl, r2, Rep.step s2.step _ _ rv, rv2, o2⟩
theorem R_cmp {op : CmpOp} {f : D → D → M D} (ho : OpR X (compareOp op) (r2 X.K gd Ex f)) (ha : PE X a (tE X.K gd Ex ma)) (hb : PE X b (tE X.K gd Ex mb)) (hm : behindInMarks op b = false) : PE X (.Compare a [op] [b] pos) (tE X.K gd Ex (e2 f ma mb)) :=
  PE.imp (pe_cmpR ho ha hb hm) fun σ H Q h => tE_2 h fun _ _ _ q => q
theorem R_idx (ha : PE X a (tE X.K gd Ex ma)) (hb : PE X b (tE X.K gd Ex mb)) (hs : PlainIx b) : PE X (.Subscript a b pos) (tE X.K gd Ex (e2 pIdx ma mb)) :=
  PE.imp (pe_ix (o_idx (Ex := Ex)) ha hb hs) fun σ H Q h => tE_2 h fun _ _ _ q => q
theorem R_isN {j : Nat} {p : Pos} (ha : PE X a (tE X.K gd Ex ma)) : PE X (.Compare a [.Is] [.Constant .none j p] pos) (tE X.K gd Ex (e1 pIsN ma)) :=
  PE.imp (pe_cmp (pc_isN ha) rfl) fun σ H Q h => tE_1 (R := fun x H1 Q => Q (.bl (decide (x = .non))) H1) h fun x H1 q => by
    obtain ⟨w, h, d, wk, wg, rfl, r, hx, o⟩ := q
    rw [RelV.isNon hx]
    exact out_val o r (by rw [rep_bl])
theorem R_notN {j : Nat} {p : Pos} (ha : PE X a (tE X.K gd Ex ma)) : PE X (.Compare a [.IsNot] [.Constant .none j p] pos) (tE X.K gd Ex (e1 pNotN ma)) :=
  PE.imp (pe_cmp (pc_notN ha) rfl) fun σ H Q h => tE_1 (R := fun x H1 Q => Q (.bl (!decide (x = .non))) H1) h fun x H1 q => by
    obtain ⟨w, h, d, wk, wg, rfl, r, hx, o⟩ := q
    rw [RelV.isNon hx]
    exact out_val o r (by rw [rep_bl])
/-- a op b op' c -/
theorem chain_imp {f g : D → D → M D} {σ : L2.St} {H : Hp} {Q : VK} (h : tE X.K gd Ex (eChain f g ma mb mc) σ H Q) : tChain (r2 X.K gd Ex f) (r2 X.K gd Ex g) (tE X.K gd Ex ma) (tE X.K gd Ex mb) (tE X.K gd Ex mc) σ H Q := by
  obtain ⟨w, h, aσ, wk, wg, rfl, r, s, o⟩ := h
  refine tE_bind wk wg r s o fun d h1 w1 v s1 k1 g1 r1 sl1 rv o1 => tE_bind k1 g1 r1 sl1 o1 fun d2 h2 w2 v2 s2 k2 g2 r2 sl2 rv2 o2 => ?_
  refine ⟨w2, h2, d, d2, k2, g2, rfl, r2, Rep.step s2.step _ _ rv, rv2, ?_⟩
  have o3 := Out.bind o2
  cases e : f d d2 h2 with
  | no => rw [e] at o3; exact o3
  | er c vs h3 => rw [e] at o3; exact o3
  | ok z h3 =>
    rw [e] at o3
    intro w3 s3 r3 vz rz
    have o4 := o3 w3 s3 r3
    cases z with
    | bl k =>
      rw [rep_bl] at rz
      refine ⟨k, rz, ?_⟩
      cases k with
      | true =>
        rw [if_pos rfl]
        refine tE_bind (s3.k.trans k2) (s3.g.trans g2) r3 (sl2.xs s3 r2) o4 fun d4 h4 w4 v4 s4 k4 g4 r4 sl4 rv4 o5 => ?_
        exact ⟨w4, h4, d2, d4, k4, g4, rfl, r4, Rep.step (s3.trans s4).step _ _ rv2, rv4, o5⟩
      | false =>
        rw [if_neg Bool.false_ne_true]
        exact out_val o4 r3 (by rw [rep_bl])
    | _ => exact o4.elim
theorem R_chain {op op' : CmpOp} {f g : D → D → M D} (ho : OpR X (compareOp op) (r2 X.K gd Ex f)) (ho' : OpR X (compareOp op') (r2 X.K gd Ex g)) (ha : PE X a (tE X.K gd Ex ma)) (hb : PE X b (tE X.K gd Ex mb)) (hc : PE X c (tE X.K gd Ex mc))
    (hm : lastMarks [op, op'] [b, c] = false) : PE X (.Compare a [op, op'] [b, c] pos) (tE X.K gd Ex (eChain f g ma mb mc)) := by
  exact PE.imp (pe_chain ho ho' ha hb hc hm) fun σ H Q h => chain_imp h
/-! ### and, or, not, if -/
theorem R_one {op : BoolOp} (h : PE X a (tE X.K gd Ex ma)) : PE X (.BoolOp op [a] pos) (tE X.K gd Ex ma) := pe_one h
theorem tr_bind {w : Wd} {h : List O} {d : D} {v : V} {k : Bool → M D} {P : D → List O → Wd → Prop} (o : Out w Ex ((pTruth d >>= k) h) P) (rv : Rep w d v) (wk : w.K = X.K) : ∃ b, TruV X.K v w.H b ∧ Out w Ex (k b h) P := by
  have o' := Out.bind (k := k) (r := (ofOpt (truth d) : M Bool) h) o
  obtain ⟨b, e, o2⟩ := out_optB (x := truth d) (h := h) o'
  cases e2 : truth d with
  | none => rw [e2] at e; cases e
  | some b' =>
    rw [e2] at e
    cases e
    refine ⟨b, wk ▸ tru_of rv e2, ?_⟩
    have z : (pTruth d >>= k) h = k b h := by
      show (pTruth d h).next k = _
      unfold pTruth
      rw [e2]
      rfl
    rw [z] at o
    exact o
theorem R_and {rest : List Expr} (ha : PE X a (tE X.K gd Ex ma)) (hb : PE X (.BoolOp .And (b :: rest) pos) (tE X.K gd Ex mb)) : PE X (.BoolOp .And (a :: b :: rest) pos) (tE X.K gd Ex (eAnd ma mb)) := by
  refine PE.imp (pe_andT ha hb) fun σ H Q h => ?_
  obtain ⟨w, h, aσ, wk, wg, rfl, r, s, o⟩ := h
  refine tE_bind wk wg r s o fun d h1 w1 v s1 k1 g1 r1 sl1 rv o1 => ?_
  obtain ⟨k, t, o2⟩ := tr_bind (X := X) o1 rv k1
  refine ⟨k, t, ?_⟩
  cases k with
  | true => rw [if_pos rfl] at o2 ⊢; exact ⟨w1, h1, aσ, k1, g1, rfl, r1, sl1, o2⟩
  | false => rw [if_neg Bool.false_ne_true] at o2 ⊢; exact out_val o2 r1 rv
theorem R_or {rest : List Expr} (ha : PE X a (tE X.K gd Ex ma)) (hb : PE X (.BoolOp .Or (b :: rest) pos) (tE X.K gd Ex mb)) : PE X (.BoolOp .Or (a :: b :: rest) pos) (tE X.K gd Ex (eOr ma mb)) := by
  refine PE.imp (pe_orT ha hb) fun σ H Q h => ?_
  obtain ⟨w, h, aσ, wk, wg, rfl, r, s, o⟩ := h
  refine tE_bind wk wg r s o fun d h1 w1 v s1 k1 g1 r1 sl1 rv o1 => ?_
  obtain ⟨k, t, o2⟩ := tr_bind (X := X) o1 rv k1
  refine ⟨k, t, ?_⟩
  cases k with
  | true => rw [if_pos rfl] at o2 ⊢; exact out_val o2 r1 rv
  | false => rw [if_neg Bool.false_ne_true] at o2 ⊢; exact ⟨w1, h1, aσ, k1, g1, rfl, r1, sl1, o2⟩
theorem R_not (ha : PE X a (tE X.K gd Ex ma)) : PE X (.UnaryOp .Not a pos) (tE X.K gd Ex (eNot ma)) := by
  refine PE.imp (pe_notT ha) fun σ H Q h => ?_
  obtain ⟨w, h, aσ, wk, wg, rfl, r, s, o⟩ := h
  refine tE_bind wk wg r s o fun d h1 w1 v s1 k1 g1 r1 sl1 rv o1 => ?_
  obtain ⟨k, t, o2⟩ := tr_bind (X := X) o1 rv k1
  exact ⟨k, t, out_val o2 r1 (by rw [rep_bl])⟩
variable {ta tb : T}
theorem R_ifx (ht : PT X c (tT X.K gd Ex ta)) (ha : PE X a (tE X.K gd Ex ma)) (hb : PE X b (tE X.K gd Ex mb)) : PE X (.IfExp c a b pos) (tE X.K gd Ex (eIf ta ma mb)) := by
  refine PE.imp (pe_ifExp ht ha hb) fun σ H Q h => ?_
  obtain ⟨w, h, aσ, wk, wg, rfl, r, s, o⟩ := h
  refine tT_bind wk wg r s o fun d h1 w1 s1 k1 g1 r1 sl1 o1 => ?_
  cases d with
  | true => rw [if_pos rfl] at o1 ⊢; exact ⟨w1, h1, aσ, k1, g1, rfl, r1, sl1, o1⟩
  | false => rw [if_neg Bool.false_ne_true] at o1 ⊢; exact ⟨w1, h1, aσ, k1, g1, rfl, r1, sl1, o1⟩
/-! ### tests -/
theorem trB {w : Wd} {h : List O} {d : D} {v : V} {P : Bool → List O → Wd → Prop} (o : Out w Ex (pTruth d h) P) (rv : Rep w d v) (wk : w.K = X.K) : ∃ b, TruV X.K v w.H b ∧ Out w Ex ((ret b : M Bool) h) P := by
  obtain ⟨b, e, o2⟩ := out_optB o
  exact ⟨b, wk ▸ tru_of rv e, o2⟩
theorem R_tru (ha : PE X a (tE X.K gd Ex ma)) (he : ∀ whole, isTrue a X.env whole = (do let v ← whole; standAt a.pos; holding [v] (truthy v))) : PT X a (tT X.K gd Ex (tOf ma)) := by
  refine PT.imp (pt_truth ha he) fun σ H Q h => ?_
  obtain ⟨w, h, aσ, wk, wg, rfl, r, s, o⟩ := h
  refine tE_bind wk wg r s o fun d h1 w1 v s1 k1 g1 r1 sl1 rv o1 => ?_
  obtain ⟨b, t, o2⟩ := trB (X := X) o1 rv k1
  exact ⟨b, t, out_ret o2 r1⟩
/-- a comparison as a test: its answer is True or False -/
def Boolean (f : D → D → M D) : Prop := ∀ x y h, match f x y h with | .ok d _ => ∃ b, d = .bl b | _ => True
theorem pt_cmpM {op : CmpOp} {f : D → D → M D} (ho : OpR X (compareOp op) (r2 X.K gd Ex f)) (hf : Boolean f) (ha : PE X a (tE X.K gd Ex ma)) (hb : PE X b (tE X.K gd Ex mb)) (hm : behindInMarks op b = false) : PT X (.Compare a [op] [b] pos) (tT X.K gd Ex (tOf (e2 f ma mb))) := by
  refine PT.imp (pt_cmpR ho ha hb hm) fun σ H Q h => ?_
  obtain ⟨w, h, aσ, wk, wg, rfl, r, s, o⟩ := h
  have o : Out w Ex ((ma aσ >>= fun x => (mb aσ >>= fun y => f x y) >>= pTruth) h) (fun b _ w' => Q b w'.H) := by
    have z : (tOf (e2 f ma mb) aσ) h = (ma aσ >>= fun x => (mb aσ >>= fun y => f x y) >>= pTruth) h := by
      show ((ma aσ h).next fun x h1 => ((mb aσ h1).next fun y => f x y)).next pTruth = (ma aσ h).next fun x h1 => ((mb aσ h1).next fun y => f x y).next pTruth
      cases ma aσ h <;> rfl
    rw [← z]; exact o
  unfold L2.tTest L2.tOp
  refine tE_bind wk wg r s o fun d h1 w1 v s1 k1 g1 r1 sl1 rv o1 => ?_
  have o1 : Out w1 Ex ((mb aσ >>= fun y => f d y >>= pTruth) h1) (fun b _ w' => Q b w'.H) := by
    have z : ((mb aσ >>= fun y => f d y) >>= pTruth) h1 = (mb aσ >>= fun y => f d y >>= pTruth) h1 := by
      show ((mb aσ h1).next fun y => f d y).next pTruth = (mb aσ h1).next fun y h2 => (f d y h2).next pTruth
      cases mb aσ h1 <;> rfl
    rw [← z]; exact o1
  show tE X.K gd Ex mb σ w1.H _
  refine tE_bind k1 g1 r1 sl1 o1 fun d2 h2 w2 v2 s2 k2 g2 r2 sl2 rv2 o2 => ?_
  refine ⟨w2, h2, d, d2, k2, g2, rfl, r2, Rep.step s2.step _ _ rv, rv2, ?_⟩
  have o3 := Out.bind o2
  have hb2 := hf d d2 h2
  cases e : f d d2 h2 with
  | no => rw [e] at o3; exact o3
  | er c vs h3 => rw [e] at o3; exact o3
  | ok z h3 =>
    rw [e] at o3 hb2
    intro w3 s3 r3 vz rz
    obtain ⟨k, rfl⟩ := hb2
    rw [rep_bl] at rz
    exact ⟨k, rz, out_ret (o3 w3 s3 r3) r3⟩
theorem bool_cmp {f : Int → Int → Bool} {g : List Nat → List Nat → Bool} : Boolean (pCmp f g) := fun x y h => by
  cases x <;> cases y <;> first | trivial | exact ⟨_, rfl⟩
theorem bool_eq : Boolean pEq := fun x y h => by
  unfold pEq; split <;> first | (rename_i e; split at e <;> first | (cases e; exact ⟨_, rfl⟩) | cases e) | trivial
theorem bool_ne : Boolean pNe := fun x y h => by
  unfold pNe; split <;> first | (rename_i e; split at e <;> first | (cases e; exact ⟨_, rfl⟩) | cases e) | trivial
theorem bool_in : Boolean pIn := fun x y h => by
  unfold pIn; cases inD x y <;> first | exact ⟨_, rfl⟩ | trivial
theorem bool_notin : Boolean pNotIn := fun x y h => by
  unfold pNotIn; cases inD x y <;> first | exact ⟨_, rfl⟩ | trivial
theorem chain_bl {f g : D → D → M D} (hg : Boolean g) {aσ : S} {h h' : List O} {d : D} (e : eChain f g ma mb mc aσ h = .ok d h') : ∃ b, d = .bl b := by
  have e : ((ma aσ h).next fun x => mb aσ >>= fun y => f x y >>= fun z => match z with
    | .bl true => mc aσ >>= fun w => g y w
    | .bl false => ret (.bl false)
    | _ => no) = .ok d h' := e
  cases e1 : ma aσ h with
  | no => rw [e1] at e; cases e
  | er _ _ _ => rw [e1] at e; cases e
  | ok x h1 =>
    rw [e1] at e
    have e : ((mb aσ h1).next fun y => f x y >>= fun z => match z with
      | .bl true => mc aσ >>= fun w => g y w
      | .bl false => ret (.bl false)
      | _ => no) = .ok d h' := e
    cases e2 : mb aσ h1 with
    | no => rw [e2] at e; cases e
    | er _ _ _ => rw [e2] at e; cases e
    | ok y h2 =>
      rw [e2] at e
      have e : ((f x y h2).next fun z => match z with
        | .bl true => mc aσ >>= fun w => g y w
        | .bl false => ret (.bl false)
        | _ => no) = .ok d h' := e
      cases e3 : f x y h2 with
      | no => rw [e3] at e; cases e
      | er _ _ _ => rw [e3] at e; cases e
      | ok z h3 =>
        rw [e3] at e
        match z, e with
        | .bl true, e =>
          have e : ((mc aσ h3).next fun w => g y w) = .ok d h' := e
          cases e4 : mc aσ h3 with
          | no => rw [e4] at e; cases e
          | er _ _ _ => rw [e4] at e; cases e
          | ok w h4 =>
            rw [e4] at e
            have q := hg y w h4
            have e : g y w h4 = .ok d h' := e
            rw [e] at q
            exact q
        | .bl false, e => cases e; exact ⟨_, rfl⟩
/-- a chain of comparisons as a test -/
theorem T_chain {op op' : CmpOp} {f g : D → D → M D} (ho : OpR X (compareOp op) (r2 X.K gd Ex f)) (ho' : OpR X (compareOp op') (r2 X.K gd Ex g)) (hgb : Boolean g) (ha : PE X a (tE X.K gd Ex ma)) (hb : PE X b (tE X.K gd Ex mb)) (hc : PE X c (tE X.K gd Ex mc))
    (hm : lastMarks [op, op'] [b, c] = false) : PT X (.Compare a [op, op'] [b, c] pos) (tT X.K gd Ex (tOf (eChain f g ma mb mc))) := by
  refine PT.imp (pt_chain ho ho' ha hb hc hm) fun σ H Q h => chain_imp ?_
  obtain ⟨w, h, aσ, wk, wg, rfl, r, s, o⟩ := h
  refine ⟨w, h, aσ, wk, wg, rfl, r, s, ?_⟩
  have o' : Out w Ex (eChain f g ma mb mc aσ h) (fun a h1 w1 => Out w1 Ex (pTruth a h1) (fun b _ w' => Q b w'.H)) := Out.bind o
  cases e : eChain f g ma mb mc aσ h with
  | no => rw [e] at o'; exact o'
  | er c vs h1 => rw [e] at o'; exact o'
  | ok d h1 =>
    rw [e] at o'
    obtain ⟨k, rfl⟩ := chain_bl hgb e
    intro w1 s1 r1 v rv
    rw [rep_bl] at rv
    exact ⟨k, rv, out_ret (o' w1 s1 r1) r1⟩
theorem R_tand1 {x : Expr} (h : PT X x (tT X.K gd Ex ta)) : PW X (.BoolOp .And [x] pos) (tT X.K gd Ex ta) := pw_and1 h
theorem R_tor1 {x : Expr} (h : PT X x (tT X.K gd Ex ta)) : PW X (.BoolOp .Or [x] pos) (tT X.K gd Ex ta) := pw_or1 h
theorem PW.imp {e : Expr} {t t' : TT} (h : PW X e t) (i : ∀ σ H Q, t' σ H Q → t σ H Q) : PW X e t' := ⟨fun wh pins s σ H Q I q => h.run wh pins s σ H Q I (i σ H Q q)⟩
theorem R_tand {x y : Expr} {rest : List Expr} (ha : PT X x (tT X.K gd Ex ta)) (hb : PW X (.BoolOp .And (y :: rest) pos) (tT X.K gd Ex tb)) : PW X (.BoolOp .And (x :: y :: rest) pos) (tT X.K gd Ex (tAnd ta tb)) := by
  refine PW.imp (pw_and ha hb) fun σ H Q h => ?_
  obtain ⟨w, h, aσ, wk, wg, rfl, r, s, o⟩ := h
  refine tT_bind wk wg r s o fun d h1 w1 s1 k1 g1 r1 sl1 o1 => ?_
  cases d with
  | true => rw [if_pos rfl] at o1 ⊢; exact ⟨w1, h1, aσ, k1, g1, rfl, r1, sl1, o1⟩
  | false => rw [if_neg Bool.false_ne_true] at o1 ⊢; exact out_ret o1 r1
theorem R_tor {x y : Expr} {rest : List Expr} (ha : PT X x (tT X.K gd Ex ta)) (hb : PW X (.BoolOp .Or (y :: rest) pos) (tT X.K gd Ex tb)) : PW X (.BoolOp .Or (x :: y :: rest) pos) (tT X.K gd Ex (tOr ta tb)) := by
  refine PW.imp (pw_or ha hb) fun σ H Q h => ?_
  obtain ⟨w, h, aσ, wk, wg, rfl, r, s, o⟩ := h
  refine tT_bind wk wg r s o fun d h1 w1 s1 k1 g1 r1 sl1 o1 => ?_
  cases d with
  | true => rw [if_pos rfl] at o1 ⊢; exact out_ret o1 r1
  | false => rw [if_neg Bool.false_ne_true] at o1 ⊢; exact ⟨w1, h1, aσ, k1, g1, rfl, r1, sl1, o1⟩
theorem R_tnot {x : Expr} (h : PT X x (tT X.K gd Ex ta)) : PT X (.UnaryOp .Not x pos) (tT X.K gd Ex (tNot ta)) := by
  refine PT.imp (pt_not h) fun σ H Q h => ?_
  obtain ⟨w, h, aσ, wk, wg, rfl, r, s, o⟩ := h
  exact tT_bind wk wg r s o fun d h1 w1 s1 k1 g1 r1 sl1 o1 => out_ret o1 r1
/-! ### argument lists, displays -/
theorem A_nil : PA X [] (tA X.K gd Ex []) := by
  refine PA.imp pa_nil fun σ H Q h => ?_
  obtain ⟨w, h, aσ, wk, wg, rfl, r, s, o⟩ := h
  exact out_ret o r [] .nil
theorem A_cons {es : List Expr} {ms : List E} (ha : PE X a (tE X.K gd Ex ma)) (hr : PA X es (tA X.K gd Ex ms)) (hs : starEach (a :: es) X.env = (false, eval a X.env) :: starEach es X.env := by rfl) : PA X (a :: es) (tA X.K gd Ex (ma :: ms)) := by
  refine PA.imp (pa_cons ha hr hs) fun σ H Q h => ?_
  obtain ⟨w, h, aσ, wk, wg, rfl, r, s, o⟩ := h
  refine tE_bind wk wg r s o fun d h1 w1 v s1 k1 g1 r1 sl1 rv o1 => tA_bind k1 g1 r1 sl1 o1 fun ds h2 w2 vs s2 k2 g2 r2 sl2 rvs o2 => ?_
  exact out_ret o2 r2 _ (.cons (Rep.step s2.step _ _ rv) rvs)
variable {es : List Expr} {ms : List E}
/-- the size of what is laid is the number of the written items -/
theorem evs_len : ∀ {ms : List E} {σ : S} {h h' : List O} {ds : List D}, evs ms σ h = .ok ds h' → ds.length = ms.length
  | [], σ, h, h', ds, e => by cases e; rfl
  | m :: ms, σ, h, h', ds, e => by
    have e' : ((m σ h).next fun x => fun h1 => ((evs ms σ h1).next fun xs => ret (x :: xs))) = .ok ds h' := e
    cases e1 : m σ h with
    | no => rw [e1] at e'; cases e'
    | er c vs h1 => rw [e1] at e'; cases e'
    | ok x h1 =>
      rw [e1] at e'
      have e3 : ((evs ms σ h1).next fun xs => ret (x :: xs)) = .ok ds h' := e'
      cases e2 : evs ms σ h1 with
      | no => rw [e2] at e3; cases e3
      | er c vs h1 => rw [e2] at e3; cases e3
      | ok xs h2 =>
        rw [e2] at e3
        cases e3
        rw [List.length_cons, List.length_cons, evs_len e2]
theorem Out.with {α : Type} {w : Wd} {Xk : XK} {r : R α} {P : α → List O → Wd → Prop} (h : Out w Xk r P) : Out w Xk r (fun a h' w' => r = .ok a h' ∧ P a h' w') := by
  cases r with
  | no => exact h
  | er c vs hh => exact h
  | ok a h1 => exact fun w' s r => ⟨rfl, h w' s r⟩
theorem tA_bindL {w : Wd} {h : List O} {σ : L2.St} {aσ : S} {β : Type} {k : List D → M β} {P : β → List O → Wd → Prop} {Q : List V → Hp → Prop}
    (wk : w.K = X.K) (wg : w.gd = gd) (r : RelH w h) (s : SlE w σ aσ) (o : Out w Ex ((evs ms aσ >>= k) h) P)
    (hq : ∀ (d : List D) (h1 : List O) (w1 : Wd) (v : List V), XS w w1 → w1.K = X.K → w1.gd = gd → RelH w1 h1 → SlE w1 σ aσ → Reps w1 d v → d.length = ms.length → Out w1 Ex (k d h1) P → Q v w1.H) : tA X.K gd Ex ms σ w.H Q := by
  refine ⟨w, h, aσ, wk, wg, rfl, r, s, ?_⟩
  have o' : Out w Ex (evs ms aσ h) (fun a h1 w1 => Out w1 Ex (k a h1) P) := Out.bind o
  cases e : evs ms aσ h with
  | no => rw [e] at o'; exact o'
  | er c vs h1 => rw [e] at o'; exact o'
  | ok d h1 =>
    rw [e] at o'
    exact fun w1 s1 r1 v rv => hq d h1 w1 v s1 (s1.k.trans wk) (s1.g.trans wg) r1 (s.xs s1 r) rv (evs_len e) (o' w1 s1 r1)
theorem R_tup {k : Nat} (h : PA X es (tA X.K gd Ex ms)) (hz : ms.length ≤ 1000 := by decide) : PE X (.Tuple es k pos) (tE X.K gd Ex (eTup ms)) := by
  refine PE.imp (pe_tup h) fun σ H Q h => ?_
  obtain ⟨w, h, aσ, wk, wg, rfl, r, s, o⟩ := h
  refine tA_bindL wk wg r s o fun ds h1 w1 vs s1 k1 g1 r1 sl1 rv hl o1 => ⟨by rw [rv.length, hl]; exact Nat.le_trans hz (by decide), fun p hp => ?_⟩
  exact out_put o1 r1 hp (rep_tup r1 hp rv)
theorem R_lst (h : PA X es (tA X.K gd Ex ms)) (hz : ms.length ≤ 1000 := by decide) : PE X (.List es pos) (tE X.K gd Ex (eLst ms)) := by
  refine PE.imp (pe_lst h) fun σ H Q h => ?_
  obtain ⟨w, h, aσ, wk, wg, rfl, r, s, o⟩ := h
  refine tA_bindL wk wg r s o fun ds h1 w1 vs s1 k1 g1 r1 sl1 rv hl o1 => ⟨by rw [rv.length, hl]; exact Nat.le_trans hz (by decide), fun p hp => ?_⟩
  exact out_put o1 r1 hp (rep_lst r1 hp rv)
/-- a new list, known to the heap -/
def Wd.ext (w : Wd) (p : Addr) (o : HO) : Wd := { w with H := upd w.H p o, ρ := w.ρ ++ [p] }
theorem xs_ext {w : Wd} {p : Addr} {o : HO} (hp : w.H p = none) : XS w (w.ext p o) :=
  ⟨rfl, rfl, rfl, List.prefix_append _ _, fun b u e n _ => ⟨by show upd w.H p o b = _; rw [upd_ne (ne_of_none e hp)]; exact e, fun hm => by
    rcases List.mem_append.mp hm with z | z
    · exact n z
    · rw [List.mem_singleton.mp z, hp] at e; cases e⟩⟩
theorem RelH.extO {w : Wd} {h : List O} (r : RelH w h) {p : Addr} {u : HO} {nob : O} (hp : w.H p = none) (new : ORep (w.ext p u) p nob) : RelH (w.ext p u) (h ++ [nob]) := by
  have a := xs_ext (o := u) hp
  have np : p ∉ w.ρ := (r.frz_new hp).2
  refine ⟨by show (w.ρ ++ [p]).length = _; rw [List.length_append, List.length_append, r.len]; rfl, ?_, fun i ob c e1 e2 => ?_, fun b hb => ?_, tabs_put r.tT hp⟩
  · show (w.ρ ++ [p]).Nodup
    rw [List.nodup_append]
    refine ⟨r.nd, by simp, fun x hx y hy => ?_⟩
    rw [List.mem_singleton] at hy
    subst hy
    exact fun z => np (z ▸ hx)
  · by_cases hi : i < h.length
    · rw [List.getElem?_append_left hi] at e1
      have e2 : (w.ρ ++ [p])[i]? = some c := e2
      rw [List.getElem?_append_left (by rw [r.len]; exact hi)] at e2
      exact (r.obj i ob c e1 e2).mv a.step fun v e _ => by show upd w.H p _ c = _; rw [upd_ne (ne_of_none e hp)]; exact e
    · have hi' : i = h.length := by
        have := (List.getElem?_eq_some_iff.mp e1).1
        rw [List.length_append] at this
        simp at this
        omega
      subst hi'
      rw [List.getElem?_append_right (Nat.le_refl _), Nat.sub_self] at e1
      have e2 : (w.ρ ++ [p])[h.length]? = some c := e2
      rw [List.getElem?_append_right (by rw [r.len]; exact Nat.le_refl _), r.len, Nat.sub_self] at e2
      cases e1
      cases e2
      exact new
  · obtain ⟨⟨v, e, n⟩, m⟩ := r.own b hb
    exact ⟨⟨v, by show upd w.H p _ b = _; rw [upd_ne (ne_of_none e hp)]; exact e, n⟩, fun hm => by
      rcases List.mem_append.mp hm with z | z
      · exact m z
      · rw [List.mem_singleton.mp z, hp] at e; cases e⟩
theorem RelH.ext {w : Wd} {h : List O} (r : RelH w h) {p : Addr} {ds : List D} {xs : List V} (hp : w.H p = none) (rs : Reps w ds xs) : RelH (w.ext p (.lst xs)) (h ++ [.lst ds]) :=
  r.extO hp ⟨xs, upd_same, rs.xs (xs_ext hp)⟩
theorem R_newref (h : PA X es (tA X.K gd Ex ms)) (hz : ms.length ≤ 1000 := by decide) : PE X (.List es pos) (tE X.K gd Ex (eNewRef ms)) := by
  refine PE.imp (pe_lst h) fun σ H Q h => ?_
  obtain ⟨w, h, aσ, wk, wg, rfl, r, s, o⟩ := h
  refine tA_bindL wk wg r s o fun ds h1 w1 vs s1 k1 g1 r1 sl1 rv hl o1 => ⟨by rw [rv.length, hl]; exact Nat.le_trans hz (by decide), fun p hp => ?_⟩
  exact o1 (w1.ext p (.lst vs)) (xs_ext hp) (r1.ext hp rv) _ (by
    rw [rep_ref_iff]
    exact ⟨p, by show (w1.ρ ++ [p])[h1.length]? = _; rw [List.getElem?_append_right (by rw [r1.len]; exact Nat.le_refl _), r1.len, Nat.sub_self]; rfl, rfl⟩)
/-! ### slices -/
theorem po_no : PO X none tNoPart := po_none
theorem R_slice {lo hi : Option Expr} {ml mh : Option E} {p2 : Pos} (ha : PE X a (tE X.K gd Ex ma))
    (hl : (lo = none ∧ ml = none) ∨ ∃ e m, lo = some e ∧ ml = some m ∧ PE X e (tE X.K gd Ex m)) (hh : (hi = none ∧ mh = none) ∨ ∃ e m, hi = some e ∧ mh = some m ∧ PE X e (tE X.K gd Ex m)) :
    PE X (.Subscript a (.Slice lo hi none p2) pos) (tE X.K gd Ex (eSlice ma ml mh)) := by
  -- the parts
  have part : ∀ {o : Option Expr} {m : Option E}, ((o = none ∧ m = none) ∨ ∃ e m', o = some e ∧ m = some m' ∧ PE X e (tE X.K gd Ex m')) →
      ∃ t, PO X o t ∧ ∀ {w : Wd} {h : List O} {σ : L2.St} {aσ : S} {k : Option Int → M D} {P : D → List O → Wd → Prop} {Q : Option Int → Hp → Prop}, w.K = X.K → w.gd = gd → RelH w h → SlE w σ aσ → Out w Ex ((optInt m aσ >>= k) h) P →
        (∀ i h1 w1, XS w w1 → w1.K = X.K → w1.gd = gd → RelH w1 h1 → SlE w1 σ aσ → Out w1 Ex (k i h1) P → Q i w1.H) → t σ w.H Q := by
    intro o m hm
    rcases hm with ⟨rfl, rfl⟩ | ⟨e, m', rfl, rfl, he⟩
    · exact ⟨_, po_none, fun {w h σ aσ k P Q} wk wg r s o hq => hq none h w (XS.refl w) wk wg r s o⟩
    · refine ⟨_, po_some he, fun {w h σ aσ k P Q} wk wg r s o hq => ?_⟩
      have z : (optInt (some m') aσ >>= k) h = (m' aσ >>= fun x => (match x with | .int i => ret (some i) | _ => no) >>= k) h := by
        show ((m' aσ h).next _).next k = (m' aσ h).next _
        cases m' aσ h <;> rfl
      rw [z] at o
      show tE X.K gd Ex m' σ w.H _
      refine tE_bind wk wg r s o fun d h1 w1 v s1 k1 g1 r1 sl1 rv o1 => ?_
      cases d with
      | int i =>
        rw [rep_int] at rv
        exact ⟨i, rv, hq (some i) h1 w1 s1 k1 g1 r1 sl1 o1⟩
      | _ => exact o1.elim
  obtain ⟨tl, pl, ql⟩ := part hl
  obtain ⟨th, ph, qh⟩ := part hh
  refine PE.imp (pe_slice (o_slice (gd := gd) (Ex := Ex)) ha pl ph) fun σ H Q h => ?_
  obtain ⟨w, h, aσ, wk, wg, rfl, r, s, o⟩ := h
  show tE X.K gd Ex ma σ w.H _
  refine tE_bind wk wg r s o fun d h1 w1 v s1 k1 g1 r1 sl1 rv o1 => ?_
  refine ql k1 g1 r1 sl1 o1 fun i h2 w2 s2 k2 g2 r2 sl2 o2 => ?_
  refine qh k2 g2 r2 sl2 o2 fun j h3 w3 s3 k3 g3 r3 sl3 o3 => ?_
  exact ⟨w3, h3, d, k3, g3, rfl, r3, Rep.step (s2.trans s3).step _ _ rv, o3⟩
/-! ### built-ins of one value -/
theorem R_callB {x : Str} {id : String} {f : D → M D} {p : Pos} (hc : CallR X (.builtin id) (c1 X.K gd Ex f)) (hg : Gl X x) (hm : X.mg x = none) (hv : bootBuiltins x = some (.builtin id)) (ha : PE X a (tE X.K gd Ex ma))
    (hn : x ≠ "__name__" := by decide) (hdb : (x == ("__debug__" : Str)) = false := by decide) (hs : starEach [a] X.env = (false, eval a X.env) :: starEach [] X.env := by rfl) : PE X (.Call (.Name x p) [a] [] pos) (tE X.K gd Ex (e1 f ma)) := by
  refine PE.imp (pe_callB hc hg hm hv (pa_cons ha pa_nil hs) hn hdb hs) fun σ H Q h => ?_
  exact tE_1 (R := fun x H1 Q => c1 X.K gd Ex f [x] H1 Q) h fun x H1 q => ⟨x, rfl, q⟩
theorem R_callTy {x : Str} {T : String} {f : D → M D} {p : Pos} (hc : CallR X (.type T) (c1 X.K gd Ex f)) (hg : Gl X x) (hm : X.mg x = none) (hv : bootBuiltins x = some (.type T)) (ha : PE X a (tE X.K gd Ex ma))
    (hn : x ≠ "__name__" := by decide) (hdb : (x == ("__debug__" : Str)) = false := by decide) (hs : starEach [a] X.env = (false, eval a X.env) :: starEach [] X.env := by rfl) : PE X (.Call (.Name x p) [a] [] pos) (tE X.K gd Ex (e1 f ma)) := by
  refine PE.imp (pe_callTy hc hg hm hv (pa_cons ha pa_nil hs) hn hdb hs) fun σ H Q h => ?_
  exact tE_1 (R := fun x H1 Q => c1 X.K gd Ex f [x] H1 Q) h fun x H1 q => ⟨x, rfl, q⟩
end
end Cf
set_option Elab.async false
set_option linter.all false
set_option maxRecDepth 100000
set_option maxHeartbeats 2000000
/-! CfF: what is walked: lists, tuples, texts, ranges, zip of any two. -/
namespace Cf
open PySem PySem.Spec PyProof.Rows L2

/-- a source of items -/
inductive Src where
  | l (a : Addr) (xs : List V)
  | t (a : Addr) (xs : List V)
  | s (x : Str) (tk : Tok)
def Src.at_ (K : PySem.W.Frag) : Src → Hp → Prop
  | .l a xs, H => SqL K H a xs
  | .t a xs, H => SqT K H a xs
  | .s _ _, _ => True
def Src.its : Src → List V
  | .l _ xs => xs
  | .t _ xs => xs
  | .s x _ => x.cps.toList.map fun c => .str ⟨#[c]⟩
def Src.old : Src → List Addr
  | .l a _ => [a]
  | .t a _ => [a]
  | .s _ _ => []
def Src.tn (it : Addr) : Src → Nat → Heap → Prop
  | .l a _, i, h => h.IsListIter it a i
  | .t a _, i, h => h.IsTupleIter it a i
  | .s x tk, i, h => h.IsStrIter it (strIterType x) x tk i
def Src.val : Src → Value
  | .l a _ => .ref a
  | .t a _ => .ref a
  | .s x tk => .str x tk
def Src.o : Src → Obj
  | .l a _ => { cls := .type "list_iterator", data := .fields #[.ref a, .int 0 0] }
  | .t a _ => { cls := .type "tuple_iterator", data := .fields #[.ref a, .int 0 0] }
  | .s x tk => { cls := .type (strIterType x), data := .fields #[.str x tk, .int 0 0] }
theorem Src.tn_obj {r : Src} {it : Addr} {i : Nat} {h : Heap} (t : r.tn it i h) : ∃ o, h.get? it = some o ∧ ∀ v, o.data ≠ .cell v := by
  cases r with
  | l a xs => obtain ⟨o, e, _, d⟩ := t; exact ⟨o, e, fun v q => by rw [d] at q; cases q⟩
  | t a xs => obtain ⟨o, e, _, d⟩ := t; exact ⟨o, e, fun v q => by rw [d] at q; cases q⟩
  | s x tk => obtain ⟨o, e, _, d⟩ := t; exact ⟨o, e, fun v q => by rw [d] at q; cases q⟩
theorem Src.tn_keep {r : Src} {it : Addr} {i : Nat} {h h' : Heap} (t : r.tn it i h) (k : ∀ o, h.get? it = some o → h'.get? it = some o) : r.tn it i h' := by
  cases r with
  | l a xs => obtain ⟨o, e, q⟩ := t; exact ⟨o, k o e, q⟩
  | t a xs => obtain ⟨o, e, q⟩ := t; exact ⟨o, k o e, q⟩
  | s x tk => obtain ⟨o, e, q⟩ := t; exact ⟨o, k o e, q⟩
/-- the library's view of a source, as it stands -/
theorem Src.draws {X : Cx} {pins : List (Addr × Obj)} {σ : L2.St} {H : Hp} {s : Shared} (I : Inv X pins σ H s) {A : Around} (hh : A.handled = none) {r : Src} (ha : r.at_ X.K H) {it : Addr} {i : Nat} (hne : it ∉ r.old) (t : r.tn it i s.heap) :
    ∃ (P : Nat → Value → Prop) (St : Nat → Heap → Prop), Draws X.prog X.w A it (it :: r.old) r.its.length P St ∧ St i s.heap ∧ (∀ j x, P j x → ∃ v, r.its[j]? = some v ∧ RelV v x) ∧ ∀ j h, St j h → r.tn it j h := by
  cases r with
  | l a xs =>
    obtain ⟨its, rv, p, hz⟩ := I.list ha
    have hn : a ≠ it := fun z => hne (by rw [← z]; exact List.mem_cons_self)
    have D := Draws.list (prog := X.prog) (w := X.w) hh it a hn its.toArray
    rw [show its.toArray.size = xs.length by rw [List.size_toArray, rv.length]] at D
    refine ⟨_, _, D, ⟨t, p.isList⟩, fun j x hx => ?_, fun j h st => st.1⟩
    have hx' : its[j]? = some x := by simpa using hx
    have hj : j < xs.length := by rw [rv.length]; exact (List.getElem?_eq_some_iff.mp hx').1
    obtain ⟨u, hu, ru⟩ := rv.get (List.getElem?_eq_getElem hj)
    rw [hx'] at hu; cases hu
    exact ⟨_, List.getElem?_eq_getElem hj, ru⟩
  | t a xs =>
    obtain ⟨its, rv, p, hz⟩ := I.tuple ha
    have hn : a ≠ it := fun z => hne (by rw [← z]; exact List.mem_cons_self)
    have D := Draws.tuple (prog := X.prog) (w := X.w) hh it a hn its.toArray
    rw [show its.toArray.size = xs.length by rw [List.size_toArray, rv.length]] at D
    refine ⟨_, _, D, ⟨t, p⟩, fun j x hx => ?_, fun j h st => st.1⟩
    have hx' : its[j]? = some x := by simpa using hx
    have hj : j < xs.length := by rw [rv.length]; exact (List.getElem?_eq_some_iff.mp hx').1
    obtain ⟨u, hu, ru⟩ := rv.get (List.getElem?_eq_getElem hj)
    rw [hx'] at hu; cases hu
    exact ⟨_, List.getElem?_eq_getElem hj, ru⟩
  | s x tk =>
    have D := Draws.text (prog := X.prog) (w := X.w) hh it x tk
    have e : (Src.s x tk).its.length = x.cps.size := by simp [Src.its]
    rw [← e] at D
    refine ⟨_, _, D, t, fun j y hy => ?_, fun j h st => st⟩
    obtain ⟨c, u, hc, rfl⟩ := hy
    have hc' : x.cps.toList[j]? = some c := by simpa using hc
    exact ⟨.str ⟨#[c]⟩, by show (x.cps.toList.map _)[j]? = _; rw [List.getElem?_map, hc']; rfl, u, rfl⟩

/-! ### zip -/
def ItZ (K : PySem.W.Frag) (r q : Src) : It :=
  ⟨fun i H => r.at_ K H ∧ q.at_ K H ∧ i < r.its.length ∧ i < q.its.length,
    fun i H v H' => ∃ T x y, v = .ref T ∧ H T = none ∧ H' = upd H T (.tup [x, y]) ∧ r.its[i]? = some x ∧ q.its[i]? = some y,
    fun i H => r.at_ K H ∧ q.at_ K H ∧ i ≤ r.its.length ∧ i ≤ q.its.length ∧ (i = r.its.length ∨ i = q.its.length)⟩
structure Sep (r q : Src) (z TI TO i1 i2 : Addr) : Prop where
  s : ZipSep2 z TI TO i1 i2 (i1 :: r.old) (i2 :: q.old)
  n1 : i1 ∉ r.old
  n2 : i2 ∉ q.old
theorem turn_zipG {P : Program} {w : World} {K : PySem.W.Frag} {elts : List Expr} {kk : Nat} {tpos : Pos} {r q : Src} {z TI TO i1 i2 : Addr} (D : Sep r q z TI TO i1 i2) :
    Turn P w K (.Tuple elts kk tpos) (ItZ K r q) [z, TI, TO, i1, i2] z (fun i h => IsZip h z TI TO .none ∧ IsTupOf2 h TI (.ref i1) (.ref i2) ∧ (∃ x y, IsTupOf2 h TO x y) ∧ r.tn i1 i h ∧ q.tn i2 i h) where
  mem := by simp
  obj := fun i h st c hc => by
    obtain ⟨hz, hTI, ⟨x, y, hTO⟩, h1, h2⟩ := st
    have e' : c = z ∨ c = TI ∨ c = TO ∨ c = i1 ∨ c = i2 := by simpa using hc
    rcases e' with e | e | e | e | e
    · rw [e]; exact ⟨_, hz, fun v q => nomatch q⟩
    · rw [e]; exact ⟨_, hTI, fun v q => nomatch q⟩
    · rw [e]; exact ⟨_, hTO, fun v q => nomatch q⟩
    · rw [e]; exact Src.tn_obj h1
    · rw [e]; exact Src.tn_obj h2
  keep := fun i h h' st k => by
    obtain ⟨hz, hTI, ⟨x, y, hTO⟩, h1, h2⟩ := st
    exact ⟨k z (by simp) _ hz, k TI (by simp) _ hTI, ⟨x, y, k TO (by simp) _ hTO⟩, Src.tn_keep h1 fun o e => k i1 (by simp) o e, Src.tn_keep h2 fun o e => k i2 (by simp) o e⟩
  item := by
    intro X hP hw hK hc i pins s σ H E I hf st hg
    subst hP hw hK
    obtain ⟨hz, hTI, ⟨x0, y0, hTO⟩, h1, h2⟩ := st
    obtain ⟨g1, g2, l1, l2⟩ := hg
    have hh : X.A.in1.handled = none := I.ok.hd hc
    obtain ⟨P1, St1, D1, st1, v1, b1⟩ := Src.draws I hh g1 D.n1 h1
    obtain ⟨P2, St2, D2, st2, v2, b2⟩ := Src.draws I hh g2 D.n2 h2
    have hzl : z < s.heap.objs.size := Heap.lt_size hz
    refine wpAny_pyNext_zipD2_item D.s D1 D2 hz hTI hTO st1 st2 l1 l2 fun u1 u2 h' tk p1 p2 z' TO' s1 s2 hT hsz hk => ?_
    obtain ⟨x, ex, rx⟩ := v1 i u1 p1
    obtain ⟨y, ey, ry⟩ := v2 i u2 p2
    refine ⟨_, rfl, wpAny_letOwnedTupleGo_zip (s := { s with heap := h', toks := tk }) z' fun h'' z'' sb => ?_⟩
    have hT2 : h''.get? s.heap.objs.size = some { cls := .type "tuple", data := .seq #[u1, u2] } := (sb.2 _ (Nat.ne_of_gt hzl)).trans hT
    have new : ObjOk X.prog X.w (upd H s.heap.objs.size (.tup [x, y])) h'' s.heap.objs.size (.tup [x, y]) :=
      ⟨by show 2 ≤ sizeLine; decide, [u1, u2], .cons rx (.cons ry .nil), ⟨_, hT2, rfl, _, rfl⟩⟩
    have I1 : Inv X pins σ (upd H s.heap.objs.size (.tup [x, y])) { s with heap := h'', toks := tk } :=
      I.turnedNew (t' := tk) (ch := [z, TI, TO, i1, i2]) (fun c o hb e => (sb.2 c (fun q' => hb (by simp [q']))).trans (hk c o (fun q' => hb (by simp [q'])) (fun q' => hb (by simp [q'])) (fun q' => hb (by simp [q'])) (fun q' => hb (by simp [q'])) e)) hf (Nat.le_refl _) new
    refine ⟨.ref s.heap.objs.size, _, I1, rfl, ⟨_, x, y, rfl, I.hok.fresh (Nat.le_refl _), rfl, ex, ey⟩, ⟨z'', ?_, ⟨u1, u2, ?_⟩, ?_, ?_⟩, fun c hcm => ?_⟩
    · exact (sb.2 _ D.s.TIz).trans (hk _ _ D.s.TIz D.s.TITO D.s.TIi1 D.s.TIi2 hTI)
    · exact (sb.2 _ D.s.TOz).trans TO'
    · exact Src.tn_keep (b1 _ _ s1) fun o e => (sb.2 _ D.s.zi1.symm).trans e
    · exact Src.tn_keep (b2 _ _ s2) fun o e => (sb.2 _ D.s.zi2.symm).trans e
    · have hlt : c < s.heap.objs.size := by
        have e' : c = z ∨ c = TI ∨ c = TO ∨ c = i1 ∨ c = i2 := by simpa using hcm
        rcases e' with e | e | e | e | e
        · rw [e]; exact hzl
        · rw [e]; exact Heap.lt_size hTI
        · rw [e]; exact Heap.lt_size hTO
        · rw [e]; obtain ⟨_, e1, _⟩ := Src.tn_obj h1; exact Heap.lt_size e1
        · rw [e]; obtain ⟨_, e1, _⟩ := Src.tn_obj h2; exact Heap.lt_size e1
      show upd H _ _ c = none
      rw [upd_ne (Nat.ne_of_lt hlt)]
      exact (hf c hcm).1
  done := by
    intro X hP hw hK hc i pins s σ H E I hf st hg
    subst hP hw hK
    obtain ⟨hz, hTI, ⟨x0, y0, hTO⟩, h1, h2⟩ := st
    obtain ⟨g1, g2, l1, l2, l3⟩ := hg
    have hh : X.A.in1.handled = none := I.ok.hd hc
    obtain ⟨P1, St1, D1, st1, v1, b1⟩ := Src.draws I hh g1 D.n1 h1
    obtain ⟨P2, St2, D2, st2, v2, b2⟩ := Src.draws I hh g2 D.n2 h2
    exact wpAny_pyNext_zipD2_end D.s D1 D2 hz hTI hTO st1 st2 l1 l2 l3 fun h' tk hk => ⟨rfl, I.turnedL (t' := tk) (ch := [z, TI, TO, i1, i2]) (fun c o hb e =>
      hk c o (fun q' => hb (by simp [q'])) (fun q' => hb (by simp [q'])) (fun q' => hb (by simp [q'])) (fun q' => hb (by simp [q'])) e) hf⟩
  self := fun A i s Q E st h => wpAny_pyIter_zip st.1 h
theorem Src.begins {X : Cx} {pins : List (Addr × Obj)} {σ : L2.St} {H : Hp} {s : Shared} (I : Inv X pins σ H s) {r : Src} (ha : r.at_ X.K H) : ∃ Hc, Begins r.val r.o Hc ∧ Hc s.heap ∧ ∀ b ∈ r.old, b < s.heap.objs.size := by
  cases r with
  | l a xs =>
    obtain ⟨its, rv, p, hz⟩ := I.list ha
    exact ⟨_, begins_list a its.toArray, p.isList, fun b hb => by rw [List.mem_singleton.mp hb]; exact p.lt⟩
  | t a xs =>
    obtain ⟨its, rv, p, hz⟩ := I.tuple ha
    obtain ⟨o, e, _⟩ := id p
    exact ⟨_, begins_tuple a its.toArray, p, fun b hb => by rw [List.mem_singleton.mp hb]; exact Heap.lt_size e⟩
  | s x tk => exact ⟨_, begins_text x tk, trivial, fun b hb => nomatch hb⟩
theorem Src.tn0 {r : Src} {it : Addr} {h : Heap} (e : h.get? it = some r.o) : r.tn it 0 h := by
  cases r <;> exact ⟨_, e, rfl, rfl⟩
def iZipG (K : PySem.W.Frag) (ta : TA) : TI := fun σ H R => ta σ H fun vs H1 => ∀ us : List Value, Vals vs us → ∃ r q : Src, us = [r.val, q.val] ∧ r.at_ K H1 ∧ q.at_ K H1 ∧ R (ItZ K r q) H1
theorem pi_zipG {X : Cx} {e e2 : Expr} {ta : TA} {p pos tpos : Pos} {elts : List Expr} {kk : Nat} (hg : Gl X "zip") (hm : X.mg "zip" = none) (ha : PA X [e, e2] ta)
    (hs : starEach [e, e2] X.env = (false, eval e X.env) :: starEach [e2] X.env := by rfl) (hpl : (backTo pos (starEach [e2] X.env)).any (·.1) = false := by rfl) :
    PI X (.Tuple elts kk tpos) (.Call (.Name "zip" p) [e, e2] [] pos) (iZipG X.K ta) := by
  refine ⟨fun pins s σ H R I h => ?_⟩
  refine Call_ (ld_blt I hg hm PyProof.Rows.boot_zip (PyProof.Rows.callWith_type1 (thn (ha.run pos pins s σ H _ I h) fun us s1 ⟨vs, H1, I1, rv, q1⟩ => ?_) hs hpl))
  obtain ⟨r, q, e, hr, hq, hR⟩ := q1 us rv
  subst e
  obtain ⟨Hc1, B1, k1, o1⟩ := Src.begins I1 hr
  obtain ⟨Hc2, B2, k2, o2⟩ := Src.begins I1 hq
  refine zip_begins2 B1 B2 k1 k2 fun h' hz hTI hTO g1 g2 hsz hk => wpAny_pyIter_zip hz ?_
  have I2 : Inv X pins σ H1 { s1 with heap := h' } := I1.kept (t' := s1.toks) hk
  refine ⟨s1.heap.objs.size + 4, [s1.heap.objs.size + 4, s1.heap.objs.size + 2, s1.heap.objs.size + 3, s1.heap.objs.size, s1.heap.objs.size + 1], _, _, H1, rfl, I2, turn_zipG ⟨zip_sep2 o1 o2, fun z => Nat.lt_irrefl _ (o1 _ z), fun z => absurd (o2 _ z) (Nat.not_lt.mpr (Nat.le_add_right _ _))⟩, ⟨hz, hTI, ⟨_, _, hTO⟩, Src.tn0 g1, Src.tn0 g2⟩, fun c hcm => ?_, hR⟩
  have e' : c = s1.heap.objs.size + 4 ∨ c = s1.heap.objs.size + 2 ∨ c = s1.heap.objs.size + 3 ∨ c = s1.heap.objs.size ∨ c = s1.heap.objs.size + 1 := by simpa using hcm
  have hle : s1.heap.objs.size ≤ c := by
    rcases e' with z | z | z | z | z
    · rw [z]; exact Nat.le_add_right _ _
    · rw [z]; exact Nat.le_add_right _ _
    · rw [z]; exact Nat.le_add_right _ _
    · rw [z]; exact Nat.le_refl _
    · rw [z]; exact Nat.le_add_right _ _
  exact I1.fpOk hle (I1.hok.fresh hle)

/-! ### one source -/
def Src.it (K : PySem.W.Frag) : Src → It
  | .l a _ => Itl K a
  | .t a _ => Itt K a
  | .s x _ => Its x
def iSrc (K : PySem.W.Frag) (te : TE) : TI := fun σ H R => te σ H fun v H1 => ∀ u, RelV v u → ∃ r : Src, u = r.val ∧ r.at_ K H1 ∧ R (r.it K) H1
theorem pi_src {X : Cx} {tg e : Expr} {te : TE} (he : PE X e te) : PI X tg e (iSrc X.K te) := by
  refine ⟨fun pins s σ H R I h => ?_⟩
  refine thn (he.run pins s σ H _ I h) fun v s1 ⟨x, H1, I1, rx, q⟩ => ?_
  obtain ⟨r, rfl, hr, hR⟩ := q v rx
  have fin : ∀ (o : Obj) (tn : Nat → Heap → Prop) (J : It), Turn X.prog X.w X.K tg J [s1.heap.objs.size] s1.heap.objs.size tn → tn 0 (s1.heap.push o) → R J H1 → PIE X pins σ tg R (.ref s1.heap.objs.size) { s1 with heap := s1.heap.push o } := fun o tn J T t0 hq => by
    refine ⟨s1.heap.objs.size, [s1.heap.objs.size], tn, J, H1, rfl, I1.kept (t' := s1.toks) fun b u e => Heap.get?_push_of_some _ e, T, t0, fun b hb => ?_, hq⟩
    rw [List.mem_singleton] at hb
    subst hb
    exact I1.fpOk (Nat.le_refl _) (I1.hok.fresh (Nat.le_refl _))
  cases r with
  | l a xs =>
    obtain ⟨its, rv, p, hz⟩ := I1.list hr
    exact wpAny_pyIter_list p.isList (fin _ _ _ (turn_list a _) ⟨_, Heap.get?_push_size _ rfl, rfl, rfl⟩ hR)
  | t a xs =>
    obtain ⟨its, rv, p, hz⟩ := I1.tuple hr
    exact wpAny_pyIter_tuple (show s1.heap.IsTuple a its.toArray from p) (fin _ _ _ (turn_tuple a _) ⟨_, Heap.get?_push_size _ rfl, rfl, rfl⟩ hR)
  | s x tk =>
    refine wpAny_pyIter_strU (fin _ _ _ (turn_str _ x tk (strIterType x) ?_) ⟨_, Heap.get?_push_size _ rfl, rfl, rfl⟩ hR)
    unfold strIterType
    split
    · exact .inl rfl
    · exact .inr rfl

/-! ### walks of data -/
structure WalkD (w0 : Wd) (ds : List D) (J : It) : Prop where
  go : ∀ (i : Nat) (w : Wd), Step w0 w → i < ds.length → J.go i w.H
  stop : ∀ (w : Wd), Step w0 w → J.stop ds.length w.H
  yld : ∀ (i : Nat) (w : Wd) (h : List O) (x : V) (H' : Hp), Step w0 w → RelH w h → i < ds.length → J.yld i w.H x H' → ∃ w' d, XS w w' ∧ w'.H = H' ∧ RelH w' h ∧ ds[i]? = some d ∧ Rep w' d x
/-- the source of a value -/
theorem src_of {w : Wd} {d : D} {ds : List D} {v : V} {u : Value} (h : Rep w d v) (e : itemsOf d = some ds) (rv : RelV v u) : ∃ r : Src, u = r.val ∧ Reps w ds r.its ∧ ∀ w', Step w w' → r.at_ w'.K w'.H := by
  cases d with
  | lst xs =>
    cases e
    rw [rep_lst_iff] at h
    obtain ⟨a, xs, rfl, t, r⟩ := h
    cases rv
    exact ⟨.l a xs, rfl, r, fun w' s => (t.step s).sq⟩
  | tup xs =>
    cases e
    rw [rep_tup_iff] at h
    obtain ⟨a, xs, rfl, t, r⟩ := h
    cases rv
    exact ⟨.t a xs, rfl, r, fun w' s => (t.step s).sq⟩
  | str z =>
    cases e
    rw [rep_str] at h
    obtain ⟨rfl, ok⟩ := h
    obtain ⟨tk, rfl⟩ := rv
    refine ⟨.s _ tk, rfl, ?_, fun _ _ => trivial⟩
    show Reps w (signs z) (z.map fun c => V.str ⟨#[c]⟩)
    have go : ∀ l : List Nat, (∀ c ∈ l, c ∈ z) → Reps w (signs l) (l.map fun c => V.str ⟨#[c]⟩) := by
      intro l
      induction l with
      | nil => intro _; exact .nil
      | cons c l ih => intro hm; exact .cons (by rw [rep_str]; exact ⟨rfl, ok.one (hm c List.mem_cons_self)⟩) (ih fun d hd => hm d (List.mem_cons_of_mem _ hd))
    exact go z fun _ h => h
  | _ => cases e
theorem walk_src {w : Wd} {ds : List D} {r : Src} (rs : Reps w ds r.its) (ha : ∀ w', Step w w' → r.at_ w'.K w'.H) : WalkD w ds (r.it w.K) := by
  have hl := rs.length
  have key : ∀ (i : Nat) (w1 : Wd) (h : List O) (x : V), Step w w1 → RelH w1 h → r.its[i]? = some x → ∃ w' d, XS w1 w' ∧ w'.H = w1.H ∧ RelH w' h ∧ ds[i]? = some d ∧ Rep w' d x := by
    intro i w1 h x s1 r1 e
    have hi : i < ds.length := by rw [← hl]; exact (List.getElem?_eq_some_iff.mp e).1
    obtain ⟨y, e1, e2⟩ := rs.get (List.getElem?_eq_getElem hi)
    rw [e] at e1; cases e1
    exact ⟨w1, ds[i], XS.refl w1, rfl, r1, List.getElem?_eq_getElem hi, Rep.step s1 _ _ e2⟩
  cases r with
  | l a xs =>
    have hl : xs.length = ds.length := hl
    have hq : ∀ w', Step w w' → SqL w.K w'.H a xs := fun w' s => by have q : SqL w'.K w'.H a xs := ha w' s; rw [s.k] at q; exact q
    exact ⟨fun i w' s hi => ⟨xs, _, hq w' s, List.getElem?_eq_getElem (by rw [hl]; exact hi)⟩, fun w' s => ⟨xs, hq w' s, by rw [hl]; exact Nat.le_refl _⟩, fun i w' h x H' s r1 hi0 y => by
      obtain ⟨rfl, y⟩ := y
      exact key i w' h x s r1 (y xs (hq w' s))⟩
  | t a xs =>
    have hl : xs.length = ds.length := hl
    have hq : ∀ w', Step w w' → SqT w.K w'.H a xs := fun w' s => by have q : SqT w'.K w'.H a xs := ha w' s; rw [s.k] at q; exact q
    exact ⟨fun i w' s hi => ⟨xs, _, hq w' s, List.getElem?_eq_getElem (by rw [hl]; exact hi)⟩, fun w' s => ⟨xs, hq w' s, by rw [hl]; exact Nat.le_refl _⟩, fun i w' h x H' s r1 hi0 y => by
      obtain ⟨rfl, y⟩ := y
      exact key i w' h x s r1 (y xs (hq w' s))⟩
  | s z tk =>
    have e : z.cps.size = ds.length := by rw [← hl]; simp [Src.its]
    exact ⟨fun i w' s hi => by show i < z.cps.size; rw [e]; exact hi, fun w' s => by show z.cps.size ≤ ds.length; rw [e]; exact Nat.le_refl _, fun i w' h x H' s r1 hi0 y => by
      obtain ⟨rfl, c, hc, rfl⟩ := y
      exact key i w' h _ s r1 (by
        have hc' : z.cps.toList[i]? = some c := by simpa using hc
        show (z.cps.toList.map _)[i]? = _
        rw [List.getElem?_map, hc']; rfl)⟩
theorem zipD_len : ∀ (a b : List D), (zipD a b).length = min a.length b.length
  | [], _ => by simp [zipD]
  | _ :: _, [] => by simp [zipD]
  | x :: xs, y :: ys => by rw [zipD, List.length_cons, zipD_len xs ys, List.length_cons, List.length_cons]; omega
theorem zipD_get : ∀ (a b : List D) (i : Nat) (x y : D), a[i]? = some x → b[i]? = some y → (zipD a b)[i]? = some (.tup [x, y])
  | [], _, _, _, _, h, _ => by simp at h
  | _ :: _, [], _, _, _, _, h => by simp at h
  | x :: xs, y :: ys, 0, _, _, h, k => by cases h; cases k; rfl
  | x :: xs, y :: ys, i + 1, u, v, h, k => by rw [zipD]; simpa using zipD_get xs ys i u v (by simpa using h) (by simpa using k)
theorem walk_zip2 {w : Wd} {ds es : List D} {r q : Src} (rs : Reps w ds r.its) (qs : Reps w es q.its) (ha : ∀ w', Step w w' → r.at_ w'.K w'.H) (hb : ∀ w', Step w w' → q.at_ w'.K w'.H) : WalkD w (zipD ds es) (ItZ w.K r q) := by
  have l1 := rs.length
  have l2 := qs.length
  have h1 : ∀ w', Step w w' → r.at_ w.K w'.H := fun w' s => by have z := ha w' s; rw [s.k] at z; exact z
  have h2 : ∀ w', Step w w' → q.at_ w.K w'.H := fun w' s => by have z := hb w' s; rw [s.k] at z; exact z
  refine ⟨fun i w' s hi => ?_, fun w' s => ?_, fun i w' h x H' s r1 hi0 y => ?_⟩
  · rw [zipD_len] at hi
    exact ⟨h1 w' s, h2 w' s, by omega, by omega⟩
  · rw [zipD_len]
    exact ⟨h1 w' s, h2 w' s, by omega, by omega, by omega⟩
  · obtain ⟨T, x, y, rfl, hT, rfl, e1, e2⟩ := y
    have i1 : i < ds.length := by rw [← l1]; exact (List.getElem?_eq_some_iff.mp e1).1
    have i2 : i < es.length := by rw [← l2]; exact (List.getElem?_eq_some_iff.mp e2).1
    obtain ⟨x', a1, a2⟩ := rs.get (List.getElem?_eq_getElem i1)
    obtain ⟨y', b1, b2⟩ := qs.get (List.getElem?_eq_getElem i2)
    rw [e1] at a1; cases a1
    rw [e2] at b1; cases b1
    exact ⟨w'.put T (.tup [x, y]), .tup [ds[i], es[i]], xs_put hT, rfl, r1.put hT, zipD_get _ _ i _ _ (List.getElem?_eq_getElem i1) (List.getElem?_eq_getElem i2), rep_tup r1 hT (.cons (Rep.step s _ _ a2) (.cons (Rep.step s _ _ b2) .nil))⟩
theorem walk_rng {w : Wd} (lo hi : Int) : WalkD w (rangeD lo hi) (Itr lo (hi - lo).toNat) := by
  have e : (rangeD lo hi).length = (hi - lo).toNat := by simp [rangeD]
  refine ⟨fun i w' s h => by rw [e] at h; exact h, fun w' s => by rw [e]; exact Nat.le_refl _, fun i w' h x H' s r1 hi0 y => ?_⟩
  obtain ⟨rfl, rfl⟩ := y
  rw [e] at hi0
  exact ⟨w', .int (lo + (i : Int)), XS.refl w', rfl, r1, by simp [rangeD, hi0], by rw [rep_int]⟩

/-! ### readings of what is walked -/
def tI (K : PySem.W.Frag) (gd : Gd) (Ex : XK) (m : I) : TI := fun σ H R => ∃ w h aσ, w.K = K ∧ w.gd = gd ∧ w.H = H ∧ RelH w h ∧ SlE w σ aσ ∧ Out w Ex (m aσ h) (fun ds _ w' => ∀ J, WalkD w' ds J → R J w'.H)
theorem PI.imp {X : Cx} {tg e : Expr} {t t' : TI} (h : PI X tg e t) (i : ∀ σ H Q, t' σ H Q → t σ H Q) : PI X tg e t' := ⟨fun pins s σ H Q I q => h.run pins s σ H Q I (i σ H Q q)⟩
theorem out_optL {w : Wd} {Ex : XK} {x : Option (List D)} {h : List O} {P : List D → List O → Wd → Prop} (o : Out w Ex ((ofOpt x : M (List D)) h) P) : ∃ d, x = some d ∧ Out w Ex (ret d h) P := by
  cases x with
  | none => exact o.elim
  | some d => exact ⟨d, rfl, o⟩
section
variable {X : Cx} {gd : Gd} {Ex : XK} {a b c tg : Expr} {ma mb : E} {pos : Pos}
theorem I_src (ha : PE X a (tE X.K gd Ex ma)) : PI X tg a (tI X.K gd Ex (iOf ma)) := by
  refine PI.imp (pi_src ha) fun σ H R h => ?_
  obtain ⟨w, h, aσ, wk, wg, rfl, r, s, o⟩ := h
  unfold iSrc
  refine tE_bind wk wg r s o fun d h1 w1 v s1 k1 g1 r1 sl1 rv o1 u ru => ?_
  obtain ⟨ds, e, o2⟩ := out_optL o1
  obtain ⟨rr, rfl, rs, ha⟩ := src_of rv e ru
  refine ⟨rr, rfl, by have z := ha w1 (Step.refl w1); rw [k1] at z; exact z, ?_⟩
  have q := out_ret o2 r1 (rr.it w1.K) (walk_src rs ha)
  rw [k1] at q
  exact q
theorem small_of {i : Int} (h : small i = true) : -(2 ^ 62) ≤ i ∧ i < 2 ^ 62 := by
  unfold small at h
  rw [Bool.and_eq_true, decide_eq_true_eq, decide_eq_true_eq] at h
  exact h
theorem out_guardL {c : Prop} [Decidable c] {w : Wd} {a : M (List D)} {h : List O} {P : List D → List O → Wd → Prop} (o : Out w Ex ((if c then a else no) h) P) : c ∧ Out w Ex (a h) P := out_guard o
theorem I_range1 {p : Pos} (hg : Gl X "range") (hm : X.mg "range" = none) (ha : PE X a (tE X.K gd Ex ma)) (hs : starEach [a] X.env = [(false, eval a X.env)] := by rfl) : PI X tg (.Call (.Name "range" p) [a] [] pos) (tI X.K gd Ex (iRange1 ma)) := by
  refine PI.imp (pi_range1 hg hm (pa_cons ha pa_nil (by exact hs)) hs) fun σ H R h => ?_
  obtain ⟨w, h, aσ, wk, wg, rfl, r, s, o⟩ := h
  show tE X.K gd Ex ma σ w.H _
  refine tE_bind wk wg r s o fun d h1 w1 v s1 k1 g1 r1 sl1 rv o1 => ?_
  cases d with
  | int i =>
    obtain ⟨hl, o2⟩ := out_guardL (a := ret (rangeD 0 i)) o1
    rw [rep_int] at rv
    subst rv
    obtain ⟨b1, b2⟩ := small_of hl
    refine ⟨i, rfl, b1, b2, ?_⟩
    have q := out_ret o2 r1 _ (walk_rng 0 i)
    rw [Int.sub_zero] at q
    exact q
  | _ => exact o1.elim
theorem I_range2 {p : Pos} (hg : Gl X "range") (hm : X.mg "range" = none) (ha : PE X a (tE X.K gd Ex ma)) (hb : PE X b (tE X.K gd Ex mb)) (hs : starEach [a, b] X.env = [(false, eval a X.env), (false, eval b X.env)] := by rfl) (hs2 : starEach [b] X.env = [(false, eval b X.env)] := by rfl) :
    PI X tg (.Call (.Name "range" p) [a, b] [] pos) (tI X.K gd Ex (iRange2 ma mb)) := by
  refine PI.imp (pi_range2 hg hm (pa_cons ha (pa_cons hb pa_nil (by exact hs2)) (by rw [hs, hs2])) hs hs2) fun σ H R h => ?_
  obtain ⟨w, h, aσ, wk, wg, rfl, r, s, o⟩ := h
  unfold L2.iRng2 L2.tCons
  refine tE_bind wk wg r s o fun d h1 w1 v s1 k1 g1 r1 sl1 rv o1 => ?_
  refine tE_bind k1 g1 r1 sl1 o1 fun d2 h2 w2 v2 s2 k2 g2 r2 sl2 rv2 o2 => ?_
  cases d with
  | int i =>
    cases d2 with
    | int j =>
      obtain ⟨hl, o3⟩ := out_guardL (a := ret (rangeD i j)) o2
      rw [rep_int] at rv rv2
      subst rv rv2
      obtain ⟨b1, b2⟩ := small_of hl.1
      obtain ⟨b3, b4⟩ := small_of hl.2
      exact ⟨i, j, rfl, ⟨b1, b2, b3, b4⟩, out_ret o3 r2 _ (walk_rng i j)⟩
    | _ => exact o2.elim
  | _ => exact o2.elim
theorem I_zip {p tpos : Pos} {elts : List Expr} {kk : Nat} (hg : Gl X "zip") (hm : X.mg "zip" = none) (ha : PE X a (tE X.K gd Ex ma)) (hb : PE X b (tE X.K gd Ex mb))
    (hs : starEach [a, b] X.env = (false, eval a X.env) :: starEach [b] X.env := by rfl) (hs2 : starEach [b] X.env = (false, eval b X.env) :: starEach [] X.env := by rfl) (hpl : (backTo pos (starEach [b] X.env)).any (·.1) = false := by rfl) :
    PI X (.Tuple elts kk tpos) (.Call (.Name "zip" p) [a, b] [] pos) (tI X.K gd Ex (iZip ma mb)) := by
  refine PI.imp (pi_zipG hg hm (pa_cons ha (pa_cons hb pa_nil hs2) hs) hs hpl) fun σ H R h => ?_
  obtain ⟨w, h, aσ, wk, wg, rfl, r, s, o⟩ := h
  unfold iZipG L2.tCons
  refine tE_bind wk wg r s o fun d h1 w1 v s1 k1 g1 r1 sl1 rv o1 => ?_
  refine tE_bind k1 g1 r1 sl1 o1 fun d2 h2 w2 v2 s2 k2 g2 r2 sl2 rv2 o2 us hus => ?_
  cases e1 : itemsOf d with
  | none => rw [e1] at o2; exact o2.elim
  | some xs =>
    cases e2 : itemsOf d2 with
    | none => rw [e1, e2] at o2; exact o2.elim
    | some ys =>
      rw [e1, e2] at o2
      have rv' := Rep.step s2.step _ _ rv
      obtain ⟨u1, u2, rfl, q1, q2⟩ : ∃ u1 u2, us = [u1, u2] ∧ RelV v u1 ∧ RelV v2 u2 := by
        cases hus with
        | cons p q => cases q with
          | cons p' q' => cases q'; exact ⟨_, _, rfl, p, p'⟩
      obtain ⟨ra, rfl, rs1, ha1⟩ := src_of rv' e1 q1
      obtain ⟨rb, rfl, rs2, ha2⟩ := src_of rv2 e2 q2
      refine ⟨ra, rb, rfl, by have z := ha1 w2 (Step.refl w2); rw [k2] at z; exact z, by have z := ha2 w2 (Step.refl w2); rw [k2] at z; exact z, ?_⟩
      have q := out_ret o2 r2 _ (walk_zip2 rs1 rs2 ha1 ha2)
      rw [k2] at q
      exact q

/-! ### targets -/
/-- the slots of a target -/
def tG (K : PySem.W.Frag) (gd : Gd) (g : G) (vs : List Nat) : TG := fun v σ H Q => ∃ w h aσ d aσ', w.K = K ∧ w.gd = gd ∧ w.H = H ∧ RelH w h ∧ SlE w σ aσ ∧ Rep w d v ∧ g d aσ = some aσ' ∧
  ∀ σ', SlE w σ' aσ' → σ'.length = σ.length → (∀ j, j ∉ vs → σ'[j]? = σ[j]?) → Q σ' H
def tGs (K : PySem.W.Frag) (gd : Gd) (gs : List G) (vs : List Nat) : TGs := fun xs σ H Q => ∃ w h aσ ds aσ', w.K = K ∧ w.gd = gd ∧ w.H = H ∧ RelH w h ∧ SlE w σ aσ ∧ Reps w ds xs ∧ gsGo gs ds aσ = some aσ' ∧
  ∀ σ', SlE w σ' aσ' → σ'.length = σ.length → (∀ j, j ∉ vs → σ'[j]? = σ[j]?) → Q σ' H
theorem PG.imp {t t' : TG} (h : PG X tg t) (i : ∀ v σ H Q, t' v σ H Q → t v σ H Q) : PG X tg t' := ⟨fun pins s σ H v u Q I r q => h.run pins s σ H v u Q I r (i v σ H Q q)⟩
theorem PGs.imp {es : List Expr} {t t' : TGs} (h : PGs X es t) (i : ∀ v σ H Q, t' v σ H Q → t v σ H Q) : PGs X es t' := ⟨fun pins s σ H v u Q I r q => h.run pins s σ H v u Q I r (i v σ H Q q)⟩
theorem SlE.set {w : Wd} {σ : L2.St} {aσ : S} {i : Nat} {d : D} {v : V} (s : SlE w σ aσ) (r : Rep w d v) : SlE w (σ.set i (some v)) (aσ.set i (.val d)) := by
  refine ⟨by rw [List.length_set, List.length_set]; exact s.len, fun j e h => ?_, fun j e h => ?_⟩
  · by_cases hj : i = j
    · subst hj
      have hlt : i < aσ.length := by
        have := (List.getElem?_eq_some_iff.mp h).1
        rw [List.length_set] at this; exact this
      rw [List.getElem?_set_self hlt] at h
      cases h
      exact ⟨v, List.getElem?_set_self (by rw [s.len]; exact hlt), r⟩
    · rw [List.getElem?_set_ne hj] at h ⊢
      exact s.val j e h
  · by_cases hj : i = j
    · subst hj
      have hlt : i < aσ.length := by
        have := (List.getElem?_eq_some_iff.mp h).1
        rw [List.length_set] at this; exact this
      rw [List.getElem?_set_self hlt] at h
      cases h
    · rw [List.getElem?_set_ne hj] at h ⊢
      exact s.own j e h
theorem G_var {i : Nat} {x : Str} (hN : X.N.Nodup) (hi : X.N[i]? = some x) (hx : Loc X.env.scope x) (hf : X.fn x = true ∨ X.env.scope.names.lookup x = some .local) : PG X (.Name x pos) (tG X.K gd (gVar i) [i]) := by
  refine PG.imp (pg_name hN hi hx hf) fun v σ H Q h => ?_
  obtain ⟨w, h, aσ, d, aσ', wk, wg, rfl, r, s, rv, e, q⟩ := h
  cases e
  exact q _ (s.set rv) (List.length_set ..) fun j hj => List.getElem?_set_ne (fun z => hj (by rw [z]; exact List.mem_singleton.mpr rfl))
theorem Gs_nil : PGs X [] (tGs X.K gd [] []) := by
  refine PGs.imp pgs_nil fun v σ H Q h => ?_
  obtain ⟨w, h, aσ, ds, aσ', wk, wg, rfl, r, s, rv, e, q⟩ := h
  cases ds with
  | nil => rw [Reps] at rv; cases e; exact ⟨rv, q σ s rfl fun _ _ => rfl⟩
  | cons d ds => cases e
theorem Gs_cons {e : Expr} {es : List Expr} {g : G} {gs : List G} {vs ws : List Nat} (h1 : PG X e (tG X.K gd g vs)) (h2 : PGs X es (tGs X.K gd gs ws)) (hs : (assignEach (e :: es) X.env).map (·.2) = assign e X.env :: (assignEach es X.env).map (·.2) := by rfl) :
    PGs X (e :: es) (tGs X.K gd (g :: gs) (vs ++ ws)) := by
  refine PGs.imp (pgs_cons h1 h2 hs) fun v σ H Q h => ?_
  obtain ⟨w, h, aσ, ds, aσ', wk, wg, rfl, r, s, rv, e, q⟩ := h
  cases ds with
  | nil => cases e
  | cons d ds =>
    rw [Reps] at rv
    obtain ⟨x, xr, rfl, rx, rr⟩ := rv
    have e : (g d aσ).bind (fun σ' => gsGo gs ds σ') = some aσ' := e
    cases e1 : g d aσ with
    | none => rw [e1] at e; cases e
    | some a1 =>
      rw [e1] at e
      refine ⟨x, xr, rfl, w, h, aσ, d, a1, wk, wg, rfl, r, s, rx, e1, fun σ1 s1 l1 o1 => ?_⟩
      refine ⟨w, h, a1, ds, aσ', wk, wg, rfl, r, s1, rr, e, fun σ2 s2 l2 o2 => q σ2 s2 (l2.trans l1) fun j hj => ?_⟩
      exact (o2 j fun z => hj (List.mem_append_right _ z)).trans (o1 j fun z => hj (List.mem_append_left _ z))
theorem gsGo_len : ∀ {gs : List G} {ds : List D} {a b : S}, gsGo gs ds a = some b → ds.length = gs.length
  | [], [], _, _, _ => rfl
  | [], _ :: _, _, _, e => by cases e
  | _ :: _, [], _, _, e => by cases e
  | g :: gs, d :: ds, a, b, e => by
    have e : (g d a).bind (fun σ' => gsGo gs ds σ') = some b := e
    obtain ⟨c, _, h⟩ := Option.bind_eq_some_iff.mp e
    rw [List.length_cons, List.length_cons, gsGo_len h]
theorem G_tup {es : List Expr} {k : Nat} {gs : List G} {vs : List Nat} (hc : X.calm = true) (h : PGs X es (tGs X.K gd gs vs)) (hl : gs.length = (assignEach es X.env).length) (hst : (assignEach es X.env).findIdx? (·.1) = none) :
    PG X (.Tuple es k pos) (tG X.K gd (gTup gs) vs) := by
  refine PG.imp (pg_tup hc h rfl hst) fun v σ H Q h => ?_
  obtain ⟨w, h, aσ, d, aσ', wk, wg, rfl, r, s, rv, e, q⟩ := h
  cases d with
  | tup ds =>
    have e : gsGo gs ds aσ = some aσ' := e
    obtain ⟨a, xs, rfl, t, rr⟩ := TupAt.ref rv
    exact ⟨a, xs, rfl, wk ▸ t, by rw [rr.length, gsGo_len e]; exact hl, w, h, aσ, ds, aσ', wk, wg, rfl, r, s, rr, e, q⟩
  | _ => cases e
end
end Cf
set_option Elab.async false
set_option linter.all false
set_option maxRecDepth 100000
set_option maxHeartbeats 2000000
/-! CfG: list comprehensions. -/
namespace Cf
open PySem PySem.Spec PyProof.Rows L2

def E0 : XK := fun _ _ _ => False
/-- what is tracked stays; the list under way is owned -/
structure XD (B : Addr) (w w' : Wd) : Prop where
  k : w'.K = w.K
  g : w'.gd = w.gd
  n : ∀ b, w'.N b ↔ (w.N b ∨ b = B)
  pre : w.ρ <+: w'.ρ
  keep : ∀ b o, w.H b = some o → b ∉ w.ρ → NoTbl o → w'.H b = some o ∧ b ∉ w'.ρ
  new : w.H B = none
theorem XD.step {B : Addr} {w w' : Wd} (a : XD B w w') : Step w w' :=
  ⟨a.k, a.g, a.pre, fun b o e n m t => let ⟨e1, n1⟩ := a.keep b o e n t; ⟨e1, n1, fun z => by
    rcases (a.n b).mp z with z | z
    · exact m z
    · rw [z, a.new] at e; cases e⟩⟩
theorem XD.trans {B : Addr} {w w1 w2 : Wd} (a : XD B w w1) (b : XS w1 w2) : XD B w w2 :=
  ⟨b.k.trans a.k, b.g.trans a.g, fun c => by rw [b.n]; exact a.n c, a.pre.trans b.pre, fun c o e n t => let ⟨e1, n1⟩ := a.keep c o e n t; b.keep c o e1 n1 t, a.new⟩
theorem Own.xd {B : Addr} {w w' : Wd} (a : XD B w w') (ow : ∀ b, w.N b → (∃ o, w.H b = some o ∧ NoTbl o) ∧ b ∉ w.ρ) {d : D} {v : V} {t : List Addr} (h : Own w d v t) : Own w' d v t := by
  cases h with
  | lst h n r => exact .lst (a.keep _ _ h (ow _ n).2 lst_notbl).1 ((a.n _).mpr (.inl n)) (Reps.step a.step _ _ r)
theorem SlE.xd {B : Addr} {w w' : Wd} {h : List O} {σ : L2.St} {aσ : S} (s : SlE w σ aσ) (a : XD B w w') (r : RelH w h) : SlE w' σ aσ :=
  ⟨s.len, fun i d e => let ⟨v, e1, e2⟩ := s.val i d e; ⟨v, e1, Rep.step a.step _ _ e2⟩, fun i d e => let ⟨v, t, e1, e2⟩ := s.own i d e; ⟨v, t, e1, e2.xd a r.own⟩⟩
theorem SlE.none {w : Wd} {σ : L2.St} {aσ : S} {i : Nat} (s : SlE w σ aσ) : SlE w (σ.set i none) (aσ.set i .no) := by
  refine ⟨by rw [List.length_set, List.length_set]; exact s.len, fun j e h => ?_, fun j e h => ?_⟩
  · by_cases hj : i = j
    · subst hj
      have hlt : i < aσ.length := by
        have := (List.getElem?_eq_some_iff.mp h).1
        rw [List.length_set] at this; exact this
      rw [List.getElem?_set_self hlt] at h
      cases h
    · rw [List.getElem?_set_ne hj] at h ⊢
      exact s.val j e h
  · by_cases hj : i = j
    · subst hj
      have hlt : i < aσ.length := by
        have := (List.getElem?_eq_some_iff.mp h).1
        rw [List.length_set] at this; exact this
      rw [List.getElem?_set_self hlt] at h
      cases h
    · rw [List.getElem?_set_ne hj] at h ⊢
      exact s.own j e h
theorem SlE.wipe {w : Wd} {σ : L2.St} {aσ : S} (s : SlE w σ aσ) : ∀ vs : List Nat, SlE w (L2.wipe σ vs) (Cf.wipe aσ vs)
  | [] => s
  | v :: vs => (s.wipe vs).none
/-- slots that agree outside -/
theorem wipe_eq {σ σ' : L2.St} (hl : σ'.length = σ.length) : ∀ {vs : List Nat}, (∀ j, j ∉ vs → σ'[j]? = σ[j]?) → L2.wipe σ' vs = L2.wipe σ vs := by
  intro vs ha
  apply List.ext_getElem?
  intro j
  by_cases hj : j ∈ vs
  · have key : ∀ (τ : L2.St) (us : List Nat), j ∈ us → j < τ.length → (L2.wipe τ us)[j]? = some none := by
      intro τ us
      induction us with
      | nil => intro h; cases h
      | cons u us ih =>
        intro h hl
        show ((L2.wipe τ us).set u none)[j]? = _
        by_cases e : u = j
        · subst e; rw [List.getElem?_set_self (by rw [L2.wipe_length]; exact hl)]
        · rw [List.getElem?_set_ne e]
          exact ih (by rcases List.mem_cons.mp h with z | z; exact absurd z.symm e; exact z) hl
    by_cases hlt : j < σ.length
    · rw [key σ' vs hj (by rw [hl]; exact hlt), key σ vs hj hlt]
    · rw [List.getElem?_eq_none (by rw [L2.wipe_length, hl]; exact Nat.le_of_not_lt hlt), List.getElem?_eq_none (by rw [L2.wipe_length]; exact Nat.le_of_not_lt hlt)]
  · rw [L2.wipe_out hj, L2.wipe_out hj]
    exact ha j hj
/-- the same heap, fewer owned -/
theorem RelH.drop {w : Wd} {h : List O} (r : RelH w h) {N : Addr → Prop} (hN : ∀ b, N b → w.N b) : Step w { w with N := N } ∧ RelH { w with N := N } h := by
  have st : Step w { w with N := N } := ⟨rfl, rfl, List.prefix_refl _, fun b o e n m _ => ⟨e, n, fun z => m (hN b z)⟩⟩
  refine ⟨st, r.len, r.nd, fun i o a e1 e2 => ?_, fun b hb => r.own b (hN b hb), r.tT⟩
  exact (r.obj i o a e1 e2).mv st fun u e _ => e
/-- a step that writes at an owned place -/
theorem step_wr {w : Wd} {B : Addr} {o : HO} (n : w.N B) : Step w (w.put B o) :=
  ⟨rfl, rfl, List.prefix_refl _, fun b u e m k _ => ⟨by
    show upd w.H B o b = _
    rw [upd_ne (fun z => by rw [z] at k; exact k n)]; exact e, m, k⟩⟩
theorem tabs_wr {T : List (Addr × Str)} {H : Hp} {p : Addr} {xs : List V} {o : HO} (t : LamX.Tabs T H) (hp : H p = some (.lst xs)) : LamX.Tabs T (upd H p o) := by
  intro q hq
  obtain ⟨ps, h1, h2, h3⟩ := t q hq
  refine ⟨ps, by rw [upd_ne (ne_of h1 hp (fun z => by cases z))]; exact h1, h2, fun pos cv hc => ?_⟩
  obtain ⟨c, e1, e2⟩ := h3 pos cv hc
  exact ⟨c, e1, by rw [upd_ne (ne_of e2 hp (fun z => by cases z))]; exact e2⟩
theorem RelH.wr {w : Wd} {h : List O} (r : RelH w h) {B : Addr} {o : HO} {xs : List V} (n : w.N B) (e0 : w.H B = some (.lst xs)) (t : NoTbl o) : RelH (w.put B o) h := by
  have st := step_wr (o := o) n
  have hB : B ∉ w.ρ := (r.own B n).2
  refine ⟨r.len, r.nd, fun i u a e1 e2 => ?_, fun b hb => ?_, tabs_wr r.tT e0⟩
  · have hne : a ≠ B := fun z => hB (z ▸ List.mem_of_getElem? e2)
    exact (r.obj i u a e1 e2).mv st fun u e _ => by show upd w.H B o a = _; rw [upd_ne hne]; exact e
  · obtain ⟨⟨u, e, t1⟩, hb2⟩ := r.own b hb
    refine ⟨?_, hb2⟩
    by_cases z : b = B
    · subst z; exact ⟨o, upd_same, t⟩
    · exact ⟨u, by show upd w.H B o b = _; rw [upd_ne z]; exact e, t1⟩
/-- a new object, owned -/
def Wd.own (w : Wd) (p : Addr) (o : HO) : Wd := { w with H := upd w.H p o, N := fun b => w.N b ∨ b = p }
theorem xd_own {w : Wd} {h : List O} (r : RelH w h) {p : Addr} {o : HO} (hp : w.H p = none) : XD p w (w.own p o) :=
  ⟨rfl, rfl, fun _ => Iff.rfl, List.prefix_refl _, fun b u e n _ => ⟨by show upd w.H p o b = _; rw [upd_ne (ne_of_none e hp)]; exact e, n⟩, hp⟩
theorem RelH.ownNew {w : Wd} {h : List O} (r : RelH w h) {p : Addr} {o : HO} (hp : w.H p = none) (t : NoTbl o) : RelH (w.own p o) h := by
  have a := (xd_own (o := o) r hp).step
  have r1 := r.put (o := o) hp
  refine ⟨r.len, r.nd, fun i ob c e1 e2 => ?_, fun b hb => ?_, r1.tT⟩
  · exact (r.obj i ob c e1 e2).mv a fun u e _ => by show upd w.H p o c = _; rw [upd_ne (ne_of_none e hp)]; exact e
  · rcases hb with hb | hb
    · obtain ⟨⟨u, e, t1⟩, hb2⟩ := r.own b hb
      exact ⟨⟨u, by show upd w.H p o b = _; rw [upd_ne (ne_of_none e hp)]; exact e, t1⟩, hb2⟩
    · subst hb
      exact ⟨⟨o, upd_same, t⟩, (r.frz_new hp).2⟩
theorem Out.ok {α : Type} {w : Wd} {Ex : XK} {r : R α} {P : α → List O → Wd → Prop} {a : α} {h : List O} (e : r = .ok a h) (q : ∀ w', XS w w' → RelH w' h → P a h w') : Out w Ex r P := by rw [e]; exact q
theorem out_noer {α β : Type} {w : Wd} {Ex : XK} {m : M α} {k : α → M β} {h : List O} {P : β → List O → Wd → Prop} (o : Out w Ex ((noer m >>= k) h) P) : ∃ a h1, m h = .ok a h1 ∧ Out w Ex (k a h1) P := by
  have o : Out w Ex ((noer m h).next k) P := o
  unfold noer at o
  cases e : m h with
  | ok a h1 => rw [e] at o; exact ⟨a, h1, rfl, o⟩
  | er c vs h1 => rw [e] at o; exact o.elim
  | no => rw [e] at o; exact o.elim
theorem next_ok {α β : Type} {r : R α} {k : α → M β} {b : β} {h : List O} (e : r.next k = .ok b h) : ∃ a h1, r = .ok a h1 ∧ k a h1 = .ok b h := by
  cases r with
  | ok a h1 => exact ⟨a, h1, rfl, e⟩
  | er c vs h1 => cases e
  | no => cases e
theorem guard_ok {α : Type} {c : Prop} [Decidable c] {a : M α} {h h' : List O} {x : α} (e : (if c then a else no) h = .ok x h') : c ∧ a h = .ok x h' := by
  by_cases hc : c
  · rw [if_pos hc] at e; exact ⟨hc, e⟩
  · rw [if_neg hc] at e; cases e
theorem tI_bind {K : PySem.W.Frag} {gd : Gd} {Ex : XK} {m : I} {w : Wd} {h : List O} {σ : L2.St} {aσ : S} {β : Type} {k : List D → M β} {P : β → List O → Wd → Prop} {R : It → Hp → Prop}
    (wk : w.K = K) (wg : w.gd = gd) (r : RelH w h) (s : SlE w σ aσ) (o : Out w Ex ((m aσ >>= k) h) P)
    (hq : ∀ (ds : List D) (h1 : List O) (w1 : Wd), XS w w1 → w1.K = K → w1.gd = gd → RelH w1 h1 → SlE w1 σ aσ → Out w1 Ex (k ds h1) P → ∀ J, WalkD w1 ds J → R J w1.H) : tI K gd Ex m σ w.H R := by
  refine ⟨w, h, aσ, wk, wg, rfl, r, s, ?_⟩
  have o' : Out w Ex (m aσ h) (fun a h1 w1 => Out w1 Ex (k a h1) P) := Out.bind o
  cases e : m aσ h with
  | no => rw [e] at o'; exact o'
  | er c vs h1 => rw [e] at o'; exact o'
  | ok d h1 =>
    rw [e] at o'
    exact fun w1 s1 r1 J wd => hq d h1 w1 s1 (s1.k.trans wk) (s1.g.trans wg) r1 (s.xs s1 r) (o' w1 s1 r1) J wd
section
variable {X : Cx} {gd : Gd} {Ex : XK} {pos : Pos}
/-- the comprehension, by its mirror; the new list stands apart -/
theorem comp_core {K : PySem.W.Frag} {mi : I} {mg : G} {mt : T} {me : E} {vs vs' : List Nat} {σ : L2.St} {Q : VK} {w : Wd} {h : List O} {aσ : S} {Pf : List D → List O → Wd → Prop} (hv : ∀ i ∈ vs', i ∈ vs) (wk : w.K = K) (wg : w.gd = gd) (r : RelH w h) (sl : SlE w σ aσ)
    (o : Out w Ex (comp mi mg mt me vs aσ h) Pf)
    (hq : ∀ w1 h1, XS w w1 → w1.K = K → w1.gd = gd → RelH w1 h1 → SlE w1 σ aσ → ∀ ys h' w' B xs, XD B w1 w' → RelH w' h' → w'.H B = some (.lst xs) → Reps w' ys xs → ys.length ≤ LIM → (∀ w2, XS w1 w2 → RelH w2 h' → Pf ys h' w2) → Q (.ref B) w'.H) :
    L2.tLc (tI K gd Ex mi) (tG K gd mg vs') (tT K gd E0 mt) (tE K gd E0 me) vs σ w.H Q := by
  refine tI_bind wk wg r sl o fun ds h1 w1 s1 k1 g1 r1 sl1 o1 J wd B hB => ?_
  obtain ⟨yall, hf, ey, o2⟩ := out_noer o1
  obtain ⟨hl, o2⟩ := out_guardL (a := ret yall) o2
  have o2 : ∀ w2, XS w1 w2 → RelH w2 hf → Pf yall hf w2 := o2
  refine ⟨fun i m H => m = ds.length - i ∧ i ≤ ds.length ∧ ∃ w' h' ys rest xs, XD B w1 w' ∧ w'.H = H ∧ RelH w' h' ∧ w'.H B = some (.lst xs) ∧ Reps w' ys xs ∧ ys ++ rest = yall ∧ compGo mg mt me (Cf.wipe aσ vs) (ds.drop i) h' = .ok rest hf,
    ⟨_, rfl, Nat.zero_le _, w1.own B (.lst []), h1, [], yall, [], xd_own r1 hB, rfl, r1.ownNew hB lst_notbl, upd_same, .nil, rfl, ey⟩, fun i m H hW => ?_⟩
  obtain ⟨rfl, hi, w', h', ys, rest, xs, xd, rfl, r', eB, rs, ea, ec⟩ := hW
  by_cases hlt : i < ds.length
  · refine .inr ⟨wd.go i w' xd.step hlt, ?_⟩
    have ed : ds.drop i = ds[i] :: ds.drop (i + 1) := List.drop_eq_getElem_cons hlt
    rw [ed] at ec
    refine ⟨fun H' => ∃ w' h' ys rest xs, XD B w1 w' ∧ w'.H = H' ∧ RelH w' h' ∧ w'.H B = some (.lst xs) ∧ Reps w' ys xs ∧ ys ++ rest = yall ∧ compGo mg mt me (Cf.wipe aσ vs) (ds.drop (i + 1)) h' = .ok rest hf,
      fun H' z => ⟨_, by omega, rfl, hlt, z⟩, fun x H' hy => ?_⟩
    obtain ⟨w3, d, s3, rfl, r3, e3, rd⟩ := wd.yld i w' h' x H' xd.step r' hlt hy
    rw [List.getElem?_eq_getElem hlt] at e3
    cases e3
    have ec : (match mg ds[i] (Cf.wipe aσ vs) with
      | none => no
      | some σ1 => mt σ1 >>= fun b => if b = true then me σ1 >>= fun y => compGo mg mt me (Cf.wipe aσ vs) (ds.drop (i + 1)) >>= fun ys => ret (y :: ys) else compGo mg mt me (Cf.wipe aσ vs) (ds.drop (i + 1))) h' = .ok rest hf := ec
    cases eg : mg ds[i] (Cf.wipe aσ vs) with
    | none => rw [eg] at ec; cases ec
    | some a1 =>
      rw [eg] at ec
      have x3 := xd.trans s3
      refine ⟨w3, h', Cf.wipe aσ vs, ds[i], a1, x3.k.trans k1, x3.g.trans g1, rfl, r3, (sl1.xd x3 r1).wipe vs, rd, eg, fun σ2 s2 l2 ag => ⟨?_, ?_⟩⟩
      · have q := wipe_eq l2 (vs := vs) (fun j hj => ag j fun z => hj (hv j z))
        rw [q]
        have idem : ∀ (us : List Nat), L2.wipe (L2.wipe σ us) us = L2.wipe σ us := fun us => by
          refine wipe_eq (L2.wipe_length _ _) fun j hj => L2.wipe_out hj
        exact idem vs
      · obtain ⟨b, h4, et, ec⟩ := next_ok ec
        refine ⟨w3, h', a1, x3.k.trans k1, x3.g.trans g1, rfl, r3, s2, Out.ok et fun w4 s4 r4 => ?_⟩
        have x4 := x3.trans s4
        have eB4 : w4.H B = some (.lst xs) := (s4.keep B _ (s3.keep B _ eB (r'.own B ((xd.n B).mpr (.inr rfl))).2 lst_notbl).1 (r3.own B ((x3.n B).mpr (.inr rfl))).2 lst_notbl).1
        have rs4 : Reps w4 ys xs := Reps.step (s3.trans s4).step _ _ rs
        cases b with
        | false => exact ⟨w4, h4, ys, rest, xs, x4, rfl, r4, eB4, rs4, ea, ec⟩
        | true =>
          obtain ⟨y, h5, ee, ec⟩ := next_ok ec
          obtain ⟨zs, h6, ez, ec⟩ := next_ok ec
          have ec : R.ok (y :: zs) h6 = R.ok rest hf := ec
          cases ec
          refine ⟨w4, h4, a1, x4.k.trans k1, x4.g.trans g1, rfl, r4, s2.xs s4 r3, Out.ok ee fun w5 s5 r5 v rv => ?_⟩
          have x5 := x4.trans s5
          have n5 : w5.N B := (x5.n B).mpr (.inr rfl)
          have eB5 : w5.H B = some (.lst xs) := (s5.keep B _ eB4 (r4.own B ((x4.n B).mpr (.inr rfl))).2 lst_notbl).1
          have hlen : ys.length ≤ yall.length := by rw [← ea, List.length_append]; exact Nat.le_add_right _ _
          have hst := step_wr (o := .lst (xs ++ [v])) n5
          refine ⟨xs, eB5, ?_, w5.put B (.lst (xs ++ [v])), h5, ys ++ [y], zs, xs ++ [v], ⟨x5.k, x5.g, x5.n, x5.pre, fun b u e n t => ?_, x5.new⟩, rfl, r5.wr n5 eB5 lst_notbl, upd_same,
            (Reps.step (s5.step.trans hst) _ _ rs4).append (.cons (Rep.step hst _ _ rv) .nil), by rw [List.append_assoc]; exact ea, ez⟩
          · rw [rs4.length]; exact Nat.lt_of_le_of_lt (Nat.le_trans hlen hl) (by decide)
          · obtain ⟨e5, nn⟩ := x5.keep b u e n t
            exact ⟨by show upd w5.H B _ b = _; rw [upd_ne (ne_of_none e hB)]; exact e5, nn⟩
  · have e : i = ds.length := Nat.le_antisymm hi (Nat.le_of_not_lt hlt)
    subst e
    rw [List.drop_length] at ec
    have ec : R.ok [] h' = R.ok rest hf := ec
    cases ec
    rw [List.append_nil] at ea
    subst ea
    exact .inl ⟨wd.stop w' xd.step, hq w1 h1 s1 k1 g1 r1 sl1 _ _ w' B xs xd r' eB rs hl o2⟩
/-- the new list, for good -/
theorem xd_drop {w w' : Wd} {h : List O} {B : Addr} {xs : List V} {ys : List D} (xd : XD B w w') (r0 : RelH w h) {h' : List O} (r : RelH w' h') (e : w'.H B = some (.lst xs)) (rs : Reps w' ys xs) :
    XS w { w' with N := w.N } ∧ RelH { w' with N := w.N } h' ∧ Rep { w' with N := w.N } (.lst ys) (.ref B) := by
  obtain ⟨st, r2⟩ := r.drop (N := w.N) fun b z => (xd.n b).mpr (.inl z)
  refine ⟨⟨xd.k, xd.g, rfl, xd.pre, fun b o e n t => xd.keep b o e n t⟩, r2, ?_⟩
  rw [rep_lst_iff]
  refine ⟨B, xs, rfl, .inl ⟨.inl e, fun z => ?_, (r.own B ((xd.n B).mpr (.inr rfl))).2⟩, Reps.step st _ _ rs⟩
  obtain ⟨⟨u, eu, _⟩, _⟩ := r0.own B z
  rw [xd.new] at eu; cases eu
theorem comp_frz {K : PySem.W.Frag} {mi : I} {mg : G} {mt : T} {me : E} {vs vs' : List Nat} {σ : L2.St} {H : Hp} {Q : VK} (hv : ∀ i ∈ vs', i ∈ vs) (q : tE K gd Ex (eComp mi mg mt me vs) σ H Q) :
    L2.tLc (tI K gd Ex mi) (tG K gd mg vs') (tT K gd E0 mt) (tE K gd E0 me) vs σ H Q := by
  obtain ⟨w, h, aσ, wk, wg, rfl, r, sl, o⟩ := q
  have o' := Out.bind (r := comp mi mg mt me vs aσ h) o
  refine comp_core hv wk wg r sl o' fun w1 h1 s1 k1 g1 r1 sl1 ys h2 w2 B xs xd r2 e rs hl hp => ?_
  obtain ⟨x1, r3, rv⟩ := xd_drop xd r1 r2 e rs
  have q := hp _ x1 r3
  exact (show Out _ Ex (ret (D.lst ys) h2) _ from q) _ (XS.refl _) r3 _ rv
variable {elt tg iter : Expr} {ifs : List Expr} {scope : Scope} {own : List (Str × Nat)} {mi : I} {mg : G} {mt : T} {me : E} {vs' : List Nat}
theorem T_nil : PTs X [] (tT X.K gd Ex tYes) := ⟨fun pins s σ H Q I h => by
  obtain ⟨w, h, aσ, wk, wg, rfl, r, sl, o⟩ := h
  exact wpAny_tests_nil ⟨w.H, I, o w (XS.refl w) r⟩⟩
theorem R_comp (hc : X.calm = true) (hN : X.N.Nodup) (hi : PI X tg iter (tI X.K gd Ex mi)) (ok : BlkOk X.N X.env.scope scope own) (hv : ∀ i ∈ vs', i ∈ own.map (·.2))
    (hg : ∀ (s : Shared) (H : Hp) (C : Addr) (cl : List (Str × Addr)) (fp : List Addr), PG (X.blk s H scope (compEnvC scope cl C X.env) fp) tg (tG X.K gd mg vs'))
    (ht : ∀ (s : Shared) (H : Hp) (C : Addr) (cl : List (Str × Addr)) (fp : List Addr), PTs (X.blk s H scope (compEnvC scope cl C X.env) fp) ifs (tT X.K gd E0 mt))
    (he : ∀ (s : Shared) (H : Hp) (C : Addr) (cl : List (Str × Addr)) (fp : List Addr), PE (X.blk s H scope (compEnvC scope cl C X.env) fp) elt (tE X.K gd E0 me))
    (hs : ∀ x, foldedSetIterable iter X.env x = pure x := by intro _; rfl) :
    PE X (.ListComp elt [⟨tg, iter, ifs, 0⟩] scope pos) (tE X.K gd Ex (eComp mi mg mt me (own.map (·.2)))) :=
  PE.imp (pe_lc hc hN hi ok hg ht he hs) fun σ H Q h => comp_frz hv h
end
end Cf
set_option Elab.async false
set_option linter.all false
set_option maxRecDepth 100000
set_option maxHeartbeats 2000000
/-! CfH: all, any of a generator expression over anything that PI serves. -/
namespace Cf
open PySem PySem.Spec PyProof.Rows L2 GenW

theorem over_genLoop {A : Around} {elt : Expr} {gs : List Comprehension} {scope : Scope} {pos : Pos} {it acc : Value} {env : Env} : A.over (.compLoop (.GeneratorExp elt gs scope pos) 0 it acc env) [] = A.deeper env := by
  first
    | rfl
    | (obtain ⟨hd, d, fr, gs, u⟩ := A; simp [Around.over, Around.deeper, marksOver, frameCount, unitsOf, envsOf, guardsOf, pushEnvs, pushGuards, Code.envs, Code.env?, Code.isFrame, Code.guards, Code.isGuard, Code.weight, Code.frames, Code.isCreation, Code.isCaller, Code.cUnits])
theorem over_genStart {A : Around} {elt : Expr} {gs : List Comprehension} {scope : Scope} {pos : Pos} {it acc : Value} {env : Env} : A.over (.compStart (.GeneratorExp elt gs scope pos) 0 it acc env) [] = A.deeper env := by
  first
    | rfl
    | (obtain ⟨hd, d, fr, gs, u⟩ := A; simp [Around.over, Around.deeper, marksOver, frameCount, unitsOf, envsOf, guardsOf, pushEnvs, pushGuards, Code.envs, Code.env?, Code.isFrame, Code.guards, Code.isGuard, Code.weight, Code.frames, Code.isCreation, Code.isCaller, Code.cUnits])

/-- the context of a generator expression's body -/
abbrev gxCx (X : Cx) (A : Around) (s : Shared) (H : Hp) (env : Env) (fp : List Addr) : Cx :=
  { X with A := A.deeper env, s_0 := s, H_0 := H, env := env, outer := X.stack, stack := env :: X.stack, ex := fp, fn := fun _ => false, calm := true, pn := [], xe := fun _ _ => False }
/-- the scope of a generator expression -/
structure GxS (scope : Scope) : Prop where
  co : scope.isCoroutine = false
  cell : ∀ y ∈ scope.names, y.2 ≠ .cell
  dot : scope.names.lookup (".0" : Str) = some NameKind.local
def gxB (scope : Scope) : Bool := !scope.isCoroutine && (scope.names.all fun y => !decide (y.2 = .cell)) && decide (scope.names.lookup (".0" : Str) = some NameKind.local)
theorem gxS_by {scope : Scope} (h : gxB scope = true) : GxS scope := by
  unfold gxB at h
  simp only [Bool.and_eq_true, Bool.not_eq_true', decide_eq_true_eq, decide_eq_false_iff_not, List.all_eq_true] at h
  exact ⟨h.1.1, h.1.2, h.2⟩
section
variable {X : Cx} {pins : List (Addr × Obj)} {σ : L2.St} {H : Hp} {s : Shared} {scope : Scope} {own : List (Str × Nat)}
/-- each captured name has its cell -/
theorem gx_has (ok : BlkOk X.N X.env.scope scope own) (okX : X.Ok) : ∀ p ∈ scope.names, p.2 = .free → ∃ c, X.env.cells.lookup p.1 = some c :=
  fun p hp e => (ok.free p hp e).elim (fun z => okX.has _ (.inl z)) fun z => okX.has _ (.inr z)
/-- the closure holds what is captured, and nothing else -/
theorem gx_clo (has : ∀ p ∈ scope.names, p.2 = .free → ∃ c, X.env.cells.lookup p.1 = some c) {n : Str} : (∀ c, (cloFrom X.env.cells scope.names []).lookup n = some c → X.env.cells.lookup n = some c) ∧ (scope.names.lookup n = some .free → ∃ c, (cloFrom X.env.cells scope.names []).lookup n = some c) := by
  constructor
  · intro c e
    cases cloFrom_mem (PySem.mem_of_lookup e) with
    | inl z => cases z
    | inr z =>
      obtain ⟨c1, e1⟩ := has _ z.1 rfl
      have e1 : X.env.cells.lookup n = some c1 := e1
      have e2 : c = (X.env.cells.lookup n).getD 0 := z.2
      rw [e2, e1]; rfl
  · exact fun e => mem_lookup (cloFrom_has (cells := X.env.cells) (acc := []) (PySem.mem_of_lookup e))
/-- the body's context stands -/
theorem gx_start {A : Around} {fp : List Addr} {code : Value} {it : Value} {h1 : Heap} {a : Addr} {o : Obj} {gs1 : Array GenState} {tk : Nat} (I : Inv X pins σ H s) (ok : BlkOk X.N X.env.scope scope own) (gx : GxS scope) (hd : A.handled = none) (hfr : A.frames = some X.stack)
    (hN : X.N.Nodup) (hfp : ∀ b ∈ fp, FpOk X pins H b ∧ b < s.heap.objs.size)
    (hns : h1.Ns s.heap.objs.size fun y => if y = ".0" then some it else none) (kp : ∀ b o, s.heap.get? b = some o → h1.get? b = some o) (ha : h1.get? a = some o) (hal : s.heap.objs.size < a) (ho : ∀ v, o.data ≠ .cell v) (hg : AllBare gs1) :
    Inv (gxCx X A s H (genEnv scope (cloFrom X.env.cells scope.names []) s.heap.objs.size code builtinsNs X.env) fp) [(a, o)] (L2.wipe σ (own.map (·.2))) H { s with heap := h1, gens := gs1, toks := tk } := by
  have clo := fun n => gx_clo (n := n) (gx_has ok I.ok)
  have nocell : ∀ {n}, scope.names.lookup n ≠ some .cell := fun {n} e => gx.cell _ (PySem.mem_of_lookup e) rfl
  have old : ∀ b ∈ frs X.stack, b ≠ a ∧ b ∉ fp := fun b hb => by
    have := I.stkSub b hb
    constructor
    · intro e
      subst e
      cases List.mem_cons.mp this with
      | inl z => exact Nat.lt_asymm (show b < _ by rw [z]; exact I.lt) hal
      | inr z => exact I.nofs (Nat.le_of_lt hal) z
    · intro hf
      obtain ⟨⟨_, nL, nF, _⟩, _⟩ := hfp b hf
      cases List.mem_cons.mp this with
      | inl z => exact nL z
      | inr z => exact nF z
  have okG : (gxCx X A s H (genEnv scope (cloFrom X.env.cells scope.names []) s.heap.objs.size code builtinsNs X.env) fp).Ok := {
    mod := I.ok.mod, kind := ok.kind, glob := I.ok.glob, blt := rfl, above := Nat.le_refl _
    inj := fun x y c e1 e2 => I.ok.inj x y c ((clo x).1 c e1) ((clo y).1 c e2)
    has := fun x hx => hx.elim (fun z => absurd z nocell) fun z => (clo x).2 z
    cab := fun _ _ z _ => Bool.noConfusion z
    hd := fun _ => hd, frames := Around.frames_deeper hfr, stk := .inr ⟨rfl, rfl⟩
    exf := fun b hb => ⟨Nat.ne_of_lt (hfp b hb).2, fun x c e => (hfp b hb).1.2.2.2.2.1 x c ((clo x).1 c e)⟩
    bs := I.bs, bsz := Nat.le_trans I.ok.bsz I.sz
    noex := fun b ob e hb => (hfp b hb).1.2.2.2.1.elim (I.ok.noex b ob e) fun z => Nat.lt_irrefl b (Nat.lt_of_lt_of_le (Heap.lt_size e) (Nat.le_trans I.ok.bsz z))
    exfs := fun b hb z => (old b z).2 hb
    funs := I.stack, frf := I.stkFree }
  have cells : ∀ x c, (cloFrom X.env.cells scope.names []).lookup x = some c → (∃ v, h1.IsCell c v) ∧ H c = none := fun x c e => by
    obtain ⟨v, ob, eo, ed⟩ := I.cell x c ((clo x).1 c e)
    exact ⟨⟨v, ob, kp _ _ eo, ed⟩, I.freeC x c ((clo x).1 c e)⟩
  have seen : ∀ (i : Nat) (n : Str) (v : V), X.N[i]? = some n → (L2.wipe σ (own.map (·.2)))[i]? = some (some v) → Vis scope n → ∃ u, RelV v u ∧ scope.names.lookup n = some .free ∧ ∃ c, (cloFrom X.env.cells scope.names []).lookup n = some c ∧ h1.IsCell c (some u) := by
    intro i n v en ev hv
    obtain ⟨ev, out⟩ := L2.wipe_some ev
    have fr : scope.names.lookup n = some .free := by
      rcases hv with z | z | z
      · exfalso
        rcases ok.own _ (PySem.mem_of_lookup z) (.inl rfl) with m | m
        · obtain ⟨pr, hpr, epr⟩ := List.mem_map.mp m
          have at_ := ok.ix pr hpr
          rw [show pr.1 = n from epr] at at_
          exact out (List.mem_map.mpr ⟨pr, hpr, nodup_ix hN at_ en⟩)
        · exact m (List.mem_of_getElem? en)
      · exact absurd z nocell
      · exact z
    obtain ⟨m, _, tell⟩ := I.loc
    have outer := ok.free _ (PySem.mem_of_lookup fr) rfl
    obtain ⟨u, ru, lk⟩ := tell i n v en ev (outer.elim (fun z => .inr (.inl z)) fun z => .inr (.inr z))
    obtain ⟨c, ec⟩ := (clo n).2 fr
    have ec' := (clo n).1 c ec
    refine ⟨u, ru, fr, c, ec, ?_⟩
    rcases lk with ⟨z, _⟩ | ⟨_, c2, e2, ob, eo, ed⟩
    · have z : X.env.scope.names.lookup n = some .local := z
      rcases outer with o1 | o1
      · exact absurd (z.symm.trans o1) (by decide)
      · exact absurd (z.symm.trans o1) (by decide)
    · obtain rfl : c = c2 := Option.some.inj (ec'.symm.trans e2)
      exact ⟨ob, kp _ _ eo, ed⟩
  refine ⟨okG, rfl, hg, Un.kept kp, ⟨_, hns, fun i n v en ev hv => ?_⟩, fun x c e => (cells x c e).1, I.hok.fresh (Nat.le_refl _), fun x c e => (cells x c e).2, fun pr hpr => ?_, I.hok.kept kp, (L2.wipe_length _ _).trans I.len⟩
  · obtain ⟨u, ru, fr, c, ec, cell⟩ := seen i n v en ev hv
    exact ⟨u, ru, .inr ⟨.inr fr, c, ec, cell⟩⟩
  · have hpr : pr ∈ ([] : List (Addr × Obj)) ++ [(a, o)] := hpr
    rw [List.nil_append, List.mem_singleton] at hpr
    subst hpr
    exact ⟨ha, I.hok.fresh (Nat.le_of_lt hal), Nat.ne_of_gt hal, fun z => (old a z).1 rfl, ho⟩
end

/-- the same heap: woken -/
structure Woke (s s' : Shared) : Prop where
  heap : s'.heap = s.heap
  os : s'.os = s.os
  bare : AllBare s'.gens
theorem inv_woke {X : Cx} {pins : List (Addr × Obj)} {σ : L2.St} {H : Hp} {s s' : Shared} (I : Inv X pins σ H s) (w : Woke s s') : Inv X pins σ H s' := by
  obtain ⟨h', g', d', t', o'⟩ := s'
  obtain ⟨e1, e2, e3⟩ := w
  have e1 : h' = s.heap := e1
  have e2 : o' = s.os := e2
  subst e1 e2
  exact ⟨I.ok, I.os, e3, I.base, I.loc, I.cell, I.free, I.freeC, I.pin, I.hok, I.len⟩
def GxEnd (Y : Cx) (pins : List (Addr × Obj)) (Fin : Hp → Prop) : Nat → Shared → Shared → Prop := fun n s₀ s₁ => ∃ σ' H, Inv Y pins σ' H s₁ ∧ Fin H
def GxY (Y : Cx) (pins : List (Addr × Obj)) (st : Bool) (Stp : Hp → Prop) : Protocol := fun m s₀ v s kap => ∃ b H σ', v = .bool b ∧ Inv Y pins σ' H s ∧ (b = st → Stp H) ∧ (b ≠ st → ∀ s'', Woke s s'' → kap (.send .none) s'')
theorem wq_mono {α : Type} {t : Sem α} {Q Q' : α → Shared → Prop} {M : Model} {A : Around} {E : Value → Shared → Prop} {s : Shared} (h : wpAny M A t Q (fun _ _ => False) s) (hQ : ∀ a s, Q a s → Q' a s) : wpAny M A t Q' E s := wpAny_mono h hQ fun _ _ z => False.elim z
section
variable {Y : Cx} {A' : Around} {tg elt iter : Expr} {scope : Scope} {pos : Pos} {J : It} {fp : List Addr} {it a : Addr} {o : Obj} {tn : Nat → Heap → Prop} {g : TG} {te : TE} {σ : L2.St} {vs : List Nat} {W : Nat → Nat → Hp → Prop} {Q : VK} {st : Bool}
theorem seg_gx (hA : Y.A = A'.deeper Y.env) (hxe : Y.xe = fun _ _ => False) (hc : Y.calm = true) (T : Turn Y.prog Y.w Y.K tg J fp it tn) (pg : PG Y tg g) (pe : PE Y elt te) (hco : Y.env.scope.isCoroutine = false)
    (stat : ∀ {σ' : L2.St} {H' : Hp} {s' : Shared}, Inv Y [(a, o)] σ' H' s' → (∀ b ∈ fp, H' b = none) → ∀ b ∈ fp, FpOk Y [(a, o)] H' b)
    (turn : ∀ i m H, W i m H → (J.stop i H ∧ Q (.bl (!st)) H) ∨ (J.go i H ∧ 0 < m ∧ ∃ Nx : Hp → Prop, (∀ H', Nx H' → ∃ m', m' < m ∧ W (i + 1) m' H') ∧ ∀ x H', J.yld i H x H' → g x (L2.wipe σ vs) H' fun σ2 H2 => L2.wipe σ2 vs = L2.wipe σ vs ∧
      te σ2 H2 fun y H3 => ∃ b, y = .bl b ∧ (b = st → Q (.bl st) H3) ∧ (b ≠ st → Nx H3))) :
    ∀ (n m i : Nat) (s₀ s : Shared) (H : Hp), m ≤ n → W i m H → Inv Y [(a, o)] (L2.wipe σ vs) H s → tn i s.heap → (∀ b ∈ fp, H b = none) →
      Seg (model Y.prog Y.w) A' (fun n s₀ r s₁ => r = .ok .next ∧ GxEnd Y [(a, o)] (Q (.bl (!st))) n s₀ s₁) (GxY Y [(a, o)] st (Q (.bl st))) n s₀ (.compLoop (.GeneratorExp elt [⟨tg, iter, [], 0⟩] scope pos) 0 (.ref it) .none Y.env)
        ((model Y.prog Y.w).den (.compLoop (.GeneratorExp elt [⟨tg, iter, [], 0⟩] scope pos) 0 (.ref it) .none Y.env)) [] s := by
  intro n
  induction n with
  | zero =>
    intro m i s₀ s H hm hW I t0 hf
    rcases turn i m H hW with ⟨stop, q⟩ | ⟨go, hpos, _⟩
    · show Seg _ A' _ _ _ s₀ _ ((compTurn (.GeneratorExp elt [⟨tg, iter, [], 0⟩] scope pos) 0 (.ref it) .none Y.env).onRaise (leaving Y.env)) [] s
      rw [compTurn_gen, Sem.onRaise_eq_wrap]
      refine seg_bind_wrap (wpAny_standAt ?_)
      refine seg_bind_wrap ?_
      rw [over_genLoop, ← hA]
      refine wq_mono (T.done Y rfl rfl rfl hc i [(a, o)] s _ H (fun _ _ => False) I (stat I hf) t0 stop) fun r s1 ⟨hr, I1⟩ => ?_
      subst hr
      exact seg_end (.ok .next) ⟨rfl, _, _, I1, q⟩
    · exact absurd hpos (by omega)
  | succ n ih =>
    intro m i s₀ s H hm hW I t0 hf
    show Seg _ A' _ _ _ s₀ _ ((compTurn (.GeneratorExp elt [⟨tg, iter, [], 0⟩] scope pos) 0 (.ref it) .none Y.env).onRaise (leaving Y.env)) [] s
    rw [compTurn_gen, Sem.onRaise_eq_wrap]
    refine seg_bind_wrap (wpAny_standAt ?_)
    refine seg_bind_wrap ?_
    rw [over_genLoop, ← hA]
    rcases turn i m H hW with ⟨stop, q⟩ | ⟨go, hpos, Nx, hNx, step⟩
    · refine wq_mono (T.done Y rfl rfl rfl hc i [(a, o)] s _ H (fun _ _ => False) I (stat I hf) t0 stop) fun r s1 ⟨hr, I1⟩ => ?_
      subst hr
      exact seg_end (.ok .next) ⟨rfl, _, _, I1, q⟩
    · refine wq_mono (T.item Y rfl rfl rfl hc i [(a, o)] s _ H (fun _ _ => False) I (stat I hf) t0 go) fun r s1 ⟨u, hr, h1⟩ => ?_
      subst hr
      refine seg_bind_wrap ?_
      rw [over_genLoop, ← hA]
      refine wq_mono h1 fun _ s2 ⟨x, H2, I2, rx, yl, t2, f2⟩ => ?_
      have I2' := I2.pinned (stat I2 f2) (T.obj _ _ t2)
      refine seg_bind_wrap ?_
      rw [over_genLoop, ← hA]
      have hpg := pg.run _ s2 _ H2 x u _ I2' rx (step x H2 yl)
      rw [hxe] at hpg
      refine wq_mono hpg fun _ s3 ⟨σ3, H3, I3, hw3, q3⟩ => ?_
      refine seg_bind_wrap ?_
      simp only [List.forIn_nil]
      refine wpAny_pure ?_
      simp only [if_true]
      have hy : ∀ v, yieldOut Y.env v = yieldValue v := fun v => by simp only [yieldOut, hco, Bool.false_eq_true, if_false]
      simp only [hy]
      rw [Sem.bind_eq_wrap', Sem.bind_eq_wrap', Sem.wrap_wrap, Sem.wrap_wrap]
      refine seg_wrap ?_
      rw [over_genLoop, ← hA]
      have hpe := pe.run _ s3 σ3 H3 _ I3 q3
      rw [hxe] at hpe
      refine wq_mono hpe fun y s4 ⟨v, H4, I4, rv, b, eb, hst, hgo⟩ => ?_
      subst eb
      have rv : y = Value.bool b := rv
      subst rv
      refine seg_at (seg_yield rfl rfl rfl ⟨b, H4, σ3, rfl, I4.unpinned, hst, fun hb s5 wk => ?_⟩)
      obtain ⟨m', hm', w'⟩ := hNx H4 (hgo hb)
      have pin' : ∀ c ∈ fp, ∀ o', s2.heap.get? c = some o' → s4.heap.get? c = some o' ∧ H4 c = none := fun c hc' o' e =>
        let z := I4.pin (c, o') (List.mem_append_right _ (List.mem_append_right _ (mem_pinsAt hc' e)))
        ⟨z.1, z.2.1⟩
      refine seg_again rfl (ih m' (i + 1) s5 s5 H4 (by omega) w' ?_ ?_ fun c hc' => ?_)
      · have I5 : Inv Y [(a, o)] σ3 H4 s5 := inv_woke I4.unpinned wk
        refine I5.weak (by rw [← hw3, L2.wipe_length]) fun j v e => ?_
        rw [← hw3] at e
        exact (L2.wipe_some e).1
      · rw [wk.heap]
        exact T.keep _ _ _ t2 fun c hc' o' e => (pin' c hc' o' e).1
      · obtain ⟨o', e, _⟩ := T.obj _ _ t2 c hc'
        exact (pin' c hc' o' e).2
theorem seg_gxStart (hA : Y.A = A'.deeper Y.env) (hxe : Y.xe = fun _ _ => False) (hc : Y.calm = true) (T : Turn Y.prog Y.w Y.K tg J fp it tn) (pg : PG Y tg g) (pe : PE Y elt te) (hco : Y.env.scope.isCoroutine = false)
    (stat : ∀ {σ' : L2.St} {H' : Hp} {s' : Shared}, Inv Y [(a, o)] σ' H' s' → (∀ b ∈ fp, H' b = none) → ∀ b ∈ fp, FpOk Y [(a, o)] H' b)
    (turn : ∀ i m H, W i m H → (J.stop i H ∧ Q (.bl (!st)) H) ∨ (J.go i H ∧ 0 < m ∧ ∃ Nx : Hp → Prop, (∀ H', Nx H' → ∃ m', m' < m ∧ W (i + 1) m' H') ∧ ∀ x H', J.yld i H x H' → g x (L2.wipe σ vs) H' fun σ2 H2 => L2.wipe σ2 vs = L2.wipe σ vs ∧
      te σ2 H2 fun y H3 => ∃ b, y = .bl b ∧ (b = st → Q (.bl st) H3) ∧ (b ≠ st → Nx H3)))
    {n m : Nat} {s₀ s : Shared} {H : Hp} (hm : m ≤ n) (hW : W 0 m H) (I : Inv Y [(a, o)] (L2.wipe σ vs) H s) (t0 : tn 0 s.heap) (hf : ∀ b ∈ fp, H b = none) :
      Seg (model Y.prog Y.w) A' (fun n s₀ r s₁ => r = .ok .next ∧ GxEnd Y [(a, o)] (Q (.bl (!st))) n s₀ s₁) (GxY Y [(a, o)] st (Q (.bl st))) n s₀ (.compStart (.GeneratorExp elt [⟨tg, iter, [], 0⟩] scope pos) 0 (.ref it) .none Y.env)
        ((model Y.prog Y.w).den (.compStart (.GeneratorExp elt [⟨tg, iter, [], 0⟩] scope pos) 0 (.ref it) .none Y.env)) [] s := by
  have loop := seg_gx (iter := iter) (scope := scope) (pos := pos) hA hxe hc T pg pe hco stat turn n m 0 s₀ s H hm hW I t0 hf
  show Seg _ A' _ _ _ s₀ _ ((compStart (.GeneratorExp elt [⟨tg, iter, [], 0⟩] scope pos) 0 (.ref it) .none Y.env).onRaise (leaving Y.env)) [] s
  unfold compStart
  rw [Sem.onRaise_eq_wrap]
  show Seg _ A' _ _ _ s₀ _ ((ask >>= _).wrap _ _ _ _) [] s
  refine seg_bind_wrap (wpAny_askSetting ?_)
  split
  · exact seg_again rfl loop
  · first
      | exact seg_bind_wrap (wpAny_rule (seg_bind_wrap (wpAny_standAt (seg_bind_wrap (T.self _ 0 s _ _ t0 (seg_again rfl loop))))))
      | (refine seg_bind_wrap (wpAny_rule ?_); show Seg _ A' _ _ _ s₀ _ ((standAt iter.pos >>= _).wrap _ _ _ _) [] s; exact seg_bind_wrap (wpAny_standAt (seg_bind_wrap (T.self _ 0 s _ _ t0 (seg_again rfl loop)))))
end

/-- what stands behind the loop -/
def GxFin (Y : Cx) (pins : List (Addr × Obj)) (Q : VK) (b : Bool) (s' : Shared) : Prop := ∃ σ' H, Inv Y pins σ' H s' ∧ Q (.bl b) H
/-- a turn of all's loop (st := False), of any's (st := True): it stops at st -/
def LoopB (prog : Program) (w : World) (id : String) (st : Bool) : Prop := ∀ (A : Around) (a : Addr) (R : Result → Shared → Prop) (s : Shared),
  wpAny (model prog w) A.in1 (pyNext (.ref a)) (fun r s' => match r with
    | none => R (.ok (.ret (.bool (!st)))) s'
    | some v => ∃ b, v = .bool b ∧ (b = st → R (.ok (.ret (.bool st))) s') ∧ (b ≠ st → codeAny (model prog w) A (.builtin id ⟨[.ref a], []⟩) R s')) (fun e s' => R (.error e) s') s → codeAny (model prog w) A (.builtin id ⟨[.ref a], []⟩) R s
theorem loop_all {prog : Program} {w : World} : LoopB prog w "all.loop" false := by
  intro A a R s h
  apply codeAny_builtin F.entry_all_loop
  simp only [Around.under_plainId F.plain_all_loop]
  refine wpAny_bind (wpAny_mono h (fun r s1 q => ?_) fun _ _ e => e)
  cases r with
  | none => exact wpAny_bind (wpAny_rule (wpAny_pure q))
  | some v =>
    obtain ⟨b, rfl, stop, go⟩ := q
    cases b
    · exact wpAny_bind (wpAny_holding (wpAny_truthy_bool (wpAny_bind (wpAny_letGo (wpAny_bind (wpAny_rule (wpAny_pure (stop rfl))))))))
    · exact wpAny_bind (wpAny_holding (wpAny_truthy_bool (wpAny_bind (wpAny_letGo (wpAny_pure ⟨plainId_quiet F.plain_all_loop _, go (by decide)⟩)))))
theorem loop_any {prog : Program} {w : World} : LoopB prog w "any.loop" true := by
  intro A a R s h
  apply codeAny_builtin F.entry_any_loop
  simp only [Around.under_plainId F.plain_any_loop]
  refine wpAny_bind (wpAny_mono h (fun r s1 q => ?_) fun _ _ e => e)
  cases r with
  | none => exact wpAny_bind (wpAny_rule (wpAny_pure q))
  | some v =>
    obtain ⟨b, rfl, stop, go⟩ := q
    cases b
    · exact wpAny_bind (wpAny_holding (wpAny_truthy_bool (wpAny_bind (wpAny_letGo (wpAny_pure ⟨plainId_quiet F.plain_any_loop _, go (by decide)⟩)))))
    · exact wpAny_bind (wpAny_holding (wpAny_truthy_bool (wpAny_bind (wpAny_letGo (wpAny_bind (wpAny_rule (wpAny_pure (stop rfl))))))))
theorem gx_loop {Y : Cx} {A : Around} {a : Addr} {o : Obj} {g : Nat} {Q : VK} {R : Result → Shared → Prop} {id : String} {st : Bool} (L : LoopB Y.prog Y.w id st) (hh : A.handled = none) (hd : A.depth < recursionLimit) (hg : ∀ h : Heap, h.get? a = some o → h.IsGen a g)
    (hR : ∀ b s', GxFin Y [(a, o)] Q b s' → R (.ok (.ret (.bool b))) s') : ∀ (n : Nat) (s : Shared) (τ : L2.St) (G : Hp), Inv Y [(a, o)] τ G s →
      (∃ gs, s.gens[g]? = some gs ∧ gs.Goes (model Y.prog Y.w) A.in1.in1 (fun n s₀ r s₁ => r = .ok .next ∧ GxEnd Y [(a, o)] (Q (.bl (!st))) n s₀ s₁) (GxY Y [(a, o)] st (Q (.bl st))) n (.send .none) (s.setGen g .running)) →
      codeAny (model Y.prog Y.w) A (.builtin id ⟨[.ref a], []⟩) R s := by
  intro n
  induction n with
  | zero =>
    rintro s τ G I ⟨gs, at_, goes⟩
    refine L A a R s (wpAny_pyNext_genexpQ hh I.nolimit hd (hg _ (I.pin (a, o) (by simp)).1) at_ goes (fun v s₁ gs' bare y => ?_) fun s₁ ended h' kept => ?_)
    · obtain ⟨b, G1, τ1, rfl, I1, stop, go⟩ := y
      exact ⟨b, rfl, fun e => hR st _ ⟨τ1, G1, inv_woke I1 ⟨rfl, rfl, allBare_setGen I1.bare bare⟩, stop e⟩, fun e => (go e s₁ ⟨rfl, rfl, I1.bare⟩).elim⟩
    · obtain ⟨τ1, G1, I1, q⟩ := ended
      exact hR (!st) _ ⟨τ1, G1, (inv_woke I1 (s' := s₁.setGen g .finished) ⟨rfl, rfl, allBare_setGen I1.bare rfl⟩).kept (t' := (s₁.setGen g .finished).toks) kept, q⟩
  | succ n ih =>
    rintro s τ G I ⟨gs, at_, goes⟩
    have many : g + 1 ≤ s.gens.size := (Array.getElem?_eq_some_iff.mp at_).1
    refine L A a R s (wpAny_gsz many (wpAny_pyNext_genexpQ hh I.nolimit hd (hg _ (I.pin (a, o) (by simp)).1) at_ goes (fun v s₁ gs' bare y size => ?_) fun s₁ ended h' kept _ => ?_))
    · obtain ⟨b, G1, τ1, rfl, I1, stop, go⟩ := y
      have I2 := inv_woke I1 (s' := s₁.setGen g gs') ⟨rfl, rfl, allBare_setGen I1.bare bare⟩
      have there : g < s₁.gens.size := by rw [← setGen_size s₁ g gs']; exact size
      exact ⟨b, rfl, fun e => hR st _ ⟨τ1, G1, I2, stop e⟩, fun e => ih _ τ1 G1 I2 ⟨gs', setGen_at there, go e _ ⟨rfl, rfl, allBare_setGen (s := s₁.setGen g gs') I2.bare rfl⟩⟩⟩
    · obtain ⟨τ1, G1, I1, q⟩ := ended
      exact hR (!st) _ ⟨τ1, G1, (inv_woke I1 (s' := s₁.setGen g .finished) ⟨rfl, rfl, allBare_setGen I1.bare rfl⟩).kept (t' := (s₁.setGen g .finished).toks) kept, q⟩
/-- the tables behind a new code object: all else is as it was -/
def Grown (T : List (Addr × Str)) (H H' : Hp) : Prop := LamX.ExtN H H' ∧ LamX.Tabs T H'
theorem tabs_grow {T : List (Addr × Str)} {H : Hp} {P c : Addr} {q : Str} {ps : Array Value} {pos : Pos} (t : LamX.Tabs T H) (hP : H P = some (.tbl ps)) (hc : H c = none) (hu : ∀ p ∈ T, p.1 = P → p.2 = q) (tri : TriplesOk ps.toList) :
    Grown T H (upd (upd H P (.tbl (ps ++ #[rawInt pos.line, rawInt pos.col, .ref c]))) c (LamX.CodeO c q)) := by
  have ext : LamX.ExtN H (upd (upd H P (.tbl (ps ++ #[rawInt pos.line, rawInt pos.col, .ref c]))) c (LamX.CodeO c q)) := by
    intro b ob e nt
    rw [upd_ne (ne_of_none e hc), upd_ne]
    · exact e
    · intro z; rw [z, hP] at e; cases e; exact nt ps rfl
  refine ⟨ext, fun p hp => ?_⟩
  obtain ⟨qs, at_, ok, told⟩ := t p hp
  by_cases z : p.1 = P
  · rw [z, hP] at at_
    cases at_
    have eL : (ps ++ #[rawInt pos.line, rawInt pos.col, Value.ref c]).toList = ps.toList ++ [rawInt pos.line, rawInt pos.col, .ref c] := by simp
    refine ⟨_, by rw [z, upd_ne (ne_of_none hP hc), upd_same], by rw [eL]; exact PySem.TriplesOk_snoc _ _ _ _ tri, fun p1 cv hcv => ?_⟩
    rw [eL] at hcv
    rcases LamX.among_app _ tri hcv with old | new
    · obtain ⟨c0, e1, e2⟩ := told p1 cv old
      exact ⟨c0, e1, ext _ _ e2 LamX.codeO_ne⟩
    · exact ⟨c, new, by rw [hu p hp z]; exact upd_same⟩
  · refine ⟨qs, by rw [upd_ne (ne_of_none at_ hc), upd_ne z]; exact at_, ok, fun p1 cv hcv => ?_⟩
    obtain ⟨c0, e1, e2⟩ := told p1 cv hcv
    exact ⟨c0, e1, ext _ _ e2 LamX.codeO_ne⟩
section
variable {X : Cx} {pins : List (Addr × Obj)} {σ : L2.St} {H : Hp} {s : Shared} {tg elt iter : Expr} {scope : Scope} {gpos pos p : Pos} {own : List (Str × Nat)} {c P : Addr} {k : Nat} {wi : TI} {g : TG} {te : TE} {T : List (Addr × Str)}
/-- a generator expression is made -/
def Made (X : Cx) (pins : List (Addr × Obj)) (σ : L2.St) (tg elt iter : Expr) (scope : Scope) (gpos : Pos) (T : List (Addr × Str)) (R : It → Hp → Prop) (u : Value) (s' : Shared) : Prop :=
  ∃ (it : Addr) (fp : List Addr) (tn : Nat → Heap → Prop) (J : It) (H1 H2 : Hp) (s4 : Shared) (h1 : Heap) (a : Addr) (o : Obj) (code : Value), u = .ref a ∧ Turn X.prog X.w X.K tg J fp it tn ∧ tn 0 s4.heap ∧ (∀ b ∈ fp, FpOk X pins H2 b) ∧ Inv X pins σ H2 s4 ∧ Grown T H1 H2 ∧ R J H1 ∧
    h1.Ns s4.heap.objs.size (fun y => if y = ".0" then some (Value.ref it) else none) ∧ (∀ b o, s4.heap.get? b = some o → h1.get? b = some o) ∧ h1.get? a = some o ∧ s4.heap.objs.size < a ∧ (∀ v, o.data ≠ .cell v) ∧ (∀ h : Heap, h.get? a = some o → h.IsGen a s4.gens.size) ∧
    s'.heap = h1 ∧ s'.os = s4.os ∧ s'.gens = s4.gens.push (.fresh (.compStart (.GeneratorExp elt [⟨tg, iter, [], 0⟩] scope gpos) 0 (.ref it) .none (genEnv scope (cloFrom X.env.cells scope.names []) s4.heap.objs.size code builtinsNs X.env)))
theorem gx_make {R : It → Hp → Prop} {Q' : Value → Shared → Prop} (hr : Room k X.A) (TB : LamX.TabB X.base X.mg c P) (hcode : X.env.code = .ref c) (hmT : (P, X.env.qual ++ "<genexpr>") ∈ T) (hu : ∀ p ∈ T, p.1 = P → p.2 = X.env.qual ++ "<genexpr>") (ok : BlkOk X.N X.env.scope scope own) (gx : GxS scope)
    (hi : PI X tg iter wi) (hs : ∀ v, genFold iter X.env v = pure v) (I : Inv X pins σ H s) (h : wi σ H fun J H1 => LamX.Tabs T H1 ∧ R J H1) (hQ : ∀ u s', Made X pins σ tg elt iter scope gpos T R u s' → Q' u s') :
    wpAny (model X.prog X.w) X.A (eval (.GeneratorExp elt [⟨tg, iter, [], 0⟩] scope gpos) X.env) Q' X.xe s := by
  refine wpAny_GeneratorExp_make gx.co (closure_ok (gx_has ok I.ok)) gx.cell gx.dot ok.kind (by have := hr.dp; omega) ?_ hs
  refine thn (hi.run pins s σ H _ I h) fun xv s1 hx => thn hx fun itv s2 h2 => ?_
  obtain ⟨it, fp, tn, J, H1, rfl, I1, turn, st1, f1, tabs, q1⟩ := h2
  obtain ⟨ps, hP, tri, _⟩ := tabs _ hmT
  refine ⟨I1.nolimit, ?_⟩
  have table : s2.heap.get? P = some { cls := .none, data := .fields ps } := I1.hok P _ hP
  have head : PySem.W.CodeHd s2.heap c P := TB.code.keeps fun b u e => I1.bk b u e
  have apart : ∀ b ∈ fp, b ≠ P ∧ b < s2.heap.objs.size := fun b hb => by
    obtain ⟨ob, eb, _⟩ := turn.obj _ _ st1 b hb
    exact ⟨fun z => (by have := (f1 b hb).1; rw [z, hP] at this; cases this), Heap.lt_size eb⟩
  -- whatever the code object: its frame, the generator
  have rest : ∀ (code : Value) (h3 : Heap) (tk : Nat) (H2 : Hp), Heap.ExtBut P s2.heap h3 → Inv X pins σ H2 { s2 with heap := h3, toks := tk } → Grown T H1 H2 → (∀ b ∈ fp, H2 b = none) →
      wpAny (model X.prog X.w) X.A (builtinsFor X.env.globals X.env.builtins) (fun bi s4 =>
        ∀ h', h'.Ns s4.heap.objs.size (fun y => if y = ".0" then some (Value.ref it) else none) → Heap.SameBut s4.heap.objs.size (s4.heap.push { cls := .type "frame", data := .dict #[] }) h' →
          Q' (.ref h'.objs.size) { s4 with
            gens := s4.gens.push (.fresh (.compStart (.GeneratorExp elt [⟨tg, iter, [], 0⟩] scope gpos) 0 (.ref it) .none (genEnv scope (cloFrom X.env.cells scope.names []) s4.heap.objs.size code bi X.env))),
            toks := s4.toks + 1 + 1 + 1,
            heap := h'.push { cls := .type "generator", data := .fields #[.int s4.gens.size 0, .str "<genexpr>" (s4.toks + 1), .str (X.env.qual ++ "<genexpr>") (s4.toks + 1 + 1)] } }) X.xe { s2 with heap := h3, toks := tk } := by
    intro code h3 tk H2 but I3 grown free
    obtain ⟨bm, ob, b1, b2, b3, b4, b5, b6, b7, b8⟩ := TB.bm
    refine wpAny_builtinsFor (m := X.mg) (by rw [I1.ok.glob]; exact (I1.mod.glob.keeps I1.bk).extBut but TB.gP) b1 b2 (but _ _ b4 (I1.bk _ _ b5)) b6 b7 b8 ?_
    intro h' ns' same
    have up : ∀ b ob, h3.get? b = some ob → h'.get? b = some ob := fun b ob e => same.extBut b ob (Nat.ne_of_lt (Heap.lt_size e)) (Heap.get?_push_of_some _ e)
    refine hQ _ _ ⟨it, fp, tn, J, H1, H2, { s2 with heap := h3, toks := tk }, _, h'.objs.size, { cls := .type "generator", data := .fields #[.int s2.gens.size 0, .str "<genexpr>" (tk + 1), .str (X.env.qual ++ "<genexpr>") (tk + 1 + 1)] }, code, rfl, turn, ?_, fun b hb => ⟨free b hb, (f1 b hb).2⟩, I3, grown, q1, ns'.push _,
      fun b ob e => Heap.get?_push_of_some _ (up b ob e), Heap.get?_push_size _ rfl, ?_, fun v z => (nomatch z), fun hh e => ⟨_, _, _, e, rfl, rfl, rfl⟩, rfl, rfl, rfl⟩
    · exact turn.keep _ _ _ st1 fun b hb ob e => but b ob (apart b hb).1 e
    · show h3.objs.size < h'.objs.size
      rw [same.1, Heap.size_push]; exact Nat.lt_succ_self _
  cases found : codeAmong gpos ps.toList with
  | some cv => exact wpAny_genexprCode_hit hcode (head.code table tri) found (rest cv s2.heap s2.toks H1 (Heap.ExtBut.refl _ _) I1 ⟨LamX.ExtN.refl H1, tabs⟩ fun b hb => (f1 b hb).1)
  | none =>
    refine wpAny_genexprCodeX hcode (head.code table tri) (head.tab table) found fun c' h' tk but above _ _ rec' tab' _ => ?_
    obtain ⟨c2, oc, fv, tt, e2, hoc, hfv, hname⟩ := rec'
    cases e2
    have new := I1.hok.fresh above
    have I3 := LamX.inv_table (t' := tk) (q := X.env.qual ++ "<genexpr>") I1 hP (fun b ob hb e => but b ob hb e) tab'.2 above ⟨oc, fv, tt, hoc, hfv, hname⟩
    refine rest _ h' tk _ but I3 (tabs_grow tabs hP new hu tri) fun b hb => ?_
    rw [upd_ne (Nat.ne_of_lt (Nat.lt_of_lt_of_le (apart b hb).2 above)), upd_ne (apart b hb).1]
    exact (f1 b hb).1
def tGa (T : List (Addr × Str)) (st : Bool) (wi : TI) (g : TG) (te : TE) (vs : List Nat) : TE := fun σ H Q => wi σ H fun J H1 => LamX.Tabs T H1 ∧ ∀ H2, Grown T H1 H2 → ∃ W : Nat → Nat → Hp → Prop, (∃ m, W 0 m H2) ∧ ∀ i m H, W i m H →
  (J.stop i H ∧ Q (.bl (!st)) H) ∨ (J.go i H ∧ 0 < m ∧ ∃ Nx : Hp → Prop, (∀ H', Nx H' → ∃ m', m' < m ∧ W (i + 1) m' H') ∧ ∀ x H', J.yld i H x H' → g x (L2.wipe σ vs) H' fun σ2 H2 => L2.wipe σ2 vs = L2.wipe σ vs ∧
    te σ2 H2 fun y H3 => ∃ b, y = .bl b ∧ (b = st → Q (.bl st) H3) ∧ (b ≠ st → Nx H3))
/-- the generator, ready to be run -/
theorem gx_ready {Q : VK} {st : Bool} {u : Value} {s' : Shared} (hc : X.calm = true) (hr : Room (k + 1) X.A) (hN : X.N.Nodup) (ok : BlkOk X.N X.env.scope scope own) (gx : GxS scope)
    (hg : ∀ (s : Shared) (H : Hp) (C : Addr) (code : Value) (fp : List Addr), PG (gxCx X X.A.in1.in1 s H (genEnv scope (cloFrom X.env.cells scope.names []) C code builtinsNs X.env) fp) tg g)
    (he : ∀ (s : Shared) (H : Hp) (C : Addr) (code : Value) (fp : List Addr), PE (gxCx X X.A.in1.in1 s H (genEnv scope (cloFrom X.env.cells scope.names []) C code builtinsNs X.env) fp) elt te)
    (m : Made X pins σ tg elt iter scope gpos T (fun J H1 => ∀ H2, Grown T H1 H2 → ∃ W : Nat → Nat → Hp → Prop, (∃ m, W 0 m H2) ∧ ∀ i m H, W i m H →
      (J.stop i H ∧ Q (.bl (!st)) H) ∨ (J.go i H ∧ 0 < m ∧ ∃ Nx : Hp → Prop, (∀ H', Nx H' → ∃ m', m' < m ∧ W (i + 1) m' H') ∧ ∀ x H', J.yld i H x H' → g x (L2.wipe σ (own.map (·.2))) H' fun σ2 H2 => L2.wipe σ2 (own.map (·.2)) = L2.wipe σ (own.map (·.2)) ∧
        te σ2 H2 fun y H3 => ∃ b, y = .bl b ∧ (b = st → Q (.bl st) H3) ∧ (b ≠ st → Nx H3))) u s') :
    ∃ (Y : Cx) (a : Addr) (o : Obj) (gi n : Nat) (σ' : L2.St) (H' : Hp), u = .ref a ∧ Y.prog = X.prog ∧ Y.w = X.w ∧ (∀ h : Heap, h.get? a = some o → h.IsGen a gi) ∧ Inv Y [(a, o)] σ' H' s' ∧
      (∃ gs, s'.gens[gi]? = some gs ∧ gs.Goes (model Y.prog Y.w) X.A.in1.in1 (fun n s₀ r s₁ => r = .ok .next ∧ GxEnd Y [(a, o)] (Q (.bl (!st))) n s₀ s₁) (GxY Y [(a, o)] st (Q (.bl st))) n (.send .none) (s'.setGen gi .running)) ∧
      ∀ b s'', GxFin Y [(a, o)] Q b s'' → EP X pins σ Q (.bool b) s'' := by
  obtain ⟨it, fp, tn, J, H1, H2, s4, h1, a, o, code, rfl, T, t0, f2, I2, tb, hW, hns, kp, ha, hal, ho, hgen, e1, e2, e3⟩ := m
  obtain ⟨W, ⟨m0, w0⟩, turn⟩ := hW H2 tb
  have f3 : ∀ b ∈ fp, FpOk X pins H2 b ∧ b < s4.heap.objs.size := fun b hb => by
    obtain ⟨ob, e, _⟩ := T.obj _ _ t0 b hb
    exact ⟨f2 b hb, Heap.lt_size e⟩
  obtain ⟨h', g', d', tk', o'⟩ := s'
  have e1 : h' = h1 := e1
  have e2 : o' = s4.os := e2
  have e3 : g' = s4.gens.push _ := e3
  subst e1 e2 e3
  have bare0 : AllBare (s4.gens.push (.fresh (.compStart (.GeneratorExp elt [⟨tg, iter, [], 0⟩] scope gpos) 0 (.ref it) .none (genEnv scope (cloFrom X.env.cells scope.names []) s4.heap.objs.size code builtinsNs X.env)))) := I2.bare.push rfl
  have J0 := gx_start (A := X.A.in1.in1) (code := code) (tk := tk') I2 ok gx hr.hd I2.ok.frames hN f3 hns kp ha hal ho bare0
  have J1 := inv_woke J0 (s' := ({ heap := h', gens := s4.gens.push (.fresh (.compStart (.GeneratorExp elt [⟨tg, iter, [], 0⟩] scope gpos) 0 (.ref it) .none (genEnv scope (cloFrom X.env.cells scope.names []) s4.heap.objs.size code builtinsNs X.env))), drawn := d', toks := tk', os := s4.os } : Shared)) ⟨rfl, rfl, bare0⟩
  have t1 : tn 0 h' := T.keep _ _ _ t0 fun b _ o e => kp b o e
  have wk : ∀ S : Shared, S.os = s4.os → S.heap = h' → AllBare S.gens → Woke S (S.setGen s4.gens.size .running) := fun S _ _ hb => ⟨rfl, rfl, allBare_setGen hb rfl⟩
  have J2 := inv_woke J1 (wk _ rfl rfl bare0)
  refine ⟨gxCx X X.A.in1.in1 s4 H2 (genEnv scope (cloFrom X.env.cells scope.names []) s4.heap.objs.size code builtinsNs X.env) fp, a, o, s4.gens.size, m0, _, H2, rfl, rfl, rfl, hgen, J1, ⟨_, Array.getElem?_push_size .., rfl, ?_⟩, fun b s'' hf => ?_⟩
  · refine seg_gxStart (Y := gxCx X X.A.in1.in1 s4 H2 (genEnv scope (cloFrom X.env.cells scope.names []) s4.heap.objs.size code builtinsNs X.env) fp) (W := W) (vs := own.map (·.2)) (σ := σ) rfl rfl rfl T (hg s4 H2 s4.heap.objs.size code fp) (he s4 H2 s4.heap.objs.size code fp) gx.co (fun {σ' H' s'} I' hn b hb => ?_) turn (Nat.le_refl _) w0 J2 t1 fun b hb => (f2 b hb).1
    refine ⟨hn b hb, (I'.ok.exf b hb).1, I'.ok.exfs b hb, .inl hb, fun x c e => (I'.ok.exf b hb).2 x c e, fun p hp => ?_⟩
    have hp : p ∈ ([] : List (Addr × Obj)) ++ [(a, o)] := hp
    have e : p = (a, o) := by simpa using hp
    subst e
    exact Nat.ne_of_gt (Nat.lt_trans (f3 b hb).2 hal)
  · obtain ⟨σ1, H5, I5, q⟩ := hf
    refine ⟨.bl b, H5, ?_, rfl, q⟩
    exact I2.call' (ch := fp) I5.os I5.base I5.hok I5.bare fun b hb => ⟨(f3 b hb).1.2.2.2.1, (f3 b hb).1.2.1, (f3 b hb).1.2.2.2.2.1, (f3 b hb).1.2.2.2.2.2⟩
/-- f(elt for tg in iter), f one of all, any -/
theorem pe_gx {f : String} {st : Bool} (hc : X.calm = true) (hr : Room (k + 1) X.A) (hgl : Gl X (Str.ofString f)) (hm : X.mg (Str.ofString f) = none) (hv : bootBuiltins (Str.ofString f) = some (.builtin f)) (hn : Str.ofString f ≠ "__name__") (hdb : (Str.ofString f == ("__debug__" : Str)) = false)
    (begin_ : ∀ (A : Around) (a : Addr) (s : Shared) (Q : Value → Shared → Prop) (E : Value → Shared → Prop) (gi : Nat), s.heap.IsGen a gi → codeAny (model X.prog X.w) A (.builtin (f ++ ".loop") ⟨[.ref a], []⟩) (fun r s' => match r with | .ok (.ret v) => Q v s' | .ok _ => False | .error e => E e s') s → wpAny (model X.prog X.w) A (call (.builtin f) [.ref a]) Q E s)
    (L : LoopB X.prog X.w (f ++ ".loop") st) (TB : LamX.TabB X.base X.mg c P) (hcode : X.env.code = .ref c) (hmT : (P, X.env.qual ++ "<genexpr>") ∈ T) (hu : ∀ p ∈ T, p.1 = P → p.2 = X.env.qual ++ "<genexpr>") (hN : X.N.Nodup) (ok : BlkOk X.N X.env.scope scope own) (gx : GxS scope) (hi : PI X tg iter wi)
    (hg : ∀ (s : Shared) (H : Hp) (C : Addr) (code : Value) (fp : List Addr), PG (gxCx X X.A.in1.in1 s H (genEnv scope (cloFrom X.env.cells scope.names []) C code builtinsNs X.env) fp) tg g)
    (he : ∀ (s : Shared) (H : Hp) (C : Addr) (code : Value) (fp : List Addr), PE (gxCx X X.A.in1.in1 s H (genEnv scope (cloFrom X.env.cells scope.names []) C code builtinsNs X.env) fp) elt te)
    (hs : ∀ v, genFold iter X.env v = pure v) (hst : starEach [.GeneratorExp elt [⟨tg, iter, [], 0⟩] scope gpos] X.env = (false, eval (.GeneratorExp elt [⟨tg, iter, [], 0⟩] scope gpos) X.env) :: starEach [] X.env) :
    PE X (.Call (.Name (Str.ofString f) p) [.GeneratorExp elt [⟨tg, iter, [], 0⟩] scope gpos] [] pos) (tGa T st wi g te (own.map (·.2))) := by
  constructor
  intro pins s σ H Q I want
  refine wpAny_Call_Name_kw (ld_blt I hgl hm hv (PyProof.Rows.callWith_builtin1 ?_ hst rfl) hn hdb)
  rw [hst]
  apply Calls.spliced_cons (rest := backTo pos (starEach [] X.env))
  refine gx_make hr TB hcode hmT hu ok gx hi hs I want fun u s' made => Calls.spliced_nil ?_
  obtain ⟨Y, a, o, gi, n, τ, G, rfl, eP, eW, isGen, IY, goes, fin⟩ := gx_ready hc hr hN ok gx hg he made
  refine begin_ X.A a s' _ _ gi (isGen _ (IY.pin (a, o) (by simp)).1) ?_
  rw [← eP, ← eW] at L ⊢
  exact gx_loop (A := X.A) L hr.hd hr.depth isGen (fun b s1 e => fin b s1 e) n s' τ G IY goes
theorem begin_all {prog : Program} {w : World} (A : Around) (a : Addr) (s : Shared) (Q : Value → Shared → Prop) (E : Value → Shared → Prop) (gi : Nat) (h : s.heap.IsGen a gi) (go : codeAny (model prog w) A (.builtin ("all" ++ ".loop") ⟨[.ref a], []⟩) (fun r s' => match r with | .ok (.ret v) => Q v s' | .ok _ => False | .error e => E e s') s) :
    wpAny (model prog w) A (call (.builtin "all") [.ref a]) Q E s :=
  call_function_tree F.kind_all F.plain_all F.entry_all (F.args_all1 _) (wpAny_bind (m := oneArg "all" _) (wpAny_pure (wpAny_bind (wpAny_pyIter_gen h (wpAny_pure ⟨plainId_quiet F.plain_all_loop _, go⟩)))))
theorem begin_any {prog : Program} {w : World} (A : Around) (a : Addr) (s : Shared) (Q : Value → Shared → Prop) (E : Value → Shared → Prop) (gi : Nat) (h : s.heap.IsGen a gi) (go : codeAny (model prog w) A (.builtin ("any" ++ ".loop") ⟨[.ref a], []⟩) (fun r s' => match r with | .ok (.ret v) => Q v s' | .ok _ => False | .error e => E e s') s) :
    wpAny (model prog w) A (call (.builtin "any") [.ref a]) Q E s :=
  call_function_tree F.kind_any F.plain_any F.entry_any (F.args_any1 _) (wpAny_bind (m := oneArg "any" _) (wpAny_pure (wpAny_bind (wpAny_pyIter_gen h (wpAny_pure ⟨plainId_quiet F.plain_any_loop _, go⟩)))))
end
/-- tables have grown -/
def Wd.tab (w : Wd) (H : Hp) : Wd := { w with H := H }
theorem xs_tab {w : Wd} {H : Hp} (t : LamX.ExtN w.H H) : XS w (w.tab H) := ⟨rfl, rfl, rfl, List.prefix_refl _, fun b o e n nt => ⟨t b o e nt, n⟩⟩
theorem RelH.tab {w : Wd} {h : List O} {H : Hp} (r : RelH w h) (t : Grown w.gd.T w.H H) : RelH (w.tab H) h := by
  have a := (xs_tab t.1).step
  refine ⟨r.len, r.nd, fun i o c e1 e2 => ?_, fun b hb => ?_, t.2⟩
  · exact (r.obj i o c e1 e2).mv a fun u e nt => t.1 _ _ e nt
  · obtain ⟨⟨o, e, nt⟩, hb2⟩ := r.own b hb
    exact ⟨⟨o, t.1 _ _ e nt, nt⟩, hb2⟩
theorem tBl_ok {me : E} {a : S} {h h' : List O} {b : Bool} (e : tBl me a h = .ok b h') : me a h = .ok (.bl b) h' := by
  have e : (me a h).next _ = .ok b h' := e
  obtain ⟨d, h1, e1, e2⟩ := next_ok e
  cases d with
  | bl c => have e2 : R.ok c h1 = R.ok b h' := e2; cases e2; exact e1
  | _ => cases e2
section
variable {K : PySem.W.Frag} {gd : Gd} {Ex : XK} {mi : I} {mg : G} {me : E} {vs vs' : List Nat} {σ : L2.St} {H : Hp} {Q : VK} {P : Addr}
theorem idem_wipe (σ : L2.St) (us : List Nat) : L2.wipe (L2.wipe σ us) us = L2.wipe σ us := wipe_eq (L2.wipe_length _ _) fun j hj => L2.wipe_out hj
theorem ga_all (hv : ∀ i ∈ vs', i ∈ vs) (q : tE K gd Ex (eAll mi mg (tBl me) vs) σ H Q) : tGa gd.T false (tI K gd Ex mi) (tG K gd mg vs') (tE K gd E0 me) vs σ H Q := by
  obtain ⟨w, h, aσ, wk, wg, rfl, r, sl, o⟩ := q
  refine tI_bind wk wg r sl o fun ds h1 w1 s1 k1 g1 r1 sl1 o1 J wd => ⟨by rw [← g1]; exact r1.tT, fun H2 tb => ?_⟩
  obtain ⟨rb, hf, er, o2⟩ := out_noer o1
  have o2 : ∀ w2, XS w1 w2 → RelH w2 hf → Q (.bl rb) w2.H := fun w2 a r2 => (show Out w1 Ex (ret (D.bl rb) hf) _ from o2) w2 a r2 _ (by rw [Rep])
  refine ⟨fun i m H => m = ds.length - i ∧ i ≤ ds.length ∧ ∃ w' h', XS w1 w' ∧ w'.H = H ∧ RelH w' h' ∧ allGo mg (tBl me) (Cf.wipe aσ vs) (ds.drop i) h' = .ok rb hf,
    ⟨_, rfl, Nat.zero_le _, w1.tab H2, h1, xs_tab tb.1, rfl, r1.tab (by rw [g1]; exact tb), er⟩, fun i m H hW => ?_⟩
  obtain ⟨rfl, hi, w', h', xs, rfl, r', ec⟩ := hW
  by_cases hlt : i < ds.length
  · refine .inr ⟨wd.go i w' xs.step hlt, by omega, ?_⟩
    have ed : ds.drop i = ds[i] :: ds.drop (i + 1) := List.drop_eq_getElem_cons hlt
    rw [ed] at ec
    refine ⟨fun H' => ∃ w' h', XS w1 w' ∧ w'.H = H' ∧ RelH w' h' ∧ allGo mg (tBl me) (Cf.wipe aσ vs) (ds.drop (i + 1)) h' = .ok rb hf, fun H' z => ⟨_, by omega, rfl, hlt, z⟩, fun x H' hy => ?_⟩
    obtain ⟨w3, d, s3, rfl, r3, e3, rd⟩ := wd.yld i w' h' x H' xs.step r' hlt hy
    rw [List.getElem?_eq_getElem hlt] at e3
    cases e3
    have ec : (match mg ds[i] (Cf.wipe aσ vs) with
      | none => no
      | some σ1 => tBl me σ1 >>= fun b => if b = true then allGo mg (tBl me) (Cf.wipe aσ vs) (ds.drop (i + 1)) else ret false) h' = .ok rb hf := ec
    cases eg : mg ds[i] (Cf.wipe aσ vs) with
    | none => rw [eg] at ec; cases ec
    | some a1 =>
      rw [eg] at ec
      have x3 := xs.trans s3
      refine ⟨w3, h', Cf.wipe aσ vs, ds[i], a1, x3.k.trans k1, x3.g.trans g1, rfl, r3, (sl1.xs x3 r1).wipe vs, rd, eg, fun σ2 s2 l2 ag => ⟨?_, ?_⟩⟩
      · rw [wipe_eq l2 (vs := vs) (fun j hj => ag j fun z => hj (hv j z))]
        exact idem_wipe σ vs
      · obtain ⟨b, h4, et, ec⟩ := next_ok ec
        refine ⟨w3, h', a1, x3.k.trans k1, x3.g.trans g1, rfl, r3, s2, Out.ok (tBl_ok et) fun w4 s4 r4 v rv => ?_⟩
        have x4 := x3.trans s4
        rw [Rep] at rv
        refine ⟨b, rv, fun hb => ?_, fun hb => ?_⟩
        · subst hb
          have ec : R.ok false h4 = R.ok rb hf := ec
          cases ec
          exact o2 w4 x4 r4
        · have hb : b = true := by cases b; exact absurd rfl hb; rfl
          subst hb
          exact ⟨w4, h4, x4, rfl, r4, ec⟩
  · have e : i = ds.length := Nat.le_antisymm hi (Nat.le_of_not_lt hlt)
    subst e
    rw [List.drop_length] at ec
    have ec : R.ok true h' = R.ok rb hf := ec
    cases ec
    exact .inl ⟨wd.stop w' xs.step, o2 w' xs r'⟩
theorem ga_any (hv : ∀ i ∈ vs', i ∈ vs) (q : tE K gd Ex (eAny mi mg (tBl me) vs) σ H Q) : tGa gd.T true (tI K gd Ex mi) (tG K gd mg vs') (tE K gd E0 me) vs σ H Q := by
  obtain ⟨w, h, aσ, wk, wg, rfl, r, sl, o⟩ := q
  refine tI_bind wk wg r sl o fun ds h1 w1 s1 k1 g1 r1 sl1 o1 J wd => ⟨by rw [← g1]; exact r1.tT, fun H2 tb => ?_⟩
  obtain ⟨rb, hf, er, o2⟩ := out_noer o1
  have o2 : ∀ w2, XS w1 w2 → RelH w2 hf → Q (.bl rb) w2.H := fun w2 a r2 => (show Out w1 Ex (ret (D.bl rb) hf) _ from o2) w2 a r2 _ (by rw [Rep])
  refine ⟨fun i m H => m = ds.length - i ∧ i ≤ ds.length ∧ ∃ w' h', XS w1 w' ∧ w'.H = H ∧ RelH w' h' ∧ anyGo mg (tBl me) (Cf.wipe aσ vs) (ds.drop i) h' = .ok rb hf,
    ⟨_, rfl, Nat.zero_le _, w1.tab H2, h1, xs_tab tb.1, rfl, r1.tab (by rw [g1]; exact tb), er⟩, fun i m H hW => ?_⟩
  obtain ⟨rfl, hi, w', h', xs, rfl, r', ec⟩ := hW
  by_cases hlt : i < ds.length
  · refine .inr ⟨wd.go i w' xs.step hlt, by omega, ?_⟩
    have ed : ds.drop i = ds[i] :: ds.drop (i + 1) := List.drop_eq_getElem_cons hlt
    rw [ed] at ec
    refine ⟨fun H' => ∃ w' h', XS w1 w' ∧ w'.H = H' ∧ RelH w' h' ∧ anyGo mg (tBl me) (Cf.wipe aσ vs) (ds.drop (i + 1)) h' = .ok rb hf, fun H' z => ⟨_, by omega, rfl, hlt, z⟩, fun x H' hy => ?_⟩
    obtain ⟨w3, d, s3, rfl, r3, e3, rd⟩ := wd.yld i w' h' x H' xs.step r' hlt hy
    rw [List.getElem?_eq_getElem hlt] at e3
    cases e3
    have ec : (match mg ds[i] (Cf.wipe aσ vs) with
      | none => no
      | some σ1 => tBl me σ1 >>= fun b => if b = true then ret true else anyGo mg (tBl me) (Cf.wipe aσ vs) (ds.drop (i + 1))) h' = .ok rb hf := ec
    cases eg : mg ds[i] (Cf.wipe aσ vs) with
    | none => rw [eg] at ec; cases ec
    | some a1 =>
      rw [eg] at ec
      have x3 := xs.trans s3
      refine ⟨w3, h', Cf.wipe aσ vs, ds[i], a1, x3.k.trans k1, x3.g.trans g1, rfl, r3, (sl1.xs x3 r1).wipe vs, rd, eg, fun σ2 s2 l2 ag => ⟨?_, ?_⟩⟩
      · rw [wipe_eq l2 (vs := vs) (fun j hj => ag j fun z => hj (hv j z))]
        exact idem_wipe σ vs
      · obtain ⟨b, h4, et, ec⟩ := next_ok ec
        refine ⟨w3, h', a1, x3.k.trans k1, x3.g.trans g1, rfl, r3, s2, Out.ok (tBl_ok et) fun w4 s4 r4 v rv => ?_⟩
        have x4 := x3.trans s4
        rw [Rep] at rv
        refine ⟨b, rv, fun hb => ?_, fun hb => ?_⟩
        · subst hb
          have ec : R.ok true h4 = R.ok rb hf := ec
          cases ec
          exact o2 w4 x4 r4
        · have hb : b = false := by cases b; rfl; exact absurd rfl hb
          subst hb
          exact ⟨w4, h4, x4, rfl, r4, ec⟩
  · have e : i = ds.length := Nat.le_antisymm hi (Nat.le_of_not_lt hlt)
    subst e
    rw [List.drop_length] at ec
    have ec : R.ok false h' = R.ok rb hf := ec
    cases ec
    exact .inl ⟨wd.stop w' xs.step, o2 w' xs r'⟩
end
section
variable {X : Cx} {gd : Gd} {Ex : XK} {tg elt iter : Expr} {scope : Scope} {gpos pos p : Pos} {own : List (Str × Nat)} {c P : Addr} {k : Nat} {mi : I} {mg : G} {me : E} {vs' : List Nat}
/-- what a def has for its generator expressions -/
structure GxD (X : Cx) (gd : Gd) (k : Nat) (c P : Addr) : Prop where
  room : Room (k + 1) X.A
  tb : LamX.TabB X.base X.mg c P
  code : X.env.code = .ref c
  nd : X.N.Nodup
  calm : X.calm = true
  mem : (P, X.env.qual ++ "<genexpr>") ∈ gd.T
  one : ∀ p ∈ gd.T, p.1 = P → p.2 = X.env.qual ++ "<genexpr>"
theorem R_all (G : GxD X gd k c P) (hgl : Gl X "all") (hm : X.mg "all" = none) (ok : BlkOk X.N X.env.scope scope own) (gx : GxS scope) (hv : ∀ i ∈ vs', i ∈ own.map (·.2)) (hi : PI X tg iter (tI X.K gd Ex mi))
    (hg : ∀ (s : Shared) (H : Hp) (C : Addr) (code : Value) (fp : List Addr), PG (gxCx X X.A.in1.in1 s H (genEnv scope (cloFrom X.env.cells scope.names []) C code builtinsNs X.env) fp) tg (tG X.K gd mg vs'))
    (he : ∀ (s : Shared) (H : Hp) (C : Addr) (code : Value) (fp : List Addr), PE (gxCx X X.A.in1.in1 s H (genEnv scope (cloFrom X.env.cells scope.names []) C code builtinsNs X.env) fp) elt (tE X.K gd E0 me))
    (hs : ∀ v, genFold iter X.env v = pure v := by intro _; rfl)
    (hst : starEach [.GeneratorExp elt [⟨tg, iter, [], 0⟩] scope gpos] X.env = (false, eval (.GeneratorExp elt [⟨tg, iter, [], 0⟩] scope gpos) X.env) :: starEach [] X.env := by rfl) :
    PE X (.Call (.Name "all" p) [.GeneratorExp elt [⟨tg, iter, [], 0⟩] scope gpos] [] pos) (tE X.K gd Ex (eAll mi mg (tBl me) (own.map (·.2)))) :=
  PE.imp (pe_gx (f := "all") G.calm G.room hgl hm PyProof.Rows.boot_all (by decide) (by decide) begin_all loop_all G.tb G.code G.mem G.one G.nd ok gx hi hg he hs hst) fun σ H Q h => ga_all hv h
theorem R_any (G : GxD X gd k c P) (hgl : Gl X "any") (hm : X.mg "any" = none) (ok : BlkOk X.N X.env.scope scope own) (gx : GxS scope) (hv : ∀ i ∈ vs', i ∈ own.map (·.2)) (hi : PI X tg iter (tI X.K gd Ex mi))
    (hg : ∀ (s : Shared) (H : Hp) (C : Addr) (code : Value) (fp : List Addr), PG (gxCx X X.A.in1.in1 s H (genEnv scope (cloFrom X.env.cells scope.names []) C code builtinsNs X.env) fp) tg (tG X.K gd mg vs'))
    (he : ∀ (s : Shared) (H : Hp) (C : Addr) (code : Value) (fp : List Addr), PE (gxCx X X.A.in1.in1 s H (genEnv scope (cloFrom X.env.cells scope.names []) C code builtinsNs X.env) fp) elt (tE X.K gd E0 me))
    (hs : ∀ v, genFold iter X.env v = pure v := by intro _; rfl)
    (hst : starEach [.GeneratorExp elt [⟨tg, iter, [], 0⟩] scope gpos] X.env = (false, eval (.GeneratorExp elt [⟨tg, iter, [], 0⟩] scope gpos) X.env) :: starEach [] X.env := by rfl) :
    PE X (.Call (.Name "any" p) [.GeneratorExp elt [⟨tg, iter, [], 0⟩] scope gpos] [] pos) (tE X.K gd Ex (eAny mi mg (tBl me) (own.map (·.2)))) :=
  PE.imp (pe_gx (f := "any") G.calm G.room hgl hm PyProof.Rows.boot_any (by decide) (by decide) begin_any loop_any G.tb G.code G.mem G.one G.nd ok gx hi hg he hs hst) fun σ H Q h => ga_any hv h
theorem gx_room {k : Nat} {A : Around} {env : Env} (r : Room (k + 1) A) : Room k (A.in1.in1.deeper env) :=
  ⟨r.hd, by have := r.dp; show A.depth + 1 + 3 * k + 5 < _; omega, by have := r.un; show A.units + 1 + 1 + 3 + 16 * k + 200 < _; omega⟩
end
end Cf
set_option Elab.async false
set_option linter.all false
set_option maxRecDepth 100000
set_option maxHeartbeats 2000000
/-! CfI: statements; a def by its mirror; calls. -/
namespace Cf
open PySem PySem.Spec PyProof.Rows L2

/-- since the def's entry -/
structure Fr (w0 w : Wd) : Prop where
  k : w.K = w0.K
  g : w.gd = w0.gd
  n : ∀ b, w0.N b → w.N b
  pre : w0.ρ <+: w.ρ
  keep : ∀ b o, w0.H b = some o → b ∉ w0.ρ → NoTbl o → w.H b = some o ∧ b ∉ w.ρ
theorem Fr.refl (w : Wd) : Fr w w := ⟨rfl, rfl, fun _ h => h, List.prefix_refl _, fun _ _ e n _ => ⟨e, n⟩⟩
theorem Fr.xs {w0 w w' : Wd} (a : Fr w0 w) (b : XS w w') : Fr w0 w' :=
  ⟨b.k.trans a.k, b.g.trans a.g, fun c h => by rw [b.n]; exact a.n c h, a.pre.trans b.pre, fun c o e n t => let ⟨e1, n1⟩ := a.keep c o e n t; b.keep c o e1 n1 t⟩
/-- what was owned since is let go -/
def Wd.back (w w0 : Wd) : Wd := { w with N := w0.N }
theorem Fr.back {w0 w : Wd} {h : List O} (a : Fr w0 w) (r : RelH w h) : XS w0 (w.back w0) ∧ RelH (w.back w0) h ∧ Step w (w.back w0) := by
  obtain ⟨st, r2⟩ := r.drop (N := w0.N) a.n
  exact ⟨⟨a.k, a.g, rfl, a.pre, fun b o e n t => a.keep b o e n t⟩, r2, st⟩

/-- a place that the def's caller does not look at -/
def Free (w0 : Wd) (a : Addr) : Prop := ¬ w0.N a ∧ ∀ o, w0.H a = some o → a ∉ w0.ρ → ¬ NoTbl o
/-- the slots of a def: what is owned lies apart -/
structure SlS (w0 w : Wd) (σ : L2.St) (aσ : S) : Prop where
  len : σ.length = aσ.length
  val : ∀ (i : Nat) (d : D), aσ[i]? = some (.val d) → ∃ v, σ[i]? = some (some v) ∧ Rep w d v
  own : ∃ T : Nat → List Addr, (∀ (i : Nat) (d : D), aσ[i]? = some (.own d) → ∃ v, σ[i]? = some (some v) ∧ Own w d v (T i)) ∧ (∀ i j, i ≠ j → ∀ a ∈ T i, a ∉ T j) ∧ ∀ i, (T i).Nodup ∧ ∀ a ∈ T i, Free w0 a
theorem SlS.sl {w0 w : Wd} {σ : L2.St} {aσ : S} (s : SlS w0 w σ aσ) : SlE w σ aσ :=
  ⟨s.len, s.val, fun i d e => let ⟨T, h, _⟩ := s.own; let ⟨v, e1, e2⟩ := h i d e; ⟨v, T i, e1, e2⟩⟩
theorem SlS.xs {w0 w w' : Wd} {h : List O} {σ : L2.St} {aσ : S} (s : SlS w0 w σ aσ) (a : XS w w') (r : RelH w h) : SlS w0 w' σ aσ :=
  ⟨s.len, (s.sl.xs a r).val, let ⟨T, h1, h2⟩ := s.own; ⟨T, fun i d e => let ⟨v, e1, e2⟩ := h1 i d e; ⟨v, e1, e2.xs a r.own⟩, h2⟩⟩
theorem set_own {aσ : S} {i j : Nat} {x : Sl} {d : D} (hx : ∀ d, x ≠ .own d) (e : (aσ.set i x)[j]? = some (.own d)) : j ≠ i ∧ aσ[j]? = some (.own d) := by
  by_cases hj : i = j
  · subst hj
    have hlt : i < aσ.length := by
      have := (List.getElem?_eq_some_iff.mp e).1
      rw [List.length_set] at this; exact this
    rw [List.getElem?_set_self hlt] at e
    exact absurd (Option.some.inj e) (hx d)
  · rw [List.getElem?_set_ne hj] at e
    exact ⟨Ne.symm hj, e⟩
theorem SlS.set {w0 w : Wd} {σ : L2.St} {aσ : S} {i : Nat} {d : D} {v : V} (s : SlS w0 w σ aσ) (r : Rep w d v) : SlS w0 w (σ.set i (some v)) (aσ.set i (.val d)) := by
  refine ⟨(s.sl.set r).len, (s.sl.set r).val, ?_⟩
  obtain ⟨T, h1, h2, h3⟩ := s.own
  refine ⟨fun j => T j, fun j d' e => ?_, h2, h3⟩
  obtain ⟨hj, e'⟩ := set_own (fun d z => by cases z) e
  obtain ⟨u, e1, e2⟩ := h1 j d' e'
  exact ⟨u, by rw [List.getElem?_set_ne (Ne.symm hj)]; exact e1, e2⟩
/-- by slots that hold what the mirror says -/
theorem SlS.of {w0 w : Wd} {σ σ' : L2.St} {aσ aσ' : S} (s : SlS w0 w σ aσ) (s' : SlE w σ' aσ') (ag : ∀ (j : Nat), σ'[j]? = σ[j]? ∨ ∀ d : D, aσ'[j]? ≠ some (Sl.own d)) (ho : ∀ (j : Nat) (d : D), aσ'[j]? = some (Sl.own d) → aσ[j]? = some (Sl.own d)) : SlS w0 w σ' aσ' := by
  refine ⟨s'.len, s'.val, ?_⟩
  obtain ⟨T, h1, h2, h3⟩ := s.own
  refine ⟨T, fun j d e => ?_, h2, h3⟩
  obtain ⟨u, e1, e2⟩ := h1 j d (ho j d e)
  rcases ag j with z | z
  · exact ⟨u, z.trans e1, e2⟩
  · exact absurd e (z d)

/-! ### statements -/
def OutS (w0 w1 : Wd) (Ex : XK) (D : L2.Ends) : RS → Prop
  | .nx aσ h => ∀ w σ, Fr w0 w → Step w1 w → RelH w h → SlS w0 w σ aσ → D.nx σ w.H
  | .bk aσ h => ∀ w σ, Fr w0 w → Step w1 w → RelH w h → SlS w0 w σ aσ → D.bk σ w.H
  | .ct aσ h => ∀ w σ, Fr w0 w → Step w1 w → RelH w h → SlS w0 w σ aσ → D.ct σ w.H
  | .rt d h => ∀ w v, XS w0 w → RelH w h → Rep w d v → D.rt v w.H
  | .er c vs h => ∀ w C dx, XS w0 w → RelH w h → w0.gd.cl c = some C → XdRep w dx (exFields c) vs → Ex (.ref C) (some dx) w.H
  | .no => False
theorem OutS.step {w0 w1 w2 : Wd} {Ex : XK} {D : L2.Ends} {r : RS} (o : OutS w0 w1 Ex D r) (s : Step w1 w2) : OutS w0 w2 Ex D r := by
  cases r with
  | no => exact o
  | rt d h => exact o
  | er c vs h => exact o
  | nx a h => exact fun w σ f t => o w σ f (s.trans t)
  | bk a h => exact fun w σ f t => o w σ f (s.trans t)
  | ct a h => exact fun w σ f t => o w σ f (s.trans t)
def tS (K : PySem.W.Frag) (gd : Gd) (Ex : XK) (m : Ms) : TS := fun D σ H => ∃ w0 w1 w h aσ, Fr w0 w ∧ Step w1 w ∧ w.K = K ∧ w.gd = gd ∧ w.H = H ∧ RelH w h ∧ SlS w0 w σ aσ ∧ OutS w0 w1 Ex D (m aσ h)
theorem PS.imp {X : Cx} {st : Stmt} {t t' : TS} (h : PS X st t) (i : ∀ D σ H, t' D σ H → t D σ H) : PS X st t' := ⟨fun pins s σ H D I q => h.run pins s σ H D I (i D σ H q)⟩
theorem PSs.imp {X : Cx} {st : List Stmt} {t t' : TS} (h : PSs X st t) (i : ∀ D σ H, t' D σ H → t D σ H) : PSs X st t' := ⟨fun pins s σ H D I q => h.run pins s σ H D I (i D σ H q)⟩
theorem XdRep.step {w w' : Wd} (a : Step w w') {dx : Addr} {ns : List Str} {vs : List D} {fs : List (Str × V)} (e : w'.H dx = some (.xd fs)) (h : fs.map (·.1) = ns) (r : Reps w vs (fs.map (·.2))) : XdRep w' dx ns vs := ⟨fs, e, h, Reps.step a _ _ r⟩
/-- an expression in a statement -/
theorem outS_out {α : Type} {w0 w1 w : Wd} {Ex : XK} {D : L2.Ends} {r : R α} {h0 : List O} {f : α → List O → RS} (fr : Fr w0 w) (st : Step w1 w) (o : OutS w0 w1 Ex D (r.stmt f)) :
    Out w Ex r (fun d h1 w' => Fr w0 w' ∧ Step w1 w' ∧ XS w w' ∧ RelH w' h1 ∧ OutS w0 w1 Ex D (f d h1)) := by
  cases r with
  | no => exact o
  | ok d h1 => exact fun w' s' r' => ⟨fr.xs s', st.trans s'.step, s', r', o⟩
  | er c vs h1 =>
    intro w' C dx s' r' hc hx
    obtain ⟨x1, r2, st2⟩ := (fr.xs s').back r'
    obtain ⟨fs, e1, e2, e3⟩ := hx
    exact o (w'.back w0) C dx x1 r2 (by rw [← fr.g]; exact hc) ⟨fs, e1, e2, Reps.step st2 _ _ e3⟩
theorem tS_E {K : PySem.W.Frag} {gd : Gd} {Ex : XK} {Z : L2.Ends} {e : E} {f : D → List O → RS} {w0 w1 w : Wd} {h : List O} {σ : L2.St} {aσ : S} {Q : V → Hp → Prop} (fr : Fr w0 w) (st : Step w1 w) (wk : w.K = K) (wg : w.gd = gd) (r : RelH w h) (sl : SlS w0 w σ aσ) (o : OutS w0 w1 Ex Z ((e aσ h).stmt f))
    (hq : ∀ (d : D) (h1 : List O) (w' : Wd) (v : V), Fr w0 w' → Step w1 w' → w'.K = K → w'.gd = gd → RelH w' h1 → SlS w0 w' σ aσ → Rep w' d v → OutS w0 w1 Ex Z (f d h1) → Q v w'.H) : tE K gd Ex e σ w.H Q := by
  refine ⟨w, h, aσ, wk, wg, rfl, r, sl.sl, ?_⟩
  exact Out.mono (outS_out (h0 := h) fr st o) fun d h1 w' ⟨f1, s1, x1, r1, o1⟩ v rv => hq d h1 w' v f1 s1 (x1.k.trans wk) (x1.g.trans wg) r1 (sl.xs x1 r) rv o1
theorem tS_T {K : PySem.W.Frag} {gd : Gd} {Ex : XK} {Z : L2.Ends} {e : T} {f : Bool → List O → RS} {w0 w1 w : Wd} {h : List O} {σ : L2.St} {aσ : S} {Q : Bool → Hp → Prop} (fr : Fr w0 w) (st : Step w1 w) (wk : w.K = K) (wg : w.gd = gd) (r : RelH w h) (sl : SlS w0 w σ aσ) (o : OutS w0 w1 Ex Z ((e aσ h).stmt f))
    (hq : ∀ (d : Bool) (h1 : List O) (w' : Wd), Fr w0 w' → Step w1 w' → w'.K = K → w'.gd = gd → RelH w' h1 → SlS w0 w' σ aσ → OutS w0 w1 Ex Z (f d h1) → Q d w'.H) : tT K gd Ex e σ w.H Q := by
  refine ⟨w, h, aσ, wk, wg, rfl, r, sl.sl, ?_⟩
  exact Out.mono (outS_out (h0 := h) fr st o) fun d h1 w' ⟨f1, s1, x1, r1, o1⟩ => hq d h1 w' f1 s1 (x1.k.trans wk) (x1.g.trans wg) r1 (sl.xs x1 r) o1
theorem tS_A {K : PySem.W.Frag} {gd : Gd} {Ex : XK} {Z : L2.Ends} {es : List E} {f : List D → List O → RS} {w0 w1 w : Wd} {h : List O} {σ : L2.St} {aσ : S} {Q : List V → Hp → Prop} (fr : Fr w0 w) (st : Step w1 w) (wk : w.K = K) (wg : w.gd = gd) (r : RelH w h) (sl : SlS w0 w σ aσ) (o : OutS w0 w1 Ex Z ((evs es aσ h).stmt f))
    (hq : ∀ (d : List D) (h1 : List O) (w' : Wd) (v : List V), Fr w0 w' → Step w1 w' → w'.K = K → w'.gd = gd → RelH w' h1 → SlS w0 w' σ aσ → Reps w' d v → OutS w0 w1 Ex Z (f d h1) → Q v w'.H) : tA K gd Ex es σ w.H Q := by
  refine ⟨w, h, aσ, wk, wg, rfl, r, sl.sl, ?_⟩
  exact Out.mono (outS_out (h0 := h) fr st o) fun d h1 w' ⟨f1, s1, x1, r1, o1⟩ v rv => hq d h1 w' v f1 s1 (x1.k.trans wk) (x1.g.trans wg) r1 (sl.xs x1 r) rv o1
theorem tS_I {K : PySem.W.Frag} {gd : Gd} {Ex : XK} {Z : L2.Ends} {e : I} {f : List D → List O → RS} {w0 w1 w : Wd} {h : List O} {σ : L2.St} {aσ : S} {Q : It → Hp → Prop} (fr : Fr w0 w) (st : Step w1 w) (wk : w.K = K) (wg : w.gd = gd) (r : RelH w h) (sl : SlS w0 w σ aσ) (o : OutS w0 w1 Ex Z ((e aσ h).stmt f))
    (hq : ∀ (d : List D) (h1 : List O) (w' : Wd), Fr w0 w' → Step w1 w' → w'.K = K → w'.gd = gd → RelH w' h1 → SlS w0 w' σ aσ → OutS w0 w1 Ex Z (f d h1) → ∀ J, WalkD w' d J → Q J w'.H) : tI K gd Ex e σ w.H Q := by
  refine ⟨w, h, aσ, wk, wg, rfl, r, sl.sl, ?_⟩
  exact Out.mono (outS_out (h0 := h) fr st o) fun d h1 w' ⟨f1, s1, x1, r1, o1⟩ J wd => hq d h1 w' f1 s1 (x1.k.trans wk) (x1.g.trans wg) r1 (sl.xs x1 r) o1 J wd

/-- what a target does to the slots -/
structure GOk (g : G) (vs : List Nat) : Prop where
  out : ∀ d a a', g d a = some a' → ∀ j : Nat, j ∉ vs → a'[j]? = a[j]?
  nown : ∀ d a a', g d a = some a' → ∀ (j : Nat) (d' : D), a'[j]? = some (Sl.own d') → a[j]? = some (Sl.own d')
  own : ∀ d a a', g d a = some a' → ∀ j ∈ vs, ∀ d' : D, a'[j]? ≠ some (Sl.own d')
theorem GOk_var {i : Nat} : GOk (gVar i) [i] := by
  refine ⟨fun d a a' e j hj => ?_, fun d a a' e j d' h => ?_, fun d a a' e j hj d' h => ?_⟩
  · cases e
    exact List.getElem?_set_ne fun z => hj (by rw [z]; exact List.mem_singleton.mpr rfl)
  · cases e
    exact (set_own (fun d z => by cases z) h).2
  · cases e
    exact (set_own (fun d z => by cases z) h).1 (List.mem_singleton.mp hj)
structure GsOk (gs : List G) (vs : List Nat) : Prop where
  out : ∀ ds a a', gsGo gs ds a = some a' → ∀ j : Nat, j ∉ vs → a'[j]? = a[j]?
  nown : ∀ ds a a', gsGo gs ds a = some a' → ∀ (j : Nat) (d' : D), a'[j]? = some (Sl.own d') → a[j]? = some (Sl.own d')
  own : ∀ ds a a', gsGo gs ds a = some a' → ∀ j ∈ vs, ∀ d' : D, a'[j]? ≠ some (Sl.own d')
theorem GsOk_nil : GsOk [] [] := by
  refine ⟨fun ds a a' e j hj => ?_, fun ds a a' e j d' h => ?_, fun ds a a' e j hj => nomatch hj⟩
  · cases ds with
    | nil => cases e; rfl
    | cons d ds => cases e
  · cases ds with
    | nil => cases e; exact h
    | cons d ds => cases e
theorem GsOk_cons {g : G} {gs : List G} {vs ws : List Nat} (h1 : GOk g vs) (h2 : GsOk gs ws) : GsOk (g :: gs) (vs ++ ws) := by
  have key : ∀ ds a a', gsGo (g :: gs) ds a = some a' → ∃ d r a1, ds = d :: r ∧ g d a = some a1 ∧ gsGo gs r a1 = some a' := by
    intro ds a a' e
    cases ds with
    | nil => cases e
    | cons d r =>
      have e : (g d a).bind (fun σ' => gsGo gs r σ') = some a' := e
      obtain ⟨a1, e1, e2⟩ := Option.bind_eq_some_iff.mp e
      exact ⟨d, r, a1, rfl, e1, e2⟩
  refine ⟨fun ds a a' e j hj => ?_, fun ds a a' e j d' h => ?_, fun ds a a' e j hj d' h => ?_⟩
  · obtain ⟨d, r, a1, rfl, e1, e2⟩ := key ds a a' e
    exact (h2.out _ _ _ e2 j fun z => hj (List.mem_append_right _ z)).trans (h1.out _ _ _ e1 j fun z => hj (List.mem_append_left _ z))
  · obtain ⟨d, r, a1, rfl, e1, e2⟩ := key ds a a' e
    exact h1.nown _ _ _ e1 j d' (h2.nown _ _ _ e2 j d' h)
  · obtain ⟨d, r, a1, rfl, e1, e2⟩ := key ds a a' e
    rcases List.mem_append.mp hj with z | z
    · exact h1.own _ _ _ e1 j z d' (h2.nown _ _ _ e2 j d' h)
    · exact h2.own _ _ _ e2 j z d' h
theorem GOk_tup {gs : List G} {vs : List Nat} (h : GsOk gs vs) : GOk (gTup gs) vs := by
  refine ⟨fun d a a' e => ?_, fun d a a' e => ?_, fun d a a' e => ?_⟩
  all_goals cases d with
    | tup ds => first | exact h.out ds a a' e | exact h.nown ds a a' e | exact h.own ds a a' e
    | _ => cases e
theorem SlS.goes {w0 w : Wd} {σ σ' : L2.St} {aσ aσ' : S} {g : G} {vs : List Nat} {d : D} (s : SlS w0 w σ aσ) (ok : GOk g vs) (e : g d aσ = some aσ') (s' : SlE w σ' aσ') (ag : ∀ j, j ∉ vs → σ'[j]? = σ[j]?) : SlS w0 w σ' aσ' :=
  s.of s' (fun j => by
    by_cases hj : j ∈ vs
    · exact .inr (ok.own d aσ aσ' e j hj)
    · exact .inl (ag j hj)) fun j d' h => ok.nown d aσ aσ' e j d' h

section
variable {X : Cx} {gd : Gd} {Ex : XK} {e a b c tg iter : Expr} {me ma mb : E} {mt : T} {ms mu : Ms} {mi : I} {mg : G} {pos : Pos} {st : Stmt} {rest sa sb : List Stmt} {vs : List Nat}
theorem SS_nil : PSs X [] (tS X.K gd Ex sPass) := by
  refine PSs.imp pss_nil fun D σ H h => ?_
  obtain ⟨w0, w1, w, h, aσ, fr, st, wk, wg, rfl, r, sl, o⟩ := h
  exact o w σ fr st r sl
theorem SS_cons (h1 : PS X st (tS X.K gd Ex ms)) (h2 : PSs X rest (tS X.K gd Ex mu)) : PSs X (st :: rest) (tS X.K gd Ex (sSeq ms mu)) := by
  refine PSs.imp (pss_cons h1 h2) fun D σ H h => ?_
  obtain ⟨w0, w1, w, h, aσ, fr, st, wk, wg, rfl, r, sl, o⟩ := h
  refine ⟨w0, w1, w, h, aσ, fr, st, wk, wg, rfl, r, sl, ?_⟩
  have o : OutS w0 w1 Ex D (match ms aσ h with | .nx σ' h' => mu σ' h' | r => r) := o
  cases e : ms aσ h with
  | nx a1 h1 =>
    rw [e] at o
    exact fun w' σ' f' s' r' sl' => ⟨w0, w1, w', h1, a1, f', s', f'.k.trans (fr.k.symm.trans wk), f'.g.trans (fr.g.symm.trans wg), rfl, r', sl', o⟩
  | rt d h1 => rw [e] at o; exact o
  | bk a1 h1 => rw [e] at o; exact o
  | ct a1 h1 => rw [e] at o; exact o
  | er c vs h1 => rw [e] at o; exact o
  | no => rw [e] at o; exact o
theorem SS_one (h1 : PS X st (tS X.K gd Ex ms)) : PSs X [st] (tS X.K gd Ex ms) := by
  refine PSs.imp (pss_one h1) fun D σ H h => h
theorem S_pass : PS X (.Pass pos) (tS X.K gd Ex sPass) := by
  refine PS.imp ps_pass fun D σ H h => ?_
  obtain ⟨w0, w1, w, h, aσ, fr, st, wk, wg, rfl, r, sl, o⟩ := h
  exact o w σ fr st r sl
theorem S_doc {x : Str} {j : Nat} {pos' : Pos} : PS X (.Expr (.Constant (.str x) j pos) pos') (tS X.K gd Ex sPass) := by
  refine PS.imp ps_doc fun D σ H h => ?_
  obtain ⟨w0, w1, w, h, aσ, fr, st, wk, wg, rfl, r, sl, o⟩ := h
  exact o w σ fr st r sl
theorem S_break : PS X (.Break pos) (tS X.K gd Ex sBreak) := by
  refine PS.imp ps_break fun D σ H h => ?_
  obtain ⟨w0, w1, w, h, aσ, fr, st, wk, wg, rfl, r, sl, o⟩ := h
  exact o w σ fr st r sl
theorem S_cont : PS X (.Continue pos) (tS X.K gd Ex sCont) := by
  refine PS.imp ps_continue fun D σ H h => ?_
  obtain ⟨w0, w1, w, h, aσ, fr, st, wk, wg, rfl, r, sl, o⟩ := h
  exact o w σ fr st r sl
theorem S_expr (he : PE X e (tE X.K gd Ex me)) (hs : swapsWith e none pos.line X.env = pure false := by rfl) : PS X (.Expr e pos) (tS X.K gd Ex (sExpr me)) := by
  refine PS.imp (ps_expr he hs) fun D σ H h => ?_
  obtain ⟨w0, w1, w, h, aσ, fr, st, wk, wg, rfl, r, sl, o⟩ := h
  exact tS_E fr st wk wg r sl o fun d h1 w' v f1 s1 k1 g1 r1 sl1 rv o1 => o1 w' σ f1 s1 r1 sl1
theorem S_ret (he : PE X e (tE X.K gd Ex me)) : PS X (.Return (some e) pos) (tS X.K gd Ex (sRet me)) := by
  refine PS.imp (ps_ret he) fun D σ H h => ?_
  obtain ⟨w0, w1, w, h, aσ, fr, st, wk, wg, rfl, r, sl, o⟩ := h
  refine tS_E fr st wk wg r sl o fun d h1 w' v f1 s1 k1 g1 r1 sl1 rv o1 => ?_
  obtain ⟨x1, r2, st2⟩ := f1.back r1
  exact o1 (w'.back w0) v x1 r2 (Rep.step st2 _ _ rv)
theorem S_set {i : Nat} {x : Str} {pos' : Pos} (hN : X.N.Nodup) (hi : X.N[i]? = some x) (hx : Loc X.env.scope x) (he : PE X e (tE X.K gd Ex me)) (hs : swapsWith e (some (.Name x pos')) pos.line X.env = pure false := by rfl)
    (hf : X.fn x = true ∨ X.env.scope.names.lookup x = some .local := by first | exact .inl rfl | exact .inr rfl | assumption) : PS X (.Assign [.Name x pos'] e pos) (tS X.K gd Ex (sSet i me)) := by
  refine PS.imp (ps_set hN hi hx he hs hf) fun D σ H h => ?_
  obtain ⟨w0, w1, w, h, aσ, fr, st, wk, wg, rfl, r, sl, o⟩ := h
  exact tS_E fr st wk wg r sl o fun d h1 w' v f1 s1 k1 g1 r1 sl1 rv o1 => o1 w' _ f1 s1 r1 (sl1.set rv)
theorem S_par {i j : Nat} {x y : Str} {px py pt pt2 : Pos} {kt k2} (hc : X.calm = true) (hN : X.N.Nodup) (hi : X.N[i]? = some x) (hj : X.N[j]? = some y) (hij : i ≠ j)
    (hx : X.env.scope.names.lookup x = some .local) (hy : X.env.scope.names.lookup y = some .local) (ha : PE X a (tE X.K gd Ex ma)) (hb : PE X b (tE X.K gd Ex mb))
    (hw : swappedStores [.Tuple [.Name x px, .Name y py] kt pt] (.Tuple [a, b] k2 pt2) X.env = pure (some [x, y]))
    (hse : starEach [a, b] X.env = (false, eval a X.env) :: starEach [b] X.env := by rfl) (hse2 : starEach [b] X.env = (false, eval b X.env) :: starEach [] X.env := by rfl)
    (hs : swapsWithSole [.Tuple [.Name x px, .Name y py] kt pt] (.Tuple [a, b] k2 pt2) pos.line X.env = pure false := by rfl) :
    PS X (.Assign [.Tuple [.Name x px, .Name y py] kt pt] (.Tuple [a, b] k2 pt2) pos) (tS X.K gd Ex (sPar i j ma mb)) := by
  refine PS.imp (ps_par hc hN hi hj hij hx hy (A_cons ha (A_cons hb A_nil hse2) hse) hw hs) fun D σ H h => ?_
  obtain ⟨w0, w1, w, h, aσ, fr, st, wk, wg, rfl, r, sl, o⟩ := h
  refine tS_A fr st wk wg r sl o fun ds h1 w' v f1 s1 k1 g1 r1 sl1 rv o1 => ?_
  match ds, rv, o1 with
  | [p, q], rv, o1 =>
    rw [Reps] at rv
    obtain ⟨u, r, rfl, r1', rr⟩ := rv
    rw [Reps] at rr
    obtain ⟨u2, r', rfl, r2', rr⟩ := rr
    rw [Reps] at rr
    subst rr
    exact ⟨u, u2, rfl, o1 w' _ f1 s1 r1 ((sl1.set r1').set r2')⟩
  | [], _, o1 => exact o1.elim
  | [_], _, o1 => exact o1.elim
  | _ :: _ :: _ :: _, _, o1 => exact o1.elim
/-- any target -/
theorem S_asg (hok : GOk mg vs) (he : PE X e (tE X.K gd Ex me)) (hg : PG X tg (tG X.K gd mg vs)) (hs : swapsWithSole [tg] e pos.line X.env = pure false := by rfl) (hw : swappedStores [tg] e X.env = pure none := by rfl)
    (h1 : (assignEach [tg] X.env).map (·.2) = [assign tg X.env] := by rfl) : PS X (.Assign [tg] e pos) (tS X.K gd Ex (sAsg me mg)) := by
  refine PS.imp (ps_asg he hg hs hw h1) fun D σ H h => ?_
  obtain ⟨w0, w1, w, h, aσ, fr, st, wk, wg, rfl, r, sl, o⟩ := h
  refine tS_E fr st wk wg r sl o fun d h1 w' v f1 s1 k1 g1 r1 sl1 rv o1 => ?_
  cases eg : mg d aσ with
  | none => rw [eg] at o1; exact o1.elim
  | some a1 =>
    rw [eg] at o1
    exact ⟨w', h1, aσ, d, a1, k1, g1, rfl, r1, sl1.sl, rv, eg, fun σ' s' l' ag => o1 w' σ' f1 s1 r1 (sl1.goes hok eg s' ag)⟩
theorem S_if (hc : PT X c (tT X.K gd Ex mt)) (ha : PSs X sa (tS X.K gd Ex ms)) (hb : PSs X sb (tS X.K gd Ex mu)) : PS X (.If c sa sb pos) (tS X.K gd Ex (sIf mt ms mu)) := by
  refine PS.imp (ps_if hc ha hb) fun D σ H h => ?_
  obtain ⟨w0, w1, w, h, aσ, fr, st, wk, wg, rfl, r, sl, o⟩ := h
  refine tS_T fr st wk wg r sl o fun b h1 w' f1 s1 k1 g1 r1 sl1 o1 => ?_
  cases b with
  | true =>
    rw [if_pos rfl] at o1 ⊢
    exact ⟨w0, w1, w', h1, aσ, f1, s1, k1, g1, rfl, r1, sl1, o1⟩
  | false =>
    rw [if_neg Bool.false_ne_true] at o1 ⊢
    exact ⟨w0, w1, w', h1, aσ, f1, s1, k1, g1, rfl, r1, sl1, o1⟩
theorem S_for (hp : PassesOwn (model X.prog X.w) X.A X.env X.xe) (hc : X.calm = true) (hok : GOk mg vs) (hi : PI X tg iter (tI X.K gd Ex mi)) (hg : PG X tg (tG X.K gd mg vs)) (hb : PSs X sa (tS X.K gd Ex ms))
    (hs : ∀ x, foldedSetIterable iter X.env x = pure x := by intro _; rfl) : PS X (.For tg iter sa [] pos) (tS X.K gd Ex (sFor mi mg ms)) := by
  refine PS.imp (ps_for hp hc hi hg hb hs) fun D σ H h => ?_
  obtain ⟨w0, w1, w, h, aσ, fr, st, wk, wg, rfl, r, sl, o⟩ := h
  refine tS_I fr st wk wg r sl o fun ds h1 wL f1 s1 k1 g1 r1 sl1 o1 J wd => ?_
  have o1 := o1.step s1
  refine ⟨fun i m σ H => m = ds.length - i ∧ i ≤ ds.length ∧ ∃ w' h' aσ, w'.H = H ∧ Fr w0 w' ∧ Step wL w' ∧ RelH w' h' ∧ SlS w0 w' σ aσ ∧ OutS w0 wL Ex D (forGo mg ms (ds.drop i) aσ h'),
    ⟨_, rfl, Nat.zero_le _, wL, h1, aσ, rfl, f1, Step.refl _, r1, sl1, o1⟩, fun i m σ H hW => ?_⟩
  obtain ⟨rfl, hi, w', h', aσ', rfl, f', s', r', sl', o'⟩ := hW
  by_cases hlt : i < ds.length
  · refine .inr ⟨wd.go i w' s' hlt, fun σ H' => ∃ w' h' aσ, w'.H = H' ∧ Fr w0 w' ∧ Step wL w' ∧ RelH w' h' ∧ SlS w0 w' σ aσ ∧ OutS w0 wL Ex D (forGo mg ms (ds.drop (i + 1)) aσ h'), fun σ H' z => ⟨_, by omega, rfl, hlt, z⟩, fun x H' hy => ?_⟩
    have ed : ds.drop i = ds[i] :: ds.drop (i + 1) := List.drop_eq_getElem_cons hlt
    rw [ed] at o'
    obtain ⟨w3, d, x3, rfl, r3, e3, rd⟩ := wd.yld i w' h' x H' s' r' hlt hy
    rw [List.getElem?_eq_getElem hlt] at e3
    cases e3
    have o' : OutS w0 wL Ex D (match mg ds[i] aσ' with
      | none => .no
      | some σ1 => match ms σ1 h' with
        | .nx σ2 h2 => forGo mg ms (ds.drop (i + 1)) σ2 h2
        | .ct σ2 h2 => forGo mg ms (ds.drop (i + 1)) σ2 h2
        | .bk σ2 h2 => .nx σ2 h2
        | r => r) := o'
    have f3 := f'.xs x3
    have s3 := s'.trans x3.step
    have k3 := f3.k.trans (f1.k.symm.trans k1)
    have g3 := f3.g.trans (f1.g.symm.trans g1)
    have sl3 := sl'.xs x3 r'
    cases eg : mg ds[i] aσ' with
    | none => rw [eg] at o'; exact o'.elim
    | some a1 =>
      rw [eg] at o'
      refine ⟨w3, h', aσ', ds[i], a1, k3, g3, rfl, r3, sl3.sl, rd, eg, fun σ2 s2 l2 ag => ⟨w0, wL, w3, h', a1, f3, s3, k3, g3, rfl, r3, sl3.goes hok eg s2 ag, ?_⟩⟩
      cases em : ms a1 h' with
      | nx a2 h2 =>
        have o' : OutS w0 wL Ex D (match ms a1 h' with
          | .nx σ2 h2 => forGo mg ms (ds.drop (i + 1)) σ2 h2
          | .ct σ2 h2 => forGo mg ms (ds.drop (i + 1)) σ2 h2
          | .bk σ2 h2 => .nx σ2 h2
          | r => r) := o'
        rw [em] at o'
        exact fun w4 σ4 f4 s4 r4 sl4 => ⟨w4, h2, a2, rfl, f4, s4, r4, sl4, o'⟩
      | ct a2 h2 =>
        have o' : OutS w0 wL Ex D (match ms a1 h' with
          | .nx σ2 h2 => forGo mg ms (ds.drop (i + 1)) σ2 h2
          | .ct σ2 h2 => forGo mg ms (ds.drop (i + 1)) σ2 h2
          | .bk σ2 h2 => .nx σ2 h2
          | r => r) := o'
        rw [em] at o'
        exact fun w4 σ4 f4 s4 r4 sl4 => ⟨w4, h2, a2, rfl, f4, s4, r4, sl4, o'⟩
      | bk a2 h2 =>
        have o' : OutS w0 wL Ex D (match ms a1 h' with
          | .nx σ2 h2 => forGo mg ms (ds.drop (i + 1)) σ2 h2
          | .ct σ2 h2 => forGo mg ms (ds.drop (i + 1)) σ2 h2
          | .bk σ2 h2 => .nx σ2 h2
          | r => r) := o'
        rw [em] at o'
        exact fun w4 σ4 f4 s4 r4 sl4 => o' w4 σ4 f4 s4 r4 sl4
      | rt d2 h2 =>
        have o' : OutS w0 wL Ex D (match ms a1 h' with
          | .nx σ2 h2 => forGo mg ms (ds.drop (i + 1)) σ2 h2
          | .ct σ2 h2 => forGo mg ms (ds.drop (i + 1)) σ2 h2
          | .bk σ2 h2 => .nx σ2 h2
          | r => r) := o'
        rw [em] at o'
        exact o'
      | er c2 v2 h2 =>
        have o' : OutS w0 wL Ex D (match ms a1 h' with
          | .nx σ2 h2 => forGo mg ms (ds.drop (i + 1)) σ2 h2
          | .ct σ2 h2 => forGo mg ms (ds.drop (i + 1)) σ2 h2
          | .bk σ2 h2 => .nx σ2 h2
          | r => r) := o'
        rw [em] at o'
        exact o'
      | no =>
        have o' : OutS w0 wL Ex D (match ms a1 h' with
          | .nx σ2 h2 => forGo mg ms (ds.drop (i + 1)) σ2 h2
          | .ct σ2 h2 => forGo mg ms (ds.drop (i + 1)) σ2 h2
          | .bk σ2 h2 => .nx σ2 h2
          | r => r) := o'
        rw [em] at o'
        exact o'
  · have e : i = ds.length := Nat.le_antisymm hi (Nat.le_of_not_lt hlt)
    subst e
    rw [List.drop_length] at o'
    exact .inl ⟨wd.stop w' s', o' w' σ f' s' r' sl'⟩
end
end Cf
set_option Elab.async false
set_option linter.all false
set_option maxRecDepth 100000
set_option maxHeartbeats 2000000
/-! CfJ: items of lists in the heap set; comprehensions stored; defs by mirrors; calls. -/
namespace Cf
open PySem PySem.Spec PyProof.Rows L2

section
variable {X : Cx} {gd : Gd} {Ex : XK} {e o i tg iter elt : Expr} {me mo mj : E} {mt : T} {mi : I} {mg : G} {pos spos : Pos} {ifs : List Expr} {scope : Scope} {own : List (Str × Nat)} {vs' : List Nat}
theorem S_setLc {i : Nat} {y : Str} {py : Pos} (hc : X.calm = true) (hN : X.N.Nodup) (hy : X.N[i]? = some y) (hyl : X.env.scope.names.lookup y = some .local)
    (hsw : swapsWith (.ListComp elt [⟨tg, iter, ifs, 0⟩] scope pos) (some (.Name y py)) spos.line X.env = pure true) (hi : PI X tg iter (tI X.K gd Ex mi)) (ok : BlkOk X.N X.env.scope scope own) (hv : ∀ i ∈ vs', i ∈ own.map (·.2))
    (hg : ∀ (s : Shared) (H : Hp) (C : Addr) (cl : List (Str × Addr)) (fp : List Addr), PG (X.blk s H scope (compEnvC scope cl C X.env) fp) tg (tG X.K gd mg vs'))
    (ht : ∀ (s : Shared) (H : Hp) (C : Addr) (cl : List (Str × Addr)) (fp : List Addr), PTs (X.blk s H scope (compEnvC scope cl C X.env) fp) ifs (tT X.K gd E0 mt))
    (he : ∀ (s : Shared) (H : Hp) (C : Addr) (cl : List (Str × Addr)) (fp : List Addr), PE (X.blk s H scope (compEnvC scope cl C X.env) fp) elt (tE X.K gd E0 me))
    (hs : ∀ x, foldedSetIterable iter X.env x = pure x := by intro _; rfl) :
    PS X (.Assign [.Name y py] (.ListComp elt [⟨tg, iter, ifs, 0⟩] scope pos) spos) (tS X.K gd Ex (sSet i (eComp mi mg mt me (own.map (·.2))))) := by
  refine PS.imp (ps_setLc hc hN hy hyl hsw hi ok hg ht he hs) fun D σ H h => ?_
  obtain ⟨w0, w1, w, h, aσ, fr, st, wk, wg, rfl, r, sl, o⟩ := h
  exact comp_frz hv (tS_E fr st wk wg r sl o fun d h1 w' v f1 s1 k1 g1 r1 sl1 rv o1 => o1 w' _ f1 s1 r1 (sl1.set rv))
theorem step_ref {w : Wd} {B : Addr} {o : HO} (n : B ∈ w.ρ) : XS w (w.put B o) :=
  ⟨rfl, rfl, rfl, List.prefix_refl _, fun b u e m _ => ⟨by
    show upd w.H B o b = _
    rw [upd_ne (fun z => by rw [z] at m; exact m n)]; exact e, m⟩⟩
theorem setAt_none {α : Type} {l : List α} {i j : Nat} {x : α} (h : i ≠ j) : (l.set i x)[j]? = l[j]? := List.getElem?_set_ne h
theorem nd_ix {l : List Addr} (h : l.Nodup) {i j : Nat} {a : Addr} (e1 : l[i]? = some a) (e2 : l[j]? = some a) : i = j := by
  obtain ⟨h1, q1⟩ := List.getElem?_eq_some_iff.mp e1
  obtain ⟨h2, q2⟩ := List.getElem?_eq_some_iff.mp e2
  rcases Nat.lt_trichotomy i j with z | z | z
  · exact absurd (q1.trans q2.symm) (List.pairwise_iff_getElem.mp h i j h1 h2 z)
  · exact z
  · exact absurd (q2.trans q1.symm) (List.pairwise_iff_getElem.mp h j i h2 h1 z)
theorem rep_refI {w : Wd} {n : Nat} {v : V} : Rep w (.ref n) v ↔ ∃ a, w.ρ[n]? = some a ∧ v = .ref a := by rw [Rep]
theorem RelH.setRef {w : Wd} {h : List O} (r : RelH w h) {n : Nat} {B : Addr} {xs xs' : List V} {ds : List D} (hB : w.ρ[n]? = some B) (e0 : w.H B = some (.lst xs)) (rs : Reps w ds xs') (hn : n < h.length) : RelH (w.put B (.lst xs')) (h.set n (.lst ds)) := by
  have hm : B ∈ w.ρ := List.mem_of_getElem? hB
  have st := step_ref (o := .lst xs') hm
  refine ⟨by rw [List.length_set]; exact r.len, r.nd, fun i u a e1 e2 => ?_, fun b hb => ?_, tabs_wr r.tT e0⟩
  · by_cases hi : n = i
    · subst hi
      have e2 : w.ρ[n]? = some a := e2
      rw [hB] at e2; cases e2
      rw [List.getElem?_set_self hn] at e1
      cases e1
      exact ⟨xs', upd_same, Reps.step st.step _ _ rs⟩
    · rw [setAt_none hi] at e1
      have e2 : w.ρ[i]? = some a := e2
      have hne : a ≠ B := fun z => by
        rw [z] at e2
        exact hi (nd_ix r.nd hB e2)
      exact (r.obj i u a e1 e2).mv st.step fun u e _ => by show upd w.H B _ a = _; rw [upd_ne hne]; exact e
  · obtain ⟨⟨u, e, t1⟩, hb2⟩ := r.own b hb
    refine ⟨⟨u, ?_, t1⟩, hb2⟩
    show upd w.H B _ b = _
    rw [upd_ne (fun z => hb2 (by rw [z]; exact hm))]; exact e
theorem ixOf_ixN {n : Nat} {k : Int} {j : Nat} (h : Cf.ixOf n k = some j) : ixN n k = some j := by
  unfold Cf.ixOf at h
  unfold ixN
  by_cases c : 0 ≤ k
  · rw [if_pos c] at h ⊢
    by_cases c2 : k < (n : Int)
    · rw [if_pos c2] at h ⊢; exact h
    · rw [if_neg c2] at h; cases h
  · rw [if_neg c] at h ⊢
    by_cases c2 : -(n : Int) ≤ k
    · rw [if_pos c2] at h ⊢; exact h
    · rw [if_neg c2] at h; cases h
theorem setRef_some {n : Nat} {k : Int} {d : D} {h h4 : List O} (e : Cf.setRef (.ref n) (.int k) d h = some h4) : ∃ ds j, h[n]? = some (.lst ds) ∧ Cf.ixOf ds.length k = some j ∧ h4 = h.set n (.lst (ds.set j d)) := by
  have e : (match h[n]? with
    | some (.lst xs) => (Cf.ixOf xs.length k).map fun j => h.set n (.lst (xs.set j d))
    | _ => none) = some h4 := e
  cases eh : h[n]? with
  | none => rw [eh] at e; cases e
  | some ob =>
    rw [eh] at e
    cases ob with
    | ins _ _ _ => cases e
    | dct _ _ _ => cases e
    | lst ds =>
      obtain ⟨j, e1, e2⟩ := Option.map_eq_some_iff.mp e
      exact ⟨ds, j, rfl, e1, e2.symm⟩
/-- o[i] = e, o a list in the heap -/
theorem S_setItem (ho : PE X o (tE X.K gd Ex mo)) (hj : PE X i (tE X.K gd Ex mj)) (he : PE X e (tE X.K gd Ex me))
    (ha : ∀ v, assign (.Subscript o i spos) X.env v = (do
      let ov ← holding [v] (eval o X.env)
      let iv ← holding [v, ov] (eval i X.env)
      standAt spos
      holding [v, ov, iv] (setItem ov iv v)
      release [v, ov, iv] []) := by intro _; rfl)
    (hs : swapsWithSole [.Subscript o i spos] e pos.line X.env = pure false := by rfl) (hw : swappedStores [.Subscript o i spos] e X.env = pure none := by rfl)
    (h1 : (assignEach [.Subscript o i spos] X.env).map (·.2) = [assign (.Subscript o i spos) X.env] := by rfl) : PS X (.Assign [.Subscript o i spos] e pos) (tS X.K gd Ex (sSetItem mo mj me)) := by
  refine PS.imp (ps_asg he (pg_sub ho hj set_list ha) hs hw h1) fun D σ H h => ?_
  obtain ⟨w0, w1, w, h, aσ, fr, st, wk, wg, rfl, r, sl, oo⟩ := h
  refine tS_E fr st wk wg r sl oo fun d h1 w2 v f1 s1 k1 g1 r1 sl1 rv o1 => ?_
  have rv1 := rv
  refine ⟨w2, h1, aσ, k1, g1, rfl, r1, sl1.sl, ?_⟩
  refine Out.mono (outS_out (h0 := h1) f1 s1 o1) fun od h2 w3 ⟨f2, s2, x2, r2, o2⟩ ov rov => ?_
  have sl2 := sl1.xs x2 r1
  refine ⟨w3, h2, aσ, x2.k.trans k1, x2.g.trans g1, rfl, r2, sl2.sl, ?_⟩
  refine Out.mono (outS_out (h0 := h2) f2 s2 o2) fun jd h3 w4 ⟨f3, s3, x3, r3, o3⟩ jv rjv => ?_
  have sl3 := sl2.xs x3 r2
  cases od with
  | ref n =>
    cases jd with
    | int k =>
      have rov := Rep.step x3.step _ _ rov
      rw [rep_refI] at rov
      rw [rep_int] at rjv
      obtain ⟨B, hB, rfl⟩ := rov
      subst rjv
      cases es : setRef (.ref n) (.int k) d h3 with
      | none => simp only [es] at o3; exact o3.elim
      | some h4 =>
        simp only [es] at o3
        obtain ⟨ds, j, eh, ej, rfl⟩ := setRef_some es
        obtain ⟨xs, e4, rs⟩ := r3.obj n _ B eh hB
        refine ⟨B, xs, k, j, rfl, rfl, e4, by rw [rs.length]; exact ixOf_ixN ej, ?_⟩
        have hn : n < h3.length := (List.getElem?_eq_some_iff.mp eh).1
        have rs' := Reps.set (Rep.step (x2.trans x3).step _ _ rv1) j rs
        have st4 := step_ref (o := .lst (xs.set j v)) (List.mem_of_getElem? hB)
        exact o3 (w4.put B (.lst (xs.set j v))) σ (f3.xs st4) (s3.trans st4.step) (r3.setRef hB e4 rs' hn) (sl3.xs st4 r3)
    | _ => exact o3.elim
  | _ => cases jd <;> exact o3.elim
end

/-! ### a def by its mirror -/
def spM (K : PySem.W.Frag) (gd : Gd) (m : List D → M D) : L2.Sp := fun vs H Q E => rN K gd E m vs H Q
/-- a def of the text, its code object's address told -/
structure Dn (K : PySem.W.Frag) (x qual : Str) (st : Stmt) (f : Addr) (fd : FuncData) (cv : Value) : Prop where
  ex : ∃ (oc : Value) (od : Option Addr) (kV doc pm : Value) (an : Option Addr) (ct : Value) (osl : Array (Option Value)),
    fd = PySem.W.fnOf x qual (defArgs st) (defBody st) (defScope st) .none kV doc pm an cv ct ∧ K.lookup f = some ⟨oc, od, .func fd, osl⟩ ∧ PySem.W.codeIn K cv qual = true
  kp : PySem.W.keepIn K (.ref f) = true
theorem Dn.fn {K : PySem.W.Frag} {x qual : Str} {st : Stmt} {f : Addr} {fd : FuncData} {cv : Value} (d : Dn K x qual st f fd cv) : Fun K x qual st f fd := by
  obtain ⟨oc, od, kV, doc, pm, an, ct, osl, e, l, c⟩ := d.ex
  exact ⟨⟨oc, od, kV, doc, pm, an, cv, ct, osl, e, l, c⟩, d.kp⟩
theorem dn_mk {K : PySem.W.Frag} {x qual : Str} {st : Stmt} {f : Addr} {oc : Value} {od an : Option Addr} {osl : Array (Option Value)} {kV doc pm cdv ct : Value} (l : K.lookup f = some ⟨oc, od, .func (PySem.W.fnOf x qual (defArgs st) (defBody st) (defScope st) .none kV doc pm an cdv ct), osl⟩)
    (c : PySem.W.codeIn K cdv qual = true) (k : PySem.W.keepIn K (.ref f) = true) : Dn K x qual st f (PySem.W.fnOf x qual (defArgs st) (defBody st) (defScope st) .none kV doc pm an cdv ct) cdv := ⟨⟨oc, od, kV, doc, pm, an, ct, osl, rfl, l, c⟩, k⟩
theorem slS_start {w : Wd} {h : List O} (r : RelH w h) {N : List Str} {ds : List D} {vs : List V} (rs : Reps w ds vs) {k n : Nat} (hk : ds.length = k) (hn : N.length = n) (hkn : k ≤ n) : SlS w w (L2.start N vs) (ds.map Sl.val ++ List.replicate (n - k) Sl.no) := by
  have hl := rs.length
  refine ⟨?_, fun i d e => ?_, fun _ => [], fun i d e => ?_, fun _ _ _ _ z => (nomatch z), fun _ => ⟨List.nodup_nil, fun _ z => (nomatch z)⟩⟩
  · unfold L2.start
    simp only [List.length_append, List.length_map, List.length_replicate]
    omega
  · by_cases hi : i < ds.length
    · rw [List.getElem?_append_left (by rw [List.length_map]; exact hi), List.getElem?_map] at e
      obtain ⟨v, e1, e2⟩ := rs.get (List.getElem?_eq_getElem hi)
      rw [List.getElem?_eq_getElem hi] at e
      cases e
      refine ⟨v, ?_, e2⟩
      unfold L2.start
      rw [List.getElem?_append_left (by rw [List.length_map, hl]; exact hi), List.getElem?_map, e1]
      rfl
    · rw [List.getElem?_append_right (by rw [List.length_map]; exact Nat.le_of_not_lt hi)] at e
      obtain ⟨_, q⟩ := List.getElem?_eq_some_iff.mp e
      rw [List.getElem_replicate] at q
      cases q
  · by_cases hi : i < ds.length
    · rw [List.getElem?_append_left (by rw [List.length_map]; exact hi), List.getElem?_map, List.getElem?_eq_getElem hi] at e
      cases e
    · rw [List.getElem?_append_right (by rw [List.length_map]; exact Nat.le_of_not_lt hi)] at e
      obtain ⟨_, q⟩ := List.getElem?_eq_some_iff.mp e
      rw [List.getElem_replicate] at q
      cases q
section
variable {P : Program} {w : World} {K : PySem.W.Frag} {mg : Str → Option Value} {base : Heap} {gd : Gd} {x qual : Str} {st : Stmt} {f : Addr} {fd : FuncData} {cv : Value} {N ps : List Str} {k n kp : Nat} {b : Ms}
theorem run_len {ds : List D} {h : List O} {wd : Wd} {E : XK} {P' : D → List O → Wd → Prop} (o : Out wd E (run n kp b ds h) P') : ds.length = kp := by
  by_cases hl : ds.length = kp
  · exact hl
  · unfold run at o
    rw [if_neg hl] at o
    exact o.elim
theorem def_ok (F : Dn K x qual st f fd cv) (S : FnScope N ps (defScope st)) (hn : N.length = n) (hp : ps.length = kp) (hkn : kp ≤ n)
    (hbody : ∀ (A : Around) (outer : List Env) (s : Shared) (H : Hp) (E : XK), Room k (A.deeper (envOfC qual (defScope st) s.heap.objs.size f cv)) → PSs (cxOf (L2.CX P w) P w K mg base N qual (defScope st) f cv A outer s H E) (defBody st) (tS K gd E b)) :
    FnOk P w K mg base (L2.CX P w) (k + 1) f fd ps (spM K gd (run n kp b)) := by
  obtain ⟨oc, od, kV, doc, pm, an, ct, osl, rfl, lk, hcd⟩ := F.ex
  refine fn_of lk hcd S (fun vs H Q E h => ?_) fun A outer s H vs Q E hr hsp => ?_
  · obtain ⟨wd, h, ds, wk, wg, rfl, r, rs, o⟩ := h
    rw [rs.length, run_len o, hp]
  · obtain ⟨wd, h, ds, wk, wg, rfl, r, rs, o⟩ := hsp
    refine ⟨_, hbody A outer s wd.H E hr, wd, wd, wd, h, _, Fr.refl _, Step.refl _, wk, wg, rfl, r, slS_start r rs (run_len o) hn hkn, ?_⟩
    have hl := run_len o
    unfold run at o
    rw [if_pos hl] at o
    generalize ds.map Sl.val ++ List.replicate (n - kp) Sl.no = a0 at o ⊢
    have o : Out wd E (match b a0 h with
      | .nx _ h' => R.ok D.non h'
      | .rt d h' => R.ok d h'
      | .er c vs h' => R.er c vs h'
      | _ => R.no) (fun d _ w' => ∀ v, Rep w' d v → Q v w'.H) := o
    cases e : b a0 h with
    | nx a1 h1 =>
      rw [e] at o
      intro w' σ' f' s' r' sl'
      obtain ⟨x1, r2, st2⟩ := f'.back r'
      exact o (w'.back wd) x1 r2 .non (by rw [Rep])
    | rt d h1 => rw [e] at o; exact fun w' v x' r' rv => o w' x' r' v rv
    | er c vs h1 => rw [e] at o; exact o
    | bk a1 h1 => rw [e] at o; exact o.elim
    | ct a1 h1 => rw [e] at o; exact o.elim
    | no => rw [e] at o; exact o.elim
end
/-- no fuel: nothing is promised -/
theorem fn_no {P : Program} {w : World} {K : PySem.W.Frag} {mg : Str → Option Value} {base : Heap} {gd : Gd} {CX : CXT} {k : Nat} {f : Addr} {fd : FuncData} {ps : List Str} : FnOk P w K mg base CX k f fd ps (spM K gd (fun _ => no)) := by
  have no : ∀ vs H Q E, ¬ spM K gd (fun _ => no) vs H Q E := fun vs H Q E h => by
    obtain ⟨wd, h, ds, wk, wg, e, r, rs, o⟩ := h
    exact o
  exact ⟨fun vs H Q E h => absurd h (no vs H Q E), fun A outer s H args us vs Q E _ _ _ _ h => absurd h (no vs H Q E)⟩
section
variable {X : Cx} {gd : Gd} {Ex : XK} {e : Expr} {es : List Expr} {mes : List E} {m : List D → M D} {k : Nat} {f : Addr} {fd : FuncData} {ps : List Str} {x : Str} {p pos : Pos}
theorem R_call (F : FnOk X.prog X.w X.K X.mg X.base (L2.CX X.prog X.w) k f fd ps (spM X.K gd m)) (hr : Room k X.A) (hg : Gl X x) (hm : X.mg x = some (.ref f)) (hk : PySem.W.keepIn X.K (.ref f) = true) (hb : Binds X.K fd ps []) (hx : Passes (L2.CX X.prog X.w) X Ex)
    (ha : PA X (e :: es) (tA X.K gd Ex mes)) (hdb : (x == ("__debug__" : Str)) = false := by decide) (he : starEach (e :: es) X.env = (false, eval e X.env) :: starEach es X.env := by rfl) (hpl : (backTo pos (starEach es X.env)).any (·.1) = false := by rfl) :
    PE X (.Call (.Name x p) (e :: es) [] pos) (tE X.K gd Ex (eN m mes)) := by
  refine PE.imp (pe_call F hr hg hm hk hb .nil hx ha hdb he hpl) fun σ H Q h => ?_
  obtain ⟨w, h, aσ, wk, wg, rfl, r, s, o⟩ := h
  refine tA_bind wk wg r s o fun ds h1 w1 vs s1 k1 g1 r1 sl1 rs o1 => ?_
  show spM X.K gd m (vs ++ []) w1.H Q Ex
  rw [List.append_nil]
  exact ⟨w1, h1, ds, k1, g1, rfl, r1, rs, o1⟩
end
end Cf
set_option Elab.async false
set_option linter.all false
set_option maxRecDepth 100000
set_option maxHeartbeats 2000000
/-! CfX: exceptions whose __init__ says super().__init__(..). -/
namespace Cf
open PySem PySem.Spec PyProof.Rows L2

section
open PySem.W
variable {prog : Program} {w : World} {A : Around} {E : Value → Shared → Prop} {h : Heap} {g : Array GenState} {d : Drawn} {t : Nat} {os : OsState}
variable {nm q : Str} {C N : Addr} {bs bm bmB : List Value} {hdct : Bool} {sn : List Str} {sub : List Value} {ab : Bool} {col : Option Bool} {dd : Option Addr} {k0 k1 k2 k3 k5 : Option Value} {B newId i : String}
theorem call_mw (FB : ExcBaseFacts B newId i bmB) {u e t0 : Addr} {rest : List Value} {Q : Value → Shared → Prop}
    (hC : h.get? C = some (excClassObj nm q C N bs bm hdct sn sub ab col dd k0 k1 k2 k3 k5 newId)) (he : h.get? e = some ({ cls := .ref C, dict := none, data := .fields #[.ref t0, .none, .none, .none, .bool false, .none] } : Obj)) (hu : h.get? u = some (kxs_mw i e)) (hz : rest.length ≤ sizeLine)
    (hq : ∀ h' t1, (∀ b o, b ≠ e → h.get? b = some o → h'.get? b = some o) → h'.get? e = some ({ cls := .ref C, dict := none, data := .fields #[.ref t1, .none, .none, .none, .bool false, .none] } : Obj) → Q .none ⟨h', g, d, t, os⟩) :
    wpAny (model prog w) A (call (.ref u) rest) Q E ⟨h, g, d, t, os⟩ := by
  refine wpAny_call (codeAny_of_tree ?_)
  show wpAny _ A.in1 (callAny (.ref u) ⟨rest, []⟩) _ _ _
  simp only [callAny]
  refine wpAny_bind (wpAny_load hu ?_)
  simp only [kxs_mw, show (Value.type "method-wrapper" == Value.type "method" || Value.type "method-wrapper" == Value.type "builtin_function_or_method" || Value.type "method-wrapper" == Value.type "method-wrapper") = true by decide, if_true]
  refine KFB.if_so (by decide) ?_
  refine wpAny_bind (check_bound_init FB.toExcCallFacts hC he rfl ?_)
  refine wpAny_bind (wpAny_pure (wpAny_pure ?_))
  refine ⟨plainId_quiet FB.init.plain _, codeAny_builtin FB.initEntry ?_⟩
  exact exc_init_tree (cls := .ref C) (t0 := t0) (dv := none) (c2 := .none) (c3 := .none) (b4 := .bool false) he hz fun h' k e' _ => hq h' _ k e'
end
/-- what the written part says of the class and its __init__ -/
structure SupI (P : Program) (K : PySem.W.Frag) (C f cc cda : Addr) (name qual : Str) (st : Stmt) (fd : FuncData) : Prop where
  T : OexC K C
  fn : ∃ (oc : Value) (od : Option Addr) (osl : Array (Option Value)) (kV doc pm : Value) (an : Option Addr) (ct : Value), fd = PySem.W.ksFn name qual (defArgs st) (defBody st) (defScope st) .none kV doc pm an (.ref cda) ct cc ∧ K.lookup f = some ⟨oc, od, .func fd, osl⟩
  cd : PySem.W.codeIn K (.ref cda) qual = true
  file : ∃ (ccl : Value) (cdd : Option Addr) (vs : Array Value) (ccs : Array (Option Value)) (file : Str) (tf : Tok), K.lookup cda = some ⟨ccl, cdd, .fields vs, ccs⟩ ∧ vs[2]? = some (.str file tf) ∧ ((P.main.file : Str) == file) = true
  cell : ∃ (cl : Value) (cld : Option Addr) (csl : Array (Option Value)), K.lookup cc = some ⟨cl, cld, .cell (some (.ref C)), csl⟩
  sub : PySem.W.mroIn K C (.ref C) = some true
  sup : PySem.W.ks_superIn K C C "__init__" = some (some (.builtin "ValueError.__init__"))
  ve : PySem.W.subIn K (.ref C) (.type "ValueError") = some true
  opq : PySem.W.nsIn K cStatics "thirdparty.any" = some none
  top : (P.main.scope.names.lookup ("super" : Str)).isSome = false
structure SupS (N : List Str) (sc : Scope) : Prop where
  kind : sc.kind = .function
  co : sc.isCoroutine = false
  gen : sc.isGenerator = false
  nd : N.Nodup
  par : ∀ x ∈ N, sc.names.lookup x = some .local
  nocell : ∀ y ∈ sc.names, y.2 ≠ .cell
  free : ∀ y ∈ sc.names, y.2 = .free → y.1 = ("__class__" : Str)
  cls : sc.names.lookup ("__class__" : Str) = some .free
  sup : sc.names.lookup ("super" : Str) = some .globalImplicit
/-- the context of such an __init__ -/
def zCx (P : Program) (w : World) (K : PySem.W.Frag) (mg : Str → Option Value) (base : Heap) (N : List Str) (qual : Str) (scope : Scope) (f cda cc : Addr) (A : Around) (outer : List Env) (s : Shared) (H : Hp) : Cx where
  prog := P
  w := w
  K := K
  mg := mg
  base := base
  A := A.deeper (PySem.W.ksEnv qual scope s.heap.objs.size f (.ref cda) cc)
  N := N
  s_0 := s
  H_0 := H
  env := PySem.W.ksEnv qual scope s.heap.objs.size f (.ref cda) cc
  outer := outer
  stack := PySem.W.ksEnv qual scope s.heap.objs.size f (.ref cda) cc :: outer
  ex := []
  calm := true
  fn := fun _ => false
  pn := []
  xe := fun _ _ => False
theorem zipLook : ∀ {ps : List Str} {us : List Value} {i : Nat} {x : Str} {u : Value}, ps.Nodup → ps[i]? = some x → us[i]? = some u → (ps.zip us).lookup x = some u
  | [], _, _, _, _, _, e, _ => by simp at e
  | p :: ps, [], _, _, _, _, _, e => by simp at e
  | p :: ps, v :: us, 0, x, u, _, e1, e2 => by
    simp at e1 e2
    subst e1 e2
    simp [List.zip_cons_cons]
  | p :: ps, v :: us, i + 1, x, u, nd, e1, e2 => by
    have e1 : ps[i]? = some x := by simpa using e1
    have e2 : us[i]? = some u := by simpa using e2
    have hne : (x == p) = false := by
      have h := (List.nodup_cons.mp nd).1
      have hm := List.mem_of_getElem? e1
      simp only [beq_eq_false_iff_ne]
      intro z
      exact h (z ▸ hm)
    rw [List.zip_cons_cons, List.lookup_cons, hne]
    exact zipLook (List.nodup_cons.mp nd).2 e1 e2
theorem bindsRev {N : List Str} {us : List Value} (hl : us.length = N.length) (nd : N.Nodup) {i : Nat} {x : Str} {u : Value} (hx : N[i]? = some x) (hu : us[i]? = some u) : (N.zip us).reverse.lookup x = some u := by
  rw [lookup_reverse_of_nodup (N.zip us) (by rw [List.map_fst_zip (Nat.le_of_eq hl.symm)]; exact nd) x]
  exact zipLook nd hx hu
section
variable {P : Program} {w : World} {K : PySem.W.Frag} {mg : Str → Option Value} {base : Heap} {N : List Str} {C f cc cda : Addr} {name qual : Str} {st : Stmt} {fd : FuncData} {A : Around} {outer : List Env} {s : Shared} {H : Hp}
theorem z_start {h1 : Heap} {tk : Nat} {us : List Value} {vs : List V} (F : SupI P K C f cc cda name qual st fd) (S : SupS N (defScope st)) (hd : A.handled = none) (e0 : Env0 P w K mg base A outer s H) (rv : Vals vs us) (hl : vs.length = N.length)
    (hns : h1.Ns s.heap.objs.size fun x => (N.zip us).reverse.lookup x) (kp : ∀ b o, s.heap.get? b = some o → h1.get? b = some o) :
    Inv (zCx P w K mg base N qual (defScope st) f cda cc A outer s H) [] (vs.map some) H { s with heap := h1, toks := tk } := by
  obtain ⟨cl, cld, csl, hcell⟩ := F.cell
  have hK : ∀ b o, K.lookup b = some o → s.heap.get? b = some o ∧ H b = none := fun b o e => e0.bs b o (e0.mod.kin b o e)
  have one : ∀ {y : Str} {c : Addr}, (zCx P w K mg base N qual (defScope st) f cda cc A outer s H).env.cells.lookup y = some c → y = ("__class__" : Str) ∧ c = cc := fun {y c} e => by
    have e : ([(("__class__" : Str), cc)] : List (Str × Addr)).lookup y = some c := e
    rw [List.lookup_cons] at e
    cases hb : y == ("__class__" : Str) with
    | true => rw [hb] at e; exact ⟨by simpa using hb, (Option.some.inj e).symm⟩
    | false => rw [hb] at e; cases e
  have nex : ∀ b : Addr, b ∉ (zCx P w K mg base N qual (defScope st) f cda cc A outer s H).ex := fun b z => absurd (show b ∈ ([] : List Addr) from z) (by simp)
  refine ⟨⟨e0.mod, S.kind, rfl, rfl, Nat.le_refl _, fun y z c e1 e2 => (one e1).1.trans (one e2).1.symm, fun y hy => ?_, fun y c z _ => ?_, fun _ => hd, Around.frames_deeper e0.frames, .inr ⟨rfl, rfl⟩, fun b z => absurd z (nex b), e0.bs, e0.bsz, fun b _ _ => nex b, fun b z => absurd z (nex b), e0.funs, e0.frf⟩,
    rfl, e0.bare, Un.kept kp, ⟨_, hns, fun i y v e1 e2 e3 => ?_⟩, fun y c e => ?_, e0.hok.fresh (Nat.le_refl _), fun y c e => ?_, fun q hq => absurd (show q ∈ ([] : List (Addr × Obj)) ++ [] from hq) (by simp), e0.hok.kept kp, by rw [List.length_map]; exact hl⟩
  · have hy : (defScope st).names.lookup y = some .cell ∨ (defScope st).names.lookup y = some .free := hy
    rcases hy with hy | hy
    · exact absurd rfl (S.nocell _ (PySem.mem_of_lookup hy))
    · have e := S.free _ (PySem.mem_of_lookup hy) rfl
      have e : y = ("__class__" : Str) := e
      exact ⟨cc, by show ([(("__class__" : Str), cc)] : List (Str × Addr)).lookup y = some cc; rw [e]; simp⟩
  · have z : false = true := z
    cases z
  · rw [List.getElem?_map] at e2
    cases ev : vs[i]? with
    | none => rw [ev] at e2; cases e2
    | some v' =>
      rw [ev] at e2
      cases e2
      obtain ⟨u, hu, ru⟩ := rv.get ev
      have e1 : N[i]? = some y := e1
      exact ⟨u, ru, .inl ⟨S.par y (List.mem_of_getElem? e1), bindsRev (by rw [← rv.length]; exact hl) S.nd e1 hu⟩⟩
  · obtain ⟨rfl, rfl⟩ := one e
    exact ⟨some (.ref C), _, kp _ _ (hK _ _ hcell).1, rfl⟩
  · obtain ⟨rfl, rfl⟩ := one e
    exact (hK _ _ hcell).2
variable {X : Cx}
/-- the body: super().__init__(e), then the rest -/
def tSup (C : Addr) (te : TE) (t : TS) : TS := fun D σ H => ∃ a, σ[0]? = some (some (.ref a)) ∧ H a = some (exo a C none) ∧ te σ H fun x H1 => H1 a = some (exo a C none) ∧ t D σ H1
theorem init_ok {CX : CXT} {k : Nat} {sp : Sp} {self0 : Str} {p3 p4 p5 p6 p7 : Pos} {e : Expr} {rest : List Stmt} (F : SupI P K C f cc cda name qual st fd) (S : SupS N (defScope st)) (hb : defBody st = .Expr (.Call (.Attribute (.Call (.Name "super" p3) [] [] p4) "__init__" p5) [e] [] p6) p7 :: rest)
    (hs0 : N[0]? = some self0) (hpar : ((defArgs st).posonlyargs ++ (defArgs st).args).head?.map (·.arg) = some self0) (msup : mg "super" = none) (len : ∀ vs H Q E, sp vs H Q E → vs.length = N.length)
    (hbody : ∀ (A : Around) (outer : List Env) (s : Shared) (H : Hp) (vs : List V) (Q : VK) (E : XK), Room k (A.deeper (PySem.W.ksEnv qual (defScope st) s.heap.objs.size f (.ref cda) cc)) → sp vs H Q E →
      ∃ te t, PE (zCx P w K mg base N qual (defScope st) f cda cc A outer s H) e te ∧ PSs (zCx P w K mg base N qual (defScope st) f cda cc A outer s H) rest t ∧ tSup C te t { nx := fun _ H' => Q .non H', rt := Q } (vs.map some) H)
    (hst : ∀ env : Env, starEach [e] env = (false, eval e env) :: starEach [] env := by intro _; rfl) {pl : Sem Bool}
    (hc : ∀ (L f cc : Addr) (cd : Value), eval (.Call (.Attribute (.Call (.Name "super" p3) [] [] p4) "__init__" p5) [e] [] p6) (PySem.W.ksEnv qual (defScope st) L f cd cc) = (do
      let ov ← attributeBase (.Call (.Name "super" p3) [] [] p4) "__init__" (PySem.W.ksEnv qual (defScope st) L f cd cc) (eval (.Call (.Name "super" p3) [] [] p4) (PySem.W.ksEnv qual (defScope st) L f cd cc))
      standAt p5.atName
      let (f1, first) ← holding [ov] (getMethod ov "__init__" pl)
      callWith p6 f1 first (backTo p6 (starEach [e] (PySem.W.ksEnv qual (defScope st) L f cd cc))) []) := by intro _ _ _ _; rfl) : FnOk P w K mg base CX (k + 1) f fd N sp := by
  obtain ⟨oc, od, osl, kV, dc, pm, an, ct, rfl, lk⟩ := F.fn
  refine ⟨len, fun A outer s H args us vs Q E hr e0 hbind rv hsp => ?_⟩
  have hl := len _ _ _ _ hsp
  have KX : K.In s.heap := e0.mod.kin.keeps fun b o e => (e0.bs b o e).1
  have lim : s.heap.NoLimit := e0.mod.nolimit.keeps fun b o e => (e0.bs b o e).1
  refine ks_codeAny_call_defAt (binds := N.zip us) hr.depth (KX _ _ lk) rfl lim (PySem.W.codeRec_of KX F.cd) rfl hbind S.nocell (fun y hy => S.par _ (List.of_mem_zip (show (y.1, y.2) ∈ N.zip us from hy)).1) (fun h1 hns kp => ?_) S.co S.gen S.kind
  obtain ⟨ccl, cdd, cvs, ccs, file, tf, hcode, hfile, hfeq⟩ := F.file
  obtain ⟨cl, cld, csl, hcell⟩ := F.cell
  obtain ⟨nm, cq, cN, bs, bm, sn, sub, ab, col, dd, k0, k1, k2, k3, k5, hC, hbm⟩ := F.T.cls
  have hK1 : ∀ b o, K.lookup b = some o → h1.get? b = some o := fun b o e => kp _ _ (KX b o e)
  obtain ⟨te, t, pe, ps, a, ea, eH, hrd⟩ := hbody A outer s H vs Q E (hr.deeper _) hsp
  have I := z_start (h1 := h1) (tk := s.toks + (N.zip us).length) F S hr.hd e0 rv hl hns kp
  show _root_.PySem.wpAt (model P w) (A.deeper (PySem.W.ksEnv qual (defScope st) s.heap.objs.size f (.ref cda) cc)) (.func (defBody st) (PySem.W.ksEnv qual (defScope st) s.heap.objs.size f (.ref cda) cc)) (execs (defBody st) (PySem.W.ksEnv qual (defScope st) s.heap.objs.size f (.ref cda) cc)) _ _ _
  have hex : execs (defBody st) (PySem.W.ksEnv qual (defScope st) s.heap.objs.size f (.ref cda) cc) = execs (.Expr (.Call (.Attribute (.Call (.Name "super" p3) [] [] p4) "__init__" p5) [e] [] p6) p7 :: rest) (PySem.W.ksEnv qual (defScope st) s.heap.objs.size f (.ref cda) cc) := by rw [hb]
  rw [hex]
  have qi : interactive (PySem.W.ksEnv qual (defScope st) s.heap.objs.size f (.ref cda) cc) = false := I.quiet
  cases hh : ((defArgs st).posonlyargs ++ (defArgs st).args).head? with
  | none => rw [hh] at hpar; cases hpar
  | some ar =>
    rw [hh] at hpar
    have har : ar.arg = self0 := Option.some.inj hpar
    obtain ⟨hns1, hb1, hlook⟩ : ∃ m, h1.Ns s.heap.objs.size m ∧ m self0 = some (.ref a) := by
      have ev : vs[0]? = some (.ref a) := by
        rw [List.getElem?_map] at ea
        cases e : vs[0]? with
        | none => rw [e] at ea; cases ea
        | some v => rw [e] at ea; cases ea; rfl
      obtain ⟨u, hu, ru⟩ := rv.get ev
      cases ru
      exact ⟨_, hns, bindsRev (by rw [← rv.length]; exact hl) S.nd hs0 hu⟩
    obtain ⟨t1, hoa⟩ := exo_at I.hok eH
    have hoa : h1.get? a = some ({ cls := .ref C, dict := none, data := .fields #[.ref t1, .none, .none, .none, .bool false, .none] } : Obj) := hoa
    have KH : K.In h1 := hK1
    have selfk : (defScope st).names.lookup self0 = some .local := S.par _ (List.mem_of_getElem? hs0)
    obtain ⟨mb, hmb, hboot⟩ := e0.mod.blt
    have kb : ∀ b o, base.get? b = some o → h1.get? b = some o := fun b o e => kp _ _ (e0.bs b o e).1
    refine ks_wpAt_execs_cons (ks_wpAt_Expr_any (hi := qi) (ks_wpAt_MethodCall (ks_wpAt_super_base S.sup S.cls (by decide) rfl (hK1 _ _ lk) rfl hh rfl (hK1 _ _ hcode) rfl hfile hfeq F.top ?_) (hc _ _ _ _)))
    refine PySem.W.ks_loadName_global S.kind S.sup (Calls.loadGlobal_builtin (env := PySem.W.ksEnv qual (defScope st) s.heap.objs.size f (.ref cda) cc) (e0.mod.glob.keeps kb) msup (hmb.keeps kb) ((hboot _ (by decide)).trans (show bootBuiltins "super" = some (.type "super") by decide +kernel)) ⟨rfl, ?_⟩)
    refine wpAny_loadName_free S.kind S.cls rfl ⟨_, hK1 _ _ hcell, rfl⟩ ?_
    refine wpAny_loadName_local S.kind (by rw [har]; exact selfk) hb1 (by rw [har]; exact hlook) ?_
    refine ks_wpAny_isType_cls (hK1 _ _ hC) rfl ⟨rfl, ?_⟩
    refine ks_wpAny_call_super (hK1 _ _ hC) rfl hoa rfl (fun c z => by cases z) (PySem.W.looks_mroIn KH F.sub) fun h2 e2 k2 => ?_
    have KH2 : K.In h2 := fun b o e => k2 _ _ (hK1 b o e)
    have I2 : Inv (zCx P w K mg base N qual (defScope st) f cda cc A outer s H) [] (vs.map some) H { heap := h2, gens := s.gens, drawn := s.drawn, toks := s.toks + (N.zip us).length, os := s.os } := I.kept (t' := s.toks + (N.zip us).length) k2
    have hoa2 := k2 _ _ hoa
    have hve : PySem.W.Looks (model P w) h2 (isInstance (.ref a) (.type "ValueError")) true := (PySem.W.InstAt.type (od := none) ⟨hoa2, rfl, rfl, True.intro⟩).andThen (PySem.W.looks_subIn KH2 F.ve)
    have hne : a ≠ C := fun z => by
      rw [z] at hoa2
      have q := KH2 _ _ hC
      rw [hoa2] at q
      cases q
    obtain ⟨cd, hcd, hal⟩ : ∃ cd, PySem.W.clsIn K C = some cd ∧ PySem.W.alongIn K "__init__" ((cd.mro.dropWhile (· != .ref C)).drop 1) = some (some (.builtin "ValueError.__init__")) := by
      have q := F.sup
      unfold PySem.W.ks_superIn at q
      cases z : PySem.W.clsIn K C with
      | none => rw [z] at q; cases q
      | some cd => rw [z] at q; exact ⟨cd, rfl, q⟩
    refine PySem.W.kxs_getMethod PySem.W.kxs_ValueError (so := h1.objs.size) e2 (PySem.W.looks_opaque KH2 F.opq) (l₀ := cd.mro) (fun A Q E s k q => wpAny_bind ((PySem.W.looks_clsIn KH2 hcd) A _ E s k (wpAny_pure q))) rfl KH2 hal hve hne (by decide) ?_
    -- the wrapper stands at u
    have hu : (h2.push (PySem.W.kxs_mw "ValueError.__init__" a)).get? h2.objs.size = some (PySem.W.kxs_mw "ValueError.__init__" a) := Heap.get?_push_size _ rfl
    have I3 : Inv (zCx P w K mg base N qual (defScope st) f cda cc A outer s H) [] (vs.map some) H { heap := h2.push (PySem.W.kxs_mw "ValueError.__init__" a), gens := s.gens, drawn := s.drawn, toks := s.toks + (N.zip us).length + 1, os := s.os } := I2.kept (t' := s.toks + (N.zip us).length + 1) fun b o e => Heap.get?_push_of_some _ e
    have f3 := I2.fpOk (Nat.le_refl _) (I2.hok.fresh (Nat.le_refl _))
    have I4 : Inv (zCx P w K mg base N qual (defScope st) f cda cc A outer s H) [(h2.objs.size, PySem.W.kxs_mw "ValueError.__init__" a)] (vs.map some) H { heap := h2.push (PySem.W.kxs_mw "ValueError.__init__" a), gens := s.gens, drawn := s.drawn, toks := s.toks + (N.zip us).length + 1, os := s.os } := I3.pins_of fun p hp => by
      have e : p = (h2.objs.size, PySem.W.kxs_mw "ValueError.__init__" a) := by simpa using hp
      subst e
      exact ⟨hu, f3.1, f3.2.1, f3.2.2.1, fun v z => by cases z⟩
    show wpAny (model P w) (A.deeper (PySem.W.ksEnv qual (defScope st) s.heap.objs.size f (.ref cda) cc)) (callWith p6 (.ref h2.objs.size) [] (backTo p6 (starEach [e] (PySem.W.ksEnv qual (defScope st) s.heap.objs.size f (.ref cda) cc))) []) _ _ _
    rw [hst]
    refine PySem.W.kxs_callWith (i := "ValueError.__init__") (x := a) rfl ?_
    refine Calls.evalArgs_plain (Calls.spliced_cons ?_)
    have hpe := pe.run _ _ _ _ _ I4 hrd
    refine wpAny_mono hpe (fun v s5 hv => ?_) fun _ _ z => z.elim
    obtain ⟨xv, H5, I5, rx, e5, ht⟩ := hv
    refine Calls.spliced_nil ⟨(I5.pin (h2.objs.size, PySem.W.kxs_mw "ValueError.__init__" a) (by simp)).1, ?_⟩
    have hu5 := (I5.pin (h2.objs.size, PySem.W.kxs_mw "ValueError.__init__" a) (by simp)).1
    obtain ⟨t5, hoa5⟩ := exo_at I5.hok e5
    have KH5 : K.In s5.heap := I5.kIn
    obtain ⟨hh5, g5, d5, tk5, os5⟩ := s5
    refine call_mw _root_.PySem.F.excBase_ValueError (KH5 _ _ hC) hoa5 hu5 (by show 1 ≤ sizeLine; decide) fun h6 t6 k6 e6 => ?_
    have J := I5.write (t' := tk5) (x := a) (e := a) (o := exo a C none) (by rw [e5]; exact True.intro) (.inl rfl) k6 ⟨_, e6⟩ (exo_ok e6)
    have eu : upd H5 a (exo a C none) = H5 := by
      funext b
      by_cases hb : b = a
      · rw [hb, upd_same, e5]
      · rw [upd_ne hb]
    rw [eu] at J
    have hps := ps.run _ _ _ _ { nx := fun _ H' => Q .non H', rt := Q } J ht
    refine wpAt_of_wpAny (wpAny_mono hps (fun fl s' hs => ?_) fun _ _ z => z.elim)
    cases fl with
    | ret u =>
      obtain ⟨v, σ', H', J, rv, q⟩ := hs
      exact ⟨v, H', J.os, J.bare, J.base, J.hok, rv, q⟩
    | next =>
      obtain ⟨σ', H', J, q⟩ := hs
      exact ⟨.non, H', J.os, J.bare, J.base, J.hok, rfl, q⟩
    | brk =>
      obtain ⟨_, _, _, q⟩ := hs
      exact False.elim q
    | cont =>
      obtain ⟨_, _, _, q⟩ := hs
      exact False.elim q
end
end Cf
set_option Elab.async false
set_option linter.all false
set_option maxRecDepth 100000
set_option maxHeartbeats 2000000
/-! CfY: raise C(..). -/
namespace Cf
open PySem PySem.Spec PyProof.Rows L2

/-- __init__(self, f): one text -/
def sp1 (C : Addr) (f : Str) : L2.Sp := fun vs H Q _ => ∃ a y, vs = [.ref a, .str y] ∧ y.length ≤ 1000000 ∧ H a = some (exo a C none) ∧ ∀ dx, H dx = none → dx ≠ a → Q .non (upd (upd H dx (exd dx [(f, .str y)])) a (exo a C (some dx)))
section
variable {P : Program} {w : World} {K : PySem.W.Frag} {mg : Str → Option Value} {base : Heap} {C f cc cda : Addr} {name qual : Str} {st : Stmt} {fd : FuncData}
theorem init1 {CX : CXT} {k : Nat} {fl pre : Str} {p1 p3 p4 p5 p6 p7 p8 p9 q1 q2 q3 q4 q5 : Pos} {j2 : Nat} (F : SupI P K C f cc cda name qual st fd) (S : SupS ["self", fl] (defScope st))
    (hb : defBody st = [.Expr (.Call (.Attribute (.Call (.Name "super" p3) [] [] p4) "__init__" p5) [.JoinedStr [.Constant (.str pre) j2 p7, .FormattedValue (.Name fl p8) (-1) none p9] q1] [] p6) p1, .Assign [.Attribute (.Name "self" q2) fl q3] (.Name fl q4) q5])
    (hpar : ((defArgs st).posonlyargs ++ (defArgs st).args).head?.map (·.arg) = some "self") (msup : mg "super" = none) (hno : PySem.W.findIn K (.ref C) fl = some none) (hpre : pre.length ≤ 1000) (hdb : (fl == ("__debug__" : Str)) = false) (hdc : (fl == ("__classdict__" : Str)) = false) (hsf : fl ≠ "self")
    {pl : Sem Bool}
    (hc : ∀ (L f cc : Addr) (cd : Value), eval (.Call (.Attribute (.Call (.Name "super" p3) [] [] p4) "__init__" p5) [.JoinedStr [.Constant (.str pre) j2 p7, .FormattedValue (.Name fl p8) (-1) none p9] q1] [] p6) (PySem.W.ksEnv qual (defScope st) L f cd cc) = (do
      let ov ← attributeBase (.Call (.Name "super" p3) [] [] p4) "__init__" (PySem.W.ksEnv qual (defScope st) L f cd cc) (eval (.Call (.Name "super" p3) [] [] p4) (PySem.W.ksEnv qual (defScope st) L f cd cc))
      standAt p5.atName
      let (f1, first) ← holding [ov] (getMethod ov "__init__" pl)
      callWith p6 f1 first (backTo p6 (starEach [.JoinedStr [.Constant (.str pre) j2 p7, .FormattedValue (.Name fl p8) (-1) none p9] q1] (PySem.W.ksEnv qual (defScope st) L f cd cc))) [])) : FnOk P w K mg base CX (k + 1) f fd ["self", fl] (sp1 C fl) := by
  refine init_ok F S hb rfl hpar msup (fun vs H Q E h => ?_) (fun A outer s H vs Q E hr h => ?_) (fun _ => rfl) hc
  · obtain ⟨a, y, rfl, _⟩ := h
    rfl
  · obtain ⟨a, y, rfl, hy, ha, q⟩ := h
    have l0 : (defScope st).names.lookup ("self" : Str) = some .local := S.par _ (by simp)
    have l1 : (defScope st).names.lookup fl = some .local := S.par _ (by simp)
    refine ⟨_, _, pe_joined (.cons pe_str (.cons (pe_fmt (pe_var (i := 1) rfl (.inl l1) hdb hdc)) .nil)), pss_one (ps_ost (pe_var (i := 0) rfl (.inl l0) (by decide) (by decide)) (pe_var (i := 1) rfl (.inl l1) hdb hdc)), a, rfl, ha, ?_⟩
    have hsz : ("" : Str).length = 0 := by decide
    have ha2 : ∀ x y : Str, (x ++ y).length = x.length + y.length := fun x y => by
      show (x.cps ++ y.cps).size = x.cps.size + y.cps.size
      exact Array.size_append ..
    have he0 : Str.empty.length = 0 := rfl
    refine ⟨pre, rfl, ?_, .str y, rfl, .inl ⟨y, rfl, Nat.le_trans hy (by decide), y, rfl, ?_, ha, ?_⟩⟩
    · rw [ha2, he0, Nat.zero_add]
      exact Nat.le_trans hpre (by decide)
    · rw [ha2, ha2, he0, Nat.zero_add]
      exact Nat.le_trans (Nat.add_le_add hpre hy) (by decide)
    · exact ⟨_, rfl, _, rfl, a, C, rfl, F.T, hno, .inl ⟨ha, fun dx h0 hne => q dx h0 hne⟩⟩
end
theorem upd_del {H1 : Hp} {a d : Addr} {o o1 o2 o3 : HO} (hn : H1 a = none) (hd : d ≠ a) : upd (del (upd (upd (upd H1 a o) d o1) a o2) a) d o3 = upd H1 d o3 := by
  funext b
  by_cases hb : b = d
  · rw [hb, upd_same, upd_same]
  · rw [upd_ne hb, upd_ne hb]
    by_cases hb2 : b = a
    · rw [hb2, del_same, hn]
    · rw [del_ne hb2, upd_ne hb2, upd_ne hb, upd_ne hb2]
theorem out_eq {α : Type} {w : Wd} {Ex : XK} {r : R α} {Z : α → List O → Wd → Prop} (o : Out w Ex r Z) : Out w Ex r (fun a h w' => r = .ok a h ∧ Z a h w') := by
  cases r with
  | no => exact o
  | er c vs h => exact o
  | ok a h => exact fun w' s r' => ⟨rfl, o w' s r'⟩
theorem evs_length : ∀ {es : List E} {σ : S} {h h' : List O} {ds : List D}, evs es σ h = .ok ds h' → ds.length = es.length
  | [], _, _, _, _, e => by cases e; rfl
  | a :: as, σ, h, h', ds, e => by
    obtain ⟨x, h1, _, e⟩ := next_ok (show (a σ h).next _ = .ok ds h' from e)
    obtain ⟨xs, h2, e2, e⟩ := next_ok (show (evs as σ h1).next _ = .ok ds h' from e)
    have e : R.ok (x :: xs) h2 = R.ok ds h' := e
    cases e
    rw [List.length_cons, List.length_cons, evs_length e2]
section
variable {X : Cx} {gd : Gd} {Ex : XK} {e : Expr} {me : E} {C fI : Addr} {k : Nat} {fd : FuncData} {fl x : Str} {c : String} {p pos pos2 : Pos}
theorem S_raise1 (hc : X.calm = true) (T : OexC X.K C) (iC : PySem.W.findIn X.K (.ref C) "__init__" = some (some (.ref fI))) (tI : PySem.W.typeIn X.K (.ref fI) = some (.type "function"))
    (F1 : FnOk X.prog X.w X.K X.mg X.base (L2.CX X.prog X.w) k fI fd ["self", fl] (sp1 C fl)) (hr : Room (k + 1) X.A) (hb : Binds X.K fd ["self", fl] []) (hx : Passes (L2.CX X.prog X.w) X (fun _ _ _ => False)) (hg : Gl X x) (hm : X.mg x = some (.ref C))
    (tk : Takes X (fun cls d _ H => Ex cls d H)) (hcl : gd.cl c = some C) (hef : exFields c = [fl]) (he : PE X e (tE X.K gd Ex me))
    (hdb : (x == ("__debug__" : Str)) = false := by decide) (hse : starEach [e] X.env = (false, eval e X.env) :: starEach [] X.env := by rfl) :
    PS X (.Raise (some (.Call (.Name x p) [e] [] pos)) none pos2) (tS X.K gd Ex (sRaise c [me])) := by
  refine PS.imp (ps_raise hc tk (pmk_oex (dvs := []) T iC tI F1 hr hb .nil hx hg hm (A_cons he A_nil hse) hdb hse rfl)) fun D σ H h => ?_
  obtain ⟨w0, w1, w, h, aσ, fr, st, wk, wg, rfl, r, sl, o⟩ := h
  refine ⟨w, h, aσ, wk, wg, rfl, r, sl.sl, ?_⟩
  refine Out.mono (out_eq (outS_out (h0 := h) fr st o)) fun ds h1 w' ⟨eq, f1, s1, x1, r1, o1⟩ v rv => ?_
  have k1 := x1.k.trans wk
  have g1 := x1.g.trans wg
  have hl := evs_length eq
  match ds, hl, rv, o1 with
  | [d], _, rv, o1 =>
    by_cases hok : exOk [d] = true
    · rw [if_pos hok] at o1
      rw [Reps] at rv
      obtain ⟨u, r', rfl, rd, rr⟩ := rv
      rw [Reps] at rr
      subst rr
      cases d with
      | str z =>
        have hz : z.length ≤ 1000000 := by simpa [exOk, exOk1] using hok
        rw [rep_str] at rd
        obtain ⟨rfl, ok⟩ := rd
        refine ⟨by show 1 ≤ 1000; decide, fun a ha => ⟨a, ⟨z.toArray⟩, rfl, by show z.toArray.size ≤ _; simpa using hz, upd_same, fun dx hdx hne => ⟨rfl, dx, [(fl, .str ⟨z.toArray⟩)], upd_same, ?_, ?_, ?_⟩⟩⟩
        · rw [upd_ne hne, upd_same]
        · rw [upd_ne hne] at hdx; exact hdx
        · rw [upd_ne hne] at hdx
          rw [upd_del ha hne]
          obtain ⟨x1, r2, st2⟩ := (f1.xs (xs_put (o := .xd [(fl, .str ⟨z.toArray⟩)]) hdx)).back (r1.put hdx)
          refine o1 ((w'.put dx (.xd [(fl, .str ⟨z.toArray⟩)])).back w0) C dx x1 r2 ?_ ⟨[(fl, .str ⟨z.toArray⟩)], upd_same, by rw [hef]; rfl, .cons (by rw [rep_str]; exact ⟨rfl, ok⟩) .nil⟩
          rw [← f1.g, g1]
          exact hcl
      | _ => exact absurd hok (by simp [exOk, exOk1])
    · rw [if_neg hok] at o1
      exact o1.elim
end
end Cf
set_option Elab.async false
set_option linter.all false
set_option maxRecDepth 100000
set_option maxHeartbeats 2000000
/-! CfT: try with clauses «except C as e» that let nothing out. -/
namespace Cf
open PySem PySem.Spec PyProof.Rows L2

abbrev SuR := Addr → Value → Option Addr → TS
/-- the ends of a suite whose name goes -/
def sufE (i : Nat) (D : Ends) : Ends := ⟨fun τ G => D.nx (τ.set i none) G, D.rt, fun τ G => D.bk (τ.set i none) G, fun τ G => D.ct (τ.set i none) G⟩
/-- one clause after another is asked; one of them must take it -/
def asked (K : PySem.W.Frag) (D : Ends) (i : Nat) : List (Value × SuR) → WX
  | [] => fun _ _ _ _ => False
  | cl :: more => fun cls d τ G => ∃ yes, PySem.W.exmOne K cls cl.1 = some yes ∧ if yes = true then ∀ a, G a = none → i < τ.length → cl.2 a cls d (sufE i D) (τ.set i (some (.ref a))) G else asked K D i more cls d τ G
/-- an exception at a has come down -/
structure Down (X : Cx) (pins : List (Addr × Obj)) (τ : L2.St) (G : Hp) (a : Addr) (cls : Value) (d : Option Addr) (s : Shared) : Prop where
  hid : G a = none
  air : ∃ B, HandSPX.FlyingZ B (X.env :: X.outer) a (Zc cls d) s.heap ∧ ∀ h, HandSPX.FlyingZ B (X.env :: X.outer) a (Zc cls d) h → s.heap.UpToSlots h → Inv X pins τ G { s with heap := h }
section
variable {X : Cx} {pins : List (Addr × Obj)} {τ : L2.St} {G : Hp} {a : Addr} {cls : Value} {d : Option Addr} {s : Shared} {n : Str} {i : Nat}
theorem upto_refl (h : Heap) : h.UpToSlots h := fun b o e _ => ⟨o.slots, e⟩
/-- the suite's context in a state in which the exception flies -/
theorem Down.inside {B : Heap} {h : Heap} (hf : X.env.frame = some X.env.locals) (hid : G a = none) (fl : HandSPX.FlyingZ B (X.env :: X.outer) a (Zc cls d) h) (I : Inv X pins τ G { s with heap := h }) :
    ∃ oe, Zc cls d oe ∧ (∃ vs, oe.data = .fields vs) ∧ h.get? a = some oe ∧ Inv (X.suite a ((a, oe) :: (X.pn ++ pins))) [] τ G { s with heap := h } := by
  obtain ⟨oe, vs, at_, z, dt⟩ := fl.there
  have apart : ∀ b ∈ frs (X.env :: X.outer), b ≠ a := by
    intro b hb e
    obtain ⟨_, ob, eb, nofields⟩ := fl.2.2.1.mem hb
    rw [e, at_] at eb
    cases eb
    exact nofields vs dt
  have inFrs : ∀ e ∈ X.env :: X.outer, ∀ b, e.frame = some b → b ∈ frs (X.env :: X.outer) := fun e he b eb => List.mem_filterMap.mpr ⟨e, he, eb⟩
  refine ⟨oe, z, ⟨vs, dt⟩, at_, I.suite at_ dt hid (fun e => apart _ (inFrs X.env (List.mem_cons_self ..) _ hf) e.symm) fun hm => ?_⟩
  obtain ⟨e, he, eb⟩ := List.mem_filterMap.mp hm
  exact apart a (inFrs e (List.mem_cons_of_mem _ he) a eb) rfl
/-- what is in the air of X comes down -/
theorem down_of {B : Heap} {sI : Shared} {M : Model} {Q : Unit → Shared → Prop} {E₁ : Value → Shared → Prop} (hs : X.stack = X.env :: X.outer) (hfr : X.A.frames = some (X.env :: X.outer)) (hf : X.env.frame = some X.env.locals) (I : Inv X pins τ G sI)
    (nb : ∀ b o, sI.heap.get? b = some o → b ∉ frs X.stack → B.get? b = some o) (up : sI.heap.UpToSlots s.heap) (sky : Sky B X.stack a (Zc cls d) X.env.locals s.heap) (na : G a = none) (os : s.os = sI.os) (ag : AllBare s.gens)
    (k : ∀ s', Down X pins τ G a cls d s' → Q () s') : wpAny M X.A (noteFrame (.ref a) X.env) (fun _ s₂ => wpAny M X.A (setFlight (.ref a) none) Q E₁ s₂) E₁ s := by
  rw [hs] at sky
  refine Sky.land Zc.steady hfr hf sky fun h fl u1 => k _ ⟨na, B, fl, fun h2 fl2 u2 => ?_⟩
  exact I.landed (s' := { s with heap := h2 }) nb fl2.1 ((up.trans u1).trans u2) os ag
end
/-- the clauses, their suites walked -/
inductive Clauses (X : Cx) (n : Str) : List ExceptHandler → List (Value × SuR) → Prop
  | nil : Clauses X n [] []
  | cons {x : Str} {c : Value} {ts : SuR} {first : Stmt} {more : List Stmt} {np hp : Pos} {hs : List ExceptHandler} {l : List (Value × SuR)} (named : Names X x c)
      (walked : ∀ a oe cls d pn, Zc cls d oe → (∃ vs, oe.data = .fields vs) → PSs (X.suite a ((a, oe) :: pn)) (first :: more) (ts a cls d)) (r : Clauses X n hs l) : Clauses X n (.ExceptHandler (some (.Name x np)) (some n) (first :: more) hp :: hs) ((c, ts) :: l)
section
variable {X : Cx} {pins : List (Addr × Obj)} {τ : L2.St} {G : Hp} {a : Addr} {cls : Value} {d : Option Addr} {s : Shared} {n : Str} {i : Nat} {D : Ends}
/-- a suite, run; its name goes behind it -/
theorem Down.run {ts : SuR} {first : Stmt} {more : List Stmt} {hp : Pos} (hf : X.env.frame = some X.env.locals) (hN : X.N.Nodup) (hi : X.N[i]? = some n) (hl : X.env.kindOf n = some .local) (w : Down X pins τ G a cls d s)
    (walked : ∀ a oe cls d pn, Zc cls d oe → (∃ vs, oe.data = .fields vs) → PSs (X.suite a ((a, oe) :: pn)) (first :: more) (ts a cls d)) (want : ts a cls d (sufE i D) (τ.set i (some (.ref a))) G) :
    codeAny (model X.prog X.w) (X.A.mark (some (.ref a))) (.handlers (.ref a) [.ExceptHandler none (some n) (first :: more) hp] X.env) (fun r s2 => match r with
      | .ok f => wpAny (model X.prog X.w) X.A (do bindName X.env n .none; unbindBehindTheSuite X.env n hp) (fun _ s3 => SP X pins D f s3) X.xe s2
      | .error x => cameBackBy (model X.prog X.w) X.A X.env X.xe x s2) s := by
  obtain ⟨B, fl, inv⟩ := w.air
  have okX := (inv s.heap fl (upto_refl _)).ok
  refine codeAny_handlers_suite_as (HandSPX.lands_againZ fl fun h fl2 up2 => ?_)
  obtain ⟨oe, z, vs, _, S⟩ := Down.inside hf w.hid fl2 (inv h fl2 up2)
  refine store_ok (X := X.suite a ((a, oe) :: (X.pn ++ pins))) (v := .ref a) S hN hi (.inl hl) rfl (fun s5 S5 => ?_) (.inr hl)
  have gone : ∀ {τ' : L2.St} {G' : Hp} {s6 : Shared} {Q : Shared → Prop}, Inv (X.suite a ((a, oe) :: (X.pn ++ pins))) [] τ' G' s6 → (∀ s7, Inv X pins (τ'.set i none) G' s7 → Q s7) →
      wpAny (model X.prog X.w) X.A (do bindName X.env n .none; unbindBehindTheSuite X.env n hp) (fun _ s7 => Q s7) X.xe s6 := fun S6 q => gone_ok (S6.unsuite okX) hN hi hl q
  have ran := (walked a oe cls d (X.pn ++ pins) z vs).run [] s5 _ G _ S5 want
  refine wpAny_mono ran (fun f s6 e6 => ?_) fun _ _ never => never.elim
  cases f with
  | next => obtain ⟨_, _, S6, q⟩ := e6; exact gone S6 fun _ J => ⟨_, _, J, q⟩
  | brk => obtain ⟨_, _, S6, q⟩ := e6; exact gone S6 fun _ J => ⟨_, _, J, q⟩
  | cont => obtain ⟨_, _, S6, q⟩ := e6; exact gone S6 fun _ J => ⟨_, _, J, q⟩
  | ret u => obtain ⟨_, _, _, S6, r, q⟩ := e6; exact gone S6 fun _ J => ⟨_, _, _, J, r, q⟩
theorem Down.handled {hs : List ExceptHandler} {l : List (Value × SuR)} (cs : Clauses X n hs l) (hf : X.env.frame = some X.env.locals) (hN : X.N.Nodup) (hi : X.N[i]? = some n) (hl : X.env.kindOf n = some .local) (w : Down X pins τ G a cls d s)
    (q : asked X.K D i l cls d τ G) : wpAny (model X.prog X.w) X.A (handleBy (.ref a) X.env hs) (SP X pins D) X.xe s := by
  induction cs with
  | nil => exact False.elim q
  | @cons x c ts first more np hp hs l named walked r ih =>
    obtain ⟨yes, hyes, q⟩ := q
    obtain ⟨B, fl, inv⟩ := w.air
    have I := inv s.heap fl (upto_refl _)
    obtain ⟨oe, z, vs, at_, S⟩ := Down.inside hf w.hid fl I
    have ty : PySem.W.Looks (model X.prog X.w) s.heap (typeOf (.ref a)) cls := fun A Q E t k e => wpAny_typeOf_ref (k a oe at_) (by rw [z.1]; exact e)
    have ans := PySem.W.exm_one (M := model X.prog X.w) I.kIn ty hyes
    refine wpAny_handleBy_cons (codeAny_handlers_test ?_) (by intro never; cases never)
    have name : ∀ {Q : Value → Shared → Prop} {E : Value → Shared → Prop}, Q c s → wpAny (model X.prog X.w) (X.A.mark (some (.ref a))) (eval (.Name x np) X.env) Q E s := by
      intro Q E e
      obtain ⟨g, nd, own | ⟨none, blt, nn⟩⟩ := named
      · exact ld_glob (X := X.suite a ((a, oe) :: (X.pn ++ pins))) S g own e nd
      · exact ld_blt (X := X.suite a ((a, oe) :: (X.pn ++ pins))) S g none blt e nn nd
    refine name (ans.here ?_)
    cases yes with
    | false => exact ih q
    | true => exact w.run hf hN hi hl walked (q a w.hid (by rw [I.len]; exact (List.getElem?_eq_some_iff.mp hi).1))
theorem ps_try_manyA {body : List Stmt} {h₀ : ExceptHandler} {hds : List ExceptHandler} {l : List (Value × SuR)} {pos : Pos} {tb : WX → TS} (hs : X.stack = X.env :: X.outer) (hf : X.env.frame = some X.env.locals) (hN : X.N.Nodup) (hi : X.N[i]? = some n) (hl : X.env.kindOf n = some .local)
    (hb : ∀ (W : WX) (pn : List (Addr × Obj)) (xe : Value → Shared → Prop), Takes (X.tr pn xe) W → PSs (X.tr pn xe) body (tb W)) (cs : Clauses X n (h₀ :: hds) l) :
    PS X (.Try body (h₀ :: hds) [] [] pos) (fun D σ H => tb (asked X.K D i l) D σ H) := by
  constructor
  intro pins s σ H D I want
  have okX := I.ok
  have frames : X.A.frames = some (X.env :: X.outer) := by rw [← hs]; exact okX.frames
  let air : Value → Shared → Prop := fun e s1 => wpAny (model X.prog X.w) X.A (noteFrame e X.env) (fun _ s2 => wpAny (model X.prog X.w) X.A (setFlight e none) (fun _ s3 => wpAny (model X.prog X.w) X.A (handleBy e X.env (h₀ :: hds)) (SP X pins D) X.xe s3) X.xe s2) X.xe s1
  have takes : Takes (X.tr (X.pn ++ pins) air) (asked X.K D i l) := by
    rintro u s1 ⟨a, B, sI, p, τ, G, cls, d, rfl, J, nb, up, sky, na, os, ag, w⟩
    exact down_of hs frames hf (J.ofTry okX) nb up sky na os ag fun s' dn => dn.handled cs hf hN hi hl w
  refine wpAny_Try_except (wpAny_mono ((hb _ _ air takes).run [] s σ H D (I.toTry _) want) (fun f s1 e => ?_) fun _ _ e => e)
  cases f with
  | next => obtain ⟨τ, G, J, q⟩ := e; exact wpAny_execs_nil ⟨τ, G, J.ofTry okX, q⟩
  | brk => obtain ⟨τ, G, J, q⟩ := e; exact ⟨τ, G, J.ofTry okX, q⟩
  | cont => obtain ⟨τ, G, J, q⟩ := e; exact ⟨τ, G, J.ofTry okX, q⟩
  | ret u => obtain ⟨v, τ, G, J, r, q⟩ := e; exact ⟨v, τ, G, J.ofTry okX, r, q⟩
end
end Cf
set_option Elab.async false
set_option linter.all false
set_option maxRecDepth 100000
set_option maxHeartbeats 4000000
/-! CfM: isinstance of a caught exception that has its own dict. -/
namespace Cf
open PySem PySem.Spec PyProof.Rows L2
/-- isinstance(e, c): e the exception of the suite, its own dict at d, its class at B -/
def rIsD (K : PySem.W.Frag) (B a d : Addr) : List V → Hp → VK → Prop := fun xs H Q => ∃ (k : V) (kv : Value) (ans : Bool) (held : List (Str × V)), xs = [.ref a, k] ∧ (∀ z, RelV k z → z = kv) ∧ PySem.W.kitOne K (.ref B) kv = some ans ∧ H d = some (.xd held) ∧ Q (.bl ans) H
theorem own_at {P : Program} {w : World} {H : Hp} {h : Heap} {dd : Addr} {held : List (Str × V)} (ok : HOk P w H h) (hd : H dd = some (.xd held)) : ∃ od, h.get? dd = some od := by
  obtain ⟨m, ⟨od, _, _, e, _⟩, _⟩ : ObjOk P w H h dd (.xd held) := ok dd _ hd
  exact ⟨od, e⟩
theorem call_isD {X : Cx} {a B dd : Addr} {oe : Obj} {more : List (Addr × Obj)} (C : ExcC X.K B) (hz : Zc (.ref B) (some dd) oe) (hf : ∃ vs, oe.data = .fields vs) : CallR (X.suite a ((a, oe) :: more)) (.builtin "isinstance") (rIsD X.K B a dd) := by
  rintro pins s σ H xs us Q I vals ⟨k, kv, ans, held, rfl, only, hk, hd, q⟩
  obtain ⟨u1, u2, rfl, r1, r2⟩ := vals2 vals
  cases r1
  obtain rfl := only _ r2
  have here := (I.pin (a, oe) (List.mem_append_left _ (List.mem_cons_self ..))).1
  obtain ⟨od, ho⟩ := own_at I.hok hd
  obtain ⟨fv, hfv⟩ := hf
  have inst : PySem.W.InstAt s.heap a oe B (some od) := ⟨here, hz.1, by unfold PySem.W.notCls; rw [hfv] <;> rfl, by rw [hz.2]; exact ho⟩
  obtain ⟨cd, hcd, _⟩ := PySem.W.any_some C.hd
  have kit := PySem.W.kitx_exc (x := a) (ox := oe) (od := some od) (by rw [hcd]; rfl) C.hg C.hk C.hs C.ha C.hn C.ht C.hm
  exact PySem.W.kia_one kit I.kIn inst hk (fun z => nomatch z) fun t => ⟨.bl ans, H, I.tok t, rfl, q⟩
end Cf
set_option Elab.async false
set_option linter.all false
set_option maxRecDepth 100000
set_option maxHeartbeats 2000000
/-! CfN: what a call raised is heard. -/
namespace Cf
open PySem PySem.Spec PyProof.Rows L2

/-- the reading of the def that asks: nothing raised; a bad argument -/
def TTh (K : PySem.W.Frag) (CB : Addr) : (XK → Hp → VK → Prop) → Hp → VK → Prop := fun tl H Q =>
  tl (fun cls d H' => cls = .ref CB ∧ ∃ dd fs v, d = some dd ∧ H' dd = some (.xd fs) ∧ fs.lookup ("name" : Str) = some v ∧ ∀ p, H' p = none → Q (.ref p) (upd H' p (.tup [.str "bad", v, .bl true]))) H
    (fun _ H' => tTup tNil [] H' Q)
/-- what the suite of the first clause says -/
def tBad (K : PySem.W.Frag) (CB a : Addr) (cls : Value) (d : Option Addr) : TS := fun D σ H => cls = .ref CB ∧ σ[1]? = some (some (.ref a)) ∧ ∃ dd fs v, d = some dd ∧ H dd = some (.xd fs) ∧ fs.lookup ("name" : Str) = some v ∧ ∀ p, H p = none → D.rt (.ref p) (upd H p (.tup [.str "bad", v, .bl true]))
def tNv (a : Addr) (cls : Value) (d : Option Addr) : TS := fun _ _ _ => False
section
variable {X : Cx} {CB CE C2 C3 C4 g : Addr} {cdg : Value} {sg : Scope} {x q : Str} {p1 p2 p3 p4 p5 p6 p7 p8 p9 p10 p11 p12 p13 p14 p15 p16 p17 p18 p19 p20 p21 : Pos} {j1 k1 k2 : Nat} {q1 q2 q3 q4 q5 q6 q7 q8 q9 : Pos} {s2 s3 s4 : List Stmt} {b2 b3 b4 : Stmt} {n2 n3 n4 : Str}
theorem suite_bad {Z : Cx} {a : Addr} {oe : Obj} {cls : Value} {d : Option Addr} {pn : List (Addr × Obj)} (T : XfC Z.K CB) (C : ExcC Z.K CB) (hno : PySem.W.findIn Z.K (.ref CB) "name" = some none) (hz : Zc cls d oe) (hf : ∃ vs, oe.data = .fields vs)
    (hN : Z.N[1]? = some ("e" : Str)) (hv : Vis Z.env.scope "e") (gE : Gl Z "CrossError") (mE : Z.mg "CrossError" = some (.ref CE)) (gV : Gl Z "ValueError") (mV : Z.mg "ValueError" = none) (gI : Gl Z "isinstance") (mI : Z.mg "isinstance" = none)
    (kE : PySem.W.kitOne Z.K (.ref CB) (.ref CE) = some true) (kV : PySem.W.kitOne Z.K (.ref CB) (.type "ValueError") = some true)
    (hb : ∀ env : Env, env = Z.env → attributeBase (.Name "e" p3) "name" env (eval (.Name "e" p3) env) = eval (.Name "e" p3) env) :
    PSs (Z.suite a ((a, oe) :: pn)) [.Return (some (.Tuple [.Constant (.str "bad") j1 p2, .Attribute (.Name "e" p3) "name" p4, .BoolOp .And [.Call (.Name "isinstance" p5) [.Name "e" p6, .Name "CrossError" p7] [] p8, .Call (.Name "isinstance" p9) [.Name "e" p10, .Name "ValueError" p11] [] p12] p13] k1 p14)) p15] (tBad Z.K CB a cls d) := by
  refine ⟨fun pins s σ H D I h => ?_⟩
  obtain ⟨rfl, hs, dd, fs, v, rfl, hd, hl, q⟩ := h
  have pe : ∀ {p : Pos}, PE (Z.suite a ((a, oe) :: pn)) (.Name "e" p) (tVar 1) := fun {p} => pe_var hN hv (by decide) (by decide)
  have i1 : PE (Z.suite a ((a, oe) :: pn)) (.Call (.Name "isinstance" p5) [.Name "e" p6, .Name "CrossError" p7] [] p8) _ := pe_callB (call_isD C hz hf) gI mI (by decide +kernel) (pa_cons pe (pa_cons (pe_glob (v := .ref CE) gE mE rfl) pa_nil))
  have i2 : PE (Z.suite a ((a, oe) :: pn)) (.Call (.Name "isinstance" p9) [.Name "e" p10, .Name "ValueError" p11] [] p12) _ := pe_callB (call_isD C hz hf) gI mI (by decide +kernel) (pa_cons pe (pa_cons (pe_bltn (v := .ty "ValueError") gV mV PyProof.Rows.Boot.«ValueError» rfl) pa_nil))
  refine (pss_one (ps_ret (pe_tup (pa_cons pe_str (pa_cons (pe_xf T hno hz hf pe (hb _ rfl)) (pa_cons (pe_and i1 (pe_one i2)) pa_nil)))))).run pins s σ H D I ?_
  show tTup _ σ H D.rt
  refine ⟨.ref a, hs, rfl, rfl, dd, fs, v, rfl, hd, hl, ?_⟩
  refine ⟨.ref a, hs, .ref CE, .ref CE, true, fs, rfl, (fun u hu => hu), kE, hd, true, rfl, ?_⟩
  rw [if_pos rfl]
  refine ⟨.ref a, hs, .ty "ValueError", .type "ValueError", true, fs, rfl, (fun u hu => hu), kV, hd, ?_⟩
  exact ⟨by show 3 ≤ sizeLine; decide, q⟩
/-- the def that asks, gives -/
theorem heard_gives (hI : sg.names.lookup ("isinstance" : Str) = some .globalImplicit) (hE : sg.names.lookup ("CrossError" : Str) = some .globalImplicit) (hV : sg.names.lookup ("ValueError" : Str) = some .globalImplicit) (hB : sg.names.lookup ("BadArgument" : Str) = some .globalImplicit)
    (hlA : sg.names.lookup ("ask" : Str) = some .local) (hlE : sg.names.lookup ("e" : Str) = some .local) (mI : X.mg "isinstance" = none) (mE : X.mg "CrossError" = some (.ref CE)) (mV : X.mg "ValueError" = none) (mB : X.mg "BadArgument" = some (.ref CB))
    (h2 : sg.names.lookup n2 = some .globalImplicit) (m2 : X.mg n2 = some (.ref C2)) (d2 : (n2 == ("__debug__" : Str)) = false) (h3 : sg.names.lookup n3 = some .globalImplicit) (m3 : X.mg n3 = some (.ref C3)) (d3 : (n3 == ("__debug__" : Str)) = false)
    (h4 : sg.names.lookup n4 = some .globalImplicit) (m4 : X.mg n4 = some (.ref C4)) (d4 : (n4 == ("__debug__" : Str)) = false)
    (T : XfC X.K CB) (C : ExcC X.K CB) (hno : PySem.W.findIn X.K (.ref CB) "name" = some none) (kE : PySem.W.kitOne X.K (.ref CB) (.ref CE) = some true) (kV : PySem.W.kitOne X.K (.ref CB) (.type "ValueError") = some true) (hx : PySem.W.exmOne X.K (.ref CB) (.ref CB) = some true)
    (hb : ∀ (qual : Str) (L f : Addr) (cd : Value), attributeBase (.Name "e" p3) "name" (envOfC qual sg L f cd) (eval (.Name "e" p3) (envOfC qual sg L f cd)) = eval (.Name "e" p3) (envOfC qual sg L f cd)) :
    LamX.GivesTo X ["ask", "e"] x sg g cdg [.Try [.Expr (.Call (.Name "ask" p16) [] [] p17) p18] [
      .ExceptHandler (some (.Name "BadArgument" p19)) (some "e") [.Return (some (.Tuple [.Constant (.str "bad") j1 p2, .Attribute (.Name "e" p3) "name" p4, .BoolOp .And [.Call (.Name "isinstance" p5) [.Name "e" p6, .Name "CrossError" p7] [] p8, .Call (.Name "isinstance" p9) [.Name "e" p10, .Name "ValueError" p11] [] p12] p13] k1 p14)) p15] p20,
      .ExceptHandler (some (.Name n2 q1)) (some "e") (b2 :: s2) q2, .ExceptHandler (some (.Name n3 q3)) (some "e") (b3 :: s3) q4, .ExceptHandler (some (.Name n4 q5)) (some "e") (b4 :: s4) q6] [] [] q7, .Return (some (.Tuple [] k2 q8)) q9] "ask" q (TTh X.K CB) := by
  intro f c' s H Q tl act hc h
  have hcl : H c' = some (LamX.CodeO c' q) := hc
  refine ⟨_, pss_cons (ps_try_manyA (i := 1) (X := (cxOf C8.CX0 X.prog X.w X.K X.mg X.base ["ask", "e"] x sg g cdg X.A X.stack s H C8.E0).nox) (l := [(.ref CB, tBad X.K CB), (.ref C2, tNv), (.ref C3, tNv), (.ref C4, tNv)])
      (tb := fun W D σ H => ∃ Ech : XK, (∀ cls d σ' H', Ech cls d H' → W cls d σ' H') ∧ σ[0]? = some (some (.ref f)) ∧ H c' = some (LamX.CodeO c' q) ∧ tl Ech H (fun _ H' => D.nx σ H'))
      rfl rfl (show (["ask", "e"] : List Str).Nodup by decide) rfl hlE (fun W pn xe tk => ?_) (.cons ⟨hB, by decide, .inl mB⟩ (fun a oe cls d pn hz hf => ?_) (.cons ⟨h2, d2, .inl m2⟩ (fun a oe cls d pn hz hf => pss_never) (.cons ⟨h3, d3, .inl m3⟩ (fun a oe cls d pn hz hf => pss_never) (.cons ⟨h4, d4, .inl m4⟩ (fun a oe cls d pn hz hf => pss_never) .nil)))))
    (pss_one (ps_ret (pe_tup pa_nil))), ?_⟩
  · refine ⟨fun pins s' σ H' D I h' => ?_⟩
    obtain ⟨Ech, hW, e1, e2, e3⟩ := h'
    exact (pss_one (ps_expr (pos := p18) (act W pn xe Ech p16 p17 tk hW) rfl)).run pins s' σ H' D I ⟨e1, e2, e3⟩
  · exact suite_bad T C hno hz hf rfl (.inl hlE) hE mE hV mV hI mI kE kV fun env e => by rw [e]; exact hb _ _ _ _
  · refine ⟨_, fun cls d σ' H' hq => ?_, rfl, hc, h⟩
    obtain ⟨rfl, dd, fs, v, rfl, hd, hl, q⟩ := hq
    refine ⟨true, hx, ?_⟩
    rw [if_pos rfl]
    refine fun a na hi => ⟨rfl, ?_, dd, fs, v, rfl, hd, hl, q⟩
    rw [List.getElem?_set_self hi]
end
theorem heardAs_some {c : String} {vs : List D} {d : D} (e : heardAs c vs = some d) : ∃ v, c = "BadArgument" ∧ vs = [v] ∧ d = .tup [.str (cps "bad"), v, .bl true] := by
  unfold heardAs at e
  split at e
  · exact ⟨_, rfl, rfl, (Option.some.inj e).symm⟩
  · cases e
section
variable {X : Cx} {gd : Gd} {Ex : XK} {CB P : Addr} {me : E} {σ : L2.St} {H : Hp} {Q : VK}
theorem heard_tE (hcl : gd.cl "BadArgument" = some CB) (q : tE X.K gd Ex (eHeard me) σ H Q) : LamX.tLam gd.T (TTh X.K CB) (fun E => tE X.K gd E me) σ H Q := by
  obtain ⟨w, h, aσ, wk, wg, rfl, r, sl, o⟩ := q
  refine ⟨by rw [← wg]; exact r.tT, fun H1 eN T1 => ?_⟩
  have x1 := xs_tab eN
  have r1 := r.tab ⟨eN, by rw [wg]; exact T1⟩
  refine ⟨w.tab H1, h, aσ, wk, wg, rfl, r1, sl.xs x1 r, ?_⟩
  have o : Out w Ex (match me aσ h with
    | .ok _ h' => R.ok (.tup []) h'
    | .er c vs h' => match heardAs c vs with
      | some d => .ok d h'
      | none => .no
    | .no => .no) (fun d _ w' => ∀ v, Rep w' d v → Q v w'.H) := o
  cases e : me aσ h with
  | no => rw [e] at o; exact o
  | ok d h1 =>
    rw [e] at o
    exact fun w2 s2 r2 v rv => ⟨Nat.zero_le _, fun p hp => o (w2.put p (.tup [])) ((x1.trans s2).trans (xs_put hp)) (r2.put hp) _ (rep_tup r2 hp .nil)⟩
  | er c vs h1 =>
    rw [e] at o
    have o : Out w Ex (match heardAs c vs with
      | some d => R.ok d h1
      | none => .no) (fun d _ w' => ∀ v, Rep w' d v → Q v w'.H) := o
    cases ea : heardAs c vs with
    | none => rw [ea] at o; exact o.elim
    | some dd =>
      rw [ea] at o
      obtain ⟨v0, rfl, rfl, rfl⟩ := heardAs_some ea
      · intro w2 C dx s2 r2 hc hx
        have hc : w.gd.cl "BadArgument" = some C := hc
        rw [wg, hcl] at hc
        cases hc
        obtain ⟨fs, e1, e2, e3⟩ := hx
        have e2 : fs.map (·.1) = [("name" : Str)] := e2
        match fs, e2, e3 with
        | [(n, u)], e2, e3 =>
          have en : n = ("name" : Str) := by simpa using e2
          subst en
          have e3 : Reps w2 [v0] [u] := e3
          rw [Reps] at e3
          obtain ⟨x, r', ex, ru, _⟩ := e3
          cases ex
          refine ⟨rfl, dx, _, u, rfl, e1, by simp, fun p hp => ?_⟩
          refine o (w2.put p (.tup [.str "bad", u, .bl true])) ((x1.trans s2).trans (xs_put hp)) (r2.put hp) _ (rep_tup r2 hp (.cons ?_ (.cons ru (.cons (by rw [rep_bl]) .nil))))
          rw [rep_str]
          exact ⟨by decide +kernel, okL_of (by decide +kernel)⟩
end
section
variable {X : Cx} {gd : Gd} {Ex : XK} {CB g c P : Addr} {me : E} {x : Str} {k : Nat} {st : Stmt} {fd : FuncData} {cdg : Value} {params : Arguments} {body : Expr} {scope : Scope} {p lpos pos : Pos}
theorem R_heard (F : Dn X.K x x st g fd cdg) (hg : Gl X x) (hm : X.mg x = some (.ref g)) (hb : L2.Binds X.K fd ["ask"] []) (Sg : FnScope ["ask", "e"] ["ask"] (defScope st))
    (hG : LamX.GivesTo X ["ask", "e"] x (defScope st) g cdg (defBody st) "ask" (X.env.qual ++ "<lambda>") (TTh X.K CB)) (hcl : gd.cl "BadArgument" = some CB)
    (TB : LamX.TabB X.base X.mg c P) (hcode : X.env.code = .ref c) (hmT : (P, X.env.qual ++ "<lambda>") ∈ gd.T) (hu : ∀ p ∈ gd.T, p.1 = P → p.2 = X.env.qual ++ "<lambda>") (hr : Room (k + 2) X.A) (L : LamX.LamS X.env.scope scope) (hdef : defaultsOf params X.env = ([], []))
    (hbind : ∀ (q : Str) (cl : List (Str × Addr)) (pm cv ctv : Value), bindArgs (PySem.W.kla_fn "<lambda>" q params body scope cl pm cv ctv) ⟨[], []⟩ = pure [])
    (hbody : ∀ (A : Around) (outer : List Env) (s : Shared) (H : Hp) (E : XK) (f c' : Addr), Room k (A.deeper (LamX.lamEnv X scope s.heap.objs.size f c')) → PE (LamX.lamCx X A outer s H E scope f c') body (tE X.K gd E me))
    (hdb : (x == ("__debug__" : Str)) = false := by decide) : PE X (.Call (.Name x p) [.Lambda params body scope lpos] [] pos) (tE X.K gd Ex (eHeard me)) := by
  obtain ⟨oc, od, kV, doc, pm, an, ct, osl, rfl, lk, hcd⟩ := F.ex
  exact PE.imp (LamX.pe_lamcall hg hm F.kp lk hcd hb Sg rfl (Sg.par _ (by simp) |>.elim .inl fun h => .inr (.inl h)) hG TB hcode hmT hu hr L hdef hbind hbody hdb) fun σ H Q h => heard_tE hcl h
end
end Cf
set_option Elab.async false
set_option linter.all false
set_option maxRecDepth 100000
set_option maxHeartbeats 2000000
/-! CfP: isinstance, join, count, [::-1], a written dict. -/
namespace Cf
open PySem PySem.Spec PyProof.Rows L2

def Ty.nm : Ty → String
  | .int => "int" | .bool => "bool" | .str => "str" | .tuple => "tuple" | .list => "list" | .dict => "dict" | .own c => c
def tyNm : D → Option String
  | .non => some "NoneType" | .bl _ => some "bool" | .int _ => some "int" | .str _ => some "str" | .tup _ => some "tuple" | .lst _ => some "list"
  | _ => none
def Ty.blt : Ty → Bool
  | .own _ => false
  | _ => true
theorem tyNm_ask {d : D} (h : askable d = true) : ∃ n, tyNm d = some n := by cases d <;> first | exact ⟨_, rfl⟩ | cases h
theorem kit_d {d : D} {n : String} {t : Ty} (h : tyNm d = some n) (ht : t.blt = true) : kitB n t.nm = some (isTy d t) := by
  cases d <;> cases h <;> cases t <;> first | exact Bool.noConfusion ht | (simp only [isTy, Ty.nm]; decide +kernel)
theorem tyX_of {K : PySem.W.Frag} {w : Wd} {d : D} {n : String} {v : V} (wk : w.K = K) (rv : Rep w d v) (h : tyNm d = some n) : TyX K w.H v (.type n) := by
  subst wk
  cases d with
  | non => cases h; rw [Rep] at rv; subst rv; exact .base .non
  | bl b => cases h; rw [Rep] at rv; subst rv; exact .base (.bl b)
  | int b => cases h; rw [Rep] at rv; subst rv; exact .base (.int b)
  | str b => cases h; rw [Rep] at rv; obtain ⟨rfl, _⟩ := rv; exact .base (.str _)
  | tup b =>
    cases h; rw [Rep] at rv
    obtain ⟨a, xs, rfl, t, _⟩ := rv
    exact .base (.tup t.1)
  | lst b =>
    cases h; rw [Rep] at rv
    obtain ⟨a, xs, rfl, t, _⟩ := rv
    rcases t with ⟨t | ⟨o, t⟩, _⟩ | (t | ⟨o, t⟩) | ⟨o, its, n, e, c, _⟩
    · exact .base (.lst t)
    · exact .base (.frz t)
    · cases t
    · cases t
    · exact .kList e c
  | _ => cases h
theorem strs_reps {w : Wd} : ∀ {ds : List D} {xs : List V} {ys : List (List Nat)}, Reps w ds xs → strsOf ds = some ys → xs = ys.map (fun y => V.str ⟨y.toArray⟩) ∧ ∀ y ∈ ys, SOk y
  | [], _, _, r, e => by rw [Reps] at r; subst r; cases e; exact ⟨rfl, fun y h => nomatch h⟩
  | d :: ds, _, ys, r, e => by
    rw [Reps] at r
    obtain ⟨x, xr, rfl, rd, rr⟩ := r
    cases d with
    | str s =>
      have e : (strsOf ds).map (s :: ·) = some ys := e
      obtain ⟨zs, e1, e2⟩ := Option.map_eq_some_iff.mp e
      subst e2
      rw [rep_str] at rd
      obtain ⟨rfl, ok⟩ := rd
      obtain ⟨rfl, oks⟩ := strs_reps rr e1
      exact ⟨rfl, fun y hy => by
        rcases List.mem_cons.mp hy with h | h
        · rw [h]; exact ok
        · exact oks y h⟩
    | _ => cases e
theorem joinL_len (z : List Nat) : ∀ ys : List (List Nat), (joinL z ys).length ≤ (ys.map (·.length)).sum + ys.length * z.length
  | [] => Nat.zero_le _
  | [x] => by show x.length ≤ _; simp
  | x :: y :: r => by
    have ih := joinL_len z (y :: r)
    show (x ++ z ++ joinL z (y :: r)).length ≤ _
    rw [List.length_append, List.length_append]
    simp only [List.map_cons, List.sum_cons, List.length_cons] at ih ⊢
    rw [Nat.add_mul, Nat.one_mul]
    omega
theorem joinL_mem {z : List Nat} {c : Nat} : ∀ {ys : List (List Nat)}, c ∈ joinL z ys → c ∈ z ∨ ∃ y ∈ ys, c ∈ y
  | [], h => nomatch h
  | [x], h => .inr ⟨x, List.mem_cons_self, h⟩
  | x :: y :: r, h => by
    have h : c ∈ x ++ z ++ joinL z (y :: r) := h
    rcases List.mem_append.mp h with h | h
    · rcases List.mem_append.mp h with h | h
      · exact .inr ⟨x, List.mem_cons_self, h⟩
      · exact .inl h
    · rcases joinL_mem h with h | ⟨u, hu, h⟩
      · exact .inl h
      · exact .inr ⟨u, List.mem_cons_of_mem _ hu, h⟩
theorem joinL_flat (z : List Nat) : ∀ (y : List Nat) (ys : List (List Nat)), joinL z (y :: ys) = y ++ ys.flatMap fun p => z ++ p
  | y, [] => by show y = _; simp
  | y, x :: r => by
    show y ++ z ++ joinL z (x :: r) = _
    rw [joinL_flat z x r, List.flatMap_cons, List.append_assoc, List.append_assoc]
theorem glued_flat (z : List Nat) : ∀ (ps : List (List Nat)) (a : Array Nat), ((ps.map fun y => (⟨y.toArray⟩ : Str)).foldl (fun acc p => acc ++ (⟨z.toArray⟩ : Str).cps ++ p.cps) a).toList = a.toList ++ ps.flatMap fun p => z ++ p
  | [], a => by simp
  | y :: r, a => by
    rw [List.map_cons, List.foldl_cons, glued_flat z r, List.flatMap_cons]
    simp
theorem join_is (z : List Nat) (ys : List (List Nat)) : V.str (Txt.join ⟨z.toArray⟩ (ys.map fun y => ⟨y.toArray⟩)) = sv (joinL z ys) := by
  unfold sv
  congr 1
  unfold Txt.join Builtin.Str.glued
  congr 1
  apply Array.ext'
  cases ys with
  | nil => rfl
  | cons y r =>
    rw [joinL_flat]
    have q := glued_flat z r y.toArray
    simp only [List.map_cons, List.drop_succ_cons, List.drop_zero, List.headD_cons]
    rw [q]
theorem cnt_is (c : Nat) : ∀ z : List Nat, cnt c z = (z.count c : Nat)
  | [] => rfl
  | n :: r => by
    rw [cnt_cons, cnt_is c r, List.count_cons]
    by_cases h : n = c
    · subst h; simp; omega
    · simp [h]
theorem count_is1 (z : List Nat) (c : Nat) : V.int (Txt.count ⟨z.toArray⟩ ⟨#[c]⟩) = V.int (z.count c) := by
  rw [count_is]
  have q := cnt_is c z
  unfold cnt at q
  congr 1
section
variable {X : Cx} {gd : Gd} {Ex : XK} {e o i : Expr} {me mo mi : E} {p p2 p3 pos apos : Pos} {k : Nat}
/-- isinstance(x, T) -/
theorem R_isi {t : Ty} {n : String} (ht : t.blt = true) (hn : n = t.nm) (hg : Gl X "isinstance") (hm : X.mg "isinstance" = none) (he : PE X e (tE X.K gd Ex me)) (gT : Gl X (Str.ofString n)) (mT : X.mg (Str.ofString n) = none) (bT : bootBuiltins (Str.ofString n) = some (.type n))
    (hnn : Str.ofString n ≠ "__name__") (hnd : (Str.ofString n == ("__debug__" : Str)) = false)
    (hs : starEach [e, .Name (Str.ofString n) p2] X.env = (false, eval e X.env) :: starEach [.Name (Str.ofString n) p2] X.env := by rfl) :
    PE X (.Call (.Name "isinstance" p) [e, .Name (Str.ofString n) p2] [] pos) (tE X.K gd Ex (e1 (pIsi [t]) me)) := by
  refine PE.imp (pe_callB call_isi hg hm boot_isinstance (pa_cons he (pa_cons (pe_bltn (v := .ty n) gT mT bT rfl hnn hnd) pa_nil) hs) (by decide) (by decide) hs rfl) fun σ H Q h => ?_
  obtain ⟨w, h, aσ, wk, wg, rfl, r, s, o⟩ := h
  refine tE_bind wk wg r s o fun d h1 w1 v s1 k1 g1 r1 sl1 rv o1 => ?_
  obtain ⟨ha, o1⟩ := out_guard o1
  obtain ⟨tn, htn⟩ := tyNm_ask ha
  have hk := kit_d htn ht
  rw [← hn] at hk
  refine ⟨v, .ty n, .type tn, .type n, isTy d t, rfl, .ty n, tyX_of k1 rv htn, kit_ty hk, ?_⟩
  exact out_val o1 r1 (by rw [rep_bl]; simp)
/-- isinstance(x, (T, U)) -/
theorem R_isi2 {t t2 : Ty} {n n2 : String} {kk : Nat} (ht : t.blt = true) (hn : n = t.nm) (ht2 : t2.blt = true) (hn2 : n2 = t2.nm) (hg : Gl X "isinstance") (hm : X.mg "isinstance" = none) (he : PE X e (tE X.K gd Ex me)) (gT : Gl X (Str.ofString n)) (mT : X.mg (Str.ofString n) = none) (bT : bootBuiltins (Str.ofString n) = some (.type n))
    (gT2 : Gl X (Str.ofString n2)) (mT2 : X.mg (Str.ofString n2) = none) (bT2 : bootBuiltins (Str.ofString n2) = some (.type n2))
    (hnn : Str.ofString n ≠ "__name__") (hnd : (Str.ofString n == ("__debug__" : Str)) = false) (hnn2 : Str.ofString n2 ≠ "__name__") (hnd2 : (Str.ofString n2 == ("__debug__" : Str)) = false)
    (hs : starEach [e, .Tuple [.Name (Str.ofString n) p2, .Name (Str.ofString n2) p3] kk apos] X.env = (false, eval e X.env) :: starEach [.Tuple [.Name (Str.ofString n) p2, .Name (Str.ofString n2) p3] kk apos] X.env := by rfl) :
    PE X (.Call (.Name "isinstance" p) [e, .Tuple [.Name (Str.ofString n) p2, .Name (Str.ofString n2) p3] kk apos] [] pos) (tE X.K gd Ex (e1 (pIsi [t, t2]) me)) := by
  refine PE.imp (pe_callB call_isiT hg hm boot_isinstance (pa_cons he (pa_cons (pe_tup (pa_cons (pe_bltn (v := .ty n) gT mT bT rfl hnn hnd) (pa_cons (pe_bltn (v := .ty n2) gT2 mT2 bT2 rfl hnn2 hnd2) pa_nil))) pa_nil) hs) (by decide) (by decide) hs rfl) fun σ H Q h => ?_
  obtain ⟨w, h, aσ, wk, wg, rfl, r, s, o⟩ := h
  refine tE_bind wk wg r s o fun d h1 w1 v s1 k1 g1 r1 sl1 rv o1 => ?_
  obtain ⟨ha, o1⟩ := out_guard o1
  obtain ⟨tn, htn⟩ := tyNm_ask ha
  have hk := kit_d htn ht
  have hk2 := kit_d htn ht2
  rw [← hn] at hk
  rw [← hn2] at hk2
  refine ⟨by show 2 ≤ sizeLine; decide, fun q hq => ?_⟩
  have x2 := xs_put (o := .tup [.ty n, .ty n2]) hq
  refine ⟨v, q, [.ty n, .ty n2], .type tn, [.type n, .type n2], isTy d t || isTy d t2, rfl, upd_same, .cons (.ty n) (.cons (.ty n2) .nil), tyX_of (w := w1.put q _) k1 (Rep.step x2.step _ _ rv) htn, ?_, ?_⟩
  · refine kitAny_cons (kit_ty hk) (fun z => ?_) (fun z => by rw [z, Bool.true_or])
    refine kitAny_cons (kit_ty hk2) (fun z2 => by rw [z, z2]; exact kitAny_nil) (fun z2 => by rw [z2, Bool.or_true])
  · exact o1 (w1.put q _) x2 (r1.put hq) _ (by rw [rep_bl]; simp)
section
variable {M : Model} {A : Around} {E : Value → Shared → Prop} {env : Env} {s : Shared}
/-- a part with a step of what is no object: nothing is let go -/
theorem wp_partT {v st : Expr} {lo up : Option Expr} {p q : Pos} {T id : String} {Q : Value → Shared → Prop} (hl : typeLookup (.type T) "__getitem__" = pure (some (.builtin id)))
    (h : wpAny M A (eval v env) (fun o s₁ => wpAny M A (eval (.Slice lo up (some st) p) env) (fun i s₂ => (∀ r, letTemporaryGo v o r = pure ()) ∧ s₂.TypeIs o T ∧ wpAny M A (getItem o i) Q E s₂) E s₁) E s) :
    wpAny M A (eval (.Subscript v (.Slice lo up (some st) p) q) env) Q E s := by
  rw [eval_Subscript]
  refine wpAny_bind (wpAny_mono h (fun o s₁ h₁ => ?_) fun _ _ x => x)
  refine wpAny_bind (wpAny_holding (wpAny_mono h₁ (fun i s₂ h₂ => ?_) fun _ _ x => x))
  obtain ⟨ht, hT, hg⟩ := h₂
  refine wpAny_bind (wpAny_standAt ?_)
  have hz : wpAny M A (operate [o, i] (getItem o i)) (fun r s₃ => wpAny M A (do
      letTemporaryGo v o r
      pure r) Q E s₃) E s₂ := by
    refine wpAny_operating (wpAny_mono hg (fun r s₃ h₃ => ?_) fun _ _ x => x)
    exact wpAny_bind (wpAny_of_eq (ht r) (wpAny_pure h₃))
  first
    | (refine wpAny_bind ?_; rw [getitemInPython_of_ne hT.not_modules]; refine wpAny_bind (wpAny_specialOf hT hl ?_); first | exact wpAny_pure (wpAny_bind hz) | exact wpAny_bind (wpAny_pure (wpAny_bind hz)) | exact wpAny_bind hz)
    | (refine wpAny_bind (wpAny_specialOf hT hl ?_); first | exact wpAny_bind (wpAny_pure (wpAny_bind hz)) | exact wpAny_bind hz)
end
/-- a text turned round -/
theorem R_rev (he : PE X e (tE X.K gd Ex me)) : PE X (.Subscript e (.Slice none none (some (.UnaryOp .USub (.Constant (.int 1) k p) p2)) p3) pos) (tE X.K gd Ex (e1 pRev me)) := by
  refine ⟨fun pins s σ H Q I h => ?_⟩
  obtain ⟨w, h, aσ, wk, wg, rfl, r, sl, o⟩ := h
  refine wp_partT (T := "str") F.slot_str_getitem.lookup ?_
  refine thn (he.run pins s σ w.H (fun v H1 => ∃ z : List Nat, v = sv z ∧ SOk z ∧ ∀ t : V, t = sv z.reverse → Q t H1) I ?_) fun v s1 ⟨x, H1, I1, r1, z, ex, ok, q1⟩ => ?_
  · refine tE_bind wk wg r sl o fun d h1 w1 v s1 k1 g1 r1 sl1 rv o1 => ?_
    cases d with
    | str z =>
      rw [rep_str] at rv
      obtain ⟨rfl, ok⟩ := rv
      exact ⟨z, rfl, ok, fun t ht => out_val (show Out w1 Ex (ret (D.str z.reverse) h1) _ from o1) r1 (by rw [rep_str]; exact ⟨ht, by rw [List.length_reverse]; exact ok.len, fun c hc => ok.ok c (List.mem_reverse.mp hc)⟩)⟩
    | _ => exact o1.elim
  subst ex
  obtain ⟨t1, rfl⟩ := r1
  have hst : PO X (some (.UnaryOp .USub (.Constant (.int 1) k p) p2)) (tPart (tUn (rU fun i => .int (-i)) (tC (.int 1)))) := po_some (pe_un un_neg pe_int)
  refine wpAny_Slice (thn (po_none.run pins s1 σ H1 (fun o H2 => o = none ∧ H2 = H1) I1 ⟨rfl, rfl⟩) fun vl s2 ⟨l, H2, I2, pl, el, e2⟩ => ?_)
  subst el e2
  refine thn (po_none.run pins s2 σ H2 (fun o H3 => o = none ∧ H3 = H2) I2 ⟨rfl, rfl⟩) fun vu s3 ⟨u, H3, I3, pu, eu, e3⟩ => ?_
  subst eu e3
  refine thn (hst.run pins s3 σ H3 (fun o H4 => o = some (-1) ∧ H4 = H3) I3 ⟨1, rfl, -1, rfl, rfl, rfl⟩) fun vs s4 ⟨o, H4, I4, ps, eo, e4⟩ => ?_
  subst eo e4
  obtain ⟨l1, rfl, el1⟩ := IsPart.raw pl
  obtain ⟨l2, rfl, el2⟩ := IsPart.raw pu
  obtain ⟨l3, rfl, el3⟩ := IsPart.raw ps
  have I5 : Inv X pins σ H4 { s4 with heap := s4.heap.push { cls := .type "slice", data := .fields #[partValue l1, partValue l2, partValue l3] } } := I4.kept (t' := s4.toks) fun b ob q => Heap.get?_push_of_some _ q
  refine ⟨fun r => by cases e <;> rfl, typeIs_str _ _ _, wpAny_getItem_str_slice (l := l1) (u := l2) (st := l3) ⟨_, Heap.get?_push_size _ rfl, rfl, rfl⟩ ?_ ?_⟩
  · rw [el3]; rfl
  · unfold sliceMade slicePicked
    rw [el1, el2, el3]
    have hp : Builtin.Str.strSliceIndices none none (-1) (⟨z.toArray⟩ : Str).length = (List.range z.length).reverse := by
      show PySem.sliceRange (((⟨z.toArray⟩ : Str).length : Int) - 1) (-1) (-1) = _
      rw [show (⟨z.toArray⟩ : Str).length = z.length from by show z.toArray.size = _; simp, PySem.W.krv_sliceRange, PySem.W.krv_range]
    have hc : (((some (-1 : Int)).getD 1 == 1 && (Builtin.Str.strSliceIndices none none ((some (-1 : Int)).getD 1) (⟨z.toArray⟩ : Str).length).length == (⟨z.toArray⟩ : Str).length) = true) = False := by simp
    have e : ((Builtin.Str.strSliceIndices none none ((some (-1 : Int)).getD 1) (⟨z.toArray⟩ : Str).length).filterMap ((⟨z.toArray⟩ : Str).cps[·]?)) = z.reverse := by
      show ((Builtin.Str.strSliceIndices none none (-1) (⟨z.toArray⟩ : Str).length).filterMap (z.toArray[·]?)) = z.reverse
      rw [hp, List.filterMap_reverse]
      have q := PySem.W.krv_all z.toArray
      rw [List.size_toArray] at q
      rw [q]
    rw [if_neg (by rw [hc]; exact id), e]
    exact ⟨by show z.reverse.toArray.size ≤ _; rw [List.size_toArray, List.length_reverse]; exact ok.len, sv z.reverse, H4, I5.tok _, ⟨_, rfl⟩, q1 _ rfl⟩
/-- sep.join(xs) -/
theorem R_join (ho : PE X o (tE X.K gd Ex mo)) (he : PE X e (tE X.K gd Ex me)) (hs : starEach [e] X.env = [(false, eval e X.env)] := by rfl) (hbase : attributeBase o "join" X.env (eval o X.env) = eval o X.env := by rfl) (hline : (apos.endLine == pos.line) = true := by rfl) :
    PE X (.Call (.Attribute o "join" apos) [e] [] pos) (tE X.K gd Ex (eS2 pJoin mo me)) := by
  refine PE.imp (pe_join ho he hs hbase hline) fun σ H Q h => ?_
  obtain ⟨w, h, aσ, wk, wg, rfl, r, s, o⟩ := h
  refine tE_bind wk wg r s o fun d h1 w1 v s1 k1 g1 r1 sl1 rv o1 => ?_
  obtain ⟨hd, o1⟩ := out_guard o1
  cases d with
  | str z =>
    rw [rep_str] at rv
    obtain ⟨rfl, ok⟩ := rv
    refine ⟨⟨_, rfl⟩, tE_bind k1 g1 r1 sl1 o1 fun d2 h2 w2 v2 s2 k2 g2 r2 sl2 rv2 o2 => ?_⟩
    unfold pJoin at o2
    cases es : (seqOf d2).bind strsOf with
    | none => rw [es] at o2; exact o2.elim
    | some ys =>
      rw [es] at o2
      obtain ⟨hl, o2⟩ := out_guard (a := ret (D.str (joinL z ys))) o2
      obtain ⟨ds, e1, e2⟩ := Option.bind_eq_some_iff.mp es
      obtain ⟨q, xs, rfl, hsq, rs⟩ : ∃ q xs, v2 = .ref q ∧ (SqL X.K w2.H q xs ∨ SqT X.K w2.H q xs) ∧ Reps w2 ds xs := by
        cases d2 with
        | tup _ => cases e1; rw [rep_tup_iff] at rv2; obtain ⟨q, xs, rfl, t, r⟩ := rv2; exact ⟨q, xs, rfl, .inr (k2 ▸ t.sq), r⟩
        | lst _ => cases e1; rw [rep_lst_iff] at rv2; obtain ⟨q, xs, rfl, t, r⟩ := rv2; exact ⟨q, xs, rfl, .inl (k2 ▸ t.sq), r⟩
        | _ => cases e1
      obtain ⟨ex, oks⟩ := strs_reps rs e2
      subst ex
      have hlen : (ys.map fun y => (⟨y.toArray⟩ : Str)).map (·.length) = ys.map (·.length) := by
        rw [List.map_map]
        apply List.map_congr_left
        intro y _
        show y.toArray.size = y.length
        simp
      refine ⟨_, q, ys.map fun y => ⟨y.toArray⟩, rfl, rfl, by rw [List.map_map]; exact hsq, ?_, ?_⟩
      · rw [hlen, List.length_map]
        have e : (⟨z.toArray⟩ : Str).length = z.length := by show z.toArray.size = _; simp
        rw [e]
        exact Nat.le_trans hl (by decide)
      · rw [join_is]
        refine out_val o2 r2 ?_
        rw [rep_str]
        refine ⟨rfl, Nat.le_trans (joinL_len z ys) (Nat.le_trans hl (by decide)), fun c hc => ?_⟩
        rcases joinL_mem hc with h | ⟨y, hy, h⟩
        · exact ok.ok c h
        · exact (oks y hy).ok c h
  | _ => cases hd
/-- how often a sign stands in a text -/
theorem R_count (ho : PE X o (tE X.K gd Ex mo)) (he : PE X e (tE X.K gd Ex me)) (hs : starEach [e] X.env = [(false, eval e X.env)] := by rfl) (hbase : attributeBase o "count" X.env (eval o X.env) = eval o X.env := by rfl) (hline : (apos.endLine == pos.line) = true := by rfl) :
    PE X (.Call (.Attribute o "count" apos) [e] [] pos) (tE X.K gd Ex (eS2 pCount mo me)) := by
  refine PE.imp (pe_m1 F.slot_str_count F.type_str_count mt_count ho he hs hbase hline) fun σ H Q h => ?_
  obtain ⟨w, h, aσ, wk, wg, rfl, r, s, o⟩ := h
  refine tE_bind wk wg r s o fun d h1 w1 v s1 k1 g1 r1 sl1 rv o1 => ?_
  obtain ⟨hd, o1⟩ := out_guard o1
  cases d with
  | str z =>
    rw [rep_str] at rv
    obtain ⟨rfl, ok⟩ := rv
    refine ⟨⟨_, rfl⟩, tE_bind k1 g1 r1 sl1 o1 fun d2 h2 w2 v2 s2 k2 g2 r2 sl2 rv2 o2 => ?_⟩
    match d2, rv2, o2 with
    | .str [c], rv2, o2 =>
      rw [rep_str] at rv2
      obtain ⟨rfl, ok2⟩ := rv2
      refine ⟨_, ⟨#[c]⟩, rfl, rfl, ?_⟩
      rw [count_is1]
      exact out_val (show Out w2 Ex (ret (D.int (z.count c)) h2) _ from o2) r2 (by rw [rep_int])
    | .str [], _, o2 => exact o2.elim
    | .str (_ :: _ :: _), _, o2 => exact o2.elim
    | .non, _, o2 => exact o2.elim
    | .bl _, _, o2 => exact o2.elim
    | .int _, _, o2 => exact o2.elim
    | .tup _, _, o2 => exact o2.elim
    | .lst _, _, o2 => exact o2.elim
    | .dct _ _ _, _, o2 => exact o2.elim
    | .obj _ _ _, _, o2 => exact o2.elim
    | .ref _, _, o2 => exact o2.elim
  | _ => cases hd
end
end Cf
set_option Elab.async false
set_option linter.all false
set_option maxRecDepth 100000
set_option maxHeartbeats 2000000
/-! CfQ: a written dict from texts to numbers. -/
namespace Cf
open PySem PySem.Spec PyProof.Rows L2

/-- the entries of a written dict, as a table -/
def tabE : List DictEntry → Option (List (List Nat × Int))
  | [] => some []
  | e :: r => match e.key, e.val, e.refKey with
    | .str x _, .int i _, false => (tabE r).map ((x.cps.toList, i) :: ·)
    | _, _, _ => none
theorem isStr_cps (x z : Str) (t : Tok) : (Value.str x t).isStr z = (z.cps.toList == x.cps.toList) := by
  rw [show (Value.str x t).isStr z = Value.isStrOf z (.str x t) from PySem.W.isStr_of z (.str x t)]
  rw [Bool.eq_iff_iff]
  constructor
  · intro h
    obtain ⟨u, e⟩ := Value.isStrOf_shape (x := z) (v := .str x t) h
    cases e
    simp
  · intro h
    have e : z.cps.toList = x.cps.toList := by simpa using h
    have e2 : z = x := by
      obtain ⟨a⟩ := z; obtain ⟨b⟩ := x
      congr 1
      exact Array.ext' e
    subst e2
    simp [Value.isStrOf]
theorem tabE_look : ∀ {es : List DictEntry} {t : List (List Nat × Int)} (z : Str), tabE es = some t → (es.any (·.refKey) = false) ∧
    match t.lookup z.cps.toList with
    | some i => ∃ e tk, es.find? (·.key.isStr z) = some e ∧ e.val = .int i tk
    | none => es.find? (·.key.isStr z) = none
  | [], t, z, h => by cases h; exact ⟨rfl, rfl⟩
  | e :: r, t, z, h => by
    unfold tabE at h
    split at h
    · rename_i x tk i ti hk hv hr
      obtain ⟨t', e1, e2⟩ := Option.map_eq_some_iff.mp h
      subst e2
      obtain ⟨ih1, ih2⟩ := tabE_look z e1
      refine ⟨by rw [List.any_cons, hr, ih1]; rfl, ?_⟩
      rw [List.lookup_cons, List.find?_cons]
      have q : e.key.isStr z = (z.cps.toList == x.cps.toList) := by
        rw [hk]; exact isStr_cps x z tk
      rw [q]
      cases hb : z.cps.toList == x.cps.toList with
      | true => exact ⟨_, ti, rfl, hv⟩
      | false => exact ih2
    · cases h
structure TabD (K : PySem.W.Frag) (w : World) (d : Addr) (t : List (List Nat × Int)) : Prop where
  kd : ∃ es n, KDict K w d es n ∧ tabE es.toList = some t
theorem TabD.look {K : PySem.W.Frag} {w : World} {d : Addr} {t : List (List Nat × Int)} (T : TabD K w d t) (z : Str) : ∃ es n r, KDict K w d es n ∧ PySem.W.nsIn K d z = some r ∧ r.isSome = (t.lookup z.cps.toList).isSome ∧ ∀ i, t.lookup z.cps.toList = some i → ∃ tk, r = some (.int i tk) := by
  obtain ⟨es, n, D, e⟩ := T.kd
  obtain ⟨h1, h2⟩ := tabE_look z e
  have hn : PySem.W.nsIn K d z = match es.toList.find? (·.key.isStr z) with
      | some e => some (some e.val)
      | none => if es.toList.any (·.refKey) then none else some none := by
    unfold PySem.W.nsIn
    rw [D.at_] <;> rfl
  cases hl : t.lookup z.cps.toList with
  | some i =>
    rw [hl] at h2
    obtain ⟨en, tk, h3, h4⟩ := h2
    rw [h3] at hn
    exact ⟨es, n, some en.val, D, hn, rfl, fun j hj => by cases hj; exact ⟨tk, by rw [h4]⟩⟩
  | none =>
    rw [hl] at h2
    rw [h2, h1] at hn
    exact ⟨es, n, none, D, hn, rfl, fun j hj => by cases hj⟩
section
variable {X : Cx} {gd : Gd} {Ex : XK} {e : Expr} {me : E} {x : Str} {d : Addr} {t : List (List Nat × Int)} {p pos : Pos}
theorem R_notInTab (T : TabD X.K X.w d t) (hg : Gl X x) (hm : X.mg x = some (.ref d)) (he : PE X e (tE X.K gd Ex me)) (hd : (x == ("__debug__" : Str)) = false) (hmk : behindInMarks .NotIn (.Name x p) = false) : PE X (.Compare e [.NotIn] [.Name x p] pos) (tE X.K gd Ex (e1 (pNotInTab t) me)) := by
  obtain ⟨es, n, D, _⟩ := T.kd
  refine PE.imp (pe_cmpR (op_notIn_kd D) he (pe_glob (v := .ref d) hg hm rfl hd) hmk) fun σ H Q h => ?_
  obtain ⟨w, h, aσ, wk, wg, rfl, r, s, o⟩ := h
  refine tE_bind wk wg r s o fun dv h1 w1 v s1 k1 g1 r1 sl1 rv o1 => ?_
  cases dv with
  | str z =>
    rw [rep_str] at rv
    obtain ⟨rfl, ok⟩ := rv
    obtain ⟨_, _, r0, _, e1, e2, _⟩ := T.look ⟨z.toArray⟩
    refine ⟨_, r0, rfl, rfl, e1, out_val (show Out w1 Ex (ret (Cf.D.bl (!(t.lookup z).isSome)) h1) _ from o1) r1 ?_⟩
    rw [rep_bl, e2]
  | _ => exact o1.elim
theorem R_inTab (T : TabD X.K X.w d t) (hg : Gl X x) (hm : X.mg x = some (.ref d)) (he : PE X e (tE X.K gd Ex me)) (hd : (x == ("__debug__" : Str)) = false) (hmk : behindInMarks .In (.Name x p) = false) : PE X (.Compare e [.In] [.Name x p] pos) (tE X.K gd Ex (e1 (pInTab t) me)) := by
  obtain ⟨es, n, D, _⟩ := T.kd
  refine PE.imp (pe_cmpR (op_in_kd D) he (pe_glob (v := .ref d) hg hm rfl hd) hmk) fun σ H Q h => ?_
  obtain ⟨w, h, aσ, wk, wg, rfl, r, s, o⟩ := h
  refine tE_bind wk wg r s o fun dv h1 w1 v s1 k1 g1 r1 sl1 rv o1 => ?_
  cases dv with
  | str z =>
    rw [rep_str] at rv
    obtain ⟨rfl, ok⟩ := rv
    obtain ⟨_, _, r0, _, e1, e2, _⟩ := T.look ⟨z.toArray⟩
    refine ⟨_, r0, rfl, rfl, e1, out_val (show Out w1 Ex (ret (Cf.D.bl (t.lookup z).isSome) h1) _ from o1) r1 ?_⟩
    rw [rep_bl, e2]
  | _ => exact o1.elim
theorem T_notInTab (T : TabD X.K X.w d t) (hg : Gl X x) (hm : X.mg x = some (.ref d)) (he : PE X e (tE X.K gd Ex me)) (hd : (x == ("__debug__" : Str)) = false) (hmk : behindInMarks .NotIn (.Name x p) = false) : PT X (.Compare e [.NotIn] [.Name x p] pos) (tT X.K gd Ex (tOf (e1 (pNotInTab t) me))) := by
  obtain ⟨es, n, D, _⟩ := T.kd
  refine PT.imp (pt_cmpR (op_notIn_kd D) he (pe_glob (v := .ref d) hg hm rfl hd) hmk) fun σ H Q h => ?_
  obtain ⟨w, h, aσ, wk, wg, rfl, r, s, o⟩ := h
  have o : Out w Ex ((me aσ >>= fun x => pNotInTab t x >>= pTruth) h) (fun b _ w' => Q b w'.H) := by
    have z : (tOf (e1 (pNotInTab t) me) aσ) h = (me aσ >>= fun x => pNotInTab t x >>= pTruth) h := by
      show ((me aσ h).next fun x => pNotInTab t x).next pTruth = (me aσ h).next fun x h1 => (pNotInTab t x h1).next pTruth
      cases me aσ h <;> rfl
    rw [← z]; exact o
  unfold L2.tTest L2.tOp
  refine tE_bind wk wg r s o fun dv h1 w1 v s1 k1 g1 r1 sl1 rv o1 => ?_
  cases dv with
  | str z =>
    rw [rep_str] at rv
    obtain ⟨rfl, ok⟩ := rv
    obtain ⟨_, _, r0, _, e1, e2, _⟩ := T.look ⟨z.toArray⟩
    refine ⟨_, r0, rfl, rfl, e1, _, rfl, ?_⟩
    have q := out_ret (show Out w1 Ex (ret (!(t.lookup z).isSome) h1) _ from o1) r1
    rw [e2]
    exact q
  | _ => exact o1.elim
theorem ix_kd {es : Array DictEntry} {n : Nat} (D : KDict X.K X.w d es n) : IxR X (fun x y H Q => ∃ (z : Str) (u0 : Value) (v0 : V), x = .ref d ∧ y = .str z ∧ PySem.W.nsIn X.K d z = some (some u0) ∧ RelV v0 u0 ∧ Q v0 H) := by
  intro value slice pins s σ H x y v u Q I rx ry h hs
  have h' := h
  obtain ⟨z, u0, v0, rfl, rfl, e, r, q⟩ := h'
  have rx' := rx
  cases rx'
  exact tail_any (ops := [.ref d, u]) (kd_type D I) (PySem.slot_dict_getitem.lookup) (op_item_kd D pins s σ H _ _ _ u Q I rx ry h) hs
theorem R_getTab (T : TabD X.K X.w d t) (hg : Gl X x) (hm : X.mg x = some (.ref d)) (he : PE X e (tE X.K gd Ex me)) (hd : (x == ("__debug__" : Str)) = false) (hs : PlainIx e) : PE X (.Subscript (.Name x p) e pos) (tE X.K gd Ex (e1 (pGetTab t) me)) := by
  obtain ⟨es, n, D, _⟩ := T.kd
  refine PE.imp (pe_ix (ix_kd D) (pe_glob (v := .ref d) hg hm rfl hd) he hs) fun σ H Q h => ?_
  obtain ⟨w, h, aσ, wk, wg, rfl, r, s, o⟩ := h
  unfold L2.tOp L2.tC
  refine tE_bind wk wg r s o fun dv h1 w1 v s1 k1 g1 r1 sl1 rv o1 => ?_
  cases dv with
  | str z =>
    rw [rep_str] at rv
    obtain ⟨rfl, ok⟩ := rv
    obtain ⟨_, _, r0, _, e1, e2, e3⟩ := T.look ⟨z.toArray⟩
    obtain ⟨dd, e4, o2⟩ := out_opt (show Out w1 Ex ((ofOpt ((t.lookup z).map Cf.D.int) : M Cf.D) h1) _ from o1)
    obtain ⟨i, e5, e6⟩ := Option.map_eq_some_iff.mp e4
    subst e6
    obtain ⟨tk, rfl⟩ := e3 i e5
    exact ⟨_, _, .int i, rfl, rfl, e1, ⟨tk, rfl⟩, out_val o2 r1 (by rw [rep_int])⟩
  | _ => exact o1.elim
end
end Cf
set_option Elab.async false
set_option linter.all false
set_option maxRecDepth 100000
set_option maxHeartbeats 2000000
/-! CfW: short words for the printed derivations. -/
namespace Cf
open PySem PySem.Spec PyProof.Rows L2

section
variable {X : Cx} {gd : Gd} {Ex : XK} {a b c : Expr} {ma mb mc : E} {mt : T} {pos p2 : Pos} {x : Str}
theorem R_gstr {z : String} (hg : Gl X x) (hm : ∃ t, X.mg x = some (.str (Str.ofString z) t)) (h : okL (cps z) = true := by decide +kernel) (hd : (x == ("__debug__" : Str)) = false := by decide) : PE X (.Name x pos) (tE X.K gd Ex (eC (.str (cps z)))) := by
  obtain ⟨t, e⟩ := hm
  exact R_glob (v := .str (Str.ofString z)) hg e ⟨t, rfl⟩ (fun w => by rw [rep_str]; exact ⟨by rw [str_cps]; rfl, okL_of h⟩) hd
theorem R_gint {i : Int} (hg : Gl X x) (hm : ∃ t, X.mg x = some (.int i t)) (hd : (x == ("__debug__" : Str)) = false := by decide) : PE X (.Name x pos) (tE X.K gd Ex (eC (.int i))) := by
  obtain ⟨t, e⟩ := hm
  exact R_glob (v := .int i) hg e ⟨t, rfl⟩ (fun w => by rw [rep_int]) hd
theorem R_neg {i : Int} {j : Nat} : PE X (.UnaryOp .USub (.Constant (.int i) j p2) pos) (tE X.K gd Ex (eC (.int (-i)))) :=
  PE.imp (pe_un un_neg pe_int) fun σ H Q h => by
    obtain ⟨w, h, aσ, wk, wg, rfl, r, s, o⟩ := h
    exact ⟨i, rfl, out_val o r (by rw [rep_int])⟩
theorem T_isN {j : Nat} {p : Pos} (ha : PE X a (tE X.K gd Ex ma)) : PT X (.Compare a [.Is] [.Constant .none j p] pos) (tT X.K gd Ex (tOf (e1 pIsN ma))) := by
  refine PT.imp (pt_cmp (pc_isN ha) rfl) fun σ H Q h => ?_
  obtain ⟨w, h, aσ, wk, wg, rfl, r, s, o⟩ := h
  have o : Out w Ex ((ma aσ >>= fun x => pIsN x >>= pTruth) h) (fun b _ w' => Q b w'.H) := by
    have z : (tOf (e1 pIsN ma) aσ) h = (ma aσ >>= fun x => pIsN x >>= pTruth) h := by
      show ((ma aσ h).next fun x => pIsN x).next pTruth = (ma aσ h).next fun x h1 => (pIsN x h1).next pTruth
      cases ma aσ h <;> rfl
    rw [← z]; exact o
  unfold L2.tB L2.tIsN
  refine tE_bind wk wg r s o fun d h1 w1 v s1 k1 g1 r1 sl1 rv o1 => ?_
  refine ⟨_, rfl, ?_⟩
  rw [RelV.isNon rv]
  exact out_ret (show Out w1 Ex ((ret (isNon d) : M Bool) h1) _ from (by cases d <;> exact o1)) r1
/-- a chain of comparisons as a test -/
theorem T_val {e : Expr} {me : E} (he : PE X e (tE X.K gd Ex me)) (h : ∀ whole, isTrue e X.env whole = (do let v ← whole; standAt e.pos; holding [v] (truthy v)) := by intro _; rfl) : PT X e (tT X.K gd Ex (tOf me)) := R_tru he h
/-- nothing is promised -/
theorem S_no {st : Stmt} : PS X st (tS X.K gd Ex fun _ _ => .no) := ⟨fun pins s σ H D I h => by
  obtain ⟨w0, w1, w, h, aσ, fr, st, wk, wg, e, r, sl, o⟩ := h
  exact o.elim⟩
theorem SS_no {st : List Stmt} : PSs X st (tS X.K gd Ex fun _ _ => .no) := ⟨fun pins s σ H D I h => by
  obtain ⟨w0, w1, w, h, aσ, fr, st, wk, wg, e, r, sl, o⟩ := h
  exact o.elim⟩
end
end Cf
set_option Elab.async false
set_option linter.all false
set_option maxRecDepth 100000
set_option maxHeartbeats 2000000
/-! CfO: lists of a def's own that grow. -/
namespace Cf
open PySem PySem.Spec PyProof.Rows L2

theorem Own.inN {w : Wd} {d : D} {v : V} {t : List Addr} (h : Own w d v t) : ∀ a ∈ t, w.N a := by
  cases h with
  | lst h n r => intro b hb; rw [List.mem_singleton.mp hb]; exact n
theorem Own.step {w w' : Wd} (a : Step w w') {d : D} {v : V} {t : List Addr} (h : Own w d v t) (k : ∀ b ∈ t, w'.H b = w.H b ∧ w'.N b) : Own w' d v t := by
  cases h with
  | lst h n r =>
    obtain ⟨k1, k2⟩ := k _ (List.mem_singleton.mpr rfl)
    exact .lst (k1.trans h) k2 (Reps.step a _ _ r)
theorem free_new {w0 w : Wd} {h : List O} (fr : Fr w0 w) (r : RelH w h) {p : Addr} (hp : w.H p = none) : Free w0 p := by
  refine ⟨fun z => ?_, fun o e n t => ?_⟩
  · obtain ⟨⟨u, e, _⟩, _⟩ := r.own p (fr.n p z)
    rw [hp] at e; cases e
  · obtain ⟨e1, _⟩ := fr.keep p o e n t
    rw [hp] at e1; cases e1
theorem SlS.tidy {w0 w : Wd} {σ : L2.St} {aσ : S} (s : SlS w0 w σ aσ) : ∃ T : Nat → List Addr, (∀ (i : Nat) (d : D), aσ[i]? = some (.own d) → ∃ v, σ[i]? = some (some v) ∧ Own w d v (T i)) ∧ (∀ i j, i ≠ j → ∀ a ∈ T i, a ∉ T j) ∧ (∀ i, (T i).Nodup ∧ ∀ a ∈ T i, Free w0 a) ∧ ∀ i, ∀ a ∈ T i, w.N a := by
  obtain ⟨T, h1, h2, h3⟩ := s.own
  refine ⟨fun i => match aσ[i]? with | some (.own _) => T i | _ => [], fun i d e => ?_, fun i j n a ha hb => ?_, fun i => ?_, fun i a ha => ?_⟩
  · obtain ⟨v, e1, e2⟩ := h1 i d e
    refine ⟨v, e1, ?_⟩
    show Own w d v (match aσ[i]? with | some (.own _) => T i | _ => [])
    rw [e]; exact e2
  · have sub : ∀ {i : Nat} {a : Addr}, a ∈ (match aσ[i]? with | some (.own _) => T i | _ => []) → a ∈ T i := by
      intro i a m
      split at m
      · exact m
      · cases m
    exact h2 i j n a (sub ha) (sub hb)
  · show List.Nodup (match aσ[i]? with | some (.own _) => T i | _ => []) ∧ ∀ a ∈ (match aσ[i]? with | some (.own _) => T i | _ => []), Free w0 a
    split
    · exact h3 i
    · exact ⟨List.nodup_nil, fun _ m => nomatch m⟩
  · have ha : a ∈ (match aσ[i]? with | some (.own _) => T i | _ => []) := ha
    split at ha
    · rename_i d e
      obtain ⟨v, _, e2⟩ := h1 i _ e
      exact e2.inN a ha
    · cases ha
theorem set_val {aσ : S} {i j : Nat} {x : Sl} {d : D} (hx : ∀ d, x ≠ .val d) (e : (aσ.set i x)[j]? = some (.val d)) : j ≠ i ∧ aσ[j]? = some (.val d) := by
  by_cases hj : i = j
  · subst hj
    have hlt : i < aσ.length := by
      have := (List.getElem?_eq_some_iff.mp e).1
      rw [List.length_set] at this; exact this
    rw [List.getElem?_set_self hlt] at e
    exact absurd (Option.some.inj e) (hx d)
  · rw [List.getElem?_set_ne hj] at e
    exact ⟨Ne.symm hj, e⟩
/-- a slot gets a list of its own -/
theorem SlS.newOwn {w0 w : Wd} {h : List O} {σ : L2.St} {aσ : S} {i : Nat} {p : Addr} {ds : List D} {xs : List V} (s : SlS w0 w σ aσ) (fr : Fr w0 w) (r : RelH w h) (hp : w.H p = none) (rs : Reps w ds xs) :
    SlS w0 (w.own p (.lst xs)) (σ.set i (some (.ref p))) (aσ.set i (.own (.lst ds))) := by
  have xd := xd_own (o := .lst xs) r hp
  have ow : Own (w.own p (.lst xs)) (.lst ds) (.ref p) [p] := .lst upd_same (.inr rfl) (Reps.step xd.step _ _ rs)
  obtain ⟨T, h1, h2, h3, h4⟩ := s.tidy
  have sl := s.sl.xd xd r
  have nN : ¬ w.N p := fun z => by
    obtain ⟨⟨u, e, _⟩, _⟩ := r.own p z
    rw [hp] at e; cases e
  refine ⟨by rw [List.length_set, List.length_set]; exact s.len, fun j d e => ?_, fun j => if j = i then [p] else T j, fun j d e => ?_, fun j k n a ha hb => ?_, fun j => ?_⟩
  · obtain ⟨hj, e'⟩ := set_val (fun d z => by cases z) e
    obtain ⟨v, e1, e2⟩ := sl.val j d e'
    exact ⟨v, by rw [List.getElem?_set_ne (Ne.symm hj)]; exact e1, e2⟩
  · by_cases hj : j = i
    · subst hj
      have hlt : j < aσ.length := by
        have := (List.getElem?_eq_some_iff.mp e).1
        rw [List.length_set] at this; exact this
      rw [List.getElem?_set_self hlt] at e
      cases e
      refine ⟨.ref p, List.getElem?_set_self (by rw [s.len]; exact hlt), ?_⟩
      show Own _ _ _ (if j = j then [p] else T j)
      rw [if_pos rfl]; exact ow
    · rw [List.getElem?_set_ne (Ne.symm hj)] at e
      obtain ⟨v, e1, e2⟩ := h1 j d e
      refine ⟨v, by rw [List.getElem?_set_ne (Ne.symm hj)]; exact e1, ?_⟩
      show Own _ _ _ (if j = i then [p] else T j)
      rw [if_neg hj]; exact e2.xd xd r.own
  · have ma : a ∈ (if j = i then [p] else T j) := ha
    have mb : a ∈ (if k = i then [p] else T k) := hb
    by_cases hj : j = i
    · rw [if_pos hj, List.mem_singleton] at ma
      rw [if_neg (fun z => n (hj.trans z.symm)), ma] at mb
      exact nN (h4 k p mb)
    · rw [if_neg hj] at ma
      by_cases hk : k = i
      · rw [if_pos hk, List.mem_singleton] at mb
        rw [mb] at ma
        exact nN (h4 j p ma)
      · rw [if_neg hk] at mb
        exact h2 j k n a ma mb
  · show (if j = i then [p] else T j).Nodup ∧ ∀ a ∈ (if j = i then [p] else T j), Free w0 a
    by_cases hj : j = i
    · rw [if_pos hj]
      exact ⟨List.pairwise_singleton _ _, fun a m => by rw [List.mem_singleton] at m; subst m; exact free_new fr r hp⟩
    · rw [if_neg hj]; exact h3 j
theorem Fr.own {w0 w : Wd} {h : List O} (fr : Fr w0 w) (r : RelH w h) {p : Addr} {o : HO} (hp : w.H p = none) : Fr w0 (w.own p o) :=
  ⟨fr.k, fr.g, fun b z => .inl (fr.n b z), fr.pre, fun b u e n t => let ⟨e1, n1⟩ := fr.keep b u e n t; ⟨by show upd w.H p o b = _; rw [upd_ne (ne_of_none e1 hp)]; exact e1, n1⟩⟩
theorem Fr.wr {w0 w : Wd} (fr : Fr w0 w) {p : Addr} {o : HO} (f : Free w0 p) : Fr w0 (w.put p o) :=
  ⟨fr.k, fr.g, fr.n, fr.pre, fun b u e n t => let ⟨e1, n1⟩ := fr.keep b u e n t; ⟨by
    show upd w.H p o b = _
    rw [upd_ne (fun z => by subst z; exact f.2 u e n t)]; exact e1, n1⟩⟩
/-- what stands in an owned slot -/
theorem SlS.ownAt {w0 w : Wd} {σ : L2.St} {aσ : S} {i : Nat} {ds : List D} (s : SlS w0 w σ aσ) (e : Cf.ownAt aσ i = some ds) :
    ∃ a xs, aσ[i]? = some (.own (.lst ds)) ∧ σ[i]? = some (some (.ref a)) ∧ w.H a = some (.lst xs) ∧ w.N a ∧ Reps w ds xs ∧ Free w0 a ∧
      ∀ ys es, Reps w es ys → SlS w0 (w.put a (.lst ys)) σ (aσ.set i (.own (.lst es))) := by
  have e2 : aσ[i]? = some (.own (.lst ds)) := by
    unfold Cf.ownAt at e
    split at e
    · rename_i e1; cases e; exact e1
    · cases e
  obtain ⟨T, h1, h2, h3, h4⟩ := s.tidy
  obtain ⟨v, e3, ow⟩ := h1 i _ e2
  generalize eT : T i = Ti at ow
  cases ow with
  | @lst _ a xs hH n rs =>
    have hai : a ∈ T i := by rw [eT]; exact List.mem_singleton.mpr rfl
    refine ⟨a, xs, e2, e3, hH, n, rs, (h3 i).2 a hai, fun ys es rs2 => ?_⟩
    have stp := step_wr (o := .lst ys) n
    refine ⟨by rw [List.length_set]; exact s.len, fun j d e => ?_, T, fun j d e => ?_, h2, h3⟩
    · obtain ⟨hj, e'⟩ := set_val (fun d z => by cases z) e
      obtain ⟨u, q1, q2⟩ := s.val j d e'
      exact ⟨u, q1, Rep.step stp _ _ q2⟩
    · by_cases hj : j = i
      · subst hj
        have hlt : j < aσ.length := (List.getElem?_eq_some_iff.mp e2).1
        rw [List.getElem?_set_self hlt] at e
        cases e
        refine ⟨.ref a, e3, ?_⟩
        rw [eT]
        exact .lst upd_same n (Reps.step stp _ _ rs2)
      · rw [List.getElem?_set_ne (Ne.symm hj)] at e
        obtain ⟨u, q1, q2⟩ := h1 j d e
        refine ⟨u, q1, q2.step stp fun b hb => ⟨?_, h4 j b hb⟩⟩
        show upd w.H a _ b = w.H b
        exact upd_ne (fun z => by subst z; exact h2 j i hj b hb hai)
/-- an owned slot is let stand for good -/
theorem SlS.freeze {w0 w : Wd} {h : List O} {σ : L2.St} {aσ : S} {i : Nat} {ds : List D} (s : SlS w0 w σ aσ) (fr : Fr w0 w) (r : RelH w h) (e : Cf.ownAt aσ i = some ds) :
    ∃ w', w'.H = w.H ∧ w'.K = w.K ∧ w'.gd = w.gd ∧ Fr w0 w' ∧ Step w w' ∧ RelH w' h ∧ SlS w0 w' σ (aσ.set i (.val (.lst ds))) := by
  obtain ⟨a, xs, e2, e3, hH, n, rs, fa, _⟩ := s.ownAt e
  obtain ⟨T, h1, h2, h3, h4⟩ := s.tidy
  obtain ⟨v, e3', ow⟩ := h1 i _ e2
  have hai : a ∈ T i := by
    rw [e3] at e3'
    cases e3'
    generalize eT : T i = Ti at ow
    cases ow
    exact List.mem_singleton.mpr rfl
  obtain ⟨st, r'⟩ := r.drop (N := fun b => w.N b ∧ b ≠ a) (fun b z => z.1)
  refine ⟨{ w with N := fun b => w.N b ∧ b ≠ a }, rfl, rfl, rfl, ⟨fr.k, fr.g, fun b z => ⟨fr.n b z, fun q => by subst q; exact fa.1 z⟩, fr.pre, fr.keep⟩, st, r', by rw [List.length_set]; exact s.len, fun j d e => ?_, T, fun j d e => ?_, h2, h3⟩
  · by_cases hj : j = i
    · subst hj
      have hlt : j < aσ.length := (List.getElem?_eq_some_iff.mp e2).1
      rw [List.getElem?_set_self hlt] at e
      cases e
      refine ⟨.ref a, e3, ?_⟩
      rw [rep_lst_iff]
      exact ⟨a, xs, rfl, .inl ⟨.inl hH, fun z => z.2 rfl, (r.own a n).2⟩, Reps.step st _ _ rs⟩
    · rw [List.getElem?_set_ne (Ne.symm hj)] at e
      obtain ⟨u, q1, q2⟩ := s.val j d e
      exact ⟨u, q1, Rep.step st _ _ q2⟩
  · obtain ⟨hj, e'⟩ := set_own (fun d z => by cases z) e
    obtain ⟨u, q1, q2⟩ := h1 j d e'
    exact ⟨u, q1, q2.step st fun b hb => ⟨rfl, h4 j b hb, fun z => by subst z; exact h2 j i hj b hb hai⟩⟩

section
variable {X : Cx} {gd : Gd} {Ex : XK} {e : Expr} {es : List Expr} {me : E} {mes : List E} {ms : Ms} {pos p1 p2 apos cpos : Pos} {st : Stmt} {i : Nat} {x : Str}
/-- x = [..], a list that grows -/
theorem S_own (hN : X.N.Nodup) (hi : X.N[i]? = some x) (hx : Loc X.env.scope x) (he : PA X es (tA X.K gd Ex mes)) (hz : mes.length ≤ 1000 := by decide) (hs : swapsWith (.List es p2) (some (.Name x p1)) pos.line X.env = pure false := by rfl)
    (hf : X.fn x = true ∨ X.env.scope.names.lookup x = some .local := by first | exact .inl rfl | exact .inr rfl | assumption) : PS X (.Assign [.Name x p1] (.List es p2) pos) (tS X.K gd Ex (sOwn i mes)) := by
  refine PS.imp (ps_set hN hi hx (pe_lst he) hs hf) fun D σ H h => ?_
  obtain ⟨w0, w1, w, h, aσ, fr, st, wk, wg, rfl, r, sl, o⟩ := h
  have o : OutS w0 w1 Ex D ((evs mes aσ h).stmt fun ds h' => .nx (aσ.set i (.own (.lst ds))) h') := o
  have o : OutS w0 w1 Ex D ((evs mes aσ h).stmt fun ds h' => if ds.length = mes.length then .nx (aσ.set i (.own (.lst ds))) h' else .no) := by
    cases ev : evs mes aσ h with
    | ok ds h1 =>
      rw [ev] at o
      show OutS w0 w1 Ex D (if ds.length = mes.length then _ else _)
      rw [if_pos (evs_len ev)]; exact o
    | er c vs h1 => rw [ev] at o; exact o
    | no => rw [ev] at o; exact o
  unfold L2.tAsg L2.tLst
  refine tS_A fr st wk wg r sl o fun ds h1 w' vs f1 s1 k1 g1 r1 sl1 rv o1 => ?_
  by_cases hl : ds.length = mes.length
  · rw [if_pos hl] at o1
    exact ⟨by rw [rv.length, hl]; exact Nat.le_trans hz (by decide), fun p hp => o1 (w'.own p (.lst vs)) _ (f1.own r1 hp) (s1.trans (xd_own r1 hp).step) (r1.ownNew hp lst_notbl) (sl1.newOwn f1 r1 hp rv)⟩
  · rw [if_neg hl] at o1; exact o1.elim
/-- x.append(e) -/
theorem S_app (hN : X.N[i]? = some x) (hv : Vis X.env.scope x) (he : PE X e (tE X.K gd Ex me)) (hd : (x == ("__debug__" : Str)) = false := by decide) (hcd : (x == ("__classdict__" : Str)) = false := by decide)
    (hs : swapsWith (.Call (.Attribute (.Name x p1) "append" apos) [e] [] cpos) none pos.line X.env = pure false := by rfl)
    (hbase : attributeBase (.Name x p1) "append" X.env (eval (.Name x p1) X.env) = eval (.Name x p1) X.env := by rfl)
    (hfew : ((backTo cpos (starEach [e] X.env)).all (fun x => !x.1) && (backToKw cpos (keywordEach [] X.env)).all (fun x => x.1.isSome)
      && decide ([e].length + ([] : List Keyword).length + (if ([] : List Keyword).isEmpty then 0 else 1) < 30)) = true := by rfl)
    (hline : (apos.endLine == cpos.line) = true := by rfl) (hs2 : starEach [e] X.env = (false, eval e X.env) :: starEach [] X.env := by rfl) (hplain : (backTo cpos (starEach [] X.env)).any (·.1) = false := by rfl) :
    PS X (.Expr (.Call (.Attribute (.Name x p1) "append" apos) [e] [] cpos) pos) (tS X.K gd Ex (sApp i me)) := by
  refine PS.imp (ps_expr (pe_bm PySem.F.plainAttrs_list PySem.F.slot_list_append PySem.F.type_list_append mt_append (pe_var hN hv hd hcd) (A_cons he A_nil hs2) hbase hfew hline hs2 hplain) hs) fun D σ H h => ?_
  obtain ⟨w0, w1, w, h, aσ, fr, st, wk, wg, rfl, r, sl, o⟩ := h
  cases eo : ownAt aσ i with
  | none => exact (show OutS w0 w1 Ex D (sApp i me aσ h) from o) |> fun o => by unfold sApp at o; rw [eo] at o; exact o.elim
  | some ds =>
    have o : OutS w0 w1 Ex D (sApp i me aσ h) := o
    unfold sApp at o
    rw [eo] at o
    obtain ⟨a, xs, e2, e3, hH, n, rs, fa, _⟩ := sl.ownAt eo
    refine ⟨_, e3, .inl ⟨rfl, _, SqL.of hH⟩, ?_⟩
    have o : OutS w0 w1 Ex D ((evs [me] aσ h).stmt fun vs h' => match vs with | [d] => if ds.length < LIM then .nx (aσ.set i (.own (.lst (ds ++ [d])))) h' else .no | _ => .no) := by
      have ee : evs [me] aσ h = (me aσ h).next fun d => ret [d] := rfl
      rw [ee]
      cases ev : me aσ h with
      | ok d h1 => rw [ev] at o; exact o
      | er c vs h1 => rw [ev] at o; exact o
      | no => rw [ev] at o; exact o
    refine tS_A fr st wk wg r sl o fun vs h1 w' us f1 s1 k1 g1 r1 sl1 rv o1 => ?_
    match vs, rv, o1 with
    | [d], rv, o1 =>
      have o1 : OutS w0 w1 Ex D (if ds.length < LIM then .nx (aσ.set i (.own (.lst (ds ++ [d])))) h1 else .no) := o1
      rw [Reps] at rv
      obtain ⟨u, us', rfl, ru, rv⟩ := rv
      rw [Reps] at rv
      subst rv
      by_cases hl : ds.length < LIM
      · rw [if_pos hl] at o1
        obtain ⟨a', xs', e2', e3', hH', n', rs', fa', wr⟩ := sl1.ownAt eo
        rw [e3] at e3'
        cases e3'
        refine ⟨a, xs', u, rfl, rfl, hH', by rw [rs'.length]; exact Nat.lt_of_lt_of_le hl (by decide), ?_⟩
        exact o1 (w'.put a (.lst (xs' ++ [u]))) σ (f1.wr fa') (s1.trans (step_wr n')) (r1.wr n' hH' lst_notbl) (wr _ _ (Reps.append rs' (.cons ru .nil)))
      · rw [if_neg hl] at o1; exact o1.elim
    | [], rv, o1 => exact o1.elim
    | _ :: _ :: _, rv, o1 => exact o1.elim
/-- from here on it stands for good -/
theorem S_frz (h : PS X st (tS X.K gd Ex ms)) : PS X st (tS X.K gd Ex (sFrz i ms)) := by
  refine PS.imp h fun D σ H h => ?_
  obtain ⟨w0, w1, w, h, aσ, fr, st, wk, wg, rfl, r, sl, o⟩ := h
  have o : OutS w0 w1 Ex D (sFrz i ms aσ h) := o
  unfold sFrz at o
  cases eo : ownAt aσ i with
  | none => rw [eo] at o; exact o.elim
  | some ds =>
    rw [eo] at o
    obtain ⟨w', eH, eK, eg, f', s', r', sl'⟩ := sl.freeze fr r eo
    exact ⟨w0, w1, w', h, _, f', st.trans s', eK.trans wk, eg.trans wg, eH, r', sl', o⟩
end
end Cf
set_option Elab.async false
set_option linter.all false
set_option maxRecDepth 100000
set_option maxHeartbeats 2000000
/-! CfR: str, f-strings of one part, index, split, extend, chains as tests. -/
namespace Cf
open PySem PySem.Spec PyProof.Rows L2

/-! ### plain Lean: split, index -/
theorem spl_one (c : Nat) : ∀ l acc : List Nat, TL.spl [c] 0 acc l = splitL c acc l
  | [], acc => by rw [TL.spl_nil, splitL]
  | x :: r, acc => by
    by_cases h : x = c
    · subst h
      rw [TL.spl_hit (by simp [TL.pre]), splitL, if_pos rfl]
      exact congrArg _ (spl_one x r [])
    · have e : TL.spl [c] 0 acc (x :: r) = TL.spl [c] 0 (acc ++ [x]) r := by
        show (if TL.pre [c] (x :: r) = true then _ else _) = _
        rw [if_neg (by simp [TL.pre]; exact h)]
      rw [e, splitL, if_neg h]
      exact spl_one c r (acc ++ [x])
theorem split_one (a : List Nat) (c : Nat) (hc : c < 256) : Txt.split ⟨a.toArray⟩ ⟨#[c]⟩ = (splitL c [] a).map fun y => (⟨y.toArray⟩ : Str) := by
  have e := SX.split_S (a := a) (b := [c]) (List.cons_ne_nil _ _) (by simp [hc])
  rw [spl_one] at e
  exact e
theorem splitL_mem (c : Nat) : ∀ (l acc y : List Nat), y ∈ splitL c acc l → y.length ≤ acc.length + l.length ∧ ∀ d ∈ y, d ∈ acc ∨ d ∈ l
  | [], acc, y, h => by
    rw [splitL, List.mem_singleton] at h
    subst h
    exact ⟨Nat.le_add_right _ _, fun d m => .inl m⟩
  | x :: r, acc, y, h => by
    rw [splitL] at h
    by_cases hx : x = c
    · rw [if_pos hx] at h
      rcases List.mem_cons.mp h with e | h
      · subst e
        exact ⟨Nat.le_add_right _ _, fun d m => .inl m⟩
      · obtain ⟨h1, h2⟩ := splitL_mem c r [] y h
        refine ⟨by rw [List.length_nil] at h1; rw [List.length_cons]; omega, fun d m => ?_⟩
        rcases h2 d m with z | z
        · cases z
        · exact .inr (List.mem_cons_of_mem _ z)
    · rw [if_neg hx] at h
      obtain ⟨h1, h2⟩ := splitL_mem c r _ y h
      refine ⟨by rw [List.length_append, List.length_singleton] at h1; rw [List.length_cons]; omega, fun d m => ?_⟩
      rcases h2 d m with z | z
      · rcases List.mem_append.mp z with z | z
        · exact .inl z
        · rw [List.mem_singleton.mp z]; exact .inr List.mem_cons_self
      · exact .inr (List.mem_cons_of_mem _ z)
theorem ixD_is (c : Nat) : ∀ (s : List Nat) (i : Nat), s[i]? = some c → (∀ k, k < i → s[k]? ≠ some c) → ixD c s = some i
  | [], i, e, _ => by simp at e
  | x :: r, 0, e, _ => by
    rw [ixD, if_pos (Option.some.inj e)]
  | x :: r, i + 1, e, h => by
    have hx : x ≠ c := fun z => h 0 (Nat.zero_lt_succ _) (by rw [z]; rfl)
    rw [ixD, if_neg hx, ixD_is c r i (by simpa using e) fun k hk => by
      have := h (k + 1) (by omega)
      simpa using this]
    rfl
theorem ixD_some {c : Nat} : ∀ {s : List Nat} {i : Nat}, ixD c s = some i → s[i]? = some c
  | [], i, e => by cases e
  | x :: r, i, e => by
    rw [ixD] at e
    by_cases hx : x = c
    · rw [if_pos hx] at e; cases e; rw [hx]; rfl
    · rw [if_neg hx] at e
      obtain ⟨j, e1, rfl⟩ := Option.map_eq_some_iff.mp e
      rw [List.getElem?_cons_succ]
      exact ixD_some e1
theorem at_one (s : List Nat) (c i : Nat) : PySem.StrLaws.At ⟨s.toArray⟩ ⟨#[c]⟩ (⟨s.toArray⟩ : Str).length i ↔ s[i]? = some c := by
  unfold PySem.StrLaws.At
  rw [PySem.StrLaws.subAt_eq, sv_len]
  show i + 1 ≤ s.length ∧ ((s.drop i).take 1 == [c]) = true ↔ _
  rw [beq_iff_eq]
  constructor
  · rintro ⟨h1, h2⟩
    rw [List.drop_eq_getElem_cons (by omega), List.take_succ_cons, List.take_zero] at h2
    rw [List.getElem?_eq_getElem (by omega)]
    exact congrArg some (List.cons.inj h2).1
  · intro h
    obtain ⟨h1, h2⟩ := List.getElem?_eq_some_iff.mp h
    refine ⟨h1, ?_⟩
    rw [List.drop_eq_getElem_cons h1, List.take_succ_cons, List.take_zero, h2]
theorem occ_one {s : List Nat} {c i : Nat} (h : ixD c s = some i) : ∃ rest, Builtin.Str.occurrences ⟨s.toArray⟩ ⟨#[c]⟩ 0 (⟨s.toArray⟩ : Str).length 1 = i :: rest := by
  rcases PySem.StrLaws.occ_head ⟨s.toArray⟩ ⟨#[c]⟩ 1 (Nat.le_refl _) with ⟨_, hn⟩ | ⟨j, r, e, h1, h2⟩
  · exact absurd ((at_one s c i).mpr (ixD_some h)) (hn i)
  · have q := ixD_is c s j ((at_one s c j).mp h1) fun k hk z => h2 k hk ((at_one s c k).mpr z)
    rw [h] at q
    cases q
    exact ⟨r, e⟩
theorem strs_rep {w : Wd} : ∀ (ys : List (List Nat)), (∀ y ∈ ys, SOk y) → Reps w (ys.map .str) (ys.map fun y => V.str ⟨y.toArray⟩)
  | [], _ => .nil
  | y :: ys, h => .cons (by rw [rep_str]; exact ⟨rfl, h y List.mem_cons_self⟩) (strs_rep ys fun z m => h z (List.mem_cons_of_mem _ m))

/-- extend by any list -/
theorem list_extendW (l : Addr) (items : Array Value) (n : Nat) (b : Addr) (items2 : Array Value) (n2 : Nat) (sl : Array (Option Value)) (door : ¬(!items.isEmpty && Builtin.List.listTooLong (items.size + items2.size)) = true) (hz : items.size ≤ sizeLine) (hz2 : items.size + items2.size ≤ sizeLine + 1) :
    Meets (Builtin.«list.extend» ⟨[.ref l, .ref b], []⟩) (fun _ R s => s.heap.get? l = some { cls := .type "list", dict := none, data := .seq items n, slots := #[] } ∧ s.heap.get? b = some { cls := .type "list", dict := none, data := .seq items2 n2, slots := sl } ∧
      R (.ok (.ret Value.none)) { s with heap := s.heap.update l (Obj.mapSeq fun x => x ++ items2), toks := s.toks }) :=
  .of_wp fun prog w A R s h => by
    obtain ⟨hp, g, d, tk, os⟩ := s
    obtain ⟨hl, hb, h⟩ := h
    have f1 := AutoSeq1.idx_int
    have f2 := AutoSeq1.sub_tuple_tuple
    have f3 := AutoSeq1.sub_list_list
    have f4 := AutoSeq1.sub_tuple_list
    have f5 := AutoSeq1.sub_list_tuple
    have zz : (items ++ items2).size ≤ sizeLine + 1 := by rw [Array.size_append]; exact hz2
    wp_walk using (wpAny_updateSeq hl rfl (hz := hz) (_hz' := zz)), AutoSeq1.wpAny_loadPart' hl, AutoSeq1.wpAny_loadPart' hb
    exact ⟨_, rfl, h⟩
section
variable {X : Cx}
def rExtS (K : PySem.W.Frag) : V → List V → Hp → VK → Prop := fun x vs H Q => ∃ l b xs zs, x = .ref l ∧ vs = [.ref b] ∧ H l = some (.lst xs) ∧ SqL K H b zs ∧ xs.length + zs.length ≤ sizeLine ∧ Q .non (upd H l (.lst (xs ++ zs)))
theorem mt_extS : MtR X "list.extend" (rExtS X.K) := by
  intro pins s σ H x vs v us Q I rx rv h
  obtain ⟨l, b, xs, zs, rfl, rfl, hH, hB, hz, q⟩ := h
  cases rx
  obtain ⟨u, rfl, ru⟩ := rv.one
  cases ru
  obtain ⟨z, its, n, r, hl, e⟩ := I.lstM hH
  obtain ⟨its2, r2, ⟨o, n2, e2, c2, d2, q2⟩, z2⟩ := I.list hB
  have hl2 := r2.length
  obtain ⟨cls, dd, data, sl⟩ := o
  simp only at c2 d2 q2
  subst c2 d2 q2
  have hsz : its.toArray.size + its2.toArray.size ≤ sizeLine := by rw [List.size_toArray, List.size_toArray]; omega
  refine call_meets F.slot_list_extend ⟨_, e, rfl⟩ F.entry_list_extend (F.args_list_extend_2 _ _) (list_extendW l its.toArray n b its2.toArray n2 sl (extend_door hsz) (Nat.le_trans (Nat.le_add_right _ _) hsz) (by omega)) ⟨e, e2, ?_⟩
  refine ⟨.non, _, I.lset (its' := its ++ its2) hH e (by simp) (r.append r2) ?_, rfl, q⟩
  rw [List.length_append]
  exact hz
end

section
variable {X : Cx} {gd : Gd} {Ex : XK} {a b c e o : Expr} {me mo : E} {pos p1 p2 apos cpos : Pos} {i : Nat} {x : Str}
/-- x.extend(e) -/
theorem S_ext (hN : X.N[i]? = some x) (hv : Vis X.env.scope x) (he : PE X e (tE X.K gd Ex me)) (hd : (x == ("__debug__" : Str)) = false := by decide) (hcd : (x == ("__classdict__" : Str)) = false := by decide)
    (hs : swapsWith (.Call (.Attribute (.Name x p1) "extend" apos) [e] [] cpos) none pos.line X.env = pure false := by rfl)
    (hbase : attributeBase (.Name x p1) "extend" X.env (eval (.Name x p1) X.env) = eval (.Name x p1) X.env := by rfl)
    (hfew : ((backTo cpos (starEach [e] X.env)).all (fun x => !x.1) && (backToKw cpos (keywordEach [] X.env)).all (fun x => x.1.isSome)
      && decide ([e].length + ([] : List Keyword).length + (if ([] : List Keyword).isEmpty then 0 else 1) < 30)) = true := by rfl)
    (hline : (apos.endLine == cpos.line) = true := by rfl) (hs2 : starEach [e] X.env = (false, eval e X.env) :: starEach [] X.env := by rfl) (hplain : (backTo cpos (starEach [] X.env)).any (·.1) = false := by rfl) :
    PS X (.Expr (.Call (.Attribute (.Name x p1) "extend" apos) [e] [] cpos) pos) (tS X.K gd Ex (sExt i me)) := by
  refine PS.imp (ps_expr (pe_bm PySem.F.plainAttrs_list PySem.F.slot_list_extend PySem.F.type_list_extend mt_extS (pe_var hN hv hd hcd) (A_cons he A_nil hs2) hbase hfew hline hs2 hplain) hs) fun D σ H h => ?_
  obtain ⟨w0, w1, w, h, aσ, fr, st, wk, wg, rfl, r, sl, o⟩ := h
  have o : OutS w0 w1 Ex D (sExt i me aσ h) := o
  unfold sExt at o
  cases eo : ownAt aσ i with
  | none => rw [eo] at o; exact o.elim
  | some ds =>
    rw [eo] at o
    obtain ⟨a, xs, e2, e3, hH, n, rs, fa, _⟩ := sl.ownAt eo
    refine ⟨_, e3, .inl ⟨rfl, _, SqL.of hH⟩, ?_⟩
    have o : OutS w0 w1 Ex D ((evs [me] aσ h).stmt fun vs h' => match vs with
      | [d] => (match d with
        | .lst es => if ds.length + es.length ≤ LIM then .nx (aσ.set i (.own (.lst (ds ++ es)))) h' else .no
        | _ => .no)
      | _ => .no) := by
      have ee : evs [me] aσ h = (me aσ h).next fun d => ret [d] := rfl
      rw [ee]
      cases ev : me aσ h with
      | ok d h1 => rw [ev] at o; cases d <;> exact o
      | er c vs h1 => rw [ev] at o; exact o
      | no => rw [ev] at o; exact o
    refine tS_A fr st wk wg r sl o fun vs h1 w' us f1 s1 k1 g1 r1 sl1 rv o1 => ?_
    match vs, rv, o1 with
    | [.lst es], rv, o1 =>
      have o1 : OutS w0 w1 Ex D (if ds.length + es.length ≤ LIM then .nx (aσ.set i (.own (.lst (ds ++ es)))) h1 else .no) := o1
      rw [Reps] at rv
      obtain ⟨u, us', rfl, ru, rv⟩ := rv
      rw [Reps] at rv
      subst rv
      rw [rep_lst_iff] at ru
      obtain ⟨b, ys, rfl, tb, rb⟩ := ru
      by_cases hl : ds.length + es.length ≤ LIM
      · rw [if_pos hl] at o1
        obtain ⟨a', xs', e2', e3', hH', n', rs', fa', wr⟩ := sl1.ownAt eo
        rw [e3] at e3'
        cases e3'
        refine ⟨a, b, xs', ys, rfl, rfl, hH', k1 ▸ tb.sq, by rw [rs'.length, rb.length]; exact size_le hl, ?_⟩
        exact o1 (w'.put a (.lst (xs' ++ ys))) σ (f1.wr fa') (s1.trans (step_wr n')) (r1.wr n' hH' lst_notbl) (wr _ _ (Reps.append rs' rb))
      · rw [if_neg hl] at o1; exact o1.elim
    | [], rv, o1 => exact o1.elim
    | [.non], rv, o1 => exact o1.elim
    | [.bl _], rv, o1 => exact o1.elim
    | [.int _], rv, o1 => exact o1.elim
    | [.str _], rv, o1 => exact o1.elim
    | [.tup _], rv, o1 => exact o1.elim
    | [.dct _ _ _], rv, o1 => exact o1.elim
    | [.obj _ _ _], rv, o1 => exact o1.elim
    | [.ref _], rv, o1 => exact o1.elim
    | _ :: _ :: _, rv, o1 => exact o1.elim
/-! ### texts -/
theorem int_ok {i : Int} (h : i.natAbs < 2 ^ 64) : i.natAbs.log2 < 1920 := by
  rcases Nat.eq_zero_or_pos i.natAbs with z | z
  · rw [z]; decide
  · exact Nat.lt_trans ((Nat.log2_lt (Nat.pos_iff_ne_zero.mp z)).mpr h) (by decide)
theorem cps_lt (z : String) : ∀ c ∈ cps z, c < 1114112 := by
  intro c hc
  unfold cps at hc
  obtain ⟨ch, _, rfl⟩ := List.mem_map.mp hc
  have := ch.valid
  rcases this with h | h
  · exact Nat.lt_trans h (by decide)
  · exact h.2
theorem rep_int_text {w : Wd} {i : Int} (h : i.natAbs < 2 ^ 64) : Rep w (.str (cps (toString i))) (.str (Str.ofString (toString i))) := by
  rw [rep_str, str_cps]
  refine ⟨rfl, ?_, cps_lt _⟩
  have := int_text_fits (int_ok h)
  rw [str_cps, sv_len] at this
  exact this
theorem o_str : CallR X (.type "str") (c1 X.K gd Ex pStr) := by
  intro pins s σ H xs us Q I rs h
  obtain ⟨x, rfl, w, h, dx, wk, wg, rfl, r, hx, o⟩ := h
  cases dx with
  | str z =>
    rw [rep_str] at hx
    obtain ⟨rfl, ok⟩ := hx
    exact SkE.call_str_str pins s σ _ _ us Q I rs ⟨_, rfl, out_val o r (by rw [rep_str]; exact ⟨rfl, ok⟩)⟩
  | int i =>
    rw [rep_int] at hx
    subst hx
    obtain ⟨hl, o⟩ := out_guard (a := ret (D.str (cps (toString i)))) o
    exact call_str_int pins s σ _ _ us Q I rs ⟨i, rfl, int_ok hl, out_val o r (rep_int_text hl)⟩
  | _ => exact o.elim
/-- f'{e}' -/
theorem R_fs1 (he : PE X e (tE X.K gd Ex me)) : PE X (.JoinedStr [.FormattedValue e (-1) none p1] pos) (tE X.K gd Ex (e1 pStr me)) := by
  refine PE.imp (pe_joined1 (pe_fmt he)) fun σ H Q h => ?_
  obtain ⟨w, h, aσ, wk, wg, rfl, r, s, o⟩ := h
  refine tE_bind wk wg r s o fun d h1 w1 v s1 k1 g1 r1 sl1 rv o1 => ?_
  cases d with
  | str z =>
    rw [rep_str] at rv
    obtain ⟨rfl, ok⟩ := rv
    exact .inl ⟨_, rfl, by rw [sv_len]; exact ok.len, out_val (show Out w1 Ex (ret (D.str z) h1) _ from o1) r1 (by rw [rep_str]; exact ⟨rfl, ok⟩)⟩
  | int i =>
    rw [rep_int] at rv
    subst rv
    obtain ⟨hl, o1⟩ := out_guard (a := ret (D.str (cps (toString i)))) (show Out w1 Ex ((if i.natAbs < 2 ^ 64 then ret (D.str (cps (toString i))) else no) h1) _ from o1)
    exact .inr ⟨i, rfl, int_ok hl, out_val o1 r1 (rep_int_text hl)⟩
  | _ => exact o1.elim
/-- x.split(c) -/
theorem R_split (ho : PE X o (tE X.K gd Ex mo)) (he : PE X e (tE X.K gd Ex me)) (hs : starEach [e] X.env = [(false, eval e X.env)] := by rfl) (hbase : attributeBase o "split" X.env (eval o X.env) = eval o X.env := by rfl) (hline : (apos.endLine == pos.line) = true := by rfl) :
    PE X (.Call (.Attribute o "split" apos) [e] [] pos) (tE X.K gd Ex (eS2 pSplit mo me)) := by
  refine PE.imp (pe_split ho he hs hbase hline) fun σ H Q h => ?_
  obtain ⟨w, h, aσ, wk, wg, rfl, r, s, o⟩ := h
  refine tE_bind wk wg r s o fun d h1 w1 v s1 k1 g1 r1 sl1 rv o1 => ?_
  obtain ⟨hd, o1⟩ := out_guard o1
  cases d with
  | str z =>
    rw [rep_str] at rv
    obtain ⟨rfl, ok⟩ := rv
    refine ⟨⟨_, rfl⟩, tE_bind k1 g1 r1 sl1 o1 fun d2 h2 w2 v2 s2 k2 g2 r2 sl2 rv2 o2 => ?_⟩
    match d2, rv2, o2 with
    | .str [c], rv2, o2 =>
      rw [rep_str] at rv2
      obtain ⟨rfl, ok2⟩ := rv2
      obtain ⟨⟨hc, hl⟩, o2⟩ := out_guard (a := ret (D.lst ((splitL c [] z).map .str))) (show Out w2 Ex ((if c < 256 ∧ z.length ≤ LIM then ret (D.lst ((splitL c [] z).map .str)) else no) h2) _ from o2)
      refine ⟨_, ⟨#[c]⟩, rfl, rfl, by rfl, by rw [sv_len]; exact Nat.le_trans (Nat.add_le_add_right hl 2) (by decide), fun p hp => ?_⟩
      rw [split_one z c hc, List.map_map]
      exact out_put o2 r2 hp (rep_lst r2 hp (strs_rep _ fun y hy => by
        obtain ⟨m1, m2⟩ := splitL_mem c z [] y hy
        refine ⟨Nat.le_trans m1 (by rw [List.length_nil, Nat.zero_add]; exact ok.len), fun d hd => ?_⟩
        rcases m2 d hd with q | q
        · cases q
        · exact ok.ok d q))
    | .str [], _, o2 => exact o2.elim
    | .str (_ :: _ :: _), _, o2 => exact o2.elim
    | .non, _, o2 => exact o2.elim
    | .bl _, _, o2 => exact o2.elim
    | .int _, _, o2 => exact o2.elim
    | .tup _, _, o2 => exact o2.elim
    | .lst _, _, o2 => exact o2.elim
    | .dct _ _ _, _, o2 => exact o2.elim
    | .obj _ _ _, _, o2 => exact o2.elim
    | .ref _, _, o2 => exact o2.elim
  | _ => cases hd
/-- x.index(c) -/
theorem R_index (ho : PE X o (tE X.K gd Ex mo)) (he : PE X e (tE X.K gd Ex me)) (hs : starEach [e] X.env = [(false, eval e X.env)] := by rfl) (hbase : attributeBase o "index" X.env (eval o X.env) = eval o X.env := by rfl) (hline : (apos.endLine == pos.line) = true := by rfl) :
    PE X (.Call (.Attribute o "index" apos) [e] [] pos) (tE X.K gd Ex (eS2 pIndex mo me)) := by
  refine PE.imp (pe_m1 F.slot_str_index F.type_str_index mt_sindex ho he hs hbase hline) fun σ H Q h => ?_
  obtain ⟨w, h, aσ, wk, wg, rfl, r, s, o⟩ := h
  refine tE_bind wk wg r s o fun d h1 w1 v s1 k1 g1 r1 sl1 rv o1 => ?_
  obtain ⟨hd, o1⟩ := out_guard o1
  cases d with
  | str z =>
    rw [rep_str] at rv
    obtain ⟨rfl, ok⟩ := rv
    refine ⟨⟨_, rfl⟩, tE_bind k1 g1 r1 sl1 o1 fun d2 h2 w2 v2 s2 k2 g2 r2 sl2 rv2 o2 => ?_⟩
    match d2, rv2, o2 with
    | .str [c], rv2, o2 =>
      rw [rep_str] at rv2
      obtain ⟨rfl, ok2⟩ := rv2
      obtain ⟨d, e3, o2⟩ := out_opt (show Out w2 Ex ((ofOpt ((ixD c z).map fun (i : Nat) => D.int (i : Int)) : M D) h2) _ from o2)
      obtain ⟨k, e4, rfl⟩ := Option.map_eq_some_iff.mp e3
      obtain ⟨rest, e5⟩ := occ_one e4
      exact ⟨_, ⟨#[c]⟩, k, rest, rfl, rfl, e5, out_val o2 r2 (by rw [rep_int])⟩
    | .str [], _, o2 => exact o2.elim
    | .str (_ :: _ :: _), _, o2 => exact o2.elim
    | .non, _, o2 => exact o2.elim
    | .bl _, _, o2 => exact o2.elim
    | .int _, _, o2 => exact o2.elim
    | .tup _, _, o2 => exact o2.elim
    | .lst _, _, o2 => exact o2.elim
    | .dct _ _ _, _, o2 => exact o2.elim
    | .obj _ _ _, _, o2 => exact o2.elim
    | .ref _, _, o2 => exact o2.elim
  | _ => cases hd
theorem T_notN {j : Nat} {p : Pos} {ma : E} (ha : PE X a (tE X.K gd Ex ma)) : PT X (.Compare a [.IsNot] [.Constant .none j p] pos) (tT X.K gd Ex (tOf (e1 pNotN ma))) := by
  refine PT.imp (pt_cmp (pc_notN ha) rfl) fun σ H Q h => ?_
  obtain ⟨w, h, aσ, wk, wg, rfl, r, s, o⟩ := h
  have o : Out w Ex ((ma aσ >>= fun x => pNotN x >>= pTruth) h) (fun b _ w' => Q b w'.H) := by
    have z : (tOf (e1 pNotN ma) aσ) h = (ma aσ >>= fun x => pNotN x >>= pTruth) h := by
      show ((ma aσ h).next fun x => pNotN x).next pTruth = (ma aσ h).next fun x h1 => (pNotN x h1).next pTruth
      cases ma aσ h <;> rfl
    rw [← z]; exact o
  unfold L2.tB L2.tNotN
  refine tE_bind wk wg r s o fun d h1 w1 v s1 k1 g1 r1 sl1 rv o1 => ?_
  refine ⟨_, rfl, ?_⟩
  rw [RelV.isNon rv]
  exact out_ret (show Out w1 Ex ((ret (!isNon d) : M Bool) h1) _ from (by cases d <;> exact o1)) r1
end
end Cf
set_option Elab.async false
set_option linter.all false
set_option maxRecDepth 100000
set_option maxHeartbeats 2000000
/-! CfU: fields of instances; dicts. -/
namespace Cf
open PySem PySem.Spec PyProof.Rows L2

/-! ### names -/
theorem cps_inj {a b : String} (h : cps a = cps b) : a = b := by
  have inj : ∀ {l m : List Char}, l.map Char.toNat = m.map Char.toNat → l = m := by
    intro l
    induction l with
    | nil => intro m h; cases m with
      | nil => rfl
      | cons x m => cases h
    | cons c l ih => intro m h; cases m with
      | nil => cases h
      | cons x m =>
        rw [List.map_cons, List.map_cons] at h
        have h1 := (List.cons.inj h).1
        have h2 := (List.cons.inj h).2
        rw [ih h2]
        have : c = x := Char.ext (UInt32.toNat_inj.mp h1)
        rw [this]
  exact String.toList_inj.mp (inj h)
theorem str_inj {a b : String} (h : Str.ofString a = Str.ofString b) : a = b := by
  rw [str_cps, str_cps] at h
  have : (cps a).toArray = (cps b).toArray := by injection h
  exact cps_inj (by simpa using congrArg Array.toList this)
theorem fld_look {w : Wd} {f : String} : ∀ {ns : List String} {vs : List D} {fs : List (Str × V)} {d : D}, fs.map (·.1) = ns.map Str.ofString → Reps w vs (fs.map (·.2)) → fldOf f ns vs = some d → ∃ v, fs.lookup (Str.ofString f) = some v ∧ Rep w d v
  | [], _, _, _, _, _, h => by cases h
  | n :: ns, [], _, _, _, _, h => by cases h
  | n :: ns, x :: vs, [], _, e, _, _ => by cases e
  | n :: ns, x :: vs, (g, y) :: fs, d, e, r, h => by
    rw [List.map_cons, List.map_cons] at e
    obtain ⟨e1, e2⟩ := List.cons.inj e
    rw [List.map_cons, Reps] at r
    obtain ⟨y', r', ey, ry, rr⟩ := r
    obtain ⟨rfl, rfl⟩ := List.cons.inj ey
    have e1 : g = Str.ofString n := e1
    rw [fldOf] at h
    by_cases hn : n = f
    · rw [if_pos hn] at h
      cases h
      refine ⟨y, ?_, ry⟩
      rw [List.lookup_cons, e1, hn]
      simp
    · rw [if_neg hn] at h
      obtain ⟨v, h1, h2⟩ := fld_look e2 rr h
      refine ⟨v, ?_, h2⟩
      rw [List.lookup_cons, e1]
      have : (Str.ofString f == Str.ofString n) = false := beq_eq_false_iff_ne.mpr fun z => hn (str_inj z).symm
      rw [this]; exact h1
theorem fld_put {w : Wd} {f : String} {d : D} {v : V} (rd : Rep w d v) : ∀ {ns : List String} {vs : List D} {fs : List (Str × V)}, fs.map (·.1) = ns.map Str.ofString → Reps w vs (fs.map (·.2)) → vs.length = ns.length →
    (putF (Str.ofString f) v fs).map (·.1) = (putNs f ns).map Str.ofString ∧ Reps w (putVs f d ns vs) ((putF (Str.ofString f) v fs).map (·.2))
  | [], [], [], _, _, _ => ⟨by simp [putF, putNs], .cons rd .nil⟩
  | [], x :: vs, _, _, _, hl => by cases hl
  | n :: ns, [], _, _, _, hl => by cases hl
  | [], [], p :: fs, e, _, _ => by cases e
  | n :: ns, x :: vs, [], e, _, _ => by cases e
  | n :: ns, x :: vs, (g, y) :: fs, e, r, hl => by
    rw [List.map_cons, List.map_cons] at e
    obtain ⟨e1, e2⟩ := List.cons.inj e
    rw [List.map_cons, Reps] at r
    obtain ⟨y', r', ey, ry, rr⟩ := r
    obtain ⟨rfl, rfl⟩ := List.cons.inj ey
    have e1 : g = Str.ofString n := e1
    have hl : vs.length = ns.length := Nat.succ.inj hl
    unfold putF putVs
    by_cases hn : n = f
    · have hg : g = Str.ofString f := by rw [e1, hn]
      rw [if_pos hg, if_pos hn]
      have hm : f ∈ n :: ns := by rw [hn]; exact List.mem_cons_self
      refine ⟨?_, .cons rd rr⟩
      unfold putNs
      rw [if_pos hm, List.map_cons, List.map_cons, e2, e1]
    · have hg : ¬ g = Str.ofString f := fun z => hn (str_inj (e1 ▸ z))
      rw [if_neg hg, if_neg hn]
      obtain ⟨q1, q2⟩ := fld_put (f := f) rd e2 rr hl
      refine ⟨?_, .cons ry q2⟩
      rw [List.map_cons, q1]
      unfold putNs
      by_cases hm : f ∈ ns
      · rw [if_pos hm, if_pos (List.mem_cons_of_mem _ hm), List.map_cons, e1]
      · rw [if_neg hm, if_neg (fun z => (List.mem_cons.mp z).elim (fun z => hn z.symm) hm), List.cons_append, List.map_cons, e1]
theorem putF_len (f : Str) (v : V) (fs : List (Str × V)) : (putF f v fs).length ≤ fs.length + 1 := length_putF f v fs
/-! ### a place of the small heap is written -/
theorem tabs_wrO {T : List (Addr × Str)} {H : Hp} {p : Addr} {u o : HO} (t : LamX.Tabs T H) (hp : H p = some u) (n : NoTbl u) (nx : ∀ f, u ≠ .ext f) : LamX.Tabs T (upd H p o) := by
  intro q hq
  obtain ⟨ps, h1, h2, h3⟩ := t q hq
  refine ⟨ps, by rw [upd_ne (fun z => by rw [z, hp] at h1; exact n ps (Option.some.inj h1))]; exact h1, h2, fun pos cv hc => ?_⟩
  obtain ⟨c, e1, e2⟩ := h3 pos cv hc
  refine ⟨c, e1, ?_⟩
  rw [upd_ne (fun z => by rw [z, hp] at e2; exact nx _ (Option.some.inj e2))]
  exact e2
theorem RelH.setO {w : Wd} {h : List O} (r : RelH w h) {n : Nat} {B : Addr} {u u0 : HO} {ob : O} (hB : w.ρ[n]? = some B) (e0 : w.H B = some u0) (n0 : NoTbl u0) (x0 : ∀ f, u0 ≠ .ext f) (new : ORep (w.put B u) B ob) (hn : n < h.length) : RelH (w.put B u) (h.set n ob) := by
  have hm : B ∈ w.ρ := List.mem_of_getElem? hB
  have st := step_ref (o := u) hm
  refine ⟨by rw [List.length_set]; exact r.len, r.nd, fun i v a e1 e2 => ?_, fun b hb => ?_, tabs_wrO r.tT e0 n0 x0⟩
  · by_cases hi : n = i
    · subst hi
      have e2 : w.ρ[n]? = some a := e2
      rw [hB] at e2; cases e2
      rw [List.getElem?_set_self hn] at e1
      cases e1
      exact new
    · rw [setAt_none hi] at e1
      have e2 : w.ρ[i]? = some a := e2
      have hne : a ≠ B := fun z => by
        rw [z] at e2
        exact hi (nd_ix r.nd hB e2)
      exact (r.obj i v a e1 e2).mv st.step fun v e _ => by show upd w.H B _ a = _; rw [upd_ne hne]; exact e
  · obtain ⟨⟨v, e, t1⟩, hb2⟩ := r.own b hb
    refine ⟨⟨v, ?_, t1⟩, hb2⟩
    show upd w.H B _ b = _
    rw [upd_ne (fun z => hb2 (by rw [z]; exact hm))]; exact e
/-! ### keys -/
theorem key_v {w : Wd} {d : D} {v : V} {k : Key} (r : Rep w d v) (e : dKey d = some k) : v = kV k := by
  cases d with
  | int i => cases e; rw [rep_int] at r; exact r
  | str s => cases e; rw [rep_str] at r; exact r.1
  | _ => cases e
theorem keys_v {w : Wd} : ∀ {ds : List D} {xs : List V} {k : List Key}, Reps w ds xs → dKeys ds = some k → xs = k.map kV
  | [], _, _, r, e => by rw [Reps] at r; cases e; exact r
  | d :: ds, _, _, r, e => by
    rw [Reps] at r
    obtain ⟨x, r', rfl, h1, h2⟩ := r
    rw [dKeys] at e
    obtain ⟨k1, q1, e⟩ := Option.bind_eq_some_iff.mp e
    obtain ⟨ks, q2, rfl⟩ := Option.map_eq_some_iff.mp e
    rw [List.map_cons, key_v h1 q1, keys_v h2 q2]
theorem deq_key {x y : D} {a b : Key} (hx : dKey x = some a) (hy : dKey y = some b) : deq x y = decide (a = b) := by
  cases x <;> cases hx <;> cases y <;> cases hy
  · rw [deq]; rw [Bool.eq_iff_iff, beq_iff_eq, decide_eq_true_eq]
    exact ⟨fun z => by rw [z], fun z => Sum.inl.inj z⟩
  · rw [deq] <;> simp
  · rw [deq] <;> simp
  · rw [deq]; rw [Bool.eq_iff_iff, beq_iff_eq, decide_eq_true_eq]
    refine ⟨fun z => by rw [z], fun z => ?_⟩
    have := Sum.inr.inj z
    injection this with q
    simpa using congrArg Array.toList q
theorem deq_keys : ∀ {x y : List D} {a b : List Key}, dKeys x = some a → dKeys y = some b → deqs x y = decide (a = b)
  | [], [], _, _, hx, hy => by cases hx; cases hy; rw [deqs]; rfl
  | [], y :: ys, _, _, hx, hy => by
    cases hx
    rw [dKeys] at hy
    obtain ⟨k1, q1, e⟩ := Option.bind_eq_some_iff.mp hy
    obtain ⟨ks, q2, rfl⟩ := Option.map_eq_some_iff.mp e
    rw [deqs] <;> simp
  | x :: xs, [], _, _, hx, hy => by
    cases hy
    rw [dKeys] at hx
    obtain ⟨k1, q1, e⟩ := Option.bind_eq_some_iff.mp hx
    obtain ⟨ks, q2, rfl⟩ := Option.map_eq_some_iff.mp e
    rw [deqs] <;> simp
  | x :: xs, y :: ys, _, _, hx, hy => by
    rw [dKeys] at hx hy
    obtain ⟨k1, q1, e⟩ := Option.bind_eq_some_iff.mp hx
    obtain ⟨ks, q2, rfl⟩ := Option.map_eq_some_iff.mp e
    obtain ⟨k2, p1, e⟩ := Option.bind_eq_some_iff.mp hy
    obtain ⟨js, p2, rfl⟩ := Option.map_eq_some_iff.mp e
    rw [deqs, deq_key q1 p1, deq_keys q2 p2]
    rw [Bool.eq_iff_iff]
    simp
theorem deq_keyT {x y : D} {a b : List Key} (hx : dKeyT x = some a) (hy : dKeyT y = some b) : deq x y = decide (a = b) := by
  cases x <;> try cases hx
  cases y <;> try cases hy
  rw [deq]
  exact deq_keys hx hy
/-- a key in a dict, by its place -/
theorem look_gen {κ : Type} [DecidableEq κ] {w : Wd} {f : D → Option κ} (hf : ∀ {x y : D} {a b : κ}, f x = some a → f y = some b → deq x y = decide (a = b)) {k : D} {kx : κ} (hk : f k = some kx) :
    ∀ {ks vs : List D} {kk : List κ} {xs : List V}, ks.map f = kk.map some → Reps w vs xs → kk.length = xs.length → ks.length = vs.length →
    (look k ks vs = none ∧ valV (kk.zip xs) kx = none) ∨ ∃ d x, look k ks vs = some d ∧ valV (kk.zip xs) kx = some x ∧ Rep w d x
  | [], [], [], [], _, _, _, _ => .inl ⟨by rw [look] <;> simp, rfl⟩
  | [], [], [], _ :: _, _, _, l, _ => by cases l
  | [], [], _ :: _, _, e, _, _, _ => by cases e
  | [], _ :: _, _, _, _, _, _, l => by cases l
  | _ :: _, [], _, _, _, _, _, l => by cases l
  | x :: ks, v :: vs, [], _, e, _, _, _ => by cases e
  | x :: ks, v :: vs, a :: kk, [], e, r, l, _ => by cases l
  | x :: ks, v :: vs, a :: kk, y :: xs, e, r, l, l2 => by
    rw [List.map_cons, List.map_cons] at e
    obtain ⟨e1, e2⟩ := List.cons.inj e
    rw [Reps] at r
    obtain ⟨y', r', ey, ry, rr⟩ := r
    obtain ⟨rfl, rfl⟩ := List.cons.inj ey
    rw [look, hf e1 hk]
    by_cases hd : a = kx
    · refine .inr ⟨v, y, by rw [decide_eq_true hd, if_pos rfl], ?_, ry⟩
      rw [List.zip_cons_cons]
      exact valV_pos hd
    · rw [decide_eq_false hd, if_neg Bool.false_ne_true, List.zip_cons_cons, valV_neg hd]
      exact look_gen hf hk e2 rr (Nat.succ.inj l) (Nat.succ.inj l2)
/-- .. it is set -/
theorem upd_gen {κ : Type} [DecidableEq κ] {w : Wd} {f : D → Option κ} (hf : ∀ {x y : D} {a b : κ}, f x = some a → f y = some b → deq x y = decide (a = b)) {k d : D} {kx : κ} {z : V} (hk : f k = some kx) (rd : Rep w d z) :
    ∀ {ks vs : List D} {kk : List κ} {xs : List V}, ks.map f = kk.map some → Reps w vs xs → kk.length = xs.length → ks.length = vs.length →
    ∃ ys, (kk.zip xs).map (fun kv => if kv.1 = kx then (kv.1, z) else kv) = kk.zip ys ∧ ys.length = xs.length ∧ Reps w (updV k d ks vs) ys
  | [], [], [], [], _, _, _, _ => ⟨[], rfl, rfl, by rw [updV]; exact .nil; all_goals simp⟩
  | [], [], [], _ :: _, _, _, l, _ => by cases l
  | [], [], _ :: _, _, e, _, _, _ => by cases e
  | [], _ :: _, _, _, _, _, _, l => by cases l
  | _ :: _, [], _, _, _, _, _, l => by cases l
  | x :: ks, v :: vs, [], _, e, _, _, _ => by cases e
  | x :: ks, v :: vs, a :: kk, [], e, r, l, _ => by cases l
  | x :: ks, v :: vs, a :: kk, y :: xs, e, r, l, l2 => by
    rw [List.map_cons, List.map_cons] at e
    obtain ⟨e1, e2⟩ := List.cons.inj e
    rw [Reps] at r
    obtain ⟨y', r', ey, ry, rr⟩ := r
    obtain ⟨rfl, rfl⟩ := List.cons.inj ey
    obtain ⟨ys, q1, q2, q3⟩ := upd_gen hf hk rd e2 rr (Nat.succ.inj l) (Nat.succ.inj l2)
    rw [List.zip_cons_cons, List.map_cons, q1, updV, hf e1 hk]
    by_cases hd : a = kx
    · refine ⟨z :: ys, by rw [if_pos hd]; rfl, by rw [List.length_cons, List.length_cons, q2], ?_⟩
      rw [decide_eq_true hd, if_pos rfl]
      exact .cons rd q3
    · refine ⟨y :: ys, by rw [if_neg hd]; rfl, by rw [List.length_cons, List.length_cons, q2], ?_⟩
      rw [decide_eq_false hd, if_neg Bool.false_ne_true]
      exact .cons ry q3
theorem put_gen {κ : Type} [DecidableEq κ] {w : Wd} {f : D → Option κ} (hf : ∀ {x y : D} {a b : κ}, f x = some a → f y = some b → deq x y = decide (a = b)) {k d : D} {kx : κ} {z : V} (hk : f k = some kx) (rd : Rep w d z)
    {ks vs : List D} {kk : List κ} {xs : List V} (e : ks.map f = kk.map some) (r : Reps w vs xs) (l : kk.length = xs.length) (l2 : ks.length = vs.length) :
    ∃ (jj : List κ) (ys : List V), putK (kk.zip xs) kx z = jj.zip ys ∧ jj.length = ys.length ∧ (putD k d ks vs).1.map f = jj.map some ∧ Reps w (putD k d ks vs).2 ys := by
  rcases look_gen hf hk e r l l2 with ⟨h1, h2⟩ | ⟨v, x, h1, h2, _⟩
  · refine ⟨kk ++ [kx], xs ++ [z], ?_, by rw [List.length_append, List.length_append, l]; rfl, ?_, ?_⟩
    · rw [putK_new _ h2, List.zip_append l]; rfl
    · unfold putD
      rw [h1, if_neg (by simp)]
      simp [e, hk]
    · unfold putD
      rw [h1, if_neg (by simp)]
      exact Reps.append r (.cons rd .nil)
  · obtain ⟨ys, q1, q2, q3⟩ := upd_gen hf hk rd e r l l2
    refine ⟨kk, ys, ?_, by rw [q2, l], ?_, ?_⟩
    · unfold putK
      have : ((kk.zip xs).any fun kv => decide (kv.1 = kx)) = true := by rw [valV_any, h2]; rfl
      rw [if_pos this, q1]
    · unfold putD; rw [h1]; exact e
    · unfold putD; rw [h1]; exact q3
/-! ### what stands at a key of a dict -/
theorem dctOf_at {w : Wd} {h : List O} (r : RelH w h) {d : D} {v : V} (rv : Rep w d v) {t : Bool} {ks vs : List D} (e : dctOf d h = some (t, ks, vs)) : ∃ a xs, v = .ref a ∧ DctAt w.H a t ks xs ∧ Reps w vs xs := by
  cases d with
  | dct t' ks' vs' =>
    cases e
    rw [Rep] at rv
    obtain ⟨a, xs, rfl, q, _, rr⟩ := rv
    exact ⟨a, xs, rfl, q, rr⟩
  | ref n =>
    rw [rep_refI] at rv
    obtain ⟨a, ea, rfl⟩ := rv
    have e : (match h[n]? with | some (.dct t ks vs) => some (t, ks, vs) | _ => none) = some (t, ks, vs) := e
    cases z : h[n]? with
    | none => rw [z] at e; cases e
    | some o =>
      rw [z] at e
      cases o with
      | dct t' ks' vs' =>
        cases e
        obtain ⟨xs, q, rr⟩ := r.obj n _ a z ea
        exact ⟨a, xs, rfl, q, rr⟩
      | lst _ => cases e
      | ins _ _ _ => cases e
  | _ => cases e
theorem keyD_some {d : D} (h : keyD d = true) : ∃ k, dKey d = some k := by
  cases d <;> first | exact ⟨_, rfl⟩ | cases h
theorem keysD_some : ∀ {ds : List D}, ds.all keyD = true → ∃ k, dKeys ds = some k
  | [], _ => ⟨[], rfl⟩
  | d :: ds, h => by
    rw [List.all_cons, Bool.and_eq_true] at h
    obtain ⟨k, e⟩ := keyD_some h.1
    obtain ⟨ks, e2⟩ := keysD_some h.2
    exact ⟨k :: ks, by rw [dKeys, e, e2]; rfl⟩
/-- the dict asked: by the library's DGet -/
theorem lookD_at {w : Wd} {h : List O} (r : RelH w h) {d k : D} {v u : V} (rv : Rep w d v) (ru : Rep w k u) {o : Option D} (e : lookD d k h = some o) : ∃ a ov, v = .ref a ∧ DGet w.H a u ov ∧ ((o = none ∧ ov = none) ∨ ∃ x y, o = some x ∧ ov = some y ∧ Rep w x y) := by
  unfold lookD at e
  cases z : dctOf d h with
  | none => rw [z] at e; cases e
  | some p =>
    obtain ⟨t, ks, vs⟩ := p
    rw [z] at e
    have e : (if keyOk t k = true ∧ ks.length = vs.length then some (look k ks vs) else none) = some o := e
    by_cases hk : keyOk t k = true ∧ ks.length = vs.length
    · rw [if_pos hk] at e
      obtain ⟨hk, hl⟩ := hk
      have e : look k ks vs = o := Option.some.inj e
      subst e
      obtain ⟨a, xs, rfl, q, rr⟩ := dctOf_at r rv z
      cases t with
      | true =>
        obtain ⟨kk, q1, q2, q3⟩ := q
        cases k with
        | tup ds =>
          have hk : (true && ds.all keyD) = true := hk
          rw [Bool.true_and] at hk
          obtain ⟨kx, ek⟩ := keysD_some hk
          rw [rep_tup_iff] at ru
          obtain ⟨b, us, rfl, tb, rb⟩ := ru
          have g : DGet w.H a (.ref b) (valV (kk.zip xs) kx) := DGet.t q3 (by rw [← keys_v rb ek]; exact tb.1)
          refine ⟨a, _, rfl, g, ?_⟩
          rcases look_gen (f := dKeyT) deq_keyT (k := .tup ds) (kx := kx) ek q1 rr q2 hl with ⟨h1, h2⟩ | ⟨x, y, h1, h2, h3⟩
          · exact .inl ⟨h1, h2⟩
          · exact .inr ⟨x, y, h1, h2, h3⟩
        | _ => cases hk
      | false =>
        obtain ⟨kk, q1, q2, q3⟩ := q
        have hk : keyD k = true := by
          cases k <;> first | exact hk | cases hk
        obtain ⟨kx, ek⟩ := keyD_some hk
        have g : DGet w.H a u (valV (kk.zip xs) kx) := by rw [key_v ru ek]; exact DGet.k q3
        refine ⟨a, _, rfl, g, ?_⟩
        rcases look_gen (f := dKey) deq_key ek q1 rr q2 hl with ⟨h1, h2⟩ | ⟨x, y, h1, h2, h3⟩
        · exact .inl ⟨h1, h2⟩
        · exact .inr ⟨x, y, h1, h2, h3⟩
    · rw [if_neg hk] at e; cases e
/-- a dict at a that is asked and set -/
def DSet (H : Hp) (a : Addr) (y : V) (ov : Option V) (z : V) (o : HO) : Prop :=
  (∃ (kvs : List (Key × V)) (k : Key), H a = some (.dK kvs) ∧ y = kV k ∧ kvs.length < sizeLine ∧ ov = valV kvs k ∧ o = .dK (putK kvs k z)) ∨
  ∃ (kvs : List (List Key × V)) (k : List Key) (b : Addr), H a = some (.dT kvs) ∧ y = .ref b ∧ H b = some (.tup (k.map kV)) ∧ kvs.length < sizeLine ∧ ov = valV kvs k ∧ o = .dT (putK kvs k z)
theorem DSet.put {H : Hp} {a : Addr} {y z : V} {ov : Option V} {o : HO} (g : DSet H a y ov z o) : DPut H a y z (upd H a o) := by
  rcases g with ⟨kvs, k, e, ey, l, _, rfl⟩ | ⟨kvs, k, b, e, ey, eb, l, _, rfl⟩
  · rw [ey]; exact DPut.k e l
  · rw [ey]; exact DPut.t e eb l
theorem DSet.isD {H : Hp} {a : Addr} {y z : V} {ov : Option V} {o : HO} (g : DSet H a y ov z o) : IsD H a := by
  rcases g with ⟨kvs, k, e, _⟩ | ⟨kvs, k, b, e, _⟩
  · exact .inl ⟨kvs, .inl e⟩
  · exact .inr ⟨kvs, .inl e⟩
theorem d_setdG {X : Cx} {pins : List (Addr × Obj)} {σ : L2.St} {H : Hp} {s : Shared} {a : Addr} {y d : V} {u r : Value} {ov : Option V} {o : HO} {A : Around} {E : Value → Shared → Prop} {Q : Value → Shared → Prop} (hu : A.units + 1 < cLine) (I : Inv X pins σ H s) (g : DSet H a y ov d o) (ry : RelV y u) (rd : RelV d r)
    (h1 : ∀ v, ov = some v → ∀ (w' : Value) (s' : Shared), Inv X pins σ H s' → RelV v w' → Q w' s') (h2 : ov = none → ∀ (w' : Value) (s' : Shared), Inv X pins σ (upd H a o) s' → RelV d w' → Q w' s') :
    wpAny (model X.prog X.w) A (call (.builtin "dict.setdefault") [.ref a, u, r]) Q E s := by
  rcases g with ⟨kvs, k, e, rfl, l, rfl, rfl⟩ | ⟨kvs, k, b, e, rfl, eb, l, rfl, rfl⟩
  · exact d_setd I e ry rd l h1 h2
  · cases (show u = Value.ref b from ry)
    obtain ⟨z, hd, xs, rel, dd⟩ := dt_of I.hok e
    have hz : xs.length ≤ sizeLine := by rw [← Paired.length rel]; exact z
    have hl : (putK kvs k d).length ≤ sizeLine := by have := length_putK kvs k d; omega
    have q := rel.val k
    refine call_setdefault_heap (hsz := hz) (tupleKind_room_in1 hu) (key_of I.hok eb) hd dd (fun p hp => ?_) fun hn h' dd' hs => ?_
    · rw [hp] at q
      cases q0 : valV kvs k with
      | none => rw [q0] at q; exact (show False from q).elim
      | some v0 =>
        rw [q0] at q
        exact h1 v0 q0 _ _ (I.tok _) q
    · rw [hn] at q
      cases q0 : valV kvs k with
      | some v0 => rw [q0] at q; exact (show False from q).elim
      | none =>
        obtain ⟨qo, es, ep, hq, p2, p3, p4, _, p5⟩ := dd'
        refine h2 q0 _ _ (d_write I (by rw [e]; exact True.intro) hs ⟨qo, hq⟩ ⟨hl, hd, _, (rel.put k eb rd).keeps fun c ys ec => ?_, qo, es, ep, hq, p2, p3, p4, p5⟩) rd
        rw [upd_ne (ne_of ec e (fun z => nomatch z))]
        exact ec
/-- the dict asked and set; the small heap behind it -/
theorem setDct_at {w : Wd} {h h' : List O} (r : RelH w h) {d k x : D} {v u y : V} (rv : Rep w d v) (ru : Rep w k u) (rx : Rep w x y) (e : setDct d k x h = some h') : ∃ a o ov, v = .ref a ∧ a ∈ w.ρ ∧ DSet w.H a u ov y o ∧ RelH (w.put a o) h' ∧
    ((lookD d k h = some none ∧ ov = none) ∨ ∃ p q, lookD d k h = some (some p) ∧ ov = some q ∧ Rep w p q) := by
  cases d with
  | ref n =>
    rw [rep_refI] at rv
    obtain ⟨a, ea, rfl⟩ := rv
    have e : (match h[n]? with
      | some (.dct t ks vs) => if keyOk t k = true ∧ ks.length = vs.length ∧ ks.length < LIM then some (h.set n (.dct t (putD k x ks vs).1 (putD k x ks vs).2)) else none
      | _ => none) = some h' := e
    cases z : h[n]? with
    | none => rw [z] at e; cases e
    | some ob =>
      rw [z] at e
      cases ob with
      | lst _ => cases e
      | ins _ _ _ => cases e
      | dct t ks vs =>
        have hn : n < h.length := (List.getElem?_eq_some_iff.mp z).1
        by_cases hk : keyOk t k = true ∧ ks.length = vs.length ∧ ks.length < LIM
        · simp only [if_pos hk] at e
          cases e
          obtain ⟨hk, hl, hz⟩ := hk
          have lk0 : lookD (.ref n) k h = some (look k ks vs) := by
            have : dctOf (.ref n) h = some (t, ks, vs) := by simp only [dctOf, z]
            unfold lookD
            rw [this]
            exact if_pos ⟨hk, hl⟩
          obtain ⟨xs, q, rr⟩ := r.obj n _ a z ea
          have hm : a ∈ w.ρ := List.mem_of_getElem? ea
          rw [lk0]
          cases t with
          | true =>
            obtain ⟨kk, q1, q2, q3⟩ := q
            have lk : (kk.zip xs).length < sizeLine := by
              have e0 := congrArg List.length q1
              rw [List.length_map, List.length_map] at e0
              rw [List.length_zip]
              have : ks.length < sizeLine := Nat.lt_of_lt_of_le hz (by decide)
              omega
            cases k with
            | tup ds =>
              have hk : (true && ds.all keyD) = true := hk
              rw [Bool.true_and] at hk
              obtain ⟨kx, ek⟩ := keysD_some hk
              rw [rep_tup_iff] at ru
              obtain ⟨b, us, rfl, tb, rb⟩ := ru
              obtain ⟨jj, ys, p1, p2, p3, p4⟩ := put_gen (f := dKeyT) deq_keyT (k := .tup ds) (kx := kx) (d := x) (z := y) ek rx q1 rr q2 hl
              refine ⟨a, .dT (putK (kk.zip xs) kx y), valV (kk.zip xs) kx, rfl, hm, .inr ⟨_, kx, b, q3, rfl, by rw [← keys_v rb ek]; exact tb.1, lk, rfl, rfl⟩, ?_, ?_⟩
              · have st := step_ref (o := .dT (putK (kk.zip xs) kx y)) hm
                exact r.setO ea q3 dT_notbl (fun f z => by cases z) ⟨ys, ⟨jj, p3, p2, by show upd w.H a _ a = _; rw [upd_same, p1]⟩, Reps.step st.step _ _ p4⟩ hn
              · rcases look_gen (f := dKeyT) deq_keyT (k := .tup ds) (kx := kx) ek q1 rr q2 hl with ⟨h1, h2⟩ | ⟨p, y, h1, h2, h3⟩
                · exact .inl ⟨by rw [h1], h2⟩
                · exact .inr ⟨p, y, by rw [h1], h2, h3⟩
            | _ => cases hk
          | false =>
            obtain ⟨kk, q1, q2, q3⟩ := q
            have lk : (kk.zip xs).length < sizeLine := by
              have e0 := congrArg List.length q1
              rw [List.length_map, List.length_map] at e0
              rw [List.length_zip]
              have : ks.length < sizeLine := Nat.lt_of_lt_of_le hz (by decide)
              omega
            have hk : keyD k = true := by
              cases k <;> first | exact hk | cases hk
            obtain ⟨kx, ek⟩ := keyD_some hk
            obtain ⟨jj, ys, p1, p2, p3, p4⟩ := put_gen (f := dKey) deq_key (d := x) (z := y) ek rx q1 rr q2 hl
            refine ⟨a, .dK (putK (kk.zip xs) kx y), valV (kk.zip xs) kx, rfl, hm, .inl ⟨_, kx, q3, key_v ru ek, lk, rfl, rfl⟩, ?_, ?_⟩
            · have st := step_ref (o := .dK (putK (kk.zip xs) kx y)) hm
              exact r.setO ea q3 dK_notbl (fun f z => by cases z) ⟨ys, ⟨jj, p3, p2, by show upd w.H a _ a = _; rw [upd_same, p1]⟩, Reps.step st.step _ _ p4⟩ hn
            · rcases look_gen (f := dKey) deq_key ek q1 rr q2 hl with ⟨h1, h2⟩ | ⟨p, y, h1, h2, h3⟩
              · exact .inl ⟨by rw [h1], h2⟩
              · exact .inr ⟨p, y, by rw [h1], h2, h3⟩
        · simp only [if_neg hk] at e; cases e
  | _ => cases e
end Cf
set_option Elab.async false
set_option linter.all false
set_option maxRecDepth 100000
set_option maxHeartbeats 2000000
/-! CfV: rules: fields, dicts, lists in the heap that grow. -/
namespace Cf
open PySem PySem.Spec PyProof.Rows L2

theorem insOf_at {w : Wd} {h : List O} (r : RelH w h) {c : String} {d : D} {v : V} (rv : Rep w d v) {ns : List String} {vs : List D} (e : insOf c d h = some (ns, vs)) : ∃ a C dx fs, v = .ref a ∧ w.gd.cl c = some C ∧ w.H a = some (.ins C dx fs) ∧ fs.map (·.1) = ns.map Str.ofString ∧ Reps w vs (fs.map (·.2)) := by
  cases d with
  | obj k ns' vs' =>
    have e : (if k = c then some (ns', vs') else none) = some (ns, vs) := e
    by_cases hk : k = c
    · rw [if_pos hk] at e
      cases e
      rw [Rep] at rv
      obtain ⟨a, C, dx, fs, rfl, g, q, _, en, rr⟩ := rv
      exact ⟨a, C, dx, fs, rfl, hk ▸ g, q, en, rr⟩
    · rw [if_neg hk] at e; cases e
  | ref n =>
    rw [rep_refI] at rv
    obtain ⟨a, ea, rfl⟩ := rv
    have e : (match h[n]? with | some (.ins k ns vs) => if k = c then some (ns, vs) else none | _ => none) = some (ns, vs) := e
    cases z : h[n]? with
    | none => rw [z] at e; cases e
    | some o =>
      rw [z] at e
      cases o with
      | ins k ns' vs' =>
        have e : (if k = c then some (ns', vs') else none) = some (ns, vs) := e
        by_cases hk : k = c
        · rw [if_pos hk] at e
          cases e
          obtain ⟨C, dx, fs, g, q, en, rr⟩ := r.obj n _ a z ea
          exact ⟨a, C, dx, fs, rfl, hk ▸ g, q, en, rr⟩
        · rw [if_neg hk] at e; cases e
      | lst _ => cases e
      | dct _ _ _ => cases e
  | _ => cases e
theorem out_fld {w : Wd} {Ex : XK} {c f : String} {x : D} {h : List O} {P : D → List O → Wd → Prop} (o : Out w Ex (pFld c f x h) P) : ∃ ns vs d, insOf c x h = some (ns, vs) ∧ fldOf f ns vs = some d ∧ Out w Ex ((ret d : M D) h) P := by
  unfold pFld at o
  cases e : insOf c x h with
  | none => rw [e] at o; exact o.elim
  | some p =>
    obtain ⟨ns, vs⟩ := p
    rw [e] at o
    obtain ⟨d, e2, o⟩ := out_opt o
    exact ⟨ns, vs, d, rfl, e2, o⟩
section
variable {X : Cx} {gd : Gd} {Ex : XK} {a b e o k z : Expr} {me mo mk mz : E} {pos p1 p2 apos cpos pos' : Pos} {c f : String} {C : Addr} {fs : Str}
/-- e.f -/
theorem R_fld (hc : gd.cl c = some C) (cl : Cls X.K C) (na : NoAttr X.K C (Str.ofString f)) (he : PE X e (tE X.K gd Ex me)) (hb : attributeBase e (Str.ofString f) X.env (eval e X.env) = eval e X.env := by rfl) : PE X (.Attribute e (Str.ofString f) pos) (tE X.K gd Ex (e1 (pFld c f) me)) := by
  refine PE.imp (pe_fld he hb) fun σ H Q h => ?_
  obtain ⟨w, h, aσ, wk, wg, rfl, r, s, o⟩ := h
  refine tE_bind wk wg r s o fun x h1 w1 v s1 k1 g1 r1 sl1 rx o1 => ?_
  obtain ⟨ns, vs, d, e1, e2, o⟩ := out_fld o1
  obtain ⟨p, C', dx', gs, rfl, g, q, en, rr⟩ := insOf_at r1 rx e1
  obtain rfl : C = C' := by rw [g1, hc] at g; exact Option.some.inj g
  obtain ⟨v, l, rv⟩ := fld_look en rr e2
  exact ⟨p, C, dx', gs, v, rfl, q, cl, na, l, out_val o r1 rv⟩
/-- o.f = e -/
theorem S_setFld (hc : gd.cl c = some C) (cl : Cls X.K C) (na : NoAttr X.K C (Str.ofString f)) (ho : PE X o (tE X.K gd Ex mo)) (he : PE X e (tE X.K gd Ex me)) (hs : swapsWith e (some (.Attribute o (Str.ofString f) pos')) pos.line X.env = pure false := by rfl) :
    PS X (.Assign [.Attribute o (Str.ofString f) pos'] e pos) (tS X.K gd Ex (sSetFld c f mo me)) := by
  refine PS.imp (ps_fld ho he hs) fun D σ H h => ?_
  obtain ⟨w0, w1, w, h, aσ, fr, st, wk, wg, rfl, r, sl, oo⟩ := h
  refine tS_E fr st wk wg r sl oo fun d h1 w2 v f1 s1 k1 g1 r1 sl1 rv o1 => ?_
  have rv1 := rv
  refine ⟨w2, h1, aσ, k1, g1, rfl, r1, sl1.sl, ?_⟩
  refine Out.mono (outS_out (h0 := h1) f1 s1 o1) fun od h2 w3 ⟨f2, s2, x2, r2, o2⟩ ov rov => ?_
  have sl2 := sl1.xs x2 r1
  cases es : setFld c f od d h2 with
  | none => simp only [es] at o2; exact o2.elim
  | some h4 =>
    simp only [es] at o2
    cases od with
    | ref n =>
      rw [rep_refI] at rov
      obtain ⟨B, hB, rfl⟩ := rov
      have es : (match h2[n]? with
        | some (.ins k ns vs) => if k = c ∧ vs.length = ns.length ∧ ns.length < 100 then some (h2.set n (.ins c (putNs f ns) (putVs f d ns vs))) else none
        | _ => none) = some h4 := es
      cases ez : h2[n]? with
      | none => rw [ez] at es; cases es
      | some ob =>
        rw [ez] at es
        cases ob with
        | lst _ => cases es
        | dct _ _ _ => cases es
        | ins k ns vs =>
          by_cases hk : k = c ∧ vs.length = ns.length ∧ ns.length < 100
          · simp only [if_pos hk] at es
            cases es
            obtain ⟨rfl, hl, hz⟩ := hk
            obtain ⟨C', dx', gs, g, q, en, rr⟩ := r2.obj n _ B ez hB
            obtain rfl : C = C' := by rw [x2.g, g1, hc] at g; exact Option.some.inj g
            have hlen : gs.length = ns.length := by
              have := congrArg List.length en
              rwa [List.length_map, List.length_map] at this
            obtain ⟨q1, q2⟩ := fld_put (f := f) (Rep.step x2.step _ _ rv1) en rr hl
            refine ⟨B, C, dx', gs, rfl, q, cl, na, by omega, ?_⟩
            have hm : B ∈ w3.ρ := List.mem_of_getElem? hB
            have hn : n < h2.length := (List.getElem?_eq_some_iff.mp ez).1
            have st4 := step_ref (o := .ins C dx' (putF (Str.ofString f) v gs)) hm
            exact o2 (w3.put B (.ins C dx' (putF (Str.ofString f) v gs))) σ (f2.xs st4) (s2.trans st4.step) (r2.setO hB q ins_notbl (fun f z => by cases z) ⟨C, dx', _, g, upd_same, q1, Reps.step st4.step _ _ q2⟩ hn) (sl2.xs st4 r2)
          · simp only [if_neg hk] at es; cases es
    | _ => cases es
/-- {} -/
theorem R_newDct : PE X (.Dict [] [] pos) (tE X.K gd Ex (eNewDct false)) := by
  refine PE.imp pe_dnewK fun σ H Q h => ?_
  obtain ⟨w, h, aσ, wk, wg, rfl, r, s, o⟩ := h
  intro p hp
  refine o (w.ext p (.dK [])) (xs_ext hp) (r.extO hp ⟨[], ⟨[], rfl, rfl, upd_same⟩, .nil⟩) _ ?_
  rw [rep_refI]
  refine ⟨p, ?_, rfl⟩
  show (w.ρ ++ [p])[h.length]? = some p
  rw [List.getElem?_append_right (by rw [r.len]; exact Nat.le_refl _), r.len, Nat.sub_self]; rfl
theorem R_newDctT : PE X (.Dict [] [] pos) (tE X.K gd Ex (eNewDct true)) := by
  refine PE.imp pe_dnewT fun σ H Q h => ?_
  obtain ⟨w, h, aσ, wk, wg, rfl, r, s, o⟩ := h
  intro p hp
  refine o (w.ext p (.dT [])) (xs_ext hp) (r.extO hp ⟨[], ⟨[], rfl, rfl, upd_same⟩, .nil⟩) _ ?_
  rw [rep_refI]
  refine ⟨p, ?_, rfl⟩
  show (w.ρ ++ [p])[h.length]? = some p
  rw [List.getElem?_append_right (by rw [r.len]; exact Nat.le_refl _), r.len, Nat.sub_self]; rfl
theorem rel_opt {w : Wd} {o : Option D} {ov : Option V} (h : (o = none ∧ ov = none) ∨ ∃ x y, o = some x ∧ ov = some y ∧ Rep w x y) : ov.isSome = o.isSome := by
  rcases h with ⟨rfl, rfl⟩ | ⟨x, y, rfl, rfl, _⟩ <;> rfl
/-- k in d -/
theorem in_imp {σ : L2.St} {H : Hp} {Q : VK} (h : tE X.K gd Ex (e2 pInDct mk mo) σ H Q) : tDIn (tE X.K gd Ex mk) (tE X.K gd Ex mo) σ H Q := by
  obtain ⟨w, h, aσ, wk, wg, rfl, r, s, o⟩ := h
  refine tE_bind wk wg r s o fun d h1 w1 v s1 k1 g1 r1 sl1 rv o1 => tE_bind k1 g1 r1 sl1 o1 fun d2 h2 w2 v2 s2 k2 g2 r2 sl2 rv2 o2 => ?_
  unfold pInDct at o2
  cases e : lookD d2 d h2 with
  | none => rw [e] at o2; exact o2.elim
  | some oo =>
    rw [e] at o2
    obtain ⟨a, ov, rfl, g, q⟩ := lookD_at r2 rv2 (Rep.step s2.step _ _ rv) e
    exact ⟨a, ov, rfl, g, out_val (show Out w2 Ex (ret (D.bl oo.isSome) h2) _ from o2) r2 (by rw [rep_bl, rel_opt q])⟩
theorem R_inDct (hu : X.A.units + 64 < cLine) (hk : PE X k (tE X.K gd Ex mk)) (ho : PE X o (tE X.K gd Ex mo)) (hm : behindInMarks .In o = false) : PE X (.Compare k [.In] [o] pos) (tE X.K gd Ex (e2 pInDct mk mo)) :=
  PE.imp (pe_cmp (pc_din (by omega) hk ho) hm) fun σ H Q h => in_imp h
theorem bool_inDct : Boolean pInDct := fun x y h => by
  unfold pInDct; cases lookD y x h <;> first | exact ⟨_, rfl⟩ | trivial
theorem tOf_2 {f : D → D → M D} (hf : Boolean f) {σ : L2.St} {H : Hp} {Q : Bool → Hp → Prop} (h : tT X.K gd Ex (tOf (e2 f mk mo)) σ H Q) : tE X.K gd Ex (e2 f mk mo) σ H fun x H1 => ∃ c, x = .bl c ∧ Q c H1 := by
  obtain ⟨w, h, aσ, wk, wg, rfl, r, s, o⟩ := h
  refine ⟨w, h, aσ, wk, wg, rfl, r, s, ?_⟩
  have o' : Out w Ex (e2 f mk mo aσ h) (fun a h1 w1 => Out w1 Ex (pTruth a h1) (fun b _ w' => Q b w'.H)) := Out.bind o
  cases e : e2 f mk mo aσ h with
  | no => rw [e] at o'; exact o'
  | er c vs h1 => rw [e] at o'; exact o'
  | ok d h1 =>
    rw [e] at o'
    have : ∃ b, d = .bl b := by
      have e : ((mk aσ h).next fun x h1 => (mo aσ h1).next fun y => f x y) = .ok d h1 := e
      cases e1 : mk aσ h with
      | no => rw [e1] at e; cases e
      | er _ _ _ => rw [e1] at e; cases e
      | ok x h2 =>
        rw [e1] at e
        have e : ((mo aσ h2).next fun y => f x y) = .ok d h1 := e
        cases e2 : mo aσ h2 with
        | no => rw [e2] at e; cases e
        | er _ _ _ => rw [e2] at e; cases e
        | ok y h3 =>
          rw [e2] at e
          have q := hf x y h3
          have e : f x y h3 = .ok d h1 := e
          rw [e] at q
          exact q
    obtain ⟨k, rfl⟩ := this
    intro w1 s1 r1 v rv
    rw [rep_bl] at rv
    exact ⟨k, rv, out_ret (o' w1 s1 r1) r1⟩
theorem T_inDct (hu : X.A.units + 64 < cLine) (hk : PE X k (tE X.K gd Ex mk)) (ho : PE X o (tE X.K gd Ex mo)) (hm : behindInMarks .In o = false) : PT X (.Compare k [.In] [o] pos) (tT X.K gd Ex (tOf (e2 pInDct mk mo))) :=
  PT.imp (pt_cmp (pc_din (by omega) hk ho) hm) fun σ H Q h => in_imp (tOf_2 bool_inDct h)
/-- d[k] -/
theorem R_idxDct (hu : X.A.units + 64 < cLine) (ho : PE X o (tE X.K gd Ex mo)) (hk : PE X k (tE X.K gd Ex mk)) (hs : NoSl k) : PE X (.Subscript o k pos) (tE X.K gd Ex (e2 pIdxDct mo mk)) := by
  refine PE.imp (pe_dget (by omega) ho hk hs) fun σ H Q h => ?_
  obtain ⟨w, h, aσ, wk, wg, rfl, r, s, o⟩ := h
  refine tE_bind wk wg r s o fun d h1 w1 v s1 k1 g1 r1 sl1 rv o1 => tE_bind k1 g1 r1 sl1 o1 fun d2 h2 w2 v2 s2 k2 g2 r2 sl2 rv2 o2 => ?_
  unfold pIdxDct at o2
  cases e : lookD d d2 h2 with
  | none => rw [e] at o2; exact o2.elim
  | some oo =>
    rw [e] at o2
    cases oo with
    | none => exact o2.elim
    | some x =>
      obtain ⟨a, ov, rfl, g, q⟩ := lookD_at r2 (Rep.step s2.step _ _ rv) rv2 e
      rcases q with ⟨h, _⟩ | ⟨x', y, h1, rfl, rx⟩
      · cases h
      · cases h1
        exact ⟨a, y, rfl, g, out_val (show Out w2 Ex (ret x h2) _ from o2) r2 rx⟩
theorem dctOf_isD {w : Wd} {h : List O} (r : RelH w h) {d : D} {v : V} (rv : Rep w d v) {p : Bool × List D × List D} (e : dctOf d h = some p) : ∃ a, v = .ref a ∧ IsD w.H a := by
  obtain ⟨t, ks, vs⟩ := p
  obtain ⟨a, xs, rfl, q, _⟩ := dctOf_at r rv e
  cases t with
  | true => obtain ⟨_, _, _, q3⟩ := q; exact ⟨a, rfl, .inr ⟨_, .inl q3⟩⟩
  | false => obtain ⟨_, _, _, q3⟩ := q; exact ⟨a, rfl, .inl ⟨_, .inl q3⟩⟩
/-- d.get(k, z) -/
theorem R_getD (hu : X.A.units + 64 < cLine) (ho : PE X o (tE X.K gd Ex mo)) (hk : PE X k (tE X.K gd Ex mk)) (hz : PE X z (tE X.K gd Ex mz)) (m : M2 X o "get" apos k z cpos) : PE X (.Call (.Attribute o "get" apos) [k, z] [] cpos) (tE X.K gd Ex (eGetD mo mk mz)) := by
  refine PE.imp (pe_dget2 (by omega) ho hk hz m) fun σ H Q h => ?_
  obtain ⟨w, h, aσ, wk, wg, rfl, r, s, o⟩ := h
  refine tE_bind wk wg r s o fun d h1 w1 v s1 k1 g1 r1 sl1 rv o1 => ?_
  cases e : dctOf d h1 with
  | none => simp only [e] at o1; exact o1.elim
  | some p =>
    simp only [e] at o1
    obtain ⟨a, rfl, isd⟩ := dctOf_isD r1 rv e
    refine ⟨a, rfl, isd, ?_⟩
    refine tE_bind k1 g1 r1 sl1 o1 fun d2 h2 w2 v2 s2 k2 g2 r2 sl2 rv2 o2 => tE_bind k2 g2 r2 sl2 o2 fun d3 h3 w3 v3 s3 k3 g3 r3 sl3 rv3 o3 => ?_
    cases e3 : lookD d d2 h3 with
    | none => simp only [e3] at o3; exact o3.elim
    | some oo =>
      simp only [e3] at o3
      obtain ⟨a', ov, ea, g, q⟩ := lookD_at r3 (Rep.step (s2.trans s3).step _ _ rv) (Rep.step s3.step _ _ rv2) e3
      cases ea
      refine ⟨ov, g, out_val (show Out w3 Ex (ret (oo.getD d3) h3) _ from o3) r3 ?_⟩
      rcases q with ⟨rfl, rfl⟩ | ⟨x, y, rfl, rfl, rx⟩
      · exact rv3
      · exact rx
/-- d[k] = e -/
theorem S_setDct (hu : X.A.units + 64 < cLine) (ho : PE X o (tE X.K gd Ex mo)) (hk : PE X k (tE X.K gd Ex mk)) (he : PE X e (tE X.K gd Ex me)) (hs : swapsWith e (some (.Subscript o k pos')) pos.line X.env = pure false := by rfl) :
    PS X (.Assign [.Subscript o k pos'] e pos) (tS X.K gd Ex (sSetDct mo mk me)) := by
  refine PS.imp (ps_dput (by omega) ho hk he hs) fun D σ H h => ?_
  obtain ⟨w0, w1, w, h, aσ, fr, st, wk, wg, rfl, r, sl, oo⟩ := h
  refine tS_E fr st wk wg r sl oo fun d h1 w2 v f1 s1 k1 g1 r1 sl1 rv o1 => ?_
  refine ⟨w2, h1, aσ, k1, g1, rfl, r1, sl1.sl, ?_⟩
  refine Out.mono (outS_out (h0 := h1) f1 s1 o1) fun od h2 w3 ⟨f2, s2, x2, r2, o2⟩ ov rov => ?_
  have sl2 := sl1.xs x2 r1
  refine ⟨w3, h2, aσ, x2.k.trans k1, x2.g.trans g1, rfl, r2, sl2.sl, ?_⟩
  refine Out.mono (outS_out (h0 := h2) f2 s2 o2) fun kd h3 w4 ⟨f3, s3, x3, r3, o3⟩ kv rkv => ?_
  have sl3 := sl2.xs x3 r2
  cases es : setDct od kd d h3 with
  | none => simp only [es] at o3; exact o3.elim
  | some h4 =>
    simp only [es] at o3
    obtain ⟨a, ob, ov', rfl, hm, g, r4, _⟩ := setDct_at r3 (Rep.step x3.step _ _ rov) rkv (Rep.step (x2.trans x3).step _ _ rv) es
    have st4 := step_ref (o := ob) hm
    exact ⟨a, _, rfl, g.put, o3 (w4.put a ob) σ (f3.xs st4) (s3.trans st4.step) r4 (sl3.xs st4 r3)⟩
/-- x.append(e), x in the heap -/
theorem S_appR (ho : PE X o (tE X.K gd Ex mo)) (he : PE X e (tE X.K gd Ex me))
    (hs : swapsWith (.Call (.Attribute o "append" apos) [e] [] cpos) none pos.line X.env = pure false := by rfl)
    (hbase : attributeBase o "append" X.env (eval o X.env) = eval o X.env := by rfl)
    (hfew : ((backTo cpos (starEach [e] X.env)).all (fun x => !x.1) && (backToKw cpos (keywordEach [] X.env)).all (fun x => x.1.isSome)
      && decide ([e].length + ([] : List Keyword).length + (if ([] : List Keyword).isEmpty then 0 else 1) < 30)) = true := by rfl)
    (hline : (apos.endLine == cpos.line) = true := by rfl) (hs2 : starEach [e] X.env = (false, eval e X.env) :: starEach [] X.env := by rfl) (hplain : (backTo cpos (starEach [] X.env)).any (·.1) = false := by rfl) :
    PS X (.Expr (.Call (.Attribute o "append" apos) [e] [] cpos) pos) (tS X.K gd Ex (sAppR mo me)) := by
  refine PS.imp (ps_expr (pe_bm PySem.F.plainAttrs_list PySem.F.slot_list_append PySem.F.type_list_append mt_append ho (A_cons he A_nil hs2) hbase hfew hline hs2 hplain) hs) fun D σ H h => ?_
  obtain ⟨w0, w1, w, h, aσ, fr, st, wk, wg, rfl, r, sl, oo⟩ := h
  unfold L2.tDrop L2.tBM
  refine tS_E fr st wk wg r sl oo fun d h1 w2 v f1 s1 k1 g1 r1 sl1 rv o1 => ?_
  cases d with
  | ref n =>
    rw [rep_refI] at rv
    obtain ⟨B, hB, rfl⟩ := rv
    have o1 : OutS w0 w1 Ex D (match h1[n]? with
      | some (.lst _) => (me aσ h1).stmt fun v h2 => match h2[n]? with
        | some (.lst xs) => if xs.length < LIM then .nx aσ (h2.set n (.lst (xs ++ [v]))) else .no
        | _ => .no
      | _ => .no) := o1
    cases ez : h1[n]? with
    | none => rw [ez] at o1; exact o1.elim
    | some ob =>
      rw [ez] at o1
      cases ob with
      | ins _ _ _ => exact o1.elim
      | dct _ _ _ => exact o1.elim
      | lst xs0 =>
        obtain ⟨ys0, q0, _⟩ := r1.obj n _ B ez hB
        refine .inl ⟨rfl, _, SqL.of q0⟩ |> fun t => ⟨t, ?_⟩
        have o1 : OutS w0 w1 Ex D ((evs [me] aσ h1).stmt fun vs h2 => match vs with
          | [v] => (match h2[n]? with
            | some (.lst xs) => if xs.length < LIM then .nx aσ (h2.set n (.lst (xs ++ [v]))) else .no
            | _ => .no)
          | _ => .no) := by
          have ee : evs [me] aσ h1 = (me aσ h1).next fun d => ret [d] := rfl
          rw [ee]
          cases ev : me aσ h1 with
          | ok d h2 => rw [ev] at o1; exact o1
          | er c vs h2 => rw [ev] at o1; exact o1
          | no => rw [ev] at o1; exact o1
        refine ⟨w2, h1, aσ, k1, g1, rfl, r1, sl1.sl, ?_⟩
        refine Out.mono (outS_out (h0 := h1) f1 s1 o1) fun vs h2 w3 ⟨f2, s2, x2, r2, o2⟩ us rvs => ?_
        have sl2 := sl1.xs x2 r1
        match vs, rvs, o2 with
        | [d], rvs, o2 =>
          have o2 : OutS w0 w1 Ex D (match h2[n]? with
            | some (.lst xs) => if xs.length < LIM then .nx aσ (h2.set n (.lst (xs ++ [d]))) else .no
            | _ => .no) := o2
          rw [Reps] at rvs
          obtain ⟨u, us', rfl, ru, rvs⟩ := rvs
          rw [Reps] at rvs
          subst rvs
          cases ey : h2[n]? with
          | none => rw [ey] at o2; exact o2.elim
          | some ob =>
            rw [ey] at o2
            cases ob with
            | ins _ _ _ => exact o2.elim
            | dct _ _ _ => exact o2.elim
            | lst xs =>
              have o2 : OutS w0 w1 Ex D (if xs.length < LIM then .nx aσ (h2.set n (.lst (xs ++ [d]))) else .no) := o2
              by_cases hl : xs.length < LIM
              · rw [if_pos hl] at o2
                have hB3 : w3.ρ[n]? = some B := prefix_get x2.pre hB
                obtain ⟨ys, q, rr⟩ := r2.obj n _ B ey hB3
                have hm : B ∈ w3.ρ := List.mem_of_getElem? hB3
                have hn : n < h2.length := (List.getElem?_eq_some_iff.mp ey).1
                have st4 := step_ref (o := .lst (ys ++ [u])) hm
                refine ⟨B, ys, u, rfl, rfl, q, by rw [rr.length]; exact Nat.lt_of_lt_of_le hl (by decide), ?_⟩
                exact o2 (w3.put B (.lst (ys ++ [u]))) σ (f2.xs st4) (s2.trans st4.step) (r2.setRef hB3 q (Reps.append rr (.cons ru .nil)) hn) (sl2.xs st4 r2)
              · rw [if_neg hl] at o2; exact o2.elim
        | [], _, o2 => exact o2.elim
        | _ :: _ :: _, _, o2 => exact o2.elim
  | _ => exact o1.elim
end
end Cf
set_option Elab.async false
set_option linter.all false
set_option maxRecDepth 100000
set_option maxHeartbeats 2000000
/-! CfVa: setdefault. -/
namespace Cf
open PySem PySem.Spec PyProof.Rows L2
section
variable {X : Cx} {o e f : Expr} {td ty tx : TE} {apos cpos : Pos}
def tSetG (td ty tx : TE) : TE := fun σ H Q => td σ H fun x H1 => ∃ a, x = .ref a ∧ IsD H1 a ∧ ty σ H1 fun y H2 => tx σ H2 fun z H3 => ∃ ov ob, DSet H3 a y ov z ob ∧ (∀ v, ov = some v → Q v H3) ∧ (ov = none → Q z (upd H3 a ob))
theorem pe_setG (hu : X.A.units + 1 < cLine) (ho : PE X o td) (he : PE X e ty) (hf : PE X f tx) (m : M2 X o "setdefault" apos e f cpos) : PE X (.Call (.Attribute o "setdefault" apos) [e, f] [] cpos) (tSetG td ty tx) := by
  refine ⟨fun pins s σ H Q I q0 => ?_⟩
  have hd := ho.run pins s σ H _ I q0
  refine wpAny_Call_method m.base m.few m.line PySem.F.plainAttrs_dict PySem.F.slot_dict_setdefault PySem.F.type_dict_setdefault (thn hd fun ov0 s1 hv => ?_)
  obtain ⟨x, H1, I1, rx, a, rfl, d, q1⟩ := hv
  obtain rfl : ov0 = Value.ref a := rx
  have ty1 := isD_at I1 d
  refine ⟨ty1.1, ty1.2.1, ?_⟩
  rw [m.trees]
  have key := he.run pins s1 σ H1 _ I1 q1
  refine Calls.callWith_builtin rfl (Calls.evalArgs_plain (Calls.spliced_cons (thn key fun kv s2 hk => ?_)))
  obtain ⟨y, H2, I2, ry, q2⟩ := hk
  have dfl := hf.run pins s2 σ H2 _ I2 q2
  refine Calls.spliced_cons (thn dfl fun zv s3 hz => Calls.spliced_nil ?_)
  obtain ⟨z, H3, I3, rz, ov, ob, g, q3, q4⟩ := hz
  exact d_setdG hu I3 g ry rz (fun v hv w' s4 I4 rw' => ⟨v, _, I4, rw', q3 v hv⟩) fun hn w' s4 I4 rw' => ⟨z, _, I4, rw', q4 hn⟩
end
theorem DSet.any {H : Hp} {a : Addr} {y z : V} {ov : Option V} {o : HO} (g : DSet H a y ov z o) (z' : V) : ∃ o', DSet H a y ov z' o' := by
  rcases g with ⟨kvs, k, e, ey, l, el, _⟩ | ⟨kvs, k, b, e, ey, eb, l, el, _⟩
  · exact ⟨_, .inl ⟨kvs, k, e, ey, l, el, rfl⟩⟩
  · exact ⟨_, .inr ⟨kvs, k, b, e, ey, eb, l, el, rfl⟩⟩
theorem dctOf_app {d : D} {h l : List O} {p : Bool × List D × List D} (e : dctOf d h = some p) : dctOf d (h ++ l) = some p := by
  cases d with
  | dct t ks vs => exact e
  | ref n =>
    have e : (match h[n]? with | some (.dct t ks vs) => some (t, ks, vs) | _ => none) = some p := e
    cases z : h[n]? with
    | none => rw [z] at e; cases e
    | some o =>
      have hn : n < h.length := (List.getElem?_eq_some_iff.mp z).1
      have z2 : (h ++ l)[n]? = some o := by rw [List.getElem?_append_left hn]; exact z
      rw [z] at e
      show (match (h ++ l)[n]? with | some (.dct t ks vs) => some (t, ks, vs) | _ => none) = some p
      rw [z2]; exact e
  | _ => cases e
theorem lookD_app {d k : D} {h l : List O} {r : Option D} (e : lookD d k h = some r) : lookD d k (h ++ l) = some r := by
  unfold lookD at e ⊢
  cases z : dctOf d h with
  | none => rw [z] at e; cases e
  | some p => rw [z] at e; rw [dctOf_app z]; exact e
section
variable {X : Cx} {gd : Gd} {Ex : XK} {o k z : Expr} {mo mk : E} {tz : TE} {apos cpos pos : Pos} {u : HO} {ob : O}
theorem R_setG (hu : X.A.units + 64 < cLine) (ho : PE X o (tE X.K gd Ex mo)) (hk : PE X k (tE X.K gd Ex mk)) (hz : PE X z (fun _ H Q => ∀ p, H p = none → Q (.ref p) (upd H p u))) (new : ∀ (w : Wd) (p : Addr), ORep (w.ext p u) p ob) (m : M2 X o "setdefault" apos k z cpos) :
    PE X (.Call (.Attribute o "setdefault" apos) [k, z] [] cpos) (tE X.K gd Ex (eSetdef ob mo mk)) := by
  refine PE.imp (pe_setG (by omega) ho hk hz m) fun σ H Q h => ?_
  obtain ⟨w, h, aσ, wk, wg, rfl, r, s, o⟩ := h
  refine tE_bind wk wg r s o fun d h1 w1 v s1 k1 g1 r1 sl1 rv o1 => ?_
  cases e : dctOf d h1 with
  | none => simp only [e] at o1; exact o1.elim
  | some pp =>
    simp only [e] at o1
    obtain ⟨a, rfl, isd⟩ := dctOf_isD r1 rv e
    refine ⟨a, rfl, isd, ?_⟩
    refine tE_bind k1 g1 r1 sl1 o1 fun d2 h2 w2 v2 s2 k2 g2 r2 sl2 rv2 o2 => fun p hp => ?_
    have rd2 := Rep.step s2.step _ _ rv
    unfold setdef at o2
    cases e2 : lookD d d2 h2 with
    | none => simp only [e2] at o2; exact o2.elim
    | some oo =>
      simp only [e2] at o2
      cases oo with
      | some vv =>
        cases e3 : setDct d d2 .non h2 with
        | none => simp only [e3] at o2; exact o2.elim
        | some h3 =>
          simp only [e3] at o2
          have xs := xs_put (o := u) hp
          have rp := r2.put (o := u) hp
          obtain ⟨a', ob', ov, ea, hm, g, _, q⟩ := setDct_at (w := w2.put p u) (y := .non) rp (Rep.step xs.step _ _ rd2) (Rep.step xs.step _ _ rv2) (by rw [rep_non]) e3
          cases ea
          obtain ⟨o', g'⟩ := g.any (.ref p)
          refine ⟨ov, o', g', fun v hv => ?_, fun hn => ?_⟩
          · rcases q with ⟨q1, q2⟩ | ⟨x, y, q1, q2, rx⟩
            · rw [q2] at hv; cases hv
            · rw [e2] at q1
              cases q1
              rw [q2] at hv
              cases hv
              exact (show Out w2 Ex ((ret vv : M D) h2) _ from o2) (w2.put p u) xs rp _ rx
          · rcases q with ⟨q1, q2⟩ | ⟨x, y, q1, q2, rx⟩
            · rw [e2] at q1; cases q1
            · rw [q2] at hn; cases hn
      | none =>
        cases e3 : setDct d d2 (.ref h2.length) (h2 ++ [ob]) with
        | none => simp only [e3] at o2; exact o2.elim
        | some h3 =>
          simp only [e3] at o2
          have xs := xs_ext (o := u) hp
          have rp := r2.extO hp (new w2 p)
          have rn : Rep (w2.ext p u) (.ref h2.length) (.ref p) := by
            rw [rep_refI]
            refine ⟨p, ?_, rfl⟩
            show (w2.ρ ++ [p])[h2.length]? = some p
            rw [List.getElem?_append_right (by rw [r2.len]; exact Nat.le_refl _), r2.len, Nat.sub_self]; rfl
          obtain ⟨a', ob', ov, ea, hm, g, r4, q⟩ := setDct_at (w := w2.ext p u) rp (Rep.step xs.step _ _ rd2) (Rep.step xs.step _ _ rv2) rn e3
          cases ea
          refine ⟨ov, ob', g, fun v hv => ?_, fun hn => ?_⟩
          · rcases q with ⟨q1, q2⟩ | ⟨x, y, q1, q2, rx⟩
            · rw [q2] at hv; cases hv
            · rw [lookD_app e2] at q1; cases q1
          · have st4 := step_ref (o := ob') hm
            exact (show Out w2 Ex ((ret (D.ref h2.length) : M D) h3) _ from o2) ((w2.ext p u).put a ob') (xs.trans st4) r4 _ (Rep.step st4.step _ _ rn)
theorem nu_lst : PE X (.List [] pos) (fun _ H Q => ∀ p, H p = none → Q (.ref p) (upd H p (.lst []))) := PE.imp (pe_lst pa_nil) fun σ H Q h => ⟨Nat.zero_le _, h⟩
theorem nu_dK : PE X (.Dict [] [] pos) (fun _ H Q => ∀ p, H p = none → Q (.ref p) (upd H p (.dK []))) := PE.imp pe_dnewK fun σ H Q h => h
/-- o.setdefault(k, []) -/
theorem R_setL (hu : X.A.units + 64 < cLine) (ho : PE X o (tE X.K gd Ex mo)) (hk : PE X k (tE X.K gd Ex mk)) (m : M2 X o "setdefault" apos k (.List [] pos) cpos) : PE X (.Call (.Attribute o "setdefault" apos) [k, .List [] pos] [] cpos) (tE X.K gd Ex (eSetdef (.lst []) mo mk)) :=
  R_setG hu ho hk nu_lst (fun w p => ⟨[], upd_same, .nil⟩) m
/-- o.setdefault(k, {}) -/
theorem R_setD (hu : X.A.units + 64 < cLine) (ho : PE X o (tE X.K gd Ex mo)) (hk : PE X k (tE X.K gd Ex mk)) (m : M2 X o "setdefault" apos k (.Dict [] [] pos) cpos) : PE X (.Call (.Attribute o "setdefault" apos) [k, .Dict [] [] pos] [] cpos) (tE X.K gd Ex (eSetdef (.dct false [] []) mo mk)) :=
  R_setG hu ho hk nu_dK (fun w p => ⟨[], ⟨[], rfl, rfl, upd_same⟩, .nil⟩) m
end
end Cf
set_option Elab.async false
set_option linter.all false
set_option maxRecDepth 100000
set_option maxHeartbeats 2000000
/-! CfVb: instances made, methods, properties. -/
namespace Cf
open PySem PySem.Spec PyProof.Rows L2

def Wd.cutW (w : Wd) (n : Nat) : Wd := { w with ρ := w.ρ.take n }
theorem take_get {α : Type} {l : List α} {n i : Nat} {a : α} (h : (l.take n)[i]? = some a) : i < n ∧ l[i]? = some a := by
  rw [List.getElem?_take] at h
  by_cases hi : i < n
  · rw [if_pos hi] at h; exact ⟨hi, h⟩
  · rw [if_neg hi] at h; cases h
theorem get_take {α : Type} {l : List α} {n i : Nat} {a : α} (hi : i < n) (h : l[i]? = some a) : (l.take n)[i]? = some a := by
  rw [List.getElem?_take, if_pos hi]; exact h
theorem frz_cut {w : Wd} {n : Nat} {a : Addr} (f : Frz w a) : Frz (w.cutW n) a := ⟨f.1, fun z => f.2 (List.mem_of_mem_take z)⟩
mutual
theorem low_rep {w : Wd} {n : Nat} : ∀ (d : D) (v : V), lowD n d = true → Rep w d v → Rep (w.cutW n) d v
  | .non, v, _, h => by rw [Rep] at h ⊢; exact h
  | .bl b, v, _, h => by rw [Rep] at h ⊢; exact h
  | .int i, v, _, h => by rw [Rep] at h ⊢; exact h
  | .str s, v, _, h => by rw [Rep] at h ⊢; exact h
  | .tup ds, v, l, h => by
    rw [lowD] at l
    rw [Rep] at h ⊢
    obtain ⟨p, xs, e, t, r⟩ := h
    exact ⟨p, xs, e, ⟨t.1, frz_cut t.2⟩, low_reps ds xs l r⟩
  | .lst ds, v, l, h => by
    rw [lowD] at l
    rw [Rep] at h ⊢
    obtain ⟨p, xs, e, t, r⟩ := h
    refine ⟨p, xs, e, ?_, low_reps ds xs l r⟩
    rcases t with t | t
    · exact .inl ⟨t.1, frz_cut t.2⟩
    · exact .inr t
  | .dct t ks vs, v, l, h => by
    rw [lowD] at l
    rw [Rep] at h ⊢
    obtain ⟨p, xs, e, d, f, r⟩ := h
    exact ⟨p, xs, e, d, frz_cut f, low_reps vs xs l r⟩
  | .obj c ns vs, v, l, h => by
    rw [lowD] at l
    rw [Rep] at h ⊢
    obtain ⟨p, C, dx, fs, e, g, t, f, en, r⟩ := h
    exact ⟨p, C, dx, fs, e, g, t, frz_cut f, en, low_reps vs _ l r⟩
  | .ref m, v, l, h => by
    rw [lowD] at l
    rw [Rep] at h ⊢
    obtain ⟨p, e, r⟩ := h
    exact ⟨p, get_take (of_decide_eq_true l) e, r⟩
theorem low_reps {w : Wd} {n : Nat} : ∀ (ds : List D) (xs : List V), lowDs n ds = true → Reps w ds xs → Reps (w.cutW n) ds xs
  | [], xs, _, h => by rw [Reps] at h ⊢; exact h
  | d :: ds, xs, l, h => by
    rw [lowDs, Bool.and_eq_true] at l
    rw [Reps] at h ⊢
    obtain ⟨x, r, e, h1, h2⟩ := h
    exact ⟨x, r, e, low_rep d x l.1 h1, low_reps ds r l.2 h2⟩
end
theorem RelH.cutW {w : Wd} {h : List O} (r : RelH w h) {n : Nat} (l : (h.take n).all (lowO n) = true) : RelH (w.cutW n) (h.take n) := by
  refine ⟨?_, List.Nodup.sublist (List.take_sublist _ _) r.nd, fun i o a e1 e2 => ?_, fun b hb => ?_, r.tT⟩
  · show (w.ρ.take n).length = _
    rw [List.length_take, List.length_take, r.len]
  · have lo := List.all_eq_true.mp l o (List.mem_of_getElem? e1)
    obtain ⟨hi, e1⟩ := take_get e1
    have e2 : (w.ρ.take n)[i]? = some a := e2
    obtain ⟨_, e2⟩ := take_get e2
    have q := r.obj i o a e1 e2
    cases o with
    | lst ds => obtain ⟨xs, e, q⟩ := q; exact ⟨xs, e, low_reps _ _ lo q⟩
    | ins c ns vs => obtain ⟨C, dx, fs, g, e, en, q⟩ := q; exact ⟨C, dx, fs, g, e, en, low_reps _ _ lo q⟩
    | dct t ks vs => obtain ⟨xs, e, q⟩ := q; exact ⟨xs, e, low_reps _ _ lo q⟩
  · obtain ⟨q, nb⟩ := r.own b hb
    exact ⟨q, fun z => nb (List.mem_of_mem_take z)⟩
theorem new_frz {w : Wd} {h : List O} (r : RelH w h) {n m : Nat} {a : Addr} (hm : n ≤ m) (e : w.ρ[m]? = some a) : Frz (w.cutW n) a := by
  refine ⟨fun z => (r.own a z).2 (List.mem_of_getElem? e), fun z => ?_⟩
  obtain ⟨i, hi, e2⟩ := List.getElem_of_mem (show a ∈ w.ρ.take n from z)
  have e2 : (w.ρ.take n)[i]? = some a := by rw [List.getElem?_eq_getElem hi, e2]
  obtain ⟨h1, h2⟩ := take_get e2
  have := nd_ix r.nd e h2
  omega
theorem mapM_reps {w w' : Wd} {f : D → Option D} : ∀ {ds ds' : List D} {xs : List V}, (∀ d v d', f d = some d' → Rep w d v → Rep w' d' v) → ds.mapM f = some ds' → Reps w ds xs → Reps w' ds' xs
  | [], ds', xs, _, e, r => by
    rw [List.mapM_nil] at e
    cases e
    rw [Reps] at r ⊢; exact r
  | d :: ds, ds', xs, q, e, r => by
    rw [List.mapM_cons] at e
    obtain ⟨d1, e1, e⟩ := Option.bind_eq_some_iff.mp e
    obtain ⟨ds1, e2, e⟩ := Option.bind_eq_some_iff.mp e
    cases e
    rw [Reps] at r
    obtain ⟨x, r', rfl, h1, h2⟩ := r
    exact .cons (q d x d1 e1 h1) (mapM_reps q e2 h2)
theorem fz_rep {w : Wd} {h : List O} (r : RelH w h) {n : Nat} : ∀ (k : Nat) (d : D) (v : V) (d' : D), fz k h n d = some d' → Rep w d v → Rep (w.cutW n) d' v := by
  intro k
  induction k with
  | zero => intro d v d' e _; rw [fz] at e; cases e
  | succ k ih =>
    intro d v d' e rv
    have plain : lowD n d = true → d' = d → Rep (w.cutW n) d' v := fun l e => by rw [e]; exact low_rep d v l rv
    cases d with
    | ref m =>
      rw [fz] at e
      by_cases hm : n ≤ m
      · rw [if_pos hm] at e
        rw [rep_refI] at rv
        obtain ⟨a, ea, rfl⟩ := rv
        have fa := new_frz r hm ea
        cases z : h[m]? with
        | none => rw [z] at e; cases e
        | some o =>
          rw [z] at e
          have q := r.obj m o a z ea
          cases o with
          | lst xs =>
            obtain ⟨ys, e1, rfl⟩ := Option.map_eq_some_iff.mp e
            obtain ⟨us, e2, rr⟩ := q
            rw [rep_lst_iff]
            exact ⟨a, us, rfl, .inl ⟨.inl e2, fa⟩, mapM_reps ih e1 rr⟩
          | ins c ns vs =>
            obtain ⟨ys, e1, rfl⟩ := Option.map_eq_some_iff.mp e
            obtain ⟨C, dx, fs, g, e2, en, rr⟩ := q
            rw [Rep]
            exact ⟨a, C, dx, fs, rfl, g, e2, fa, en, mapM_reps ih e1 rr⟩
          | dct t ks vs =>
            obtain ⟨ys, e1, rfl⟩ := Option.map_eq_some_iff.mp e
            obtain ⟨us, e2, rr⟩ := q
            rw [Rep]
            exact ⟨a, us, rfl, e2, fa, mapM_reps ih e1 rr⟩
      · rw [if_neg hm] at e; cases e
    | lst xs =>
      rw [fz] at e
      by_cases hl : lowDs n xs = true
      · rw [if_pos hl] at e
        exact plain (by rw [lowD]; exact hl) (Option.some.inj e).symm
      · rw [if_neg hl] at e
        obtain ⟨ys, e1, rfl⟩ := Option.map_eq_some_iff.mp e
        rw [rep_lst_iff] at rv ⊢
        obtain ⟨p, us, rfl, t, rr⟩ := rv
        refine ⟨p, us, rfl, ?_, mapM_reps ih e1 rr⟩
        rcases t with t | t
        · exact .inl ⟨t.1, frz_cut t.2⟩
        · exact .inr t
    | _ =>
      rw [fz] at e
      rotate_left
      all_goals first
        | (intros; exact D.noConfusion ‹_›)
        | skip
      split at e
      · exact plain (by assumption) (Option.some.inj e).symm
      · cases e
section
variable {X : Cx} {gd : Gd} {Ex : XK} {k : Nat} {f C p g : Addr} {fd : FuncData} {ps : List Str} {m : List D → M D} {x : Str} {c : String} {p1 pos apos : Pos} {e o : Expr} {es : List Expr} {me mo : E} {mes : List E}
theorem isNon_eq {d : D} (h : isNon d = true) : d = .non := by cases d <;> first | rfl | cases h
theorem xs_make {w : Wd} {a dx : Addr} {C : Addr} (hx : w.H a = none) (hd : w.H dx = none) (ne : dx ≠ a) : XS w ((w.put dx (.own a)).ext a (.ins C dx [])) :=
  (xs_put hd).trans (xs_ext (by show upd w.H dx _ a = none; rw [upd_ne (Ne.symm ne)]; exact hx))
theorem make_core {w1 : Wd} {h1 : List O} {ds : List D} {vs : List V} {a dx : Addr} {P : D → List O → Wd → Prop} (k1 : w1.K = X.K) (g1 : w1.gd = gd) (r1 : RelH w1 h1) (rs : Reps w1 ds vs) (hc : gd.cl c = some C) (hx : w1.H a = none) (hd : w1.H dx = none) (ne : dx ≠ a) {F : D → List O → R D}
    (o : Out w1 Ex (match m (.ref h1.length :: ds) (h1 ++ [.ins c [] []]) with | .ok d h2 => F d h2 | .er k vs h2 => .er k vs h2 | .no => .no) P) {Q : VK}
    (fin : ∀ d h2 w2, XS ((w1.put dx (.own a)).ext a (.ins C dx [])) w2 → RelH w2 h2 → Rep w2 (.ref h1.length) (.ref a) → Out w1 Ex (F d h2) P → d = .non ∧ Q (.ref a) w2.H) :
    spM X.K gd m (.ref a :: (vs ++ [])) (upd (upd w1.H dx (.own a)) a (.ins C dx [])) (fun v H2 => v = .non ∧ Q (.ref a) H2) Ex := by
  rw [List.append_nil]
  have xs := xs_make (C := C) hx hd ne
  have hx' : (w1.put dx (.own a)).H a = none := by show upd w1.H dx _ a = none; rw [upd_ne (Ne.symm ne)]; exact hx
  have rp : RelH ((w1.put dx (.own a)).ext a (.ins C dx [])) (h1 ++ [.ins c [] []]) :=
    (r1.put hd).extO hx' ⟨C, dx, [], by show w1.gd.cl c = some C; rw [g1]; exact hc, upd_same, rfl, .nil⟩
  have rn : Rep ((w1.put dx (.own a)).ext a (.ins C dx [])) (.ref h1.length) (.ref a) := by
    rw [rep_refI]
    refine ⟨a, ?_, rfl⟩
    show (w1.ρ ++ [a])[h1.length]? = some a
    rw [List.getElem?_append_right (by rw [r1.len]; exact Nat.le_refl _), r1.len, Nat.sub_self]; rfl
  refine ⟨(w1.put dx (.own a)).ext a (.ins C dx []), h1 ++ [.ins c [] []], .ref h1.length :: ds, k1, g1, rfl, rp, .cons rn (rs.xs xs), ?_⟩
  cases em : m (.ref h1.length :: ds) (h1 ++ [.ins c [] []]) with
  | no => rw [em] at o; exact o.elim
  | er kk us h2 =>
    rw [em] at o
    exact fun w2 C' dx' s2 r2 e1 e2 => o w2 C' dx' (xs.trans s2) r2 e1 e2
  | ok d h2 =>
    rw [em] at o
    intro w2 s2 r2 v rv
    obtain ⟨rfl, q⟩ := fin d h2 w2 s2 r2 (Rep.step s2.step _ _ rn) o
    rw [rep_non] at rv
    exact ⟨rv, q⟩
/-- C(..), the instance never changes behind it -/
theorem R_make (M : Mk X.K C f) (hc : gd.cl c = some C) (F : FnOk X.prog X.w X.K X.mg X.base (L2.CX X.prog X.w) k f fd ps (spM X.K gd m)) (hr : Room (k + 1) X.A) (hg : Gl X x) (hm : X.mg x = some (.ref C)) (hb : Binds X.K fd ps []) (hx : Passes (L2.CX X.prog X.w) X Ex)
    (ha : PA X (e :: es) (tA X.K gd Ex mes)) (hdb : (x == ("__debug__" : Str)) = false := by decide) (he : starEach (e :: es) X.env = (false, eval e X.env) :: starEach es X.env := by rfl) (hpl : (backTo pos (starEach es X.env)).any (·.1) = false := by rfl) :
    PE X (.Call (.Name x p1) (e :: es) [] pos) (tE X.K gd Ex (eMake c m mes)) := by
  refine PE.imp (pe_make M F hr hg hm hb .nil hx ha hdb he hpl) fun σ H Q h => ?_
  obtain ⟨w, h, aσ, wk, wg, rfl, r, s, o⟩ := h
  refine tA_bind wk wg r s o fun ds h1 w1 vs s1 k1 g1 r1 sl1 rs o1 => fun a dx hx hd ne => ?_
  refine make_core (F := fun d h2 => if isNon d = true ∧ (h2.take h1.length).all (lowO h1.length) = true then match fz 6 h2 h1.length (.ref h1.length) with
    | some v => .ok v (h2.take h1.length)
    | none => .no
    else .no) k1 g1 r1 rs hc hx hd ne o1 fun d h2 w2 s2 r2 rn o2 => ?_
  by_cases hn : isNon d = true ∧ (h2.take h1.length).all (lowO h1.length) = true
  · rw [if_pos hn] at o2
    cases ef : fz 6 h2 h1.length (.ref h1.length) with
    | none => rw [ef] at o2; exact o2.elim
    | some v =>
      rw [ef] at o2
      refine ⟨isNon_eq hn.1, ?_⟩
      have xs := xs_make (C := C) hx hd ne
      have xa := xs.trans s2
      refine o2 (w2.cutW h1.length) ⟨xa.k, xa.g, xa.n, ?_, fun b u e n t => ?_⟩ (r2.cutW hn.2) _ (fz_rep r2 6 _ _ _ ef rn)
      · show w1.ρ <+: w2.ρ.take h1.length
        obtain ⟨t, et⟩ := xa.pre
        rw [← et, ← r1.len, List.take_left]
        exact List.prefix_refl _
      · obtain ⟨q1, q2⟩ := xa.keep b u e n t
        exact ⟨q1, fun z => q2 (List.mem_of_mem_take z)⟩
  · rw [if_neg hn] at o2; exact o2.elim
/-- C(..), an instance that changes -/
theorem R_makeR (M : Mk X.K C f) (hc : gd.cl c = some C) (F : FnOk X.prog X.w X.K X.mg X.base (L2.CX X.prog X.w) k f fd ps (spM X.K gd m)) (hr : Room (k + 1) X.A) (hg : Gl X x) (hm : X.mg x = some (.ref C)) (hb : Binds X.K fd ps []) (hx : Passes (L2.CX X.prog X.w) X Ex)
    (ha : PA X (e :: es) (tA X.K gd Ex mes)) (hdb : (x == ("__debug__" : Str)) = false := by decide) (he : starEach (e :: es) X.env = (false, eval e X.env) :: starEach es X.env := by rfl) (hpl : (backTo pos (starEach es X.env)).any (·.1) = false := by rfl) :
    PE X (.Call (.Name x p1) (e :: es) [] pos) (tE X.K gd Ex (eMakeR c m mes)) := by
  refine PE.imp (pe_make M F hr hg hm hb .nil hx ha hdb he hpl) fun σ H Q h => ?_
  obtain ⟨w, h, aσ, wk, wg, rfl, r, s, o⟩ := h
  refine tA_bind wk wg r s o fun ds h1 w1 vs s1 k1 g1 r1 sl1 rs o1 => fun a dx hx hd ne => ?_
  refine make_core (F := fun d h2 => if isNon d = true then .ok (.ref h1.length) h2 else .no) k1 g1 r1 rs hc hx hd ne o1 fun d h2 w2 s2 r2 rn o2 => ?_
  by_cases hn : isNon d = true
  · rw [if_pos hn] at o2
    exact ⟨isNon_eq hn, o2 w2 ((xs_make (C := C) hx hd ne).trans s2) r2 _ rn⟩
  · rw [if_neg hn] at o2; exact o2.elim
theorem look_none {f : String} : ∀ {ns : List String} {fs : List (Str × V)}, fs.map (·.1) = ns.map Str.ofString → f ∉ ns → fs.lookup (Str.ofString f) = none
  | [], [], _, _ => rfl
  | [], _ :: _, e, _ => by cases e
  | _ :: _, [], e, _ => by cases e
  | n :: ns, (g, y) :: fs, e, h => by
    rw [List.map_cons, List.map_cons] at e
    obtain ⟨e1, e2⟩ := List.cons.inj e
    have e1 : g = Str.ofString n := e1
    rw [List.lookup_cons, e1]
    have : (Str.ofString f == Str.ofString n) = false := beq_eq_false_iff_ne.mpr fun z => h (by rw [str_inj z]; exact List.mem_cons_self)
    rw [this]
    exact look_none e2 fun z => h (List.mem_cons_of_mem _ z)
/-- o.f(..) -/
theorem R_meth {nm : String} {pl : Sem Bool} (hc : gd.cl c = some C) (cl : Cls X.K C) (hm : Meth X.K C (Str.ofString nm) f) (F : FnOk X.prog X.w X.K X.mg X.base (L2.CX X.prog X.w) k f fd ps (spM X.K gd m)) (hr : Room k X.A) (hb : Binds X.K fd ps []) (hx : Passes (L2.CX X.prog X.w) X Ex)
    (ho : PE X o (tE X.K gd Ex mo)) (ha : PA X (e :: es) (tA X.K gd Ex mes)) (hst : starEach (e :: es) X.env = (false, eval e X.env) :: starEach es X.env := by rfl) (hpl : (backTo pos (starEach es X.env)).any (·.1) = false := by rfl)
    (ht : eval (.Call (.Attribute o (Str.ofString nm) apos) (e :: es) [] pos) X.env = (do
      let ov ← eval o X.env
      standAt apos.atName
      let (f, first) ← holding [ov] (getMethod ov (Str.ofString nm) pl)
      callWith pos f first (backTo pos (starEach (e :: es) X.env)) (backToKw pos (keywordEach [] X.env))) := by rfl) :
    PE X (.Call (.Attribute o (Str.ofString nm) apos) (e :: es) [] pos) (tE X.K gd Ex (eMeth c nm m mo mes)) := by
  refine PE.imp (pe_meth ho cl hm F hr hb .nil hx ha hst hpl ht) fun σ H Q h => ?_
  obtain ⟨w, h, aσ, wk, wg, rfl, r, s, o⟩ := h
  refine tE_bind wk wg r s o fun d h1 w1 v s1 k1 g1 r1 sl1 rv o1 => ?_
  cases ei : insOf c d h1 with
  | none => simp only [ei] at o1; exact o1.elim
  | some q =>
    obtain ⟨ns, vs⟩ := q
    simp only [ei] at o1
    by_cases hf : nm ∈ ns
    · rw [if_pos hf] at o1; exact o1.elim
    · rw [if_neg hf] at o1
      obtain ⟨a, C', dx, fs, rfl, g, q, en, rr⟩ := insOf_at r1 rv ei
      obtain rfl : C = C' := by rw [g1, hc] at g; exact Option.some.inj g
      refine ⟨a, dx, fs, rfl, q, look_none en hf, ?_⟩
      refine tA_bind k1 g1 r1 sl1 o1 fun ds h2 w2 us s2 k2 g2 r2 sl2 rs o2 => ?_
      show spM X.K gd m (.ref a :: (us ++ [])) w2.H Q Ex
      rw [List.append_nil]
      exact ⟨w2, h2, d :: ds, k2, g2, rfl, r2, .cons (Rep.step s2.step _ _ rv) rs, o2⟩
/-- o.f() -/
theorem R_meth0 {nm : String} {pl : Sem Bool} (hc : gd.cl c = some C) (cl : Cls X.K C) (hm : Meth X.K C (Str.ofString nm) f) (F : FnOk X.prog X.w X.K X.mg X.base (L2.CX X.prog X.w) k f fd ps (spM X.K gd m)) (hr : Room k X.A) (hb : Binds X.K fd ps []) (hx : Passes (L2.CX X.prog X.w) X Ex)
    (ho : PE X o (tE X.K gd Ex mo))
    (ht : eval (.Call (.Attribute o (Str.ofString nm) apos) [] [] pos) X.env = (do
      let ov ← eval o X.env
      standAt apos.atName
      let (f, first) ← holding [ov] (getMethod ov (Str.ofString nm) pl)
      callWith pos f first (backTo pos (starEach [] X.env)) (backToKw pos (keywordEach [] X.env))) := by rfl) :
    PE X (.Call (.Attribute o (Str.ofString nm) apos) [] [] pos) (tE X.K gd Ex (eMeth c nm m mo [])) := by
  refine PE.imp (pe_meth0 ho cl hm F hr hb .nil hx ht) fun σ H Q h => ?_
  obtain ⟨w, h, aσ, wk, wg, rfl, r, s, o⟩ := h
  refine tE_bind wk wg r s o fun d h1 w1 v s1 k1 g1 r1 sl1 rv o1 => ?_
  cases ei : insOf c d h1 with
  | none => simp only [ei] at o1; exact o1.elim
  | some q =>
    obtain ⟨ns, vs⟩ := q
    simp only [ei] at o1
    by_cases hf : nm ∈ ns
    · rw [if_pos hf] at o1; exact o1.elim
    · rw [if_neg hf] at o1
      obtain ⟨a, C', dx, fs, rfl, g, q, en, rr⟩ := insOf_at r1 rv ei
      obtain rfl : C = C' := by rw [g1, hc] at g; exact Option.some.inj g
      exact ⟨a, dx, fs, rfl, q, look_none en hf, ⟨w1, h1, [d], k1, g1, rfl, r1, .cons rv .nil, o1⟩⟩
theorem passNo {CX : CXT} (h : ∀ K H s e s', ¬ CX K H s (fun _ _ _ => False) e s') : Passes CX X E0 := fun _ _ H s e s' _ q => (h _ _ _ _ _ q).elim
/-- o.f, a property -/
theorem R_prop {nm : String} (hc : gd.cl c = some C) (cl : Cls X.K C) (hp : PropOf X.K C (Str.ofString nm) p g) (F : FnOk X.prog X.w X.K X.mg X.base (L2.CX X.prog X.w) k g fd ps (spM X.K gd m)) (hr : Room (k + 1) X.A) (hb : Binds X.K fd ps []) (hx : Passes (L2.CX X.prog X.w) X.nox E0)
    (ho : PE X o (tE X.K gd Ex mo)) (hab : attributeBase o (Str.ofString nm) X.env (eval o X.env) = eval o X.env := by rfl) : PE X (.Attribute o (Str.ofString nm) pos) (tE X.K gd Ex (e1 (pProp c m) mo)) := by
  refine PE.imp (pe_prop ho cl hp F hr hb .nil hx hab) fun σ H Q h => ?_
  obtain ⟨w, h, aσ, wk, wg, rfl, r, s, o⟩ := h
  refine tE_bind wk wg r s o fun d h1 w1 v s1 k1 g1 r1 sl1 rv o1 => ?_
  unfold pProp at o1
  cases ei : insOf c d h1 with
  | none => simp only [ei] at o1; exact o1.elim
  | some q =>
    obtain ⟨ns, vs⟩ := q
    simp only [ei] at o1
    obtain ⟨a, C', dx, fs, rfl, g, q, en, rr⟩ := insOf_at r1 rv ei
    obtain rfl : C = C' := by rw [g1, hc] at g; exact Option.some.inj g
    refine ⟨a, dx, fs, rfl, q, ⟨w1, h1, [d], k1, g1, rfl, r1, .cons rv .nil, ?_⟩⟩
    unfold noer at o1
    cases em : m [d] h1 with
    | no => rw [em] at o1; exact o1
    | er kk us h2 => rw [em] at o1; exact o1.elim
    | ok z h2 => rw [em] at o1; exact o1
end
end Cf
set_option Elab.async false
set_option linter.all false
set_option maxRecDepth 100000
set_option maxHeartbeats 3200000
/-! CfVs: sets of texts made of a list, and sorted. -/
namespace Cf
open PySem PySem.Spec PyProof.Rows L2

def keyX (e : Int × Value) : Str := match e.2 with | .str k _ => k | _ => Str.empty
def GoodX (w : World) (e : Int × Value) : Prop := ∃ k tk, e.2 = Value.str k tk ∧ e.1 = hashStr w k

def SetX (w : World) (h : Heap) (a : Addr) (S : Str → Bool) (n : Nat) : Prop :=
  ∃ o es ep t, h.get? a = some o ∧ o.ExactSet ∧ o.data = .set es ep t ∧ (∀ e ∈ es.toList, GoodX w e) ∧ (es.toList.map keyX).Nodup ∧ (∀ k, S k = true ↔ k ∈ es.toList.map keyX) ∧
    es.size < scanBound ∧ t.fits es.size = true ∧ es.size = n ∧ Ris t.place.toList ∧ (w.params.followText "set-order" = true ∨ t.led = true)

section
variable {P : Program} {w : World} {h h' : Heap} {a : Addr} {S : Str → Bool} {n : Nat}

theorem SetX.at (R : SetX w h a S n) (k : ∀ o, h.get? a = some o → h'.get? a = some o) : SetX w h' a S n := by
  obtain ⟨o, es, ep, t, hobj, r⟩ := R
  exact ⟨o, es, ep, t, k o hobj, r⟩
theorem SetX.lt (R : SetX w h a S n) : a < h.objs.size := by
  obtain ⟨o, es, ep, t, hobj, r⟩ := R
  exact Heap.lt_size hobj
theorem SetX.congr {S' : Str → Bool} (R : SetX w h a S n) (e : ∀ k, S' k = S k) : SetX w h a S' n := by
  have q : S' = S := funext e
  rw [q]; exact R
theorem goodX_elems {l : List (Int × Value)} (g : ∀ e ∈ l, GoodX w e) : ElemsOf (strKind P w) l := fun e he => by
  obtain ⟨k, tk, hh1, hh2⟩ := g e he
  exact ⟨⟨k, by rw [hh1]; exact strKind_is P w k tk, hh2⟩, by rw [hh1] <;> rfl⟩
theorem goodX_is {e : Int × Value} (g : GoodX w e) (k : Str) : (strKind P w).is k e.2 = true ↔ keyX e = k := by
  obtain ⟨k0, tk, hh1, _⟩ := g
  unfold keyX
  rw [hh1]
  show ((k0 == k) = true) ↔ k0 = k
  exact beq_iff_eq
theorem goodX_mem {l : List (Int × Value)} (g : ∀ e ∈ l, GoodX w e) (k : Str) : k ∈ l.map keyX ↔ ∃ e ∈ l, (strKind P w).is k e.2 = true := by
  rw [List.mem_map]
  constructor
  · rintro ⟨e, he, q⟩
    exact ⟨e, he, (goodX_is (g e he) k).2 q⟩
  · rintro ⟨e, he, q⟩
    exact ⟨e, he, (goodX_is (g e he) k).1 q⟩
theorem SetX.setOf (R : SetX w h a S n) : h.SetOf (strKind P w) a S n := by
  obtain ⟨o, es, ep, t, hobj, hx, hdat, g, dup0, hmem, hsmall, hfits, hnum, _⟩ := R
  exact ⟨o, es, ep, t, hobj, hx, hdat, goodX_elems g, fun k => (hmem k).trans (goodX_mem g k), hsmall, hfits, hnum⟩
end

section
variable {P : Program} {w : World} {A : Around} {E : Value → Shared → Prop} {s : Shared} {a : Addr} {S : Str → Bool} {n : Nat}
theorem setX_add_tail {g : Bool → Sem Unit} (hg : ∀ (b : Bool) (s₁ : Shared) (Q' : Unit → Shared → Prop), Q' () s₁ → wpAny (model P w) A (g b) Q' E s₁)
    {o : Obj} {es : Array (Int × Value)} {ep : Nat} {t : SetTable} (hobj : s.heap.get? a = some o) (hexact : o.ExactSet) (hdat : o.data = .set es ep t)
    {es1 : Array (Int × Value)} {t2 : SetTable} {S' : Str → Bool} (good1 : ∀ e ∈ es1.toList, GoodX w e) (dup1 : (es1.toList.map keyX).Nodup) (mem1 : ∀ k, S' k = true ↔ k ∈ es1.toList.map keyX)
    (small1 : es1.size < scanBound) (hf2 : t2.fits es1.size = true) (hrise : Ris t2.place.toList) (hled0 : w.params.followText "set-order" = true ∨ t2.led = true) {wasDummy : Bool} {R : Option Bool → Shared → Prop}
    (kend : ∀ h', Heap.SameBut a s.heap h' → SetX w h' a S' es1.size → R (some true) { s with heap := h' }) :
    wpAny (model P w) A (do
        storeSet a es1 t2
        if (!wasDummy && t2.tooFull) = true then do
            g (relayAll t2 es1 (SetTable.grown es1.size)).2.2
            storeSet a (relayAll t2 es1 (SetTable.grown es1.size)).1 (relayAll t2 es1 (SetTable.grown es1.size)).2.1
            pure (some true)
          else pure (some true)) R E s := by
  refine wpAny_bind (wpAny_storeSet_of hobj hdat ?_ (fits_of_scanBound small1))
  have ho1 := store_at (es' := es1) (t' := t2) hobj hdat
  have sb1 := Heap.SameBut.update s.heap a (Obj.putSet es1 t2)
  split
  · have perm0 := relayAll_perm t2 es1 (SetTable.grown es1.size)
    have hf3 := relayAll_fits t2 es1 (SetTable.grown es1.size)
    have hr3 := relayAll_ris t2 es1 (SetTable.grown es1.size)
    have hl3 := relayAll_led t2 es1 (SetTable.grown es1.size)
    generalize relayAll t2 es1 (SetTable.grown es1.size) = Z at perm0 hf3 hr3 hl3 ⊢
    obtain ⟨es2, t3, gave⟩ := Z
    dsimp only at perm0 hf3 hr3 hl3 ⊢
    have size1 : es2.size = es1.size := by rw [← Array.length_toList, perm0.length_eq, Array.length_toList]
    have hb2 : es2.size < scanBound := by rw [size1]; exact small1
    refine wpAny_bind (hg _ _ _ ?_)
    refine wpAny_bind (wpAny_storeSet_of ho1 rfl ?_ (fits_of_scanBound hb2))
    have ho2 := store_at (es' := es2) (t' := t3) ho1 rfl
    refine wpAny_pure (kend _ (sb1.trans (Heap.SameBut.update _ a _)) ?_)
    exact ⟨_, es2, _, t3, ho2, hexact, rfl, fun e he => good1 e (perm0.mem_iff.mp he), (perm0.map keyX).nodup_iff.mpr dup1, fun k => (mem1 k).trans (perm0.map keyX).mem_iff.symm, hb2, hf3, size1, hr3,
      hled0.imp id fun z => by rw [hl3]; exact z⟩
  · exact wpAny_pure (kend _ sb1 ⟨_, es1, _, t2, ho1, hexact, rfl, good1, dup1, mem1, small1, hf2, rfl, hrise, hled0⟩)

theorem setX_add_hashed {k : Str} {tk : Tok} {Q : Bool → Shared → Prop} (R : SetX w s.heap a S n) (room : n + 1 < scanBound)
    (kont : ∀ h', Heap.SameBut a s.heap h' → SetX w h' a (fun j => S j || decide (j = k)) (if S k = true then n else n + 1) → Q (!S k) { s with heap := h' }) :
    wpAny (model P w) A (setAddHashed a (.str k tk) ((strKind P w).hash k)) Q E s := by
  obtain ⟨o, es, ep, t, hobj, hexact, hdat, g, dup0, hmem, hsmall, hfits, hnum, hrise, hled0⟩ := R
  have hkey : (strKind P w).is k (.str k tk) = true := strKind_is P w k tk
  have hsc : (Value.str k tk).scannable = true := rfl
  have hel : ElemsOf (strKind P w) es.toList := goodX_elems g
  unfold setAddHashed setAddHashedIn
  refine wpAny_holding (wpAny_bind (wpAny_setState_of hobj hdat hfits ?_))
  dsimp only
  rw [byScan_of hsc hsmall hel]
  simp only [↓reduceIte]
  unfold setAddByScan
  refine wpAny_bind ?_
  refine wpAny_bind (wpAny_rule ?_)
  refine wpAny_bind (wpAny_setScan_of hkey hobj hdat hfits hel ?_)
  cases hfi : List.findIdx? (fun e => (strKind P w).is k e.2) es.toList with
  | some j =>
    dsimp only
    obtain ⟨hj, pj, _⟩ := List.findIdx?_eq_some_iff_getElem.mp hfi
    have hSat : S k = true := (hmem k).2 ((goodX_mem (P := P) (w := w) g k).2 ⟨es.toList[j], List.getElem_mem hj, pj⟩)
    refine wpAny_pure (wpAny_pure ?_)
    have q := kont s.heap (Heap.SameBut.refl a s.heap) ⟨o, es, ep, t, hobj, hexact, hdat, g, dup0, fun i => by
      rw [Bool.or_eq_true, decide_eq_true_eq, ← hmem i]
      exact ⟨fun z => z.elim id (fun e => e ▸ hSat), .inl⟩, hsmall, hfits, by rw [if_pos hSat]; exact hnum, hrise, hled0⟩
    rw [hSat] at q
    exact q
  | none =>
    dsimp only
    have hfresh : k ∉ es.toList.map keyX := fun z => by
      obtain ⟨e, he, q⟩ := (goodX_mem (P := P) (w := w) g k).1 z
      have c := List.findIdx?_eq_none_iff.mp hfi e he
      rw [q] at c
      cases c
    have hSat : S k = false := by
      cases q : S k with
      | false => rfl
      | true => exact absurd ((hmem k).1 q) hfresh
    have gaveWay : ∀ (b : Bool) {s₁ : Shared} {Q' : Unit → Shared → Prop}, Q' () s₁ → wpAny (model P w) A (match b with | true => rule "set.scan.the-table-gave-way" | false => pure ()) Q' E s₁ :=
      fun b s₁ Q' q => by cases b <;> first | exact wpAny_pure q | exact wpAny_rule q
    have perm0 := layNew_perm t es ((strKind P w).hash k) (.str k tk)
    have fits1 := layNew_fits t es ((strKind P w).hash k) (.str k tk)
    have rise1 := layNew_ris t es ((strKind P w).hash k) (.str k tk) hrise
    have led1 := layNew_led t es ((strKind P w).hash k) (.str k tk)
    generalize layNew t es ((strKind P w).hash k) (.str k tk) = Z at perm0 fits1 rise1 led1 ⊢
    obtain ⟨es1, t1, wasDummy, gave⟩ := Z
    dsimp only at perm0 fits1 rise1 led1 ⊢
    rw [Array.toList_push] at perm0
    have perm1 : es1.toList.Perm (((strKind P w).hash k, Value.str k tk) :: es.toList) := perm0.trans (List.perm_append_singleton _ _)
    have permk : (es1.toList.map keyX).Perm (k :: es.toList.map keyX) := perm1.map keyX
    have good1 : ∀ e ∈ es1.toList, GoodX w e := fun e he => by
      rcases List.mem_cons.mp (perm1.mem_iff.mp he) with z | z
      · rw [z]; exact ⟨k, tk, rfl, rfl⟩
      · exact g e z
    have dup1 : (es1.toList.map keyX).Nodup := permk.nodup_iff.mpr (List.nodup_cons.mpr ⟨hfresh, dup0⟩)
    have mem1 : ∀ i, (S i || decide (i = k)) = true ↔ i ∈ es1.toList.map keyX := fun i => by
      rw [Bool.or_eq_true, decide_eq_true_eq, hmem i, permk.mem_iff, List.mem_cons]
      exact Or.comm
    have size1 : es1.size = n + 1 := by rw [← Array.length_toList, perm1.length_eq, List.length_cons, Array.length_toList, hnum]
    have small1 : es1.size < scanBound := by rw [size1]; exact room
    have hled : w.params.followText "set-order" = true ∨ t1.led = true := hled0.imp id fun z => by rw [led1]; exact z
    have finish : ∀ h', Heap.SameBut a s.heap h' → SetX w h' a (fun j => S j || decide (j = k)) es1.size → Q true { s with heap := h' } := fun h' sb r => by
      have q := kont h' sb
      rw [hSat] at q
      rw [size1] at r
      exact q r
    refine wpAny_bind (gaveWay _ ?_)
    split
    · refine wpAny_bind ?_
      rw [hashByValue_scannable 8 hsc]
      refine wpAny_pure ?_
      refine setX_add_tail ?_ hobj hexact hdat good1 dup1 mem1 small1 ?_ ?_ ?_ ?_
      · intro b s₁ Q' q; cases b <;> first | exact wpAny_pure q | exact wpAny_rule q
      · first | (split <;> first | exact fits1 | exact SetTable.fits_plain_off fits1) | exact fits1
      · first | (split <;> exact rise1) | exact rise1
      · first | (split <;> exact hled) | exact hled
      · intro h' sb r; dsimp only; exact wpAny_pure (finish h' sb r)
    · refine wpAny_bind (wpAny_pure ?_)
      simp only [↓reduceIte]
      refine setX_add_tail ?_ hobj hexact hdat good1 dup1 mem1 small1 fits1 rise1 hled ?_
      · intro b s₁ Q' q; cases b <;> first | exact wpAny_pure q | exact wpAny_rule q
      · intro h' sb r; dsimp only; exact wpAny_pure (finish h' sb r)

theorem setX_new_at {w : World} {h : Heap} {a : Addr} {ns : List Str} (hobj : h.get? a = some { cls := .type "set", dict := none, data := .set #[] 0 (.fresh 0 0 (!w.params.followText "set-order")) }) : SetX w h a (fun j => decide (j ∈ ns.take 0)) 0 :=
  ⟨_, #[], 0, _, hobj, ⟨rfl, rfl, rfl⟩, rfl, (fun e he => by simp at he), (by simp), (fun k => by simp), (by decide), (by rfl), rfl, List.Pairwise.nil, by
    show _ ∨ (!w.params.followText "set-order") = true
    cases w.params.followText "set-order"
    · exact .inr rfl
    · exact .inl rfl⟩
theorem setX_loop {I : Addr} {fp wr : List Addr} {G : Array GenState → Array GenState → Prop} {n : Nat} {Pv : Nat → Value → Prop} {St : Nat → Shared → Prop} {R : Result → Shared → Prop}
    (W : WalksS P w A.in1 I fp wr G n Pv St) (S : Addr) (SoutF : S ∉ fp) (ns : List Str) (hnum : n = ns.length) (hsmall : ns.length + 1 < scanBound) (itemsAt : ∀ i v, Pv i v → ∃ k t, ns[i]? = some k ∧ v = .str k t) :
    ∀ (k i : Nat) (s : Shared), n - i = k → i ≤ n → St i s → (∃ c, c ≤ i ∧ SetX w s.heap S (fun j => decide (j ∈ ns.take i)) c) →
      (∀ s' c, Moved (S :: wr) G s s' → c ≤ n → SetX w s'.heap S (fun j => decide (j ∈ ns)) c → R (.ok (.ret .none)) s') →
      codeAny (model P w) A (.builtin "set.update.loop" ⟨[.ref S, .ref I], []⟩) R s := by
  have Sout : S ∉ wr := fun h => SoutF (W.sub _ h)
  have wrSub : ∀ b ∈ wr, b ∈ S :: wr := fun b hsmall => List.mem_cons_of_mem _ hsmall
  intro k
  induction k with
  | zero =>
    intro i s left hi stAt ⟨c, hc, atS⟩ kend
    have iEnd : i = n := by omega
    subst iEnd
    refine codeAny_builtin F.entry_set_update_loop ?_
    rw [Around.under_plainId F.plain_set_update_loop _]
    show wpAny _ A.in1 (pyNext (.ref I) >>= _) _ _ s
    refine wpAny_bind (W.done s _ _ stAt fun s' hmem => ?_)
    show wpAny _ A.in1 (PySem.ret Value.none) _ _ s'
    have e : ns.take i = ns := List.take_of_length_le (by omega)
    rw [e] at atS
    exact wpAny_pure (kend s' c (hmem.mono wrSub) hc (atS.at fun o e => hmem.heap S o Sout e))
  | succ k ih =>
    intro i s left hi stAt ⟨c, hc, atS⟩ kend
    have iLt : i < n := by omega
    refine codeAny_builtin F.entry_set_update_loop ?_
    rw [Around.under_plainId F.plain_set_update_loop _]
    show wpAny _ A.in1 (pyNext (.ref I) >>= _) _ _ s
    refine wpAny_bind (W.item i s _ _ iLt stAt fun v s' hP hst' hmem => ?_)
    obtain ⟨z, t, hz, rfl⟩ := itemsAt i v hP
    have hS' : SetX w s'.heap S (fun j => decide (j ∈ ns.take i)) c := atS.at fun o e => hmem.heap S o Sout e
    show wpAny _ A.in1 (holding [Value.str z t] (setAdd S (.str z t)) >>= _) _ _ s'
    refine wpAny_bind (wpAny_holding ?_)
    unfold setAdd
    refine wpAny_holding ?_
    refine wpAny_bind ((strKind P w).pyHash (k := z) (strKind_is _ _ _ _) ?_)
    refine setX_add_hashed (s := { s' with toks := s'.toks + 1 }) hS' (by omega) fun h' hsb hS2 => ?_
    have hS3 : SetX w h' S (fun j => decide (j ∈ ns.take (i + 1))) (if decide (z ∈ ns.take i) = true then c else c + 1) := hS2.congr fun j => by
      rw [List.take_add_one, hz]
      simp [List.mem_append]
    have hc3 : (if decide (z ∈ ns.take i) = true then c else c + 1) ≤ i + 1 := by
      split <;> omega
    refine wpAny_pure ⟨plainId_quiet F.plain_set_update_loop _, ih (i + 1) _ (by omega) iLt (W.frame _ s' _ _ hst' (Nat.le_succ _) fun b hsmall o e => ?_) ⟨_, hc3, hS3⟩ fun s'' c2 hm'' hc'' hS'' => ?_⟩
    · rw [hsb.2 b (fun h : b = S => SoutF (by rw [← h]; exact hsmall))]; exact e
    · refine kend s'' c2 (Moved.trans W.gtrans ((hmem.mono wrSub).then_heap (Nat.le_succ _) fun b o hsmall e => ?_) hm'') hc'' hS''
      rw [hsb.2 b (fun h : b = S => hsmall (by rw [h]; exact List.mem_cons_self))]; exact e

theorem call_set_listX {l : Addr} {items : Array Value} (ns : List Str) {Q : Value → Shared → Prop} (hh : A.handled = none) (hled0 : s.heap.IsList l items) (strsIt : StrsAre items.toList ns) (hsmall : ns.length + 1 < scanBound)
    (h : ∀ (h' : Heap) (tk c : Nat), SetX w h' s.heap.objs.size (fun j => decide (j ∈ ns)) c → c ≤ ns.length → (∀ b o, s.heap.get? b = some o → h'.get? b = some o) → Q (.ref s.heap.objs.size) { s with heap := h', toks := tk }) :
    wpAny (model P w) A (call (.type "set") [.ref l]) Q E s := by
  have sizeNs : items.size = ns.length := by
    have q := StrsAre.length strsIt
    rw [Array.length_toList] at q
    exact q
  obtain ⟨c, tl, mroS⟩ := F.called_set.mro
  have madeS := F.called_set.made
  have wrSub := F.called_set.sub
  refine wpAny_call (codeAny_of_tree ?_)
  show wpAny _ _ (callAny (.type "set") _) _ _ _
  refine wpAny_pure ⟨Code.quiet_builtin _ (by decide +kernel), codeAny_builtin F.entry_type_call ?_⟩
  rw [Around.under_plain (weight_type_call_type "set" [.ref l] []) rfl]
  have hh1 := F.called_set.notType
  have hh2 := F.called_set.canCreate
  have callT := F.typeCall_set_1 (.ref l)
  repeat (any_goals (first | assumption | wp_step))

  refine codeAny_mono (code_set_led1 (.ref l) (E := E) (Q₁ := fun obj s₁ => obj = .ref s.heap.objs.size ∧ s₁ = { s with heap := s.heap.push { cls := .type "set", dict := none, data := .set #[] 0 (.fresh 0 0 (!w.params.followText "set-order")) } }) ⟨rfl, rfl⟩) fun r s₁ hrise => ?_
  cases r with
  | error e => exact hrise
  | ok fl =>
    cases fl with
    | ret obj =>
      obtain ⟨rfl, rfl⟩ := hrise
      have atS : (s.heap.push { cls := .type "set", dict := none, data := .set #[] 0 (.fresh 0 0 (!w.params.followText "set-order")) }).get? s.heap.objs.size = some { cls := .type "set", dict := none, data := .set #[] 0 (.fresh 0 0 (!w.params.followText "set-order")) } := Heap.get?_push_size _ rfl
      have typS : Shared.TypeIs { s with heap := s.heap.push { cls := .type "set", dict := none, data := .set #[] 0 (.fresh 0 0 (!w.params.followText "set-order")) } } (.ref s.heap.objs.size) "set" := ⟨_, atS, rfl⟩
      have lookI := F.called_set.init.lookup
      have bindI := F.called_set.init.bind (.ref s.heap.objs.size)
      repeat (any_goals (first | assumption | wp_step))

      refine codeAny_mono (codeAny_call_builtin (R := wants (fun r s₂ => r = .none ∧ ∃ h' tk c, s₂ = { s with heap := h', toks := tk } ∧ SetX w h' s.heap.objs.size (fun j => decide (j ∈ ns)) c ∧ c ≤ ns.length ∧
          (∀ b o, s.heap.get? b = some o → h'.get? b = some o)) E) F.called_set.init.plain F.entry_set_init (check_set_init_1 typS ?_)) fun r₂ s₂ hr₂ => ?_
      · obtain ⟨ol, objL, clsE, nl, datE⟩ := hled0
        obtain ⟨ocls, odict, odata, oslots⟩ := ol
        simp only at clsE datE
        subst clsE; subst datE
        have objL2 : (s.heap.push { cls := .type "set", dict := none, data := .set #[] 0 (.fresh 0 0 (!w.params.followText "set-order")) }).get? l = some { cls := .type "list", dict := odict, data := .seq items nl, slots := oslots } := Heap.get?_push_of_some _ objL
        have hsls := F.sub_list_set
        have hslf := F.sub_list_frozenset
        have clsNe : (Value.type "list" == Value.type "dict") = false := by decide
        have led1 : (s.heap.push { cls := .type "set", dict := none, data := .set #[] 0 (.fresh 0 0 (!w.params.followText "set-order")) }).IsList l items := ⟨_, objL2, rfl, nl, rfl⟩
        unfold Builtin.«set.__init__» noKeywords Builtin.Frozenset.updateFrom
        generalize hPI : pyIter = PI
        wp_walk
        subst hPI

        refine wpAny_pyIter_list led1 ?_
        refine wpAny_bind (wpAny_runValue ?_)
        have lBelow : l < s.heap.objs.size := Heap.lt_size objL
        have calm3 : A.in1.in1.in1.handled = none := by simp [hh]
        have hz1 : (s.heap.push { cls := .type "set", dict := none, data := .set #[] 0 (.fresh 0 0 (!w.params.followText "set-order")) }).objs.size = s.heap.objs.size + 1 := Heap.size_push ..
        have lNeI : l ≠ (s.heap.push { cls := .type "set", dict := none, data := .set #[] 0 (.fresh 0 0 (!w.params.followText "set-order")) }).objs.size := by
          rw [Heap.size_push]; exact Nat.ne_of_lt (Nat.lt_succ_of_lt lBelow)
        have SoutF : s.heap.objs.size ∉ [(s.heap.push { cls := .type "set", dict := none, data := .set #[] 0 (.fresh 0 0 (!w.params.followText "set-order")) }).objs.size, l] := by
          rw [Heap.size_push]; simp only [List.mem_cons, List.mem_singleton, List.not_mem_nil, or_false, not_or]
          exact ⟨Nat.ne_of_lt (Nat.lt_succ_self _), Nat.ne_of_gt lBelow⟩
        have itemsAt : ∀ (i : Nat) (v : Value), items[i]? = some v → ∃ k t, ns[i]? = some k ∧ v = .str k t := fun i v hv => by
          obtain ⟨y, tk, e1, e2⟩ := StrsAre.item strsIt i v (by rw [Array.getElem?_toList]; exact hv)
          exact ⟨y, tk, e2, e1⟩
        refine setX_loop ((Walks.list calm3 _ l lNeI items).toS) s.heap.objs.size
          SoutF ns sizeNs hsmall itemsAt (items.size - 0) 0 _ (by omega) (Nat.zero_le _)
          ⟨⟨_, Heap.get?_push_size _ rfl, rfl, rfl⟩, (led1.push _)⟩ ?hS0 ?kend
        case hS0 =>
          have hget : ((s.heap.push { cls := .type "set", dict := none, data := .set #[] 0 (.fresh 0 0 (!w.params.followText "set-order")) }).push { cls := .type "list_iterator", data := .fields #[.ref l, .int 0 0] }).get? s.heap.objs.size
              = some { cls := .type "set", dict := none, data := .set #[] 0 (.fresh 0 0 (!w.params.followText "set-order")) } := Heap.get?_push_of_some _ atS
          exact ⟨0, Nat.le_refl 0, setX_new_at hget⟩
        case kend =>
          intro s' c' hmem hc' hS'
          obtain ⟨h', g2, d', tk', os'⟩ := s'
          have eg : g2 = s.gens := hmem.gens
          have ed : d' = s.drawn := hmem.drawn
          have eo : os' = s.os := hmem.os
          subst eg; subst ed; subst eo
          show wpAny _ _ _ _ _ _
          refine wpAny_pure ?_
          show wpAny _ _ (PySem.ret Value.none) _ _ _
          rw [sizeNs] at hc'
          refine wpAny_pure ⟨rfl, h', tk', c', rfl, hS', hc', fun b o e => ?_⟩
          have hb0 : b < s.heap.objs.size := Heap.lt_size e
          have small1 : b ≠ s.heap.objs.size := Nat.ne_of_lt hb0
          have hb2 : b ≠ (s.heap.push { cls := .type "set", dict := none, data := .set #[] 0 (.fresh 0 0 (!w.params.followText "set-order")) }).objs.size := by
            rw [Heap.size_push]; exact Nat.ne_of_lt (Nat.lt_succ_of_lt hb0)
          exact hmem.heap b o (by simp only [List.mem_cons, List.mem_singleton, List.not_mem_nil, or_false, not_or]; exact ⟨small1, hb2⟩) (Heap.get?_push_of_some _ (Heap.get?_push_of_some _ e))

      · cases r₂ with
        | error e => exact hr₂
        | ok fl₂ =>
          cases fl₂ with
          | ret r =>
            obtain ⟨rfl, h', tk, c', rfl, hS', hc', left⟩ := hr₂
            repeat (any_goals (first | assumption | wp_step))
            exact h _ _ _ hS' hc' left
          | _ => exact hr₂.elim
    | _ => exact hrise.elim

end

/-- the text in a value -/
def txtOf : Value → Str
  | .str k _ => k
  | _ => Str.empty
section
variable {P : Program} {w : World} {A : Around} {E : Value → Shared → Prop} {s : Shared} {a : Addr} {S : Str → Bool} {n : Nat}
theorem txts_are : ∀ vs : List Value, (∀ v ∈ vs, ∃ k t, v = Value.str k t) → StrsAre vs (vs.map txtOf)
  | [], _ => .nil
  | v :: vs, h => by
    obtain ⟨k, t, rfl⟩ := h v List.mem_cons_self
    exact .cons k t (txts_are vs fun u m => h u (List.mem_cons_of_mem _ m))
/-- sorted(a set of texts) -/
theorem sortedX {Q : Value → Shared → Prop} (R : SetX w s.heap a S n) (calm : A.handled = none) (few : n < 64)
    (kont : ∀ s' p (out : Array Value) (c : Nat) (ys : List Str), (∀ b o, s.heap.get? b = some o → s'.heap.get? b = some o) → s'.gens = s.gens → s'.os = s.os → s.heap.objs.size ≤ p →
      s'.heap.get? p = some (seqObj "list" out c) → StrsAre out.toList ys → sortedS ys = true → ys.Nodup → (∀ k, k ∈ ys ↔ S k = true) → ys.length = n → Q (.ref p) s') :
    wpAny (model P w) A (call (.builtin "sorted") [.ref a]) Q E s := by
  obtain ⟨o, es, ep, t, at0, ex0, d0, good, dup, mem, small, fit, num, rise, led⟩ := R
  refine Calls.call_function_entry PyProof.Rows.kind_sorted PyProof.Rows.plain_sorted PyProof.Rows.entry_sorted (PyProof.Rows.args_sorted1 _) ?_
  unfold Builtin.«sorted»
  refine wpAny_bind (m := checkCount "sorted" 1 1 _) (wpAny_pure ?_)
  refine wpAny_bind (collect_set (A := A.in1) calm ⟨o, at0, ex0.1, d0⟩ fit small rise led fun s1 vs keep1 more1 gens1 os1 perm => ?_)
  have lenV : vs.length = n := by rw [perm.length_eq, List.length_map, Array.length_toList]; exact num
  have strs0 : StrsAre vs (vs.map txtOf) := txts_are vs fun v hv => by
    obtain ⟨e, he, q⟩ := List.mem_map.mp (perm.mem_iff.mp hv)
    obtain ⟨k, tk, e1, _⟩ := good e he
    exact ⟨k, tk, by rw [← q]; exact e1⟩
  have permK : (vs.map txtOf).Perm (es.toList.map keyX) := by
    have q := perm.map txtOf
    rw [List.map_map] at q
    exact q
  refine wpAny_bind (wpAny_newList ?_ (by rw [lenV, sizeLine_eq]; omega))
  have newL : (s1.heap.push (seqObj "list" vs.toArray 0)).get? s1.heap.objs.size = some (seqObj "list" vs.toArray 0) := Heap.get?_push_size _ rfl
  refine wpAny_bind (wpAny_holding (wpAny_call_entry PyProof.Rows.slot_list_sort ⟨_, newL, rfl⟩ PyProof.Rows.entry_list_sort
    (list_sort_treeK strKind_oneLt (s := { s1 with heap := s1.heap.push (seqObj "list" vs.toArray 0) }) newL strs0.keysOf (fun v₁ v₂ rest e => keyKind_strs (by rw [← e]; exact strs0)) (by rw [lenV]; exact few) fun st' hp hs => ⟨_, rfl, ?_⟩)
    (PyProof.Rows.args_list_sort _)))
  obtain ⟨ys, y1, y2, y3⟩ := sorted_out_str strs0 hp hs
  obtain ⟨e', he'⟩ := PyProof.Rows.sortedHeap_at (vs := vs) (out := (arrOf st').map (·.2)) newL
  have permY : ys.Perm (es.toList.map keyX) := y2.trans permK
  refine wpAny_pure ⟨_, rfl, kont _ s1.heap.objs.size _ e' ys (fun b u e => ?_) gens1 os1 more1 he' y1 y3 (permY.nodup_iff.mpr dup) (fun k => by rw [permY.mem_iff, ← mem k]) ?_⟩
  · have q := keep1 b u e
    have lt := Heap.lt_size q
    show (sortedHeap (s1.heap.push (seqObj "list" vs.toArray 0)) s1.heap.objs.size vs _).get? b = some u
    rw [PyProof.Rows.sortedHeap_old (Nat.ne_of_lt lt) (by rw [size_push']; exact Nat.lt_succ_of_lt lt)]
    exact Heap.get?_push_of_some _ q
  · rw [permY.length_eq, List.length_map, Array.length_toList]; exact num
end
end Cf
set_option Elab.async false
set_option linter.all false
set_option maxRecDepth 100000
set_option maxHeartbeats 2000000
/-! CfVt: sorted. -/
namespace Cf
open PySem PySem.Spec PyProof.Rows L2

/-! ### plain Lean -/
theorem ll_le_of_lt {a b : List Nat} (h : a < b) : a ≤ b := List.le_of_lt h
theorem insS_perm (x : List Nat) : ∀ l, (insS x l).Perm (x :: l)
  | [] => .refl _
  | y :: r => by
    rw [insS]
    split
    · exact (List.Perm.cons y (insS_perm x r)).trans (List.Perm.swap x y r)
    · exact .refl _
theorem sortL_perm : ∀ ys, (sortL ys).Perm ys
  | [] => .refl _
  | y :: ys => (insS_perm y _).trans (List.Perm.cons y (sortL_perm ys))
theorem insS_sorted (x : List Nat) : ∀ {l}, l.Pairwise (· ≤ ·) → (insS x l).Pairwise (· ≤ ·)
  | [], _ => List.pairwise_singleton _ _
  | y :: r, h => by
    obtain ⟨h1, h2⟩ := List.pairwise_cons.mp h
    rw [insS]
    split
    · rename_i hy
      refine List.pairwise_cons.mpr ⟨fun z hz => ?_, insS_sorted x h2⟩
      rcases List.mem_cons.mp ((insS_perm x r).mem_iff.mp hz) with rfl | hz
      · exact List.le_of_lt hy
      · exact h1 z hz
    · rename_i hy
      have hxy : x ≤ y := hy
      refine List.pairwise_cons.mpr ⟨fun z hz => ?_, h⟩
      rcases List.mem_cons.mp hz with rfl | hz
      · exact hxy
      · exact List.le_trans hxy (h1 z hz)
theorem sortL_sorted : ∀ ys, (sortL ys).Pairwise (· ≤ ·)
  | [] => .nil
  | y :: ys => insS_sorted y (sortL_sorted ys)
theorem insU_mem (x z : List Nat) : ∀ l, z ∈ insU x l ↔ z = x ∨ z ∈ l
  | [] => by simp [insU]
  | y :: r => by
    rw [insU]
    split
    · rw [List.mem_cons, insU_mem x z r, List.mem_cons]
      exact ⟨fun h => h.elim (fun e => .inr (.inl e)) fun h => h.elim .inl fun h => .inr (.inr h), fun h => h.elim (fun e => .inr (.inl e)) fun h => h.elim .inl fun h => .inr (.inr h)⟩
    · split
      · rename_i e
        rw [List.mem_cons, e]
        exact ⟨fun h => .inr h, fun h => h.elim .inl id⟩
      · rw [List.mem_cons]
theorem sortU_mem (z : List Nat) : ∀ ys, z ∈ sortU ys ↔ z ∈ ys
  | [] => Iff.rfl
  | y :: ys => by
    show z ∈ insU y (sortU ys) ↔ _
    rw [insU_mem, sortU_mem z ys, List.mem_cons]
theorem insU_sorted (x : List Nat) : ∀ {l}, l.Pairwise (· < ·) → (insU x l).Pairwise (· < ·)
  | [], _ => List.pairwise_singleton _ _
  | y :: r, h => by
    obtain ⟨h1, h2⟩ := List.pairwise_cons.mp h
    rw [insU]
    split
    · rename_i hy
      refine List.pairwise_cons.mpr ⟨fun z hz => ?_, insU_sorted x h2⟩
      rcases (insU_mem x z r).mp hz with rfl | hz
      · exact hy
      · exact h1 z hz
    · rename_i hy
      split
      · exact h
      · rename_i hne
        have hxy : x < y := by
          rcases List.le_iff_lt_or_eq.mp (show x ≤ y from hy) with z | z
          · exact z
          · exact absurd z hne
        refine List.pairwise_cons.mpr ⟨fun z hz => ?_, h⟩
        rcases List.mem_cons.mp hz with rfl | hz
        · exact hxy
        · exact List.lt_trans hxy (h1 z hz)
theorem sortU_sorted : ∀ ys, (sortU ys).Pairwise (· < ·)
  | [] => .nil
  | y :: ys => insU_sorted y (sortU_sorted ys)
theorem uniqU : ∀ {l m : List (List Nat)}, l.Pairwise (· < ·) → m.Pairwise (· < ·) → (∀ x, x ∈ l ↔ x ∈ m) → l = m
  | [], [], _, _, _ => rfl
  | [], y :: m, _, _, q => by cases (q y).mpr List.mem_cons_self
  | x :: l, [], _, _, q => by cases (q x).mp List.mem_cons_self
  | x :: l, y :: m, hl, hm, q => by
    obtain ⟨a1, a2⟩ := List.pairwise_cons.mp hl
    obtain ⟨b1, b2⟩ := List.pairwise_cons.mp hm
    have e : x = y := by
      rcases List.mem_cons.mp ((q x).mp List.mem_cons_self) with z | z
      · exact z
      · rcases List.mem_cons.mp ((q y).mpr List.mem_cons_self) with u | u
        · exact u.symm
        · exact absurd (List.lt_trans (b1 x z) (a1 y u)) (List.lt_irrefl _)
    subst e
    congr 1
    refine uniqU a2 b2 fun z => ⟨fun h => ?_, fun h => ?_⟩
    · rcases List.mem_cons.mp ((q z).mp (List.mem_cons_of_mem _ h)) with rfl | h'
      · exact absurd (a1 z h) (List.lt_irrefl _)
      · exact h'
    · rcases List.mem_cons.mp ((q z).mpr (List.mem_cons_of_mem _ h)) with rfl | h'
      · exact absurd (b1 z h) (List.lt_irrefl _)
      · exact h'
theorem uniqS : ∀ {l m : List (List Nat)}, l.Pairwise (· ≤ ·) → m.Pairwise (· ≤ ·) → l.Perm m → l = m
  | [], m, _, _, p => (List.nil_perm.mp p).symm
  | x :: l, [], _, _, p => by cases List.perm_nil.mp p
  | x :: l, y :: m, hl, hm, p => by
    obtain ⟨a1, a2⟩ := List.pairwise_cons.mp hl
    obtain ⟨b1, b2⟩ := List.pairwise_cons.mp hm
    have e : x = y := by
      rcases List.mem_cons.mp (p.mem_iff.mp List.mem_cons_self) with z | z
      · exact z
      · rcases List.mem_cons.mp (p.symm.mem_iff.mp List.mem_cons_self) with u | u
        · exact u.symm
        · exact List.le_antisymm (a1 y u) (b1 x z)
    subst e
    congr 1
    exact uniqS a2 b2 (List.Perm.cons_inv p)
/-! ### the library's sorted texts -/
theorem rising_pw : ∀ (p : Str) (l : List Str), risingS p l = true → ((p :: l).map fun y : Str => y.cps.toList).Pairwise (· ≤ ·)
  | p, [], _ => List.pairwise_singleton _ _
  | p, x :: r, h => by
    have h : (!ltCps x.cps.toList p.cps.toList && risingS x r) = true := h
    rw [Bool.and_eq_true, Bool.not_eq_true', ltCps_eq, decide_eq_false_iff_not] at h
    have ih := rising_pw x r h.2
    rw [List.map_cons]
    refine List.pairwise_cons.mpr ⟨fun z hz => ?_, ih⟩
    have hpx : p.cps.toList ≤ x.cps.toList := h.1
    rw [List.map_cons] at hz ih
    rcases List.mem_cons.mp hz with rfl | hz
    · exact hpx
    · exact List.le_trans hpx ((List.pairwise_cons.mp ih).1 z hz)
theorem sortedS_pw {l : List Str} (h : sortedS l = true) : (l.map fun y => y.cps.toList).Pairwise (· ≤ ·) := by
  cases l with
  | nil => exact .nil
  | cons x r => exact rising_pw x r h
theorem str_eta (y : Str) : (⟨y.cps.toList.toArray⟩ : Str) = y := by cases y; simp
theorem strs_back (ys : List Str) : ys.map V.str = (ys.map fun y => y.cps.toList).map fun y => V.str ⟨y.toArray⟩ := by
  rw [List.map_map]
  exact List.map_congr_left fun y _ => by show V.str y = V.str ⟨y.cps.toList.toArray⟩; rw [str_eta]
theorem mk_cps (ys : List (List Nat)) : (ys.map fun y => (⟨y.toArray⟩ : Str)).map (fun y => y.cps.toList) = ys := by
  rw [List.map_map]
  conv => rhs; rw [← List.map_id ys]
  exact List.map_congr_left fun y _ => by simp
theorem sorted_is {zs : List Str} {ys : List (List Nat)} (p : zs.Perm (ys.map fun y => (⟨y.toArray⟩ : Str))) (h : sortedS zs = true) : zs.map V.str = (sortL ys).map fun y => V.str ⟨y.toArray⟩ := by
  have q := p.map fun y => y.cps.toList
  rw [mk_cps] at q
  rw [strs_back, uniqS (sortedS_pw h) (sortL_sorted ys) (q.trans (sortL_perm ys).symm)]
theorem cps_nodup {zs : List Str} (nd : zs.Nodup) : (zs.map fun y => y.cps.toList).Nodup := by
  refine List.pairwise_map.mpr (nd.imp fun {a b} h z => h ?_)
  rw [← str_eta a, ← str_eta b, z]
theorem sortedU_is {zs : List Str} {ys : List (List Nat)} (nd : zs.Nodup) (h : sortedS zs = true) (m : ∀ k, k ∈ zs ↔ k ∈ ys.map fun y => (⟨y.toArray⟩ : Str)) : zs.map V.str = (sortU ys).map fun y => V.str ⟨y.toArray⟩ := by
  rw [strs_back]
  congr 1
  refine uniqU ?_ (sortU_sorted ys) fun x => ?_
  · refine ((sortedS_pw h).and (cps_nodup nd)).imp fun {a b} h => ?_
    rcases List.le_iff_lt_or_eq.mp h.1 with z | z
    · exact z
    · exact absurd z h.2
  · rw [sortU_mem]
    constructor
    · intro hx
      obtain ⟨k, hk, rfl⟩ := List.mem_map.mp hx
      obtain ⟨y, hy, rfl⟩ := List.mem_map.mp ((m k).mp hk)
      simpa using hy
    · intro hx
      have := (m ⟨x.toArray⟩).mpr (List.mem_map.mpr ⟨x, hx, rfl⟩)
      exact List.mem_map.mpr ⟨_, this, by simp⟩

/-! ### rules -/
def SetTx (w : World) (a : Addr) (S : Str → Bool) (n : Nat) : HO := .ext fun h => SetX w h a S n
section
variable {X : Cx}
theorem cr_setX (hc : X.calm = true) : CallR X (.type "set") (fun xs H Q => ∃ (l : Addr) (ys : List Str), xs = [V.ref l] ∧ SqL X.K H l (ys.map V.str) ∧ ys.length < 1000 ∧ ∀ a c, H a = none → c ≤ ys.length → Q (.ref a) (upd H a (SetTx X.w a (fun j => decide (j ∈ ys)) c))) := by
  intro pins s σ H xs us Q I r h
  obtain ⟨l, ys, rfl, hl, few, q⟩ := h
  rw [Vals.ref1 r]
  obtain ⟨its, rv, pl, _⟩ := I.list hl
  refine call_set_listX (P := X.prog) (w := X.w) ys (I.ok.hd hc) pl.isList (by simpa using rv.strs) (by unfold scanBound; omega) fun h' tk c R hle keep => ?_
  have at1 : ∃ o, h'.get? s.heap.objs.size = some o := by obtain ⟨o, _, _, _, e, _⟩ := id R; exact ⟨o, e⟩
  exact ⟨.ref s.heap.objs.size, upd H s.heap.objs.size (SetTx X.w s.heap.objs.size (fun j => decide (j ∈ ys)) c), I.laid (t' := tk) keep (Nat.le_refl _) ⟨R, at1, fun h1 h2 p k => SetX.at p k⟩, rfl, q _ c (I.hok.fresh (Nat.le_refl _)) hle⟩
theorem cr_sortX (hc : X.calm = true) : CallR X (.builtin "sorted") (fun vs H Q => ∃ a S n, vs = [V.ref a] ∧ H a = some (SetTx X.w a S n) ∧ n < 64 ∧ ∀ ys p, sortedS ys = true → ys.Nodup → (∀ k, k ∈ ys ↔ S k = true) → H p = none → Q (.ref p) (upd H p (.lst (ys.map V.str)))) := by
  intro pins s σ H vs us Q I r h
  obtain ⟨a, S, n, rfl, ha, few, q⟩ := h
  have R : SetX X.w s.heap a S n := (I.hok a _ ha).1
  rw [Vals.ref1 r]
  refine sortedX R (I.ok.hd hc) few fun s' p out c ys keep gs os new at1 strs0 srt nd mem len => ?_
  have fits : (ys.map V.str).length ≤ sizeLine := by rw [List.length_map, len, sizeLine_eq]; omega
  have free : H p = none := I.hok.fresh new
  have J : Inv X pins σ (upd H p (.lst (ys.map V.str))) { s with heap := s'.heap, gens := s'.gens, drawn := s'.drawn, toks := s'.toks } :=
    I.call (ch := []) (Un.laid keep new free) (I.hok.laid keep new ⟨fits, out.toList, c, vals_of_strs strs0, at1⟩) (by rw [gs]; exact I.bare) (fun _ z => nomatch z)
  have same : s' = { s with heap := s'.heap, gens := s'.gens, drawn := s'.drawn, toks := s'.toks } := by
    cases s'
    cases s
    cases os
    rfl
  rw [same]
  exact ⟨.ref p, _, J, rfl, q ys p srt nd mem free⟩
variable {gd : Gd} {Ex : XK} {e : Expr} {me : E} {p1 p2 pos pos2 : Pos}
theorem sorted_ok {w : Wd} {ys : List (List Nat)} (h : ∀ y ∈ ys, SOk y) : ∀ y ∈ sortL ys, SOk y := fun y hy => h y ((sortL_perm ys).mem_iff.mp hy)
/-- sorted(set(e)) -/
theorem R_sortU (hc : X.calm = true) (hg : Gl X "sorted") (hm : X.mg "sorted" = none) (hg2 : Gl X "set") (hm2 : X.mg "set" = none) (he : PE X e (tE X.K gd Ex me)) (bS : bootBuiltins "sorted" = some (.builtin "sorted")) (bT : bootBuiltins "set" = some (.type "set"))
    (hs : starEach [e] X.env = (false, eval e X.env) :: starEach [] X.env := by rfl) (hs2 : starEach [.Call (.Name "set" p2) [e] [] pos2] X.env = (false, eval (.Call (.Name "set" p2) [e] [] pos2) X.env) :: starEach [] X.env := by rfl) :
    PE X (.Call (.Name "sorted" p1) [.Call (.Name "set" p2) [e] [] pos2] [] pos) (tE X.K gd Ex (e1 pSortU me)) := by
  refine PE.imp (pe_callB (cr_sortX hc) hg hm bS (pa_cons (pe_callTy (cr_setX hc) hg2 hm2 bT (pa_cons he pa_nil hs) (by decide) (by decide) hs) pa_nil hs2) (by decide) (by decide) hs2) fun σ H Q h => ?_
  obtain ⟨w, h, aσ, wk, wg, rfl, r, s, o⟩ := h
  refine tE_bind wk wg r s o fun d h1 w1 v s1 k1 g1 r1 sl1 rv o1 => ?_
  cases d with
  | lst ds =>
    have o1 : Out w1 Ex ((match strsOf ds with | some ys => if ys.length < 64 then ret (D.lst ((sortU ys).map D.str)) else no | none => no : M D) h1) _ := o1
    cases es : strsOf ds with
    | none => rw [es] at o1; exact o1.elim
    | some ys =>
      rw [es] at o1
      obtain ⟨few, o1⟩ := out_guard (a := ret (D.lst ((sortU ys).map .str))) o1
      obtain ⟨l, xs, rfl, sq, rs⟩ := LstAt.ref rv
      obtain ⟨ex, oks⟩ := strs_reps rs es
      subst ex
      refine ⟨l, ys.map fun y => (⟨y.toArray⟩ : Str), rfl, by rw [List.map_map]; exact k1 ▸ sq, by rw [List.length_map]; omega, fun a c ha hcl => ?_⟩
      rw [List.length_map] at hcl
      refine ⟨a, _, c, rfl, upd_same, by omega, fun zs p srt nd mem hp => ?_⟩
      have mem' : ∀ k, k ∈ zs ↔ k ∈ ys.map fun y => (⟨y.toArray⟩ : Str) := fun k => by rw [mem k, decide_eq_true_eq]
      rw [sortedU_is nd srt mem']
      have x1 := xs_put (o := SetTx X.w a (fun j => decide (j ∈ ys.map fun y => (⟨y.toArray⟩ : Str))) c) ha
      have r2 := r1.put (o := SetTx X.w a (fun j => decide (j ∈ ys.map fun y => (⟨y.toArray⟩ : Str))) c) ha
      have hp' : (w1.put a (SetTx X.w a (fun j => decide (j ∈ ys.map fun y => (⟨y.toArray⟩ : Str))) c)).H p = none := hp
      exact o1 _ (x1.trans (xs_put (o := .lst ((sortU ys).map fun y => V.str ⟨y.toArray⟩)) hp')) (r2.put hp') _ (rep_lst r2 hp' (strs_rep _ fun y hy => oks y ((sortU_mem y ys).mp hy)))
  | _ => exact o1.elim
/-- sorted(e), texts -/
theorem o_sort : CallR X (.builtin "sorted") (c1 X.K gd Ex pSort) := by
  intro pins s σ H xs us Q I rs h
  obtain ⟨x, rfl, w, h, dx, wk, wg, rfl, r, hx, o⟩ := h
  cases dx with
  | lst ds =>
    have o : Out w Ex ((match strsOf ds with | some ys => if ys.length < 64 then ret (D.lst ((sortL ys).map D.str)) else no | none => no : M D) h) _ := o
    cases es : strsOf ds with
    | none => rw [es] at o; exact o.elim
    | some ys =>
      rw [es] at o
      obtain ⟨few, o⟩ := out_guard (a := ret (D.lst ((sortL ys).map .str))) o
      obtain ⟨l, xs, rfl, sq, rr⟩ := LstAt.ref hx
      obtain ⟨ex, oks⟩ := strs_reps rr es
      subst ex
      refine cr_sortedS pins s σ _ _ us Q I rs ⟨l, ys.map fun y => (⟨y.toArray⟩ : Str), rfl, by rw [List.map_map]; exact wk ▸ sq, by rw [List.length_map]; exact few, fun zs p pm srt hp => ?_⟩
      rw [sorted_is pm srt]
      exact out_put o r hp (rep_lst r hp (strs_rep _ fun y hy => oks y ((sortL_perm ys).mem_iff.mp hy)))
  | _ => exact o.elim
end
end Cf
set_option Elab.async false
set_option linter.all false
set_option maxRecDepth 100000
set_option maxHeartbeats 2000000
/-! CfVe: enumerate over lists, tuples, texts. -/
namespace Cf
open PySem PySem.Spec PyProof.Rows L2

theorem enum_new1 {v : Value} {o : Obj} {Hc : Heap → Prop} (B : Begins v o Hc) :
    Meets (Builtin.«enumerate.__new__» ⟨[.type "enumerate", v], []⟩) (fun _ R s => Hc s.heap ∧
      R (.ok (.ret (.ref (s.heap.push o).objs.size))) { s with heap := (s.heap.push o).push { cls := .type "enumerate", data := .fields #[.none, .bool false, .ref s.heap.objs.size, rawInt 0, .none, .none] } }) :=
  .of_wp fun prog w A R s h => by
    obtain ⟨hp, g, d, tk, os⟩ := s
    obtain ⟨at0, h⟩ := h
    have isSub := sub_enumerate
    have begin1 : ∀ {A' : Around} {E : Value → Shared → Prop} {Q : Value → Shared → Prop}, Q (.ref hp.objs.size) ⟨hp.push o, g, d, tk, os⟩ → wpAny (model prog w) A' (pyIter v) Q E ⟨hp, g, d, tk, os⟩ :=
      fun q => B.iter prog w _ _ ⟨hp, g, d, tk, os⟩ _ at0 q
    wp_walk using begin1
    refine wpAny_stack_any fun st => wpAny_pure ?_
    split
    · rename_i c _ _ _ _ _
      cases (c == Value.type "enumerate") <;> (wp_walk using begin1; exact ⟨_, rfl, h⟩)
    · wp_walk using begin1
      exact ⟨_, rfl, h⟩
theorem enum_made {prog : Program} {w : World} {A : Around} {E : Value → Shared → Prop} {s : Shared} {v : Value} {o : Obj} {Hc : Heap → Prop} {Q : Value → Shared → Prop} (B : Begins v o Hc) (at0 : Hc s.heap)
    (h : ∀ h', IsEnum h' (s.heap.objs.size + 1) s.heap.objs.size 0 .none → h'.get? s.heap.objs.size = some o → (∀ b o, s.heap.get? b = some o → h'.get? b = some o) → Q (.ref (s.heap.objs.size + 1)) { s with heap := h' }) :
    wpAny (model prog w) A (call (.type "enumerate") [v]) Q E s := by
  refine callType_new F.called_enumerate (by decide) (F.typeCall_enumerate_1 _) (F.newCall_enumerate_1 _) (fun obj => F.args_object_init_2 obj _) F.entry_enumerate_new (enum_new1 B) ⟨at0, ?_⟩
  have size1 : (s.heap.push o).objs.size = s.heap.objs.size + 1 := Heap.size_push ..
  show _ ∧ _
  rw [size1]
  have made : IsEnum ((s.heap.push o).push { cls := .type "enumerate", data := .fields #[.none, .bool false, .ref s.heap.objs.size, rawInt 0, .none, .none] }) (s.heap.objs.size + 1) s.heap.objs.size 0 .none := by
    have q := Heap.get?_push_size (s.heap.push o) (o := { cls := .type "enumerate", data := .fields #[.none, .bool false, .ref s.heap.objs.size, rawInt 0, .none, .none] }) rfl
    rw [size1] at q; exact q
  exact ⟨⟨_, made, rfl⟩, h _ made (Heap.get?_push_of_some _ (Heap.get?_push_size _ B.free)) fun b o x => Heap.get?_push_of_some _ (Heap.get?_push_of_some _ x)⟩
def ItE (K : PySem.W.Frag) (r : Src) : It :=
  ⟨fun i H => r.at_ K H ∧ i < r.its.length,
    fun i H v H' => ∃ T x, v = .ref T ∧ H T = none ∧ H' = upd H T (.tup [.int (i : Nat), x]) ∧ r.its[i]? = some x,
    fun i H => r.at_ K H ∧ i = r.its.length⟩
theorem turn_enumG {P : Program} {w : World} {K : PySem.W.Frag} {elts : List Expr} {kk : Nat} {tpos : Pos} {r : Src} {e it : Addr} (ne : e ≠ it) (ne2 : e ∉ r.old) (ni : it ∉ r.old) :
    Turn P w K (.Tuple elts kk tpos) (ItE K r) [e, it] e (fun i h => (∃ old, IsEnum h e it ((i : Nat) : Int) old) ∧ r.tn it i h) where
  mem := by simp
  obj := fun i h st c hc => by
    obtain ⟨⟨old, he⟩, h1⟩ := st
    rcases (show c = e ∨ c = it by simpa using hc) with z | z
    · rw [z]; exact ⟨_, he, fun v q => nomatch q⟩
    · rw [z]; exact Src.tn_obj h1
  keep := fun i h h' st k => by
    obtain ⟨⟨old, he⟩, h1⟩ := st
    exact ⟨⟨old, k e (by simp) _ he⟩, Src.tn_keep h1 fun o q => k it (by simp) o q⟩
  item := by
    intro X hP hw hK calm i pins s σ H E I foot st gg
    subst hP hw hK
    obtain ⟨⟨old, he⟩, h1⟩ := st
    obtain ⟨g1, l1⟩ := gg
    have hh : X.A.in1.handled = none := I.ok.hd calm
    obtain ⟨P1, St1, D1, st1, v1, b1⟩ := Src.draws I hh g1 ni h1
    have eLt : e < s.heap.objs.size := Heap.lt_size he
    refine wpAny_pyNext_enum_itemC D1 he st1 l1 ne (by simp [ne, ne2]) fun u h' tk p1 ho s1 hT hsz hk => ?_
    obtain ⟨x, ex, rx⟩ := v1 i u p1
    refine ⟨_, rfl, wpAny_letOwnedTupleGo_enum (s := { s with heap := h', toks := tk + 1 }) ho fun h'' he' sb => ?_⟩
    have hT2 : h''.get? s.heap.objs.size = some { cls := .type "tuple", data := .seq #[.int i tk, u] } := (sb.2 _ (Nat.ne_of_gt eLt)).trans hT
    have new : ObjOk X.prog X.w (upd H s.heap.objs.size (.tup [.int (i : Nat), x])) h'' s.heap.objs.size (.tup [.int (i : Nat), x]) :=
      ⟨by show 2 ≤ sizeLine; decide, [.int i tk, u], .cons ⟨_, rfl⟩ (.cons rx .nil), ⟨_, hT2, rfl, _, rfl⟩⟩
    have I1 : Inv X pins σ (upd H s.heap.objs.size (.tup [.int (i : Nat), x])) { s with heap := h'', toks := tk + 1 } :=
      I.turnedNew (t' := tk + 1) (ch := [e, it]) (fun b ob hb q => (sb.2 b (fun z => hb (by simp [z]))).trans (hk b ob (fun z => hb (by simp [z])) (fun z => hb (by simp [z])) q)) foot (Nat.le_refl _) new
    refine ⟨.ref s.heap.objs.size, _, I1, rfl, ⟨_, x, rfl, I.hok.fresh (Nat.le_refl _), rfl, ex⟩, ⟨⟨u, ?_⟩, Src.tn_keep (b1 _ _ s1) fun o q => (sb.2 it (Ne.symm ne)).trans q⟩, fun b hb => ?_⟩
    · have e1 : ((i + 1 : Nat) : Int) = (i : Int) + 1 := by omega
      rw [e1]; exact he'
    · have below : b < s.heap.objs.size := by
        rcases (show b = e ∨ b = it by simpa using hb) with z | z
        · rw [z]; exact eLt
        · rw [z]; obtain ⟨_, q, _⟩ := Src.tn_obj h1; exact Heap.lt_size q
      show upd H _ _ b = none
      rw [upd_ne (Nat.ne_of_lt below)]
      exact (foot b hb).1
  done := by
    intro X hP hw hK calm i pins s σ H E I foot st gg
    subst hP hw hK
    obtain ⟨⟨old, he⟩, h1⟩ := st
    obtain ⟨g1, rfl⟩ := gg
    have hh : X.A.in1.handled = none := I.ok.hd calm
    obtain ⟨P1, St1, D1, st1, v1, b1⟩ := Src.draws I hh g1 ni h1
    exact wpAny_pyNext_enum_endD D1 he st1 fun h' eb => ⟨rfl, I.turnedL (t' := s.toks) (ch := [e, it]) (fun b o hb q => eb b o (fun z => hb (by simp [z])) q) foot⟩
  self := fun A i s Q E st h => let ⟨⟨_, he⟩, _⟩ := st; wpAny_pyIter_enum he h
def iEnG (K : PySem.W.Frag) (ta : TA) : TI := fun σ H R => ta σ H fun vs H1 => ∀ us : List Value, Vals vs us → ∃ r : Src, us = [r.val] ∧ r.at_ K H1 ∧ R (ItE K r) H1
theorem pi_enumG {X : Cx} {e : Expr} {ta : TA} {p pos tpos : Pos} {elts : List Expr} {kk : Nat} (hg : Gl X "enumerate") (hm : X.mg "enumerate" = none) (ha : PA X [e] ta) (hs : starEach [e] X.env = [(false, eval e X.env)] := by rfl) :
    PI X (.Tuple elts kk tpos) (.Call (.Name "enumerate" p) [e] [] pos) (iEnG X.K ta) := by
  refine ⟨fun pins s σ H R I h => ?_⟩
  refine Call_ (ld_blt I hg hm boot_enumerate (PyProof.Rows.callWith_type1 (thn (ha.run pos pins s σ H _ I h) fun us s1 ⟨vs, H1, I1, rv, q1⟩ => ?_) hs rfl))
  obtain ⟨r, eu, hr, hR⟩ := q1 us rv
  subst eu
  obtain ⟨Hc, B, at0, olds⟩ := Src.begins I1 hr
  refine enum_made B at0 fun h' he hit hk => wpAny_pyIter_enum he ?_
  have I2 : Inv X pins σ H1 { s1 with heap := h' } := I1.kept (t' := s1.toks) hk
  refine ⟨s1.heap.objs.size + 1, [s1.heap.objs.size + 1, s1.heap.objs.size], _, _, H1, rfl, I2, turn_enumG (Nat.succ_ne_self _) (fun z => absurd (olds _ z) (Nat.not_lt.mpr (Nat.le_add_right _ _))) (fun z => Nat.lt_irrefl _ (olds _ z)), ⟨⟨.none, he⟩, Src.tn0 hit⟩, fun b hb => ?_, hR⟩
  have hle : s1.heap.objs.size ≤ b := by
    rcases (show b = s1.heap.objs.size + 1 ∨ b = s1.heap.objs.size by simpa using hb) with z | z
    · rw [z]; exact Nat.le_add_right _ _
    · rw [z]; exact Nat.le_refl _
  exact I1.fpOk hle (I1.hok.fresh hle)
theorem enumD_get : ∀ (ds : List D) (k i : Nat) (x : D), ds[i]? = some x → (enumD k ds)[i]? = some (.tup [.int ((k + i : Nat) : Int), x])
  | [], _, _, _, e => by simp at e
  | d :: ds, k, 0, x, e => by cases e; rfl
  | d :: ds, k, i + 1, x, e => by
    rw [enumD, List.getElem?_cons_succ, enumD_get ds (k + 1) i x (by simpa using e)]
    have : k + 1 + i = k + (i + 1) := by omega
    rw [this]
theorem enumD_len : ∀ (ds : List D) (k : Nat), (enumD k ds).length = ds.length
  | [], _ => rfl
  | d :: ds, k => by rw [enumD, List.length_cons, List.length_cons, enumD_len ds]
theorem walk_enumG {w : Wd} {ds : List D} {r : Src} (rs : Reps w ds r.its) (ha : ∀ w', Step w w' → r.at_ w'.K w'.H) : WalkD w (enumD 0 ds) (ItE w.K r) := by
  have l1 := rs.length
  have h1 : ∀ w', Step w w' → r.at_ w.K w'.H := fun w' s => by have z := ha w' s; rw [s.k] at z; exact z
  refine ⟨fun i w' s hi => ?_, fun w' s => ?_, fun i w' h x H' s r1 hi0 y => ?_⟩
  · rw [enumD_len] at hi
    exact ⟨h1 w' s, by omega⟩
  · rw [enumD_len]
    exact ⟨h1 w' s, by omega⟩
  · obtain ⟨T, x, rfl, hT, rfl, e1⟩ := y
    have i1 : i < ds.length := by rw [← l1]; exact (List.getElem?_eq_some_iff.mp e1).1
    obtain ⟨x', a1, a2⟩ := rs.get (List.getElem?_eq_getElem i1)
    rw [e1] at a1; cases a1
    have eg := enumD_get ds 0 i _ (List.getElem?_eq_getElem i1)
    rw [Nat.zero_add] at eg
    exact ⟨w'.put T (.tup [.int (i : Nat), x]), .tup [.int (i : Nat), ds[i]], xs_put hT, rfl, r1.put hT, eg, rep_tup r1 hT (.cons (by rw [rep_int]) (.cons (Rep.step s _ _ a2) .nil))⟩
section
variable {X : Cx} {gd : Gd} {Ex : XK} {a : Expr} {ma : E} {pos : Pos}
theorem I_enum {p tpos : Pos} {elts : List Expr} {kk : Nat} (hg : Gl X "enumerate") (hm : X.mg "enumerate" = none) (ha : PE X a (tE X.K gd Ex ma)) (hs : starEach [a] X.env = (false, eval a X.env) :: starEach [] X.env := by rfl) (hs2 : starEach [a] X.env = [(false, eval a X.env)] := by rfl) :
    PI X (.Tuple elts kk tpos) (.Call (.Name "enumerate" p) [a] [] pos) (tI X.K gd Ex (iEnum ma)) := by
  refine PI.imp (pi_enumG hg hm (pa_cons ha pa_nil hs) hs2) fun σ H R h => ?_
  obtain ⟨w, h, aσ, wk, wg, rfl, r, s, o⟩ := h
  unfold iEnG L2.tCons
  refine tE_bind wk wg r s o fun d h1 w1 v s1 k1 g1 r1 sl1 rv o1 us hus => ?_
  cases e1 : itemsOf d with
  | none => rw [e1] at o1; exact o1.elim
  | some xs =>
    rw [e1] at o1
    obtain ⟨u1, rfl, q1⟩ : ∃ u1, us = [u1] ∧ RelV v u1 := by
      cases hus with
      | cons p q => cases q; exact ⟨_, rfl, p⟩
    obtain ⟨ra, rfl, rs1, ha1⟩ := src_of rv e1 q1
    refine ⟨ra, rfl, by have z := ha1 w1 (Step.refl w1); rw [k1] at z; exact z, ?_⟩
    have q := out_ret o1 r1 _ (walk_enumG rs1 ha1)
    rw [k1] at q
    exact q
end
end Cf
set_option Elab.async false
set_option linter.all false
set_option maxRecDepth 100000
set_option maxHeartbeats 2000000
/-! CfVw: while, texts repeated, list(range), sorted(dict), isinstance of own classes. -/
namespace Cf
open PySem PySem.Spec PyProof.Rows L2

theorem rep_cps (s : List Nat) : ∀ (n : Nat) (acc : Array Nat), ((List.replicate n s.toArray).foldl (· ++ ·) acc).toList = acc.toList ++ (List.replicate n s).flatten
  | 0, acc => by simp
  | n + 1, acc => by
    rw [List.replicate_succ, List.foldl_cons, rep_cps s n, List.replicate_succ, List.flatten_cons]
    simp
theorem mul_is (s : List Nat) (n : Int) : Txt.mul ⟨s.toArray⟩ n = ⟨(List.replicate n.toNat s).flatten.toArray⟩ := by
  unfold Txt.mul
  by_cases h1 : n < 1
  · rw [if_pos h1]
    have : n.toNat = 0 := by omega
    rw [this]; rfl
  · rw [if_neg h1]
    by_cases h2 : (n == 1 || (⟨s.toArray⟩ : Str).length == 0) = true
    · rw [if_pos h2]
      rw [Bool.or_eq_true, beq_iff_eq, beq_iff_eq, sv_len] at h2
      rcases h2 with h2 | h2
      · subst h2; simp
      · have : s = [] := List.length_eq_zero_iff.mp h2
        subst this
        simp
    · rw [if_neg h2]
      have := rep_cps s n.toNat #[]
      congr 1
      exact Array.toList_inj.mp (by rw [this]; simp)
theorem flat_rep_len (s : List Nat) : ∀ n : Nat, (List.replicate n s).flatten.length = n * s.length
  | 0 => by simp
  | n + 1 => by rw [List.replicate_succ, List.flatten_cons, List.length_append, flat_rep_len s n, Nat.succ_mul]; omega
theorem mul_ok (s : List Nat) {n : Int} (hs : s.length ≤ 1000) (h1 : -1000000 ≤ n) (h2 : n ≤ 1000) : MulOk ⟨s.toArray⟩ n := by
  refine ⟨?_, fun hn _ => ?_, fun hn _ => ?_⟩
  · rw [decide_eq_false (by omega), decide_eq_false (by omega)]; rfl
  · rw [sv_len]
    have : (1000 : Int) ≤ (2 ^ 63 - 1) / n := (Int.le_ediv_iff_mul_le (by omega)).mpr (by omega)
    omega
  · unfold Builtin.Str.tooLong
    rw [sv_len]
    refine decide_eq_false ?_
    have : s.length * n.toNat ≤ 1000 * 1000 := Nat.mul_le_mul hs (by omega)
    rw [sizeLine_eq]
    omega
section
variable {X : Cx} {gd : Gd} {Ex : XK} {e c : Expr} {me : E} {mt : T} {ms : Ms} {p p1 p2 pos pos2 : Pos} {sa : List Stmt}
theorem o_rep : OpR X (binaryOp .Mult) (r2 X.K gd Ex pRep) := by
  intro pins s σ H x y v u Q I rx ry h
  obtain ⟨w, h, dx, dy, wk, wg, rfl, r, hx, hy, o⟩ := h
  cases dx with
  | str z =>
    cases dy with
    | int n =>
      obtain ⟨⟨l1, l2, l3⟩, o⟩ := out_guard (a := ret (D.str (List.replicate n.toNat z).flatten)) o
      rw [rep_str] at hx
      rw [rep_int] at hy
      obtain ⟨rfl, ok⟩ := hx
      subst hy
      obtain ⟨tx, rfl⟩ := rx
      obtain ⟨ty, rfl⟩ := ry
      refine SB.mul (mul_ok z l1 l2 l3) fun t' k => ?_
      rw [mul_is]
      refine ⟨.str _, _, I.tok _, ⟨_, rfl⟩, out_val o r ?_⟩
      rw [rep_str]
      refine ⟨rfl, ?_, fun c hc => ?_⟩
      · rw [flat_rep_len]
        have : n.toNat * z.length ≤ 1000 * 1000 := Nat.mul_le_mul (by omega) l1
        exact Nat.le_trans this (by decide)
      · obtain ⟨l, hl, hc⟩ := List.mem_flatten.mp hc
        rw [(List.mem_replicate.mp hl).2] at hc
        exact ok.ok c hc
    | _ => exact o.elim
  | _ => cases dy <;> exact o.elim
/-- list(range(e)) -/
theorem R_listRange (hc : X.calm = true) (hg : Gl X "list") (hm : X.mg "list" = none) (hg2 : Gl X "range") (hm2 : X.mg "range" = none) (he : PE X e (tE X.K gd Ex me)) (na : starEach [e] X.env = (false, eval e X.env) :: starEach [] X.env := by rfl)
    (na2 : starEach [.Call (.Name "range" p2) [e] [] pos2] X.env = (false, eval (.Call (.Name "range" p2) [e] [] pos2) X.env) :: starEach [] X.env := by rfl) : PE X (.Call (.Name "list" p1) [.Call (.Name "range" p2) [e] [] pos2] [] pos) (tE X.K gd Ex (e1 pRange me)) := by
  refine PE.imp (pe_listRg hc hg hm (prg_1 hg2 hm2 he na) na2) fun σ H Q h => ?_
  obtain ⟨w, h, aσ, wk, wg, rfl, r, s, o⟩ := h
  unfold L2.tLstRg L2.tRg1
  refine tE_bind wk wg r s o fun d h1 w1 v s1 k1 g1 r1 sl1 rv o1 => ?_
  cases d with
  | int n =>
    obtain ⟨⟨l1, l2⟩, o1⟩ := out_guard (a := ret (D.lst (rangeD 0 n))) o1
    rw [rep_int] at rv
    subst rv
    refine ⟨n, rfl, RgOk.of_le (Int.le_refl 0) (by omega) (by omega) l1, fun q hq => ?_⟩
    refine out_put o1 r1 hq (rep_lst r1 hq ?_)
    unfold rgV rangeD
    generalize List.range (n - 0).toNat = l
    induction l with
    | nil => exact .nil
    | cons i l ih => exact .cons (by rw [rep_int]) ih
  | _ => exact o1.elim
theorem strs_keys : ∀ {ks : List D} {kk : List Key} {ys : List (List Nat)}, ks.map dKey = kk.map some → strsOf ks = some ys → kk = (ys.map fun y => (⟨y.toArray⟩ : Str)).map Sum.inr
  | [], [], _, _, e => by cases e; rfl
  | [], _ :: _, _, h, _ => by cases h
  | _ :: _, [], _, h, _ => by cases h
  | k :: ks, a :: kk, ys, h, e => by
    rw [List.map_cons, List.map_cons] at h
    obtain ⟨h1, h2⟩ := List.cons.inj h
    cases k with
    | str z =>
      rw [strsOf] at e
      obtain ⟨zs, e1, rfl⟩ := Option.map_eq_some_iff.mp e
      rw [strs_keys h2 e1]
      cases h1
      rfl
    | _ => cases e
theorem zip_fst {α β : Type} : ∀ {l : List α} {m : List β}, l.length = m.length → (l.zip m).map (·.1) = l
  | [], _, _ => rfl
  | _ :: _, [], h => by cases h
  | a :: l, b :: m, h => by rw [List.zip_cons_cons, List.map_cons, zip_fst (Nat.succ.inj h)]
/-- sorted(d), a dict of texts -/
theorem o_sortD (hc : X.calm = true) : CallR X (.builtin "sorted") (c1 X.K gd Ex pSortD) := by
  intro pins s σ H xs us Q I rs h
  obtain ⟨x, rfl, w, h, dx, wk, wg, rfl, r, hx, o⟩ := h
  unfold pSortD at o
  cases ed : dctOf dx h with
  | none => rw [ed] at o; exact o.elim
  | some q =>
    obtain ⟨t, ks, vs⟩ := q
    rw [ed] at o
    obtain ⟨a, ys0, rfl, q, rr⟩ := dctOf_at r hx ed
    have o2 : Out w Ex (match strsOf ks with | some ys => if t = false ∧ ys.length < 64 ∧ ys.all okL = true then R.ok (D.lst ((sortL ys).map D.str)) h else .no | none => .no) (fun d _ w' => ∀ v, Rep w' d v → Q v w'.H) := o
    cases es : strsOf ks with
    | none => rw [es] at o2; exact o2.elim
    | some ys =>
      rw [es] at o2
      have o3 : Out w Ex (if t = false ∧ ys.length < 64 ∧ ys.all okL = true then R.ok (D.lst ((sortL ys).map D.str)) h else .no) (fun d _ w' => ∀ v, Rep w' d v → Q v w'.H) := o2
      by_cases hl : t = false ∧ ys.length < 64 ∧ ys.all okL = true
      · rw [if_pos hl] at o3
        obtain ⟨rfl, few, okAll⟩ := hl
        obtain ⟨kk, q1, q2, q3⟩ := q
        have ek := strs_keys q1 es
        have oks : ∀ y ∈ ys, SOk y := fun y hy => okL_of (List.all_eq_true.mp okAll y hy)
        refine call_sortedD hc pins s σ _ _ us Q I rs ⟨a, kk.zip ys0, ys.map fun y => (⟨y.toArray⟩ : Str), rfl, .inl q3, by rw [zip_fst q2, ek], by rw [List.length_map]; exact few, fun zs p pm srt hp => ?_⟩
        rw [sorted_is pm srt]
        exact out_put (show Out w Ex ((ret (D.lst ((sortL ys).map D.str)) : M D) h) _ from o3) r hp (rep_lst r hp (strs_rep _ fun y hy => oks y ((sortL_perm ys).mem_iff.mp hy)))
      · rw [if_neg hl] at o3; exact o3.elim
/-- while -/
theorem S_while {n : Nat} (hp : PassesOwn (model X.prog X.w) X.A X.env X.xe) (hc : PT X c (tT X.K gd Ex mt)) (hb : PSs X sa (tS X.K gd Ex ms)) : PS X (.While c sa [] pos) (tS X.K gd Ex (sWhile n mt ms)) := by
  refine PS.imp (ps_while hp hc hb) fun D σ H h => ?_
  obtain ⟨w0, w1, w, h, aσ, fr, st, wk, wg, rfl, r, sl, o⟩ := h
  refine ⟨fun m σ H => ∃ w' h' aσ, w'.H = H ∧ w'.K = X.K ∧ w'.gd = gd ∧ Fr w0 w' ∧ Step w1 w' ∧ RelH w' h' ∧ SlS w0 w' σ aσ ∧ OutS w0 w1 Ex D (whGo mt ms m aσ h'), ⟨n, w, h, aσ, rfl, wk, wg, fr, st, r, sl, o⟩, fun m σ H hW => ?_⟩
  obtain ⟨w', h', aσ', rfl, k', g', f', s', r', sl', o'⟩ := hW
  cases m with
  | zero => exact o'.elim
  | succ m =>
    have o' : OutS w0 w1 Ex D ((mt aσ' h').stmt fun c h1 => if c = true then match ms aσ' h1 with
      | .nx σ2 h2 => whGo mt ms m σ2 h2
      | .ct σ2 h2 => whGo mt ms m σ2 h2
      | .bk σ2 h2 => .nx σ2 h2
      | r => r
      else .nx aσ' h1) := o'
    refine tS_T f' s' k' g' r' sl' o' fun b h1 w2 f2 s2 k2 g2 r2 sl2 o2 => ?_
    cases b with
    | false =>
      rw [if_neg Bool.false_ne_true] at o2 ⊢
      exact o2 w2 σ f2 s2 r2 sl2
    | true =>
      rw [if_pos rfl] at o2 ⊢
      refine ⟨fun σ H => ∃ w' h' aσ, w'.H = H ∧ w'.K = X.K ∧ w'.gd = gd ∧ Fr w0 w' ∧ Step w1 w' ∧ RelH w' h' ∧ SlS w0 w' σ aσ ∧ OutS w0 w1 Ex D (whGo mt ms m aσ h'), fun σ' H' z => ⟨m, Nat.lt_succ_self m, z⟩, ?_⟩
      refine ⟨w0, w1, w2, h1, aσ', f2, s2, k2, g2, rfl, r2, sl2, ?_⟩
      cases em : ms aσ' h1 with
      | nx a2 h2 => rw [em] at o2; exact fun w4 σ4 f4 s4 r4 sl4 => ⟨w4, h2, a2, rfl, f4.k.trans (f2.k.symm.trans k2), f4.g.trans (f2.g.symm.trans g2), f4, s4, r4, sl4, o2⟩
      | ct a2 h2 => rw [em] at o2; exact fun w4 σ4 f4 s4 r4 sl4 => ⟨w4, h2, a2, rfl, f4.k.trans (f2.k.symm.trans k2), f4.g.trans (f2.g.symm.trans g2), f4, s4, r4, sl4, o2⟩
      | bk a2 h2 => rw [em] at o2; exact fun w4 σ4 f4 s4 r4 sl4 => o2 w4 σ4 f4 s4 r4 sl4
      | rt d2 h2 => rw [em] at o2; exact o2
      | er c2 v2 h2 => rw [em] at o2; exact o2
      | no => rw [em] at o2; exact o2
/-- what isinstance asks of a class of the program -/
structure KitO (K : PySem.W.Frag) (gd : Gd) (cs : List String) (c : String) (C : Addr) : Prop where
  cl : gd.cl c = some C
  bl : ∀ n, n = "NoneType" ∨ n = "bool" ∨ n = "int" ∨ n = "str" ∨ n = "tuple" ∨ n = "list" → PySem.W.kitOne K (.type n) (.ref C) = some false
  ins : ∀ k ∈ cs, ∀ C', gd.cl k = some C' → Cls K C' ∧ PySem.W.kitOne K (.ref C') (.ref C) = some (k == c) ∧ PySem.W.findIn K (.ref C') "__class__" = some (some (.builtin "object.__class__")) ∧ PySem.W.mroIn K C' (.type "object") = some true
  hn : PySem.W.specialIn K (.builtin "object.__class__") "__get__" = some (some (.builtin "getset_descriptor.__get__"))
  ht : PySem.W.takesIn K (.builtin "object.__class__") = some true
theorem nm_six {d : D} {n : String} (h : tyNm d = some n) : n = "NoneType" ∨ n = "bool" ∨ n = "int" ∨ n = "str" ∨ n = "tuple" ∨ n = "list" := by
  cases d <;> cases h <;> simp
theorem R_isiO {cs : List String} {cn : String} {C : Addr} (ko : KitO X.K gd cs cn C) (hg : Gl X "isinstance") (hm : X.mg "isinstance" = none) (he : PE X e (tE X.K gd Ex me)) (gT : Gl X (Str.ofString cn)) (mT : X.mg (Str.ofString cn) = some (.ref C))
    (hnd : (Str.ofString cn == ("__debug__" : Str)) = false)
    (hs : starEach [e, .Name (Str.ofString cn) p2] X.env = (false, eval e X.env) :: starEach [.Name (Str.ofString cn) p2] X.env := by rfl) :
    PE X (.Call (.Name "isinstance" p) [e, .Name (Str.ofString cn) p2] [] pos) (tE X.K gd Ex (e1 (pIsiO cs cn) me)) := by
  refine PE.imp (pe_callB call_isi hg hm boot_isinstance (pa_cons he (pa_cons (pe_glob (v := .ref C) gT mT rfl hnd) pa_nil) hs) (by decide) (by decide) hs rfl) fun σ H Q h => ?_
  obtain ⟨w, h, aσ, wk, wg, rfl, r, s, o⟩ := h
  refine tE_bind wk wg r s o fun d h1 w1 v s1 k1 g1 r1 sl1 rv o1 => ?_
  have plain : ∀ n, tyNm d = some n → Out w1 Ex ((ret (D.bl false) : M D) h1) (fun d _ w' => ∀ v, Rep w' d v → Q v w'.H) → rIsi X.K [v, .ref C] w1.H Q := fun n hn o => ⟨v, .ref C, .type n, .ref C, false, rfl, .own C, tyX_of k1 rv hn, ko.bl n (nm_six hn), out_val o r1 (by rw [rep_bl])⟩
  cases d with
  | non => exact plain _ rfl o1
  | bl b => exact plain _ rfl o1
  | int i => exact plain _ rfl o1
  | str z => exact plain _ rfl o1
  | tup ds => exact plain _ rfl o1
  | lst ds => exact plain _ rfl o1
  | obj k ns vs =>
    rw [Rep] at rv
    obtain ⟨a, C', dx, fs, rfl, g, q, _⟩ := rv
    obtain ⟨hk, o1⟩ := out_guard (a := ret (D.bl (k == cn))) o1
    obtain ⟨z1, z2, z3, z4⟩ := ko.ins k hk C' (g1 ▸ g)
    exact ⟨.ref a, .ref C, .ref C', .ref C, (k == cn), rfl, .own C, .base (.ins q z1 z3 ko.hn ko.ht z4), z2, out_val (show Out w1 Ex ((ret (D.bl (k == cn)) : M D) h1) _ from o1) r1 (by rw [rep_bl])⟩
  | dct _ _ _ => exact o1.elim
  | ref _ => exact o1.elim
/-- {} that never changes -/
theorem R_dct0 : PE X (.Dict [] [] pos) (tE X.K gd Ex (eC (.dct false [] []))) := by
  refine PE.imp pe_dnewK fun σ H Q h => ?_
  obtain ⟨w, h, aσ, wk, wg, rfl, r, s, o⟩ := h
  intro p hp
  refine out_put o r hp ?_
  rw [Rep]
  exact ⟨p, [], rfl, ⟨[], rfl, rfl, upd_same⟩, frz_put r hp, .nil⟩
end
end Cf
set_option Elab.async false
set_option linter.all false
set_option maxRecDepth 100000
set_option maxHeartbeats 4000000
namespace Cf
abbrev k_LETTERS : D := (.str (cps "abcdefghijklmnopqrstuvwxyz"))
abbrev k_LEAST_LETTERS : D := (.int 2)
abbrev k_MOST_LETTERS : D := (.int 4)
abbrev k_ANY : D := (.str (cps "?"))
abbrev k_MOST_WORDS : D := (.int 24)
abbrev k_LIKE : D := (.str (cps "like"))
abbrev k_BEGINS : D := (.str (cps "begins"))
abbrev k_ENDS : D := (.str (cps "ends"))
abbrev k_HOLDS : D := (.str (cps "holds"))
abbrev k_COUNT : D := (.str (cps "count"))
abbrev k_FROM : D := (.str (cps "from"))
abbrev k_BACK : D := (.str (cps "back"))
abbrev k_TURNED : D := (.str (cps "turned"))
abbrev k_NOT : D := (.str (cps "not"))
abbrev k_BOTH : D := (.str (cps "both"))
abbrev k_EITHER : D := (.str (cps "either"))
def t_SIZES : List (List Nat × Int) := [((cps "like"), 2), ((cps "begins"), 2), ((cps "ends"), 2), ((cps "holds"), 2), ((cps "count"), 3), ((cps "from"), 3), ((cps "back"), 2), ((cps "turned"), 1), ((cps "not"), 2), ((cps "both"), 3), ((cps "either"), 3)]
abbrev k_MOST_DEPTH : D := (.int 4)
/-- is_number: value low high -/
def b_is_number : Ms :=
  sRet (eAnd (e1 (pIsi [.int]) (eVar 0)) (eAnd (eNot (e1 (pIsi [.bool]) (eVar 0))) (eChain pLe pLe (eVar 1) (eVar 0) (eVar 2))))
def m_is_number : List D → M D := run 3 3 b_is_number

/-- check: is_right name -/
def b_check : Ms :=
  sIf (tNot (tOf (eVar 0)))
   (sRaise "BadArgument" [eVar 1])
   (sPass)
def m_check : List D → M D := run 2 2 b_check

/-- is_text_of: value least most signs sign -/
def b_is_text_of : Ms :=
  sRet (eAnd (e1 (pIsi [.str]) (eVar 0)) (eAnd (eChain pLe pLe (eVar 1) (e1 pLen (eVar 0)) (eVar 2)) (eAll (iOf (eVar 0)) (gVar 4) (tBl (e2 pIn (eVar 4) (eVar 3))) [4])))
def m_is_text_of : List D → M D := run 5 4 b_is_text_of

/-- is_word: value -/
def b_is_word : Ms :=
  sRet (eN m_is_text_of [eVar 0, eC k_LEAST_LETTERS, eC k_MOST_LETTERS, eC k_LETTERS])
def m_is_word : List D → M D := run 1 1 b_is_word

/-- is_pattern: value -/
def b_is_pattern : Ms :=
  sRet (eN m_is_text_of [eVar 0, eC k_LEAST_LETTERS, eC k_MOST_LETTERS, e2 pAdd (eC k_LETTERS) (eC k_ANY)])
def m_is_pattern : List D → M D := run 1 1 b_is_pattern

/-- are_rising: rows one other -/
def b_are_rising : Ms :=
  sRet (eAll (iZip (eVar 0) (eSlice (eVar 0) (some (eC (.int 1))) none)) (gTup [gVar 1, gVar 2]) (tBl (e2 pLt (eVar 1) (eVar 2))) [1, 2])
def m_are_rising : List D → M D := run 3 1 b_are_rising

/-- Book_d_initd_: self words is_right word place sign own -/
def b_Book_d_initd_ : Ms :=
  sSeq (sSet 2 (eAnd (e1 (pIsi [.tuple]) (eVar 1)) (eAnd (e2 pLe (e1 pLen (eVar 1)) (eC k_MOST_WORDS)) (eAll (iOf (eVar 1)) (gVar 6) (tBl (eN m_is_word [eVar 6])) [6]))))
  (sSeq (sExpr (eN m_check [eAnd (eVar 2) (eN m_are_rising [eVar 1]), eC (.str (cps "words"))]))
  (sSeq (sSetFld "Book" "_words" (eVar 0) (eVar 1))
  (sSeq (sSetFld "Book" "_sizes" (eVar 0) (eNewDct false))
  (sSeq (sSetFld "Book" "_places" (eVar 0) (eNewDct true))
  (sFor (iOf (eVar 1)) (gVar 3)
   (sSeq (sAppR (eSetdef (.lst []) (e1 (pFld "Book" "_sizes") (eVar 0)) (e1 pLen (eVar 3))) (eVar 3))
   (sFor (iEnum (eVar 3)) (gTup [gVar 4, gVar 5])
    (sSetDct (eSetdef (.dct false [] []) (e1 (pFld "Book" "_places") (eVar 0)) (eTup [e1 pLen (eVar 3), eVar 4, eVar 5])) (eVar 3) (eC (.bl true))))))))))
def m_Book_d_initd_ : List D → M D := run 7 2 b_Book_d_initd_

/-- Book_words: self -/
def b_Book_words : Ms :=
  sRet (e1 (pFld "Book" "_words") (eVar 0))
def m_Book_words : List D → M D := run 1 1 b_Book_words

/-- Book_fitting: self pattern found place sign there word -/
def b_Book_fitting : Ms :=
  sSeq (sSet 2 (eGetD (e1 (pFld "Book" "_sizes") (eVar 0)) (e1 pLen (eVar 1)) (eLst [])))
  (sSeq (sFor (iEnum (eVar 1)) (gTup [gVar 3, gVar 4])
   (sIf (tOf (e2 pNe (eVar 4) (eC k_ANY)))
    (sSeq (sSet 5 (eGetD (e1 (pFld "Book" "_places") (eVar 0)) (eTup [e1 pLen (eVar 1), eVar 3, eVar 4]) (eC (.dct false [] []))))
    (sSet 2 (eComp (iOf (eVar 2)) (gVar 6) (tOf (e2 pInDct (eVar 6) (eVar 5))) (eVar 6) [6])))
    (sPass)))
  (sRet (e1 pList (eVar 2))))
def m_Book_fitting : List D → M D := run 7 2 b_Book_fitting

/-- is_book: value -/
def b_is_book : Ms :=
  sRet (e1 (pIsiO ["Book"] "Book") (eVar 0))
def m_is_book : List D → M D := run 1 1 b_is_book

/-- is_clue_of: value depth kind own -/
def b_is_clue_of (m : List D → M D) : Ms :=
  sSeq (sIf (tOr (tNot (tOf (e1 (pIsi [.tuple]) (eVar 0)))) (tOr (tOf (e2 pEq (e1 pLen (eVar 0)) (eC (.int 0)))) (tOr (tNot (tOf (e1 (pIsi [.str]) (e2 pIdx (eVar 0) (eC (.int 0)))))) (tOf (e2 pEq (eVar 1) (eC (.int 0)))))))
   (sRet (eC (.bl false)))
   (sPass))
  (sSeq (sSet 2 (e2 pIdx (eVar 0) (eC (.int 0))))
  (sSeq (sIf (tOr (tOf (e1 (pNotInTab t_SIZES) (eVar 2))) (tOf (e2 pNe (e1 pLen (eVar 0)) (e1 (pGetTab t_SIZES) (eVar 2)))))
   (sRet (eC (.bl false)))
   (sPass))
  (sSeq (sIf (tOf (e2 pIn (eVar 2) (eTup [eC k_NOT, eC k_BOTH, eC k_EITHER])))
   (sRet (eAll (iOf (eSlice (eVar 0) (some (eC (.int 1))) none)) (gVar 3) (tBl (eN m [eVar 3, e2 pSub (eVar 1) (eC (.int 1))])) [3]))
   (sPass))
  (sSeq (sIf (tOf (e2 pEq (eVar 2) (eC k_LIKE)))
   (sRet (eN m_is_pattern [e2 pIdx (eVar 0) (eC (.int 1))]))
   (sPass))
  (sSeq (sIf (tOf (e2 pIn (eVar 2) (eTup [eC k_BEGINS, eC k_ENDS, eC k_HOLDS])))
   (sRet (eN m_is_text_of [e2 pIdx (eVar 0) (eC (.int 1)), eC (.int 1), eC k_MOST_LETTERS, eC k_LETTERS]))
   (sPass))
  (sSeq (sIf (tOf (e2 pEq (eVar 2) (eC k_COUNT)))
   (sRet (eAnd (eN m_is_text_of [e2 pIdx (eVar 0) (eC (.int 1)), eC (.int 1), eC (.int 1), eC k_LETTERS]) (eN m_is_number [e2 pIdx (eVar 0) (eC (.int 2)), eC (.int 0), eC k_MOST_LETTERS])))
   (sPass))
  (sSeq (sIf (tOf (e2 pEq (eVar 2) (eC k_FROM)))
   (sRet (eAnd (eN m_is_text_of [e2 pIdx (eVar 0) (eC (.int 1)), eC (.int 1), eC k_MOST_LETTERS, eC k_LETTERS]) (eN m_is_text_of [e2 pIdx (eVar 0) (eC (.int 2)), eC (.int 1), eC k_MOST_LETTERS, eC k_LETTERS])))
   (sPass))
  (sRet (eIf (tOf (e2 pEq (eVar 2) (eC k_BACK))) (eN m_is_word [e2 pIdx (eVar 0) (eC (.int 1))]) (eC (.bl true)))))))))))
def m_is_clue_of : Nat → List D → M D
  | 0 => fun _ => no
  | n + 1 => run 4 2 (b_is_clue_of (m_is_clue_of n))

/-- is_clue: value -/
def b_is_clue : Ms :=
  sRet (eN (m_is_clue_of 8) [eVar 0, eC k_MOST_DEPTH])
def m_is_clue : List D → M D := run 1 1 b_is_clue

/-- fits_pattern: pattern word own sign -/
def b_fits_pattern : Ms :=
  sRet (eAnd (e2 pEq (e1 pLen (eVar 0)) (e1 pLen (eVar 1))) (eAll (iZip (eVar 0) (eVar 1)) (gTup [gVar 2, gVar 3]) (tBl (e2 pIn (eVar 2) (eTup [eC k_ANY, eVar 3]))) [2, 3]))
def m_fits_pattern : List D → M D := run 4 2 b_fits_pattern

/-- plainly_meets: clue word kind one other -/
def b_plainly_meets (m : List D → M D) : Ms :=
  sSeq (sSet 2 (e2 pIdx (eVar 0) (eC (.int 0))))
  (sSeq (sIf (tOf (e2 pEq (eVar 2) (eC k_LIKE)))
   (sRet (eN m_fits_pattern [e2 pIdx (eVar 0) (eC (.int 1)), eVar 1]))
   (sPass))
  (sSeq (sIf (tOf (e2 pEq (eVar 2) (eC k_BEGINS)))
   (sRet (e2 pEq (eSlice (eVar 1) none (some (e1 pLen (e2 pIdx (eVar 0) (eC (.int 1)))))) (e2 pIdx (eVar 0) (eC (.int 1)))))
   (sPass))
  (sSeq (sIf (tOf (e2 pEq (eVar 2) (eC k_ENDS)))
   (sRet (eAnd (e2 pLe (e1 pLen (e2 pIdx (eVar 0) (eC (.int 1)))) (e1 pLen (eVar 1))) (e2 pEq (eSlice (eVar 1) (some (e2 pSub (e1 pLen (eVar 1)) (e1 pLen (e2 pIdx (eVar 0) (eC (.int 1)))))) none) (e2 pIdx (eVar 0) (eC (.int 1))))))
   (sPass))
  (sSeq (sIf (tOf (e2 pEq (eVar 2) (eC k_HOLDS)))
   (sRet (e2 pIn (e2 pIdx (eVar 0) (eC (.int 1))) (eVar 1)))
   (sPass))
  (sSeq (sIf (tOf (e2 pEq (eVar 2) (eC k_COUNT)))
   (sRet (e2 pEq (eS2 pCount (eVar 1) (e2 pIdx (eVar 0) (eC (.int 1)))) (e2 pIdx (eVar 0) (eC (.int 2)))))
   (sPass))
  (sSeq (sIf (tOf (e2 pEq (eVar 2) (eC k_FROM)))
   (sRet (eChain pLe pLe (e2 pIdx (eVar 0) (eC (.int 1))) (eVar 1) (e2 pIdx (eVar 0) (eC (.int 2)))))
   (sPass))
  (sSeq (sIf (tOf (e2 pEq (eVar 2) (eC k_BACK)))
   (sRet (e2 pEq (e1 pRev (eVar 1)) (e2 pIdx (eVar 0) (eC (.int 1)))))
   (sPass))
  (sSeq (sIf (tOf (e2 pEq (eVar 2) (eC k_TURNED)))
   (sRet (e2 pEq (e1 pRev (eVar 1)) (eVar 1)))
   (sPass))
  (sSeq (sIf (tOf (e2 pEq (eVar 2) (eC k_NOT)))
   (sRet (eNot (eN m [e2 pIdx (eVar 0) (eC (.int 1)), eVar 1])))
   (sPass))
  (sSeq (sPar 3 4 (eN m [e2 pIdx (eVar 0) (eC (.int 1)), eVar 1]) (eN m [e2 pIdx (eVar 0) (eC (.int 2)), eVar 1]))
  (sRet (eIf (tOf (e2 pEq (eVar 2) (eC k_BOTH))) (eAnd (eVar 3) (eVar 4)) (eOr (eVar 3) (eVar 4))))))))))))))
def m_plainly_meets : Nat → List D → M D
  | 0 => fun _ => no
  | n + 1 => run 5 2 (b_plainly_meets (m_plainly_meets n))

/-- meets: clue word -/
def b_meets : Ms :=
  sSeq (sExpr (eN m_check [eN m_is_clue [eVar 0], eC (.str (cps "clue"))]))
  (sSeq (sExpr (eN m_check [eN m_is_word [eVar 1], eC (.str (cps "word"))]))
  (sRet (eN (m_plainly_meets 8) [eVar 0, eVar 1])))
def m_meets : List D → M D := run 2 2 b_meets

/-- patterns_with: text size places found place -/
def b_patterns_with : Ms :=
  sSeq (sOwn 3 [])
  (sSeq (sFor (iOf (eVar 2)) (gVar 4)
   (sIf (tOf (eChain pLe pLe (eC (.int 0)) (eVar 4) (e2 pSub (eVar 1) (e1 pLen (eVar 0)))))
    (sApp 3 (e2 pAdd (e2 pAdd (e2 pRep (eC k_ANY) (eVar 4)) (eVar 0)) (e2 pRep (eC k_ANY) (e2 pSub (e2 pSub (eVar 1) (eVar 4)) (e1 pLen (eVar 0))))))
    (sPass)))
  (sFrz 3 (sRet (eVar 3))))
def m_patterns_with : List D → M D := run 5 3 b_patterns_with

/-- places_of: kind text size -/
def b_places_of : Ms :=
  sSeq (sIf (tOf (e2 pEq (eVar 0) (eC k_BEGINS)))
   (sRet (eLst [eC (.int 0)]))
   (sPass))
  (sRet (eIf (tOf (e2 pEq (eVar 0) (eC k_ENDS))) (eLst [e2 pSub (eVar 2) (e1 pLen (eVar 1))]) (e1 pRange (eVar 2))))
def m_places_of : List D → M D := run 3 3 b_places_of

/-- words_with: book kind text found size pattern word -/
def b_words_with : Ms :=
  sSeq (sSet 3 (eNewDct false))
  (sSeq (sFor (iRange2 (eC (.int 1)) (e2 pAdd (eC k_MOST_LETTERS) (eC (.int 1)))) (gVar 4)
   (sFor (iOf (eN m_patterns_with [eVar 2, eVar 4, eN m_places_of [eVar 1, eVar 2, eVar 4]])) (gVar 5)
    (sFor (iOf (eMeth "Book" "fitting" m_Book_fitting (eVar 0) [eVar 5])) (gVar 6)
     (sSetDct (eVar 3) (eVar 6) (eC (.bl true))))))
  (sRet (e1 pSortD (eVar 3))))
def m_words_with : List D → M D := run 7 3 b_words_with

/-- first_at_least: words text low high middle -/
def b_first_at_least : Ms :=
  sSeq (sPar 2 3 (eC (.int 0)) (e1 pLen (eVar 0)))
  (sSeq (sWhile 64 (tOf (e2 pLt (eVar 2) (eVar 3)))
  (sSeq (sSet 4 (e2 pFDiv (e2 pAdd (eVar 2) (eVar 3)) (eC (.int 2))))
   (sAsg (eIf (tOf (e2 pLt (e2 pIdx (eVar 0) (eVar 4)) (eVar 1))) (eTup [e2 pAdd (eVar 4) (eC (.int 1)), eVar 3]) (eTup [eVar 2, eVar 4])) (gTup [gVar 2, gVar 3]))))
  (sRet (eVar 2)))
def m_first_at_least : List D → M D := run 5 2 b_first_at_least

/-- words_between: book low high begin end word -/
def b_words_between : Ms :=
  sSeq (sSet 3 (eN m_first_at_least [e1 (pProp "Book" m_Book_words) (eVar 0), eVar 1]))
  (sSeq (sSet 4 (eN m_first_at_least [e1 (pProp "Book" m_Book_words) (eVar 0), e2 pAdd (eVar 2) (e2 pIdx (eC k_LETTERS) (eC (.int 0)))]))
  (sRet (eComp (iOf (eSlice (e1 (pProp "Book" m_Book_words) (eVar 0)) (some (eVar 3)) (some (eVar 4)))) (gVar 5) (tOf (e2 pLe (eVar 5) (eVar 2))) (eVar 5) [5])))
def m_words_between : List D → M D := run 6 3 b_words_between

/-- words_in: book clue kind there one other word -/
def b_words_in (m : List D → M D) : Ms :=
  sSeq (sSet 2 (e2 pIdx (eVar 1) (eC (.int 0))))
  (sSeq (sIf (tOf (e2 pEq (eVar 2) (eC k_LIKE)))
   (sRet (eMeth "Book" "fitting" m_Book_fitting (eVar 0) [e2 pIdx (eVar 1) (eC (.int 1))]))
   (sPass))
  (sSeq (sIf (tOf (e2 pIn (eVar 2) (eTup [eC k_BEGINS, eC k_ENDS, eC k_HOLDS])))
   (sRet (eN m_words_with [eVar 0, eVar 2, e2 pIdx (eVar 1) (eC (.int 1))]))
   (sPass))
  (sSeq (sIf (tOf (e2 pEq (eVar 2) (eC k_FROM)))
   (sRet (eN m_words_between [eVar 0, e2 pIdx (eVar 1) (eC (.int 1)), e2 pIdx (eVar 1) (eC (.int 2))]))
   (sPass))
  (sSeq (sIf (tOf (e2 pEq (eVar 2) (eC k_BACK)))
   (sRet (eMeth "Book" "fitting" m_Book_fitting (eVar 0) [e1 pRev (e2 pIdx (eVar 1) (eC (.int 1)))]))
   (sPass))
  (sSeq (sIf (tOf (e2 pEq (eVar 2) (eC k_NOT)))
   (sSeq (sSet 3 (eN m [eVar 0, e2 pIdx (eVar 1) (eC (.int 1))]))
   (sRet (eComp (iOf (e1 (pProp "Book" m_Book_words) (eVar 0))) (gVar 6) (tOf (e2 pNotIn (eVar 6) (eVar 3))) (eVar 6) [6])))
   (sPass))
  (sSeq (sIf (tOf (e2 pIn (eVar 2) (eTup [eC k_BOTH, eC k_EITHER])))
   (sSeq (sAsg (eTup [eN m [eVar 0, e2 pIdx (eVar 1) (eC (.int 1))], eN m [eVar 0, e2 pIdx (eVar 1) (eC (.int 2))]]) (gTup [gVar 4, gVar 5]))
   (sRet (eIf (tOf (e2 pEq (eVar 2) (eC k_BOTH))) (eComp (iOf (eVar 4)) (gVar 6) (tOf (e2 pIn (eVar 6) (eVar 5))) (eVar 6) [6]) (e1 pSortU (e2 pAdd (eVar 4) (eVar 5))))))
   (sPass))
  (sRet (eComp (iOf (e1 (pProp "Book" m_Book_words) (eVar 0))) (gVar 6) (tOf (eN (m_plainly_meets 8) [eVar 1, eVar 6])) (eVar 6) [6]))))))))
def m_words_in : Nat → List D → M D
  | 0 => fun _ => no
  | n + 1 => run 7 2 (b_words_in (m_words_in n))

/-- words_by: book clue -/
def b_words_by : Ms :=
  sSeq (sExpr (eN m_check [eN m_is_book [eVar 0], eC (.str (cps "book"))]))
  (sSeq (sExpr (eN m_check [eN m_is_clue [eVar 1], eC (.str (cps "clue"))]))
  (sRet (e1 pTuple (eN (m_words_in 8) [eVar 0, eVar 1]))))
def m_words_by : List D → M D := run 2 2 b_words_by

/-- _law_taken: row many cell found -/
def b__law_taken : Ms :=
  sSeq (sIf (tOf (e2 pGt (e2 pIdx (eVar 0) (eC (.int 3))) (eC (.int 0))))
   (sSeq (sSet 3 (e2 pMod (e1 pInt (e2 pIdx (eVar 0) (eC (.int 3)))) (eVar 1)))
   (sSeq (sSetItem (eVar 0) (eC (.int 3)) (e2 pFDiv (e2 pIdx (eVar 0) (eC (.int 3))) (eVar 1)))
   (sRet (eVar 3))))
   (sPass))
  (sSeq (sSetItem (eVar 0) (eC (.int 1)) (e2 pAdd (e2 pIdx (eVar 0) (eC (.int 1))) (eC (.int 1))))
  (sSeq (sIf (tOf (e2 pGt (e2 pIdx (eVar 0) (eC (.int 1))) (e1 pLen (e2 pIdx (eVar 0) (eC (.int 0))))))
   (sSeq (sSetItem (eVar 0) (eC (.int 2)) (e2 pMod (e1 pInt (e2 pAdd (e2 pMul (e2 pIdx (eVar 0) (eC (.int 2))) (eC (.int 48271))) (eC (.int 11)))) (eC (.int 2147483647))))
   (sRet (e2 pMod (e1 pInt (e2 pFDiv (e2 pIdx (eVar 0) (eC (.int 2))) (eC (.int 7)))) (eVar 1))))
   (sPass))
  (sSeq (sSet 2 (e2 pIdx (e2 pIdx (eVar 0) (eC (.int 0))) (e2 pSub (e2 pIdx (eVar 0) (eC (.int 1))) (eC (.int 1)))))
  (sSeq (sSetItem (eVar 0) (eC (.int 2)) (e2 pMod (e1 pInt (e2 pAdd (e2 pAdd (e2 pMul (e2 pIdx (eVar 0) (eC (.int 2))) (eC (.int 48271))) (eVar 2)) (eC (.int 11)))) (eC (.int 2147483647))))
  (sSeq (sIf (tOf (e2 pGe (eVar 2) (e2 pPow (eC (.int 10)) (eC (.int 18)))))
   (sSetItem (eVar 0) (eC (.int 3)) (e2 pFDiv (eVar 2) (eVar 1)))
   (sPass))
  (sRet (e2 pMod (e1 pInt (eVar 2)) (eVar 1))))))))
def m__law_taken : List D → M D := run 4 2 b__law_taken

/-- _law_pick: row some -/
def b__law_pick : Ms :=
  sRet (e2 pIdx (eVar 1) (eN m__law_taken [eVar 0, e1 pLen (eVar 1)]))
def m__law_pick : List D → M D := run 2 2 b__law_pick

/-- _law_text: row least most signs turn -/
def b__law_text : Ms :=
  sRet (eS2 pJoin (eC (.str (cps ""))) (eComp (iRange1 (e2 pAdd (eVar 1) (eN m__law_taken [eVar 0, e2 pAdd (e2 pSub (eVar 2) (eVar 1)) (eC (.int 1))]))) (gVar 4) (tYes) (e2 pIdx (eVar 3) (eN m__law_taken [eVar 0, e1 pLen (eVar 3)])) [4]))
def m__law_text : List D → M D := run 5 4 b__law_text

/-- _law_words: row most signs turn -/
def b__law_words : Ms :=
  sSeq (sSet 2 (eN m__law_pick [eVar 0, eLst [eC (.str (cps "ab")), eC (.str (cps "abc")), eC (.str (cps "abcde"))]]))
  (sRet (e1 pTuple (e1 pSortU (eComp (iRange1 (eN m__law_taken [eVar 0, e2 pAdd (eVar 1) (eC (.int 1))])) (gVar 3) (tYes) (eN m__law_text [eVar 0, eC (.int 2), eC (.int 4), eVar 2]) [3]))))
def m__law_words : List D → M D := run 4 2 b__law_words

/-- _law_clue: row depth some kind turn -/
def b__law_clue (m : List D → M D) : Ms :=
  sSeq (sSet 2 (eLst [eC (.str (cps "like")), eC (.str (cps "begins")), eC (.str (cps "ends")), eC (.str (cps "holds")), eC (.str (cps "count")), eC (.str (cps "from")), eC (.str (cps "back")), eC (.str (cps "turned"))]))
  (sSeq (sSet 3 (eN m__law_pick [eVar 0, e2 pAdd (eVar 2) (eIf (tOf (e2 pGt (eVar 1) (eC (.int 1)))) (eLst [eC (.str (cps "not")), eC (.str (cps "both")), eC (.str (cps "either"))]) (eLst []))]))
  (sSeq (sIf (tOf (e2 pIn (eVar 3) (eTup [eC (.str (cps "not")), eC (.str (cps "both")), eC (.str (cps "either"))])))
   (sRet (e2 pAdd (eTup [eVar 3]) (e1 pTuple (eComp (iRange1 (eIf (tOf (e2 pEq (eVar 3) (eC (.str (cps "not"))))) (eC (.int 1)) (eC (.int 2)))) (gVar 4) (tYes) (eN m [eVar 0, e2 pSub (eVar 1) (eC (.int 1))]) [4]))))
   (sPass))
  (sSeq (sIf (tOf (e2 pEq (eVar 3) (eC (.str (cps "like")))))
   (sRet (eTup [eVar 3, eN m__law_text [eVar 0, eC (.int 2), eC (.int 4), eC (.str (cps "ab?c?"))]]))
   (sPass))
  (sSeq (sIf (tOf (e2 pIn (eVar 3) (eTup [eC (.str (cps "begins")), eC (.str (cps "ends")), eC (.str (cps "holds"))])))
   (sRet (eTup [eVar 3, eN m__law_text [eVar 0, eC (.int 1), eN m__law_pick [eVar 0, eLst [eC (.int 1), eC (.int 2), eC (.int 4)]], eC (.str (cps "abc"))]]))
   (sPass))
  (sSeq (sIf (tOf (e2 pEq (eVar 3) (eC (.str (cps "count")))))
   (sRet (eTup [eVar 3, eN m__law_pick [eVar 0, eLst [eC (.str (cps "a")), eC (.str (cps "b")), eC (.str (cps "c")), eC (.str (cps "z"))]], eN m__law_taken [eVar 0, eN m__law_pick [eVar 0, eLst [eC (.int 2), eC (.int 5)]]]]))
   (sPass))
  (sSeq (sIf (tOf (e2 pEq (eVar 3) (eC (.str (cps "from")))))
   (sRet (eTup [eVar 3, eN m__law_text [eVar 0, eC (.int 1), eC (.int 4), eC (.str (cps "abcd"))], eN m__law_text [eVar 0, eC (.int 1), eC (.int 4), eC (.str (cps "abcdz"))]]))
   (sPass))
  (sRet (eIf (tOf (e2 pEq (eVar 3) (eC (.str (cps "back"))))) (eTup [eVar 3, eN m__law_text [eVar 0, eC (.int 2), eC (.int 4), eC (.str (cps "abc"))]]) (eTup [eVar 3])))))))))
def m__law_clue : Nat → List D → M D
  | 0 => fun _ => no
  | n + 1 => run 5 2 (b__law_clue (m__law_clue n))

/-- _law_alike: found due k key -/
def b__law_alike (m : List D → M D) : Ms :=
  sSeq (sIf (tOf (e1 (pIsi [.tuple, .list]) (eVar 1)))
   (sSeq (sIf (tOr (tNot (tOf (e1 (pIsi [.tuple, .list]) (eVar 0)))) (tOf (e2 pNe (e1 (pIsi [.list]) (eVar 0)) (e1 (pIsi [.list]) (eVar 1)))))
    (sRet (eC (.bl false)))
    (sPass))
   (sSeq (sIf (tOf (e2 pNe (e1 pLen (eVar 0)) (e1 pLen (eVar 1))))
    (sRet (eC (.bl false)))
    (sPass))
   (sRet (e2 pEq (eComp (iRange1 (e1 pLen (eVar 1))) (gVar 2) (tNot (tOf (eN m [e2 pIdx (eVar 0) (eVar 2), e2 pIdx (eVar 1) (eVar 2)]))) (eVar 2) [2]) (eLst [])))))
   (sPass))
  (sSeq (sIf (tOf (e1 (pIsi [.dict]) (eVar 1)))
  (fun _ _ => .no)
  (sPass))
  (sSeq (sIf (tOr (tOf (e1 pIsN (eVar 1))) (tOf (e1 (pIsi [.str]) (eVar 1))))
   (sRet (eAnd (e2 pEq (eVar 0) (eVar 1)) (e2 pEq (e1 (pIsi [.str]) (eVar 0)) (e1 (pIsi [.str]) (eVar 1)))))
   (sPass))
  (sRet (eAnd (e1 (pIsi [.int]) (eVar 0)) (eAnd (e2 pEq (e1 (pIsi [.bool]) (eVar 0)) (e1 (pIsi [.bool]) (eVar 1))) (e2 pEq (eVar 0) (eVar 1)))))))
def m__law_alike : Nat → List D → M D
  | 0 => fun _ => no
  | n + 1 => run 4 2 (b__law_alike (m__law_alike n))

/-- _law_meets: clue word kind rows places own k sign -/
def b__law_meets (m : List D → M D) : Ms :=
  sSeq (sSet 2 (e2 pIdx (eVar 0) (eC (.int 0))))
  (sSeq (sIf (tOf (e2 pEq (eVar 2) (eC (.str (cps "like")))))
   (sRet (eAnd (e2 pEq (e1 pLen (e2 pIdx (eVar 0) (eC (.int 1)))) (e1 pLen (eVar 1))) (e2 pEq (eComp (iRange1 (e1 pLen (eVar 1))) (gVar 6) (tOf (e2 pNotIn (e2 pIdx (e2 pIdx (eVar 0) (eC (.int 1))) (eVar 6)) (eTup [eC (.str (cps "?")), e2 pIdx (eVar 1) (eVar 6)]))) (eVar 6) [6]) (eLst []))))
   (sPass))
  (sSeq (sIf (tOf (e2 pIn (eVar 2) (eTup [eC (.str (cps "begins")), eC (.str (cps "ends")), eC (.str (cps "holds"))])))
   (sSeq (sSet 4 (eComp (iRange1 (e2 pAdd (e2 pSub (e1 pLen (eVar 1)) (e1 pLen (e2 pIdx (eVar 0) (eC (.int 1))))) (eC (.int 1)))) (gVar 6) (tOf (e2 pEq (eSlice (eVar 1) (some (eVar 6)) (some (e2 pAdd (eVar 6) (e1 pLen (e2 pIdx (eVar 0) (eC (.int 1))))))) (e2 pIdx (eVar 0) (eC (.int 1))))) (eVar 6) [6]))
   (sRet (eIf (tOf (e2 pNe (eVar 2) (eC (.str (cps "holds"))))) (e2 pIn (eIf (tOf (e2 pEq (eVar 2) (eC (.str (cps "begins"))))) (eC (.int 0)) (e2 pSub (e1 pLen (eVar 1)) (e1 pLen (e2 pIdx (eVar 0) (eC (.int 1)))))) (eVar 4)) (e2 pNe (eVar 4) (eLst [])))))
   (sPass))
  (sSeq (sIf (tOf (e2 pEq (eVar 2) (eC (.str (cps "count")))))
   (sRet (e2 pEq (e1 pLen (eComp (iOf (eVar 1)) (gVar 7) (tOf (e2 pEq (eVar 7) (e2 pIdx (eVar 0) (eC (.int 1))))) (eVar 7) [7])) (e2 pIdx (eVar 0) (eC (.int 2)))))
   (sPass))
  (sSeq (sIf (tOf (e2 pEq (eVar 2) (eC (.str (cps "from")))))
   (sRet (eAnd (eNot (e2 pLt (eVar 1) (e2 pIdx (eVar 0) (eC (.int 1))))) (eNot (e2 pGt (eVar 1) (e2 pIdx (eVar 0) (eC (.int 2)))))))
   (sPass))
  (sSeq (sIf (tOf (e2 pIn (eVar 2) (eTup [eC (.str (cps "back")), eC (.str (cps "turned"))])))
   (sRet (e2 pEq (eS2 pJoin (eC (.str (cps ""))) (eComp (iRange1 (e1 pLen (eVar 1))) (gVar 6) (tYes) (e2 pIdx (eVar 1) (e2 pSub (e2 pSub (e1 pLen (eVar 1)) (eC (.int 1))) (eVar 6))) [6])) (eIf (tOf (e2 pEq (eVar 2) (eC (.str (cps "back"))))) (e2 pIdx (eVar 0) (eC (.int 1))) (eVar 1))))
   (sPass))
  (sSeq (sSet 3 (eComp (iOf (eSlice (eVar 0) (some (eC (.int 1))) none)) (gVar 5) (tYes) (eN m [eVar 5, eVar 1]) [5]))
  (sSeq (sIf (tOf (e2 pEq (eVar 2) (eC (.str (cps "not")))))
   (sRet (eNot (e2 pIdx (eVar 3) (eC (.int 0)))))
   (sPass))
  (sRet (eIf (tOf (e2 pEq (eVar 2) (eC (.str (cps "both"))))) (e2 pNotIn (eC (.bl false)) (eVar 3)) (e2 pIn (eC (.bl true)) (eVar 3)))))))))))
def m__law_meets : Nat → List D → M D
  | 0 => fun _ => no
  | n + 1 => run 8 2 (b__law_meets (m__law_meets n))

/-- _law_refused: row words book bad -/
def b__law_refused : Ms :=
  sSeq (sSet 3 (eN m__law_pick [eVar 0, eLst [eC .non, eTup [], eC (.str (cps "turned")), eTup [eC (.str (cps "turn"))], eTup [eC (.str (cps "like")), eC (.str (cps "a"))], eTup [eC (.str (cps "count")), eC (.str (cps "a"))]]]))
  (sRet (eN (m__law_alike 8) [eLst [eHeard (eN m_words_by [eVar 2, eVar 3]), eHeard (eN m_words_by [eVar 1, eVar 3])], eLst [eTup [eC (.str (cps "bad")), eC (.str (cps "clue")), eC (.bl true)], eTup [eC (.str (cps "bad")), eC (.str (cps "book")), eC (.bl true)]]]))
def m__law_refused : List D → M D := run 4 3 b__law_refused

/-- law: script row words book turn clue found word -/
def b_law : Ms :=
  sSeq (sSet 1 (eNewRef [eVar 0, eC (.int 0), eC (.int 7507103), eC (.int 0)]))
  (sSeq (sSet 2 (eN m__law_words [eVar 1, eC (.int 24)]))
  (sSeq (sSet 3 (eMake "Book" m_Book_d_initd_ [eVar 2]))
  (sSeq (sFor (iRange1 (eC (.int 12))) (gVar 4)
   (sSeq (sSet 5 (eN (m__law_clue 8) [eVar 1, eC (.int 4)]))
   (sSeq (sSet 6 (eN m_words_by [eVar 3, eVar 5]))
   (sSeq (sIf (tOr (tNot (tOf (eN (m__law_alike 8) [eVar 6, e1 pTuple (eComp (iOf (eVar 2)) (gVar 7) (tOf (eN (m__law_meets 8) [eVar 5, eVar 7])) (eVar 7) [7])]))) (tOf (e2 pNe (eComp (iOf (eVar 2)) (gVar 7) (tOf (e2 pNe (eN m_meets [eVar 5, eVar 7]) (e2 pIn (eVar 7) (eVar 6)))) (eVar 7) [7]) (eLst []))))
    (sRet (eC (.bl false)))
    (sPass))
   (sIf (tNot (tOf (eN (m__law_alike 8) [eN m_words_by [eVar 3, eTup [eC (.str (cps "both")), eTup [eC (.str (cps "turned"))], eTup [eC (.str (cps "not")), eTup [eC (.str (cps "turned"))]]]], eTup []])))
    (sRet (eC (.bl false)))
    (sPass))))))
  (sRet (eN m__law_refused [eVar 1, eVar 2, eVar 3])))))
def m_law : List D → M D := run 8 1 b_law

end Cf
set_option Elab.async false
set_option linter.all false
set_option maxRecDepth 100000
set_option maxHeartbeats 4000000
namespace Cf
open PySem PySem.Spec L2
/-- the text by places -/
def top (i : Nat) : Stmt := PySem.Challenge.pw_crossfills_k03_words_by_clues.main.body.getD i (.Pass ⟨0, 0, 0, 0⟩)
def innerS (s : Stmt) (i : Nat) : Stmt := match s with
  | .ClassDef _ _ _ b _ _ _ _ _ _ _ => b.getD i (.Pass ⟨0, 0, 0, 0⟩)
  | _ => .Pass ⟨0, 0, 0, 0⟩
abbrev s_is_number : Stmt := top 12
theorem sc_is_number : FnScope ["value", "low", "high"] ["value", "low", "high"] (defScope s_is_number) := ⟨rfl, rfl, rfl, by decide +kernel, rfl, by decide +kernel, by decide +kernel⟩
abbrev s_check : Stmt := top 13
theorem sc_check : FnScope ["is_right", "name"] ["is_right", "name"] (defScope s_check) := ⟨rfl, rfl, rfl, by decide +kernel, rfl, by decide +kernel, by decide +kernel⟩
abbrev s_is_text_of : Stmt := top 14
theorem sc_is_text_of : FnScope ["value", "least", "most", "signs", "sign"] ["value", "least", "most", "signs"] (defScope s_is_text_of) := ⟨rfl, rfl, rfl, by decide +kernel, rfl, by decide +kernel, by decide +kernel⟩
abbrev s_is_word : Stmt := top 15
theorem sc_is_word : FnScope ["value"] ["value"] (defScope s_is_word) := ⟨rfl, rfl, rfl, by decide +kernel, rfl, by decide +kernel, by decide +kernel⟩
abbrev s_is_pattern : Stmt := top 16
theorem sc_is_pattern : FnScope ["value"] ["value"] (defScope s_is_pattern) := ⟨rfl, rfl, rfl, by decide +kernel, rfl, by decide +kernel, by decide +kernel⟩
abbrev s_are_rising : Stmt := top 17
theorem sc_are_rising : FnScope ["rows", "one", "other"] ["rows"] (defScope s_are_rising) := ⟨rfl, rfl, rfl, by decide +kernel, rfl, by decide +kernel, by decide +kernel⟩
abbrev s_Book_d_initd_ : Stmt := innerS (top 20) 0
theorem sc_Book_d_initd_ : FnScope ["self", "words", "is_right", "word", "place", "sign", "own"] ["self", "words"] (defScope s_Book_d_initd_) := ⟨rfl, rfl, rfl, by decide +kernel, rfl, by decide +kernel, by decide +kernel⟩
abbrev s_Book_words : Stmt := innerS (top 20) 1
theorem sc_Book_words : FnScope ["self"] ["self"] (defScope s_Book_words) := ⟨rfl, rfl, rfl, by decide +kernel, rfl, by decide +kernel, by decide +kernel⟩
abbrev s_Book_fitting : Stmt := innerS (top 20) 5
theorem sc_Book_fitting : FnScope ["self", "pattern", "found", "place", "sign", "there", "word"] ["self", "pattern"] (defScope s_Book_fitting) := ⟨rfl, rfl, rfl, by decide +kernel, rfl, by decide +kernel, by decide +kernel⟩
abbrev s_is_book : Stmt := top 21
theorem sc_is_book : FnScope ["value"] ["value"] (defScope s_is_book) := ⟨rfl, rfl, rfl, by decide +kernel, rfl, by decide +kernel, by decide +kernel⟩
abbrev s_is_clue_of : Stmt := top 36
theorem sc_is_clue_of : FnScope ["value", "depth", "kind", "own"] ["value", "depth"] (defScope s_is_clue_of) := ⟨rfl, rfl, rfl, by decide +kernel, rfl, by decide +kernel, by decide +kernel⟩
abbrev s_is_clue : Stmt := top 37
theorem sc_is_clue : FnScope ["value"] ["value"] (defScope s_is_clue) := ⟨rfl, rfl, rfl, by decide +kernel, rfl, by decide +kernel, by decide +kernel⟩
abbrev s_fits_pattern : Stmt := top 38
theorem sc_fits_pattern : FnScope ["pattern", "word", "own", "sign"] ["pattern", "word"] (defScope s_fits_pattern) := ⟨rfl, rfl, rfl, by decide +kernel, rfl, by decide +kernel, by decide +kernel⟩
abbrev s_plainly_meets : Stmt := top 39
theorem sc_plainly_meets : FnScope ["clue", "word", "kind", "one", "other"] ["clue", "word"] (defScope s_plainly_meets) := ⟨rfl, rfl, rfl, by decide +kernel, rfl, by decide +kernel, by decide +kernel⟩
abbrev s_meets : Stmt := top 40
theorem sc_meets : FnScope ["clue", "word"] ["clue", "word"] (defScope s_meets) := ⟨rfl, rfl, rfl, by decide +kernel, rfl, by decide +kernel, by decide +kernel⟩
abbrev s_patterns_with : Stmt := top 41
theorem sc_patterns_with : FnScope ["text", "size", "places", "found", "place"] ["text", "size", "places"] (defScope s_patterns_with) := ⟨rfl, rfl, rfl, by decide +kernel, rfl, by decide +kernel, by decide +kernel⟩
abbrev s_places_of : Stmt := top 42
theorem sc_places_of : FnScope ["kind", "text", "size"] ["kind", "text", "size"] (defScope s_places_of) := ⟨rfl, rfl, rfl, by decide +kernel, rfl, by decide +kernel, by decide +kernel⟩
abbrev s_words_with : Stmt := top 43
theorem sc_words_with : FnScope ["book", "kind", "text", "found", "size", "pattern", "word"] ["book", "kind", "text"] (defScope s_words_with) := ⟨rfl, rfl, rfl, by decide +kernel, rfl, by decide +kernel, by decide +kernel⟩
abbrev s_first_at_least : Stmt := top 44
theorem sc_first_at_least : FnScope ["words", "text", "low", "high", "middle"] ["words", "text"] (defScope s_first_at_least) := ⟨rfl, rfl, rfl, by decide +kernel, rfl, by decide +kernel, by decide +kernel⟩
abbrev s_words_between : Stmt := top 45
theorem sc_words_between : FnScope ["book", "low", "high", "begin", "end", "word"] ["book", "low", "high"] (defScope s_words_between) := ⟨rfl, rfl, rfl, by decide +kernel, rfl, by decide +kernel, by decide +kernel⟩
abbrev s_words_in : Stmt := top 46
theorem sc_words_in : FnScope ["book", "clue", "kind", "there", "one", "other", "word"] ["book", "clue"] (defScope s_words_in) := ⟨rfl, rfl, rfl, by decide +kernel, rfl, by decide +kernel, by decide +kernel⟩
abbrev s_words_by : Stmt := top 47
theorem sc_words_by : FnScope ["book", "clue"] ["book", "clue"] (defScope s_words_by) := ⟨rfl, rfl, rfl, by decide +kernel, rfl, by decide +kernel, by decide +kernel⟩
abbrev s__law_taken : Stmt := top 49
theorem sc__law_taken : FnScope ["row", "many", "cell", "found"] ["row", "many"] (defScope s__law_taken) := ⟨rfl, rfl, rfl, by decide +kernel, rfl, by decide +kernel, by decide +kernel⟩
abbrev s__law_pick : Stmt := top 50
theorem sc__law_pick : FnScope ["row", "some"] ["row", "some"] (defScope s__law_pick) := ⟨rfl, rfl, rfl, by decide +kernel, rfl, by decide +kernel, by decide +kernel⟩
abbrev s__law_text : Stmt := top 51
theorem sc__law_text : FnScope ["row", "least", "most", "signs", "turn"] ["row", "least", "most", "signs"] (defScope s__law_text) := ⟨rfl, rfl, rfl, by decide +kernel, rfl, by decide +kernel, by decide +kernel⟩
abbrev s__law_words : Stmt := top 52
theorem sc__law_words : FnScope ["row", "most", "signs", "turn"] ["row", "most"] (defScope s__law_words) := ⟨rfl, rfl, rfl, by decide +kernel, rfl, by decide +kernel, by decide +kernel⟩
abbrev s__law_clue : Stmt := top 53
theorem sc__law_clue : FnScope ["row", "depth", "some", "kind", "turn"] ["row", "depth"] (defScope s__law_clue) := ⟨rfl, rfl, rfl, by decide +kernel, rfl, by decide +kernel, by decide +kernel⟩
abbrev s__law_alike : Stmt := top 54
theorem sc__law_alike : FnScope ["found", "due", "k", "key"] ["found", "due"] (defScope s__law_alike) := ⟨rfl, rfl, rfl, by decide +kernel, rfl, by decide +kernel, by decide +kernel⟩
abbrev s__law_meets : Stmt := top 55
theorem sc__law_meets : FnScope ["clue", "word", "kind", "rows", "places", "own", "k", "sign"] ["clue", "word"] (defScope s__law_meets) := ⟨rfl, rfl, rfl, by decide +kernel, rfl, by decide +kernel, by decide +kernel⟩
abbrev s__law_heard : Stmt := top 56
theorem sc__law_heard : FnScope ["ask", "e"] ["ask"] (defScope s__law_heard) := ⟨rfl, rfl, rfl, by decide +kernel, rfl, by decide +kernel, by decide +kernel⟩
abbrev s__law_refused : Stmt := top 57
theorem sc__law_refused : FnScope ["row", "words", "book", "bad"] ["row", "words", "book"] (defScope s__law_refused) := ⟨rfl, rfl, rfl, by decide +kernel, rfl, by decide +kernel, by decide +kernel⟩
abbrev s_law : Stmt := top 58
theorem sc_law : FnScope ["script", "row", "words", "book", "turn", "clue", "found", "word"] ["script"] (defScope s_law) := ⟨rfl, rfl, rfl, by decide +kernel, rfl, by decide +kernel, by decide +kernel⟩
theorem bt_bool : bootBuiltins "bool" = some (.type "bool") := by decide +kernel
theorem bt_dict : bootBuiltins "dict" = some (.type "dict") := by decide +kernel
theorem bt_int : bootBuiltins "int" = some (.type "int") := by decide +kernel
theorem bt_list : bootBuiltins "list" = some (.type "list") := by decide +kernel
theorem bt_set : bootBuiltins "set" = some (.type "set") := by decide +kernel
theorem bt_str : bootBuiltins "str" = some (.type "str") := by decide +kernel
theorem bt_tuple : bootBuiltins "tuple" = some (.type "tuple") := by decide +kernel
theorem bb_sorted : bootBuiltins "sorted" = some (.builtin "sorted") := by decide +kernel
/-- what stands behind the top -/
structure Mo (P : Program) (w : World) (K : PySem.W.Frag) (mg : Str → Option Value) (base : Heap) (gd : Gd) where
  f_is_number : Addr
  d_is_number : FuncData
  c_is_number : Addr
  n_is_number : Dn K "is_number" "is_number" s_is_number f_is_number d_is_number (.ref c_is_number)
  b_is_number : L2.Binds K d_is_number ["value", "low", "high"] []
  m_is_number : mg "is_number" = some (.ref f_is_number)
  f_check : Addr
  d_check : FuncData
  c_check : Addr
  n_check : Dn K "check" "check" s_check f_check d_check (.ref c_check)
  b_check : L2.Binds K d_check ["is_right", "name"] []
  m_check : mg "check" = some (.ref f_check)
  f_is_text_of : Addr
  d_is_text_of : FuncData
  c_is_text_of : Addr
  n_is_text_of : Dn K "is_text_of" "is_text_of" s_is_text_of f_is_text_of d_is_text_of (.ref c_is_text_of)
  b_is_text_of : L2.Binds K d_is_text_of ["value", "least", "most", "signs"] []
  m_is_text_of : mg "is_text_of" = some (.ref f_is_text_of)
  q_is_text_of : Addr
  x_is_text_of : LamX.TabB base mg c_is_text_of q_is_text_of
  y_is_text_of : (q_is_text_of, ("is_text_of" : Str) ++ ".<locals>." ++ "<genexpr>") ∈ gd.T
  o_is_text_of : ∀ p ∈ gd.T, p.1 = q_is_text_of → p.2 = ("is_text_of" : Str) ++ ".<locals>." ++ "<genexpr>"
  f_is_word : Addr
  d_is_word : FuncData
  c_is_word : Addr
  n_is_word : Dn K "is_word" "is_word" s_is_word f_is_word d_is_word (.ref c_is_word)
  b_is_word : L2.Binds K d_is_word ["value"] []
  m_is_word : mg "is_word" = some (.ref f_is_word)
  f_is_pattern : Addr
  d_is_pattern : FuncData
  c_is_pattern : Addr
  n_is_pattern : Dn K "is_pattern" "is_pattern" s_is_pattern f_is_pattern d_is_pattern (.ref c_is_pattern)
  b_is_pattern : L2.Binds K d_is_pattern ["value"] []
  m_is_pattern : mg "is_pattern" = some (.ref f_is_pattern)
  f_are_rising : Addr
  d_are_rising : FuncData
  c_are_rising : Addr
  n_are_rising : Dn K "are_rising" "are_rising" s_are_rising f_are_rising d_are_rising (.ref c_are_rising)
  b_are_rising : L2.Binds K d_are_rising ["rows"] []
  m_are_rising : mg "are_rising" = some (.ref f_are_rising)
  q_are_rising : Addr
  x_are_rising : LamX.TabB base mg c_are_rising q_are_rising
  y_are_rising : (q_are_rising, ("are_rising" : Str) ++ ".<locals>." ++ "<genexpr>") ∈ gd.T
  o_are_rising : ∀ p ∈ gd.T, p.1 = q_are_rising → p.2 = ("are_rising" : Str) ++ ".<locals>." ++ "<genexpr>"
  f_Book_d_initd_ : Addr
  d_Book_d_initd_ : FuncData
  c_Book_d_initd_ : Addr
  n_Book_d_initd_ : Dn K "__init__" "Book.__init__" s_Book_d_initd_ f_Book_d_initd_ d_Book_d_initd_ (.ref c_Book_d_initd_)
  b_Book_d_initd_ : L2.Binds K d_Book_d_initd_ ["self", "words"] []
  q_Book_d_initd_ : Addr
  x_Book_d_initd_ : LamX.TabB base mg c_Book_d_initd_ q_Book_d_initd_
  y_Book_d_initd_ : (q_Book_d_initd_, ("Book.__init__" : Str) ++ ".<locals>." ++ "<genexpr>") ∈ gd.T
  o_Book_d_initd_ : ∀ p ∈ gd.T, p.1 = q_Book_d_initd_ → p.2 = ("Book.__init__" : Str) ++ ".<locals>." ++ "<genexpr>"
  f_Book_words : Addr
  d_Book_words : FuncData
  c_Book_words : Addr
  n_Book_words : Dn K "words" "Book.words" s_Book_words f_Book_words d_Book_words (.ref c_Book_words)
  b_Book_words : L2.Binds K d_Book_words ["self"] []
  f_Book_fitting : Addr
  d_Book_fitting : FuncData
  c_Book_fitting : Addr
  n_Book_fitting : Dn K "fitting" "Book.fitting" s_Book_fitting f_Book_fitting d_Book_fitting (.ref c_Book_fitting)
  b_Book_fitting : L2.Binds K d_Book_fitting ["self", "pattern"] []
  f_is_book : Addr
  d_is_book : FuncData
  c_is_book : Addr
  n_is_book : Dn K "is_book" "is_book" s_is_book f_is_book d_is_book (.ref c_is_book)
  b_is_book : L2.Binds K d_is_book ["value"] []
  m_is_book : mg "is_book" = some (.ref f_is_book)
  f_is_clue_of : Addr
  d_is_clue_of : FuncData
  c_is_clue_of : Addr
  n_is_clue_of : Dn K "is_clue_of" "is_clue_of" s_is_clue_of f_is_clue_of d_is_clue_of (.ref c_is_clue_of)
  b_is_clue_of : L2.Binds K d_is_clue_of ["value", "depth"] []
  m_is_clue_of : mg "is_clue_of" = some (.ref f_is_clue_of)
  q_is_clue_of : Addr
  x_is_clue_of : LamX.TabB base mg c_is_clue_of q_is_clue_of
  y_is_clue_of : (q_is_clue_of, ("is_clue_of" : Str) ++ ".<locals>." ++ "<genexpr>") ∈ gd.T
  o_is_clue_of : ∀ p ∈ gd.T, p.1 = q_is_clue_of → p.2 = ("is_clue_of" : Str) ++ ".<locals>." ++ "<genexpr>"
  f_is_clue : Addr
  d_is_clue : FuncData
  c_is_clue : Addr
  n_is_clue : Dn K "is_clue" "is_clue" s_is_clue f_is_clue d_is_clue (.ref c_is_clue)
  b_is_clue : L2.Binds K d_is_clue ["value"] []
  m_is_clue : mg "is_clue" = some (.ref f_is_clue)
  f_fits_pattern : Addr
  d_fits_pattern : FuncData
  c_fits_pattern : Addr
  n_fits_pattern : Dn K "fits_pattern" "fits_pattern" s_fits_pattern f_fits_pattern d_fits_pattern (.ref c_fits_pattern)
  b_fits_pattern : L2.Binds K d_fits_pattern ["pattern", "word"] []
  m_fits_pattern : mg "fits_pattern" = some (.ref f_fits_pattern)
  q_fits_pattern : Addr
  x_fits_pattern : LamX.TabB base mg c_fits_pattern q_fits_pattern
  y_fits_pattern : (q_fits_pattern, ("fits_pattern" : Str) ++ ".<locals>." ++ "<genexpr>") ∈ gd.T
  o_fits_pattern : ∀ p ∈ gd.T, p.1 = q_fits_pattern → p.2 = ("fits_pattern" : Str) ++ ".<locals>." ++ "<genexpr>"
  f_plainly_meets : Addr
  d_plainly_meets : FuncData
  c_plainly_meets : Addr
  n_plainly_meets : Dn K "plainly_meets" "plainly_meets" s_plainly_meets f_plainly_meets d_plainly_meets (.ref c_plainly_meets)
  b_plainly_meets : L2.Binds K d_plainly_meets ["clue", "word"] []
  m_plainly_meets : mg "plainly_meets" = some (.ref f_plainly_meets)
  f_meets : Addr
  d_meets : FuncData
  c_meets : Addr
  n_meets : Dn K "meets" "meets" s_meets f_meets d_meets (.ref c_meets)
  b_meets : L2.Binds K d_meets ["clue", "word"] []
  m_meets : mg "meets" = some (.ref f_meets)
  f_patterns_with : Addr
  d_patterns_with : FuncData
  c_patterns_with : Addr
  n_patterns_with : Dn K "patterns_with" "patterns_with" s_patterns_with f_patterns_with d_patterns_with (.ref c_patterns_with)
  b_patterns_with : L2.Binds K d_patterns_with ["text", "size", "places"] []
  m_patterns_with : mg "patterns_with" = some (.ref f_patterns_with)
  f_places_of : Addr
  d_places_of : FuncData
  c_places_of : Addr
  n_places_of : Dn K "places_of" "places_of" s_places_of f_places_of d_places_of (.ref c_places_of)
  b_places_of : L2.Binds K d_places_of ["kind", "text", "size"] []
  m_places_of : mg "places_of" = some (.ref f_places_of)
  f_words_with : Addr
  d_words_with : FuncData
  c_words_with : Addr
  n_words_with : Dn K "words_with" "words_with" s_words_with f_words_with d_words_with (.ref c_words_with)
  b_words_with : L2.Binds K d_words_with ["book", "kind", "text"] []
  m_words_with : mg "words_with" = some (.ref f_words_with)
  f_first_at_least : Addr
  d_first_at_least : FuncData
  c_first_at_least : Addr
  n_first_at_least : Dn K "first_at_least" "first_at_least" s_first_at_least f_first_at_least d_first_at_least (.ref c_first_at_least)
  b_first_at_least : L2.Binds K d_first_at_least ["words", "text"] []
  m_first_at_least : mg "first_at_least" = some (.ref f_first_at_least)
  f_words_between : Addr
  d_words_between : FuncData
  c_words_between : Addr
  n_words_between : Dn K "words_between" "words_between" s_words_between f_words_between d_words_between (.ref c_words_between)
  b_words_between : L2.Binds K d_words_between ["book", "low", "high"] []
  m_words_between : mg "words_between" = some (.ref f_words_between)
  f_words_in : Addr
  d_words_in : FuncData
  c_words_in : Addr
  n_words_in : Dn K "words_in" "words_in" s_words_in f_words_in d_words_in (.ref c_words_in)
  b_words_in : L2.Binds K d_words_in ["book", "clue"] []
  m_words_in : mg "words_in" = some (.ref f_words_in)
  f_words_by : Addr
  d_words_by : FuncData
  c_words_by : Addr
  n_words_by : Dn K "words_by" "words_by" s_words_by f_words_by d_words_by (.ref c_words_by)
  b_words_by : L2.Binds K d_words_by ["book", "clue"] []
  m_words_by : mg "words_by" = some (.ref f_words_by)
  f__law_taken : Addr
  d__law_taken : FuncData
  c__law_taken : Addr
  n__law_taken : Dn K "_law_taken" "_law_taken" s__law_taken f__law_taken d__law_taken (.ref c__law_taken)
  b__law_taken : L2.Binds K d__law_taken ["row", "many"] []
  m__law_taken : mg "_law_taken" = some (.ref f__law_taken)
  f__law_pick : Addr
  d__law_pick : FuncData
  c__law_pick : Addr
  n__law_pick : Dn K "_law_pick" "_law_pick" s__law_pick f__law_pick d__law_pick (.ref c__law_pick)
  b__law_pick : L2.Binds K d__law_pick ["row", "some"] []
  m__law_pick : mg "_law_pick" = some (.ref f__law_pick)
  f__law_text : Addr
  d__law_text : FuncData
  c__law_text : Addr
  n__law_text : Dn K "_law_text" "_law_text" s__law_text f__law_text d__law_text (.ref c__law_text)
  b__law_text : L2.Binds K d__law_text ["row", "least", "most", "signs"] []
  m__law_text : mg "_law_text" = some (.ref f__law_text)
  f__law_words : Addr
  d__law_words : FuncData
  c__law_words : Addr
  n__law_words : Dn K "_law_words" "_law_words" s__law_words f__law_words d__law_words (.ref c__law_words)
  b__law_words : L2.Binds K d__law_words ["row", "most"] []
  m__law_words : mg "_law_words" = some (.ref f__law_words)
  f__law_clue : Addr
  d__law_clue : FuncData
  c__law_clue : Addr
  n__law_clue : Dn K "_law_clue" "_law_clue" s__law_clue f__law_clue d__law_clue (.ref c__law_clue)
  b__law_clue : L2.Binds K d__law_clue ["row", "depth"] []
  m__law_clue : mg "_law_clue" = some (.ref f__law_clue)
  f__law_alike : Addr
  d__law_alike : FuncData
  c__law_alike : Addr
  n__law_alike : Dn K "_law_alike" "_law_alike" s__law_alike f__law_alike d__law_alike (.ref c__law_alike)
  b__law_alike : L2.Binds K d__law_alike ["found", "due"] []
  m__law_alike : mg "_law_alike" = some (.ref f__law_alike)
  f__law_meets : Addr
  d__law_meets : FuncData
  c__law_meets : Addr
  n__law_meets : Dn K "_law_meets" "_law_meets" s__law_meets f__law_meets d__law_meets (.ref c__law_meets)
  b__law_meets : L2.Binds K d__law_meets ["clue", "word"] []
  m__law_meets : mg "_law_meets" = some (.ref f__law_meets)
  f__law_heard : Addr
  d__law_heard : FuncData
  c__law_heard : Addr
  n__law_heard : Dn K "_law_heard" "_law_heard" s__law_heard f__law_heard d__law_heard (.ref c__law_heard)
  b__law_heard : L2.Binds K d__law_heard ["ask"] []
  m__law_heard : mg "_law_heard" = some (.ref f__law_heard)
  f__law_refused : Addr
  d__law_refused : FuncData
  c__law_refused : Addr
  n__law_refused : Dn K "_law_refused" "_law_refused" s__law_refused f__law_refused d__law_refused (.ref c__law_refused)
  b__law_refused : L2.Binds K d__law_refused ["row", "words", "book"] []
  m__law_refused : mg "_law_refused" = some (.ref f__law_refused)
  q__law_refused : Addr
  x__law_refused : LamX.TabB base mg c__law_refused q__law_refused
  l__law_refused : (q__law_refused, ("_law_refused" : Str) ++ ".<locals>." ++ "<lambda>") ∈ gd.T
  u__law_refused : ∀ p ∈ gd.T, p.1 = q__law_refused → p.2 = ("_law_refused" : Str) ++ ".<locals>." ++ "<lambda>"
  f_law : Addr
  d_law : FuncData
  c_law : Addr
  n_law : Dn K "law" "law" s_law f_law d_law (.ref c_law)
  b_law : L2.Binds K d_law ["script"] []
  m_law : mg "law" = some (.ref f_law)
  z_ValueError : mg "ValueError" = none
  z_all : mg "all" = none
  z_bool : mg "bool" = none
  z_dict : mg "dict" = none
  z_enumerate : mg "enumerate" = none
  z_int : mg "int" = none
  z_isinstance : mg "isinstance" = none
  z_len : mg "len" = none
  z_list : mg "list" = none
  z_range : mg "range" = none
  z_set : mg "set" = none
  z_sorted : mg "sorted" = none
  z_str : mg "str" = none
  z_tuple : mg "tuple" = none
  z_zip : mg "zip" = none
  k_ANY : ∃ t, mg "ANY" = some (.str (Str.ofString "?") t)
  k_BACK : ∃ t, mg "BACK" = some (.str (Str.ofString "back") t)
  k_BEGINS : ∃ t, mg "BEGINS" = some (.str (Str.ofString "begins") t)
  k_BOTH : ∃ t, mg "BOTH" = some (.str (Str.ofString "both") t)
  k_COUNT : ∃ t, mg "COUNT" = some (.str (Str.ofString "count") t)
  k_EITHER : ∃ t, mg "EITHER" = some (.str (Str.ofString "either") t)
  k_ENDS : ∃ t, mg "ENDS" = some (.str (Str.ofString "ends") t)
  k_FROM : ∃ t, mg "FROM" = some (.str (Str.ofString "from") t)
  k_HOLDS : ∃ t, mg "HOLDS" = some (.str (Str.ofString "holds") t)
  k_LEAST_LETTERS : ∃ t, mg "LEAST_LETTERS" = some (.int 2 t)
  k_LETTERS : ∃ t, mg "LETTERS" = some (.str (Str.ofString "abcdefghijklmnopqrstuvwxyz") t)
  k_LIKE : ∃ t, mg "LIKE" = some (.str (Str.ofString "like") t)
  k_MOST_DEPTH : ∃ t, mg "MOST_DEPTH" = some (.int 4 t)
  k_MOST_LETTERS : ∃ t, mg "MOST_LETTERS" = some (.int 4 t)
  k_MOST_WORDS : ∃ t, mg "MOST_WORDS" = some (.int 24 t)
  k_NOT : ∃ t, mg "NOT" = some (.str (Str.ofString "not") t)
  k_TURNED : ∃ t, mg "TURNED" = some (.str (Str.ofString "turned") t)
  a_SIZES : Addr
  k_SIZES : mg "SIZES" = some (.ref a_SIZES)
  t_SIZES : TabD K w a_SIZES t_SIZES
  C_Book : Addr
  m_Book : mg "Book" = some (.ref C_Book)
  gc_Book : gd.cl "Book" = some C_Book
  cl_Book : Cls K C_Book
  ko_Book : KitO K gd ["Book"] "Book" C_Book
  na_Book__words : NoAttr K C_Book "_words"
  na_Book__sizes : NoAttr K C_Book "_sizes"
  na_Book__places : NoAttr K C_Book "_places"
  mk_Book : Mk K C_Book f_Book_d_initd_
  p_Book_words : Addr
  pr_Book_words : PropOf K C_Book "words" p_Book_words f_Book_words
  me_Book_fitting : Meth K C_Book "fitting" f_Book_fitting
  C_BadArgument : Addr
  fI_BadArgument : Addr
  dI_BadArgument : FuncData
  m_BadArgument : mg "BadArgument" = some (.ref C_BadArgument)
  e_BadArgument : OexC K C_BadArgument
  ei_BadArgument : PySem.W.findIn K (.ref C_BadArgument) "__init__" = some (some (.ref fI_BadArgument))
  et_BadArgument : PySem.W.typeIn K (.ref fI_BadArgument) = some (.type "function")
  ef_BadArgument : ∀ k, FnOk P w K mg base (L2.CX P w) (k + 1) fI_BadArgument dI_BadArgument ["self", "name"] (sp1 C_BadArgument "name")
  eb_BadArgument : L2.Binds K dI_BadArgument ["self", "name"] []
  cl_BadArgument : gd.cl "BadArgument" = some C_BadArgument
  C_CrossError : Addr
  C_Unfilled : Addr
  C_Refused : Addr
  C_Unread : Addr
  m_CrossError : mg "CrossError" = some (.ref C_CrossError)
  m_Unfilled : mg "Unfilled" = some (.ref C_Unfilled)
  m_Refused : mg "Refused" = some (.ref C_Refused)
  m_Unread : mg "Unread" = some (.ref C_Unread)
  h_xf : XfC K C_BadArgument
  h_ex : ExcC K C_BadArgument
  h_no : PySem.W.findIn K (.ref C_BadArgument) "name" = some none
  h_kE : PySem.W.kitOne K (.ref C_BadArgument) (.ref C_CrossError) = some true
  h_kV : PySem.W.kitOne K (.ref C_BadArgument) (.type "ValueError") = some true
  h_x : PySem.W.exmOne K (.ref C_BadArgument) (.ref C_BadArgument) = some true
section
variable {P : Program} {w : World} {K : PySem.W.Frag} {mg : Str → Option Value} {base : Heap} {gd : Gd}

/-- the def that asks -/
theorem heard_law (M : Mo P w K mg base gd) {X : Cx} (eK : X.K = K) (eM : X.mg = mg) {q : Str} : LamX.GivesTo X ["ask", "e"] "_law_heard" (defScope s__law_heard) M.f__law_heard (.ref M.c__law_heard) (defBody s__law_heard) "ask" q (TTh X.K M.C_BadArgument) := by
  subst eK eM
  exact heard_gives rfl rfl rfl rfl rfl rfl M.z_isinstance M.m_CrossError M.z_ValueError M.m_BadArgument rfl M.m_Unfilled (by decide) rfl M.m_Refused (by decide) rfl M.m_Unread (by decide) M.h_xf M.h_ex M.h_no M.h_kE M.h_kV M.h_x (fun _ _ _ _ => rfl)

/-- is_number -/
theorem ok_is_number (M : Mo P w K mg base gd) : FnOk P w K mg base (L2.CX P w) 9 M.f_is_number M.d_is_number ["value", "low", "high"] (spM K gd m_is_number) :=
  def_ok (k := 8) M.n_is_number sc_is_number rfl rfl (by decide) fun A outer s H E hr =>
  (SS_one (S_ret (R_and (R_isi (t := .int) rfl rfl rfl M.z_isinstance (R_var (i := 0) rfl (by first | exact Or.inl rfl | exact Or.inr (Or.inl rfl) | exact Or.inr (Or.inr rfl))) rfl M.z_int bt_int (by decide) (by decide)) (R_and (R_not (R_isi (t := .bool) rfl rfl rfl M.z_isinstance (R_var (i := 0) rfl (by first | exact Or.inl rfl | exact Or.inr (Or.inl rfl) | exact Or.inr (Or.inr rfl))) rfl M.z_bool bt_bool (by decide) (by decide))) (R_one (R_chain o_le o_le (R_var (i := 1) rfl (by first | exact Or.inl rfl | exact Or.inr (Or.inl rfl) | exact Or.inr (Or.inr rfl))) (R_var (i := 0) rfl (by first | exact Or.inl rfl | exact Or.inr (Or.inl rfl) | exact Or.inr (Or.inr rfl))) (R_var (i := 2) rfl (by first | exact Or.inl rfl | exact Or.inr (Or.inl rfl) | exact Or.inr (Or.inr rfl))) rfl))))))
/-- check -/
theorem ok_check (M : Mo P w K mg base gd) : FnOk P w K mg base (L2.CX P w) 9 M.f_check M.d_check ["is_right", "name"] (spM K gd m_check) :=
  def_ok (k := 8) M.n_check sc_check rfl rfl (by decide) fun A outer s H E hr =>
  (SS_one (S_if (R_tnot (T_val (R_var (i := 0) rfl (by first | exact Or.inl rfl | exact Or.inr (Or.inl rfl) | exact Or.inr (Or.inr rfl))))) (SS_one (S_raise1 rfl M.e_BadArgument M.ei_BadArgument M.et_BadArgument (M.ef_BadArgument 1) (hr.mono (by omega)) M.eb_BadArgument passL rfl M.m_BadArgument (takes_of rfl rfl rfl rfl) M.cl_BadArgument rfl (R_var (i := 1) rfl (by first | exact Or.inl rfl | exact Or.inr (Or.inl rfl) | exact Or.inr (Or.inr rfl))))) SS_nil))
/-- is_text_of -/
theorem ok_is_text_of (M : Mo P w K mg base gd) : FnOk P w K mg base (L2.CX P w) 9 M.f_is_text_of M.d_is_text_of ["value", "least", "most", "signs"] (spM K gd m_is_text_of) :=
  def_ok (k := 8) M.n_is_text_of sc_is_text_of rfl rfl (by decide) fun A outer s H E hr =>
  (SS_one (S_ret (R_and (R_isi (t := .str) rfl rfl rfl M.z_isinstance (R_var (i := 0) rfl (by first | exact Or.inl rfl | exact Or.inr (Or.inl rfl) | exact Or.inr (Or.inr rfl))) rfl M.z_str bt_str (by decide) (by decide)) (R_and (R_chain o_le o_le (R_var (i := 1) rfl (by first | exact Or.inl rfl | exact Or.inr (Or.inl rfl) | exact Or.inr (Or.inr rfl))) (R_callB o_len rfl M.z_len PySem.boot_len (R_var (i := 0) rfl (by first | exact Or.inl rfl | exact Or.inr (Or.inl rfl) | exact Or.inr (Or.inr rfl)))) (R_var (i := 2) rfl (by first | exact Or.inl rfl | exact Or.inr (Or.inl rfl) | exact Or.inr (Or.inr rfl))) rfl) (R_one (R_all (k := _) (own := [("sign", 4)]) ⟨hr, M.x_is_text_of, rfl, sc_is_text_of.nd, rfl, M.y_is_text_of, M.o_is_text_of⟩ rfl M.z_all (blkOk_by (N := ["value", "least", "most", "signs", "sign"]) (sc := defScope s_is_text_of) (by decide +kernel)) (gxS_by (by decide +kernel)) (by decide) (I_src (R_var (i := 0) rfl (by first | exact Or.inl rfl | exact Or.inr (Or.inl rfl) | exact Or.inr (Or.inr rfl)))) (fun _ _ _ _ _ => (G_var (i := 4) sc_is_text_of.nd rfl (by first | exact Or.inl rfl | exact Or.inr rfl) (by first | exact Or.inl rfl | exact Or.inr rfl))) (fun _ _ _ _ _ => (R_cmp o_in (R_var (i := 4) rfl (by first | exact Or.inl rfl | exact Or.inr (Or.inl rfl) | exact Or.inr (Or.inr rfl))) (R_var (i := 3) rfl (by first | exact Or.inl rfl | exact Or.inr (Or.inl rfl) | exact Or.inr (Or.inr rfl))) (by with_unfolding_all rfl)))))))))
/-- is_word -/
theorem ok_is_word (M : Mo P w K mg base gd) : FnOk P w K mg base (L2.CX P w) 15 M.f_is_word M.d_is_word ["value"] (spM K gd m_is_word) :=
  def_ok (k := 14) M.n_is_word sc_is_word rfl rfl (by decide) fun A outer s H E hr =>
  (SS_one (S_ret (R_call (ok_is_text_of M) (hr.mono (by omega)) rfl M.m_is_text_of M.n_is_text_of.kp M.b_is_text_of (passes_call (takes_of rfl rfl rfl rfl) fun _ _ _ _ h => h) (A_cons (R_var (i := 0) rfl (by first | exact Or.inl rfl | exact Or.inr (Or.inl rfl) | exact Or.inr (Or.inr rfl))) (A_cons (R_gint rfl M.k_LEAST_LETTERS) (A_cons (R_gint rfl M.k_MOST_LETTERS) (A_cons (R_gstr rfl M.k_LETTERS) A_nil)))))))
/-- is_pattern -/
theorem ok_is_pattern (M : Mo P w K mg base gd) : FnOk P w K mg base (L2.CX P w) 15 M.f_is_pattern M.d_is_pattern ["value"] (spM K gd m_is_pattern) :=
  def_ok (k := 14) M.n_is_pattern sc_is_pattern rfl rfl (by decide) fun A outer s H E hr =>
  (SS_one (S_ret (R_call (ok_is_text_of M) (hr.mono (by omega)) rfl M.m_is_text_of M.n_is_text_of.kp M.b_is_text_of (passes_call (takes_of rfl rfl rfl rfl) fun _ _ _ _ h => h) (A_cons (R_var (i := 0) rfl (by first | exact Or.inl rfl | exact Or.inr (Or.inl rfl) | exact Or.inr (Or.inr rfl))) (A_cons (R_gint rfl M.k_LEAST_LETTERS) (A_cons (R_gint rfl M.k_MOST_LETTERS) (A_cons (R_bin o_add (R_gstr rfl M.k_LETTERS) (R_gstr rfl M.k_ANY)) A_nil)))))))
/-- are_rising -/
theorem ok_are_rising (M : Mo P w K mg base gd) : FnOk P w K mg base (L2.CX P w) 9 M.f_are_rising M.d_are_rising ["rows"] (spM K gd m_are_rising) :=
  def_ok (k := 8) M.n_are_rising sc_are_rising rfl rfl (by decide) fun A outer s H E hr =>
  (SS_one (S_ret (R_all (k := _) (own := [("one", 1), ("other", 2)]) ⟨hr, M.x_are_rising, rfl, sc_are_rising.nd, rfl, M.y_are_rising, M.o_are_rising⟩ rfl M.z_all (blkOk_by (N := ["rows", "one", "other"]) (sc := defScope s_are_rising) (by decide +kernel)) (gxS_by (by decide +kernel)) (by decide) (I_zip rfl M.z_zip (R_var (i := 0) rfl (by first | exact Or.inl rfl | exact Or.inr (Or.inl rfl) | exact Or.inr (Or.inr rfl))) (R_slice (R_var (i := 0) rfl (by first | exact Or.inl rfl | exact Or.inr (Or.inl rfl) | exact Or.inr (Or.inr rfl))) (.inr ⟨_, _, rfl, rfl, R_int⟩) (.inl ⟨rfl, rfl⟩))) (fun _ _ _ _ _ => (G_tup rfl (Gs_cons (G_var (i := 1) sc_are_rising.nd rfl (by first | exact Or.inl rfl | exact Or.inr rfl) (by first | exact Or.inl rfl | exact Or.inr rfl)) (Gs_cons (G_var (i := 2) sc_are_rising.nd rfl (by first | exact Or.inl rfl | exact Or.inr rfl) (by first | exact Or.inl rfl | exact Or.inr rfl)) Gs_nil)) rfl rfl)) (fun _ _ _ _ _ => (R_cmp o_lt (R_var (i := 1) rfl (by first | exact Or.inl rfl | exact Or.inr (Or.inl rfl) | exact Or.inr (Or.inr rfl))) (R_var (i := 2) rfl (by first | exact Or.inl rfl | exact Or.inr (Or.inl rfl) | exact Or.inr (Or.inr rfl))) (nomark _))))))
/-- Book_d_initd_ -/
theorem ok_Book_d_initd_ (M : Mo P w K mg base gd) : FnOk P w K mg base (L2.CX P w) 21 M.f_Book_d_initd_ M.d_Book_d_initd_ ["self", "words"] (spM K gd m_Book_d_initd_) :=
  def_ok (k := 20) M.n_Book_d_initd_ sc_Book_d_initd_ rfl rfl (by decide) fun A outer s H E hr =>
  (SS_cons (S_set (i := 2) sc_Book_d_initd_.nd rfl (by first | exact Or.inl rfl | exact Or.inr rfl) (R_and (R_isi (t := .tuple) rfl rfl rfl M.z_isinstance (R_var (i := 1) rfl (by first | exact Or.inl rfl | exact Or.inr (Or.inl rfl) | exact Or.inr (Or.inr rfl))) rfl M.z_tuple bt_tuple (by decide) (by decide)) (R_and (R_cmp o_le (R_callB o_len rfl M.z_len PySem.boot_len (R_var (i := 1) rfl (by first | exact Or.inl rfl | exact Or.inr (Or.inl rfl) | exact Or.inr (Or.inr rfl)))) (R_gint rfl M.k_MOST_WORDS) (nomark _)) (R_one (R_all (k := _) (own := [("own", 6)]) ⟨hr, M.x_Book_d_initd_, rfl, sc_Book_d_initd_.nd, rfl, M.y_Book_d_initd_, M.o_Book_d_initd_⟩ rfl M.z_all (blkOk_by (N := ["self", "words", "is_right", "word", "place", "sign", "own"]) (sc := defScope s_Book_d_initd_) (by decide +kernel)) (gxS_by (by decide +kernel)) (by decide) (I_src (R_var (i := 1) rfl (by first | exact Or.inl rfl | exact Or.inr (Or.inl rfl) | exact Or.inr (Or.inr rfl)))) (fun _ _ _ _ _ => (G_var (i := 6) sc_Book_d_initd_.nd rfl (by first | exact Or.inl rfl | exact Or.inr rfl) (by first | exact Or.inl rfl | exact Or.inr rfl))) (fun _ _ _ _ _ => (R_call (ok_is_word M) ((gx_room hr).mono (by omega)) rfl M.m_is_word M.n_is_word.kp M.b_is_word passL (A_cons (R_var (i := 6) rfl (by first | exact Or.inl rfl | exact Or.inr (Or.inl rfl) | exact Or.inr (Or.inr rfl))) A_nil))))))))
  (SS_cons (S_expr (R_call (ok_check M) (hr.mono (by omega)) rfl M.m_check M.n_check.kp M.b_check (passes_call (takes_of rfl rfl rfl rfl) fun _ _ _ _ h => h) (A_cons (R_and (R_var (i := 2) rfl (by first | exact Or.inl rfl | exact Or.inr (Or.inl rfl) | exact Or.inr (Or.inr rfl))) (R_one (R_call (ok_are_rising M) (hr.mono (by omega)) rfl M.m_are_rising M.n_are_rising.kp M.b_are_rising (passes_call (takes_of rfl rfl rfl rfl) fun _ _ _ _ h => h) (A_cons (R_var (i := 1) rfl (by first | exact Or.inl rfl | exact Or.inr (Or.inl rfl) | exact Or.inr (Or.inr rfl))) A_nil)))) (A_cons R_str A_nil))))
  (SS_cons (S_setFld M.gc_Book M.cl_Book M.na_Book__words (R_var (i := 0) rfl (by first | exact Or.inl rfl | exact Or.inr (Or.inl rfl) | exact Or.inr (Or.inr rfl))) (R_var (i := 1) rfl (by first | exact Or.inl rfl | exact Or.inr (Or.inl rfl) | exact Or.inr (Or.inr rfl))))
  (SS_cons (S_setFld M.gc_Book M.cl_Book M.na_Book__sizes (R_var (i := 0) rfl (by first | exact Or.inl rfl | exact Or.inr (Or.inl rfl) | exact Or.inr (Or.inr rfl))) R_newDct)
  (SS_cons (S_setFld M.gc_Book M.cl_Book M.na_Book__places (R_var (i := 0) rfl (by first | exact Or.inl rfl | exact Or.inr (Or.inl rfl) | exact Or.inr (Or.inr rfl))) R_newDctT)
  (SS_one (S_for (passes_of rfl) rfl GOk_var (I_src (R_var (i := 1) rfl (by first | exact Or.inl rfl | exact Or.inr (Or.inl rfl) | exact Or.inr (Or.inr rfl)))) (G_var (i := 3) sc_Book_d_initd_.nd rfl (by first | exact Or.inl rfl | exact Or.inr rfl) (by first | exact Or.inl rfl | exact Or.inr rfl)) (SS_cons (S_appR (R_setL hr.units (R_fld M.gc_Book M.cl_Book M.na_Book__sizes (R_var (i := 0) rfl (by first | exact Or.inl rfl | exact Or.inr (Or.inl rfl) | exact Or.inr (Or.inr rfl)))) (R_callB o_len rfl M.z_len PySem.boot_len (R_var (i := 3) rfl (by first | exact Or.inl rfl | exact Or.inr (Or.inl rfl) | exact Or.inr (Or.inr rfl)))) ⟨by rfl, by rfl, by rfl, by rfl⟩) (R_var (i := 3) rfl (by first | exact Or.inl rfl | exact Or.inr (Or.inl rfl) | exact Or.inr (Or.inr rfl))))
  (SS_one (S_for (passes_of rfl) rfl (GOk_tup (GsOk_cons GOk_var (GsOk_cons GOk_var GsOk_nil))) (I_enum rfl M.z_enumerate (R_var (i := 3) rfl (by first | exact Or.inl rfl | exact Or.inr (Or.inl rfl) | exact Or.inr (Or.inr rfl)))) (G_tup rfl (Gs_cons (G_var (i := 4) sc_Book_d_initd_.nd rfl (by first | exact Or.inl rfl | exact Or.inr rfl) (by first | exact Or.inl rfl | exact Or.inr rfl)) (Gs_cons (G_var (i := 5) sc_Book_d_initd_.nd rfl (by first | exact Or.inl rfl | exact Or.inr rfl) (by first | exact Or.inl rfl | exact Or.inr rfl)) Gs_nil)) rfl rfl) (SS_one (S_setDct hr.units (R_setD hr.units (R_fld M.gc_Book M.cl_Book M.na_Book__places (R_var (i := 0) rfl (by first | exact Or.inl rfl | exact Or.inr (Or.inl rfl) | exact Or.inr (Or.inr rfl)))) (R_tup (A_cons (R_callB o_len rfl M.z_len PySem.boot_len (R_var (i := 3) rfl (by first | exact Or.inl rfl | exact Or.inr (Or.inl rfl) | exact Or.inr (Or.inr rfl)))) (A_cons (R_var (i := 4) rfl (by first | exact Or.inl rfl | exact Or.inr (Or.inl rfl) | exact Or.inr (Or.inr rfl))) (A_cons (R_var (i := 5) rfl (by first | exact Or.inl rfl | exact Or.inr (Or.inl rfl) | exact Or.inr (Or.inr rfl))) A_nil)))) ⟨by rfl, by rfl, by rfl, by rfl⟩) (R_var (i := 3) rfl (by first | exact Or.inl rfl | exact Or.inr (Or.inl rfl) | exact Or.inr (Or.inr rfl))) R_bl))))))))))))
/-- Book_words -/
theorem ok_Book_words (M : Mo P w K mg base gd) : FnOk P w K mg base (L2.CX P w) 9 M.f_Book_words M.d_Book_words ["self"] (spM K gd m_Book_words) :=
  def_ok (k := 8) M.n_Book_words sc_Book_words rfl rfl (by decide) fun A outer s H E hr =>
  (SS_one (S_ret (R_fld M.gc_Book M.cl_Book M.na_Book__words (R_var (i := 0) rfl (by first | exact Or.inl rfl | exact Or.inr (Or.inl rfl) | exact Or.inr (Or.inr rfl))))))
/-- Book_fitting -/
theorem ok_Book_fitting (M : Mo P w K mg base gd) : FnOk P w K mg base (L2.CX P w) 9 M.f_Book_fitting M.d_Book_fitting ["self", "pattern"] (spM K gd m_Book_fitting) :=
  def_ok (k := 8) M.n_Book_fitting sc_Book_fitting rfl rfl (by decide) fun A outer s H E hr =>
  (SS_cons (S_set (i := 2) sc_Book_fitting.nd rfl (by first | exact Or.inl rfl | exact Or.inr rfl) (R_getD hr.units (R_fld M.gc_Book M.cl_Book M.na_Book__sizes (R_var (i := 0) rfl (by first | exact Or.inl rfl | exact Or.inr (Or.inl rfl) | exact Or.inr (Or.inr rfl)))) (R_callB o_len rfl M.z_len PySem.boot_len (R_var (i := 1) rfl (by first | exact Or.inl rfl | exact Or.inr (Or.inl rfl) | exact Or.inr (Or.inr rfl)))) (R_lst A_nil) ⟨by rfl, by rfl, by rfl, by rfl⟩))
  (SS_cons (S_for (passes_of rfl) rfl (GOk_tup (GsOk_cons GOk_var (GsOk_cons GOk_var GsOk_nil))) (I_enum rfl M.z_enumerate (R_var (i := 1) rfl (by first | exact Or.inl rfl | exact Or.inr (Or.inl rfl) | exact Or.inr (Or.inr rfl)))) (G_tup rfl (Gs_cons (G_var (i := 3) sc_Book_fitting.nd rfl (by first | exact Or.inl rfl | exact Or.inr rfl) (by first | exact Or.inl rfl | exact Or.inr rfl)) (Gs_cons (G_var (i := 4) sc_Book_fitting.nd rfl (by first | exact Or.inl rfl | exact Or.inr rfl) (by first | exact Or.inl rfl | exact Or.inr rfl)) Gs_nil)) rfl rfl) (SS_one (S_if (pt_cmpM (o_ne hr.units) bool_ne (R_var (i := 4) rfl (by first | exact Or.inl rfl | exact Or.inr (Or.inl rfl) | exact Or.inr (Or.inr rfl))) (R_gstr rfl M.k_ANY) (nomark _)) (SS_cons (S_set (i := 5) sc_Book_fitting.nd rfl (by first | exact Or.inl rfl | exact Or.inr rfl) (R_getD hr.units (R_fld M.gc_Book M.cl_Book M.na_Book__places (R_var (i := 0) rfl (by first | exact Or.inl rfl | exact Or.inr (Or.inl rfl) | exact Or.inr (Or.inr rfl)))) (R_tup (A_cons (R_callB o_len rfl M.z_len PySem.boot_len (R_var (i := 1) rfl (by first | exact Or.inl rfl | exact Or.inr (Or.inl rfl) | exact Or.inr (Or.inr rfl)))) (A_cons (R_var (i := 3) rfl (by first | exact Or.inl rfl | exact Or.inr (Or.inl rfl) | exact Or.inr (Or.inr rfl))) (A_cons (R_var (i := 4) rfl (by first | exact Or.inl rfl | exact Or.inr (Or.inl rfl) | exact Or.inr (Or.inr rfl))) A_nil)))) R_dct0 ⟨by rfl, by rfl, by rfl, by rfl⟩))
  (SS_one (S_setLc (i := 2) (own := [("word", 6)]) rfl sc_Book_fitting.nd rfl rfl (sw_true rfl rfl rfl (by decide +kernel)) (I_src (R_var (i := 2) rfl (by first | exact Or.inl rfl | exact Or.inr (Or.inl rfl) | exact Or.inr (Or.inr rfl)))) (blkOk_by (N := ["self", "pattern", "found", "place", "sign", "there", "word"]) (sc := defScope s_Book_fitting) (by decide +kernel)) (by decide) (fun _ _ _ _ _ => (G_var (i := 6) sc_Book_fitting.nd rfl (by first | exact Or.inl rfl | exact Or.inr rfl) (by first | exact Or.inl rfl | exact Or.inr rfl))) (fun _ _ _ _ _ => (pts_one (T_inDct hr.units (R_var (i := 6) rfl (by first | exact Or.inl rfl | exact Or.inr (Or.inl rfl) | exact Or.inr (Or.inr rfl))) (R_var (i := 5) rfl (by first | exact Or.inl rfl | exact Or.inr (Or.inl rfl) | exact Or.inr (Or.inr rfl))) (by with_unfolding_all rfl)))) (fun _ _ _ _ _ => (R_var (i := 6) rfl (by first | exact Or.inl rfl | exact Or.inr (Or.inl rfl) | exact Or.inr (Or.inr rfl))))))) SS_nil)))
  (SS_one (S_ret (R_callTy o_list rfl M.z_list bt_list (R_var (i := 2) rfl (by first | exact Or.inl rfl | exact Or.inr (Or.inl rfl) | exact Or.inr (Or.inr rfl))))))))
/-- is_book -/
theorem ok_is_book (M : Mo P w K mg base gd) : FnOk P w K mg base (L2.CX P w) 9 M.f_is_book M.d_is_book ["value"] (spM K gd m_is_book) :=
  def_ok (k := 8) M.n_is_book sc_is_book rfl rfl (by decide) fun A outer s H E hr =>
  (SS_one (S_ret (R_isiO M.ko_Book rfl M.z_isinstance (R_var (i := 0) rfl (by first | exact Or.inl rfl | exact Or.inr (Or.inl rfl) | exact Or.inr (Or.inr rfl))) rfl M.m_Book (by decide))))
/-- is_clue_of -/
theorem ok_is_clue_of (M : Mo P w K mg base gd) : ∀ n : Nat, FnOk P w K mg base (L2.CX P w) (21 + 3 * n) M.f_is_clue_of M.d_is_clue_of ["value", "depth"] (spM K gd (m_is_clue_of n))
  | 0 => fn_no
  | n + 1 => by
    have ih := ok_is_clue_of M n
    exact def_ok (k := 21 + 3 * n + 2) M.n_is_clue_of sc_is_clue_of rfl rfl (by decide) fun A outer s H E hr =>
  (SS_cons (S_if (PW.pt (R_tor (R_tnot (T_val (R_isi (t := .tuple) rfl rfl rfl M.z_isinstance (R_var (i := 0) rfl (by first | exact Or.inl rfl | exact Or.inr (Or.inl rfl) | exact Or.inr (Or.inr rfl))) rfl M.z_tuple bt_tuple (by decide) (by decide)))) (R_tor (pt_cmpM (o_eq hr.units) bool_eq (R_callB o_len rfl M.z_len PySem.boot_len (R_var (i := 0) rfl (by first | exact Or.inl rfl | exact Or.inr (Or.inl rfl) | exact Or.inr (Or.inr rfl)))) R_int (nomark _)) (R_tor (R_tnot (T_val (R_isi (t := .str) rfl rfl rfl M.z_isinstance (R_idx (R_var (i := 0) rfl (by first | exact Or.inl rfl | exact Or.inr (Or.inl rfl) | exact Or.inr (Or.inr rfl))) R_int (fun _ _ => rfl)) rfl M.z_str bt_str (by decide) (by decide)))) (R_tor1 (pt_cmpM (o_eq hr.units) bool_eq (R_var (i := 1) rfl (by first | exact Or.inl rfl | exact Or.inr (Or.inl rfl) | exact Or.inr (Or.inr rfl))) R_int (nomark _))))))) (SS_one (S_ret R_bl)) SS_nil)
  (SS_cons (S_set (i := 2) sc_is_clue_of.nd rfl (by first | exact Or.inl rfl | exact Or.inr rfl) (R_idx (R_var (i := 0) rfl (by first | exact Or.inl rfl | exact Or.inr (Or.inl rfl) | exact Or.inr (Or.inr rfl))) R_int (fun _ _ => rfl)))
  (SS_cons (S_if (PW.pt (R_tor (T_notInTab M.t_SIZES rfl M.k_SIZES (R_var (i := 2) rfl (by first | exact Or.inl rfl | exact Or.inr (Or.inl rfl) | exact Or.inr (Or.inr rfl))) (by decide) (by with_unfolding_all rfl)) (R_tor1 (pt_cmpM (o_ne hr.units) bool_ne (R_callB o_len rfl M.z_len PySem.boot_len (R_var (i := 0) rfl (by first | exact Or.inl rfl | exact Or.inr (Or.inl rfl) | exact Or.inr (Or.inr rfl)))) (R_getTab M.t_SIZES rfl M.k_SIZES (R_var (i := 2) rfl (by first | exact Or.inl rfl | exact Or.inr (Or.inl rfl) | exact Or.inr (Or.inr rfl))) (by decide) (fun _ _ => rfl)) (nomark _))))) (SS_one (S_ret R_bl)) SS_nil)
  (SS_cons (S_if (pt_cmpM o_in bool_in (R_var (i := 2) rfl (by first | exact Or.inl rfl | exact Or.inr (Or.inl rfl) | exact Or.inr (Or.inr rfl))) (R_tup (A_cons (R_gstr rfl M.k_NOT) (A_cons (R_gstr rfl M.k_BOTH) (A_cons (R_gstr rfl M.k_EITHER) A_nil))) (Nat.le_of_ble_eq_true rfl)) (by with_unfolding_all rfl)) (SS_one (S_ret (R_all (k := _) (own := [("own", 3)]) ⟨hr, M.x_is_clue_of, rfl, sc_is_clue_of.nd, rfl, M.y_is_clue_of, M.o_is_clue_of⟩ rfl M.z_all (blkOk_by (N := ["value", "depth", "kind", "own"]) (sc := defScope s_is_clue_of) (by decide +kernel)) (gxS_by (by decide +kernel)) (by decide) (I_src (R_slice (R_var (i := 0) rfl (by first | exact Or.inl rfl | exact Or.inr (Or.inl rfl) | exact Or.inr (Or.inr rfl))) (.inr ⟨_, _, rfl, rfl, R_int⟩) (.inl ⟨rfl, rfl⟩))) (fun _ _ _ _ _ => (G_var (i := 3) sc_is_clue_of.nd rfl (by first | exact Or.inl rfl | exact Or.inr rfl) (by first | exact Or.inl rfl | exact Or.inr rfl))) (fun _ _ _ _ _ => (R_call ih ((gx_room hr).mono (by omega)) rfl M.m_is_clue_of M.n_is_clue_of.kp M.b_is_clue_of passL (A_cons (R_var (i := 3) rfl (by first | exact Or.inl rfl | exact Or.inr (Or.inl rfl) | exact Or.inr (Or.inr rfl))) (A_cons (R_bin o_sub (R_var (i := 1) rfl (by first | exact Or.inl rfl | exact Or.inr (Or.inl rfl) | exact Or.inr (Or.inr rfl))) R_int) A_nil))))))) SS_nil)
  (SS_cons (S_if (pt_cmpM (o_eq hr.units) bool_eq (R_var (i := 2) rfl (by first | exact Or.inl rfl | exact Or.inr (Or.inl rfl) | exact Or.inr (Or.inr rfl))) (R_gstr rfl M.k_LIKE) (nomark _)) (SS_one (S_ret (R_call (ok_is_pattern M) (hr.mono (by omega)) rfl M.m_is_pattern M.n_is_pattern.kp M.b_is_pattern (passes_call (takes_of rfl rfl rfl rfl) fun _ _ _ _ h => h) (A_cons (R_idx (R_var (i := 0) rfl (by first | exact Or.inl rfl | exact Or.inr (Or.inl rfl) | exact Or.inr (Or.inr rfl))) R_int (fun _ _ => rfl)) A_nil)))) SS_nil)
  (SS_cons (S_if (pt_cmpM o_in bool_in (R_var (i := 2) rfl (by first | exact Or.inl rfl | exact Or.inr (Or.inl rfl) | exact Or.inr (Or.inr rfl))) (R_tup (A_cons (R_gstr rfl M.k_BEGINS) (A_cons (R_gstr rfl M.k_ENDS) (A_cons (R_gstr rfl M.k_HOLDS) A_nil))) (Nat.le_of_ble_eq_true rfl)) (by with_unfolding_all rfl)) (SS_one (S_ret (R_call (ok_is_text_of M) (hr.mono (by omega)) rfl M.m_is_text_of M.n_is_text_of.kp M.b_is_text_of (passes_call (takes_of rfl rfl rfl rfl) fun _ _ _ _ h => h) (A_cons (R_idx (R_var (i := 0) rfl (by first | exact Or.inl rfl | exact Or.inr (Or.inl rfl) | exact Or.inr (Or.inr rfl))) R_int (fun _ _ => rfl)) (A_cons R_int (A_cons (R_gint rfl M.k_MOST_LETTERS) (A_cons (R_gstr rfl M.k_LETTERS) A_nil))))))) SS_nil)
  (SS_cons (S_if (pt_cmpM (o_eq hr.units) bool_eq (R_var (i := 2) rfl (by first | exact Or.inl rfl | exact Or.inr (Or.inl rfl) | exact Or.inr (Or.inr rfl))) (R_gstr rfl M.k_COUNT) (nomark _)) (SS_one (S_ret (R_and (R_call (ok_is_text_of M) (hr.mono (by omega)) rfl M.m_is_text_of M.n_is_text_of.kp M.b_is_text_of (passes_call (takes_of rfl rfl rfl rfl) fun _ _ _ _ h => h) (A_cons (R_idx (R_var (i := 0) rfl (by first | exact Or.inl rfl | exact Or.inr (Or.inl rfl) | exact Or.inr (Or.inr rfl))) R_int (fun _ _ => rfl)) (A_cons R_int (A_cons R_int (A_cons (R_gstr rfl M.k_LETTERS) A_nil))))) (R_one (R_call (ok_is_number M) (hr.mono (by omega)) rfl M.m_is_number M.n_is_number.kp M.b_is_number (passes_call (takes_of rfl rfl rfl rfl) fun _ _ _ _ h => h) (A_cons (R_idx (R_var (i := 0) rfl (by first | exact Or.inl rfl | exact Or.inr (Or.inl rfl) | exact Or.inr (Or.inr rfl))) R_int (fun _ _ => rfl)) (A_cons R_int (A_cons (R_gint rfl M.k_MOST_LETTERS) A_nil)))))))) SS_nil)
  (SS_cons (S_if (pt_cmpM (o_eq hr.units) bool_eq (R_var (i := 2) rfl (by first | exact Or.inl rfl | exact Or.inr (Or.inl rfl) | exact Or.inr (Or.inr rfl))) (R_gstr rfl M.k_FROM) (nomark _)) (SS_one (S_ret (R_and (R_call (ok_is_text_of M) (hr.mono (by omega)) rfl M.m_is_text_of M.n_is_text_of.kp M.b_is_text_of (passes_call (takes_of rfl rfl rfl rfl) fun _ _ _ _ h => h) (A_cons (R_idx (R_var (i := 0) rfl (by first | exact Or.inl rfl | exact Or.inr (Or.inl rfl) | exact Or.inr (Or.inr rfl))) R_int (fun _ _ => rfl)) (A_cons R_int (A_cons (R_gint rfl M.k_MOST_LETTERS) (A_cons (R_gstr rfl M.k_LETTERS) A_nil))))) (R_one (R_call (ok_is_text_of M) (hr.mono (by omega)) rfl M.m_is_text_of M.n_is_text_of.kp M.b_is_text_of (passes_call (takes_of rfl rfl rfl rfl) fun _ _ _ _ h => h) (A_cons (R_idx (R_var (i := 0) rfl (by first | exact Or.inl rfl | exact Or.inr (Or.inl rfl) | exact Or.inr (Or.inr rfl))) R_int (fun _ _ => rfl)) (A_cons R_int (A_cons (R_gint rfl M.k_MOST_LETTERS) (A_cons (R_gstr rfl M.k_LETTERS) A_nil))))))))) SS_nil)
  (SS_one (S_ret (R_ifx (pt_cmpM (o_eq hr.units) bool_eq (R_var (i := 2) rfl (by first | exact Or.inl rfl | exact Or.inr (Or.inl rfl) | exact Or.inr (Or.inr rfl))) (R_gstr rfl M.k_BACK) (nomark _)) (R_call (ok_is_word M) (hr.mono (by omega)) rfl M.m_is_word M.n_is_word.kp M.b_is_word (passes_call (takes_of rfl rfl rfl rfl) fun _ _ _ _ h => h) (A_cons (R_idx (R_var (i := 0) rfl (by first | exact Or.inl rfl | exact Or.inr (Or.inl rfl) | exact Or.inr (Or.inr rfl))) R_int (fun _ _ => rfl)) A_nil)) R_bl)))))))))))
/-- is_clue -/
theorem ok_is_clue (M : Mo P w K mg base gd) : FnOk P w K mg base (L2.CX P w) 51 M.f_is_clue M.d_is_clue ["value"] (spM K gd m_is_clue) :=
  def_ok (k := 50) M.n_is_clue sc_is_clue rfl rfl (by decide) fun A outer s H E hr =>
  (SS_one (S_ret (R_call (ok_is_clue_of M 8) (hr.mono (by omega)) rfl M.m_is_clue_of M.n_is_clue_of.kp M.b_is_clue_of (passes_call (takes_of rfl rfl rfl rfl) fun _ _ _ _ h => h) (A_cons (R_var (i := 0) rfl (by first | exact Or.inl rfl | exact Or.inr (Or.inl rfl) | exact Or.inr (Or.inr rfl))) (A_cons (R_gint rfl M.k_MOST_DEPTH) A_nil)))))
/-- fits_pattern -/
theorem ok_fits_pattern (M : Mo P w K mg base gd) : FnOk P w K mg base (L2.CX P w) 9 M.f_fits_pattern M.d_fits_pattern ["pattern", "word"] (spM K gd m_fits_pattern) :=
  def_ok (k := 8) M.n_fits_pattern sc_fits_pattern rfl rfl (by decide) fun A outer s H E hr =>
  (SS_one (S_ret (R_and (R_cmp (o_eq hr.units) (R_callB o_len rfl M.z_len PySem.boot_len (R_var (i := 0) rfl (by first | exact Or.inl rfl | exact Or.inr (Or.inl rfl) | exact Or.inr (Or.inr rfl)))) (R_callB o_len rfl M.z_len PySem.boot_len (R_var (i := 1) rfl (by first | exact Or.inl rfl | exact Or.inr (Or.inl rfl) | exact Or.inr (Or.inr rfl)))) (nomark _)) (R_one (R_all (k := _) (own := [("own", 2), ("sign", 3)]) ⟨hr, M.x_fits_pattern, rfl, sc_fits_pattern.nd, rfl, M.y_fits_pattern, M.o_fits_pattern⟩ rfl M.z_all (blkOk_by (N := ["pattern", "word", "own", "sign"]) (sc := defScope s_fits_pattern) (by decide +kernel)) (gxS_by (by decide +kernel)) (by decide) (I_zip rfl M.z_zip (R_var (i := 0) rfl (by first | exact Or.inl rfl | exact Or.inr (Or.inl rfl) | exact Or.inr (Or.inr rfl))) (R_var (i := 1) rfl (by first | exact Or.inl rfl | exact Or.inr (Or.inl rfl) | exact Or.inr (Or.inr rfl)))) (fun _ _ _ _ _ => (G_tup rfl (Gs_cons (G_var (i := 2) sc_fits_pattern.nd rfl (by first | exact Or.inl rfl | exact Or.inr rfl) (by first | exact Or.inl rfl | exact Or.inr rfl)) (Gs_cons (G_var (i := 3) sc_fits_pattern.nd rfl (by first | exact Or.inl rfl | exact Or.inr rfl) (by first | exact Or.inl rfl | exact Or.inr rfl)) Gs_nil)) rfl rfl)) (fun _ _ _ _ _ => (R_cmp o_in (R_var (i := 2) rfl (by first | exact Or.inl rfl | exact Or.inr (Or.inl rfl) | exact Or.inr (Or.inr rfl))) (R_tup (A_cons (R_gstr rfl M.k_ANY) (A_cons (R_var (i := 3) rfl (by first | exact Or.inl rfl | exact Or.inr (Or.inl rfl) | exact Or.inr (Or.inr rfl))) A_nil))) (by with_unfolding_all rfl))))))))
/-- plainly_meets -/
theorem ok_plainly_meets (M : Mo P w K mg base gd) : ∀ n : Nat, FnOk P w K mg base (L2.CX P w) (15 + 3 * n) M.f_plainly_meets M.d_plainly_meets ["clue", "word"] (spM K gd (m_plainly_meets n))
  | 0 => fn_no
  | n + 1 => by
    have ih := ok_plainly_meets M n
    exact def_ok (k := 15 + 3 * n + 2) M.n_plainly_meets sc_plainly_meets rfl rfl (by decide) fun A outer s H E hr =>
  (SS_cons (S_set (i := 2) sc_plainly_meets.nd rfl (by first | exact Or.inl rfl | exact Or.inr rfl) (R_idx (R_var (i := 0) rfl (by first | exact Or.inl rfl | exact Or.inr (Or.inl rfl) | exact Or.inr (Or.inr rfl))) R_int (fun _ _ => rfl)))
  (SS_cons (S_if (pt_cmpM (o_eq hr.units) bool_eq (R_var (i := 2) rfl (by first | exact Or.inl rfl | exact Or.inr (Or.inl rfl) | exact Or.inr (Or.inr rfl))) (R_gstr rfl M.k_LIKE) (nomark _)) (SS_one (S_ret (R_call (ok_fits_pattern M) (hr.mono (by omega)) rfl M.m_fits_pattern M.n_fits_pattern.kp M.b_fits_pattern (passes_call (takes_of rfl rfl rfl rfl) fun _ _ _ _ h => h) (A_cons (R_idx (R_var (i := 0) rfl (by first | exact Or.inl rfl | exact Or.inr (Or.inl rfl) | exact Or.inr (Or.inr rfl))) R_int (fun _ _ => rfl)) (A_cons (R_var (i := 1) rfl (by first | exact Or.inl rfl | exact Or.inr (Or.inl rfl) | exact Or.inr (Or.inr rfl))) A_nil))))) SS_nil)
  (SS_cons (S_if (pt_cmpM (o_eq hr.units) bool_eq (R_var (i := 2) rfl (by first | exact Or.inl rfl | exact Or.inr (Or.inl rfl) | exact Or.inr (Or.inr rfl))) (R_gstr rfl M.k_BEGINS) (nomark _)) (SS_one (S_ret (R_cmp (o_eq hr.units) (R_slice (R_var (i := 1) rfl (by first | exact Or.inl rfl | exact Or.inr (Or.inl rfl) | exact Or.inr (Or.inr rfl))) (.inl ⟨rfl, rfl⟩) (.inr ⟨_, _, rfl, rfl, (R_callB o_len rfl M.z_len PySem.boot_len (R_idx (R_var (i := 0) rfl (by first | exact Or.inl rfl | exact Or.inr (Or.inl rfl) | exact Or.inr (Or.inr rfl))) R_int (fun _ _ => rfl)))⟩)) (R_idx (R_var (i := 0) rfl (by first | exact Or.inl rfl | exact Or.inr (Or.inl rfl) | exact Or.inr (Or.inr rfl))) R_int (fun _ _ => rfl)) (nomark _)))) SS_nil)
  (SS_cons (S_if (pt_cmpM (o_eq hr.units) bool_eq (R_var (i := 2) rfl (by first | exact Or.inl rfl | exact Or.inr (Or.inl rfl) | exact Or.inr (Or.inr rfl))) (R_gstr rfl M.k_ENDS) (nomark _)) (SS_one (S_ret (R_and (R_cmp o_le (R_callB o_len rfl M.z_len PySem.boot_len (R_idx (R_var (i := 0) rfl (by first | exact Or.inl rfl | exact Or.inr (Or.inl rfl) | exact Or.inr (Or.inr rfl))) R_int (fun _ _ => rfl))) (R_callB o_len rfl M.z_len PySem.boot_len (R_var (i := 1) rfl (by first | exact Or.inl rfl | exact Or.inr (Or.inl rfl) | exact Or.inr (Or.inr rfl)))) (nomark _)) (R_one (R_cmp (o_eq hr.units) (R_slice (R_var (i := 1) rfl (by first | exact Or.inl rfl | exact Or.inr (Or.inl rfl) | exact Or.inr (Or.inr rfl))) (.inr ⟨_, _, rfl, rfl, (R_bin o_sub (R_callB o_len rfl M.z_len PySem.boot_len (R_var (i := 1) rfl (by first | exact Or.inl rfl | exact Or.inr (Or.inl rfl) | exact Or.inr (Or.inr rfl)))) (R_callB o_len rfl M.z_len PySem.boot_len (R_idx (R_var (i := 0) rfl (by first | exact Or.inl rfl | exact Or.inr (Or.inl rfl) | exact Or.inr (Or.inr rfl))) R_int (fun _ _ => rfl))))⟩) (.inl ⟨rfl, rfl⟩)) (R_idx (R_var (i := 0) rfl (by first | exact Or.inl rfl | exact Or.inr (Or.inl rfl) | exact Or.inr (Or.inr rfl))) R_int (fun _ _ => rfl)) (nomark _)))))) SS_nil)
  (SS_cons (S_if (pt_cmpM (o_eq hr.units) bool_eq (R_var (i := 2) rfl (by first | exact Or.inl rfl | exact Or.inr (Or.inl rfl) | exact Or.inr (Or.inr rfl))) (R_gstr rfl M.k_HOLDS) (nomark _)) (SS_one (S_ret (R_cmp o_in (R_idx (R_var (i := 0) rfl (by first | exact Or.inl rfl | exact Or.inr (Or.inl rfl) | exact Or.inr (Or.inr rfl))) R_int (fun _ _ => rfl)) (R_var (i := 1) rfl (by first | exact Or.inl rfl | exact Or.inr (Or.inl rfl) | exact Or.inr (Or.inr rfl))) (by with_unfolding_all rfl)))) SS_nil)
  (SS_cons (S_if (pt_cmpM (o_eq hr.units) bool_eq (R_var (i := 2) rfl (by first | exact Or.inl rfl | exact Or.inr (Or.inl rfl) | exact Or.inr (Or.inr rfl))) (R_gstr rfl M.k_COUNT) (nomark _)) (SS_one (S_ret (R_cmp (o_eq hr.units) (R_count (R_var (i := 1) rfl (by first | exact Or.inl rfl | exact Or.inr (Or.inl rfl) | exact Or.inr (Or.inr rfl))) (R_idx (R_var (i := 0) rfl (by first | exact Or.inl rfl | exact Or.inr (Or.inl rfl) | exact Or.inr (Or.inr rfl))) R_int (fun _ _ => rfl))) (R_idx (R_var (i := 0) rfl (by first | exact Or.inl rfl | exact Or.inr (Or.inl rfl) | exact Or.inr (Or.inr rfl))) R_int (fun _ _ => rfl)) (nomark _)))) SS_nil)
  (SS_cons (S_if (pt_cmpM (o_eq hr.units) bool_eq (R_var (i := 2) rfl (by first | exact Or.inl rfl | exact Or.inr (Or.inl rfl) | exact Or.inr (Or.inr rfl))) (R_gstr rfl M.k_FROM) (nomark _)) (SS_one (S_ret (R_chain o_le o_le (R_idx (R_var (i := 0) rfl (by first | exact Or.inl rfl | exact Or.inr (Or.inl rfl) | exact Or.inr (Or.inr rfl))) R_int (fun _ _ => rfl)) (R_var (i := 1) rfl (by first | exact Or.inl rfl | exact Or.inr (Or.inl rfl) | exact Or.inr (Or.inr rfl))) (R_idx (R_var (i := 0) rfl (by first | exact Or.inl rfl | exact Or.inr (Or.inl rfl) | exact Or.inr (Or.inr rfl))) R_int (fun _ _ => rfl)) rfl))) SS_nil)
  (SS_cons (S_if (pt_cmpM (o_eq hr.units) bool_eq (R_var (i := 2) rfl (by first | exact Or.inl rfl | exact Or.inr (Or.inl rfl) | exact Or.inr (Or.inr rfl))) (R_gstr rfl M.k_BACK) (nomark _)) (SS_one (S_ret (R_cmp (o_eq hr.units) (R_rev (R_var (i := 1) rfl (by first | exact Or.inl rfl | exact Or.inr (Or.inl rfl) | exact Or.inr (Or.inr rfl)))) (R_idx (R_var (i := 0) rfl (by first | exact Or.inl rfl | exact Or.inr (Or.inl rfl) | exact Or.inr (Or.inr rfl))) R_int (fun _ _ => rfl)) (nomark _)))) SS_nil)
  (SS_cons (S_if (pt_cmpM (o_eq hr.units) bool_eq (R_var (i := 2) rfl (by first | exact Or.inl rfl | exact Or.inr (Or.inl rfl) | exact Or.inr (Or.inr rfl))) (R_gstr rfl M.k_TURNED) (nomark _)) (SS_one (S_ret (R_cmp (o_eq hr.units) (R_rev (R_var (i := 1) rfl (by first | exact Or.inl rfl | exact Or.inr (Or.inl rfl) | exact Or.inr (Or.inr rfl)))) (R_var (i := 1) rfl (by first | exact Or.inl rfl | exact Or.inr (Or.inl rfl) | exact Or.inr (Or.inr rfl))) (nomark _)))) SS_nil)
  (SS_cons (S_if (pt_cmpM (o_eq hr.units) bool_eq (R_var (i := 2) rfl (by first | exact Or.inl rfl | exact Or.inr (Or.inl rfl) | exact Or.inr (Or.inr rfl))) (R_gstr rfl M.k_NOT) (nomark _)) (SS_one (S_ret (R_not (R_call ih (hr.mono (by omega)) rfl M.m_plainly_meets M.n_plainly_meets.kp M.b_plainly_meets (passes_call (takes_of rfl rfl rfl rfl) fun _ _ _ _ h => h) (A_cons (R_idx (R_var (i := 0) rfl (by first | exact Or.inl rfl | exact Or.inr (Or.inl rfl) | exact Or.inr (Or.inr rfl))) R_int (fun _ _ => rfl)) (A_cons (R_var (i := 1) rfl (by first | exact Or.inl rfl | exact Or.inr (Or.inl rfl) | exact Or.inr (Or.inr rfl))) A_nil)))))) SS_nil)
  (SS_cons (S_par rfl sc_plainly_meets.nd (i := 3) (j := 4) rfl rfl (by decide) rfl rfl (R_call ih (hr.mono (by omega)) rfl M.m_plainly_meets M.n_plainly_meets.kp M.b_plainly_meets (passes_call (takes_of rfl rfl rfl rfl) fun _ _ _ _ h => h) (A_cons (R_idx (R_var (i := 0) rfl (by first | exact Or.inl rfl | exact Or.inr (Or.inl rfl) | exact Or.inr (Or.inr rfl))) R_int (fun _ _ => rfl)) (A_cons (R_var (i := 1) rfl (by first | exact Or.inl rfl | exact Or.inr (Or.inl rfl) | exact Or.inr (Or.inr rfl))) A_nil))) (R_call ih (hr.mono (by omega)) rfl M.m_plainly_meets M.n_plainly_meets.kp M.b_plainly_meets (passes_call (takes_of rfl rfl rfl rfl) fun _ _ _ _ h => h) (A_cons (R_idx (R_var (i := 0) rfl (by first | exact Or.inl rfl | exact Or.inr (Or.inl rfl) | exact Or.inr (Or.inr rfl))) R_int (fun _ _ => rfl)) (A_cons (R_var (i := 1) rfl (by first | exact Or.inl rfl | exact Or.inr (Or.inl rfl) | exact Or.inr (Or.inr rfl))) A_nil))) (by rfl))
  (SS_one (S_ret (R_ifx (pt_cmpM (o_eq hr.units) bool_eq (R_var (i := 2) rfl (by first | exact Or.inl rfl | exact Or.inr (Or.inl rfl) | exact Or.inr (Or.inr rfl))) (R_gstr rfl M.k_BOTH) (nomark _)) (R_and (R_var (i := 3) rfl (by first | exact Or.inl rfl | exact Or.inr (Or.inl rfl) | exact Or.inr (Or.inr rfl))) (R_one (R_var (i := 4) rfl (by first | exact Or.inl rfl | exact Or.inr (Or.inl rfl) | exact Or.inr (Or.inr rfl))))) (R_or (R_var (i := 3) rfl (by first | exact Or.inl rfl | exact Or.inr (Or.inl rfl) | exact Or.inr (Or.inr rfl))) (R_one (R_var (i := 4) rfl (by first | exact Or.inl rfl | exact Or.inr (Or.inl rfl) | exact Or.inr (Or.inr rfl)))))))))))))))))))
/-- meets -/
theorem ok_meets (M : Mo P w K mg base gd) : FnOk P w K mg base (L2.CX P w) 57 M.f_meets M.d_meets ["clue", "word"] (spM K gd m_meets) :=
  def_ok (k := 56) M.n_meets sc_meets rfl rfl (by decide) fun A outer s H E hr =>
  (SS_cons (S_expr (R_call (ok_check M) (hr.mono (by omega)) rfl M.m_check M.n_check.kp M.b_check (passes_call (takes_of rfl rfl rfl rfl) fun _ _ _ _ h => h) (A_cons (R_call (ok_is_clue M) (hr.mono (by omega)) rfl M.m_is_clue M.n_is_clue.kp M.b_is_clue (passes_call (takes_of rfl rfl rfl rfl) fun _ _ _ _ h => h) (A_cons (R_var (i := 0) rfl (by first | exact Or.inl rfl | exact Or.inr (Or.inl rfl) | exact Or.inr (Or.inr rfl))) A_nil)) (A_cons R_str A_nil))))
  (SS_cons (S_expr (R_call (ok_check M) (hr.mono (by omega)) rfl M.m_check M.n_check.kp M.b_check (passes_call (takes_of rfl rfl rfl rfl) fun _ _ _ _ h => h) (A_cons (R_call (ok_is_word M) (hr.mono (by omega)) rfl M.m_is_word M.n_is_word.kp M.b_is_word (passes_call (takes_of rfl rfl rfl rfl) fun _ _ _ _ h => h) (A_cons (R_var (i := 1) rfl (by first | exact Or.inl rfl | exact Or.inr (Or.inl rfl) | exact Or.inr (Or.inr rfl))) A_nil)) (A_cons R_str A_nil))))
  (SS_one (S_ret (R_call (ok_plainly_meets M 8) (hr.mono (by omega)) rfl M.m_plainly_meets M.n_plainly_meets.kp M.b_plainly_meets (passes_call (takes_of rfl rfl rfl rfl) fun _ _ _ _ h => h) (A_cons (R_var (i := 0) rfl (by first | exact Or.inl rfl | exact Or.inr (Or.inl rfl) | exact Or.inr (Or.inr rfl))) (A_cons (R_var (i := 1) rfl (by first | exact Or.inl rfl | exact Or.inr (Or.inl rfl) | exact Or.inr (Or.inr rfl))) A_nil)))))))
/-- patterns_with -/
theorem ok_patterns_with (M : Mo P w K mg base gd) : FnOk P w K mg base (L2.CX P w) 9 M.f_patterns_with M.d_patterns_with ["text", "size", "places"] (spM K gd m_patterns_with) :=
  def_ok (k := 8) M.n_patterns_with sc_patterns_with rfl rfl (by decide) fun A outer s H E hr =>
  (SS_cons (S_own (i := 3) sc_patterns_with.nd rfl (by first | exact Or.inl rfl | exact Or.inr rfl) A_nil)
  (SS_cons (S_for (passes_of rfl) rfl GOk_var (I_src (R_var (i := 2) rfl (by first | exact Or.inl rfl | exact Or.inr (Or.inl rfl) | exact Or.inr (Or.inr rfl)))) (G_var (i := 4) sc_patterns_with.nd rfl (by first | exact Or.inl rfl | exact Or.inr rfl) (by first | exact Or.inl rfl | exact Or.inr rfl)) (SS_one (S_if (T_chain o_le o_le bool_cmp R_int (R_var (i := 4) rfl (by first | exact Or.inl rfl | exact Or.inr (Or.inl rfl) | exact Or.inr (Or.inr rfl))) (R_bin o_sub (R_var (i := 1) rfl (by first | exact Or.inl rfl | exact Or.inr (Or.inl rfl) | exact Or.inr (Or.inr rfl))) (R_callB o_len rfl M.z_len PySem.boot_len (R_var (i := 0) rfl (by first | exact Or.inl rfl | exact Or.inr (Or.inl rfl) | exact Or.inr (Or.inr rfl))))) rfl) (SS_one (S_app (i := 3) rfl (by first | exact Or.inl rfl | exact Or.inr (Or.inl rfl) | exact Or.inr (Or.inr rfl)) (R_bin o_add (R_bin o_add (R_bin o_rep (R_gstr rfl M.k_ANY) (R_var (i := 4) rfl (by first | exact Or.inl rfl | exact Or.inr (Or.inl rfl) | exact Or.inr (Or.inr rfl)))) (R_var (i := 0) rfl (by first | exact Or.inl rfl | exact Or.inr (Or.inl rfl) | exact Or.inr (Or.inr rfl)))) (R_bin o_rep (R_gstr rfl M.k_ANY) (R_bin o_sub (R_bin o_sub (R_var (i := 1) rfl (by first | exact Or.inl rfl | exact Or.inr (Or.inl rfl) | exact Or.inr (Or.inr rfl))) (R_var (i := 4) rfl (by first | exact Or.inl rfl | exact Or.inr (Or.inl rfl) | exact Or.inr (Or.inr rfl)))) (R_callB o_len rfl M.z_len PySem.boot_len (R_var (i := 0) rfl (by first | exact Or.inl rfl | exact Or.inr (Or.inl rfl) | exact Or.inr (Or.inr rfl))))))))) SS_nil)))
  (SS_one (S_frz (S_ret (R_var (i := 3) rfl (by first | exact Or.inl rfl | exact Or.inr (Or.inl rfl) | exact Or.inr (Or.inr rfl))))))))
/-- places_of -/
theorem ok_places_of (M : Mo P w K mg base gd) : FnOk P w K mg base (L2.CX P w) 9 M.f_places_of M.d_places_of ["kind", "text", "size"] (spM K gd m_places_of) :=
  def_ok (k := 8) M.n_places_of sc_places_of rfl rfl (by decide) fun A outer s H E hr =>
  (SS_cons (S_if (pt_cmpM (o_eq hr.units) bool_eq (R_var (i := 0) rfl (by first | exact Or.inl rfl | exact Or.inr (Or.inl rfl) | exact Or.inr (Or.inr rfl))) (R_gstr rfl M.k_BEGINS) (nomark _)) (SS_one (S_ret (R_lst (A_cons R_int A_nil)))) SS_nil)
  (SS_one (S_ret (R_ifx (pt_cmpM (o_eq hr.units) bool_eq (R_var (i := 0) rfl (by first | exact Or.inl rfl | exact Or.inr (Or.inl rfl) | exact Or.inr (Or.inr rfl))) (R_gstr rfl M.k_ENDS) (nomark _)) (R_lst (A_cons (R_bin o_sub (R_var (i := 2) rfl (by first | exact Or.inl rfl | exact Or.inr (Or.inl rfl) | exact Or.inr (Or.inr rfl))) (R_callB o_len rfl M.z_len PySem.boot_len (R_var (i := 1) rfl (by first | exact Or.inl rfl | exact Or.inr (Or.inl rfl) | exact Or.inr (Or.inr rfl))))) A_nil)) (R_listRange rfl rfl M.z_list rfl M.z_range (R_var (i := 2) rfl (by first | exact Or.inl rfl | exact Or.inr (Or.inl rfl) | exact Or.inr (Or.inr rfl))))))))
/-- words_with -/
theorem ok_words_with (M : Mo P w K mg base gd) : FnOk P w K mg base (L2.CX P w) 15 M.f_words_with M.d_words_with ["book", "kind", "text"] (spM K gd m_words_with) :=
  def_ok (k := 14) M.n_words_with sc_words_with rfl rfl (by decide) fun A outer s H E hr =>
  (SS_cons (S_set (i := 3) sc_words_with.nd rfl (by first | exact Or.inl rfl | exact Or.inr rfl) R_newDct)
  (SS_cons (S_for (passes_of rfl) rfl GOk_var (I_range2 rfl M.z_range R_int (R_bin o_add (R_gint rfl M.k_MOST_LETTERS) R_int)) (G_var (i := 4) sc_words_with.nd rfl (by first | exact Or.inl rfl | exact Or.inr rfl) (by first | exact Or.inl rfl | exact Or.inr rfl)) (SS_one (S_for (passes_of rfl) rfl GOk_var (I_src (R_call (ok_patterns_with M) (hr.mono (by omega)) rfl M.m_patterns_with M.n_patterns_with.kp M.b_patterns_with (passes_call (takes_of rfl rfl rfl rfl) fun _ _ _ _ h => h) (A_cons (R_var (i := 2) rfl (by first | exact Or.inl rfl | exact Or.inr (Or.inl rfl) | exact Or.inr (Or.inr rfl))) (A_cons (R_var (i := 4) rfl (by first | exact Or.inl rfl | exact Or.inr (Or.inl rfl) | exact Or.inr (Or.inr rfl))) (A_cons (R_call (ok_places_of M) (hr.mono (by omega)) rfl M.m_places_of M.n_places_of.kp M.b_places_of (passes_call (takes_of rfl rfl rfl rfl) fun _ _ _ _ h => h) (A_cons (R_var (i := 1) rfl (by first | exact Or.inl rfl | exact Or.inr (Or.inl rfl) | exact Or.inr (Or.inr rfl))) (A_cons (R_var (i := 2) rfl (by first | exact Or.inl rfl | exact Or.inr (Or.inl rfl) | exact Or.inr (Or.inr rfl))) (A_cons (R_var (i := 4) rfl (by first | exact Or.inl rfl | exact Or.inr (Or.inl rfl) | exact Or.inr (Or.inr rfl))) A_nil)))) A_nil))))) (G_var (i := 5) sc_words_with.nd rfl (by first | exact Or.inl rfl | exact Or.inr rfl) (by first | exact Or.inl rfl | exact Or.inr rfl)) (SS_one (S_for (passes_of rfl) rfl GOk_var (I_src (R_meth M.gc_Book M.cl_Book M.me_Book_fitting (ok_Book_fitting M) (hr.mono (by omega)) M.b_Book_fitting (passes_call (takes_of rfl rfl rfl rfl) fun _ _ _ _ h => h) (R_var (i := 0) rfl (by first | exact Or.inl rfl | exact Or.inr (Or.inl rfl) | exact Or.inr (Or.inr rfl))) (A_cons (R_var (i := 5) rfl (by first | exact Or.inl rfl | exact Or.inr (Or.inl rfl) | exact Or.inr (Or.inr rfl))) A_nil))) (G_var (i := 6) sc_words_with.nd rfl (by first | exact Or.inl rfl | exact Or.inr rfl) (by first | exact Or.inl rfl | exact Or.inr rfl)) (SS_one (S_setDct hr.units (R_var (i := 3) rfl (by first | exact Or.inl rfl | exact Or.inr (Or.inl rfl) | exact Or.inr (Or.inr rfl))) (R_var (i := 6) rfl (by first | exact Or.inl rfl | exact Or.inr (Or.inl rfl) | exact Or.inr (Or.inr rfl))) R_bl)))))))
  (SS_one (S_ret (R_callB (o_sortD rfl) rfl M.z_sorted bb_sorted (R_var (i := 3) rfl (by first | exact Or.inl rfl | exact Or.inr (Or.inl rfl) | exact Or.inr (Or.inr rfl))))))))
/-- first_at_least -/
theorem ok_first_at_least (M : Mo P w K mg base gd) : FnOk P w K mg base (L2.CX P w) 9 M.f_first_at_least M.d_first_at_least ["words", "text"] (spM K gd m_first_at_least) :=
  def_ok (k := 8) M.n_first_at_least sc_first_at_least rfl rfl (by decide) fun A outer s H E hr =>
  (SS_cons (S_par rfl sc_first_at_least.nd (i := 2) (j := 3) rfl rfl (by decide) rfl rfl R_int (R_callB o_len rfl M.z_len PySem.boot_len (R_var (i := 0) rfl (by first | exact Or.inl rfl | exact Or.inr (Or.inl rfl) | exact Or.inr (Or.inr rfl)))) (by rfl))
  (SS_cons (S_while (n := 64) (passes_of rfl) (pt_cmpM o_lt bool_cmp (R_var (i := 2) rfl (by first | exact Or.inl rfl | exact Or.inr (Or.inl rfl) | exact Or.inr (Or.inr rfl))) (R_var (i := 3) rfl (by first | exact Or.inl rfl | exact Or.inr (Or.inl rfl) | exact Or.inr (Or.inr rfl))) (nomark _)) (SS_cons (S_set (i := 4) sc_first_at_least.nd rfl (by first | exact Or.inl rfl | exact Or.inr rfl) (R_bin o_fdiv (R_bin o_add (R_var (i := 2) rfl (by first | exact Or.inl rfl | exact Or.inr (Or.inl rfl) | exact Or.inr (Or.inr rfl))) (R_var (i := 3) rfl (by first | exact Or.inl rfl | exact Or.inr (Or.inl rfl) | exact Or.inr (Or.inr rfl)))) R_int))
  (SS_one (S_asg (GOk_tup (GsOk_cons GOk_var (GsOk_cons GOk_var GsOk_nil))) (R_ifx (pt_cmpM o_lt bool_cmp (R_idx (R_var (i := 0) rfl (by first | exact Or.inl rfl | exact Or.inr (Or.inl rfl) | exact Or.inr (Or.inr rfl))) (R_var (i := 4) rfl (by first | exact Or.inl rfl | exact Or.inr (Or.inl rfl) | exact Or.inr (Or.inr rfl))) (fun _ _ => rfl)) (R_var (i := 1) rfl (by first | exact Or.inl rfl | exact Or.inr (Or.inl rfl) | exact Or.inr (Or.inr rfl))) (nomark _)) (R_tup (A_cons (R_bin o_add (R_var (i := 4) rfl (by first | exact Or.inl rfl | exact Or.inr (Or.inl rfl) | exact Or.inr (Or.inr rfl))) R_int) (A_cons (R_var (i := 3) rfl (by first | exact Or.inl rfl | exact Or.inr (Or.inl rfl) | exact Or.inr (Or.inr rfl))) A_nil))) (R_tup (A_cons (R_var (i := 2) rfl (by first | exact Or.inl rfl | exact Or.inr (Or.inl rfl) | exact Or.inr (Or.inr rfl))) (A_cons (R_var (i := 4) rfl (by first | exact Or.inl rfl | exact Or.inr (Or.inl rfl) | exact Or.inr (Or.inr rfl))) A_nil)))) (G_tup rfl (Gs_cons (G_var (i := 2) sc_first_at_least.nd rfl (by first | exact Or.inl rfl | exact Or.inr rfl) (by first | exact Or.inl rfl | exact Or.inr rfl)) (Gs_cons (G_var (i := 3) sc_first_at_least.nd rfl (by first | exact Or.inl rfl | exact Or.inr rfl) (by first | exact Or.inl rfl | exact Or.inr rfl)) Gs_nil)) rfl rfl)))))
  (SS_one (S_ret (R_var (i := 2) rfl (by first | exact Or.inl rfl | exact Or.inr (Or.inl rfl) | exact Or.inr (Or.inr rfl)))))))
/-- words_between -/
theorem ok_words_between (M : Mo P w K mg base gd) : FnOk P w K mg base (L2.CX P w) 15 M.f_words_between M.d_words_between ["book", "low", "high"] (spM K gd m_words_between) :=
  def_ok (k := 14) M.n_words_between sc_words_between rfl rfl (by decide) fun A outer s H E hr =>
  (SS_cons (S_set (i := 3) sc_words_between.nd rfl (by first | exact Or.inl rfl | exact Or.inr rfl) (R_call (ok_first_at_least M) (hr.mono (by omega)) rfl M.m_first_at_least M.n_first_at_least.kp M.b_first_at_least (passes_call (takes_of rfl rfl rfl rfl) fun _ _ _ _ h => h) (A_cons (R_prop M.gc_Book M.cl_Book M.pr_Book_words (ok_Book_words M) (hr.mono (by omega)) M.b_Book_words passL (R_var (i := 0) rfl (by first | exact Or.inl rfl | exact Or.inr (Or.inl rfl) | exact Or.inr (Or.inr rfl)))) (A_cons (R_var (i := 1) rfl (by first | exact Or.inl rfl | exact Or.inr (Or.inl rfl) | exact Or.inr (Or.inr rfl))) A_nil))))
  (SS_cons (S_set (i := 4) sc_words_between.nd rfl (by first | exact Or.inl rfl | exact Or.inr rfl) (R_call (ok_first_at_least M) (hr.mono (by omega)) rfl M.m_first_at_least M.n_first_at_least.kp M.b_first_at_least (passes_call (takes_of rfl rfl rfl rfl) fun _ _ _ _ h => h) (A_cons (R_prop M.gc_Book M.cl_Book M.pr_Book_words (ok_Book_words M) (hr.mono (by omega)) M.b_Book_words passL (R_var (i := 0) rfl (by first | exact Or.inl rfl | exact Or.inr (Or.inl rfl) | exact Or.inr (Or.inr rfl)))) (A_cons (R_bin o_add (R_var (i := 2) rfl (by first | exact Or.inl rfl | exact Or.inr (Or.inl rfl) | exact Or.inr (Or.inr rfl))) (R_idx (R_gstr rfl M.k_LETTERS) R_int (fun _ _ => rfl))) A_nil))))
  (SS_one (S_ret (R_comp (own := [("word", 5)]) rfl sc_words_between.nd (I_src (R_slice (R_prop M.gc_Book M.cl_Book M.pr_Book_words (ok_Book_words M) (hr.mono (by omega)) M.b_Book_words passL (R_var (i := 0) rfl (by first | exact Or.inl rfl | exact Or.inr (Or.inl rfl) | exact Or.inr (Or.inr rfl)))) (.inr ⟨_, _, rfl, rfl, (R_var (i := 3) rfl (by first | exact Or.inl rfl | exact Or.inr (Or.inl rfl) | exact Or.inr (Or.inr rfl)))⟩) (.inr ⟨_, _, rfl, rfl, (R_var (i := 4) rfl (by first | exact Or.inl rfl | exact Or.inr (Or.inl rfl) | exact Or.inr (Or.inr rfl)))⟩))) (blkOk_by (N := ["book", "low", "high", "begin", "end", "word"]) (sc := defScope s_words_between) (by decide +kernel)) (by decide) (fun _ _ _ _ _ => (G_var (i := 5) sc_words_between.nd rfl (by first | exact Or.inl rfl | exact Or.inr rfl) (by first | exact Or.inl rfl | exact Or.inr rfl))) (fun _ _ _ _ _ => (pts_one (pt_cmpM o_le bool_cmp (R_var (i := 5) rfl (by first | exact Or.inl rfl | exact Or.inr (Or.inl rfl) | exact Or.inr (Or.inr rfl))) (R_var (i := 2) rfl (by first | exact Or.inl rfl | exact Or.inr (Or.inl rfl) | exact Or.inr (Or.inr rfl))) (nomark _)))) (fun _ _ _ _ _ => (R_var (i := 5) rfl (by first | exact Or.inl rfl | exact Or.inr (Or.inl rfl) | exact Or.inr (Or.inr rfl)))))))))
/-- words_in -/
theorem ok_words_in (M : Mo P w K mg base gd) : ∀ n : Nat, FnOk P w K mg base (L2.CX P w) (45 + 3 * n) M.f_words_in M.d_words_in ["book", "clue"] (spM K gd (m_words_in n))
  | 0 => fn_no
  | n + 1 => by
    have ih := ok_words_in M n
    exact def_ok (k := 45 + 3 * n + 2) M.n_words_in sc_words_in rfl rfl (by decide) fun A outer s H E hr =>
  (SS_cons (S_set (i := 2) sc_words_in.nd rfl (by first | exact Or.inl rfl | exact Or.inr rfl) (R_idx (R_var (i := 1) rfl (by first | exact Or.inl rfl | exact Or.inr (Or.inl rfl) | exact Or.inr (Or.inr rfl))) R_int (fun _ _ => rfl)))
  (SS_cons (S_if (pt_cmpM (o_eq hr.units) bool_eq (R_var (i := 2) rfl (by first | exact Or.inl rfl | exact Or.inr (Or.inl rfl) | exact Or.inr (Or.inr rfl))) (R_gstr rfl M.k_LIKE) (nomark _)) (SS_one (S_ret (R_meth M.gc_Book M.cl_Book M.me_Book_fitting (ok_Book_fitting M) (hr.mono (by omega)) M.b_Book_fitting (passes_call (takes_of rfl rfl rfl rfl) fun _ _ _ _ h => h) (R_var (i := 0) rfl (by first | exact Or.inl rfl | exact Or.inr (Or.inl rfl) | exact Or.inr (Or.inr rfl))) (A_cons (R_idx (R_var (i := 1) rfl (by first | exact Or.inl rfl | exact Or.inr (Or.inl rfl) | exact Or.inr (Or.inr rfl))) R_int (fun _ _ => rfl)) A_nil)))) SS_nil)
  (SS_cons (S_if (pt_cmpM o_in bool_in (R_var (i := 2) rfl (by first | exact Or.inl rfl | exact Or.inr (Or.inl rfl) | exact Or.inr (Or.inr rfl))) (R_tup (A_cons (R_gstr rfl M.k_BEGINS) (A_cons (R_gstr rfl M.k_ENDS) (A_cons (R_gstr rfl M.k_HOLDS) A_nil))) (Nat.le_of_ble_eq_true rfl)) (by with_unfolding_all rfl)) (SS_one (S_ret (R_call (ok_words_with M) (hr.mono (by omega)) rfl M.m_words_with M.n_words_with.kp M.b_words_with (passes_call (takes_of rfl rfl rfl rfl) fun _ _ _ _ h => h) (A_cons (R_var (i := 0) rfl (by first | exact Or.inl rfl | exact Or.inr (Or.inl rfl) | exact Or.inr (Or.inr rfl))) (A_cons (R_var (i := 2) rfl (by first | exact Or.inl rfl | exact Or.inr (Or.inl rfl) | exact Or.inr (Or.inr rfl))) (A_cons (R_idx (R_var (i := 1) rfl (by first | exact Or.inl rfl | exact Or.inr (Or.inl rfl) | exact Or.inr (Or.inr rfl))) R_int (fun _ _ => rfl)) A_nil)))))) SS_nil)
  (SS_cons (S_if (pt_cmpM (o_eq hr.units) bool_eq (R_var (i := 2) rfl (by first | exact Or.inl rfl | exact Or.inr (Or.inl rfl) | exact Or.inr (Or.inr rfl))) (R_gstr rfl M.k_FROM) (nomark _)) (SS_one (S_ret (R_call (ok_words_between M) (hr.mono (by omega)) rfl M.m_words_between M.n_words_between.kp M.b_words_between (passes_call (takes_of rfl rfl rfl rfl) fun _ _ _ _ h => h) (A_cons (R_var (i := 0) rfl (by first | exact Or.inl rfl | exact Or.inr (Or.inl rfl) | exact Or.inr (Or.inr rfl))) (A_cons (R_idx (R_var (i := 1) rfl (by first | exact Or.inl rfl | exact Or.inr (Or.inl rfl) | exact Or.inr (Or.inr rfl))) R_int (fun _ _ => rfl)) (A_cons (R_idx (R_var (i := 1) rfl (by first | exact Or.inl rfl | exact Or.inr (Or.inl rfl) | exact Or.inr (Or.inr rfl))) R_int (fun _ _ => rfl)) A_nil)))))) SS_nil)
  (SS_cons (S_if (pt_cmpM (o_eq hr.units) bool_eq (R_var (i := 2) rfl (by first | exact Or.inl rfl | exact Or.inr (Or.inl rfl) | exact Or.inr (Or.inr rfl))) (R_gstr rfl M.k_BACK) (nomark _)) (SS_one (S_ret (R_meth M.gc_Book M.cl_Book M.me_Book_fitting (ok_Book_fitting M) (hr.mono (by omega)) M.b_Book_fitting (passes_call (takes_of rfl rfl rfl rfl) fun _ _ _ _ h => h) (R_var (i := 0) rfl (by first | exact Or.inl rfl | exact Or.inr (Or.inl rfl) | exact Or.inr (Or.inr rfl))) (A_cons (R_rev (R_idx (R_var (i := 1) rfl (by first | exact Or.inl rfl | exact Or.inr (Or.inl rfl) | exact Or.inr (Or.inr rfl))) R_int (fun _ _ => rfl))) A_nil)))) SS_nil)
  (SS_cons (S_if (pt_cmpM (o_eq hr.units) bool_eq (R_var (i := 2) rfl (by first | exact Or.inl rfl | exact Or.inr (Or.inl rfl) | exact Or.inr (Or.inr rfl))) (R_gstr rfl M.k_NOT) (nomark _)) (SS_cons (S_set (i := 3) sc_words_in.nd rfl (by first | exact Or.inl rfl | exact Or.inr rfl) (R_call ih (hr.mono (by omega)) rfl M.m_words_in M.n_words_in.kp M.b_words_in (passes_call (takes_of rfl rfl rfl rfl) fun _ _ _ _ h => h) (A_cons (R_var (i := 0) rfl (by first | exact Or.inl rfl | exact Or.inr (Or.inl rfl) | exact Or.inr (Or.inr rfl))) (A_cons (R_idx (R_var (i := 1) rfl (by first | exact Or.inl rfl | exact Or.inr (Or.inl rfl) | exact Or.inr (Or.inr rfl))) R_int (fun _ _ => rfl)) A_nil))))
  (SS_one (S_ret (R_comp (own := [("word", 6)]) rfl sc_words_in.nd (I_src (R_prop M.gc_Book M.cl_Book M.pr_Book_words (ok_Book_words M) (hr.mono (by omega)) M.b_Book_words passL (R_var (i := 0) rfl (by first | exact Or.inl rfl | exact Or.inr (Or.inl rfl) | exact Or.inr (Or.inr rfl))))) (blkOk_by (N := ["book", "clue", "kind", "there", "one", "other", "word"]) (sc := defScope s_words_in) (by decide +kernel)) (by decide) (fun _ _ _ _ _ => (G_var (i := 6) sc_words_in.nd rfl (by first | exact Or.inl rfl | exact Or.inr rfl) (by first | exact Or.inl rfl | exact Or.inr rfl))) (fun _ _ _ _ _ => (pts_one (pt_cmpM o_notin bool_notin (R_var (i := 6) rfl (by first | exact Or.inl rfl | exact Or.inr (Or.inl rfl) | exact Or.inr (Or.inr rfl))) (R_var (i := 3) rfl (by first | exact Or.inl rfl | exact Or.inr (Or.inl rfl) | exact Or.inr (Or.inr rfl))) (by with_unfolding_all rfl)))) (fun _ _ _ _ _ => (R_var (i := 6) rfl (by first | exact Or.inl rfl | exact Or.inr (Or.inl rfl) | exact Or.inr (Or.inr rfl)))))))) SS_nil)
  (SS_cons (S_if (pt_cmpM o_in bool_in (R_var (i := 2) rfl (by first | exact Or.inl rfl | exact Or.inr (Or.inl rfl) | exact Or.inr (Or.inr rfl))) (R_tup (A_cons (R_gstr rfl M.k_BOTH) (A_cons (R_gstr rfl M.k_EITHER) A_nil)) (Nat.le_of_ble_eq_true rfl)) (by with_unfolding_all rfl)) (SS_cons (S_asg (GOk_tup (GsOk_cons GOk_var (GsOk_cons GOk_var GsOk_nil))) (R_tup (A_cons (R_call ih (hr.mono (by omega)) rfl M.m_words_in M.n_words_in.kp M.b_words_in (passes_call (takes_of rfl rfl rfl rfl) fun _ _ _ _ h => h) (A_cons (R_var (i := 0) rfl (by first | exact Or.inl rfl | exact Or.inr (Or.inl rfl) | exact Or.inr (Or.inr rfl))) (A_cons (R_idx (R_var (i := 1) rfl (by first | exact Or.inl rfl | exact Or.inr (Or.inl rfl) | exact Or.inr (Or.inr rfl))) R_int (fun _ _ => rfl)) A_nil))) (A_cons (R_call ih (hr.mono (by omega)) rfl M.m_words_in M.n_words_in.kp M.b_words_in (passes_call (takes_of rfl rfl rfl rfl) fun _ _ _ _ h => h) (A_cons (R_var (i := 0) rfl (by first | exact Or.inl rfl | exact Or.inr (Or.inl rfl) | exact Or.inr (Or.inr rfl))) (A_cons (R_idx (R_var (i := 1) rfl (by first | exact Or.inl rfl | exact Or.inr (Or.inl rfl) | exact Or.inr (Or.inr rfl))) R_int (fun _ _ => rfl)) A_nil))) A_nil)) (Nat.le_of_ble_eq_true rfl)) (G_tup rfl (Gs_cons (G_var (i := 4) sc_words_in.nd rfl (by first | exact Or.inl rfl | exact Or.inr rfl) (by first | exact Or.inl rfl | exact Or.inr rfl)) (Gs_cons (G_var (i := 5) sc_words_in.nd rfl (by first | exact Or.inl rfl | exact Or.inr rfl) (by first | exact Or.inl rfl | exact Or.inr rfl)) Gs_nil)) rfl rfl))
  (SS_one (S_ret (R_ifx (pt_cmpM (o_eq hr.units) bool_eq (R_var (i := 2) rfl (by first | exact Or.inl rfl | exact Or.inr (Or.inl rfl) | exact Or.inr (Or.inr rfl))) (R_gstr rfl M.k_BOTH) (nomark _)) (R_comp (own := [("word", 6)]) rfl sc_words_in.nd (I_src (R_var (i := 4) rfl (by first | exact Or.inl rfl | exact Or.inr (Or.inl rfl) | exact Or.inr (Or.inr rfl)))) (blkOk_by (N := ["book", "clue", "kind", "there", "one", "other", "word"]) (sc := defScope s_words_in) (by decide +kernel)) (by decide) (fun _ _ _ _ _ => (G_var (i := 6) sc_words_in.nd rfl (by first | exact Or.inl rfl | exact Or.inr rfl) (by first | exact Or.inl rfl | exact Or.inr rfl))) (fun _ _ _ _ _ => (pts_one (pt_cmpM o_in bool_in (R_var (i := 6) rfl (by first | exact Or.inl rfl | exact Or.inr (Or.inl rfl) | exact Or.inr (Or.inr rfl))) (R_var (i := 5) rfl (by first | exact Or.inl rfl | exact Or.inr (Or.inl rfl) | exact Or.inr (Or.inr rfl))) (by with_unfolding_all rfl)))) (fun _ _ _ _ _ => (R_var (i := 6) rfl (by first | exact Or.inl rfl | exact Or.inr (Or.inl rfl) | exact Or.inr (Or.inr rfl))))) (R_sortU rfl rfl M.z_sorted rfl M.z_set (R_bin o_add (R_var (i := 4) rfl (by first | exact Or.inl rfl | exact Or.inr (Or.inl rfl) | exact Or.inr (Or.inr rfl))) (R_var (i := 5) rfl (by first | exact Or.inl rfl | exact Or.inr (Or.inl rfl) | exact Or.inr (Or.inr rfl)))) bb_sorted bt_set))))) SS_nil)
  (SS_one (S_ret (R_comp (own := [("word", 6)]) rfl sc_words_in.nd (I_src (R_prop M.gc_Book M.cl_Book M.pr_Book_words (ok_Book_words M) (hr.mono (by omega)) M.b_Book_words passL (R_var (i := 0) rfl (by first | exact Or.inl rfl | exact Or.inr (Or.inl rfl) | exact Or.inr (Or.inr rfl))))) (blkOk_by (N := ["book", "clue", "kind", "there", "one", "other", "word"]) (sc := defScope s_words_in) (by decide +kernel)) (by decide) (fun _ _ _ _ _ => (G_var (i := 6) sc_words_in.nd rfl (by first | exact Or.inl rfl | exact Or.inr rfl) (by first | exact Or.inl rfl | exact Or.inr rfl))) (fun _ _ _ _ _ => (pts_one (T_val (R_call (ok_plainly_meets M 8) (hr.mono (by omega)) rfl M.m_plainly_meets M.n_plainly_meets.kp M.b_plainly_meets passL (A_cons (R_var (i := 1) rfl (by first | exact Or.inl rfl | exact Or.inr (Or.inl rfl) | exact Or.inr (Or.inr rfl))) (A_cons (R_var (i := 6) rfl (by first | exact Or.inl rfl | exact Or.inr (Or.inl rfl) | exact Or.inr (Or.inr rfl))) A_nil)))))) (fun _ _ _ _ _ => (R_var (i := 6) rfl (by first | exact Or.inl rfl | exact Or.inr (Or.inl rfl) | exact Or.inr (Or.inr rfl))))))))))))))
/-- words_by -/
theorem ok_words_by (M : Mo P w K mg base gd) : FnOk P w K mg base (L2.CX P w) 75 M.f_words_by M.d_words_by ["book", "clue"] (spM K gd m_words_by) :=
  def_ok (k := 74) M.n_words_by sc_words_by rfl rfl (by decide) fun A outer s H E hr =>
  (SS_cons (S_expr (R_call (ok_check M) (hr.mono (by omega)) rfl M.m_check M.n_check.kp M.b_check (passes_call (takes_of rfl rfl rfl rfl) fun _ _ _ _ h => h) (A_cons (R_call (ok_is_book M) (hr.mono (by omega)) rfl M.m_is_book M.n_is_book.kp M.b_is_book (passes_call (takes_of rfl rfl rfl rfl) fun _ _ _ _ h => h) (A_cons (R_var (i := 0) rfl (by first | exact Or.inl rfl | exact Or.inr (Or.inl rfl) | exact Or.inr (Or.inr rfl))) A_nil)) (A_cons R_str A_nil))))
  (SS_cons (S_expr (R_call (ok_check M) (hr.mono (by omega)) rfl M.m_check M.n_check.kp M.b_check (passes_call (takes_of rfl rfl rfl rfl) fun _ _ _ _ h => h) (A_cons (R_call (ok_is_clue M) (hr.mono (by omega)) rfl M.m_is_clue M.n_is_clue.kp M.b_is_clue (passes_call (takes_of rfl rfl rfl rfl) fun _ _ _ _ h => h) (A_cons (R_var (i := 1) rfl (by first | exact Or.inl rfl | exact Or.inr (Or.inl rfl) | exact Or.inr (Or.inr rfl))) A_nil)) (A_cons R_str A_nil))))
  (SS_one (S_ret (R_callTy o_tuple rfl M.z_tuple bt_tuple (R_call (ok_words_in M 8) (hr.mono (by omega)) rfl M.m_words_in M.n_words_in.kp M.b_words_in (passes_call (takes_of rfl rfl rfl rfl) fun _ _ _ _ h => h) (A_cons (R_var (i := 0) rfl (by first | exact Or.inl rfl | exact Or.inr (Or.inl rfl) | exact Or.inr (Or.inr rfl))) (A_cons (R_var (i := 1) rfl (by first | exact Or.inl rfl | exact Or.inr (Or.inl rfl) | exact Or.inr (Or.inr rfl))) A_nil))))))))
/-- _law_taken -/
theorem ok__law_taken (M : Mo P w K mg base gd) : FnOk P w K mg base (L2.CX P w) 9 M.f__law_taken M.d__law_taken ["row", "many"] (spM K gd m__law_taken) :=
  def_ok (k := 8) M.n__law_taken sc__law_taken rfl rfl (by decide) fun A outer s H E hr =>
  (SS_cons (S_if (pt_cmpM o_gt bool_cmp (R_idx (R_var (i := 0) rfl (by first | exact Or.inl rfl | exact Or.inr (Or.inl rfl) | exact Or.inr (Or.inr rfl))) R_int (fun _ _ => rfl)) R_int (nomark _)) (SS_cons (S_set (i := 3) sc__law_taken.nd rfl (by first | exact Or.inl rfl | exact Or.inr rfl) (R_bin o_mod (R_callTy o_int rfl M.z_int bt_int (R_idx (R_var (i := 0) rfl (by first | exact Or.inl rfl | exact Or.inr (Or.inl rfl) | exact Or.inr (Or.inr rfl))) R_int (fun _ _ => rfl))) (R_var (i := 1) rfl (by first | exact Or.inl rfl | exact Or.inr (Or.inl rfl) | exact Or.inr (Or.inr rfl)))))
  (SS_cons (S_setItem (R_var (i := 0) rfl (by first | exact Or.inl rfl | exact Or.inr (Or.inl rfl) | exact Or.inr (Or.inr rfl))) R_int (R_bin o_fdiv (R_idx (R_var (i := 0) rfl (by first | exact Or.inl rfl | exact Or.inr (Or.inl rfl) | exact Or.inr (Or.inr rfl))) R_int (fun _ _ => rfl)) (R_var (i := 1) rfl (by first | exact Or.inl rfl | exact Or.inr (Or.inl rfl) | exact Or.inr (Or.inr rfl)))))
  (SS_one (S_ret (R_var (i := 3) rfl (by first | exact Or.inl rfl | exact Or.inr (Or.inl rfl) | exact Or.inr (Or.inr rfl))))))) SS_nil)
  (SS_cons (S_setItem (R_var (i := 0) rfl (by first | exact Or.inl rfl | exact Or.inr (Or.inl rfl) | exact Or.inr (Or.inr rfl))) R_int (R_bin o_add (R_idx (R_var (i := 0) rfl (by first | exact Or.inl rfl | exact Or.inr (Or.inl rfl) | exact Or.inr (Or.inr rfl))) R_int (fun _ _ => rfl)) R_int))
  (SS_cons (S_if (pt_cmpM o_gt bool_cmp (R_idx (R_var (i := 0) rfl (by first | exact Or.inl rfl | exact Or.inr (Or.inl rfl) | exact Or.inr (Or.inr rfl))) R_int (fun _ _ => rfl)) (R_callB o_len rfl M.z_len PySem.boot_len (R_idx (R_var (i := 0) rfl (by first | exact Or.inl rfl | exact Or.inr (Or.inl rfl) | exact Or.inr (Or.inr rfl))) R_int (fun _ _ => rfl))) (nomark _)) (SS_cons (S_setItem (R_var (i := 0) rfl (by first | exact Or.inl rfl | exact Or.inr (Or.inl rfl) | exact Or.inr (Or.inr rfl))) R_int (R_bin o_mod (R_callTy o_int rfl M.z_int bt_int (R_bin o_add (R_bin o_mul (R_idx (R_var (i := 0) rfl (by first | exact Or.inl rfl | exact Or.inr (Or.inl rfl) | exact Or.inr (Or.inr rfl))) R_int (fun _ _ => rfl)) R_int) R_int)) R_int))
  (SS_one (S_ret (R_bin o_mod (R_callTy o_int rfl M.z_int bt_int (R_bin o_fdiv (R_idx (R_var (i := 0) rfl (by first | exact Or.inl rfl | exact Or.inr (Or.inl rfl) | exact Or.inr (Or.inr rfl))) R_int (fun _ _ => rfl)) R_int)) (R_var (i := 1) rfl (by first | exact Or.inl rfl | exact Or.inr (Or.inl rfl) | exact Or.inr (Or.inr rfl))))))) SS_nil)
  (SS_cons (S_set (i := 2) sc__law_taken.nd rfl (by first | exact Or.inl rfl | exact Or.inr rfl) (R_idx (R_idx (R_var (i := 0) rfl (by first | exact Or.inl rfl | exact Or.inr (Or.inl rfl) | exact Or.inr (Or.inr rfl))) R_int (fun _ _ => rfl)) (R_bin o_sub (R_idx (R_var (i := 0) rfl (by first | exact Or.inl rfl | exact Or.inr (Or.inl rfl) | exact Or.inr (Or.inr rfl))) R_int (fun _ _ => rfl)) R_int) (fun _ _ => rfl)))
  (SS_cons (S_setItem (R_var (i := 0) rfl (by first | exact Or.inl rfl | exact Or.inr (Or.inl rfl) | exact Or.inr (Or.inr rfl))) R_int (R_bin o_mod (R_callTy o_int rfl M.z_int bt_int (R_bin o_add (R_bin o_add (R_bin o_mul (R_idx (R_var (i := 0) rfl (by first | exact Or.inl rfl | exact Or.inr (Or.inl rfl) | exact Or.inr (Or.inr rfl))) R_int (fun _ _ => rfl)) R_int) (R_var (i := 2) rfl (by first | exact Or.inl rfl | exact Or.inr (Or.inl rfl) | exact Or.inr (Or.inr rfl)))) R_int)) R_int))
  (SS_cons (S_if (pt_cmpM o_ge bool_cmp (R_var (i := 2) rfl (by first | exact Or.inl rfl | exact Or.inr (Or.inl rfl) | exact Or.inr (Or.inr rfl))) (R_bin o_pow R_int R_int) (nomark _)) (SS_one (S_setItem (R_var (i := 0) rfl (by first | exact Or.inl rfl | exact Or.inr (Or.inl rfl) | exact Or.inr (Or.inr rfl))) R_int (R_bin o_fdiv (R_var (i := 2) rfl (by first | exact Or.inl rfl | exact Or.inr (Or.inl rfl) | exact Or.inr (Or.inr rfl))) (R_var (i := 1) rfl (by first | exact Or.inl rfl | exact Or.inr (Or.inl rfl) | exact Or.inr (Or.inr rfl)))))) SS_nil)
  (SS_one (S_ret (R_bin o_mod (R_callTy o_int rfl M.z_int bt_int (R_var (i := 2) rfl (by first | exact Or.inl rfl | exact Or.inr (Or.inl rfl) | exact Or.inr (Or.inr rfl)))) (R_var (i := 1) rfl (by first | exact Or.inl rfl | exact Or.inr (Or.inl rfl) | exact Or.inr (Or.inr rfl))))))))))))
/-- _law_pick -/
theorem ok__law_pick (M : Mo P w K mg base gd) : FnOk P w K mg base (L2.CX P w) 15 M.f__law_pick M.d__law_pick ["row", "some"] (spM K gd m__law_pick) :=
  def_ok (k := 14) M.n__law_pick sc__law_pick rfl rfl (by decide) fun A outer s H E hr =>
  (SS_one (S_ret (R_idx (R_var (i := 1) rfl (by first | exact Or.inl rfl | exact Or.inr (Or.inl rfl) | exact Or.inr (Or.inr rfl))) (R_call (ok__law_taken M) (hr.mono (by omega)) rfl M.m__law_taken M.n__law_taken.kp M.b__law_taken (passes_call (takes_of rfl rfl rfl rfl) fun _ _ _ _ h => h) (A_cons (R_var (i := 0) rfl (by first | exact Or.inl rfl | exact Or.inr (Or.inl rfl) | exact Or.inr (Or.inr rfl))) (A_cons (R_callB o_len rfl M.z_len PySem.boot_len (R_var (i := 1) rfl (by first | exact Or.inl rfl | exact Or.inr (Or.inl rfl) | exact Or.inr (Or.inr rfl)))) A_nil))) (fun _ _ => rfl))))
/-- _law_text -/
theorem ok__law_text (M : Mo P w K mg base gd) : FnOk P w K mg base (L2.CX P w) 15 M.f__law_text M.d__law_text ["row", "least", "most", "signs"] (spM K gd m__law_text) :=
  def_ok (k := 14) M.n__law_text sc__law_text rfl rfl (by decide) fun A outer s H E hr =>
  (SS_one (S_ret (R_join R_str (R_comp (own := [("turn", 4)]) rfl sc__law_text.nd (I_range1 rfl M.z_range (R_bin o_add (R_var (i := 1) rfl (by first | exact Or.inl rfl | exact Or.inr (Or.inl rfl) | exact Or.inr (Or.inr rfl))) (R_call (ok__law_taken M) (hr.mono (by omega)) rfl M.m__law_taken M.n__law_taken.kp M.b__law_taken (passes_call (takes_of rfl rfl rfl rfl) fun _ _ _ _ h => h) (A_cons (R_var (i := 0) rfl (by first | exact Or.inl rfl | exact Or.inr (Or.inl rfl) | exact Or.inr (Or.inr rfl))) (A_cons (R_bin o_add (R_bin o_sub (R_var (i := 2) rfl (by first | exact Or.inl rfl | exact Or.inr (Or.inl rfl) | exact Or.inr (Or.inr rfl))) (R_var (i := 1) rfl (by first | exact Or.inl rfl | exact Or.inr (Or.inl rfl) | exact Or.inr (Or.inr rfl)))) R_int) A_nil))))) (blkOk_by (N := ["row", "least", "most", "signs", "turn"]) (sc := defScope s__law_text) (by decide +kernel)) (by decide) (fun _ _ _ _ _ => (G_var (i := 4) sc__law_text.nd rfl (by first | exact Or.inl rfl | exact Or.inr rfl) (by first | exact Or.inl rfl | exact Or.inr rfl))) (fun _ _ _ _ _ => T_nil) (fun _ _ _ _ _ => (R_idx (R_var (i := 3) rfl (by first | exact Or.inl rfl | exact Or.inr (Or.inl rfl) | exact Or.inr (Or.inr rfl))) (R_call (ok__law_taken M) (hr.mono (by omega)) rfl M.m__law_taken M.n__law_taken.kp M.b__law_taken passL (A_cons (R_var (i := 0) rfl (by first | exact Or.inl rfl | exact Or.inr (Or.inl rfl) | exact Or.inr (Or.inr rfl))) (A_cons (R_callB o_len rfl M.z_len PySem.boot_len (R_var (i := 3) rfl (by first | exact Or.inl rfl | exact Or.inr (Or.inl rfl) | exact Or.inr (Or.inr rfl)))) A_nil))) (fun _ _ => rfl)))))))
/-- _law_words -/
theorem ok__law_words (M : Mo P w K mg base gd) : FnOk P w K mg base (L2.CX P w) 21 M.f__law_words M.d__law_words ["row", "most"] (spM K gd m__law_words) :=
  def_ok (k := 20) M.n__law_words sc__law_words rfl rfl (by decide) fun A outer s H E hr =>
  (SS_cons (S_set (i := 2) sc__law_words.nd rfl (by first | exact Or.inl rfl | exact Or.inr rfl) (R_call (ok__law_pick M) (hr.mono (by omega)) rfl M.m__law_pick M.n__law_pick.kp M.b__law_pick (passes_call (takes_of rfl rfl rfl rfl) fun _ _ _ _ h => h) (A_cons (R_var (i := 0) rfl (by first | exact Or.inl rfl | exact Or.inr (Or.inl rfl) | exact Or.inr (Or.inr rfl))) (A_cons (R_lst (A_cons R_str (A_cons R_str (A_cons R_str A_nil)))) A_nil))))
  (SS_one (S_ret (R_callTy o_tuple rfl M.z_tuple bt_tuple (R_sortU rfl rfl M.z_sorted rfl M.z_set (R_comp (own := [("turn", 3)]) rfl sc__law_words.nd (I_range1 rfl M.z_range (R_call (ok__law_taken M) (hr.mono (by omega)) rfl M.m__law_taken M.n__law_taken.kp M.b__law_taken (passes_call (takes_of rfl rfl rfl rfl) fun _ _ _ _ h => h) (A_cons (R_var (i := 0) rfl (by first | exact Or.inl rfl | exact Or.inr (Or.inl rfl) | exact Or.inr (Or.inr rfl))) (A_cons (R_bin o_add (R_var (i := 1) rfl (by first | exact Or.inl rfl | exact Or.inr (Or.inl rfl) | exact Or.inr (Or.inr rfl))) R_int) A_nil)))) (blkOk_by (N := ["row", "most", "signs", "turn"]) (sc := defScope s__law_words) (by decide +kernel)) (by decide) (fun _ _ _ _ _ => (G_var (i := 3) sc__law_words.nd rfl (by first | exact Or.inl rfl | exact Or.inr rfl) (by first | exact Or.inl rfl | exact Or.inr rfl))) (fun _ _ _ _ _ => T_nil) (fun _ _ _ _ _ => (R_call (ok__law_text M) (hr.mono (by omega)) rfl M.m__law_text M.n__law_text.kp M.b__law_text passL (A_cons (R_var (i := 0) rfl (by first | exact Or.inl rfl | exact Or.inr (Or.inl rfl) | exact Or.inr (Or.inr rfl))) (A_cons R_int (A_cons R_int (A_cons (R_var (i := 2) rfl (by first | exact Or.inl rfl | exact Or.inr (Or.inl rfl) | exact Or.inr (Or.inr rfl))) A_nil))))))) bb_sorted bt_set)))))
/-- _law_clue -/
theorem ok__law_clue (M : Mo P w K mg base gd) : ∀ n : Nat, FnOk P w K mg base (L2.CX P w) (21 + 3 * n) M.f__law_clue M.d__law_clue ["row", "depth"] (spM K gd (m__law_clue n))
  | 0 => fn_no
  | n + 1 => by
    have ih := ok__law_clue M n
    exact def_ok (k := 21 + 3 * n + 2) M.n__law_clue sc__law_clue rfl rfl (by decide) fun A outer s H E hr =>
  (SS_cons (S_set (i := 2) sc__law_clue.nd rfl (by first | exact Or.inl rfl | exact Or.inr rfl) (R_lst (A_cons R_str (A_cons R_str (A_cons R_str (A_cons R_str (A_cons R_str (A_cons R_str (A_cons R_str (A_cons R_str A_nil))))))))))
  (SS_cons (S_set (i := 3) sc__law_clue.nd rfl (by first | exact Or.inl rfl | exact Or.inr rfl) (R_call (ok__law_pick M) (hr.mono (by omega)) rfl M.m__law_pick M.n__law_pick.kp M.b__law_pick (passes_call (takes_of rfl rfl rfl rfl) fun _ _ _ _ h => h) (A_cons (R_var (i := 0) rfl (by first | exact Or.inl rfl | exact Or.inr (Or.inl rfl) | exact Or.inr (Or.inr rfl))) (A_cons (R_bin o_add (R_var (i := 2) rfl (by first | exact Or.inl rfl | exact Or.inr (Or.inl rfl) | exact Or.inr (Or.inr rfl))) (R_ifx (pt_cmpM o_gt bool_cmp (R_var (i := 1) rfl (by first | exact Or.inl rfl | exact Or.inr (Or.inl rfl) | exact Or.inr (Or.inr rfl))) R_int (nomark _)) (R_lst (A_cons R_str (A_cons R_str (A_cons R_str A_nil)))) (R_lst A_nil))) A_nil))))
  (SS_cons (S_if (pt_cmpM o_in bool_in (R_var (i := 3) rfl (by first | exact Or.inl rfl | exact Or.inr (Or.inl rfl) | exact Or.inr (Or.inr rfl))) (R_tup (A_cons R_str (A_cons R_str (A_cons R_str A_nil))) (Nat.le_of_ble_eq_true rfl)) (by with_unfolding_all rfl)) (SS_one (S_ret (R_bin o_add (R_tup (A_cons (R_var (i := 3) rfl (by first | exact Or.inl rfl | exact Or.inr (Or.inl rfl) | exact Or.inr (Or.inr rfl))) A_nil) (Nat.le_of_ble_eq_true rfl)) (R_callTy o_tuple rfl M.z_tuple bt_tuple (R_comp (own := [("turn", 4)]) rfl sc__law_clue.nd (I_range1 rfl M.z_range (R_ifx (pt_cmpM (o_eq hr.units) bool_eq (R_var (i := 3) rfl (by first | exact Or.inl rfl | exact Or.inr (Or.inl rfl) | exact Or.inr (Or.inr rfl))) R_str (nomark _)) R_int R_int)) (blkOk_by (N := ["row", "depth", "some", "kind", "turn"]) (sc := defScope s__law_clue) (by decide +kernel)) (by decide) (fun _ _ _ _ _ => (G_var (i := 4) sc__law_clue.nd rfl (by first | exact Or.inl rfl | exact Or.inr rfl) (by first | exact Or.inl rfl | exact Or.inr rfl))) (fun _ _ _ _ _ => T_nil) (fun _ _ _ _ _ => (R_call ih (hr.mono (by omega)) rfl M.m__law_clue M.n__law_clue.kp M.b__law_clue passL (A_cons (R_var (i := 0) rfl (by first | exact Or.inl rfl | exact Or.inr (Or.inl rfl) | exact Or.inr (Or.inr rfl))) (A_cons (R_bin o_sub (R_var (i := 1) rfl (by first | exact Or.inl rfl | exact Or.inr (Or.inl rfl) | exact Or.inr (Or.inr rfl))) R_int) A_nil))))))))) SS_nil)
  (SS_cons (S_if (pt_cmpM (o_eq hr.units) bool_eq (R_var (i := 3) rfl (by first | exact Or.inl rfl | exact Or.inr (Or.inl rfl) | exact Or.inr (Or.inr rfl))) R_str (nomark _)) (SS_one (S_ret (R_tup (A_cons (R_var (i := 3) rfl (by first | exact Or.inl rfl | exact Or.inr (Or.inl rfl) | exact Or.inr (Or.inr rfl))) (A_cons (R_call (ok__law_text M) (hr.mono (by omega)) rfl M.m__law_text M.n__law_text.kp M.b__law_text (passes_call (takes_of rfl rfl rfl rfl) fun _ _ _ _ h => h) (A_cons (R_var (i := 0) rfl (by first | exact Or.inl rfl | exact Or.inr (Or.inl rfl) | exact Or.inr (Or.inr rfl))) (A_cons R_int (A_cons R_int (A_cons R_str A_nil))))) A_nil)) (Nat.le_of_ble_eq_true rfl)))) SS_nil)
  (SS_cons (S_if (pt_cmpM o_in bool_in (R_var (i := 3) rfl (by first | exact Or.inl rfl | exact Or.inr (Or.inl rfl) | exact Or.inr (Or.inr rfl))) (R_tup (A_cons R_str (A_cons R_str (A_cons R_str A_nil))) (Nat.le_of_ble_eq_true rfl)) (by with_unfolding_all rfl)) (SS_one (S_ret (R_tup (A_cons (R_var (i := 3) rfl (by first | exact Or.inl rfl | exact Or.inr (Or.inl rfl) | exact Or.inr (Or.inr rfl))) (A_cons (R_call (ok__law_text M) (hr.mono (by omega)) rfl M.m__law_text M.n__law_text.kp M.b__law_text (passes_call (takes_of rfl rfl rfl rfl) fun _ _ _ _ h => h) (A_cons (R_var (i := 0) rfl (by first | exact Or.inl rfl | exact Or.inr (Or.inl rfl) | exact Or.inr (Or.inr rfl))) (A_cons R_int (A_cons (R_call (ok__law_pick M) (hr.mono (by omega)) rfl M.m__law_pick M.n__law_pick.kp M.b__law_pick (passes_call (takes_of rfl rfl rfl rfl) fun _ _ _ _ h => h) (A_cons (R_var (i := 0) rfl (by first | exact Or.inl rfl | exact Or.inr (Or.inl rfl) | exact Or.inr (Or.inr rfl))) (A_cons (R_lst (A_cons R_int (A_cons R_int (A_cons R_int A_nil)))) A_nil))) (A_cons R_str A_nil))))) A_nil)) (Nat.le_of_ble_eq_true rfl)))) SS_nil)
  (SS_cons (S_if (pt_cmpM (o_eq hr.units) bool_eq (R_var (i := 3) rfl (by first | exact Or.inl rfl | exact Or.inr (Or.inl rfl) | exact Or.inr (Or.inr rfl))) R_str (nomark _)) (SS_one (S_ret (R_tup (A_cons (R_var (i := 3) rfl (by first | exact Or.inl rfl | exact Or.inr (Or.inl rfl) | exact Or.inr (Or.inr rfl))) (A_cons (R_call (ok__law_pick M) (hr.mono (by omega)) rfl M.m__law_pick M.n__law_pick.kp M.b__law_pick (passes_call (takes_of rfl rfl rfl rfl) fun _ _ _ _ h => h) (A_cons (R_var (i := 0) rfl (by first | exact Or.inl rfl | exact Or.inr (Or.inl rfl) | exact Or.inr (Or.inr rfl))) (A_cons (R_lst (A_cons R_str (A_cons R_str (A_cons R_str (A_cons R_str A_nil))))) A_nil))) (A_cons (R_call (ok__law_taken M) (hr.mono (by omega)) rfl M.m__law_taken M.n__law_taken.kp M.b__law_taken (passes_call (takes_of rfl rfl rfl rfl) fun _ _ _ _ h => h) (A_cons (R_var (i := 0) rfl (by first | exact Or.inl rfl | exact Or.inr (Or.inl rfl) | exact Or.inr (Or.inr rfl))) (A_cons (R_call (ok__law_pick M) (hr.mono (by omega)) rfl M.m__law_pick M.n__law_pick.kp M.b__law_pick (passes_call (takes_of rfl rfl rfl rfl) fun _ _ _ _ h => h) (A_cons (R_var (i := 0) rfl (by first | exact Or.inl rfl | exact Or.inr (Or.inl rfl) | exact Or.inr (Or.inr rfl))) (A_cons (R_lst (A_cons R_int (A_cons R_int A_nil))) A_nil))) A_nil))) A_nil))) (Nat.le_of_ble_eq_true rfl)))) SS_nil)
  (SS_cons (S_if (pt_cmpM (o_eq hr.units) bool_eq (R_var (i := 3) rfl (by first | exact Or.inl rfl | exact Or.inr (Or.inl rfl) | exact Or.inr (Or.inr rfl))) R_str (nomark _)) (SS_one (S_ret (R_tup (A_cons (R_var (i := 3) rfl (by first | exact Or.inl rfl | exact Or.inr (Or.inl rfl) | exact Or.inr (Or.inr rfl))) (A_cons (R_call (ok__law_text M) (hr.mono (by omega)) rfl M.m__law_text M.n__law_text.kp M.b__law_text (passes_call (takes_of rfl rfl rfl rfl) fun _ _ _ _ h => h) (A_cons (R_var (i := 0) rfl (by first | exact Or.inl rfl | exact Or.inr (Or.inl rfl) | exact Or.inr (Or.inr rfl))) (A_cons R_int (A_cons R_int (A_cons R_str A_nil))))) (A_cons (R_call (ok__law_text M) (hr.mono (by omega)) rfl M.m__law_text M.n__law_text.kp M.b__law_text (passes_call (takes_of rfl rfl rfl rfl) fun _ _ _ _ h => h) (A_cons (R_var (i := 0) rfl (by first | exact Or.inl rfl | exact Or.inr (Or.inl rfl) | exact Or.inr (Or.inr rfl))) (A_cons R_int (A_cons R_int (A_cons R_str A_nil))))) A_nil))) (Nat.le_of_ble_eq_true rfl)))) SS_nil)
  (SS_one (S_ret (R_ifx (pt_cmpM (o_eq hr.units) bool_eq (R_var (i := 3) rfl (by first | exact Or.inl rfl | exact Or.inr (Or.inl rfl) | exact Or.inr (Or.inr rfl))) R_str (nomark _)) (R_tup (A_cons (R_var (i := 3) rfl (by first | exact Or.inl rfl | exact Or.inr (Or.inl rfl) | exact Or.inr (Or.inr rfl))) (A_cons (R_call (ok__law_text M) (hr.mono (by omega)) rfl M.m__law_text M.n__law_text.kp M.b__law_text (passes_call (takes_of rfl rfl rfl rfl) fun _ _ _ _ h => h) (A_cons (R_var (i := 0) rfl (by first | exact Or.inl rfl | exact Or.inr (Or.inl rfl) | exact Or.inr (Or.inr rfl))) (A_cons R_int (A_cons R_int (A_cons R_str A_nil))))) A_nil)) (Nat.le_of_ble_eq_true rfl)) (R_tup (A_cons (R_var (i := 3) rfl (by first | exact Or.inl rfl | exact Or.inr (Or.inl rfl) | exact Or.inr (Or.inr rfl))) A_nil) (Nat.le_of_ble_eq_true rfl))))))))))))
/-- _law_alike -/
theorem ok__law_alike (M : Mo P w K mg base gd) : ∀ n : Nat, FnOk P w K mg base (L2.CX P w) (9 + 3 * n) M.f__law_alike M.d__law_alike ["found", "due"] (spM K gd (m__law_alike n))
  | 0 => fn_no
  | n + 1 => by
    have ih := ok__law_alike M n
    exact def_ok (k := 9 + 3 * n + 2) M.n__law_alike sc__law_alike rfl rfl (by decide) fun A outer s H E hr =>
  (SS_cons (S_if (T_val (R_isi2 (t := .tuple) (t2 := .list) rfl rfl rfl rfl rfl M.z_isinstance (R_var (i := 1) rfl (by first | exact Or.inl rfl | exact Or.inr (Or.inl rfl) | exact Or.inr (Or.inr rfl))) rfl M.z_tuple bt_tuple rfl M.z_list bt_list (by decide) (by decide) (by decide) (by decide))) (SS_cons (S_if (PW.pt (R_tor (R_tnot (T_val (R_isi2 (t := .tuple) (t2 := .list) rfl rfl rfl rfl rfl M.z_isinstance (R_var (i := 0) rfl (by first | exact Or.inl rfl | exact Or.inr (Or.inl rfl) | exact Or.inr (Or.inr rfl))) rfl M.z_tuple bt_tuple rfl M.z_list bt_list (by decide) (by decide) (by decide) (by decide)))) (R_tor1 (pt_cmpM (o_ne hr.units) bool_ne (R_isi (t := .list) rfl rfl rfl M.z_isinstance (R_var (i := 0) rfl (by first | exact Or.inl rfl | exact Or.inr (Or.inl rfl) | exact Or.inr (Or.inr rfl))) rfl M.z_list bt_list (by decide) (by decide)) (R_isi (t := .list) rfl rfl rfl M.z_isinstance (R_var (i := 1) rfl (by first | exact Or.inl rfl | exact Or.inr (Or.inl rfl) | exact Or.inr (Or.inr rfl))) rfl M.z_list bt_list (by decide) (by decide)) (nomark _))))) (SS_one (S_ret R_bl)) SS_nil)
  (SS_cons (S_if (pt_cmpM (o_ne hr.units) bool_ne (R_callB o_len rfl M.z_len PySem.boot_len (R_var (i := 0) rfl (by first | exact Or.inl rfl | exact Or.inr (Or.inl rfl) | exact Or.inr (Or.inr rfl)))) (R_callB o_len rfl M.z_len PySem.boot_len (R_var (i := 1) rfl (by first | exact Or.inl rfl | exact Or.inr (Or.inl rfl) | exact Or.inr (Or.inr rfl)))) (nomark _)) (SS_one (S_ret R_bl)) SS_nil)
  (SS_one (S_ret (R_cmp (o_eq hr.units) (R_comp (own := [("k", 2)]) rfl sc__law_alike.nd (I_range1 rfl M.z_range (R_callB o_len rfl M.z_len PySem.boot_len (R_var (i := 1) rfl (by first | exact Or.inl rfl | exact Or.inr (Or.inl rfl) | exact Or.inr (Or.inr rfl))))) (blkOk_by (N := ["found", "due", "k", "key"]) (sc := defScope s__law_alike) (by decide +kernel)) (by decide) (fun _ _ _ _ _ => (G_var (i := 2) sc__law_alike.nd rfl (by first | exact Or.inl rfl | exact Or.inr rfl) (by first | exact Or.inl rfl | exact Or.inr rfl))) (fun _ _ _ _ _ => (pts_one (R_tnot (T_val (R_call ih (hr.mono (by omega)) rfl M.m__law_alike M.n__law_alike.kp M.b__law_alike passL (A_cons (R_idx (R_var (i := 0) rfl (by first | exact Or.inl rfl | exact Or.inr (Or.inl rfl) | exact Or.inr (Or.inr rfl))) (R_var (i := 2) rfl (by first | exact Or.inl rfl | exact Or.inr (Or.inl rfl) | exact Or.inr (Or.inr rfl))) (fun _ _ => rfl)) (A_cons (R_idx (R_var (i := 1) rfl (by first | exact Or.inl rfl | exact Or.inr (Or.inl rfl) | exact Or.inr (Or.inr rfl))) (R_var (i := 2) rfl (by first | exact Or.inl rfl | exact Or.inr (Or.inl rfl) | exact Or.inr (Or.inr rfl))) (fun _ _ => rfl)) A_nil))))))) (fun _ _ _ _ _ => (R_var (i := 2) rfl (by first | exact Or.inl rfl | exact Or.inr (Or.inl rfl) | exact Or.inr (Or.inr rfl))))) (R_lst A_nil) (nomark _)))))) SS_nil)
  (SS_cons (S_if (T_val (R_isi (t := .dict) rfl rfl rfl M.z_isinstance (R_var (i := 1) rfl (by first | exact Or.inl rfl | exact Or.inr (Or.inl rfl) | exact Or.inr (Or.inr rfl))) rfl M.z_dict bt_dict (by decide) (by decide))) SS_no SS_nil)
  (SS_cons (S_if (PW.pt (R_tor (T_isN (R_var (i := 1) rfl (by first | exact Or.inl rfl | exact Or.inr (Or.inl rfl) | exact Or.inr (Or.inr rfl)))) (R_tor1 (T_val (R_isi (t := .str) rfl rfl rfl M.z_isinstance (R_var (i := 1) rfl (by first | exact Or.inl rfl | exact Or.inr (Or.inl rfl) | exact Or.inr (Or.inr rfl))) rfl M.z_str bt_str (by decide) (by decide)))))) (SS_one (S_ret (R_and (R_cmp (o_eq hr.units) (R_var (i := 0) rfl (by first | exact Or.inl rfl | exact Or.inr (Or.inl rfl) | exact Or.inr (Or.inr rfl))) (R_var (i := 1) rfl (by first | exact Or.inl rfl | exact Or.inr (Or.inl rfl) | exact Or.inr (Or.inr rfl))) (nomark _)) (R_one (R_cmp (o_eq hr.units) (R_isi (t := .str) rfl rfl rfl M.z_isinstance (R_var (i := 0) rfl (by first | exact Or.inl rfl | exact Or.inr (Or.inl rfl) | exact Or.inr (Or.inr rfl))) rfl M.z_str bt_str (by decide) (by decide)) (R_isi (t := .str) rfl rfl rfl M.z_isinstance (R_var (i := 1) rfl (by first | exact Or.inl rfl | exact Or.inr (Or.inl rfl) | exact Or.inr (Or.inr rfl))) rfl M.z_str bt_str (by decide) (by decide)) (nomark _)))))) SS_nil)
  (SS_one (S_ret (R_and (R_isi (t := .int) rfl rfl rfl M.z_isinstance (R_var (i := 0) rfl (by first | exact Or.inl rfl | exact Or.inr (Or.inl rfl) | exact Or.inr (Or.inr rfl))) rfl M.z_int bt_int (by decide) (by decide)) (R_and (R_cmp (o_eq hr.units) (R_isi (t := .bool) rfl rfl rfl M.z_isinstance (R_var (i := 0) rfl (by first | exact Or.inl rfl | exact Or.inr (Or.inl rfl) | exact Or.inr (Or.inr rfl))) rfl M.z_bool bt_bool (by decide) (by decide)) (R_isi (t := .bool) rfl rfl rfl M.z_isinstance (R_var (i := 1) rfl (by first | exact Or.inl rfl | exact Or.inr (Or.inl rfl) | exact Or.inr (Or.inr rfl))) rfl M.z_bool bt_bool (by decide) (by decide)) (nomark _)) (R_one (R_cmp (o_eq hr.units) (R_var (i := 0) rfl (by first | exact Or.inl rfl | exact Or.inr (Or.inl rfl) | exact Or.inr (Or.inr rfl))) (R_var (i := 1) rfl (by first | exact Or.inl rfl | exact Or.inr (Or.inl rfl) | exact Or.inr (Or.inr rfl))) (nomark _))))))))))
/-- _law_meets -/
theorem ok__law_meets (M : Mo P w K mg base gd) : ∀ n : Nat, FnOk P w K mg base (L2.CX P w) (9 + 3 * n) M.f__law_meets M.d__law_meets ["clue", "word"] (spM K gd (m__law_meets n))
  | 0 => fn_no
  | n + 1 => by
    have ih := ok__law_meets M n
    exact def_ok (k := 9 + 3 * n + 2) M.n__law_meets sc__law_meets rfl rfl (by decide) fun A outer s H E hr =>
  (SS_cons (S_set (i := 2) sc__law_meets.nd rfl (by first | exact Or.inl rfl | exact Or.inr rfl) (R_idx (R_var (i := 0) rfl (by first | exact Or.inl rfl | exact Or.inr (Or.inl rfl) | exact Or.inr (Or.inr rfl))) R_int (fun _ _ => rfl)))
  (SS_cons (S_if (pt_cmpM (o_eq hr.units) bool_eq (R_var (i := 2) rfl (by first | exact Or.inl rfl | exact Or.inr (Or.inl rfl) | exact Or.inr (Or.inr rfl))) R_str (nomark _)) (SS_one (S_ret (R_and (R_cmp (o_eq hr.units) (R_callB o_len rfl M.z_len PySem.boot_len (R_idx (R_var (i := 0) rfl (by first | exact Or.inl rfl | exact Or.inr (Or.inl rfl) | exact Or.inr (Or.inr rfl))) R_int (fun _ _ => rfl))) (R_callB o_len rfl M.z_len PySem.boot_len (R_var (i := 1) rfl (by first | exact Or.inl rfl | exact Or.inr (Or.inl rfl) | exact Or.inr (Or.inr rfl)))) (nomark _)) (R_one (R_cmp (o_eq hr.units) (R_comp (own := [("k", 6)]) rfl sc__law_meets.nd (I_range1 rfl M.z_range (R_callB o_len rfl M.z_len PySem.boot_len (R_var (i := 1) rfl (by first | exact Or.inl rfl | exact Or.inr (Or.inl rfl) | exact Or.inr (Or.inr rfl))))) (blkOk_by (N := ["clue", "word", "kind", "rows", "places", "own", "k", "sign"]) (sc := defScope s__law_meets) (by decide +kernel)) (by decide) (fun _ _ _ _ _ => (G_var (i := 6) sc__law_meets.nd rfl (by first | exact Or.inl rfl | exact Or.inr rfl) (by first | exact Or.inl rfl | exact Or.inr rfl))) (fun _ _ _ _ _ => (pts_one (pt_cmpM o_notin bool_notin (R_idx (R_idx (R_var (i := 0) rfl (by first | exact Or.inl rfl | exact Or.inr (Or.inl rfl) | exact Or.inr (Or.inr rfl))) R_int (fun _ _ => rfl)) (R_var (i := 6) rfl (by first | exact Or.inl rfl | exact Or.inr (Or.inl rfl) | exact Or.inr (Or.inr rfl))) (fun _ _ => rfl)) (R_tup (A_cons R_str (A_cons (R_idx (R_var (i := 1) rfl (by first | exact Or.inl rfl | exact Or.inr (Or.inl rfl) | exact Or.inr (Or.inr rfl))) (R_var (i := 6) rfl (by first | exact Or.inl rfl | exact Or.inr (Or.inl rfl) | exact Or.inr (Or.inr rfl))) (fun _ _ => rfl)) A_nil)) (Nat.le_of_ble_eq_true rfl)) (by with_unfolding_all rfl)))) (fun _ _ _ _ _ => (R_var (i := 6) rfl (by first | exact Or.inl rfl | exact Or.inr (Or.inl rfl) | exact Or.inr (Or.inr rfl))))) (R_lst A_nil) (nomark _)))))) SS_nil)
  (SS_cons (S_if (pt_cmpM o_in bool_in (R_var (i := 2) rfl (by first | exact Or.inl rfl | exact Or.inr (Or.inl rfl) | exact Or.inr (Or.inr rfl))) (R_tup (A_cons R_str (A_cons R_str (A_cons R_str A_nil))) (Nat.le_of_ble_eq_true rfl)) (by with_unfolding_all rfl)) (SS_cons (S_setLc (i := 4) (own := [("k", 6)]) rfl sc__law_meets.nd rfl rfl (sw_true rfl rfl rfl (by decide +kernel)) (I_range1 rfl M.z_range (R_bin o_add (R_bin o_sub (R_callB o_len rfl M.z_len PySem.boot_len (R_var (i := 1) rfl (by first | exact Or.inl rfl | exact Or.inr (Or.inl rfl) | exact Or.inr (Or.inr rfl)))) (R_callB o_len rfl M.z_len PySem.boot_len (R_idx (R_var (i := 0) rfl (by first | exact Or.inl rfl | exact Or.inr (Or.inl rfl) | exact Or.inr (Or.inr rfl))) R_int (fun _ _ => rfl)))) R_int)) (blkOk_by (N := ["clue", "word", "kind", "rows", "places", "own", "k", "sign"]) (sc := defScope s__law_meets) (by decide +kernel)) (by decide) (fun _ _ _ _ _ => (G_var (i := 6) sc__law_meets.nd rfl (by first | exact Or.inl rfl | exact Or.inr rfl) (by first | exact Or.inl rfl | exact Or.inr rfl))) (fun _ _ _ _ _ => (pts_one (pt_cmpM (o_eq hr.units) bool_eq (R_slice (R_var (i := 1) rfl (by first | exact Or.inl rfl | exact Or.inr (Or.inl rfl) | exact Or.inr (Or.inr rfl))) (.inr ⟨_, _, rfl, rfl, (R_var (i := 6) rfl (by first | exact Or.inl rfl | exact Or.inr (Or.inl rfl) | exact Or.inr (Or.inr rfl)))⟩) (.inr ⟨_, _, rfl, rfl, (R_bin o_add (R_var (i := 6) rfl (by first | exact Or.inl rfl | exact Or.inr (Or.inl rfl) | exact Or.inr (Or.inr rfl))) (R_callB o_len rfl M.z_len PySem.boot_len (R_idx (R_var (i := 0) rfl (by first | exact Or.inl rfl | exact Or.inr (Or.inl rfl) | exact Or.inr (Or.inr rfl))) R_int (fun _ _ => rfl))))⟩)) (R_idx (R_var (i := 0) rfl (by first | exact Or.inl rfl | exact Or.inr (Or.inl rfl) | exact Or.inr (Or.inr rfl))) R_int (fun _ _ => rfl)) (nomark _)))) (fun _ _ _ _ _ => (R_var (i := 6) rfl (by first | exact Or.inl rfl | exact Or.inr (Or.inl rfl) | exact Or.inr (Or.inr rfl)))))
  (SS_one (S_ret (R_ifx (pt_cmpM (o_ne hr.units) bool_ne (R_var (i := 2) rfl (by first | exact Or.inl rfl | exact Or.inr (Or.inl rfl) | exact Or.inr (Or.inr rfl))) R_str (nomark _)) (R_cmp o_in (R_ifx (pt_cmpM (o_eq hr.units) bool_eq (R_var (i := 2) rfl (by first | exact Or.inl rfl | exact Or.inr (Or.inl rfl) | exact Or.inr (Or.inr rfl))) R_str (nomark _)) R_int (R_bin o_sub (R_callB o_len rfl M.z_len PySem.boot_len (R_var (i := 1) rfl (by first | exact Or.inl rfl | exact Or.inr (Or.inl rfl) | exact Or.inr (Or.inr rfl)))) (R_callB o_len rfl M.z_len PySem.boot_len (R_idx (R_var (i := 0) rfl (by first | exact Or.inl rfl | exact Or.inr (Or.inl rfl) | exact Or.inr (Or.inr rfl))) R_int (fun _ _ => rfl))))) (R_var (i := 4) rfl (by first | exact Or.inl rfl | exact Or.inr (Or.inl rfl) | exact Or.inr (Or.inr rfl))) (by with_unfolding_all rfl)) (R_cmp (o_ne hr.units) (R_var (i := 4) rfl (by first | exact Or.inl rfl | exact Or.inr (Or.inl rfl) | exact Or.inr (Or.inr rfl))) (R_lst A_nil) (nomark _)))))) SS_nil)
  (SS_cons (S_if (pt_cmpM (o_eq hr.units) bool_eq (R_var (i := 2) rfl (by first | exact Or.inl rfl | exact Or.inr (Or.inl rfl) | exact Or.inr (Or.inr rfl))) R_str (nomark _)) (SS_one (S_ret (R_cmp (o_eq hr.units) (R_callB o_len rfl M.z_len PySem.boot_len (R_comp (own := [("sign", 7)]) rfl sc__law_meets.nd (I_src (R_var (i := 1) rfl (by first | exact Or.inl rfl | exact Or.inr (Or.inl rfl) | exact Or.inr (Or.inr rfl)))) (blkOk_by (N := ["clue", "word", "kind", "rows", "places", "own", "k", "sign"]) (sc := defScope s__law_meets) (by decide +kernel)) (by decide) (fun _ _ _ _ _ => (G_var (i := 7) sc__law_meets.nd rfl (by first | exact Or.inl rfl | exact Or.inr rfl) (by first | exact Or.inl rfl | exact Or.inr rfl))) (fun _ _ _ _ _ => (pts_one (pt_cmpM (o_eq hr.units) bool_eq (R_var (i := 7) rfl (by first | exact Or.inl rfl | exact Or.inr (Or.inl rfl) | exact Or.inr (Or.inr rfl))) (R_idx (R_var (i := 0) rfl (by first | exact Or.inl rfl | exact Or.inr (Or.inl rfl) | exact Or.inr (Or.inr rfl))) R_int (fun _ _ => rfl)) (nomark _)))) (fun _ _ _ _ _ => (R_var (i := 7) rfl (by first | exact Or.inl rfl | exact Or.inr (Or.inl rfl) | exact Or.inr (Or.inr rfl)))))) (R_idx (R_var (i := 0) rfl (by first | exact Or.inl rfl | exact Or.inr (Or.inl rfl) | exact Or.inr (Or.inr rfl))) R_int (fun _ _ => rfl)) (nomark _)))) SS_nil)
  (SS_cons (S_if (pt_cmpM (o_eq hr.units) bool_eq (R_var (i := 2) rfl (by first | exact Or.inl rfl | exact Or.inr (Or.inl rfl) | exact Or.inr (Or.inr rfl))) R_str (nomark _)) (SS_one (S_ret (R_and (R_not (R_cmp o_lt (R_var (i := 1) rfl (by first | exact Or.inl rfl | exact Or.inr (Or.inl rfl) | exact Or.inr (Or.inr rfl))) (R_idx (R_var (i := 0) rfl (by first | exact Or.inl rfl | exact Or.inr (Or.inl rfl) | exact Or.inr (Or.inr rfl))) R_int (fun _ _ => rfl)) (nomark _))) (R_one (R_not (R_cmp o_gt (R_var (i := 1) rfl (by first | exact Or.inl rfl | exact Or.inr (Or.inl rfl) | exact Or.inr (Or.inr rfl))) (R_idx (R_var (i := 0) rfl (by first | exact Or.inl rfl | exact Or.inr (Or.inl rfl) | exact Or.inr (Or.inr rfl))) R_int (fun _ _ => rfl)) (nomark _))))))) SS_nil)
  (SS_cons (S_if (pt_cmpM o_in bool_in (R_var (i := 2) rfl (by first | exact Or.inl rfl | exact Or.inr (Or.inl rfl) | exact Or.inr (Or.inr rfl))) (R_tup (A_cons R_str (A_cons R_str A_nil)) (Nat.le_of_ble_eq_true rfl)) (by with_unfolding_all rfl)) (SS_one (S_ret (R_cmp (o_eq hr.units) (R_join R_str (R_comp (own := [("k", 6)]) rfl sc__law_meets.nd (I_range1 rfl M.z_range (R_callB o_len rfl M.z_len PySem.boot_len (R_var (i := 1) rfl (by first | exact Or.inl rfl | exact Or.inr (Or.inl rfl) | exact Or.inr (Or.inr rfl))))) (blkOk_by (N := ["clue", "word", "kind", "rows", "places", "own", "k", "sign"]) (sc := defScope s__law_meets) (by decide +kernel)) (by decide) (fun _ _ _ _ _ => (G_var (i := 6) sc__law_meets.nd rfl (by first | exact Or.inl rfl | exact Or.inr rfl) (by first | exact Or.inl rfl | exact Or.inr rfl))) (fun _ _ _ _ _ => T_nil) (fun _ _ _ _ _ => (R_idx (R_var (i := 1) rfl (by first | exact Or.inl rfl | exact Or.inr (Or.inl rfl) | exact Or.inr (Or.inr rfl))) (R_bin o_sub (R_bin o_sub (R_callB o_len rfl M.z_len PySem.boot_len (R_var (i := 1) rfl (by first | exact Or.inl rfl | exact Or.inr (Or.inl rfl) | exact Or.inr (Or.inr rfl)))) R_int) (R_var (i := 6) rfl (by first | exact Or.inl rfl | exact Or.inr (Or.inl rfl) | exact Or.inr (Or.inr rfl)))) (fun _ _ => rfl))))) (R_ifx (pt_cmpM (o_eq hr.units) bool_eq (R_var (i := 2) rfl (by first | exact Or.inl rfl | exact Or.inr (Or.inl rfl) | exact Or.inr (Or.inr rfl))) R_str (nomark _)) (R_idx (R_var (i := 0) rfl (by first | exact Or.inl rfl | exact Or.inr (Or.inl rfl) | exact Or.inr (Or.inr rfl))) R_int (fun _ _ => rfl)) (R_var (i := 1) rfl (by first | exact Or.inl rfl | exact Or.inr (Or.inl rfl) | exact Or.inr (Or.inr rfl)))) (nomark _)))) SS_nil)
  (SS_cons (S_setLc (i := 3) (own := [("own", 5)]) rfl sc__law_meets.nd rfl rfl (sw_true rfl rfl rfl (by decide +kernel)) (I_src (R_slice (R_var (i := 0) rfl (by first | exact Or.inl rfl | exact Or.inr (Or.inl rfl) | exact Or.inr (Or.inr rfl))) (.inr ⟨_, _, rfl, rfl, R_int⟩) (.inl ⟨rfl, rfl⟩))) (blkOk_by (N := ["clue", "word", "kind", "rows", "places", "own", "k", "sign"]) (sc := defScope s__law_meets) (by decide +kernel)) (by decide) (fun _ _ _ _ _ => (G_var (i := 5) sc__law_meets.nd rfl (by first | exact Or.inl rfl | exact Or.inr rfl) (by first | exact Or.inl rfl | exact Or.inr rfl))) (fun _ _ _ _ _ => T_nil) (fun _ _ _ _ _ => (R_call ih (hr.mono (by omega)) rfl M.m__law_meets M.n__law_meets.kp M.b__law_meets passL (A_cons (R_var (i := 5) rfl (by first | exact Or.inl rfl | exact Or.inr (Or.inl rfl) | exact Or.inr (Or.inr rfl))) (A_cons (R_var (i := 1) rfl (by first | exact Or.inl rfl | exact Or.inr (Or.inl rfl) | exact Or.inr (Or.inr rfl))) A_nil)))))
  (SS_cons (S_if (pt_cmpM (o_eq hr.units) bool_eq (R_var (i := 2) rfl (by first | exact Or.inl rfl | exact Or.inr (Or.inl rfl) | exact Or.inr (Or.inr rfl))) R_str (nomark _)) (SS_one (S_ret (R_not (R_idx (R_var (i := 3) rfl (by first | exact Or.inl rfl | exact Or.inr (Or.inl rfl) | exact Or.inr (Or.inr rfl))) R_int (fun _ _ => rfl))))) SS_nil)
  (SS_one (S_ret (R_ifx (pt_cmpM (o_eq hr.units) bool_eq (R_var (i := 2) rfl (by first | exact Or.inl rfl | exact Or.inr (Or.inl rfl) | exact Or.inr (Or.inr rfl))) R_str (nomark _)) (R_cmp o_notin R_bl (R_var (i := 3) rfl (by first | exact Or.inl rfl | exact Or.inr (Or.inl rfl) | exact Or.inr (Or.inr rfl))) (by with_unfolding_all rfl)) (R_cmp o_in R_bl (R_var (i := 3) rfl (by first | exact Or.inl rfl | exact Or.inr (Or.inl rfl) | exact Or.inr (Or.inr rfl))) (by with_unfolding_all rfl)))))))))))))
/-- _law_refused -/
theorem ok__law_refused (M : Mo P w K mg base gd) : FnOk P w K mg base (L2.CX P w) 81 M.f__law_refused M.d__law_refused ["row", "words", "book"] (spM K gd m__law_refused) :=
  def_ok (k := 80) M.n__law_refused sc__law_refused rfl rfl (by decide) fun A outer s H E hr =>
  (SS_cons (S_set (i := 3) sc__law_refused.nd rfl (by first | exact Or.inl rfl | exact Or.inr rfl) (R_call (ok__law_pick M) (hr.mono (by omega)) rfl M.m__law_pick M.n__law_pick.kp M.b__law_pick (passes_call (takes_of rfl rfl rfl rfl) fun _ _ _ _ h => h) (A_cons (R_var (i := 0) rfl (by first | exact Or.inl rfl | exact Or.inr (Or.inl rfl) | exact Or.inr (Or.inr rfl))) (A_cons (R_lst (A_cons R_non (A_cons (R_tup A_nil) (A_cons R_str (A_cons (R_tup (A_cons R_str A_nil)) (A_cons (R_tup (A_cons R_str (A_cons R_str A_nil))) (A_cons (R_tup (A_cons R_str (A_cons R_str A_nil))) A_nil))))))) A_nil))))
  (SS_one (S_ret (R_call (ok__law_alike M 8) (hr.mono (by omega)) rfl M.m__law_alike M.n__law_alike.kp M.b__law_alike (passes_call (takes_of rfl rfl rfl rfl) fun _ _ _ _ h => h) (A_cons (R_lst (A_cons (R_heard (k := 78) M.n__law_heard rfl M.m__law_heard M.b__law_heard sc__law_heard (heard_law M rfl rfl) M.cl_BadArgument M.x__law_refused rfl M.l__law_refused M.u__law_refused hr (LamX.lamS_by (sc := defScope s__law_refused) (by decide +kernel)) rfl (fun _ _ _ _ _ => rfl) (fun _ _ _ _ _ _ _ hrL => (R_call (ok_words_by M) (hrL.mono (by omega)) rfl M.m_words_by M.n_words_by.kp M.b_words_by (passes_call (takes_of rfl rfl rfl rfl) fun _ _ _ _ h => h) (A_cons (R_var (i := 2) rfl (by first | exact Or.inl rfl | exact Or.inr (Or.inl rfl) | exact Or.inr (Or.inr rfl))) (A_cons (R_var (i := 3) rfl (by first | exact Or.inl rfl | exact Or.inr (Or.inl rfl) | exact Or.inr (Or.inr rfl))) A_nil))))) (A_cons (R_heard (k := 78) M.n__law_heard rfl M.m__law_heard M.b__law_heard sc__law_heard (heard_law M rfl rfl) M.cl_BadArgument M.x__law_refused rfl M.l__law_refused M.u__law_refused hr (LamX.lamS_by (sc := defScope s__law_refused) (by decide +kernel)) rfl (fun _ _ _ _ _ => rfl) (fun _ _ _ _ _ _ _ hrL => (R_call (ok_words_by M) (hrL.mono (by omega)) rfl M.m_words_by M.n_words_by.kp M.b_words_by (passes_call (takes_of rfl rfl rfl rfl) fun _ _ _ _ h => h) (A_cons (R_var (i := 1) rfl (by first | exact Or.inl rfl | exact Or.inr (Or.inl rfl) | exact Or.inr (Or.inr rfl))) (A_cons (R_var (i := 3) rfl (by first | exact Or.inl rfl | exact Or.inr (Or.inl rfl) | exact Or.inr (Or.inr rfl))) A_nil))))) A_nil))) (A_cons (R_lst (A_cons (R_tup (A_cons R_str (A_cons R_str (A_cons R_bl A_nil)))) (A_cons (R_tup (A_cons R_str (A_cons R_str (A_cons R_bl A_nil)))) A_nil))) A_nil))))))
/-- law -/
theorem ok_law (M : Mo P w K mg base gd) : FnOk P w K mg base (L2.CX P w) 87 M.f_law M.d_law ["script"] (spM K gd m_law) :=
  def_ok (k := 86) M.n_law sc_law rfl rfl (by decide) fun A outer s H E hr =>
  (SS_cons (S_set (i := 1) sc_law.nd rfl (by first | exact Or.inl rfl | exact Or.inr rfl) (R_newref (A_cons (R_var (i := 0) rfl (by first | exact Or.inl rfl | exact Or.inr (Or.inl rfl) | exact Or.inr (Or.inr rfl))) (A_cons R_int (A_cons R_int (A_cons R_int A_nil))))))
  (SS_cons (S_set (i := 2) sc_law.nd rfl (by first | exact Or.inl rfl | exact Or.inr rfl) (R_call (ok__law_words M) (hr.mono (by omega)) rfl M.m__law_words M.n__law_words.kp M.b__law_words (passes_call (takes_of rfl rfl rfl rfl) fun _ _ _ _ h => h) (A_cons (R_var (i := 1) rfl (by first | exact Or.inl rfl | exact Or.inr (Or.inl rfl) | exact Or.inr (Or.inr rfl))) (A_cons R_int A_nil))))
  (SS_cons (S_set (i := 3) sc_law.nd rfl (by first | exact Or.inl rfl | exact Or.inr rfl) (R_make M.mk_Book M.gc_Book (ok_Book_d_initd_ M) (hr.mono (by omega)) rfl M.m_Book M.b_Book_d_initd_ (passes_call (takes_of rfl rfl rfl rfl) fun _ _ _ _ h => h) (A_cons (R_var (i := 2) rfl (by first | exact Or.inl rfl | exact Or.inr (Or.inl rfl) | exact Or.inr (Or.inr rfl))) A_nil)))
  (SS_cons (S_for (passes_of rfl) rfl GOk_var (I_range1 rfl M.z_range R_int) (G_var (i := 4) sc_law.nd rfl (by first | exact Or.inl rfl | exact Or.inr rfl) (by first | exact Or.inl rfl | exact Or.inr rfl)) (SS_cons (S_set (i := 5) sc_law.nd rfl (by first | exact Or.inl rfl | exact Or.inr rfl) (R_call (ok__law_clue M 8) (hr.mono (by omega)) rfl M.m__law_clue M.n__law_clue.kp M.b__law_clue (passes_call (takes_of rfl rfl rfl rfl) fun _ _ _ _ h => h) (A_cons (R_var (i := 1) rfl (by first | exact Or.inl rfl | exact Or.inr (Or.inl rfl) | exact Or.inr (Or.inr rfl))) (A_cons R_int A_nil))))
  (SS_cons (S_set (i := 6) sc_law.nd rfl (by first | exact Or.inl rfl | exact Or.inr rfl) (R_call (ok_words_by M) (hr.mono (by omega)) rfl M.m_words_by M.n_words_by.kp M.b_words_by (passes_call (takes_of rfl rfl rfl rfl) fun _ _ _ _ h => h) (A_cons (R_var (i := 3) rfl (by first | exact Or.inl rfl | exact Or.inr (Or.inl rfl) | exact Or.inr (Or.inr rfl))) (A_cons (R_var (i := 5) rfl (by first | exact Or.inl rfl | exact Or.inr (Or.inl rfl) | exact Or.inr (Or.inr rfl))) A_nil))))
  (SS_cons (S_if (PW.pt (R_tor (R_tnot (T_val (R_call (ok__law_alike M 8) (hr.mono (by omega)) rfl M.m__law_alike M.n__law_alike.kp M.b__law_alike (passes_call (takes_of rfl rfl rfl rfl) fun _ _ _ _ h => h) (A_cons (R_var (i := 6) rfl (by first | exact Or.inl rfl | exact Or.inr (Or.inl rfl) | exact Or.inr (Or.inr rfl))) (A_cons (R_callTy o_tuple rfl M.z_tuple bt_tuple (R_comp (own := [("word", 7)]) rfl sc_law.nd (I_src (R_var (i := 2) rfl (by first | exact Or.inl rfl | exact Or.inr (Or.inl rfl) | exact Or.inr (Or.inr rfl)))) (blkOk_by (N := ["script", "row", "words", "book", "turn", "clue", "found", "word"]) (sc := defScope s_law) (by decide +kernel)) (by decide) (fun _ _ _ _ _ => (G_var (i := 7) sc_law.nd rfl (by first | exact Or.inl rfl | exact Or.inr rfl) (by first | exact Or.inl rfl | exact Or.inr rfl))) (fun _ _ _ _ _ => (pts_one (T_val (R_call (ok__law_meets M 8) (hr.mono (by omega)) rfl M.m__law_meets M.n__law_meets.kp M.b__law_meets passL (A_cons (R_var (i := 5) rfl (by first | exact Or.inl rfl | exact Or.inr (Or.inl rfl) | exact Or.inr (Or.inr rfl))) (A_cons (R_var (i := 7) rfl (by first | exact Or.inl rfl | exact Or.inr (Or.inl rfl) | exact Or.inr (Or.inr rfl))) A_nil)))))) (fun _ _ _ _ _ => (R_var (i := 7) rfl (by first | exact Or.inl rfl | exact Or.inr (Or.inl rfl) | exact Or.inr (Or.inr rfl)))))) A_nil))))) (R_tor1 (pt_cmpM (o_ne hr.units) bool_ne (R_comp (own := [("word", 7)]) rfl sc_law.nd (I_src (R_var (i := 2) rfl (by first | exact Or.inl rfl | exact Or.inr (Or.inl rfl) | exact Or.inr (Or.inr rfl)))) (blkOk_by (N := ["script", "row", "words", "book", "turn", "clue", "found", "word"]) (sc := defScope s_law) (by decide +kernel)) (by decide) (fun _ _ _ _ _ => (G_var (i := 7) sc_law.nd rfl (by first | exact Or.inl rfl | exact Or.inr rfl) (by first | exact Or.inl rfl | exact Or.inr rfl))) (fun _ _ _ _ _ => (pts_one (pt_cmpM (o_ne hr.units) bool_ne (R_call (ok_meets M) (hr.mono (by omega)) rfl M.m_meets M.n_meets.kp M.b_meets passL (A_cons (R_var (i := 5) rfl (by first | exact Or.inl rfl | exact Or.inr (Or.inl rfl) | exact Or.inr (Or.inr rfl))) (A_cons (R_var (i := 7) rfl (by first | exact Or.inl rfl | exact Or.inr (Or.inl rfl) | exact Or.inr (Or.inr rfl))) A_nil))) (R_cmp o_in (R_var (i := 7) rfl (by first | exact Or.inl rfl | exact Or.inr (Or.inl rfl) | exact Or.inr (Or.inr rfl))) (R_var (i := 6) rfl (by first | exact Or.inl rfl | exact Or.inr (Or.inl rfl) | exact Or.inr (Or.inr rfl))) (by with_unfolding_all rfl)) (nomark _)))) (fun _ _ _ _ _ => (R_var (i := 7) rfl (by first | exact Or.inl rfl | exact Or.inr (Or.inl rfl) | exact Or.inr (Or.inr rfl))))) (R_lst A_nil) (nomark _))))) (SS_one (S_ret R_bl)) SS_nil)
  (SS_one (S_if (R_tnot (T_val (R_call (ok__law_alike M 8) (hr.mono (by omega)) rfl M.m__law_alike M.n__law_alike.kp M.b__law_alike (passes_call (takes_of rfl rfl rfl rfl) fun _ _ _ _ h => h) (A_cons (R_call (ok_words_by M) (hr.mono (by omega)) rfl M.m_words_by M.n_words_by.kp M.b_words_by (passes_call (takes_of rfl rfl rfl rfl) fun _ _ _ _ h => h) (A_cons (R_var (i := 3) rfl (by first | exact Or.inl rfl | exact Or.inr (Or.inl rfl) | exact Or.inr (Or.inr rfl))) (A_cons (R_tup (A_cons R_str (A_cons (R_tup (A_cons R_str A_nil)) (A_cons (R_tup (A_cons R_str (A_cons (R_tup (A_cons R_str A_nil)) A_nil))) A_nil)))) A_nil))) (A_cons (R_tup A_nil) A_nil))))) (SS_one (S_ret R_bl)) SS_nil))))))
  (SS_one (S_ret (R_call (ok__law_refused M) (hr.mono (by omega)) rfl M.m__law_refused M.n__law_refused.kp M.b__law_refused (passes_call (takes_of rfl rfl rfl rfl) fun _ _ _ _ h => h) (A_cons (R_var (i := 1) rfl (by first | exact Or.inl rfl | exact Or.inr (Or.inl rfl) | exact Or.inr (Or.inr rfl))) (A_cons (R_var (i := 2) rfl (by first | exact Or.inl rfl | exact Or.inr (Or.inl rfl) | exact Or.inr (Or.inr rfl))) (A_cons (R_var (i := 3) rfl (by first | exact Or.inl rfl | exact Or.inr (Or.inl rfl) | exact Or.inr (Or.inr rfl))) A_nil))))))))))
end
end Cf
set_option Elab.async false
set_option linter.all false
set_option maxRecDepth 100000
set_option maxHeartbeats 2000000
/-! CfZ: the head: tables of code objects, the law's start. -/
namespace Cf
open PySem PySem.Spec PyProof.Rows L2

/-- the defs of the top, each with its table empty -/
def TabsIn (mg : Str → Option Value) (h : Heap) (names : List Str) : Prop :=
  ∀ nm ∈ names, ∃ (f : Addr) (o : Obj) (fd : FuncData) (c P : Addr), mg nm = some (.ref f) ∧ h.get? f = some o ∧ o.data = .func fd ∧ fd.code = .ref c ∧ h.TableAt c P #[]
theorem tab_emp {K : PySem.W.Frag} {h : Heap} {mg : Str → Option Value} {names : List Str} {nm : Str} {f c P : Addr} {oc : Value} {od : Option Addr} {osl : Array (Option Value)} {fd : FuncData}
    (X : K.In h) (T : TabsIn mg h names) (hn : nm ∈ names) (m : mg nm = some (.ref f)) (l : K.lookup f = some ⟨oc, od, .func fd, osl⟩) (hc : fd.code = .ref c) (e : PySem.W.codeHdIn K c P = true) : h.get? P = some { cls := .none, data := .fields #[] } := by
  obtain ⟨f', o, fd', c', P', g1, g2, g3, g4, g5⟩ := T nm hn
  cases m.symm.trans g1
  cases (X _ _ l).symm.trans g2
  cases g3
  cases hc.symm.trans g4
  obtain ⟨⟨o2, vs2, t1, _, t3, t4⟩, t5⟩ := g5
  obtain ⟨o1, us, _, _, _, _, _, _, _, e1, _, e2, e3, _⟩ := PySem.W.codeHd_of_K X e
  cases e1.symm.trans t1
  cases e2.symm.trans t3
  cases e3.symm.trans t4
  exact t5
theorem walk_all {l : PySem.W.OpenLaw} {n k : Nat} {q : Program} {loose : List Str} {XP : (Str → Option Value) → Heap → Prop} {YP : World → Heap → Prop} {d : DefRec} {K : Params → PySem.W.Frag} {CX : World → CXT} {x : Str} (names : List Str)
    (h1 : l.most = some n) (h2 : n ≤ sizeLine) (h3 : d.params.defaults = []) (h4 : Room k callerA) (hrec : (names.all fun nm => (recsOf q).any fun e => e.name == nm) = true)
    (hY : ∀ (w : World) (h : Heap), YP w h → (K w.params).In h)
    (F : ∀ (w : World) (mg : Str → Option Value) (fa : Addr) (h : Heap), (K w.params).In h → h.Ns mainGlobals mg → TabsIn mg h names → mg d.name = some (.ref fa) → LamX.LawAtS l w (K w.params) (CX w) k n x mg fa h)
    (hCX : ∀ (w : World) (H : Hp) (s : Shared) (e : Value) (s' : Shared), CX w [] H s (fun _ _ _ => False) e s' → False) : PySem.W.WalkO q loose XP YP l.row.toRowW d [] (fun f vs => PySem.call f vs) := by
  refine Att.attach_callB h1 h3 fun w _ s₁ mg _ fa _ _ _ _ a vs ns G Y _ _ _ hm ho hi hl hb hg => ?_
  have X := hY w _ Y
  have T : TabsIn mg s₁.heap names := fun nm hn => by
    obtain ⟨e, he, en⟩ := List.any_eq_true.mp (List.all_eq_true.mp hrec nm hn)
    obtain ⟨f, o, fd, c, P, g1, g2, g3, g4, _, g6⟩ := G.T.tab e he
    rw [beq_iff_eq.mp en] at g1
    exact ⟨f, o, fd, c, P, g1, g2, g3, g4, g6⟩
  obtain ⟨fd, cs, sp, t1, t2, t3, t4, t5, t6⟩ := F w mg fa _ X G.T.g T hm
  refine LamX.law_callTs X G.T.g G.T.b G.T.builtins G.T.nolimit hg t1 t2 t3 G.T.bmain ho hi ?_ h4 t6 t4 (fun H z1 z2 => t5 H a ns hl hb z1 z2) fun H e s' => hCX w H s₁ e s'
  exact Nat.le_trans hl h2

theorem reps_ints {w : Wd} : ∀ ns : List Int, Reps w (ns.map D.int) (ns.map V.int)
  | [] => .nil
  | n :: r => .cons (by rw [Rep]) (reps_ints r)
/-- the law's start, from its mirror -/
theorem law_start {K : PySem.W.Frag} {gd : Gd} {H : Hp} {a : Addr} {ns : List Int} {m : List D → M D} {h : List O} (hT : ∀ p ∈ gd.T, H p.1 = some (.tbl #[])) (hS : SqL K H a (ns.map V.int)) (e : m [.lst (ns.map D.int)] [] = .ok (.bl true) h) :
    spM K gd m [.ref a] H (fun v _ => v = .bl true) fun _ _ _ => False := by
  refine ⟨⟨K, gd, [], H, fun _ => False⟩, [], [.lst (ns.map D.int)], rfl, rfl, rfl, ⟨rfl, List.nodup_nil, fun i o b z => ?_, fun b z => z.elim, fun p hp => LamX.TabS.nil (hT p hp)⟩, ?_, ?_⟩
  · simp at z
  · refine .cons ?_ .nil
    rw [Rep]
    refine ⟨a, _, rfl, ?_, reps_ints ns⟩
    rcases hS with z | z
    · exact .inl ⟨z, fun u => u, fun u => (nomatch u)⟩
    · exact .inr (.inr z)
  · rw [e]
    intro w' _ _ v rv
    rw [Rep] at rv
    exact rv
/-- names of tables, each table once -/
theorem tab_one {T : List (Addr × Str)} (nd : (T.map (·.1)).Nodup) {q : Addr} {x : Str} (hm : (q, x) ∈ T) : ∀ p ∈ T, p.1 = q → p.2 = x := by
  intro p hp e
  induction T with
  | nil => cases hp
  | cons t r ih =>
    obtain ⟨n1, n2⟩ := List.nodup_cons.mp nd
    rcases List.mem_cons.mp hp with z | z <;> rcases List.mem_cons.mp hm with y | y
    · rw [z, ← y]
    · exact absurd (List.mem_map.mpr ⟨_, y, (by rw [← e, z])⟩) n1
    · exact absurd (List.mem_map.mpr ⟨_, z, (by rw [e, ← y])⟩) n1
    · exact ih n2 y z
end Cf
set_option Elab.async false
set_option linter.all false
set_option maxRecDepth 100000
set_option maxHeartbeats 2000000
/-! CfK: the head's facts read off the heap by one Hook: defs (of classes too), tables, whatever else a Bool tells. -/
namespace Cf
open PySem PySem.Spec PyProof.Rows L2

/-- a def: how its function object is found, its names, its text; own: it closes over its class -/
structure FnA where
  adr : PySem.W.Frag → Addr
  name : Str
  qual : Str
  st : Stmt
  own : Bool := false
abbrev FnT : Type := Option (Str × Str × Arguments × FuncBody × Scope × Addr × Addr)
def fnT (K : PySem.W.Frag) (f : Addr) : FnT := match K.lookup f with
  | some ⟨_, _, .func fd, _⟩ => some (fd.name, fd.qualname, fd.params, fd.body, fd.scope, fd.globals, fd.builtins)
  | _ => none
def FnA.val (d : FnA) : FnT := some (d.name, d.qual, defArgs d.st, .stmts (defBody d.st), defScope d.st, mainGlobals, builtinsNs)
/-- its code object, that one's table, the cell of its class -/
def cdOf (K : PySem.W.Frag) (f : Addr) : Addr := match K.lookup f with
  | some ⟨_, _, .func fd, _⟩ => (match fd.code with
    | .ref c => c
    | _ => 0)
  | _ => 0
def tbOf (K : PySem.W.Frag) (f : Addr) : Addr := He.tabOf K (cdOf K f)
def ccOf (K : PySem.W.Frag) (f : Addr) : Addr := match K.lookup f with
  | some ⟨_, _, .func fd, _⟩ => (match fd.closure with
    | [(_, c)] => c
    | _ => 0)
  | _ => 0
def cloOf (own : Bool) (K : PySem.W.Frag) (f : Addr) : List (Str × Addr) := if own then [("__class__", ccOf K f)] else []
def FnA.ok (K : PySem.W.Frag) (d : FnA) : Bool := PySem.W.keepIn K (.ref (d.adr K)) && (match K.lookup (d.adr K) with
  | some ⟨_, _, .func fd, _⟩ => PySem.W.codeIn K fd.code d.qual && (decide (fd.closure = cloOf d.own K (d.adr K)) && decide (fd.defaults = .none))
  | _ => false)
theorem FnA.get {K : PySem.W.Frag} {d : FnA} (e : fnT K (d.adr K) = d.val) (c : d.ok K = true) :
    ∃ (fd : FuncData) (oc : Value) (od : Option Addr) (osl : Array (Option Value)) (kV doc pm : Value) (an : Option Addr) (ct : Value),
      fd = PySem.W.fnX d.name d.qual (defArgs d.st) (defBody d.st) (defScope d.st) (cloOf d.own K (d.adr K)) .none kV doc pm an (.ref (cdOf K (d.adr K))) ct ∧ K.lookup (d.adr K) = some ⟨oc, od, .func fd, osl⟩ ∧ PySem.W.codeIn K (.ref (cdOf K (d.adr K))) d.qual = true ∧ PySem.W.keepIn K (.ref (d.adr K)) = true := by
  obtain ⟨kp, c2⟩ := He.ba c
  have ec : cdOf K (d.adr K) = match K.lookup (d.adr K) with
    | some ⟨_, _, .func fd, _⟩ => (match fd.code with
      | .ref c => c
      | _ => 0)
    | _ => 0 := rfl
  unfold fnT at e
  cases q : K.lookup (d.adr K) with
  | none => simp only [q] at c2; cases c2
  | some o =>
    obtain ⟨oc, od, dt, osl⟩ := o
    simp only [q] at c2 e ec
    cases dt with
    | func fd =>
      simp only [] at ec
      obtain ⟨n1, n2, n3, n4, n5, n6, n7, n8, n9, n10, n11, n12, n13, n14, n15⟩ := fd
      have e2 : (some (n1, n2, n3, n4, n5, n6, n15) : FnT) = some (d.name, d.qual, defArgs d.st, .stmts (defBody d.st), defScope d.st, mainGlobals, builtinsNs) := e
      simp only [Option.some.injEq, Prod.mk.injEq] at e2
      obtain ⟨h1, h2, h3, h4, h5, h6, h7⟩ := e2
      have c3 : (PySem.W.codeIn K n13 d.qual && (decide (n7 = cloOf d.own K (d.adr K)) && decide (n8 = Value.none))) = true := c2
      obtain ⟨k1, k2⟩ := He.ba c3
      obtain ⟨k3, k4⟩ := He.ba k2
      have e3 := of_decide_eq_true k3
      have e4 := of_decide_eq_true k4
      obtain ⟨cc, hcc⟩ := He.codeIn_ref k1
      subst hcc
      have ec2 : cdOf K (d.adr K) = cc := ec
      rw [ec2]
      subst h1 h2 h3 h4 h5 h6 h7 e3 e4
      exact ⟨_, oc, od, osl, n9, n10, n11, n12, n14, rfl, rfl, k1, kp⟩
    | _ => cases c2
theorem FnA.dn {K : PySem.W.Frag} {d : FnA} (e : fnT K (d.adr K) = d.val) (c : d.ok K = true) (ho : d.own = false) : ∃ fd, Dn K d.name d.qual d.st (d.adr K) fd (.ref (cdOf K (d.adr K))) := by
  obtain ⟨fd, oc, od, osl, kV, doc, pm, an, ct, e1, e2, e3, e4⟩ := FnA.get e c
  rw [ho] at e1
  exact ⟨fd, ⟨oc, od, kV, doc, pm, an, ct, osl, e1, e2, e3⟩, e4⟩

/-! ### the Hook -/
def asA (g : Addr → Option Obj) (n : Nat) : List Addr := cStatics :: He.asD g n
def tabsA (g : Addr → Option Obj) (tf : List (PySem.W.Frag → Addr)) (K : PySem.W.Frag) : Bool := tf.all fun p => PySem.W.codeHdIn K (cdOf K (p K)) (tbOf K (p K)) && (match g (tbOf K (p K)) with
  | some o => He.emptyTab o
  | none => false)
structure SaysA (fn : List FnA) (ts : List He.Tab) (tf : List (PySem.W.Frag → Addr)) (ex : PySem.W.Frag → List Bool) (w : World) (h : Heap) (K : PySem.W.Frag) : Prop where
  fv : fn.map (fun d => fnT K (d.adr K)) = fn.map FnA.val
  fk : (fn.all fun d => d.ok K) = true
  tv : ts.map (fun t => He.dicW K (t.1 K)) = ts.map fun t => some (He.keysIn w.params t.2)
  ev : (ex K).all id = true
  hd : ∀ p ∈ tf, PySem.W.codeHdIn K (cdOf K (p K)) (tbOf K (p K)) = true
  out : ∀ p ∈ tf, K.lookup (tbOf K (p K)) = none
  empty : ∀ p ∈ tf, h.get? (tbOf K (p K)) = some { cls := .none, data := .fields #[] }
abbrev AlA : Type := List FnT × List (Option (List (Option (Str × Int)))) × Bool
def obsA (fn : List FnA) (ts : List He.Tab) (tf : List (PySem.W.Frag → Addr)) (ex : PySem.W.Frag → List Bool) (g : Addr → Option Obj) (K : PySem.W.Frag) : AlA :=
  (fn.map fun d => fnT K (d.adr K), ts.map fun t => He.dicW K (t.1 K), (fn.all fun d => d.ok K) && ((ex K).all id && tabsA g tf K))
def valA (fn : List FnA) (ts : List He.Tab) (w : World) : AlA := (fn.map FnA.val, ts.map fun t => some (He.keysIn w.params t.2), true)
theorem saysA_of {n : Nat} {fn : List FnA} {ts : List He.Tab} {tf : List (PySem.W.Frag → Addr)} {ex : PySem.W.Frag → List Bool} {w : World} {h : Heap} (e : obsA fn ts tf ex h.get? (He.frT h.get? (asA h.get? n)) = valA fn ts w) :
    SaysA fn ts tf ex w h (He.frT h.get? (asA h.get? n)) := by
  generalize hK : He.frT h.get? (asA h.get? n) = K at e ⊢
  have e1 : fn.map (fun d => fnT K (d.adr K)) = fn.map FnA.val := congrArg (fun z : AlA => z.1) e
  have e2 : ts.map (fun t => He.dicW K (t.1 K)) = ts.map fun t => some (He.keysIn w.params t.2) := congrArg (fun z : AlA => z.2.1) e
  have e3 : ((fn.all fun d => d.ok K) && ((ex K).all id && tabsA h.get? tf K)) = true := congrArg (fun z : AlA => z.2.2) e
  obtain ⟨h1, h2⟩ := He.ba e3
  obtain ⟨h3, h4⟩ := He.ba h2
  have key : ∀ p ∈ tf, PySem.W.codeHdIn K (cdOf K (p K)) (tbOf K (p K)) = true ∧ ∃ o, h.get? (tbOf K (p K)) = some o ∧ He.emptyTab o = true := fun p hp => by
    obtain ⟨a1, a2⟩ := He.ba (List.all_eq_true.mp h4 p hp)
    refine ⟨a1, ?_⟩
    cases q : h.get? (tbOf K (p K)) with
    | none => rw [q] at a2; cases a2
    | some o => rw [q] at a2; exact ⟨o, rfl, a2⟩
  refine ⟨e1, h1, e2, h3, fun p hp => (key p hp).1, fun p hp => ?_, fun p hp => ?_⟩
  · obtain ⟨_, o, q, z⟩ := key p hp
    have q2 := He.frT_none (as := asA h.get? n) q z
    rw [hK] at q2
    exact q2
  · obtain ⟨_, o, q, z⟩ := key p hp
    rw [q, He.emptyTab_eq z]
def hookA (n : Nat) (fn : List FnA) (ts : List He.Tab) (tf : List (PySem.W.Frag → Addr)) (ex : PySem.W.Frag → List Bool) : PySem.W.Hook where
  α := AlA
  obs := fun s => obsA fn ts tf ex s.heap.get? (He.frT s.heap.get? (asA s.heap.get? n))
  val := fun w => valA fn ts w
  says := fun w h => ∃ K : PySem.W.Frag, K.In h ∧ SaysA fn ts tf ex w h K
  of := fun _ _ e => ⟨_, He.frT_in, saysA_of e⟩
  keeps := fun _ _ _ ⟨K, hK, c⟩ k => ⟨K, PySem.W.Frag.In.keeps hK k, ⟨c.fv, c.fk, c.tv, c.ev, c.hd, c.out, fun p hp => k _ _ (c.empty p hp)⟩⟩
section
variable {fn : List FnA} {ts : List He.Tab} {tf : List (PySem.W.Frag → Addr)} {ex : PySem.W.Frag → List Bool} {w : World} {h : Heap} {K : PySem.W.Frag}
theorem SaysA.b (c : SaysA fn ts tf ex w h K) (i : Nat) {b : Bool} (e : (ex K)[i]? = some b := by rfl) : b = true := List.all_eq_true.mp c.ev b (List.mem_of_getElem? e)
theorem SaysA.d (c : SaysA fn ts tf ex w h K) (i : Nat) {p : Prop} [Decidable p] (e : (ex K)[i]? = some (decide p) := by rfl) : p := of_decide_eq_true (c.b i e)
theorem SaysA.f (c : SaysA fn ts tf ex w h K) (i : Nat) {d : FnA} (e : fn[i]? = some d) : fnT K (d.adr K) = d.val ∧ d.ok K = true := by
  refine ⟨?_, List.all_eq_true.mp c.fk d (List.mem_of_getElem? e)⟩
  have e2 : (fn.map fun d => fnT K (d.adr K))[i]? = (fn.map FnA.val)[i]? := by rw [c.fv]
  rw [List.getElem?_map, List.getElem?_map, e] at e2
  exact Option.some.inj e2
theorem SaysA.dn (c : SaysA fn ts tf ex w h K) (i : Nat) {a : PySem.W.Frag → Addr} {x q : Str} {st : Stmt} (e : fn[i]? = some ⟨a, x, q, st, false⟩ := by rfl) : ∃ fd, Dn K x q st (a K) fd (.ref (cdOf K (a K))) := FnA.dn (c.f i e).1 (c.f i e).2 rfl
theorem SaysA.tab (c : SaysA fn ts tf ex w h K) (i : Nat) {t : He.Tab} (e : ts[i]? = some t := by rfl) : ∃ es n, KDict K w (t.1 K) es n := by
  have e2 : (ts.map fun t => He.dicW K (t.1 K))[i]? = (ts.map fun t => some (He.keysIn w.params t.2))[i]? := by rw [c.tv]
  rw [List.getElem?_map, List.getElem?_map, e] at e2
  exact He.dicW_ok (Option.some.inj e2)
end
/-! ### what else is told -/
/-- a written dict of whole numbers -/
def intsB (K : PySem.W.Frag) (a : Addr) (t : List (List Nat × Int)) : Bool := match K.lookup a with
  | some ⟨_, _, .dict es _, _⟩ => decide (tabE es.toList = some t)
  | _ => false
theorem tabD_of {K : PySem.W.Frag} {w : World} {a : Addr} {t : List (List Nat × Int)} (h : intsB K a t = true) (k : ∃ es n, KDict K w a es n) : TabD K w a t := by
  obtain ⟨es, n, D⟩ := k
  refine ⟨es, n, D, ?_⟩
  unfold intsB at h
  rw [D.at_] at h
  exact of_decide_eq_true h
/-- a property's getter -/
def prOf (K : PySem.W.Frag) (C : Addr) (f : Str) : Addr := He.ma K C f
def gtOf (K : PySem.W.Frag) (C : Addr) (f : Str) : Addr := match PySem.W.recIn K (prOf K C f) "property" with
  | some (.ref g :: _) => g
  | _ => 0
def propB (K : PySem.W.Frag) (C : Addr) (f : Str) : Bool := He.eqO (PySem.W.findIn K (.ref C) f) (some (some (.ref (prOf K C f)))) && (He.eqO (PySem.W.specialIn K (.ref (prOf K C f)) "__get__") (some (some (.builtin "property.__get__"))) &&
  (decide (PySem.W.takesIn K (.ref (prOf K C f)) = some true) && (match PySem.W.recIn K (prOf K C f) "property" with
    | some (.ref _ :: _) => true
    | _ => false)))
theorem propB_ok {K : PySem.W.Frag} {C : Addr} {f : Str} (h : propB K C f = true) : PropOf K C f (prOf K C f) (gtOf K C f) := by
  obtain ⟨h1, h⟩ := He.ba h
  obtain ⟨h2, h⟩ := He.ba h
  obtain ⟨h3, h4⟩ := He.ba h
  refine ⟨He.eqO_ok h1, He.eqO_ok h2, of_decide_eq_true h3, ?_⟩
  unfold gtOf
  cases q : PySem.W.recIn K (prOf K C f) "property" with
  | none => rw [q] at h4; cases h4
  | some l =>
    rw [q] at h4
    cases l with
    | nil => cases h4
    | cons v r =>
      cases v with
      | ref g => exact ⟨r, rfl⟩
      | _ => cases h4
/-! ### an own exception -/
def clsB (K : PySem.W.Frag) (C : Addr) : Bool := match K.lookup C with
  | some ⟨.type c, _, .cls cd, sl⟩ => decide (c = "type") && (match cd.mro, sl with
    | .ref C' :: bm, ⟨[_, _, _, _, some (.builtin n), _]⟩ => decide (C' = C) && (decide (n = "ValueError.__new__") && (decide (cd.hasDel = false) && (decide (cd.hasDict = true) && PySem.HandSPX.refsVE bm)))
    | _, _ => false)
  | _ => false
theorem clsB_ok {K : PySem.W.Frag} {C : Addr} (h : clsB K C = true) : ∃ nm q N bs bm sn sub ab col dd k0 k1 k2 k3 k5, K.lookup C = some (excClassObj nm q C N bs bm true sn sub ab col dd k0 k1 k2 k3 k5 "ValueError.__new__") ∧ PySem.HandSPX.refsVE bm = true := by
  unfold clsB at h
  split at h
  · rename_i c dd cd sl e
    obtain ⟨h1, h2⟩ := He.ba h
    have e1 := of_decide_eq_true h1
    subst e1
    split at h2
    · rename_i C' bm k0 k1 k2 k3 n k5 em
      obtain ⟨a1, h2⟩ := He.ba h2
      obtain ⟨a2, h2⟩ := He.ba h2
      obtain ⟨a3, h2⟩ := He.ba h2
      obtain ⟨a4, a5⟩ := He.ba h2
      obtain ⟨b1, b2, b3, b4, b5, b6, b7, b8, b9, b10, b11⟩ := cd
      have c1 := of_decide_eq_true a1
      have c2 := of_decide_eq_true a2
      have c3 : b11 = false := of_decide_eq_true a3
      have c4 : b6 = true := of_decide_eq_true a4
      have c5 : b3 = .ref C' :: bm := em
      subst c1 c2 c3 c4 c5
      exact ⟨b1, b5, b4, b2, bm, b7, b8, b9, b10, dd, k0, k1, k2, k3, k5, e, a5⟩
    · cases h2
  · cases h
def inOf (K : PySem.W.Frag) (C : Addr) : Addr := He.ma K C "__init__"
def fileB (P : Program) (K : PySem.W.Frag) (cda : Addr) : Bool := match K.lookup cda with
  | some ⟨_, _, .fields vs, _⟩ => (match (vs[2]? : Option Value) with
    | some (.str file _) => P.main.file == file
    | _ => false)
  | _ => false
theorem fileB_ok {P : Program} {K : PySem.W.Frag} {cda : Addr} (h : fileB P K cda = true) : ∃ (ccl : Value) (cdd : Option Addr) (vs : Array Value) (ccs : Array (Option Value)) (file : Str) (tf : Tok), K.lookup cda = some ⟨ccl, cdd, .fields vs, ccs⟩ ∧ vs[2]? = some (.str file tf) ∧ ((P.main.file : Str) == file) = true := by
  unfold fileB at h
  split at h
  · rename_i a b vs d e
    split at h
    · rename_i file tf e2
      exact ⟨a, b, vs, d, file, tf, e, e2, h⟩
    · cases h
  · cases h
def cellB (K : PySem.W.Frag) (cc C : Addr) : Bool := match K.lookup cc with
  | some ⟨_, _, .cell (some (.ref C')), _⟩ => decide (C' = C)
  | _ => false
theorem cellB_ok {K : PySem.W.Frag} {cc C : Addr} (h : cellB K cc C = true) : ∃ (cl : Value) (cld : Option Addr) (csl : Array (Option Value)), K.lookup cc = some ⟨cl, cld, .cell (some (.ref C)), csl⟩ := by
  unfold cellB at h
  split at h
  · rename_i a b C' d e
    have e1 := of_decide_eq_true h
    subst e1
    exact ⟨a, b, d, e⟩
  · cases h
/-- all that is asked of an own exception's class -/
def excL (P : Program) (K : PySem.W.Frag) (C : Addr) : List Bool :=
  [clsB K C, He.eqO (PySem.W.findIn K (.ref C) "__setattr__") (some (some (.builtin "object.__setattr__"))), decide (PySem.W.subIn K (.ref C) (.type "BaseException") = some true), decide (PySem.W.typeIn K (.ref C) = some (.type "type")), PySem.W.keepIn K (.ref C),
   He.eqO (PySem.W.findIn K (.ref C) "__init__") (some (some (.ref (inOf K C)))), decide (PySem.W.typeIn K (.ref (inOf K C)) = some (.type "function")), fileB P K (cdOf K (inOf K C)), cellB K (ccOf K (inOf K C)) C,
   decide (PySem.W.mroIn K C (.ref C) = some true), He.eqO (PySem.W.ks_superIn K C C "__init__") (some (some (.builtin "ValueError.__init__"))), decide (PySem.W.subIn K (.ref C) (.type "ValueError") = some true), He.eqO (PySem.W.nsIn K cStatics "thirdparty.any") (some none),
   !(P.main.scope.names.lookup ("super" : Str)).isSome, xfB K C, He.eqO (PySem.W.findIn K (.ref C) "__class__") (some (some (.builtin "object.__class__"))), He.eqO (PySem.W.specialIn K (.builtin "object.__class__") "__get__") (some (some (.builtin "getset_descriptor.__get__"))),
   decide (PySem.W.takesIn K (.builtin "object.__class__") = some true), decide (PySem.W.mroIn K C (.type "object") = some true), decide (PySem.W.kitOne K (.ref C) (.type "ValueError") = some true), decide (PySem.W.exmOne K (.ref C) (.ref C) = some true)]
structure ExF (P : Program) (K : PySem.W.Frag) (C : Addr) : Prop where
  l : (excL P K C).all id = true
theorem ExF.b {P : Program} {K : PySem.W.Frag} {C : Addr} (c : ExF P K C) (i : Nat) {b : Bool} (e : (excL P K C)[i]? = some b := by rfl) : b = true := List.all_eq_true.mp c.l b (List.mem_of_getElem? e)
theorem ExF.d {P : Program} {K : PySem.W.Frag} {C : Addr} (c : ExF P K C) (i : Nat) {p : Prop} [Decidable p] (e : (excL P K C)[i]? = some (decide p) := by rfl) : p := of_decide_eq_true (c.b i e)
section
variable {P : Program} {K : PySem.W.Frag} {C : Addr}
theorem ExF.oex (c : ExF P K C) : OexC K C := ⟨clsB_ok (c.b 0), He.eqO_ok (c.b 1), c.d 2, c.d 3, c.b 4⟩
theorem ExF.init (c : ExF P K C) : PySem.W.findIn K (.ref C) "__init__" = some (some (.ref (inOf K C))) := He.eqO_ok (c.b 5)
theorem ExF.ty (c : ExF P K C) : PySem.W.typeIn K (.ref (inOf K C)) = some (.type "function") := c.d 6
theorem ExF.sup (c : ExF P K C) {x q : Str} {st : Stmt} {fd : FuncData} (hf : ∃ (oc : Value) (od : Option Addr) (osl : Array (Option Value)) (kV doc pm : Value) (an : Option Addr) (ct : Value),
      fd = PySem.W.fnX x q (defArgs st) (defBody st) (defScope st) [("__class__", ccOf K (inOf K C))] .none kV doc pm an (.ref (cdOf K (inOf K C))) ct ∧ K.lookup (inOf K C) = some ⟨oc, od, .func fd, osl⟩) (hc : PySem.W.codeIn K (.ref (cdOf K (inOf K C))) q = true) :
    SupI P K C (inOf K C) (ccOf K (inOf K C)) (cdOf K (inOf K C)) x q st fd :=
  ⟨c.oex, hf, hc, fileB_ok (c.b 7), cellB_ok (c.b 8), c.d 9, He.eqO_ok (c.b 10), c.d 11, He.eqO_ok (c.b 12), by
    have e := c.b 13
    cases q : (P.main.scope.names.lookup ("super" : Str)).isSome with
    | false => rfl
    | true => rw [q] at e; cases e⟩
theorem ExF.xf (c : ExF P K C) : XfC K C := xfB_ok (c.b 14)
theorem ExF.exc (c : ExF P K C) : ExcC K C := ⟨c.xf.ga, c.xf.gg, c.xf.exC, c.xf.hdC, He.eqO_ok (c.b 15), He.eqO_ok (c.b 16), c.d 17, c.d 18⟩
theorem ExF.kV (c : ExF P K C) : PySem.W.kitOne K (.ref C) (.type "ValueError") = some true := c.d 19
theorem ExF.xm (c : ExF P K C) : PySem.W.exmOne K (.ref C) (.ref C) = some true := c.d 20
end
theorem SaysA.sup {fn : List FnA} {ts : List He.Tab} {tf : List (PySem.W.Frag → Addr)} {ex : PySem.W.Frag → List Bool} {w : World} {h : Heap} {K : PySem.W.Frag} (c : SaysA fn ts tf ex w h K) {P : Program} {C : PySem.W.Frag → Addr} (E : ExF P K (C K)) (i : Nat) {x q : Str} {st : Stmt}
    (e : fn[i]? = some ⟨fun K => inOf K (C K), x, q, st, true⟩ := by rfl) : ∃ fd, SupI P K (C K) (inOf K (C K)) (ccOf K (inOf K (C K))) (cdOf K (inOf K (C K))) x q st fd := by
  obtain ⟨fd, oc, od, osl, kV, doc, pm, an, ct, e1, e2, e3, _⟩ := FnA.get (c.f i e).1 (c.f i e).2
  exact ⟨fd, E.sup ⟨oc, od, osl, kV, doc, pm, an, ct, e1, e2⟩ e3⟩
/-! ### own classes for isinstance -/
def koL (K : PySem.W.Frag) (C : Addr) : List Bool := ["NoneType", "bool", "int", "str", "tuple", "list"].map fun n => decide (PySem.W.kitOne K (.type n) (.ref C) = some false)
theorem ko_bl {K : PySem.W.Frag} {C : Addr} (h : (koL K C).all id = true) : ∀ n : String, n = "NoneType" ∨ n = "bool" ∨ n = "int" ∨ n = "str" ∨ n = "tuple" ∨ n = "list" → PySem.W.kitOne K (.type n) (.ref C) = some false := by
  intro n hn
  have a : n ∈ ["NoneType", "bool", "int", "str", "tuple", "list"] := by
    rcases hn with rfl | rfl | rfl | rfl | rfl | rfl <;> simp
  exact of_decide_eq_true (List.all_eq_true.mp h _ (List.mem_map.mpr ⟨n, a, rfl⟩))
def koB (K : PySem.W.Frag) (b : Bool) (C' C : Addr) : Bool := decide (PySem.W.kitOne K (.ref C') (.ref C) = some b)
end Cf
set_option Elab.async false
set_option linter.all false
set_option maxRecDepth 100000
set_option maxHeartbeats 4000000
/-! CpA: steps through mirrors -/
namespace Cf
theorem bindM {α β : Type} (m : M α) (f : α → M β) (h : List O) : (m >>= f) h = (m h).next f := rfl
theorem pureM {α : Type} (a : α) (h : List O) : (pure a : M α) h = .ok a h := rfl
theorem retM {α : Type} (a : α) (h : List O) : (ret a : M α) h = .ok a h := rfl
theorem nx_ok {α β : Type} (a : α) (h : List O) (f : α → M β) : (R.ok a h).next f = f a h := rfl
theorem stmt_ok {α : Type} (a : α) (h : List O) (f : α → List O → RS) : (R.ok a h).stmt f = f a h := rfl
theorem comp_draw {P : D → Prop} {g : G} {e : E} {σ : S} (J : List O → Prop) : ∀ (ds : List D) (h : List O), J h → (∀ d ∈ ds, ∃ σ1, g d σ = some σ1 ∧ ∀ h, J h → ∃ y h', e σ1 h = .ok y h' ∧ P y ∧ J h') →
    ∃ ys h', compGo g tYes e σ ds h = .ok ys h' ∧ ys.length = ds.length ∧ (∀ y ∈ ys, P y) ∧ J h'
  | [], h, j, _ => ⟨[], h, rfl, rfl, by simp, j⟩
  | d :: ds, h, j, q => by
    obtain ⟨σ1, e1, e2⟩ := q d (List.mem_cons_self)
    obtain ⟨y, h1, e3, p, j1⟩ := e2 h j
    obtain ⟨ys, h2, e4, l, ps, j2⟩ := comp_draw J ds h1 j1 fun x hx => q x (List.mem_cons_of_mem _ hx)
    refine ⟨y :: ys, h2, ?_, by rw [List.length_cons, List.length_cons, l], fun z hz => ?_, j2⟩
    · simp [compGo, e1, bindM, tYes, retM, nx_ok, e3, e4]
    · rcases List.mem_cons.mp hz with rfl | hz
      · exact p
      · exact ps z hz
theorem strs_join : ∀ {ys : List D} {sg : List Nat}, (∀ y ∈ ys, ∃ c ∈ sg, y = .str [c]) → ∃ ts : List (List Nat), strsOf ys = some ts ∧ (ts.map (·.length)).sum = ys.length ∧ (joinL [] ts).length = ys.length ∧ ∀ c ∈ joinL [] ts, c ∈ sg
  | [], _, _ => ⟨[], rfl, rfl, rfl, by simp [joinL]⟩
  | y :: ys, sg, q => by
    obtain ⟨c, hc, rfl⟩ := q y List.mem_cons_self
    obtain ⟨ts, e1, e2, e3, e4⟩ := strs_join (ys := ys) (sg := sg) fun z hz => q z (List.mem_cons_of_mem _ hz)
    refine ⟨[c] :: ts, by simp [strsOf, e1], by simp [e2]; omega, ?_, ?_⟩
    · cases ts with
      | nil => simp [joinL] at e3 ⊢; exact List.length_eq_zero_iff.mp e3.symm
      | cons t r => simp [joinL] at e3 ⊢; omega
    · cases ts with
      | nil => simp [joinL]; exact hc
      | cons t r =>
        intro x hx
        simp only [joinL, List.append_nil, List.singleton_append, List.mem_cons] at hx
        rcases hx with rfl | hx
        · exact hc
        · exact e4 x hx
theorem rangeD_mem {lo hi : Int} {d : D} (h : d ∈ rangeD lo hi) : ∃ k : Int, d = .int k ∧ lo ≤ k ∧ k < hi := by
  unfold rangeD at h
  obtain ⟨k, hk, rfl⟩ := List.mem_map.mp h
  have := List.mem_range.mp hk
  exact ⟨_, rfl, by omega, by omega⟩
theorem rangeD_len {lo hi : Int} : (rangeD lo hi).length = (hi - lo).toNat := by
  unfold rangeD
  rw [List.length_map, List.length_range]
theorem c_like : cps "like" = [108, 105, 107, 101] := by decide
theorem c_begins : cps "begins" = [98, 101, 103, 105, 110, 115] := by decide
theorem c_ends : cps "ends" = [101, 110, 100, 115] := by decide
theorem c_holds : cps "holds" = [104, 111, 108, 100, 115] := by decide
theorem c_count : cps "count" = [99, 111, 117, 110, 116] := by decide
theorem c_from : cps "from" = [102, 114, 111, 109] := by decide
theorem c_back : cps "back" = [98, 97, 99, 107] := by decide
theorem c_turned : cps "turned" = [116, 117, 114, 110, 101, 100] := by decide
theorem c_not : cps "not" = [110, 111, 116] := by decide
theorem c_both : cps "both" = [98, 111, 116, 104] := by decide
theorem c_either : cps "either" = [101, 105, 116, 104, 101, 114] := by decide
theorem c_any : cps "?" = [63] := by decide
theorem c_nil : cps "" = [] := by decide
abbrev az : List Nat := cps "abcdefghijklmnopqrstuvwxyz"
theorem c_az : cps "abcdefghijklmnopqrstuvwxyz" = [97, 98, 99, 100, 101, 102, 103, 104, 105, 106, 107, 108, 109, 110, 111, 112, 113, 114, 115, 116, 117, 118, 119, 120, 121, 122] := by decide
def Tx (s : List Nat) (a b : Nat) (sg : List Nat) : Prop := a ≤ s.length ∧ s.length ≤ b ∧ ∀ c ∈ s, c ∈ sg
theorem subIn_one (c : Nat) (sg : List Nat) : subIn [c] sg = decide (c ∈ sg) := by
  unfold subIn
  rw [Bool.eq_iff_iff, List.any_eq_true, decide_eq_true_eq]
  constructor
  · rintro ⟨i, _, e⟩
    have e : (sg.drop i).take 1 = [c] := by simpa using e
    have : c ∈ (sg.drop i).take 1 := by rw [e]; simp
    exact List.mem_of_mem_drop (List.mem_of_mem_take this)
  · intro hc
    obtain ⟨i, hi, e⟩ := List.getElem_of_mem hc
    refine ⟨i, List.mem_range.mpr (by omega), ?_⟩
    simp [List.take_one, hi, e]
theorem allGo_all {g : G} {t : T} {σ : S} {h : List O} : ∀ (ds : List D), (∀ d ∈ ds, ∃ σ1, g d σ = some σ1 ∧ t σ1 h = .ok true h) → allGo g t σ ds h = .ok true h
  | [], _ => rfl
  | d :: ds, q => by
    obtain ⟨σ1, e1, e2⟩ := q d List.mem_cons_self
    have ih := allGo_all ds fun x hx => q x (List.mem_cons_of_mem _ hx)
    simp [allGo, e1, bindM, e2, nx_ok, ih]
theorem deq_str (a b : List Nat) : deq (.str a) (.str b) = (a == b) := by rw [deq]
theorem deq_int (a b : Int) : deq (.int a) (.int b) = (a == b) := by rw [deq]
theorem deq_bl (a b : Bool) : deq (.bl a) (.bl b) = (a == b) := by rw [deq]
theorem pEq_str (a b : List Nat) : pEq (.str a) (.str b) = ret (.bl (a == b)) := by simp [pEq, eqable, plain, deep, deq_str]
theorem pEq_int (a b : Int) : pEq (.int a) (.int b) = ret (.bl (a == b)) := by simp [pEq, eqable, plain, deep, deq_int]
theorem pNe_str (a b : List Nat) : pNe (.str a) (.str b) = ret (.bl (!(a == b))) := by simp [pNe, eqable, plain, deep, deq_str]
theorem pNe_int (a b : Int) : pNe (.int a) (.int b) = ret (.bl (!(a == b))) := by simp [pNe, eqable, plain, deep, deq_int]
theorem allGo_f {g : G} {t : T} {σ : S} {h : List O} {f : D → Bool} : ∀ (ds : List D), (∀ d ∈ ds, ∃ σ1, g d σ = some σ1 ∧ t σ1 h = .ok (f d) h) → allGo g t σ ds h = .ok (ds.all f) h
  | [], _ => rfl
  | d :: ds, q => by
    obtain ⟨σ1, e1, e2⟩ := q d List.mem_cons_self
    have ih := allGo_f (f := f) ds fun x hx => q x (List.mem_cons_of_mem _ hx)
    simp only [allGo, e1, bindM, e2, nx_ok, List.all_cons]
    cases f d with
    | true => simp [ih]
    | false => simp [retM]
theorem compGo_f {g : G} {t : T} {e : E} {σ : S} {h : List O} {f : D → Bool} {u : D → D} : ∀ (ds : List D), (∀ d ∈ ds, ∃ σ1, g d σ = some σ1 ∧ t σ1 h = .ok (f d) h ∧ e σ1 h = .ok (u d) h) → compGo g t e σ ds h = .ok ((ds.filter f).map u) h
  | [], _ => rfl
  | d :: ds, q => by
    obtain ⟨σ1, e1, e2, e3⟩ := q d List.mem_cons_self
    have ih := compGo_f (f := f) (u := u) ds fun x hx => q x (List.mem_cons_of_mem _ hx)
    simp only [compGo, e1, bindM, e2, nx_ok]
    cases hf : f d with
    | true => simp [ih, e3, nx_ok, retM, bindM, hf]
    | false => simp [ih, hf]
theorem comp_f {it : I} {g : G} {t : T} {e : E} {vs : List Nat} {σ : S} {h : List O} {f : D → Bool} {u : D → D} {ds : List D} (hi : it σ h = .ok ds h) (hl : ds.length ≤ 16000000) (q : ∀ d ∈ ds, ∃ σ1, g d (wipe σ vs) = some σ1 ∧ t σ1 h = .ok (f d) h ∧ e σ1 h = .ok (u d) h) :
    eComp it g t e vs σ h = .ok (.lst ((ds.filter f).map u)) h := by
  have l : ((ds.filter f).map u).length ≤ 16000000 := by
    rw [List.length_map]
    exact Nat.le_trans (List.length_filter_le _ _) hl
  simp only [List.length_map] at l
  simp [eComp, comp, bindM, hi, nx_ok, noer, compGo_f ds q, retM, l]
def intsD (ys : List D) : Prop := ∀ y ∈ ys, ∃ k : Int, y = .int k
theorem ints_plain : ∀ {ys : List D}, intsD ys → plains ys = true ∧ deeps ys = 0
  | [], _ => ⟨rfl, rfl⟩
  | y :: ys, q => by
    obtain ⟨k, rfl⟩ := q y List.mem_cons_self
    have ih := ints_plain (ys := ys) fun z hz => q z (List.mem_cons_of_mem _ hz)
    exact ⟨by rw [plains, ih.1]; rfl, by rw [deeps, ih.2]; rfl⟩
theorem deq_nil (ys : List D) : deq (.lst ys) (.lst []) = ys.isEmpty := by
  cases ys with
  | nil => rw [deq, deqs]; rfl
  | cons y r => rw [deq, deqs] <;> simp
theorem eqable_ints {ys : List D} (q : intsD ys) : eqable (.lst ys) = true := by
  have z := ints_plain q
  simp [eqable, plain, deep, z.1, z.2]
theorem pEq_nil {ys : List D} (q : intsD ys) : pEq (.lst ys) (.lst []) = ret (.bl ys.isEmpty) := by
  have e2 : eqable (.lst []) = true := by decide
  simp [pEq, eqable_ints q, e2, deq_nil]
theorem pNe_nil {ys : List D} (q : intsD ys) : pNe (.lst ys) (.lst []) = ret (.bl (!ys.isEmpty)) := by
  have e2 : eqable (.lst []) = true := by decide
  simp [pNe, eqable_ints q, e2, deq_nil]
theorem ints_flat {ys : List D} (q : intsD ys) : ys.all flat = true := List.all_eq_true.mpr fun y hy => by
  obtain ⟨k, rfl⟩ := q y hy
  rfl
theorem ints_range {lo hi : Int} {f : D → Bool} : intsD ((rangeD lo hi).filter f) := fun y hy => by
  obtain ⟨k, e, _⟩ := rangeD_mem (List.mem_filter.mp hy).1
  exact ⟨k, e⟩
theorem mem_range {m x : Int} (h0 : 0 ≤ x) (h1 : x < m) : D.int x ∈ rangeD 0 m := by
  unfold rangeD
  refine List.mem_map.mpr ⟨x.toNat, List.mem_range.mpr (by omega), ?_⟩
  congr 1
  omega
theorem any_range {m x : Int} {f : D → Bool} : ((rangeD 0 m).filter f).any (fun y => deq y (.int x)) = (decide (0 ≤ x ∧ x < m) && f (.int x)) := by
  rw [Bool.eq_iff_iff, List.any_eq_true, Bool.and_eq_true, decide_eq_true_eq]
  constructor
  · rintro ⟨y, hy, e⟩
    obtain ⟨h1, h2⟩ := List.mem_filter.mp hy
    obtain ⟨k, rfl, k0, k1⟩ := rangeD_mem h1
    rw [deq_int] at e
    obtain rfl : k = x := beq_iff_eq.mp e
    exact ⟨⟨k0, k1⟩, h2⟩
  · rintro ⟨⟨h0, h1⟩, h2⟩
    exact ⟨_, List.mem_filter.mpr ⟨mem_range h0 h1, h2⟩, by rw [deq_int]; simp⟩
theorem empty_range {m : Int} {f : D → Bool} : ((rangeD 0 m).filter f).isEmpty = true ↔ ∀ k : Int, 0 ≤ k → k < m → f (.int k) = false := by
  rw [List.isEmpty_iff, List.filter_eq_nil_iff]
  constructor
  · intro q k h0 h1
    exact Bool.eq_false_iff.mpr (q _ (mem_range h0 h1))
  · intro q d hd
    obtain ⟨k, rfl, h0, h1⟩ := rangeD_mem hd
    rw [q k h0 h1]
    simp
theorem o_le_nat (a b : Nat) : ((a : Int) ≤ (b : Int)) = (a ≤ b) := by simp
theorem cut_to (w : List Nat) (n : Nat) : cut w none (some (n : Int)) = w.take n := by
  have h1 : ¬ ((n : Int) < 0) := by omega
  simp [cut, clip, h1]
theorem cut_from (w : List Nat) {n : Nat} (h : n ≤ w.length) : cut w (some (((w.length : Nat) : Int) - (n : Nat))) none = w.drop (w.length - n) := by
  have h1 : ¬ (((w.length : Nat) : Int) - (n : Nat) < 0) := by omega
  have h2 : min ((((w.length : Nat) : Int) - (n : Nat)).toNat) w.length = w.length - n := by omega
  simp only [cut, clip, h1, if_false, h2]
  rw [List.take_of_length_le]
  rw [List.length_drop]
  omega
section
variable {σ : S} {h h1 h2 : List O} {d : D} {t : T} {a b : Ms} {x y : E}
theorem stepF (e : t σ h = .ok false h1) : sSeq (sIf t a sPass) b σ h = b σ h1 := by
  simp [sSeq, sIf, e, stmt_ok, sPass]
end
section
variable {σ : S} {h h1 h2 : List O} {d : D} {t : T} {a b : Ms} {x y : E}
theorem stepT (e : t σ h = .ok true h1) (r : a σ h1 = .rt d h2) : sSeq (sIf t a sPass) b σ h = .rt d h2 := by
  simp [sSeq, sIf, e, stmt_ok, r]
end
section
variable {σ : S} {h h1 h2 : List O} {d : D} {t : T} {a b : Ms} {x y : E}
theorem stepS {i : Nat} (e : x σ h = .ok d h1) : sSeq (sSet i x) b σ h = b (σ.set i (.val d)) h1 := by
  simp [sSeq, sSet, e, stmt_ok]
end
section
variable {σ : S} {h h1 h2 : List O} {d : D} {t : T} {a b : Ms} {x y : E}
theorem retR (e : x σ h = .ok d h1) : sRet x σ h = .rt d h1 := by
  simp [sRet, e, stmt_ok]
end
section
variable {σ : S} {h h1 h2 : List O} {d : D} {t : T} {a b : Ms} {x y : E}
theorem runR {n k : Nat} {ds : List D} (hl : ds.length = k) (e : b (ds.map .val ++ List.replicate (n - k) .no) h = .rt d h1) : run n k b ds h = .ok d h1 := by
  simp [run, hl, e]
end
section
variable {σ : S} {h h1 h2 : List O} {d : D} {t : T} {a b : Ms} {x y : E}
theorem andF (e : x σ h = .ok (.bl false) h1) : eAnd x y σ h = .ok (.bl false) h1 := by
  simp [eAnd, bindM, e, nx_ok, pTruth, truth, ofOpt, retM]
end
section
variable {σ : S} {h h1 h2 : List O} {d : D} {t : T} {a b : Ms} {x y : E}
theorem andT (e : x σ h = .ok (.bl true) h1) : eAnd x y σ h = y σ h1 := by
  simp [eAnd, bindM, e, nx_ok, pTruth, truth, ofOpt, retM]
end
section
variable {σ : S} {h h1 h2 : List O} {d : D} {t : T} {a b : Ms} {x y : E}
theorem kindR {i : Nat} {a b : List Nat} {c : Bool} (e : σ[i]? = some (.val (.str a))) (hc : (a == b) = c) : tOf (e2 pEq (eVar i) (eC (.str b))) σ h = .ok c h := by
  subst hc
  simp [tOf, e2, bindM, eVar, e, nx_ok, eC, retM, pEq_str, pTruth, truth, ofOpt]
end
section
variable {σ : S} {h h1 h2 : List O} {d : D} {t : T} {a b : Ms} {x y : E}
theorem kindI {i : Nat} {a : List Nat} {c : Bool} (bs : List (List Nat)) (e : σ[i]? = some (.val (.str a))) (hc : (bs.any fun b => b == a) = c) : tOf (e2 pIn (eVar i) (eTup (bs.map fun b => eC (.str b)))) σ h = .ok c h := by
  subst hc
  have z : ∀ bs : List (List Nat), evs (bs.map fun b => eC (.str b)) σ h = .ok (bs.map .str) h := by
    intro bs
    induction bs with
    | nil => rfl
    | cons b r ih => simp [evs, bindM, eC, retM, nx_ok, ih]
  have fl : (bs.map D.str).all flat = true := by simp [flat]
  simp [tOf, e2, bindM, eVar, e, nx_ok, eTup, eN, z, mkTup, retM, pIn, inD, flat, ofOpt, pTruth, truth, List.any_map, Function.comp_def, deq_str]
end
theorem chain_le {σ : S} {h : List O} {a b c : E} {x y z : List Nat} (ha : a σ h = .ok (.str x) h) (hb : b σ h = .ok (.str y) h) (hc : c σ h = .ok (.str z) h) : eChain pLe pLe a b c σ h = .ok (.bl (decide (x ≤ y) && decide (y ≤ z))) h := by
  cases h1 : decide (x ≤ y) with
  | true => simp only [eChain, bindM, ha, nx_ok, hb, pLe, pCmp, h1, retM, hc, Bool.true_and]
  | false => simp only [eChain, bindM, ha, nx_ok, hb, pLe, pCmp, h1, retM, Bool.false_and]
theorem idx_str {s : List Nat} {k : Int} (h0 : 0 ≤ k) (h1 : k < s.length) : pIdx (.str s) (.int k) = ret (.str [s.getD k.toNat 0]) := by
  have h2 : k.toNat < s.length := by omega
  simp [pIdx, getAt, ixOf, h0, h1, h2, ofOpt]
theorem cut_at (w : List Nat) {k : Int} (n : Nat) (h0 : 0 ≤ k) (h1 : k ≤ w.length) : cut w (some k) (some (k + (n : Int))) = (w.drop k.toNat).take n := by
  have e1 : ¬ k < 0 := by omega
  have e2 : ¬ k + (n : Int) < 0 := by omega
  simp only [cut, clip, e1, e2, if_false]
  rw [Nat.min_eq_left (by omega : k.toNat ≤ w.length), List.take_eq_take_iff, List.length_drop]
  omega
theorem strs_signs : ∀ s : List Nat, strsOf (signs s) = some (s.map fun c => [c])
  | [] => rfl
  | c :: s => by
    show strsOf (.str [c] :: signs s) = _
    rw [strsOf, strs_signs s]
    rfl
theorem join_signs : ∀ s : List Nat, joinL [] (s.map fun c => [c]) = s
  | [] => rfl
  | [c] => rfl
  | c :: d :: s => by
    have ih := join_signs (d :: s)
    simp only [List.map_cons] at ih ⊢
    rw [joinL, ih]
    · rfl
    · intro q; cases q
theorem join_ok {s : List Nat} (hs : s.length ≤ 1000) (h : List O) : pJoin (.str []) (.lst (signs s)) h = .ok (.str s) h := by
  have e : ((s.map fun c => [c]).map (·.length)).sum = s.length := by
    clear hs
    induction s with
    | nil => rfl
    | cons c s ih => simp at ih ⊢; omega
  have l : ((s.map fun c => [c]).map (·.length)).sum + (s.map fun c => [c]).length * 0 ≤ 16000000 := by rw [e]; omega
  simp only [pJoin, seqOf, Option.bind_some, strs_signs, List.length_nil]
  rw [if_pos l, join_signs]
  rfl
theorem small_ok {i : Int} (h0 : -1000 ≤ i) (h1 : i ≤ 1000) : small i = true := by
  unfold small
  rw [Bool.and_eq_true, decide_eq_true_eq, decide_eq_true_eq]
  omega
theorem range_len {m : Int} (h : m ≤ 1000) : (rangeD 0 m).length ≤ 16000000 := by
  rw [rangeD_len]
  omega
theorem range_it {a : E} {σ : S} {h : List O} {i : Int} (e : a σ h = .ok (.int i) h) (s : small i = true) : iRange1 a σ h = .ok (rangeD 0 i) h := by
  simp [iRange1, bindM, e, nx_ok, s, retM]
section
variable {σ : S} {h h1 h2 : List O} {d u v : D} {t : T} {a b : E}
theorem kindN {i : Nat} {a b : List Nat} {c : Bool} (e : σ[i]? = some (.val (.str a))) (hc : (!(a == b)) = c) : tOf (e2 pNe (eVar i) (eC (.str b))) σ h = .ok c h := by
  subst hc
  simp [tOf, e2, bindM, eVar, e, nx_ok, eC, retM, pNe_str, pTruth, truth, ofOpt]
end
section
variable {σ : S} {h h1 h2 : List O} {d u v : D} {t : T} {a b : E}
theorem ifT (e : t σ h = .ok true h1) : eIf t a b σ h = a σ h1 := by
  simp [eIf, bindM, e, nx_ok]
end
section
variable {σ : S} {h h1 h2 : List O} {d u v : D} {t : T} {a b : E}
theorem ifF (e : t σ h = .ok false h1) : eIf t a b σ h = b σ h1 := by
  simp [eIf, bindM, e, nx_ok]
end
section
variable {σ : S} {h h1 h2 : List O} {d u v : D} {t : T} {a b : E}
theorem e2_ok {f : D → D → M D} (x : a σ h = .ok u h1) (y : b σ h1 = .ok v h2) : e2 f a b σ h = f u v h2 := by
  simp [e2, bindM, x, y, nx_ok]
end
section
variable {σ : S} {h h1 h2 : List O} {d u v : D} {t : T} {a b : E}
theorem e1_ok {f : D → M D} (x : a σ h = .ok u h1) : e1 f a σ h = f u h1 := by
  simp [e1, bindM, x, nx_ok]
end
section
variable {σ : S} {h h1 h2 : List O} {d u v : D} {t : T} {a b : E}
theorem not_ok {c : Bool} (x : a σ h = .ok (.bl c) h1) : eNot a σ h = .ok (.bl (!c)) h1 := by
  simp [eNot, bindM, x, nx_ok, pTruth, truth, ofOpt, retM]
end
section
variable {σ : S} {h h1 h2 : List O} {d u v : D} {t : T} {a b : E}
theorem and_ok {c e : Bool} (x : a σ h = .ok (.bl c) h) (y : b σ h = .ok (.bl e) h) : eAnd a b σ h = .ok (.bl (c && e)) h := by
  cases c <;> simp [eAnd, bindM, x, y, nx_ok, pTruth, truth, ofOpt, retM]
end
theorem s2_ok {f : D → D → M D} {a b : E} {σ : S} {h h1 h2 : List O} {s : List Nat} {v : D} (x : a σ h = .ok (.str s) h1) (y : b σ h1 = .ok v h2) : eS2 f a b σ h = f (.str s) v h2 := by
  simp [eS2, bindM, x, y, nx_ok, isStr]
theorem pIn_lst {x : D} {ys : List D} (fx : flat x = true) (fl : ys.all flat = true) : pIn x (.lst ys) = ret (.bl (ys.any fun y => deq y x)) := by
  have z : inD x (.lst ys) = some (ys.any fun y => deq y x) := by
    cases x <;> first
      | (simp [flat] at fx; done)
      | (show (if _ ∧ _ then _ else _) = _
         exact if_pos ⟨rfl, fl⟩)
  unfold pIn
  rw [z]
  rfl
theorem en_ok {f : List D → M D} {as : List E} {σ : S} {h h1 h2 : List O} {xs : List D} {y : D} (e : evs as σ h = .ok xs h1) (e' : f xs h1 = .ok y h2) : eN f as σ h = .ok y h2 := by
  simp [eN, bindM, e, nx_ok, e']
theorem ev_nil {σ : S} {h : List O} : evs [] σ h = .ok [] h := rfl
theorem ev_cons {a : E} {as : List E} {σ : S} {h h1 h2 : List O} {x : D} {xs : List D} (e : a σ h = .ok x h1) (e' : evs as σ h1 = .ok xs h2) : evs (a :: as) σ h = .ok (x :: xs) h2 := by
  simp [evs, bindM, e, nx_ok, e', retM]
theorem tup2 {f : List D → M D} {as : List E} {i : Nat} {σ : S} {h h1 : List O} {x y : D} (hx : eVar i σ h = .ok x h) (e : eN f as σ h = .ok y h1) : eTup [eVar i, eN f as] σ h = .ok (.tup [x, y]) h1 :=
  en_ok (ev_cons hx (ev_cons e ev_nil)) rfl
theorem tup3 {f g : List D → M D} {as bs : List E} {i : Nat} {σ : S} {h h1 h2 : List O} {x y z : D} (hx : eVar i σ h = .ok x h) (e : eN f as σ h = .ok y h1) (e' : eN g bs σ h1 = .ok z h2) : eTup [eVar i, eN f as, eN g bs] σ h = .ok (.tup [x, y, z]) h2 :=
  en_ok (ev_cons hx (ev_cons e (ev_cons e' ev_nil))) rfl
theorem tx_az {s : List Nat} {a b : Int} {a' b' : Nat} {sg big : List Nat} (h1 : a ≤ s.length) (h2 : (s.length : Int) ≤ b) (e1 : a = a') (e2 : b = b') (h3 : ∀ c ∈ s, c ∈ sg) (hs : ∀ c ∈ sg, c ∈ big) : Tx s a' b' big :=
  ⟨by omega, by omega, fun c hc => hs c (h3 c hc)⟩
theorem heard_ok {e : E} {σ : S} {h h1 : List O} {v : D} (q : e σ h = .er "BadArgument" [v] h1) : eHeard e σ h = .ok (.tup [.str (cps "bad"), v, .bl true]) h1 := by
  simp [eHeard, q, heardAs]
theorem en_er {f : List D → M D} {as : List E} {σ : S} {h h1 h2 : List O} {xs vs : List D} {c : String} (e : evs as σ h = .ok xs h1) (e' : f xs h1 = .er c vs h2) : eN f as σ h = .er c vs h2 := by
  simp [eN, bindM, e, nx_ok, e']
section
variable {σ σ' : S} {h h1 h2 : List O} {d : D} {b : Ms} {x : E} {g : G} {it : I} {ds : List D} {a : Ms}
theorem stepA (e : x σ h = .ok d h1) (hg : g d σ = some σ') : sSeq (sAsg x g) b σ h = b σ' h1 := by
  simp [sSeq, sAsg, e, stmt_ok, hg]
end
section
variable {σ σ' : S} {h h1 h2 : List O} {d : D} {b : Ms} {x : E} {g : G} {it : I} {ds : List D} {a : Ms}
theorem stepFor (hi : it σ h = .ok ds h1) (e : forGo g a ds σ h1 = .nx σ' h2) : sSeq (sFor it g a) b σ h = b σ' h2 := by
  simp [sSeq, sFor, hi, stmt_ok, e]
end
end Cf
set_option Elab.async false
set_option linter.all false
set_option maxRecDepth 100000
set_option maxHeartbeats 4000000
/-! CpD: what is drawn -/
namespace Cf
def Rw (gb h : List O) : Prop := ∃ (ns : List Int) (i c d : Int), h = .lst [.lst (ns.map D.int), .int i, .int c, .int d] :: gb ∧ 0 ≤ i
theorem taken {h : List O} {gb : List O} (r : Rw gb h) {m : Int} (m1 : 0 < m) (m2 : m < 1000000) : ∃ v h', m__law_taken [.ref 0, .int m] h = .ok (.int v) h' ∧ 0 ≤ v ∧ v < m ∧ Rw gb h' := by
  obtain ⟨ns, i, c, d, rfl, hi⟩ := r
  have lo := fun x => Int.emod_nonneg x (show m ≠ 0 by omega)
  have hi2 := fun x => Int.emod_lt_of_pos x m1
  have g1 : m < 2147483648 := by omega
  have g2 : m < 1073741824 := by omega
  by_cases hd : 0 < d
  · refine ⟨d % m, .lst [.lst (ns.map D.int), .int i, .int c, .int (d / m)] :: gb, ?_, lo _, hi2 _, ns, i, c, d / m, rfl, hi⟩
    simp [m__law_taken, run, b__law_taken, sSeq, sIf, tOf, e2, eVar, eC, e1, bindM, pureM, retM, nx_ok, stmt_ok, pIdx, refGet, getAt, ixOf, ofOpt, pGt, pCmp, pTruth, truth, hd, sSet, pMod, pInt, m1, g1, g2, pFDiv, sSetItem, setRef, sRet]
  · by_cases hl : (ns.length : Int) < i + 1
    · refine ⟨((c * 48271 + 11) % 2147483647 / 7) % m, .lst [.lst (ns.map D.int), .int (i + 1), .int ((c * 48271 + 11) % 2147483647), .int d] :: gb, ?_, lo _, hi2 _, ns, i + 1, _, d, rfl, by omega⟩
      simp [m__law_taken, run, b__law_taken, sSeq, sIf, tOf, e2, eVar, eC, e1, bindM, pureM, retM, nx_ok, stmt_ok, pIdx, refGet, getAt, ixOf, ofOpt, pGt, pCmp, pTruth, truth, hd, sSet, pMod, pInt, m1, g1, g2, pFDiv, sSetItem, setRef, sRet, sPass, hl, pAdd, pMul, pLen]
    · have hj : i.toNat < ns.length := by omega
      obtain ⟨x, hx⟩ : ∃ x, ns[i.toNat] = x := ⟨_, rfl⟩
      have hi3 : i < (ns.length : Int) := by omega
      by_cases hb : (1000000000000000000 : Int) ≤ x
      · refine ⟨x % m, .lst [.lst (ns.map D.int), .int (i + 1), .int ((c * 48271 + x + 11) % 2147483647), .int (x / m)] :: gb, ?_, lo _, hi2 _, ns, i + 1, _, _, rfl, by omega⟩
        simp [m__law_taken, run, b__law_taken, sSeq, sIf, tOf, e2, eVar, eC, e1, bindM, pureM, retM, nx_ok, stmt_ok, pIdx, refGet, getAt, ixOf, ofOpt, pGt, pCmp, pTruth, truth, hd, sSet, pMod, pInt, m1, g1, g2, pFDiv, sSetItem, setRef, sRet, sPass, hl, pAdd, pMul, pLen, pSub, hi, hx, hi3, hj, pGe, pPow, hb]
      · refine ⟨x % m, .lst [.lst (ns.map D.int), .int (i + 1), .int ((c * 48271 + x + 11) % 2147483647), .int d] :: gb, ?_, lo _, hi2 _, ns, i + 1, _, _, rfl, by omega⟩
        simp [m__law_taken, run, b__law_taken, sSeq, sIf, tOf, e2, eVar, eC, e1, bindM, pureM, retM, nx_ok, stmt_ok, pIdx, refGet, getAt, ixOf, ofOpt, pGt, pCmp, pTruth, truth, hd, sSet, pMod, pInt, m1, g1, g2, pFDiv, sSetItem, setRef, sRet, sPass, hl, pAdd, pMul, pLen, pSub, hi, hx, hi3, hj, pGe, pPow, hb]
theorem pick {h : List O} {gb : List O} (r : Rw gb h) {xs : List D} (hx : xs ≠ []) (hl : xs.length < 1000000) : ∃ x h', m__law_pick [.ref 0, .lst xs] h = .ok x h' ∧ x ∈ xs ∧ Rw gb h' := by
  have h0 : 0 < xs.length := List.length_pos_iff.mpr hx
  obtain ⟨v, h1, e, v0, v1, r1⟩ := taken r (m := (xs.length : Int)) (by omega) (by omega)
  have hv : v.toNat < xs.length := by omega
  refine ⟨xs[v.toNat], h1, ?_, List.getElem_mem _, r1⟩
  simp [m__law_pick, run, b__law_pick, sRet, e2, e1, eVar, eN, evs, bindM, retM, nx_ok, stmt_ok, pLen, e, pIdx, getAt, ixOf, v0, v1, ofOpt, hv]
theorem text {h : List O} {gb : List O} (r : Rw gb h) {a b : Int} {sg : List Nat} (ha : 0 ≤ a) (hab : a ≤ b) (hb : b ≤ 100) (hs : sg ≠ []) (hl : sg.length < 1000000) :
    ∃ s h', m__law_text [.ref 0, .int a, .int b, .str sg] h = .ok (.str s) h' ∧ a ≤ s.length ∧ (s.length : Int) ≤ b ∧ (∀ c ∈ s, c ∈ sg) ∧ Rw gb h' := by
  have h0 : 0 < sg.length := List.length_pos_iff.mpr hs
  obtain ⟨v, h1, e, v0, v1, r1⟩ := taken r (m := b - a + 1) (by omega) (by omega)
  obtain ⟨ys, h2, e2', ly, py, r2⟩ := comp_draw (P := fun y => ∃ c ∈ sg, y = .str [c]) (g := gVar 4) (e := e2 pIdx (eVar 3) (eN m__law_taken [eVar 0, e1 pLen (eVar 3)])) (σ := [.val (.ref 0), .val (.int a), .val (.int b), .val (.str sg), .no]) (Rw gb) (rangeD 0 (a + v)) h1 r1 (fun d hd => by
    obtain ⟨k, rfl, _, _⟩ := rangeD_mem hd
    refine ⟨[.val (.ref 0), .val (.int a), .val (.int b), .val (.str sg), .val (.int k)], rfl, fun h r => ?_⟩
    obtain ⟨u, h1, e, v0, v1, r1⟩ := taken r (m := (sg.length : Int)) (by omega) (by omega)
    have hu : u.toNat < sg.length := by omega
    refine ⟨.str [sg[u.toNat]], h1, ?_, ⟨_, List.getElem_mem _, rfl⟩, r1⟩
    simp [e2, e1, eVar, eN, evs, bindM, retM, nx_ok, pLen, e, pIdx, getAt, ixOf, v0, v1, ofOpt, hu])
  obtain ⟨ts, t1, t2, t3, t4⟩ := strs_join py
  rw [rangeD_len] at ly
  have sm : small (a + v) = true := by
    unfold small
    rw [Bool.and_eq_true, decide_eq_true_eq, decide_eq_true_eq]
    omega
  have hl1 : ys.length ≤ 16000000 := by omega
  refine ⟨joinL [] ts, h2, ?_, by omega, by omega, t4, r2⟩
  simp [m__law_text, run, b__law_text, sRet, eS2, eC, isStr, cps, e2, e1, eVar, eN, evs, bindM, retM, nx_ok, stmt_ok, pSub, pAdd, e, eComp, comp, iRange1, sm, wipe, noer, pJoin, seqOf, t1, t2]
  rw [show (compGo (gVar 4) tYes (e2 pIdx (eVar 3) (eN m__law_taken [eVar 0, e1 pLen (eVar 3)])) [.val (.ref 0), .val (.int a), .val (.int b), .val (.str sg), .no] (rangeD 0 (a + v)) h1) = _ from e2']
  simp [nx_ok, hl1, retM, t1, t2, stmt_ok]
theorem pick_in {h : List O} {gb : List O} (r : Rw gb h) {xs : List D} (hx : xs ≠ []) (hl : xs.length < 1000000) {σ : S} {a : E} (h0 : σ[0]? = some (.val (.ref 0))) (e : a σ h = .ok (.lst xs) h) : ∃ x h', eN m__law_pick [eVar 0, a] σ h = .ok x h' ∧ x ∈ xs ∧ Rw gb h' := by
  obtain ⟨x, h1, e1, hx, r1⟩ := pick r hx hl
  exact ⟨x, h1, en_ok (ev_cons (by simp [eVar, h0]) (ev_cons e ev_nil)) e1, hx, r1⟩
theorem text_in {h : List O} {gb : List O} (r : Rw gb h) {a b : Int} {sg : List Nat} (ha : 0 ≤ a) (hab : a ≤ b) (hb : b ≤ 100) (hs : sg ≠ []) (hl : sg.length < 1000000) {σ : S} (h0 : σ[0]? = some (.val (.ref 0))) :
    ∃ s h', eN m__law_text [eVar 0, eC (.int a), eC (.int b), eC (.str sg)] σ h = .ok (.str s) h' ∧ a ≤ s.length ∧ (s.length : Int) ≤ b ∧ (∀ c ∈ s, c ∈ sg) ∧ Rw gb h' := by
  obtain ⟨s, h1, e, q1, q2, q3, r1⟩ := text r ha hab hb hs hl
  exact ⟨s, h1, en_ok (ev_cons (by simp [eVar, h0]) (ev_cons rfl (ev_cons rfl (ev_cons rfl ev_nil)))) e, q1, q2, q3, r1⟩
end Cf
set_option Elab.async false
set_option linter.all false
set_option maxRecDepth 100000
set_option maxHeartbeats 4000000
/-! CpC: clues -/
namespace Cf
inductive Cl where
  | like (p : List Nat)
  | begins (t : List Nat)
  | ends (t : List Nat)
  | holds (t : List Nat)
  | count (c : Nat) (n : Int)
  | frm (a b : List Nat)
  | back (w : List Nat)
  | turned
  | neg (c : Cl)
  | both (c d : Cl)
  | either (c d : Cl)
def toD : Cl → D
  | .like p => .tup [k_LIKE, .str p]
  | .begins t => .tup [k_BEGINS, .str t]
  | .ends t => .tup [k_ENDS, .str t]
  | .holds t => .tup [k_HOLDS, .str t]
  | .count c n => .tup [k_COUNT, .str [c], .int n]
  | .frm a b => .tup [k_FROM, .str a, .str b]
  | .back w => .tup [k_BACK, .str w]
  | .turned => .tup [k_TURNED]
  | .neg c => .tup [k_NOT, toD c]
  | .both c d => .tup [k_BOTH, toD c, toD d]
  | .either c d => .tup [k_EITHER, toD c, toD d]
def okC : Cl → Prop
  | .like p => Tx p 2 4 (az ++ [63])
  | .begins t => Tx t 1 4 az
  | .ends t => Tx t 1 4 az
  | .holds t => Tx t 1 4 az
  | .count c n => c ∈ az ∧ 0 ≤ n ∧ n ≤ 4
  | .frm a b => Tx a 1 4 az ∧ Tx b 1 4 az
  | .back w => Tx w 2 4 az
  | .turned => True
  | .neg c => okC c
  | .both c d => okC c ∧ okC d
  | .either c d => okC c ∧ okC d
def dep : Cl → Nat
  | .neg c => dep c + 1
  | .both c d => max (dep c) (dep d) + 1
  | .either c d => max (dep c) (dep d) + 1
  | _ => 1
theorem is_text {s sg : List Nat} {a b : Nat} (q : Tx s a b sg) (h : List O) : m_is_text_of [.str s, .int a, .int b, .str sg] h = .ok (.bl true) h := by
  obtain ⟨q1, q2, q3⟩ := q
  have e := allGo_all (g := gVar 4) (t := tBl (e2 pIn (eVar 4) (eVar 3))) (σ := [.val (.str s), .val (.int a), .val (.int b), .val (.str sg), .no]) (h := h) (signs s) (fun d hd => by
    obtain ⟨c, hc, rfl⟩ := List.mem_map.mp hd
    exact ⟨_, rfl, by simp [tBl, e2, eVar, bindM, nx_ok, retM, pIn, inD, subIn_one, q3 c hc, ofOpt]⟩)
  simp [m_is_text_of, run, b_is_text_of, sRet, eAnd, e1, eVar, bindM, nx_ok, stmt_ok, pIsi, askable, isTy, retM, pTruth, truth, ofOpt, eChain, pLe, pCmp, pLen, eAll, iOf, itemsOf, noer, wipe, q1, q2]
  simp [e, nx_ok, stmt_ok, retM]
theorem is_word_ok {s : List Nat} (q : Tx s 2 4 az) (h : List O) : m_is_word [.str s] h = .ok (.bl true) h := by
  have e := is_text q h
  simp [m_is_word, run, b_is_word, sRet, eN, evs, eVar, eC, bindM, retM, nx_ok]
  rw [show m_is_text_of [.str s, k_LEAST_LETTERS, k_MOST_LETTERS, k_LETTERS] h = _ from e]
  rfl
theorem is_pattern_ok {s : List Nat} (q : Tx s 2 4 (az ++ [63])) (h : List O) : m_is_pattern [.str s] h = .ok (.bl true) h := by
  have e := is_text q h
  have e2 : pAdd k_LETTERS k_ANY h = .ok (.str (az ++ [63])) h := by rfl
  simp [m_is_pattern, run, b_is_pattern, sRet, eN, evs, eVar, eC, bindM, retM, nx_ok, Cf.e2, e2]
  rw [show m_is_text_of [.str s, k_LEAST_LETTERS, k_MOST_LETTERS, .str (az ++ [63])] h = _ from e]
  rfl
theorem is_number_ok {n : Int} {a b : Int} (h1 : a ≤ n) (h2 : n ≤ b) (h : List O) : m_is_number [.int n, .int a, .int b] h = .ok (.bl true) h := by
  simp [m_is_number, run, b_is_number, sRet, eAnd, e1, eVar, bindM, nx_ok, stmt_ok, pIsi, askable, isTy, retM, pTruth, truth, ofOpt, eChain, pLe, pCmp, eNot, h1, h2]
theorem l_like : t_SIZES.lookup [108, 105, 107, 101] = some 2 := by decide
theorem l_begins : t_SIZES.lookup [98, 101, 103, 105, 110, 115] = some 2 := by decide
theorem l_ends : t_SIZES.lookup [101, 110, 100, 115] = some 2 := by decide
theorem l_holds : t_SIZES.lookup [104, 111, 108, 100, 115] = some 2 := by decide
theorem l_count : t_SIZES.lookup [99, 111, 117, 110, 116] = some 3 := by decide
theorem l_from : t_SIZES.lookup [102, 114, 111, 109] = some 3 := by decide
theorem l_back : t_SIZES.lookup [98, 97, 99, 107] = some 2 := by decide
theorem l_turned : t_SIZES.lookup [116, 117, 114, 110, 101, 100] = some 1 := by decide
theorem l_not : t_SIZES.lookup [110, 111, 116] = some 2 := by decide
theorem l_both : t_SIZES.lookup [98, 111, 116, 104] = some 3 := by decide
theorem l_either : t_SIZES.lookup [101, 105, 116, 104, 101, 114] = some 3 := by decide
theorem is_clue_ok : ∀ (c : Cl) (n : Nat) (d : Int) (h : List O), okC c → dep c ≤ n → (dep c : Int) ≤ d → m_is_clue_of n [toD c, .int d] h = .ok (.bl true) h
  | c, 0, d, h, _, hn, _ => by cases c <;> simp [dep] at hn
  | .like p, n + 1, d, h, ok, hn, hd => by
    have hd0 : d ≠ 0 := by simp [dep] at hd; omega
    have e := is_pattern_ok ok h
    simp [run, sSeq, sIf, sPass, sRet, sSet, tOr, tNot, tOf, tBl, e1, e2, eVar, eC, bindM, nx_ok, stmt_ok, pIsi, askable, isTy, retM, pTruth, truth, ofOpt, toD, pLen, pEq_str, pEq_int, pNe_str, pNe_int, deq_str, pIdx, getAt, ixOf, pNotInTab, pGetTab, l_like, l_begins, l_ends, l_holds, l_count, l_from, l_back, l_turned, l_not, l_both, l_either, c_like, c_begins, c_ends, c_holds, c_count, c_from, c_back, c_turned, c_not, c_both, c_either, eTup, eN, evs, mkTup, pIn, inD, flat, eIf, eAnd, eAll, iOf, itemsOf, eSlice, optInt, pSlice, cut, clip, noer, allGo, wipe, pSub, gVar, m_is_clue_of, b_is_clue_of, hd0, e]
  | .begins t, n + 1, d, h, ok, hn, hd => by
    have hd0 : d ≠ 0 := by simp [dep] at hd; omega
    have e : m_is_text_of [.str t, .int 1, k_MOST_LETTERS, k_LETTERS] h = .ok (.bl true) h := is_text ok h
    simp [run, sSeq, sIf, sPass, sRet, sSet, tOr, tNot, tOf, tBl, e1, e2, eVar, eC, bindM, nx_ok, stmt_ok, pIsi, askable, isTy, retM, pTruth, truth, ofOpt, toD, pLen, pEq_str, pEq_int, pNe_str, pNe_int, deq_str, pIdx, getAt, ixOf, pNotInTab, pGetTab, l_like, l_begins, l_ends, l_holds, l_count, l_from, l_back, l_turned, l_not, l_both, l_either, c_like, c_begins, c_ends, c_holds, c_count, c_from, c_back, c_turned, c_not, c_both, c_either, eTup, eN, evs, mkTup, pIn, inD, flat, eIf, eAnd, eAll, iOf, itemsOf, eSlice, optInt, pSlice, cut, clip, noer, allGo, wipe, pSub, gVar, m_is_clue_of, b_is_clue_of, hd0, e]
  | .ends t, n + 1, d, h, ok, hn, hd => by
    have hd0 : d ≠ 0 := by simp [dep] at hd; omega
    have e : m_is_text_of [.str t, .int 1, k_MOST_LETTERS, k_LETTERS] h = .ok (.bl true) h := is_text ok h
    simp [run, sSeq, sIf, sPass, sRet, sSet, tOr, tNot, tOf, tBl, e1, e2, eVar, eC, bindM, nx_ok, stmt_ok, pIsi, askable, isTy, retM, pTruth, truth, ofOpt, toD, pLen, pEq_str, pEq_int, pNe_str, pNe_int, deq_str, pIdx, getAt, ixOf, pNotInTab, pGetTab, l_like, l_begins, l_ends, l_holds, l_count, l_from, l_back, l_turned, l_not, l_both, l_either, c_like, c_begins, c_ends, c_holds, c_count, c_from, c_back, c_turned, c_not, c_both, c_either, eTup, eN, evs, mkTup, pIn, inD, flat, eIf, eAnd, eAll, iOf, itemsOf, eSlice, optInt, pSlice, cut, clip, noer, allGo, wipe, pSub, gVar, m_is_clue_of, b_is_clue_of, hd0, e]
  | .holds t, n + 1, d, h, ok, hn, hd => by
    have hd0 : d ≠ 0 := by simp [dep] at hd; omega
    have e : m_is_text_of [.str t, .int 1, k_MOST_LETTERS, k_LETTERS] h = .ok (.bl true) h := is_text ok h
    simp [run, sSeq, sIf, sPass, sRet, sSet, tOr, tNot, tOf, tBl, e1, e2, eVar, eC, bindM, nx_ok, stmt_ok, pIsi, askable, isTy, retM, pTruth, truth, ofOpt, toD, pLen, pEq_str, pEq_int, pNe_str, pNe_int, deq_str, pIdx, getAt, ixOf, pNotInTab, pGetTab, l_like, l_begins, l_ends, l_holds, l_count, l_from, l_back, l_turned, l_not, l_both, l_either, c_like, c_begins, c_ends, c_holds, c_count, c_from, c_back, c_turned, c_not, c_both, c_either, eTup, eN, evs, mkTup, pIn, inD, flat, eIf, eAnd, eAll, iOf, itemsOf, eSlice, optInt, pSlice, cut, clip, noer, allGo, wipe, pSub, gVar, m_is_clue_of, b_is_clue_of, hd0, e]
  | .count c m, n + 1, d, h, ok, hn, hd => by
    have hd0 : d ≠ 0 := by simp [dep] at hd; omega
    have e : m_is_text_of [.str [c], .int 1, .int 1, k_LETTERS] h = .ok (.bl true) h := is_text (a := 1) (b := 1) ⟨by simp, by simp, by intro x hx; rw [List.mem_singleton.mp hx]; exact ok.1⟩ h
    have eb : m_is_number [.int m, .int 0, k_MOST_LETTERS] h = .ok (.bl true) h := is_number_ok ok.2.1 ok.2.2 h
    simp [run, sSeq, sIf, sPass, sRet, sSet, tOr, tNot, tOf, tBl, e1, e2, eVar, eC, bindM, nx_ok, stmt_ok, pIsi, askable, isTy, retM, pTruth, truth, ofOpt, toD, pLen, pEq_str, pEq_int, pNe_str, pNe_int, deq_str, pIdx, getAt, ixOf, pNotInTab, pGetTab, l_like, l_begins, l_ends, l_holds, l_count, l_from, l_back, l_turned, l_not, l_both, l_either, c_like, c_begins, c_ends, c_holds, c_count, c_from, c_back, c_turned, c_not, c_both, c_either, eTup, eN, evs, mkTup, pIn, inD, flat, eIf, eAnd, eAll, iOf, itemsOf, eSlice, optInt, pSlice, cut, clip, noer, allGo, wipe, pSub, gVar, m_is_clue_of, b_is_clue_of, hd0, e, eb]
  | .frm a b, n + 1, d, h, ok, hn, hd => by
    have hd0 : d ≠ 0 := by simp [dep] at hd; omega
    have e : m_is_text_of [.str a, .int 1, k_MOST_LETTERS, k_LETTERS] h = .ok (.bl true) h := is_text ok.1 h
    have eb : m_is_text_of [.str b, .int 1, k_MOST_LETTERS, k_LETTERS] h = .ok (.bl true) h := is_text ok.2 h
    simp [run, sSeq, sIf, sPass, sRet, sSet, tOr, tNot, tOf, tBl, e1, e2, eVar, eC, bindM, nx_ok, stmt_ok, pIsi, askable, isTy, retM, pTruth, truth, ofOpt, toD, pLen, pEq_str, pEq_int, pNe_str, pNe_int, deq_str, pIdx, getAt, ixOf, pNotInTab, pGetTab, l_like, l_begins, l_ends, l_holds, l_count, l_from, l_back, l_turned, l_not, l_both, l_either, c_like, c_begins, c_ends, c_holds, c_count, c_from, c_back, c_turned, c_not, c_both, c_either, eTup, eN, evs, mkTup, pIn, inD, flat, eIf, eAnd, eAll, iOf, itemsOf, eSlice, optInt, pSlice, cut, clip, noer, allGo, wipe, pSub, gVar, m_is_clue_of, b_is_clue_of, hd0, e, eb]
  | .back w, n + 1, d, h, ok, hn, hd => by
    have hd0 : d ≠ 0 := by simp [dep] at hd; omega
    have e := is_word_ok ok h
    simp [run, sSeq, sIf, sPass, sRet, sSet, tOr, tNot, tOf, tBl, e1, e2, eVar, eC, bindM, nx_ok, stmt_ok, pIsi, askable, isTy, retM, pTruth, truth, ofOpt, toD, pLen, pEq_str, pEq_int, pNe_str, pNe_int, deq_str, pIdx, getAt, ixOf, pNotInTab, pGetTab, l_like, l_begins, l_ends, l_holds, l_count, l_from, l_back, l_turned, l_not, l_both, l_either, c_like, c_begins, c_ends, c_holds, c_count, c_from, c_back, c_turned, c_not, c_both, c_either, eTup, eN, evs, mkTup, pIn, inD, flat, eIf, eAnd, eAll, iOf, itemsOf, eSlice, optInt, pSlice, cut, clip, noer, allGo, wipe, pSub, gVar, m_is_clue_of, b_is_clue_of, hd0, e]
  | .turned, n + 1, d, h, ok, hn, hd => by
    have hd0 : d ≠ 0 := by simp [dep] at hd; omega
    simp [run, sSeq, sIf, sPass, sRet, sSet, tOr, tNot, tOf, tBl, e1, e2, eVar, eC, bindM, nx_ok, stmt_ok, pIsi, askable, isTy, retM, pTruth, truth, ofOpt, toD, pLen, pEq_str, pEq_int, pNe_str, pNe_int, deq_str, pIdx, getAt, ixOf, pNotInTab, pGetTab, l_like, l_begins, l_ends, l_holds, l_count, l_from, l_back, l_turned, l_not, l_both, l_either, c_like, c_begins, c_ends, c_holds, c_count, c_from, c_back, c_turned, c_not, c_both, c_either, eTup, eN, evs, mkTup, pIn, inD, flat, eIf, eAnd, eAll, iOf, itemsOf, eSlice, optInt, pSlice, cut, clip, noer, allGo, wipe, pSub, gVar, m_is_clue_of, b_is_clue_of, hd0]
  | .neg c, n + 1, d, h, ok, hn, hd => by
    simp only [dep] at hn hd
    have hd0 : d ≠ 0 := by omega
    have e := is_clue_ok c n (d - 1) h ok (by omega) (by omega)
    simp [run, sSeq, sIf, sPass, sRet, sSet, tOr, tNot, tOf, tBl, e1, e2, eVar, eC, bindM, nx_ok, stmt_ok, pIsi, askable, isTy, retM, pTruth, truth, ofOpt, toD, pLen, pEq_str, pEq_int, pNe_str, pNe_int, deq_str, pIdx, getAt, ixOf, pNotInTab, pGetTab, l_like, l_begins, l_ends, l_holds, l_count, l_from, l_back, l_turned, l_not, l_both, l_either, c_like, c_begins, c_ends, c_holds, c_count, c_from, c_back, c_turned, c_not, c_both, c_either, eTup, eN, evs, mkTup, pIn, inD, flat, eIf, eAnd, eAll, iOf, itemsOf, eSlice, optInt, pSlice, cut, clip, noer, allGo, wipe, pSub, gVar, m_is_clue_of, b_is_clue_of, hd0, e]
  | .both a b, n + 1, d, h, ok, hn, hd => by
    simp only [dep] at hn hd
    have hd0 : d ≠ 0 := by omega
    have e := is_clue_ok a n (d - 1) h ok.1 (by omega) (by omega)
    have eb := is_clue_ok b n (d - 1) h ok.2 (by omega) (by omega)
    simp [run, sSeq, sIf, sPass, sRet, sSet, tOr, tNot, tOf, tBl, e1, e2, eVar, eC, bindM, nx_ok, stmt_ok, pIsi, askable, isTy, retM, pTruth, truth, ofOpt, toD, pLen, pEq_str, pEq_int, pNe_str, pNe_int, deq_str, pIdx, getAt, ixOf, pNotInTab, pGetTab, l_like, l_begins, l_ends, l_holds, l_count, l_from, l_back, l_turned, l_not, l_both, l_either, c_like, c_begins, c_ends, c_holds, c_count, c_from, c_back, c_turned, c_not, c_both, c_either, eTup, eN, evs, mkTup, pIn, inD, flat, eIf, eAnd, eAll, iOf, itemsOf, eSlice, optInt, pSlice, cut, clip, noer, allGo, wipe, pSub, gVar, m_is_clue_of, b_is_clue_of, hd0, e, eb]
  | .either a b, n + 1, d, h, ok, hn, hd => by
    simp only [dep] at hn hd
    have hd0 : d ≠ 0 := by omega
    have e := is_clue_ok a n (d - 1) h ok.1 (by omega) (by omega)
    have eb := is_clue_ok b n (d - 1) h ok.2 (by omega) (by omega)
    simp [run, sSeq, sIf, sPass, sRet, sSet, tOr, tNot, tOf, tBl, e1, e2, eVar, eC, bindM, nx_ok, stmt_ok, pIsi, askable, isTy, retM, pTruth, truth, ofOpt, toD, pLen, pEq_str, pEq_int, pNe_str, pNe_int, deq_str, pIdx, getAt, ixOf, pNotInTab, pGetTab, l_like, l_begins, l_ends, l_holds, l_count, l_from, l_back, l_turned, l_not, l_both, l_either, c_like, c_begins, c_ends, c_holds, c_count, c_from, c_back, c_turned, c_not, c_both, c_either, eTup, eN, evs, mkTup, pIn, inD, flat, eIf, eAnd, eAll, iOf, itemsOf, eSlice, optInt, pSlice, cut, clip, noer, allGo, wipe, pSub, gVar, m_is_clue_of, b_is_clue_of, hd0, e, eb]
def Good (d : Nat) (x : D) : Prop := ∃ c, x = toD c ∧ okC c ∧ dep c ≤ d
theorem check_er (s : List Nat) (hs : s.length ≤ 1000000) (h : List O) : m_check [.bl false, .str s] h = .er "BadArgument" [.str s] h := by
  simp [m_check, run, b_check, sIf, tNot, tOf, eVar, bindM, nx_ok, pTruth, truth, ofOpt, retM, stmt_ok, sRaise, evs, exOk, exOk1, hs]
theorem check_ok (s : List Nat) (h : List O) : m_check [.bl true, .str s] h = .ok .non h := by
  simp [m_check, run, b_check, sIf, tNot, tOf, eVar, bindM, nx_ok, pTruth, truth, ofOpt, retM, stmt_ok, sPass]
end Cf
set_option Elab.async false
set_option linter.all false
set_option maxRecDepth 100000
set_option maxHeartbeats 4000000
/-! CpG: drawn clues -/
namespace Cf
abbrev K8 : List D := [.str (cps "like"), .str (cps "begins"), .str (cps "ends"), .str (cps "holds"), .str (cps "count"), .str (cps "from"), .str (cps "back"), .str (cps "turned")]
abbrev K3 : List D := [.str (cps "not"), .str (cps "both"), .str (cps "either")]
theorem tail_bgh {h : List O} {gb : List O} (r : Rw gb h) (kd : D) (l : D) (d : Int) : ∃ s h', eTup [eVar 3, eN m__law_text [eVar 0, eC (.int 1), eN m__law_pick [eVar 0, eLst [eC (.int 1), eC (.int 2), eC (.int 4)]], eC (.str (cps "abc"))]] [.val (.ref 0), .val (.int d), .val l, .val kd, .no] h = .ok (.tup [kd, .str s]) h' ∧ Tx s 1 4 az ∧ Rw gb h' := by
  obtain ⟨x, h1, e1, hx, r1⟩ := pick_in r (xs := [.int 1, .int 2, .int 4]) (by simp) (by simp) (σ := [.val (.ref 0), .val (.int d), .val l, .val kd, .no]) (a := eLst [eC (.int 1), eC (.int 2), eC (.int 4)]) rfl rfl
  have hm : ∃ b : Int, x = .int b ∧ 1 ≤ b ∧ b ≤ 4 := by
    simp only [List.mem_cons, List.not_mem_nil, or_false] at hx
    rcases hx with rfl | rfl | rfl <;> exact ⟨_, rfl, by decide, by decide⟩
  obtain ⟨b, rfl, b1, b4⟩ := hm
  obtain ⟨s, h2, e2', q1, q2, q3, r2⟩ := text r1 (a := 1) (b := b) (sg := cps "abc") (by decide) b1 (by omega) (by decide) (by decide)
  have t1 : Tx s 1 4 az := ⟨by omega, by omega, fun c hc => (by decide : ∀ c ∈ cps "abc", c ∈ az) c (q3 c hc)⟩
  exact ⟨s, h2, tup2 rfl (en_ok (ev_cons rfl (ev_cons rfl (ev_cons e1 (ev_cons rfl ev_nil)))) e2'), t1, r2⟩
theorem tail_text {h : List O} {gb : List O} (r : Rw gb h) (kd l : D) (d : Int) {a b : Int} {sg : List Nat} (ha : 0 ≤ a) (hab : a ≤ b) (hb : b ≤ 100) (hs : sg ≠ []) (hl : sg.length < 1000000) : ∃ s h', eTup [eVar 3, eN m__law_text [eVar 0, eC (.int a), eC (.int b), eC (.str sg)]] [.val (.ref 0), .val (.int d), .val l, .val kd, .no] h = .ok (.tup [kd, .str s]) h' ∧ (a ≤ s.length ∧ (s.length : Int) ≤ b ∧ ∀ c ∈ s, c ∈ sg) ∧ Rw gb h' := by
  obtain ⟨s, h1, e, q1, q2, q3, r1⟩ := text_in r ha hab hb hs hl (σ := [.val (.ref 0), .val (.int d), .val l, .val kd, .no]) rfl
  exact ⟨s, h1, tup2 rfl e, ⟨q1, q2, q3⟩, r1⟩
theorem tail_count {h : List O} {gb : List O} (r : Rw gb h) (kd l : D) (d : Int) : ∃ c m h', eTup [eVar 3, eN m__law_pick [eVar 0, eLst [eC (.str (cps "a")), eC (.str (cps "b")), eC (.str (cps "c")), eC (.str (cps "z"))]], eN m__law_taken [eVar 0, eN m__law_pick [eVar 0, eLst [eC (.int 2), eC (.int 5)]]]] [.val (.ref 0), .val (.int d), .val l, .val kd, .no] h = .ok (.tup [kd, .str [c], .int m]) h' ∧ (c ∈ az ∧ 0 ≤ m ∧ m ≤ 4) ∧ Rw gb h' := by
  obtain ⟨x, h1, e1, hx, r1⟩ := pick_in r (xs := [.str (cps "a"), .str (cps "b"), .str (cps "c"), .str (cps "z")]) (by simp) (by simp) (σ := [.val (.ref 0), .val (.int d), .val l, .val kd, .no]) (a := eLst [eC (.str (cps "a")), eC (.str (cps "b")), eC (.str (cps "c")), eC (.str (cps "z"))]) rfl rfl
  have hm : ∃ c, x = .str [c] ∧ c ∈ az := by
    simp only [List.mem_cons, List.not_mem_nil, or_false] at hx
    rcases hx with rfl | rfl | rfl | rfl
    · exact ⟨97, rfl, by decide⟩
    · exact ⟨98, rfl, by decide⟩
    · exact ⟨99, rfl, by decide⟩
    · exact ⟨122, rfl, by decide⟩
  obtain ⟨c, rfl, hc⟩ := hm
  obtain ⟨x, h2, e2', hx, r2⟩ := pick_in r1 (xs := [.int 2, .int 5]) (by simp) (by simp) (σ := [.val (.ref 0), .val (.int d), .val l, .val kd, .no]) (a := eLst [eC (.int 2), eC (.int 5)]) rfl rfl
  have hm : ∃ b : Int, x = .int b ∧ 1 ≤ b ∧ b ≤ 5 := by
    simp only [List.mem_cons, List.not_mem_nil, or_false] at hx
    rcases hx with rfl | rfl <;> exact ⟨_, rfl, by decide, by decide⟩
  obtain ⟨b, rfl, b1, b5⟩ := hm
  obtain ⟨v, h3, e3, v0, v1, r3⟩ := taken r2 (m := b) (by omega) (by omega)
  exact ⟨c, v, h3, tup3 rfl e1 (en_ok (ev_cons rfl (ev_cons e2' ev_nil)) e3), ⟨hc, v0, by omega⟩, r3⟩
theorem tail_from {h : List O} {gb : List O} (r : Rw gb h) (kd l : D) (d : Int) : ∃ s t h', eTup [eVar 3, eN m__law_text [eVar 0, eC (.int 1), eC (.int 4), eC (.str (cps "abcd"))], eN m__law_text [eVar 0, eC (.int 1), eC (.int 4), eC (.str (cps "abcdz"))]] [.val (.ref 0), .val (.int d), .val l, .val kd, .no] h = .ok (.tup [kd, .str s, .str t]) h' ∧ (Tx s 1 4 az ∧ Tx t 1 4 az) ∧ Rw gb h' := by
  obtain ⟨s, h1, e, q1, q2, q3, r1⟩ := text_in r (a := 1) (b := 4) (sg := cps "abcd") (by decide) (by decide) (by decide) (by decide) (by decide) (σ := [.val (.ref 0), .val (.int d), .val l, .val kd, .no]) rfl
  obtain ⟨t, h2, e', p1, p2, p3, r2⟩ := text_in r1 (a := 1) (b := 4) (sg := cps "abcdz") (by decide) (by decide) (by decide) (by decide) (by decide) (σ := [.val (.ref 0), .val (.int d), .val l, .val kd, .no]) rfl
  exact ⟨s, t, h2, tup3 rfl e e', ⟨⟨by omega, by omega, fun c hc => (by decide : ∀ c ∈ cps "abcd", c ∈ az) c (q3 c hc)⟩, ⟨by omega, by omega, fun c hc => (by decide : ∀ c ∈ cps "abcdz", c ∈ az) c (p3 c hc)⟩⟩, r2⟩
theorem eComp_draw {P : D → Prop} {it : I} {g : G} {e : E} {vs : List Nat} {σ : S} {h : List O} {ds : List D} (hi : it σ h = .ok ds h) (hl : ds.length ≤ 16000000) {gb : List O} (r : Rw gb h) (q : ∀ d ∈ ds, ∃ σ1, g d (wipe σ vs) = some σ1 ∧ ∀ h, Rw gb h → ∃ y h', e σ1 h = .ok y h' ∧ P y ∧ Rw gb h') :
    ∃ ys h', eComp it g tYes e vs σ h = .ok (.lst ys) h' ∧ ys.length = ds.length ∧ (∀ y ∈ ys, P y) ∧ Rw gb h' := by
  obtain ⟨ys, h', e1, e2, e3, e4⟩ := comp_draw (Rw gb) ds h r q
  refine ⟨ys, h', ?_, e2, e3, e4⟩
  have l : ys.length ≤ 16000000 := by omega
  simp [eComp, comp, bindM, hi, nx_ok, noer, e1, retM, l]
theorem subs {m : List D → M D} {h : List O} {gb : List O} (r : Rw gb h) (k : List Nat) (l : D) (d c : Int) (hc : c = (if (k == cps "not") = true then 1 else 2)) {P : D → Prop} (q : ∀ h, Rw gb h → ∃ y h', m [.ref 0, .int (d - 1)] h = .ok y h' ∧ P y ∧ Rw gb h') :
    ∃ ys h', e2 pAdd (eTup [eVar 3]) (e1 pTuple (eComp (iRange1 (eIf (tOf (e2 pEq (eVar 3) (eC (.str (cps "not"))))) (eC (.int 1)) (eC (.int 2)))) (gVar 4) (tYes) (eN m [eVar 0, e2 pSub (eVar 1) (eC (.int 1))]) [4])) [.val (.ref 0), .val (.int d), .val l, .val (.str k), .no] h = .ok (.tup (.str k :: ys)) h' ∧ ys.length = c.toNat ∧ (∀ y ∈ ys, P y) ∧ Rw gb h' := by
  have hi : iRange1 (eIf (tOf (e2 pEq (eVar 3) (eC (.str (cps "not"))))) (eC (.int 1)) (eC (.int 2))) [.val (.ref 0), .val (.int d), .val l, .val (.str k), .no] h = .ok (rangeD 0 c) h := by
    cases hk : (k == cps "not") with
    | true =>
      rw [hk] at hc
      simp at hc
      subst hc
      exact range_it ((ifT (kindR rfl hk)).trans rfl) (small_ok (by decide) (by decide))
    | false =>
      rw [hk] at hc
      simp at hc
      subst hc
      exact range_it ((ifF (kindR rfl hk)).trans rfl) (small_ok (by decide) (by decide))
  have c2 : c ≤ 2 := by rw [hc]; split <;> decide
  obtain ⟨ys, h', e, l1, p, r'⟩ := eComp_draw (g := gVar 4) (e := eN m [eVar 0, e2 pSub (eVar 1) (eC (.int 1))]) (vs := [4]) (P := P) hi (range_len (by omega)) r (fun x hx => by
    obtain ⟨i, rfl, _, _⟩ := rangeD_mem hx
    refine ⟨_, rfl, fun h r => ?_⟩
    obtain ⟨y, h', e, p, r'⟩ := q h r
    exact ⟨y, h', en_ok (ev_cons rfl (ev_cons rfl ev_nil)) e, p, r'⟩)
  rw [rangeD_len] at l1
  refine ⟨ys, h', ?_, by omega, p, r'⟩
  refine (e2_ok (u := .tup [.str k]) (v := .tup ys) (h2 := h') rfl ((e1_ok e).trans rfl)).trans ?_
  have l2 : [D.str k].length + ys.length ≤ 16000000 := by simp; omega
  simp only [pAdd]
  rw [if_pos l2]
  rfl
theorem gen_clue {gb : List O} : ∀ (n : Nat) (d : Int) (h : List O), Rw gb h → 1 ≤ d → d ≤ n → ∃ x h', m__law_clue n [.ref 0, .int d] h = .ok x h' ∧ Good d.toNat x ∧ Rw gb h'
  | 0, d, h, r, h1, h2 => by omega
  | n + 1, d, h, r, h1, h2 => by
    have hL : ∃ L : List D, (e2 pAdd (eVar 2) (eIf (tOf (e2 pGt (eVar 1) (eC (.int 1)))) (eLst [eC (.str (cps "not")), eC (.str (cps "both")), eC (.str (cps "either"))]) (eLst []))) [.val (.ref 0), .val (.int d), .val (.lst K8), .no, .no] h = .ok (.lst L) h ∧ L ≠ [] ∧ L.length < 1000000 ∧ ∀ x ∈ L, x ∈ K8 ∨ (1 < d ∧ x ∈ K3) := by
      by_cases hd : 1 < d
      · refine ⟨K8 ++ K3, (e2_ok (u := .lst K8) (v := .lst K3) (h1 := h) (h2 := h) rfl ((ifT ?_).trans rfl)).trans rfl, by simp, by simp, fun x hx => (List.mem_append.mp hx).imp id fun z => ⟨hd, z⟩⟩
        simp [tOf, e2, bindM, eVar, eC, retM, nx_ok, pGt, pCmp, pTruth, truth, ofOpt, hd]
      · refine ⟨K8 ++ [], (e2_ok (u := .lst K8) (v := .lst []) (h1 := h) (h2 := h) rfl ((ifF ?_).trans rfl)).trans rfl, by simp, by simp, fun x hx => .inl (by simpa using hx)⟩
        simp [tOf, e2, bindM, eVar, eC, retM, nx_ok, pGt, pCmp, pTruth, truth, ofOpt, hd]
    obtain ⟨L, eL, L0, L1, L2⟩ := hL
    obtain ⟨x, h1', ex, hx, r1⟩ := pick_in r L0 L1 (σ := [.val (.ref 0), .val (.int d), .val (.lst K8), .no, .no]) rfl eL
    have dd : ((d.toNat : Nat) : Int) = d := by omega
    rcases L2 x hx with hx | ⟨hd, hx⟩
    · simp only [List.mem_cons, List.not_mem_nil, or_false] at hx
      rcases hx with rfl | rfl | rfl | rfl | rfl | rfl | rfl | rfl
      · obtain ⟨s, h2', e, q, r2⟩ := tail_text r1 (.str (cps "like")) (.lst K8) d (a := 2) (b := 4) (sg := cps "ab?c?") (by decide) (by decide) (by decide) (by decide) (by decide)
        exact ⟨_, h2', runR rfl ((stepS (d := .lst K8) rfl).trans ((stepS ex).trans ((stepF (kindI [cps "not", cps "both", cps "either"] (a := cps "like") rfl (by decide))).trans (stepT (kindR (a := cps "like") rfl (by decide)) (retR e))))), ⟨.like s, rfl, ⟨by omega, by omega, fun c hc => (by decide : ∀ c ∈ cps "ab?c?", c ∈ az ++ [63]) c (q.2.2 c hc)⟩, by simp [dep]; omega⟩, r2⟩
      · obtain ⟨s, h2', e, q, r2⟩ := tail_bgh r1 (.str (cps "begins")) (.lst K8) d
        exact ⟨_, h2', runR rfl ((stepS (d := .lst K8) rfl).trans ((stepS ex).trans ((stepF (kindI [cps "not", cps "both", cps "either"] (a := cps "begins") rfl (by decide))).trans ((stepF (kindR (a := cps "begins") rfl (by decide))).trans (stepT (kindI [cps "begins", cps "ends", cps "holds"] (a := cps "begins") rfl (by decide)) (retR e)))))), ⟨.begins s, rfl, q, by simp [dep]; omega⟩, r2⟩
      · obtain ⟨s, h2', e, q, r2⟩ := tail_bgh r1 (.str (cps "ends")) (.lst K8) d
        exact ⟨_, h2', runR rfl ((stepS (d := .lst K8) rfl).trans ((stepS ex).trans ((stepF (kindI [cps "not", cps "both", cps "either"] (a := cps "ends") rfl (by decide))).trans ((stepF (kindR (a := cps "ends") rfl (by decide))).trans (stepT (kindI [cps "begins", cps "ends", cps "holds"] (a := cps "ends") rfl (by decide)) (retR e)))))), ⟨.ends s, rfl, q, by simp [dep]; omega⟩, r2⟩
      · obtain ⟨s, h2', e, q, r2⟩ := tail_bgh r1 (.str (cps "holds")) (.lst K8) d
        exact ⟨_, h2', runR rfl ((stepS (d := .lst K8) rfl).trans ((stepS ex).trans ((stepF (kindI [cps "not", cps "both", cps "either"] (a := cps "holds") rfl (by decide))).trans ((stepF (kindR (a := cps "holds") rfl (by decide))).trans (stepT (kindI [cps "begins", cps "ends", cps "holds"] (a := cps "holds") rfl (by decide)) (retR e)))))), ⟨.holds s, rfl, q, by simp [dep]; omega⟩, r2⟩
      · obtain ⟨c, m, h2', e, q, r2⟩ := tail_count r1 (.str (cps "count")) (.lst K8) d
        exact ⟨_, h2', runR rfl ((stepS (d := .lst K8) rfl).trans ((stepS ex).trans ((stepF (kindI [cps "not", cps "both", cps "either"] (a := cps "count") rfl (by decide))).trans ((stepF (kindR (a := cps "count") rfl (by decide))).trans ((stepF (kindI [cps "begins", cps "ends", cps "holds"] (a := cps "count") rfl (by decide))).trans (stepT (kindR (a := cps "count") rfl (by decide)) (retR e))))))), ⟨.count c m, rfl, q, by simp [dep]; omega⟩, r2⟩
      · obtain ⟨s, t, h2', e, q, r2⟩ := tail_from r1 (.str (cps "from")) (.lst K8) d
        exact ⟨_, h2', runR rfl ((stepS (d := .lst K8) rfl).trans ((stepS ex).trans ((stepF (kindI [cps "not", cps "both", cps "either"] (a := cps "from") rfl (by decide))).trans ((stepF (kindR (a := cps "from") rfl (by decide))).trans ((stepF (kindI [cps "begins", cps "ends", cps "holds"] (a := cps "from") rfl (by decide))).trans ((stepF (kindR (a := cps "from") rfl (by decide))).trans (stepT (kindR (a := cps "from") rfl (by decide)) (retR e)))))))), ⟨.frm s t, rfl, q, by simp [dep]; omega⟩, r2⟩
      · obtain ⟨s, h2', e, q, r2⟩ := tail_text r1 (.str (cps "back")) (.lst K8) d (a := 2) (b := 4) (sg := cps "abc") (by decide) (by decide) (by decide) (by decide) (by decide)
        exact ⟨_, h2', runR rfl ((stepS (d := .lst K8) rfl).trans ((stepS ex).trans ((stepF (kindI [cps "not", cps "both", cps "either"] (a := cps "back") rfl (by decide))).trans ((stepF (kindR (a := cps "back") rfl (by decide))).trans ((stepF (kindI [cps "begins", cps "ends", cps "holds"] (a := cps "back") rfl (by decide))).trans ((stepF (kindR (a := cps "back") rfl (by decide))).trans ((stepF (kindR (a := cps "back") rfl (by decide))).trans (retR ((ifT (kindR (a := cps "back") rfl (by decide))).trans e))))))))), ⟨.back s, rfl, ⟨by omega, by omega, fun c hc => (by decide : ∀ c ∈ cps "abc", c ∈ az) c (q.2.2 c hc)⟩, by simp [dep]; omega⟩, r2⟩
      · exact ⟨_, h1', runR rfl ((stepS (d := .lst K8) rfl).trans ((stepS ex).trans ((stepF (kindI [cps "not", cps "both", cps "either"] (a := cps "turned") rfl (by decide))).trans ((stepF (kindR (a := cps "turned") rfl (by decide))).trans ((stepF (kindI [cps "begins", cps "ends", cps "holds"] (a := cps "turned") rfl (by decide))).trans ((stepF (kindR (a := cps "turned") rfl (by decide))).trans ((stepF (kindR (a := cps "turned") rfl (by decide))).trans (retR ((ifF (kindR (a := cps "turned") rfl (by decide))).trans rfl))))))))), ⟨.turned, rfl, True.intro, by simp [dep]; omega⟩, r1⟩
    · have ih := fun h (r : Rw gb h) => gen_clue n (d - 1) h r (by omega) (by omega)
      simp only [List.mem_cons, List.not_mem_nil, or_false] at hx
      rcases hx with rfl | rfl | rfl
      · obtain ⟨ys, h2', e, l, q, r2⟩ := subs (P := Good (d - 1).toNat) r1 (cps "not") (.lst K8) d 1 rfl ih
        match ys, l with
        | [y], _ =>
          obtain ⟨c, rfl, okc, hdc⟩ := q y List.mem_cons_self
          exact ⟨_, h2', runR rfl ((stepS (d := .lst K8) rfl).trans ((stepS ex).trans (stepT (kindI [cps "not", cps "both", cps "either"] (a := cps "not") rfl (by decide)) (retR e)))), ⟨.neg c, rfl, okc, by simp only [dep]; omega⟩, r2⟩
      · obtain ⟨ys, h2', e, l, q, r2⟩ := subs (P := Good (d - 1).toNat) r1 (cps "both") (.lst K8) d 2 rfl ih
        match ys, l with
        | [y, z], _ =>
          obtain ⟨c, rfl, okc, hdc⟩ := q y List.mem_cons_self
          obtain ⟨c2, rfl, okc2, hdc2⟩ := q z (by simp)
          exact ⟨_, h2', runR rfl ((stepS (d := .lst K8) rfl).trans ((stepS ex).trans (stepT (kindI [cps "not", cps "both", cps "either"] (a := cps "both") rfl (by decide)) (retR e)))), ⟨.both c c2, rfl, ⟨okc, okc2⟩, by simp only [dep]; omega⟩, r2⟩
      · obtain ⟨ys, h2', e, l, q, r2⟩ := subs (P := Good (d - 1).toNat) r1 (cps "either") (.lst K8) d 2 rfl ih
        match ys, l with
        | [y, z], _ =>
          obtain ⟨c, rfl, okc, hdc⟩ := q y List.mem_cons_self
          obtain ⟨c2, rfl, okc2, hdc2⟩ := q z (by simp)
          exact ⟨_, h2', runR rfl ((stepS (d := .lst K8) rfl).trans ((stepS ex).trans (stepT (kindI [cps "not", cps "both", cps "either"] (a := cps "either") rfl (by decide)) (retR e)))), ⟨.either c c2, rfl, ⟨okc, okc2⟩, by simp only [dep]; omega⟩, r2⟩
end Cf
set_option Elab.async false
set_option linter.all false
set_option maxRecDepth 100000
set_option maxHeartbeats 4000000
/-! CpE: what a clue says of a word -/
namespace Cf
def likeB : List Nat → List Nat → Bool
  | x :: xs, y :: ys => (63 == x || y == x) && likeB xs ys
  | _, _ => true
def sem : Cl → List Nat → Bool
  | .like p, w => p.length == w.length && likeB p w
  | .begins t, w => w.take t.length == t
  | .ends t, w => decide (t.length ≤ w.length) && (w.drop (w.length - t.length) == t)
  | .holds t, w => subIn t w
  | .count c n, w => ((w.count c : Nat) : Int) == n
  | .frm a b, w => decide (a ≤ w) && decide (w ≤ b)
  | .back t, w => w.reverse == t
  | .turned, w => w.reverse == w
  | .neg c, w => !sem c w
  | .both c d, w => sem c w && sem d w
  | .either c d, w => sem c w || sem d w
theorem zip_like (h : List O) (σ : S) (hs : σ.length = 4) : ∀ p w : List Nat, allGo (gTup [gVar 2, gVar 3]) (tBl (e2 pIn (eVar 2) (eTup [eC k_ANY, eVar 3]))) σ (zipD (signs p) (signs w)) h = .ok (likeB p w) h
  | [], _ => rfl
  | x :: p, [] => rfl
  | x :: p, y :: w => by
    have ih := zip_like h σ hs p w
    have e1 : gTup [gVar 2, gVar 3] (.tup [.str [x], .str [y]]) σ = some ((σ.set 2 (.val (.str [x]))).set 3 (.val (.str [y]))) := rfl
    have e2' : tBl (e2 pIn (eVar 2) (eTup [eC k_ANY, eVar 3])) ((σ.set 2 (.val (.str [x]))).set 3 (.val (.str [y]))) h = .ok (63 == x || y == x) h := by
      simp [tBl, e2, eVar, bindM, hs, nx_ok, eTup, eN, evs, eC, retM, mkTup, pIn, inD, flat, deq_str, ofOpt, c_any, List.getElem?_set]
    show allGo _ _ _ (.tup [.str [x], .str [y]] :: zipD (signs p) (signs w)) h = _
    simp only [allGo, e1, bindM, e2', nx_ok]
    cases hb : (63 == x || y == x) with
    | true => simp [ih, likeB, hb]
    | false => simp [retM, likeB, hb]
theorem fits (p w : List Nat) (h : List O) : m_fits_pattern [.str p, .str w] h = .ok (.bl (sem (.like p) w)) h := by
  have e := zip_like h [.val (.str p), .val (.str w), .no, .no] rfl p w
  cases hl : (p.length == w.length) with
  | false =>
    have hl' : ¬ p.length = w.length := by simpa using hl
    have hl2 : ¬ (p.length : Int) = w.length := by omega
    simp [m_fits_pattern, run, b_fits_pattern, sRet, eAnd, Cf.e2, e1, eVar, pLen, bindM, retM, nx_ok, stmt_ok, pEq_int, pTruth, truth, ofOpt, hl2, sem, hl']
    rw [hl, Bool.false_and]
    exact beq_eq_false_iff_ne.mpr hl2
  | true =>
    have hl' : p.length = w.length := by simpa using hl
    simp [m_fits_pattern, run, b_fits_pattern, sRet, eAnd, Cf.e2, e1, eVar, pLen, bindM, retM, nx_ok, stmt_ok, pEq_int, pTruth, truth, ofOpt, sem, hl', eAll, iZip, itemsOf, wipe, noer]
    rw [show allGo (gTup [gVar 2, gVar 3]) (tBl (Cf.e2 pIn (eVar 2) (eTup [eC k_ANY, eVar 3]))) [.val (.str p), .val (.str w), .no, .no] (zipD (signs p) (signs w)) h = _ from e]
    simp [nx_ok, retM, stmt_ok]
theorem meets_frm (a b : List Nat) (n : Nat) (w : List Nat) (h : List O) : m_plainly_meets (n + 1) [toD (.frm a b), .str w] h = .ok (.bl (sem (.frm a b) w)) h :=
  runR rfl ((stepS (d := k_FROM) rfl).trans ((stepF (kindR (a := cps "from") rfl (by decide))).trans ((stepF (kindR (a := cps "from") rfl (by decide))).trans ((stepF (kindR (a := cps "from") rfl (by decide))).trans ((stepF (kindR (a := cps "from") rfl (by decide))).trans ((stepF (kindR (a := cps "from") rfl (by decide))).trans (stepT (kindR (a := cps "from") rfl (by decide)) (retR (chain_le rfl rfl rfl)))))))))
theorem meets_ok : ∀ (c : Cl) (n : Nat) (w : List Nat) (h : List O), okC c → dep c ≤ n → m_plainly_meets n [toD c, .str w] h = .ok (.bl (sem c w)) h
  | c, 0, w, h, _, hn => by cases c <;> simp [dep] at hn
  | .like p, n + 1, w, h, ok, hn => by
    have e := fits p w h
    simp [run, sSeq, sIf, sPass, sRet, sSet, sPar, tOr, tNot, tOf, tBl, e1, e2, eVar, eC, bindM, nx_ok, stmt_ok, pIsi, askable, isTy, retM, pTruth, truth, ofOpt, toD, pLen, pEq_str, pEq_int, pNe_str, pNe_int, deq_str, pIdx, getAt, ixOf, c_like, c_begins, c_ends, c_holds, c_count, c_from, c_back, c_turned, c_not, c_both, c_either, eTup, eN, evs, mkTup, pIn, inD, flat, eIf, eAnd, eOr, eNot, eAll, iOf, itemsOf, eSlice, optInt, pSlice, noer, allGo, wipe, pSub, gVar, eS2, isStr, pCount, pRev, pLe, pLt, pGt, pCmp, eChain, eLst, mkLst, m_plainly_meets, b_plainly_meets, e]
  | .begins t, n + 1, w, h, ok, hn => by
    simp [run, sSeq, sIf, sPass, sRet, sSet, sPar, tOr, tNot, tOf, tBl, e1, e2, eVar, eC, bindM, nx_ok, stmt_ok, pIsi, askable, isTy, retM, pTruth, truth, ofOpt, toD, pLen, pEq_str, pEq_int, pNe_str, pNe_int, deq_str, pIdx, getAt, ixOf, c_like, c_begins, c_ends, c_holds, c_count, c_from, c_back, c_turned, c_not, c_both, c_either, eTup, eN, evs, mkTup, pIn, inD, flat, eIf, eAnd, eOr, eNot, eAll, iOf, itemsOf, eSlice, optInt, pSlice, noer, allGo, wipe, pSub, gVar, eS2, isStr, pCount, pRev, pLe, pLt, pGt, pCmp, eChain, eLst, mkLst, m_plainly_meets, b_plainly_meets, cut_to, sem]
  | .ends t, n + 1, w, h, ok, hn => by
    by_cases hl : t.length ≤ w.length
    · simp [run, sSeq, sIf, sPass, sRet, sSet, sPar, tOr, tNot, tOf, tBl, e1, e2, eVar, eC, bindM, nx_ok, stmt_ok, pIsi, askable, isTy, retM, pTruth, truth, ofOpt, toD, pLen, pEq_str, pEq_int, pNe_str, pNe_int, deq_str, pIdx, getAt, ixOf, c_like, c_begins, c_ends, c_holds, c_count, c_from, c_back, c_turned, c_not, c_both, c_either, eTup, eN, evs, mkTup, pIn, inD, flat, eIf, eAnd, eOr, eNot, eAll, iOf, itemsOf, eSlice, optInt, pSlice, noer, allGo, wipe, pSub, gVar, eS2, isStr, pCount, pRev, pLe, pLt, pGt, pCmp, eChain, eLst, mkLst, m_plainly_meets, b_plainly_meets, hl, cut_from w hl, sem]
    · simp [run, sSeq, sIf, sPass, sRet, sSet, sPar, tOr, tNot, tOf, tBl, e1, e2, eVar, eC, bindM, nx_ok, stmt_ok, pIsi, askable, isTy, retM, pTruth, truth, ofOpt, toD, pLen, pEq_str, pEq_int, pNe_str, pNe_int, deq_str, pIdx, getAt, ixOf, c_like, c_begins, c_ends, c_holds, c_count, c_from, c_back, c_turned, c_not, c_both, c_either, eTup, eN, evs, mkTup, pIn, inD, flat, eIf, eAnd, eOr, eNot, eAll, iOf, itemsOf, eSlice, optInt, pSlice, noer, allGo, wipe, pSub, gVar, eS2, isStr, pCount, pRev, pLe, pLt, pGt, pCmp, eChain, eLst, mkLst, m_plainly_meets, b_plainly_meets, hl, sem]
  | .holds t, n + 1, w, h, ok, hn => by
    simp [run, sSeq, sIf, sPass, sRet, sSet, sPar, tOr, tNot, tOf, tBl, e1, e2, eVar, eC, bindM, nx_ok, stmt_ok, pIsi, askable, isTy, retM, pTruth, truth, ofOpt, toD, pLen, pEq_str, pEq_int, pNe_str, pNe_int, deq_str, pIdx, getAt, ixOf, c_like, c_begins, c_ends, c_holds, c_count, c_from, c_back, c_turned, c_not, c_both, c_either, eTup, eN, evs, mkTup, pIn, inD, flat, eIf, eAnd, eOr, eNot, eAll, iOf, itemsOf, eSlice, optInt, pSlice, noer, allGo, wipe, pSub, gVar, eS2, isStr, pCount, pRev, pLe, pLt, pGt, pCmp, eChain, eLst, mkLst, m_plainly_meets, b_plainly_meets, sem]
  | .count c m, n + 1, w, h, ok, hn => by
    simp [run, sSeq, sIf, sPass, sRet, sSet, sPar, tOr, tNot, tOf, tBl, e1, e2, eVar, eC, bindM, nx_ok, stmt_ok, pIsi, askable, isTy, retM, pTruth, truth, ofOpt, toD, pLen, pEq_str, pEq_int, pNe_str, pNe_int, deq_str, pIdx, getAt, ixOf, c_like, c_begins, c_ends, c_holds, c_count, c_from, c_back, c_turned, c_not, c_both, c_either, eTup, eN, evs, mkTup, pIn, inD, flat, eIf, eAnd, eOr, eNot, eAll, iOf, itemsOf, eSlice, optInt, pSlice, noer, allGo, wipe, pSub, gVar, eS2, isStr, pCount, pRev, pLe, pLt, pGt, pCmp, eChain, eLst, mkLst, m_plainly_meets, b_plainly_meets, sem]
  | .frm a b, n + 1, w, h, ok, hn => meets_frm a b n w h
  | .back t, n + 1, w, h, ok, hn => by
    simp [run, sSeq, sIf, sPass, sRet, sSet, sPar, tOr, tNot, tOf, tBl, e1, e2, eVar, eC, bindM, nx_ok, stmt_ok, pIsi, askable, isTy, retM, pTruth, truth, ofOpt, toD, pLen, pEq_str, pEq_int, pNe_str, pNe_int, deq_str, pIdx, getAt, ixOf, c_like, c_begins, c_ends, c_holds, c_count, c_from, c_back, c_turned, c_not, c_both, c_either, eTup, eN, evs, mkTup, pIn, inD, flat, eIf, eAnd, eOr, eNot, eAll, iOf, itemsOf, eSlice, optInt, pSlice, noer, allGo, wipe, pSub, gVar, eS2, isStr, pCount, pRev, pLe, pLt, pGt, pCmp, eChain, eLst, mkLst, m_plainly_meets, b_plainly_meets, sem]
  | .turned, n + 1, w, h, ok, hn => by
    simp [run, sSeq, sIf, sPass, sRet, sSet, sPar, tOr, tNot, tOf, tBl, e1, e2, eVar, eC, bindM, nx_ok, stmt_ok, pIsi, askable, isTy, retM, pTruth, truth, ofOpt, toD, pLen, pEq_str, pEq_int, pNe_str, pNe_int, deq_str, pIdx, getAt, ixOf, c_like, c_begins, c_ends, c_holds, c_count, c_from, c_back, c_turned, c_not, c_both, c_either, eTup, eN, evs, mkTup, pIn, inD, flat, eIf, eAnd, eOr, eNot, eAll, iOf, itemsOf, eSlice, optInt, pSlice, noer, allGo, wipe, pSub, gVar, eS2, isStr, pCount, pRev, pLe, pLt, pGt, pCmp, eChain, eLst, mkLst, m_plainly_meets, b_plainly_meets, sem]
  | .neg c, n + 1, w, h, ok, hn => by
    simp only [dep] at hn
    have e := meets_ok c n w h ok (by omega)
    simp [run, sSeq, sIf, sPass, sRet, sSet, sPar, tOr, tNot, tOf, tBl, e1, e2, eVar, eC, bindM, nx_ok, stmt_ok, pIsi, askable, isTy, retM, pTruth, truth, ofOpt, toD, pLen, pEq_str, pEq_int, pNe_str, pNe_int, deq_str, pIdx, getAt, ixOf, c_like, c_begins, c_ends, c_holds, c_count, c_from, c_back, c_turned, c_not, c_both, c_either, eTup, eN, evs, mkTup, pIn, inD, flat, eIf, eAnd, eOr, eNot, eAll, iOf, itemsOf, eSlice, optInt, pSlice, noer, allGo, wipe, pSub, gVar, eS2, isStr, pCount, pRev, pLe, pLt, pGt, pCmp, eChain, eLst, mkLst, m_plainly_meets, b_plainly_meets, sem, e]
  | .both a b, n + 1, w, h, ok, hn => by
    simp only [dep] at hn
    have e := meets_ok a n w h ok.1 (by omega)
    have eb := meets_ok b n w h ok.2 (by omega)
    cases h1 : sem a w <;> simp [run, sSeq, sIf, sPass, sRet, sSet, sPar, tOr, tNot, tOf, tBl, e1, e2, eVar, eC, bindM, nx_ok, stmt_ok, pIsi, askable, isTy, retM, pTruth, truth, ofOpt, toD, pLen, pEq_str, pEq_int, pNe_str, pNe_int, deq_str, pIdx, getAt, ixOf, c_like, c_begins, c_ends, c_holds, c_count, c_from, c_back, c_turned, c_not, c_both, c_either, eTup, eN, evs, mkTup, pIn, inD, flat, eIf, eAnd, eOr, eNot, eAll, iOf, itemsOf, eSlice, optInt, pSlice, noer, allGo, wipe, pSub, gVar, eS2, isStr, pCount, pRev, pLe, pLt, pGt, pCmp, eChain, eLst, mkLst, m_plainly_meets, b_plainly_meets, sem, e, eb, h1]
  | .either a b, n + 1, w, h, ok, hn => by
    simp only [dep] at hn
    have e := meets_ok a n w h ok.1 (by omega)
    have eb := meets_ok b n w h ok.2 (by omega)
    cases h1 : sem a w <;> simp [run, sSeq, sIf, sPass, sRet, sSet, sPar, tOr, tNot, tOf, tBl, e1, e2, eVar, eC, bindM, nx_ok, stmt_ok, pIsi, askable, isTy, retM, pTruth, truth, ofOpt, toD, pLen, pEq_str, pEq_int, pNe_str, pNe_int, deq_str, pIdx, getAt, ixOf, c_like, c_begins, c_ends, c_holds, c_count, c_from, c_back, c_turned, c_not, c_both, c_either, eTup, eN, evs, mkTup, pIn, inD, flat, eIf, eAnd, eOr, eNot, eAll, iOf, itemsOf, eSlice, optInt, pSlice, noer, allGo, wipe, pSub, gVar, eS2, isStr, pCount, pRev, pLe, pLt, pGt, pCmp, eChain, eLst, mkLst, m_plainly_meets, b_plainly_meets, sem, e, eb, h1]
theorem likeB_iff : ∀ {p w : List Nat}, p.length = w.length → (likeB p w = true ↔ ∀ i, i < w.length → (63 == p.getD i 0 || w.getD i 0 == p.getD i 0) = true)
  | [], [], _ => by simp [likeB]
  | x :: p, y :: w, e => by
    have ih := likeB_iff (p := p) (w := w) (by simpa using e)
    rw [likeB, Bool.and_eq_true, ih]
    constructor
    · rintro ⟨a, b⟩ i hi
      cases i with
      | zero => exact a
      | succ i => exact b i (by simpa using hi)
    · intro q
      exact ⟨q 0 (by simp), fun i hi => q (i + 1) (by simpa using hi)⟩
def fL (p w : List Nat) : D → Bool
  | .int k => !(63 == p.getD k.toNat 0 || w.getD k.toNat 0 == p.getD k.toNat 0)
  | _ => false
theorem like_eq {p w : List Nat} (e : p.length = w.length) : ((rangeD 0 (w.length : Int)).filter (fL p w)).isEmpty = likeB p w := by
  rw [Bool.eq_iff_iff, empty_range, likeB_iff e]
  constructor
  · intro q i hi
    have z := q (i : Int) (by omega) (by omega)
    simp only [fL, Int.toNat_natCast, Bool.not_eq_false'] at z
    exact z
  · intro q k h0 h1
    simp only [fL, Bool.not_eq_false']
    exact q _ (by omega)
def fP (t w : List Nat) : D → Bool
  | .int k => cut w (some k) (some (k + (t.length : Int))) == t
  | _ => false
theorem beg_eq (t w : List Nat) : (decide ((0 : Int) ≤ 0 ∧ (0 : Int) < (w.length : Int) - t.length + 1) && fP t w (.int 0)) = sem (.begins t) w := by
  have z := cut_at w (k := 0) t.length (by omega) (by omega)
  simp only [Int.zero_add] at z
  simp only [fP, sem, Int.zero_add, z, Int.toNat_zero, List.drop_zero]
  by_cases hl : t.length ≤ w.length
  · have : (0 : Int) < (w.length : Int) - t.length + 1 := by omega
    simp [this]
  · have n1 : ¬ (0 : Int) < (w.length : Int) - t.length + 1 := by omega
    have n2 : (w.take t.length == t) = false := by
      rw [beq_eq_false_iff_ne]
      intro q
      have := congrArg List.length q
      rw [List.length_take] at this
      omega
    simp [n1, n2]
theorem end_eq (t w : List Nat) : (decide ((0 : Int) ≤ (w.length : Int) - t.length ∧ (w.length : Int) - t.length < (w.length : Int) - t.length + 1) && fP t w (.int ((w.length : Int) - t.length))) = sem (.ends t) w := by
  simp only [fP, sem]
  by_cases hl : t.length ≤ w.length
  · have h1 : (0 : Int) ≤ (w.length : Int) - t.length := by omega
    have e1 : ((w.length : Int) - t.length).toNat = w.length - t.length := by omega
    rw [cut_at w t.length h1 (by omega), e1]
    have e2 : (w.drop (w.length - t.length)).take t.length = w.drop (w.length - t.length) := List.take_of_length_le (by rw [List.length_drop]; omega)
    rw [e2]
    have c1 : (w.length : Int) - t.length < (w.length : Int) - t.length + 1 := by omega
    simp [h1, c1, hl]
  · have h1 : ¬ (0 : Int) ≤ (w.length : Int) - t.length := by omega
    simp [h1, hl]
theorem hold_eq (t w : List Nat) (ht : 1 ≤ t.length) : (!((rangeD 0 ((w.length : Int) - t.length + 1)).filter (fP t w)).isEmpty) = sem (.holds t) w := by
  have key : ((rangeD 0 ((w.length : Int) - t.length + 1)).filter (fP t w)).isEmpty = !subIn t w := by
    rw [Bool.eq_iff_iff, empty_range, Bool.not_eq_true', subIn]
    rw [List.any_eq_false]
    constructor
    · intro q i hi
      have hi := List.mem_range.mp hi
      by_cases hl : i + t.length ≤ w.length
      · have z := q (i : Int) (by omega) (by omega)
        simp only [fP] at z
        rw [cut_at w t.length (by omega) (by omega), Int.toNat_natCast] at z
        rw [z]; simp
      · simp only [beq_iff_eq]
        intro z
        have := congrArg List.length z
        rw [List.length_take, List.length_drop] at this
        omega
    · intro q k h0 h1
      have z := q k.toNat (List.mem_range.mpr (by omega))
      simp only [fP]
      rw [cut_at w t.length h0 (by omega)]
      simpa using z
  rw [key, Bool.not_not]
  rfl
def fC (c : Nat) : D → Bool
  | .str s => s == [c]
  | _ => false
theorem cnt_eq (c : Nat) : ∀ w : List Nat, ((signs w).filter (fC c)).length = w.count c
  | [] => rfl
  | x :: w => by
    have ih := cnt_eq c w
    show ((.str [x] :: signs w).filter (fC c)).length = _
    rw [List.filter_cons, List.count_cons]
    by_cases hx : x = c
    · simp [fC, hx, ih]
    · simp [fC, hx, ih]
def uR (w : List Nat) : D → D
  | .int k => .str [w.getD ((w.length : Int) - 1 - k).toNat 0]
  | _ => .non
theorem rev_eq (w : List Nat) : ((rangeD 0 (w.length : Int)).filter fun _ => true).map (uR w) = signs w.reverse := by
  rw [List.filter_eq_self.mpr fun _ _ => rfl]
  refine List.ext_getElem ?_ fun i h1 h2 => ?_
  · simp [rangeD, signs]
  · have h3 : i < w.length := by simpa [signs] using h2
    have e1 : ((w.length : Int) - 1 - (0 + (i : Int))).toNat = w.length - 1 - i := by omega
    have h4 : w.length - 1 - i < w.length := by omega
    have e3 : ((w.length : Int) - 1 - (i : Int)).toNat = w.length - 1 - i := by omega
    simp [rangeD, signs, uR, e1, e3, h4]
theorem places_ok (kd : D) (t w : List Nat) (hw : w.length ≤ 100) (ht : t.length ≤ 100) (h : List O) :
    eComp (iRange1 (e2 pAdd (e2 pSub (e1 pLen (eVar 1)) (e1 pLen (e2 pIdx (eVar 0) (eC (.int 1))))) (eC (.int 1)))) (gVar 6) (tOf (e2 pEq (eSlice (eVar 1) (some (eVar 6)) (some (e2 pAdd (eVar 6) (e1 pLen (e2 pIdx (eVar 0) (eC (.int 1))))))) (e2 pIdx (eVar 0) (eC (.int 1))))) (eVar 6) [6]
      [.val (.tup [kd, .str t]), .val (.str w), .val kd, .no, .no, .no, .no, .no] h = .ok (.lst ((rangeD 0 ((w.length : Int) - t.length + 1)).filter (fP t w))) h := by
  have sm : small ((w.length : Int) - t.length + 1) = true := small_ok (by omega) (by omega)
  have z := comp_f (it := iRange1 (e2 pAdd (e2 pSub (e1 pLen (eVar 1)) (e1 pLen (e2 pIdx (eVar 0) (eC (.int 1))))) (eC (.int 1)))) (g := gVar 6) (t := tOf (e2 pEq (eSlice (eVar 1) (some (eVar 6)) (some (e2 pAdd (eVar 6) (e1 pLen (e2 pIdx (eVar 0) (eC (.int 1))))))) (e2 pIdx (eVar 0) (eC (.int 1))))) (e := eVar 6) (vs := [6])
    (σ := [.val (.tup [kd, .str t]), .val (.str w), .val kd, .no, .no, .no, .no, .no]) (h := h) (ds := rangeD 0 ((w.length : Int) - t.length + 1)) (f := fP t w) (u := id) (by simp [run, sSeq, sIf, sPass, sRet, sSet, sPar, tOr, tNot, tOf, tBl, e1, e2, eVar, eC, bindM, nx_ok, stmt_ok, pIsi, askable, isTy, retM, pTruth, truth, ofOpt, toD, pLen, pEq_str, pEq_int, pNe_str, pNe_int, deq_str, pIdx, getAt, ixOf, c_like, c_begins, c_ends, c_holds, c_count, c_from, c_back, c_turned, c_not, c_both, c_either, eTup, eN, evs, mkTup, pIn, inD, flat, eIf, eAnd, eOr, eNot, eAll, iOf, itemsOf, eSlice, optInt, pSlice, noer, allGo, wipe, pSub, gVar, eS2, isStr, pCount, pRev, pLe, pLt, pGt, pCmp, eChain, eLst, mkLst, iRange1, pAdd, sm]) (range_len (by omega)) (fun d hd => by
      obtain ⟨k, rfl, h0, h1⟩ := rangeD_mem hd
      refine ⟨_, rfl, ?_, ?_⟩
      · simp [run, sSeq, sIf, sPass, sRet, sSet, sPar, tOr, tNot, tOf, tBl, e1, e2, eVar, eC, bindM, nx_ok, stmt_ok, pIsi, askable, isTy, retM, pTruth, truth, ofOpt, toD, pLen, pEq_str, pEq_int, pNe_str, pNe_int, deq_str, pIdx, getAt, ixOf, c_like, c_begins, c_ends, c_holds, c_count, c_from, c_back, c_turned, c_not, c_both, c_either, eTup, eN, evs, mkTup, pIn, inD, flat, eIf, eAnd, eOr, eNot, eAll, iOf, itemsOf, eSlice, optInt, pSlice, noer, allGo, wipe, pSub, gVar, eS2, isStr, pCount, pRev, pLe, pLt, pGt, pCmp, eChain, eLst, mkLst, pAdd, fP]
      · simp [run, sSeq, sIf, sPass, sRet, sSet, sPar, tOr, tNot, tOf, tBl, e1, e2, eVar, eC, bindM, nx_ok, stmt_ok, pIsi, askable, isTy, retM, pTruth, truth, ofOpt, toD, pLen, pEq_str, pEq_int, pNe_str, pNe_int, deq_str, pIdx, getAt, ixOf, c_like, c_begins, c_ends, c_holds, c_count, c_from, c_back, c_turned, c_not, c_both, c_either, eTup, eN, evs, mkTup, pIn, inD, flat, eIf, eAnd, eOr, eNot, eAll, iOf, itemsOf, eSlice, optInt, pSlice, noer, allGo, wipe, pSub, gVar, eS2, isStr, pCount, pRev, pLe, pLt, pGt, pCmp, eChain, eLst, mkLst])
  rw [List.map_id] at z
  exact z
theorem t1 (p w : List Nat) (k : Int) (h : List O) (i1 : pIdx (.str p) (.int k) = ret (.str [p.getD k.toNat 0])) (i2 : pIdx (.str w) (.int k) = ret (.str [w.getD k.toNat 0])) (j1 : pIdx (.tup [k_LIKE, .str p]) (.int 1) = ret (.str p)) : (tOf (e2 pNotIn (e2 pIdx (e2 pIdx (eVar 0) (eC (.int 1))) (eVar 6)) (eTup [eC (.str (cps "?")), e2 pIdx (eVar 1) (eVar 6)]))) [.val (.tup [k_LIKE, .str p]), .val (.str w), .val k_LIKE, .no, .no, .no, .val (.int k), .no] h = .ok (fL p w (.int k)) h := by
  simp [tOf, e2, eVar, eC, bindM, retM, nx_ok, eTup, eN, evs, mkTup, pNotIn, fL, c_any, j1, i1, i2, inD, flat, deq_str, ofOpt, pTruth, truth]
theorem likes_ok (p w : List Nat) (hl' : p.length = w.length) (hw : w.length ≤ 100) (h : List O) :
    eComp (iRange1 (e1 pLen (eVar 1))) (gVar 6) (tOf (e2 pNotIn (e2 pIdx (e2 pIdx (eVar 0) (eC (.int 1))) (eVar 6)) (eTup [eC (.str (cps "?")), e2 pIdx (eVar 1) (eVar 6)]))) (eVar 6) [6] [.val (.tup [k_LIKE, .str p]), .val (.str w), .val k_LIKE, .no, .no, .no, .no, .no] h = .ok (.lst ((rangeD 0 (w.length : Int)).filter (fL p w))) h := by
  have sm : small (w.length : Int) = true := small_ok (by omega) (by omega)
  have z := comp_f (it := iRange1 (e1 pLen (eVar 1))) (g := gVar 6) (t := tOf (e2 pNotIn (e2 pIdx (e2 pIdx (eVar 0) (eC (.int 1))) (eVar 6)) (eTup [eC (.str (cps "?")), e2 pIdx (eVar 1) (eVar 6)]))) (e := eVar 6) (vs := [6])
    (σ := [.val (.tup [k_LIKE, .str p]), .val (.str w), .val k_LIKE, .no, .no, .no, .no, .no]) (h := h) (ds := rangeD 0 (w.length : Int)) (f := fL p w) (u := id) (range_it (by simp [e1, bindM, eVar, pLen, retM, nx_ok]) sm) (range_len (by omega)) (fun d hd => by
      obtain ⟨k, rfl, h0, h1⟩ := rangeD_mem hd
      have i1 := idx_str (s := p) h0 (by omega)
      have i2 := idx_str (s := w) h0 h1
      have j1 : pIdx (.tup [k_LIKE, .str p]) (.int 1) = ret (.str p) := rfl
      refine ⟨_, rfl, ?_, ?_⟩
      · exact t1 p w k h i1 i2 j1
      · simp [run, sSeq, sIf, sPass, sRet, sSet, sPar, tOr, tNot, tOf, tBl, e1, e2, eVar, eC, bindM, nx_ok, stmt_ok, pIsi, askable, isTy, retM, pTruth, truth, ofOpt, toD, pLen, pEq_str, pEq_int, pNe_str, pNe_int, deq_str, pIdx, getAt, ixOf, c_like, c_begins, c_ends, c_holds, c_count, c_from, c_back, c_turned, c_not, c_both, c_either, eTup, eN, evs, mkTup, pIn, inD, flat, eIf, eAnd, eOr, eNot, eAll, iOf, itemsOf, eSlice, optInt, pSlice, noer, allGo, wipe, pSub, gVar, eS2, isStr, pCount, pRev, pLe, pLt, pGt, pCmp, eChain, eLst, mkLst])
  rw [List.map_id] at z
  exact z
theorem law_like (p : List Nat) (n : Nat) (w : List Nat) (h : List O) (hw : w.length ≤ 100) : m__law_meets (n + 1) [toD (.like p), .str w] h = .ok (.bl (sem (.like p) w)) h := by
  refine runR rfl ((stepS (d := k_LIKE) rfl).trans (stepT (kindR (a := cps "like") rfl (by decide)) (retR ?_)))
  have e0 : e2 pEq (e1 pLen (e2 pIdx (eVar 0) (eC (.int 1)))) (e1 pLen (eVar 1)) [.val (.tup [k_LIKE, .str p]), .val (.str w), .val k_LIKE, .no, .no, .no, .no, .no] h = .ok (.bl (((p.length : Nat) : Int) == ((w.length : Nat) : Int))) h := by
    simp [e2, e1, bindM, eVar, eC, pIdx, getAt, ixOf, ofOpt, retM, nx_ok, pLen, pEq_int]
  cases hl : (p.length == w.length) with
  | false =>
    have hl' : ¬ p.length = w.length := by simpa using hl
    have hl3 : ((p.length : Int) == (w.length : Int)) = false := beq_eq_false_iff_ne.mpr (by omega)
    rw [hl3] at e0
    refine (andF e0).trans ?_
    simp [sem, hl]
  | true =>
    have hl' : p.length = w.length := by simpa using hl
    have hl3 : ((p.length : Int) == (w.length : Int)) = true := beq_iff_eq.mpr (by omega)
    rw [hl3] at e0
    refine (andT e0).trans ?_
    have z := likes_ok p w hl' hw h
    have q := pEq_nil (ints_range (lo := 0) (hi := (w.length : Int)) (f := fL p w))
    have le := like_eq hl'
    have e1' : eLst [] [.val (.tup [k_LIKE, .str p]), .val (.str w), .val k_LIKE, .no, .no, .no, .no, .no] h = .ok (.lst []) h := rfl
    show e2 pEq _ (eLst []) [.val (.tup [k_LIKE, .str p]), .val (.str w), .val k_LIKE, .no, .no, .no, .no, .no] h = _
    simp only [e2, bindM, z, e1', nx_ok, q, retM, le, sem, hl, Bool.true_and]
theorem law_begins (t : List Nat) (n : Nat) (w : List Nat) (h : List O) (hw : w.length ≤ 100) (ht : t.length ≤ 100) : m__law_meets (n + 1) [toD (.begins t), .str w] h = .ok (.bl (sem (.begins t) w)) h := by
  refine runR rfl ((stepS (d := k_BEGINS) rfl).trans ((stepF (kindR (a := cps "begins") rfl (by decide))).trans (stepT (kindI [cps "begins", cps "ends", cps "holds"] (a := cps "begins") rfl (by decide)) ((stepS (places_ok k_BEGINS t w hw ht h)).trans (retR ?_)))))
  refine (ifT (kindN (a := cps "begins") rfl (by decide))).trans ((e2_ok (u := .int 0) (h1 := h) ((ifT (kindR (a := cps "begins") rfl (by decide))).trans rfl) rfl).trans ?_)
  rw [pIn_lst rfl (ints_flat ints_range), any_range, beg_eq]
  rfl
theorem law_ends (t : List Nat) (n : Nat) (w : List Nat) (h : List O) (hw : w.length ≤ 100) (ht : t.length ≤ 100) : m__law_meets (n + 1) [toD (.ends t), .str w] h = .ok (.bl (sem (.ends t) w)) h := by
  refine runR rfl ((stepS (d := k_ENDS) rfl).trans ((stepF (kindR (a := cps "ends") rfl (by decide))).trans (stepT (kindI [cps "begins", cps "ends", cps "holds"] (a := cps "ends") rfl (by decide)) ((stepS (places_ok k_ENDS t w hw ht h)).trans (retR ?_)))))
  refine (ifT (kindN (a := cps "ends") rfl (by decide))).trans ((e2_ok (u := .int ((w.length : Int) - t.length)) (h1 := h) ((ifF (kindR (a := cps "ends") rfl (by decide))).trans rfl) rfl).trans ?_)
  rw [pIn_lst rfl (ints_flat ints_range), any_range, end_eq]
  rfl
theorem law_holds (t : List Nat) (n : Nat) (w : List Nat) (h : List O) (hw : w.length ≤ 100) (ht : t.length ≤ 100) (ht1 : 1 ≤ t.length) : m__law_meets (n + 1) [toD (.holds t), .str w] h = .ok (.bl (sem (.holds t) w)) h := by
  refine runR rfl ((stepS (d := k_HOLDS) rfl).trans ((stepF (kindR (a := cps "holds") rfl (by decide))).trans (stepT (kindI [cps "begins", cps "ends", cps "holds"] (a := cps "holds") rfl (by decide)) ((stepS (places_ok k_HOLDS t w hw ht h)).trans (retR ?_)))))
  refine (ifF (kindN (a := cps "holds") rfl (by decide))).trans ((e2_ok (v := .lst []) (h2 := h) rfl rfl).trans ?_)
  rw [pNe_nil ints_range, hold_eq t w ht1]
  rfl
theorem law_count (c : Nat) (m : Int) (n : Nat) (w : List Nat) (h : List O) (hw : w.length ≤ 100) : m__law_meets (n + 1) [toD (.count c m), .str w] h = .ok (.bl (sem (.count c m) w)) h := by
  refine runR rfl ((stepS (d := k_COUNT) rfl).trans ((stepF (kindR (a := cps "count") rfl (by decide))).trans ((stepF (kindI [cps "begins", cps "ends", cps "holds"] (a := cps "count") rfl (by decide))).trans (stepT (kindR (a := cps "count") rfl (by decide)) (retR ?_)))))
  have z := comp_f (it := iOf (eVar 1)) (g := gVar 7) (t := tOf (e2 pEq (eVar 7) (e2 pIdx (eVar 0) (eC (.int 1))))) (e := eVar 7) (vs := [7])
    (σ := [.val (.tup [k_COUNT, .str [c], .int m]), .val (.str w), .val k_COUNT, .no, .no, .no, .no, .no]) (h := h) (ds := signs w) (f := fC c) (u := id) rfl (by simp [signs]; omega) (fun d hd => by
      obtain ⟨x, hx, rfl⟩ := List.mem_map.mp hd
      refine ⟨_, rfl, ?_, rfl⟩
      simp [tOf, e2, bindM, eVar, eC, pIdx, getAt, ixOf, ofOpt, retM, nx_ok, wipe, gVar, pEq_str, pTruth, truth, fC])
  rw [List.map_id] at z
  refine (e2_ok (a := e1 pLen _) (b := e2 pIdx (eVar 0) (eC (.int 2))) (u := .int (((signs w).filter (fC c)).length : Nat)) (v := .int m) (h1 := h) (h2 := h) ((e1_ok z).trans rfl) rfl).trans ?_
  rw [pEq_int, cnt_eq]
  rfl
theorem law_frm (x y : List Nat) (n : Nat) (w : List Nat) (h : List O) : m__law_meets (n + 1) [toD (.frm x y), .str w] h = .ok (.bl (sem (.frm x y) w)) h := by
  refine runR rfl ((stepS (d := k_FROM) rfl).trans ((stepF (kindR (a := cps "from") rfl (by decide))).trans ((stepF (kindI [cps "begins", cps "ends", cps "holds"] (a := cps "from") rfl (by decide))).trans ((stepF (kindR (a := cps "from") rfl (by decide))).trans (stepT (kindR (a := cps "from") rfl (by decide)) (retR ?_))))))
  refine (and_ok (c := !decide (w < x)) (e := !decide (y < w)) (not_ok ((e2_ok (u := .str w) (v := .str x) (h2 := h) rfl rfl).trans rfl)) (not_ok ((e2_ok (u := .str w) (v := .str y) (h2 := h) rfl rfl).trans rfl))).trans ?_
  simp only [sem, ← decide_not, List.not_lt]
theorem rev_ok (kd : D) (l : List D) (w : List Nat) (hw : w.length ≤ 100) (h : List O) : eS2 pJoin (eC (.str (cps ""))) (eComp (iRange1 (e1 pLen (eVar 1))) (gVar 6) (tYes) (e2 pIdx (eVar 1) (e2 pSub (e2 pSub (e1 pLen (eVar 1)) (eC (.int 1))) (eVar 6))) [6]) [.val (.tup l), .val (.str w), .val kd, .no, .no, .no, .no, .no] h = .ok (.str w.reverse) h := by
  have sm : small (w.length : Int) = true := small_ok (by omega) (by omega)
  have z := comp_f (it := iRange1 (e1 pLen (eVar 1))) (g := gVar 6) (t := tYes) (e := e2 pIdx (eVar 1) (e2 pSub (e2 pSub (e1 pLen (eVar 1)) (eC (.int 1))) (eVar 6))) (vs := [6])
    (σ := [.val (.tup l), .val (.str w), .val kd, .no, .no, .no, .no, .no]) (h := h) (ds := rangeD 0 (w.length : Int)) (f := fun _ => true) (u := uR w) (range_it (by simp [e1, bindM, eVar, pLen, retM, nx_ok]) sm) (range_len (by omega)) (fun d hd => by
      obtain ⟨k, rfl, h0, h1⟩ := rangeD_mem hd
      have i2 := idx_str (s := w) (k := (w.length : Int) - 1 - k) (by omega) (by omega)
      refine ⟨_, rfl, rfl, ?_⟩
      simp [e2, e1, bindM, eVar, eC, pLen, pSub, retM, nx_ok, wipe, gVar, i2, uR])
  rw [rev_eq] at z
  have j : pJoin (.str (cps "")) (.lst (signs w.reverse)) h = .ok (.str w.reverse) h := by
    rw [c_nil]
    exact join_ok (by rw [List.length_reverse]; omega) h
  exact (s2_ok rfl z).trans j
theorem law_back (t : List Nat) (n : Nat) (w : List Nat) (h : List O) (hw : w.length ≤ 100) : m__law_meets (n + 1) [toD (.back t), .str w] h = .ok (.bl (sem (.back t) w)) h := by
  refine runR rfl ((stepS (d := k_BACK) rfl).trans ((stepF (kindR (a := cps "back") rfl (by decide))).trans ((stepF (kindI [cps "begins", cps "ends", cps "holds"] (a := cps "back") rfl (by decide))).trans ((stepF (kindR (a := cps "back") rfl (by decide))).trans ((stepF (kindR (a := cps "back") rfl (by decide))).trans (stepT (kindI [cps "back", cps "turned"] (a := cps "back") rfl (by decide)) (retR ?_)))))))
  refine (e2_ok (v := .str t) (h2 := h) (rev_ok _ _ w hw h) ((ifT (kindR (a := cps "back") rfl (by decide))).trans rfl)).trans ?_
  rw [pEq_str]
  rfl
theorem law_turned (n : Nat) (w : List Nat) (h : List O) (hw : w.length ≤ 100) : m__law_meets (n + 1) [toD .turned, .str w] h = .ok (.bl (sem .turned w)) h := by
  refine runR rfl ((stepS (d := k_TURNED) rfl).trans ((stepF (kindR (a := cps "turned") rfl (by decide))).trans ((stepF (kindI [cps "begins", cps "ends", cps "holds"] (a := cps "turned") rfl (by decide))).trans ((stepF (kindR (a := cps "turned") rfl (by decide))).trans ((stepF (kindR (a := cps "turned") rfl (by decide))).trans (stepT (kindI [cps "back", cps "turned"] (a := cps "turned") rfl (by decide)) (retR ?_)))))))
  refine (e2_ok (v := .str w) (h2 := h) (rev_ok _ _ w hw h) ((ifF (kindR (a := cps "turned") rfl (by decide))).trans rfl)).trans ?_
  rw [pEq_str]
  rfl
theorem rows1 (m : List D → M D) (kd x : D) (w : List Nat) (h : List O) {p : Bool} (e : m [x, .str w] h = .ok (.bl p) h) : eComp (iOf (eSlice (eVar 0) (some (eC (.int 1))) none)) (gVar 5) (tYes) (eN m [eVar 5, eVar 1]) [5] [.val (.tup [kd, x]), .val (.str w), .val kd, .no, .no, .no, .no, .no] h = .ok (.lst [.bl p]) h := by
  simp [eComp, comp, iOf, itemsOf, bindM, eSlice, optInt, pSlice, cut, clip, eVar, eC, retM, nx_ok, ofOpt, noer, compGo, gVar, tYes, wipe, eN, evs, e, LIM]
theorem rows2 (m : List D → M D) (kd x y : D) (w : List Nat) (h : List O) {p q : Bool} (e : m [x, .str w] h = .ok (.bl p) h) (e' : m [y, .str w] h = .ok (.bl q) h) : eComp (iOf (eSlice (eVar 0) (some (eC (.int 1))) none)) (gVar 5) (tYes) (eN m [eVar 5, eVar 1]) [5] [.val (.tup [kd, x, y]), .val (.str w), .val kd, .no, .no, .no, .no, .no] h = .ok (.lst [.bl p, .bl q]) h := by
  simp [eComp, comp, iOf, itemsOf, bindM, eSlice, optInt, pSlice, cut, clip, eVar, eC, retM, nx_ok, ofOpt, noer, compGo, gVar, tYes, wipe, eN, evs, e, e', LIM]
theorem law_neg (c : Cl) (n : Nat) (w : List Nat) (h : List O) (e : m__law_meets n [toD c, .str w] h = .ok (.bl (sem c w)) h) : m__law_meets (n + 1) [toD (.neg c), .str w] h = .ok (.bl (sem (.neg c) w)) h := by
  refine runR rfl ((stepS (d := k_NOT) rfl).trans ((stepF (kindR (a := cps "not") rfl (by decide))).trans ((stepF (kindI [cps "begins", cps "ends", cps "holds"] (a := cps "not") rfl (by decide))).trans ((stepF (kindR (a := cps "not") rfl (by decide))).trans ((stepF (kindR (a := cps "not") rfl (by decide))).trans ((stepF (kindI [cps "back", cps "turned"] (a := cps "not") rfl (by decide))).trans ((stepS (rows1 _ _ _ w h e)).trans (stepT (kindR (a := cps "not") rfl (by decide)) (retR ?_)))))))))
  exact not_ok rfl
theorem law_both (c d : Cl) (n : Nat) (w : List Nat) (h : List O) (e : m__law_meets n [toD c, .str w] h = .ok (.bl (sem c w)) h) (e' : m__law_meets n [toD d, .str w] h = .ok (.bl (sem d w)) h) : m__law_meets (n + 1) [toD (.both c d), .str w] h = .ok (.bl (sem (.both c d) w)) h := by
  refine runR rfl ((stepS (d := k_BOTH) rfl).trans ((stepF (kindR (a := cps "both") rfl (by decide))).trans ((stepF (kindI [cps "begins", cps "ends", cps "holds"] (a := cps "both") rfl (by decide))).trans ((stepF (kindR (a := cps "both") rfl (by decide))).trans ((stepF (kindR (a := cps "both") rfl (by decide))).trans ((stepF (kindI [cps "back", cps "turned"] (a := cps "both") rfl (by decide))).trans ((stepS (rows2 _ _ _ _ w h e e')).trans ((stepF (kindR (a := cps "both") rfl (by decide))).trans (retR ?_)))))))))
  refine (ifT (kindR (a := cps "both") rfl (by decide))).trans ?_
  simp only [sem]
  generalize sem c w = x
  generalize sem d w = y
  cases x <;> cases y <;> rfl
theorem law_either (c d : Cl) (n : Nat) (w : List Nat) (h : List O) (e : m__law_meets n [toD c, .str w] h = .ok (.bl (sem c w)) h) (e' : m__law_meets n [toD d, .str w] h = .ok (.bl (sem d w)) h) : m__law_meets (n + 1) [toD (.either c d), .str w] h = .ok (.bl (sem (.either c d) w)) h := by
  refine runR rfl ((stepS (d := k_EITHER) rfl).trans ((stepF (kindR (a := cps "either") rfl (by decide))).trans ((stepF (kindI [cps "begins", cps "ends", cps "holds"] (a := cps "either") rfl (by decide))).trans ((stepF (kindR (a := cps "either") rfl (by decide))).trans ((stepF (kindR (a := cps "either") rfl (by decide))).trans ((stepF (kindI [cps "back", cps "turned"] (a := cps "either") rfl (by decide))).trans ((stepS (rows2 _ _ _ _ w h e e')).trans ((stepF (kindR (a := cps "either") rfl (by decide))).trans (retR ?_)))))))))
  refine (ifF (kindR (a := cps "either") rfl (by decide))).trans ?_
  simp only [sem]
  generalize sem c w = x
  generalize sem d w = y
  cases x <;> cases y <;> rfl
theorem law_meets_ok : ∀ (c : Cl) (n : Nat) (w : List Nat) (h : List O), okC c → dep c ≤ n → w.length ≤ 100 → m__law_meets n [toD c, .str w] h = .ok (.bl (sem c w)) h
  | c, 0, w, h, _, hn, _ => by cases c <;> simp [dep] at hn
  | .like p, n + 1, w, h, ok, hn, hw => law_like p n w h hw
  | .begins t, n + 1, w, h, ok, hn, hw => law_begins t n w h hw (Nat.le_trans ok.2.1 (by omega))
  | .ends t, n + 1, w, h, ok, hn, hw => law_ends t n w h hw (Nat.le_trans ok.2.1 (by omega))
  | .holds t, n + 1, w, h, ok, hn, hw => law_holds t n w h hw (Nat.le_trans ok.2.1 (by omega)) ok.1
  | .count c m, n + 1, w, h, ok, hn, hw => law_count c m n w h hw
  | .frm a b, n + 1, w, h, ok, hn, hw => law_frm a b n w h
  | .back t, n + 1, w, h, ok, hn, hw => law_back t n w h hw
  | .turned, n + 1, w, h, ok, hn, hw => law_turned n w h hw
  | .neg c, n + 1, w, h, ok, hn, hw => law_neg c n w h (law_meets_ok c n w h ok (by simp only [dep] at hn; omega) hw)
  | .both a b, n + 1, w, h, ok, hn, hw => law_both a b n w h (law_meets_ok a n w h ok.1 (by simp only [dep] at hn; omega) hw) (law_meets_ok b n w h ok.2 (by simp only [dep] at hn; omega) hw)
  | .either a b, n + 1, w, h, ok, hn, hw => law_either a b n w h (law_meets_ok a n w h ok.1 (by simp only [dep] at hn; omega) hw) (law_meets_ok b n w h ok.2 (by simp only [dep] at hn; omega) hw)
theorem meets_all {c : Cl} {w : List Nat} {h : List O} (ok : okC c) (hd : dep c ≤ 4) (hw : Tx w 2 4 az) : m_meets [toD c, .str w] h = .ok (.bl (sem c w)) h := by
  have e1' : m_is_clue [toD c] h = .ok (.bl true) h := runR rfl (retR (is_clue_ok c 8 4 h ok (by omega) (by omega)))
  have e2' := is_word_ok hw h
  have e3 := meets_ok c 8 w h ok (by omega)
  have c1 : ∀ nm, m_check [.bl true, .str nm] h = .ok .non h := fun nm => by
    simp [m_check, run, b_check, sIf, tNot, tOf, eVar, bindM, nx_ok, pTruth, truth, ofOpt, retM, stmt_ok, sPass]
  simp [m_meets, run, b_meets, sSeq, sExpr, eN, evs, eVar, eC, bindM, retM, nx_ok, stmt_ok, e1', e2', e3, c1, sRet]
end Cf
set_option Elab.async false
set_option linter.all false
set_option maxRecDepth 100000
set_option maxHeartbeats 4000000
/-! LA: dicts whose items are objects of the heap -/
namespace Cf
section
variable {K : Type} [DecidableEq K] {kd : K → D}
def KdOk (kd : K → D) : Prop := ∀ a b, deq (kd a) (kd b) = decide (a = b)
theorem lk_none (hk : KdOk kd) {f : K × Nat → D} : ∀ {S : List (K × Nat)} {k : K}, k ∉ S.map (·.1) → look (kd k) (S.map fun q => kd q.1) (S.map f) = none
  | [], _, _ => rfl
  | q :: S, k, h => by
    have h1 : ¬ q.1 = k := fun e => h (by rw [← e]; simp)
    have hk' : ∀ a b, deq (kd a) (kd b) = decide (a = b) := hk
    have h2 : k ∉ S.map (·.1) := fun e => h (by simp only [List.map_cons]; exact List.mem_cons_of_mem _ e)
    simp only [List.map_cons, look, hk', h1, decide_false, Bool.false_eq_true, if_false]
    exact lk_none hk h2
theorem lk_some (hk : KdOk kd) {f : K × Nat → D} : ∀ {S : List (K × Nat)} {q : K × Nat}, q ∈ S → (S.map (·.1)).Nodup → look (kd q.1) (S.map fun q => kd q.1) (S.map f) = some (f q)
  | [], _, h, _ => nomatch h
  | p :: S, q, h, nd => by
    have hk' : ∀ a b, deq (kd a) (kd b) = decide (a = b) := hk
    obtain ⟨n1, n2⟩ := List.nodup_cons.mp (show (p.1 :: S.map (·.1)).Nodup from nd)
    rcases List.mem_cons.mp h with e | e
    · subst e
      simp [look, hk']
    · have h1 : ¬ p.1 = q.1 := fun z => n1 (by rw [z]; exact List.mem_map.mpr ⟨q, e, rfl⟩)
      simp only [List.map_cons, look, hk', h1, decide_false, Bool.false_eq_true, if_false]
      exact lk_some hk e n2
variable {H : List O} {d b j : Nat} {S : List (K × Nat)} {k : K} {t : Bool} {ob : O}
abbrev dctR (kd : K → D) (t : Bool) (b : Nat) (S : List (K × Nat)) : O := .dct t (S.map fun q => kd q.1) (S.map fun q => .ref (b + q.2))
theorem lookD_new (hk : KdOk kd) (hd : H[d]? = some (dctR kd t b S)) (hn : k ∉ S.map (·.1)) (ht : keyOk t (kd k) = true) : lookD (.ref d) (kd k) H = some none := by
  have l0 : look (kd k) (S.map fun q => kd q.1) (S.map fun q => D.ref (b + q.2)) = none := lk_none hk hn
  simp only [lookD, dctOf, hd, ht, l0, List.length_map, and_self, if_true]
theorem lookD_old (hk : KdOk kd) {q : K × Nat} (hd : H[d]? = some (dctR kd t b S)) (hq : q ∈ S) (nd : (S.map (·.1)).Nodup) (ht : keyOk t (kd q.1) = true) : lookD (.ref d) (kd q.1) H = some (some (.ref (b + q.2))) := by
  have l0 : look (kd q.1) (S.map fun q => kd q.1) (S.map fun q => D.ref (b + q.2)) = some (.ref (b + q.2)) := lk_some hk hq nd
  simp only [lookD, dctOf, hd, ht, l0, List.length_map, and_self, if_true]
theorem setdef_new (hk : KdOk kd) (hd : H[d]? = some (dctR kd t b S)) (hn : k ∉ S.map (·.1)) (ht : keyOk t (kd k) = true) (hl : S.length < 16000000) (hH : H.length = b + j) :
    setdef ob (.ref d) (kd k) H = .ok (.ref (b + j)) ((H ++ [ob]).set d (dctR kd t b (S ++ [(k, j)]))) := by
  have dl : d < H.length := (List.getElem?_eq_some_iff.mp hd).1
  have hd2 : (H ++ [ob])[d]? = some (dctR kd t b S) := by rw [List.getElem?_append_left dl]; exact hd
  have e : setDct (.ref d) (kd k) (.ref H.length) (H ++ [ob]) = some ((H ++ [ob]).set d (dctR kd t b (S ++ [(k, j)]))) := by
    have p : putD (kd k) (.ref H.length) (S.map fun q => kd q.1) (S.map fun q => D.ref (b + q.2)) = ((S.map fun q => kd q.1) ++ [kd k], (S.map fun q => D.ref (b + q.2)) ++ [.ref H.length]) := by
      have l0 : look (kd k) (S.map fun q => kd q.1) (S.map fun q => D.ref (b + q.2)) = none := lk_none hk hn
      simp only [putD, l0, Option.isSome_none, Bool.false_eq_true, if_false]
    simp only [setDct, hd2, p]
    rw [if_pos ⟨ht, by simp, by simpa using hl⟩]
    simp [dctR, hH]
  rw [hH] at e
  simp only [setdef, lookD_new hk hd hn ht, hH, e]
theorem setdef_old (hk : KdOk kd) {q : K × Nat} (hd : H[d]? = some (dctR kd t b S)) (hq : q ∈ S) (nd : (S.map (·.1)).Nodup) (ht : keyOk t (kd q.1) = true) (hl : S.length < 16000000) :
    setdef ob (.ref d) (kd q.1) H = .ok (.ref (b + q.2)) H := by
  have e : (setDct (.ref d) (kd q.1) .non H).isSome = true := by
    simp only [setDct, hd]
    rw [if_pos ⟨ht, by simp, by simpa using hl⟩]
    rfl
  obtain ⟨z, hz⟩ := Option.isSome_iff_exists.mp e
  simp only [setdef, lookD_old hk hd hq nd ht, hz]
end
theorem kd_int : KdOk (fun n : Nat => D.int n) := fun a b => by
  rw [deq_int, Bool.eq_iff_iff, beq_iff_eq, decide_eq_true_eq]
  omega
abbrev kp (k : Nat × Nat × Nat) : D := .tup [.int k.1, .int k.2.1, .str [k.2.2]]
theorem kd_kp : KdOk kp := fun a b => by
  obtain ⟨a1, a2, a3⟩ := a
  obtain ⟨b1, b2, b3⟩ := b
  simp only [kp, deq, deqs, Bool.and_true]
  rw [Bool.eq_iff_iff, decide_eq_true_eq]
  simp only [Bool.and_eq_true, beq_iff_eq, Prod.mk.injEq, List.cons.injEq, and_true]
  omega
/-! ### the heap of a book under way -/
def insB (n0 : Nat) (x : D) : O := .ins "Book" ["_words", "_sizes", "_places"] [x, .ref (n0 + 1), .ref (n0 + 2)]
def hB (h0 : List O) (x : D) (S : List (Nat × Nat)) (P : List ((Nat × Nat × Nat) × Nat)) (rest : List O) : List O :=
  h0 ++ (insB h0.length x :: dctR (fun n : Nat => D.int n) false (h0.length + 3) S :: dctR kp true (h0.length + 3) P :: rest)
section
variable {h0 : List O} {x : D} {S : List (Nat × Nat)} {P : List ((Nat × Nat × Nat) × Nat)} {rest : List O} {o : O} {j : Nat}
theorem hB_len : (hB h0 x S P rest).length = h0.length + 3 + rest.length := by
  simp [hB]; omega
theorem app_at {α : Type} (a b : List α) (i : Nat) : (a ++ b)[a.length + i]? = b[i]? := by
  rw [List.getElem?_append_right (by omega)]
  congr 1
  omega
theorem app_set {α : Type} (a b : List α) (i : Nat) (o : α) : (a ++ b).set (a.length + i) o = a ++ b.set i o := by
  rw [List.set_append_right (h := by omega)]
  congr 2
  omega
theorem hB_0 : (hB h0 x S P rest)[h0.length]? = some (insB h0.length x) := app_at h0 _ 0
theorem hB_1 : (hB h0 x S P rest)[h0.length + 1]? = some (dctR (fun n : Nat => D.int n) false (h0.length + 3) S) := app_at h0 _ 1
theorem hB_2 : (hB h0 x S P rest)[h0.length + 2]? = some (dctR kp true (h0.length + 3) P) := app_at h0 _ 2
theorem hB_3 : (hB h0 x S P rest)[h0.length + 3 + j]? = rest[j]? := by
  rw [Nat.add_assoc]
  unfold hB
  rw [app_at, show 3 + j = j + 1 + 1 + 1 by omega]
  simp
theorem hB_s3 : (hB h0 x S P rest).set (h0.length + 3 + j) o = hB h0 x S P (rest.set j o) := by
  rw [Nat.add_assoc]
  unfold hB
  rw [app_set, show 3 + j = j + 1 + 1 + 1 by omega]
  simp
theorem hB_s1 {S' : List (Nat × Nat)} : (hB h0 x S P rest ++ [o]).set (h0.length + 1) (dctR (fun n : Nat => D.int n) false (h0.length + 3) S') = hB h0 x S' P (rest ++ [o]) := by
  unfold hB
  rw [List.append_assoc, app_set]
  simp
theorem hB_s2 {P' : List ((Nat × Nat × Nat) × Nat)} : (hB h0 x S P rest ++ [o]).set (h0.length + 2) (dctR kp true (h0.length + 3) P') = hB h0 x S P' (rest ++ [o]) := by
  unfold hB
  rw [List.append_assoc, app_set]
  simp
end
/-- what is kept: by size, by size, place and sign -/
structure Bk (N : Nat) (F : Nat → List (List Nat)) (G : Nat × Nat × Nat → List (List Nat)) (S : List (Nat × Nat)) (P : List ((Nat × Nat × Nat) × Nat)) (rest : List O) : Prop where
  ks : (S.map (·.1)).Nodup
  ps : (P.map (·.1)).Nodup
  n1 : (S.map (·.2)).Nodup
  n2 : (P.map (·.2)).Nodup
  n3 : ∀ q ∈ S, ∀ r ∈ P, q.2 ≠ r.2
  s1 : ∀ q ∈ S, rest[q.2]? = some (.lst ((F q.1).map .str))
  s0 : ∀ n, n ∉ S.map (·.1) → F n = []
  p1 : ∀ q ∈ P, rest[q.2]? = some (.dct false ((G q.1).map .str) (List.replicate (G q.1).length (.bl true)))
  p0 : ∀ k, k ∉ P.map (·.1) → G k = []
  l1 : S.length ≤ N
  l2 : P.length ≤ N
  l3 : ∀ n, (F n).length ≤ N
  l4 : ∀ k, (G k).length ≤ N
def up {K : Type} [DecidableEq K] (F : K → List (List Nat)) (k : K) (w : List Nat) : K → List (List Nat) := fun x => if x = k then F x ++ [w] else F x
end Cf
set_option Elab.async false
set_option linter.all false
set_option maxRecDepth 100000
set_option maxHeartbeats 4000000
/-! LB: what is kept, step by step -/
namespace Cf
theorem nodup_snoc {α : Type} {l : List α} {a : α} (h : l.Nodup) (n : a ∉ l) : (l ++ [a]).Nodup := by
  rw [List.nodup_append]
  exact ⟨h, by simp, fun x hx y hy e => n (by rw [List.mem_singleton] at hy; rw [← hy, ← e]; exact hx)⟩
section
variable {N : Nat} {F : Nat → List (List Nat)} {G : Nat × Nat × Nat → List (List Nat)} {S : List (Nat × Nat)} {P : List ((Nat × Nat × Nat) × Nat)} {rest : List O}
theorem Bk.ltS (b : Bk N F G S P rest) {q : Nat × Nat} (h : q ∈ S) : q.2 < rest.length := (List.getElem?_eq_some_iff.mp (b.s1 q h)).1
theorem Bk.ltP (b : Bk N F G S P rest) {q : (Nat × Nat × Nat) × Nat} (h : q ∈ P) : q.2 < rest.length := (List.getElem?_eq_some_iff.mp (b.p1 q h)).1
theorem Bk.newS (b : Bk N F G S P rest) {n : Nat} (h : n ∉ S.map (·.1)) : Bk (N + 1) F G (S ++ [(n, rest.length)]) P (rest ++ [.lst []]) := by
  have old : ∀ {i : Nat} {o : O}, rest[i]? = some o → (rest ++ [.lst []])[i]? = some o := fun {i o} e => by
    rw [List.getElem?_append_left (List.getElem?_eq_some_iff.mp e).1]
    exact e
  refine ⟨?_, b.ps, ?_, b.n2, ?_, ?_, ?_, fun q hq => old (b.p1 q hq), b.p0, ?_, Nat.le_succ_of_le b.l2, fun n => Nat.le_succ_of_le (b.l3 n), fun k => Nat.le_succ_of_le (b.l4 k)⟩
  · rw [List.map_append]
    exact nodup_snoc b.ks h
  · rw [List.map_append]
    refine nodup_snoc b.n1 fun z => ?_
    obtain ⟨q, hq, e⟩ := List.mem_map.mp z
    have := b.ltS hq
    have e' : q.2 = rest.length := e
    omega
  · intro q hq r hr
    rcases List.mem_append.mp hq with z | z
    · exact b.n3 q z r hr
    · rw [List.mem_singleton] at z
      subst z
      have := b.ltP hr
      show rest.length ≠ r.2
      omega
  · intro q hq
    rcases List.mem_append.mp hq with z | z
    · exact old (b.s1 q z)
    · rw [List.mem_singleton] at z
      subst z
      show (rest ++ [O.lst []])[rest.length]? = some (.lst ((F n).map .str))
      rw [b.s0 n h]
      simp
  · intro m hm
    refine b.s0 m fun z => hm ?_
    rw [List.map_append]
    exact List.mem_append_left _ z
  · rw [List.length_append]
    have := b.l1
    simp
    omega
theorem Bk.newP (b : Bk N F G S P rest) {k : Nat × Nat × Nat} (h : k ∉ P.map (·.1)) : Bk (N + 1) F G S (P ++ [(k, rest.length)]) (rest ++ [.dct false [] []]) := by
  have old : ∀ {i : Nat} {o : O}, rest[i]? = some o → (rest ++ [.dct false [] []])[i]? = some o := fun {i o} e => by
    rw [List.getElem?_append_left (List.getElem?_eq_some_iff.mp e).1]
    exact e
  refine ⟨b.ks, ?_, b.n1, ?_, ?_, fun q hq => old (b.s1 q hq), b.s0, ?_, ?_, Nat.le_succ_of_le b.l1, ?_, fun n => Nat.le_succ_of_le (b.l3 n), fun k => Nat.le_succ_of_le (b.l4 k)⟩
  · rw [List.map_append]
    exact nodup_snoc b.ps h
  · rw [List.map_append]
    refine nodup_snoc b.n2 fun z => ?_
    obtain ⟨q, hq, e⟩ := List.mem_map.mp z
    have := b.ltP hq
    have e' : q.2 = rest.length := e
    omega
  · intro q hq r hr
    rcases List.mem_append.mp hr with z | z
    · exact b.n3 q hq r z
    · rw [List.mem_singleton] at z
      subst z
      have := b.ltS hq
      show q.2 ≠ rest.length
      omega
  · intro q hq
    rcases List.mem_append.mp hq with z | z
    · exact old (b.p1 q z)
    · rw [List.mem_singleton] at z
      subst z
      show (rest ++ [O.dct false [] []])[rest.length]? = some (.dct false ((G k).map .str) (List.replicate (G k).length (.bl true)))
      rw [b.p0 k h]
      simp
  · intro m hm
    refine b.p0 m fun z => hm ?_
    rw [List.map_append]
    exact List.mem_append_left _ z
  · rw [List.length_append]
    have := b.l2
    simp
    omega
theorem eq_of_idx {K : Type} : ∀ {l : List (K × Nat)} {p q : K × Nat}, p ∈ l → q ∈ l → (l.map (·.2)).Nodup → p.2 = q.2 → p = q
  | [], _, _, h, _, _, _ => nomatch h
  | a :: l, p, q, hp, hq, nd, e => by
    obtain ⟨n1, n2⟩ := List.nodup_cons.mp (show (a.2 :: l.map (·.2)).Nodup from nd)
    rcases List.mem_cons.mp hp with z | z <;> rcases List.mem_cons.mp hq with y | y
    · rw [z, y]
    · exact (n1 (by rw [← z, e]; exact List.mem_map.mpr ⟨q, y, rfl⟩)).elim
    · exact (n1 (by rw [← y, ← e]; exact List.mem_map.mpr ⟨p, z, rfl⟩)).elim
    · exact eq_of_idx z y n2 e
theorem eq_of_key {K : Type} : ∀ {l : List (K × Nat)} {p q : K × Nat}, p ∈ l → q ∈ l → (l.map (·.1)).Nodup → p.1 = q.1 → p = q
  | [], _, _, h, _, _, _ => nomatch h
  | a :: l, p, q, hp, hq, nd, e => by
    obtain ⟨n1, n2⟩ := List.nodup_cons.mp (show (a.1 :: l.map (·.1)).Nodup from nd)
    rcases List.mem_cons.mp hp with z | z <;> rcases List.mem_cons.mp hq with y | y
    · rw [z, y]
    · exact (n1 (by rw [← z, e]; exact List.mem_map.mpr ⟨q, y, rfl⟩)).elim
    · exact (n1 (by rw [← y, ← e]; exact List.mem_map.mpr ⟨p, z, rfl⟩)).elim
    · exact eq_of_key z y n2 e
theorem up_same {K : Type} [DecidableEq K] (F : K → List (List Nat)) (k : K) (w : List Nat) : up F k w k = F k ++ [w] := if_pos rfl
theorem up_ne {K : Type} [DecidableEq K] (F : K → List (List Nat)) {k x : K} (w : List Nat) (h : x ≠ k) : up F k w x = F x := if_neg h
theorem up_len {K : Type} [DecidableEq K] {F : K → List (List Nat)} {N : Nat} (h : ∀ k, (F k).length ≤ N) (k : K) (w : List Nat) (x : K) : (up F k w x).length ≤ N + 1 := by
  have := h x
  unfold up
  split
  · rw [List.length_append]; simp; omega
  · omega
theorem Bk.addS (b : Bk N F G S P rest) {n j : Nat} (w : List Nat) (h : (n, j) ∈ S) : Bk (N + 1) (up F n w) G S P (rest.set j (.lst ((F n).map .str ++ [.str w]))) := by
  refine ⟨b.ks, b.ps, b.n1, b.n2, b.n3, ?_, ?_, ?_, b.p0, Nat.le_succ_of_le b.l1, Nat.le_succ_of_le b.l2, up_len b.l3 n w, fun k => Nat.le_succ_of_le (b.l4 k)⟩
  · intro q hq
    by_cases hj : q.2 = j
    · have e := eq_of_idx hq h b.n1 hj
      subst e
      rw [up_same, List.getElem?_set_self (b.ltS h), List.map_append]
      rfl
    · have hn : q.1 ≠ n := fun z => hj (congrArg Prod.snd (eq_of_key hq h b.ks z))
      rw [up_ne _ _ hn, List.getElem?_set_ne (fun z => hj z.symm)]
      exact b.s1 q hq
  · intro m hm
    rw [up_ne]
    · exact b.s0 m hm
    · intro z
      exact hm (by rw [z]; exact List.mem_map.mpr ⟨_, h, rfl⟩)
  · intro q hq
    rw [List.getElem?_set_ne (b.n3 _ h q hq)]
    exact b.p1 q hq
theorem Bk.addP (b : Bk N F G S P rest) {k : Nat × Nat × Nat} {j : Nat} (w : List Nat) (h : (k, j) ∈ P) : Bk (N + 1) F (up G k w) S P (rest.set j (.dct false ((G k).map .str ++ [.str w]) (List.replicate (G k).length (.bl true) ++ [.bl true]))) := by
  refine ⟨b.ks, b.ps, b.n1, b.n2, b.n3, ?_, b.s0, ?_, ?_, Nat.le_succ_of_le b.l1, Nat.le_succ_of_le b.l2, fun n => Nat.le_succ_of_le (b.l3 n), up_len b.l4 k w⟩
  · intro q hq
    rw [List.getElem?_set_ne (fun z => b.n3 q hq _ h z.symm)]
    exact b.s1 q hq
  · intro q hq
    by_cases hj : q.2 = j
    · have e := eq_of_idx hq h b.n2 hj
      subst e
      rw [up_same, List.getElem?_set_self (b.ltP h), List.map_append, List.length_append, List.length_singleton, List.replicate_succ']
      rfl
    · have hn : q.1 ≠ k := fun z => hj (congrArg Prod.snd (eq_of_key hq h b.ps z))
      rw [up_ne _ _ hn, List.getElem?_set_ne (fun z => hj z.symm)]
      exact b.p1 q hq
  · intro m hm
    rw [up_ne]
    · exact b.p0 m hm
    · intro z
      exact hm (by rw [z]; exact List.mem_map.mpr ⟨_, h, rfl⟩)
end
end Cf
set_option Elab.async false
set_option linter.all false
set_option maxRecDepth 100000
set_option maxHeartbeats 4000000
/-! LC: a book is made: its dicts -/
namespace Cf
abbrev stA : Ms := sAppR (eSetdef (.lst []) (e1 (pFld "Book" "_sizes") (eVar 0)) (e1 pLen (eVar 3))) (eVar 3)
abbrev stB : Ms := sSetDct (eSetdef (.dct false [] []) (e1 (pFld "Book" "_places") (eVar 0)) (eTup [e1 pLen (eVar 3), eVar 4, eVar 5])) (eVar 3) (eC (.bl true))
section
variable {h0 : List O} {x : D} {N : Nat} {F : Nat → List (List Nat)} {G : Nat × Nat × Nat → List (List Nat)} {S : List (Nat × Nat)} {P : List ((Nat × Nat × Nat) × Nat)} {rest : List O} {σ : Cf.S}
theorem fld_s (e : σ[0]? = some (.val (.ref h0.length))) : e1 (pFld "Book" "_sizes") (eVar 0) σ (hB h0 x S P rest) = .ok (.ref (h0.length + 1)) (hB h0 x S P rest) := by
  refine (e1_ok (u := .ref h0.length) (h1 := hB h0 x S P rest) (by simp [eVar, e])).trans ?_
  simp [pFld, insOf, hB_0, insB, fldOf, ofOpt, retM]
theorem fld_p (e : σ[0]? = some (.val (.ref h0.length))) : e1 (pFld "Book" "_places") (eVar 0) σ (hB h0 x S P rest) = .ok (.ref (h0.length + 2)) (hB h0 x S P rest) := by
  refine (e1_ok (u := .ref h0.length) (h1 := hB h0 x S P rest) (by simp [eVar, e])).trans ?_
  simp [pFld, insOf, hB_0, insB, fldOf, ofOpt, retM]
theorem dct1 : dctOf (.ref (h0.length + 1)) (hB h0 x S P rest) = some (false, S.map fun q => .int q.1, S.map fun q => .ref (h0.length + 3 + q.2)) := by
  simp only [dctOf, hB_1]
theorem dct2 : dctOf (.ref (h0.length + 2)) (hB h0 x S P rest) = some (true, P.map fun q => kp q.1, P.map fun q => .ref (h0.length + 3 + q.2)) := by
  simp only [dctOf, hB_2]
theorem setdef_e {ob : O} {d k : E} {h h1 h2 : List O} {u v : D} {z : Bool × List D × List D} (e1' : d σ h = .ok u h1) (e2' : dctOf u h1 = some z) (e3 : k σ h1 = .ok v h2) : eSetdef ob d k σ h = setdef ob u v h2 := by
  show (d σ h).next _ = _
  rw [e1']
  show (match dctOf u h1 with | some _ => (k σ >>= fun y => setdef ob u y) h1 | none => R.no) = _
  rw [e2']
  show (k σ h1).next _ = _
  rw [e3]
  rfl
theorem st_a (b : Bk N F G S P rest) (hN : N < 1000) {w : List Nat} (e0 : σ[0]? = some (.val (.ref h0.length))) (e3 : σ[3]? = some (.val (.str w))) :
    ∃ S' rest', stA σ (hB h0 x S P rest) = .nx σ (hB h0 x S' P rest') ∧ Bk (N + 2) (up F w.length w) G S' P rest' := by
  have hl : S.length < 16000000 := Nat.lt_of_le_of_lt b.l1 (by omega)
  have ev : ∀ h, eVar 3 σ h = .ok (.str w) h := fun h => by simp [eVar, e3]
  have key : ∃ S1 rest1 j, eSetdef (.lst []) (e1 (pFld "Book" "_sizes") (eVar 0)) (e1 pLen (eVar 3)) σ (hB h0 x S P rest) = .ok (.ref (h0.length + 3 + j)) (hB h0 x S1 P rest1) ∧ Bk (N + 1) F G S1 P rest1 ∧ (w.length, j) ∈ S1 := by
    have q := setdef_e (ob := .lst []) (σ := σ) (k := e1 pLen (eVar 3)) (fld_s (x := x) (S := S) (P := P) (rest := rest) e0) dct1 (show e1 pLen (eVar 3) σ (hB h0 x S P rest) = .ok (.int w.length) (hB h0 x S P rest) from (e1_ok (ev _)).trans rfl)
    by_cases hn : w.length ∈ S.map (·.1)
    · obtain ⟨p, hp, ep⟩ := List.mem_map.mp hn
      obtain ⟨n, j⟩ := p
      have ep' : n = w.length := ep
      subst ep'
      refine ⟨S, rest, j, q.trans (setdef_old kd_int hB_1 hp b.ks rfl hl), ?_, hp⟩
      exact ⟨b.ks, b.ps, b.n1, b.n2, b.n3, b.s1, b.s0, b.p1, b.p0, Nat.le_succ_of_le b.l1, Nat.le_succ_of_le b.l2, fun n => Nat.le_succ_of_le (b.l3 n), fun k => Nat.le_succ_of_le (b.l4 k)⟩
    · refine ⟨S ++ [(w.length, rest.length)], rest ++ [.lst []], rest.length, q.trans ((setdef_new kd_int hB_1 hn rfl hl hB_len).trans ?_), b.newS hn, by simp⟩
      rw [hB_s1]
  obtain ⟨S1, rest1, j, q1, b1, hj⟩ := key
  refine ⟨S1, _, ?_, b1.addS w hj⟩
  have g : (hB h0 x S1 P rest1)[h0.length + 3 + j]? = some (.lst ((F w.length).map .str)) := by rw [hB_3]; exact b1.s1 _ hj
  have l : ((F w.length).map D.str).length < 16000000 := by
    rw [List.length_map]
    exact Nat.lt_of_le_of_lt (b.l3 _) (by omega)
  simp only [stA, sAppR, q1, stmt_ok, g, ev, if_pos l]
  rw [hB_s3]
theorem look_str {w : List Nat} : ∀ {l : List (List Nat)} {vs : List D}, w ∉ l → look (.str w) (l.map .str) vs = none
  | [], _, _ => rfl
  | a :: l, [], _ => rfl
  | a :: l, v :: vs, h => by
    have h1 : ¬ a = w := fun e => h (by rw [e]; simp)
    have ih := look_str (w := w) (l := l) (vs := vs) fun z => h (List.mem_cons_of_mem _ z)
    simp only [List.map_cons, look, deq_str, beq_iff_eq, h1, if_false, ih]
theorem st_b (b : Bk N F G S P rest) (hN : N < 1000) {w : List Nat} {i c : Nat} (e0 : σ[0]? = some (.val (.ref h0.length))) (e3 : σ[3]? = some (.val (.str w))) (e4 : σ[4]? = some (.val (.int i))) (e5 : σ[5]? = some (.val (.str [c]))) (hw : w ∉ G (w.length, i, c)) :
    ∃ P' rest', stB σ (hB h0 x S P rest) = .nx σ (hB h0 x S P' rest') ∧ Bk (N + 2) F (up G (w.length, i, c) w) S P' rest' := by
  have hl : P.length < 16000000 := Nat.lt_of_le_of_lt b.l2 (by omega)
  have ev : ∀ h, eVar 3 σ h = .ok (.str w) h := fun h => by simp [eVar, e3]
  have ev4 : ∀ h, eVar 4 σ h = .ok (.int i) h := fun h => by simp [eVar, e4]
  have ev5 : ∀ h, eVar 5 σ h = .ok (.str [c]) h := fun h => by simp [eVar, e5]
  have key : ∃ P1 rest1 j, eSetdef (.dct false [] []) (e1 (pFld "Book" "_places") (eVar 0)) (eTup [e1 pLen (eVar 3), eVar 4, eVar 5]) σ (hB h0 x S P rest) = .ok (.ref (h0.length + 3 + j)) (hB h0 x S P1 rest1) ∧ Bk (N + 1) F G S P1 rest1 ∧ ((w.length, i, c), j) ∈ P1 := by
    have q := setdef_e (ob := .dct false [] []) (σ := σ) (k := eTup [e1 pLen (eVar 3), eVar 4, eVar 5]) (fld_p (x := x) (S := S) (P := P) (rest := rest) e0) dct2
      (show eTup [e1 pLen (eVar 3), eVar 4, eVar 5] σ (hB h0 x S P rest) = .ok (kp (w.length, i, c)) (hB h0 x S P rest) from en_ok (ev_cons ((e1_ok (ev _)).trans rfl) (ev_cons (ev4 _) (ev_cons (ev5 _) ev_nil))) rfl)
    by_cases hn : (w.length, i, c) ∈ P.map (·.1)
    · obtain ⟨p, hp, ep⟩ := List.mem_map.mp hn
      obtain ⟨n, j⟩ := p
      have ep' : n = (w.length, i, c) := ep
      subst ep'
      refine ⟨P, rest, j, q.trans (setdef_old kd_kp hB_2 hp b.ps rfl hl), ?_, hp⟩
      exact ⟨b.ks, b.ps, b.n1, b.n2, b.n3, b.s1, b.s0, b.p1, b.p0, Nat.le_succ_of_le b.l1, Nat.le_succ_of_le b.l2, fun n => Nat.le_succ_of_le (b.l3 n), fun k => Nat.le_succ_of_le (b.l4 k)⟩
    · refine ⟨P ++ [((w.length, i, c), rest.length)], rest ++ [.dct false [] []], rest.length, q.trans ((setdef_new kd_kp hB_2 hn rfl hl hB_len).trans ?_), b.newP hn, by simp⟩
      rw [hB_s2]
  obtain ⟨P1, rest1, j, q1, b1, hj⟩ := key
  refine ⟨P1, _, ?_, b1.addP w hj⟩
  have g : (hB h0 x S P1 rest1)[h0.length + 3 + j]? = some (.dct false ((G (w.length, i, c)).map .str) (List.replicate (G (w.length, i, c)).length (.bl true))) := by rw [hB_3]; exact b1.p1 _ hj
  have l : ((G (w.length, i, c)).map D.str).length < 16000000 := by
    rw [List.length_map]
    exact Nat.lt_of_le_of_lt (b.l4 _) (by omega)
  have p : putD (.str w) (.bl true) ((G (w.length, i, c)).map D.str) (List.replicate (G (w.length, i, c)).length (.bl true)) = ((G (w.length, i, c)).map D.str ++ [.str w], List.replicate (G (w.length, i, c)).length (.bl true) ++ [.bl true]) := by
    have l0 : look (.str w) ((G (w.length, i, c)).map D.str) (List.replicate (G (w.length, i, c)).length (.bl true)) = none := look_str hw
    simp only [putD, l0, Option.isSome_none, Bool.false_eq_true, if_false]
  have z : setDct (.ref (h0.length + 3 + j)) (.str w) (.bl true) (hB h0 x S P1 rest1) = some ((hB h0 x S P1 rest1).set (h0.length + 3 + j) (.dct false ((G (w.length, i, c)).map D.str ++ [.str w]) (List.replicate (G (w.length, i, c)).length (.bl true) ++ [.bl true]))) := by
    simp only [setDct, g, p]
    rw [if_pos ⟨rfl, by simp, l⟩]
  simp only [stB, sSetDct, eC, retM, stmt_ok, q1, ev, z]
  rw [hB_s3]
end
end Cf
set_option Elab.async false
set_option linter.all false
set_option maxRecDepth 100000
set_option maxHeartbeats 4000000
/-! LD: a book is made: the loops -/
namespace Cf
def fW (ws : List (List Nat)) (n : Nat) : List (List Nat) := ws.filter fun w => w.length == n
def gW (ws : List (List Nat)) (k : Nat × Nat × Nat) : List (List Nat) := ws.filter fun w => w.length == k.1 && w[k.2.1]? == some k.2.2
def upW (G : Nat × Nat × Nat → List (List Nat)) (n : Nat) (w : List Nat) : Nat → List Nat → Nat × Nat × Nat → List (List Nat)
  | _, [] => G
  | i, c :: t => upW (up G (n, i, c) w) n w (i + 1) t
theorem upW_at (n : Nat) (w : List Nat) (k : Nat × Nat × Nat) : ∀ (t : List Nat) (i : Nat) (G : Nat × Nat × Nat → List (List Nat)), upW G n w i t k = if k.1 = n ∧ i ≤ k.2.1 ∧ t[k.2.1 - i]? = some k.2.2 then G k ++ [w] else G k
  | [], i, G => by simp [upW]
  | c :: t, i, G => by
    rw [upW, upW_at n w k t (i + 1)]
    obtain ⟨a, p, s⟩ := k
    show (if a = n ∧ i + 1 ≤ p ∧ t[p - (i + 1)]? = some s then up G (n, i, c) w (a, p, s) ++ [w] else up G (n, i, c) w (a, p, s)) = if a = n ∧ i ≤ p ∧ (c :: t)[p - i]? = some s then G (a, p, s) ++ [w] else G (a, p, s)
    by_cases h1 : i + 1 ≤ p
    · have e1 : p - i = (p - (i + 1)) + 1 := by omega
      have e2 : up G (n, i, c) w (a, p, s) = G (a, p, s) := up_ne _ _ fun z => by
        have := congrArg (fun q : Nat × Nat × Nat => q.2.1) z
        have z' : p = i := this
        omega
      have h2 : i ≤ p := by omega
      rw [e1, List.getElem?_cons_succ, e2]
      simp only [h1, h2, true_and]
    · by_cases h2 : i ≤ p
      · have e : p = i := by omega
        subst e
        rw [if_neg (fun z => h1 z.2.1), Nat.sub_self, List.getElem?_cons_zero]
        by_cases h3 : a = n ∧ c = s
        · obtain ⟨rfl, rfl⟩ := h3
          rw [up_same, if_pos ⟨rfl, h2, rfl⟩]
        · rw [up_ne, if_neg]
          · rintro ⟨z1, _, z2⟩
            exact h3 ⟨z1, Option.some.inj z2⟩
          · intro z
            injection z with z1 z2
            injection z2 with z2 z3
            exact h3 ⟨z1, z3.symm⟩
      · rw [if_neg (fun z => h1 z.2.1), if_neg (fun z => h2 z.2.1)]
        exact up_ne _ _ fun z => by
          have := congrArg (fun q : Nat × Nat × Nat => q.2.1) z
          have z' : p = i := this
          omega
theorem fW_up (ws : List (List Nat)) (w : List Nat) : up (fW ws) w.length w = fW (ws ++ [w]) := by
  funext n
  unfold up fW
  rw [List.filter_append]
  by_cases h : n = w.length
  · subst h
    simp
  · rw [if_neg h]
    have h' : ¬ w.length = n := fun e => h e.symm
    simp [h']
theorem gW_up (ws : List (List Nat)) (w : List Nat) : upW (gW ws) w.length w 0 w = gW (ws ++ [w]) := by
  funext k
  rw [upW_at]
  unfold gW
  rw [List.filter_append]
  by_cases h : k.1 = w.length ∧ 0 ≤ k.2.1 ∧ w[k.2.1 - 0]? = some k.2.2
  · rw [if_pos h]
    obtain ⟨h1, _, h3⟩ := h
    rw [Nat.sub_zero] at h3
    simp [h1, h3]
  · rw [if_neg h]
    have : (w.length == k.1 && w[k.2.1]? == some k.2.2) = false := by
      rw [Bool.and_eq_false_iff]
      by_cases h1 : w.length = k.1
      · right
        rw [beq_eq_false_iff_ne]
        intro z
        exact h ⟨h1.symm, Nat.zero_le _, by rw [Nat.sub_zero]; exact z⟩
      · left
        exact beq_eq_false_iff_ne.mpr h1
    simp [this]
section
variable {h0 : List O} {x : D} {F : Nat → List (List Nat)} {S : List (Nat × Nat)}
abbrev gB : Cf.G := gTup [gVar 4, gVar 5]
theorem for_b {w : List Nat} : ∀ (t : List Nat) (i N : Nat) (G : Nat × Nat × Nat → List (List Nat)) (P : List ((Nat × Nat × Nat) × Nat)) (rest : List O) (σ : Cf.S), Bk N F G S P rest → N + 2 * t.length < 1000 → σ.length = 7 → σ[0]? = some (.val (.ref h0.length)) → σ[3]? = some (.val (.str w)) → (∀ i', i ≤ i' → ∀ c, w ∉ G (w.length, i', c)) →
    ∃ σ' P' rest', forGo gB stB (enumD i (signs t)) σ (hB h0 x S P rest) = .nx σ' (hB h0 x S P' rest') ∧ Bk (N + 2 * t.length) F (upW G w.length w i t) S P' rest' ∧ σ'.length = 7 ∧ σ'[0]? = some (.val (.ref h0.length))
  | [], i, N, G, P, rest, σ, b, _, s1, s2, _, _ => ⟨σ, P, rest, rfl, b, s1, s2⟩
  | c :: t, i, N, G, P, rest, σ, b, hN, s1, s2, s3, hw => by
    have hN' : N + 2 + 2 * t.length < 1000 := by simp at hN; omega
    have e1 : gB (.tup [.int i, .str [c]]) σ = some ((σ.set 4 (.val (.int i))).set 5 (.val (.str [c]))) := rfl
    have t1 : ((σ.set 4 (.val (.int i))).set 5 (.val (.str [c])))[0]? = some (.val (.ref h0.length)) := by
      rw [List.getElem?_set_ne (by decide), List.getElem?_set_ne (by decide)]; exact s2
    have t3 : ((σ.set 4 (.val (.int i))).set 5 (.val (.str [c])))[3]? = some (.val (.str w)) := by
      rw [List.getElem?_set_ne (by decide), List.getElem?_set_ne (by decide)]; exact s3
    have t4 : ((σ.set 4 (.val (.int i))).set 5 (.val (.str [c])))[4]? = some (.val (.int i)) := by
      rw [List.getElem?_set_ne (by decide), List.getElem?_set_self (by omega)]
    have t5 : ((σ.set 4 (.val (.int i))).set 5 (.val (.str [c])))[5]? = some (.val (.str [c])) := by
      rw [List.getElem?_set_self (by rw [List.length_set]; omega)]
    obtain ⟨P1, rest1, q1, b1⟩ := st_b (x := x) b (by omega) t1 t3 t4 t5 (hw i (Nat.le_refl _) c)
    obtain ⟨σ', P', rest', q2, b2, u1, u2⟩ := for_b t (i + 1) (N + 2) (up G (w.length, i, c) w) P1 rest1 _ b1 hN' (by rw [List.length_set, List.length_set]; exact s1) t1 t3 (fun i' hi c' => by
      rw [up_ne _ _ fun z => by
        have z' : i' = i := congrArg (fun q : Nat × Nat × Nat => q.2.1) z
        omega]
      exact hw i' (by omega) c')
    refine ⟨σ', P', rest', ?_, ?_, u1, u2⟩
    · show forGo gB stB (.tup [.int i, .str [c]] :: enumD (i + 1) (signs t)) σ _ = _
      simp only [forGo, e1, q1]
      exact q2
    · rw [List.length_cons, show N + 2 * (t.length + 1) = N + 2 + 2 * t.length by omega]
      exact b2
abbrev bW : Ms := sSeq stA (sFor (iEnum (eVar 3)) gB stB)
theorem for_w : ∀ (ws2 ws1 : List (List Nat)) (N : Nat) (S : List (Nat × Nat)) (P : List ((Nat × Nat × Nat) × Nat)) (rest : List O) (σ : Cf.S), Bk N (fW ws1) (gW ws1) S P rest → N + 10 * ws2.length < 1000 → (∀ w ∈ ws2, w.length ≤ 4) → (ws1 ++ ws2).Nodup → σ.length = 7 → σ[0]? = some (.val (.ref h0.length)) →
    ∃ N' σ' S' P' rest', forGo (gVar 3) bW (ws2.map .str) σ (hB h0 x S P rest) = .nx σ' (hB h0 x S' P' rest') ∧ Bk N' (fW (ws1 ++ ws2)) (gW (ws1 ++ ws2)) S' P' rest'
  | [], ws1, N, S, P, rest, σ, b, _, _, _, _, _ => ⟨N, σ, S, P, rest, rfl, by rw [List.append_nil]; exact b⟩
  | w :: ws2, ws1, N, S, P, rest, σ, b, hN, hl, nd, s1, s2 => by
    have hw4 := hl w List.mem_cons_self
    have hN' : N + 10 + 10 * ws2.length < 1000 := by simp at hN; omega
    have t1 : (σ.set 3 (.val (.str w)))[0]? = some (.val (.ref h0.length)) := by
      rw [List.getElem?_set_ne (by decide)]; exact s2
    have t3 : (σ.set 3 (.val (.str w)))[3]? = some (.val (.str w)) := List.getElem?_set_self (by omega)
    have nw : w ∉ ws1 := fun z => (List.nodup_append.mp nd).2.2 w z w List.mem_cons_self rfl
    obtain ⟨S1, rest1, q1, b1⟩ := st_a (x := x) b (by omega) t1 t3
    rw [fW_up] at b1
    obtain ⟨σ2, P2, rest2, q2, b2, u1, u2⟩ := for_b (h0 := h0) (x := x) (w := w) w 0 (N + 2) (gW ws1) P rest1 _ b1 (by omega) (by rw [List.length_set]; exact s1) t1 t3 (fun i' _ c z => nw (List.mem_filter.mp z).1)
    rw [gW_up] at b2
    have b3 : Bk (N + 10) (fW (ws1 ++ [w])) (gW (ws1 ++ [w])) S1 P2 rest2 := ⟨b2.ks, b2.ps, b2.n1, b2.n2, b2.n3, b2.s1, b2.s0, b2.p1, b2.p0, Nat.le_trans b2.l1 (by omega), Nat.le_trans b2.l2 (by omega), fun n => Nat.le_trans (b2.l3 n) (by omega), fun n => Nat.le_trans (b2.l4 n) (by omega)⟩
    obtain ⟨N', σ', S', P', rest', q3, b4⟩ := for_w ws2 (ws1 ++ [w]) (N + 10) S1 P2 rest2 σ2 b3 hN' (fun v hv => hl v (List.mem_cons_of_mem _ hv)) (by rw [List.append_assoc]; exact nd) u1 u2
    rw [List.append_assoc] at b4
    refine ⟨N', σ', S', P', rest', ?_, b4⟩
    have hi : iEnum (eVar 3) (σ.set 3 (.val (.str w))) (hB h0 x S1 P rest1) = .ok (enumD 0 (signs w)) (hB h0 x S1 P rest1) := by
      simp [iEnum, bindM, eVar, t3, nx_ok, itemsOf, retM]
    have q : bW (σ.set 3 (.val (.str w))) (hB h0 x S P rest) = .nx σ2 (hB h0 x S1 P2 rest2) := by
      simp only [bW, sSeq, q1, sFor, hi, stmt_ok]
      exact q2
    show forGo (gVar 3) bW (.str w :: ws2.map .str) σ _ = _
    simp only [forGo, gVar, q]
    exact q3
end
end Cf
set_option Elab.async false
set_option linter.all false
set_option maxRecDepth 100000
set_option maxHeartbeats 4000000
/-! LE: a book is made -/
namespace Cf
/-- words of a book -/
structure Ws (ws : List (List Nat)) : Prop where
  tx : ∀ w ∈ ws, Tx w 2 4 az
  up : ws.Pairwise (· < ·)
  le : ws.length ≤ 24
theorem Ws.nd {ws : List (List Nat)} (q : Ws ws) : ws.Nodup := q.up.imp fun {a b} h e => by
  subst e
  exact absurd h (List.lt_irrefl a)
abbrev tupW (ws : List (List Nat)) : D := .tup (ws.map .str)
theorem rise_go (h : List O) (a b c : Sl) : ∀ (x : List Nat) (ws : List (List Nat)), (x :: ws).Pairwise (· < ·) → allGo (gTup [gVar 1, gVar 2]) (tBl (e2 pLt (eVar 1) (eVar 2))) [a, b, c] (zipD ((x :: ws).map .str) (ws.map .str)) h = .ok true h
  | x, [], _ => rfl
  | x, y :: ws, q => by
    obtain ⟨q1, q2⟩ := List.pairwise_cons.mp q
    have e1' : gTup [gVar 1, gVar 2] (.tup [.str x, .str y]) [a, b, c] = some [a, .val (.str x), .val (.str y)] := rfl
    have e2' : tBl (e2 pLt (eVar 1) (eVar 2)) [a, .val (.str x), .val (.str y)] h = .ok true h := by
      simp [tBl, e2, bindM, eVar, nx_ok, pLt, pCmp, retM, q1 y List.mem_cons_self]
    show allGo _ _ _ (.tup [.str x, .str y] :: zipD ((y :: ws).map .str) (ws.map .str)) h = _
    simp only [allGo, e1', bindM, e2', nx_ok, if_true]
    exact rise_go h a b c y ws q2
theorem rising_ok {ws : List (List Nat)} (q : ws.Pairwise (· < ·)) (h : List O) : m_are_rising [tupW ws] h = .ok (.bl true) h := by
  refine runR rfl (retR ?_)
  have z : eSlice (eVar 0) (some (eC (.int 1))) none [.val (tupW ws), .no, .no] h = .ok (.tup ((ws.map .str).drop 1)) h := by
    simp [eSlice, bindM, eVar, nx_ok, optInt, eC, retM, pSlice, cut, clip, tupW]
    cases ws with
    | nil => rfl
    | cons a l => simp [List.take_of_length_le]
  have i : iZip (eVar 0) (eSlice (eVar 0) (some (eC (.int 1))) none) [.val (tupW ws), .no, .no] h = .ok (zipD (ws.map .str) ((ws.map .str).drop 1)) h := by
    simp only [iZip, bindM, eVar, List.getElem?_cons_zero, nx_ok, z, itemsOf, tupW, retM]
  have g : allGo (gTup [gVar 1, gVar 2]) (tBl (e2 pLt (eVar 1) (eVar 2))) (wipe [.val (tupW ws), .no, .no] [1, 2]) (zipD (ws.map .str) ((ws.map .str).drop 1)) h = .ok true h := by
    cases ws with
    | nil => rfl
    | cons a l => exact rise_go h _ _ _ a l q
  have i' : iZip (eVar 0) (eSlice (eVar 0) (some (eC (.int 1))) none) (List.map Sl.val [tupW ws] ++ List.replicate (3 - 1) Sl.no) h = .ok (zipD (ws.map .str) ((ws.map .str).drop 1)) h := i
  have g' : allGo (gTup [gVar 1, gVar 2]) (tBl (e2 pLt (eVar 1) (eVar 2))) (wipe (List.map Sl.val [tupW ws] ++ List.replicate (3 - 1) Sl.no) [1, 2]) (zipD (ws.map .str) ((ws.map .str).drop 1)) h = .ok true h := g
  simp only [eAll, bindM, i', nx_ok, noer, g', retM]
theorem setFld_at {h0 r : List O} {c f : String} {ns : List String} {vs : List D} {v : D} (h1 : vs.length = ns.length) (h2 : ns.length < 100) : setFld c f (.ref h0.length) v (h0 ++ .ins c ns vs :: r) = some (h0 ++ .ins c (putNs f ns) (putVs f v ns vs) :: r) := by
  have a := app_at h0 (O.ins c ns vs :: r) 0
  simp only [Nat.add_zero, List.getElem?_cons_zero] at a
  have b := app_set h0 (O.ins c ns vs :: r) 0 (.ins c (putNs f ns) (putVs f v ns vs))
  simp only [Nat.add_zero, List.set_cons_zero] at b
  simp only [setFld, a]
  rw [if_pos ⟨trivial, h1, h2⟩, b]
theorem bk_init {ws : List (List Nat)} (q : Ws ws) (h0 : List O) : ∃ N S P rest, m_Book_d_initd_ [.ref h0.length, tupW ws] (h0 ++ [.ins "Book" [] []]) = .ok .non (hB h0 (tupW ws) S P rest) ∧ Bk N (fW ws) (gW ws) S P rest := by
  obtain ⟨N, σ', S, P, rest, e, b⟩ := for_w (h0 := h0) (x := tupW ws) ws [] 0 [] [] [] [.val (.ref h0.length), .val (tupW ws), .val (.bl true), .no, .no, .no, .no]
    ⟨.nil, .nil, .nil, .nil, (fun q h => nomatch h), (fun q h => nomatch h), fun n _ => rfl, (fun q h => nomatch h), fun k _ => rfl, Nat.le_refl _, Nat.le_refl _, fun n => Nat.le_refl _, fun k => Nat.le_refl _⟩
    (by have := q.le; omega) (fun w hw => (q.tx w hw).2.1) q.nd rfl rfl
  refine ⟨N, S, P, rest, ?_, by rw [List.nil_append] at b; exact b⟩
  generalize hH : h0 ++ [O.ins "Book" [] []] = H
  have a1 : eAll (iOf (eVar 1)) (gVar 6) (tBl (eN m_is_word [eVar 6])) [6] [.val (.ref h0.length), .val (tupW ws), .no, .no, .no, .no, .no] H = .ok (.bl true) H := by
    have g : allGo (gVar 6) (tBl (eN m_is_word [eVar 6])) [.val (.ref h0.length), .val (tupW ws), .no, .no, .no, .no, .no] (ws.map .str) H = .ok true H := allGo_all _ fun d hd => by
      obtain ⟨w, hw, rfl⟩ := List.mem_map.mp hd
      refine ⟨_, rfl, ?_⟩
      have e := en_ok (as := [eVar 6]) (σ := [.val (.ref h0.length), .val (tupW ws), .no, .no, .no, .no, .val (.str w)]) (ev_cons rfl ev_nil) (is_word_ok (q.tx w hw) H)
      show tBl (eN m_is_word [eVar 6]) [.val (.ref h0.length), .val (tupW ws), .no, .no, .no, .no, .val (.str w)] H = _
      simp only [tBl, bindM, e, nx_ok, retM]
    have i : iOf (eVar 1) [.val (.ref h0.length), .val (tupW ws), .no, .no, .no, .no, .no] H = .ok (ws.map .str) H := rfl
    have g' : allGo (gVar 6) (tBl (eN m_is_word [eVar 6])) (wipe [.val (.ref h0.length), .val (tupW ws), .no, .no, .no, .no, .no] [6]) (ws.map .str) H = .ok true H := g
    simp only [eAll, bindM, i, nx_ok, noer, g', retM]
  have l1 : (ws.length : Int) ≤ 24 := by have := q.le; omega
  have a2 : eAnd (e1 (pIsi [.tuple]) (eVar 1)) (eAnd (e2 pLe (e1 pLen (eVar 1)) (eC k_MOST_WORDS)) (eAll (iOf (eVar 1)) (gVar 6) (tBl (eN m_is_word [eVar 6])) [6])) [.val (.ref h0.length), .val (tupW ws), .no, .no, .no, .no, .no] H = .ok (.bl true) H := by
    refine (andT (h1 := H) rfl).trans ((andT (h1 := H) ?_).trans a1)
    simp [e2, e1, bindM, eVar, nx_ok, pLen, retM, eC, pLe, pCmp, l1]
  have a3 : eN m_check [eAnd (eVar 2) (eN m_are_rising [eVar 1]), eC (.str (cps "words"))] [.val (.ref h0.length), .val (tupW ws), .val (.bl true), .no, .no, .no, .no] H = .ok .non H :=
    en_ok (ev_cons ((andT (h1 := H) rfl).trans (en_ok (ev_cons rfl ev_nil) (rising_ok q.up H))) (ev_cons rfl ev_nil)) (check_ok (cps "words") H)
  have s1 : setFld "Book" "_words" (.ref h0.length) (tupW ws) H = some (h0 ++ [.ins "Book" ["_words"] [tupW ws]]) := by
    rw [← hH]
    exact setFld_at rfl (by decide)
  have s2 : setFld "Book" "_sizes" (.ref h0.length) (.ref (h0 ++ [O.ins "Book" ["_words"] [tupW ws]]).length) (h0 ++ [.ins "Book" ["_words"] [tupW ws]] ++ [.dct false [] []]) = some (h0 ++ [.ins "Book" ["_words", "_sizes"] [tupW ws, .ref (h0.length + 1)], .dct false [] []]) := by
    rw [List.append_assoc, List.length_append]
    exact setFld_at rfl (by decide)
  have s3 : setFld "Book" "_places" (.ref h0.length) (.ref (h0 ++ [O.ins "Book" ["_words", "_sizes"] [tupW ws, .ref (h0.length + 1)], .dct false [] []]).length) (h0 ++ [O.ins "Book" ["_words", "_sizes"] [tupW ws, .ref (h0.length + 1)], .dct false [] []] ++ [.dct true [] []]) = some (hB h0 (tupW ws) [] [] []) := by
    rw [List.append_assoc, List.length_append]
    exact setFld_at rfl (by decide)
  have q4 : b_Book_d_initd_ ([D.ref h0.length, tupW ws].map .val ++ List.replicate 5 .no) H = .nx σ' (hB h0 (tupW ws) S P rest) := by
    unfold b_Book_d_initd_
    refine (stepS (d := .bl true) (h1 := H) a2).trans ?_
    have a3' : sExpr (eN m_check [eAnd (eVar 2) (eN m_are_rising [eVar 1]), eC (.str (cps "words"))]) [.val (.ref h0.length), .val (tupW ws), .val (.bl true), .no, .no, .no, .no] H = .nx [.val (.ref h0.length), .val (tupW ws), .val (.bl true), .no, .no, .no, .no] H := by
      simp only [sExpr, a3, stmt_ok]
    have f1 : sSetFld "Book" "_words" (eVar 0) (eVar 1) [.val (.ref h0.length), .val (tupW ws), .val (.bl true), .no, .no, .no, .no] H = .nx [.val (.ref h0.length), .val (tupW ws), .val (.bl true), .no, .no, .no, .no] (h0 ++ [.ins "Book" ["_words"] [tupW ws]]) := by
      simp only [sSetFld, eVar, List.getElem?_cons_zero, List.getElem?_cons_succ, stmt_ok, s1]
    have f2 : sSetFld "Book" "_sizes" (eVar 0) (eNewDct false) [.val (.ref h0.length), .val (tupW ws), .val (.bl true), .no, .no, .no, .no] (h0 ++ [.ins "Book" ["_words"] [tupW ws]]) = .nx [.val (.ref h0.length), .val (tupW ws), .val (.bl true), .no, .no, .no, .no] (h0 ++ [.ins "Book" ["_words", "_sizes"] [tupW ws, .ref (h0.length + 1)], .dct false [] []]) := by
      simp only [sSetFld, eVar, eNewDct, List.getElem?_cons_zero, stmt_ok, s2]
    have f3 : sSetFld "Book" "_places" (eVar 0) (eNewDct true) [.val (.ref h0.length), .val (tupW ws), .val (.bl true), .no, .no, .no, .no] (h0 ++ [.ins "Book" ["_words", "_sizes"] [tupW ws, .ref (h0.length + 1)], .dct false [] []]) = .nx [.val (.ref h0.length), .val (tupW ws), .val (.bl true), .no, .no, .no, .no] (hB h0 (tupW ws) [] [] []) := by
      simp only [sSetFld, eVar, eNewDct, List.getElem?_cons_zero, stmt_ok, s3]
    show sSeq _ _ [.val (.ref h0.length), .val (tupW ws), .val (.bl true), .no, .no, .no, .no] H = _
    simp only [sSeq, a3', f1, f2, f3]
    have i : iOf (eVar 1) [.val (.ref h0.length), .val (tupW ws), .val (.bl true), .no, .no, .no, .no] (hB h0 (tupW ws) [] [] []) = .ok (ws.map .str) (hB h0 (tupW ws) [] [] []) := rfl
    simp only [sFor, i, stmt_ok]
    exact e
  have q4' : b_Book_d_initd_ ([D.ref h0.length, tupW ws].map .val ++ List.replicate (7 - 2) .no) H = .nx σ' (hB h0 (tupW ws) S P rest) := q4
  have l2 : [D.ref h0.length, tupW ws].length = 2 := rfl
  simp only [m_Book_d_initd_, run, l2, if_true, q4']
end Cf
set_option Elab.async false
set_option linter.all false
set_option maxRecDepth 100000
set_option maxHeartbeats 4000000
/-! LF: a book as a value -/
namespace Cf
def bookD (ws : List (List Nat)) (S : List (Nat × Nat)) (P : List ((Nat × Nat × Nat) × Nat)) : D := .obj "Book" ["_words", "_sizes", "_places"]
  [tupW ws, .dct false (S.map fun q => .int q.1) (S.map fun q => .lst ((fW ws q.1).map .str)), .dct true (P.map fun q => kp q.1) (P.map fun q => .dct false ((gW ws q.1).map .str) (List.replicate (gW ws q.1).length (.bl true)))]
structure BookD (ws : List (List Nat)) (b : D) : Prop where
  wk : Ws ws
  ex : ∃ S P, b = bookD ws S P ∧ (S.map (·.1)).Nodup ∧ (P.map (·.1)).Nodup ∧ (∀ n, n ∉ S.map (·.1) → fW ws n = []) ∧ ∀ k, k ∉ P.map (·.1) → gW ws k = []
theorem mapM_some {f : D → Option D} {α : Type} {u g : α → D} : ∀ (l : List α), (∀ x ∈ l, f (u x) = some (g x)) → (l.map u).mapM f = some (l.map g)
  | [], _ => rfl
  | x :: l, q => by
    have e := q x List.mem_cons_self
    have ih := mapM_some (f := f) (u := u) (g := g) l fun y hy => q y (List.mem_cons_of_mem _ hy)
    rw [List.map_cons, List.mapM_cons, e, ih]
    rfl
theorem fz_str (k : Nat) (h : List O) (n : Nat) (s : List Nat) : fz (k + 1) h n (.str s) = some (.str s) := by
  simp [fz, lowD]
theorem low_strs (n : Nat) : ∀ l : List (List Nat), lowDs n (l.map .str) = true
  | [] => rfl
  | a :: l => by
    rw [List.map_cons, lowDs, low_strs n l]
    rfl
theorem fz_tupW (k : Nat) (h : List O) (n : Nat) (ws : List (List Nat)) : fz (k + 1) h n (tupW ws) = some (tupW ws) := by
  simp [fz, tupW, lowD, low_strs]
theorem fz_ref {k : Nat} {h : List O} {n m : Nat} (hm : n ≤ m) : fz (k + 1) h n (.ref m) = match h[m]? with
    | some (.lst xs) => (xs.mapM (fz k h n)).map .lst
    | some (.ins c ns vs) => (vs.mapM (fz k h n)).map (.obj c ns)
    | some (.dct t ks vs) => (vs.mapM (fz k h n)).map (.dct t ks)
    | none => none := by
  rw [fz, if_pos hm] <;> (rcases h[m]? with _ | (_ | _ | _) <;> rfl)
theorem fz_book {N : Nat} {ws : List (List Nat)} {S : List (Nat × Nat)} {P : List ((Nat × Nat × Nat) × Nat)} {rest h0 : List O} (b : Bk N (fW ws) (gW ws) S P rest) : fz 6 (hB h0 (tupW ws) S P rest) h0.length (.ref h0.length) = some (bookD ws S P) := by
  rw [fz_ref (Nat.le_refl _), hB_0]
  have e1 : fz 5 (hB h0 (tupW ws) S P rest) h0.length (tupW ws) = some (tupW ws) := fz_tupW _ _ _ _
  have e2 : fz 5 (hB h0 (tupW ws) S P rest) h0.length (.ref (h0.length + 1)) = some (.dct false (S.map fun q => .int q.1) (S.map fun q => .lst ((fW ws q.1).map .str))) := by
    rw [fz_ref (by omega), hB_1]
    have z : (S.map fun q => D.ref (h0.length + 3 + q.2)).mapM (fz 4 (hB h0 (tupW ws) S P rest) h0.length) = some (S.map fun q => .lst ((fW ws q.1).map .str)) := mapM_some S fun q hq => by
      rw [fz_ref (by omega), hB_3, b.s1 q hq]
      have y : ((fW ws q.1).map D.str).mapM (fz 3 (hB h0 (tupW ws) S P rest) h0.length) = some ((fW ws q.1).map D.str) := mapM_some _ fun s _ => fz_str _ _ _ _
      simp only [y, Option.map_some]
    simp only [z, Option.map_some]
  have e3 : fz 5 (hB h0 (tupW ws) S P rest) h0.length (.ref (h0.length + 2)) = some (.dct true (P.map fun q => kp q.1) (P.map fun q => .dct false ((gW ws q.1).map .str) (List.replicate (gW ws q.1).length (.bl true)))) := by
    rw [fz_ref (by omega), hB_2]
    have z : (P.map fun q => D.ref (h0.length + 3 + q.2)).mapM (fz 4 (hB h0 (tupW ws) S P rest) h0.length) = some (P.map fun q => .dct false ((gW ws q.1).map .str) (List.replicate (gW ws q.1).length (.bl true))) := mapM_some P fun q hq => by
      rw [fz_ref (by omega), hB_3, b.p1 q hq]
      have y : (List.replicate (gW ws q.1).length (D.bl true)).mapM (fz 3 (hB h0 (tupW ws) S P rest) h0.length) = some (List.replicate (gW ws q.1).length (.bl true)) := by
        have w := mapM_some (f := fz 3 (hB h0 (tupW ws) S P rest) h0.length) (u := fun _ : Nat => D.bl true) (g := fun _ : Nat => D.bl true) (List.replicate (gW ws q.1).length 0) fun x _ => by simp [fz, lowD]
        simpa using w
      simp only [y, Option.map_some]
    simp only [z, Option.map_some]
  simp only [insB, List.mapM_cons, List.mapM_nil, e1, e2, e3]
  rfl
theorem take_hB {h0 : List O} {x : D} {S : List (Nat × Nat)} {P : List ((Nat × Nat × Nat) × Nat)} {rest : List O} : (hB h0 x S P rest).take h0.length = h0 := by
  unfold hB
  rw [List.take_left']
  rfl
theorem make_ok {ws : List (List Nat)} (q : Ws ws) {a : E} {σ : Cf.S} {h h0 : List O} (e : a σ h = .ok (tupW ws) h0) (lo : h0.all (lowO h0.length) = true) : ∃ b, eMake "Book" m_Book_d_initd_ [a] σ h = .ok b h0 ∧ BookD ws b := by
  obtain ⟨N, S, P, rest, e1, bk⟩ := bk_init q h0
  refine ⟨bookD ws S P, ?_, q, S, P, rfl, bk.ks, bk.ps, bk.s0, bk.p0⟩
  have z := ev_cons e (ev_nil (σ := σ) (h := h0))
  show (evs [a] σ h).next _ = _
  rw [z]
  show (match m_Book_d_initd_ [.ref h0.length, tupW ws] (h0 ++ [.ins "Book" [] []]) with
    | .ok d h2 => if isNon d = true ∧ (h2.take h0.length).all (lowO h0.length) = true then match fz 6 h2 h0.length (.ref h0.length) with
      | some v => R.ok v (h2.take h0.length)
      | none => .no
      else .no
    | .er k vs h2 => .er k vs h2
    | .no => .no) = _
  simp only [e1, take_hB, fz_book bk]
  rw [if_pos ⟨rfl, lo⟩]
/-! ### what a book tells -/
section
variable {ws : List (List Nat)} {b : D} {h : List O}
theorem words_ok (B : BookD ws b) {a : E} {σ : Cf.S} {h1 : List O} (e : a σ h = .ok b h1) : e1 (pProp "Book" m_Book_words) a σ h = .ok (tupW ws) h1 := by
  obtain ⟨q, S, P, rfl, _⟩ := B
  refine (e1_ok e).trans ?_
  have z : m_Book_words [bookD ws S P] h1 = .ok (tupW ws) h1 := runR rfl (retR (by simp [e1, bindM, eVar, nx_ok, pFld, insOf, bookD, fldOf, ofOpt, retM]))
  simp only [pProp, insOf, bookD, if_true]
  simp only [bookD] at z
  simp only [noer, z]
theorem get_s (B : BookD ws b) (n : Nat) {k z : E} {σ : Cf.S} (e0 : σ[0]? = some (.val b)) (ek : k σ h = .ok (.int n) h) (ez : z σ h = .ok (.lst []) h) : eGetD (e1 (pFld "Book" "_sizes") (eVar 0)) k z σ h = .ok (.lst ((fW ws n).map .str)) h := by
  obtain ⟨q, S, P, rfl, ks, _, s0, _⟩ := B
  have f : e1 (pFld "Book" "_sizes") (eVar 0) σ h = .ok (.dct false (S.map fun q => .int q.1) (S.map fun q => .lst ((fW ws q.1).map .str))) h := by
    refine (e1_ok (u := bookD ws S P) (h1 := h) (by simp [eVar, e0])).trans ?_
    simp [pFld, insOf, bookD, fldOf, ofOpt, retM]
  show (e1 (pFld "Book" "_sizes") (eVar 0) σ h).next _ = _
  rw [f]
  show (k σ h).next _ = _
  rw [ek]
  show (z σ h).next _ = _
  rw [ez]
  show (match lookD _ (.int n) h with
    | some o => R.ok (o.getD (.lst [])) h
    | none => .no) = _
  by_cases hn : n ∈ S.map (·.1)
  · obtain ⟨⟨m, j⟩, hp, rfl⟩ := List.mem_map.mp hn
    have l : look (.int m) (S.map fun q => D.int q.1) (S.map fun q => .lst ((fW ws q.1).map .str)) = some (.lst ((fW ws m).map .str)) := lk_some (kd := fun n : Nat => D.int n) kd_int hp ks
    have l' : lookD (.dct false (S.map fun q => .int q.1) (S.map fun q => .lst ((fW ws q.1).map .str))) (.int m) h = some (some (.lst ((fW ws m).map .str))) := by
      simp only [lookD, dctOf, l, List.length_map]
      rfl
    simp only [l']
    rfl
  · have l : look (.int n) (S.map fun q => D.int q.1) (S.map fun q => .lst ((fW ws q.1).map .str)) = none := lk_none (kd := fun n : Nat => D.int n) kd_int hn
    have l' : lookD (.dct false (S.map fun q => .int q.1) (S.map fun q => .lst ((fW ws q.1).map .str))) (.int n) h = some none := by
      simp only [lookD, dctOf, l, List.length_map]
      rfl
    simp only [l', s0 n hn]
    rfl
/-- the words with a sign at a place, as a dict -/
def atD (ws : List (List Nat)) (k : Nat × Nat × Nat) : D := .dct false ((gW ws k).map .str) (List.replicate (gW ws k).length (.bl true))
theorem get_p (B : BookD ws b) (k : Nat × Nat × Nat) {kk z : E} {σ : Cf.S} (e0 : σ[0]? = some (.val b)) (ek : kk σ h = .ok (kp k) h) (ez : z σ h = .ok (.dct false [] []) h) : eGetD (e1 (pFld "Book" "_places") (eVar 0)) kk z σ h = .ok (atD ws k) h := by
  obtain ⟨q, S, P, rfl, _, ps, _, p0⟩ := B
  have f : e1 (pFld "Book" "_places") (eVar 0) σ h = .ok (.dct true (P.map fun q => kp q.1) (P.map fun q => atD ws q.1)) h := by
    refine (e1_ok (u := bookD ws S P) (h1 := h) (by simp [eVar, e0])).trans ?_
    simp [pFld, insOf, bookD, fldOf, ofOpt, retM, atD]
  show (e1 (pFld "Book" "_places") (eVar 0) σ h).next _ = _
  rw [f]
  show (kk σ h).next _ = _
  rw [ek]
  show (z σ h).next _ = _
  rw [ez]
  show (match lookD _ (kp k) h with
    | some o => R.ok (o.getD (.dct false [] [])) h
    | none => .no) = _
  by_cases hn : k ∈ P.map (·.1)
  · obtain ⟨⟨m, j⟩, hp, rfl⟩ := List.mem_map.mp hn
    have l : look (kp m) (P.map fun q => kp q.1) (P.map fun q => atD ws q.1) = some (atD ws m) := lk_some kd_kp hp ps
    have l' : lookD (.dct true (P.map fun q => kp q.1) (P.map fun q => atD ws q.1)) (kp m) h = some (some (atD ws m)) := by
      simp only [lookD, dctOf, l, List.length_map]
      rfl
    simp only [l']
    rfl
  · have l : look (kp k) (P.map fun q => kp q.1) (P.map fun q => atD ws q.1) = none := lk_none kd_kp hn
    have l' : lookD (.dct true (P.map fun q => kp q.1) (P.map fun q => atD ws q.1)) (kp k) h = some none := by
      simp only [lookD, dctOf, l, List.length_map]
      rfl
    simp only [l']
    simp only [atD, p0 k hn]
    rfl
end
end Cf
set_option Elab.async false
set_option linter.all false
set_option maxRecDepth 100000
set_option maxHeartbeats 4000000
/-! LG: words that fit a pattern -/
namespace Cf
theorem look_mem {w : List Nat} : ∀ {l : List (List Nat)} {vs : List D}, w ∈ l → vs.length = l.length → (look (.str w) (l.map .str) vs).isSome = true
  | [], _, h, _ => nomatch h
  | a :: l, [], _, e => nomatch e
  | a :: l, v :: vs, h, e => by
    by_cases h1 : a = w
    · simp [look, deq_str, h1]
    · have ih := look_mem (w := w) (l := l) (vs := vs) ((List.mem_cons.mp h).resolve_left fun z => h1 z.symm) (by simpa using e)
      simp only [List.map_cons, look, deq_str, beq_iff_eq, h1, if_false, ih]
theorem in_at (ws : List (List Nat)) (k : Nat × Nat × Nat) (w : List Nat) (h : List O) : pInDct (.str w) (atD ws k) h = .ok (.bl (decide (w ∈ gW ws k))) h := by
  have l : (look (.str w) ((gW ws k).map .str) (List.replicate (gW ws k).length (D.bl true))).isSome = decide (w ∈ gW ws k) := by
    by_cases hw : w ∈ gW ws k
    · rw [look_mem hw (by simp), decide_eq_true hw]
    · rw [look_str hw, decide_eq_false hw]
      rfl
  have z : lookD (atD ws k) (.str w) h = some (look (.str w) ((gW ws k).map .str) (List.replicate (gW ws k).length (D.bl true))) := by
    simp only [lookD, atD, dctOf, List.length_map, List.length_replicate]
    rfl
  simp only [pInDct, z, l]
/-- what the walk keeps -/
def okAt (ws : List (List Nat)) (n : Nat) : Nat → List Nat → List Nat → Bool
  | _, [], _ => true
  | i, c :: t, w => (c == 63 || decide (w ∈ gW ws (n, i, c))) && okAt ws n (i + 1) t w
def fIn (ws : List (List Nat)) (k : Nat × Nat × Nat) : D → Bool
  | .str w => decide (w ∈ gW ws k)
  | _ => false
theorem filter_str (f : D → Bool) : ∀ l : List (List Nat), (((l.map D.str).filter f).map id) = (l.filter fun w => f (.str w)).map .str
  | [] => rfl
  | a :: l => by
    have ih := filter_str f l
    rw [List.map_cons, List.filter_cons, List.filter_cons]
    cases f (.str a) with
    | true => simpa using ih
    | false => simpa using ih
abbrev gF : G := gTup [gVar 3, gVar 4]
abbrev stF : Ms := sIf (tOf (e2 pNe (eVar 4) (eC k_ANY))) (sSeq (sSet 5 (eGetD (e1 (pFld "Book" "_places") (eVar 0)) (eTup [e1 pLen (eVar 1), eVar 3, eVar 4]) (eC (.dct false [] [])))) (sSet 2 (eComp (iOf (eVar 2)) (gVar 6) (tOf (e2 pInDct (eVar 6) (eVar 5))) (eVar 6) [6]))) (sPass)
section
variable {ws : List (List Nat)} {b : D} {h : List O}
theorem at_set {σ : S} {i j : Nat} {v : Sl} (h : j ≠ i) : (σ.set i v)[j]? = σ[j]? := List.getElem?_set_ne fun e => h e.symm
theorem st_f (B : BookD ws b) {p : List Nat} {i c : Nat} {cur : List (List Nat)} (hc : cur.length ≤ 24) {σ : S} (s : σ.length = 7) (s0 : σ[0]? = some (.val b)) (s1 : σ[1]? = some (.val (.str p))) (s2 : σ[2]? = some (.val (.lst (cur.map .str)))) (s3 : σ[3]? = some (.val (.int i))) (s4 : σ[4]? = some (.val (.str [c]))) :
    ∃ σ', stF σ h = .nx σ' h ∧ σ'.length = 7 ∧ σ'[0]? = some (.val b) ∧ σ'[1]? = some (.val (.str p)) ∧ σ'[2]? = some (.val (.lst ((cur.filter fun w => c == 63 || decide (w ∈ gW ws (p.length, i, c))).map .str))) := by
  have t : tOf (e2 pNe (eVar 4) (eC k_ANY)) σ h = .ok (!(c == 63)) h := by
    simp [tOf, e2, bindM, eVar, s4, nx_ok, eC, retM, pNe_str, c_any, pTruth, truth, ofOpt]
  cases hc3 : (c == 63) with
  | true =>
    rw [hc3] at t
    refine ⟨σ, by simp [sIf, t, stmt_ok, sPass], s, s0, s1, ?_⟩
    rw [show (cur.filter fun w => true || decide (w ∈ gW ws (p.length, i, c))) = cur from List.filter_eq_self.mpr fun w _ => rfl]
    exact s2
  | false =>
    rw [hc3] at t
    have g : eGetD (e1 (pFld "Book" "_places") (eVar 0)) (eTup [e1 pLen (eVar 1), eVar 3, eVar 4]) (eC (.dct false [] [])) σ h = .ok (atD ws (p.length, i, c)) h :=
      get_p B (p.length, i, c) s0 (en_ok (ev_cons (x := .int p.length) ((e1_ok (u := .str p) (h1 := h) (by simp [eVar, s1])).trans rfl) (ev_cons (x := .int i) (h1 := h) (by simp [eVar, s3]) (ev_cons (x := .str [c]) (h1 := h) (by simp [eVar, s4]) ev_nil))) rfl) rfl
    have z := comp_f (it := iOf (eVar 2)) (g := gVar 6) (t := tOf (e2 pInDct (eVar 6) (eVar 5))) (e := eVar 6) (vs := [6]) (σ := σ.set 5 (.val (atD ws (p.length, i, c)))) (h := h) (ds := cur.map .str) (f := fIn ws (p.length, i, c)) (u := id)
      (by simp [iOf, bindM, eVar, at_set, s2, nx_ok, itemsOf, ofOpt, retM]) (by simp; omega) (fun d hd => by
        obtain ⟨w, hw, rfl⟩ := List.mem_map.mp hd
        have q5 : ((((σ.set 5 (.val (atD ws (p.length, i, c)))).set 6 .no).set 6 (.val (.str w))))[5]? = some (.val (atD ws (p.length, i, c))) := by
          rw [at_set (by decide), at_set (by decide), List.getElem?_set_self (by omega)]
        have q6 : ((((σ.set 5 (.val (atD ws (p.length, i, c)))).set 6 .no).set 6 (.val (.str w))))[6]? = some (.val (.str w)) := by
          rw [List.getElem?_set_self (by simp; omega)]
        refine ⟨_, rfl, ?_, ?_⟩
        · show tOf (e2 pInDct (eVar 6) (eVar 5)) (((σ.set 5 (.val (atD ws (p.length, i, c)))).set 6 .no).set 6 (.val (.str w))) h = _
          simp only [tOf, bindM, e2, eVar, q5, q6, nx_ok, in_at, pTruth, truth, ofOpt, retM, fIn]
        · show eVar 6 (((σ.set 5 (.val (atD ws (p.length, i, c)))).set 6 .no).set 6 (.val (.str w))) h = _
          simp only [eVar, q6, id])
    rw [filter_str] at z
    refine ⟨(σ.set 5 (.val (atD ws (p.length, i, c)))).set 2 (.val (.lst ((cur.filter fun w => fIn ws (p.length, i, c) (.str w)).map .str))), ?_, by simp [s], ?_, ?_, ?_⟩
    · simp only [stF, sIf, t, stmt_ok, Bool.not_false, if_true, sSeq, sSet, g, z]
    · rw [at_set (by decide), at_set (by decide)]; exact s0
    · rw [at_set (by decide), at_set (by decide)]; exact s1
    · rw [List.getElem?_set_self (by simp [s])]
      simp [fIn]
theorem for_f (B : BookD ws b) {p : List Nat} : ∀ (t : List Nat) (i : Nat) (cur : List (List Nat)) (σ : S), cur.length ≤ 24 → σ.length = 7 → σ[0]? = some (.val b) → σ[1]? = some (.val (.str p)) → σ[2]? = some (.val (.lst (cur.map .str))) →
    ∃ σ', forGo gF stF (enumD i (signs t)) σ h = .nx σ' h ∧ σ'[2]? = some (.val (.lst ((cur.filter (okAt ws p.length i t)).map .str)))
  | [], i, cur, σ, hc, s, s0, s1, s2 => ⟨σ, rfl, by rw [show cur.filter (okAt ws p.length i []) = cur from List.filter_eq_self.mpr fun w _ => rfl]; exact s2⟩
  | c :: t, i, cur, σ, hc, s, s0, s1, s2 => by
    have e1' : gF (.tup [.int i, .str [c]]) σ = some ((σ.set 3 (.val (.int i))).set 4 (.val (.str [c]))) := rfl
    obtain ⟨σ1, q1, u, u0, u1, u2⟩ := st_f (h := h) B hc (i := i) (c := c) (σ := (σ.set 3 (.val (.int i))).set 4 (.val (.str [c]))) (by simp [s]) (by rw [at_set (by decide), at_set (by decide)]; exact s0) (by rw [at_set (by decide), at_set (by decide)]; exact s1)
      (by rw [at_set (by decide), at_set (by decide)]; exact s2) (by rw [at_set (by decide), List.getElem?_set_self (by omega)]) (by rw [List.getElem?_set_self (by simp; omega)])
    obtain ⟨σ', q2, u3⟩ := for_f B t (i + 1) _ σ1 (Nat.le_trans (List.length_filter_le _ _) hc) u u0 u1 u2
    refine ⟨σ', ?_, ?_⟩
    · show forGo gF stF (.tup [.int i, .str [c]] :: enumD (i + 1) (signs t)) σ h = _
      simp only [forGo, e1', q1]
      exact q2
    · rw [u3, List.filter_filter]
      congr 5
      funext w
      rw [okAt, Bool.and_comm]
theorem okAt_eq {w : List Nat} (hw : w ∈ ws) : ∀ (t : List Nat) (i : Nat), i + t.length ≤ w.length → okAt ws w.length i t w = likeB t (w.drop i)
  | [], i, _ => by rw [okAt]; rfl
  | c :: t, i, hl => by
    have hi : i < w.length := by simp at hl; omega
    rw [okAt, okAt_eq hw t (i + 1) (by simp at hl; omega), List.drop_eq_getElem_cons hi, likeB]
    congr 1
    have m : decide (w ∈ gW ws (w.length, i, c)) = (w[i] == c) := by
      rw [Bool.eq_iff_iff, decide_eq_true_eq, beq_iff_eq]
      unfold gW
      rw [List.mem_filter]
      simp [hw, List.getElem?_eq_getElem hi]
    rw [m]
    congr 1
    exact Bool.beq_comm
theorem fit_eq (p : List Nat) : (fW ws p.length).filter (okAt ws p.length 0 p) = ws.filter (sem (.like p)) := by
  unfold fW
  rw [List.filter_filter]
  refine List.filter_congr fun w hw => ?_
  simp only [sem]
  by_cases hl : w.length = p.length
  · rw [← hl, okAt_eq hw p 0 (by omega), List.drop_zero]
    simp [hl]
  · have h1 : (w.length == p.length) = false := beq_eq_false_iff_ne.mpr hl
    have h2 : (p.length == w.length) = false := beq_eq_false_iff_ne.mpr fun e => hl e.symm
    rw [h1, h2]
    simp
theorem fitting_ok (B : BookD ws b) (p : List Nat) : m_Book_fitting [b, .str p] h = .ok (.lst ((ws.filter (sem (.like p))).map .str)) h := by
  have g : eGetD (e1 (pFld "Book" "_sizes") (eVar 0)) (e1 pLen (eVar 1)) (eLst []) [.val b, .val (.str p), .no, .no, .no, .no, .no] h = .ok (.lst ((fW ws p.length).map .str)) h :=
    get_s B p.length rfl rfl rfl
  obtain ⟨σ', q, u⟩ := for_f (h := h) B (p := p) p 0 (fW ws p.length) [.val b, .val (.str p), .val (.lst ((fW ws p.length).map .str)), .no, .no, .no, .no] (Nat.le_trans (List.length_filter_le _ _) B.wk.le) rfl rfl rfl rfl
  rw [fit_eq] at u
  refine runR rfl ((stepS g).trans ((stepFor (ds := enumD 0 (signs p)) (h1 := h) rfl q).trans (retR ?_)))
  refine (e1_ok (u := .lst ((ws.filter (sem (.like p))).map .str)) (h1 := h) (by simp [eVar, u])).trans rfl
theorem fitting_in (B : BookD ws b) (p : List Nat) {a c : E} {σ : S} (e0 : a σ h = .ok b h) (e1' : c σ h = .ok (.str p) h) : eMeth "Book" "fitting" m_Book_fitting a [c] σ h = .ok (.lst ((ws.filter (sem (.like p))).map .str)) h := by
  have e := fitting_ok (h := h) B p
  obtain ⟨q, S, P, rfl, _⟩ := B
  show (a σ h).next _ = _
  rw [e0]
  show (if "fitting" ∈ ["_words", "_sizes", "_places"] then R.no else (evs [c] σ >>= fun ds => m_Book_fitting (bookD ws S P :: ds)) h) = _
  rw [if_neg (by decide)]
  show (evs [c] σ h).next _ = _
  rw [ev_cons e1' ev_nil]
  exact e
end
end Cf
set_option Elab.async false
set_option linter.all false
set_option maxRecDepth 100000
set_option maxHeartbeats 4000000
/-! LH: patterns of a text -/
namespace Cf
def pat (t : List Nat) (size k : Int) : List Nat := List.replicate k.toNat 63 ++ t ++ List.replicate (size - k - t.length).toNat 63
def inP (t : List Nat) (size : Int) (k : Int) : Bool := decide (0 ≤ k) && decide (k ≤ size - t.length)
def pats (t : List Nat) (size : Int) (ks : List Int) : List (List Nat) := (ks.filter (inP t size)).map (pat t size)
theorem rep_one (n : Nat) : (List.replicate n [63]).flatten = List.replicate n 63 := by
  induction n with
  | zero => rfl
  | succ n ih => rw [List.replicate_succ, List.flatten_cons, ih, List.replicate_succ]; rfl
abbrev stP : Ms := sIf (tOf (eChain pLe pLe (eC (.int 0)) (eVar 4) (e2 pSub (eVar 1) (e1 pLen (eVar 0))))) (sApp 3 (e2 pAdd (e2 pAdd (e2 pRep (eC k_ANY) (eVar 4)) (eVar 0)) (e2 pRep (eC k_ANY) (e2 pSub (e2 pSub (eVar 1) (eVar 4)) (e1 pLen (eVar 0)))))) (sPass)
section
variable {h : List O}
theorem for_p (t : List Nat) (size : Int) (pl : D) (ht : t.length ≤ 100) (hs : size ≤ 100) : ∀ (ks : List Int) (acc : List (List Nat)) (z : Sl), (∀ k ∈ ks, -1000 ≤ k ∧ k ≤ 100) → acc.length + ks.length ≤ 1000 →
    ∃ z', forGo (gVar 4) stP (ks.map .int) [.val (.str t), .val (.int size), .val pl, .own (.lst (acc.map .str)), z] h = .nx [.val (.str t), .val (.int size), .val pl, .own (.lst ((acc ++ pats t size ks).map .str)), z'] h
  | [], acc, z, _, _ => ⟨z, by simp [pats, forGo]⟩
  | k :: ks, acc, z, hk, hl => by
    obtain ⟨k1, k2⟩ := hk k List.mem_cons_self
    have hl' : acc.length + ks.length + 1 ≤ 1000 := by simpa [Nat.add_assoc] using hl
    have c1 : eChain pLe pLe (eC (.int 0)) (eVar 4) (e2 pSub (eVar 1) (e1 pLen (eVar 0))) [.val (.str t), .val (.int size), .val pl, .own (.lst (acc.map .str)), .val (.int k)] h = .ok (.bl (inP t size k)) h := by
      unfold inP
      cases hd : decide (0 ≤ k) with
      | true => simp [eChain, bindM, eC, eVar, retM, nx_ok, pLe, pCmp, hd, e2, e1, pSub, pLen]
      | false => simp [eChain, bindM, eC, eVar, retM, nx_ok, pLe, pCmp, hd]
    have c2 : tOf (eChain pLe pLe (eC (.int 0)) (eVar 4) (e2 pSub (eVar 1) (e1 pLen (eVar 0)))) [.val (.str t), .val (.int size), .val pl, .own (.lst (acc.map .str)), .val (.int k)] h = .ok (inP t size k) h := by
      simp only [tOf, bindM, c1, nx_ok, pTruth, truth, ofOpt, retM]
    cases hi : inP t size k with
    | false =>
      rw [hi] at c2
      obtain ⟨z', q⟩ := for_p t size pl ht hs ks acc (.val (.int k)) (fun x hx => hk x (List.mem_cons_of_mem _ hx)) (by omega)
      refine ⟨z', ?_⟩
      have s : stP [.val (.str t), .val (.int size), .val pl, .own (.lst (acc.map .str)), .val (.int k)] h = .nx [.val (.str t), .val (.int size), .val pl, .own (.lst (acc.map .str)), .val (.int k)] h := by
        simp [sIf, c2, stmt_ok, sPass]
      show forGo (gVar 4) stP (.int k :: ks.map .int) _ h = _
      simp only [forGo, gVar, List.set_cons_succ, List.set_cons_zero, s, q]
      simp [pats, hi]
    | true =>
      rw [hi] at c2
      obtain ⟨i1, i2⟩ := Bool.and_eq_true_iff.mp hi
      have i1 := of_decide_eq_true i1
      have i2 := of_decide_eq_true i2
      have l1 : (acc.map D.str).length < 16000000 := by simp; omega
      have r1 : k.toNat + t.length ≤ 16000000 := by omega
      have e : e2 pAdd (e2 pAdd (e2 pRep (eC k_ANY) (eVar 4)) (eVar 0)) (e2 pRep (eC k_ANY) (e2 pSub (e2 pSub (eVar 1) (eVar 4)) (e1 pLen (eVar 0)))) [.val (.str t), .val (.int size), .val pl, .own (.lst (acc.map .str)), .val (.int k)] h = .ok (.str (pat t size k)) h := by
        have r3 : pRep (.str [63]) (.int k) = ret (.str (List.replicate k.toNat 63)) := by
          simp only [pRep]
          rw [if_pos ⟨by decide, by omega, by omega⟩, rep_one]
        have r4 : pRep (.str [63]) (.int (size - k - t.length)) = ret (.str (List.replicate (size - k - t.length).toNat 63)) := by
          simp only [pRep]
          rw [if_pos ⟨by decide, by omega, by omega⟩, rep_one]
        have r5 : pAdd (.str (List.replicate k.toNat 63)) (.str t) = ret (.str (List.replicate k.toNat 63 ++ t)) := by
          simp only [pAdd, List.length_replicate]
          rw [if_pos r1]
        have r6 : pAdd (.str (List.replicate k.toNat 63 ++ t)) (.str (List.replicate (size - k - t.length).toNat 63)) = ret (.str (pat t size k)) := by
          simp only [pAdd, List.length_append, List.length_replicate]
          rw [if_pos (by show _ ≤ 16000000; omega)]
          rfl
        refine (e2_ok (u := .str (List.replicate k.toNat 63 ++ t)) (v := .str (List.replicate (size - k - t.length).toNat 63)) (h1 := h) (h2 := h) ?_ ?_).trans (by rw [r6]; rfl)
        · refine (e2_ok (u := .str (List.replicate k.toNat 63)) (v := .str t) (h1 := h) (h2 := h) ((e2_ok (u := .str [63]) (v := .int k) (h1 := h) (h2 := h) (by simp [eC, retM, c_any]) rfl).trans (by rw [r3]; rfl)) rfl).trans (by rw [r5]; rfl)
        · refine (e2_ok (u := .str [63]) (v := .int (size - k - t.length)) (h1 := h) (h2 := h) (by simp [eC, retM, c_any]) rfl).trans (by rw [r4]; rfl)
      obtain ⟨z', q⟩ := for_p t size pl ht hs ks (acc ++ [pat t size k]) (.val (.int k)) (fun x hx => hk x (List.mem_cons_of_mem _ hx)) (by rw [List.length_append, List.length_singleton]; omega)
      refine ⟨z', ?_⟩
      have s : stP [.val (.str t), .val (.int size), .val pl, .own (.lst (acc.map .str)), .val (.int k)] h = .nx [.val (.str t), .val (.int size), .val pl, .own (.lst ((acc ++ [pat t size k]).map .str)), .val (.int k)] h := by
        simp only [stP, sIf, c2, stmt_ok, if_true, sApp, ownAt, List.getElem?_cons_succ, List.getElem?_cons_zero, e, if_pos l1, List.set_cons_succ, List.set_cons_zero, List.map_append, List.map_cons, List.map_nil]
      show forGo (gVar 4) stP (.int k :: ks.map .int) _ h = _
      simp only [forGo, gVar, List.set_cons_succ, List.set_cons_zero, s, q]
      simp [pats, hi]
theorem patterns_ok (t : List Nat) (size : Int) (ks : List Int) (ht : t.length ≤ 100) (hs : size ≤ 100) (hk : ∀ k ∈ ks, -1000 ≤ k ∧ k ≤ 100) (hl : ks.length ≤ 1000) : m_patterns_with [.str t, .int size, .lst (ks.map .int)] h = .ok (.lst ((pats t size ks).map .str)) h := by
  obtain ⟨z', q⟩ := for_p (h := h) t size (.lst (ks.map .int)) ht hs ks [] .no hk (by simpa using hl)
  refine runR rfl ?_
  show sSeq (sOwn 3 []) _ [.val (.str t), .val (.int size), .val (.lst (ks.map .int)), .no, .no] h = _
  have o : sOwn 3 [] [.val (.str t), .val (.int size), .val (.lst (ks.map .int)), .no, .no] h = .nx [.val (.str t), .val (.int size), .val (.lst (ks.map .int)), .own (.lst []), .no] h := rfl
  simp only [sSeq, o]
  have i : iOf (eVar 2) [.val (.str t), .val (.int size), .val (.lst (ks.map .int)), .own (.lst []), .no] h = .ok (ks.map .int) h := rfl
  have q' : forGo (gVar 4) stP (ks.map .int) [.val (.str t), .val (.int size), .val (.lst (ks.map .int)), .own (.lst []), .no] h = .nx [.val (.str t), .val (.int size), .val (.lst (ks.map .int)), .own (.lst ((pats t size ks).map .str)), z'] h := by simpa using q
  simp only [sFor, i, stmt_ok, q']
  rfl
end
def plc (kind t : List Nat) (size : Nat) : List Int := if kind = cps "begins" then [0] else if kind = cps "ends" then [(size : Int) - t.length] else (List.range size).map fun k : Nat => (k : Int)
theorem places_of_ok (kind t : List Nat) (size : Nat) (hs : size ≤ 100) (h : List O) : m_places_of [.str kind, .str t, .int size] h = .ok (.lst ((plc kind t size).map .int)) h := by
  by_cases h1 : kind = cps "begins"
  · refine runR rfl ((stepT (kindR rfl (beq_iff_eq.mpr h1)) (retR (d := .lst ((plc kind t size).map .int)) ?_)))
    simp [plc, h1, eLst, eN, evs, bindM, eC, retM, nx_ok, mkLst]
  · refine runR rfl ((stepF (kindR rfl (beq_eq_false_iff_ne.mpr h1))).trans (retR ?_))
    by_cases h2 : kind = cps "ends"
    · refine (ifT (kindR rfl (beq_iff_eq.mpr h2))).trans ?_
      simp only [plc, h1, h2, if_false, if_true]
      rw [if_neg (by decide)]
      simp [eLst, eN, evs, bindM, e2, e1, eVar, pLen, pSub, retM, nx_ok, mkLst]
    · refine (ifF (kindR rfl (beq_eq_false_iff_ne.mpr h2))).trans ((e1_ok (u := .int size) (h1 := h) rfl).trans ?_)
      simp only [plc, h1, h2, if_false, pRange]
      rw [if_pos ⟨by omega, by omega⟩]
      simp [rangeD, retM]
end Cf
set_option Elab.async false
set_option linter.all false
set_option maxRecDepth 100000
set_option maxHeartbeats 4000000
/-! LI: words with a text: what is found -/
namespace Cf
def hK (h : List O) (ks : List (List Nat)) : List O := h ++ [.dct false (ks.map .str) (List.replicate ks.length (.bl true))]
theorem updV_same (k v : D) : ∀ (ks : List (List Nat)) (n : Nat), n = ks.length → updV k v (ks.map .str) (List.replicate n v) = List.replicate n v
  | [], _, rfl => rfl
  | a :: ks, _, rfl => by
    rw [List.length_cons, List.replicate_succ, List.map_cons, updV, updV_same k v ks _ rfl]
    split <;> rfl
abbrev stK : Ms := sSetDct (eVar 3) (eVar 6) (eC (.bl true))
section
variable {ws : List (List Nat)} {b : D} {h : List O} {kind t : List Nat}
structure St (b : D) (kind t : List Nat) (n : Nat) (σ : S) : Prop where
  l : σ.length = 7
  s0 : σ[0]? = some (.val b)
  s1 : σ[1]? = some (.val (.str kind))
  s2 : σ[2]? = some (.val (.str t))
  s3 : σ[3]? = some (.val (.ref n))
theorem St.set {σ : S} {n : Nat} (q : St b kind t n σ) {i : Nat} (hi : 4 ≤ i) (v : Sl) : St b kind t n (σ.set i v) :=
  ⟨by rw [List.length_set]; exact q.l, by rw [at_set (by omega)]; exact q.s0, by rw [at_set (by omega)]; exact q.s1, by rw [at_set (by omega)]; exact q.s2, by rw [at_set (by omega)]; exact q.s3⟩
theorem st_k {ks : List (List Nat)} {w : List Nat} {σ : S} (q : St b kind t h.length σ) (s6 : σ[6]? = some (.val (.str w))) (nd : ks.Nodup) (hl : ks.length < 16000000) :
    ∃ ks', stK σ (hK h ks) = .nx σ (hK h ks') ∧ ks'.Nodup ∧ (∀ x, x ∈ ks' ↔ x ∈ ks ∨ x = w) ∧ ks'.length ≤ ks.length + 1 := by
  have g : (hK h ks)[h.length]? = some (.dct false (ks.map .str) (List.replicate ks.length (.bl true))) := app_at h _ 0
  have g2 : ∀ o, (hK h ks).set h.length o = h ++ [o] := fun o => app_set h _ 0 o
  have key : ∃ ks' : List (List Nat), putD (.str w) (.bl true) (ks.map .str) (List.replicate ks.length (.bl true)) = (ks'.map .str, List.replicate ks'.length (.bl true)) ∧ ks'.Nodup ∧ (∀ x, x ∈ ks' ↔ x ∈ ks ∨ x = w) ∧ ks'.length ≤ ks.length + 1 := by
    by_cases hw : w ∈ ks
    · refine ⟨ks, ?_, nd, fun x => ⟨.inl, fun z => z.elim id fun e => e ▸ hw⟩, by omega⟩
      unfold putD
      rw [if_pos (look_mem hw (by simp)), updV_same _ _ _ _ rfl]
    · refine ⟨ks ++ [w], ?_, nodup_snoc nd hw, fun x => by simp, by simp⟩
      unfold putD
      rw [look_str hw, if_neg (by simp)]
      simp [List.replicate_succ']
  obtain ⟨ks', p, k1, k2, k3⟩ := key
  refine ⟨ks', ?_, k1, k2, k3⟩
  have z : setDct (.ref h.length) (.str w) (.bl true) (hK h ks) = some (hK h ks') := by
    simp only [setDct, g, p]
    rw [if_pos ⟨rfl, by simp, by simpa using hl⟩, g2]
    rfl
  have v3 : eVar 3 σ (hK h ks) = .ok (.ref h.length) (hK h ks) := by simp [eVar, q.s3]
  have v6 : eVar 6 σ (hK h ks) = .ok (.str w) (hK h ks) := by simp [eVar, s6]
  simp only [stK, sSetDct, eC, retM, stmt_ok, v3, v6, z]
theorem for_k : ∀ (l ks : List (List Nat)) (σ : S), St b kind t h.length σ → ks.Nodup → ks.length + l.length < 16000000 →
    ∃ σ' ks', forGo (gVar 6) stK (l.map .str) σ (hK h ks) = .nx σ' (hK h ks') ∧ St b kind t h.length σ' ∧ ks'.Nodup ∧ (∀ x, x ∈ ks' ↔ x ∈ ks ∨ x ∈ l) ∧ ks'.length ≤ ks.length + l.length
  | [], ks, σ, q, nd, _ => ⟨σ, ks, rfl, q, nd, fun x => by simp, by simp⟩
  | w :: l, ks, σ, q, nd, hl => by
    have hl' : ks.length + l.length + 1 < 16000000 := by simp at hl; omega
    obtain ⟨ks1, e, n1, m1, l1⟩ := st_k (h := h) (ks := ks) (w := w) (q.set (i := 6) (by decide) (.val (.str w))) (List.getElem?_set_self (by rw [q.l]; decide)) nd (by omega)
    obtain ⟨σ', ks', e2, q2, n2, m2, l2⟩ := for_k l ks1 _ (q.set (i := 6) (by decide) (.val (.str w))) n1 (by omega)
    refine ⟨σ', ks', ?_, q2, n2, fun x => ?_, by simp; omega⟩
    · show forGo (gVar 6) stK (.str w :: l.map .str) σ _ = _
      simp only [forGo, gVar, e]
      exact e2
    · rw [m2, m1, List.mem_cons, or_assoc]
abbrev stM : Ms := sFor (iOf (eMeth "Book" "fitting" m_Book_fitting (eVar 0) [eVar 5])) (gVar 6) stK
theorem for_m (B : BookD ws b) : ∀ (ps ks : List (List Nat)) (σ : S), St b kind t h.length σ → ks.Nodup → ks.length + 24 * ps.length < 16000000 →
    ∃ σ' ks', forGo (gVar 5) stM (ps.map .str) σ (hK h ks) = .nx σ' (hK h ks') ∧ St b kind t h.length σ' ∧ ks'.Nodup ∧ (∀ x, x ∈ ks' ↔ x ∈ ks ∨ ∃ p ∈ ps, x ∈ ws.filter (sem (.like p))) ∧ ks'.length ≤ ks.length + 24 * ps.length
  | [], ks, σ, q, nd, _ => ⟨σ, ks, rfl, q, nd, fun x => by simp, by simp⟩
  | p :: ps, ks, σ, q, nd, hl => by
    have hl' : ks.length + 24 * ps.length + 24 < 16000000 := by simp at hl; omega
    have lw : (ws.filter (sem (.like p))).length ≤ 24 := Nat.le_trans (List.length_filter_le _ _) B.wk.le
    have q1 := q.set (i := 5) (by decide) (.val (.str p))
    have s5 : (σ.set 5 (.val (.str p)))[5]? = some (.val (.str p)) := List.getElem?_set_self (by rw [q.l]; decide)
    have i : iOf (eMeth "Book" "fitting" m_Book_fitting (eVar 0) [eVar 5]) (σ.set 5 (.val (.str p))) (hK h ks) = .ok ((ws.filter (sem (.like p))).map .str) (hK h ks) := by
      have e := fitting_in (h := hK h ks) B p (a := eVar 0) (c := eVar 5) (σ := σ.set 5 (.val (.str p))) (by simp [eVar, q1.s0]) (by simp [eVar, s5])
      simp only [iOf, bindM, e, nx_ok, itemsOf, ofOpt, retM]
    obtain ⟨σ1, ks1, e, q2, n1, m1, l1⟩ := for_k (h := h) (ws.filter (sem (.like p))) ks _ q1 nd (by omega)
    obtain ⟨σ', ks', e2, q3, n2, m2, l2⟩ := for_m B ps ks1 σ1 q2 n1 (by omega)
    refine ⟨σ', ks', ?_, q3, n2, fun x => ?_, by simp; omega⟩
    · have s : stM (σ.set 5 (.val (.str p))) (hK h ks) = .nx σ1 (hK h ks1) := by
        simp only [stM, sFor, i, stmt_ok]
        exact e
      show forGo (gVar 5) stM (.str p :: ps.map .str) σ _ = _
      simp only [forGo, gVar, s]
      exact e2
    · rw [m2, m1, or_assoc]
      simp only [List.mem_cons, exists_eq_or_imp]
abbrev stO : Ms := sFor (iOf (eN m_patterns_with [eVar 2, eVar 4, eN m_places_of [eVar 1, eVar 2, eVar 4]])) (gVar 5) stM
theorem plc_in (kind t : List Nat) (ht : t.length ≤ 100) (size : Nat) (hs : size ≤ 100) : ∀ k ∈ plc kind t size, -1000 ≤ k ∧ k ≤ 100 := by
  intro k hk
  unfold plc at hk
  split at hk
  · simp at hk; omega
  · split at hk
    · simp at hk; omega
    · obtain ⟨i, hi, rfl⟩ := List.mem_map.mp hk
      have := List.mem_range.mp hi
      omega
theorem plc_len (kind t : List Nat) (size : Nat) : (plc kind t size).length ≤ size + 1 := by
  unfold plc
  split
  · simp
  · split
    · simp
    · simp
def hits (ws : List (List Nat)) (kind t : List Nat) (size : Nat) (x : List Nat) : Prop := ∃ p ∈ pats t size (plc kind t size), x ∈ ws.filter (sem (.like p))
theorem for_o (B : BookD ws b) (ht : t.length ≤ 100) : ∀ (zs : List Nat) (ks : List (List Nat)) (σ : S), (∀ z ∈ zs, z ≤ 4) → St b kind t h.length σ → ks.Nodup → ks.length + 200 * zs.length < 16000000 →
    ∃ σ' ks', forGo (gVar 4) stO (zs.map fun z : Nat => D.int z) σ (hK h ks) = .nx σ' (hK h ks') ∧ St b kind t h.length σ' ∧ ks'.Nodup ∧ (∀ x, x ∈ ks' ↔ x ∈ ks ∨ ∃ z ∈ zs, hits ws kind t z x)
  | [], ks, σ, _, q, nd, _ => ⟨σ, ks, rfl, q, nd, fun x => by simp⟩
  | z :: zs, ks, σ, hz, q, nd, hl => by
    have hl' : ks.length + 200 * zs.length + 200 < 16000000 := by simp at hl; omega
    have hz4 := hz z List.mem_cons_self
    have q1 := q.set (i := 4) (by decide) (.val (.int z))
    have s4 : (σ.set 4 (.val (.int z)))[4]? = some (.val (.int z)) := List.getElem?_set_self (by rw [q.l]; decide)
    have lp : (pats t z (plc kind t z)).length ≤ 5 := by
      unfold pats
      rw [List.length_map]
      exact Nat.le_trans (List.length_filter_le _ _) (Nat.le_trans (plc_len _ _ _) (by omega))
    have i : iOf (eN m_patterns_with [eVar 2, eVar 4, eN m_places_of [eVar 1, eVar 2, eVar 4]]) (σ.set 4 (.val (.int z))) (hK h ks) = .ok ((pats t z (plc kind t z)).map .str) (hK h ks) := by
      have v1 : eVar 1 (σ.set 4 (.val (.int z))) (hK h ks) = .ok (.str kind) (hK h ks) := by simp only [eVar, q1.s1]
      have v2 : eVar 2 (σ.set 4 (.val (.int z))) (hK h ks) = .ok (.str t) (hK h ks) := by simp only [eVar, q1.s2]
      have v4 : eVar 4 (σ.set 4 (.val (.int z))) (hK h ks) = .ok (.int z) (hK h ks) := by simp only [eVar, s4]
      have e := en_ok (f := m_patterns_with) (ev_cons v2 (ev_cons v4 (ev_cons (en_ok (ev_cons v1 (ev_cons v2 (ev_cons v4 ev_nil))) (places_of_ok kind t z (by omega) _)) ev_nil))) (patterns_ok (h := hK h ks) t z (plc kind t z) ht (by omega) (plc_in kind t ht z (by omega)) (Nat.le_trans (plc_len _ _ _) (by omega)))
      simp only [iOf, bindM, e, nx_ok, itemsOf, ofOpt, retM]
    obtain ⟨σ1, ks1, e, q2, n1, m1, l1⟩ := for_m (h := h) B (pats t z (plc kind t z)) ks _ q1 nd (by omega)
    obtain ⟨σ', ks', e2, q3, n2, m2⟩ := for_o B ht zs ks1 σ1 (fun y hy => hz y (List.mem_cons_of_mem _ hy)) q2 n1 (by omega)
    refine ⟨σ', ks', ?_, q3, n2, fun x => ?_⟩
    · have s : stO (σ.set 4 (.val (.int z))) (hK h ks) = .nx σ1 (hK h ks1) := by
        simp only [stO, sFor, i, stmt_ok]
        exact e
      show forGo (gVar 4) stO (.int z :: zs.map fun z : Nat => D.int z) σ _ = _
      simp only [forGo, gVar, s]
      exact e2
    · rw [m2, m1, or_assoc]
      simp only [List.mem_cons, exists_eq_or_imp, hits]
theorem nodup_le : ∀ (l m : List (List Nat)), l.Nodup → (∀ x ∈ l, x ∈ m) → l.length ≤ m.length
  | [], m, _, _ => Nat.zero_le _
  | a :: l, m, nd, q => by
    obtain ⟨n1, n2⟩ := List.nodup_cons.mp nd
    have ha := q a List.mem_cons_self
    have := nodup_le l (m.erase a) n2 fun x hx => (List.mem_erase_of_ne (a := x) (b := a) fun e => n1 (by rw [← e]; exact hx)).mpr (q x (List.mem_cons_of_mem _ hx))
    rw [List.length_erase_of_mem ha] at this
    have := List.length_pos_of_mem ha
    simp; omega
theorem strs_map : ∀ l : List (List Nat), strsOf (l.map .str) = some l
  | [] => rfl
  | a :: l => by rw [List.map_cons, strsOf, strs_map l]; rfl
theorem lt_of {l : List (List Nat)} (h : l.Pairwise (· ≤ ·)) (n : l.Nodup) : l.Pairwise (· < ·) := by
  refine (h.and n).imp fun {a b} z => ?_
  rcases List.le_iff_lt_or_eq.mp z.1 with y | y
  · exact y
  · exact absurd y z.2
theorem words_with_raw (B : BookD ws b) (ht : t.length ≤ 100) (g : List Nat → Bool) (hg : ∀ x ∈ ws, g x = true ↔ ∃ z ∈ [1, 2, 3, 4], hits ws kind t z x) :
    ∃ more, m_words_with [b, .str kind, .str t] h = .ok (.lst ((ws.filter g).map .str)) (h ++ more) := by
  obtain ⟨σ', ks, e, q, nd, m⟩ := for_o (h := h) (kind := kind) (t := t) B ht [1, 2, 3, 4] [] [.val b, .val (.str kind), .val (.str t), .val (.ref h.length), .no, .no, .no] (by decide) ⟨rfl, rfl, rfl, rfl, rfl⟩ .nil (by decide)
  have mem : ∀ x, x ∈ ks ↔ x ∈ ws.filter g := fun x => by
    rw [m, List.mem_filter]
    constructor
    · rintro (z | ⟨z, hz, y⟩)
      · cases z
      · obtain ⟨p, hp, hx⟩ := y
        have hw := (List.mem_filter.mp hx).1
        exact ⟨hw, (hg x hw).mpr ⟨z, hz, p, hp, hx⟩⟩
    · rintro ⟨hw, y⟩
      exact .inr ((hg x hw).mp y)
  have srt : sortL ks = ws.filter g := by
    refine uniqU (lt_of (sortL_sorted ks) ((sortL_perm ks).nodup_iff.mpr nd)) (B.wk.up.filter _) fun x => ?_
    rw [(sortL_perm ks).mem_iff, mem]
  have len : ks.length ≤ 24 := Nat.le_trans (nodup_le ks ws nd fun x hx => (List.mem_filter.mp ((mem x).mp hx)).1) B.wk.le
  refine ⟨[.dct false (ks.map .str) (List.replicate ks.length (.bl true))], runR rfl ?_⟩
  have n : sSet 3 (eNewDct false) ([b, .str kind, .str t].map .val ++ List.replicate (7 - 3) .no) h = .nx [.val b, .val (.str kind), .val (.str t), .val (.ref h.length), .no, .no, .no] (hK h []) := rfl
  have i : iRange2 (eC (.int 1)) (e2 pAdd (eC k_MOST_LETTERS) (eC (.int 1))) [.val b, .val (.str kind), .val (.str t), .val (.ref h.length), .no, .no, .no] (hK h []) = .ok ([1, 2, 3, 4].map fun z : Nat => D.int z) (hK h []) := by
    have s1 : small 1 = true := small_ok (by decide) (by decide)
    have s2 : small 5 = true := small_ok (by decide) (by decide)
    simp [iRange2, bindM, eC, retM, nx_ok, e2, pAdd, s1, s2]
    rfl
  refine (show sSeq (sSet 3 (eNewDct false)) _ _ h = _ from by simp only [sSeq, n]; rfl : _).trans ?_
  · exact (stepFor i e).trans (retR (by
      refine (e1_ok (u := .ref h.length) (h1 := hK h ks) (by simp [eVar, q.s3])).trans ?_
      have g0 : (hK h ks)[h.length]? = some (.dct false (ks.map .str) (List.replicate ks.length (.bl true))) := app_at h _ 0
      have ok : ks.all okL = true := List.all_eq_true.mpr fun x hx => by
        have tx := B.wk.tx x (List.mem_filter.mp ((mem x).mp hx)).1
        unfold okL
        rw [Bool.and_eq_true, decide_eq_true_eq, List.all_eq_true]
        refine ⟨by have := tx.2.1; omega, fun c hc => ?_⟩
        have := tx.2.2 c hc
        rw [decide_eq_true_eq]
        have z : ∀ c ∈ az, c < 1114112 := by decide
        exact z c this
      simp only [pSortD, dctOf, g0, strs_map]
      rw [if_pos ⟨trivial, by omega, ok⟩, srt]
      rfl))
end
end Cf
set_option Elab.async false
set_option linter.all false
set_option maxRecDepth 100000
set_option maxHeartbeats 4000000
/-! LJ: words with a text -/
namespace Cf
theorem likeB_rep (q : List Nat) : ∀ (a : Nat) (x : List Nat), a ≤ x.length → likeB (List.replicate a 63 ++ q) x = likeB q (x.drop a)
  | 0, x, _ => by simp
  | a + 1, [], h => by simp at h
  | a + 1, y :: x, h => by
    rw [List.replicate_succ, List.cons_append, likeB, likeB_rep q a x (by simpa using h)]
    simp
theorem likeB_txt (q : List Nat) : ∀ (t y : List Nat), t.length ≤ y.length → 63 ∉ t → likeB (t ++ q) y = ((y.take t.length == t) && likeB q (y.drop t.length))
  | [], y, _, _ => by simp
  | c :: t, [], h, _ => by simp at h
  | c :: t, d :: y, h, n => by
    have h1 : ¬ 63 = c := fun e => n (by rw [e]; simp)
    rw [List.cons_append, likeB, likeB_txt q t y (by simpa using h) fun z => n (List.mem_cons_of_mem _ z), List.length_cons, List.take_succ_cons, List.drop_succ_cons]
    rw [List.cons_beq_cons]
    have h2 : ((63 : Nat) == c) = false := beq_eq_false_iff_ne.mpr h1
    rw [h2, Bool.false_or, Bool.and_assoc]
theorem likeB_end : ∀ (r : Nat) (y : List Nat), likeB (List.replicate r 63) y = true
  | 0, y => by cases y <;> rfl
  | r + 1, [] => rfl
  | r + 1, d :: y => by
    rw [List.replicate_succ, likeB, likeB_end r y]
    rfl
theorem like_pat {t x : List Nat} {size k : Int} (n : 63 ∉ t) (hi : inP t size k = true) : sem (.like (pat t size k)) x = true ↔ (x.length : Int) = size ∧ (x.drop k.toNat).take t.length = t := by
  obtain ⟨i1, i2⟩ := Bool.and_eq_true_iff.mp hi
  have i1 := of_decide_eq_true i1
  have i2 := of_decide_eq_true i2
  have pl : (pat t size k).length = size.toNat := by
    unfold pat
    simp
    omega
  simp only [sem, Bool.and_eq_true, beq_iff_eq, pl]
  constructor
  · rintro ⟨h1, h2⟩
    refine ⟨by omega, ?_⟩
    unfold pat at h2
    rw [List.append_assoc, likeB_rep _ _ _ (by omega), likeB_txt _ _ _ (by rw [List.length_drop]; omega) n, Bool.and_eq_true] at h2
    exact beq_iff_eq.mp h2.1
  · rintro ⟨h1, h2⟩
    refine ⟨by omega, ?_⟩
    unfold pat
    rw [List.append_assoc, likeB_rep _ _ _ (by omega), likeB_txt _ _ _ (by rw [List.length_drop]; omega) n, h2, likeB_end]
    simp
section
variable {ws : List (List Nat)} {b : D} {h : List O} {t x : List Nat}
theorem hits_iff (n : 63 ∉ t) (hx : x ∈ ws) (h2 : 1 ≤ x.length) (h4 : x.length ≤ 4) (kind : List Nat) : (∃ z ∈ [1, 2, 3, 4], hits ws kind t z x) ↔ ∃ k ∈ plc kind t x.length, inP t x.length k = true ∧ (x.drop k.toNat).take t.length = t := by
  constructor
  · rintro ⟨z, hz, p, hp, hq⟩
    obtain ⟨k, hk, rfl⟩ := List.mem_map.mp hp
    obtain ⟨hk1, hk2⟩ := List.mem_filter.mp hk
    obtain ⟨e1, e2⟩ := (like_pat n hk2).mp (List.mem_filter.mp hq).2
    have e : z = x.length := by omega
    subst e
    exact ⟨k, hk1, hk2, e2⟩
  · rintro ⟨k, hk1, hk2, e⟩
    refine ⟨x.length, ?_, pat t x.length k, List.mem_map.mpr ⟨k, List.mem_filter.mpr ⟨hk1, hk2⟩, rfl⟩, List.mem_filter.mpr ⟨hx, (like_pat n hk2).mpr ⟨rfl, e⟩⟩⟩
    have : x.length = 1 ∨ x.length = 2 ∨ x.length = 3 ∨ x.length = 4 := by omega
    rcases this with z | z | z | z <;> rw [z] <;> simp
theorem az63 {t : List Nat} (ht : ∀ c ∈ t, c ∈ az) : 63 ∉ t := fun z => by
  have : ¬ 63 ∈ az := by decide
  exact this (ht _ z)
theorem begins_iff (ht : Tx t 1 4 az) (w : Ws ws) (hx : x ∈ ws) : sem (.begins t) x = true ↔ ∃ z ∈ [1, 2, 3, 4], hits ws (cps "begins") t z x := by
  have tx := w.tx x hx
  rw [hits_iff (az63 ht.2.2) hx (by have := tx.1; omega) tx.2.1]
  simp only [plc, if_true, sem, beq_iff_eq]
  constructor
  · intro e
    refine ⟨0, by simp, ?_, by simpa using e⟩
    have := congrArg List.length e
    rw [List.length_take] at this
    unfold inP
    rw [Bool.and_eq_true, decide_eq_true_eq, decide_eq_true_eq]
    omega
  · rintro ⟨k, hk, _, e⟩
    simp at hk
    subst hk
    simpa using e
theorem ends_iff (ht : Tx t 1 4 az) (w : Ws ws) (hx : x ∈ ws) : sem (.ends t) x = true ↔ ∃ z ∈ [1, 2, 3, 4], hits ws (cps "ends") t z x := by
  have tx := w.tx x hx
  rw [hits_iff (az63 ht.2.2) hx (by have := tx.1; omega) tx.2.1]
  have ne : ¬ cps "ends" = cps "begins" := by decide
  simp only [plc, ne, if_false, if_true, sem, Bool.and_eq_true, decide_eq_true_eq, beq_iff_eq, List.mem_singleton]
  constructor
  · rintro ⟨l, e⟩
    refine ⟨_, rfl, ?_, ?_⟩
    · unfold inP
      rw [Bool.and_eq_true, decide_eq_true_eq, decide_eq_true_eq]
      omega
    · rw [show ((x.length : Int) - t.length).toNat = x.length - t.length by omega, e, List.take_of_length_le (Nat.le_refl _)]
  · rintro ⟨k, rfl, hi, e⟩
    obtain ⟨i1, i2⟩ := Bool.and_eq_true_iff.mp hi
    have i1 := of_decide_eq_true i1
    have l : t.length ≤ x.length := by omega
    refine ⟨l, ?_⟩
    rw [show ((x.length : Int) - t.length).toNat = x.length - t.length by omega, List.take_of_length_le (by rw [List.length_drop]; omega)] at e
    exact e
theorem holds_iff (ht : Tx t 1 4 az) (w : Ws ws) (hx : x ∈ ws) : sem (.holds t) x = true ↔ ∃ z ∈ [1, 2, 3, 4], hits ws (cps "holds") t z x := by
  have tx := w.tx x hx
  rw [hits_iff (az63 ht.2.2) hx (by have := tx.1; omega) tx.2.1]
  have ne : ¬ cps "holds" = cps "begins" := by decide
  have ne2 : ¬ cps "holds" = cps "ends" := by decide
  simp only [plc, ne, ne2, if_false, sem, subIn, List.any_eq_true, beq_iff_eq]
  constructor
  · rintro ⟨i, hi, e⟩
    have := congrArg List.length e
    rw [List.length_take, List.length_drop] at this
    have t1 := ht.1
    refine ⟨(i : Int), List.mem_map.mpr ⟨i, List.mem_range.mpr (by omega), rfl⟩, ?_, by simpa using e⟩
    unfold inP
    rw [Bool.and_eq_true, decide_eq_true_eq, decide_eq_true_eq]
    omega
  · rintro ⟨k, hk, hi, e⟩
    obtain ⟨i, hi', rfl⟩ := List.mem_map.mp hk
    exact ⟨i, List.mem_range.mpr (by have := List.mem_range.mp hi'; omega), by simpa using e⟩
theorem with_begins (B : BookD ws b) (ht : Tx t 1 4 az) : ∃ more, m_words_with [b, .str (cps "begins"), .str t] h = .ok (.lst ((ws.filter (sem (.begins t))).map .str)) (h ++ more) :=
  words_with_raw B (by have := ht.2.1; omega) _ fun x hx => begins_iff ht B.wk hx
theorem with_ends (B : BookD ws b) (ht : Tx t 1 4 az) : ∃ more, m_words_with [b, .str (cps "ends"), .str t] h = .ok (.lst ((ws.filter (sem (.ends t))).map .str)) (h ++ more) :=
  words_with_raw B (by have := ht.2.1; omega) _ fun x hx => ends_iff ht B.wk hx
theorem with_holds (B : BookD ws b) (ht : Tx t 1 4 az) : ∃ more, m_words_with [b, .str (cps "holds"), .str t] h = .ok (.lst ((ws.filter (sem (.holds t))).map .str)) (h ++ more) :=
  words_with_raw B (by have := ht.2.1; omega) _ fun x hx => holds_iff ht B.wk hx
end
end Cf
set_option Elab.async false
set_option linter.all false
set_option maxRecDepth 100000
set_option maxHeartbeats 4000000
/-! LK: words between two texts -/
namespace Cf
abbrev tW : T := tOf (e2 pLt (eVar 2) (eVar 3))
abbrev bWh : Ms := sSeq (sSet 4 (e2 pFDiv (e2 pAdd (eVar 2) (eVar 3)) (eC (.int 2)))) (sAsg (eIf (tOf (e2 pLt (e2 pIdx (eVar 0) (eVar 4)) (eVar 1))) (eTup [e2 pAdd (eVar 4) (eC (.int 1)), eVar 3]) (eTup [eVar 2, eVar 4])) (gTup [gVar 2, gVar 3]))
section
variable {ws : List (List Nat)} {u : List Nat} {h : List O}
theorem idx_tup {i : Nat} (hi : i < ws.length) : pIdx (tupW ws) (.int i) = ret (.str ws[i]) := by
  have h1 : (0 : Int) ≤ i := by omega
  have h2 : (i : Int) < ((ws.map D.str).length : Nat) := by rw [List.length_map]; omega
  simp only [tupW, pIdx, getAt, ixOf, h1, h2, if_true, Option.bind_some, Int.toNat_natCast, List.getElem?_map, List.getElem?_eq_getElem hi, Option.map_some, ofOpt]
theorem wh_ok (up : ws.Pairwise (· < ·)) : ∀ (fuel lo hi : Nat) (z : Sl), hi - lo < fuel → lo ≤ hi → hi ≤ ws.length → (∀ j (hj : j < ws.length), j < lo → ws[j] < u) → (∀ j (hj : j < ws.length), hi ≤ j → ¬ ws[j] < u) →
    ∃ (i : Nat) (z' : Sl), whGo tW bWh fuel [.val (tupW ws), .val (.str u), .val (.int lo), .val (.int hi), z] h = .nx [.val (tupW ws), .val (.str u), .val (.int i), .val (.int i), z'] h ∧ i ≤ ws.length ∧ (∀ j (hj : j < ws.length), j < i → ws[j] < u) ∧ (∀ j (hj : j < ws.length), i ≤ j → ¬ ws[j] < u)
  | 0, lo, hi, z, hf, _, _, _, _ => by omega
  | fuel + 1, lo, hi, z, hf, hle, hn, h1, h2 => by
    have t : tW [.val (tupW ws), .val (.str u), .val (.int lo), .val (.int hi), z] h = .ok (decide (lo < hi)) h := by
      simp [tOf, e2, bindM, eVar, nx_ok, pLt, pCmp, retM, pTruth, truth, ofOpt]
    by_cases hlt : lo < hi
    · rw [decide_eq_true hlt] at t
      have hm : (lo + hi) / 2 < ws.length := by omega
      have me : ((lo : Int) + hi) / 2 = (((lo + hi) / 2 : Nat) : Int) := by omega
      have s4 : sSet 4 (e2 pFDiv (e2 pAdd (eVar 2) (eVar 3)) (eC (.int 2))) [.val (tupW ws), .val (.str u), .val (.int lo), .val (.int hi), z] h = .nx [.val (tupW ws), .val (.str u), .val (.int lo), .val (.int hi), .val (.int ((lo + hi) / 2 : Nat))] h := by
        simp [sSet, e2, bindM, eVar, nx_ok, pAdd, retM, eC, pFDiv, stmt_ok]
      have t2 : tOf (e2 pLt (e2 pIdx (eVar 0) (eVar 4)) (eVar 1)) [.val (tupW ws), .val (.str u), .val (.int lo), .val (.int hi), .val (.int ((lo + hi) / 2 : Nat))] h = .ok (decide (ws[(lo + hi) / 2] < u)) h := by
        have e : e2 pIdx (eVar 0) (eVar 4) [.val (tupW ws), .val (.str u), .val (.int lo), .val (.int hi), .val (.int ((lo + hi) / 2 : Nat))] h = .ok (.str ws[(lo + hi) / 2]) h :=
          (e2_ok (u := tupW ws) (v := .int ((lo + hi) / 2 : Nat)) (h1 := h) (h2 := h) rfl rfl).trans (by rw [idx_tup hm]; rfl)
        have e' : e2 pLt (e2 pIdx (eVar 0) (eVar 4)) (eVar 1) [.val (tupW ws), .val (.str u), .val (.int lo), .val (.int hi), .val (.int ((lo + hi) / 2 : Nat))] h = .ok (.bl (decide (ws[(lo + hi) / 2] < u))) h := (e2_ok (f := pLt) (v := .str u) (h2 := h) e (b := eVar 1) rfl).trans rfl
        simp only [tOf, bindM, e', retM, nx_ok, pTruth, truth, ofOpt]
      by_cases hc : ws[(lo + hi) / 2] < u
      · rw [decide_eq_true hc] at t2
        have b1 : bWh [.val (tupW ws), .val (.str u), .val (.int lo), .val (.int hi), z] h = .nx [.val (tupW ws), .val (.str u), .val (.int ((lo + hi) / 2 + 1 : Nat)), .val (.int hi), .val (.int ((lo + hi) / 2 : Nat))] h := by
          simp only [bWh, sSeq, s4, sAsg, ifT t2]
          simp [eTup, eN, evs, bindM, e2, eVar, eC, retM, nx_ok, pAdd, mkTup, stmt_ok, gTup, gsGo, gVar]
        obtain ⟨i, z', e, q⟩ := wh_ok up fuel ((lo + hi) / 2 + 1) hi (.val (.int ((lo + hi) / 2 : Nat))) (by omega) (by omega) hn (fun j hj hjl => by
          rcases Nat.lt_or_eq_of_le (Nat.le_of_lt_succ hjl) with y | y
          · exact List.lt_trans (List.pairwise_iff_getElem.mp up j _ hj hm y) hc
          · subst y
            exact hc) h2
        refine ⟨i, z', ?_, q⟩
        simp only [whGo, t, stmt_ok, if_true, b1]
        exact e
      · rw [decide_eq_false hc] at t2
        have b1 : bWh [.val (tupW ws), .val (.str u), .val (.int lo), .val (.int hi), z] h = .nx [.val (tupW ws), .val (.str u), .val (.int lo), .val (.int ((lo + hi) / 2 : Nat)), .val (.int ((lo + hi) / 2 : Nat))] h := by
          simp only [bWh, sSeq, s4, sAsg, ifF t2]
          simp [eTup, eN, evs, bindM, eVar, retM, nx_ok, mkTup, stmt_ok, gTup, gsGo, gVar]
        obtain ⟨i, z', e, q⟩ := wh_ok up fuel lo ((lo + hi) / 2) (.val (.int ((lo + hi) / 2 : Nat))) (by omega) (by omega) (by omega) h1 (fun j hj hjl y => by
          rcases Nat.lt_or_eq_of_le hjl with x | x
          · exact hc (List.lt_trans (List.pairwise_iff_getElem.mp up _ j hm hj x) y)
          · subst x
            exact hc y)
        refine ⟨i, z', ?_, q⟩
        simp only [whGo, t, stmt_ok, if_true, b1]
        exact e
    · rw [decide_eq_false hlt] at t
      have e : lo = hi := by omega
      subst e
      refine ⟨lo, z, ?_, hn, h1, h2⟩
      simp [whGo, t, stmt_ok]
theorem first_ok (q : Ws ws) (u : List Nat) (h : List O) : ∃ i : Nat, m_first_at_least [tupW ws, .str u] h = .ok (.int i) h ∧ i ≤ ws.length ∧ (∀ j (hj : j < ws.length), j < i → ws[j] < u) ∧ (∀ j (hj : j < ws.length), i ≤ j → ¬ ws[j] < u) := by
  obtain ⟨i, z', e, r⟩ := wh_ok (u := u) (h := h) q.up 64 0 ws.length .no (by have := q.le; omega) (Nat.zero_le _) (Nat.le_refl _) (fun j hj hl => by omega) (fun j hj hl => by omega)
  refine ⟨i, runR rfl ?_, r⟩
  have p : sPar 2 3 (eC (.int 0)) (e1 pLen (eVar 0)) ([tupW ws, .str u].map .val ++ List.replicate (5 - 2) .no) h = .nx [.val (tupW ws), .val (.str u), .val (.int (0 : Nat)), .val (.int ws.length), .no] h := by
    simp [sPar, evs, bindM, eC, e1, eVar, retM, nx_ok, pLen, tupW, stmt_ok]
  show sSeq (sPar 2 3 _ _) _ _ h = _
  simp only [sSeq, p, sWhile, e]
  rfl
theorem lt_snoc : ∀ (l : List Nat) (a : Nat), l < l ++ [a]
  | [], a => List.nil_lt_cons a []
  | c :: l, a => by
    rw [List.cons_append, List.cons_lt_cons_iff]
    exact .inr ⟨rfl, lt_snoc l a⟩
theorem filter_cut {p q : List Nat → Bool} {i j : Nat} (h1 : ∀ k (hk : k < ws.length), k < i → q ws[k] = false) (h2 : ∀ k (hk : k < ws.length), j ≤ k → q ws[k] = false) (h3 : ∀ k (hk : k < ws.length), i ≤ k → k < j → q ws[k] = p ws[k]) :
    ((ws.drop i).take (j - i)).filter p = ws.filter q := by
  have e : ws = ws.take i ++ ((ws.drop i).take (j - i) ++ (ws.drop i).drop (j - i)) := by rw [List.take_append_drop, List.take_append_drop]
  conv => rhs; rw [e]
  rw [List.filter_append, List.filter_append]
  have a1 : (ws.take i).filter q = [] := List.filter_eq_nil_iff.mpr fun w hw => by
    obtain ⟨k, hk, rfl⟩ := List.mem_iff_getElem.mp hw
    rw [List.length_take] at hk
    rw [List.getElem_take, h1 k (by omega) (by omega)]
    decide
  have a3 : ((ws.drop i).drop (j - i)).filter q = [] := List.filter_eq_nil_iff.mpr fun w hw => by
    obtain ⟨k, hk, rfl⟩ := List.mem_iff_getElem.mp hw
    rw [List.length_drop, List.length_drop] at hk
    rw [List.getElem_drop, List.getElem_drop, h2 _ (by omega) (by omega)]
    decide
  rw [a1, a3, List.nil_append, List.append_nil]
  refine List.filter_congr fun w hw => ?_
  obtain ⟨k, hk, rfl⟩ := List.mem_iff_getElem.mp hw
  rw [List.length_take, List.length_drop] at hk
  rw [List.getElem_take, List.getElem_drop, h3 _ (by omega) (by omega) (by omega)]
variable {b : D}
theorem cut_nat {α : Type} (l : List α) {i j : Nat} (hi : i ≤ l.length) (hj : j ≤ l.length) : cut l (some (i : Int)) (some (j : Int)) = (l.drop i).take (j - i) := by
  have e1 : ¬ (i : Int) < 0 := by omega
  have e2 : ¬ (j : Int) < 0 := by omega
  simp only [cut, clip, e1, e2, if_false, Int.toNat_natCast, Nat.min_eq_left hi, Nat.min_eq_left hj]
theorem between_ok (B : BookD ws b) (lo hi : List Nat) (hl : hi.length ≤ 100) (h : List O) : m_words_between [b, .str lo, .str hi] h = .ok (.lst ((ws.filter (sem (.frm lo hi))).map .str)) h := by
  obtain ⟨i, e1', i1, i2, i3⟩ := first_ok B.wk lo h
  obtain ⟨j, e2', j1, j2, j3⟩ := first_ok B.wk (hi ++ [97]) h
  have s1 : eN m_first_at_least [e1 (pProp "Book" m_Book_words) (eVar 0), eVar 1] ([b, .str lo, .str hi].map .val ++ List.replicate (6 - 3) .no) h = .ok (.int i) h := en_ok (ev_cons (words_ok B rfl) (ev_cons rfl ev_nil)) e1'
  have ah : e2 pAdd (eVar 2) (e2 pIdx (eC k_LETTERS) (eC (.int 0))) [.val b, .val (.str lo), .val (.str hi), .val (.int i), .no, .no] h = .ok (.str (hi ++ [97])) h := by
    have ix : pIdx k_LETTERS (.int 0) = ret (.str [97]) := by rfl
    have a : pAdd (.str hi) (.str [97]) = ret (.str (hi ++ [97])) := by
      simp only [pAdd, List.length_singleton]
      rw [if_pos (by show _ ≤ 16000000; omega)]
    refine (e2_ok (u := .str hi) (v := .str [97]) (h1 := h) (h2 := h) rfl ((e2_ok (u := k_LETTERS) (v := .int 0) (h1 := h) (h2 := h) rfl rfl).trans (by rw [ix]; rfl))).trans (by rw [a]; rfl)
  have s2 : eN m_first_at_least [e1 (pProp "Book" m_Book_words) (eVar 0), e2 pAdd (eVar 2) (e2 pIdx (eC k_LETTERS) (eC (.int 0)))] [.val b, .val (.str lo), .val (.str hi), .val (.int i), .no, .no] h = .ok (.int j) h := en_ok (ev_cons (words_ok B rfl) (ev_cons ah ev_nil)) e2'
  refine runR rfl ((stepS s1).trans ((stepS s2).trans (retR ?_)))
  have it : iOf (eSlice (e1 (pProp "Book" m_Book_words) (eVar 0)) (some (eVar 3)) (some (eVar 4))) [.val b, .val (.str lo), .val (.str hi), .val (.int i), .val (.int j), .no] h = .ok ((((ws.drop i).take (j - i))).map .str) h := by
    have w := words_ok B (a := eVar 0) (σ := [.val b, .val (.str lo), .val (.str hi), .val (.int i), .val (.int j), .no]) (h := h) (h1 := h) rfl
    have c := cut_nat (ws.map D.str) (i := i) (j := j) (by simpa using i1) (by simpa using j1)
    simp only [iOf, bindM, eSlice, w, nx_ok, optInt, eVar, List.getElem?_cons_succ, List.getElem?_cons_zero, retM, tupW, pSlice, c, itemsOf, ofOpt, ← List.map_drop, ← List.map_take]
  have z := comp_f (g := gVar 5) (t := tOf (e2 pLe (eVar 5) (eVar 2))) (e := eVar 5) (vs := [5]) (f := fun d => match d with | .str w => decide (w ≤ hi) | _ => false) (u := id) it (by
    rw [List.length_map, List.length_take, List.length_drop]
    have := B.wk.le
    omega) (fun d hd => by
      obtain ⟨w, hw, rfl⟩ := List.mem_map.mp hd
      refine ⟨[.val b, .val (.str lo), .val (.str hi), .val (.int i), .val (.int j), .val (.str w)], rfl, ?_, rfl⟩
      simp [tOf, e2, bindM, eVar, nx_ok, pLe, pCmp, retM, pTruth, truth, ofOpt])
  rw [filter_str] at z
  have fc := filter_cut (ws := ws) (p := fun w => decide (w ≤ hi)) (q := sem (.frm lo hi)) (i := i) (j := j) (fun k hk hki => by
      have := i2 k hk hki
      simp only [sem, Bool.and_eq_false_iff, decide_eq_false_iff_not]
      exact .inl fun y => y this) (fun k hk hjk => by
      have := j3 k hk hjk
      simp only [sem, Bool.and_eq_false_iff, decide_eq_false_iff_not]
      exact .inr fun y => this (List.lt_of_le_of_lt y (lt_snoc hi 97))) (fun k hk h1 h2 => by
      have := i3 k hk h1
      simp only [sem]
      rw [decide_eq_true (show lo ≤ ws[k] from this), Bool.true_and])
  refine z.trans ?_
  rw [← fc]
end
end Cf
set_option Elab.async false
set_option linter.all false
set_option maxRecDepth 100000
set_option maxHeartbeats 4000000
/-! LL: words by a clue -/
namespace Cf
theorem any_str (l : List (List Nat)) (w : List Nat) : ((l.map D.str).any fun y => deq y (.str w)) = decide (w ∈ l) := by
  rw [Bool.eq_iff_iff, List.any_eq_true, decide_eq_true_eq]
  constructor
  · rintro ⟨y, hy, e⟩
    obtain ⟨v, hv, rfl⟩ := List.mem_map.mp hy
    rw [deq_str, beq_iff_eq] at e
    rw [← e]
    exact hv
  · intro h
    exact ⟨.str w, List.mem_map.mpr ⟨w, h, rfl⟩, by rw [deq_str]; exact beq_self_eq_true w⟩
theorem flat_strs (l : List (List Nat)) : (l.map D.str).all flat = true := by simp [flat]
theorem in_strs (l : List (List Nat)) (w : List Nat) : pIn (.str w) (.lst (l.map .str)) = ret (.bl (decide (w ∈ l))) := by
  rw [pIn_lst rfl (flat_strs l), any_str]
theorem in_strsT (l : List (List Nat)) (w : List Nat) : pIn (.str w) (.tup (l.map .str)) = ret (.bl (decide (w ∈ l))) := by
  have e : inD (.str w) (.tup (l.map D.str)) = some (decide (w ∈ l)) := by
    show (if _ ∧ _ then _ else _) = _
    rw [if_pos ⟨rfl, flat_strs l⟩, any_str]
  unfold pIn
  rw [e]
  rfl
theorem notin_strs (l : List (List Nat)) (w : List Nat) : pNotIn (.str w) (.lst (l.map .str)) = ret (.bl (!decide (w ∈ l))) := by
  have e : inD (.str w) (.lst (l.map D.str)) = some (decide (w ∈ l)) := by
    show (if _ ∧ _ then _ else _) = _
    rw [if_pos ⟨rfl, flat_strs l⟩, any_str]
  unfold pNotIn
  rw [e]
  rfl
/-- a comprehension over words -/
theorem comp_w {it : I} {i : Nat} {t : T} {σ : S} {h : List O} {f : List Nat → Bool} {l : List (List Nat)} (hi : it σ h = .ok (l.map .str) h) (hl : l.length ≤ 16000000) (s : i < σ.length) (q : ∀ w ∈ l, ∀ σ', σ'.length = σ.length → (∀ j, j ≠ i → σ'[j]? = σ[j]?) → σ'[i]? = some (.val (.str w)) → t σ' h = .ok (f w) h) :
    eComp it (gVar i) t (eVar i) [i] σ h = .ok (.lst ((l.filter f).map .str)) h := by
  have z := comp_f (it := it) (g := gVar i) (t := t) (e := eVar i) (vs := [i]) (σ := σ) (h := h) (f := fun d => match d with | .str w => f w | _ => false) (u := id) hi (by rw [List.length_map]; exact hl) (fun d hd => by
    obtain ⟨w, hw, rfl⟩ := List.mem_map.mp hd
    have e : ((wipe σ [i]).set i (.val (.str w)))[i]? = some (.val (.str w)) := List.getElem?_set_self (by simp [wipe]; exact s)
    refine ⟨(wipe σ [i]).set i (.val (.str w)), rfl, q w hw _ (by simp [wipe]) (fun j hj => ?_) e, ?_⟩
    · show ((σ.set i .no).set i _)[j]? = _
      rw [at_set hj, at_set hj]
    · simp only [eVar, e, id])
  rw [filter_str] at z
  exact z
section
variable {ws : List (List Nat)} {b : D}
theorem like_back {w x : List Nat} (n : 63 ∉ w) : sem (.like w.reverse) x = sem (.back w) x := by
  simp only [sem]
  by_cases hl : w.reverse.length = x.length
  · have e := likeB_txt [] w.reverse x (by omega) (fun z => n (List.mem_reverse.mp z))
    rw [List.append_nil] at e
    have e3 : likeB [] (x.drop w.reverse.length) = true := rfl
    rw [e, e3, Bool.and_true, hl, List.take_length, beq_self_eq_true, Bool.true_and]
    rw [Bool.eq_iff_iff, beq_iff_eq, beq_iff_eq]
    constructor
    · intro z; rw [z, List.reverse_reverse]
    · intro z; rw [← z, List.reverse_reverse]
  · have h1 : (w.reverse.length == x.length) = false := beq_eq_false_iff_ne.mpr hl
    rw [h1, Bool.false_and]
    symm
    rw [beq_eq_false_iff_ne]
    intro z
    exact hl (by rw [← z]; simp)
theorem words_it (B : BookD ws b) {σ : S} {h : List O} (s0 : σ[0]? = some (.val b)) : iOf (e1 (pProp "Book" m_Book_words) (eVar 0)) σ h = .ok (ws.map .str) h := by
  have w := words_ok B (a := eVar 0) (σ := σ) (h := h) (h1 := h) (by simp [eVar, s0])
  simp only [iOf, bindM, w, nx_ok, tupW, itemsOf, ofOpt, retM]
theorem plain_comp (B : BookD ws b) (c : Cl) (ok : okC c) (hd : dep c ≤ 8) (kd : D) (h : List O) : eComp (iOf (e1 (pProp "Book" m_Book_words) (eVar 0))) (gVar 6) (tOf (eN (m_plainly_meets 8) [eVar 1, eVar 6])) (eVar 6) [6] [.val b, .val (toD c), .val kd, .no, .no, .no, .no] h = .ok (.lst ((ws.filter (sem c)).map .str)) h :=
  comp_w (words_it B rfl) (by have := B.wk.le; omega) (Nat.lt_of_lt_of_le (by decide : 6 < 7) (Nat.le_refl 7)) fun w hw σ' l o e => by
    have v1 : eVar 1 σ' h = .ok (toD c) h := by simp only [eVar, o 1 (by decide)]; rfl
    have v6 : eVar 6 σ' h = .ok (.str w) h := by simp only [eVar, e]
    have m := en_ok (ev_cons v1 (ev_cons v6 ev_nil)) (meets_ok c 8 w h ok hd)
    simp only [tOf, bindM, m, nx_ok, pTruth, truth, ofOpt, retM]
theorem not_comp (B : BookD ws b) (c : Cl) (x kd : D) (h : List O) : eComp (iOf (e1 (pProp "Book" m_Book_words) (eVar 0))) (gVar 6) (tOf (e2 pNotIn (eVar 6) (eVar 3))) (eVar 6) [6] [.val b, .val x, .val kd, .val (.lst ((ws.filter (sem c)).map .str)), .no, .no, .no] h = .ok (.lst ((ws.filter (sem (.neg c))).map .str)) h := by
  refine comp_w (words_it B rfl) (by have := B.wk.le; omega) (Nat.lt_of_lt_of_le (by decide : 6 < 7) (Nat.le_refl 7)) fun w hw σ' l o e => ?_
  have v3 : eVar 3 σ' h = .ok (.lst ((ws.filter (sem c)).map .str)) h := by simp only [eVar, o 3 (by decide)]; rfl
  have v6 : eVar 6 σ' h = .ok (.str w) h := by simp only [eVar, e]
  have m : e2 pNotIn (eVar 6) (eVar 3) σ' h = .ok (.bl (!decide (w ∈ ws.filter (sem c)))) h := (e2_ok v6 v3).trans (by rw [notin_strs]; rfl)
  have f : decide (w ∈ ws.filter (sem c)) = sem c w := by
    rw [Bool.eq_iff_iff, decide_eq_true_eq, List.mem_filter]
    exact ⟨fun z => z.2, fun z => ⟨hw, z⟩⟩
  simp only [tOf, bindM, m, nx_ok, pTruth, truth, ofOpt, retM, f, sem]
theorem both_comp (c d : Cl) (hl : ws.length ≤ 24) (bb x kd : D) (h : List O) : eComp (iOf (eVar 4)) (gVar 6) (tOf (e2 pIn (eVar 6) (eVar 5))) (eVar 6) [6] [.val bb, .val x, .val kd, .no, .val (.lst ((ws.filter (sem c)).map .str)), .val (.lst ((ws.filter (sem d)).map .str)), .no] h = .ok (.lst ((ws.filter (sem (.both c d))).map .str)) h := by
  have z := comp_w (it := iOf (eVar 4)) (i := 6) (t := tOf (e2 pIn (eVar 6) (eVar 5))) (σ := [.val bb, .val x, .val kd, .no, .val (.lst ((ws.filter (sem c)).map .str)), .val (.lst ((ws.filter (sem d)).map .str)), .no]) (h := h) (f := fun w => decide (w ∈ ws.filter (sem d))) (l := ws.filter (sem c)) rfl (Nat.le_trans (List.length_filter_le _ _) (by omega)) (Nat.lt_of_lt_of_le (by decide : 6 < 7) (Nat.le_refl 7)) fun w hw σ' l o e => by
    have v5 : eVar 5 σ' h = .ok (.lst ((ws.filter (sem d)).map .str)) h := by simp only [eVar, o 5 (by decide)]; rfl
    have v6 : eVar 6 σ' h = .ok (.str w) h := by simp only [eVar, e]
    have m : e2 pIn (eVar 6) (eVar 5) σ' h = .ok (.bl (decide (w ∈ ws.filter (sem d)))) h := (e2_ok v6 v5).trans (by rw [in_strs]; rfl)
    simp only [tOf, bindM, m, nx_ok, pTruth, truth, ofOpt, retM]
  refine z.trans ?_
  rw [List.filter_filter]
  congr 3
  refine List.filter_congr fun w hw => ?_
  have f : decide (w ∈ ws.filter (sem d)) = sem d w := by
    rw [Bool.eq_iff_iff, decide_eq_true_eq, List.mem_filter]
    exact ⟨fun z => z.2, fun z => ⟨hw, z⟩⟩
  simp only [f, sem, Bool.and_comm]
theorem either_sort (q : Ws ws) (c d : Cl) {σ : S} {h : List O} (s4 : σ[4]? = some (.val (.lst ((ws.filter (sem c)).map .str)))) (s5 : σ[5]? = some (.val (.lst ((ws.filter (sem d)).map .str)))) : e1 pSortU (e2 pAdd (eVar 4) (eVar 5)) σ h = .ok (.lst ((ws.filter (sem (.either c d))).map .str)) h := by
  have l1 : (ws.filter (sem c)).length ≤ 24 := Nat.le_trans (List.length_filter_le _ _) q.le
  have l2 : (ws.filter (sem d)).length ≤ 24 := Nat.le_trans (List.length_filter_le _ _) q.le
  have a : pAdd (.lst ((ws.filter (sem c)).map .str)) (.lst ((ws.filter (sem d)).map .str)) = ret (.lst ((ws.filter (sem c) ++ ws.filter (sem d)).map .str)) := by
    simp only [pAdd, List.length_map, List.map_append]
    rw [if_pos (by show _ ≤ 16000000; omega)]
  have e : e2 pAdd (eVar 4) (eVar 5) σ h = .ok (.lst ((ws.filter (sem c) ++ ws.filter (sem d)).map .str)) h := (e2_ok (by simp only [eVar, s4]; rfl) (by simp only [eVar, s5]; rfl)).trans (by rw [a]; rfl)
  refine (e1_ok e).trans ?_
  simp only [pSortU, strs_map]
  rw [if_pos (by rw [List.length_append]; omega)]
  have u : sortU (ws.filter (sem c) ++ ws.filter (sem d)) = ws.filter (sem (.either c d)) := by
    refine uniqU (sortU_sorted _) (q.up.filter _) fun x => ?_
    rw [sortU_mem, List.mem_append, List.mem_filter, List.mem_filter, List.mem_filter]
    simp only [sem, Bool.or_eq_true]
    constructor
    · rintro (⟨z, y⟩ | ⟨z, y⟩)
      · exact ⟨z, .inl y⟩
      · exact ⟨z, .inr y⟩
    · rintro ⟨z, y | y⟩
      · exact .inl ⟨z, y⟩
      · exact .inr ⟨z, y⟩
  rw [u]
  rfl
theorem in_ok (B : BookD ws b) : ∀ (c : Cl) (n : Nat) (h : List O), okC c → dep c ≤ n → dep c ≤ 8 → ∃ more, m_words_in n [b, toD c] h = .ok (.lst ((ws.filter (sem c)).map .str)) (h ++ more)
  | c, 0, h, _, hn, _ => by cases c <;> simp [dep] at hn
  | .like p, n + 1, h, ok, hn, _ => ⟨[], by
    rw [List.append_nil]
    exact runR rfl ((stepS (d := k_LIKE) rfl).trans (stepT (kindR (a := cps "like") rfl (by decide)) (retR (fitting_in B p rfl rfl))))⟩
  | .begins t, n + 1, h, ok, hn, _ => by
    obtain ⟨more, e⟩ := with_begins (h := h) B ok
    exact ⟨more, runR rfl ((stepS (d := k_BEGINS) rfl).trans ((stepF (kindR (a := cps "begins") rfl (by decide))).trans (stepT (kindI [cps "begins", cps "ends", cps "holds"] (a := cps "begins") rfl (by decide)) (retR (en_ok (ev_cons rfl (ev_cons rfl (ev_cons rfl ev_nil))) e)))))⟩
  | .ends t, n + 1, h, ok, hn, _ => by
    obtain ⟨more, e⟩ := with_ends (h := h) B ok
    exact ⟨more, runR rfl ((stepS (d := k_ENDS) rfl).trans ((stepF (kindR (a := cps "ends") rfl (by decide))).trans (stepT (kindI [cps "begins", cps "ends", cps "holds"] (a := cps "ends") rfl (by decide)) (retR (en_ok (ev_cons rfl (ev_cons rfl (ev_cons rfl ev_nil))) e)))))⟩
  | .holds t, n + 1, h, ok, hn, _ => by
    obtain ⟨more, e⟩ := with_holds (h := h) B ok
    exact ⟨more, runR rfl ((stepS (d := k_HOLDS) rfl).trans ((stepF (kindR (a := cps "holds") rfl (by decide))).trans (stepT (kindI [cps "begins", cps "ends", cps "holds"] (a := cps "holds") rfl (by decide)) (retR (en_ok (ev_cons rfl (ev_cons rfl (ev_cons rfl ev_nil))) e)))))⟩
  | .frm x y, n + 1, h, ok, hn, _ => ⟨[], by
    rw [List.append_nil]
    exact runR rfl ((stepS (d := k_FROM) rfl).trans ((stepF (kindR (a := cps "from") rfl (by decide))).trans ((stepF (kindI [cps "begins", cps "ends", cps "holds"] (a := cps "from") rfl (by decide))).trans (stepT (kindR (a := cps "from") rfl (by decide)) (retR (en_ok (ev_cons rfl (ev_cons rfl (ev_cons rfl ev_nil))) (between_ok B x y (by have := ok.2.2.1; omega) h)))))))⟩
  | .back w, n + 1, h, ok, hn, _ => ⟨[], by
    rw [List.append_nil, ← List.filter_congr fun x _ => like_back (x := x) (az63 ok.2.2)]
    exact runR rfl ((stepS (d := k_BACK) rfl).trans ((stepF (kindR (a := cps "back") rfl (by decide))).trans ((stepF (kindI [cps "begins", cps "ends", cps "holds"] (a := cps "back") rfl (by decide))).trans ((stepF (kindR (a := cps "back") rfl (by decide))).trans (stepT (kindR (a := cps "back") rfl (by decide)) (retR (fitting_in B w.reverse rfl rfl)))))))⟩
  | .count x m, n + 1, h, ok, hn, hd => ⟨[], by
    rw [List.append_nil]
    exact runR rfl ((stepS (d := k_COUNT) rfl).trans ((stepF (kindR (a := cps "count") rfl (by decide))).trans ((stepF (kindI [cps "begins", cps "ends", cps "holds"] (a := cps "count") rfl (by decide))).trans ((stepF (kindR (a := cps "count") rfl (by decide))).trans ((stepF (kindR (a := cps "count") rfl (by decide))).trans ((stepF (kindR (a := cps "count") rfl (by decide))).trans ((stepF (kindI [cps "both", cps "either"] (a := cps "count") rfl (by decide))).trans (retR (plain_comp B (.count x m) ok hd _ h)))))))))⟩
  | .turned, n + 1, h, ok, hn, hd => ⟨[], by
    rw [List.append_nil]
    exact runR rfl ((stepS (d := k_TURNED) rfl).trans ((stepF (kindR (a := cps "turned") rfl (by decide))).trans ((stepF (kindI [cps "begins", cps "ends", cps "holds"] (a := cps "turned") rfl (by decide))).trans ((stepF (kindR (a := cps "turned") rfl (by decide))).trans ((stepF (kindR (a := cps "turned") rfl (by decide))).trans ((stepF (kindR (a := cps "turned") rfl (by decide))).trans ((stepF (kindI [cps "both", cps "either"] (a := cps "turned") rfl (by decide))).trans (retR (plain_comp B .turned ok hd _ h)))))))))⟩
  | .neg c, n + 1, h, ok, hn, hd => by
    obtain ⟨more, e⟩ := in_ok B c n h ok (by simp only [dep] at hn; omega) (by simp only [dep] at hd; omega)
    exact ⟨more, runR rfl ((stepS (d := k_NOT) rfl).trans ((stepF (kindR (a := cps "not") rfl (by decide))).trans ((stepF (kindI [cps "begins", cps "ends", cps "holds"] (a := cps "not") rfl (by decide))).trans ((stepF (kindR (a := cps "not") rfl (by decide))).trans ((stepF (kindR (a := cps "not") rfl (by decide))).trans (stepT (kindR (a := cps "not") rfl (by decide)) ((stepS (en_ok (ev_cons rfl (ev_cons rfl ev_nil)) e)).trans (retR (not_comp B c _ _ _)))))))))⟩
  | .both c d, n + 1, h, ok, hn, hd => by
    obtain ⟨m1, e⟩ := in_ok B c n h ok.1 (by simp only [dep] at hn; omega) (by simp only [dep] at hd; omega)
    obtain ⟨m2, e'⟩ := in_ok B d n (h ++ m1) ok.2 (by simp only [dep] at hn; omega) (by simp only [dep] at hd; omega)
    rw [List.append_assoc] at e'
    exact ⟨m1 ++ m2, runR rfl ((stepS (d := k_BOTH) rfl).trans ((stepF (kindR (a := cps "both") rfl (by decide))).trans ((stepF (kindI [cps "begins", cps "ends", cps "holds"] (a := cps "both") rfl (by decide))).trans ((stepF (kindR (a := cps "both") rfl (by decide))).trans ((stepF (kindR (a := cps "both") rfl (by decide))).trans ((stepF (kindR (a := cps "both") rfl (by decide))).trans (stepT (kindI [cps "both", cps "either"] (a := cps "both") rfl (by decide))
      ((stepA (d := .tup [.lst ((ws.filter (sem c)).map .str), .lst ((ws.filter (sem d)).map .str)]) (en_ok (ev_cons (en_ok (ev_cons rfl (ev_cons rfl ev_nil)) e) (ev_cons (en_ok (ev_cons rfl (ev_cons rfl ev_nil)) e') ev_nil)) rfl) rfl).trans (retR ((ifT (kindR (a := cps "both") rfl (by decide))).trans (both_comp c d B.wk.le _ _ _ _)))))))))))⟩
  | .either c d, n + 1, h, ok, hn, hd => by
    obtain ⟨m1, e⟩ := in_ok B c n h ok.1 (by simp only [dep] at hn; omega) (by simp only [dep] at hd; omega)
    obtain ⟨m2, e'⟩ := in_ok B d n (h ++ m1) ok.2 (by simp only [dep] at hn; omega) (by simp only [dep] at hd; omega)
    rw [List.append_assoc] at e'
    exact ⟨m1 ++ m2, runR rfl ((stepS (d := k_EITHER) rfl).trans ((stepF (kindR (a := cps "either") rfl (by decide))).trans ((stepF (kindI [cps "begins", cps "ends", cps "holds"] (a := cps "either") rfl (by decide))).trans ((stepF (kindR (a := cps "either") rfl (by decide))).trans ((stepF (kindR (a := cps "either") rfl (by decide))).trans ((stepF (kindR (a := cps "either") rfl (by decide))).trans (stepT (kindI [cps "both", cps "either"] (a := cps "either") rfl (by decide))
      ((stepA (d := .tup [.lst ((ws.filter (sem c)).map .str), .lst ((ws.filter (sem d)).map .str)]) (en_ok (ev_cons (en_ok (ev_cons rfl (ev_cons rfl ev_nil)) e) (ev_cons (en_ok (ev_cons rfl (ev_cons rfl ev_nil)) e') ev_nil)) rfl) rfl).trans (retR ((ifF (kindR (a := cps "either") rfl (by decide))).trans (either_sort B.wk c d rfl rfl))))))))))) ⟩
theorem is_book_ok (B : BookD ws b) (h : List O) : m_is_book [b] h = .ok (.bl true) h := by
  obtain ⟨q, S, P, rfl, _⟩ := B
  exact runR rfl (retR rfl)
theorem by_ok (B : BookD ws b) {c : Cl} (ok : okC c) (hd : dep c ≤ 4) (h : List O) : ∃ more, m_words_by [b, toD c] h = .ok (.tup ((ws.filter (sem c)).map .str)) (h ++ more) := by
  obtain ⟨more, e⟩ := in_ok B c 8 h ok (by omega) (by omega)
  refine ⟨more, runR rfl ?_⟩
  have c1 : sExpr (eN m_check [eN m_is_book [eVar 0], eC (.str (cps "book"))]) [.val b, .val (toD c)] h = .nx [.val b, .val (toD c)] h := by
    have := en_ok (σ := [.val b, .val (toD c)]) (ev_cons (en_ok (as := [eVar 0]) (ev_cons rfl ev_nil) (is_book_ok B h)) (ev_cons (a := eC (.str (cps "book"))) rfl ev_nil)) (check_ok (cps "book") h)
    simp only [sExpr, this, stmt_ok]
  have cl : m_is_clue [toD c] h = .ok (.bl true) h := runR rfl (retR (is_clue_ok c 8 4 h ok (by omega) (by omega)))
  have c2 : sExpr (eN m_check [eN m_is_clue [eVar 1], eC (.str (cps "clue"))]) [.val b, .val (toD c)] h = .nx [.val b, .val (toD c)] h := by
    have := en_ok (σ := [.val b, .val (toD c)]) (ev_cons (en_ok (as := [eVar 1]) (ev_cons rfl ev_nil) cl) (ev_cons (a := eC (.str (cps "clue"))) rfl ev_nil)) (check_ok (cps "clue") h)
    simp only [sExpr, this, stmt_ok]
  show sSeq _ _ [.val b, .val (toD c)] h = _
  simp only [sSeq, c1, c2]
  exact retR ((e1_ok (en_ok (ev_cons rfl (ev_cons rfl ev_nil)) e)).trans rfl)
end
end Cf
set_option Elab.async false
set_option linter.all false
set_option maxRecDepth 100000
set_option maxHeartbeats 4000000
/-! CpH: what is alike -/
namespace Cf
/-! ### alike -/
theorem alike_seq {m : List D → M D} {h : List O} {v : D} {xs : List D} (hv : v = .tup xs ∨ v = .lst xs) (hl : xs.length ≤ 100) (q : ∀ x ∈ xs, m [x, x] h = .ok (.bl true) h) : run 4 2 (b__law_alike m) [v, v] h = .ok (.bl true) h := by
  have ip : ∀ k : Int, 0 ≤ k → k < (xs.length : Int) → ∃ x ∈ xs, pIdx v (.int k) = ret x := fun k h0 h1 => by
    have h2 : k.toNat < xs.length := by omega
    refine ⟨xs[k.toNat], List.getElem_mem _, ?_⟩
    rcases hv with rfl | rfl <;> simp [pIdx, getAt, ixOf, h0, h1, h2, ofOpt]
  have il : pLen v = ret (.int (xs.length : Int)) := by rcases hv with rfl | rfl <;> rfl
  have t1 : ∀ i : Nat, i < 2 → tOf (e1 (pIsi [.tuple, .list]) (eVar i)) [.val v, .val v, .no, .no] h = .ok true h := by
    intro i hi
    match i, hi with
    | 0, _ => rcases hv with rfl | rfl <;> rfl
    | 1, _ => rcases hv with rfl | rfl <;> rfl
  have t2 : tOr (tNot (tOf (e1 (pIsi [.tuple, .list]) (eVar 0)))) (tOf (e2 pNe (e1 (pIsi [.list]) (eVar 0)) (e1 (pIsi [.list]) (eVar 1)))) [.val v, .val v, .no, .no] h = .ok false h := by
    rcases hv with rfl | rfl <;> rfl
  have t3 : tOf (e2 pNe (e1 pLen (eVar 0)) (e1 pLen (eVar 1))) [.val v, .val v, .no, .no] h = .ok false h := by
    simp [tOf, e2, e1, eVar, bindM, nx_ok, il, retM, pNe_int, pTruth, truth, ofOpt]
  have z := comp_f (it := iRange1 (e1 pLen (eVar 1))) (g := gVar 2) (t := tNot (tOf (eN m [e2 pIdx (eVar 0) (eVar 2), e2 pIdx (eVar 1) (eVar 2)]))) (e := eVar 2) (vs := [2]) (σ := [.val v, .val v, .no, .no]) (h := h) (ds := rangeD 0 (xs.length : Int)) (f := fun _ => false) (u := id)
    (range_it (by simp [e1, eVar, bindM, nx_ok, il, retM]) (small_ok (by omega) (by omega))) (range_len (by omega)) (fun d hd => by
      obtain ⟨k, rfl, h0, h1⟩ := rangeD_mem hd
      obtain ⟨x, hx, ex⟩ := ip k h0 h1
      refine ⟨_, rfl, ?_, rfl⟩
      simp [tNot, tOf, eN, evs, e2, eVar, wipe, gVar, bindM, nx_ok, ex, retM, q x hx, pTruth, truth, ofOpt])
  have z : eComp (iRange1 (e1 pLen (eVar 1))) (gVar 2) (tNot (tOf (eN m [e2 pIdx (eVar 0) (eVar 2), e2 pIdx (eVar 1) (eVar 2)]))) (eVar 2) [2] [.val v, .val v, .no, .no] h = .ok (.lst []) h := by
    rw [z]
    have : (rangeD 0 (xs.length : Int)).filter (fun _ => false) = [] := List.filter_eq_nil_iff.mpr fun _ _ => by simp
    rw [this]; rfl
  exact runR rfl (stepT (h1 := h) (t1 1 (by decide)) ((stepF (h1 := h) t2).trans ((stepF (h1 := h) t3).trans (retR ((e2_ok (h2 := h) z rfl).trans rfl)))))
theorem alike_str (s : List Nat) (n : Nat) (h : List O) : m__law_alike (n + 1) [.str s, .str s] h = .ok (.bl true) h := by
  have e1' : e2 pEq (eVar 0) (eVar 1) [.val (.str s), .val (.str s), .no, .no] h = .ok (.bl true) h := by
    simp [e2, eVar, bindM, nx_ok, pEq_str, retM]
  exact runR rfl ((stepF (h1 := h) rfl).trans ((stepF (h1 := h) rfl).trans (stepT (h1 := h) rfl (retR ((andT e1').trans rfl)))))
theorem alike_int (i : Int) (n : Nat) (h : List O) : m__law_alike (n + 1) [.int i, .int i] h = .ok (.bl true) h := by
  have e1' : e2 pEq (eVar 0) (eVar 1) [.val (.int i), .val (.int i), .no, .no] h = .ok (.bl true) h := by
    simp [e2, eVar, bindM, nx_ok, pEq_int, retM]
  exact runR rfl ((stepF (h1 := h) rfl).trans ((stepF (h1 := h) rfl).trans ((stepF (h1 := h) rfl).trans (retR ((andT rfl).trans ((andT rfl).trans e1'))))))
theorem alike_two {m : List D → M D} {h : List O} {x y : D} (e : m [x, x] h = .ok (.bl true) h) (e' : m [y, y] h = .ok (.bl true) h) : ∀ z ∈ [x, y], m [z, z] h = .ok (.bl true) h := by
  intro z hz
  simp only [List.mem_cons, List.not_mem_nil, or_false] at hz
  rcases hz with rfl | rfl <;> assumption
theorem alike_three {m : List D → M D} {h : List O} {x y u : D} (e : m [x, x] h = .ok (.bl true) h) (e' : m [y, y] h = .ok (.bl true) h) (e'' : m [u, u] h = .ok (.bl true) h) : ∀ z ∈ [x, y, u], m [z, z] h = .ok (.bl true) h := by
  intro z hz
  simp only [List.mem_cons, List.not_mem_nil, or_false] at hz
  rcases hz with rfl | rfl | rfl <;> assumption
theorem alike_one {m : List D → M D} {h : List O} {x : D} (e : m [x, x] h = .ok (.bl true) h) : ∀ z ∈ [x], m [z, z] h = .ok (.bl true) h := by
  intro z hz
  rw [List.mem_singleton.mp hz]; exact e
theorem alike_clue : ∀ (c : Cl) (n : Nat) (h : List O), dep c + 1 ≤ n → m__law_alike n [toD c, toD c] h = .ok (.bl true) h
  | c, 0, h, hn => by omega
  | c, 1, h, hn => by cases c <;> simp [dep] at hn
  | .like p, n + 2, h, _ => alike_seq (.inl rfl) (by simp) (alike_two (alike_str _ n h) (alike_str _ n h))
  | .begins p, n + 2, h, _ => alike_seq (.inl rfl) (by simp) (alike_two (alike_str _ n h) (alike_str _ n h))
  | .ends p, n + 2, h, _ => alike_seq (.inl rfl) (by simp) (alike_two (alike_str _ n h) (alike_str _ n h))
  | .holds p, n + 2, h, _ => alike_seq (.inl rfl) (by simp) (alike_two (alike_str _ n h) (alike_str _ n h))
  | .count c m, n + 2, h, _ => alike_seq (.inl rfl) (by simp) (alike_three (alike_str _ n h) (alike_str _ n h) (alike_int _ n h))
  | .frm a b, n + 2, h, _ => alike_seq (.inl rfl) (by simp) (alike_three (alike_str _ n h) (alike_str _ n h) (alike_str _ n h))
  | .back p, n + 2, h, _ => alike_seq (.inl rfl) (by simp) (alike_two (alike_str _ n h) (alike_str _ n h))
  | .turned, n + 2, h, _ => alike_seq (.inl rfl) (by simp) (alike_one (alike_str _ n h))
  | .neg c, n + 2, h, hn => by
    simp only [dep] at hn
    exact alike_seq (.inl rfl) (by simp) (alike_two (alike_str _ n h) (alike_clue c (n + 1) h (by omega)))
  | .both a b, n + 2, h, hn => by
    simp only [dep] at hn
    exact alike_seq (.inl rfl) (by simp) (alike_three (alike_str _ n h) (alike_clue a (n + 1) h (by omega)) (alike_clue b (n + 1) h (by omega)))
  | .either a b, n + 2, h, hn => by
    simp only [dep] at hn
    exact alike_seq (.inl rfl) (by simp) (alike_three (alike_str _ n h) (alike_clue a (n + 1) h (by omega)) (alike_clue b (n + 1) h (by omega)))
theorem alike_bl (b : Bool) (n : Nat) (h : List O) : m__law_alike (n + 1) [.bl b, .bl b] h = .ok (.bl true) h := by
  cases b <;> rfl
theorem alike_strs (l : List (List Nat)) (hl : l.length ≤ 100) (n : Nat) (h : List O) {v : D} (hv : v = .tup (l.map .str) ∨ v = .lst (l.map .str)) : m__law_alike (n + 2) [v, v] h = .ok (.bl true) h :=
  alike_seq hv (by rw [List.length_map]; exact hl) fun x hx => by
    obtain ⟨w, _, rfl⟩ := List.mem_map.mp hx
    exact alike_str w n h
end Cf
set_option Elab.async false
set_option linter.all false
set_option maxRecDepth 100000
set_option maxHeartbeats 4000000
/-! LM: the law -/
namespace Cf
section
variable {σ : S} {h h1 : List O} {a : E} {t u : T} {c : Bool}
theorem of_bl (x : a σ h = .ok (.bl c) h1) : tOf a σ h = .ok c h1 := by
  simp [tOf, bindM, x, nx_ok, pTruth, truth, ofOpt, retM]
theorem not_t (x : t σ h = .ok c h1) : tNot t σ h = .ok (!c) h1 := by
  simp [tNot, bindM, x, nx_ok, retM]
theorem or_f (x : t σ h = .ok false h1) : tOr t u σ h = u σ h1 := by
  simp [tOr, bindM, x, nx_ok]
theorem or_t (x : t σ h = .ok true h1) : tOr t u σ h = .ok true h1 := by
  simp [tOr, bindM, x, nx_ok, retM]
end
theorem insU_len (x : List Nat) : ∀ l, (insU x l).length ≤ l.length + 1
  | [] => Nat.le_refl _
  | y :: r => by
    rw [insU]
    split
    · have := insU_len x r
      simp; omega
    · split <;> simp
theorem sortU_len : ∀ l, (sortU l).length ≤ l.length
  | [] => Nat.le_refl _
  | y :: l => by
    have := sortU_len l
    have := insU_len y (sortU l)
    show (insU y (sortU l)).length ≤ l.length + 1
    omega
theorem strs_of : ∀ {ys : List D} {P : List Nat → Prop}, (∀ y ∈ ys, ∃ s, y = .str s ∧ P s) → ∃ l : List (List Nat), ys = l.map D.str ∧ ∀ s ∈ l, P s
  | [], _, _ => ⟨[], rfl, (fun _ h => nomatch h)⟩
  | y :: ys, P, q => by
    obtain ⟨s, rfl, p⟩ := q y List.mem_cons_self
    obtain ⟨l, rfl, pl⟩ := strs_of (ys := ys) fun z hz => q z (List.mem_cons_of_mem _ hz)
    refine ⟨s :: l, rfl, fun t ht => ?_⟩
    rcases List.mem_cons.mp ht with e | e
    · rw [e]
      exact p
    · exact pl t e
theorem words_drawn {gb h : List O} (r : Rw gb h) : ∃ ws h', m__law_words [.ref 0, .int 24] h = .ok (tupW ws) h' ∧ Ws ws ∧ Rw gb h' := by
  obtain ⟨x, h1, e1', hx, r1⟩ := pick_in r (xs := [.str (cps "ab"), .str (cps "abc"), .str (cps "abcde")]) (by simp) (by simp) (σ := [.val (.ref 0), .val (.int 24), .no, .no]) (a := eLst [eC (.str (cps "ab")), eC (.str (cps "abc")), eC (.str (cps "abcde"))]) rfl rfl
  have hs : ∃ sg, x = .str sg ∧ sg ≠ [] ∧ sg.length < 1000000 ∧ ∀ c ∈ sg, c ∈ az := by
    simp only [List.mem_cons, List.not_mem_nil, or_false] at hx
    rcases hx with rfl | rfl | rfl <;> exact ⟨_, rfl, by decide, by decide, by decide⟩
  obtain ⟨sg, rfl, s0, s1, s2⟩ := hs
  obtain ⟨m, h2, e2', m0, m1, r2⟩ := taken r1 (m := 25) (by decide) (by decide)
  have it : iRange1 (eN m__law_taken [eVar 0, e2 pAdd (eVar 1) (eC (.int 1))]) [.val (.ref 0), .val (.int 24), .val (.str sg), .no] h1 = .ok (rangeD 0 m) h2 := by
    have a : eN m__law_taken [eVar 0, e2 pAdd (eVar 1) (eC (.int 1))] [.val (.ref 0), .val (.int 24), .val (.str sg), .no] h1 = .ok (.int m) h2 := en_ok (ev_cons rfl (ev_cons rfl ev_nil)) e2'
    simp [iRange1, bindM, a, nx_ok, small_ok (show -1000 ≤ m by omega) (show m ≤ 1000 by omega), retM]
  obtain ⟨ys, h3, e3, l3, p3, r3⟩ := comp_draw (P := fun y => ∃ s, y = .str s ∧ Tx s 2 4 az) (g := gVar 3) (e := eN m__law_text [eVar 0, eC (.int 2), eC (.int 4), eVar 2]) (σ := [.val (.ref 0), .val (.int 24), .val (.str sg), .no]) (Rw gb) (rangeD 0 m) h2 r2 (fun d hd => by
    obtain ⟨k, rfl, _, _⟩ := rangeD_mem hd
    refine ⟨_, rfl, fun h r => ?_⟩
    obtain ⟨s, h', e, q1, q2, q3, r'⟩ := text r (a := 2) (b := 4) (sg := sg) (by decide) (by decide) (by decide) s0 s1
    exact ⟨.str s, h', en_ok (ev_cons rfl (ev_cons rfl (ev_cons rfl (ev_cons rfl ev_nil)))) e, ⟨s, rfl, by omega, by omega, fun c hc => s2 c (q3 c hc)⟩, r'⟩)
  obtain ⟨l, rfl, pl⟩ := strs_of p3
  rw [List.length_map, rangeD_len] at l3
  have ll : l.length ≤ 24 := by omega
  refine ⟨sortU l, h3, runR rfl ((stepS e1').trans (retR ?_)), ⟨fun w hw => pl w ((sortU_mem w l).mp hw), sortU_sorted l, Nat.le_trans (sortU_len l) ll⟩, r3⟩
  have ec : eComp (iRange1 (eN m__law_taken [eVar 0, e2 pAdd (eVar 1) (eC (.int 1))])) (gVar 3) tYes (eN m__law_text [eVar 0, eC (.int 2), eC (.int 4), eVar 2]) [3] [.val (.ref 0), .val (.int 24), .val (.str sg), .no] h1 = .ok (.lst (l.map .str)) h3 := by
    have w : wipe [.val (.ref 0), .val (.int 24), .val (.str sg), .no] [3] = [.val (.ref 0), .val (.int 24), .val (.str sg), .no] := rfl
    have lz : (l.map D.str).length ≤ 16000000 := by rw [List.length_map]; omega
    simp only [eComp, comp, bindM, it, nx_ok, noer, w, e3, if_pos lz, retM]
  have es : pSortU (.lst (l.map .str)) = ret (.lst ((sortU l).map .str)) := by
    simp only [pSortU, strs_map]
    rw [if_pos (by omega)]
  exact (e1_ok ((e1_ok ec).trans (by rw [es]; rfl))).trans rfl
theorem Rw.app {gb h : List O} (r : Rw gb h) (more : List O) : Rw (gb ++ more) (h ++ more) := by
  obtain ⟨ns, i, c, d, rfl, hi⟩ := r
  exact ⟨ns, i, c, d, rfl, hi⟩
abbrev turnL : Ms := (sSeq (sSet 5 (eN (m__law_clue 8) [eVar 1, eC (.int 4)]))
   (sSeq (sSet 6 (eN m_words_by [eVar 3, eVar 5]))
   (sSeq (sIf (tOr (tNot (tOf (eN (m__law_alike 8) [eVar 6, e1 pTuple (eComp (iOf (eVar 2)) (gVar 7) (tOf (eN (m__law_meets 8) [eVar 5, eVar 7])) (eVar 7) [7])]))) (tOf (e2 pNe (eComp (iOf (eVar 2)) (gVar 7) (tOf (e2 pNe (eN m_meets [eVar 5, eVar 7]) (e2 pIn (eVar 7) (eVar 6)))) (eVar 7) [7]) (eLst []))))
    (sRet (eC (.bl false)))
    (sPass))
   (sIf (tNot (tOf (eN (m__law_alike 8) [eN m_words_by [eVar 3, eTup [eC (.str (cps "both")), eTup [eC (.str (cps "turned"))], eTup [eC (.str (cps "not")), eTup [eC (.str (cps "turned"))]]]], eTup []])))
    (sRet (eC (.bl false)))
    (sPass)))))
section
variable {ws : List (List Nat)} {b : D}
theorem turn03 (B : BookD ws b) {gb h : List O} (r : Rw gb h) (a0 a4 a5 a6 : Sl) : ∃ b5 b6 gb' h', turnL [a0, .val (.ref 0), .val (tupW ws), .val b, a4, a5, a6, .no] h = .nx [a0, .val (.ref 0), .val (tupW ws), .val b, a4, b5, b6, .no] h' ∧ Rw gb' h' := by
  obtain ⟨x, h1, e1', ⟨c, rfl, okc, hd⟩, r1⟩ := gen_clue 8 4 h r (by decide) (by decide)
  have hd : dep c ≤ 4 := hd
  obtain ⟨m1, f1⟩ := by_ok B okc hd h1
  generalize hh2 : h1 ++ m1 = h2 at f1
  have r2 : Rw (gb ++ m1) h2 := hh2 ▸ r1.app m1
  obtain ⟨m2, f2⟩ := by_ok B (c := .both .turned (.neg .turned)) ⟨trivial, trivial⟩ (by decide) h2
  refine ⟨.val (toD c), .val (.tup ((ws.filter (sem c)).map .str)), gb ++ m1 ++ m2, h2 ++ m2, ?_, r2.app m2⟩
  have lw : ws.length ≤ 24 := B.wk.le
  refine (stepS (h1 := h1) (d := toD c) (en_ok (ev_cons rfl (ev_cons rfl ev_nil)) e1')).trans ((stepS (h1 := h2) (d := .tup ((ws.filter (sem c)).map .str)) (en_ok (ev_cons rfl (ev_cons rfl ev_nil)) f1)).trans ?_)
  have g1 : eComp (iOf (eVar 2)) (gVar 7) (tOf (eN (m__law_meets 8) [eVar 5, eVar 7])) (eVar 7) [7] [a0, .val (.ref 0), .val (tupW ws), .val b, a4, .val (toD c), .val (.tup ((ws.filter (sem c)).map .str)), .no] h2 = .ok (.lst ((ws.filter (sem c)).map .str)) h2 :=
    comp_w rfl (by omega) (Nat.lt_of_lt_of_le (by decide : 7 < 8) (Nat.le_refl 8)) fun w hw σ' l o e => by
      have v5 : eVar 5 σ' h2 = .ok (toD c) h2 := by simp only [eVar, o 5 (by decide)]; rfl
      have v7 : eVar 7 σ' h2 = .ok (.str w) h2 := by simp only [eVar, e]
      have m := en_ok (ev_cons v5 (ev_cons v7 ev_nil)) (law_meets_ok c 8 w h2 okc (by omega) (by have := (B.wk.tx w hw).2.1; omega))
      simp only [tOf, bindM, m, nx_ok, pTruth, truth, ofOpt, retM]
  have g2 : eComp (iOf (eVar 2)) (gVar 7) (tOf (e2 pNe (eN m_meets [eVar 5, eVar 7]) (e2 pIn (eVar 7) (eVar 6)))) (eVar 7) [7] [a0, .val (.ref 0), .val (tupW ws), .val b, a4, .val (toD c), .val (.tup ((ws.filter (sem c)).map .str)), .no] h2 = .ok (.lst []) h2 := by
    have z := comp_w (it := iOf (eVar 2)) (i := 7) (t := tOf (e2 pNe (eN m_meets [eVar 5, eVar 7]) (e2 pIn (eVar 7) (eVar 6)))) (σ := [a0, .val (.ref 0), .val (tupW ws), .val b, a4, .val (toD c), .val (.tup ((ws.filter (sem c)).map .str)), .no]) (h := h2) (f := fun _ => false) (l := ws) rfl (by omega) (Nat.lt_of_lt_of_le (by decide : 7 < 8) (Nat.le_refl 8)) fun w hw σ' l o e => by
      have v5 : eVar 5 σ' h2 = .ok (toD c) h2 := by simp only [eVar, o 5 (by decide)]; rfl
      have v6 : eVar 6 σ' h2 = .ok (.tup ((ws.filter (sem c)).map .str)) h2 := by simp only [eVar, o 6 (by decide)]; rfl
      have v7 : eVar 7 σ' h2 = .ok (.str w) h2 := by simp only [eVar, e]
      have m := en_ok (ev_cons v5 (ev_cons v7 ev_nil)) (meets_all (h := h2) okc hd (B.wk.tx w hw))
      have f : decide (w ∈ ws.filter (sem c)) = sem c w := by
        rw [Bool.eq_iff_iff, decide_eq_true_eq, List.mem_filter]
        exact ⟨fun z => z.2, fun z => ⟨hw, z⟩⟩
      have n : e2 pIn (eVar 7) (eVar 6) σ' h2 = .ok (.bl (sem c w)) h2 := (e2_ok v7 v6).trans (by rw [in_strsT, f]; rfl)
      have k : e2 pNe (eN m_meets [eVar 5, eVar 7]) (e2 pIn (eVar 7) (eVar 6)) σ' h2 = .ok (.bl false) h2 := (e2_ok m n).trans (by cases sem c w <;> rfl)
      simp only [tOf, bindM, k, nx_ok, pTruth, truth, ofOpt, retM]
    rw [show ws.filter (fun _ => false) = [] from List.filter_eq_nil_iff.mpr fun _ _ => by simp] at z
    exact z
  have al : eN (m__law_alike 8) [eVar 6, e1 pTuple (eComp (iOf (eVar 2)) (gVar 7) (tOf (eN (m__law_meets 8) [eVar 5, eVar 7])) (eVar 7) [7])] [a0, .val (.ref 0), .val (tupW ws), .val b, a4, .val (toD c), .val (.tup ((ws.filter (sem c)).map .str)), .no] h2 = .ok (.bl true) h2 :=
    en_ok (ev_cons rfl (ev_cons ((e1_ok g1).trans rfl) ev_nil)) (alike_strs (ws.filter (sem c)) (Nat.le_trans (List.length_filter_le _ _) (by omega)) 6 h2 (.inl rfl))
  have ne : e2 pNe (eComp (iOf (eVar 2)) (gVar 7) (tOf (e2 pNe (eN m_meets [eVar 5, eVar 7]) (e2 pIn (eVar 7) (eVar 6)))) (eVar 7) [7]) (eLst []) [a0, .val (.ref 0), .val (tupW ws), .val b, a4, .val (toD c), .val (.tup ((ws.filter (sem c)).map .str)), .no] h2 = .ok (.bl false) h2 := (e2_ok (h2 := h2) g2 rfl).trans rfl
  have t1 : tOr (tNot (tOf (eN (m__law_alike 8) [eVar 6, e1 pTuple (eComp (iOf (eVar 2)) (gVar 7) (tOf (eN (m__law_meets 8) [eVar 5, eVar 7])) (eVar 7) [7])]))) (tOf (e2 pNe (eComp (iOf (eVar 2)) (gVar 7) (tOf (e2 pNe (eN m_meets [eVar 5, eVar 7]) (e2 pIn (eVar 7) (eVar 6)))) (eVar 7) [7]) (eLst []))) [a0, .val (.ref 0), .val (tupW ws), .val b, a4, .val (toD c), .val (.tup ((ws.filter (sem c)).map .str)), .no] h2 = .ok false h2 := by
    exact (or_f (not_t (of_bl al))).trans (of_bl ne)
  refine (stepF t1).trans ?_
  have em : ws.filter (sem (.both .turned (.neg .turned))) = [] := List.filter_eq_nil_iff.mpr fun w _ => by
    simp only [sem]
    cases (w.reverse == w) <;> simp
  rw [em] at f2
  have al2 : eN (m__law_alike 8) [eN m_words_by [eVar 3, eTup [eC (.str (cps "both")), eTup [eC (.str (cps "turned"))], eTup [eC (.str (cps "not")), eTup [eC (.str (cps "turned"))]]]], eTup []] [a0, .val (.ref 0), .val (tupW ws), .val b, a4, .val (toD c), .val (.tup ((ws.filter (sem c)).map .str)), .no] h2 = .ok (.bl true) (h2 ++ m2) :=
    en_ok (ev_cons (en_ok (ev_cons rfl (ev_cons (x := toD (.both .turned (.neg .turned))) rfl ev_nil)) f2) (ev_cons (x := .tup []) rfl ev_nil)) (alike_strs [] (by decide) 6 _ (.inl rfl))
  show sIf _ _ _ [a0, .val (.ref 0), .val (tupW ws), .val b, a4, .val (toD c), .val (.tup ((ws.filter (sem c)).map .str)), .no] h2 = _
  simp only [sIf, tNot, tOf, bindM, al2, nx_ok, pTruth, truth, ofOpt, retM, stmt_ok, sPass]
  rfl
theorem loop03 (B : BookD ws b) (a0 : Sl) : ∀ (ds : List D) (gb h : List O) (a4 a5 a6 : Sl), Rw gb h → ∃ b4 b5 b6 gb' h', forGo (gVar 4) turnL ds [a0, .val (.ref 0), .val (tupW ws), .val b, a4, a5, a6, .no] h = .nx [a0, .val (.ref 0), .val (tupW ws), .val b, b4, b5, b6, .no] h' ∧ Rw gb' h'
  | [], gb, h, a4, a5, a6, r => ⟨a4, a5, a6, gb, h, rfl, r⟩
  | d :: ds, gb, h, a4, a5, a6, r => by
    obtain ⟨b5, b6, gb1, h1, e1', r1⟩ := turn03 B r a0 (.val d) a5 a6
    obtain ⟨c4, c5, c6, gb2, h2, e2', r2⟩ := loop03 B a0 ds gb1 h1 (.val d) b5 b6 r1
    refine ⟨c4, c5, c6, gb2, h2, ?_, r2⟩
    have e0 : gVar 4 d [a0, .val (.ref 0), .val (tupW ws), .val b, a4, a5, a6, .no] = some [a0, .val (.ref 0), .val (tupW ws), .val b, .val d, a5, a6, .no] := rfl
    simp only [forGo, e0, e1']
    exact e2'
abbrev B6 : List D := [.non, .tup [], .str (cps "turned"), .tup [.str (cps "turn")], .tup [.str (cps "like"), .str (cps "a")], .tup [.str (cps "count"), .str (cps "a")]]
theorem bent6 {x : D} (hx : x ∈ B6) (h : List O) : m_is_clue [x] h = .ok (.bl false) h := by
  simp only [List.mem_cons, List.not_mem_nil, or_false] at hx
  rcases hx with rfl | rfl | rfl | rfl | rfl | rfl <;> kernel_rfl
theorem by_er1 (B : BookD ws b) {x : D} (hx : x ∈ B6) (h : List O) : m_words_by [b, x] h = .er "BadArgument" [.str (cps "clue")] h := by
  have c1 : sExpr (eN m_check [eN m_is_book [eVar 0], eC (.str (cps "book"))]) [.val b, .val x] h = .nx [.val b, .val x] h := by
    have := en_ok (σ := [.val b, .val x]) (ev_cons (en_ok (as := [eVar 0]) (ev_cons rfl ev_nil) (is_book_ok B h)) (ev_cons (a := eC (.str (cps "book"))) rfl ev_nil)) (check_ok (cps "book") h)
    simp only [sExpr, this, stmt_ok]
  have c2 : sExpr (eN m_check [eN m_is_clue [eVar 1], eC (.str (cps "clue"))]) [.val b, .val x] h = .er "BadArgument" [.str (cps "clue")] h := by
    have := en_er (σ := [.val b, .val x]) (ev_cons (en_ok (as := [eVar 1]) (ev_cons rfl ev_nil) (bent6 hx h)) (ev_cons (a := eC (.str (cps "clue"))) rfl ev_nil)) (check_er (cps "clue") (by decide) h)
    simp only [sExpr, this, R.stmt]
  have z : b_words_by ([b, x].map .val ++ List.replicate (2 - 2) .no) h = .er "BadArgument" [.str (cps "clue")] h := by
    show sSeq _ _ [.val b, .val x] h = _
    simp only [sSeq, c1, c2]
  have l2 : [b, x].length = 2 := rfl
  simp only [m_words_by, run, l2, if_true, z]
theorem by_er2 (ws : List (List Nat)) (x : D) (h : List O) : m_words_by [tupW ws, x] h = .er "BadArgument" [.str (cps "book")] h := by
  have k : m_is_book [tupW ws] h = .ok (.bl false) h := runR rfl (retR rfl)
  have c2 : sExpr (eN m_check [eN m_is_book [eVar 0], eC (.str (cps "book"))]) [.val (tupW ws), .val x] h = .er "BadArgument" [.str (cps "book")] h := by
    have := en_er (σ := [.val (tupW ws), .val x]) (ev_cons (en_ok (as := [eVar 0]) (ev_cons rfl ev_nil) k) (ev_cons (a := eC (.str (cps "book"))) rfl ev_nil)) (check_er (cps "book") (by decide) h)
    simp only [sExpr, this, R.stmt]
  have z : b_words_by ([tupW ws, x].map .val ++ List.replicate (2 - 2) .no) h = .er "BadArgument" [.str (cps "book")] h := by
    show sSeq _ _ [.val (tupW ws), .val x] h = _
    simp only [sSeq, c2]
  have l2 : [tupW ws, x].length = 2 := rfl
  simp only [m_words_by, run, l2, if_true, z]
theorem refused_ok (B : BookD ws b) {gb h : List O} (r : Rw gb h) : ∃ h', m__law_refused [.ref 0, tupW ws, b] h = .ok (.bl true) h' := by
  obtain ⟨x, h1, e1', hx, r1⟩ := pick_in r (xs := B6) (by simp) (by simp) (σ := [.val (.ref 0), .val (tupW ws), .val b, .no]) (a := eLst [eC .non, eTup [], eC (.str (cps "turned")), eTup [eC (.str (cps "turn"))], eTup [eC (.str (cps "like")), eC (.str (cps "a"))], eTup [eC (.str (cps "count")), eC (.str (cps "a"))]]) rfl rfl
  refine ⟨h1, runR rfl ((stepS e1').trans (retR ?_))⟩
  refine en_ok (xs := [.lst [.tup [.str (cps "bad"), .str (cps "clue"), .bl true], .tup [.str (cps "bad"), .str (cps "book"), .bl true]], .lst [.tup [.str (cps "bad"), .str (cps "clue"), .bl true], .tup [.str (cps "bad"), .str (cps "book"), .bl true]]]) (h1 := h1) (ev_cons ?_ (ev_cons rfl ev_nil)) ?_
  · exact en_ok (ev_cons (heard_ok (en_er (ev_cons rfl (ev_cons rfl ev_nil)) (by_er1 B hx h1))) (ev_cons (heard_ok (en_er (ev_cons rfl (ev_cons rfl ev_nil)) (by_er2 ws x h1))) ev_nil)) rfl
  · exact alike_seq (.inr rfl) (by simp) (alike_two (alike_seq (.inl rfl) (by simp) (alike_three (alike_str _ 5 h1) (alike_str _ 5 h1) (alike_bl _ 5 h1))) (alike_seq (.inl rfl) (by simp) (alike_three (alike_str _ 5 h1) (alike_str _ 5 h1) (alike_bl _ 5 h1))))
end
theorem low_ints (n : Nat) : ∀ l : List Int, lowDs n (l.map .int) = true
  | [] => rfl
  | a :: l => by
    rw [List.map_cons, lowDs, low_ints n l]
    rfl
theorem main : ∀ ns : List Int, ns.length ≤ 63 → (∀ z ∈ ns, PySem.Builtin.Int.intBits z ≤ 1048576) → ∃ h', m_law [.lst (ns.map D.int)] [] = .ok (.bl true) h' := by
  intro ns _ _
  have r0 : Rw [] [.lst [.lst (ns.map D.int), .int 0, .int 7507103, .int 0]] := ⟨ns, 0, 7507103, 0, rfl, Int.le_refl 0⟩
  obtain ⟨ws, h1, e1', W, r1⟩ := words_drawn r0
  have lo : h1.all (lowO h1.length) = true := by
    obtain ⟨ms, i, c, d, rfl, _⟩ := r1
    simp [lowO, lowDs, lowD, low_ints]
  obtain ⟨b, e2', B⟩ := make_ok W (a := eVar 2) (σ := [.val (.lst (ns.map D.int)), .val (.ref 0), .val (tupW ws), .no, .no, .no, .no, .no]) (h := h1) rfl lo
  obtain ⟨b4, b5, b6, gb, h2, e3, r2⟩ := loop03 B (.val (.lst (ns.map D.int))) (rangeD 0 12) [] h1 .no .no .no r1
  obtain ⟨h3, e4⟩ := refused_ok B r2
  exact ⟨h3, runR (b := b_law) rfl ((stepS (d := .ref 0) rfl).trans ((stepS (en_ok (ev_cons rfl (ev_cons rfl ev_nil)) e1')).trans ((stepS e2').trans ((stepFor (range_it rfl (by decide)) e3).trans (retR (en_ok (ev_cons rfl (ev_cons rfl (ev_cons rfl ev_nil))) e4))))))⟩
end Cf
set_option Elab.async false
set_option linter.all false
set_option maxRecDepth 100000
set_option maxHeartbeats 0
namespace Cf
open PySem PySem.Spec PyProof.Rows L2
abbrev si_BadArgument : Stmt := innerS (top 3) 0
theorem ss_BadArgument : SupS ["self", "name"] (defScope si_BadArgument) := ⟨rfl, rfl, rfl, by decide, by decide +kernel, by decide +kernel, by decide +kernel, by decide +kernel, by decide +kernel⟩
theorem oi_BadArgument {P : Program} {w : World} {K : PySem.W.Frag} {mg : Str → Option Value} {base : Heap} {C f cc cda : Addr} {fd : FuncData} (F : SupI P K C f cc cda "__init__" "BadArgument.__init__" si_BadArgument fd) (ms : mg "super" = none) (hn : PySem.W.findIn K (.ref C) "name" = some none) (k : Nat) : FnOk P w K mg base (L2.CX P w) (k + 1) f fd ["self", "name"] (sp1 C "name") :=
  init1 F ss_BadArgument rfl rfl ms hn (by decide) rfl rfl (by decide) fun _ _ _ _ => rfl
def fns : List FnA := [
  ⟨fun K => (He.ga K "is_number"), "is_number", "is_number", s_is_number, false⟩,
  ⟨fun K => (He.ga K "check"), "check", "check", s_check, false⟩,
  ⟨fun K => (He.ga K "is_text_of"), "is_text_of", "is_text_of", s_is_text_of, false⟩,
  ⟨fun K => (He.ga K "is_word"), "is_word", "is_word", s_is_word, false⟩,
  ⟨fun K => (He.ga K "is_pattern"), "is_pattern", "is_pattern", s_is_pattern, false⟩,
  ⟨fun K => (He.ga K "are_rising"), "are_rising", "are_rising", s_are_rising, false⟩,
  ⟨fun K => (He.ma K (He.ga K "Book") "__init__"), "__init__", "Book.__init__", s_Book_d_initd_, false⟩,
  ⟨fun K => (gtOf K (He.ga K "Book") "words"), "words", "Book.words", s_Book_words, false⟩,
  ⟨fun K => (He.ma K (He.ga K "Book") "fitting"), "fitting", "Book.fitting", s_Book_fitting, false⟩,
  ⟨fun K => (He.ga K "is_book"), "is_book", "is_book", s_is_book, false⟩,
  ⟨fun K => (He.ga K "is_clue_of"), "is_clue_of", "is_clue_of", s_is_clue_of, false⟩,
  ⟨fun K => (He.ga K "is_clue"), "is_clue", "is_clue", s_is_clue, false⟩,
  ⟨fun K => (He.ga K "fits_pattern"), "fits_pattern", "fits_pattern", s_fits_pattern, false⟩,
  ⟨fun K => (He.ga K "plainly_meets"), "plainly_meets", "plainly_meets", s_plainly_meets, false⟩,
  ⟨fun K => (He.ga K "meets"), "meets", "meets", s_meets, false⟩,
  ⟨fun K => (He.ga K "patterns_with"), "patterns_with", "patterns_with", s_patterns_with, false⟩,
  ⟨fun K => (He.ga K "places_of"), "places_of", "places_of", s_places_of, false⟩,
  ⟨fun K => (He.ga K "words_with"), "words_with", "words_with", s_words_with, false⟩,
  ⟨fun K => (He.ga K "first_at_least"), "first_at_least", "first_at_least", s_first_at_least, false⟩,
  ⟨fun K => (He.ga K "words_between"), "words_between", "words_between", s_words_between, false⟩,
  ⟨fun K => (He.ga K "words_in"), "words_in", "words_in", s_words_in, false⟩,
  ⟨fun K => (He.ga K "words_by"), "words_by", "words_by", s_words_by, false⟩,
  ⟨fun K => (He.ga K "_law_taken"), "_law_taken", "_law_taken", s__law_taken, false⟩,
  ⟨fun K => (He.ga K "_law_pick"), "_law_pick", "_law_pick", s__law_pick, false⟩,
  ⟨fun K => (He.ga K "_law_text"), "_law_text", "_law_text", s__law_text, false⟩,
  ⟨fun K => (He.ga K "_law_words"), "_law_words", "_law_words", s__law_words, false⟩,
  ⟨fun K => (He.ga K "_law_clue"), "_law_clue", "_law_clue", s__law_clue, false⟩,
  ⟨fun K => (He.ga K "_law_alike"), "_law_alike", "_law_alike", s__law_alike, false⟩,
  ⟨fun K => (He.ga K "_law_meets"), "_law_meets", "_law_meets", s__law_meets, false⟩,
  ⟨fun K => (He.ga K "_law_heard"), "_law_heard", "_law_heard", s__law_heard, false⟩,
  ⟨fun K => (He.ga K "_law_refused"), "_law_refused", "_law_refused", s__law_refused, false⟩,
  ⟨fun K => (He.ga K "law"), "law", "law", s_law, false⟩,
  ⟨fun K => inOf K (He.ga K "BadArgument"), "__init__", "BadArgument.__init__", si_BadArgument, true⟩]
def tbs : List He.Tab := [(fun K => He.ga K "SIZES", ["like", "begins", "ends", "holds", "count", "from", "back", "turned", "not", "both", "either"])]
def tns : List ((PySem.W.Frag → Addr) × Str) := [
  (fun K => (He.ga K "is_text_of"), ("is_text_of" : Str) ++ ".<locals>." ++ "<genexpr>"),
  (fun K => (He.ga K "are_rising"), ("are_rising" : Str) ++ ".<locals>." ++ "<genexpr>"),
  (fun K => (He.ma K (He.ga K "Book") "__init__"), ("Book.__init__" : Str) ++ ".<locals>." ++ "<genexpr>"),
  (fun K => (He.ga K "is_clue_of"), ("is_clue_of" : Str) ++ ".<locals>." ++ "<genexpr>"),
  (fun K => (He.ga K "fits_pattern"), ("fits_pattern" : Str) ++ ".<locals>." ++ "<genexpr>"),
  (fun K => (He.ga K "_law_refused"), ("_law_refused" : Str) ++ ".<locals>." ++ "<lambda>")]
def tfs : List (PySem.W.Frag → Addr) := tns.map (·.1)
def exs (K : PySem.W.Frag) : List Bool := [
  decide (((tns.map fun p => (tbOf K (p.1 K), p.2)).map (·.1)).Nodup),
  (He.Fa.glo "is_number").ok K,
  (He.Fa.glo "check").ok K,
  (He.Fa.glo "is_text_of").ok K,
  (He.Fa.glo "is_word").ok K,
  (He.Fa.glo "is_pattern").ok K,
  (He.Fa.glo "are_rising").ok K,
  (He.Fa.glo "is_book").ok K,
  (He.Fa.glo "is_clue_of").ok K,
  (He.Fa.glo "is_clue").ok K,
  (He.Fa.glo "fits_pattern").ok K,
  (He.Fa.glo "plainly_meets").ok K,
  (He.Fa.glo "meets").ok K,
  (He.Fa.glo "patterns_with").ok K,
  (He.Fa.glo "places_of").ok K,
  (He.Fa.glo "words_with").ok K,
  (He.Fa.glo "first_at_least").ok K,
  (He.Fa.glo "words_between").ok K,
  (He.Fa.glo "words_in").ok K,
  (He.Fa.glo "words_by").ok K,
  (He.Fa.glo "_law_taken").ok K,
  (He.Fa.glo "_law_pick").ok K,
  (He.Fa.glo "_law_text").ok K,
  (He.Fa.glo "_law_words").ok K,
  (He.Fa.glo "_law_clue").ok K,
  (He.Fa.glo "_law_alike").ok K,
  (He.Fa.glo "_law_meets").ok K,
  (He.Fa.glo "_law_heard").ok K,
  (He.Fa.glo "_law_refused").ok K,
  (He.Fa.glo "law").ok K,
  (He.Fa.free "ValueError").ok K,
  (He.Fa.free "all").ok K,
  (He.Fa.free "bool").ok K,
  (He.Fa.free "dict").ok K,
  (He.Fa.free "enumerate").ok K,
  (He.Fa.free "int").ok K,
  (He.Fa.free "isinstance").ok K,
  (He.Fa.free "len").ok K,
  (He.Fa.free "list").ok K,
  (He.Fa.free "range").ok K,
  (He.Fa.free "set").ok K,
  (He.Fa.free "sorted").ok K,
  (He.Fa.free "str").ok K,
  (He.Fa.free "tuple").ok K,
  (He.Fa.free "zip").ok K,
  (He.Fa.str "ANY" "?").ok K,
  (He.Fa.str "BACK" "back").ok K,
  (He.Fa.str "BEGINS" "begins").ok K,
  (He.Fa.str "BOTH" "both").ok K,
  (He.Fa.str "COUNT" "count").ok K,
  (He.Fa.str "EITHER" "either").ok K,
  (He.Fa.str "ENDS" "ends").ok K,
  (He.Fa.str "FROM" "from").ok K,
  (He.Fa.str "HOLDS" "holds").ok K,
  (He.Fa.int "LEAST_LETTERS" 2).ok K,
  (He.Fa.str "LETTERS" "abcdefghijklmnopqrstuvwxyz").ok K,
  (He.Fa.str "LIKE" "like").ok K,
  (He.Fa.int "MOST_DEPTH" 4).ok K,
  (He.Fa.int "MOST_LETTERS" 4).ok K,
  (He.Fa.int "MOST_WORDS" 24).ok K,
  (He.Fa.str "NOT" "not").ok K,
  (He.Fa.str "TURNED" "turned").ok K,
  (He.Fa.glo "SIZES").ok K,
  intsB K (He.ga K "SIZES") t_SIZES,
  He.eqO (PySem.W.specialIn K (.builtin "object.__class__") "__get__") (some (some (.builtin "getset_descriptor.__get__"))),
  decide (PySem.W.takesIn K (.builtin "object.__class__") = some true),
  (He.Fa.glo "Book").ok K,
  (He.Fa.cls "Book").ok K,
  decide (PySem.W.kitOne K (.ref (He.ga K "Book")) (.ref (He.ga K "Book")) = some true),
  He.eqO (PySem.W.findIn K (.ref (He.ga K "Book")) "__class__") (some (some (.builtin "object.__class__"))),
  decide (PySem.W.mroIn K (He.ga K "Book") (.type "object") = some true),
  (koL K (He.ga K "Book")).all id,
  (He.Fa.noat "Book" "_words").ok K,
  (He.Fa.noat "Book" "_sizes").ok K,
  (He.Fa.noat "Book" "_places").ok K,
  (He.Fa.mkr "Book").ok K,
  propB K (He.ga K "Book") "words",
  (He.Fa.meth "Book" "fitting").ok K,
  (excL (PySem.W.OpenLaw.prog PySem.Challenge.rw_crossfills_k03_words_by_clues) K (He.ga K "BadArgument")).all id,
  He.eqO (PySem.W.findIn K (.ref (He.ga K "BadArgument")) "name") (some none),
  (He.Fa.glo "BadArgument").ok K,
  (He.Fa.free "super").ok K,
  (He.Fa.glo "CrossError").ok K,
  (He.Fa.glo "Unfilled").ok K,
  (He.Fa.glo "Refused").ok K,
  (He.Fa.glo "Unread").ok K,
  decide (PySem.W.kitOne K (.ref (He.ga K "BadArgument")) (.ref (He.ga K "CrossError")) = some true)]
theorem law_at {w : World} {K : PySem.W.Frag} {mg : Str → Option Value} {fa : Addr} {h : Heap} (X : K.In h) (G : h.Ns mainGlobals mg) (hfa : mg "law" = some (.ref fa)) (c : SaysA fns tbs tfs exs w h K)
    (main : ∀ ns : List Int, ns.length ≤ 63 → (∀ z ∈ ns, Builtin.Int.intBits z ≤ 1048576) → ∃ h', m_law [.lst (ns.map D.int)] [] = .ok (.bl true) h') :
    LamX.LawAtS PySem.Challenge.rw_crossfills_k03_words_by_clues w K (L2.CX (PySem.W.OpenLaw.prog PySem.Challenge.rw_crossfills_k03_words_by_clues) w) 87 63 "script" mg fa h := by
  cases (He.glo_ok X G (c.b 29)).symm.trans hfa
  let gd : Gd := ⟨fun x => if x = "BadArgument" then some (He.ga K "BadArgument") else if x = "Book" then some (He.ga K "Book") else none, tns.map fun p => (tbOf K (p.1 K), p.2)⟩
  have nd : (((tns.map fun p => (tbOf K (p.1 K), p.2)).map (·.1)).Nodup) := c.d 0
  obtain ⟨d_is_number, D_is_number⟩ := c.dn 0
  have b_is_number := D_is_number.fn.binds (ps := ["value", "low", "high"]) fun _ _ _ _ _ _ us hl => match us, hl with | [_, _, _], _ => rfl
  obtain ⟨d_check, D_check⟩ := c.dn 1
  have b_check := D_check.fn.binds (ps := ["is_right", "name"]) fun _ _ _ _ _ _ us hl => match us, hl with | [_, _], _ => rfl
  obtain ⟨d_is_text_of, D_is_text_of⟩ := c.dn 2
  have b_is_text_of := D_is_text_of.fn.binds (ps := ["value", "least", "most", "signs"]) fun _ _ _ _ _ _ us hl => match us, hl with | [_, _, _, _], _ => rfl
  obtain ⟨d_is_word, D_is_word⟩ := c.dn 3
  have b_is_word := D_is_word.fn.binds (ps := ["value"]) fun _ _ _ _ _ _ us hl => match us, hl with | [_], _ => rfl
  obtain ⟨d_is_pattern, D_is_pattern⟩ := c.dn 4
  have b_is_pattern := D_is_pattern.fn.binds (ps := ["value"]) fun _ _ _ _ _ _ us hl => match us, hl with | [_], _ => rfl
  obtain ⟨d_are_rising, D_are_rising⟩ := c.dn 5
  have b_are_rising := D_are_rising.fn.binds (ps := ["rows"]) fun _ _ _ _ _ _ us hl => match us, hl with | [_], _ => rfl
  obtain ⟨d_Book_d_initd_, D_Book_d_initd_⟩ := c.dn 6
  have b_Book_d_initd_ := D_Book_d_initd_.fn.binds (ps := ["self", "words"]) fun _ _ _ _ _ _ us hl => match us, hl with | [_, _], _ => rfl
  obtain ⟨d_Book_words, D_Book_words⟩ := c.dn 7
  have b_Book_words := D_Book_words.fn.binds (ps := ["self"]) fun _ _ _ _ _ _ us hl => match us, hl with | [_], _ => rfl
  obtain ⟨d_Book_fitting, D_Book_fitting⟩ := c.dn 8
  have b_Book_fitting := D_Book_fitting.fn.binds (ps := ["self", "pattern"]) fun _ _ _ _ _ _ us hl => match us, hl with | [_, _], _ => rfl
  obtain ⟨d_is_book, D_is_book⟩ := c.dn 9
  have b_is_book := D_is_book.fn.binds (ps := ["value"]) fun _ _ _ _ _ _ us hl => match us, hl with | [_], _ => rfl
  obtain ⟨d_is_clue_of, D_is_clue_of⟩ := c.dn 10
  have b_is_clue_of := D_is_clue_of.fn.binds (ps := ["value", "depth"]) fun _ _ _ _ _ _ us hl => match us, hl with | [_, _], _ => rfl
  obtain ⟨d_is_clue, D_is_clue⟩ := c.dn 11
  have b_is_clue := D_is_clue.fn.binds (ps := ["value"]) fun _ _ _ _ _ _ us hl => match us, hl with | [_], _ => rfl
  obtain ⟨d_fits_pattern, D_fits_pattern⟩ := c.dn 12
  have b_fits_pattern := D_fits_pattern.fn.binds (ps := ["pattern", "word"]) fun _ _ _ _ _ _ us hl => match us, hl with | [_, _], _ => rfl
  obtain ⟨d_plainly_meets, D_plainly_meets⟩ := c.dn 13
  have b_plainly_meets := D_plainly_meets.fn.binds (ps := ["clue", "word"]) fun _ _ _ _ _ _ us hl => match us, hl with | [_, _], _ => rfl
  obtain ⟨d_meets, D_meets⟩ := c.dn 14
  have b_meets := D_meets.fn.binds (ps := ["clue", "word"]) fun _ _ _ _ _ _ us hl => match us, hl with | [_, _], _ => rfl
  obtain ⟨d_patterns_with, D_patterns_with⟩ := c.dn 15
  have b_patterns_with := D_patterns_with.fn.binds (ps := ["text", "size", "places"]) fun _ _ _ _ _ _ us hl => match us, hl with | [_, _, _], _ => rfl
  obtain ⟨d_places_of, D_places_of⟩ := c.dn 16
  have b_places_of := D_places_of.fn.binds (ps := ["kind", "text", "size"]) fun _ _ _ _ _ _ us hl => match us, hl with | [_, _, _], _ => rfl
  obtain ⟨d_words_with, D_words_with⟩ := c.dn 17
  have b_words_with := D_words_with.fn.binds (ps := ["book", "kind", "text"]) fun _ _ _ _ _ _ us hl => match us, hl with | [_, _, _], _ => rfl
  obtain ⟨d_first_at_least, D_first_at_least⟩ := c.dn 18
  have b_first_at_least := D_first_at_least.fn.binds (ps := ["words", "text"]) fun _ _ _ _ _ _ us hl => match us, hl with | [_, _], _ => rfl
  obtain ⟨d_words_between, D_words_between⟩ := c.dn 19
  have b_words_between := D_words_between.fn.binds (ps := ["book", "low", "high"]) fun _ _ _ _ _ _ us hl => match us, hl with | [_, _, _], _ => rfl
  obtain ⟨d_words_in, D_words_in⟩ := c.dn 20
  have b_words_in := D_words_in.fn.binds (ps := ["book", "clue"]) fun _ _ _ _ _ _ us hl => match us, hl with | [_, _], _ => rfl
  obtain ⟨d_words_by, D_words_by⟩ := c.dn 21
  have b_words_by := D_words_by.fn.binds (ps := ["book", "clue"]) fun _ _ _ _ _ _ us hl => match us, hl with | [_, _], _ => rfl
  obtain ⟨d__law_taken, D__law_taken⟩ := c.dn 22
  have b__law_taken := D__law_taken.fn.binds (ps := ["row", "many"]) fun _ _ _ _ _ _ us hl => match us, hl with | [_, _], _ => rfl
  obtain ⟨d__law_pick, D__law_pick⟩ := c.dn 23
  have b__law_pick := D__law_pick.fn.binds (ps := ["row", "some"]) fun _ _ _ _ _ _ us hl => match us, hl with | [_, _], _ => rfl
  obtain ⟨d__law_text, D__law_text⟩ := c.dn 24
  have b__law_text := D__law_text.fn.binds (ps := ["row", "least", "most", "signs"]) fun _ _ _ _ _ _ us hl => match us, hl with | [_, _, _, _], _ => rfl
  obtain ⟨d__law_words, D__law_words⟩ := c.dn 25
  have b__law_words := D__law_words.fn.binds (ps := ["row", "most"]) fun _ _ _ _ _ _ us hl => match us, hl with | [_, _], _ => rfl
  obtain ⟨d__law_clue, D__law_clue⟩ := c.dn 26
  have b__law_clue := D__law_clue.fn.binds (ps := ["row", "depth"]) fun _ _ _ _ _ _ us hl => match us, hl with | [_, _], _ => rfl
  obtain ⟨d__law_alike, D__law_alike⟩ := c.dn 27
  have b__law_alike := D__law_alike.fn.binds (ps := ["found", "due"]) fun _ _ _ _ _ _ us hl => match us, hl with | [_, _], _ => rfl
  obtain ⟨d__law_meets, D__law_meets⟩ := c.dn 28
  have b__law_meets := D__law_meets.fn.binds (ps := ["clue", "word"]) fun _ _ _ _ _ _ us hl => match us, hl with | [_, _], _ => rfl
  obtain ⟨d__law_heard, D__law_heard⟩ := c.dn 29
  have b__law_heard := D__law_heard.fn.binds (ps := ["ask"]) fun _ _ _ _ _ _ us hl => match us, hl with | [_], _ => rfl
  obtain ⟨d__law_refused, D__law_refused⟩ := c.dn 30
  have b__law_refused := D__law_refused.fn.binds (ps := ["row", "words", "book"]) fun _ _ _ _ _ _ us hl => match us, hl with | [_, _, _], _ => rfl
  obtain ⟨d_law, D_law⟩ := c.dn 31
  have b_law := D_law.fn.binds (ps := ["script"]) fun _ _ _ _ _ _ us hl => match us, hl with | [_], _ => rfl
  have gc_Book : gd.cl "Book" = some (He.ga K "Book") := rfl
  have ko_Book : KitO K gd ["Book"] "Book" (He.ga K "Book") := ⟨gc_Book, ko_bl (c.b 71), fun k hk C' e => by
    simp only [List.mem_cons, List.not_mem_nil, or_false] at hk
    rcases hk with rfl
    · cases gc_Book.symm.trans e
      exact ⟨He.cls_ok (c.b 67), c.d 68, He.eqO_ok (c.b 69), c.d 70⟩, He.eqO_ok (c.b 64), c.d 65⟩
  have E_BadArgument : ExF (PySem.W.OpenLaw.prog PySem.Challenge.rw_crossfills_k03_words_by_clues) K (He.ga K "BadArgument") := ⟨c.b 78⟩
  have no_BadArgument : PySem.W.findIn K (.ref (He.ga K "BadArgument")) "name" = some none := He.eqO_ok (c.b 79)
  obtain ⟨dI_BadArgument, S_BadArgument⟩ := c.sup (C := fun K => (He.ga K "BadArgument")) E_BadArgument 32
  refine ⟨d_law, tfs.map fun p => (cdOf K (p K), tbOf K (p K)), spM K gd m_law, fun p hp => ?_, fun p hp => ?_, fun p hp => ?_, fun s u => ?_, fun H a ns hl hb hT hS => ?_, fun base Xb Gb TB => ?_⟩
  · obtain ⟨q, hq, rfl⟩ := List.mem_map.mp hp
    exact c.empty q hq
  · obtain ⟨q, hq, rfl⟩ := List.mem_map.mp hp
    exact c.out q hq
  · obtain ⟨q, hq, rfl⟩ := List.mem_map.mp hp
    exact PySem.W.codeHd_of_K X (c.hd q hq)
  · obtain ⟨oc, od, kV, doc, pm, an, ct, osl, rfl, _, _⟩ := D_law.ex
    exact .of_eq rfl
  · obtain ⟨h', e⟩ := main ns hl hb
    refine law_start (fun p hp => ?_) hS e
    obtain ⟨q, hq, rfl⟩ := List.mem_map.mp hp
    exact hT _ (List.mem_map.mpr ⟨_, List.mem_map.mpr ⟨q, hq, rfl⟩, rfl⟩)
  · refine ok_law (P := (PySem.W.OpenLaw.prog PySem.Challenge.rw_crossfills_k03_words_by_clues)) (w := w) (K := K) (mg := mg) (base := base) (gd := gd) {
      f_is_number := (He.ga K "is_number")
      d_is_number := d_is_number
      c_is_number := cdOf K (He.ga K "is_number")
      n_is_number := D_is_number
      b_is_number := b_is_number
      m_is_number := He.glo_ok X G (c.b 1)
      f_check := (He.ga K "check")
      d_check := d_check
      c_check := cdOf K (He.ga K "check")
      n_check := D_check
      b_check := b_check
      m_check := He.glo_ok X G (c.b 2)
      f_is_text_of := (He.ga K "is_text_of")
      d_is_text_of := d_is_text_of
      c_is_text_of := cdOf K (He.ga K "is_text_of")
      n_is_text_of := D_is_text_of
      b_is_text_of := b_is_text_of
      m_is_text_of := He.glo_ok X G (c.b 3)
      q_is_text_of := tbOf K (He.ga K "is_text_of")
      x_is_text_of := TB (cdOf K (He.ga K "is_text_of"), tbOf K (He.ga K "is_text_of")) (List.mem_map.mpr ⟨_, (List.mem_of_getElem? (i := 0) (show tfs[0]? = some _ from rfl)), rfl⟩)
      y_is_text_of := List.mem_map.mpr ⟨_, (List.mem_of_getElem? (i := 0) (show tns[0]? = some _ from rfl)), rfl⟩
      o_is_text_of := tab_one (T := tns.map fun p => (tbOf K (p.1 K), p.2)) nd (List.mem_map.mpr ⟨_, (List.mem_of_getElem? (i := 0) (show tns[0]? = some _ from rfl)), rfl⟩)
      f_is_word := (He.ga K "is_word")
      d_is_word := d_is_word
      c_is_word := cdOf K (He.ga K "is_word")
      n_is_word := D_is_word
      b_is_word := b_is_word
      m_is_word := He.glo_ok X G (c.b 4)
      f_is_pattern := (He.ga K "is_pattern")
      d_is_pattern := d_is_pattern
      c_is_pattern := cdOf K (He.ga K "is_pattern")
      n_is_pattern := D_is_pattern
      b_is_pattern := b_is_pattern
      m_is_pattern := He.glo_ok X G (c.b 5)
      f_are_rising := (He.ga K "are_rising")
      d_are_rising := d_are_rising
      c_are_rising := cdOf K (He.ga K "are_rising")
      n_are_rising := D_are_rising
      b_are_rising := b_are_rising
      m_are_rising := He.glo_ok X G (c.b 6)
      q_are_rising := tbOf K (He.ga K "are_rising")
      x_are_rising := TB (cdOf K (He.ga K "are_rising"), tbOf K (He.ga K "are_rising")) (List.mem_map.mpr ⟨_, (List.mem_of_getElem? (i := 1) (show tfs[1]? = some _ from rfl)), rfl⟩)
      y_are_rising := List.mem_map.mpr ⟨_, (List.mem_of_getElem? (i := 1) (show tns[1]? = some _ from rfl)), rfl⟩
      o_are_rising := tab_one (T := tns.map fun p => (tbOf K (p.1 K), p.2)) nd (List.mem_map.mpr ⟨_, (List.mem_of_getElem? (i := 1) (show tns[1]? = some _ from rfl)), rfl⟩)
      f_Book_d_initd_ := (He.ma K (He.ga K "Book") "__init__")
      d_Book_d_initd_ := d_Book_d_initd_
      c_Book_d_initd_ := cdOf K (He.ma K (He.ga K "Book") "__init__")
      n_Book_d_initd_ := D_Book_d_initd_
      b_Book_d_initd_ := b_Book_d_initd_
      q_Book_d_initd_ := tbOf K (He.ma K (He.ga K "Book") "__init__")
      x_Book_d_initd_ := TB (cdOf K (He.ma K (He.ga K "Book") "__init__"), tbOf K (He.ma K (He.ga K "Book") "__init__")) (List.mem_map.mpr ⟨_, (List.mem_of_getElem? (i := 2) (show tfs[2]? = some _ from rfl)), rfl⟩)
      y_Book_d_initd_ := List.mem_map.mpr ⟨_, (List.mem_of_getElem? (i := 2) (show tns[2]? = some _ from rfl)), rfl⟩
      o_Book_d_initd_ := tab_one (T := tns.map fun p => (tbOf K (p.1 K), p.2)) nd (List.mem_map.mpr ⟨_, (List.mem_of_getElem? (i := 2) (show tns[2]? = some _ from rfl)), rfl⟩)
      f_Book_words := (gtOf K (He.ga K "Book") "words")
      d_Book_words := d_Book_words
      c_Book_words := cdOf K (gtOf K (He.ga K "Book") "words")
      n_Book_words := D_Book_words
      b_Book_words := b_Book_words
      f_Book_fitting := (He.ma K (He.ga K "Book") "fitting")
      d_Book_fitting := d_Book_fitting
      c_Book_fitting := cdOf K (He.ma K (He.ga K "Book") "fitting")
      n_Book_fitting := D_Book_fitting
      b_Book_fitting := b_Book_fitting
      f_is_book := (He.ga K "is_book")
      d_is_book := d_is_book
      c_is_book := cdOf K (He.ga K "is_book")
      n_is_book := D_is_book
      b_is_book := b_is_book
      m_is_book := He.glo_ok X G (c.b 7)
      f_is_clue_of := (He.ga K "is_clue_of")
      d_is_clue_of := d_is_clue_of
      c_is_clue_of := cdOf K (He.ga K "is_clue_of")
      n_is_clue_of := D_is_clue_of
      b_is_clue_of := b_is_clue_of
      m_is_clue_of := He.glo_ok X G (c.b 8)
      q_is_clue_of := tbOf K (He.ga K "is_clue_of")
      x_is_clue_of := TB (cdOf K (He.ga K "is_clue_of"), tbOf K (He.ga K "is_clue_of")) (List.mem_map.mpr ⟨_, (List.mem_of_getElem? (i := 3) (show tfs[3]? = some _ from rfl)), rfl⟩)
      y_is_clue_of := List.mem_map.mpr ⟨_, (List.mem_of_getElem? (i := 3) (show tns[3]? = some _ from rfl)), rfl⟩
      o_is_clue_of := tab_one (T := tns.map fun p => (tbOf K (p.1 K), p.2)) nd (List.mem_map.mpr ⟨_, (List.mem_of_getElem? (i := 3) (show tns[3]? = some _ from rfl)), rfl⟩)
      f_is_clue := (He.ga K "is_clue")
      d_is_clue := d_is_clue
      c_is_clue := cdOf K (He.ga K "is_clue")
      n_is_clue := D_is_clue
      b_is_clue := b_is_clue
      m_is_clue := He.glo_ok X G (c.b 9)
      f_fits_pattern := (He.ga K "fits_pattern")
      d_fits_pattern := d_fits_pattern
      c_fits_pattern := cdOf K (He.ga K "fits_pattern")
      n_fits_pattern := D_fits_pattern
      b_fits_pattern := b_fits_pattern
      m_fits_pattern := He.glo_ok X G (c.b 10)
      q_fits_pattern := tbOf K (He.ga K "fits_pattern")
      x_fits_pattern := TB (cdOf K (He.ga K "fits_pattern"), tbOf K (He.ga K "fits_pattern")) (List.mem_map.mpr ⟨_, (List.mem_of_getElem? (i := 4) (show tfs[4]? = some _ from rfl)), rfl⟩)
      y_fits_pattern := List.mem_map.mpr ⟨_, (List.mem_of_getElem? (i := 4) (show tns[4]? = some _ from rfl)), rfl⟩
      o_fits_pattern := tab_one (T := tns.map fun p => (tbOf K (p.1 K), p.2)) nd (List.mem_map.mpr ⟨_, (List.mem_of_getElem? (i := 4) (show tns[4]? = some _ from rfl)), rfl⟩)
      f_plainly_meets := (He.ga K "plainly_meets")
      d_plainly_meets := d_plainly_meets
      c_plainly_meets := cdOf K (He.ga K "plainly_meets")
      n_plainly_meets := D_plainly_meets
      b_plainly_meets := b_plainly_meets
      m_plainly_meets := He.glo_ok X G (c.b 11)
      f_meets := (He.ga K "meets")
      d_meets := d_meets
      c_meets := cdOf K (He.ga K "meets")
      n_meets := D_meets
      b_meets := b_meets
      m_meets := He.glo_ok X G (c.b 12)
      f_patterns_with := (He.ga K "patterns_with")
      d_patterns_with := d_patterns_with
      c_patterns_with := cdOf K (He.ga K "patterns_with")
      n_patterns_with := D_patterns_with
      b_patterns_with := b_patterns_with
      m_patterns_with := He.glo_ok X G (c.b 13)
      f_places_of := (He.ga K "places_of")
      d_places_of := d_places_of
      c_places_of := cdOf K (He.ga K "places_of")
      n_places_of := D_places_of
      b_places_of := b_places_of
      m_places_of := He.glo_ok X G (c.b 14)
      f_words_with := (He.ga K "words_with")
      d_words_with := d_words_with
      c_words_with := cdOf K (He.ga K "words_with")
      n_words_with := D_words_with
      b_words_with := b_words_with
      m_words_with := He.glo_ok X G (c.b 15)
      f_first_at_least := (He.ga K "first_at_least")
      d_first_at_least := d_first_at_least
      c_first_at_least := cdOf K (He.ga K "first_at_least")
      n_first_at_least := D_first_at_least
      b_first_at_least := b_first_at_least
      m_first_at_least := He.glo_ok X G (c.b 16)
      f_words_between := (He.ga K "words_between")
      d_words_between := d_words_between
      c_words_between := cdOf K (He.ga K "words_between")
      n_words_between := D_words_between
      b_words_between := b_words_between
      m_words_between := He.glo_ok X G (c.b 17)
      f_words_in := (He.ga K "words_in")
      d_words_in := d_words_in
      c_words_in := cdOf K (He.ga K "words_in")
      n_words_in := D_words_in
      b_words_in := b_words_in
      m_words_in := He.glo_ok X G (c.b 18)
      f_words_by := (He.ga K "words_by")
      d_words_by := d_words_by
      c_words_by := cdOf K (He.ga K "words_by")
      n_words_by := D_words_by
      b_words_by := b_words_by
      m_words_by := He.glo_ok X G (c.b 19)
      f__law_taken := (He.ga K "_law_taken")
      d__law_taken := d__law_taken
      c__law_taken := cdOf K (He.ga K "_law_taken")
      n__law_taken := D__law_taken
      b__law_taken := b__law_taken
      m__law_taken := He.glo_ok X G (c.b 20)
      f__law_pick := (He.ga K "_law_pick")
      d__law_pick := d__law_pick
      c__law_pick := cdOf K (He.ga K "_law_pick")
      n__law_pick := D__law_pick
      b__law_pick := b__law_pick
      m__law_pick := He.glo_ok X G (c.b 21)
      f__law_text := (He.ga K "_law_text")
      d__law_text := d__law_text
      c__law_text := cdOf K (He.ga K "_law_text")
      n__law_text := D__law_text
      b__law_text := b__law_text
      m__law_text := He.glo_ok X G (c.b 22)
      f__law_words := (He.ga K "_law_words")
      d__law_words := d__law_words
      c__law_words := cdOf K (He.ga K "_law_words")
      n__law_words := D__law_words
      b__law_words := b__law_words
      m__law_words := He.glo_ok X G (c.b 23)
      f__law_clue := (He.ga K "_law_clue")
      d__law_clue := d__law_clue
      c__law_clue := cdOf K (He.ga K "_law_clue")
      n__law_clue := D__law_clue
      b__law_clue := b__law_clue
      m__law_clue := He.glo_ok X G (c.b 24)
      f__law_alike := (He.ga K "_law_alike")
      d__law_alike := d__law_alike
      c__law_alike := cdOf K (He.ga K "_law_alike")
      n__law_alike := D__law_alike
      b__law_alike := b__law_alike
      m__law_alike := He.glo_ok X G (c.b 25)
      f__law_meets := (He.ga K "_law_meets")
      d__law_meets := d__law_meets
      c__law_meets := cdOf K (He.ga K "_law_meets")
      n__law_meets := D__law_meets
      b__law_meets := b__law_meets
      m__law_meets := He.glo_ok X G (c.b 26)
      f__law_heard := (He.ga K "_law_heard")
      d__law_heard := d__law_heard
      c__law_heard := cdOf K (He.ga K "_law_heard")
      n__law_heard := D__law_heard
      b__law_heard := b__law_heard
      m__law_heard := He.glo_ok X G (c.b 27)
      f__law_refused := (He.ga K "_law_refused")
      d__law_refused := d__law_refused
      c__law_refused := cdOf K (He.ga K "_law_refused")
      n__law_refused := D__law_refused
      b__law_refused := b__law_refused
      m__law_refused := He.glo_ok X G (c.b 28)
      q__law_refused := tbOf K (He.ga K "_law_refused")
      x__law_refused := TB (cdOf K (He.ga K "_law_refused"), tbOf K (He.ga K "_law_refused")) (List.mem_map.mpr ⟨_, (List.mem_of_getElem? (i := 5) (show tfs[5]? = some _ from rfl)), rfl⟩)
      l__law_refused := List.mem_map.mpr ⟨_, (List.mem_of_getElem? (i := 5) (show tns[5]? = some _ from rfl)), rfl⟩
      u__law_refused := tab_one (T := tns.map fun p => (tbOf K (p.1 K), p.2)) nd (List.mem_map.mpr ⟨_, (List.mem_of_getElem? (i := 5) (show tns[5]? = some _ from rfl)), rfl⟩)
      f_law := (He.ga K "law")
      d_law := d_law
      c_law := cdOf K (He.ga K "law")
      n_law := D_law
      b_law := b_law
      m_law := He.glo_ok X G (c.b 29)
      z_ValueError := He.free_ok X G (c.b 30)
      z_all := He.free_ok X G (c.b 31)
      z_bool := He.free_ok X G (c.b 32)
      z_dict := He.free_ok X G (c.b 33)
      z_enumerate := He.free_ok X G (c.b 34)
      z_int := He.free_ok X G (c.b 35)
      z_isinstance := He.free_ok X G (c.b 36)
      z_len := He.free_ok X G (c.b 37)
      z_list := He.free_ok X G (c.b 38)
      z_range := He.free_ok X G (c.b 39)
      z_set := He.free_ok X G (c.b 40)
      z_sorted := He.free_ok X G (c.b 41)
      z_str := He.free_ok X G (c.b 42)
      z_tuple := He.free_ok X G (c.b 43)
      z_zip := He.free_ok X G (c.b 44)
      k_ANY := He.str_ok X G (c.b 45)
      k_BACK := He.str_ok X G (c.b 46)
      k_BEGINS := He.str_ok X G (c.b 47)
      k_BOTH := He.str_ok X G (c.b 48)
      k_COUNT := He.str_ok X G (c.b 49)
      k_EITHER := He.str_ok X G (c.b 50)
      k_ENDS := He.str_ok X G (c.b 51)
      k_FROM := He.str_ok X G (c.b 52)
      k_HOLDS := He.str_ok X G (c.b 53)
      k_LEAST_LETTERS := He.int_ok X G (c.b 54)
      k_LETTERS := He.str_ok X G (c.b 55)
      k_LIKE := He.str_ok X G (c.b 56)
      k_MOST_DEPTH := He.int_ok X G (c.b 57)
      k_MOST_LETTERS := He.int_ok X G (c.b 58)
      k_MOST_WORDS := He.int_ok X G (c.b 59)
      k_NOT := He.str_ok X G (c.b 60)
      k_TURNED := He.str_ok X G (c.b 61)
      a_SIZES := (He.ga K "SIZES")
      k_SIZES := He.glo_ok X G (c.b 62)
      t_SIZES := tabD_of (c.b 63) (c.tab 0)
      C_Book := (He.ga K "Book")
      m_Book := He.glo_ok X G (c.b 66)
      gc_Book := gc_Book
      cl_Book := He.cls_ok (c.b 67)
      ko_Book := ko_Book
      na_Book__words := He.noat_ok (c.b 72)
      na_Book__sizes := He.noat_ok (c.b 73)
      na_Book__places := He.noat_ok (c.b 74)
      mk_Book := He.mkr_ok (c.b 75)
      p_Book_words := _
      pr_Book_words := propB_ok (c.b 76)
      me_Book_fitting := He.meth_ok (c.b 77)
      C_BadArgument := (He.ga K "BadArgument")
      fI_BadArgument := _
      dI_BadArgument := dI_BadArgument
      m_BadArgument := He.glo_ok X G (c.b 80)
      e_BadArgument := E_BadArgument.oex
      ei_BadArgument := E_BadArgument.init
      et_BadArgument := E_BadArgument.ty
      ef_BadArgument := oi_BadArgument S_BadArgument (He.free_ok X G (c.b 81)) no_BadArgument
      eb_BadArgument := .all fun us hl => ?_
      cl_BadArgument := rfl
      C_CrossError := (He.ga K "CrossError")
      m_CrossError := He.glo_ok X G (c.b 82)
      C_Unfilled := (He.ga K "Unfilled")
      m_Unfilled := He.glo_ok X G (c.b 83)
      C_Refused := (He.ga K "Refused")
      m_Refused := He.glo_ok X G (c.b 84)
      C_Unread := (He.ga K "Unread")
      m_Unread := He.glo_ok X G (c.b 85)
      h_xf := E_BadArgument.xf
      h_ex := E_BadArgument.exc
      h_no := no_BadArgument
      h_kE := c.d 86
      h_kV := E_BadArgument.kV
      h_x := E_BadArgument.xm }
    obtain ⟨oc, od, osl, kV, doc, pm, an, ct, e, _⟩ := S_BadArgument.fn
    subst e
    match us, hl with
    | [_, _], _ => rfl
end Cf
set_option Elab.async false
set_option linter.all false
set_option maxRecDepth 100000
set_option maxHeartbeats 0
open PySem PySem.W PyProof.Rows
set_option maxRecDepth 100000 in
set_option maxHeartbeats 0 in
theorem PySem.Challenge.cw_crossfills_k03_words_by_clues_holds : PySem.Challenge.rw_crossfills_k03_words_by_clues.Holds := by
  w_on; o_law; o_head (Cf.hookA 5 Cf.fns Cf.tbs Cf.tfs Cf.exs); (case hw => w_witness2)
  refine LamX.walk_ofTsE (l := PySem.Challenge.rw_crossfills_k03_words_by_clues) (n := 63) (k := 87) (x := "script") (CX := fun w => L2.CX (PySem.W.OpenLaw.prog PySem.Challenge.rw_crossfills_k03_words_by_clues) w) rfl (by decide) rfl ⟨rfl, by decide, by decide⟩ (fun w mg fa h Y G hmg => ?F) (fun _ _ _ _ _ z => ?G)
  case G =>
    obtain ⟨_, _, _, _, _, _, _, _, _, _, _, _, z⟩ := z
    exact z
  case F =>
    obtain ⟨K, KX, c⟩ := Y
    exact ⟨K, KX, Cf.law_at KX G hmg c Cf.main⟩
