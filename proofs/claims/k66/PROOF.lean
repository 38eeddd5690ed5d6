import PyProof.Rows.All
import PySem.PyData
import Wide.All
import OpenK.AllK
import Wide.FinOn
import HandS.ForMost
import HandS.ForExc
import HandS.CallSlots
import HandS.HeadHook1
import HandS.Lambda
import HandS.HeadHook4
import HandS.HeadHook2
import HandS.TupAny
import HandS.Style
import HandS.IsInst
import HandS.More
import HandS.Small
import HandS.TryOnly
import HandS.Defaults
import HandS.WordsExc
import HandS.Ends
import HandS.AnyAll
import HandS.Strs
import KE.KStateDown
import Lean
import HandS.Base
import HandS.Call
import HandS.Words
import HandS.Head0
import HandS.Head1
import HandS.Head2
import HandS.HeadEnd
import PySem.Challenge.RW_validpages_k66_straight_templates_and_wo
set_option Elab.async false
set_option linter.all false
set_option maxRecDepth 100000
set_option maxHeartbeats 0
/-! The data layer, pure part: Python data, stores of data, and weakest preconditions over them (no heap, no addresses). -/
namespace DL
open PySem

/-! ### data -/
inductive D where
  | non | bl (b : Bool) | int (i : Int) | str (x : Str) | tup (xs : List D) | lst (xs : List D) | fn (a : Nat) | ty (n : String) | pr (xs : List D) | scr (xs : List D)
instance : Inhabited D := ⟨.non⟩
abbrev line : Nat := 16777216
mutual
/-- no list within -/
def nol : D → Bool
  | .lst _ => false
  | .tup xs => nolL xs
  | .pr xs => nolL xs
  | .scr xs => nolL xs
  | .non => true | .bl _ => true | .int _ => true | .str _ => true | .fn _ => true | .ty _ => true
def nolL : List D → Bool
  | [] => true
  | x :: xs => nol x && nolL xs
end
mutual
/-- Python's == -/
def deq : D → D → Bool
  | .non, .non => true
  | .bl a, .bl b => a == b
  | .bl a, .int j => (if a then 1 else 0) == j
  | .int i, .bl b => i == (if b then 1 else 0)
  | .int i, .int j => i == j
  | .str x, .str y => x == y
  | .lst xs, .lst ys => deqL xs ys
  | .tup xs, .tup ys => deqL xs ys
  | _, _ => false
def deqL : List D → List D → Bool
  | [], [] => true
  | x :: xs, y :: ys => deq x y && deqL xs ys
  | _, _ => false
end
mutual
def dep : D → Nat
  | .tup xs => depL xs + 1
  | .lst xs => depL xs + 1
  | .pr _ => 0
  | .scr _ => 0
  | .non => 0 | .bl _ => 0 | .int _ => 0 | .str _ => 0 | .fn _ => 0 | .ty _ => 0
def depL : List D → Nat
  | [] => 0
  | x :: xs => max (dep x) (depL xs)
end
mutual
/-- plain data: no def, no class; signs that are signs -/
def okd : D → Bool
  | .str x => x.cps.all (· < 0x110000)
  | .tup xs => okL xs
  | .lst xs => okL xs
  | .fn _ => false
  | .ty _ => false
  | .pr _ => false
  | .scr _ => false
  | .non => true | .bl _ => true | .int _ => true
def okL : List D → Bool
  | [] => true
  | x :: xs => okd x && okL xs
end
/-- may be compared -/
def cmpOk (d : D) : Prop := okd d = true ∧ dep d ≤ 64
def scalD : D → Bool
  | .non => true | .bl _ => true | .int _ => true | .str _ => true | _ => false
def truth : D → Option Bool
  | .non => some false
  | .bl b => some b
  | .int i => some (i != 0)
  | .str x => some (x.length != 0)
  | .tup xs => some (!xs.isEmpty)
  | .lst xs => some (!xs.isEmpty)
  | .fn _ => none
  | .ty _ => none
  | .pr _ => none
  | .scr _ => none
def strSz : D → Prop
  | .str x => x.length ≤ line
  | _ => True
def ixD (n : Nat) (i : Int) : Option Nat := if 0 ≤ i then (if i < n then some i.toNat else none) else if -(n : Int) ≤ i then some (i + n).toNat else none
def atD {α : Type} (xs : List α) (i : Int) : Option α := (ixD xs.length i).bind fun j => xs[j]?
def sIxD (n d : Nat) : Option Int → Nat
  | none => d
  | some v => if v < 0 then (v + (n : Int)).toNat else min v.toNat n
def cutD {α : Type} (xs : List α) (lo hi : Option Int) : List α := (xs.drop (sIxD xs.length 0 lo)).take (sIxD xs.length xs.length hi - sIxD xs.length 0 lo)

/-- an exception: its class's name, its fields -/
structure Xc where
  cls : Str
  fs : List (Str × D) := []

/-! ### owned values, stores -/
inductive OV where
  | im (d : D)
  | lst (os : List OV)
mutual
def OV.fz : OV → D
  | .im d => d
  | .lst os => .lst (fzL os)
def fzL : List OV → List D
  | [] => []
  | o :: os => o.fz :: fzL os
end
theorem fzL_map : ∀ os : List OV, fzL os = os.map OV.fz
  | [] => rfl
  | o :: os => by simp [fzL, fzL_map os]
theorem fzL_im : ∀ ds : List D, fzL (ds.map OV.im) = ds
  | [] => rfl
  | d :: ds => by simp [fzL, OV.fz, fzL_im ds]
abbrev DE := List (Option OV)
def dget : DE → Nat → Option OV
  | [], _ => none
  | x :: _, 0 => x
  | _ :: r, n + 1 => dget r n
def dset : DE → Nat → Option OV → DE
  | [], _, _ => []
  | _ :: r, 0, o => o :: r
  | x :: r, n + 1, o => x :: dset r n o
def dwipe : DE → List Nat → DE
  | δ, [] => δ
  | δ, v :: vs => dset (dwipe δ vs) v none
/-- the part of frozen data at a path -/
def getD : D → List Int → Option D
  | d, [] => some d
  | .tup ds, i :: r => (atD ds i).bind fun d => getD d r
  | .lst ds, i :: r => (atD ds i).bind fun d => getD d r
  | _, _ :: _ => none
def getP : OV → List Int → Option OV
  | o, [] => some o
  | .im d, i :: r => (getD d (i :: r)).map OV.im
  | .lst os, i :: r => (atD os i).bind fun o => getP o r
def setP : OV → List Int → OV → OV
  | _, [], o' => o'
  | .im d, _ :: _, _ => .im d
  | .lst os, i :: r, o' => match ixD os.length i with
    | some j => match os[j]? with
      | some o => .lst (os.set j (setP o r o'))
      | none => .lst os
    | none => .lst os

/-! ### pure expressions -/
abbrev PX := DE → (D → Prop) → (Xc → Prop) → Prop
abbrev PAx := DE → (List D → Prop) → (Xc → Prop) → Prop
abbrev PT := DE → (Bool → Prop) → (Xc → Prop) → Prop
/-- a def's contract: the arguments, what is wanted of the result and of the lent arguments, of an exception -/
abbrev FD := List OV → (OV → List OV → Prop) → (Xc → Prop) → Prop
abbrev R2 := D → D → (D → Prop) → Prop
abbrev R1 := D → (D → Prop) → Prop
abbrev RL := List D → (D → Prop) → Prop

def pVar (i : Nat) : PX := fun δ Q _ => match dget δ i with
  | some o => Q o.fz
  | none => False
def pC (d : D) : PX := fun _ Q _ => Q d
def pOp (r : R2) (a b : PX) : PX := fun δ Q X => a δ (fun x => b δ (fun y => r x y Q) X) X
def pUn (r : R1) (a : PX) : PX := fun δ Q X => a δ (fun x => r x Q) X
def paNil : PAx := fun _ Q _ => Q []
def paCons (a : PX) (r : PAx) : PAx := fun δ Q X => a δ (fun x => r δ (fun xs => Q (x :: xs)) X) X
def pTup (a : PAx) : PX := fun δ Q X => a δ (fun ds => ds.length ≤ line ∧ Q (.tup ds)) X
def pLst (a : PAx) : PX := fun δ Q X => a δ (fun ds => ds.length ≤ line ∧ Q (.lst ds)) X
def tB (p : PX) : PT := fun δ Q X => p δ (fun d => match d with | .bl b => Q b | _ => False) X
def tTru (p : PX) : PT := fun δ Q X => p δ (fun d => strSz d ∧ match truth d with | some b => Q b | none => False) X
def tAndP (t u : PT) : PT := fun δ Q X => t δ (fun b => if b = true then u δ Q X else Q false) X
def tOrP (t u : PT) : PT := fun δ Q X => t δ (fun b => if b = true then Q true else u δ Q X) X
def tNotP (t : PT) : PT := fun δ Q X => t δ (fun b => Q (!b)) X
def pAndV (a b : PX) : PX := fun δ Q X => a δ (fun d => match d with | .bl c => if c = true then b δ Q X else Q (.bl false) | _ => False) X
def pOrV (a b : PX) : PX := fun δ Q X => a δ (fun d => match d with | .bl c => if c = true then Q (.bl true) else b δ Q X | _ => False) X
def pNotV (a : PX) : PX := fun δ Q X => a δ (fun d => match d with | .bl c => Q (.bl (!c)) | _ => False) X
/-- not, and, or by truth of any values -/
def pNotT (a : PX) : PX := fun δ Q X => a δ (fun d => strSz d ∧ match truth d with | some b => Q (.bl (!b)) | none => False) X
def pOrT (a b : PX) : PX := fun δ Q X => a δ (fun d => strSz d ∧ match truth d with | some c => if c = true then Q d else b δ Q X | none => False) X
def pAndT (a b : PX) : PX := fun δ Q X => a δ (fun d => strSz d ∧ match truth d with | some c => if c = true then b δ Q X else Q d | none => False) X
def pIf (t : PT) (a b : PX) : PX := fun δ Q X => t δ (fun c => if c = true then a δ Q X else b δ Q X) X
/-- the parts of a slice -/
abbrev PO := DE → (Option Int → Prop) → (Xc → Prop) → Prop
def poNone : PO := fun _ Q _ => Q none
def poSome (p : PX) : PO := fun δ Q X => p δ (fun d => match d with | .int i => Q (some i) | _ => False) X
def opSl (d : D) (lo hi : Option Int) (Q : D → Prop) : Prop := match d with
  | .tup ds => Q (.tup (cutD ds lo hi))
  | .lst ds => Q (.lst (cutD ds lo hi))
  | .scr ds => Q (.lst (cutD ds lo hi))
  | .str x => x.length ≤ line ∧ Q (.str ⟨(cutD x.cps.toList lo hi).toArray⟩)
  | _ => False
def pSl (a : PX) (lo hi : PO) : PX := fun δ Q X => a δ (fun d => lo δ (fun l => hi δ (fun h => opSl d l h Q) X) X) X
def opRev (d : D) (Q : D → Prop) : Prop := match d with
  | .tup ds => Q (.tup ds.reverse)
  | .lst ds => Q (.lst ds.reverse)
  | _ => False
def pRev (a : PX) : PX := fun δ Q X => a δ (fun d => opRev d Q) X
def pCall (n : Nat) (F : FD) (a : PAx) : PX := fun δ Q X => a δ (fun ds => ds.length = n ∧ F (ds.map .im) (fun o _ => Q o.fz) X) X
def pCB (r : RL) (a : PAx) : PX := fun δ Q X => a δ (fun ds => r ds Q) X
/-- x.m(..) of a builtin's value -/
def pM (r : D → RL) (a : PX) (b : PAx) : PX := fun δ Q X => a δ (fun d => b δ (fun ds => r d ds Q) X) X
/-- a < b < c -/
def pChain (r r' : R2) (a b c : PX) : PX := fun δ Q X => a δ (fun x => b δ (fun y => r x y fun z => match z with
  | .bl k => if k = true then c δ (fun u => r' y u Q) X else Q (.bl false)
  | _ => False) X) X

/-! ### what is walked, targets -/
abbrev PIt := DE → (List D → Prop) → (Xc → Prop) → Prop
def piSeq (p : PX) : PIt := fun δ Q X => p δ (fun d => match d with | .tup ds => Q ds | .lst ds => Q ds | _ => False) X
def bnd62 (i : Int) : Prop := -(2 ^ 62) ≤ i ∧ i < 2 ^ 62
def rangeD (lo : Int) (n : Nat) : List D := (List.range n).map fun (k : Nat) => D.int (lo + k)
def rngItems (ds : List D) (Q : List D → Prop) : Prop := match ds with
  | [.int n] => bnd62 n ∧ Q (rangeD 0 n.toNat)
  | [.int a, .int b] => (bnd62 a ∧ bnd62 b) ∧ Q (rangeD a (b - a).toNat)
  | _ => False
def piRange (a : PAx) : PIt := fun δ Q X => a δ (fun ds => rngItems ds Q) X
/-- a pair that enumerate, zip hand out: to be taken apart, no more -/
def enumD (ds : List D) : List D := ds.zipIdx.map fun p => D.pr [.int (p.2 : Nat), p.1]
def enumItems (ds : List D) (Q : List D → Prop) : Prop := match ds with
  | [.lst xs] => Q (enumD xs)
  | _ => False
def piEnum (a : PAx) : PIt := fun δ Q X => a δ (fun ds => enumItems ds Q) X
def zipD (xs ys : List D) : List D := (xs.zip ys).map fun p => D.pr [p.1, p.2]
def zipItems (ds : List D) (Q : List D → Prop) : Prop := match ds with
  | [.lst xs, .lst ys] => Q (zipD xs ys)
  | _ => False
def piZip (a : PAx) : PIt := fun δ Q X => a δ (fun ds => zipItems ds Q) X
/-- a target, given data -/
abbrev GX := D → DE → (DE → Prop) → Prop
def gN (i : Nat) : GX := fun d δ Q => Q (dset δ i (some (.im d)))
abbrev GXs := List D → DE → (DE → Prop) → Prop
def gsNil : GXs := fun ds δ Q => ds = [] ∧ Q δ
def gsCons (g : GX) (r : GXs) : GXs := fun ds δ Q => match ds with
  | [] => False
  | d :: ds => g d δ fun δ1 => r ds δ1 Q
def gT (n : Nat) (r : GXs) : GX := fun d δ Q => match d with
  | .tup ds => ds.length = n ∧ r ds δ Q
  | .pr ds => ds.length = n ∧ r ds δ Q
  | .lst ds => ds.length = n ∧ r ds δ Q
  | _ => False
/-- [e for g in .. if t], purely -/
def compP (own : List Nat) (g : GX) (t : PT) (e : PX) (δ : DE) : List D → (List D → Prop) → Prop
  | [], Q => Q []
  | x :: xs, Q => g x (dwipe δ own) fun δ1 => t δ1 (fun b => if b = true then e δ1 (fun y => compP own g t e δ xs fun ys => Q (y :: ys)) (fun _ => False) else compP own g t e δ xs Q) (fun _ => False)
def pComp (own : List Nat) (it : PIt) (g : GX) (t : PT) (e : PX) : PX := fun δ Q X => it δ (fun ds => ds.length ≤ line ∧ compP own g t e δ ds fun ys => Q (.lst ys)) X
def tYesP : PT := fun _ Q _ => Q true

/-! ### expressions that own, move, call upon what is lent -/
abbrev EX := DE → (OV → DE → Prop) → (Xc → DE → Prop) → Prop
abbrev EAx := DE → (List OV → DE → Prop) → (Xc → DE → Prop) → Prop
abbrev ETx := DE → (Bool → DE → Prop) → (Xc → DE → Prop) → Prop
/-- a pure one whose value has no list -/
def eP (p : PX) : EX := fun δ Q X => p δ (fun d => nol d = true ∧ Q (.im d) δ) fun x => X x δ
/-- a pure one whose value is a new list of things without lists -/
def eF (p : PX) : EX := fun δ Q X => p δ (fun d => match d with | .lst ds => nolL ds = true ∧ Q (.lst (ds.map .im)) δ | _ => False) fun x => X x δ
/-- a path of a name: the indexes, what stands there -/
abbrev PW := DE → (List Int → OV → Prop) → (Xc → Prop) → Prop
def pth0 (i : Nat) : PW := fun δ Q _ => match dget δ i with
  | some o => Q [] o
  | none => False
def pthS (w : PW) (p : PX) : PW := fun δ Q X => w δ (fun is o => p δ (fun d => match d with
  | .int k => (match getP o [k] with | some o1 => Q (is ++ [k]) o1 | none => False)
  | _ => False) X) X
/-- what stands frozen at a path of a name -/
def eRd (w : PW) : EX := fun δ Q X => w δ (fun _ o => match o with | .im d => Q (.im d) δ | _ => False) fun x => X x δ
/-- a name's value, frozen from here on -/
def eFr (i : Nat) : EX := fun δ Q _ => match dget δ i with
  | some o => Q (.im o.fz) (dset δ i (some (.im o.fz)))
  | none => False
/-- a name's value, moved out of it -/
def eMv (i : Nat) : EX := fun δ Q _ => match dget δ i with
  | some o => Q o (dset δ i none)
  | none => False
def eaNil : EAx := fun δ Q _ => Q [] δ
def eaCons (a : EX) (r : EAx) : EAx := fun δ Q X => a δ (fun o δ1 => r δ1 (fun os δ2 => Q (o :: os) δ2) X) X
def eTup (a : EAx) : EX := fun δ Q X => a δ (fun os δ1 => os.length ≤ line ∧ Q (.im (.tup (fzL os))) δ1) X
def eLst (a : EAx) : EX := fun δ Q X => a δ (fun os δ1 => os.length ≤ line ∧ Q (.lst os) δ1) X
/-- an item of frozen data -/
def eIx (a b : EX) : EX := fun δ Q X => a δ (fun o δ1 => b δ1 (fun k δ2 => match k with
  | .im (.int i) => (match getD o.fz [i] with | some d => Q (.im d) δ2 | none => False)
  | _ => False) X) X
def eOp (r : R2) (a b : EX) : EX := fun δ Q X => a δ (fun o δ1 => b δ1 (fun k δ2 => r o.fz k.fz fun z => nol z = true ∧ Q (.im z) δ2) X) X
def eUn (r : R1) (a : EX) : EX := fun δ Q X => a δ (fun o δ1 => r o.fz fun z => nol z = true ∧ Q (.im z) δ1) X
def etP (t : PT) : ETx := fun δ Q X => t δ (fun b => Q b δ) fun x => X x δ
def etE (e : EX) : ETx := fun δ Q X => e δ (fun o δ1 => match o with | .im (.bl b) => Q b δ1 | _ => False) X
def etAnd (t u : ETx) : ETx := fun δ Q X => t δ (fun b δ1 => if b = true then u δ1 Q X else Q false δ1) X
def etOr (t u : ETx) : ETx := fun δ Q X => t δ (fun b δ1 => if b = true then Q true δ1 else u δ1 Q X) X
def etNot (t : ETx) : ETx := fun δ Q X => t δ (fun b δ1 => Q (!b) δ1) X
def eIf (t : ETx) (a b : EX) : EX := fun δ Q X => t δ (fun c δ1 => if c = true then a δ1 Q X else b δ1 Q X) X
def dputs : DE → List Nat → List OV → DE
  | δ, j :: js, o :: os => dputs (dset δ j (some o)) js os
  | δ, _, _ => δ
/-- a call; js: the names whose values are lent, in the order of the arguments that are -/
def eCall (n : Nat) (F : FD) (js : List Nat) (a : EAx) : EX := fun δ Q X => a δ (fun os δ1 => os.length = n ∧ F os (fun o os' => os'.length = js.length ∧ Q o (dputs δ1 js os')) fun x => X x δ1) X
def eCB (r : RL) (a : EAx) : EX := fun δ Q X => a δ (fun os δ1 => r (fzL os) fun z => nol z = true ∧ Q (.im z) δ1) X
/-- a builtin that makes a new list -/
def eCBF (r : RL) (a : EAx) : EX := fun δ Q X => a δ (fun os δ1 => r (fzL os) fun z => match z with | .lst zs => nolL zs = true ∧ Q (.lst (zs.map .im)) δ1 | _ => False) X
def eSl (a : EX) (lo hi : PO) : EX := fun δ Q X => a δ (fun o δ1 => lo δ1 (fun l => hi δ1 (fun h => opSl o.fz l h fun z => nol z = true ∧ Q (.im z) δ1) fun x => X x δ1) fun x => X x δ1) X
/-- NAME.pop() -/
def ePop (i : Nat) : EX := fun δ Q _ => match dget δ i with
  | some (.lst os) => (match os.getLast? with | some o => Q o (dset δ i (some (.lst os.dropLast))) | none => False)
  | _ => False
/-- what is walked -/
abbrev EIt := DE → (List D → DE → Prop) → (Xc → DE → Prop) → Prop
def eiSeq (e : EX) : EIt := fun δ Q X => e δ (fun o δ1 => match o.fz with | .tup ds => Q ds δ1 | .lst ds => Q ds δ1 | _ => False) X
def eiRange (a : EAx) : EIt := fun δ Q X => a δ (fun os δ1 => rngItems (fzL os) fun ds => Q ds δ1) X
def eiEnum (a : EAx) : EIt := fun δ Q X => a δ (fun os δ1 => enumItems (fzL os) fun ds => Q ds δ1) X
def eiZip (a : EAx) : EIt := fun δ Q X => a δ (fun os δ1 => zipItems (fzL os) fun ds => Q ds δ1) X
/-- [e for g in .. if t] with elements that own, calls upon what is lent: the block's own names are forgotten behind it -/
def compE (own : List Nat) (g : GX) (t : ETx) (e : EX) : List D → DE → (List OV → DE → Prop) → Prop
  | [], δ, Q => Q [] (dwipe δ own)
  | x :: xs, δ, Q => g x (dwipe δ own) fun δ1 => t δ1 (fun b δ2 => if b = true then e δ2 (fun y δ3 => compE own g t e xs δ3 fun ys δ4 => Q (y :: ys) δ4) (fun _ _ => False) else compE own g t e xs δ2 Q) (fun _ _ => False)
def eComp (own : List Nat) (it : EIt) (g : GX) (t : ETx) (e : EX) : EX := fun δ Q X => it δ (fun ds δ1 => ds.length ≤ line ∧ compE own g t e ds δ1 fun os δ2 => Q (.lst os) δ2) X

/-! ### statements -/
structure En where
  nx : DE → Prop
  rt : OV → DE → Prop
  bk : DE → Prop := fun _ => False
  ct : DE → Prop := fun _ => False
  ex : Xc → DE → Prop
abbrev SX := En → DE → Prop
/-- a target, given an owned value -/
abbrev GO := OV → DE → (DE → Prop) → Prop
def goN (i : Nat) : GO := fun o δ Q => Q (dset δ i (some o))
def goT (g : GX) : GO := fun o δ Q => g o.fz δ Q
def sNext : SX := fun E δ => E.nx δ
def sSeq (a b : SX) : SX := fun E δ => a { E with nx := b E } δ
def sBreak : SX := fun E δ => E.bk δ
def sCont : SX := fun E δ => E.ct δ
def sAsg (e : EX) (g : GO) : SX := fun E δ => e δ (fun o δ1 => g o δ1 E.nx) E.ex
/-- a, b = e1, e2 -/
def sPar (i j : Nat) (a b : EX) : SX := fun E δ => a δ (fun o δ1 => b δ1 (fun k δ2 => E.nx (dset (dset δ2 i (some o)) j (some k))) E.ex) E.ex
def sDrop (e : EX) : SX := fun E δ => e δ (fun _ δ1 => E.nx δ1) E.ex
def sRet (e : EX) : SX := fun E δ => e δ E.rt E.ex
def sRetN : SX := fun E δ => E.rt (.im .non) δ
def sIf (t : ETx) (a b : SX) : SX := fun E δ => t δ (fun c δ1 => if c = true then a E δ1 else b E δ1) E.ex
def sAug (i : Nat) (r : R2) (p : PX) : SX := fun E δ => match dget δ i with
  | some (.im d) => p δ (fun y => r d y fun z => nol z = true ∧ E.nx (dset δ i (some (.im z)))) fun x => E.ex x δ
  | _ => False
/-- NAME.append(e) -/
def sApp (i : Nat) (e : EX) : SX := fun E δ => (∃ os, dget δ i = some (.lst os)) ∧ e δ (fun o δ1 => match dget δ1 i with
  | some (.lst os) => os.length < line ∧ E.nx (dset δ1 i (some (.lst (os ++ [o]))))
  | _ => False) E.ex
/-- NAME[..].append(p), p pure -/
def sAppP (i : Nat) (w : PW) (p : PX) : SX := fun E δ => w δ (fun is z => match z, dget δ i with
  | .lst os, some c => p δ (fun d => nol d = true ∧ os.length < line ∧ E.nx (dset δ i (some (setP c is (.lst (os ++ [.im d])))))) fun x => E.ex x δ
  | _, _ => False) fun x => E.ex x δ
/-- NAME.extend(e) -/
def sExt (i : Nat) (e : EX) : SX := fun E δ => (∃ os, dget δ i = some (.lst os)) ∧ e δ (fun o δ1 => match o with
  | .lst ks => (match dget δ1 i with
    | some (.lst os) => os.length + ks.length ≤ line ∧ E.nx (dset δ1 i (some (.lst (os ++ ks))))
    | _ => False)
  | .im (.lst ds) => (match dget δ1 i with
    | some (.lst os) => os.length + ds.length ≤ line ∧ E.nx (dset δ1 i (some (.lst (os ++ ds.map .im))))
    | _ => False)
  | .im (.tup ds) => (match dget δ1 i with
    | some (.lst os) => os.length + ds.length ≤ line ∧ E.nx (dset δ1 i (some (.lst (os ++ ds.map .im))))
    | _ => False)
  | _ => False) E.ex
def insAt {α : Type} (xs : List α) (k : Nat) (x : α) : List α := xs.take k ++ [x] ++ xs.drop k
/-- NAME.insert(k, e) -/
def sIns (i : Nat) (a e : EX) : SX := fun E δ => (∃ os, dget δ i = some (.lst os)) ∧ a δ (fun k δ1 => e δ1 (fun o δ2 => match k, dget δ2 i with
  | .im (.int k), some (.lst os) => os.length < line ∧ (0 ≤ k ∧ k < 2 ^ 63) ∧ E.nx (dset δ2 i (some (.lst (insAt os k.toNat o))))
  | _, _ => False) E.ex) E.ex
/-- NAME[..][k] = e -/
def sSet (i : Nat) (w : PW) (k : PX) (e : EX) : SX := fun E δ => e δ (fun o δ1 => w δ1 (fun is z => k δ1 (fun d => match d, z, dget δ1 i with
  | .int k, .lst os, some c => (match ixD os.length k with
      | some j => E.nx (dset δ1 i (some (setP c is (.lst (os.set j o)))))
      | none => False)
  | _, _, _ => False) fun x => E.ex x δ1) fun x => E.ex x δ1) E.ex
/-- NAME[..][k] op= p, p pure -/
def sAugIx (i : Nat) (w : PW) (k : PX) (r : R2) (p : PX) : SX := fun E δ => w δ (fun is z => k δ (fun d => match d, z, dget δ i with
  | .int k, .lst os, some c => (match ixD os.length k with
      | some j => (match os[j]? with
        | some (.im x) => p δ (fun y => r x y fun z => nol z = true ∧ E.nx (dset δ i (some (setP c is (.lst (os.set j (.im z))))))) fun x => E.ex x δ
        | _ => False)
      | none => False)
  | _, _, _ => False) fun x => E.ex x δ) fun x => E.ex x δ
/-- while: I the invariant with its measure -/
def sWhile (t : ETx) (b : SX) : SX := fun E δ => ∃ I : Nat → DE → Prop, (∃ n, I n δ) ∧ ∀ n δ, I n δ →
  t δ (fun c δ1 => if c = true then b { E with nx := fun δ2 => ∃ m, m < n ∧ I m δ2, ct := fun δ2 => ∃ m, m < n ∧ I m δ2, bk := E.nx } δ1 else E.nx δ1) E.ex
def forL (g : GX) (b : SX) (E : En) : List D → DE → Prop
  | [], δ => E.nx δ
  | x :: xs, δ => g x δ fun δ1 => b { E with nx := forL g b E xs, ct := forL g b E xs, bk := E.nx } δ1
def sFor (it : EIt) (g : GX) (b : SX) : SX := fun E δ => it δ (fun ds δ1 => forL g b E ds δ1) E.ex
/-- over the list of a name that the body leaves as it is -/
def forV (i : Nat) (o : OV) (g : GX) (b : SX) (E : En) : List D → DE → Prop
  | [], δ => dget δ i = some o ∧ E.nx δ
  | x :: xs, δ => dget δ i = some o ∧ g x δ fun δ1 => b { E with nx := forV i o g b E xs, ct := forV i o g b E xs, bk := E.nx } δ1
def sForV (i : Nat) (g : GX) (b : SX) : SX := fun E δ => match dget δ i with
  | some (.lst os) => ∃ ds : List D, os = ds.map .im ∧ forV i (.lst os) g b E ds δ
  | _ => False
/-- raise C(..) -/
def sRaise (c : Str) (fs : List Str) (a : PAx) : SX := fun E δ => a δ (fun ds => ds.length = fs.length ∧ nolL ds = true ∧ E.ex ⟨c, fs.zip ds⟩ δ) fun x => E.ex x δ
/-- try: b / except ..: h; c: whether the clause names a class -/
def sTry (b : SX) (c : Str → Option Bool) (h : SX) : SX := fun E δ => b { E with ex := fun x δ1 => match c x.cls with
  | some true => h { E with ex := fun _ _ => False } δ1
  | some false => E.ex x δ1
  | none => False } δ
def sNever : SX := fun _ _ => False
def getAll (δ : DE) : List Nat → Option (List OV)
  | [] => some []
  | j :: js => match dget δ j, getAll δ js with
    | some o, some os => some (o :: os)
    | _, _ => none
/-- what a def's body is to end with; P: the slots of the lent parameters -/
def fnEn (P : List Nat) (Qd : OV → List OV → Prop) (Xd : Xc → Prop) : En where
  nx := fun δ => match getAll δ P with | some os => Qd (.im .non) os | none => False
  rt := fun o δ => match getAll δ P with | some os => Qd o os | none => False
  ex := fun x _ => Xd x
def startD (n : Nat) (os : List OV) : DE := os.map some ++ List.replicate (n - os.length) none

/-! ### operators -/
def opAdd : R2 := fun x y Q => match x, y with
  | .int i, .int j => Q (.int (i + j))
  | .str a, .str b => a.length + b.length ≤ line ∧ Q (.str (a ++ b))
  | .tup a, .tup b => (a.length ≤ line ∧ b.length ≤ line ∧ a.length + b.length ≤ line) ∧ Q (.tup (a ++ b))
  | .lst a, .lst b => (a.length + b.length ≤ line) ∧ Q (.lst (a ++ b))
  | .int i, .bl b => Q (.int (i + if b then 1 else 0))
  | _, _ => False
def opSub : R2 := fun x y Q => match x, y with
  | .int i, .int j => Q (.int (i - j))
  | _, _ => False
def mulOk (i j : Int) : Prop := (-(2 ^ 64) < i ∧ i < 2 ^ 64) ∨ (-(2 ^ 64) < j ∧ j < 2 ^ 64)
def opMul : R2 := fun x y Q => match x, y with
  | .int i, .int j => mulOk i j ∧ Q (.int (i * j))
  | .lst a, .int k => (-(2 ^ 63) ≤ k ∧ k < 2 ^ 63 ∧ a.length * k.toNat ≤ line) ∧ Q (.lst (List.flatten (List.replicate k.toNat a)))
  | _, _ => False
def opMod : R2 := fun x y Q => match x, y with
  | .int i, .int j => 0 < j ∧ Q (.int (i % j))
  | _, _ => False
/-- a divisor below 2 ^ 9000 -/
def opDiv : R2 := fun x y Q => match x, y with
  | .int i, .int j => (0 < j ∧ j < 1073741824) ∧ Q (.int (i / j))
  | _, _ => False
def opPow : R2 := fun x y Q => match x, y with
  | .int i, .int j => (0 ≤ j ∧ j ≤ 1000000 ∧ i.natAbs < 2 ^ 64) ∧ Q (.int (i ^ j.toNat))
  | _, _ => False
def opNeg : R1 := fun x Q => match x with
  | .int i => Q (.int (-i))
  | _ => False
def eqOk (x y : D) : Prop := (scalD x = true ∧ scalD y = true) ∨ (cmpOk x ∧ cmpOk y)
def opEq : R2 := fun x y Q => eqOk x y ∧ Q (.bl (deq x y))
def opNe : R2 := fun x y Q => eqOk x y ∧ Q (.bl (!deq x y))
def opLt : R2 := fun x y Q => match x, y with
  | .int i, .int j => Q (.bl (decide (i < j)))
  | _, _ => False
def opLe : R2 := fun x y Q => match x, y with
  | .int i, .int j => Q (.bl (decide (i ≤ j)))
  | _, _ => False
def opGt : R2 := fun x y Q => match x, y with
  | .int i, .int j => Q (.bl (decide (j < i)))
  | _, _ => False
def opGe : R2 := fun x y Q => match x, y with
  | .int i, .int j => Q (.bl (decide (j ≤ i)))
  | _, _ => False
def opIsN : R2 := fun x y Q => match y with
  | .non => Q (.bl (match x with | .non => true | _ => false))
  | _ => False
def opNotN : R2 := fun x y Q => match y with
  | .non => Q (.bl (match x with | .non => false | _ => true))
  | _ => False
def opIsB : R2 := fun x y Q => match x, y with
  | .bl a, .bl b => Q (.bl (a == b))
  | _, _ => False
def opNotB : R2 := fun x y Q => match x, y with
  | .bl a, .bl b => Q (.bl (!(a == b)))
  | _, _ => False
def inOk (x : D) (ys : List D) : Prop := (scalD x = true ∧ ys.all scalD = true)
def opIn : R2 := fun x y Q => match y with
  | .tup ys => inOk x ys ∧ Q (.bl (ys.any fun z => deq z x))
  | .lst ys => inOk x ys ∧ Q (.bl (ys.any fun z => deq z x))
  | _ => False
def opNotIn : R2 := fun x y Q => match y with
  | .tup ys => inOk x ys ∧ Q (.bl (!(ys.any fun z => deq z x)))
  | .lst ys => inOk x ys ∧ Q (.bl (!(ys.any fun z => deq z x)))
  | _ => False
def opIx : R2 := fun x y Q => match x, y with
  | .tup ds, .int i => (match atD ds i with | some d => Q d | none => False)
  | .lst ds, .int i => (match atD ds i with | some d => Q d | none => False)
  | .str z, .int i => z.length ≤ line ∧ (match atD z.cps.toList i with | some c => Q (.str ⟨#[c]⟩) | none => False)
  | _, _ => False

/-! ### builtins -/
def fLen : RL := fun ds Q => match ds with
  | [.tup xs] => Q (.int (xs.length : Nat))
  | [.lst xs] => Q (.int (xs.length : Nat))
  | [.str x] => x.length ≤ line ∧ Q (.int (x.length : Nat))
  | _ => False
def fTuple : RL := fun ds Q => match ds with
  | [.lst xs] => Q (.tup xs)
  | [.tup xs] => Q (.tup xs)
  | _ => False
def fList : RL := fun ds Q => match ds with
  | [.lst xs] => Q (.lst xs)
  | [.tup xs] => Q (.lst xs)
  | _ => False
def fInt : RL := fun ds Q => match ds with
  | [.int i] => Q (.int i)
  | [.bl b] => Q (.int (if b then 1 else 0))
  | _ => False
def fAbs : RL := fun ds Q => match ds with
  | [.int i] => Q (.int (if i < 0 then -i else i))
  | _ => False
def intsOf : List D → Option (List Int)
  | [] => some []
  | .int i :: r => (intsOf r).map (i :: ·)
  | _ :: _ => none
def boolsOf : List D → Option (List Bool)
  | [] => some []
  | .bl i :: r => (boolsOf r).map (i :: ·)
  | _ :: _ => none
def fSum : RL := fun ds Q => match ds with
  | [.lst xs] => (match intsOf xs with | some is => Q (.int is.sum) | none => False)
  | _ => False
def fAll : RL := fun ds Q => match ds with
  | [.lst xs] => (match boolsOf xs with | some bs => Q (.bl (bs.all id)) | none => False)
  | _ => False
def fAny : RL := fun ds Q => match ds with
  | [.lst xs] => (match boolsOf xs with | some bs => Q (.bl (bs.any id)) | none => False)
  | _ => False
/-- isinstance(x, T) -/
def tyD : D → String
  | .non => "NoneType" | .bl _ => "bool" | .int _ => "int" | .str _ => "str" | .tup _ => "tuple" | .lst _ => "list" | .fn _ => "function" | .ty _ => "type" | .pr _ => "tuple" | .scr _ => "list"
def isTy (d : D) (t : String) : Bool := tyD d == t || (tyD d == "bool" && t == "int")
def tyNames : List String := ["int", "bool", "str", "tuple", "list", "dict"]
def noRaw : D → Bool
  | .fn _ => false | .ty _ => false | .pr _ => false | .scr _ => false | _ => true
def fIsi : RL := fun ds Q => match ds with
  | [d, .ty t] => (noRaw d = true ∧ t ∈ tyNames) ∧ Q (.bl (isTy d t))
  | _ => False
end DL
/-! The data layer's soundness, 1: what data lies in a heap, what is owned, worlds. -/
namespace DL
open PySem

abbrev Hp := L2.Hp
abbrev V := L2.V
abbrev HO := L2.HO

/-- a frozen list -/
def LsZ (H : Hp) (Z : Addr → Prop) (a : Addr) (xs : List V) : Prop := Z a ∧ H a = some (.lst xs)
theorem LsZ.sq {K : PySem.W.Frag} {H : Hp} {Z : Addr → Prop} {a : Addr} {xs : List V} (h : LsZ H Z a xs) : L2.SqL K H a xs := .inl (.inl h.2)
/-- an object without a dict, without slots -/
def Pln (ob : Obj) : Prop := ob.dict = none ∧ ob.slots = #[]
/-- a tuple's items; true: it surely has no dict -/
def TuA (K : PySem.W.Frag) (H : Hp) : Option Bool → Addr → List V → Prop
  | some true, a, vs => (∃ ob, H a = some (.frz ob (.tup vs)) ∧ Pln ob) ∨ ∃ (o : Obj) (its : Array Value) (n : Nat), K.lookup a = some o ∧ o.cls = .type "tuple" ∧ Pln o ∧ o.data = .seq its n ∧ its.size ≤ sizeLine ∧ L2.Vals vs its.toList
  | some false, a, vs => L2.SqT K H a vs
  | none, a, vs => (∃ ob, H a = some (.frz ob (.lst vs))) ∨ ∃ (o : Obj) (its : Array Value) (n : Nat), K.lookup a = some o ∧ o.cls = .type "list" ∧ o.dict = none ∧ o.data = .seq its n ∧ its.size ≤ sizeLine ∧ L2.Vals vs its.toList
theorem TuA.q {K : PySem.W.Frag} {H : Hp} {b : Bool} {a : Addr} {vs : List V} (h : TuA K H (some b) a vs) : L2.SqT K H a vs := by
  cases b with
  | false => exact h
  | true =>
    rcases h with ⟨ob, h, _⟩ | ⟨o, its, n, h1, h2, _, h3, h4, h5⟩
    · exact .inl (.inr ⟨ob, h⟩)
    · exact .inr ⟨o, its, n, h1, h2, h3, h4, h5⟩
theorem TuA.l {K : PySem.W.Frag} {H : Hp} {a : Addr} {vs : List V} (h : TuA K H none a vs) : L2.SqL K H a vs := by
  rcases h with ⟨ob, h⟩ | h
  · exact .inl (.inr ⟨ob, h⟩)
  · exact .inr h
theorem TuA.to {K : PySem.W.Frag} {H H' : Hp} {b : Option Bool} {a : Addr} {vs : List V} (h : TuA K H b a vs) (k : H a = some (.tup vs) → H' a = some (.tup vs)) (kz : ∀ ob u, H a = some (.frz ob u) → H' a = some (.frz ob u)) : TuA K H' b a vs := by
  match b, h with
  | some false, h =>
    rcases h with h | h
    · rcases h with h | ⟨ob, h⟩
      · exact .inl (.inl (k h))
      · exact .inl (.inr ⟨ob, kz ob _ h⟩)
    · exact .inr h
  | some true, h =>
    rcases h with ⟨ob, h, z⟩ | h
    · exact .inl ⟨ob, kz ob _ h, z⟩
    · exact .inr h
  | none, h =>
    rcases h with ⟨ob, h⟩ | h
    · exact .inl ⟨ob, kz ob _ h⟩
    · exact .inr h
theorem TuA.new {K : PySem.W.Frag} {H : Hp} {a : Addr} {vs : List V} {ob : Obj} (h : Pln ob) : TuA K (L2.upd H a (.frz ob (.tup vs))) (some true) a vs := .inl ⟨ob, L2.upd_same, h⟩
mutual
inductive Df (K : PySem.W.Frag) (H : Hp) (Z : Addr → Prop) : V → D → Prop
  | non : Df K H Z .non .non
  | bl (b : Bool) : Df K H Z (.bl b) (.bl b)
  | int (i : Int) : Df K H Z (.int i) (.int i)
  | str (x : Str) : Df K H Z (.str x) (.str x)
  | fn (a : Addr) : Df K H Z (.ref a) (.fn a)
  | ty (n : String) : Df K H Z (.ty n) (.ty n)
  | tup {a : Addr} {vs : List V} {ds : List D} : TuA K H (some true) a vs → DfL K H Z vs ds → Df K H Z (.ref a) (.tup ds)
  | pr {a : Addr} {vs : List V} {ds : List D} : TuA K H (some false) a vs → DfL K H Z vs ds → Df K H Z (.ref a) (.pr ds)
  | scr {a : Addr} {vs : List V} {ds : List D} : TuA K H none a vs → DfL K H Z vs ds → Df K H Z (.ref a) (.scr ds)
  | lst {a : Addr} {vs : List V} {ds : List D} : LsZ H Z a vs → DfL K H Z vs ds → Df K H Z (.ref a) (.lst ds)
inductive DfL (K : PySem.W.Frag) (H : Hp) (Z : Addr → Prop) : List V → List D → Prop
  | nil : DfL K H Z [] []
  | cons {v : V} {vs : List V} {d : D} {ds : List D} : Df K H Z v d → DfL K H Z vs ds → DfL K H Z (v :: vs) (d :: ds)
end
def AllZ : Addr → Prop := fun _ => True
abbrev Dr (K : PySem.W.Frag) (H : Hp) : V → D → Prop := Df K H AllZ
abbrev DrL (K : PySem.W.Frag) (H : Hp) : List V → List D → Prop := DfL K H AllZ

section
variable {K : PySem.W.Frag} {H H' : Hp} {Z Z' : Addr → Prop}
mutual
theorem Df.keep (ht : ∀ {b : Option Bool} (a : Addr) (vs : List V), TuA K H b a vs → TuA K H' b a vs) (hl : ∀ a vs, LsZ H Z a vs → LsZ H' Z' a vs) : ∀ {v : V} {d : D}, Df K H Z v d → Df K H' Z' v d
  | _, _, .non => .non
  | _, _, .bl b => .bl b
  | _, _, .int i => .int i
  | _, _, .str x => .str x
  | _, _, .fn a => .fn a
  | _, _, .ty n => .ty n
  | _, _, .tup h hs => .tup (ht _ _ h) (DfL.keep ht hl hs)
  | _, _, .pr h hs => .pr (ht _ _ h) (DfL.keep ht hl hs)
  | _, _, .scr h hs => .scr (ht _ _ h) (DfL.keep ht hl hs)
  | _, _, .lst h hs => .lst (hl _ _ h) (DfL.keep ht hl hs)
theorem DfL.keep (ht : ∀ {b : Option Bool} (a : Addr) (vs : List V), TuA K H b a vs → TuA K H' b a vs) (hl : ∀ a vs, LsZ H Z a vs → LsZ H' Z' a vs) : ∀ {vs : List V} {ds : List D}, DfL K H Z vs ds → DfL K H' Z' vs ds
  | _, _, .nil => .nil
  | _, _, .cons h hs => .cons (Df.keep ht hl h) (DfL.keep ht hl hs)
end
mutual
/-- without lists: frozen whatever is frozen -/
theorem Df.nol (ht : ∀ {b : Option Bool} (a : Addr) (vs : List V), TuA K H b a vs → TuA K H' b a vs) : ∀ {v : V} {d : D}, Df K H Z v d → nol d = true → Df K H' Z' v d
  | _, _, .non, _ => .non
  | _, _, .bl b, _ => .bl b
  | _, _, .int i, _ => .int i
  | _, _, .str x, _ => .str x
  | _, _, .fn a, _ => .fn a
  | _, _, .ty n, _ => .ty n
  | _, _, .tup h hs, e => .tup (ht _ _ h) (DfL.nol ht hs (by simpa [DL.nol] using e))
  | _, _, .pr h hs, e => .pr (ht _ _ h) (DfL.nol ht hs (by simpa [DL.nol] using e))
  | _, _, .scr h hs, e => .scr (ht _ _ h) (DfL.nol ht hs (by simpa [DL.nol] using e))
  | _, _, .lst h hs, e => by simp [DL.nol] at e
theorem DfL.nol (ht : ∀ {b : Option Bool} (a : Addr) (vs : List V), TuA K H b a vs → TuA K H' b a vs) : ∀ {vs : List V} {ds : List D}, DfL K H Z vs ds → nolL ds = true → DfL K H' Z' vs ds
  | _, _, .nil, _ => .nil
  | _, _, .cons h hs, e => by
    simp only [DL.nolL, Bool.and_eq_true] at e
    exact .cons (Df.nol ht h e.1) (DfL.nol ht hs e.2)
end
theorem DfL.length : ∀ {vs : List V} {ds : List D}, DfL K H Z vs ds → vs.length = ds.length
  | _, _, .nil => rfl
  | _, _, .cons _ h => by simp [h.length]
theorem DfL.get : ∀ {vs : List V} {ds : List D} {i : Nat} {d : D}, DfL K H Z vs ds → ds[i]? = some d → ∃ v, vs[i]? = some v ∧ Df K H Z v d
  | _, _, _, _, .nil, e => by simp at e
  | _, _, 0, _, .cons h _, e => by
    simp at e; subst e
    exact ⟨_, rfl, h⟩
  | _, _, i + 1, d, .cons _ hs, e => by
    obtain ⟨v, h1, h2⟩ := DfL.get (i := i) (d := d) hs (by simpa using e)
    exact ⟨v, by simpa using h1, h2⟩
theorem DfL.getV : ∀ {vs : List V} {ds : List D} {i : Nat} {v : V}, DfL K H Z vs ds → vs[i]? = some v → ∃ d, ds[i]? = some d ∧ Df K H Z v d
  | _, _, _, _, .nil, e => by simp at e
  | _, _, 0, _, .cons h _, e => by
    simp at e; subst e
    exact ⟨_, rfl, h⟩
  | _, _, i + 1, v, .cons _ hs, e => by
    obtain ⟨d, h1, h2⟩ := DfL.getV (i := i) (v := v) hs (by simpa using e)
    exact ⟨d, by simpa using h1, h2⟩
theorem DfL.append : ∀ {vs ws : List V} {ds es : List D}, DfL K H Z vs ds → DfL K H Z ws es → DfL K H Z (vs ++ ws) (ds ++ es)
  | _, _, _, _, .nil, h => h
  | _, _, _, _, .cons a b, h => .cons a (b.append h)
theorem DfL.take : ∀ {vs : List V} {ds : List D} (n : Nat), DfL K H Z vs ds → DfL K H Z (vs.take n) (ds.take n)
  | _, _, 0, _ => by simp only [List.take_zero]; exact .nil
  | _, _, n + 1, .nil => by simp only [List.take_nil]; exact .nil
  | _, _, n + 1, .cons a b => by simp only [List.take_succ_cons]; exact .cons a (b.take n)
theorem DfL.drop : ∀ {vs : List V} {ds : List D} (n : Nat), DfL K H Z vs ds → DfL K H Z (vs.drop n) (ds.drop n)
  | _, _, 0, h => by simp only [List.drop_zero]; exact h
  | _, _, n + 1, .nil => by simp only [List.drop_nil]; exact .nil
  | _, _, n + 1, .cons a b => by simp only [List.drop_succ_cons]; exact b.drop n
theorem DfL.reverse {vs : List V} {ds : List D} (h : DfL K H Z vs ds) : DfL K H Z vs.reverse ds.reverse := by
  induction vs generalizing ds with
  | nil => cases h; exact .nil
  | cons v vs ih =>
    cases h with
    | cons a b =>
      simp only [List.reverse_cons]
      exact (ih b).append (.cons a .nil)
theorem DfL.set : ∀ {vs : List V} {ds : List D} {v : V} {d : D} (i : Nat), Df K H Z v d → DfL K H Z vs ds → DfL K H Z (vs.set i v) (ds.set i d)
  | _, _, _, _, _, _, .nil => .nil
  | _, _, _, _, 0, h, .cons _ b => .cons h b
  | _, _, _, _, i + 1, h, .cons a b => .cons a (b.set i h)
end

/-! ### heaps that grow -/
def Ex (H H' : Hp) : Prop := ∀ a o, H a = some o → H' a = some o
theorem Ex.refl (H : Hp) : Ex H H := fun _ _ h => h
theorem Ex.trans {H H1 H2 : Hp} (a : Ex H H1) (b : Ex H1 H2) : Ex H H2 := fun x o h => b x o (a x o h)
theorem Ex.new {H : Hp} {p : Addr} {o : HO} (h : H p = none) : Ex H (L2.upd H p o) := fun a u e => by
  rw [L2.upd_ne (L2.ne_of_none e h)]
  exact e
theorem Ex.free {H H' : Hp} {p : Addr} (e : Ex H H') (h : H' p = none) : H p = none := by
  cases q : H p with
  | none => rfl
  | some o => rw [e p o q] at h; cases h
theorem Ex.rd {H H' : Hp} {a : Addr} {u : HO} (e : Ex H H') (h : L2.Rd H a u) : L2.Rd H' a u := by
  rcases h with h | ⟨o, h⟩
  · exact .inl (e a _ h)
  · exact .inr ⟨o, e a _ h⟩
section
variable {K : PySem.W.Frag} {H H' : Hp} {Z Z' : Addr → Prop}
theorem Ex.sqT {b : Option Bool} {a : Addr} {vs : List V} (e : Ex H H') (h : TuA K H b a vs) : TuA K H' b a vs := h.to (e a _) fun _ _ => e a _
theorem Ex.sqL {a : Addr} {vs : List V} (e : Ex H H') (h : L2.SqL K H a vs) : L2.SqL K H' a vs := by
  rcases h with h | h
  · exact .inl (e.rd h)
  · exact .inr h
theorem Ex.ls {a : Addr} {vs : List V} (e : Ex H H') (hz : ∀ a, Z a → Z' a) (h : LsZ H Z a vs) : LsZ H' Z' a vs := ⟨hz _ h.1, e a _ h.2⟩
theorem Df.ex {v : V} {d : D} (e : Ex H H') (h : Df K H Z v d) : Df K H' Z v d := h.keep (fun _ _ => e.sqT) fun _ _ => e.ls fun _ z => z
theorem DfL.ex {v : List V} {d : List D} (e : Ex H H') (h : DfL K H Z v d) : DfL K H' Z v d := h.keep (fun _ _ => e.sqT) fun _ _ => e.ls fun _ z => z
theorem Df.all {v : V} {d : D} (h : Df K H Z v d) : Dr K H v d := h.keep (fun _ _ x => x) fun _ _ => (Ex.refl H).ls fun _ _ => trivial
theorem DfL.all {v : List V} {d : List D} (h : DfL K H Z v d) : DrL K H v d := h.keep (fun _ _ x => x) fun _ _ => (Ex.refl H).ls fun _ _ => trivial
/-- with everything tracked frozen -/
theorem Df.trk {v : V} {d : D} (h : Df K H Z v d) : Df K H (fun a => H a ≠ none) v d := h.keep (fun _ _ x => x) fun a vs q => ⟨by rw [q.2]; exact nofun, q.2⟩
theorem DfL.trk {v : List V} {d : List D} (h : DfL K H Z v d) : DfL K H (fun a => H a ≠ none) v d := h.keep (fun _ _ x => x) fun a vs q => ⟨by rw [q.2]; exact nofun, q.2⟩
end

/-! ### owned -/
mutual
inductive Ow (K : PySem.W.Frag) (H : Hp) (Z : Addr → Prop) : V → OV → List Addr → Prop
  | im {v : V} {d : D} : Df K H Z v d → Ow K H Z v (.im d) []
  | lst {a : Addr} {vs : List V} {os : List OV} {fp : List Addr} : H a = some (.lst vs) → OwL K H Z vs os fp → Ow K H Z (.ref a) (.lst os) (a :: fp)
inductive OwL (K : PySem.W.Frag) (H : Hp) (Z : Addr → Prop) : List V → List OV → List Addr → Prop
  | nil : OwL K H Z [] [] []
  | cons {v : V} {o : OV} {f : List Addr} {vs : List V} {os : List OV} {g : List Addr} : Ow K H Z v o f → OwL K H Z vs os g → OwL K H Z (v :: vs) (o :: os) (f ++ g)
end
/-- what has to stay -/
structure Kp (S : List Addr) (K : PySem.W.Frag) (H : Hp) (Z : Addr → Prop) (H' : Hp) (Z' : Addr → Prop) : Prop where
  tk : ∀ {b : Option Bool} (a : Addr) (vs : List V), TuA K H b a vs → TuA K H' b a vs
  lk : ∀ a vs, LsZ H Z a vs → LsZ H' Z' a vs
  sk : ∀ a vs, a ∈ S → H a = some (.lst vs) → H' a = some (.lst vs)
theorem Kp.mono {S S' : List Addr} {K : PySem.W.Frag} {H H' : Hp} {Z Z' : Addr → Prop} (k : Kp S K H Z H' Z') (h : ∀ a ∈ S', a ∈ S) : Kp S' K H Z H' Z' := ⟨k.tk, k.lk, fun a vs m => k.sk a vs (h a m)⟩
section
variable {K : PySem.W.Frag} {H H' : Hp} {Z Z' : Addr → Prop}
mutual
theorem Ow.keep : ∀ {v : V} {o : OV} {f : List Addr}, Kp f K H Z H' Z' → Ow K H Z v o f → Ow K H' Z' v o f
  | _, _, _, k, .im h => .im (h.keep k.tk k.lk)
  | _, _, _, k, .lst h hs => .lst (k.sk _ _ List.mem_cons_self h) (OwL.keep (k.mono fun _ m => List.mem_cons_of_mem _ m) hs)
theorem OwL.keep : ∀ {v : List V} {o : List OV} {f : List Addr}, Kp f K H Z H' Z' → OwL K H Z v o f → OwL K H' Z' v o f
  | _, _, _, _, .nil => .nil
  | _, _, _, k, .cons h hs => .cons (Ow.keep (k.mono fun _ m => List.mem_append_left _ m) h) (OwL.keep (k.mono fun _ m => List.mem_append_right _ m) hs)
end
mutual
theorem Ow.lsts : ∀ {v : V} {o : OV} {f : List Addr}, Ow K H Z v o f → ∀ a ∈ f, ∃ vs, H a = some (.lst vs)
  | _, _, _, .im _, a, m => nomatch m
  | _, _, _, .lst h hs, a, m => by
    rcases List.mem_cons.mp m with rfl | m
    · exact ⟨_, h⟩
    · exact OwL.lsts hs a m
theorem OwL.lsts : ∀ {v : List V} {o : List OV} {f : List Addr}, OwL K H Z v o f → ∀ a ∈ f, ∃ vs, H a = some (.lst vs)
  | _, _, _, .nil, a, m => nomatch m
  | _, _, _, .cons h hs, a, m => by
    rcases List.mem_append.mp m with m | m
    · exact Ow.lsts h a m
    · exact OwL.lsts hs a m
end
mutual
/-- frozen: the footprint is frozen, too -/
theorem Ow.freeze : ∀ {v : V} {o : OV} {f : List Addr}, (∀ a, Z a → Z' a) → (∀ a ∈ f, Z' a) → Ow K H Z v o f → Df K H Z' v o.fz
  | _, _, _, hz, _, .im h => h.keep (fun _ _ x => x) fun _ _ => (Ex.refl H).ls hz
  | _, _, _, hz, hf, .lst h hs => .lst ⟨hf _ List.mem_cons_self, h⟩ (OwL.freeze hz (fun a m => hf a (List.mem_cons_of_mem _ m)) hs)
theorem OwL.freeze : ∀ {v : List V} {o : List OV} {f : List Addr}, (∀ a, Z a → Z' a) → (∀ a ∈ f, Z' a) → OwL K H Z v o f → DfL K H Z' v (fzL o)
  | _, _, _, _, _, .nil => .nil
  | _, _, _, hz, hf, .cons h hs => .cons (Ow.freeze hz (fun a m => hf a (List.mem_append_left _ m)) h) (OwL.freeze hz (fun a m => hf a (List.mem_append_right _ m)) hs)
end
theorem Ow.read {v : V} {o : OV} {f : List Addr} (h : Ow K H Z v o f) : Dr K H v o.fz := h.freeze (fun _ _ => trivial) fun _ _ => trivial
theorem OwL.read {v : List V} {o : List OV} {f : List Addr} (h : OwL K H Z v o f) : DrL K H v (fzL o) := h.freeze (fun _ _ => trivial) fun _ _ => trivial
theorem OwL.length : ∀ {vs : List V} {os : List OV} {f : List Addr}, OwL K H Z vs os f → vs.length = os.length
  | _, _, _, .nil => rfl
  | _, _, _, .cons _ h => by simp [h.length]
theorem OwL.append : ∀ {vs ws : List V} {os ps : List OV} {f g : List Addr}, OwL K H Z vs os f → OwL K H Z ws ps g → OwL K H Z (vs ++ ws) (os ++ ps) (f ++ g)
  | _, _, _, _, _, _, .nil, h => h
  | _, _, _, _, _, _, .cons a b, h => by
    rw [List.append_assoc]
    exact .cons a (b.append h)
theorem OwL.split : ∀ {vs ws : List V} {os ps : List OV} {f : List Addr}, vs.length = os.length → OwL K H Z (vs ++ ws) (os ++ ps) f → ∃ f1 f2, f = f1 ++ f2 ∧ OwL K H Z vs os f1 ∧ OwL K H Z ws ps f2
  | [], _, [], _, f, _, h => ⟨[], f, rfl, .nil, h⟩
  | v :: vs, ws, o :: os, ps, _, e, .cons a b => by
    obtain ⟨f1, f2, e1, h1, h2⟩ := OwL.split (by simpa using e) b
    exact ⟨_ ++ f1, f2, by rw [e1, List.append_assoc], .cons a h1, h2⟩
theorem OwL.im : ∀ {vs : List V} {ds : List D}, DfL K H Z vs ds → OwL K H Z vs (ds.map .im) []
  | _, _, .nil => .nil
  | _, _, .cons a b => OwL.cons (f := []) (.im a) (OwL.im b)
end

/-! ### a frame's slots -/
inductive OwS (K : PySem.W.Frag) (H : Hp) (Z : Addr → Prop) : L2.St → DE → List Addr → Prop
  | nil : OwS K H Z [] [] []
  | free {x : Option V} {σ : L2.St} {δ : DE} {f : List Addr} : OwS K H Z σ δ f → OwS K H Z (x :: σ) (none :: δ) f
  | val {v : V} {o : OV} {f : List Addr} {σ : L2.St} {δ : DE} {g : List Addr} : Ow K H Z v o f → OwS K H Z σ δ g → OwS K H Z (some v :: σ) (some o :: δ) (f ++ g)
section
variable {K : PySem.W.Frag} {H H' : Hp} {Z Z' : Addr → Prop}
theorem OwS.keep : ∀ {σ : L2.St} {δ : DE} {f : List Addr}, Kp f K H Z H' Z' → OwS K H Z σ δ f → OwS K H' Z' σ δ f
  | _, _, _, _, .nil => .nil
  | _, _, _, k, .free h => .free (h.keep k)
  | _, _, _, k, .val a b => .val (a.keep (k.mono fun _ m => List.mem_append_left _ m)) (b.keep (k.mono fun _ m => List.mem_append_right _ m))
theorem OwS.lsts : ∀ {σ : L2.St} {δ : DE} {f : List Addr}, OwS K H Z σ δ f → ∀ a ∈ f, ∃ vs, H a = some (.lst vs)
  | _, _, _, .nil, a, m => nomatch m
  | _, _, _, .free h, a, m => h.lsts a m
  | _, _, _, .val h hs, a, m => by
    rcases List.mem_append.mp m with m | m
    · exact h.lsts a m
    · exact hs.lsts a m
theorem OwS.length : ∀ {σ : L2.St} {δ : DE} {f : List Addr}, OwS K H Z σ δ f → σ.length = δ.length
  | _, _, _, .nil => rfl
  | _, _, _, .free h => by simp [h.length]
  | _, _, _, .val _ h => by simp [h.length]
/-- what a slot holds: v as o with the footprint f -/
def SlOk (K : PySem.W.Frag) (H : Hp) (Z : Addr → Prop) (x : Option V) : Option OV → List Addr → Prop
  | none, f => f = []
  | some o, f => ∃ v, x = some v ∧ Ow K H Z v o f
/-- a slot taken out of the row and another one put there -/
theorem OwS.focus : ∀ {σ : L2.St} {δ : DE} {f : List Addr} {i : Nat} {x : Option V}, OwS K H Z σ δ f → σ[i]? = some x →
    ∃ fo fr, SlOk K H Z x (dget δ i) fo ∧ f.Perm (fo ++ fr) ∧
      ∀ {H' : Hp} {Z' : Addr → Prop} {x' : Option V} {o' : Option OV} {fo' : List Addr}, Kp fr K H Z H' Z' → SlOk K H' Z' x' o' fo' → ∃ f', OwS K H' Z' (σ.set i x') (dset δ i o') f' ∧ f'.Perm (fo' ++ fr)
  | _, _, _, _, _, .nil, e => by simp at e
  | _, _, _, 0, x, .free (f := f) h, e => by
    refine ⟨[], f, rfl, .refl _, fun {H' Z' x' o' fo'} k s => ?_⟩
    cases o' with
    | none =>
      have e0 : fo' = [] := s
      subst e0
      exact ⟨f, .free (h.keep k), .refl _⟩
    | some o =>
      obtain ⟨v, e1, ow⟩ := s
      subst e1
      exact ⟨fo' ++ f, .val ow (h.keep k), .refl _⟩
  | _, _, _, 0, x, .val (v := v) (o := o) (f := f) (g := g) a h, e => by
    have ex : some v = x := by simpa using e
    subst ex
    refine ⟨f, g, ⟨v, rfl, a⟩, .refl _, fun {H' Z' x' o' fo'} k s => ?_⟩
    cases o' with
    | none =>
      have e0 : fo' = [] := s
      subst e0
      exact ⟨g, .free (h.keep k), .refl _⟩
    | some o =>
      obtain ⟨v, e1, ow⟩ := s
      subst e1
      exact ⟨fo' ++ g, .val ow (h.keep k), .refl _⟩
  | _, _, _, i + 1, x, .free h, e => by
    obtain ⟨fo, fr, s, p, q⟩ := h.focus (i := i) (x := x) (by simpa using e)
    refine ⟨fo, fr, s, p, fun k s => ?_⟩
    obtain ⟨f', h1, h2⟩ := q k s
    exact ⟨f', .free h1, h2⟩
  | _, _, _, i + 1, x, .val (f := f) (g := g) a h, e => by
    obtain ⟨fo, fr, s, p, q⟩ := h.focus (i := i) (x := x) (by simpa using e)
    refine ⟨fo, f ++ fr, s, ?_, fun {H' Z' x' o' fo'} k s => ?_⟩
    · exact (List.Perm.append_left f p).trans (by rw [← List.append_assoc, ← List.append_assoc]; exact List.Perm.append_right fr List.perm_append_comm)
    · obtain ⟨f', h1, h2⟩ := q (k.mono fun _ m => List.mem_append_right _ m) s
      refine ⟨f ++ f', .val (a.keep (k.mono fun _ m => List.mem_append_left _ m)) h1, ?_⟩
      exact (List.Perm.append_left f h2).trans (by rw [← List.append_assoc, ← List.append_assoc]; exact List.Perm.append_right fr List.perm_append_comm)
theorem dget_none {δ : DE} : ∀ {i : Nat}, δ.length ≤ i → dget δ i = none := by
  induction δ with
  | nil => intro i _; rfl
  | cons o δ ih =>
    intro i h
    cases i with
    | zero => simp at h
    | succ i => exact ih (by simpa using h)
theorem dset_length (o : Option OV) : ∀ (δ : DE) (i : Nat), (dset δ i o).length = δ.length
  | [], _ => rfl
  | _ :: r, 0 => rfl
  | _ :: r, i + 1 => by simp [dset, dset_length o r i]
theorem dset_out (o : Option OV) : ∀ (δ : DE) (i : Nat), δ.length ≤ i → dset δ i o = δ
  | [], _, _ => rfl
  | _ :: r, 0, h => by simp at h
  | x :: r, i + 1, h => by
    show x :: dset r i o = x :: r
    rw [dset_out o r i (by simpa using h)]
theorem dget_dset (o : Option OV) : ∀ (δ : DE) (i : Nat), i < δ.length → dget (dset δ i o) i = o
  | [], _, h => by simp at h
  | _ :: r, 0, _ => rfl
  | _ :: r, i + 1, h => dget_dset o r i (by simpa using h)
theorem dget_dset_ne (o : Option OV) : ∀ (δ : DE) (i j : Nat), i ≠ j → dget (dset δ i o) j = dget δ j
  | [], _, _, _ => rfl
  | _ :: r, 0, 0, h => absurd rfl h
  | _ :: r, 0, j + 1, _ => rfl
  | _ :: r, i + 1, 0, _ => rfl
  | _ :: r, i + 1, j + 1, h => dget_dset_ne o r i j (by omega)
end

/-! ### worlds -/
structure Ok (H : Hp) (Z : Addr → Prop) (f : List Addr) : Prop where
  nd : f.Nodup
  nz : ∀ a ∈ f, ¬ Z a
  zd : ∀ a, Z a → H a ≠ none
/-- from one world to another one: all that stands outside of L stays -/
structure Stp (L : List Addr) (H : Hp) (Z : Addr → Prop) (H' : Hp) (Z' : Addr → Prop) : Prop where
  keep : ∀ a o, H a = some o → a ∉ L → H' a = some o
  zm : ∀ a, Z a → Z' a
  zn : ∀ a, Z' a → Z a ∨ a ∈ L ∨ H a = none
section
variable {L F : List Addr} {H H' H1 H2 : Hp} {Z Z' Z1 Z2 : Addr → Prop}
theorem Stp.refl : Stp L H Z H Z := ⟨fun _ _ h _ => h, fun _ z => z, fun _ z => .inl z⟩
theorem Stp.of_ex (e : Ex H H') : Stp L H Z H' Z := ⟨fun a o h _ => e a o h, fun _ z => z, fun _ z => .inl z⟩
theorem Stp.ex (s : Stp [] H Z H' Z') : Ex H H' := fun a o h => s.keep a o h (by simp)
theorem Stp.mono (s : Stp L H Z H' Z') (h : ∀ a ∈ L, a ∈ F) : Stp F H Z H' Z' :=
  ⟨fun a o e n => s.keep a o e fun m => n (h a m), s.zm, fun a z => (s.zn a z).elim .inl fun q => .inr (q.elim (fun m => .inl (h a m)) .inr)⟩
theorem Stp.trans {H0 : Hp} {Z0 : Addr → Prop} (a : Stp L H0 Z0 H Z) (b : Stp F H Z H' Z') (hF : ∀ x ∈ F, x ∈ L ∨ H0 x = none) : Stp L H0 Z0 H' Z' where
  keep := fun x o e n => b.keep x o (a.keep x o e n) fun m => (hF x m).elim n fun z => by rw [z] at e; cases e
  zm := fun x z => b.zm x (a.zm x z)
  zn := fun x z => by
    rcases b.zn x z with q | q | q
    · exact a.zn x q
    · exact .inr (hF x q)
    · cases e : H0 x with
      | none => exact .inr (.inr rfl)
      | some o =>
        refine .inr (.inl ?_)
        refine Classical.byContradiction fun n => ?_
        rw [a.keep x o e n] at q
        cases q
theorem Stp.kp {K : PySem.W.Frag} {S : List Addr} (s : Stp L H Z H' Z') (hl : ∀ a ∈ L, ∃ vs, H a = some (.lst vs)) (nz : ∀ a ∈ L, ¬ Z a) (hd : ∀ a ∈ S, a ∉ L) : Kp S K H Z H' Z' where
  tk := fun a vs h => h.to (fun h => s.keep a _ h fun m => by obtain ⟨ws, e⟩ := hl a m; rw [h] at e; cases e) fun ob u h => s.keep a _ h fun m => by obtain ⟨ws, e⟩ := hl a m; rw [h] at e; cases e
  lk := fun a vs h => ⟨s.zm a h.1, s.keep a _ h.2 fun m => nz a m h.1⟩
  sk := fun a vs m h => s.keep a _ h (hd a m)
/-- tables of code objects stand outside of what is owned -/
theorem Stp.tab {P : Addr} {q : Str} (s : Stp L H Z H' Z') (hl : ∀ a ∈ L, ∃ vs, H a = some (.lst vs)) (t : LamX.TabS H P q) : LamX.TabS H' P q := by
  obtain ⟨ps, h1, h2, h3⟩ := t
  have out : ∀ a o, H a = some o → (∀ vs, o ≠ .lst vs) → H' a = some o := fun a o e n => s.keep a o e fun m => by
    obtain ⟨vs, e2⟩ := hl a m
    rw [e] at e2
    exact n vs (Option.some.inj e2)
  refine ⟨ps, out _ _ h1 (fun vs z => by cases z), h2, fun pos cv hc => ?_⟩
  obtain ⟨c, e1, e2⟩ := h3 pos cv hc
  exact ⟨c, e1, out _ _ e2 fun vs z => by
    unfold LamX.CodeO at z
    cases z⟩
theorem Stp.kpT {K : PySem.W.Frag} {S : List Addr} (s : Stp L H Z H' Z') (hl : ∀ a ∈ L, ((∃ vs, H a = some (.lst vs)) ∧ ¬ Z a) ∨ ∃ ps, H a = some (.tbl ps)) (hd : ∀ a ∈ S, a ∉ L) : Kp S K H Z H' Z' where
  tk := fun a vs h => h.to (fun h => s.keep a _ h fun m => by rcases hl a m with ⟨⟨ws, e⟩, _⟩ | ⟨ws, e⟩ <;> (rw [h] at e; cases e)) fun ob u h => s.keep a _ h fun m => by rcases hl a m with ⟨⟨ws, e⟩, _⟩ | ⟨ws, e⟩ <;> (rw [h] at e; cases e)
  lk := fun a vs h => ⟨s.zm a h.1, s.keep a _ h.2 fun m => by
    rcases hl a m with ⟨_, e⟩ | ⟨ws, e⟩
    · exact e h.1
    · rw [h.2] at e; cases e⟩
  sk := fun a vs m h => s.keep a _ h (hd a m)
end

/-- what a body is entered with: K; the heap and the frozen ahead of it, what it was lent (L0: the addresses, P: the slots, σ0: the slots' values) -/
structure Base where
  K : PySem.W.Frag
  H0 : Hp
  Z0 : Addr → Prop
  L0 : List Addr
  P : List Nat
  σ0 : L2.St
/-- slots from 1000 on stand for the tables of code objects of defs with lambdas -/
def tbNm : Nat → Option Str
  | 1000 => some "law"
  | _ => none
def tbOf (K : PySem.W.Frag) (P : List Nat) : List (Addr × Str) := P.filterMap fun i => (tbNm i).map fun x => ((He.cT K (x, none)).2, x ++ ".<locals>." ++ "<lambda>")
theorem tbOf_mono {K : PySem.W.Frag} {P P' : List Nat} (h : ∀ i ∈ P, i ∈ P') : ∀ p ∈ tbOf K P, p ∈ tbOf K P' := fun p m => by
  obtain ⟨i, hi, e⟩ := List.mem_filterMap.mp m
  exact List.mem_filterMap.mpr ⟨i, h i hi, e⟩
abbrev Base.T0 (B : Base) : List (Addr × Str) := tbOf B.K B.P
structure Wx (B : Base) (H : Hp) (σ : L2.St) (δ : DE) (T : List V) (τ : List OV) (Z : Addr → Prop) (f g : List Addr) : Prop where
  s : OwS B.K H Z σ δ f
  t : OwL B.K H Z T τ g
  ok : Ok H Z (f ++ g)
  st : Stp B.L0 B.H0 B.Z0 H Z
  fr : ∀ a ∈ f ++ g, a ∈ B.L0 ∨ B.H0 a = none
  pr : ∀ i ∈ B.P, σ[i]? = B.σ0[i]?
  tq : ∀ p ∈ B.T0, p.1 ∈ B.L0 ∧ LamX.TabS H p.1 p.2
def Wd (B : Base) (H : Hp) (σ : L2.St) (δ : DE) (T : List V) (τ : List OV) : Prop := ∃ Z f g, Wx B H σ δ T τ Z f g
section
variable {B : Base} {H H' : Hp} {σ σ' : L2.St} {δ δ' : DE} {T T' : List V} {τ τ' : List OV} {Z Z' : Addr → Prop} {f g f' g' : List Addr} {v : V} {o : OV}
theorem Wx.lsts (w : Wx B H σ δ T τ Z f g) : ∀ a ∈ f ++ g, ∃ vs, H a = some (.lst vs) := fun a m => (List.mem_append.mp m).elim (w.s.lsts a) (w.t.lsts a)
/-- the general step -/
theorem Wx.to (w : Wx B H σ δ T τ Z f g) (s : OwS B.K H' Z' σ' δ' f') (t : OwL B.K H' Z' T' τ' g') (ok : Ok H' Z' (f' ++ g')) (st : Stp (f ++ g) H Z H' Z') (sub : ∀ a ∈ f' ++ g', a ∈ f ++ g ∨ H a = none)
    (pr : ∀ i ∈ B.P, σ'[i]? = σ[i]?) : Wd B H' σ' δ' T' τ' := by
  refine ⟨Z', f', g', s, t, ok, w.st.trans st w.fr, fun a m => ?_, fun i m => (pr i m).trans (w.pr i m), fun p m => ⟨(w.tq p m).1, st.tab w.lsts (w.tq p m).2⟩⟩
  rcases sub a m with q | q
  · exact w.fr a q
  · cases e : B.H0 a with
    | none => exact .inr rfl
    | some o =>
      refine .inl (Classical.byContradiction fun n => ?_)
      rw [w.st.keep a o e n] at q
      cases q
theorem Wd.ex (w : Wd B H σ δ T τ) (e : Ex H H') : Wd B H' σ δ T τ := by
  obtain ⟨Z, f, g, w⟩ := w
  have k : Kp (f ++ g) B.K H Z H' Z := ⟨fun _ _ => e.sqT, fun _ _ => e.ls fun _ z => z, fun a vs _ h => e a _ h⟩
  refine w.to (w.s.keep (k.mono fun _ m => List.mem_append_left _ m)) (w.t.keep (k.mono fun _ m => List.mem_append_right _ m)) ⟨w.ok.nd, w.ok.nz, fun a z q => ?_⟩ (.of_ex e) (fun _ m => .inl m) fun _ _ => rfl
  exact w.ok.zd a z (e.free q)
/-- a value without lists on top -/
theorem Wd.push {d : D} (w : Wd B H σ δ T τ) (h : Dr B.K H v d) (n : nol d = true) : Wd B H σ δ (v :: T) (.im d :: τ) := by
  obtain ⟨Z, f, g, w⟩ := w
  exact ⟨Z, f, g, w.s, OwL.cons (f := []) (.im (h.nol (fun _ _ x => x) n)) w.t, w.ok, w.st, w.fr, w.pr, w.tq⟩
theorem Wd.drop (w : Wd B H σ δ (v :: T) (o :: τ)) : Wd B H σ δ T τ := by
  obtain ⟨Z, f, g, w⟩ := w
  cases w.t with
  | cons a b =>
    rename_i f1 g1
    have hm : ∀ x ∈ f ++ g1, x ∈ f ++ (f1 ++ g1) := fun x m => (List.mem_append.mp m).elim (fun m => List.mem_append_left _ m) fun m => List.mem_append_right _ (List.mem_append_right _ m)
    refine ⟨Z, f, g1, w.s, b, ⟨?_, fun a m => w.ok.nz a (hm a m), w.ok.zd⟩, w.st, fun a m => w.fr a (hm a m), w.pr, w.tq⟩
    exact w.ok.nd.sublist (List.Sublist.append_left (List.sublist_append_right _ _) f)
theorem Wd.drops : ∀ {vs : List V} {os : List OV}, vs.length = os.length → Wd B H σ δ (vs ++ T) (os ++ τ) → Wd B H σ δ T τ
  | [], [], _, w => w
  | v :: vs, o :: os, e, w => Wd.drops (by simpa using e) w.drop
theorem Wd.dropAll (w : Wd B H σ δ T τ) : Wd B H σ δ [] [] := by
  obtain ⟨Z, f, g, w⟩ := w
  have hm : ∀ x ∈ f ++ [], x ∈ f ++ g := fun x m => List.mem_append_left _ (by simpa using m)
  refine ⟨Z, f, [], w.s, .nil, ⟨?_, fun a m => w.ok.nz a (hm a m), w.ok.zd⟩, w.st, fun a m => w.fr a (hm a m), w.pr, w.tq⟩
  exact w.ok.nd.sublist (List.Sublist.append_left (List.nil_sublist _) f)
/-- what may be read of the names -/
structure RdS (K : PySem.W.Frag) (H : Hp) (Z : Addr → Prop) (σ : L2.St) (δ : DE) : Prop where
  len : σ.length = δ.length
  get : ∀ i o, dget δ i = some o → ∃ v, σ[i]? = some (some v) ∧ Df K H Z v o.fz
theorem OwS.rd {K : PySem.W.Frag} : ∀ {σ : L2.St} {δ : DE} {f : List Addr}, OwS K H Z σ δ f → ∀ i o, dget δ i = some o → ∃ v, σ[i]? = some (some v) ∧ Dr K H v o.fz
  | _, _, _, .nil, _, _, e => by cases e
  | _, _, _, .free h, 0, o, e => by cases e
  | _, _, _, .free h, i + 1, o, e => by simpa using h.rd i o e
  | _, _, _, .val a h, 0, o, e => by
    cases (show some _ = some o from e)
    exact ⟨_, rfl, a.read⟩
  | _, _, _, .val a h, i + 1, o, e => by simpa using h.rd i o e
theorem Wd.rd (w : Wd B H σ δ T τ) : RdS B.K H AllZ σ δ := by
  obtain ⟨Z, f, g, w⟩ := w
  exact ⟨w.s.length, w.s.rd⟩
theorem RdS.ex {K : PySem.W.Frag} (r : RdS K H Z σ δ) (e : Ex H H') (hz : ∀ a, Z a → Z' a := by exact fun _ z => z) : RdS K H' Z' σ δ := ⟨r.len, fun i o h => by
  obtain ⟨v, h1, h2⟩ := r.get i o h
  exact ⟨v, h1, h2.keep (fun _ _ => e.sqT) fun _ _ => e.ls hz⟩⟩
end
/-- M: what may be within values; all that is new may -/
def Fm (M : Addr → Prop) (H : Hp) : Prop := ∀ a, H a = none → M a
section
variable {K : PySem.W.Frag} {H H' H1 H2 : Hp} {Z Z' M : Addr → Prop}
theorem Df.mz {v : V} {d : D} (h : Df K H Z v d) (hz : ∀ a, Z a → Z' a) : Df K H Z' v d := h.keep (fun _ _ x => x) fun _ _ => (Ex.refl H).ls hz
theorem DfL.mz {v : List V} {d : List D} (h : DfL K H Z v d) (hz : ∀ a, Z a → Z' a) : DfL K H Z' v d := h.keep (fun _ _ x => x) fun _ _ => (Ex.refl H).ls hz
theorem Fm.ex (m : Fm M H) (e : Ex H H') : Fm M H' := fun a h => m a (e.free h)
theorem fm_all : Fm AllZ H := fun _ _ => trivial
end
end DL
/-! Tuples that surely have no dict: displays, +, slices, tuple(..). -/
namespace DL
open PySem PySem.Spec PyProof.Rows L2
/-- the tuple's object as it is made -/
abbrev tupO (its : List Value) : Obj := { cls := .type "tuple", data := .seq its.toArray }
theorem laidZ {X : Cx} {pins : List (Addr × Obj)} {σ : L2.St} {H : Hp} {s : Shared} {xs : List V} {its : List Value} (I : Inv X pins σ H s) (r : Vals xs its) (hz : xs.length ≤ sizeLine) :
    Inv X pins σ (upd H s.heap.objs.size (.frz (tupO its) (.tup xs))) { s with heap := s.heap.push (tupO its) } :=
  I.laid (t' := s.toks) (fun b u e => Heap.get?_push_of_some _ e) (Nat.le_refl _) ⟨Heap.get?_push_size _ rfl, hz, its, r, IsTup.new _ _⟩
def Nz (H : Hp) (xs : List V) (Q : VK) : Prop := ∀ p ob, H p = none → Pln ob → Q (.ref p) (upd H p (.frz ob (.tup xs)))
theorem nzP {X : Cx} {pins : List (Addr × Obj)} {σ : L2.St} {H : Hp} {s : Shared} {xs : List V} {its : List Value} {Q : VK} (I : Inv X pins σ H s) (r : Vals xs its) (hz : xs.length ≤ sizeLine) (q : Nz H xs Q) :
    EP X pins σ Q (.ref s.heap.objs.size) { s with heap := s.heap.push (tupO its) } := ⟨.ref s.heap.objs.size, _, laidZ I r hz, rfl, q _ _ (I.hok.fresh (Nat.le_refl _)) ⟨rfl, rfl⟩⟩
def tTupZ (t : TA) : TE := fun σ H Q => t σ H fun xs H1 => xs.length ≤ sizeLine ∧ Nz H1 xs Q
theorem pe_tupZ {X : Cx} {es : List Expr} {t : TA} {j : Nat} {pos : Pos} (h : PA X es t) : PE X (.Tuple es j pos) (tTupZ t) :=
  ⟨fun pins s σ H Q I hq => wpAny_Tuple_spliced (thn (h.run pos pins s σ H _ I hq) fun us s1 ⟨xs, H1, I1, r, z, q⟩ => ⟨by rw [← r.length]; exact z, nzP I1 r z q⟩)⟩
/-- t + u -/
def rCatZ (K : PySem.W.Frag) : L2.R2 := fun x y H Q => ∃ a b xs ys, x = .ref a ∧ y = .ref b ∧ SqT K H a xs ∧ SqT K H b ys ∧ xs.length + ys.length ≤ sizeLine ∧ (xs = [] → Q (.ref b) H) ∧ (ys = [] → Q (.ref a) H) ∧ Nz H (xs ++ ys) Q
theorem op_catZ {X : Cx} : OpR X (binaryOp .Add) (rCatZ X.K) := by
  intro pins s σ H x y v u Q I rx ry h
  obtain ⟨a, b, xs, ys, rfl, rfl, ha, hb, hz, q0, q1, q2⟩ := h
  cases rx
  cases ry
  obtain ⟨its, r1, p1, _⟩ := I.tuple ha
  obtain ⟨its2, r2, p2, _⟩ := I.tuple hb
  by_cases hx : xs = []
  · subst hx
    cases r1
    exact cat_tup0 p1 p2 ⟨.ref b, H, I, rfl, q0 rfl⟩
  · exact HT.cat_tup p1 p2 (fun z => hx (r1.nil_iff.mp z)) (fun z => ⟨.ref a, H, I, rfl, q1 (r2.nil_iff.mp z)⟩) (fun z => nzP I (r1.append r2) (by rw [List.length_append]; exact hz) q2) (by rw [← r1.length, ← r2.length]; exact hz)
/-- t[lo:hi] -/
def rSlZ (K : PySem.W.Frag) : V → Option Int → Option Int → Hp → VK → Prop := fun x lo hi H Q => ∃ a xs, x = .ref a ∧ SqT K H a xs ∧
  (HT.sIx xs.length 0 lo = 0 ∧ HT.sIx xs.length xs.length hi = xs.length → Q (.ref a) H) ∧ Nz H (cutV xs lo hi) Q
theorem sl_tupZ {X : Cx} : SlR X (rSlZ X.K) := by
  intro pins s σ H x v vl vu lo hi sl Q I rx hs pl pu h
  obtain ⟨a, xs, rfl, hx, q1, q2⟩ := h
  cases rx
  obtain ⟨its, r, ht, hz⟩ := I.tuple hx
  have hlen : its.toArray.size = xs.length := by rw [List.size_toArray]; exact r.length.symm
  refine ⟨"tuple", _, PyProof.Rows.slot_tuple_getitem.lookup, ht.typeIs, ?_⟩
  by_cases hw : HT.sIx xs.length 0 lo = 0 ∧ HT.sIx xs.length xs.length hi = xs.length
  · exact getItem_tuple_whole ht hs pl pu (by rw [hlen]; exact hw) ⟨.ref a, H, I, rfl, q1 hw⟩
  · refine HT.getItem_tuple_cut ht hs pl pu (by rw [hlen]; exact hw) ?_ (by rw [hlen]; exact hz)
    rw [hlen]
    exact nzP I ((r.drop (HT.sIx xs.length 0 lo)).take (HT.sIx xs.length xs.length hi - HT.sIx xs.length 0 lo)) (Nat.le_trans (cutV_length xs lo hi) hz) q2
/-- tuple(x) -/
def rTupZ (K : PySem.W.Frag) : List V → Hp → VK → Prop := fun xs H Q => ∃ p ys, xs = [.ref p] ∧ ((SqL K H p ys ∧ Nz H ys Q) ∨ (SqT K H p ys ∧ Q (.ref p) H))
theorem call_tupZ {X : Cx} : CallR X (.type "tuple") (rTupZ X.K) := by
  intro pins s σ H xs us Q I r h
  obtain ⟨p, ys, rfl, h⟩ := h
  obtain ⟨u, rfl, rx⟩ := Vals.one r
  cases rx
  rcases h with ⟨hq, q⟩ | ⟨hq, q⟩
  · obtain ⟨its, r', pl, hz⟩ := I.list hq
    have hlen := r'.length
    refine call_tuple_list pl.isList (fun h' kp => ?_) (by simp only [List.size_toArray] <;> omega)
    exact nzP (s := { s with heap := h' }) (I.kept (t' := s.toks) kp) r' hz q
  · obtain ⟨its, r', pl, hz⟩ := I.tuple hq
    exact call_tuple_same pl ⟨.ref p, H, I, rfl, q⟩
/-- l.extend(t) -/
def rExtT (K : PySem.W.Frag) : V → List V → Hp → VK → Prop := fun x vs H Q => ∃ l b xs zs, x = .ref l ∧ vs = [.ref b] ∧ H l = some (.lst xs) ∧ TuA K H (some true) b zs ∧ xs.length + zs.length ≤ sizeLine ∧ Q .non (upd H l (.lst (xs ++ zs)))
theorem tuA_obj {X : Cx} {pins : List (Addr × Obj)} {σ : L2.St} {H : Hp} {s : Shared} {b : Addr} {zs : List V} (I : Inv X pins σ H s) (h : TuA X.K H (some true) b zs) : ∃ (its : List Value) (n : Nat), Vals zs its ∧ s.heap.get? b = some { cls := .type "tuple", dict := none, data := .seq its.toArray n, slots := #[] } := by
  obtain ⟨its, r, ⟨o, ho, hc, n, hd⟩, hz⟩ := I.tuple h.q
  have pl : Pln o := by
    rcases h with ⟨ob, h, hp⟩ | ⟨o2, its2, n2, h1, h2, h3, _⟩
    · have e := (I.hok b _ h).1
      rw [ho] at e
      cases e
      exact hp
    · have e := I.kIn _ _ h1
      rw [ho] at e
      cases e
      exact h3
  obtain ⟨cls, dd, dt, sl⟩ := o
  obtain ⟨p1, p2⟩ := pl
  simp only at hc hd p1 p2
  subst hc hd p1 p2
  exact ⟨its, n, r, ho⟩
theorem mt_extT {X : Cx} : MtR X "list.extend" (rExtT X.K) := by
  intro pins s σ H x vs v us Q I rx rv h
  obtain ⟨l, b, xs, zs, rfl, rfl, hH, hB, hz, q⟩ := h
  cases rx
  obtain ⟨u, rfl, ru⟩ := Vals.one rv
  cases ru
  obtain ⟨z, its, n, r, hl, e⟩ := I.lstM hH
  obtain ⟨its2, n2, r2, e2⟩ := tuA_obj I hB
  have hl2 := r2.length
  have hsz : its.toArray.size + its2.toArray.size ≤ sizeLine := by rw [List.size_toArray, List.size_toArray]; omega
  refine call_meets F.slot_list_extend ⟨_, e, rfl⟩ F.entry_list_extend (F.args_list_extend_2 _ _)
    (AutoSeq1.list_extend_list_tuple_0 l its.toArray n b its2.toArray n2 (by rw [notLongL hsz, Bool.and_false]; exact Bool.false_ne_true) (by rw [List.size_toArray]; omega) (by omega)) ⟨e, e2, ?_⟩
  refine ⟨.non, _, I.lset (its' := its ++ its2) hH e (by simp) (r.append r2) ?_, rfl, q⟩
  rw [List.length_append]
  omega
def rExtA (K : PySem.W.Frag) : V → List V → Hp → VK → Prop := fun x vs H Q => rExtend x vs H Q ∨ rExtT K x vs H Q
theorem mt_extA {X : Cx} : MtR X "list.extend" (rExtA X.K) := MtR.or (r := rExtend) mt_extend mt_extT
end DL
/-! The data layer's soundness, 2: pure expressions, operators. -/
namespace DL
open PySem

theorem line_eq : line = sizeLine := by rw [sizeLine_eq]
theorem le_line {n : Nat} (h : n ≤ line) : n ≤ sizeLine := by rw [← line_eq]; exact h
theorem lt_line {n : Nat} (h : n < line) : n < sizeLine := by rw [← line_eq]; exact h

/-! ### exceptions -/
abbrev WX := L2.WX
abbrev W0 : WX := fun _ _ _ _ => False
def XF (K : PySem.W.Frag) (H : Hp) (dd : Option Addr) (fs : List (Str × D)) : Prop :=
  fs = [] ∨ ∃ (d : Addr) (vs : List V), dd = some d ∧ H d = some (.xd ((fs.map (·.1)).zip vs)) ∧ DrL K H vs (fs.map (·.2))
def XR (K : PySem.W.Frag) (H : Hp) (cls : Value) (dd : Option Addr) (x : Xc) : Prop := cls = .ref (He.ga K x.cls) ∧ XF K H dd x.fs

/-! ### judgements -/
def SndP (K : PySem.W.Frag) (W : WX) (te : L2.TE) (p : PX) : Prop :=
  ∀ (σ : L2.St) (δ : DE) (H : Hp) (M : Addr → Prop), Fm M H → RdS K H M σ δ → ∀ (Qd : D → Prop) (Xd : Xc → Prop), p δ Qd Xd → ∀ Q : L2.VK,
    (∀ v d H', Qd d → Ex H H' → Df K H' M v d → Q v H') → (∀ x cls dd H', Xd x → Ex H H' → XR K H' cls dd x → W cls dd σ H') → te σ H Q
def SndPA (K : PySem.W.Frag) (W : WX) (ta : L2.TA) (p : PAx) : Prop :=
  ∀ (σ : L2.St) (δ : DE) (H : Hp) (M : Addr → Prop), Fm M H → RdS K H M σ δ → ∀ (Qd : List D → Prop) (Xd : Xc → Prop), p δ Qd Xd → ∀ Q : List V → Hp → Prop,
    (∀ v d H', Qd d → Ex H H' → DfL K H' M v d → Q v H') → (∀ x cls dd H', Xd x → Ex H H' → XR K H' cls dd x → W cls dd σ H') → ta σ H Q
def SndPT (K : PySem.W.Frag) (W : WX) (tt : L2.TT) (p : PT) : Prop :=
  ∀ (σ : L2.St) (δ : DE) (H : Hp) (M : Addr → Prop), Fm M H → RdS K H M σ δ → ∀ (Qd : Bool → Prop) (Xd : Xc → Prop), p δ Qd Xd → ∀ Q : Bool → Hp → Prop,
    (∀ b H', Qd b → Ex H H' → Q b H') → (∀ x cls dd H', Xd x → Ex H H' → XR K H' cls dd x → W cls dd σ H') → tt σ H Q
def SndPO (K : PySem.W.Frag) (W : WX) (tt : L2.TO) (p : PO) : Prop :=
  ∀ (σ : L2.St) (δ : DE) (H : Hp) (M : Addr → Prop), Fm M H → RdS K H M σ δ → ∀ (Qd : Option Int → Prop) (Xd : Xc → Prop), p δ Qd Xd → ∀ Q : Option Int → Hp → Prop,
    (∀ b H', Qd b → Ex H H' → Q b H') → (∀ x cls dd H', Xd x → Ex H H' → XR K H' cls dd x → W cls dd σ H') → tt σ H Q
def OpS (K : PySem.W.Frag) (r : L2.R2) (op : R2) : Prop :=
  ∀ (x y : V) (d e : D) (H : Hp) (M : Addr → Prop) (Qd : D → Prop), Fm M H → Df K H M x d → Df K H M y e → op d e Qd → ∀ Q : L2.VK, (∀ v z H', Qd z → Ex H H' → Df K H' M v z → Q v H') → r x y H Q
def UnS (K : PySem.W.Frag) (r : V → Hp → L2.VK → Prop) (op : R1) : Prop :=
  ∀ (x : V) (d : D) (H : Hp) (M : Addr → Prop) (Qd : D → Prop), Fm M H → Df K H M x d → op d Qd → ∀ Q : L2.VK, (∀ v z H', Qd z → Ex H H' → Df K H' M v z → Q v H') → r x H Q
def CbS (K : PySem.W.Frag) (r : List V → Hp → L2.VK → Prop) (op : RL) : Prop :=
  ∀ (xs : List V) (ds : List D) (H : Hp) (M : Addr → Prop) (Qd : D → Prop), Fm M H → DfL K H M xs ds → op ds Qd → ∀ Q : L2.VK, (∀ v z H', Qd z → Ex H H' → Df K H' M v z → Q v H') → r xs H Q

section
variable {K : PySem.W.Frag} {W : WX} {ta tb tc te : L2.TE} {a b c p : PX} {tt tu : L2.TT} {t u : PT}
theorem sp_var (i : Nat) : SndP K W (L2.tVar i) (pVar i) := fun σ δ H M hM r Qd Xd h Q q _ => by
  unfold pVar at h
  split at h
  · rename_i o e
    obtain ⟨v, h1, h2⟩ := r.get i o e
    exact ⟨v, h1, q v _ H h (.refl H) h2⟩
  · exact h.elim
theorem sp_c {v : V} {d : D} (h : ∀ H M, Df K H M v d) : SndP K W (L2.tC v) (pC d) := fun σ δ H M hM r Qd Xd hq Q q _ => q v d H hq (.refl H) (h H M)
theorem sp_int {i : Int} : SndP K W (L2.tC (.int i)) (pC (.int i)) := sp_c fun _ _ => .int i
theorem sp_bl {i : Bool} : SndP K W (L2.tC (.bl i)) (pC (.bl i)) := sp_c fun _ _ => .bl i
theorem sp_str {i : Str} : SndP K W (L2.tC (.str i)) (pC (.str i)) := sp_c fun _ _ => .str i
theorem sp_non : SndP K W (L2.tC .non) (pC .non) := sp_c fun _ _ => .non
theorem sp_fn {i : Addr} : SndP K W (L2.tC (.ref i)) (pC (.fn i)) := sp_c fun _ _ => .fn i
theorem sp_op {r : L2.R2} {op : R2} (ho : OpS K r op) (ha : SndP K W ta a) (hb : SndP K W tb b) : SndP K W (L2.tOp r ta tb) (pOp op a b) := fun σ δ H M hM rd Qd Xd h Q q x =>
  ha σ δ H M hM rd _ Xd h _ (fun v d H1 h1 e1 r1 => hb σ δ H1 M (hM.ex e1) (rd.ex e1) _ Xd h1 _ (fun w e H2 h2 e2 r2 => ho v w d e H2 M Qd (hM.ex (e1.trans e2)) (r1.ex e2) r2 h2 Q fun z f H3 h3 e3 r3 => q z f H3 h3 ((e1.trans e2).trans e3) r3)
    fun y cls dd H' hx e' => x y cls dd H' hx (e1.trans e')) x
theorem sp_un {r : V → Hp → L2.VK → Prop} {op : R1} (ho : UnS K r op) (ha : SndP K W ta a) : SndP K W (L2.tUn r ta) (pUn op a) := fun σ δ H M hM rd Qd Xd h Q q x =>
  ha σ δ H M hM rd _ Xd h _ (fun v d H1 h1 e1 r1 => ho v d H1 M Qd (hM.ex e1) r1 h1 Q fun z f H3 h3 e3 r3 => q z f H3 h3 (e1.trans e3) r3) x
theorem spa_nil : SndPA K W L2.tNil paNil := fun σ δ H M hM r Qd Xd hq Q q _ => q [] [] H hq (.refl H) .nil
theorem spa_cons {tr : L2.TA} {r : PAx} (ha : SndP K W ta a) (hr : SndPA K W tr r) : SndPA K W (L2.tCons ta tr) (paCons a r) := fun σ δ H M hM rd Qd Xd h Q q x =>
  ha σ δ H M hM rd _ Xd h _ (fun v d H1 h1 e1 r1 => hr σ δ H1 M (hM.ex e1) (rd.ex e1) _ Xd h1 _ (fun w e H2 h2 e2 r2 => q (v :: w) (d :: e) H2 h2 (e1.trans e2) (.cons (r1.ex e2) r2))
    fun y cls dd H' hx e' => x y cls dd H' hx (e1.trans e')) x
theorem sp_tup {tr : L2.TA} {r : PAx} (hr : SndPA K W tr r) : SndP K W (tTupZ tr) (pTup r) := fun σ δ H M hM rd Qd Xd h Q q x =>
  hr σ δ H M hM rd _ Xd h _ (fun vs ds H1 h1 e1 r1 => ⟨by rw [r1.length]; exact le_line h1.1, fun p ob hp hd => q _ _ _ h1.2 (e1.trans (.new hp)) (.tup (.new hd) (r1.ex (.new hp)))⟩) x
theorem sp_lst {tr : L2.TA} {r : PAx} (hr : SndPA K W tr r) : SndP K W (L2.tLst tr) (pLst r) := fun σ δ H M hM rd Qd Xd h Q q x =>
  hr σ δ H M hM rd _ Xd h _ (fun vs ds H1 h1 e1 r1 => ⟨by rw [r1.length]; exact le_line h1.1, fun p hp => q _ _ _ h1.2 (e1.trans (.new hp)) (.lst ⟨hM.ex e1 p hp, L2.upd_same⟩ (r1.ex (.new hp)))⟩) x
/-! ### tests -/
theorem spt_B (ha : SndP K W ta a) : SndPT K W (L2.tB ta) (tB a) := fun σ δ H M hM rd Qd Xd h Q q x =>
  ha σ δ H M hM rd _ Xd h _ (fun v d H1 h1 e1 r1 => by
    cases r1 <;> first | exact h1.elim | exact ⟨_, rfl, q _ H1 h1 e1⟩) x
theorem spt_test (ha : SndP K W ta a) : SndPT K W (L2.tTest ta) (tB a) := fun σ δ H M hM rd Qd Xd h Q q x =>
  ha σ δ H M hM rd _ Xd h _ (fun v d H1 h1 e1 r1 => by
    cases r1 <;> first | exact h1.elim | exact ⟨_, rfl, q _ H1 h1 e1⟩) x
theorem truV_of {v : V} {d : D} {H : Hp} {Z : Addr → Prop} {b : Bool} (r : Df K H Z v d) (hs : strSz d) (h : truth d = some b) : L2.TruV K v H b := by
  cases r with
  | non => exact (Option.some.inj h).symm
  | bl c => exact (Option.some.inj h).symm
  | int i => exact (Option.some.inj h).symm
  | str y =>
    refine ⟨le_line hs, ?_⟩
    have e : (y.length != 0) = b := Option.some.inj h
    rw [← e]
    by_cases z : y.length = 0
    · rw [z]; rfl
    · have z' : ¬ (y.length : Int) = 0 := by omega
      rw [show (y.length != 0) = true from bne_iff_ne.mpr z, show (((y.length : Nat) : Int) != 0) = true from bne_iff_ne.mpr z']
  | fn a => cases h
  | ty n => cases h
  | pr _ _ => cases h
  | scr _ _ => cases h
  | tup hq hr =>
    refine .inr (.inl ⟨_, hq.q, ?_⟩)
    rw [← Option.some.inj h]
    cases hr <;> rfl
  | lst hq hr =>
    refine .inl ⟨_, hq.sq, ?_⟩
    rw [← Option.some.inj h]
    cases hr <;> rfl
def tTruth (K : PySem.W.Frag) (ta : L2.TE) : L2.TT := fun σ H Q => ta σ H fun x H' => ∃ k, L2.TruV K x H' k ∧ Q k H'
theorem spt_tru (ha : SndP K W ta a) : SndPT K W (tTruth K ta) (tTru a) := fun σ δ H M hM rd Qd Xd h Q q x =>
  ha σ δ H M hM rd _ Xd h _ (fun v d H1 h1 e1 r1 => by
    obtain ⟨hs, h1⟩ := h1
    split at h1
    · rename_i b e
      exact ⟨b, truV_of r1 hs e, q _ H1 h1 e1⟩
    · exact h1.elim) x
theorem spt_and (h1 : SndPT K W tt t) (h2 : SndPT K W tu u) : SndPT K W (L2.tAnd tt tu) (tAndP t u) := fun σ δ H M hM rd Qd Xd h Q q x =>
  h1 σ δ H M hM rd _ Xd h _ (fun b H1 hb e1 => by
    cases b with
    | true =>
      show tu σ H1 Q
      exact h2 σ δ H1 M (hM.ex e1) (rd.ex e1) Qd Xd hb Q (fun c H2 hc e2 => q c H2 hc (e1.trans e2)) fun y cls dd H' hx e' => x y cls dd H' hx (e1.trans e')
    | false => exact q false H1 hb e1) x
theorem spt_or (h1 : SndPT K W tt t) (h2 : SndPT K W tu u) : SndPT K W (L2.tOr tt tu) (tOrP t u) := fun σ δ H M hM rd Qd Xd h Q q x =>
  h1 σ δ H M hM rd _ Xd h _ (fun b H1 hb e1 => by
    cases b with
    | true => exact q true H1 hb e1
    | false =>
      show tu σ H1 Q
      exact h2 σ δ H1 M (hM.ex e1) (rd.ex e1) Qd Xd hb Q (fun c H2 hc e2 => q c H2 hc (e1.trans e2)) fun y cls dd H' hx e' => x y cls dd H' hx (e1.trans e')) x
theorem spt_not (h1 : SndPT K W tt t) : SndPT K W (L2.tNot tt) (tNotP t) := fun σ δ H M hM rd Qd Xd h Q q x =>
  h1 σ δ H M hM rd _ Xd h _ (fun b H1 hb e1 => q _ H1 hb e1) x
theorem sp_andV (h1 : SndP K W ta a) (h2 : SndP K W tb b) : SndP K W (L2.tAndV ta tb) (pAndV a b) := fun σ δ H M hM rd Qd Xd h Q q x =>
  h1 σ δ H M hM rd _ Xd h _ (fun v d H1 hd e1 r1 => by
    cases r1 with
    | bl k =>
      cases k with
      | true => exact ⟨true, rfl, h2 σ δ H1 M (hM.ex e1) (rd.ex e1) Qd Xd hd Q (fun w f H2 hc e2 r2 => q w f H2 hc (e1.trans e2) r2) fun y cls dd H' hx e' => x y cls dd H' hx (e1.trans e')⟩
      | false => exact ⟨false, rfl, q _ _ H1 hd e1 (.bl false)⟩
    | _ => exact hd.elim) x
theorem sp_orV (h1 : SndP K W ta a) (h2 : SndP K W tb b) : SndP K W (L2.tOrV ta tb) (pOrV a b) := fun σ δ H M hM rd Qd Xd h Q q x =>
  h1 σ δ H M hM rd _ Xd h _ (fun v d H1 hd e1 r1 => by
    cases r1 with
    | bl k =>
      cases k with
      | false => exact ⟨false, rfl, h2 σ δ H1 M (hM.ex e1) (rd.ex e1) Qd Xd hd Q (fun w f H2 hc e2 r2 => q w f H2 hc (e1.trans e2) r2) fun y cls dd H' hx e' => x y cls dd H' hx (e1.trans e')⟩
      | true => exact ⟨true, rfl, q _ _ H1 hd e1 (.bl true)⟩
    | _ => exact hd.elim) x
theorem sp_notV (h1 : SndP K W ta a) : SndP K W (L2.tNotV ta) (pNotV a) := fun σ δ H M hM rd Qd Xd h Q q x =>
  h1 σ δ H M hM rd _ Xd h _ (fun v d H1 hd e1 r1 => by
    cases r1 with
    | bl k => exact ⟨k, rfl, q _ _ H1 hd e1 (.bl _)⟩
    | _ => exact hd.elim) x
theorem sp_if (h : SndPT K W tt t) (h1 : SndP K W ta a) (h2 : SndP K W tb b) : SndP K W (L2.tIf tt ta tb) (pIf t a b) := fun σ δ H M hM rd Qd Xd hh Q q x =>
  h σ δ H M hM rd _ Xd hh _ (fun k H1 hd e1 => by
    cases k with
    | true =>
      show ta σ H1 Q
      exact h1 σ δ H1 M (hM.ex e1) (rd.ex e1) Qd Xd hd Q (fun w f H2 hc e2 r2 => q w f H2 hc (e1.trans e2) r2) fun y cls dd H' hx e' => x y cls dd H' hx (e1.trans e')
    | false =>
      show tb σ H1 Q
      exact h2 σ δ H1 M (hM.ex e1) (rd.ex e1) Qd Xd hd Q (fun w f H2 hc e2 r2 => q w f H2 hc (e1.trans e2) r2) fun y cls dd H' hx e' => x y cls dd H' hx (e1.trans e')) x
/-! ### slices -/
theorem spo_none : SndPO K W L2.tNoPart poNone := fun σ δ H M hM r Qd Xd hq Q q _ => q none H hq (.refl H)
theorem spo_some (ha : SndP K W ta a) : SndPO K W (L2.tPart ta) (poSome a) := fun σ δ H M hM rd Qd Xd h Q q x =>
  ha σ δ H M hM rd _ Xd h _ (fun v d H1 h1 e1 r1 => by
    cases r1 <;> first | exact h1.elim | exact ⟨_, rfl, q _ H1 h1 e1⟩) x
theorem sIx_eq (n d : Nat) (o : Option Int) : HT.sIx n d o = sIxD n d o := rfl
theorem cut_eq (xs : List V) (lo hi : Option Int) : L2.cutV xs lo hi = cutD xs lo hi := rfl
theorem DfL.cut {H : Hp} {Z : Addr → Prop} {vs : List V} {ds : List D} (h : DfL K H Z vs ds) (lo hi : Option Int) : DfL K H Z (cutD vs lo hi) (cutD ds lo hi) := by
  unfold cutD
  rw [h.length]
  exact (h.drop _).take _
theorem cut_whole {α : Type} {xs : List α} {lo hi : Option Int} (h : sIxD xs.length 0 lo = 0 ∧ sIxD xs.length xs.length hi = xs.length) : cutD xs lo hi = xs := by
  unfold cutD
  rw [h.1, h.2]
  simp
/-- slices by values -/
def rSlAll (K : PySem.W.Frag) : V → Option Int → Option Int → Hp → L2.VK → Prop := fun x lo hi H Q => rSlZ K x lo hi H Q ∨ (L2.rSlL K x lo hi H Q ∨ L2.rSlS x lo hi H Q)
theorem sl_all {X : L2.Cx} : L2.SlR X (rSlAll X.K) := sl_tupZ.or (L2.sl_list.or L2.sl_str)
theorem slS {v : V} {d : D} {lo hi : Option Int} {H : Hp} {M : Addr → Prop} {Qd : D → Prop} (hM : Fm M H) (r : Df K H M v d) (h : opSl d lo hi Qd) {Q : L2.VK} (q : ∀ v z H', Qd z → Ex H H' → Df K H' M v z → Q v H') : rSlAll K v lo hi H Q := by
  cases r with
  | tup hq hr =>
    refine .inl ⟨_, _, rfl, hq.q, fun w => ?_, fun p ob hp hd => ?_⟩
    · refine q _ _ H h (.refl H) (.tup hq ?_)
      have e := hr.length
      simp only [sIx_eq] at w
      rw [cut_whole (by rw [← e]; exact w)]
      exact hr
    · exact q _ _ _ h (.new hp) (.tup (.new hd) ((hr.cut lo hi).ex (.new hp)))
  | lst hq hr =>
    exact .inr (.inl ⟨_, _, rfl, hq.sq, fun p hp => q _ _ _ h (.new hp) (.lst ⟨hM p hp, L2.upd_same⟩ ((hr.cut lo hi).ex (.new hp)))⟩)
  | scr hq hr =>
    exact .inr (.inl ⟨_, _, rfl, hq.l, fun p hp => q _ _ _ h (.new hp) (.lst ⟨hM p hp, L2.upd_same⟩ ((hr.cut lo hi).ex (.new hp)))⟩)
  | str z => exact .inr (.inr ⟨z, rfl, le_line h.1, q _ _ H h.2 (.refl H) (.str _)⟩)
  | _ => exact h.elim
theorem sp_sl {tl th : L2.TO} {lo hi : PO} (ha : SndP K W ta a) (hl : SndPO K W tl lo) (hh : SndPO K W th hi) : SndP K W (L2.tSl (rSlAll K) ta tl th) (pSl a lo hi) := fun σ δ H M hM rd Qd Xd h Q q x =>
  ha σ δ H M hM rd _ Xd h _ (fun v d H1 h1 e1 r1 => hl σ δ H1 M (hM.ex e1) (rd.ex e1) _ Xd h1 _ (fun l H2 h2 e2 => hh σ δ H2 M (hM.ex (e1.trans e2)) (rd.ex (e1.trans e2)) _ Xd h2 _ (fun u H3 h3 e3 => slS (hM.ex ((e1.trans e2).trans e3)) ((r1.ex e2).ex e3) h3 fun w z H4 h4 e4 r4 => q w z H4 h4 (((e1.trans e2).trans e3).trans e4) r4)
    fun y cls dd H' hx e' => x y cls dd H' hx ((e1.trans e2).trans e')) fun y cls dd H' hx e' => x y cls dd H' hx (e1.trans e')) x

/-! ### operators -/
theorem os_or {r r' : L2.R2} {op : R2} (h : ∀ (x y : V) (d e : D) (H : Hp) (M : Addr → Prop) (Qd : D → Prop), Fm M H → Df K H M x d → Df K H M y e → op d e Qd → ∀ Q : L2.VK, (∀ v z H', Qd z → Ex H H' → Df K H' M v z → Q v H') → r x y H Q ∨ r' x y H Q) :
    OpS K (fun x y H Q => r x y H Q ∨ r' x y H Q) op := h
def rStrCat : L2.R2 := fun x y H Q => ∃ i j, x = .str i ∧ y = .str j ∧ i.length + j.length ≤ sizeLine ∧ Q (.str (i ++ j)) H
def rIntBl : L2.R2 := fun x y H Q => ∃ i k, x = .int i ∧ y = .bl k ∧ Q (.int (i + PyProof.Rows.b2i k)) H
def rAddAll (K : PySem.W.Frag) : L2.R2 := fun x y H Q => L2.rI0 (fun i j => .int (i + j)) x y H Q ∨ (rStrCat x y H Q ∨ (rCatZ K x y H Q ∨ (L2.rCat x y H Q ∨ rIntBl x y H Q)))
theorem op_addAll {X : L2.Cx} : L2.OpR X (binaryOp .Add) (rAddAll X.K) := L2.op_add.or (L2.op_add_str.or (op_catZ.or (L2.op_cat.or L2.op_add_ib)))
theorem os_add : OpS K (rAddAll K) opAdd := fun x y d e H M Qd hM r1 r2 h Q q => by
  cases r1 with
  | int i =>
    cases r2 with
    | int j => exact .inl ⟨i, j, rfl, rfl, q _ _ H h (.refl H) (.int _)⟩
    | bl k => exact .inr (.inr (.inr (.inr ⟨i, k, rfl, rfl, q _ _ H h (.refl H) (by cases k <;> exact .int _)⟩)))
    | _ => exact h.elim
  | str a =>
    cases r2 with
    | str b => exact .inr (.inl ⟨a, b, rfl, rfl, le_line h.1, q _ _ H h.2 (.refl H) (.str _)⟩)
    | _ => exact h.elim
  | tup h1 s1 =>
    cases r2 with
    | tup h2 s2 =>
      refine .inr (.inr (.inl ⟨_, _, _, _, rfl, rfl, h1.q, h2.q, by rw [s1.length, s2.length]; exact le_line h.1.2.2, fun e0 => ?_, fun e0 => ?_, fun p ob hp hd => ?_⟩))
      · subst e0
        cases s1
        exact q _ _ H h.2 (.refl H) (.tup h2 s2)
      · subst e0
        cases s2
        exact q _ _ H h.2 (.refl H) (.tup h1 (by rw [List.append_nil]; exact s1))
      · exact q _ _ _ h.2 (.new hp) (.tup (.new hd) ((s1.append s2).ex (.new hp)))
    | _ => exact h.elim
  | lst h1 s1 =>
    cases r2 with
    | lst h2 s2 =>
      exact .inr (.inr (.inr (.inl ⟨_, _, _, _, rfl, rfl, h1.2, h2.2, by rw [s1.length, s2.length]; exact le_line h.1, fun p hp => q _ _ _ h.2 (.new hp) (.lst ⟨hM p hp, L2.upd_same⟩ ((s1.append s2).ex (.new hp)))⟩)))
    | _ => exact h.elim
  | _ => exact h.elim
theorem os_I {C : Int → Int → Prop} {g : Int → Int → V} {gd : Int → Int → D} {op : R2} (hg : ∀ H M i j, Df K H M (g i j) (gd i j)) (hop : ∀ d e Qd, op d e Qd → ∃ i j, d = .int i ∧ e = .int j ∧ C i j ∧ Qd (gd i j)) : OpS K (L2.rI C g) op := fun x y d e H M Qd hM r1 r2 h Q q => by
  obtain ⟨i, j, rfl, rfl, c, h'⟩ := hop d e Qd h
  cases r1
  cases r2
  exact ⟨i, j, rfl, rfl, c, q _ _ H h' (.refl H) (hg H M i j)⟩
theorem os_I0 {g : Int → Int → V} {gd : Int → Int → D} {op : R2} (hg : ∀ H M i j, Df K H M (g i j) (gd i j)) (hop : ∀ d e Qd, op d e Qd → ∃ i j, d = .int i ∧ e = .int j ∧ Qd (gd i j)) : OpS K (L2.rI0 g) op := fun x y d e H M Qd hM r1 r2 h Q q => by
  obtain ⟨i, j, rfl, rfl, h'⟩ := hop d e Qd h
  cases r1
  cases r2
  exact ⟨i, j, rfl, rfl, q _ _ H h' (.refl H) (hg H M i j)⟩
theorem os_sub : OpS K (L2.rI0 fun i j => .int (i - j)) opSub := os_I0 (fun _ _ _ _ => .int _) fun d e Qd h => by
  unfold opSub at h
  split at h
  · exact ⟨_, _, rfl, rfl, h⟩
  · exact h.elim
theorem os_lt : OpS K (L2.rI0 fun i j => .bl (decide (i < j))) opLt := os_I0 (fun _ _ _ _ => .bl _) fun d e Qd h => by
  unfold opLt at h
  split at h
  · exact ⟨_, _, rfl, rfl, h⟩
  · exact h.elim
theorem os_le : OpS K (L2.rI0 fun i j => .bl (decide (i ≤ j))) opLe := os_I0 (fun _ _ _ _ => .bl _) fun d e Qd h => by
  unfold opLe at h
  split at h
  · exact ⟨_, _, rfl, rfl, h⟩
  · exact h.elim
theorem os_gt : OpS K (L2.rI0 fun i j => .bl (decide (j < i))) opGt := os_I0 (fun _ _ _ _ => .bl _) fun d e Qd h => by
  unfold opGt at h
  split at h
  · exact ⟨_, _, rfl, rfl, h⟩
  · exact h.elim
theorem os_ge : OpS K (L2.rI0 fun i j => .bl (decide (j ≤ i))) opGe := os_I0 (fun _ _ _ _ => .bl _) fun d e Qd h => by
  unfold opGe at h
  split at h
  · exact ⟨_, _, rfl, rfl, h⟩
  · exact h.elim
theorem os_mod : OpS K (L2.rI (fun _ j => 0 < j) fun i j => .int (i % j)) opMod := os_I (fun _ _ _ _ => .int _) fun d e Qd h => by
  unfold opMod at h
  split at h
  · exact ⟨_, _, rfl, rfl, h.1, h.2⟩
  · exact h.elim
theorem os_pow : OpS K (L2.rI L2.CPow fun i j => .int (i ^ j.toNat)) opPow := os_I (fun _ _ _ _ => .int _) fun d e Qd h => by
  unfold opPow at h
  split at h
  · exact ⟨_, _, rfl, rfl, h.1, h.2⟩
  · exact h.elim
def rMulAll : L2.R2 := fun x y H Q => L2.rI L2.CMul (fun i j => .int (i * j)) x y H Q ∨ L2.rRep x y H Q
theorem op_mulAll {X : L2.Cx} : L2.OpR X (binaryOp .Mult) rMulAll := L2.op_mul.or L2.op_rep
theorem DfL.flat {H : Hp} {Z : Addr → Prop} {vs : List V} {ds : List D} (h : DfL K H Z vs ds) : ∀ k : Nat, DfL K H Z (List.replicate k vs).flatten (List.replicate k ds).flatten
  | 0 => .nil
  | k + 1 => by
    rw [List.replicate_succ, List.flatten_cons, List.replicate_succ, List.flatten_cons]
    exact h.append (h.flat k)
theorem os_mul : OpS K rMulAll opMul := fun x y d e H M Qd hM r1 r2 h Q q => by
  cases r1 with
  | int i =>
    cases r2 with
    | int j => exact .inl ⟨i, j, rfl, rfl, h.1, q _ _ H h.2 (.refl H) (.int _)⟩
    | _ => exact h.elim
  | lst h1 s1 =>
    cases r2 with
    | int k => exact .inr ⟨_, k, _, rfl, rfl, h1.2, h.1.1, h.1.2.1, by rw [s1.length]; exact le_line h.1.2.2, fun p hp => q _ _ _ h.2 (.new hp) (.lst ⟨hM p hp, L2.upd_same⟩ ((s1.flat _).ex (.new hp)))⟩
    | _ => exact h.elim
  | _ => exact h.elim
theorem us_neg : UnS K (L2.rU fun i => .int (-i)) opNeg := fun x d H M Qd hM r h Q q => by
  cases r with
  | int i => exact ⟨i, rfl, q _ _ H h (.refl H) (.int _)⟩
  | _ => exact h.elim
theorem os_isN : OpS K (fun x y H Q => y = .non ∧ Q (.bl (decide (x = .non))) H) opIsN := fun x y d e H M Qd hM r1 r2 h Q q => by
  cases r2 with
  | non =>
    refine ⟨rfl, q _ _ H h (.refl H) ?_⟩
    cases r1 <;> exact .bl _
  | _ => exact h.elim
theorem os_notN : OpS K (fun x y H Q => y = .non ∧ Q (.bl (!decide (x = .non))) H) opNotN := fun x y d e H M Qd hM r1 r2 h Q q => by
  cases r2 with
  | non =>
    refine ⟨rfl, q _ _ H h (.refl H) ?_⟩
    cases r1 <;> exact .bl _
  | _ => exact h.elim
theorem beq_dec {a b : Bool} : (a == b) = decide (a = b) := by cases a <;> cases b <;> rfl
def rIsAll : L2.R2 := fun x y H Q => (y = .non ∧ Q (.bl (decide (x = .non))) H) ∨ L2.rIsB x y H Q
def rNotAll : L2.R2 := fun x y H Q => (y = .non ∧ Q (.bl (!decide (x = .non))) H) ∨ L2.rNotB x y H Q
theorem os_isB : OpS K L2.rIsB opIsB := fun x y d e H M Qd hM r1 r2 h Q q => by
  cases r1 with
  | bl a =>
    cases r2 with
    | bl b => exact ⟨a, b, rfl, rfl, q _ _ H h (.refl H) (by rw [beq_dec]; exact .bl _)⟩
    | _ => exact h.elim
  | _ => exact h.elim
theorem os_notB : OpS K L2.rNotB opNotB := fun x y d e H M Qd hM r1 r2 h Q q => by
  cases r1 with
  | bl a =>
    cases r2 with
    | bl b => exact ⟨a, b, rfl, rfl, q _ _ H h (.refl H) (by rw [beq_dec]; exact .bl _)⟩
    | _ => exact h.elim
  | _ => exact h.elim
end
end DL
/-! The data layer's soundness, 3: ==, in, items, builtins, calls, comprehensions (pure). -/
namespace DL
open PySem
section
variable {K : PySem.W.Frag} {W : WX} {ta tb tc te : L2.TE} {a b c p : PX} {tt tu : L2.TT} {t u : PT}

/-! ### == -/
mutual
def toPy : D → PyData
  | .non => .none
  | .bl b => .bool b
  | .int i => .int i
  | .str x => .str x
  | .tup xs => .tuple (toPyL xs)
  | .lst xs => .list (toPyL xs)
  | .fn _ => .none
  | .ty _ => .none
  | .pr _ => .none
  | .scr _ => .none
def toPyL : List D → List PyData
  | [] => []
  | x :: xs => toPy x :: toPyL xs
end
mutual
theorem Df.py {H : Hp} {Z : Addr → Prop} : ∀ {v : V} {d : D}, Df K H Z v d → okd d = true → L2.Dp K H v (toPy d)
  | _, _, .non, _ => .non
  | _, _, .bl b, _ => .bl b
  | _, _, .int i, _ => .int i
  | _, _, .str x, _ => .str x
  | _, _, .fn a, e => by simp [okd] at e
  | _, _, .ty n, e => by simp [okd] at e
  | _, _, .pr _ _, e => by simp [okd] at e
  | _, _, .scr _ _, e => by simp [okd] at e
  | _, _, .tup h hs, e => .tup h.q (DfL.py hs (by simpa [okd] using e))
  | _, _, .lst h hs, e => .lst h.sq (DfL.py hs (by simpa [okd] using e))
theorem DfL.py {H : Hp} {Z : Addr → Prop} : ∀ {vs : List V} {ds : List D}, DfL K H Z vs ds → okL ds = true → L2.DpAll K H vs (toPyL ds)
  | _, _, .nil, _ => .nil
  | _, _, .cons h hs, e => by
    simp only [okL, Bool.and_eq_true] at e
    exact .cons (Df.py h e.1) (DfL.py hs e.2)
end
mutual
theorem dep_py : ∀ d : D, (toPy d).depth = dep d
  | .non => rfl | .bl _ => rfl | .int _ => rfl | .str _ => rfl | .fn _ => rfl | .ty _ => rfl | .pr _ => rfl | .scr _ => rfl
  | .tup xs => by simp only [toPy, PyData.depth, dep]; rw [depL_py xs]
  | .lst xs => by simp only [toPy, PyData.depth, dep]; rw [depL_py xs]
theorem depL_py : ∀ ds : List D, PyData.depthAll (toPyL ds) = depL ds
  | [] => rfl
  | x :: xs => by simp only [toPyL, PyData.depthAll, depL]; rw [dep_py x, depL_py xs]
end
mutual
theorem lay_py : ∀ d : D, okd d = true → (toPy d).canLay0 = true
  | .non, _ => by simp only [toPy, PyData.canLay0]
  | .bl _, _ => by simp only [toPy, PyData.canLay0]
  | .int _, _ => by simp only [toPy, PyData.canLay0]
  | .str x, h => by
    simp only [toPy, PyData.canLay0, PyData.strOk]
    simpa only [okd] using h
  | .fn _, h => by simp [okd] at h
  | .ty _, h => by simp [okd] at h
  | .pr _, h => by simp [okd] at h
  | .scr _, h => by simp [okd] at h
  | .tup xs, h => by simp only [toPy, PyData.canLay0]; exact layL_py xs (by simpa [okd] using h)
  | .lst xs, h => by simp only [toPy, PyData.canLay0]; exact layL_py xs (by simpa [okd] using h)
theorem layL_py : ∀ ds : List D, okL ds = true → PyData.canLayAll0 (toPyL ds) = true
  | [], _ => by simp only [toPyL, PyData.canLayAll0]
  | x :: xs, h => by
    simp only [okL, Bool.and_eq_true] at h
    simp only [toPyL, PyData.canLayAll0, lay_py x h.1, layL_py xs h.2, Bool.and_self]
end
theorem cmpOk.shaped {d : D} (h : cmpOk d) : SeqAt.shaped (toPy d) = true := by
  unfold SeqAt.shaped
  rw [lay_py d h.1, dep_py]
  simpa using h.2
mutual
theorem eqv_py : ∀ d e : D, okd d = true → okd e = true → PyData.eqv (toPy d) (toPy e) = deq d e
  | .non, e, _, _ => by cases e <;> simp_all [toPy, PyData.eqv, deq, okd]
  | .bl a, e, _, _ => by cases e <;> simp_all [toPy, PyData.eqv, deq, okd]
  | .int a, e, _, _ => by cases e <;> simp_all [toPy, PyData.eqv, deq, okd]
  | .str a, e, _, _ => by cases e <;> simp_all [toPy, PyData.eqv, deq, okd]
  | .fn a, e, h, _ => by simp [okd] at h
  | .ty a, e, h, _ => by simp [okd] at h
  | .pr a, e, h, _ => by simp [okd] at h
  | .scr a, e, h, _ => by simp [okd] at h
  | .tup xs, e, h, k => by
    cases e with
    | tup ys =>
      simp only [toPy, PyData.eqv, deq]
      exact eqvL_py xs ys (by simpa [okd] using h) (by simpa [okd] using k)
    | _ => first | (simp [okd] at k; done) | simp [toPy, PyData.eqv, deq]
  | .lst xs, e, h, k => by
    cases e with
    | lst ys =>
      simp only [toPy, PyData.eqv, deq]
      exact eqvL_py xs ys (by simpa [okd] using h) (by simpa [okd] using k)
    | _ => first | (simp [okd] at k; done) | simp [toPy, PyData.eqv, deq]
theorem eqvL_py : ∀ d e : List D, okL d = true → okL e = true → PyData.eqvAll (toPyL d) (toPyL e) = deqL d e
  | [], [], _, _ => by simp [toPyL, PyData.eqvAll, deqL]
  | [], y :: ys, _, _ => by simp [toPyL, PyData.eqvAll, deqL]
  | x :: xs, [], _, _ => by simp [toPyL, PyData.eqvAll, deqL]
  | x :: xs, y :: ys, h, k => by
    simp only [okL, Bool.and_eq_true] at h k
    simp only [toPyL, PyData.eqvAll, deqL]
    rw [eqv_py x y h.1 k.1, eqvL_py xs ys h.2 k.2]
end
def rEqAll (K : PySem.W.Frag) : L2.R2 := fun x y H Q => L2.rEq x y H Q ∨ L2.rEqD K x y H Q
def rNeAll (K : PySem.W.Frag) : L2.R2 := fun x y H Q => L2.rNe x y H Q ∨ L2.rNeD K x y H Q
theorem op_eqAll {X : L2.Cx} (hu : X.A.units + 64 < cLine) : L2.OpR X (compareOp .Eq) (rEqAll X.K) := L2.op_eq.or (L2.op_eqD hu)
theorem op_neAll {X : L2.Cx} (hu : X.A.units + 64 < cLine) : L2.OpR X (compareOp .NotEq) (rNeAll X.K) := L2.op_ne.or (L2.op_neD hu)
/-- two scalars that the model compares at once -/
theorem scal_of {H : Hp} {Z : Addr → Prop} {x y : V} {d e : D} (r1 : Df K H Z x d) (r2 : Df K H Z y e) (h1 : scalD d = true) (h2 : scalD e = true) : (L2.scal x y = true ∧ decide (x = y) = deq d e) ∨ (cmpOk d ∧ cmpOk e) := by
  cases r1 <;> first | (simp [scalD] at h1; done) | skip
  all_goals (cases r2 <;> first | (simp [scalD] at h2; done) | skip)
  all_goals first
    | exact .inr ⟨⟨rfl, Nat.zero_le _⟩, ⟨rfl, Nat.zero_le _⟩⟩
    | (refine .inl ⟨rfl, ?_⟩; simp [deq]; done)
    | (refine .inl ⟨rfl, ?_⟩; simp [deq, Bool.beq_eq_decide_eq]; done)
theorem os_eq : OpS K (rEqAll K) opEq := fun x y d e H M Qd hM r1 r2 h Q q => by
  obtain ⟨h, hq⟩ := h
  have big : cmpOk d ∧ cmpOk e → L2.rEqD K x y H Q := fun h => ⟨toPy d, toPy e, r1.py h.1.1, r2.py h.2.1, h.1.shaped, h.2.shaped, by
    rw [eqv_py d e h.1.1 h.2.1]
    exact q _ _ H hq (.refl H) (.bl _)⟩
  rcases h with ⟨h1, h2⟩ | h
  · rcases scal_of r1 r2 h1 h2 with ⟨s, e'⟩ | h
    · exact .inl ⟨s, by rw [e']; exact q _ _ H hq (.refl H) (.bl _)⟩
    · exact .inr (big h)
  · exact .inr (big h)
theorem os_ne : OpS K (rNeAll K) opNe := fun x y d e H M Qd hM r1 r2 h Q q => by
  obtain ⟨h, hq⟩ := h
  have big : cmpOk d ∧ cmpOk e → L2.rNeD K x y H Q := fun h => ⟨toPy d, toPy e, r1.py h.1.1, r2.py h.2.1, h.1.shaped, h.2.shaped, by
    rw [eqv_py d e h.1.1 h.2.1]
    exact q _ _ H hq (.refl H) (.bl _)⟩
  rcases h with ⟨h1, h2⟩ | h
  · rcases scal_of r1 r2 h1 h2 with ⟨s, e'⟩ | h
    · exact .inl ⟨s, by rw [e']; exact q _ _ H hq (.refl H) (.bl _)⟩
    · exact .inr (big h)
  · exact .inr (big h)

/-! ### in -/
theorem flat_of {H : Hp} {Z : Addr → Prop} {v : V} {d : D} (r : Df K H Z v d) (h : scalD d = true) : L2.flatV v = true := by
  cases r <;> first | rfl | (simp [scalD] at h; done)
theorem flatL_of {H : Hp} {Z : Addr → Prop} : ∀ {vs : List V} {ds : List D}, DfL K H Z vs ds → ds.all scalD = true → vs.all L2.flatV = true
  | _, _, .nil, _ => rfl
  | _, _, .cons a b, h => by
    simp only [List.all_cons, Bool.and_eq_true] at h ⊢
    exact ⟨flat_of a h.1, flatL_of b h.2⟩
theorem eqV_of {H : Hp} {Z : Addr → Prop} {x y : V} {d e : D} (r1 : Df K H Z x d) (r2 : Df K H Z y e) (h1 : scalD d = true) (h2 : scalD e = true) : L2.eqV x y = deq d e := by
  cases r1 <;> first | (simp [scalD] at h1; done) | skip
  all_goals (cases r2 <;> first | (simp [scalD] at h2; done) | skip)
  all_goals rfl
theorem inV_of {H : Hp} {Z : Addr → Prop} {x : V} {d : D} (r : Df K H Z x d) (h : scalD d = true) : ∀ {vs : List V} {ds : List D}, DfL K H Z vs ds → ds.all scalD = true → L2.inV x vs = ds.any fun z => deq z d
  | _, _, .nil, _ => rfl
  | _, _, .cons a b, hs => by
    simp only [List.all_cons, Bool.and_eq_true] at hs
    have e := inV_of r h b hs.2
    unfold L2.inV at e ⊢
    simp only [List.any_cons]
    rw [e, eqV_of a r hs.1 h]
theorem os_in : OpS K (L2.rIn K false) opIn := fun x y d e H M Qd hM r1 r2 h Q q => by
  cases r2 with
  | tup hq hr =>
    refine ⟨_, _, rfl, .inr hq.q, flat_of r1 h.1.1, flatL_of hr h.1.2, ?_⟩
    show Q (.bl (L2.inV x _)) H
    rw [inV_of r1 h.1.1 hr h.1.2]
    exact q _ _ H h.2 (.refl H) (.bl _)
  | lst hq hr =>
    refine ⟨_, _, rfl, .inl hq.sq, flat_of r1 h.1.1, flatL_of hr h.1.2, ?_⟩
    show Q (.bl (L2.inV x _)) H
    rw [inV_of r1 h.1.1 hr h.1.2]
    exact q _ _ H h.2 (.refl H) (.bl _)
  | _ => exact h.elim
theorem os_notIn : OpS K (L2.rIn K true) opNotIn := fun x y d e H M Qd hM r1 r2 h Q q => by
  cases r2 with
  | tup hq hr =>
    refine ⟨_, _, rfl, .inr hq.q, flat_of r1 h.1.1, flatL_of hr h.1.2, ?_⟩
    show Q (.bl (!L2.inV x _)) H
    rw [inV_of r1 h.1.1 hr h.1.2]
    exact q _ _ H h.2 (.refl H) (.bl _)
  | lst hq hr =>
    refine ⟨_, _, rfl, .inl hq.sq, flat_of r1 h.1.1, flatL_of hr h.1.2, ?_⟩
    show Q (.bl (!L2.inV x _)) H
    rw [inV_of r1 h.1.1 hr h.1.2]
    exact q _ _ H h.2 (.refl H) (.bl _)
  | _ => exact h.elim

/-! ### items -/
theorem atD_eq {α : Type} (xs : List α) (i : Int) : L2.atI xs i = atD xs i := rfl
theorem DfL.at {H : Hp} {Z : Addr → Prop} {vs : List V} {ds : List D} {i : Int} {d : D} (h : DfL K H Z vs ds) (e : atD ds i = some d) : ∃ v, atD vs i = some v ∧ Df K H Z v d := by
  unfold atD at e ⊢
  rw [h.length]
  cases q : ixD ds.length i with
  | none => rw [q] at e; cases e
  | some j =>
    rw [q] at e
    exact h.get e
theorem os_ix : OpS K (L2.rIx K) opIx := fun x y d e H M Qd hM r1 r2 h Q q => by
  cases r2 with
  | int i =>
    cases r1 with
    | tup hq hr =>
      simp only [opIx] at h
      split at h
      · rename_i z e
        obtain ⟨v, h1, h2⟩ := hr.at e
        exact .inr (.inl ⟨_, _, i, v, rfl, rfl, hq.q, h1, q _ _ H h (.refl H) h2⟩)
      · exact h.elim
    | lst hq hr =>
      simp only [opIx] at h
      split at h
      · rename_i z e
        obtain ⟨v, h1, h2⟩ := hr.at e
        exact .inl ⟨_, _, i, v, rfl, rfl, hq.sq, h1, q _ _ H h (.refl H) h2⟩
      · exact h.elim
    | str z =>
      simp only [opIx] at h
      obtain ⟨hz, h⟩ := h
      split at h
      · rename_i c e
        exact .inr (.inr ⟨z, i, c, rfl, rfl, le_line hz, e, q _ _ H h (.refl H) (.str _)⟩)
      · exact h.elim
    | _ => exact h.elim
  | _ => cases r1 <;> exact h.elim

/-! ### builtins -/
theorem sp_cb {r : List V → Hp → L2.VK → Prop} {op : RL} {ta : L2.TA} {a : PAx} (ho : CbS K r op) (ha : SndPA K W ta a) : SndP K W (L2.tCB r ta) (pCB op a) := fun σ δ H M hM rd Qd Xd h Q q x =>
  ha σ δ H M hM rd _ Xd h _ (fun v d H1 h1 e1 r1 => ho v d H1 M Qd (hM.ex e1) r1 h1 Q fun z f H3 h3 e3 r3 => q z f H3 h3 (e1.trans e3) r3) x
theorem one_of {H : Hp} {Z : Addr → Prop} {vs : List V} {d : D} (r : DfL K H Z vs [d]) : ∃ v, vs = [v] ∧ Df K H Z v d := by
  cases r with
  | cons a b => cases b; exact ⟨_, rfl, a⟩
theorem two_of {H : Hp} {Z : Addr → Prop} {vs : List V} {d e : D} (r : DfL K H Z vs [d, e]) : ∃ v w, vs = [v, w] ∧ Df K H Z v d ∧ Df K H Z w e := by
  cases r with
  | cons a b =>
    cases b with
    | cons c k => cases k; exact ⟨_, _, rfl, a, c⟩
theorem cb_len : CbS K (fun xs H Q => ∃ x n, xs = [x] ∧ L2.LenV K x H n ∧ Q (.int n) H) fLen := fun xs ds H M Qd hM r h Q q => by
  unfold fLen at h
  split at h
  · obtain ⟨v, rfl, r1⟩ := one_of r
    cases r1 with
    | tup hq hr => exact ⟨_, _, rfl, .inr ⟨_, hq.q, hr.length.symm⟩, q _ _ H h (.refl H) (.int _)⟩
  · obtain ⟨v, rfl, r1⟩ := one_of r
    cases r1 with
    | lst hq hr => exact ⟨_, _, rfl, .inl ⟨_, hq.sq, hr.length.symm⟩, q _ _ H h (.refl H) (.int _)⟩
  · obtain ⟨v, rfl, r1⟩ := one_of r
    cases r1 with
    | str z => exact ⟨_, _, rfl, ⟨le_line h.1, rfl⟩, q _ _ H h.2 (.refl H) (.int _)⟩
  · exact h.elim
theorem cb_tuple : CbS K (rTupZ K) fTuple := fun xs ds H M Qd hM r h Q q => by
  unfold fTuple at h
  split at h
  · obtain ⟨v, rfl, r1⟩ := one_of r
    cases r1 with
    | lst hq hr => exact ⟨_, _, rfl, .inl ⟨hq.sq, fun l ob hl hd => q _ _ _ h (.new hl) (.tup (.new hd) (hr.ex (.new hl)))⟩⟩
  · obtain ⟨v, rfl, r1⟩ := one_of r
    cases r1 with
    | tup hq hr => exact ⟨_, _, rfl, .inr ⟨hq.q, q _ _ _ h (.refl H) (.tup hq hr)⟩⟩
  · exact h.elim
theorem cb_list : CbS K (fun xs H Q => ∃ p ys, xs = [.ref p] ∧ (L2.SqL K H p ys ∨ L2.SqT K H p ys) ∧ ∀ l, H l = none → Q (.ref l) (L2.upd H l (.lst ys))) fList := fun xs ds H M Qd hM r h Q q => by
  unfold fList at h
  split at h
  · obtain ⟨v, rfl, r1⟩ := one_of r
    cases r1 with
    | lst hq hr => exact ⟨_, _, rfl, .inl hq.sq, fun l hl => q _ _ _ h (.new hl) (.lst ⟨hM l hl, L2.upd_same⟩ (hr.ex (.new hl)))⟩
  · obtain ⟨v, rfl, r1⟩ := one_of r
    cases r1 with
    | tup hq hr => exact ⟨_, _, rfl, .inr hq.q, fun l hl => q _ _ _ h (.new hl) (.lst ⟨hM l hl, L2.upd_same⟩ (hr.ex (.new hl)))⟩
  · exact h.elim
theorem cb_int : CbS K (fun xs H Q => (∃ i, xs = [.int i] ∧ Q (.int i) H) ∨ ∃ k, xs = [.bl k] ∧ Q (.int (if k then 1 else 0)) H) fInt := fun xs ds H M Qd hM r h Q q => by
  unfold fInt at h
  split at h
  · obtain ⟨v, rfl, r1⟩ := one_of r
    cases r1 with
    | int i => exact .inl ⟨_, rfl, q _ _ H h (.refl H) (.int _)⟩
  · obtain ⟨v, rfl, r1⟩ := one_of r
    cases r1 with
    | bl i => exact .inr ⟨_, rfl, q _ _ H h (.refl H) (.int _)⟩
  · exact h.elim
theorem cb_abs : CbS K (fun xs H Q => ∃ i, xs = [.int i] ∧ Q (.int (if i < 0 then -i else i)) H) fAbs := fun xs ds H M Qd hM r h Q q => by
  unfold fAbs at h
  split at h
  · obtain ⟨v, rfl, r1⟩ := one_of r
    cases r1 with
    | int i => exact ⟨_, rfl, q _ _ H h (.refl H) (.int _)⟩
  · exact h.elim
theorem ints_of {H : Hp} {Z : Addr → Prop} : ∀ {vs : List V} {ds : List D} {is : List Int}, DfL K H Z vs ds → intsOf ds = some is → vs = is.map L2.V.int
  | _, _, _, .nil, e => by
    cases e
    rfl
  | _, _, is, .cons a b, e => by
    cases a with
    | int i =>
      simp only [intsOf] at e
      cases q : intsOf _ with
      | none => rw [q] at e; cases e
      | some js =>
        rw [q] at e
        cases e
        rw [List.map_cons, ints_of b q]
    | _ => simp [intsOf] at e
theorem bools_of {H : Hp} {Z : Addr → Prop} : ∀ {vs : List V} {ds : List D} {is : List Bool}, DfL K H Z vs ds → boolsOf ds = some is → vs = is.map L2.V.bl
  | _, _, _, .nil, e => by
    cases e
    rfl
  | _, _, is, .cons a b, e => by
    cases a with
    | bl i =>
      simp only [boolsOf] at e
      cases q : boolsOf _ with
      | none => rw [q] at e; cases e
      | some js =>
        rw [q] at e
        cases e
        rw [List.map_cons, bools_of b q]
    | _ => simp [boolsOf] at e
theorem cb_sum : CbS K (L2.rSum K) fSum := fun xs ds H M Qd hM r h Q q => by
  unfold fSum at h
  split at h
  · obtain ⟨v, rfl, r1⟩ := one_of r
    cases r1 with
    | lst hq hr =>
      split at h
      · rename_i is e
        have e2 := ints_of hr e
        subst e2
        exact ⟨_, is, rfl, hq.sq, q _ _ H h (.refl H) (.int _)⟩
      · exact h.elim
  · exact h.elim
theorem cb_all : CbS K (L2.rAll K) fAll := fun xs ds H M Qd hM r h Q q => by
  unfold fAll at h
  split at h
  · obtain ⟨v, rfl, r1⟩ := one_of r
    cases r1 with
    | lst hq hr =>
      split at h
      · rename_i is e
        have e2 := bools_of hr e
        subst e2
        exact ⟨_, is, rfl, hq.sq, q _ _ H h (.refl H) (.bl _)⟩
      · exact h.elim
  · exact h.elim
theorem cb_any : CbS K (L2.rAny K) fAny := fun xs ds H M Qd hM r h Q q => by
  unfold fAny at h
  split at h
  · obtain ⟨v, rfl, r1⟩ := one_of r
    cases r1 with
    | lst hq hr =>
      split at h
      · rename_i is e
        have e2 := bools_of hr e
        subst e2
        exact ⟨_, is, rfl, hq.sq, q _ _ H h (.refl H) (.bl _)⟩
      · exact h.elim
  · exact h.elim
end
end DL
/-! The data layer's soundness, 4: what is walked, targets, comprehensions, calls (pure); contracts. -/
namespace DL
open PySem
section
variable {K : PySem.W.Frag} {W : WX} {ta tb tc te : L2.TE} {a b c p : PX} {tt tu : L2.TT} {t u : PT}

/-! ### isinstance -/
theorem kit_all : ∀ x ∈ ["NoneType", "int", "bool", "str", "tuple", "list"], ∀ y ∈ tyNames, L2.kitB x y = some (x == y || (x == "bool" && y == "int")) := by decide +kernel
theorem cb_isi : CbS K (L2.rIsi K) fIsi := fun xs ds H M Qd hM r h Q q => by
  unfold fIsi at h
  split at h
  · rename_i d t
    obtain ⟨v, w, rfl, r1, r2⟩ := two_of r
    obtain ⟨⟨hn, ht⟩, h⟩ := h
    cases r2
    have go : ∀ {s : String}, s ∈ ["NoneType", "int", "bool", "str", "tuple", "list"] → tyD d = s → L2.TyX K H v (.type s) → L2.rIsi K [v, .ty t] H Q := fun {s} hs e ty =>
      ⟨v, .ty t, .type s, .type t, isTy d t, rfl, .ty t, ty, L2.kit_ty (by unfold isTy; rw [e]; exact kit_all s hs t ht), q _ _ H h (.refl H) (.bl _)⟩
    cases r1 with
    | non => exact go (s := "NoneType") (by decide) rfl (.base .non)
    | bl b => exact go (s := "bool") (by decide) rfl (.base (.bl b))
    | int i => exact go (s := "int") (by decide) rfl (.base (.int i))
    | str x => exact go (s := "str") (by decide) rfl (.base (.str x))
    | fn a => simp [noRaw] at hn
    | ty n => simp [noRaw] at hn
    | pr _ _ => simp [noRaw] at hn
    | scr _ _ => simp [noRaw] at hn
    | lst hq hr => exact go (s := "list") (by decide) rfl (.base (.lst hq.2))
    | tup hq hr =>
      refine go (s := "tuple") (by decide) rfl ?_
      rcases hq.q with (hq | ⟨o, hq⟩) | ⟨o, its, n, hk, hc, hd, hz, hv⟩
      · exact .base (.tup hq)
      · exact .fTuple hq
      · exact .kTuple hk hc
  · exact h.elim

/-! ### what is walked -/
def ItOk (K : PySem.W.Frag) (M : Addr → Prop) (J : L2.It) (ds : List D) (H : Hp) : Prop :=
  ∀ (M' : Addr → Prop) (H1 : Hp), (∀ {b : Option Bool} (a : Addr) (vs : List V), TuA K H b a vs → TuA K H1 b a vs) → (∀ a vs, LsZ H M a vs → LsZ H1 M' a vs) →
    (∀ (i : Nat) (d : D), ds[i]? = some d → J.go i H1 ∧ ∀ x H2, J.yld i H1 x H2 → Ex H1 H2 ∧ Df K H2 M' x d) ∧ J.stop ds.length H1
theorem itl_ok {M : Addr → Prop} {H : Hp} {a : Addr} {vs : List V} {ds : List D} (h : LsZ H M a vs) (r : DfL K H M vs ds) : ItOk K M (L2.Itl K a) ds H := fun M' H1 kt kl => by
  have h1 := kl _ _ h
  have r1 := r.keep kt kl
  refine ⟨fun i d e => ?_, vs, h1.sq, Nat.le_of_eq r1.length⟩
  obtain ⟨v, e1, e2⟩ := r1.get e
  refine ⟨⟨vs, v, h1.sq, e1⟩, fun x H2 y => ?_⟩
  obtain ⟨rfl, y⟩ := y
  have e3 := y vs h1.sq
  rw [e1] at e3
  cases e3
  exact ⟨.refl _, e2⟩
theorem itt_ok {M : Addr → Prop} {H : Hp} {a : Addr} {vs : List V} {ds : List D} {b : Bool} (h : TuA K H (some b) a vs) (r : DfL K H M vs ds) : ItOk K M (L2.Itt K a) ds H := fun M' H1 kt kl => by
  have h1 := kt _ _ h
  have r1 := r.keep kt kl
  refine ⟨fun i d e => ?_, vs, h1.q, Nat.le_of_eq r1.length⟩
  obtain ⟨v, e1, e2⟩ := r1.get e
  refine ⟨⟨vs, v, h1.q, e1⟩, fun x H2 y => ?_⟩
  obtain ⟨rfl, y⟩ := y
  have e3 := y vs h1.q
  rw [e1] at e3
  cases e3
  exact ⟨.refl _, e2⟩
theorem rangeD_get {lo : Int} {n i : Nat} {d : D} (h : (rangeD lo n)[i]? = some d) : i < n ∧ d = .int (lo + i) := by
  unfold rangeD at h
  rw [List.getElem?_map] at h
  by_cases hi : i < n
  · rw [List.getElem?_range hi] at h
    exact ⟨hi, (Option.some.inj h).symm⟩
  · rw [List.getElem?_eq_none (by simpa using hi)] at h
    cases h
theorem itr_ok {M : Addr → Prop} {H : Hp} {lo : Int} {n : Nat} : ItOk K M (L2.Itr lo n) (rangeD lo n) H := fun M' H1 kt kl => by
  refine ⟨fun i d e => ?_, ?_⟩
  · obtain ⟨h1, rfl⟩ := rangeD_get e
    refine ⟨h1, fun x H2 y => ?_⟩
    obtain ⟨rfl, rfl⟩ := y
    exact ⟨.refl _, .int _⟩
  · show n ≤ (rangeD lo n).length
    simp [rangeD]
theorem enumD_get {xs : List D} {i : Nat} {d : D} (h : (enumD xs)[i]? = some d) : ∃ x, xs[i]? = some x ∧ d = .pr [.int (i : Nat), x] := by
  unfold enumD at h
  rw [List.getElem?_map, List.getElem?_zipIdx] at h
  cases e : xs[i]? with
  | none => rw [e] at h; cases h
  | some x =>
    rw [e] at h
    refine ⟨x, rfl, ?_⟩
    have h' := (Option.some.inj h).symm
    simpa using h'
theorem ite_ok {M : Addr → Prop} {H : Hp} {a : Addr} {vs : List V} {ds : List D} (h : LsZ H M a vs) (r : DfL K H M vs ds) : ItOk K M (L2.Ite K a) (enumD ds) H := fun M' H1 kt kl => by
  have h1 := kl _ _ h
  have r1 := r.keep kt kl
  refine ⟨fun i d e => ?_, vs, h1.sq, by have := r1.length; simp [enumD]; omega⟩
  obtain ⟨x, e', rfl⟩ := enumD_get e
  obtain ⟨v, e1, e2⟩ := r1.get e'
  refine ⟨⟨vs, v, h1.sq, e1⟩, fun y H2 z => ?_⟩
  obtain ⟨T, x', rfl, hT, rfl, hy⟩ := z
  have e3 := hy vs h1.sq
  rw [e1] at e3
  cases e3
  exact ⟨.new hT, .pr (.inl (.inl L2.upd_same)) (.cons (.int _) (.cons (e2.ex (.new hT)) .nil))⟩
theorem zipD_get {xs ys : List D} {i : Nat} {d : D} (h : (zipD xs ys)[i]? = some d) : ∃ x y, xs[i]? = some x ∧ ys[i]? = some y ∧ d = .pr [x, y] := by
  unfold zipD at h
  rw [List.getElem?_map] at h
  cases e : (xs.zip ys)[i]? with
  | none => rw [e] at h; cases h
  | some p =>
    rw [e] at h
    obtain ⟨e1, e2⟩ := List.getElem?_zip_eq_some.mp e
    exact ⟨p.1, p.2, e1, e2, (Option.some.inj h).symm⟩
theorem itz_ok {M : Addr → Prop} {H : Hp} {a b : Addr} {vs ws : List V} {ds es : List D} (h : LsZ H M a vs) (r : DfL K H M vs ds) (h' : LsZ H M b ws) (r' : DfL K H M ws es) : ItOk K M (L2.Itz K a b) (zipD ds es) H := fun M' H1 kt kl => by
  have h1 := kl _ _ h
  have r1 := r.keep kt kl
  have h2 := kl _ _ h'
  have r2 := r'.keep kt kl
  refine ⟨fun i d e => ?_, vs, ws, h1.sq, h2.sq, ?_⟩
  · obtain ⟨x, y, g1, g2, rfl⟩ := zipD_get e
    obtain ⟨v, e1, e2⟩ := r1.get g1
    obtain ⟨w, f1, f2⟩ := r2.get g2
    refine ⟨⟨vs, ws, v, w, h1.sq, h2.sq, e1, f1⟩, fun y H2 z => ?_⟩
    obtain ⟨T, x', y', rfl, hT, rfl, hy, hy'⟩ := z
    have e3 := hy vs h1.sq
    have f3 := hy' ws h2.sq
    rw [e1] at e3
    rw [f1] at f3
    cases e3
    cases f3
    exact ⟨.new hT, .pr (.inl (.inl L2.upd_same)) (.cons (e2.ex (.new hT)) (.cons (f2.ex (.new hT)) .nil))⟩
  · have l1 := r1.length
    have l2 := r2.length
    simp only [zipD, List.length_map, List.length_zip]
    omega
/-- a list or a tuple -/
def iSeq (K : PySem.W.Frag) (tl : L2.TE) : L2.TI := fun σ H R => tl σ H fun x H1 => ∃ a, x = .ref a ∧ (((∃ xs, L2.SqL K H1 a xs) ∧ R (L2.Itl K a) H1) ∨ ((∃ xs, L2.SqT K H1 a xs) ∧ R (L2.Itt K a) H1))
theorem pi_seq {X : L2.Cx} {tg l : Expr} {tl : L2.TE} (hl : L2.PE X l tl) : L2.PI X tg l (iSeq X.K tl) := by
  refine ⟨fun pins s σ H R I h => ?_⟩
  have hL : L2.PE X l fun σ H Q => tl σ H Q := hl
  refine L2.thn (hl.run pins s σ H _ I h) fun v s1 h1 => ?_
  obtain ⟨x, H1, I1, r1, a, e, q⟩ := h1
  subst e
  cases r1
  rcases q with q | q
  · obtain ⟨⟨xs, hq⟩, q⟩ := q
    obtain ⟨its, rv, p, hz⟩ := I1.list hq
    exact wpAny_pyIter_list p.isList ⟨s1.heap.objs.size, [s1.heap.objs.size], _, _, H1, rfl, I1.kept (t' := s1.toks) fun b o e => Heap.get?_push_of_some _ e, L2.turn_list a _, ⟨_, Heap.get?_push_size _ rfl, rfl, rfl⟩,
      fun b hb => by
        obtain rfl : b = s1.heap.objs.size := by simpa using hb
        exact I1.fpOk (Nat.le_refl _) (I1.hok.fresh (Nat.le_refl _)), q⟩
  · obtain ⟨⟨xs, hq⟩, q⟩ := q
    obtain ⟨its, rv, p, hz⟩ := I1.tuple hq
    exact wpAny_pyIter_tuple (show s1.heap.IsTuple a its.toArray from p) ⟨s1.heap.objs.size, [s1.heap.objs.size], _, _, H1, rfl, I1.kept (t' := s1.toks) fun b o e => Heap.get?_push_of_some _ e, L2.turn_tuple a _, ⟨_, Heap.get?_push_size _ rfl, rfl, rfl⟩,
      fun b hb => by
        obtain rfl : b = s1.heap.objs.size := by simpa using hb
        exact I1.fpOk (Nat.le_refl _) (I1.hok.fresh (Nat.le_refl _)), q⟩
def SndPIt (K : PySem.W.Frag) (W : WX) (wi : L2.TI) (it : PIt) : Prop :=
  ∀ (σ : L2.St) (δ : DE) (H : Hp) (M : Addr → Prop), Fm M H → RdS K H M σ δ → ∀ (Qd : List D → Prop) (Xd : Xc → Prop), it δ Qd Xd → ∀ R : L2.It → Hp → Prop,
    (∀ J ds H', Qd ds → Ex H H' → ItOk K M J ds H' → R J H') → (∀ x cls dd H', Xd x → Ex H H' → XR K H' cls dd x → W cls dd σ H') → wi σ H R
theorem spi_seq (ha : SndP K W ta a) : SndPIt K W (iSeq K ta) (piSeq a) := fun σ δ H M hM rd Qd Xd h R q x =>
  ha σ δ H M hM rd _ Xd h _ (fun v d H1 h1 e1 r1 => by
    cases r1 with
    | tup hq hr => exact ⟨_, rfl, .inr ⟨⟨_, hq.q⟩, q _ _ H1 h1 e1 (itt_ok hq hr)⟩⟩
    | lst hq hr => exact ⟨_, rfl, .inl ⟨⟨_, hq.sq⟩, q _ _ H1 h1 e1 (itl_ok hq hr)⟩⟩
    | _ => exact h1.elim) x
theorem spi_range1 {t1 : L2.TA} {a : PAx} (ha : SndPA K W t1 a) : SndPIt K W (L2.iRng1 t1) (piRange (fun δ Q X => a δ (fun ds => ds.length = 1 ∧ Q ds) X)) := fun σ δ H M hM rd Qd Xd h R q x =>
  ha σ δ H M hM rd _ Xd h _ (fun v d H1 h1 e1 r1 => by
    obtain ⟨hl, h1⟩ := h1
    cases r1 with
    | nil => cases hl
    | cons r1 rr =>
      cases rr with
      | cons _ _ => simp at hl
      | nil =>
        cases r1 with
        | int i => exact ⟨i, rfl, h1.1.1, h1.1.2, q _ _ H1 h1.2 e1 itr_ok⟩
        | _ => exact h1.elim) x
theorem spi_range2 {t1 : L2.TA} {a : PAx} (ha : SndPA K W t1 a) : SndPIt K W (L2.iRng2 t1) (piRange (fun δ Q X => a δ (fun ds => ds.length = 2 ∧ Q ds) X)) := fun σ δ H M hM rd Qd Xd h R q x =>
  ha σ δ H M hM rd _ Xd h _ (fun v d H1 h1 e1 r1 => by
    obtain ⟨hl, h1⟩ := h1
    cases r1 with
    | nil => cases hl
    | cons r1 rr =>
      cases rr with
      | nil => cases hl
      | cons r2 rr =>
        cases rr with
        | cons _ _ => simp at hl
        | nil =>
          cases r1 with
          | int i =>
            cases r2 with
            | int j => exact ⟨i, j, rfl, ⟨h1.1.1.1, h1.1.1.2, h1.1.2.1, h1.1.2.2⟩, q _ _ H1 h1.2 e1 itr_ok⟩
            | _ => exact h1.elim
          | _ => cases r2 <;> exact h1.elim) x
theorem spi_enum {t1 : L2.TA} {a : PAx} (ha : SndPA K W t1 a) : SndPIt K W (L2.iEnum K t1) (piEnum a) := fun σ δ H M hM rd Qd Xd h R q x =>
  ha σ δ H M hM rd _ Xd h _ (fun v d H1 h1 e1 r1 => by
    unfold enumItems at h1
    split at h1
    · obtain ⟨v, rfl, r2⟩ := one_of r1
      cases r2 with
      | lst hq hr => exact ⟨_, _, rfl, hq.sq, q _ _ H1 h1 e1 (ite_ok hq hr)⟩
    · exact h1.elim) x
theorem spi_zip {t1 : L2.TA} {a : PAx} (ha : SndPA K W t1 a) : SndPIt K W (L2.iZip K t1) (piZip a) := fun σ δ H M hM rd Qd Xd h R q x =>
  ha σ δ H M hM rd _ Xd h _ (fun v d H1 h1 e1 r1 => by
    unfold zipItems at h1
    split at h1
    · obtain ⟨v, w, rfl, r2, r3⟩ := two_of r1
      cases r2 with
      | lst hq hr =>
        cases r3 with
        | lst hq' hr' => exact ⟨_, _, _, _, rfl, hq.sq, hq'.sq, q _ _ H1 h1 e1 (itz_ok hq hr hq' hr')⟩
    · exact h1.elim) x

/-! ### targets -/
def SndG (K : PySem.W.Frag) (own : List Nat) (g : L2.TG) (gx : GX) : Prop :=
  ∀ (v : V) (d : D) (σ : L2.St) (δ : DE) (H : Hp) (M : Addr → Prop), RdS K H M σ δ → Df K H M v d → ∀ Qd : DE → Prop, gx d δ Qd → ∀ Q : L2.St → Hp → Prop,
    (∀ σ' δ', Qd δ' → RdS K H M σ' δ' → σ'.length = σ.length → (∀ i, i ∉ own → σ'[i]? = σ[i]?) → Q σ' H) → g v σ H Q
def SndGs (K : PySem.W.Frag) (own : List Nat) (g : L2.TGs) (gx : GXs) : Prop :=
  ∀ (v : List V) (d : List D) (σ : L2.St) (δ : DE) (H : Hp) (M : Addr → Prop), RdS K H M σ δ → DfL K H M v d → ∀ Qd : DE → Prop, gx d δ Qd → ∀ Q : L2.St → Hp → Prop,
    (∀ σ' δ', Qd δ' → RdS K H M σ' δ' → σ'.length = σ.length → (∀ i, i ∉ own → σ'[i]? = σ[i]?) → Q σ' H) → g v σ H Q
theorem RdS.set {H : Hp} {M : Addr → Prop} {σ : L2.St} {δ : DE} {i : Nat} {v : V} {o : OV} (r : RdS K H M σ δ) (h : Df K H M v o.fz) : RdS K H M (σ.set i (some v)) (dset δ i (some o)) := by
  refine ⟨by rw [List.length_set, dset_length, r.len], fun j k e => ?_⟩
  by_cases hj : i = j
  · subst hj
    by_cases hi : i < δ.length
    · rw [dget_dset _ _ _ hi] at e
      cases e
      exact ⟨v, by rw [List.getElem?_set_self (by rw [r.len]; exact hi)], h⟩
    · rw [dset_out _ _ _ (by omega), dget_none (by omega)] at e
      cases e
  · rw [dget_dset_ne _ _ _ _ hj] at e
    obtain ⟨w, h1, h2⟩ := r.get j k e
    exact ⟨w, by rw [List.getElem?_set_ne hj]; exact h1, h2⟩
theorem sg_name {own : List Nat} {i : Nat} (hi : i ∈ own := by decide) : SndG K own (L2.gName i) (gN i) := fun v d σ δ H M rd r Qd h Q q =>
  q _ _ h (rd.set r) (List.length_set ..) fun j hj => List.getElem?_set_ne fun e => hj (by rw [← e]; exact hi)
theorem sgs_nil {own : List Nat} : SndGs K own L2.gNil gsNil := fun v d σ δ H M rd r Qd h Q q => by
  obtain ⟨rfl, h⟩ := h
  cases r
  exact ⟨rfl, q _ _ h rd rfl fun _ _ => rfl⟩
theorem sgs_cons {own : List Nat} {g : L2.TG} {gx : GX} {gs : L2.TGs} {gxs : GXs} (h1 : SndG K own g gx) (h2 : SndGs K own gs gxs) : SndGs K own (L2.gCons g gs) (gsCons gx gxs) := fun v d σ δ H M rd r Qd h Q q => by
  cases r with
  | nil => exact h.elim
  | cons a b =>
    refine ⟨_, _, rfl, h1 _ _ σ δ H M rd a _ h _ fun σ1 δ1 q1 rd1 l1 f1 => h2 _ _ σ1 δ1 H M rd1 b _ q1 _ fun σ2 δ2 q2 rd2 l2 f2 => q σ2 δ2 q2 rd2 (l2.trans l1) fun i hi => (f2 i hi).trans (f1 i hi)⟩
/-- a tuple's or a list's items -/
def gTL (K : PySem.W.Frag) (n : Nat) (t : L2.TGs) : L2.TG := fun v σ H Q => L2.gTup K n t v σ H Q ∨ L2.gLst K n t v σ H Q
theorem pg_tl {X : L2.Cx} {es : List Expr} {k : Nat} {pos : Pos} {t : L2.TGs} {n : Nat} (hc : X.calm = true) (h : L2.PGs X es t)
    (hn : (assignEach es X.env).length = n := by rfl) (hst : (assignEach es X.env).findIdx? (·.1) = none := by rfl) : L2.PG X (.Tuple es k pos) (gTL X.K n t) :=
  ⟨fun pins s σ H v u Q I r hw => hw.elim (fun q => (L2.pg_tup hc h hn hst).run pins s σ H v u Q I r q) fun q => (L2.pg_lst hc h hn hst).run pins s σ H v u Q I r q⟩
theorem sg_tl {own : List Nat} {n : Nat} {gs : L2.TGs} {gxs : GXs} (h : SndGs K own gs gxs) : SndG K own (gTL K n gs) (gT n gxs) := fun v d σ δ H M rd r Qd hh Q q => by
  cases r with
  | tup hq hr => exact .inl ⟨_, _, rfl, hq.q, by rw [hr.length]; exact hh.1, h _ _ σ δ H M rd hr Qd hh.2 Q q⟩
  | pr hq hr => exact .inl ⟨_, _, rfl, hq.q, by rw [hr.length]; exact hh.1, h _ _ σ δ H M rd hr Qd hh.2 Q q⟩
  | lst hq hr => exact .inr ⟨_, _, rfl, hq.sq, by rw [hr.length]; exact hh.1, h _ _ σ δ H M rd hr Qd hh.2 Q q⟩
  | _ => exact hh.elim

/-! ### comprehensions -/
theorem wipe_get (σ : L2.St) : ∀ (own : List Nat) (i : Nat), (L2.wipe σ own)[i]? = if i ∈ own ∧ i < σ.length then some none else σ[i]?
  | [], i => by simp [L2.wipe]
  | v :: vs, i => by
    unfold L2.wipe
    by_cases hv : v = i
    · subst hv
      by_cases hi : v < σ.length
      · rw [List.getElem?_set_self (by rw [L2.wipe_length]; exact hi), if_pos ⟨List.mem_cons_self, hi⟩]
      · rw [if_neg fun z => hi z.2, List.getElem?_eq_none (by rw [List.length_set, L2.wipe_length]; omega), List.getElem?_eq_none (by omega)]
    · rw [List.getElem?_set_ne hv, wipe_get σ vs i]
      by_cases hm : i ∈ vs ∧ i < σ.length
      · rw [if_pos hm, if_pos ⟨List.mem_cons_of_mem _ hm.1, hm.2⟩]
      · rw [if_neg hm, if_neg fun z => hm ⟨(List.mem_cons.mp z.1).resolve_left fun e => hv e.symm, z.2⟩]
theorem wipe_same {σ σ' : L2.St} {own : List Nat} (hl : σ'.length = σ.length) (h : ∀ i, i ∉ own → σ'[i]? = (L2.wipe σ own)[i]?) : L2.wipe σ' own = L2.wipe σ own := by
  apply List.ext_getElem?
  intro i
  by_cases hi : i ∈ own
  · rw [wipe_get, wipe_get, hl]
    by_cases hl2 : i < σ.length
    · rw [if_pos ⟨hi, hl2⟩, if_pos ⟨hi, hl2⟩]
    · rw [if_neg fun z => hl2 z.2, if_neg fun z => hl2 z.2, List.getElem?_eq_none (by omega), List.getElem?_eq_none (by omega)]
  · rw [wipe_get σ' own i, if_neg fun z => hi z.1]
    exact h i hi
theorem dwipe_length (δ : DE) : ∀ own : List Nat, (dwipe δ own).length = δ.length
  | [] => rfl
  | v :: vs => by unfold dwipe; rw [dset_length, dwipe_length δ vs]
theorem dwipe_get (δ : DE) : ∀ (own : List Nat) (i : Nat) (o : OV), dget (dwipe δ own) i = some o → i ∉ own ∧ dget δ i = some o
  | [], i, o, h => ⟨by simp, h⟩
  | v :: vs, i, o, h => by
    unfold dwipe at h
    by_cases hv : v = i
    · subst hv
      by_cases hi : v < (dwipe δ vs).length
      · rw [dget_dset _ _ _ hi] at h; cases h
      · rw [dset_out _ _ _ (by omega), dget_none (by omega)] at h; cases h
    · rw [dget_dset_ne _ _ _ _ hv] at h
      obtain ⟨h1, h2⟩ := dwipe_get δ vs i o h
      exact ⟨fun m => (List.mem_cons.mp m).elim (fun e => hv e.symm) h1, h2⟩
theorem RdS.wipe {H : Hp} {M : Addr → Prop} {σ : L2.St} {δ : DE} (r : RdS K H M σ δ) (own : List Nat) : RdS K H M (L2.wipe σ own) (dwipe δ own) := by
  refine ⟨by rw [L2.wipe_length, dwipe_length, r.len], fun i o e => ?_⟩
  obtain ⟨h1, h2⟩ := dwipe_get δ own i o e
  obtain ⟨v, h3, h4⟩ := r.get i o h2
  exact ⟨v, by rw [wipe_get, if_neg fun z => h1 z.1]; exact h3, h4⟩
theorem RdS.keep {H H' : Hp} {M M' : Addr → Prop} {σ : L2.St} {δ : DE} (r : RdS K H M σ δ) (kt : ∀ {b : Option Bool} (a : Addr) (vs : List V), TuA K H b a vs → TuA K H' b a vs) (kl : ∀ a vs, LsZ H M a vs → LsZ H' M' a vs) : RdS K H' M' σ δ := ⟨r.len, fun i o e => by
  obtain ⟨v, h1, h2⟩ := r.get i o e
  exact ⟨v, h1, h2.keep kt kl⟩⟩
/-- a list that is grown: what does not speak of it stays -/
theorem SqT.grown {H : Hp} {D a : Addr} {vs xs : List V} {o : HO} {b : Option Bool} (hD : H D = some (.lst vs)) (h : TuA K H b a xs) : TuA K (L2.upd H D o) b a xs :=
  h.to (fun h => by rw [L2.upd_ne (L2.ne_of h hD (by intro z; cases z))]; exact h) fun ob u h => by rw [L2.upd_ne (L2.ne_of h hD (by intro z; cases z))]; exact h
theorem sp_comp {wi : L2.TI} {it : PIt} {g : L2.TG} {gx : GX} {own : List Nat} {e : PX} (hi : SndPIt K W wi it) (hg : SndG K own g gx) (ht : SndPT K W0 tt t) (he : SndP K W0 te e) : SndP K W (L2.tLc wi g tt te own) (pComp own it gx t e) :=
  fun σ δ H M hM rd Qd Xd h Q q x => hi σ δ H M hM rd _ Xd h _ (fun J ds H1 hh e1 itk => by
    obtain ⟨hlen, hc⟩ := hh
    intro L0 hD
    have nD : ∀ a o, H1 a = some o → a ≠ L0 := fun a o z => L2.ne_of_none z hD
    refine ⟨fun i m H2 => m = ds.length - i ∧ i ≤ ds.length ∧ Ex H1 H2 ∧ ∃ (vs : List V) (ys : List D), H2 L0 = some (.lst vs) ∧ vs.length ≤ i ∧ DfL K H2 (fun a => M a ∧ a ≠ L0) vs ys ∧
      compP own gx t e δ (ds.drop i) (fun zs => Qd (.lst (ys ++ zs))), ⟨ds.length, by simp, Nat.zero_le _, .new hD, [], [], L2.upd_same, Nat.le_refl _, .nil, by simpa using hc⟩, ?_⟩
    rintro i m H2 ⟨rfl, hi2, x2, vs, ys, hv, hvl, rv, hcp⟩
    have kl2 : ∀ a xs, LsZ H1 M a xs → LsZ H2 (fun a => M a ∧ a ≠ L0) a xs := fun a xs z => ⟨⟨z.1, nD a _ z.2⟩, x2 a _ z.2⟩
    obtain ⟨itm, stop⟩ := itk (fun a => M a ∧ a ≠ L0) H2 (fun _ _ => x2.sqT) kl2
    by_cases hlt : i < ds.length
    · have hget : ds[i]? = some ds[i] := by simp [hlt]
      obtain ⟨go, yld⟩ := itm i _ hget
      rw [List.drop_eq_getElem_cons hlt] at hcp
      refine .inr ⟨go, fun H' => (i + 1 ≤ ds.length) ∧ Ex H1 H' ∧ ∃ (vs : List V) (ys : List D), H' L0 = some (.lst vs) ∧ vs.length ≤ i + 1 ∧ DfL K H' (fun a => M a ∧ a ≠ L0) vs ys ∧ compP own gx t e δ (ds.drop (i + 1)) (fun zs => Qd (.lst (ys ++ zs))),
        fun H' hn => ⟨ds.length - (i + 1), by omega, rfl, hn⟩, fun xv H3 hy => ?_⟩
      obtain ⟨x3, rx⟩ := yld xv H3 hy
      have hv3 := x3 L0 _ hv
      have x13 := x2.trans x3
      have rd3 : RdS K H3 (fun a => M a ∧ a ≠ L0) (L2.wipe σ own) (dwipe δ own) := (rd.keep (fun _ _ => (e1.trans x13).sqT) fun a xs z => ⟨⟨z.1, nD a _ (e1 a _ z.2)⟩, (e1.trans x13) a _ z.2⟩).wipe own
      have hM3 : Fm (fun a => M a ∧ a ≠ L0) H3 := fun a z => ⟨hM.ex (e1.trans x13) a z, fun w => by rw [w, hv3] at z; cases z⟩
      refine hg xv _ _ _ H3 _ rd3 rx _ hcp _ fun σ2 δ2 q2 rd4 l4 f4 => ⟨wipe_same (by rw [l4, L2.wipe_length]) fun j hj => f4 j hj, ?_⟩
      refine ht σ2 δ2 H3 _ hM3 rd4 _ _ q2 _ (fun b H4 qb x4 => ?_) fun _ _ _ _ z _ _ => z.elim
      cases b with
      | true =>
        show te σ2 H4 _
        refine he σ2 δ2 H4 _ (hM3.ex x4) (rd4.ex x4) _ _ qb _ (fun y yd H5 qy x5 ry => ?_) fun _ _ _ _ z _ _ => z.elim
        have x35 := x4.trans x5
        have hv5 := x35 L0 _ hv3
        refine ⟨vs, hv5, lt_line (by omega), hlt, fun a o z => ?_, vs ++ [y], ys ++ [yd], L2.upd_same, by simp; omega, ?_, ?_⟩
        · rw [L2.upd_ne (nD a o z)]
          exact (x13.trans x35) a o z
        · exact ((rv.ex (x3.trans x35)).append (.cons ry .nil)).keep (fun _ _ => SqT.grown hv5) fun a xs z => ⟨z.1, by rw [L2.upd_ne z.1.2]; exact z.2⟩
        · simpa [List.append_assoc] using qy
      | false =>
        exact ⟨hlt, x13.trans x4, vs, ys, x4 L0 _ hv3, by omega, rv.ex (x3.trans x4), qb⟩
    · have ei : i = ds.length := by omega
      subst ei
      refine .inl ⟨stop, ?_⟩
      rw [List.drop_length] at hcp
      have hq : Qd (.lst ys) := by simpa [compP] using hcp
      exact q _ _ H2 hq (e1.trans x2) (.lst ⟨hM.ex e1 L0 hD, hv⟩ (rv.mz fun a z => z.1))) x

/-! ### contracts, calls -/
def lentV (P : List Nat) (vs : List V) : List V := P.filterMap (vs[·]?)
/-- a def's promise: n parameters, those at P lent -/
def spD (K : PySem.W.Frag) (n : Nat) (P : List Nat) (F : FD) : L2.Sp := fun vs H Q E => vs.length = n ∧ ∃ (os : List OV) (Z : Addr → Prop) (fp : List Addr) (Qd : OV → List OV → Prop) (Xd : Xc → Prop),
  OwL K H Z vs os fp ∧ Ok H Z fp ∧ F os Qd Xd ∧
  (∀ o os' v H' Z' fo fp', Qd o os' → Ow K H' Z' v o fo → OwL K H' Z' (lentV P vs) os' fp' → Ok H' Z' (fo ++ fp') → Stp fp H Z H' Z' → (∀ a ∈ fo ++ fp', a ∈ fp ∨ H a = none) → Q v H') ∧
  (∀ x cls dd H' Z', Xd x → XR K H' cls dd x → Stp fp H Z H' Z' → (∀ a, Z' a → H' a ≠ none) → E cls dd H')
theorem sp_call {n : Nat} {F : FD} {t1 : L2.TA} {a : PAx} (ha : SndPA K W t1 a) : SndP K W (L2.tCallSD (spD K n [] F) [] (L2.WE W) t1) (pCall n F a) := fun σ δ H M hM rd Qd Xd h Q q x =>
  ha σ δ H M hM rd _ Xd h _ (fun vs ds H1 h1 e1 r1 => by
    have r2 : DfL K H1 (fun a => M a ∧ H1 a ≠ none) vs ds := r1.keep (fun _ _ z => z) fun a xs z => ⟨⟨z.1, by rw [z.2]; exact nofun⟩, z.2⟩
    show spD K n [] F (vs ++ []) H1 Q _
    rw [List.append_nil]
    refine ⟨r1.length.trans h1.1, ds.map .im, _, [], _, Xd, OwL.im r2, ⟨List.nodup_nil, nofun, fun a z => z.2⟩, h1.2, fun o os' v H' Z' fo fp' ho hv _ hok st sub => ?_, fun y cls dd H' Z' hx xr st _ => x y cls dd H' hx (e1.trans st.ex) xr⟩
    refine q _ _ H' ho (e1.trans st.ex) (hv.freeze (fun a z => ?_) fun a m => ?_)
    · rcases st.zn a z with w | w | w
      · exact w.1
      · exact nomatch w
      · exact hM.ex e1 a w
    · rcases sub a (List.mem_append_left _ m) with w | w
      · exact nomatch w
      · exact hM.ex e1 a w) x
end
end DL
/-! The data layer's soundness, 5: how worlds turn. -/
namespace DL
open PySem
section
variable {B : Base} {H H' : Hp} {σ σ' : L2.St} {δ δ' : DE} {T T' vs : List V} {τ τ' os : List OV} {Z Z' : Addr → Prop} {f g f' g' : List Addr} {v : V} {o : OV} {p : Addr} {i : Nat}
theorem Wx.no (w : Wx B H σ δ T τ Z f g) (hp : H p = none) : p ∉ f ++ g := fun m => by
  obtain ⟨vs, e⟩ := w.lsts p m
  rw [hp] at e
  cases e
theorem Wx.kEx (w : Wx B H σ δ T τ Z f g) {S : List Addr} (e : Ex H H') (hz : ∀ a, Z a → Z' a) : Kp S B.K H Z H' Z' := ⟨fun _ _ => e.sqT, fun _ _ => e.ls hz, fun a vs _ h => e a _ h⟩
theorem nodup_parts {f g1 g2 : List Addr} (h : (f ++ (g1 ++ g2)).Nodup) : (f ++ g2).Nodup ∧ ∀ a ∈ f ++ g2, a ∉ g1 := by
  have h1 := List.nodup_append.mp h
  have h2 := List.nodup_append.mp h1.2.1
  refine ⟨h.sublist (List.Sublist.append_left (List.sublist_append_right _ _) f), fun a m q => ?_⟩
  rcases List.mem_append.mp m with m | m
  · exact h1.2.2 a m a (List.mem_append_left _ q) rfl
  · exact h2.2.2 a q a m rfl
/-- a new tuple of what stands on top -/
theorem Wd.tup (w : Wd B H σ δ (vs ++ T) (os ++ τ)) (hl : vs.length = os.length) (hp : H p = none) {ob : Obj} (hd : Pln ob) : Wd B (L2.upd H p (.frz ob (.tup vs))) σ δ (.ref p :: T) (.im (.tup (fzL os)) :: τ) := by
  obtain ⟨Z, f, g, w⟩ := w
  obtain ⟨g1, g2, rfl, h1, h2⟩ := w.t.split hl
  obtain ⟨nd, na⟩ := nodup_parts w.ok.nd
  have e : Ex H (L2.upd H p (.frz ob (.tup vs))) := .new hp
  refine w.to (Z' := fun a => Z a ∨ a ∈ g1) (f' := f) (g' := [] ++ g2) (w.s.keep (w.kEx e fun _ => .inl)) (.cons (.im (.tup (.new hd) ((h1.freeze (fun _ => .inl) fun _ => .inr).ex e))) (h2.keep (w.kEx e fun _ => .inl))) ⟨nd, fun a m z => ?_, fun a z q => ?_⟩
    ⟨fun a o h _ => e a o h, fun _ => .inl, fun a z => z.elim .inl fun m => .inr (.inl (List.mem_append_right _ (List.mem_append_left _ m)))⟩ (fun a m => .inl ?_) fun _ _ => rfl
  · rcases z with z | z
    · exact w.ok.nz a ((List.mem_append.mp m).elim (List.mem_append_left _) fun m => List.mem_append_right _ (List.mem_append_right _ m)) z
    · exact na a m z
  · have q' := e.free q
    rcases z with z | z
    · exact w.ok.zd a z q'
    · obtain ⟨xs, e2⟩ := h1.lsts a z
      rw [q'] at e2
      cases e2
  · exact (List.mem_append.mp m).elim (List.mem_append_left _) fun m => List.mem_append_right _ (List.mem_append_right _ m)
/-- a new list of what stands on top -/
theorem Wd.lst (w : Wd B H σ δ (vs ++ T) (os ++ τ)) (hl : vs.length = os.length) (hp : H p = none) : Wd B (L2.upd H p (.lst vs)) σ δ (.ref p :: T) (.lst os :: τ) := by
  obtain ⟨Z, f, g, w⟩ := w
  obtain ⟨g1, g2, rfl, h1, h2⟩ := w.t.split hl
  have e : Ex H (L2.upd H p (.lst vs)) := .new hp
  have hn := w.no hp
  refine w.to (Z' := Z) (f' := f) (g' := (p :: g1) ++ g2) (w.s.keep (w.kEx e fun _ z => z)) (.cons (.lst L2.upd_same (h1.keep (w.kEx e fun _ z => z))) (h2.keep (w.kEx e fun _ z => z))) ⟨?_, fun a m z => ?_, fun a z q => w.ok.zd a z (e.free q)⟩
    (.of_ex e) (fun a m => ?_) fun _ _ => rfl
  · have q : (p :: (f ++ (g1 ++ g2))).Nodup := List.nodup_cons.mpr ⟨hn, w.ok.nd⟩
    exact (List.perm_middle (l₁ := f) (a := p) (l₂ := g1 ++ g2)).nodup_iff.mpr q
  · rcases List.mem_append.mp m with m | m
    · exact w.ok.nz a (List.mem_append_left _ m) z
    · rcases List.mem_cons.mp (show a ∈ p :: (g1 ++ g2) from m) with rfl | m
      · exact w.ok.zd _ z hp
      · exact w.ok.nz a (List.mem_append_right _ m) z
  · rcases List.mem_append.mp m with m | m
    · exact .inl (List.mem_append_left _ m)
    · rcases List.mem_cons.mp (show a ∈ p :: (g1 ++ g2) from m) with rfl | m
      · exact .inr hp
      · exact .inl (List.mem_append_right _ m)
/-- what stands on top is frozen -/
theorem Wd.frz (w : Wd B H σ δ (v :: T) (o :: τ)) : Wd B H σ δ (v :: T) (.im o.fz :: τ) := by
  obtain ⟨Z, f, g, w⟩ := w
  have ht := w.t
  cases ht with
  | cons h1 h2 =>
    rename_i g1 g2
    obtain ⟨nd, na⟩ := nodup_parts w.ok.nd
    refine w.to (Z' := fun a => Z a ∨ a ∈ g1) (f' := f) (g' := [] ++ g2) (w.s.keep (w.kEx (.refl H) fun _ => .inl)) (.cons (.im (h1.freeze (fun _ => .inl) fun _ => .inr)) (h2.keep (w.kEx (.refl H) fun _ => .inl))) ⟨nd, fun a m z => ?_, fun a z q => ?_⟩
      ⟨fun a o h _ => h, fun _ => .inl, fun a z => z.elim .inl fun m => .inr (.inl (List.mem_append_right _ (List.mem_append_left _ m)))⟩ (fun a m => .inl ?_) fun _ _ => rfl
    · rcases z with z | z
      · exact w.ok.nz a ((List.mem_append.mp m).elim (List.mem_append_left _) fun m => List.mem_append_right _ (List.mem_append_right _ m)) z
      · exact na a m z
    · rcases z with z | z
      · exact w.ok.zd a z q
      · obtain ⟨xs, e2⟩ := h1.lsts a z
        rw [q] at e2
        cases e2
    · exact (List.mem_append.mp m).elim (List.mem_append_left _) fun m => List.mem_append_right _ (List.mem_append_right _ m)
/-- a part of frozen data on top -/
theorem Wd.part {d : D} {u : V} (w : Wd B H σ δ T τ) (h : ∀ Z f g, Wx B H σ δ T τ Z f g → Df B.K H Z u d) : Wd B H σ δ (u :: T) (.im d :: τ) := by
  obtain ⟨Z, f, g, w⟩ := w
  exact ⟨Z, f, g, w.s, OwL.cons (f := []) (.im (h Z f g w)) w.t, w.ok, w.st, w.fr, w.pr, w.tq⟩
theorem Wx.slot (w : Wx B H σ δ T τ Z f g) (h : dget δ i = some o) : ∃ v fo fr, σ[i]? = some (some v) ∧ Ow B.K H Z v o fo ∧ f.Perm (fo ++ fr) ∧
    ∀ {H' : Hp} {Z' : Addr → Prop} {x' : Option V} {o' : Option OV} {fo' : List Addr}, Kp fr B.K H Z H' Z' → SlOk B.K H' Z' x' o' fo' → ∃ f', OwS B.K H' Z' (σ.set i x') (dset δ i o') f' ∧ f'.Perm (fo' ++ fr) := by
  have hi : i < σ.length := by
    rw [w.s.length]
    refine Classical.byContradiction fun n => ?_
    rw [dget_none (by omega)] at h
    cases h
  obtain ⟨fo, fr, s, p, q⟩ := w.s.focus (i := i) (x := σ[i]) (by simp [hi])
  rw [h] at s
  obtain ⟨v, e, ow⟩ := s
  refine ⟨v, fo, fr, by rw [← e]; simp [hi], ow, p, q⟩
theorem set_id {α : Type} {l : List α} {i : Nat} {x : α} (h : l[i]? = some x) : l.set i x = l := by
  apply List.ext_getElem?
  intro j
  by_cases hj : i = j
  · subst hj
    obtain ⟨hl, e⟩ := List.getElem?_eq_some_iff.mp h
    rw [List.getElem?_set_self hl, h]
  · rw [List.getElem?_set_ne hj]
/-- a name's value moved to the top -/
theorem Wd.mv (w : Wd B H σ δ T τ) (h : dget δ i = some o) : ∃ v, σ[i]? = some (some v) ∧ Wd B H σ (dset δ i none) (v :: T) (o :: τ) := by
  obtain ⟨Z, f, g, w⟩ := w
  obtain ⟨v, fo, fr, e, ow, pm, put⟩ := w.slot h
  obtain ⟨f', hs, pf⟩ := put (o' := none) (x' := some v) (fo' := []) (w.kEx (.refl H) fun _ z => z) rfl
  rw [set_id e] at hs
  have pp : (f' ++ (fo ++ g)).Perm (f ++ g) := by
    refine (List.Perm.append_right _ pf).trans ?_
    rw [List.nil_append, ← List.append_assoc]
    exact List.Perm.append_right g (List.perm_append_comm.trans pm.symm)
  exact ⟨v, e, Z, f', fo ++ g, hs, .cons ow w.t, ⟨pp.nodup_iff.mpr w.ok.nd, fun a m => w.ok.nz a (pp.mem_iff.mp m), w.ok.zd⟩, w.st, fun a m => w.fr a (pp.mem_iff.mp m), w.pr, w.tq⟩
/-- the value on top put to the slot that holds it -/
theorem Wd.back (w : Wd B H σ δ (v :: T) (o :: τ)) (e : σ[i]? = some (some v)) : Wd B H σ (dset δ i (some o)) T τ := by
  obtain ⟨Z, f, g, w⟩ := w
  have ht := w.t
  cases ht with
  | cons h1 h2 =>
    rename_i g1 g2
    obtain ⟨fo, fr, s, pm, put⟩ := w.s.focus (i := i) e
    obtain ⟨f', hs, pf⟩ := put (o' := some o) (x' := some v) (fo' := g1) (w.kEx (.refl H) fun _ z => z) ⟨v, rfl, h1⟩
    rw [set_id e] at hs
    have pp : (f ++ (g1 ++ g2)).Perm (fo ++ (f' ++ g2)) := by
      refine (List.Perm.append_right _ pm).trans ?_
      rw [List.append_assoc]
      refine List.Perm.append_left fo ?_
      rw [← List.append_assoc]
      exact List.Perm.append_right g2 (List.perm_append_comm.trans pf.symm)
    have nd := pp.nodup_iff.mp w.ok.nd
    have hm : ∀ a ∈ f' ++ g2, a ∈ f ++ (g1 ++ g2) := fun a m => pp.mem_iff.mpr (List.mem_append_right _ m)
    exact ⟨Z, f', g2, hs, h2, ⟨(List.nodup_append.mp nd).2.1, fun a m => w.ok.nz a (hm a m), w.ok.zd⟩, w.st, fun a m => w.fr a (hm a m), w.pr, w.tq⟩
/-- the value on top stored in a slot -/
theorem Wd.set (w : Wd B H σ δ (v :: T) (o :: τ)) (hP : i ∉ B.P) : Wd B H (σ.set i (some v)) (dset δ i (some o)) T τ := by
  obtain ⟨Z, f, g, w⟩ := w
  have hpr : ∀ j ∈ B.P, (σ.set i (some v))[j]? = B.σ0[j]? := fun j m => by
    rw [List.getElem?_set_ne fun e => hP (by rw [e]; exact m)]
    exact w.pr j m
  by_cases hi : i < σ.length
  · have ht := w.t
    cases ht with
    | cons h1 h2 =>
      rename_i g1 g2
      obtain ⟨fo, fr, s, pm, put⟩ := w.s.focus (i := i) (x := σ[i]) (by simp [hi])
      obtain ⟨f', hs, pf⟩ := put (o' := some o) (x' := some v) (fo' := g1) (w.kEx (.refl H) fun _ z => z) ⟨v, rfl, h1⟩
      have pp : (f ++ (g1 ++ g2)).Perm (fo ++ (f' ++ g2)) := by
        refine (List.Perm.append_right _ pm).trans ?_
        rw [List.append_assoc]
        refine List.Perm.append_left fo ?_
        rw [← List.append_assoc]
        exact List.Perm.append_right g2 (List.perm_append_comm.trans pf.symm)
      have nd := pp.nodup_iff.mp w.ok.nd
      have hm : ∀ a ∈ f' ++ g2, a ∈ f ++ (g1 ++ g2) := fun a m => pp.mem_iff.mpr (List.mem_append_right _ m)
      exact ⟨Z, f', g2, hs, h2, ⟨(List.nodup_append.mp nd).2.1, fun a m => w.ok.nz a (hm a m), w.ok.zd⟩, w.st, fun a m => w.fr a (hm a m), hpr, w.tq⟩
  · have e1 : σ.set i (some v) = σ := List.set_eq_of_length_le (by omega)
    rw [e1, dset_out _ _ _ (by rw [← w.s.length]; omega)]
    exact Wd.drop ⟨Z, f, g, w⟩
/-- a slot forgotten -/
theorem Wd.un (w : Wd B H σ δ T τ) (i : Nat) : Wd B H σ (dset δ i none) T τ := by
  cases h : dget δ i with
  | none =>
    have e : dset δ i none = δ := by
      clear w
      induction δ generalizing i with
      | nil => rfl
      | cons x δ ih =>
        cases i with
        | zero =>
          cases (show x = none from h)
          rfl
        | succ i =>
          show x :: dset δ i none = x :: δ
          rw [ih i h]
    rw [e]
    exact w
  | some o =>
    obtain ⟨v, _, w1⟩ := w.mv h
    exact w1.drop
theorem Wd.wipe (w : Wd B H σ δ T τ) : ∀ own : List Nat, Wd B H σ (dwipe δ own) T τ
  | [] => w
  | v :: vs => (w.wipe vs).un v
end
end DL
/-! The data layer's soundness, 6: paths, lists that change; expressions that own. -/
namespace DL
open PySem
/-! ### paths within owned lists -/
inductive PathH (H : Hp) : V → List Int → V → Prop
  | nil (v : V) : PathH H v [] v
  | cons {a : Addr} {vs : List V} {k : Int} {u v : V} {is : List Int} : H a = some (.lst vs) → atD vs k = some u → PathH H u is v → PathH H (.ref a) (k :: is) v
theorem PathH.ex {H H' : Hp} (e : Ex H H') : ∀ {v u : V} {is : List Int}, PathH H v is u → PathH H' v is u
  | _, _, _, .nil v => .nil v
  | _, _, _, .cons h1 h2 h3 => .cons (e _ _ h1) h2 (h3.ex e)
theorem PathH.inj {H : Hp} : ∀ {v u w : V} {is : List Int}, PathH H v is u → PathH H v is w → u = w
  | _, _, _, _, .nil _, .nil _ => rfl
  | _, _, _, _, .cons h1 h2 h3, .cons k1 k2 k3 => by
    rw [h1] at k1
    cases k1
    rw [h2] at k2
    cases k2
    exact h3.inj k3
theorem PathH.snoc {H : Hp} : ∀ {v : V} {is : List Int} {a : Addr} {vs : List V} {k : Int} {u : V}, PathH H v is (.ref a) → H a = some (.lst vs) → atD vs k = some u → PathH H v (is ++ [k]) u
  | _, _, _, _, _, _, .nil _, h1, h2 => .cons h1 h2 (.nil _)
  | _, _, _, _, _, _, .cons g1 g2 g3, h1, h2 => .cons g1 g2 (g3.snoc h1 h2)
section
variable {K : PySem.W.Frag} {H H' : Hp} {Z Z' : Addr → Prop}
/-- one item of an owned row -/
theorem OwL.item : ∀ {vs : List V} {os : List OV} {fp : List Addr} {j : Nat} {o : OV}, OwL K H Z vs os fp → os[j]? = some o →
    ∃ u f1 g1, vs[j]? = some u ∧ Ow K H Z u o f1 ∧ fp.Perm (f1 ++ g1) ∧ ∀ {H' : Hp} {Z' : Addr → Prop} {u' : V} {o' : OV} {f1' : List Addr}, Kp g1 K H Z H' Z' → Ow K H' Z' u' o' f1' → ∃ fp', OwL K H' Z' (vs.set j u') (os.set j o') fp' ∧ fp'.Perm (f1' ++ g1)
  | _, _, _, _, _, .nil, e => by simp at e
  | _, _, _, 0, o, .cons (f := f) (g := g) a b, e => by
    simp only [List.getElem?_cons_zero, Option.some.injEq] at e
    subst e
    exact ⟨_, f, g, rfl, a, .refl _, fun k h => ⟨_, .cons h (b.keep k), .refl _⟩⟩
  | _, _, _, j + 1, o, .cons (f := f) (g := g) a b, e => by
    obtain ⟨u, f1, g1, h1, h2, h3, h4⟩ := b.item (j := j) (o := o) (by simpa using e)
    refine ⟨u, f1, f ++ g1, by simpa using h1, h2, (List.Perm.append_left f h3).trans ?_, fun {H' Z' u' o' f1'} k h => ?_⟩
    · rw [← List.append_assoc, ← List.append_assoc]
      exact List.Perm.append_right g1 List.perm_append_comm
    · obtain ⟨fp', k1, k2⟩ := h4 (k.mono fun _ m => List.mem_append_right _ m) h
      refine ⟨f ++ fp', .cons (a.keep (k.mono fun _ m => List.mem_append_left _ m)) k1, (List.Perm.append_left f k2).trans ?_⟩
      rw [← List.append_assoc, ← List.append_assoc]
      exact List.Perm.append_right g1 List.perm_append_comm
theorem ixD_lt {n : Nat} {i : Int} {j : Nat} (h : ixD n i = some j) : j < n := by
  unfold ixD at h
  by_cases h0 : 0 ≤ i
  · rw [if_pos h0] at h
    by_cases h1 : i < n
    · rw [if_pos h1] at h
      have e := Option.some.inj h
      omega
    · rw [if_neg h1] at h; cases h
  · rw [if_neg h0] at h
    by_cases h1 : -(n : Int) ≤ i
    · rw [if_pos h1] at h
      have e := Option.some.inj h
      omega
    · rw [if_neg h1] at h; cases h
theorem atD_ix {α : Type} {xs : List α} {i : Int} {x : α} (h : atD xs i = some x) : ∃ j, ixD xs.length i = some j ∧ xs[j]? = some x := by
  unfold atD at h
  cases e : ixD xs.length i with
  | none => rw [e] at h; cases h
  | some j => rw [e] at h; exact ⟨j, rfl, h⟩
theorem atD_of {α : Type} {xs : List α} {i : Int} {j : Nat} {x : α} (h : ixD xs.length i = some j) (e : xs[j]? = some x) : atD xs i = some x := by
  unfold atD
  rw [h]
  exact e
/-- the owned list at a path -/
theorem Ow.path {os : List OV} : ∀ {is : List Int} {v : V} {c : OV} {fo : List Addr}, Ow K H Z v c fo → getP c is = some (.lst os) →
    ∃ a vs fs fr, PathH H v is (.ref a) ∧ H a = some (.lst vs) ∧ OwL K H Z vs os fs ∧ fo.Perm ((a :: fs) ++ fr) ∧
      ∀ {H' : Hp} {Z' : Addr → Prop} {vs' : List V} {os' : List OV} {fs' : List Addr}, Kp fr K H Z H' Z' → H' a = some (.lst vs') → OwL K H' Z' vs' os' fs' → ∃ fo', Ow K H' Z' v (setP c is (.lst os')) fo' ∧ fo'.Perm ((a :: fs') ++ fr)
  | [], v, c, fo, h, e => by
    simp only [getP, Option.some.injEq] at e
    subst e
    cases h with
    | lst h1 h2 => exact ⟨_, _, _, [], .nil _, h1, h2, by rw [List.append_nil], fun _ h1' h2' => ⟨_, .lst h1' h2', by rw [List.append_nil]⟩⟩
  | k :: is, v, c, fo, h, e => by
    cases h with
    | im h => simp [getP] at e
    | lst h1 h2 =>
      rename_i b ws cs fp
      simp only [getP] at e
      cases q : atD cs k with
      | none => rw [q] at e; cases e
      | some c1 =>
        rw [q] at e
        obtain ⟨j, hj, hc⟩ := atD_ix q
        obtain ⟨u, f1, g1, hu, ou, pf, put⟩ := h2.item hc
        obtain ⟨a, vs, fs, fr, p1, p2, p3, p4, p5⟩ := Ow.path (is := is) ou (show getP c1 is = some (.lst os) from e)
        refine ⟨a, vs, fs, b :: (fr ++ g1), .cons h1 (atD_of (by rw [h2.length]; exact hj) hu) p1, p2, p3, ?_, fun {H' Z' vs' os' fs'} kp ha hn => ?_⟩
        · refine ((pf.trans (List.Perm.append_right g1 p4)).cons b).trans ?_
          rw [List.append_assoc]
          exact (List.perm_middle (l₁ := a :: fs) (a := b) (l₂ := fr ++ g1)).symm
        · obtain ⟨fo1, q1, q2⟩ := p5 (kp.mono fun _ m => List.mem_cons_of_mem _ (List.mem_append_left _ m)) ha hn
          obtain ⟨fp', q3, q4⟩ := put (u' := u) (kp.mono fun _ m => List.mem_cons_of_mem _ (List.mem_append_right _ m)) q1
          have es : setP (.lst cs) (k :: is) (.lst os') = .lst (cs.set j (setP c1 is (.lst os'))) := by
            simp only [setP]
            rw [hj]
            simp only []
            rw [hc]
          rw [es]
          rw [set_id hu] at q3
          refine ⟨b :: fp', .lst (kp.sk _ _ List.mem_cons_self h1) q3, ?_⟩
          refine ((q4.trans (List.Perm.append_right g1 q2)).cons b).trans ?_
          rw [List.append_assoc]
          exact (List.perm_middle (l₁ := a :: fs') (a := b) (l₂ := fr ++ g1)).symm
end
section
variable {B : Base} {H H' : Hp} {σ σ' : L2.St} {δ δ' : DE} {T T' vs : List V} {τ τ' os : List OV} {Z Z' : Addr → Prop} {f g f' g' : List Addr} {v : V} {o c : OV} {p : Addr} {i : Nat}
/-- the owned list at a path of a name gets other contents -/
theorem Wx.mut {is : List Int} (w : Wx B H σ δ T τ Z f g) (hd : dget δ i = some c) (hp : getP c is = some (.lst os)) :
    ∃ v a vs fs, σ[i]? = some (some v) ∧ PathH H v is (.ref a) ∧ H a = some (.lst vs) ∧ OwL B.K H Z vs os fs ∧
      ∀ {vs' : List V} {os' : List OV} {fs' : List Addr} {T' : List V} {τ' : List OV} {g' rest : List Addr}, OwL B.K H Z vs' os' fs' → OwL B.K H Z T' τ' g' → (fs ++ g).Perm ((fs' ++ g') ++ rest) →
        Wd B (L2.upd H a (.lst vs')) σ (dset δ i (some (setP c is (.lst os')))) T' τ' := by
  obtain ⟨v, fo, fr, e, ow, pm, put⟩ := w.slot hd
  obtain ⟨a, vs, fs, fr2, p1, p2, p3, p4, p5⟩ := ow.path hp
  refine ⟨v, a, vs, fs, e, p1, p2, p3, fun {vs' os' fs' T' τ' g' rest} h1 h2 hpm => ?_⟩
  -- everything there is, in one row
  have all : (f ++ g).Perm (a :: ((fs ++ g) ++ (fr2 ++ fr))) := by
    refine (List.Perm.append_right g (pm.trans (List.Perm.append_right fr p4))).trans ?_
    refine .cons a ?_
    show (((fs ++ fr2) ++ fr) ++ g).Perm ((fs ++ g) ++ (fr2 ++ fr))
    rw [List.append_assoc, List.append_assoc, List.append_assoc]
    refine List.Perm.append_left fs ?_
    rw [← List.append_assoc]
    exact List.perm_append_comm
  have all2 : (f ++ g).Perm (a :: (((fs' ++ g') ++ rest) ++ (fr2 ++ fr))) := all.trans (.cons a (List.Perm.append_right _ hpm))
  have nd := all2.nodup_iff.mp w.ok.nd
  obtain ⟨na, nd1⟩ := List.nodup_cons.mp nd
  have mem : ∀ x ∈ a :: (((fs' ++ g') ++ rest) ++ (fr2 ++ fr)), x ∈ f ++ g := fun x m => all2.mem_iff.mpr m
  have kp : ∀ {S : List Addr}, a ∉ S → Kp S B.K H Z (L2.upd H a (.lst vs')) Z := fun {S} hS => ⟨fun b xs h => SqT.grown p2 h, fun b xs h => ⟨h.1, by
      rw [L2.upd_ne (fun z => w.ok.nz a (mem a List.mem_cons_self) (by rw [← z]; exact h.1))]
      exact h.2⟩, fun b xs m h => by
      rw [L2.upd_ne (fun z => hS (by rw [← z]; exact m))]
      exact h⟩
  have n1 : a ∉ fs' := fun m => na (List.mem_append_left _ (List.mem_append_left _ (List.mem_append_left _ m)))
  have n2 : a ∉ g' := fun m => na (List.mem_append_left _ (List.mem_append_left _ (List.mem_append_right _ m)))
  have n3 : a ∉ fr2 := fun m => na (List.mem_append_right _ (List.mem_append_left _ m))
  have n4 : a ∉ fr := fun m => na (List.mem_append_right _ (List.mem_append_right _ m))
  obtain ⟨fo', q1, q2⟩ := p5 (kp n3) L2.upd_same (h1.keep (kp n1))
  obtain ⟨f', q3, q4⟩ := put (o' := some (setP c is (.lst os'))) (x' := some v) (kp n4) ⟨v, rfl, q1⟩
  rw [set_id e] at q3
  have pp : (f' ++ g').Perm (a :: ((fs' ++ g') ++ (fr2 ++ fr))) := by
    refine (List.Perm.append_right g' (q4.trans (List.Perm.append_right fr q2))).trans ?_
    refine .cons a ?_
    show (((fs' ++ fr2) ++ fr) ++ g').Perm ((fs' ++ g') ++ (fr2 ++ fr))
    rw [List.append_assoc, List.append_assoc, List.append_assoc]
    refine List.Perm.append_left fs' ?_
    rw [← List.append_assoc]
    exact List.perm_append_comm
  have sub : ∀ x ∈ f' ++ g', x ∈ f ++ g := fun x m => by
    refine mem x ?_
    rcases List.mem_cons.mp (pp.mem_iff.mp m) with rfl | m
    · exact List.mem_cons_self
    · refine List.mem_cons_of_mem _ ?_
      rcases List.mem_append.mp m with m | m
      · exact List.mem_append_left _ (List.mem_append_left _ m)
      · exact List.mem_append_right _ m
  have nd2 : (f' ++ g').Nodup := by
    refine pp.nodup_iff.mpr (nd.sublist (List.Sublist.cons_cons a (List.Sublist.append_right (List.sublist_append_left _ _) _)))
  refine w.to (Z' := Z) q3 (h2.keep (kp n2)) ⟨nd2, fun x m => w.ok.nz x (sub x m), fun x z q => ?_⟩ ⟨fun x u h n => ?_, fun _ z => z, fun _ z => .inl z⟩ (fun x m => .inl (sub x m)) fun _ _ => rfl
  · by_cases hx : x = a
    · rw [hx, L2.upd_same] at q; cases q
    · rw [L2.upd_ne hx] at q
      exact w.ok.zd x z q
  · rw [L2.upd_ne (fun z => n (by rw [z]; exact mem a List.mem_cons_self))]
    exact h
/-- the temps in another turn -/
theorem Wd.rot (w : Wd B H σ δ (vs ++ (v :: T)) (os ++ (o :: τ))) (hl : vs.length = os.length) : Wd B H σ δ ((v :: vs) ++ T) ((o :: os) ++ τ) := by
  obtain ⟨Z, f, g, w⟩ := w
  obtain ⟨g1, g2, rfl, h1, h2⟩ := w.t.split hl
  cases h2 with
  | cons a b =>
    rename_i g3 g4
    have pp : (g1 ++ (g3 ++ g4)).Perm ((g3 ++ g1) ++ g4) := by
      rw [← List.append_assoc]
      exact List.Perm.append_right g4 List.perm_append_comm
    have p2 : (f ++ (g1 ++ (g3 ++ g4))).Perm (f ++ ((g3 ++ g1) ++ g4)) := List.Perm.append_left f pp
    exact ⟨Z, f, (g3 ++ g1) ++ g4, w.s, (OwL.cons a h1).append b, ⟨p2.nodup_iff.mp w.ok.nd, fun a m => w.ok.nz a (p2.mem_iff.mpr m), w.ok.zd⟩, w.st, fun a m => w.fr a (p2.mem_iff.mpr m), w.pr, w.tq⟩
theorem Wd.swap {u : V} {k : OV} (w : Wd B H σ δ (u :: v :: T) (k :: o :: τ)) : Wd B H σ δ (v :: u :: T) (o :: k :: τ) := Wd.rot (vs := [u]) (os := [k]) w rfl
theorem Wd.top (w : Wd B H σ δ (v :: T) (o :: τ)) : Dr B.K H v o.fz := by
  obtain ⟨Z, f, g, w⟩ := w
  cases w.t with
  | cons a b => exact a.read
theorem Wd.tops : ∀ {vs : List V} {os : List OV}, vs.length = os.length → Wd B H σ δ (vs ++ T) (os ++ τ) → DrL B.K H vs (fzL os) := fun {vs os} hl w => by
  obtain ⟨Z, f, g, w⟩ := w
  obtain ⟨g1, g2, _, h1, _⟩ := w.t.split hl
  exact h1.read
end
end DL
/-! The data layer's soundness, 7: judgements of what owns; expressions. -/
namespace DL
open PySem
def SndE (K : PySem.W.Frag) (P : List Nat) (W : WX) (te : L2.TE) (e : EX) : Prop :=
  ∀ (B : Base), B.K = K → B.P = P → ∀ (σ : L2.St) (δ : DE) (H : Hp) (T : List V) (τ : List OV), Wd B H σ δ T τ → ∀ (Qd : OV → DE → Prop) (Xd : Xc → DE → Prop), e δ Qd Xd → ∀ Q : L2.VK,
    (∀ v o δ' H', Qd o δ' → Wd B H' σ δ' (v :: T) (o :: τ) → Q v H') → (∀ x cls dd δ' H', Xd x δ' → Wd B H' σ δ' [] [] → XR K H' cls dd x → W cls dd σ H') → te σ H Q
def SndEA (K : PySem.W.Frag) (P : List Nat) (W : WX) (ta : L2.TA) (e : EAx) (lt : List (Option Nat)) : Prop :=
  ∀ (B : Base), B.K = K → B.P = P → ∀ (σ : L2.St) (δ : DE) (H : Hp) (T : List V) (τ : List OV), Wd B H σ δ T τ → ∀ (Qd : List OV → DE → Prop) (Xd : Xc → DE → Prop), e δ Qd Xd → ∀ Q : List V → Hp → Prop,
    (∀ vs os δ' H', Qd os δ' → Wd B H' σ δ' (vs ++ T) (os ++ τ) → vs.length = os.length → vs.length = lt.length → (∀ (k j : Nat), lt[k]? = some (some j) → ∃ v, vs[k]? = some v ∧ σ[j]? = some (some v)) → Q vs H') →
    (∀ x cls dd δ' H', Xd x δ' → Wd B H' σ δ' [] [] → XR K H' cls dd x → W cls dd σ H') → ta σ H Q
def SndET (K : PySem.W.Frag) (P : List Nat) (W : WX) (tt : L2.TT) (e : ETx) : Prop :=
  ∀ (B : Base), B.K = K → B.P = P → ∀ (σ : L2.St) (δ : DE) (H : Hp) (T : List V) (τ : List OV), Wd B H σ δ T τ → ∀ (Qd : Bool → DE → Prop) (Xd : Xc → DE → Prop), e δ Qd Xd → ∀ Q : Bool → Hp → Prop,
    (∀ b δ' H', Qd b δ' → Wd B H' σ δ' T τ → Q b H') → (∀ x cls dd δ' H', Xd x δ' → Wd B H' σ δ' [] [] → XR K H' cls dd x → W cls dd σ H') → tt σ H Q
section
variable {K : PySem.W.Frag} {P : List Nat} {W : WX} {te ta tb : L2.TE} {e a b : EX} {p : PX} {t u : PT} {tt tu : L2.TT} {et eu : ETx}
theorem se_p (h : SndP K W te p) : SndE K P W te (eP p) := fun B hK hP σ δ H T τ w Qd Xd hh Q q x => by
  subst hK
  exact h σ δ H AllZ fm_all w.rd _ _ hh Q (fun v d H' hq ex r => q v _ δ H' hq.2 ((w.ex ex).push r hq.1)) fun y cls dd H' hx ex xr => x y cls dd δ H' hx (w.ex ex).dropAll xr
theorem dset_dset (x y : Option OV) : ∀ (δ : DE) (i : Nat), dset (dset δ i x) i y = dset δ i y
  | [], _ => rfl
  | _ :: _, 0 => rfl
  | z :: δ, i + 1 => by
    show z :: dset (dset δ i x) i y = z :: dset δ i y
    rw [dset_dset x y δ i]
theorem se_fr (i : Nat) : SndE K P W (L2.tVar i) (eFr i) := fun B hK hP σ δ H T τ w Qd Xd hh Q q x => by
  unfold eFr at hh
  split at hh
  · rename_i o e
    obtain ⟨v, e1, w1⟩ := w.mv e
    refine ⟨v, e1, ?_⟩
    have w2 := w1.frz
    have w3 : Wd B H σ (dset (dset δ i none) i (some (.im o.fz))) (v :: T) (.im o.fz :: τ) := by
      obtain ⟨Z, f, g, w2⟩ := w2
      have ht := w2.t
      cases ht with
      | cons a b =>
        cases a with
        | im a =>
          exact Wd.back (v := v) (o := .im o.fz) ⟨Z, f, [] ++ ([] ++ _), w2.s, OwL.cons (.im a) (OwL.cons (.im a) b), w2.ok, w2.st, w2.fr, w2.pr, w2.tq⟩ e1
    rw [dset_dset] at w3
    exact q v _ _ H hh w3
  · exact hh.elim
theorem se_mv (i : Nat) : SndE K P W (L2.tVar i) (eMv i) := fun B hK hP σ δ H T τ w Qd Xd hh Q q x => by
  unfold eMv at hh
  split at hh
  · rename_i o e
    obtain ⟨v, e1, w1⟩ := w.mv e
    exact ⟨v, e1, q v _ _ H hh w1⟩
  · exact hh.elim
theorem sea_nil : SndEA K P W L2.tNil eaNil [] := fun B hK hP σ δ H T τ w Qd Xd hh Q q x => q [] [] δ H hh w rfl rfl fun k j e => by simp at e
theorem sea_cons {tr : L2.TA} {r : EAx} {lt : List (Option Nat)} (ha : SndE K P W ta a) (hr : SndEA K P W tr r lt) : SndEA K P W (L2.tCons ta tr) (eaCons a r) (none :: lt) := fun B hK hP σ δ H T τ w Qd Xd hh Q q x =>
  ha B hK hP σ δ H T τ w _ Xd hh _ (fun v o δ1 H1 h1 w1 => hr B hK hP σ δ1 H1 _ _ w1 _ Xd h1 _ (fun vs os δ2 H2 h2 w2 hl hl2 hlt => q (v :: vs) (o :: os) δ2 H2 h2 (w2.rot hl) (by simp [hl]) (by simp [hl2]) fun k j e => by
    cases k with
    | zero => simp at e
    | succ k => simpa using hlt k j (by simpa using e)) x) x
theorem sea_mv {tr : L2.TA} {r : EAx} {lt : List (Option Nat)} (i : Nat) (hr : SndEA K P W tr r lt) : SndEA K P W (L2.tCons (L2.tVar i) tr) (eaCons (eMv i) r) (some i :: lt) := fun B hK hP σ δ H T τ w Qd Xd hh Q q x => by
  unfold eaCons eMv at hh
  split at hh
  · rename_i o e
    obtain ⟨v, e1, w1⟩ := w.mv e
    refine ⟨v, e1, hr B hK hP σ _ H _ _ w1 _ Xd hh _ (fun vs os δ2 H2 h2 w2 hl hl2 hlt => q (v :: vs) (o :: os) δ2 H2 h2 (w2.rot hl) (by simp [hl]) (by simp [hl2]) fun k j e => ?_) x⟩
    cases k with
    | zero =>
      simp at e
      subst e
      exact ⟨v, rfl, e1⟩
    | succ k => simpa using hlt k j (by simpa using e)
  · exact hh.elim
theorem se_tup {tr : L2.TA} {r : EAx} {lt : List (Option Nat)} (hr : SndEA K P W tr r lt) : SndE K P W (tTupZ tr) (eTup r) := fun B hK hP σ δ H T τ w Qd Xd hh Q q x =>
  hr B hK hP σ δ H T τ w _ Xd hh _ (fun vs os δ1 H1 h1 w1 hl _ _ => ⟨by rw [hl]; exact le_line h1.1, fun p ob hp hd => q _ _ _ _ h1.2 (w1.tup hl hp hd)⟩) x
theorem se_lst {tr : L2.TA} {r : EAx} {lt : List (Option Nat)} (hr : SndEA K P W tr r lt) : SndE K P W (L2.tLst tr) (eLst r) := fun B hK hP σ δ H T τ w Qd Xd hh Q q x =>
  hr B hK hP σ δ H T τ w _ Xd hh _ (fun vs os δ1 H1 h1 w1 hl _ _ => ⟨by rw [hl]; exact le_line h1.1, fun p hp => q _ _ _ _ h1.2 (w1.lst hl hp)⟩) x
theorem se_op {r : L2.R2} {op : R2} (ho : OpS K r op) (ha : SndE K P W ta a) (hb : SndE K P W tb b) : SndE K P W (L2.tOp r ta tb) (eOp op a b) := fun B hK hP σ δ H T τ w Qd Xd hh Q q x =>
  ha B hK hP σ δ H T τ w _ Xd hh _ (fun v o δ1 H1 h1 w1 => hb B hK hP σ δ1 H1 _ _ w1 _ Xd h1 _ (fun u k δ2 H2 h2 w2 => by
    subst hK
    exact ho v u _ _ H2 AllZ _ fm_all w2.drop.top w2.top h2 Q fun z d H3 h3 e3 r3 => q z _ δ2 H3 h3.2 ((w2.drop.drop.ex e3).push r3 h3.1)) x) x
theorem se_un {r : V → Hp → L2.VK → Prop} {op : R1} (ho : UnS K r op) (ha : SndE K P W ta a) : SndE K P W (L2.tUn r ta) (eUn op a) := fun B hK hP σ δ H T τ w Qd Xd hh Q q x =>
  ha B hK hP σ δ H T τ w _ Xd hh _ (fun v o δ1 H1 h1 w1 => by
    subst hK
    exact ho v _ H1 AllZ _ fm_all w1.top h1 Q fun z d H3 h3 e3 r3 => q z _ δ1 H3 h3.2 ((w1.drop.ex e3).push r3 h3.1)) x
theorem se_cb {r : List V → Hp → L2.VK → Prop} {op : RL} {t1 : L2.TA} {a : EAx} {lt : List (Option Nat)} (ho : CbS K r op) (ha : SndEA K P W t1 a lt) : SndE K P W (L2.tCB r t1) (eCB op a) := fun B hK hP σ δ H T τ w Qd Xd hh Q q x =>
  ha B hK hP σ δ H T τ w _ Xd hh _ (fun vs os δ1 H1 h1 w1 hl _ _ => by
    subst hK
    exact ho vs _ H1 AllZ _ fm_all (w1.tops hl) h1 Q fun z d H3 h3 e3 r3 => q z _ δ1 H3 h3.2 (((w1.drops hl).ex e3).push r3 h3.1)) x
/-- a builtin that makes a new list -/
def CbF (K : PySem.W.Frag) (r : List V → Hp → L2.VK → Prop) (op : RL) : Prop :=
  ∀ (xs : List V) (ds : List D) (H : Hp) (Qd : D → Prop), DrL K H xs ds → op ds Qd → ∀ Q : L2.VK, (∀ a vs zs H1 H', Qd (.lst zs) → Ex H H1 → H1 a = none → H' = L2.upd H1 a (.lst vs) → DrL K H' vs zs → Q (.ref a) H') → r xs H Q
theorem Wd.new {B : Base} {H : Hp} {σ : L2.St} {δ : DE} {T : List V} {τ : List OV} {a : Addr} {vs : List V} {zs : List D} (w : Wd B H σ δ T τ) (ha : H a = none) (r : DrL B.K (L2.upd H a (.lst vs)) vs zs) (n : nolL zs = true) :
    Wd B (L2.upd H a (.lst vs)) σ δ (.ref a :: T) (.lst (zs.map .im) :: τ) := by
  have r2 : ∀ Z, DfL B.K H Z vs zs := fun Z => r.nol (fun b xs h => by
    have back : ∀ u : HO, (∀ ws, u ≠ .lst ws) → L2.upd H a (.lst vs) b = some u → H b = some u := fun u hu h => by
      by_cases e : b = a
      · rw [e, L2.upd_same] at h
        exact absurd (Option.some.inj h).symm (hu vs)
      · rw [L2.upd_ne e] at h
        exact h
    exact h.to (back _ fun _ z => by cases z) fun ob u => back _ fun _ z => by cases z) n
  obtain ⟨Z, f, g, w⟩ := w
  exact Wd.lst (vs := vs) (os := zs.map .im) ⟨Z, f, [] ++ g, w.s, (OwL.im (r2 Z)).append w.t, w.ok, w.st, w.fr, w.pr, w.tq⟩ (by rw [List.length_map]; exact (r2 Z).length) ha
theorem se_cbF {r : List V → Hp → L2.VK → Prop} {op : RL} {t1 : L2.TA} {a : EAx} {lt : List (Option Nat)} (ho : CbF K r op) (ha : SndEA K P W t1 a lt) : SndE K P W (L2.tCB r t1) (eCBF op a) := fun B hK hP σ δ H T τ w Qd Xd hh Q q x =>
  ha B hK hP σ δ H T τ w _ Xd hh _ (fun vs os δ1 H1 h1 w1 hl _ _ => by
    subst hK
    refine ho vs _ H1 _ (w1.tops hl) h1 Q fun l ws zs H2 H3 h3 e3 hn hu r3 => ?_
    subst hu
    exact q _ _ δ1 _ h3.2 (((w1.drops hl).ex e3).new hn r3 h3.1)) x
/-- the same, the arguments pure -/
theorem se_pF {r : List V → Hp → L2.VK → Prop} {op : RL} {t1 : L2.TA} {a : PAx} (ho : CbF K r op) (ha : SndPA K W t1 a) : SndE K P W (L2.tCB r t1) (eF (pCB op a)) := fun B hK hP σ δ H T τ w Qd Xd hh Q q x => by
  subst hK
  refine ha σ δ H AllZ fm_all w.rd _ _ hh _ (fun vs ds H1 h1 e1 r1 => ?_) fun y cls dd H' hx ex xr => x y cls dd δ H' hx (w.ex ex).dropAll xr
  refine ho vs ds H1 _ r1 h1 Q fun l ws zs H2 H3 h3 e3 hn hu r3 => ?_
  subst hu
  exact q _ _ δ _ h3.2 (((w.ex e1).ex e3).new hn r3 h3.1)
theorem cbF_list : CbF K (fun xs H Q => ∃ p ys, xs = [.ref p] ∧ (L2.SqL K H p ys ∨ L2.SqT K H p ys) ∧ ∀ l, H l = none → Q (.ref l) (L2.upd H l (.lst ys))) fList := fun xs ds H Qd r h Q q => by
  unfold fList at h
  split at h
  · obtain ⟨v, rfl, r1⟩ := one_of r
    cases r1 with
    | lst hq hr => exact ⟨_, _, rfl, .inl hq.sq, fun l hl => q l _ _ H _ h (.refl H) hl rfl (hr.ex (.new hl))⟩
  · obtain ⟨v, rfl, r1⟩ := one_of r
    cases r1 with
    | tup hq hr => exact ⟨_, _, rfl, .inr hq.q, fun l hl => q l _ _ H _ h (.refl H) hl rfl (hr.ex (.new hl))⟩
  · exact h.elim
/-! ### tests -/
theorem et_p (h : SndPT K W tt t) : SndET K P W tt (etP t) := fun B hK hP σ δ H T τ w Qd Xd hh Q q x => by
  subst hK
  exact h σ δ H AllZ fm_all w.rd _ _ hh Q (fun b H' hq ex => q b δ H' hq (w.ex ex)) fun y cls dd H' hx ex xr => x y cls dd δ H' hx (w.ex ex).dropAll xr
theorem bl_top {B : Base} {H : Hp} {σ : L2.St} {δ : DE} {T : List V} {τ : List OV} {v : V} {c : Bool} (w : Wd B H σ δ (v :: T) (.im (.bl c) :: τ)) : v = .bl c := by
  have r : Dr B.K H v (.bl c) := w.top
  cases r
  rfl
theorem int_top {B : Base} {H : Hp} {σ : L2.St} {δ : DE} {T : List V} {τ : List OV} {v : V} {c : Int} (w : Wd B H σ δ (v :: T) (.im (.int c) :: τ)) : v = .int c := by
  have r : Dr B.K H v (.int c) := w.top
  cases r
  rfl
theorem et_test (h : SndE K P W ta a) : SndET K P W (L2.tTest ta) (etE a) := fun B hK hP σ δ H T τ w Qd Xd hh Q q x =>
  h B hK hP σ δ H T τ w _ Xd hh _ (fun v o δ1 H1 h1 w1 => by
    split at h1
    · rename_i c
      exact ⟨c, bl_top w1, q c δ1 H1 h1 w1.drop⟩
    · exact h1.elim) x
theorem et_B (h : SndE K P W ta a) : SndET K P W (L2.tB ta) (etE a) := fun B hK hP σ δ H T τ w Qd Xd hh Q q x =>
  h B hK hP σ δ H T τ w _ Xd hh _ (fun v o δ1 H1 h1 w1 => by
    split at h1
    · rename_i c
      exact ⟨c, bl_top w1, q c δ1 H1 h1 w1.drop⟩
    · exact h1.elim) x
theorem et_and (h1 : SndET K P W tt et) (h2 : SndET K P W tu eu) : SndET K P W (L2.tAnd tt tu) (etAnd et eu) := fun B hK hP σ δ H T τ w Qd Xd hh Q q x =>
  h1 B hK hP σ δ H T τ w _ Xd hh _ (fun b δ1 H1 hb w1 => by
    cases b with
    | true => exact h2 B hK hP σ δ1 H1 T τ w1 Qd Xd hb Q q x
    | false => exact q false δ1 H1 hb w1) x
theorem et_or (h1 : SndET K P W tt et) (h2 : SndET K P W tu eu) : SndET K P W (L2.tOr tt tu) (etOr et eu) := fun B hK hP σ δ H T τ w Qd Xd hh Q q x =>
  h1 B hK hP σ δ H T τ w _ Xd hh _ (fun b δ1 H1 hb w1 => by
    cases b with
    | true => exact q true δ1 H1 hb w1
    | false => exact h2 B hK hP σ δ1 H1 T τ w1 Qd Xd hb Q q x) x
theorem et_not (h1 : SndET K P W tt et) : SndET K P W (L2.tNot tt) (etNot et) := fun B hK hP σ δ H T τ w Qd Xd hh Q q x =>
  h1 B hK hP σ δ H T τ w _ Xd hh _ (fun b δ1 H1 hb w1 => q _ δ1 H1 hb w1) x
theorem se_if (h : SndET K P W tt et) (h1 : SndE K P W ta a) (h2 : SndE K P W tb b) : SndE K P W (L2.tIf tt ta tb) (eIf et a b) := fun B hK hP σ δ H T τ w Qd Xd hh Q q x =>
  h B hK hP σ δ H T τ w _ Xd hh _ (fun c δ1 H1 hb w1 => by
    cases c with
    | true => exact h1 B hK hP σ δ1 H1 T τ w1 Qd Xd hb Q q x
    | false => exact h2 B hK hP σ δ1 H1 T τ w1 Qd Xd hb Q q x) x
/-! ### items, slices, pops -/
theorem Wd.dfTop {B : Base} {H : Hp} {σ : L2.St} {δ : DE} {T : List V} {τ : List OV} {v : V} {d : D} (w : Wd B H σ δ (v :: T) (.im d :: τ)) : ∀ Z f g, Wx B H σ δ (v :: T) (.im d :: τ) Z f g → Df B.K H Z v d := fun Z f g w => by
  cases w.t with
  | cons a b =>
    cases a with
    | im a => exact a
theorem se_ix (ha : SndE K P W ta a) (hb : SndE K P W tb b) : SndE K P W (L2.tOp (L2.rIx K) ta tb) (eIx a b) := fun B hK hP σ δ H T τ w Qd Xd hh Q q x =>
  ha B hK hP σ δ H T τ w _ Xd hh _ (fun v o δ1 H1 h1 w1 => hb B hK hP σ δ1 H1 _ _ w1.frz _ Xd h1 _ (fun u k δ2 H2 h2 w2 => by
    subst hK
    split at h2
    · rename_i i
      have eu := int_top w2
      subst eu
      have w3 := w2.drop
      split at h2
      · rename_i d ed
        have fin : ∀ {ds : List D} {vs : List V}, atD ds i = some d → (∀ Z f g, Wx B H2 σ δ2 (v :: T) (.im o.fz :: τ) Z f g → DfL B.K H2 Z vs ds) → ∃ y, atD vs i = some y ∧ Q y H2 := fun {ds vs} e hr => by
          obtain ⟨Z, f, g, w4⟩ := id w3
          obtain ⟨y, e1, _⟩ := (hr Z f g w4).at e
          refine ⟨y, e1, q y _ δ2 H2 h2 ?_⟩
          refine ⟨Z, f, g, w4.s, ?_, w4.ok, w4.st, w4.fr, w4.pr, w4.tq⟩
          have ht := w4.t
          cases ht with
          | cons a b =>
            cases a with
            | im a =>
              refine OwL.cons (f := []) (.im ?_) b
              obtain ⟨y', e1', r⟩ := (hr Z _ _ w4).at e
              rw [e1] at e1'
              cases e1'
              exact r
        obtain ⟨Z, f, g, w4⟩ := id w3
        have r0 := w3.dfTop Z f g w4
        generalize hd0 : o.fz = d0 at *
        cases r0 with
        | tup hq hr =>
          rename_i vs ds
          have e : atD ds i = some d := by
            simp only [getD] at ed
            cases q' : atD ds i with
            | none => rw [q'] at ed; cases ed
            | some z => rw [q'] at ed; simpa [getD] using ed
          obtain ⟨y, e1, r⟩ := hr.at e
          refine .inr (.inl ⟨_, _, i, y, rfl, rfl, hq.q, e1, q y _ δ2 H2 h2 ?_⟩)
          have ht := w4.t
          cases ht with
          | cons a b =>
            cases a with
            | im a => exact ⟨Z, f, [] ++ _, w4.s, OwL.cons (f := []) (.im r) b, w4.ok, w4.st, w4.fr, w4.pr, w4.tq⟩
        | lst hq hr =>
          rename_i vs ds
          have e : atD ds i = some d := by
            simp only [getD] at ed
            cases q' : atD ds i with
            | none => rw [q'] at ed; cases ed
            | some z => rw [q'] at ed; simpa [getD] using ed
          obtain ⟨y, e1, r⟩ := hr.at e
          refine .inl ⟨_, _, i, y, rfl, rfl, hq.sq, e1, q y _ δ2 H2 h2 ?_⟩
          have ht := w4.t
          cases ht with
          | cons a b =>
            cases a with
            | im a => exact ⟨Z, f, [] ++ _, w4.s, OwL.cons (f := []) (.im r) b, w4.ok, w4.st, w4.fr, w4.pr, w4.tq⟩
        | _ => simp [getD] at ed
      · exact h2.elim
    · exact h2.elim) x) x
theorem se_sl {tl th : L2.TO} {lo hi : PO} (ha : SndE K P W ta a) (hl : SndPO K W tl lo) (hh : SndPO K W th hi) : SndE K P W (L2.tSl (rSlAll K) ta tl th) (eSl a lo hi) := fun B hK hP σ δ H T τ w Qd Xd h Q q x =>
  ha B hK hP σ δ H T τ w _ Xd h _ (fun v o δ1 H1 h1 w1 => by
    subst hK
    refine hl σ δ1 H1 AllZ fm_all w1.rd _ _ h1 _ (fun l H2 h2 e2 => hh σ δ1 H2 AllZ fm_all (w1.ex e2).rd _ _ h2 _ (fun u H3 h3 e3 => slS fm_all ((w1.ex e2).ex e3).top h3 fun z d H4 h4 e4 r4 => q z _ δ1 H4 h4.2 (((((w1.ex e2).ex e3).drop).ex e4).push r4 h4.1))
      fun y cls dd H' hx ex xr => x y cls dd δ1 H' hx ((w1.ex e2).ex ex).dropAll xr) fun y cls dd H' hx ex xr => x y cls dd δ1 H' hx (w1.ex ex).dropAll xr) x
theorem atD_last {α : Type} {xs : List α} : xs[xs.length - 1]? = xs.getLast? := by rw [List.getLast?_eq_getElem?]
theorem se_pop (i : Nat) : SndE K P W (L2.tBM0 K "list" L2.rPop (L2.tVar i)) (ePop i) := fun B hK hP σ δ H T τ w Qd Xd hh Q q x => by
  unfold ePop at hh
  split at hh
  · rename_i os e
    split at hh
    · rename_i o eo
      obtain ⟨Z, f, g, w⟩ := w
      obtain ⟨v, a, vs, fs, e1, pt, ha, hs, go⟩ := w.mut (is := []) (os := os) e rfl
      cases pt
      have hl := hs.length
      have e2 : os = os.dropLast ++ [o] := by
        obtain ⟨ys, z⟩ := List.getLast?_eq_some_iff.mp eo
        rw [z, List.dropLast_concat]
      have hne : vs ≠ [] := fun z => by
        rw [z] at hl
        rw [e2] at hl
        simp at hl
      have e3 : vs = vs.dropLast ++ [vs.getLast hne] := (List.dropLast_concat_getLast hne).symm
      have hs2 : OwL B.K H Z (vs.dropLast ++ [vs.getLast hne]) (os.dropLast ++ [o]) fs := by rw [← e3, ← e2]; exact hs
      obtain ⟨f1, f2, ef, h1, h2⟩ := hs2.split (by simp [hl])
      refine ⟨_, e1, .inl ⟨rfl, vs, .inl (.inl ha)⟩, a, vs, vs.getLast hne, rfl, rfl, ha, ?_, ?_⟩
      · rw [atD_last, List.getLast?_eq_some_getLast hne]
      · refine q _ _ _ _ hh (go (rest := []) h1 (h2.append w.t) ?_)
        rw [ef, List.append_nil, List.append_assoc]
    · exact hh.elim
  · exact hh.elim
end
end DL
/-! The data layer's soundness, 8: calls that lend, paths, what is walked, comprehensions that own. -/
namespace DL
open PySem
section
variable {B : Base} {H H' : Hp} {σ σ' : L2.St} {δ δ' : DE} {T T' vs : List V} {τ τ' os : List OV} {Z Z' : Addr → Prop} {f g f' g' : List Addr} {v : V} {o c : OV} {i : Nat}
theorem Wd.unrot (w : Wd B H σ δ ((v :: vs) ++ T) ((o :: os) ++ τ)) (hl : vs.length = os.length) : Wd B H σ δ (vs ++ (v :: T)) (os ++ (o :: τ)) := by
  obtain ⟨Z, f, g, w⟩ := w
  have ht := w.t
  cases ht with
  | cons a b =>
    rename_i g1 g2
    obtain ⟨g3, g4, rfl, h1, h2⟩ := OwL.split hl b
    have pp : (g1 ++ (g3 ++ g4)).Perm (g3 ++ (g1 ++ g4)) := by
      rw [← List.append_assoc, ← List.append_assoc]
      exact List.Perm.append_right g4 List.perm_append_comm
    have p2 : (f ++ (g1 ++ (g3 ++ g4))).Perm (f ++ (g3 ++ (g1 ++ g4))) := List.Perm.append_left f pp
    exact ⟨Z, f, g3 ++ (g1 ++ g4), w.s, h1.append (.cons a h2), ⟨p2.nodup_iff.mp w.ok.nd, fun a m => w.ok.nz a (p2.mem_iff.mpr m), w.ok.zd⟩, w.st, fun a m => w.fr a (p2.mem_iff.mpr m), w.pr, w.tq⟩
theorem Wd.backs : ∀ {δ : DE} {lv : List V} {os : List OV} {js : List Nat}, Wd B H σ δ (lv ++ T) (os ++ τ) → lv.length = os.length → os.length = js.length → (∀ (k : Nat) (v : V) (j : Nat), lv[k]? = some v → js[k]? = some j → σ[j]? = some (some v)) → Wd B H σ (dputs δ js os) T τ
  | δ, [], [], [], w, _, _, _ => w
  | δ, v :: lv, o :: os, j :: js, w, h1, h2, h => by
    have w1 : Wd B H σ (dset δ j (some o)) (lv ++ T) (os ++ τ) := Wd.back (v := v) (o := o) w (h 0 v j rfl rfl)
    exact Wd.backs (js := js) w1 (by simpa using h1) (by simpa using h2) fun k u l e1 e2 => h (k + 1) u l (by simpa using e1) (by simpa using e2)
/-- the positions of the lent arguments, their names -/
def lentP : Nat → List (Option Nat) → List Nat
  | _, [] => []
  | k, none :: r => lentP (k + 1) r
  | k, some _ :: r => k :: lentP (k + 1) r
def lentJ : List (Option Nat) → List Nat
  | [] => []
  | none :: r => lentJ r
  | some j :: r => j :: lentJ r
theorem lent_get : ∀ (lt : List (Option Nat)) (pre vs : List V), vs.length = lt.length → (∀ (k j : Nat), lt[k]? = some (some j) → ∃ v, vs[k]? = some v ∧ σ[j]? = some (some v)) →
    (lentV (lentP pre.length lt) (pre ++ vs)).length = (lentJ lt).length ∧ ∀ (k : Nat) (v : V) (j : Nat), (lentV (lentP pre.length lt) (pre ++ vs))[k]? = some v → (lentJ lt)[k]? = some j → σ[j]? = some (some v)
  | [], pre, [], _, _ => ⟨rfl, fun k v j e _ => by simp [lentP, lentV] at e⟩
  | x :: lt, pre, v :: vs, hl, h => by
    have ih := lent_get lt (pre ++ [v]) vs (by simpa using hl) fun k j e => by simpa using h (k + 1) j (by simpa using e)
    have e1 : (pre ++ [v]).length = pre.length + 1 := by simp
    have e2 : pre ++ [v] ++ vs = pre ++ v :: vs := by simp
    rw [e1, e2] at ih
    cases x with
    | none => exact ih
    | some j =>
      have e3 : (pre ++ v :: vs)[pre.length]? = some v := by simp
      have e4 : lentV (lentP pre.length (some j :: lt)) (pre ++ v :: vs) = v :: lentV (lentP (pre.length + 1) lt) (pre ++ v :: vs) := by
        simp only [lentP, lentV, List.filterMap_cons, e3]
      rw [e4]
      refine ⟨by simp only [List.length_cons, lentJ, ih.1], fun k u l h1 h2 => ?_⟩
      cases k with
      | zero =>
        simp only [List.getElem?_cons_zero, Option.some.injEq, lentJ] at h1 h2
        subst h1 h2
        obtain ⟨w, q1, q2⟩ := h 0 j rfl
        simp at q1
        subst q1
        exact q2
      | succ k => exact ih.2 k u l (by simpa using h1) (by simpa [lentJ] using h2)
end
section
variable {K : PySem.W.Frag} {P : List Nat} {W : WX} {te ta tb : L2.TE} {e a b : EX} {p : PX} {t u : PT} {tt tu : L2.TT} {et eu : ETx}
theorem se_call {n : Nat} {Pf : List Nat} {F : FD} {t1 : L2.TA} {a : EAx} {lt : List (Option Nat)} {js : List Nat} (ha : SndEA K P W t1 a lt) (hp : lentP 0 lt = Pf := by rfl) (hj : lentJ lt = js := by rfl) :
    SndE K P W (L2.tCallSD (spD K n Pf F) [] (L2.WE W) t1) (eCall n F js a) := fun B hK hP σ δ H T τ w Qd Xd hh Q q x =>
  ha B hK hP σ δ H T τ w _ Xd hh _ (fun vs os δ1 H1 h1 w1 hl hl2 hlt => by
    subst hK hp hj
    show spD B.K n (lentP 0 lt) F (vs ++ []) H1 Q _
    rw [List.append_nil]
    obtain ⟨Z, f, g, w1⟩ := w1
    obtain ⟨ga, gT, rfl, r1, r2⟩ := w1.t.split hl
    have nds := List.nodup_append.mp w1.ok.nd
    have ndg := List.nodup_append.mp nds.2.1
    have la := r1.lsts
    have za : ∀ a ∈ ga, ¬ Z a := fun a m => w1.ok.nz a (List.mem_append_right _ (List.mem_append_left _ m))
    have fga : ∀ a ∈ f ++ gT, a ∉ ga := (nodup_parts w1.ok.nd).2
    refine ⟨hl.trans h1.1, os, Z, ga, _, _, r1, ⟨ndg.1, za, w1.ok.zd⟩, h1.2, fun o os' v H' Z' fo fp' ho hv hlv hok st sub => ?_, fun y cls dd H' Z' hx xr st zd' => ?_⟩
    · have kf : Kp f B.K H1 Z H' Z' := st.kp la za fun a m => fga a (List.mem_append_left _ m)
      have kT : Kp gT B.K H1 Z H' Z' := st.kp la za fun a m => fga a (List.mem_append_right _ m)
      have nz' : ∀ a ∈ f ++ gT, ¬ Z' a := fun a m z => by
        have m' : a ∈ f ++ (ga ++ gT) := (List.mem_append.mp m).elim (List.mem_append_left _) fun m => List.mem_append_right _ (List.mem_append_right _ m)
        rcases st.zn a z with k | k | k
        · exact w1.ok.nz a m' k
        · exact fga a m k
        · exact w1.no k m'
      have apart : ∀ a ∈ f ++ gT, a ∉ fo ++ fp' := fun a m k => by
        have m' : a ∈ f ++ (ga ++ gT) := (List.mem_append.mp m).elim (List.mem_append_left _) fun m => List.mem_append_right _ (List.mem_append_right _ m)
        rcases sub a k with z | z
        · exact fga a m z
        · exact w1.no z m'
      have wN : Wd B H' σ δ1 ((v :: lentV (lentP 0 lt) vs) ++ T) ((o :: os') ++ τ) := by
        refine w1.to (f' := f) (g' := (fo ++ fp') ++ gT) (w1.s.keep kf) ((OwL.cons hv hlv).append (r2.keep kT)) ⟨?_, fun a m z => ?_, hok.zd⟩ (st.mono fun a m => List.mem_append_right _ (List.mem_append_left _ m)) (fun a m => ?_) fun _ _ => rfl
        · refine List.nodup_append.mpr ⟨nds.1, List.nodup_append.mpr ⟨hok.nd, ndg.2.1, fun a m b k e => ?_⟩, fun a m b k e => ?_⟩
          · rw [← e] at k
            exact apart a (List.mem_append_right _ k) m
          · rw [← e] at k
            rcases List.mem_append.mp k with k | k
            · exact apart a (List.mem_append_left _ m) k
            · exact nds.2.2 a m a (List.mem_append_right _ k) rfl
        · rcases List.mem_append.mp m with m | m
          · exact nz' a (List.mem_append_left _ m) z
          · rcases List.mem_append.mp m with m | m
            · exact hok.nz a m z
            · exact nz' a (List.mem_append_right _ m) z
        · rcases List.mem_append.mp m with m | m
          · exact .inl (List.mem_append_left _ m)
          · rcases List.mem_append.mp m with m | m
            · exact (sub a m).elim (fun z => .inl (List.mem_append_right _ (List.mem_append_left _ z))) .inr
            · exact .inl (List.mem_append_right _ (List.mem_append_right _ m))
      have lg := lent_get (σ := σ) lt [] vs hl2 hlt
      simp only [List.nil_append, List.length_nil] at lg
      have wU := wN.unrot hlv.length
      exact q v o _ H' ho.2 (wU.backs hlv.length ho.1 lg.2)
    · have kf : Kp f B.K H1 Z H' Z' := st.kp la za fun a m => fga a (List.mem_append_left _ m)
      refine x y cls dd δ1 H' hx ?_ xr
      refine w1.to (f' := f) (g' := []) (w1.s.keep kf) .nil ⟨by rw [List.append_nil]; exact nds.1, fun a m z => ?_, zd'⟩ (st.mono fun a m => List.mem_append_right _ (List.mem_append_left _ m)) (fun a m => .inl (List.mem_append_left _ (by simpa using m))) fun _ _ => rfl
      have m1 : a ∈ f := by simpa using m
      rcases st.zn a z with k | k | k
      · exact w1.ok.nz a (List.mem_append_left _ m1) k
      · exact fga a (List.mem_append_left _ m1) k
      · exact w1.no k (List.mem_append_left _ m1)) x

/-! ### paths -/
def PtV (K : PySem.W.Frag) (H : Hp) (Z : Addr → Prop) (v : V) (is : List Int) (u : V) : OV → Prop
  | .im d => Df K H Z u d
  | .lst _ => PathH H v is u
def SndPth (K : PySem.W.Frag) (P : List Nat) (W : WX) (te : L2.TE) (i : Nat) (w : PW) : Prop :=
  ∀ (B : Base), B.K = K → B.P = P → ∀ (σ : L2.St) (δ : DE) (H : Hp) (T : List V) (τ : List OV), Wd B H σ δ T τ → ∀ (Qd : List Int → OV → Prop) (Xd : Xc → Prop), w δ Qd Xd → ∀ Q : L2.VK,
    (∀ is o c v u H' Z f g, Qd is o → Wx B H' σ δ T τ Z f g → dget δ i = some c → getP c is = some o → σ[i]? = some (some v) → PtV K H' Z v is u o → Q u H') →
    (∀ x cls dd H', Xd x → Wd B H' σ δ [] [] → XR K H' cls dd x → W cls dd σ H') → te σ H Q
theorem sth_0 (i : Nat) : SndPth K P W (L2.tVar i) i (pth0 i) := fun B hK hP σ δ H T τ w Qd Xd hh Q q x => by
  subst hK
  unfold pth0 at hh
  split at hh
  · rename_i o e
    obtain ⟨Z, f, g, w⟩ := w
    obtain ⟨v, fo, fr, e1, ow, _⟩ := w.slot e
    refine ⟨v, e1, q [] o o v v H Z f g hh w e rfl e1 ?_⟩
    cases ow with
    | im h => exact h
    | lst h1 h2 => exact .nil _
  · exact hh.elim
theorem Wx.ex {B : Base} {H H' : Hp} {σ : L2.St} {δ : DE} {T : List V} {τ : List OV} {Z : Addr → Prop} {f g : List Addr} (w : Wx B H σ δ T τ Z f g) (e : Ex H H') : Wx B H' σ δ T τ Z f g :=
  ⟨w.s.keep (w.kEx e fun _ z => z), w.t.keep (w.kEx e fun _ z => z), ⟨w.ok.nd, w.ok.nz, fun a z q => w.ok.zd a z (e.free q)⟩, w.st.trans (Stp.of_ex (L := []) (Z := Z) e) nofun, w.fr, w.pr, fun p m => ⟨(w.tq p m).1, (w.tq p m).2.ext e⟩⟩
theorem getP_snoc : ∀ (is : List Int) (c o o1 : OV) (k : Int), getP c is = some o → getP o [k] = some o1 → getP c (is ++ [k]) = some o1
  | [], c, o, o1, k, h1, h2 => by
    simp only [getP, Option.some.injEq] at h1
    subst h1
    exact h2
  | i :: is, .lst os, o, o1, k, h1, h2 => by
    simp only [getP] at h1
    show getP (.lst os) (i :: (is ++ [k])) = some o1
    simp only [getP]
    cases e : atD os i with
    | none => rw [e] at h1; cases h1
    | some z =>
      rw [e] at h1
      exact getP_snoc is z o o1 k h1 h2
  | i :: is, .im d, o, o1, k, h1, h2 => by
    simp only [getP] at h1
    show getP (.im d) (i :: (is ++ [k])) = some o1
    simp only [getP]
    cases e : getD d (i :: is) with
    | none => rw [e] at h1; cases h1
    | some z =>
      rw [e] at h1
      have h3 : o = .im z := (Option.some.inj h1).symm
      subst h3
      have key : ∀ (js : List Int) (d z : D), getD d js = some z → getD d (js ++ [k]) = getD z [k] := fun js => by
        induction js with
        | nil =>
          intro d z h
          simp only [getD, Option.some.injEq] at h
          subst h
          rfl
        | cons j js ih =>
          intro d z h
          cases d with
          | tup ds =>
            simp only [List.cons_append, getD] at h ⊢
            cases e : atD ds j with
            | none => rw [e] at h; cases h
            | some y => rw [e] at h; exact ih y z h
          | lst ds =>
            simp only [List.cons_append, getD] at h ⊢
            cases e : atD ds j with
            | none => rw [e] at h; cases h
            | some y => rw [e] at h; exact ih y z h
          | _ => simp [getD] at h
      rw [show i :: (is ++ [k]) = (i :: is) ++ [k] from rfl, key _ _ _ e]
      simpa [getP] using h2
theorem sth_s {i : Nat} {w : PW} (hw : SndPth K P W ta i w) (hp : SndP K W tb p) : SndPth K P W (L2.tOp (L2.rIx K) ta tb) i (pthS w p) := fun B hK hP σ δ H T τ wd Qd Xd hh Q q x =>
  hw B hK hP σ δ H T τ wd _ Xd hh _ (fun is o c v u H1 Z f g h1 w1 hc hpath hv pt => by
    subst hK
    have rd : RdS B.K H1 AllZ σ δ := Wd.rd ⟨Z, f, g, w1⟩
    refine hp σ δ H1 AllZ fm_all rd _ Xd h1 _ (fun k d H2 h2 e2 r2 => ?_) fun y cls dd H' hx ex xr => x y cls dd H' hx (Wd.dropAll ⟨Z, f, g, w1.ex ex⟩) xr
    cases r2 with
    | int j =>
      simp only [] at h2
      split at h2
      · rename_i o1 ho1
        have w2 := w1.ex e2
        cases o with
        | im d =>
          have rd2 : Df B.K H2 Z u d := Df.ex e2 pt
          simp only [getP] at ho1
          cases ed : getD d [j] with
          | none => rw [ed] at ho1; cases ho1
          | some d1 =>
            have eo1 : o1 = .im d1 := by
              rw [ed] at ho1
              exact (Option.some.inj ho1).symm
            subst eo1
            have gp := getP_snoc is c _ _ j hpath (show getP (.im d) [j] = some (.im d1) by simp only [getP]; rw [ed]; rfl)
            cases rd2 with
            | tup hq hr =>
              rename_i vs ds
              have e : atD ds j = some d1 := by
                simp only [getD] at ed
                cases q' : atD ds j with
                | none => rw [q'] at ed; cases ed
                | some z => rw [q'] at ed; simpa [getD] using ed
              obtain ⟨y, e1, r⟩ := hr.at e
              exact .inr (.inl ⟨_, _, j, y, rfl, rfl, hq.q, e1, q _ _ c v y H2 Z f g h2 w2 hc gp hv r⟩)
            | lst hq hr =>
              rename_i vs ds
              have e : atD ds j = some d1 := by
                simp only [getD] at ed
                cases q' : atD ds j with
                | none => rw [q'] at ed; cases ed
                | some z => rw [q'] at ed; simpa [getD] using ed
              obtain ⟨y, e1, r⟩ := hr.at e
              exact .inl ⟨_, _, j, y, rfl, rfl, hq.sq, e1, q _ _ c v y H2 Z f g h2 w2 hc gp hv r⟩
            | _ => simp [getD] at ed
        | lst os =>
          obtain ⟨v', fo, fr, ev, ow, _⟩ := w2.slot hc
          rw [hv] at ev
          cases ev
          obtain ⟨a, vs, fs, fr2, p1, p2, p3, p4, p5⟩ := ow.path hpath
          have eu := (PathH.ex e2 (show PathH H1 v is u from pt)).inj p1
          subst eu
          have gp := getP_snoc is c _ _ j hpath ho1
          have hat : atD os j = some o1 := by
            simp only [getP] at ho1
            cases q' : atD os j with
            | none => rw [q'] at ho1; cases ho1
            | some z => rw [q'] at ho1; simpa [getP] using ho1
          obtain ⟨jj, hj, ho⟩ := atD_ix hat
          obtain ⟨y, f1, g1, hy, oy, _, _⟩ := p3.item ho
          have hay : atD vs j = some y := atD_of (by rw [p3.length]; exact hj) hy
          refine .inl ⟨a, vs, j, y, rfl, rfl, .inl (.inl p2), hay, q _ _ c v y H2 Z f g h2 w2 hc gp hv ?_⟩
          cases oy with
          | im h => exact h
          | lst k1 k2 => exact p1.snoc p2 hay
      · exact h2.elim
    | _ => exact h2.elim) x
theorem se_rd {i : Nat} {w : PW} (hw : SndPth K P W te i w) : SndE K P W te (eRd w) := fun B hK hP σ δ H T τ wd Qd Xd hh Q q x =>
  hw B hK hP σ δ H T τ wd _ _ hh _ (fun is o c v u H1 Z f g h1 w1 hc hpath hv pt => by
    subst hK
    split at h1
    · exact q u _ δ H1 h1 ⟨Z, f, [] ++ g, w1.s, OwL.cons (f := []) (.im pt) w1.t, w1.ok, w1.st, w1.fr, w1.pr, w1.tq⟩
    · exact h1.elim) fun y cls dd H' hx wx xr => x y cls dd δ H' hx wx xr
end
end DL
/-! The data layer's soundness, 9: targets, what is walked, comprehensions that own. -/
namespace DL
open PySem
section
variable {B : Base} {H H' : Hp} {σ σ' : L2.St} {δ δ' : DE} {T T' vs : List V} {τ τ' os : List OV} {Z Z' : Addr → Prop} {f g f' g' : List Addr} {v : V} {o c : OV} {i : Nat}
/-- the world as a base of its own -/
abbrev Wx.base (_ : Wx B H σ δ T τ Z f g) (P' : List Nat) : Base := ⟨B.K, H, Z, (f ++ g) ++ B.T0.map (·.1), P', σ⟩
theorem Wx.rebase (w : Wx B H σ δ T τ Z f g) (P' : List Nat) (hP' : P' = B.P := by rfl) : Wx (w.base P') H σ δ T τ Z f g := ⟨w.s, w.t, w.ok, .refl, fun _ m => .inl (List.mem_append_left _ m), fun _ _ => rfl, by subst hP'; exact fun p m => ⟨List.mem_append_right _ (List.mem_map.mpr ⟨p, m, rfl⟩), (w.tq p m).2⟩⟩
theorem Wd.unbase {H2 : Hp} {σ2 : L2.St} {δ2 : DE} {T2 : List V} {τ2 : List OV} {P' : List Nat} (w : Wx B H σ δ T τ Z f g) (w2 : Wd (w.base P') H2 σ2 δ2 T2 τ2) (hP : ∀ i ∈ B.P, i ∈ P') : Wd B H2 σ2 δ2 T2 τ2 := by
  obtain ⟨Z2, f2, g2, w2⟩ := w2
  have fr : ∀ a ∈ (f ++ g) ++ B.T0.map (·.1), a ∈ B.L0 ∨ B.H0 a = none := fun a m => by
    rcases List.mem_append.mp m with m | m
    · exact w.fr a m
    · obtain ⟨p, mp, rfl⟩ := List.mem_map.mp m
      exact .inl (w.tq p mp).1
  refine ⟨Z2, f2, g2, w2.s, w2.t, w2.ok, w.st.trans w2.st fr, fun a m => ?_, fun i m => (w2.pr i (hP i m)).trans (w.pr i m), fun p m => ⟨(w.tq p m).1, (w2.tq p (tbOf_mono hP p m)).2⟩⟩
  rcases w2.fr a m with q | q
  · exact fr a q
  · cases e : B.H0 a with
    | none => exact .inr rfl
    | some o =>
      refine .inl (Classical.byContradiction fun n => ?_)
      have q' : H a = none := q
      rw [w.st.keep a o e n] at q'
      cases q'
/-- what was frozen at the base is frozen still -/
theorem Wx.kept {H2 : Hp} {σ2 : L2.St} {δ2 : DE} {T2 : List V} {τ2 : List OV} {P' : List Nat} {Z2 : Addr → Prop} {f2 g2 : List Addr} (w : Wx B H σ δ T τ Z f g) (w2 : Wx (w.base P') H2 σ2 δ2 T2 τ2 Z2 f2 g2) :
    (∀ {b : Option Bool} (a : Addr) (xs : List V), TuA B.K H b a xs → TuA B.K H2 b a xs) ∧ ∀ a xs, LsZ H Z a xs → LsZ H2 Z2 a xs := by
  have k : Kp [] B.K H Z H2 Z2 := w2.st.kpT (fun a m => by
    rcases List.mem_append.mp m with m | m
    · exact .inl ⟨w.lsts a m, w.ok.nz a m⟩
    · obtain ⟨p, mp, rfl⟩ := List.mem_map.mp m
      obtain ⟨ps, e, _⟩ := (w.tq p mp).2
      exact .inr ⟨ps, e⟩) nofun
  exact ⟨k.tk, k.lk⟩
theorem OwS.resl {K : PySem.W.Frag} : ∀ {σ σ' : L2.St} {δ : DE} {f : List Addr}, OwS K H Z σ δ f → σ'.length = σ.length → (∀ (i : Nat) (o : OV), dget δ i = some o → σ'[i]? = σ[i]?) → OwS K H Z σ' δ f
  | [], [], _, _, .nil, _, _ => .nil
  | x :: σ, y :: σ', _, _, .free h, hl, e => .free (h.resl (by simpa using hl) fun i o q => by simpa using e (i + 1) o q)
  | _ :: σ, y :: σ', _, _, .val a h, hl, e => by
    have e0 := e 0 _ rfl
    simp only [List.getElem?_cons_zero, Option.some.injEq] at e0
    subst e0
    exact .val a (h.resl (by simpa using hl) fun i o q => by simpa using e (i + 1) o q)
theorem Wd.resl (w : Wd B H σ δ T τ) (hl : σ'.length = σ.length) (h : ∀ (i : Nat) (o : OV), dget δ i = some o → σ'[i]? = σ[i]?) (hp : ∀ i ∈ B.P, σ'[i]? = σ[i]?) : Wd B H σ' δ T τ := by
  obtain ⟨Z, f, g, w⟩ := w
  exact ⟨Z, f, g, w.s.resl hl h, w.t, w.ok, w.st, w.fr, fun i m => (hp i m).trans (w.pr i m), w.tq⟩
/-- the value on top appended to the list below it -/
theorem Wd.appT {a : Addr} (w : Wd B H σ δ (v :: .ref a :: T) (o :: .lst os :: τ)) : ∃ vs, H a = some (.lst vs) ∧ vs.length = os.length ∧ Wd B (L2.upd H a (.lst (vs ++ [v]))) σ δ (.ref a :: T) (.lst (os ++ [o]) :: τ) := by
  obtain ⟨Z, f, g, w⟩ := w
  have ht := w.t
  cases ht with
  | cons h1 h2 =>
    rename_i g1 gr
    cases h2 with
    | cons h2 h3 =>
      rename_i gl g3
      cases h2 with
      | lst ha hv =>
        rename_i vs gs
        refine ⟨vs, ha, hv.length, ?_⟩
        have all : (f ++ (g1 ++ ((a :: gs) ++ g3))).Perm (a :: (f ++ (gs ++ (g1 ++ g3)))) := by
          have s1 : (g1 ++ ((a :: gs) ++ g3)).Perm (a :: (gs ++ (g1 ++ g3))) := by
            refine (List.perm_middle (l₁ := g1) (a := a) (l₂ := gs ++ g3)).trans (.cons a ?_)
            rw [← List.append_assoc, ← List.append_assoc]
            exact List.Perm.append_right g3 List.perm_append_comm
          exact (List.Perm.append_left f s1).trans (List.perm_middle (l₁ := f) (a := a) (l₂ := gs ++ (g1 ++ g3)))
        have nd := all.nodup_iff.mp w.ok.nd
        have na := (List.nodup_cons.mp nd).1
        have n0 : a ∉ f := fun m => na (List.mem_append_left _ m)
        have n1 : a ∉ gs := fun m => na (List.mem_append_right _ (List.mem_append_left _ m))
        have n2 : a ∉ g1 := fun m => na (List.mem_append_right _ (List.mem_append_right _ (List.mem_append_left _ m)))
        have n3 : a ∉ g3 := fun m => na (List.mem_append_right _ (List.mem_append_right _ (List.mem_append_right _ m)))
        have za : ¬ Z a := w.ok.nz a (all.mem_iff.mpr List.mem_cons_self)
        have kp : ∀ {S : List Addr}, a ∉ S → Kp S B.K H Z (L2.upd H a (.lst (vs ++ [v]))) Z := fun {S} hS => ⟨fun b xs h => SqT.grown ha h, fun b xs h => ⟨h.1, by
          rw [L2.upd_ne fun z => za (by rw [← z]; exact h.1)]
          exact h.2⟩, fun b xs m h => by
          rw [L2.upd_ne fun z => hS (by rw [← z]; exact m)]
          exact h⟩
        have pp : (f ++ ((a :: (gs ++ (g1 ++ []))) ++ g3)).Perm (f ++ (g1 ++ ((a :: gs) ++ g3))) := by
          refine List.Perm.trans ?_ all.symm
          refine (List.perm_middle (l₁ := f) (a := a) (l₂ := (gs ++ (g1 ++ [])) ++ g3)).trans (.cons a ?_)
          rw [List.append_nil, List.append_assoc]
        refine w.to (Z' := Z) (f' := f) (g' := (a :: (gs ++ (g1 ++ []))) ++ g3) (w.s.keep (kp n0)) (.cons (.lst L2.upd_same ((hv.keep (kp n1)).append (.cons (h1.keep (kp n2)) .nil))) (h3.keep (kp n3)))
          ⟨pp.nodup_iff.mpr w.ok.nd, fun b m => w.ok.nz b (pp.mem_iff.mp m), fun b z q => ?_⟩ ⟨fun b u h n => ?_, fun _ z => z, fun _ z => .inl z⟩ (fun b m => .inl (pp.mem_iff.mp m)) fun _ _ => rfl
        · by_cases hb : b = a
          · rw [hb, L2.upd_same] at q; cases q
          · rw [L2.upd_ne hb] at q
            exact w.ok.zd b z q
        · rw [L2.upd_ne fun z => n (by rw [z]; exact all.mem_iff.mpr List.mem_cons_self)]
          exact h
/-- what stands below the top is dropped -/
theorem Wd.under {U : List V} {υ : List OV} (w : Wd B H σ δ (v :: (U ++ T)) (o :: (υ ++ τ))) (hl : U.length = υ.length) : Wd B H σ δ (v :: T) (o :: τ) := (Wd.unrot (vs := U) (os := υ) w hl).drops hl
end
section
variable {K : PySem.W.Frag} {P : List Nat} {W : WX} {te ta tb : L2.TE} {e a b : EX} {p : PX} {t u : PT} {tt tu : L2.TT} {et eu : ETx}
/-! ### targets -/
def SndGE (K : PySem.W.Frag) (P own : List Nat) (g : L2.TG) (gx : GX) : Prop :=
  ∀ (B : Base), B.K = K → B.P = P → ∀ (v : V) (d : D) (σ : L2.St) (δ : DE) (H : Hp) (T : List V) (τ : List OV), Wd B H σ δ (v :: T) (.im d :: τ) → ∀ Qd : DE → Prop, gx d δ Qd → ∀ Q : L2.St → Hp → Prop,
    (∀ σ' δ', Qd δ' → Wd B H σ' δ' T τ → σ'.length = σ.length → (∀ i, i ∉ own → σ'[i]? = σ[i]?) → Q σ' H) → g v σ H Q
def SndGsE (K : PySem.W.Frag) (P own : List Nat) (g : L2.TGs) (gx : GXs) : Prop :=
  ∀ (B : Base), B.K = K → B.P = P → ∀ (v : List V) (d : List D) (σ : L2.St) (δ : DE) (H : Hp) (T : List V) (τ : List OV), v.length = d.length → Wd B H σ δ (v ++ T) (d.map .im ++ τ) → ∀ Qd : DE → Prop, gx d δ Qd → ∀ Q : L2.St → Hp → Prop,
    (∀ σ' δ', Qd δ' → Wd B H σ' δ' T τ → σ'.length = σ.length → (∀ i, i ∉ own → σ'[i]? = σ[i]?) → Q σ' H) → g v σ H Q
theorem sge_name {own : List Nat} {i : Nat} (hi : i ∈ own := by decide) (hn : i ∉ P := by decide) : SndGE K P own (L2.gName i) (gN i) := fun B hK hP v d σ δ H T τ w Qd h Q q =>
  q _ _ h (w.set (by rw [hP]; exact hn)) (List.length_set ..) fun j hj => List.getElem?_set_ne fun e => hj (by rw [← e]; exact hi)
theorem sgse_nil {own : List Nat} : SndGsE K P own L2.gNil gsNil := fun B hK hP v d σ δ H T τ hl w Qd h Q q => by
  obtain ⟨rfl, h⟩ := h
  have hv : v = [] := List.eq_nil_of_length_eq_zero hl
  subst hv
  exact ⟨rfl, q _ _ h w rfl fun _ _ => rfl⟩
theorem sgse_cons {own : List Nat} {g : L2.TG} {gx : GX} {gs : L2.TGs} {gxs : GXs} (h1 : SndGE K P own g gx) (h2 : SndGsE K P own gs gxs) : SndGsE K P own (L2.gCons g gs) (gsCons gx gxs) := fun B hK hP v d σ δ H T τ hl w Qd h Q q => by
  cases d with
  | nil => exact h.elim
  | cons d ds =>
    cases v with
    | nil => cases hl
    | cons v vs =>
      exact ⟨v, vs, rfl, h1 B hK hP v d σ δ H _ _ w _ h _ fun σ1 δ1 q1 w1 l1 f1 => h2 B hK hP vs ds σ1 δ1 H T τ (by simpa using hl) w1 _ q1 _ fun σ2 δ2 q2 w2 l2 f2 => q σ2 δ2 q2 w2 (l2.trans l1) fun i hi => (f2 i hi).trans (f1 i hi)⟩
theorem Wd.items {B : Base} {H : Hp} {σ : L2.St} {δ : DE} {T : List V} {τ : List OV} {v : V} {d : D} (w : Wd B H σ δ (v :: T) (.im d :: τ)) {vs : List V} {ds : List D} (h : ∀ Z, Df B.K H Z v d → DfL B.K H Z vs ds) : Wd B H σ δ (vs ++ T) (ds.map .im ++ τ) := by
  obtain ⟨Z, f, g, w⟩ := w
  have ht := w.t
  cases ht with
  | cons a b =>
    cases a with
    | im a => exact ⟨Z, f, [] ++ _, w.s, (OwL.im (h Z a)).append b, w.ok, w.st, w.fr, w.pr, w.tq⟩
theorem sge_tl {own : List Nat} {n : Nat} {gs : L2.TGs} {gxs : GXs} (h : SndGsE K P own gs gxs) : SndGE K P own (gTL K n gs) (gT n gxs) := fun B hK hP v d σ δ H T τ w Qd hh Q q => by
  subst hK
  obtain ⟨Z, f, g, w0⟩ := id w
  have r0 := w.dfTop Z f g w0
  cases r0 with
  | tup hq hr =>
    rename_i a vs ds
    have wi : Wd B H σ δ (vs ++ T) (ds.map .im ++ τ) := by
      have ht := w0.t
      cases ht with
      | cons a b =>
        cases a with
        | im a => exact ⟨Z, f, [] ++ _, w0.s, (OwL.im hr).append b, w0.ok, w0.st, w0.fr, w0.pr, w0.tq⟩
    exact .inl ⟨_, _, rfl, hq.q, by rw [hr.length]; exact hh.1, h B rfl hP vs ds σ δ H T τ hr.length wi Qd hh.2 Q q⟩
  | pr hq hr =>
    rename_i a vs ds
    have wi : Wd B H σ δ (vs ++ T) (ds.map .im ++ τ) := by
      have ht := w0.t
      cases ht with
      | cons a b =>
        cases a with
        | im a => exact ⟨Z, f, [] ++ _, w0.s, (OwL.im hr).append b, w0.ok, w0.st, w0.fr, w0.pr, w0.tq⟩
    exact .inl ⟨_, _, rfl, hq.q, by rw [hr.length]; exact hh.1, h B rfl hP vs ds σ δ H T τ hr.length wi Qd hh.2 Q q⟩
  | lst hq hr =>
    rename_i a vs ds
    have wi : Wd B H σ δ (vs ++ T) (ds.map .im ++ τ) := by
      have ht := w0.t
      cases ht with
      | cons a b =>
        cases a with
        | im a => exact ⟨Z, f, [] ++ _, w0.s, (OwL.im hr).append b, w0.ok, w0.st, w0.fr, w0.pr, w0.tq⟩
    exact .inr ⟨_, _, rfl, hq.sq, by rw [hr.length]; exact hh.1, h B rfl hP vs ds σ δ H T τ hr.length wi Qd hh.2 Q q⟩
  | _ => exact hh.elim
/-! ### what is walked -/
def SndEIt (K : PySem.W.Frag) (P : List Nat) (W : WX) (wi : L2.TI) (it : EIt) : Prop :=
  ∀ (B : Base), B.K = K → B.P = P → ∀ (σ : L2.St) (δ : DE) (H : Hp) (T : List V) (τ : List OV), Wd B H σ δ T τ → ∀ (Qd : List D → DE → Prop) (Xd : Xc → DE → Prop), it δ Qd Xd → ∀ R : L2.It → Hp → Prop,
    (∀ J ds δ' H' U υ, Qd ds δ' → U.length = υ.length → Wd B H' σ δ' (U ++ T) (υ ++ τ) → (∀ Z f g, Wx B H' σ δ' (U ++ T) (υ ++ τ) Z f g → ItOk K Z J ds H') → R J H') →
    (∀ x cls dd δ' H', Xd x δ' → Wd B H' σ δ' [] [] → XR K H' cls dd x → W cls dd σ H') → wi σ H R
theorem dfHead {B : Base} {H : Hp} {σ : L2.St} {δ : DE} {T : List V} {τ : List OV} {v : V} {d : D} {Z : Addr → Prop} {f g : List Addr} (w : Wx B H σ δ (v :: T) (.im d :: τ) Z f g) : Df B.K H Z v d := by
  cases w.t with
  | cons a b =>
    cases a with
    | im a => exact a
theorem Df.sq_list {K : PySem.W.Frag} {H : Hp} {Z : Addr → Prop} {v : V} {ds : List D} (h : Df K H Z v (.lst ds)) : ∃ a vs, v = .ref a ∧ LsZ H Z a vs ∧ DfL K H Z vs ds := by
  cases h with
  | lst hq hr => exact ⟨_, _, rfl, hq, hr⟩
theorem Df.sq_tup {K : PySem.W.Frag} {H : Hp} {Z : Addr → Prop} {v : V} {ds : List D} (h : Df K H Z v (.tup ds)) : ∃ a vs, v = .ref a ∧ TuA K H (some true) a vs ∧ DfL K H Z vs ds := by
  cases h with
  | tup hq hr => exact ⟨_, _, rfl, hq, hr⟩
theorem sei_seq (ha : SndE K P W ta a) : SndEIt K P W (iSeq K ta) (eiSeq a) := fun B hK hP σ δ H T τ w Qd Xd hh R q x =>
  ha B hK hP σ δ H T τ w _ Xd hh _ (fun v o δ1 H1 h1 w1 => by
    subst hK
    have w2 := w1.frz
    obtain ⟨Z0, f0, g0, w3⟩ := id w2
    have r0 := dfHead w3
    generalize o.fz = d0 at *
    cases d0 with
    | tup ds =>
      obtain ⟨a, vs, rfl, hq, _⟩ := r0.sq_tup
      refine ⟨a, rfl, .inr ⟨⟨vs, hq.q⟩, q _ ds δ1 H1 [.ref a] [.im (.tup ds)] h1 rfl w2 fun Z f g w4 => ?_⟩⟩
      obtain ⟨a', vs', e, hq', hr'⟩ := (dfHead w4).sq_tup
      cases e
      exact itt_ok hq' hr'
    | lst ds =>
      obtain ⟨a, vs, rfl, hq, _⟩ := r0.sq_list
      refine ⟨a, rfl, .inl ⟨⟨vs, hq.sq⟩, q _ ds δ1 H1 [.ref a] [.im (.lst ds)] h1 rfl w2 fun Z f g w4 => ?_⟩⟩
      obtain ⟨a', vs', e, hq', hr'⟩ := (dfHead w4).sq_list
      cases e
      exact itl_ok hq' hr'
    | _ => exact h1.elim) x
theorem sei_range1 {t1 : L2.TA} {r : EX} (ha : SndE K P W ta r) : SndEIt K P W (L2.iRng1 (L2.tCons ta L2.tNil)) (eiRange (eaCons r eaNil)) := fun B hK hP σ δ H T τ w Qd Xd hh R q x =>
  ha B hK hP σ δ H T τ w _ Xd hh _ (fun v o δ1 H1 h1 w1 => by
    have h1' : rngItems [o.fz] fun ds => Qd ds δ1 := h1
    unfold rngItems at h1'
    split at h1'
    · rename_i n e
      have r : Dr B.K H1 v o.fz := w1.top
      have e0 : o.fz = .int n := by simpa using e
      rw [e0] at r
      cases r
      refine ⟨n, rfl, h1'.1.1, h1'.1.2, q _ _ δ1 H1 [] [] h1'.2 rfl w1.drop fun Z f g _ => itr_ok⟩
    · simp at *
    · exact h1'.elim) x
theorem sei_range2 {rb : EX} {r : EX} (ha : SndE K P W ta r) (hb : SndE K P W tb rb) : SndEIt K P W (L2.iRng2 (L2.tCons ta (L2.tCons tb L2.tNil))) (eiRange (eaCons r (eaCons rb eaNil))) := fun B hK hP σ δ H T τ w Qd Xd hh R q x =>
  ha B hK hP σ δ H T τ w _ Xd hh _ (fun v o δ1 H1 h1 w1 => hb B hK hP σ δ1 H1 _ _ w1 _ Xd h1 _ (fun u k δ2 H2 h2 w2 => by
    have h2' : rngItems [o.fz, k.fz] fun ds => Qd ds δ2 := h2
    unfold rngItems at h2'
    split at h2'
    · simp at *
    · rename_i m n e
      have r : Dr B.K H2 v o.fz := w2.drop.top
      have s : Dr B.K H2 u k.fz := w2.top
      have e0 : o.fz = .int m ∧ k.fz = .int n := by simpa using e
      rw [e0.1] at r
      rw [e0.2] at s
      cases r
      cases s
      refine ⟨m, n, rfl, ⟨h2'.1.1.1, h2'.1.1.2, h2'.1.2.1, h2'.1.2.2⟩, q _ _ δ2 H2 [] [] h2'.2 rfl w2.drop.drop fun Z f g _ => itr_ok⟩
    · exact h2'.elim) x) x
theorem sei_enum {r : EX} (ha : SndE K P W ta r) : SndEIt K P W (L2.iEnum K (L2.tCons ta L2.tNil)) (eiEnum (eaCons r eaNil)) := fun B hK hP σ δ H T τ w Qd Xd hh R q x =>
  ha B hK hP σ δ H T τ w _ Xd hh _ (fun v o δ1 H1 h1 w1 => by
    subst hK
    have h1' : enumItems [o.fz] fun ds => Qd ds δ1 := h1
    have w2 := w1.frz
    obtain ⟨Z0, f0, g0, w3⟩ := id w2
    have r0 := dfHead w3
    unfold enumItems at h1'
    split at h1'
    · rename_i ds e
      have e0 : o.fz = .lst ds := by simpa using e
      rw [e0] at r0 w2
      obtain ⟨a, vs, rfl, hq, _⟩ := r0.sq_list
      refine ⟨a, vs, rfl, hq.sq, q _ _ δ1 H1 [.ref a] [.im (.lst ds)] h1' rfl w2 fun Z f g w4 => ?_⟩
      obtain ⟨a', vs', e, hq', hr'⟩ := (dfHead w4).sq_list
      cases e
      exact ite_ok hq' hr'
    · exact h1'.elim) x
/-! ### comprehensions -/
theorem se_comp {wi : L2.TI} {it : EIt} {g : L2.TG} {gx : GX} {own : List Nat} (hi : SndEIt K P W wi it) (hg : SndGE K P own g gx) (ht : SndET K P W0 tt et) (he : SndE K P W0 te e) (hO : ∀ i ∈ P, i ∉ own := by decide) :
    SndE K P W (L2.tLc wi g tt te own) (eComp own it gx et e) := fun B hK hP σ δ H T τ w Qd Xd hh Q q x =>
  hi B hK hP σ δ H T τ w _ Xd hh _ (fun J ds δ1 H1 U υ h1 hU w1 itk => by
    subst hK
    obtain ⟨hlen, hc⟩ := h1
    obtain ⟨Z1, f1, g1, w1⟩ := w1
    have it1 := itk Z1 f1 g1 w1
    intro L0 hD
    have hO' : ∀ i ∈ (w1.base B.P).P, (L2.wipe σ own)[i]? = σ[i]? := fun i m => by
      rw [wipe_get, if_neg fun z => hO i (by rw [← hP]; exact m) z.1]
    refine ⟨fun i m H2 => m = ds.length - i ∧ i ≤ ds.length ∧ ∃ (δ2 : DE) (os : List OV), Wd (w1.base B.P) H2 σ (dwipe δ2 own) (.ref L0 :: (U ++ T)) (.lst os :: (υ ++ τ)) ∧ os.length ≤ i ∧
      compE own gx et e (ds.drop i) δ2 (fun zs δ' => Qd (.lst (os ++ zs)) δ'), ⟨ds.length, by simp, Nat.zero_le _, δ1, [], ?_, Nat.le_refl _, by simpa using hc⟩, ?_⟩
    · exact Wd.lst (vs := []) (os := []) (Wd.wipe ⟨Z1, f1, g1, w1.rebase B.P⟩ own) rfl hD
    rintro i m H2 ⟨rfl, hi2, δ2, os, w2, hol, hcp⟩
    obtain ⟨Z2, f2, g2, w2⟩ := w2
    obtain ⟨kt, kl⟩ := w1.kept w2
    obtain ⟨itm, stop⟩ := it1 Z2 H2 kt kl
    by_cases hlt : i < ds.length
    · have hget : ds[i]? = some ds[i] := by simp [hlt]
      obtain ⟨go, yld⟩ := itm i _ hget
      rw [List.drop_eq_getElem_cons hlt] at hcp
      refine .inr ⟨go, fun H' => ∃ (δ2 : DE) (os : List OV), Wd (w1.base B.P) H' σ (dwipe δ2 own) (.ref L0 :: (U ++ T)) (.lst os :: (υ ++ τ)) ∧ os.length ≤ i + 1 ∧ compE own gx et e (ds.drop (i + 1)) δ2 (fun zs δ' => Qd (.lst (os ++ zs)) δ'),
        fun H' hn => ⟨ds.length - (i + 1), by omega, rfl, hlt, hn⟩, fun xv H3 hy => ?_⟩
      obtain ⟨x3, rx⟩ := yld xv H3 hy
      have w3 := w2.ex x3
      have w4 : Wd (w1.base B.P) H3 σ (dwipe δ2 own) (xv :: .ref L0 :: (U ++ T)) (.im ds[i] :: .lst os :: (υ ++ τ)) := ⟨Z2, f2, [] ++ g2, w3.s, OwL.cons (f := []) (.im rx) w3.t, w3.ok, w3.st, w3.fr, w3.pr, w3.tq⟩
      have w5 := w4.resl (σ' := L2.wipe σ own) (L2.wipe_length σ own) (fun j o hj => by
        rw [wipe_get, if_neg fun z => (dwipe_get δ2 own j o hj).1 z.1]) hO'
      refine hg (w1.base B.P) rfl hP xv _ _ _ H3 _ _ w5 _ hcp _ fun σ3 δ3 q3 w6 l3 f3 => ⟨wipe_same (by rw [l3, L2.wipe_length]) f3, ?_⟩
      have back : ∀ {δ9 : DE} {H9 : Hp} {T9 : List V} {τ9 : List OV}, Wd (w1.base B.P) H9 σ3 δ9 T9 τ9 → Wd (w1.base B.P) H9 σ (dwipe δ9 own) T9 τ9 := fun {δ9 H9 T9 τ9} w9 => (w9.wipe own).resl (by rw [l3, L2.wipe_length]) (fun j o hj => by
        have hn := (dwipe_get δ9 own j o hj).1
        rw [f3 j hn, wipe_get, if_neg fun z => hn z.1]) fun j m => by
        rw [f3 j (hO j (by rw [← hP]; exact m))]
        exact (hO' j m).symm
      refine ht (w1.base B.P) rfl hP σ3 δ3 H3 _ _ w6 _ (fun _ _ => False) q3 _ (fun b δ4 H4 qb w7 => ?_) fun _ _ _ _ _ z _ _ => z.elim
      cases b with
      | true =>
        refine he (w1.base B.P) rfl hP σ3 δ4 H4 _ _ w7 _ (fun _ _ => False) qb _ (fun y oy δ5 H5 qy w8 => ?_) fun _ _ _ _ _ z _ _ => z.elim
        obtain ⟨vs, hv, hvl, w9⟩ := w8.appT
        refine ⟨vs, hv, lt_line (by omega), δ5, os ++ [oy], back w9, by simp; omega, ?_⟩
        simpa [List.append_assoc] using qy
      | false => exact ⟨δ4, os, back w7, by omega, qb⟩
    · have ei : i = ds.length := by omega
      subst ei
      refine .inl ⟨stop, ?_⟩
      rw [List.drop_length] at hcp
      have hq : Qd (.lst os) (dwipe δ2 own) := by simpa [compE] using hcp
      exact q _ _ _ H2 hq (Wd.under (Wd.unbase w1 ⟨Z2, f2, g2, w2⟩ fun _ m => m) hU)) x
end
end DL
/-! The data layer's soundness, 10: statements, defs. -/
namespace DL
open PySem
/-- X(), X an own exception class without own __init__ -/
theorem pmk_own0 {X : L2.Cx} {C : Addr} {bmB : List Value} {B newId initId : String} {x : Str} {p pos : Pos} (F : ExcBaseFacts B newId initId bmB) (q : PySem.W.excIn X.K C bmB newId = true) (gC : X.mg x = some (.ref C))
    (kC : PySem.W.keepIn X.K (.ref C) = true) (r : L2.Raises X (.ref C)) (hg : L2.Gl X x) (hdb : (x == ("__debug__" : Str)) = false := by decide) : L2.PMk X (.Call (.Name x p) [] [] pos) (fun _ H Q => Q (.ref C) none H) := by
  intro pins s σ H Q I h
  refine wpAny_Call_Name_kw (L2.ld_glob I hg gC ?_ hdb)
  refine PySem.W.callWith_K0 I.kIn kC ?_
  obtain ⟨bm, N, nm, qn, bs, hdct, sn, sub, ab, col, dd, k0, k1, k2, k3, k5, mN, hC, hN, hni, T⟩ := L2.exc_obj I.kIn q
  exact wpAny_call_exc_subT F T hC hN hni (fun h' e hm => L2.mk_of I hm r h (I.hok.gone hm.new)) (Nat.zero_le _)

structure EnR (B : Base) (K : PySem.W.Frag) (W : WX) (T : List V) (τ : List OV) (E : En) (D : L2.Ends) : Prop where
  nx : ∀ σ δ H, E.nx δ → Wd B H σ δ T τ → D.nx σ H
  rt : ∀ v o σ δ H, E.rt o δ → Wd B H σ δ (v :: T) (o :: τ) → D.rt v H
  bk : ∀ σ δ H, E.bk δ → Wd B H σ δ T τ → D.bk σ H
  ct : ∀ σ δ H, E.ct δ → Wd B H σ δ T τ → D.ct σ H
  ex : ∀ x cls dd σ δ H, E.ex x δ → Wd B H σ δ [] [] → XR K H cls dd x → W cls dd σ H
/-- z: on no temps -/
def SndS (K : PySem.W.Frag) (P : List Nat) (W : WX) (z : Bool) (ts : L2.TS) (s : SX) : Prop :=
  ∀ (B : Base), B.K = K → B.P = P → ∀ (σ : L2.St) (δ : DE) (H : Hp) (T : List V) (τ : List OV), (z = true → T = [] ∧ τ = []) → Wd B H σ δ T τ → ∀ E : En, s E δ → ∀ D : L2.Ends, EnR B K W T τ E D → ts D σ H
section
variable {z : Bool} {K : PySem.W.Frag} {P : List Nat} {W : WX} {te ta tb : L2.TE} {e a b : EX} {p : PX} {t u : PT} {tt tu : L2.TT} {et eu : ETx} {ts us : L2.TS} {s r : SX}
theorem ss_next : SndS K P W z L2.tNext sNext := fun B hK hP σ δ H T τ hz w E h D R => R.nx _ _ _ h w
theorem ss_break : SndS K P W z L2.tBreak sBreak := fun B hK hP σ δ H T τ hz w E h D R => R.bk _ _ _ h w
theorem ss_cont : SndS K P W z L2.tCont sCont := fun B hK hP σ δ H T τ hz w E h D R => R.ct _ _ _ h w
theorem ss_seq (h1 : SndS K P W z ts s) (h2 : SndS K P W z us r) : SndS K P W z (L2.tSeq ts us) (sSeq s r) := fun B hK hP σ δ H T τ hz w E h D R =>
  h1 B hK hP σ δ H T τ hz w _ h _ ⟨fun σ1 δ1 H1 q w1 => h2 B hK hP σ1 δ1 H1 T τ hz w1 E q D R, R.rt, R.bk, R.ct, R.ex⟩
def SndGO (P : List Nat) (K : PySem.W.Frag) (g : L2.TG) (go : GO) : Prop :=
  ∀ (B : Base), B.K = K → B.P = P → ∀ (v : V) (o : OV) (σ : L2.St) (δ : DE) (H : Hp) (T : List V) (τ : List OV), Wd B H σ δ (v :: T) (o :: τ) → ∀ Qd : DE → Prop, go o δ Qd → ∀ Q : L2.St → Hp → Prop,
    (∀ σ' δ', Qd δ' → Wd B H σ' δ' T τ → Q σ' H) → g v σ H Q
theorem sgo_name {i : Nat} (hn : i ∉ P := by decide) : SndGO P K (L2.gName i) (goN i) := fun B hK hP v o σ δ H T τ w Qd h Q q => q _ _ h (w.set (by rw [hP]; exact hn))
theorem sgo_tup {own : List Nat} {g : L2.TG} {gx : GX} (hg : SndGE K P own g gx) : SndGO P K g (goT gx) := fun B hK hP v o σ δ H T τ w Qd h Q q => hg B hK hP v _ σ δ H T τ w.frz Qd h Q fun σ' δ' q1 w1 _ _ => q σ' δ' q1 w1
theorem ss_asg {g : L2.TG} {go : GO} (he : SndE K P W te e) (hg : SndGO P K g go) : SndS K P W z (L2.tAsg te g) (sAsg e go) := fun B hK hP σ δ H T τ hz w E h D R =>
  he B hK hP σ δ H T τ w _ _ h _ (fun v o δ1 H1 h1 w1 => hg B hK hP v o σ δ1 H1 T τ w1 _ h1 _ fun σ' δ' q1 w2 => R.nx _ _ _ q1 w2) fun x cls dd δ' H' hx wx xr => R.ex x cls dd σ δ' H' hx wx xr
theorem ss_par {i j : Nat} (ha : SndE K P W ta a) (hb : SndE K P W tb b) (hi : i ∉ P := by decide) (hj : j ∉ P := by decide) : SndS K P W z (L2.tPar i j (L2.tCons ta (L2.tCons tb L2.tNil))) (sPar i j a b) := fun B hK hP σ δ H T τ hz w E h D R =>
  ha B hK hP σ δ H T τ w _ _ h _ (fun v o δ1 H1 h1 w1 => hb B hK hP σ δ1 H1 _ _ w1 _ _ h1 _ (fun u k δ2 H2 h2 w2 => ⟨v, u, rfl, R.nx _ _ _ h2 ((w2.swap.set (by rw [hP]; exact hi)).set (by rw [hP]; exact hj))⟩)
    fun x cls dd δ' H' hx wx xr => R.ex x cls dd σ δ' H' hx wx xr) fun x cls dd δ' H' hx wx xr => R.ex x cls dd σ δ' H' hx wx xr
theorem ss_drop (he : SndE K P W te e) : SndS K P W z (L2.tDrop te) (sDrop e) := fun B hK hP σ δ H T τ hz w E h D R =>
  he B hK hP σ δ H T τ w _ _ h _ (fun v o δ1 H1 h1 w1 => R.nx _ _ _ h1 w1.drop) fun x cls dd δ' H' hx wx xr => R.ex x cls dd σ δ' H' hx wx xr
theorem ss_ret (he : SndE K P W te e) : SndS K P W z (L2.tRet te) (sRet e) := fun B hK hP σ δ H T τ hz w E h D R =>
  he B hK hP σ δ H T τ w _ _ h _ (fun v o δ1 H1 h1 w1 => R.rt _ _ _ _ _ h1 w1) fun x cls dd δ' H' hx wx xr => R.ex x cls dd σ δ' H' hx wx xr
theorem ss_retN : SndS K P W z L2.tRetN sRetN := fun B hK hP σ δ H T τ hz w E h D R => R.rt .non (.im .non) σ δ H h (w.push .non rfl)
theorem ss_if (hc : SndET K P W tt et) (h1 : SndS K P W z ts s) (h2 : SndS K P W z us r) : SndS K P W z (L2.tIfS tt ts us) (sIf et s r) := fun B hK hP σ δ H T τ hz w E h D R =>
  hc B hK hP σ δ H T τ w _ _ h _ (fun c δ1 H1 hb w1 => by
    cases c with
    | true => exact h1 B hK hP σ δ1 H1 T τ hz w1 E hb D R
    | false => exact h2 B hK hP σ δ1 H1 T τ hz w1 E hb D R) fun x cls dd δ' H' hx wx xr => R.ex x cls dd σ δ' H' hx wx xr
/-- name op= e -/
def IpS (K : PySem.W.Frag) (ti : L2.TIp) (op : R2) : Prop :=
  ∀ (x y : V) (d e : D) (H : Hp) (Qd : D → Prop), Dr K H x d → Dr K H y e → op d e Qd → ∀ Q : L2.VK, (∀ v z H', Qd z → Ex H H' → Dr K H' v z → Q v H') → ti x y H Q
theorem ips_add : IpS K (L2.ipI fun i j => i + j) (fun x y Q => match x, y with | .int i, .int j => Q (.int (i + j)) | _, _ => False) := fun x y d e H Qd r1 r2 h Q q => by
  cases r1 with
  | int i =>
    cases r2 with
    | int j => exact ⟨i, j, rfl, rfl, q _ _ H h (.refl H) (.int _)⟩
    | _ => exact h.elim
  | _ => cases r2 <;> exact h.elim
theorem ips_sub : IpS K (L2.ipI fun i j => i - j) opSub := fun x y d e H Qd r1 r2 h Q q => by
  cases r1 with
  | int i =>
    cases r2 with
    | int j => exact ⟨i, j, rfl, rfl, q _ _ H h (.refl H) (.int _)⟩
    | _ => exact h.elim
  | _ => cases r2 <;> exact h.elim
theorem ss_aug {i : Nat} {ti : L2.TIp} {op : R2} (ho : IpS K ti op) (he : SndP K W te p) (hn : i ∉ P := by decide) : SndS K P W z (L2.tAug i te ti) (sAug i op p) := fun B hK hP σ δ H T τ hz w E h D R => by
  subst hK
  unfold sAug at h
  split at h
  · rename_i d e
    obtain ⟨v, e1, w1⟩ := w.mv e
    have rv : Dr B.K H v d := w1.top
    refine ⟨v, e1, he σ δ H AllZ fm_all w.rd _ _ h _ (fun y dy H1 h1 x1 r1 => ?_) fun y cls dd H' hx ex xr => R.ex y cls dd σ δ H' hx (w.ex ex).dropAll xr⟩
    exact ho v y d dy H1 _ (rv.ex x1) r1 h1 _ fun z dz H2 h2 x2 r2 => R.nx _ _ _ h2.2 (Wd.set (((w.ex x1).ex x2).push r2 h2.1) (by rw [hP]; exact hn))
  · exact h.elim
/-! ### lists that change -/
theorem lst_slot {B : Base} {H : Hp} {σ : L2.St} {δ : DE} {T : List V} {τ : List OV} {i : Nat} {os : List OV} (w : Wd B H σ δ T τ) (h : dget δ i = some (.lst os)) : ∃ a vs, σ[i]? = some (some (.ref a)) ∧ H a = some (.lst vs) := by
  obtain ⟨Z, f, g, w⟩ := w
  obtain ⟨v, fo, fr, e, ow, _⟩ := w.slot h
  cases ow with
  | lst h1 h2 => exact ⟨_, _, e, h1⟩
theorem ss_app {i : Nat} (he : SndE K P W te e) : SndS K P W z (L2.tDrop (L2.tBM K "list" L2.rAppend (L2.tVar i) (L2.tCons te L2.tNil))) (sApp i e) := fun B hK hP σ δ H T τ hz w E h D R => by
  obtain ⟨⟨os0, h0⟩, h⟩ := h
  obtain ⟨a, vs0, ea, ha0⟩ := lst_slot w h0
  refine ⟨_, ea, .inl ⟨rfl, vs0, .inl (.inl ha0)⟩, ?_⟩
  refine he B hK hP σ δ H T τ w _ _ h _ (fun v o δ1 H1 h1 w1 => ?_) fun x cls dd δ' H' hx wx xr => R.ex x cls dd σ δ' H' hx wx xr
  split at h1
  · rename_i os eo
    obtain ⟨Z, f, g, w1⟩ := w1
    have ht := w1.t
    cases ht with
    | cons hv hT =>
      rename_i g1 g2
      obtain ⟨v', b, vs, fs, e1, pt, hb, hs, go⟩ := w1.mut (is := []) (os := os) eo rfl
      cases pt
      rw [ea] at e1
      cases e1
      refine ⟨a, vs, v, rfl, rfl, hb, by rw [hs.length]; exact lt_line h1.1, R.nx _ _ _ h1.2 (go (rest := []) (hs.append (.cons hv .nil)) hT ?_)⟩
      rw [List.append_nil, List.append_nil, List.append_assoc]
  · exact h1.elim
theorem ss_appP {i : Nat} {pw : PW} (hw : SndPth K P W ta i pw) (he : SndP K W te p) : SndS K P W z (L2.tDrop (L2.tBM K "list" L2.rAppend ta (L2.tCons te L2.tNil))) (sAppP i pw p) := fun B hK hP σ δ H T τ hz w E h D R =>
  hw B hK hP σ δ H T τ w _ _ h _ (fun is z c v u H1 Z f g h1 w1 hc hpath hv pt => by
    subst hK
    split at h1
    · rename_i os c' ec
      rw [hc] at ec
      cases ec
      obtain ⟨v0, b0, vs0, fs0, e0, pt0, hb0, hs0, _⟩ := w1.mut hc hpath
      rw [hv] at e0
      cases e0
      have eu := (show PathH H1 v is u from pt).inj pt0
      subst eu
      refine ⟨.inl ⟨rfl, vs0, .inl (.inl hb0)⟩, ?_⟩
      refine he σ δ H1 AllZ fm_all (Wd.rd ⟨Z, f, g, w1⟩) _ _ h1 _ (fun x d H2 h2 x2 r2 => ?_) fun x cls dd H' hx ex xr => R.ex x cls dd σ δ H' hx (Wd.dropAll ⟨Z, f, g, w1.ex ex⟩) xr
      have w2 := w1.ex x2
      obtain ⟨v1, b1, vs1, fs1, e1, pt1, hb1, hs1, go⟩ := w2.mut hc hpath
      rw [hv] at e1
      cases e1
      have eb := (pt0.ex x2).inj pt1
      cases eb
      refine ⟨_, vs1, x, rfl, rfl, hb1, by rw [hs1.length]; exact lt_line h2.2.1, R.nx _ _ _ h2.2.2 (go (rest := []) (hs1.append (.cons (.im (r2.nol (fun _ _ y => y) h2.1)) .nil)) w2.t ?_)⟩
      simp
    · exact h1.elim) fun x cls dd H' hx wx xr => R.ex x cls dd σ δ H' hx wx xr
theorem ss_ext {i : Nat} (he : SndE K P W te e) : SndS K P W z (L2.tDrop (L2.tBM K "list" (rExtA K) (L2.tVar i) (L2.tCons te L2.tNil))) (sExt i e) := fun B hK hP σ δ H T τ hz w E h D R => by
  obtain ⟨⟨os0, h0⟩, h⟩ := h
  obtain ⟨a, vs0, ea, ha0⟩ := lst_slot w h0
  refine ⟨_, ea, .inl ⟨rfl, vs0, .inl (.inl ha0)⟩, ?_⟩
  refine he B hK hP σ δ H T τ w _ _ h _ (fun v o δ1 H1 h1 w1 => ?_) fun x cls dd δ' H' hx wx xr => R.ex x cls dd σ δ' H' hx wx xr
  split at h1
  · rename_i ks
    split at h1
    · rename_i os eo
      obtain ⟨Z, f, g, w1⟩ := w1
      have ht := w1.t
      cases ht with
      | cons hv hT =>
        rename_i g1 g2
        cases hv with
        | lst hl hk =>
          rename_i b ws gs
          obtain ⟨v', b', vs, fs, e1, pt, hb, hs, go⟩ := w1.mut (is := []) (os := os) eo rfl
          cases pt
          rw [ea] at e1
          cases e1
          refine .inl ⟨a, b, vs, ws, rfl, rfl, hb, hl, by rw [hs.length, hk.length]; exact le_line h1.1, R.nx _ _ _ h1.2 (go (rest := [b]) (hs.append hk) hT ?_)⟩
          rw [List.append_assoc, List.append_assoc]
          refine List.Perm.append_left fs ?_
          refine (List.perm_append_singleton b (gs ++ g2)).symm.trans ?_
          rw [List.append_assoc]
    · exact h1.elim
  · rename_i ds
    split at h1
    · rename_i os eo
      obtain ⟨Z, f, g, w1⟩ := w1
      have r0 := dfHead w1
      obtain ⟨b, ws, rfl, hq, hr⟩ := r0.sq_list
      have ht := w1.t
      cases ht with
      | cons hv hT =>
        rename_i g1 g2
        cases hv with
        | im hv =>
          obtain ⟨v', b', vs, fs, e1, pt, hb, hs, go⟩ := w1.mut (is := []) (os := os) eo rfl
          cases pt
          rw [ea] at e1
          cases e1
          refine .inl ⟨a, b, vs, ws, rfl, rfl, hb, hq.2, by rw [hs.length, hr.length]; exact le_line h1.1, R.nx _ _ _ h1.2 (go (rest := []) (hs.append (OwL.im hr)) hT ?_)⟩
          simp
    · exact h1.elim
  · rename_i ds
    split at h1
    · rename_i os eo
      obtain ⟨Z, f, g, w1⟩ := w1
      have r0 := dfHead w1
      obtain ⟨b, ws, rfl, hq, hr⟩ := r0.sq_tup
      have ht := w1.t
      cases ht with
      | cons hv hT =>
        rename_i g1 g2
        cases hv with
        | im hv =>
          obtain ⟨v', b', vs, fs, e1, pt, hb, hs, go⟩ := w1.mut (is := []) (os := os) eo rfl
          cases pt
          rw [ea] at e1
          cases e1
          refine .inr ⟨a, b, vs, ws, rfl, rfl, hb, by rw [← hK]; exact hq, by rw [hs.length, hr.length]; exact le_line h1.1, R.nx _ _ _ h1.2 (go (rest := []) (hs.append (OwL.im hr)) hT ?_)⟩
          simp
    · exact h1.elim
  · exact h1.elim
theorem ss_ins {i : Nat} (ha : SndE K P W ta a) (he : SndE K P W te e) : SndS K P W z (L2.tDrop (L2.tBM K "list" (fun x vs H Q => ∃ (l : Addr) (xs : List V) (i : Int) (y : V), x = .ref l ∧ vs = [.int i, y] ∧ H l = some (.lst xs) ∧ xs.length < sizeLine ∧ 0 ≤ i ∧ i < 2 ^ 63 ∧
    Q .non (L2.upd H l (.lst (xs.take i.toNat ++ [y] ++ xs.drop i.toNat)))) (L2.tVar i) (L2.tCons ta (L2.tCons te L2.tNil)))) (sIns i a e) := fun B hK hP σ δ H T τ hz w E h D R => by
  obtain ⟨⟨os0, h0⟩, h⟩ := h
  obtain ⟨l, vs0, ea, ha0⟩ := lst_slot w h0
  refine ⟨_, ea, .inl ⟨rfl, vs0, .inl (.inl ha0)⟩, ?_⟩
  refine ha B hK hP σ δ H T τ w _ _ h _ (fun y k δ0 H0 h0 w0 => ?_) fun x cls dd δ' H' hx wx xr => R.ex x cls dd σ δ' H' hx wx xr
  refine he B hK hP σ δ0 H0 _ _ w0 _ _ h0 _ (fun v o δ1 H1 h1 w1 => ?_) fun x cls dd δ' H' hx wx xr => R.ex x cls dd σ δ' H' hx wx xr
  split at h1
  · rename_i k1 os eo
    have ey := int_top w1.drop
    subst ey
    have w2 := w1.swap.drop
    obtain ⟨Z, f, g, w2⟩ := w2
    have ht := w2.t
    cases ht with
    | cons hv hT =>
      rename_i g1 g2
      obtain ⟨v', b, vs, fs, e1, pt, hb, hs, go⟩ := w2.mut (is := []) (os := os) eo rfl
      cases pt
      rw [ea] at e1
      cases e1
      obtain ⟨f1, f2, ef, q1, q2⟩ := OwL.split (vs := vs.take k1.toNat) (ws := vs.drop k1.toNat) (os := os.take k1.toNat) (ps := os.drop k1.toNat) (by simp [hs.length]) (by rw [List.take_append_drop, List.take_append_drop]; exact hs)
      refine ⟨l, vs, k1, v, rfl, rfl, hb, by rw [hs.length]; exact lt_line h1.1, h1.2.1.1, h1.2.1.2, R.nx _ _ _ h1.2.2 (go (rest := []) ((q1.append (.cons hv .nil)).append q2) hT ?_)⟩
      subst ef
      rw [List.append_nil, List.append_nil, List.append_assoc, List.append_assoc, List.append_assoc]
      refine List.Perm.append_left f1 ?_
      rw [← List.append_assoc, ← List.append_assoc]
      exact List.Perm.append_right g2 List.perm_append_comm
  · exact h1.elim
end
end DL
/-! The data layer's soundness, 11: loops, stores, raise, try. -/
namespace DL
open PySem
section
variable {z : Bool} {K : PySem.W.Frag} {P : List Nat} {W : WX} {te ta tb tk : L2.TE} {e a b : EX} {p q : PX} {t u : PT} {tt tu : L2.TT} {et eu : ETx} {ts us : L2.TS} {s r : SX}
theorem ixD_N {n : Nat} {i : Int} {j : Nat} (h : ixD n i = some j) : L2.ixN n i = some j := by
  unfold ixD at h
  unfold L2.ixN
  by_cases h0 : 0 ≤ i
  · rw [if_pos h0] at h ⊢
    by_cases h1 : i < n
    · rw [if_pos h1] at h
      rw [if_pos h1]
      exact h
    · rw [if_neg h1] at h; cases h
  · rw [if_neg h0] at h ⊢
    exact h
/-- NAME[..][k] = e -/
theorem ss_set {i : Nat} {pw : PW} (he : SndE K P W te e) (hw : SndPth K P W ta i pw) (hk : SndP K W tk p) : SndS K P W z (L2.tAsg te (L2.gSub ta tk L2.rSetL)) (sSet i pw p e) := fun B hK hP σ δ H T τ hz w E h D R =>
  he B hK hP σ δ H T τ w _ _ h _ (fun v o δ1 H1 h1 w1 => hw B hK hP σ δ1 H1 _ _ w1 _ _ h1 _ (fun is zz c vv u H2 Z f g h2 w2 hc hpath hv pt => by
    subst hK
    refine hk σ δ1 H2 AllZ fm_all (Wd.rd ⟨Z, f, g, w2⟩) _ _ h2 _ (fun x d H3 h3 x3 r3 => ?_) fun x cls dd H' hx ex xr => R.ex x cls dd σ δ1 H' hx (Wd.dropAll ⟨Z, f, g, w2.ex ex⟩) xr
    have w3 := w2.ex x3
    split at h3
    · rename_i kk os c' ec
      rw [hc] at ec
      cases ec
      split at h3
      · rename_i j hj
        cases r3 with
        | int k3 =>
          have ht := w3.t
          cases ht with
          | cons hv1 hT =>
            rename_i g1 g2
            obtain ⟨v1, b1, vs1, fs1, e1, pt1, hb1, hs1, go⟩ := w3.mut hc hpath
            rw [hv] at e1
            cases e1
            have eu := (PathH.ex x3 (show PathH H2 vv is u from pt)).inj pt1
            subst eu
            have hjl : j < os.length := ixD_lt hj
            obtain ⟨uo, f1, f2, hu, ou, pf, put⟩ := hs1.item (j := j) (o := os[j]) (by simp [hjl])
            obtain ⟨fp', q1, q2⟩ := put (H' := H3) (Z' := Z) (u' := v) (o' := o) (f1' := g1) (w3.kEx (.refl H3) fun _ z => z) hv1
            refine ⟨b1, vs1, _, j, rfl, rfl, hb1, by rw [hs1.length]; exact ixD_N hj, R.nx _ _ _ h3 (go (rest := f1) q1 hT ?_)⟩
            refine (List.Perm.append_right (g1 ++ g2) pf).trans ?_
            refine List.Perm.trans ?_ (List.perm_append_comm (l₁ := f1) (l₂ := fp' ++ g2))
            rw [List.append_assoc]
            refine List.Perm.append_left f1 ?_
            refine List.Perm.trans ?_ (List.Perm.append_right g2 q2.symm)
            rw [← List.append_assoc]
            exact List.Perm.append_right g2 List.perm_append_comm
      · exact h3.elim
    · exact h3.elim) fun x cls dd H' hx wx xr => R.ex x cls dd σ δ1 H' hx wx xr) fun x cls dd δ' H' hx wx xr => R.ex x cls dd σ δ' H' hx wx xr
/-- while -/
theorem ss_while (hc : SndET K P W tt et) (hb : SndS K P W z ts s) : SndS K P W z (L2.tWhile tt ts) (sWhile et s) := fun B hK hP σ δ H T τ hz w E h D R => by
  obtain ⟨I, ⟨n, h0⟩, turn⟩ := h
  refine ⟨fun m σ H => ∃ δ, I m δ ∧ Wd B H σ δ T τ, ⟨n, δ, h0, w⟩, ?_⟩
  rintro m σ1 H1 ⟨δ1, h1, w1⟩
  refine hc B hK hP σ1 δ1 H1 T τ w1 _ _ (turn m δ1 h1) _ (fun c δ2 H2 h2 w2 => ?_) fun x cls dd δ' H' hx wx xr => R.ex x cls dd σ1 δ' H' hx wx xr
  cases c with
  | true =>
    rw [if_pos rfl]
    refine ⟨fun σ' H' => ∃ δ', (∃ k, k < m ∧ I k δ') ∧ Wd B H' σ' δ' T τ, fun σ' H' ⟨δ', ⟨k, hk, hi⟩, w'⟩ => ⟨k, hk, δ', hi, w'⟩, ?_⟩
    exact hb B hK hP σ1 δ2 H2 T τ hz w2 _ h2 _ ⟨fun σ δ H q w => ⟨δ, q, w⟩, R.rt, R.nx, fun σ δ H q w => ⟨δ, q, w⟩, R.ex⟩
  | false => exact R.nx _ _ _ h2 w2
theorem Wd.drops' {B : Base} {H : Hp} {σ : L2.St} {δ : DE} {v : V} {o : OV} {T U : List V} {τ υ : List OV} (w : Wd B H σ δ (v :: (U ++ T)) (o :: (υ ++ τ))) (hU : U.length = υ.length) : Wd B H σ δ (v :: T) (o :: τ) := w.under hU
/-- for -/
theorem ss_for {own : List Nat} {wi : L2.TI} {it : EIt} {g : L2.TG} {gx : GX} (hi : SndEIt K P W wi it) (hg : SndGE K P own g gx) (hb : SndS K P W false ts s) : SndS K P W z (L2.tFor wi g ts) (sFor it gx s) := fun B hK hP σ δ H T τ hz w E h D R =>
  hi B hK hP σ δ H T τ w _ _ h _ (fun J ds δ1 H1 U υ h1 hU w1 itk => by
    subst hK
    obtain ⟨Z1, f1, g1, w1⟩ := w1
    have it1 := itk Z1 f1 g1 w1
    refine ⟨fun i m σ2 H2 => m = ds.length - i ∧ i ≤ ds.length ∧ ∃ δ2, Wd (w1.base B.P) H2 σ2 δ2 (U ++ T) (υ ++ τ) ∧ forL gx s E (ds.drop i) δ2, ⟨ds.length, by simp, Nat.zero_le _, δ1, ⟨Z1, f1, g1, w1.rebase B.P⟩, h1⟩, ?_⟩
    rintro i m σ2 H2 ⟨rfl, hi2, δ2, w2, hl⟩
    obtain ⟨Z2, f2, g2, w2⟩ := w2
    obtain ⟨kt, kl⟩ := w1.kept w2
    obtain ⟨itm, stop⟩ := it1 Z2 H2 kt kl
    have fin : ∀ {σ9 : L2.St} {δ9 : DE} {H9 : Hp}, Wd (w1.base B.P) H9 σ9 δ9 (U ++ T) (υ ++ τ) → Wd B H9 σ9 δ9 T τ := fun w9 => Wd.drops hU (Wd.unbase w1 w9 fun _ m => m)
    by_cases hlt : i < ds.length
    · obtain ⟨go, yld⟩ := itm i ds[i] (by simp [hlt])
      rw [List.drop_eq_getElem_cons hlt] at hl
      refine .inr ⟨go, fun σ' H' => ∃ δ2, Wd (w1.base B.P) H' σ' δ2 (U ++ T) (υ ++ τ) ∧ forL gx s E (ds.drop (i + 1)) δ2, fun σ' H' hn => ⟨ds.length - (i + 1), by omega, rfl, hlt, hn⟩, fun xv H3 hy => ?_⟩
      obtain ⟨x3, rx⟩ := yld xv H3 hy
      have w3 := w2.ex x3
      have w4 : Wd (w1.base B.P) H3 σ2 δ2 (xv :: (U ++ T)) (.im ds[i] :: (υ ++ τ)) := ⟨Z2, f2, [] ++ g2, w3.s, OwL.cons (f := []) (.im rx) w3.t, w3.ok, w3.st, w3.fr, w3.pr, w3.tq⟩
      refine hg (w1.base B.P) rfl hP xv _ σ2 δ2 H3 _ _ w4 _ hl _ fun σ3 δ3 q3 w5 _ _ => ?_
      refine hb (w1.base B.P) rfl hP σ3 δ3 H3 _ _ (fun z => by cases z) w5 _ q3 _ ⟨fun σ δ H q w => ⟨δ, w, q⟩, fun v o σ δ H q w => R.rt v o σ δ H q (Wd.under (Wd.unbase w1 w fun _ m => m) hU), fun σ δ H q w => R.nx σ δ H q (fin w), fun σ δ H q w => ⟨δ, w, q⟩, fun x cls dd σ δ H q w xr => R.ex x cls dd σ δ H q (Wd.unbase (T2 := []) (τ2 := []) w1 w fun _ m => m) xr⟩
    · have ei : i = ds.length := by omega
      subst ei
      rw [List.drop_length] at hl
      exact .inl ⟨stop, R.nx _ _ _ hl (fin ⟨Z2, f2, g2, w2⟩)⟩) fun x cls dd δ' H' hx wx xr => R.ex x cls dd σ δ' H' hx wx xr
/-- for over a range: no temps -/
def SndEIt0 (K : PySem.W.Frag) (P : List Nat) (W : WX) (wi : L2.TI) (it : EIt) : Prop :=
  ∀ (B : Base), B.K = K → B.P = P → ∀ (σ : L2.St) (δ : DE) (H : Hp) (T : List V) (τ : List OV), Wd B H σ δ T τ → ∀ (Qd : List D → DE → Prop) (Xd : Xc → DE → Prop), it δ Qd Xd → ∀ R : L2.It → Hp → Prop,
    (∀ J ds δ' H', Qd ds δ' → Wd B H' σ δ' T τ → (∀ Z f g, Wx B H' σ δ' T τ Z f g → ItOk K Z J ds H') → R J H') →
    (∀ x cls dd δ' H', Xd x δ' → Wd B H' σ δ' [] [] → XR K H' cls dd x → W cls dd σ H') → wi σ H R
theorem si0_range1 {a : EX} (ha : SndE K P W ta a) : SndEIt0 K P W (L2.iRng1 (L2.tCons ta L2.tNil)) (eiRange (eaCons a eaNil)) := fun B hK hP σ δ H T τ w Qd Xd hh R q x =>
  ha B hK hP σ δ H T τ w _ Xd hh _ (fun v o δ1 H1 h1 w1 => by
    have h1' : rngItems [o.fz] fun ds => Qd ds δ1 := h1
    unfold rngItems at h1'
    split at h1'
    · rename_i n e
      have r : Dr B.K H1 v o.fz := w1.top
      have e0 : o.fz = .int n := by simpa using e
      rw [e0] at r
      cases r
      refine ⟨n, rfl, h1'.1.1, h1'.1.2, q _ _ δ1 H1 h1'.2 w1.drop fun Z f g _ => itr_ok⟩
    · simp at *
    · exact h1'.elim) x
theorem ss_for0 {own : List Nat} {wi : L2.TI} {it : EIt} {g : L2.TG} {gx : GX} (hi : SndEIt0 K P W wi it) (hg : SndGE K P own g gx) (hb : SndS K P W z ts s) : SndS K P W z (L2.tFor wi g ts) (sFor it gx s) := fun B hK hP σ δ H T τ hz w E h D R =>
  hi B hK hP σ δ H T τ w _ _ h _ (fun J ds δ1 H1 h1 w1 itk => by
    subst hK
    obtain ⟨Z1, f1, g1, w1⟩ := w1
    have it1 := itk Z1 f1 g1 w1
    refine ⟨fun i m σ2 H2 => m = ds.length - i ∧ i ≤ ds.length ∧ ∃ δ2, Wd (w1.base B.P) H2 σ2 δ2 T τ ∧ forL gx s E (ds.drop i) δ2, ⟨ds.length, by simp, Nat.zero_le _, δ1, ⟨Z1, f1, g1, w1.rebase B.P⟩, h1⟩, ?_⟩
    rintro i m σ2 H2 ⟨rfl, hi2, δ2, w2, hl⟩
    obtain ⟨Z2, f2, g2, w2⟩ := w2
    obtain ⟨kt, kl⟩ := w1.kept w2
    obtain ⟨itm, stop⟩ := it1 Z2 H2 kt kl
    have fin : ∀ {σ9 : L2.St} {δ9 : DE} {H9 : Hp} {T9 : List V} {τ9 : List OV}, Wd (w1.base B.P) H9 σ9 δ9 T9 τ9 → Wd B H9 σ9 δ9 T9 τ9 := fun w9 => Wd.unbase w1 w9 fun _ m => m
    by_cases hlt : i < ds.length
    · obtain ⟨go, yld⟩ := itm i ds[i] (by simp [hlt])
      rw [List.drop_eq_getElem_cons hlt] at hl
      refine .inr ⟨go, fun σ' H' => ∃ δ2, Wd (w1.base B.P) H' σ' δ2 T τ ∧ forL gx s E (ds.drop (i + 1)) δ2, fun σ' H' hn => ⟨ds.length - (i + 1), by omega, rfl, hlt, hn⟩, fun xv H3 hy => ?_⟩
      obtain ⟨x3, rx⟩ := yld xv H3 hy
      have w3 := w2.ex x3
      have w4 : Wd (w1.base B.P) H3 σ2 δ2 (xv :: T) (.im ds[i] :: τ) := ⟨Z2, f2, [] ++ g2, w3.s, OwL.cons (f := []) (.im rx) w3.t, w3.ok, w3.st, w3.fr, w3.pr, w3.tq⟩
      refine hg (w1.base B.P) rfl hP xv _ σ2 δ2 H3 _ _ w4 _ hl _ fun σ3 δ3 q3 w5 _ _ => ?_
      refine hb (w1.base B.P) rfl hP σ3 δ3 H3 _ _ hz w5 _ q3 _ ⟨fun σ δ H q w => ⟨δ, w, q⟩, fun v o σ δ H q w => R.rt v o σ δ H q (fin w), fun σ δ H q w => R.nx σ δ H q (fin w), fun σ δ H q w => ⟨δ, w, q⟩, fun x cls dd σ δ H q w xr => R.ex x cls dd σ δ H q (fin w) xr⟩
    · have ei : i = ds.length := by omega
      subst ei
      rw [List.drop_length] at hl
      exact .inl ⟨stop, R.nx _ _ _ hl (fin ⟨Z2, f2, g2, w2⟩)⟩) fun x cls dd δ' H' hx wx xr => R.ex x cls dd σ δ' H' hx wx xr
/-- raise C(), C an own class without own __init__ -/
theorem ss_raise0 {c : Str} {C : Addr} (hC : C = He.ga K c) : SndS K P W z (fun _ σ H => (fun (_ : L2.St) (H : Hp) (Q : L2.XK) => Q (.ref C) none H) σ H fun cls d H' => W cls d σ H') (sRaise c [] paNil) := fun B hK hP σ δ H T τ hz w E h D R => by
  have h1 : E.ex ⟨c, []⟩ δ := h.2.2
  exact R.ex ⟨c, []⟩ (.ref C) none σ δ H h1 w.dropAll ⟨by rw [hC], .inl rfl⟩
/-- try: b / except C: h -/
theorem ss_try {cl : Str → Option Bool} {cv : Value} {tb : WX → L2.TS} {th : Addr → Value → Option Addr → L2.TS} {h : SX} (hb : ∀ W', SndS K P W' true (tb W') s) (hh : ∀ a cls d, SndS K P W0 true (th a cls d) h)
    (hc : ∀ (x : Str) (k : Bool), cl x = some k → PySem.W.exmOne K (.ref (He.ga K x)) cv = some k) : SndS K P W true (fun D σ H => tb (L2.wOnly K cv th W D) D σ H) (sTry s cl h) := fun B hK hP σ δ H T τ hz w E hs D R => by
  refine hb _ B hK hP σ δ H T τ hz w _ hs D ⟨R.nx, R.rt, R.bk, R.ct, fun x cls dd σ1 δ1 H1 hx w1 xr => ?_⟩
  obtain ⟨rfl, rfl⟩ := hz rfl
  have xr1 := xr.1
  simp only [] at hx
  split at hx
  · rename_i hk
    refine ⟨true, by rw [xr1]; exact hc _ _ hk, fun _ a ha => ?_, nofun⟩
    exact hh a cls dd B hK hP σ1 δ1 H1 [] [] (fun _ => ⟨rfl, rfl⟩) w1 _ hx D ⟨R.nx, R.rt, R.bk, R.ct, fun _ _ _ _ _ _ z _ _ => z.elim⟩
  · rename_i hk
    exact ⟨false, by rw [xr1]; exact hc _ _ hk, nofun, fun _ => R.ex x cls dd σ1 δ1 H1 hx w1 xr⟩
  · exact hx.elim
end
end DL
/-! The data layer's soundness, 12: defs whose callers' guards are known; a def by its data. -/
namespace DL
open PySem PySem.Spec PyProof.Rows
section
variable {B : Base} {H H' : Hp} {σ σ' : L2.St} {δ δ' : DE} {T T' vs : List V} {τ τ' os : List OV} {Z Z' : Addr → Prop} {f g f' g' : List Addr} {v : V} {o c : OV} {i : Nat}
theorem getAll_set : ∀ {P : List Nat} {j : Nat}, j ∉ P → getAll (dset δ j none) P = getAll δ P
  | [], _, _ => rfl
  | k :: P, j, h => by
    simp only [List.mem_cons, not_or] at h
    simp only [getAll]
    rw [dget_dset_ne none δ j k h.1, getAll_set h.2]
/-- the values of some slots moved to the top -/
theorem Wd.outs : ∀ {P : List Nat} {os : List OV} {δ : DE} {T : List V} {τ : List OV}, P.Nodup → getAll δ P = some os → Wd B H σ δ T τ →
    ∃ us δ', Wd B H σ δ' (us ++ T) (os ++ τ) ∧ us.length = os.length ∧ P.map (fun i => σ[i]?) = us.map fun u => some (some u)
  | [], os, δ, T, τ, _, e, w => by
    cases e
    exact ⟨[], δ, w, rfl, rfl⟩
  | j :: P, os, δ, T, τ, nd, e, w => by
    obtain ⟨nj, nd⟩ := List.nodup_cons.mp nd
    simp only [getAll] at e
    split at e
    · rename_i o os' e1 e2
      cases e
      obtain ⟨v, ev, w1⟩ := w.mv e1
      obtain ⟨us, δ', w2, hl, hm⟩ := Wd.outs nd ((getAll_set nj).trans e2) w1
      exact ⟨v :: us, δ', w2.rot hl, by simp [hl], by simp only [List.map_cons, ev, hm]⟩
    · cases e
theorem OwS.frees {K : PySem.W.Frag} : ∀ n : Nat, OwS K H Z (List.replicate n none) (List.replicate n none) []
  | 0 => .nil
  | n + 1 => .free (OwS.frees n)
theorem OwL.starts {K : PySem.W.Frag} (n : Nat) : ∀ {vs : List V} {os : List OV} {f : List Addr}, OwL K H Z vs os f → OwS K H Z (vs.map some ++ List.replicate n none) (os.map some ++ List.replicate n none) f
  | _, _, _, .nil => OwS.frees n
  | _, _, _, .cons a b => .val a (b.starts n)
end
/-- as the kit's FnOk, for callers whose guards are known -/
structure FnG (P : Program) (w : World) (K : PySem.W.Frag) (mg : Str → Option Value) (base : Heap) (k : Nat) (f : Addr) (fd : FuncData) (ps : List Str) (sp : L2.Sp) : Prop where
  len : ∀ vs H Q E, sp vs H Q E → vs.length = ps.length
  run : ∀ (A : Around) (outer : List Env) (s : Shared) (H : Hp) (args : Args) (us : List Value) (vs : List V) (Q : L2.VK) (E : L2.XK), A.guards = some [] → L2.Room k A →
    L2.Env0 P w K mg base A outer s H → BindsTo s fd args (ps.zip us) → L2.Vals vs us → sp vs H Q E → codeAny (model P w) A (.call (.ref f) args) (L2.CR (L2.CX P w) outer P w H s Q E) s
theorem FnG.mono {P : Program} {w : World} {K : PySem.W.Frag} {mg : Str → Option Value} {base : Heap} {j k : Nat} {f : Addr} {fd : FuncData} {ps : List Str} {sp : L2.Sp} (F : FnG P w K mg base j f fd ps sp) (h : j ≤ k) : FnG P w K mg base k f fd ps sp where
  len := F.len
  run := fun A outer s H args us vs Q E hg hr => F.run A outer s H args us vs Q E hg (hr.mono h)
section
variable {X : L2.Cx} {k : Nat} {f : Addr} {fd : FuncData} {ps : List Str} {sp : L2.Sp} {W : WX} {x : Str} {p pos : Pos} {e : Expr} {es : List Expr} {t : L2.TA}
theorem runG {pins : List (Addr × Obj)} {σ : L2.St} {H : Hp} {s : Shared} {Q : L2.VK} {us : List Value} {vs : List V} (F : FnG X.prog X.w X.K X.mg X.base k f fd ps sp) (hg : X.A.guards = some []) (hr : L2.Room k X.A)
    (hb : L2.Binds X.K fd ps []) (tk : L2.Takes X W) (I : L2.Inv X pins σ H s) (r : L2.Vals vs us) (h : sp vs H Q (L2.WE W σ)) :
    wpAny (model X.prog X.w) X.A (call (.ref f) us) (L2.EP X pins σ Q) X.xe s := by
  have hl : (us ++ []).length = ps.length := by
    rw [List.append_nil, ← r.length]
    exact F.len _ _ _ _ h
  have bn := hb s us I.kIn hl
  rw [List.append_nil] at bn
  refine wpAny_call (codeAny_mono (F.run X.A X.stack s H ⟨us, []⟩ us vs Q _ hg hr I.env0 bn r h) ?_)
  intro r' s' hq
  match r', hq with
  | .error e', hq => exact L2.passAt tk σ pins H s e' s' I hq
  | .ok (.ret u), hq => exact I.after hq
theorem pe_callG (F : FnG X.prog X.w X.K X.mg X.base k f fd ps sp) (gd : X.A.guards = some []) (hr : L2.Room k X.A) (hg : L2.Gl X x) (hm : X.mg x = some (.ref f)) (hk : PySem.W.keepIn X.K (.ref f) = true) (hb : L2.Binds X.K fd ps []) (tk : L2.Takes X W)
    (ha : L2.PA X (e :: es) t) (hdb : (x == ("__debug__" : Str)) = false := by decide)
    (he : starEach (e :: es) X.env = (false, eval e X.env) :: starEach es X.env := by rfl) (hpl : (backTo pos (starEach es X.env)).any (·.1) = false := by rfl) :
    L2.PE X (.Call (.Name x p) (e :: es) [] pos) (L2.tCallSD sp [] (L2.WE W) t) := ⟨fun pins s σ H Q I h =>
  wpAny_Call_Name_kw (L2.ld_glob I hg hm (PySem.W.callWith_K (h₀ := X.base) I.ok.mod.kin hk (L2.thn (ha.run pos pins s σ H _ I h)
    fun us s1 ⟨vs, H1, I1, r, q⟩ => ⟨I1.kIn, runG F gd hr hb tk I1 r (by
      have q' : sp (vs ++ []) H1 Q (L2.WE W σ) := q
      rw [List.append_nil] at q'
      exact q')⟩) he hpl) hdb)⟩
end
section
variable {P : Program} {w : World} {K : PySem.W.Frag} {mg : Str → Option Value} {base : Heap} {k : Nat} {f : Addr} {fd : FuncData} {name qual : Str} {params : Arguments} {body : List Stmt} {scope : Scope} {N ps : List Str} {sp : L2.Sp}
/-- a def by its body -/
theorem fnG_ofC (Fd : L2.FunD K name qual params body scope [] [] f fd) (S : L2.FnScope N ps scope) (len : ∀ vs H Q E, sp vs H Q E → vs.length = ps.length)
    (hbody : ∀ (cdv : Value) (A : Around) (outer : List Env) (s : Shared) (H : Hp) (vs : List V) (Q : L2.VK) (E : L2.XK), (∃ oc od dV kV doc pm an ct osl, K.lookup f = some ⟨oc, od, .func (PySem.W.fnOf name qual params body scope dV kV doc pm an cdv ct), osl⟩ ∧ PySem.W.codeIn K cdv qual = true) → A.guards = some [] → L2.Room k (A.deeper (envOfC qual scope s.heap.objs.size f cdv)) → sp vs H Q E →
      ∃ t, L2.PSs (L2.cxOf (L2.CX P w) P w K mg base N qual scope f cdv A outer s H E) body t ∧ t { nx := fun _ H' => Q .non H', rt := Q } (L2.start N vs) H) :
    FnG P w K mg base (k + 1) f fd ps sp := by
  refine ⟨len, ?_⟩
  intro A outer s H args us vs Q E hg hr e0 hb r hsp
  obtain ⟨oc, od, dV, kV, doc, pm, an, cdv, ct, osl, rfl, lk, hcd, _, _⟩ := Fd.ex
  have hl : vs.length = ps.length := len vs H Q E hsp
  have KX : K.In s.heap := e0.mod.kin.keeps fun b o z => (e0.bs b o z).1
  have hkind : ∀ y ∈ ps.zip us, scope.names.lookup y.1 = some .local ∨ (scope.names.lookup y.1 = some .cell ∧ ((cellsFrom (s.heap.objs.size + 1) scope.names []).lookup y.1).isSome = true) := by
    rintro ⟨n, v⟩ hy
    exact (S.par n (List.of_mem_zip hy).1).elim .inl fun q => .inr ⟨q, PySem.W.cellsFrom_some _ _ _ (.inl q)⟩
  refine codeAny_call_function hr.depth (KX _ _ lk) rfl S.co S.gen rfl (PySem.W.codeRec_of KX hcd) (hb _ _ _ _ ?_)
  refine wpAny_newFunctionEnv_cells S.kind hkind fun env he s1 x => ?_
  subst he
  refine ⟨(e0.mod.nolimit.keeps fun b o z => (e0.bs b o z).1).keeps x.toInCall.keep, codeAny_func ?_⟩
  obtain ⟨t, ht, hq⟩ := hbody cdv A outer s H vs Q E ⟨_, _, _, _, _, _, _, _, _, lk, hcd⟩ hg (hr.deeper _) hsp
  refine wpAny_mono (ht.run [] s1 (L2.start N vs) H _ (L2.inv_start S hr.hd e0 hl r x) hq) ?_ fun e s' z => z
  intro fl s' hs
  have ends : ∀ {σ9 : L2.St} {H9 : Hp} {v : V} {u : Value}, L2.Inv (L2.cxOf (L2.CX P w) P w K mg base N qual scope f cdv A outer s H E) [] σ9 H9 s' → L2.RelV v u → Q v H9 → L2.CE outer P w H s Q u s' := fun J rv q => ⟨_, _, J.os, J.bare, J.base, J.hok, rv, q⟩
  cases fl with
  | ret u =>
    obtain ⟨v, σ9, H9, J, rv, q⟩ := hs
    exact ends J rv q
  | next =>
    obtain ⟨σ9, H9, J, q⟩ := hs
    exact ends (v := L2.V.non) (u := Value.none) J rfl q
  | brk => exact hs.elim fun _ h => h.elim fun _ h => h.2.elim
  | cont => exact hs.elim fun _ h => h.elim fun _ h => h.2.elim
theorem fnG_of (Fd : L2.FunD K name qual params body scope [] [] f fd) (S : L2.FnScope N ps scope) (len : ∀ vs H Q E, sp vs H Q E → vs.length = ps.length)
    (hbody : ∀ (cdv : Value) (A : Around) (outer : List Env) (s : Shared) (H : Hp) (vs : List V) (Q : L2.VK) (E : L2.XK), A.guards = some [] → L2.Room k (A.deeper (envOfC qual scope s.heap.objs.size f cdv)) → sp vs H Q E →
      ∃ t, L2.PSs (L2.cxOf (L2.CX P w) P w K mg base N qual scope f cdv A outer s H E) body t ∧ t { nx := fun _ H' => Q .non H', rt := Q } (L2.start N vs) H) :
    FnG P w K mg base (k + 1) f fd ps sp := fnG_ofC Fd S len fun cdv A outer s H vs Q E _ => hbody cdv A outer s H vs Q E
theorem lentV_of {n : Nat} {vs us : List V} {σ0 : L2.St} : ∀ {P : List Nat}, (∀ i ∈ P, i < vs.length) → P.map (fun i => (vs.map some ++ List.replicate n none)[i]?) = us.map (fun u => some (some u)) → lentV P vs = us
  | [], _, e => by
    cases us with
    | nil => rfl
    | cons u us => cases e
  | i :: P, h, e => by
    cases us with
    | nil => cases e
    | cons u us =>
      simp only [List.map_cons, List.cons.injEq] at e
      have hi := h i List.mem_cons_self
      have e1 : vs[i]? = some u := by
        have e2 := e.1
        rw [List.getElem?_append_left (by simpa using hi), List.getElem?_map] at e2
        cases q : vs[i]? with
        | none => rw [q] at e2; cases e2
        | some z => rw [q] at e2; simpa using e2
      show List.filterMap (fun k => vs[k]?) (i :: P) = u :: us
      rw [List.filterMap_cons, e1]
      exact congrArg (u :: ·) (lentV_of (σ0 := σ0) (fun j m => h j (List.mem_cons_of_mem _ m)) e.2)
/-- a def by its data: P', the slots of the parameters that are lent -/
theorem fn_data {F : FD} {s : SX} {ts : WX → L2.TS} {P' : List Nat} {n : Nat} (Fd : L2.FunD K name qual params body scope [] [] f fd) (S : L2.FnScope N ps scope) (hn : ps.length = n) (hP : ∀ i ∈ P', i < n) (hnd : P'.Nodup)
    (vc : ∀ os Qd Xd, os.length = n → F os Qd Xd → s (fnEn P' Qd Xd) (startD N.length os)) (snd : ∀ W, SndS K P' W true (ts W) s)
    (hb : ∀ (cdv : Value) (A : Around) (outer : List Env) (s : Shared) (H : Hp) (E : L2.XK) (W : WX), A.guards = some [] → L2.Room k (A.deeper (envOfC qual scope s.heap.objs.size f cdv)) →
      L2.Takes (L2.cxOf (L2.CX P w) P w K mg base N qual scope f cdv A outer s H E) W → L2.PSs (L2.cxOf (L2.CX P w) P w K mg base N qual scope f cdv A outer s H E) body (ts W)) (hn9 : n < 1000 := by decide) :
    FnG P w K mg base (k + 1) f fd ps (spD K n P' F) := by
  subst hn
  refine fnG_of Fd S (fun vs H Q E h => h.1) fun cdv A outer s0 H vs Q E hg hr hsp => ?_
  obtain ⟨hl, os, Z, fp, Qd, Xd, ow, ok, hF, hQ, hE⟩ := hsp
  refine ⟨_, hb cdv A outer s0 H E (fun cls d _ H => E cls d H) hg hr (L2.takes_of rfl rfl rfl rfl), ?_⟩
  have e1 : L2.start N vs = vs.map some ++ List.replicate (N.length - vs.length) none := rfl
  have e2 : startD N.length os = os.map some ++ List.replicate (N.length - vs.length) none := by
    unfold startD
    rw [ow.length]
  have w0 : Wd ⟨K, H, Z, fp, P', L2.start N vs⟩ H (L2.start N vs) (startD N.length os) [] [] := by
    refine ⟨Z, fp, [], ?_, .nil, by rw [List.append_nil]; exact ok, .refl, fun a m => .inl (by simpa using m), fun _ _ => rfl, fun p m => by
    obtain ⟨i, hi, e⟩ := List.mem_filterMap.mp m
    have := hP i hi
    have h2 : tbNm i = none := by
      unfold tbNm
      split
      · omega
      · rfl
    rw [h2] at e
    cases e⟩
    rw [e1, e2]
    exact ow.starts _
  have fin : ∀ {σ' : L2.St} {δ' : DE} {H' : Hp} {v : V} {o : OV}, (match getAll δ' P' with | some os => Qd o os | none => False) → Wd ⟨K, H, Z, fp, P', L2.start N vs⟩ H' σ' δ' [v] [o] → Q v H' := fun {σ' δ' H' v o} h w => by
    split at h
    · rename_i os' e
      obtain ⟨us, δ2, w2, hl2, hm⟩ := Wd.outs hnd e w
      have w3 := w2.rot hl2
      obtain ⟨Z', f', g', w4⟩ := w3
      have hσ : P'.map (fun i => σ'[i]?) = P'.map fun i => (L2.start N vs)[i]? := List.map_congr_left fun i m => w4.pr i m
      rw [hσ, e1] at hm
      have el : lentV P' vs = us := lentV_of (σ0 := σ') (fun i m => by rw [hl]; exact hP i m) hm
      have ht := w4.t
      rw [List.append_nil, List.append_nil] at ht
      cases ht with
      | cons hv hus =>
        rename_i fo fp'
        refine hQ o os' v H' Z' fo fp' h hv (by rw [el]; exact hus) ⟨(List.nodup_append.mp w4.ok.nd).2.1, fun a m => w4.ok.nz a (List.mem_append_right _ m), w4.ok.zd⟩ w4.st fun a m => w4.fr a (List.mem_append_right _ m)
    · exact h.elim
  refine snd _ ⟨K, H, Z, fp, P', L2.start N vs⟩ rfl rfl _ _ H [] [] (fun _ => ⟨rfl, rfl⟩) w0 _ (vc os Qd Xd (ow.length.symm.trans hl) hF) _ ⟨fun σ' δ' H' h w => ?_, fun v o σ' δ' H' h w => fin h w, fun _ _ _ h _ => h.elim, fun _ _ _ h _ => h.elim, fun x cls dd σ' δ' H' hx w xr => ?_⟩
  · exact fin (v := L2.V.non) (o := .im .non) h (w.push .non rfl)
  · obtain ⟨Z', f', g', w⟩ := w
    exact hE x cls dd H' Z' hx xr w.st w.ok.zd
end
end DL
/-! The data layer's soundness, 13: walk and data in one judgement. -/
namespace DL
open PySem
/-! ### the readings that a data wp gives -/
section
variable (K : PySem.W.Frag) (W : WX)
def cE (p : PX) : L2.TE := fun σ H Q => ∃ (δ : DE) (M : Addr → Prop) (Qd : D → Prop) (Xd : Xc → Prop), Fm M H ∧ RdS K H M σ δ ∧ p δ Qd Xd ∧ (∀ v d H', Qd d → Ex H H' → Df K H' M v d → Q v H') ∧ ∀ x cls dd H', Xd x → Ex H H' → XR K H' cls dd x → W cls dd σ H'
def cA (p : PAx) : L2.TA := fun σ H Q => ∃ (δ : DE) (M : Addr → Prop) (Qd : List D → Prop) (Xd : Xc → Prop), Fm M H ∧ RdS K H M σ δ ∧ p δ Qd Xd ∧ (∀ v d H', Qd d → Ex H H' → DfL K H' M v d → Q v H') ∧ ∀ x cls dd H', Xd x → Ex H H' → XR K H' cls dd x → W cls dd σ H'
def cT (p : PT) : L2.TT := fun σ H Q => ∃ (δ : DE) (M : Addr → Prop) (Qd : Bool → Prop) (Xd : Xc → Prop), Fm M H ∧ RdS K H M σ δ ∧ p δ Qd Xd ∧ (∀ b H', Qd b → Ex H H' → Q b H') ∧ ∀ x cls dd H', Xd x → Ex H H' → XR K H' cls dd x → W cls dd σ H'
def cO (p : PO) : L2.TO := fun σ H Q => ∃ (δ : DE) (M : Addr → Prop) (Qd : Option Int → Prop) (Xd : Xc → Prop), Fm M H ∧ RdS K H M σ δ ∧ p δ Qd Xd ∧ (∀ b H', Qd b → Ex H H' → Q b H') ∧ ∀ x cls dd H', Xd x → Ex H H' → XR K H' cls dd x → W cls dd σ H'
def cI (p : PIt) : L2.TI := fun σ H R => ∃ (δ : DE) (M : Addr → Prop) (Qd : List D → Prop) (Xd : Xc → Prop), Fm M H ∧ RdS K H M σ δ ∧ p δ Qd Xd ∧ (∀ J ds H', Qd ds → Ex H H' → ItOk K M J ds H' → R J H') ∧ ∀ x cls dd H', Xd x → Ex H H' → XR K H' cls dd x → W cls dd σ H'
def cG (own : List Nat) (g : GX) : L2.TG := fun v σ H Q => ∃ (d : D) (δ : DE) (M : Addr → Prop) (Qd : DE → Prop), RdS K H M σ δ ∧ Df K H M v d ∧ g d δ Qd ∧ ∀ σ' δ', Qd δ' → RdS K H M σ' δ' → σ'.length = σ.length → (∀ i, i ∉ own → σ'[i]? = σ[i]?) → Q σ' H
def cGs (own : List Nat) (g : GXs) : L2.TGs := fun v σ H Q => ∃ (d : List D) (δ : DE) (M : Addr → Prop) (Qd : DE → Prop), RdS K H M σ δ ∧ DfL K H M v d ∧ g d δ Qd ∧ ∀ σ' δ', Qd δ' → RdS K H M σ' δ' → σ'.length = σ.length → (∀ i, i ∉ own → σ'[i]? = σ[i]?) → Q σ' H
variable (P : List Nat)
def oE (e : EX) : L2.TE := fun σ H Q => ∃ (B : Base) (δ : DE) (T : List V) (τ : List OV) (Qd : OV → DE → Prop) (Xd : Xc → DE → Prop), B.K = K ∧ B.P = P ∧ Wd B H σ δ T τ ∧ e δ Qd Xd ∧ (∀ v o δ' H', Qd o δ' → Wd B H' σ δ' (v :: T) (o :: τ) → Q v H') ∧
  ∀ x cls dd δ' H', Xd x δ' → Wd B H' σ δ' [] [] → XR K H' cls dd x → W cls dd σ H'
def oA (e : EAx) (lt : List (Option Nat)) : L2.TA := fun σ H Q => ∃ (B : Base) (δ : DE) (T : List V) (τ : List OV) (Qd : List OV → DE → Prop) (Xd : Xc → DE → Prop), B.K = K ∧ B.P = P ∧ Wd B H σ δ T τ ∧ e δ Qd Xd ∧
  (∀ vs os δ' H', Qd os δ' → Wd B H' σ δ' (vs ++ T) (os ++ τ) → vs.length = os.length → vs.length = lt.length → (∀ (k j : Nat), lt[k]? = some (some j) → ∃ v, vs[k]? = some v ∧ σ[j]? = some (some v)) → Q vs H') ∧
  ∀ x cls dd δ' H', Xd x δ' → Wd B H' σ δ' [] [] → XR K H' cls dd x → W cls dd σ H'
def oT (e : ETx) : L2.TT := fun σ H Q => ∃ (B : Base) (δ : DE) (T : List V) (τ : List OV) (Qd : Bool → DE → Prop) (Xd : Xc → DE → Prop), B.K = K ∧ B.P = P ∧ Wd B H σ δ T τ ∧ e δ Qd Xd ∧ (∀ b δ' H', Qd b δ' → Wd B H' σ δ' T τ → Q b H') ∧
  ∀ x cls dd δ' H', Xd x δ' → Wd B H' σ δ' [] [] → XR K H' cls dd x → W cls dd σ H'
def oI (e : EIt) : L2.TI := fun σ H R => ∃ (B : Base) (δ : DE) (T : List V) (τ : List OV) (Qd : List D → DE → Prop) (Xd : Xc → DE → Prop), B.K = K ∧ B.P = P ∧ Wd B H σ δ T τ ∧ e δ Qd Xd ∧
  (∀ J ds δ' H' U υ, Qd ds δ' → U.length = υ.length → Wd B H' σ δ' (U ++ T) (υ ++ τ) → (∀ Z f g, Wx B H' σ δ' (U ++ T) (υ ++ τ) Z f g → ItOk K Z J ds H') → R J H') ∧
  ∀ x cls dd δ' H', Xd x δ' → Wd B H' σ δ' [] [] → XR K H' cls dd x → W cls dd σ H'
def oPt (i : Nat) (w : PW) : L2.TE := fun σ H Q => ∃ (B : Base) (δ : DE) (T : List V) (τ : List OV) (Qd : List Int → OV → Prop) (Xd : Xc → Prop), B.K = K ∧ B.P = P ∧ Wd B H σ δ T τ ∧ w δ Qd Xd ∧
  (∀ is o c v u H' Z f g, Qd is o → Wx B H' σ δ T τ Z f g → dget δ i = some c → getP c is = some o → σ[i]? = some (some v) → PtV K H' Z v is u o → Q u H') ∧
  ∀ x cls dd H', Xd x → Wd B H' σ δ [] [] → XR K H' cls dd x → W cls dd σ H'
def oG (own : List Nat) (g : GX) : L2.TG := fun v σ H Q => ∃ (B : Base) (d : D) (δ : DE) (T : List V) (τ : List OV) (Qd : DE → Prop), B.K = K ∧ B.P = P ∧ Wd B H σ δ (v :: T) (.im d :: τ) ∧ g d δ Qd ∧
  ∀ σ' δ', Qd δ' → Wd B H σ' δ' T τ → σ'.length = σ.length → (∀ i, i ∉ own → σ'[i]? = σ[i]?) → Q σ' H
def oGs (own : List Nat) (g : GXs) : L2.TGs := fun v σ H Q => ∃ (B : Base) (d : List D) (δ : DE) (T : List V) (τ : List OV) (Qd : DE → Prop), B.K = K ∧ B.P = P ∧ v.length = d.length ∧ Wd B H σ δ (v ++ T) (d.map .im ++ τ) ∧ g d δ Qd ∧
  ∀ σ' δ', Qd δ' → Wd B H σ' δ' T τ → σ'.length = σ.length → (∀ i, i ∉ own → σ'[i]? = σ[i]?) → Q σ' H
def oGO (g : GO) : L2.TG := fun v σ H Q => ∃ (B : Base) (o : OV) (δ : DE) (T : List V) (τ : List OV) (Qd : DE → Prop), B.K = K ∧ B.P = P ∧ Wd B H σ δ (v :: T) (o :: τ) ∧ g o δ Qd ∧ ∀ σ' δ', Qd δ' → Wd B H σ' δ' T τ → Q σ' H
def oS (z : Bool) (s : SX) : L2.TS := fun D σ H => ∃ (B : Base) (δ : DE) (T : List V) (τ : List OV) (E : En), B.K = K ∧ B.P = P ∧ (z = true → T = [] ∧ τ = []) ∧ Wd B H σ δ T τ ∧ s E δ ∧ EnR B K W T τ E D
end
section
variable {K : PySem.W.Frag} {W : WX} {P own : List Nat} {z : Bool}
theorem cE_s {p : PX} : SndP K W (cE K W p) p := fun σ δ H M a b Qd Xd h Q q x => ⟨δ, M, Qd, Xd, a, b, h, q, x⟩
theorem cA_s {p : PAx} : SndPA K W (cA K W p) p := fun σ δ H M a b Qd Xd h Q q x => ⟨δ, M, Qd, Xd, a, b, h, q, x⟩
theorem cT_s {p : PT} : SndPT K W (cT K W p) p := fun σ δ H M a b Qd Xd h Q q x => ⟨δ, M, Qd, Xd, a, b, h, q, x⟩
theorem cO_s {p : PO} : SndPO K W (cO K W p) p := fun σ δ H M a b Qd Xd h Q q x => ⟨δ, M, Qd, Xd, a, b, h, q, x⟩
theorem cI_s {p : PIt} : SndPIt K W (cI K W p) p := fun σ δ H M a b Qd Xd h Q q x => ⟨δ, M, Qd, Xd, a, b, h, q, x⟩
theorem cG_s {g : GX} : SndG K own (cG K own g) g := fun v d σ δ H M a b Qd h Q q => ⟨d, δ, M, Qd, a, b, h, q⟩
theorem cGs_s {g : GXs} : SndGs K own (cGs K own g) g := fun v d σ δ H M a b Qd h Q q => ⟨d, δ, M, Qd, a, b, h, q⟩
theorem oE_s {e : EX} : SndE K P W (oE K W P e) e := fun B hK hP σ δ H T τ w Qd Xd h Q q x => ⟨B, δ, T, τ, Qd, Xd, hK, hP, w, h, q, x⟩
theorem oA_s {e : EAx} {lt : List (Option Nat)} : SndEA K P W (oA K W P e lt) e lt := fun B hK hP σ δ H T τ w Qd Xd h Q q x => ⟨B, δ, T, τ, Qd, Xd, hK, hP, w, h, q, x⟩
theorem oT_s {e : ETx} : SndET K P W (oT K W P e) e := fun B hK hP σ δ H T τ w Qd Xd h Q q x => ⟨B, δ, T, τ, Qd, Xd, hK, hP, w, h, q, x⟩
theorem oI_s {e : EIt} : SndEIt K P W (oI K W P e) e := fun B hK hP σ δ H T τ w Qd Xd h Q q x => ⟨B, δ, T, τ, Qd, Xd, hK, hP, w, h, q, x⟩
theorem oPt_s {i : Nat} {e : PW} : SndPth K P W (oPt K W P i e) i e := fun B hK hP σ δ H T τ w Qd Xd h Q q x => ⟨B, δ, T, τ, Qd, Xd, hK, hP, w, h, q, x⟩
theorem oG_s {g : GX} : SndGE K P own (oG K P own g) g := fun B hK hP v d σ δ H T τ w Qd h Q q => ⟨B, d, δ, T, τ, Qd, hK, hP, w, h, q⟩
theorem oGs_s {g : GXs} : SndGsE K P own (oGs K P own g) g := fun B hK hP v d σ δ H T τ hl w Qd h Q q => ⟨B, d, δ, T, τ, Qd, hK, hP, hl, w, h, q⟩
theorem oGO_s {g : GO} : SndGO P K (oGO K P g) g := fun B hK hP v d σ δ H T τ w Qd h Q q => ⟨B, d, δ, T, τ, Qd, hK, hP, w, h, q⟩
theorem oS_s {s : SX} : SndS K P W z (oS K W P z s) s := fun B hK hP σ δ H T τ hz w E h D R => ⟨B, δ, T, τ, E, hK, hP, hz, w, h, R⟩
end
/-! ### the judgements -/
section
variable (X : L2.Cx) (W : WX) (P : List Nat)
def PP (e : Expr) (p : PX) : Prop := L2.PE X e (cE X.K W p)
def PPA (e : List Expr) (p : PAx) : Prop := L2.PA X e (cA X.K W p)
def PPT (e : Expr) (p : PT) : Prop := L2.PT X e (cT X.K W p)
def PPW (e : Expr) (p : PT) : Prop := L2.PW X e (cT X.K W p)
def PPTs (e : List Expr) (p : PT) : Prop := L2.PTs X e (cT X.K W p)
def PPO (e : Option Expr) (p : PO) : Prop := L2.PO X e (cO X.K W p)
def PPI (tg e : Expr) (p : PIt) : Prop := L2.PI X tg e (cI X.K W p)
def PPG (own : List Nat) (e : Expr) (g : GX) : Prop := L2.PG X e (cG X.K own g)
def PPGs (own : List Nat) (e : List Expr) (g : GXs) : Prop := L2.PGs X e (cGs X.K own g)
def EE (e : Expr) (p : EX) : Prop := L2.PE X e (oE X.K W P p)
def EA (e : List Expr) (p : EAx) (lt : List (Option Nat)) : Prop := L2.PA X e (oA X.K W P p lt)
def ET (e : Expr) (p : ETx) : Prop := L2.PT X e (oT X.K W P p)
def EW (e : Expr) (p : ETx) : Prop := L2.PW X e (oT X.K W P p)
def ETs (e : List Expr) (p : ETx) : Prop := L2.PTs X e (oT X.K W P p)
def EI (tg e : Expr) (p : EIt) : Prop := L2.PI X tg e (oI X.K W P p)
def EPt (i : Nat) (e : Expr) (p : PW) : Prop := L2.PE X e (oPt X.K W P i p)
def EG (own : List Nat) (e : Expr) (g : GX) : Prop := L2.PG X e (oG X.K P own g)
def EGs (own : List Nat) (e : List Expr) (g : GXs) : Prop := L2.PGs X e (oGs X.K P own g)
def EGO (e : Expr) (g : GO) : Prop := L2.PG X e (oGO X.K P g)
def SS (z : Bool) (e : Stmt) (s : SX) : Prop := L2.PS X e (oS X.K W P z s)
def Ss (z : Bool) (e : List Stmt) (s : SX) : Prop := L2.PSs X e (oS X.K W P z s)
end
section
variable {X : L2.Cx} {W : WX} {P own : List Nat} {z : Bool} {e : Expr} {es : List Expr} {st : Stmt} {sts : List Stmt}
theorem PP.of {t : L2.TE} {p : PX} (h : L2.PE X e t) (s : SndP X.K W t p) : PP X W e p := ⟨fun pins s0 σ H Q I ⟨δ, M, Qd, Xd, a, b, c, q, x⟩ => h.run pins s0 σ H Q I (s σ δ H M a b Qd Xd c Q q x)⟩
theorem PPA.of {t : L2.TA} {p : PAx} (h : L2.PA X es t) (s : SndPA X.K W t p) : PPA X W es p := ⟨fun pos pins s0 σ H Q I ⟨δ, M, Qd, Xd, a, b, c, q, x⟩ => h.run pos pins s0 σ H Q I (s σ δ H M a b Qd Xd c Q q x)⟩
theorem PPT.of {t : L2.TT} {p : PT} (h : L2.PT X e t) (s : SndPT X.K W t p) : PPT X W e p := ⟨fun pins s0 σ H Q I ⟨δ, M, Qd, Xd, a, b, c, q, x⟩ => h.run pins s0 σ H Q I (s σ δ H M a b Qd Xd c Q q x)⟩
theorem PPW.of {t : L2.TT} {p : PT} (h : L2.PW X e t) (s : SndPT X.K W t p) : PPW X W e p := ⟨fun wh pins s0 σ H Q I ⟨δ, M, Qd, Xd, a, b, c, q, x⟩ => h.run wh pins s0 σ H Q I (s σ δ H M a b Qd Xd c Q q x)⟩
theorem PPTs.of {t : L2.TT} {p : PT} (h : L2.PTs X es t) (s : SndPT X.K W t p) : PPTs X W es p := ⟨fun pins s0 σ H Q I ⟨δ, M, Qd, Xd, a, b, c, q, x⟩ => h.run pins s0 σ H Q I (s σ δ H M a b Qd Xd c Q q x)⟩
theorem PPO.of {e : Option Expr} {t : L2.TO} {p : PO} (h : L2.PO X e t) (s : SndPO X.K W t p) : PPO X W e p := ⟨fun pins s0 σ H Q I ⟨δ, M, Qd, Xd, a, b, c, q, x⟩ => h.run pins s0 σ H Q I (s σ δ H M a b Qd Xd c Q q x)⟩
theorem PPI.of {tg : Expr} {t : L2.TI} {p : PIt} (h : L2.PI X tg e t) (s : SndPIt X.K W t p) : PPI X W tg e p := ⟨fun pins s0 σ H Q I ⟨δ, M, Qd, Xd, a, b, c, q, x⟩ => h.run pins s0 σ H Q I (s σ δ H M a b Qd Xd c Q q x)⟩
theorem PPG.of {t : L2.TG} {g : GX} (h : L2.PG X e t) (s : SndG X.K own t g) : PPG X own e g := ⟨fun pins s0 σ H v u Q I r ⟨d, δ, M, Qd, a, b, c, q⟩ => h.run pins s0 σ H v u Q I r (s v d σ δ H M a b Qd c Q q)⟩
theorem PPGs.of {t : L2.TGs} {g : GXs} (h : L2.PGs X es t) (s : SndGs X.K own t g) : PPGs X own es g := ⟨fun pins s0 σ H v u Q I r ⟨d, δ, M, Qd, a, b, c, q⟩ => h.run pins s0 σ H v u Q I r (s v d σ δ H M a b Qd c Q q)⟩
theorem EE.of {t : L2.TE} {p : EX} (h : L2.PE X e t) (s : SndE X.K P W t p) : EE X W P e p := ⟨fun pins s0 σ H Q I ⟨B, δ, T, τ, Qd, Xd, a, b, w, c, q, x⟩ => h.run pins s0 σ H Q I (s B a b σ δ H T τ w Qd Xd c Q q x)⟩
theorem EA.of {t : L2.TA} {p : EAx} {lt : List (Option Nat)} (h : L2.PA X es t) (s : SndEA X.K P W t p lt) : EA X W P es p lt := ⟨fun pos pins s0 σ H Q I ⟨B, δ, T, τ, Qd, Xd, a, b, w, c, q, x⟩ => h.run pos pins s0 σ H Q I (s B a b σ δ H T τ w Qd Xd c Q q x)⟩
theorem ET.of {t : L2.TT} {p : ETx} (h : L2.PT X e t) (s : SndET X.K P W t p) : ET X W P e p := ⟨fun pins s0 σ H Q I ⟨B, δ, T, τ, Qd, Xd, a, b, w, c, q, x⟩ => h.run pins s0 σ H Q I (s B a b σ δ H T τ w Qd Xd c Q q x)⟩
theorem EW.of {t : L2.TT} {p : ETx} (h : L2.PW X e t) (s : SndET X.K P W t p) : EW X W P e p := ⟨fun wh pins s0 σ H Q I ⟨B, δ, T, τ, Qd, Xd, a, b, w, c, q, x⟩ => h.run wh pins s0 σ H Q I (s B a b σ δ H T τ w Qd Xd c Q q x)⟩
theorem ETs.of {t : L2.TT} {p : ETx} (h : L2.PTs X es t) (s : SndET X.K P W t p) : ETs X W P es p := ⟨fun pins s0 σ H Q I ⟨B, δ, T, τ, Qd, Xd, a, b, w, c, q, x⟩ => h.run pins s0 σ H Q I (s B a b σ δ H T τ w Qd Xd c Q q x)⟩
theorem EI.of {tg : Expr} {t : L2.TI} {p : EIt} (h : L2.PI X tg e t) (s : SndEIt X.K P W t p) : EI X W P tg e p := ⟨fun pins s0 σ H Q I ⟨B, δ, T, τ, Qd, Xd, a, b, w, c, q, x⟩ => h.run pins s0 σ H Q I (s B a b σ δ H T τ w Qd Xd c Q q x)⟩
theorem EPt.of {i : Nat} {t : L2.TE} {p : PW} (h : L2.PE X e t) (s : SndPth X.K P W t i p) : EPt X W P i e p := ⟨fun pins s0 σ H Q I ⟨B, δ, T, τ, Qd, Xd, a, b, w, c, q, x⟩ => h.run pins s0 σ H Q I (s B a b σ δ H T τ w Qd Xd c Q q x)⟩
theorem EG.of {t : L2.TG} {g : GX} (h : L2.PG X e t) (s : SndGE X.K P own t g) : EG X P own e g := ⟨fun pins s0 σ H v u Q I r ⟨B, d, δ, T, τ, Qd, a, b, w, c, q⟩ => h.run pins s0 σ H v u Q I r (s B a b v d σ δ H T τ w Qd c Q q)⟩
theorem EGs.of {t : L2.TGs} {g : GXs} (h : L2.PGs X es t) (s : SndGsE X.K P own t g) : EGs X P own es g := ⟨fun pins s0 σ H v u Q I r ⟨B, d, δ, T, τ, Qd, a, b, l, w, c, q⟩ => h.run pins s0 σ H v u Q I r (s B a b v d σ δ H T τ l w Qd c Q q)⟩
theorem EGO.of {t : L2.TG} {g : GO} (h : L2.PG X e t) (s : SndGO P X.K t g) : EGO X P e g := ⟨fun pins s0 σ H v u Q I r ⟨B, d, δ, T, τ, Qd, a, b, w, c, q⟩ => h.run pins s0 σ H v u Q I r (s B a b v d σ δ H T τ w Qd c Q q)⟩
theorem SS.of {t : L2.TS} {s : SX} (h : L2.PS X st t) (k : SndS X.K P W z t s) : SS X W P z st s := ⟨fun pins s0 σ H D I ⟨B, δ, T, τ, E, a, b, hz, w, c, R⟩ => h.run pins s0 σ H D I (k B a b σ δ H T τ hz w E c D R)⟩
theorem Ss.of {t : L2.TS} {s : SX} (h : L2.PSs X sts t) (k : SndS X.K P W z t s) : Ss X W P z sts s := ⟨fun pins s0 σ H D I ⟨B, δ, T, τ, E, a, b, hz, w, c, R⟩ => h.run pins s0 σ H D I (k B a b σ δ H T τ hz w E c D R)⟩
end
end DL
/-! The data layer's soundness, 14: the combined rules. -/
namespace DL
open PySem
/-- what a body knows of its place -/
structure Ct (X : L2.Cx) (W : WX) (k : Nat) : Prop where
  hr : L2.Room k X.A
  gd : X.A.guards = some []
  tk : L2.Takes X W
  calm : X.calm = true
  nd : X.N.Nodup
theorem Ct.blk {X : L2.Cx} {W : WX} {k : Nat} (C : Ct X W k) (s : Shared) (H : Hp) (scope : Scope) (cenv : Env) (fp : List Addr) : Ct (X.blk s H scope cenv fp) W0 k := ⟨C.hr, C.gd, L2.takes0, C.calm, C.nd⟩
/-- an operator, a comparison, a unary one, a builtin, by heap and by data -/
def BOp (X : L2.Cx) (op : Operator) (o : R2) : Prop := ∃ r, L2.OpR X (binaryOp op) r ∧ OpS X.K r o
def COp (X : L2.Cx) (op : CmpOp) (o : R2) : Prop := ∃ r, L2.OpR X (compareOp op) r ∧ OpS X.K r o
def UOp (X : L2.Cx) (op : UnaryOp) (o : R1) : Prop := ∃ r, L2.UnR X (unaryOp op) r ∧ UnS X.K r o
def IOp (X : L2.Cx) (op : Operator) (o : R2) : Prop := ∃ t, L2.PIp X op t ∧ IpS X.K t o
structure Blt (X : L2.Cx) (x : Str) (u : Value) (o : RL) : Prop where
  ex : ∃ r, L2.CallR X u r ∧ CbS X.K r o
  bt : bootBuiltins x = some u
structure BltF (X : L2.Cx) (x : Str) (u : Value) (o : RL) : Prop where
  ex : ∃ r, L2.CallR X u r ∧ CbF X.K r o
  bt : bootBuiltins x = some u
section
variable {X : L2.Cx} {W : WX} {k : Nat}
theorem oAdd : BOp X .Add opAdd := ⟨_, op_addAll, os_add⟩
theorem oSub : BOp X .Sub opSub := ⟨_, L2.op_sub, os_sub⟩
theorem oMul : BOp X .Mult opMul := ⟨_, op_mulAll, os_mul⟩
theorem oMod : BOp X .Mod opMod := ⟨_, L2.op_mod, os_mod⟩
theorem os_div {K : PySem.W.Frag} : OpS K (L2.rI L2.CDiv fun i j => .int (i / j)) opDiv := os_I (fun _ _ _ _ => .int _) fun d e Qd h => by
  unfold opDiv at h
  split at h
  · exact ⟨_, _, rfl, rfl, h.1, h.2⟩
  · exact h.elim
theorem oDiv : BOp X .FloorDiv opDiv := ⟨_, L2.op_fdiv, os_div⟩
theorem oPow : BOp X .Pow opPow := ⟨_, L2.op_pow, os_pow⟩
theorem uNeg : UOp X .USub opNeg := ⟨_, L2.un_neg, us_neg⟩
theorem kEq (C : Ct X W k) : COp X .Eq opEq := ⟨_, op_eqAll C.hr.units, os_eq⟩
theorem kNe (C : Ct X W k) : COp X .NotEq opNe := ⟨_, op_neAll C.hr.units, os_ne⟩
theorem kLt (C : Ct X W k) : COp X .Lt opLt := ⟨_, L2.op_lt, os_lt⟩
theorem kLe (C : Ct X W k) : COp X .LtE opLe := ⟨_, L2.op_le, os_le⟩
theorem kGt (C : Ct X W k) : COp X .Gt opGt := ⟨_, L2.op_gt, os_gt⟩
theorem kGe (C : Ct X W k) : COp X .GtE opGe := ⟨_, L2.op_ge, os_ge⟩
theorem kIsN (C : Ct X W k) : COp X .Is opIsN := ⟨_, L2.op_isN, os_isN⟩
theorem kNotN (C : Ct X W k) : COp X .IsNot opNotN := ⟨_, L2.op_notN, os_notN⟩
theorem kIn (C : Ct X W k) : COp X .In opIn := ⟨_, L2.op_in_seq, os_in⟩
theorem kNotIn (C : Ct X W k) : COp X .NotIn opNotIn := ⟨_, L2.op_notIn_seq, os_notIn⟩
/-- += of ints -/
abbrev ipAdd : R2 := fun x y Q => match x, y with | .int i, .int j => Q (.int (i + j)) | _, _ => False
theorem iAdd : IOp X .Add ipAdd := ⟨_, L2.ip_add, ips_add⟩
theorem iSub : IOp X .Sub opSub := ⟨_, L2.ip_sub, ips_sub⟩
theorem bLen (C : Ct X W k) : Blt X "len" (.builtin "len") fLen := ⟨⟨_, L2.call_len, cb_len⟩, PySem.boot_len⟩
theorem bTuple (C : Ct X W k) : Blt X "tuple" (.type "tuple") fTuple := ⟨⟨_, call_tupZ, cb_tuple⟩, PyProof.Rows.boot_tuple⟩
theorem bListP (C : Ct X W k) : Blt X "list" (.type "list") fList := ⟨⟨_, L2.call_list_of, cb_list⟩, PyProof.Rows.boot_list⟩
theorem bList (C : Ct X W k) : BltF X "list" (.type "list") fList := ⟨⟨_, L2.call_list_of, cbF_list⟩, PyProof.Rows.boot_list⟩
theorem bInt (C : Ct X W k) : Blt X "int" (.type "int") fInt := ⟨⟨_, L2.call_int1, cb_int⟩, PyProof.Rows.boot_int⟩
theorem bAbs (C : Ct X W k) : Blt X "abs" (.builtin "abs") fAbs := ⟨⟨_, L2.call_abs, cb_abs⟩, PyProof.Rows.boot_abs⟩
theorem bSum (C : Ct X W k) : Blt X "sum" (.builtin "sum") fSum := ⟨⟨_, L2.cr_sum C.calm, cb_sum⟩, PyProof.Rows.boot_sum⟩
theorem bAll (C : Ct X W k) : Blt X "all" (.builtin "all") fAll := ⟨⟨_, L2.cr_all C.calm, cb_all⟩, PyProof.Rows.boot_all⟩
theorem bAny (C : Ct X W k) : Blt X "any" (.builtin "any") fAny := ⟨⟨_, L2.cr_any C.calm, cb_any⟩, PyProof.Rows.boot_any⟩
theorem bIsi (C : Ct X W k) : Blt X "isinstance" (.builtin "isinstance") fIsi := ⟨⟨_, L2.call_isi, cb_isi⟩, PyProof.Rows.boot_isinstance⟩
end
section
variable {X : L2.Cx} {W : WX} {P own : List Nat} {z : Bool} {k : Nat} {a b c e tg iter elt : Expr} {es rest : List Expr} {pos p2 : Pos}
/-! ### pure -/
theorem xV (i : Nat) {x : Str} (hN : X.N[i]? = some x := by rfl) (hv : L2.Vis X.env.scope x := by first | exact Or.inl rfl | exact Or.inr (Or.inl rfl) | exact Or.inr (Or.inr rfl)) (hd : (x == ("__debug__" : Str)) = false := by decide)
    (hcd : (x == ("__classdict__" : Str)) = false := by decide) : PP X W (.Name x pos) (pVar i) := .of (L2.pe_var hN hv hd hcd) (sp_var i)
theorem xInt {i j} : PP X W (.Constant (.int i) j pos) (pC (.int i)) := .of L2.pe_int sp_int
theorem xStr {i j} : PP X W (.Constant (.str i) j pos) (pC (.str i)) := .of L2.pe_str sp_str
theorem xBl {i j} : PP X W (.Constant (.bool i) j pos) (pC (.bl i)) := .of L2.pe_bl sp_bl
theorem xNon {j} : PP X W (.Constant .none j pos) (pC .non) := .of L2.pe_non sp_non
theorem xGl {x : Str} {f : Addr} (hm : X.mg x = some (.ref f)) (hg : L2.Gl X x := by rfl) (hd : (x == ("__debug__" : Str)) = false := by decide) : PP X W (.Name x pos) (pC (.fn f)) := .of (L2.pe_glob (v := .ref f) hg hm rfl hd) sp_fn
theorem xK {x : Str} {f : Addr} {d : D} (hm : X.mg x = some (.ref f)) (hd : ∀ H M, Df X.K H M (.ref f) d) (hg : L2.Gl X x := by rfl) (hdb : (x == ("__debug__" : Str)) = false := by decide) : PP X W (.Name x pos) (pC d) := .of (L2.pe_glob (v := .ref f) hg hm rfl hdb) (sp_c hd)
theorem xTy {x : Str} {n : String} (hm : X.mg x = none) (hv : bootBuiltins x = some (.type n)) (hg : L2.Gl X x := by rfl) (hn : x ≠ "__name__" := by decide) (hd : (x == ("__debug__" : Str)) = false := by decide) : PP X W (.Name x pos) (pC (.ty n)) :=
  .of (L2.pe_bltn (v := .ty n) hg hm hv rfl hn hd) (sp_c fun _ _ => .ty n)
theorem xOp {op : Operator} {o : R2} {p q : PX} (ho : BOp X op o) (ha : PP X W a p) (hb : PP X W b q) : PP X W (.BinOp a op b pos) (pOp o p q) := by
  obtain ⟨r, h1, h2⟩ := ho
  exact .of (L2.pe_op h1 ha hb) (sp_op h2 cE_s cE_s)
theorem xUn {op : UnaryOp} {o : R1} {p : PX} (ho : UOp X op o) (ha : PP X W a p) : PP X W (.UnaryOp op a pos) (pUn o p) := by
  obtain ⟨r, h1, h2⟩ := ho
  exact .of (L2.pe_un h1 ha) (sp_un h2 cE_s)
theorem xCmp {op : CmpOp} {o : R2} {p q : PX} (ho : COp X op o) (ha : PP X W a p) (hb : PP X W b q) (hm : behindInMarks op b = false := by first | exact L2.nomark _ | with_unfolding_all rfl) : PP X W (.Compare a [op] [b] pos) (pOp o p q) := by
  obtain ⟨r, h1, h2⟩ := ho
  exact .of (L2.pe_cmpR h1 ha hb hm) (sp_op h2 cE_s cE_s)
theorem xOne {op} {p : PX} (h : PP X W a p) : PP X W (.BoolOp op [a] pos) p := .of (L2.pe_one h) cE_s
theorem xAnd {p q : PX} (ha : PP X W a p) (hb : PP X W (.BoolOp .And (b :: rest) pos) q) : PP X W (.BoolOp .And (a :: b :: rest) pos) (pAndV p q) := .of (L2.pe_and ha hb) (sp_andV cE_s cE_s)
theorem xOr {p q : PX} (ha : PP X W a p) (hb : PP X W (.BoolOp .Or (b :: rest) pos) q) : PP X W (.BoolOp .Or (a :: b :: rest) pos) (pOrV p q) := .of (L2.pe_or ha hb) (sp_orV cE_s cE_s)
theorem xNot {p : PX} (ha : PP X W a p) : PP X W (.UnaryOp .Not a pos) (pNotV p) := .of (L2.pe_not ha) (sp_notV cE_s)
theorem xIf {t : PT} {p q : PX} (hc : PPT X W c t) (ha : PP X W a p) (hb : PP X W b q) : PP X W (.IfExp c a b pos) (pIf t p q) := .of (L2.pe_ifExp hc ha hb) (sp_if cT_s cE_s cE_s)
theorem aNil : PPA X W [] paNil := .of L2.pa_nil spa_nil
theorem aCons {p : PX} {q : PAx} (ha : PP X W e p) (hr : PPA X W es q) (hs : starEach (e :: es) X.env = (false, eval e X.env) :: starEach es X.env := by rfl) : PPA X W (e :: es) (paCons p q) := .of (L2.pa_cons ha hr hs) (spa_cons cE_s cA_s)
theorem xTup {j} {q : PAx} (ha : PPA X W es q) : PP X W (.Tuple es j pos) (pTup q) := .of (pe_tupZ ha) (sp_tup cA_s)
theorem xLst {q : PAx} (ha : PPA X W es q) : PP X W (.List es pos) (pLst q) := .of (L2.pe_lst ha) (sp_lst cA_s)
theorem xIx {p q : PX} (ha : PP X W a p) (hb : PP X W b q) (hs : L2.PlainIx b := by intro _ _; with_unfolding_all rfl) : PP X W (.Subscript a b pos) (pOp opIx p q) := .of (L2.pe_ix L2.ix_seq ha hb hs) (sp_op os_ix cE_s cE_s)
theorem oNone : PPO X W none poNone := .of L2.po_none spo_none
theorem oSome {p : PX} (h : PP X W e p) : PPO X W (some e) (poSome p) := .of (L2.po_some h) (spo_some cE_s)
theorem xSl {p : PX} {lo hi : Option Expr} {pl ph : PO} (ha : PP X W a p) (hl : PPO X W lo pl) (hh : PPO X W hi ph) : PP X W (.Subscript a (.Slice lo hi none p2) pos) (pSl p pl ph) := .of (L2.pe_slice sl_all ha hl hh) (sp_sl cE_s cO_s cO_s)
theorem xCall {f : Addr} {fd : FuncData} {ps : List Str} {n : Nat} {F : FD} {x : Str} {p : Pos} {q : PAx} (Fn : FnG X.prog X.w X.K X.mg X.base k f fd ps (spD X.K n [] F)) (C : Ct X W k) (hm : X.mg x = some (.ref f)) (hk : PySem.W.keepIn X.K (.ref f) = true) (hb : L2.Binds X.K fd ps [])
    (ha : PPA X W (e :: es) q) (hg : L2.Gl X x := by rfl) (hdb : (x == ("__debug__" : Str)) = false := by decide)
    (he : starEach (e :: es) X.env = (false, eval e X.env) :: starEach es X.env := by rfl) (hpl : (backTo pos (starEach es X.env)).any (·.1) = false := by rfl) : PP X W (.Call (.Name x p) (e :: es) [] pos) (pCall n F q) :=
  .of (pe_callG Fn C.gd C.hr hg hm hk hb C.tk ha hdb he hpl) (sp_call cA_s)
theorem xB {x : Str} {id : String} {o : RL} {p : Pos} {q : PAx} (B : Blt X x (.builtin id) o) (hm : X.mg x = none) (ha : PPA X W (e :: es) q) (hg : L2.Gl X x := by rfl) (hn : x ≠ "__name__" := by decide) (hdb : (x == ("__debug__" : Str)) = false := by decide)
    (he : starEach (e :: es) X.env = (false, eval e X.env) :: starEach es X.env := by rfl) (hpl : (backTo pos (starEach es X.env)).any (·.1) = false := by rfl) : PP X W (.Call (.Name x p) (e :: es) [] pos) (pCB o q) := by
  obtain ⟨⟨r, h1, h2⟩, bt⟩ := B
  exact .of (L2.pe_callB h1 hg hm bt ha hn hdb he hpl) (sp_cb h2 cA_s)
theorem xT {x : Str} {id : String} {o : RL} {p : Pos} {q : PAx} (B : Blt X x (.type id) o) (hm : X.mg x = none) (ha : PPA X W (e :: es) q) (hg : L2.Gl X x := by rfl) (hn : x ≠ "__name__" := by decide) (hdb : (x == ("__debug__" : Str)) = false := by decide)
    (he : starEach (e :: es) X.env = (false, eval e X.env) :: starEach es X.env := by rfl) (hpl : (backTo pos (starEach es X.env)).any (·.1) = false := by rfl) : PP X W (.Call (.Name x p) (e :: es) [] pos) (pCB o q) := by
  obtain ⟨⟨r, h1, h2⟩, bt⟩ := B
  exact .of (L2.pe_callTy h1 hg hm bt ha hn hdb he hpl) (sp_cb h2 cA_s)
/-! ### tests -/
theorem tCmp {op : CmpOp} {o : R2} {p q : PX} (ho : COp X op o) (ha : PP X W a p) (hb : PP X W b q) (hm : behindInMarks op b = false := by first | exact L2.nomark _ | with_unfolding_all rfl) : PPT X W (.Compare a [op] [b] pos) (tB (pOp o p q)) := by
  obtain ⟨r, h1, h2⟩ := ho
  exact .of (L2.pt_cmpR h1 ha hb hm) (spt_test (sp_op h2 cE_s cE_s))
theorem tVal {p : PX} (h : PP X W e p) (he : ∀ whole, isTrue e X.env whole = (do let v ← whole; standAt e.pos; holding [v] (truthy v)) := by intro _; rfl) : PPT X W e (tB p) := .of (L2.pt_val h he) (spt_B cE_s)
theorem tTruth' {p : PX} (h : PP X W e p) (he : ∀ whole, isTrue e X.env whole = (do let v ← whole; standAt e.pos; holding [v] (truthy v)) := by intro _; rfl) : PPT X W e (tTru p) := .of (L2.pt_truth h he) (spt_tru cE_s)
theorem tNot {t : PT} (h : PPT X W a t) : PPT X W (.UnaryOp .Not a pos) (tNotP t) := .of (L2.pt_not h) (spt_not cT_s)
theorem wAnd1 {t : PT} (h : PPT X W a t) : PPW X W (.BoolOp .And [a] pos) t := .of (L2.pw_and1 h) cT_s
theorem wOr1 {t : PT} (h : PPT X W a t) : PPW X W (.BoolOp .Or [a] pos) t := .of (L2.pw_or1 h) cT_s
theorem wAnd {t u : PT} (h : PPT X W a t) (h2 : PPW X W (.BoolOp .And (b :: rest) pos) u) : PPW X W (.BoolOp .And (a :: b :: rest) pos) (tAndP t u) := .of (L2.pw_and h h2) (spt_and cT_s cT_s)
theorem wOr {t u : PT} (h : PPT X W a t) (h2 : PPW X W (.BoolOp .Or (b :: rest) pos) u) : PPW X W (.BoolOp .Or (a :: b :: rest) pos) (tOrP t u) := .of (L2.pw_or h h2) (spt_or cT_s cT_s)
theorem tW {t : PT} (h : PPW X W e t) : PPT X W e t := .of ⟨fun pins s σ H Q I q => L2.PW.run h _ pins s σ H Q I q⟩ cT_s
theorem tsNil : PPTs X W [] tYesP := .of L2.pts_nil fun σ δ H M hM rd Qd Xd h Q q x => q true H h (.refl H)
theorem tsOne {t : PT} (h : PPT X W c t) : PPTs X W [c] t := .of (L2.pts_one h) cT_s
end
end DL
/-! The data layer's soundness, 15: the combined rules, of what owns and of statements. -/
namespace DL
open PySem
section
variable {X : L2.Cx} {W : WX} {P own : List Nat} {z : Bool} {k : Nat} {a b c e tg iter elt : Expr} {es rest ifs : List Expr} {pos p2 spos : Pos} {scope : Scope} {ow : List (Str × Nat)}
abbrev Bk (X : L2.Cx) (scope : Scope) (s : Shared) (H : Hp) (A : Addr) (cl : List (Str × Addr)) (fp : List Addr) : L2.Cx := X.blk s H scope (compEnvC scope cl A X.env) fp
/-! ### targets -/
theorem gV {x : Str} (C : Ct X W k) (i : Nat) (hi : X.N[i]? = some x := by rfl) (hx : L2.Loc X.env.scope x := by first | exact Or.inl rfl | exact Or.inr rfl) (ho : i ∈ own := by decide) (hf : X.fn x = true ∨ X.env.scope.names.lookup x = some .local := by first | exact .inl rfl | exact .inr rfl) :
    PPG X own (.Name x pos) (gN i) := .of (L2.pg_name C.nd hi hx hf) (sg_name ho)
theorem gsN : PPGs X own [] gsNil := .of L2.pgs_nil sgs_nil
theorem gsC {g : GX} {r : GXs} (h1 : PPG X own e g) (h2 : PPGs X own es r) (hs : (assignEach (e :: es) X.env).map (·.2) = assign e X.env :: (assignEach es X.env).map (·.2) := by rfl) : PPGs X own (e :: es) (gsCons g r) := .of (L2.pgs_cons h1 h2 hs) (sgs_cons cG_s cGs_s)
theorem gTu {j n : Nat} {r : GXs} (C : Ct X W k) (h : PPGs X own es r) (hn : (assignEach es X.env).length = n := by rfl) (hst : (assignEach es X.env).findIdx? (·.1) = none := by rfl) : PPG X own (.Tuple es j pos) (gT n r) := .of (pg_tl C.calm h hn hst) (sg_tl cGs_s)
theorem eV {x : Str} (C : Ct X W k) (i : Nat) (hi : X.N[i]? = some x := by rfl) (hx : L2.Loc X.env.scope x := by first | exact Or.inl rfl | exact Or.inr rfl) (ho : i ∈ own := by decide) (hP : i ∉ P := by decide) (hf : X.fn x = true ∨ X.env.scope.names.lookup x = some .local := by first | exact .inl rfl | exact .inr rfl) :
    EG X P own (.Name x pos) (gN i) := .of (L2.pg_name C.nd hi hx hf) (sge_name ho hP)
theorem esN : EGs X P own [] gsNil := .of L2.pgs_nil sgse_nil
theorem esC {g : GX} {r : GXs} (h1 : EG X P own e g) (h2 : EGs X P own es r) (hs : (assignEach (e :: es) X.env).map (·.2) = assign e X.env :: (assignEach es X.env).map (·.2) := by rfl) : EGs X P own (e :: es) (gsCons g r) := .of (L2.pgs_cons h1 h2 hs) (sgse_cons oG_s oGs_s)
theorem eTu {j n : Nat} {r : GXs} (C : Ct X W k) (h : EGs X P own es r) (hn : (assignEach es X.env).length = n := by rfl) (hst : (assignEach es X.env).findIdx? (·.1) = none := by rfl) : EG X P own (.Tuple es j pos) (gT n r) := .of (pg_tl C.calm h hn hst) (sge_tl oGs_s)
theorem oTg {g : GX} (h : EG X P own e g) : EGO X P e (goT g) := .of h (sgo_tup oG_s)
/-! ### what is walked, comprehensions (pure) -/
theorem ppi_range1 {p : PX} {K : PySem.W.Frag} {te : L2.TE} (ha : SndP K W te p) : SndPIt K W (L2.iRng1 (L2.tCons te L2.tNil)) (piRange (paCons p paNil)) := fun σ δ H M hM rd Qd Xd h R q x =>
  ha σ δ H M hM rd _ Xd h _ (fun v d H1 h1 e1 r1 => by
    have h2 : rngItems [d] Qd := h1
    cases r1 with
    | int i => exact ⟨i, rfl, h2.1.1, h2.1.2, q _ _ H1 h2.2 e1 itr_ok⟩
    | _ => exact h2.elim) x
theorem ppi_range2 {p r : PX} {K : PySem.W.Frag} {te tr : L2.TE} (ha : SndP K W te p) (hb : SndP K W tr r) : SndPIt K W (L2.iRng2 (L2.tCons te (L2.tCons tr L2.tNil))) (piRange (paCons p (paCons r paNil))) := fun σ δ H M hM rd Qd Xd h R q x =>
  ha σ δ H M hM rd _ Xd h _ (fun v d H1 h1 e1 r1 => hb σ δ H1 M (hM.ex e1) (rd.ex e1) _ Xd h1 _ (fun u d2 H2 h2 e2 r2 => by
    have h3 : rngItems [d, d2] Qd := h2
    cases r1 with
    | int i =>
      cases r2 with
      | int j => exact ⟨i, j, rfl, ⟨h3.1.1.1, h3.1.1.2, h3.1.2.1, h3.1.2.2⟩, q _ _ H2 h3.2 (e1.trans e2) itr_ok⟩
      | _ => exact h3.elim
    | _ => cases r2 <;> exact h3.elim) fun y cls dd H' hx ex => x y cls dd H' hx (e1.trans ex)) x
theorem iSq {p : PX} (h : PP X W e p) : PPI X W tg e (piSeq p) := .of (pi_seq h) (spi_seq cE_s)
theorem iR1 {p : PX} {pn : Pos} (hm : X.mg "range" = none) (h : PP X W a p) (hg : L2.Gl X "range" := by rfl) (hs : starEach [a] X.env = [(false, eval a X.env)] := by rfl) (hs2 : starEach (a :: []) X.env = (false, eval a X.env) :: starEach [] X.env := by rfl) :
    PPI X W tg (.Call (.Name "range" pn) [a] [] pos) (piRange (paCons p paNil)) := .of (L2.pi_range1 hg hm (L2.pa_cons h L2.pa_nil hs2) hs) (ppi_range1 cE_s)
theorem iR2 {p q : PX} {pn : Pos} (hm : X.mg "range" = none) (h : PP X W a p) (h2 : PP X W b q) (hg : L2.Gl X "range" := by rfl) (hs : starEach [a, b] X.env = [(false, eval a X.env), (false, eval b X.env)] := by rfl) (hs1 : starEach [b] X.env = [(false, eval b X.env)] := by rfl)
    (hs2 : starEach (a :: [b]) X.env = (false, eval a X.env) :: starEach [b] X.env := by rfl) (hs3 : starEach (b :: []) X.env = (false, eval b X.env) :: starEach [] X.env := by rfl) :
    PPI X W tg (.Call (.Name "range" pn) [a, b] [] pos) (piRange (paCons p (paCons q paNil))) := .of (L2.pi_range2 hg hm (L2.pa_cons h (L2.pa_cons h2 L2.pa_nil hs3) hs2) hs hs1) (ppi_range2 cE_s cE_s)
theorem iEn {p : PX} {pn tpos : Pos} {elts : List Expr} {kk : Nat} (hm : X.mg "enumerate" = none) (h : PP X W a p) (hg : L2.Gl X "enumerate" := by rfl) (hs : starEach [a] X.env = [(false, eval a X.env)] := by rfl) (hs2 : starEach (a :: []) X.env = (false, eval a X.env) :: starEach [] X.env := by rfl) :
    PPI X W (.Tuple elts kk tpos) (.Call (.Name "enumerate" pn) [a] [] pos) (piEnum (paCons p paNil)) := .of (L2.pi_enum hg hm (L2.pa_cons h L2.pa_nil hs2) hs) (spi_enum (spa_cons cE_s spa_nil))
theorem xLc {it : PIt} {g : GX} {t : PT} {p : PX} (C : Ct X W k) (ow : List (Str × Nat)) (hi : PPI X W tg iter it)
    (hg : ∀ s H A cl fp, Ct (Bk X scope s H A cl fp) W0 k → PPG (Bk X scope s H A cl fp) (ow.map (·.2)) tg g) (ht : ∀ s H A cl fp, Ct (Bk X scope s H A cl fp) W0 k → PPTs (Bk X scope s H A cl fp) W0 ifs t)
    (he : ∀ s H A cl fp, Ct (Bk X scope s H A cl fp) W0 k → PP (Bk X scope s H A cl fp) W0 elt p) (ok : L2.blkC X.N X.env.scope scope ow = true := by kernel_rfl) (hs : ∀ x, foldedSetIterable iter X.env x = pure x := by intro _; rfl) :
    PP X W (.ListComp elt [⟨tg, iter, ifs, 0⟩] scope pos) (pComp (ow.map (·.2)) it g t p) :=
  .of (L2.pe_lc (g := cG X.K (ow.map Prod.snd) g) (tt := cT X.K W0 t) (te := cE X.K W0 p) C.calm C.nd hi (L2.blkOk_by ok) (fun s H A cl fp => hg s H A cl fp (C.blk ..)) (fun s H A cl fp => ht s H A cl fp (C.blk ..)) (fun s H A cl fp => he s H A cl fp (C.blk ..)) hs) (sp_comp cI_s cG_s cT_s cE_s)
/-! ### what owns -/
theorem yP {p : PX} (h : PP X W e p) : EE X W P e (eP p) := .of h (se_p cE_s)
theorem yFr (i : Nat) {x : Str} (hN : X.N[i]? = some x := by rfl) (hv : L2.Vis X.env.scope x := by first | exact Or.inl rfl | exact Or.inr (Or.inl rfl) | exact Or.inr (Or.inr rfl)) (hd : (x == ("__debug__" : Str)) = false := by decide)
    (hcd : (x == ("__classdict__" : Str)) = false := by decide) : EE X W P (.Name x pos) (eFr i) := .of (L2.pe_var hN hv hd hcd) (se_fr i)
theorem yMv (i : Nat) {x : Str} (hN : X.N[i]? = some x := by rfl) (hv : L2.Vis X.env.scope x := by first | exact Or.inl rfl | exact Or.inr (Or.inl rfl) | exact Or.inr (Or.inr rfl)) (hd : (x == ("__debug__" : Str)) = false := by decide)
    (hcd : (x == ("__classdict__" : Str)) = false := by decide) : EE X W P (.Name x pos) (eMv i) := .of (L2.pe_var hN hv hd hcd) (se_mv i)
theorem hV (i : Nat) {x : Str} (hN : X.N[i]? = some x := by rfl) (hv : L2.Vis X.env.scope x := by first | exact Or.inl rfl | exact Or.inr (Or.inl rfl) | exact Or.inr (Or.inr rfl)) (hd : (x == ("__debug__" : Str)) = false := by decide)
    (hcd : (x == ("__classdict__" : Str)) = false := by decide) : EPt X W P i (.Name x pos) (pth0 i) := .of (L2.pe_var hN hv hd hcd) (sth_0 i)
theorem hIx {i : Nat} {w : PW} {q : PX} (ha : EPt X W P i a w) (hb : PP X W b q) (hs : L2.PlainIx b := by intro _ _; with_unfolding_all rfl) : EPt X W P i (.Subscript a b pos) (pthS w q) := .of (L2.pe_ix L2.ix_seq ha hb hs) (sth_s oPt_s cE_s)
theorem yRd {i : Nat} {w : PW} (h : EPt X W P i e w) : EE X W P e (eRd w) := .of h (se_rd oPt_s)
theorem bNil : EA X W P [] eaNil [] := .of L2.pa_nil sea_nil
theorem bCons {q : EX} {r : EAx} {lt : List (Option Nat)} (h : EE X W P e q) (hr : EA X W P es r lt) (hs : starEach (e :: es) X.env = (false, eval e X.env) :: starEach es X.env := by rfl) : EA X W P (e :: es) (eaCons q r) (none :: lt) := .of (L2.pa_cons h hr hs) (sea_cons oE_s oA_s)
theorem bMv (i : Nat) {x : Str} {r : EAx} {lt : List (Option Nat)} (hr : EA X W P es r lt) (hN : X.N[i]? = some x := by rfl) (hv : L2.Vis X.env.scope x := by first | exact Or.inl rfl | exact Or.inr (Or.inl rfl) | exact Or.inr (Or.inr rfl)) (hd : (x == ("__debug__" : Str)) = false := by decide)
    (hcd : (x == ("__classdict__" : Str)) = false := by decide) (hs : starEach (.Name x pos :: es) X.env = (false, eval (.Name x pos) X.env) :: starEach es X.env := by rfl) : EA X W P (.Name x pos :: es) (eaCons (eMv i) r) (some i :: lt) := .of (L2.pa_cons (L2.pe_var hN hv hd hcd) hr hs) (sea_mv i oA_s)
theorem yTup {j : Nat} {r : EAx} {lt : List (Option Nat)} (h : EA X W P es r lt) : EE X W P (.Tuple es j pos) (eTup r) := .of (pe_tupZ h) (se_tup oA_s)
theorem yLst {r : EAx} {lt : List (Option Nat)} (h : EA X W P es r lt) : EE X W P (.List es pos) (eLst r) := .of (L2.pe_lst h) (se_lst oA_s)
theorem yOp {op : Operator} {o : R2} {p q : EX} (ho : BOp X op o) (ha : EE X W P a p) (hb : EE X W P b q) : EE X W P (.BinOp a op b pos) (eOp o p q) := by
  obtain ⟨r, h1, h2⟩ := ho
  exact .of (L2.pe_op h1 ha hb) (se_op h2 oE_s oE_s)
theorem yCmp {op : CmpOp} {o : R2} {p q : EX} (ho : COp X op o) (ha : EE X W P a p) (hb : EE X W P b q) (hm : behindInMarks op b = false := by first | exact L2.nomark _ | with_unfolding_all rfl) : EE X W P (.Compare a [op] [b] pos) (eOp o p q) := by
  obtain ⟨r, h1, h2⟩ := ho
  exact .of (L2.pe_cmpR h1 ha hb hm) (se_op h2 oE_s oE_s)
theorem yUn {op : UnaryOp} {o : R1} {p : EX} (ho : UOp X op o) (ha : EE X W P a p) : EE X W P (.UnaryOp op a pos) (eUn o p) := by
  obtain ⟨r, h1, h2⟩ := ho
  exact .of (L2.pe_un h1 ha) (se_un h2 oE_s)
theorem yIf {t : ETx} {p q : EX} (hc : ET X W P c t) (ha : EE X W P a p) (hb : EE X W P b q) : EE X W P (.IfExp c a b pos) (eIf t p q) := .of (L2.pe_ifExp hc ha hb) (se_if oT_s oE_s oE_s)
theorem yIx {p q : EX} (ha : EE X W P a p) (hb : EE X W P b q) (hs : L2.PlainIx b := by intro _ _; with_unfolding_all rfl) : EE X W P (.Subscript a b pos) (eIx p q) := .of (L2.pe_ix L2.ix_seq ha hb hs) (se_ix oE_s oE_s)
theorem yCall {f : Addr} {fd : FuncData} {ps : List Str} {n : Nat} {Pf : List Nat} {F : FD} {x : Str} {p : Pos} {q : EAx} {lt : List (Option Nat)} {js : List Nat} (Fn : FnG X.prog X.w X.K X.mg X.base k f fd ps (spD X.K n Pf F)) (C : Ct X W k) (hm : X.mg x = some (.ref f)) (hk : PySem.W.keepIn X.K (.ref f) = true)
    (hb : L2.Binds X.K fd ps []) (ha : EA X W P (e :: es) q lt) (hp : lentP 0 lt = Pf := by rfl) (hj : lentJ lt = js := by rfl) (hg : L2.Gl X x := by rfl) (hdb : (x == ("__debug__" : Str)) = false := by decide)
    (he : starEach (e :: es) X.env = (false, eval e X.env) :: starEach es X.env := by rfl) (hpl : (backTo pos (starEach es X.env)).any (·.1) = false := by rfl) : EE X W P (.Call (.Name x p) (e :: es) [] pos) (eCall n F js q) :=
  .of (pe_callG Fn C.gd C.hr hg hm hk hb C.tk ha hdb he hpl) (se_call oA_s hp hj)
theorem yB {x : Str} {id : String} {o : RL} {p : Pos} {q : EAx} {lt : List (Option Nat)} (B : Blt X x (.builtin id) o) (hm : X.mg x = none) (ha : EA X W P (e :: es) q lt) (hg : L2.Gl X x := by rfl) (hn : x ≠ "__name__" := by decide) (hdb : (x == ("__debug__" : Str)) = false := by decide)
    (he : starEach (e :: es) X.env = (false, eval e X.env) :: starEach es X.env := by rfl) (hpl : (backTo pos (starEach es X.env)).any (·.1) = false := by rfl) : EE X W P (.Call (.Name x p) (e :: es) [] pos) (eCB o q) := by
  obtain ⟨⟨r, h1, h2⟩, bt⟩ := B
  exact .of (L2.pe_callB h1 hg hm bt ha hn hdb he hpl) (se_cb h2 oA_s)
theorem yT {x : Str} {id : String} {o : RL} {p : Pos} {q : EAx} {lt : List (Option Nat)} (B : Blt X x (.type id) o) (hm : X.mg x = none) (ha : EA X W P (e :: es) q lt) (hg : L2.Gl X x := by rfl) (hn : x ≠ "__name__" := by decide) (hdb : (x == ("__debug__" : Str)) = false := by decide)
    (he : starEach (e :: es) X.env = (false, eval e X.env) :: starEach es X.env := by rfl) (hpl : (backTo pos (starEach es X.env)).any (·.1) = false := by rfl) : EE X W P (.Call (.Name x p) (e :: es) [] pos) (eCB o q) := by
  obtain ⟨⟨r, h1, h2⟩, bt⟩ := B
  exact .of (L2.pe_callTy h1 hg hm bt ha hn hdb he hpl) (se_cb h2 oA_s)
theorem yTF {x : Str} {id : String} {o : RL} {p : Pos} {q : EAx} {lt : List (Option Nat)} (B : BltF X x (.type id) o) (hm : X.mg x = none) (ha : EA X W P (e :: es) q lt) (hg : L2.Gl X x := by rfl) (hn : x ≠ "__name__" := by decide) (hdb : (x == ("__debug__" : Str)) = false := by decide)
    (he : starEach (e :: es) X.env = (false, eval e X.env) :: starEach es X.env := by rfl) (hpl : (backTo pos (starEach es X.env)).any (·.1) = false := by rfl) : EE X W P (.Call (.Name x p) (e :: es) [] pos) (eCBF o q) := by
  obtain ⟨⟨r, h1, h2⟩, bt⟩ := B
  exact .of (L2.pe_callTy h1 hg hm bt ha hn hdb he hpl) (se_cbF h2 oA_s)
theorem ySl {p : EX} {lo hi : Option Expr} {pl ph : PO} (ha : EE X W P a p) (hl : PPO X W lo pl) (hh : PPO X W hi ph) : EE X W P (.Subscript a (.Slice lo hi none p2) pos) (eSl p pl ph) := .of (L2.pe_slice sl_all ha hl hh) (se_sl oE_s cO_s cO_s)
theorem yPop (i : Nat) {x : Str} {q1 apos : Pos} (hN : X.N[i]? = some x := by rfl) (hv : L2.Vis X.env.scope x := by first | exact Or.inl rfl | exact Or.inr (Or.inl rfl) | exact Or.inr (Or.inr rfl)) (hd : (x == ("__debug__" : Str)) = false := by decide)
    (hcd : (x == ("__classdict__" : Str)) = false := by decide) (hbase : attributeBase (.Name x q1) "pop" X.env (eval (.Name x q1) X.env) = eval (.Name x q1) X.env := by rfl) (hline : (apos.endLine == pos.line) = true := by rfl) : EE X W P (.Call (.Attribute (.Name x q1) "pop" apos) [] [] pos) (ePop i) :=
  .of (L2.pe_bm0 PySem.F.plainAttrs_list PySem.F.slot_list_pop PySem.F.type_list_pop L2.mt_pop (L2.pe_var hN hv hd hcd) hbase hline) (se_pop i)
/-! ### tests -/
theorem uP {t : PT} (h : PPT X W e t) : ET X W P e (etP t) := .of h (et_p cT_s)
theorem uCmp {op : CmpOp} {o : R2} {p q : EX} (ho : COp X op o) (ha : EE X W P a p) (hb : EE X W P b q) (hm : behindInMarks op b = false := by first | exact L2.nomark _ | with_unfolding_all rfl) : ET X W P (.Compare a [op] [b] pos) (etE (eOp o p q)) := by
  obtain ⟨r, h1, h2⟩ := ho
  exact .of (L2.pt_cmpR h1 ha hb hm) (et_test (se_op h2 oE_s oE_s))
theorem uVal {p : EX} (h : EE X W P e p) (he : ∀ whole, isTrue e X.env whole = (do let v ← whole; standAt e.pos; holding [v] (truthy v)) := by intro _; rfl) : ET X W P e (etE p) := .of (L2.pt_val h he) (et_B oE_s)
theorem uNot {t : ETx} (h : ET X W P a t) : ET X W P (.UnaryOp .Not a pos) (etNot t) := .of (L2.pt_not h) (et_not oT_s)
theorem vAnd1 {t : ETx} (h : ET X W P a t) : EW X W P (.BoolOp .And [a] pos) t := .of (L2.pw_and1 h) oT_s
theorem vOr1 {t : ETx} (h : ET X W P a t) : EW X W P (.BoolOp .Or [a] pos) t := .of (L2.pw_or1 h) oT_s
theorem vAnd {t u : ETx} (h : ET X W P a t) (h2 : EW X W P (.BoolOp .And (b :: rest) pos) u) : EW X W P (.BoolOp .And (a :: b :: rest) pos) (etAnd t u) := .of (L2.pw_and h h2) (et_and oT_s oT_s)
theorem vOr {t u : ETx} (h : ET X W P a t) (h2 : EW X W P (.BoolOp .Or (b :: rest) pos) u) : EW X W P (.BoolOp .Or (a :: b :: rest) pos) (etOr t u) := .of (L2.pw_or h h2) (et_or oT_s oT_s)
theorem uW {t : ETx} (h : EW X W P e t) : ET X W P e t := .of ⟨fun pins s σ H Q I q => L2.PW.run h _ pins s σ H Q I q⟩ oT_s
theorem usP {t : PT} (h : PPTs X W es t) : ETs X W P es (etP t) := .of h (et_p cT_s)
theorem usOne {t : ETx} (h : ET X W P c t) : ETs X W P [c] t := .of (L2.pts_one h) oT_s
/-! ### what is walked -/
theorem jSq {p : EX} (h : EE X W P e p) : EI X W P tg e (eiSeq p) := .of (pi_seq h) (sei_seq oE_s)
theorem jR1 {p : EX} {pn : Pos} (hm : X.mg "range" = none) (h : EE X W P a p) (hg : L2.Gl X "range" := by rfl) (hs : starEach [a] X.env = [(false, eval a X.env)] := by rfl) (hs2 : starEach (a :: []) X.env = (false, eval a X.env) :: starEach [] X.env := by rfl) :
    EI X W P tg (.Call (.Name "range" pn) [a] [] pos) (eiRange (eaCons p eaNil)) := .of (L2.pi_range1 hg hm (L2.pa_cons h L2.pa_nil hs2) hs) (sei_range1 (t1 := L2.tNil) oE_s)
theorem jR2 {p q : EX} {pn : Pos} (hm : X.mg "range" = none) (h : EE X W P a p) (h2 : EE X W P b q) (hg : L2.Gl X "range" := by rfl) (hs : starEach [a, b] X.env = [(false, eval a X.env), (false, eval b X.env)] := by rfl) (hs1 : starEach [b] X.env = [(false, eval b X.env)] := by rfl)
    (hs2 : starEach (a :: [b]) X.env = (false, eval a X.env) :: starEach [b] X.env := by rfl) (hs3 : starEach (b :: []) X.env = (false, eval b X.env) :: starEach [] X.env := by rfl) :
    EI X W P tg (.Call (.Name "range" pn) [a, b] [] pos) (eiRange (eaCons p (eaCons q eaNil))) := .of (L2.pi_range2 hg hm (L2.pa_cons h (L2.pa_cons h2 L2.pa_nil hs3) hs2) hs hs1) (sei_range2 oE_s oE_s)
theorem jEn {p : EX} {pn tpos : Pos} {elts : List Expr} {kk : Nat} (hm : X.mg "enumerate" = none) (h : EE X W P a p) (hg : L2.Gl X "enumerate" := by rfl) (hs : starEach [a] X.env = [(false, eval a X.env)] := by rfl) (hs2 : starEach (a :: []) X.env = (false, eval a X.env) :: starEach [] X.env := by rfl) :
    EI X W P (.Tuple elts kk tpos) (.Call (.Name "enumerate" pn) [a] [] pos) (eiEnum (eaCons p eaNil)) := .of (L2.pi_enum hg hm (L2.pa_cons h L2.pa_nil hs2) hs) (sei_enum oE_s)
/-- over a range, without temps -/
def EI0 (X : L2.Cx) (W : WX) (P : List Nat) (tg e : Expr) (p : EIt) : Prop := ∃ wi, L2.PI X tg e wi ∧ SndEIt0 X.K P W wi p
theorem j0R1 {p : EX} {pn : Pos} (hm : X.mg "range" = none) (h : EE X W P a p) (hg : L2.Gl X "range" := by rfl) (hs : starEach [a] X.env = [(false, eval a X.env)] := by rfl) (hs2 : starEach (a :: []) X.env = (false, eval a X.env) :: starEach [] X.env := by rfl) :
    EI0 X W P tg (.Call (.Name "range" pn) [a] [] pos) (eiRange (eaCons p eaNil)) := ⟨_, L2.pi_range1 hg hm (L2.pa_cons h L2.pa_nil hs2) hs, si0_range1 oE_s⟩
theorem yLc {it : EIt} {g : GX} {t : ETx} {p : EX} (C : Ct X W k) (ow : List (Str × Nat)) (hi : EI X W P tg iter it)
    (hg : ∀ s H A cl fp, Ct (Bk X scope s H A cl fp) W0 k → EG (Bk X scope s H A cl fp) P (ow.map (·.2)) tg g) (ht : ∀ s H A cl fp, Ct (Bk X scope s H A cl fp) W0 k → ETs (Bk X scope s H A cl fp) W0 P ifs t)
    (he : ∀ s H A cl fp, Ct (Bk X scope s H A cl fp) W0 k → EE (Bk X scope s H A cl fp) W0 P elt p) (ok : L2.blkC X.N X.env.scope scope ow = true := by kernel_rfl) (hO : ∀ i ∈ P, i ∉ ow.map (·.2) := by decide) (hs : ∀ x, foldedSetIterable iter X.env x = pure x := by intro _; rfl) :
    EE X W P (.ListComp elt [⟨tg, iter, ifs, 0⟩] scope pos) (eComp (ow.map (·.2)) it g t p) :=
  .of (L2.pe_lc (g := oG X.K P (ow.map Prod.snd) g) (tt := oT X.K W0 P t) (te := oE X.K W0 P p) C.calm C.nd hi (L2.blkOk_by ok) (fun s H A cl fp => hg s H A cl fp (C.blk ..)) (fun s H A cl fp => ht s H A cl fp (C.blk ..)) (fun s H A cl fp => he s H A cl fp (C.blk ..)) hs) (se_comp oI_s oG_s oT_s oE_s hO)
end
end DL
/-! The data layer's soundness, 16: the combined rules, statements. -/
namespace DL
open PySem
/-! ### NAME[..][k] op= p -/
def rGetL (K : PySem.W.Frag) : L2.R2 := L2.rIxL K
theorem get_list {X : L2.Cx} : L2.PGet X (rGetL X.K) := by
  intro pins s σ H x y v u Q I rx ry h
  obtain ⟨p, xs, i, z, rfl, rfl, hq, he, q⟩ := h
  cases rx
  obtain ⟨t, rfl⟩ := ry
  obtain ⟨its, r, pl, hz⟩ := I.list hq
  obtain ⟨j, h1, h2, h3, h4, h5⟩ := L2.atI_get he
  obtain ⟨w, ew, rw'⟩ := r.get h2
  have hl := r.length
  have hn := L2.line63
  by_cases h0 : 0 ≤ i
  · have hj : i.toNat = j := by
      rw [seqIndex_of h0 h5] at h1
      exact Option.some.inj h1
    exact wpAny_getItem_list pl.isList h0 (by omega) (by rw [hj]; simpa using ew) ⟨z, H, I, rw', q⟩
  · have hj : (i + (its.toArray.size : Int)).toNat = j := by
      rw [seqIndex_neg (by omega) h4] at h1
      rw [List.size_toArray, ← hl]
      exact Option.some.inj h1
    exact wpAny_getItem_list_neg pl.isList (by omega) (by rw [List.size_toArray] <;> omega) (by omega) (by rw [hj]; simpa using ew) ⟨z, H, I, rw', q⟩
section
variable {z : Bool} {K : PySem.W.Frag} {P : List Nat} {W : WX} {te ta tk : L2.TE} {p q : PX}
theorem ss_augIx {i : Nat} {pw : PW} {ti : L2.TIp} {op : R2} (ho : IpS K ti op) (hw : SndPth K P W ta i pw) (hk : SndP K W tk p) (he : SndP K W te q) : SndS K P W z (L2.tAugS ta tk te (rGetL K) ti L2.rSetL) (sAugIx i pw p op q) := fun B hK hP σ δ H T τ hz w E h D R =>
  hw B hK hP σ δ H T τ w _ _ h _ (fun is zz c vv u H1 Z f g h1 w1 hc hpath hv pt => by
    subst hK
    refine hk σ δ H1 AllZ fm_all (Wd.rd ⟨Z, f, g, w1⟩) _ _ h1 _ (fun x d H2 h2 x2 r2 => ?_) fun x cls dd H' hx ex xr => R.ex x cls dd σ δ H' hx (Wd.dropAll ⟨Z, f, g, w1.ex ex⟩) xr
    have w2 := w1.ex x2
    split at h2
    · rename_i kk os c' ec
      rw [hc] at ec
      cases ec
      split at h2
      · rename_i j hj
        split at h2
        · rename_i d0 ed0
          cases r2 with
          | int k3 =>
            obtain ⟨v1, b1, vs1, fs1, e1, pt1, hb1, hs1, go1⟩ := w2.mut hc hpath
            rw [hv] at e1
            cases e1
            have eu := (PathH.ex x2 (show PathH H1 vv is u from pt)).inj pt1
            subst eu
            obtain ⟨uo, f1, f2, hu, ou, pf, put⟩ := hs1.item ed0
            have at1 : L2.atI vs1 kk = some uo := atD_of (by rw [hs1.length]; exact hj) hu
            refine ⟨b1, vs1, kk, uo, rfl, rfl, .inl (.inl hb1), at1, ?_⟩
            have rd0 : Dr B.K H2 uo d0 := ou.read
            refine he σ δ H2 AllZ fm_all (Wd.rd ⟨Z, f, g, w2⟩) _ _ h2 _ (fun y dy H3 h3 x3 r3 => ?_) fun x cls dd H' hx ex xr => R.ex x cls dd σ δ H' hx (Wd.dropAll ⟨Z, f, g, w2.ex ex⟩) xr
            refine ho uo y d0 dy H3 _ (rd0.ex x3) r3 h3 _ fun zv dz H4 h4 x4 r4 => ?_
            have w4 := (w2.ex x3).ex x4
            obtain ⟨v5, b5, vs5, fs5, e5, pt5, hb5, hs5, go5⟩ := w4.mut hc hpath
            rw [hv] at e5
            cases e5
            have eb := (PathH.ex x4 (PathH.ex x3 pt1)).inj pt5
            cases eb
            obtain ⟨u5, g1, g2, hu5, ou5, pf5, put5⟩ := hs5.item ed0
            have r5 : Df B.K H4 Z zv dz := r4.nol (fun _ _ y => y) h4.1
            obtain ⟨fp', q1, q2⟩ := put5 (H' := H4) (Z' := Z) (u' := zv) (o' := .im dz) (f1' := []) (w4.kEx (.refl H4) fun _ z => z) (.im r5)
            refine ⟨b1, vs5, _, j, rfl, rfl, hb5, by rw [hs5.length]; exact ixD_N hj, R.nx _ _ _ h4.2 (go5 (rest := g1) q1 w4.t ?_)⟩
            refine (List.Perm.append_right g pf5).trans ?_
            refine List.Perm.trans ?_ (List.perm_append_comm (l₁ := g1) (l₂ := fp' ++ g))
            rw [List.append_assoc]
            refine List.Perm.append_left g1 ?_
            exact List.Perm.append_right g (by simpa using q2.symm)
        · exact h2.elim
      · exact h2.elim
    · exact h2.elim) fun x cls dd H' hx wx xr => R.ex x cls dd σ δ H' hx wx xr
end
section
variable {X : L2.Cx} {W : WX} {P own : List Nat} {z : Bool} {k : Nat} {a b c e tg iter elt : Expr} {es rest ifs : List Expr} {pos p2 spos tpos : Pos} {scope : Scope} {ow : List (Str × Nat)} {st : Stmt} {sts bd od : List Stmt}
theorem zNil : Ss X W P z [] sNext := .of L2.pss_nil ss_next
theorem zOne {s : SX} (h : SS X W P z st s) : Ss X W P z [st] s := .of (L2.pss_one h) oS_s
theorem zCons {s r : SX} (h : SS X W P z st s) (h2 : Ss X W P z sts r) : Ss X W P z (st :: sts) (sSeq s r) := .of (L2.pss_cons h h2) (ss_seq oS_s oS_s)
theorem zPass : SS X W P z (.Pass pos) sNext := .of L2.ps_pass ss_next
theorem zBreak : SS X W P z (.Break pos) sBreak := .of L2.ps_break ss_break
theorem zCont : SS X W P z (.Continue pos) sCont := .of L2.ps_continue ss_cont
theorem zSet {x : Str} {q : EX} (C : Ct X W k) (i : Nat) (he : EE X W P e q) (hi : X.N[i]? = some x := by rfl) (hx : L2.Loc X.env.scope x := by first | exact Or.inl rfl | exact Or.inr rfl) (hP : i ∉ P := by decide) (hs : swapsWith e (some (.Name x p2)) pos.line X.env = pure false := by rfl)
    (hf : X.fn x = true ∨ X.env.scope.names.lookup x = some .local := by first | exact .inl rfl | exact .inr rfl) : SS X W P z (.Assign [.Name x p2] e pos) (sAsg q (goN i)) := .of (L2.ps_set C.nd hi hx he hs hf) (ss_asg oE_s (sgo_name hP))
/-- a, b = a value: the target a tuple -/
theorem zTg {q : EX} {g : GX} (he : EE X W P e q) (hg : EG X P own tg g) (hs : swapsWithSole [tg] e pos.line X.env = pure false := by rfl) (hw : swappedStores [tg] e X.env = pure none := by rfl) (h1 : (assignEach [tg] X.env).map (·.2) = [assign tg X.env] := by rfl) :
    SS X W P z (.Assign [tg] e pos) (sAsg q (goT g)) := .of (L2.ps_asg he hg hs hw h1) (ss_asg oE_s (sgo_tup oG_s))
theorem zLc {x : Str} {it : EIt} {g : GX} {t : ETx} {p : EX} (C : Ct X W k) (i : Nat) (ow : List (Str × Nat)) (hi : EI X W P tg iter it)
    (hg : ∀ s H A cl fp, Ct (Bk X scope s H A cl fp) W0 k → EG (Bk X scope s H A cl fp) P (ow.map (·.2)) tg g) (ht : ∀ s H A cl fp, Ct (Bk X scope s H A cl fp) W0 k → ETs (Bk X scope s H A cl fp) W0 P ifs t)
    (he : ∀ s H A cl fp, Ct (Bk X scope s H A cl fp) W0 k → EE (Bk X scope s H A cl fp) W0 P elt p) (ok : L2.blkC X.N X.env.scope scope ow = true := by kernel_rfl) (hO : ∀ i ∈ P, i ∉ ow.map (·.2) := by decide)
    (hy : X.N[i]? = some x := by rfl) (hyl : X.env.scope.names.lookup x = some .local := by rfl) (hP : i ∉ P := by decide) (hsw : swapsWith (.ListComp elt [⟨tg, iter, ifs, 0⟩] scope pos) (some (.Name x p2)) spos.line X.env = pure true := by rfl)
    (hs : ∀ x, foldedSetIterable iter X.env x = pure x := by intro _; rfl) :
    SS X W P z (.Assign [.Name x p2] (.ListComp elt [⟨tg, iter, ifs, 0⟩] scope pos) spos) (sAsg (eComp (ow.map (·.2)) it g t p) (goN i)) :=
  .of (L2.ps_setLc (g := oG X.K P (ow.map Prod.snd) g) (tt := oT X.K W0 P t) (te := oE X.K W0 P p) C.calm C.nd hy hyl hsw hi (L2.blkOk_by ok) (fun s H A cl fp => hg s H A cl fp (C.blk ..)) (fun s H A cl fp => ht s H A cl fp (C.blk ..)) (fun s H A cl fp => he s H A cl fp (C.blk ..)) hs)
    (ss_asg (se_comp oI_s oG_s oT_s oE_s hO) (sgo_name hP))
theorem zPar {x y : Str} {p q : EX} {px py pt : Pos} {kt k2 pt2} (C : Ct X W k) (i j : Nat) (ha : EE X W P a p) (hb : EE X W P b q) (hi : X.N[i]? = some x := by rfl) (hj : X.N[j]? = some y := by rfl) (hij : i ≠ j := by decide)
    (hx : X.env.scope.names.lookup x = some .local := by rfl) (hy : X.env.scope.names.lookup y = some .local := by rfl) (hPi : i ∉ P := by decide) (hPj : j ∉ P := by decide)
    (hs1 : starEach (a :: [b]) X.env = (false, eval a X.env) :: starEach [b] X.env := by rfl) (hs2 : starEach (b :: []) X.env = (false, eval b X.env) :: starEach [] X.env := by rfl)
    (hw : swappedStores [.Tuple [.Name x px, .Name y py] kt pt] (.Tuple [a, b] k2 pt2) X.env = pure (some [x, y]) := by rfl)
    (hs : swapsWithSole [.Tuple [.Name x px, .Name y py] kt pt] (.Tuple [a, b] k2 pt2) pos.line X.env = pure false := by rfl) : SS X W P z (.Assign [.Tuple [.Name x px, .Name y py] kt pt] (.Tuple [a, b] k2 pt2) pos) (sPar i j p q) :=
  .of (L2.ps_par C.calm C.nd hi hj hij hx hy (L2.pa_cons ha (L2.pa_cons hb L2.pa_nil hs2) hs1) hw hs) (ss_par oE_s oE_s hPi hPj)
theorem zDrop {q : EX} (he : EE X W P e q) (hs : swapsWith e none pos.line X.env = pure false := by rfl) : SS X W P z (.Expr e pos) (sDrop q) := .of (L2.ps_expr he hs) (ss_drop oE_s)
theorem zRet {q : EX} (he : EE X W P e q) : SS X W P z (.Return (some e) pos) (sRet q) := .of (L2.ps_ret he) (ss_ret oE_s)
theorem zRetN : SS X W P z (.Return none pos) sRetN := .of L2.ps_retN ss_retN
theorem zIf {t : ETx} {s r : SX} (hc : ET X W P c t) (ha : Ss X W P z bd s) (hb : Ss X W P z od r) : SS X W P z (.If c bd od pos) (sIf t s r) := .of (L2.ps_if hc ha hb) (ss_if oT_s oS_s oS_s)
theorem zAug {x : Str} {op : Operator} {o : R2} {q : PX} (C : Ct X W k) (i : Nat) (ho : IOp X op o) (he : PP X W e q) (hi : X.N[i]? = some x := by rfl) (hx : L2.Loc X.env.scope x := by first | exact Or.inl rfl | exact Or.inr rfl) (hP : i ∉ P := by decide)
    (hf : X.fn x = true ∨ X.env.scope.names.lookup x = some .local := by first | exact .inl rfl | exact .inr rfl) : SS X W P z (.AugAssign (.Name x p2) op e pos) (sAug i o q) := by
  obtain ⟨t, h1, h2⟩ := ho
  exact .of (L2.ps_aug C.nd hi hx he h1 hf) (ss_aug h2 cE_s hP)
theorem zAugIx {op : Operator} {o : R2} {w : PW} {p q : PX} (i : Nat) (ho : IOp X op o) (hw : EPt X W P i a w) (hk : PP X W b p) (he : PP X W e q)
    (ha : ∀ ov iv new, augStore b ov iv new = (do holding [new, ov, iv] (setItem ov iv new); release [new, ov, iv] []; pure .next) := by intros; rfl) : SS X W P z (.AugAssign (.Subscript a b tpos) op e pos) (sAugIx i w p o q) := by
  obtain ⟨t, h1, h2⟩ := ho
  exact .of (L2.ps_augS hw hk get_list he h1 L2.set_list ha) (ss_augIx h2 oPt_s cE_s cE_s)
theorem zSub {w : PW} {p : PX} {q : EX} (i : Nat) (he : EE X W P e q) (hw : EPt X W P i a w) (hk : PP X W b p)
    (ha : ∀ v, assign (.Subscript a b tpos) X.env v = (do
      let ov ← holding [v] (eval a X.env)
      let iv ← holding [v, ov] (eval b X.env)
      standAt tpos
      holding [v, ov, iv] (setItem ov iv v)
      release [v, ov, iv] []) := by intro _; rfl) (hs : swapsWithSole [.Subscript a b tpos] e pos.line X.env = pure false := by rfl) (hsw : swappedStores [.Subscript a b tpos] e X.env = pure none := by rfl)
    (h1 : (assignEach [.Subscript a b tpos] X.env).map (·.2) = [assign (.Subscript a b tpos) X.env] := by rfl) : SS X W P z (.Assign [.Subscript a b tpos] e pos) (sSet i w p q) :=
  .of (L2.ps_asg he (L2.pg_sub hw hk L2.set_list ha) hs hsw h1) (ss_set oE_s oPt_s cE_s)
section
variable {apos cpos q1 : Pos} {x : Str}
theorem zApp {q : EX} (i : Nat) (he : EE X W P e q) (hN : X.N[i]? = some x := by rfl) (hv : L2.Vis X.env.scope x := by first | exact Or.inl rfl | exact Or.inr (Or.inl rfl) | exact Or.inr (Or.inr rfl)) (hd : (x == ("__debug__" : Str)) = false := by decide) (hcd : (x == ("__classdict__" : Str)) = false := by decide)
    (hbase : attributeBase (.Name x q1) "append" X.env (eval (.Name x q1) X.env) = eval (.Name x q1) X.env := by rfl)
    (hfew : ((backTo cpos (starEach [e] X.env)).all (fun x => !x.1) && (backToKw cpos (keywordEach [] X.env)).all (fun x => x.1.isSome) && decide (([e] : List Expr).length + ([] : List Keyword).length + (if ([] : List Keyword).isEmpty then 0 else 1) < 30)) = true := by rfl)
    (hline : (apos.endLine == cpos.line) = true := by rfl) (hs : starEach (e :: []) X.env = (false, eval e X.env) :: starEach [] X.env := by rfl) (hplain : (backTo cpos (starEach [] X.env)).any (·.1) = false := by rfl)
    (hsw : swapsWith (.Call (.Attribute (.Name x q1) "append" apos) [e] [] cpos) none pos.line X.env = pure false := by rfl) :
    SS X W P z (.Expr (.Call (.Attribute (.Name x q1) "append" apos) [e] [] cpos) pos) (sApp i q) :=
  .of (L2.ps_expr (L2.pe_bm PySem.F.plainAttrs_list PySem.F.slot_list_append PySem.F.type_list_append L2.mt_append (L2.pe_var hN hv hd hcd) (L2.pa_cons he L2.pa_nil hs) hbase hfew hline hs hplain) hsw) (ss_app oE_s)
theorem zAppP {w : PW} {q : PX} (i : Nat) (hw : EPt X W P i a w) (he : PP X W e q)
    (hbase : attributeBase a "append" X.env (eval a X.env) = eval a X.env := by rfl)
    (hfew : ((backTo cpos (starEach [e] X.env)).all (fun x => !x.1) && (backToKw cpos (keywordEach [] X.env)).all (fun x => x.1.isSome) && decide (([e] : List Expr).length + ([] : List Keyword).length + (if ([] : List Keyword).isEmpty then 0 else 1) < 30)) = true := by rfl)
    (hline : (apos.endLine == cpos.line) = true := by rfl) (hs : starEach (e :: []) X.env = (false, eval e X.env) :: starEach [] X.env := by rfl) (hplain : (backTo cpos (starEach [] X.env)).any (·.1) = false := by rfl)
    (hsw : swapsWith (.Call (.Attribute a "append" apos) [e] [] cpos) none pos.line X.env = pure false := by rfl) :
    SS X W P z (.Expr (.Call (.Attribute a "append" apos) [e] [] cpos) pos) (sAppP i w q) :=
  .of (L2.ps_expr (L2.pe_bm PySem.F.plainAttrs_list PySem.F.slot_list_append PySem.F.type_list_append L2.mt_append hw (L2.pa_cons he L2.pa_nil hs) hbase hfew hline hs hplain) hsw) (ss_appP oPt_s cE_s)
theorem zExt {q : EX} (i : Nat) (he : EE X W P e q) (hN : X.N[i]? = some x := by rfl) (hv : L2.Vis X.env.scope x := by first | exact Or.inl rfl | exact Or.inr (Or.inl rfl) | exact Or.inr (Or.inr rfl)) (hd : (x == ("__debug__" : Str)) = false := by decide) (hcd : (x == ("__classdict__" : Str)) = false := by decide)
    (hbase : attributeBase (.Name x q1) "extend" X.env (eval (.Name x q1) X.env) = eval (.Name x q1) X.env := by rfl)
    (hfew : ((backTo cpos (starEach [e] X.env)).all (fun x => !x.1) && (backToKw cpos (keywordEach [] X.env)).all (fun x => x.1.isSome) && decide (([e] : List Expr).length + ([] : List Keyword).length + (if ([] : List Keyword).isEmpty then 0 else 1) < 30)) = true := by rfl)
    (hline : (apos.endLine == cpos.line) = true := by rfl) (hs : starEach (e :: []) X.env = (false, eval e X.env) :: starEach [] X.env := by rfl) (hplain : (backTo cpos (starEach [] X.env)).any (·.1) = false := by rfl)
    (hsw : swapsWith (.Call (.Attribute (.Name x q1) "extend" apos) [e] [] cpos) none pos.line X.env = pure false := by rfl) :
    SS X W P z (.Expr (.Call (.Attribute (.Name x q1) "extend" apos) [e] [] cpos) pos) (sExt i q) :=
  .of (L2.ps_expr (L2.pe_bm PySem.F.plainAttrs_list PySem.F.slot_list_extend PySem.F.type_list_extend mt_extA (L2.pe_var hN hv hd hcd) (L2.pa_cons he L2.pa_nil hs) hbase hfew hline hs hplain) hsw) (ss_ext oE_s)
theorem zIns {p q : EX} (i : Nat) (ha : EE X W P a p) (he : EE X W P e q) (hN : X.N[i]? = some x := by rfl) (hv : L2.Vis X.env.scope x := by first | exact Or.inl rfl | exact Or.inr (Or.inl rfl) | exact Or.inr (Or.inr rfl)) (hd : (x == ("__debug__" : Str)) = false := by decide) (hcd : (x == ("__classdict__" : Str)) = false := by decide)
    (hbase : attributeBase (.Name x q1) "insert" X.env (eval (.Name x q1) X.env) = eval (.Name x q1) X.env := by rfl)
    (hfew : ((backTo cpos (starEach [a, e] X.env)).all (fun x => !x.1) && (backToKw cpos (keywordEach [] X.env)).all (fun x => x.1.isSome) && decide (([a, e] : List Expr).length + ([] : List Keyword).length + (if ([] : List Keyword).isEmpty then 0 else 1) < 30)) = true := by rfl)
    (hline : (apos.endLine == cpos.line) = true := by rfl) (hs0 : starEach (a :: [e]) X.env = (false, eval a X.env) :: starEach [e] X.env := by rfl) (hs : starEach (e :: []) X.env = (false, eval e X.env) :: starEach [] X.env := by rfl) (hplain : (backTo cpos (starEach [e] X.env)).any (·.1) = false := by rfl)
    (hsw : swapsWith (.Call (.Attribute (.Name x q1) "insert" apos) [a, e] [] cpos) none pos.line X.env = pure false := by rfl) :
    SS X W P z (.Expr (.Call (.Attribute (.Name x q1) "insert" apos) [a, e] [] cpos) pos) (sIns i p q) :=
  .of (L2.ps_expr (L2.pe_bm PySem.F.plainAttrs_list PySem.F.slot_list_insert PySem.F.type_list_insert L2.mt_insert (L2.pe_var hN hv hd hcd) (L2.pa_cons ha (L2.pa_cons he L2.pa_nil hs) hs0) hbase hfew hline hs0 hplain) hsw) (ss_ins oE_s oE_s)
end
/-! ### loops, raise, try -/
abbrev Po (X : L2.Cx) : Prop := PassesOwn (model X.prog X.w) X.A X.env X.xe
theorem zWhile {t : ETx} {s : SX} (hp : Po X) (hc : ET X W P c t) (hb : Ss X W P z bd s) : SS X W P z (.While c bd [] pos) (sWhile t s) := .of (L2.ps_while hp hc hb) (ss_while oT_s oS_s)
theorem zFor {it : EIt} {g : GX} {s : SX} (hp : Po X) (C : Ct X W k) (hi : EI X W P tg iter it) (hg : EG X P own tg g) (hb : Ss X W P false bd s) (hs : ∀ x, foldedSetIterable iter X.env x = pure x := by intro _; rfl) : SS X W P z (.For tg iter bd [] pos) (sFor it g s) :=
  .of (L2.ps_for hp C.calm hi hg hb hs) (ss_for oI_s oG_s oS_s)
theorem zFor0 {it : EIt} {g : GX} {s : SX} (hp : Po X) (C : Ct X W k) (hi : EI0 X W P tg iter it) (hg : EG X P own tg g) (hb : Ss X W P z bd s) (hs : ∀ x, foldedSetIterable iter X.env x = pure x := by intro _; rfl) : SS X W P z (.For tg iter bd [] pos) (sFor it g s) := by
  obtain ⟨wi, h1, h2⟩ := hi
  exact .of (L2.ps_for hp C.calm h1 hg hb hs) (ss_for0 h2 oG_s oS_s)
/-- raise C(), C made from ValueError -/
theorem zRaise0 {x : Str} {p1 p3 : Pos} (C : Ct X W k) (f : (He.Fa.exc x).ok X.K = true) (gC : X.mg x = some (.ref (He.ga X.K x))) (hg : L2.Gl X x := by rfl) (hdb : (x == ("__debug__" : Str)) = false := by decide) :
    SS X W P z (.Raise (some (.Call (.Name x p1) [] [] p3)) none pos) (sRaise x [] paNil) := by
  obtain ⟨h1, h2, h3, h4⟩ := He.exc_ok f
  exact .of (L2.ps_raise C.calm C.tk (pmk_own0 PySem.F.excBase_ValueError h1 gC h2 (L2.raises_own h3 h4) hg hdb)) (ss_raise0 rfl)
/-- try: b / except C: h -/
theorem zTry {x : Str} {cl : Str → Option Bool} {s h : SX} {st0 : Stmt} {sts0 : List Stmt} {np pos' : Pos} {W : WX} (Cl : Ct X W k) (gC : X.mg x = some (.ref (He.ga X.K x)))
    (hc : ∀ (y : Str) (b : Bool), cl y = some b → PySem.W.exmOne X.K (.ref (He.ga X.K y)) (.ref (He.ga X.K x)) = some b)
    (hb : ∀ (W' : WX) (pn : List (Addr × Obj)) (xe : Value → Shared → Prop), Ct (X.tr pn xe) W' k → PassesOwn (model X.prog X.w) X.A X.env xe → Ss (X.tr pn xe) W' P true bd s)
    (hh : ∀ (a : Addr) (pn : List (Addr × Obj)), Ss (X.suite a pn) W0 P true (st0 :: sts0) h)
    (hs : X.stack = X.env :: X.outer := by rfl) (hf : X.env.frame = some X.env.locals := by rfl) (hg : L2.Gl X x := by rfl) (hdb : (x == ("__debug__" : Str)) = false := by decide) :
    SS X W P true (.Try bd [.ExceptHandler (some (.Name x np)) none (st0 :: sts0) pos'] [] [] pos) (sTry s cl h) :=
  .of (L2.ps_try_only (tb := fun W' => oS X.K W' P true s) (ts := fun _ _ _ => oS X.K W0 P true h) (c := .ref (He.ga X.K x)) hs hf ⟨hg, hdb, .inl gC⟩ Cl.tk
    (fun W' pn xe tk po => hb W' pn xe ⟨Cl.hr, Cl.gd, tk, Cl.calm, Cl.nd⟩ po) (fun a oe cls d pn _ _ => hh a ((a, oe) :: pn))) (ss_try (fun _ => oS_s) (fun _ _ _ => oS_s) hc)
end
end DL
/-! The data layer's soundness, 17: reversed slices, repr, a tuple's index. -/
namespace DL
section
open PySem PySem.PyData PyProof.Rows HT
variable {prog : Program} {w : World} {A : Around} {E : Value → Shared → Prop} {s : Shared}
theorem places_rev (n : Nat) : Builtin.Slice.slicePlaces ((n : Int) - 1) (-1) (-1) = n := by
  unfold Builtin.Slice.slicePlaces
  rw [if_neg (by omega : ¬ ((-1 : Int) > 0))]
  by_cases h : n = 0
  · subst h
    rfl
  · rw [if_pos (by omega)]
    simp only [Int.neg_neg, Int.ediv_one]
    omega
theorem pick_rev (xs : Array Value) : ((List.range xs.size).filterMap fun (m : Nat) => xs[(((xs.size : Int) - 1) + (m : Int) * (-1)).toNat]?).toArray = xs.toList.reverse.toArray := by
  congr 1
  have e1 : (fun (m : Nat) => xs[(((xs.size : Int) - 1) + (m : Int) * (-1)).toNat]?) = (fun i => xs[i]?) ∘ fun m : Nat => xs.size - 1 - m := by
    funext m
    show xs[(((xs.size : Int) - 1) + (m : Int) * (-1)).toNat]? = xs[xs.size - 1 - m]?
    by_cases hm : m < xs.size
    · rw [show (((xs.size : Int) - 1) + (m : Int) * (-1)).toNat = xs.size - 1 - m by omega]
    · rw [show (((xs.size : Int) - 1) + (m : Int) * (-1)).toNat = xs.size - 1 - m by omega]
  rw [e1, ← List.filterMap_map, PySem.W.krv_range, List.filterMap_reverse, PySem.W.krv_all]
theorem applied_rev {sl : Addr} {vl vu vs : Value} {n : Nat} {Q : Int × Int × Nat → Shared → Prop} (hs : s.heap.IsSliceOf sl vl vu vs) (pl : IsPart vl none) (pu : IsPart vu none) (ps : IsPart vs (some (-1)))
    (h : Q ((n : Int) - 1, -1, n) s) : wpAny (model prog w) A (Builtin.Slice.sliceApplied (.ref sl) (pure (n : Int))) Q E s := by
  obtain ⟨os, hos, hcs, hds⟩ := id hs
  unfold Builtin.Slice.sliceApplied Builtin.Slice.sliceFields
  refine wpAny_bind (wpAny_bind (wpAny_field hos hds (x := vl) rfl (wpAny_bind (wpAny_field hos hds (x := vu) rfl (wpAny_bind (wpAny_field hos hds (x := vs) rfl (wpAny_pure ?_)))))))
  refine wpAny_bind (slicePart_ ps ?_)
  show wpAny _ _ (if ((-1 : Int) == 0) = true then _ else _) _ _ s
  rw [if_neg (by decide)]
  refine wpAny_bind (slicePart_ pl (wpAny_bind (slicePart_ pu (wpAny_bind (wpAny_pure ?_)))))
  show wpAny _ _ (match Builtin.Slice.sliceAdjust none none (-1) (n : Int) with | (lo, hi) => pure (lo, (-1 : Int), Builtin.Slice.slicePlaces lo hi (-1))) _ _ s
  show wpAny _ _ (pure ((n : Int) - 1, (-1 : Int), Builtin.Slice.slicePlaces ((n : Int) - 1) (-1) (-1))) _ _ s
  rw [places_rev]
  exact wpAny_pure h
theorem getItem_tup_rev {t sl : Addr} {items : Array Value} {vl vu vs : Value} {Q : Value → Shared → Prop} (ht : IsTup s.heap t items) (hs : s.heap.IsSliceOf sl vl vu vs) (pl : IsPart vl none) (pu : IsPart vu none) (ps : IsPart vs (some (-1)))
    (h : Q (.ref s.heap.objs.size) { s with heap := s.heap.push { cls := .type "tuple", data := .seq items.toList.reverse.toArray } })
    (hsz : items.size ≤ sizeLine) : wpAny (model prog w) A (getItem (.ref t) (.ref sl)) Q E s := by
  have hsize : sizeOk (.seq items.toList.reverse.toArray) := by
    show items.toList.reverse.toArray.size ≤ sizeLine
    simpa using hsz
  obtain ⟨os, hos, hcs, hds⟩ := id hs
  have hTs : s.TypeIs (.ref sl) "slice" := ⟨os, hos, hcs⟩
  unfold getItem
  try with_reducible refine wpAny_holding ?_
  first | refine wpAny_bind (wpAny_pure ?_) | skip
  refine wpAny_bind (wpAny_sequenceKey ht.typeIs (by decide) ?_)
  refine wpAny_bind (wpAny_callSpecial?_slot (name := Str.ofString "__getitem__") ht.typeIs PyProof.Rows.slot_tuple_getitem
    (wpAny_call_entry PyProof.Rows.slot_tuple_getitem ht.typeIs entry_tuple_getitem ?_ (args_tuple_getitem _ _)))
  show wpAny _ _ (Builtin.Tuple.tupleItemsOf (.ref t) >>= _) _ _ s
  refine wpAny_bind (tupleItemsOf_ ht (wpAny_bind (wpAny_typeOf hTs ?_)))
  rw [if_pos (by decide)]
  refine wpAny_bind (applied_rev hs pl pu ps ?_)
  show wpAny _ _ (if (((items.size : Int) - 1) == 0 && (-1 : Int) == 1 && items.size == items.size) = true then _ else _) _ _ s
  rw [if_neg (by
    intro q
    rw [Bool.and_eq_true, Bool.and_eq_true] at q
    exact absurd q.1.2 (by decide)), pick_rev]
  first
    | exact wpAny_bind (m := Builtin.Tuple.tupleExact _) (wpAny_newObj_type (wpAny_pure ⟨_, rfl, wpAny_pure h⟩) hsize)
    | exact wpAny_bind (m := Builtin.Tuple.tupleExact _) (wpAny_newObj_type (wpAny_bind (wpAny_pure (wpAny_pure ⟨_, rfl, wpAny_pure h⟩))) hsize)
    | exact wpAny_bind (wpAny_bind (m := Builtin.Tuple.tupleExact _) (wpAny_newObj_type (wpAny_pure (wpAny_pure ⟨_, rfl, wpAny_pure h⟩)) hsize))
    | exact wpAny_bind (wpAny_bind (m := Builtin.Tuple.tupleExact _) (wpAny_newObj_type (wpAny_pure ⟨_, rfl, wpAny_pure h⟩) hsize))
end
section
open PySem
def tRevA (K : PySem.W.Frag) (te : L2.TE) : L2.TE := fun σ H Q => te σ H fun x H1 => ∃ a xs, x = .ref a ∧ ((L2.SqL K H1 a xs ∧ ∀ p, H1 p = none → Q (.ref p) (L2.upd H1 p (.lst xs.reverse))) ∨ (L2.SqT K H1 a xs ∧ Nz H1 xs.reverse Q))
theorem pe_revA {X : L2.Cx} {e : Expr} {te : L2.TE} {k : Nat} {p1 p2 p3 pos : Pos} (he : L2.PE X e te) : L2.PE X (.Subscript e (.Slice none none (some (.UnaryOp .USub (.Constant (.int 1) k p1) p2)) p3) pos) (tRevA X.K te) := by
  refine ⟨fun pins s σ H Q I h => ?_⟩
  refine PyProof.Rows.Subscript_ (L2.thn (he.run pins s σ H _ I h) fun v s1 ⟨x, H1, I1, r1, q1⟩ => ?_)
  obtain ⟨a, xs, rfl, q⟩ := q1
  cases r1
  have hst : L2.PO X (some (.UnaryOp .USub (.Constant (.int 1) k p1) p2)) (L2.tPart (L2.tUn (L2.rU fun i => .int (-i)) (L2.tC (.int 1)))) := L2.po_some (L2.pe_un L2.un_neg L2.pe_int)
  refine wpAny_Slice (L2.thn (L2.po_none.run pins s1 σ H1 (fun o H2 => o = none ∧ H2 = H1) I1 ⟨rfl, rfl⟩) fun vl s2 ⟨l, H2, I2, pl, el, e2⟩ => ?_)
  subst el e2
  refine L2.thn (L2.po_none.run pins s2 σ H2 (fun o H3 => o = none ∧ H3 = H2) I2 ⟨rfl, rfl⟩) fun vu s3 ⟨u, H3, I3, pu, eu, e3⟩ => ?_
  subst eu e3
  refine L2.thn (hst.run pins s3 σ H3 (fun o H4 => o = some (-1) ∧ H4 = H3) I3 ⟨1, rfl, -1, rfl, rfl, rfl⟩) fun vs s4 ⟨o, H4, I4, ps, eo, e4⟩ => ?_
  subst eo e4
  have I5 : L2.Inv X pins σ H4 { s4 with heap := s4.heap.push { cls := .type "slice", data := .fields #[vl, vu, vs] } } := I4.kept (t' := s4.toks) fun b ob z => Heap.get?_push_of_some _ z
  show wpAny (model X.prog X.w) X.A (PyProof.Rows.subscriptTail e (.Slice none none (some (.UnaryOp .USub (.Constant (.int 1) k p1) p2)) p3) (.ref a) (.ref s4.heap.objs.size)) (L2.EP X pins σ Q) X.xe { s4 with heap := s4.heap.push { cls := .type "slice", data := .fields #[vl, vu, vs] } }
  rcases q with ⟨hx, q⟩ | ⟨hx, q⟩
  · obtain ⟨its, r, ht, hz⟩ := I5.list hx
    have hlen := r.length
    refine PyProof.Rows.tail_any (ops := [.ref a, .ref s4.heap.objs.size]) ht.isList.typeIs (PySem.slot_list_getitem.lookup) ?_ (by with_unfolding_all rfl)
    refine wpAny_getItem_list_slice ht.isList (Heap.IsSliceOf.new _ vl vu vs) pl pu ps (by decide) ?_ (by rw [List.size_toArray]; omega)
    rw [PySem.W.krv_pick]
    refine ⟨.ref _, _, I5.laid (t' := s4.toks) (o := .lst xs.reverse) (fun b ob z => Heap.get?_push_of_some _ z) (Nat.le_refl _) ?_, rfl, q _ (I5.hok.fresh (Nat.le_refl _))⟩
    exact ⟨by rw [List.length_reverse]; exact hz, _, 0, r.reverse, Heap.get?_push_size _ rfl⟩
  · obtain ⟨its, r, ht, hz⟩ := I5.tuple hx
    have hlen := r.length
    refine PyProof.Rows.tail_any (ops := [.ref a, .ref s4.heap.objs.size]) ht.typeIs (PyProof.Rows.slot_tuple_getitem.lookup) ?_ (by with_unfolding_all rfl)
    refine getItem_tup_rev ht (Heap.IsSliceOf.new _ vl vu vs) pl pu ps ?_ (by rw [List.size_toArray]; omega)
    exact nzP (its := its.reverse) I5 r.reverse (by rw [List.length_reverse]; exact hz) q
theorem sp_rev {K : PySem.W.Frag} {W : WX} {te : L2.TE} {p : PX} (ha : SndP K W te p) : SndP K W (tRevA K te) (pRev p) := fun σ δ H M hM rd Qd Xd h Q q x =>
  ha σ δ H M hM rd _ Xd h _ (fun v d H1 h1 e1 r1 => by
    cases r1 with
    | tup hq hr => exact ⟨_, _, rfl, .inr ⟨hq.q, fun p ob hp hd => q _ _ _ h1 (e1.trans (.new hp)) (.tup (.new hd) (hr.reverse.ex (.new hp)))⟩⟩
    | lst hq hr => exact ⟨_, _, rfl, .inl ⟨hq.sq, fun p hp => q _ _ _ h1 (e1.trans (.new hp)) (.lst ⟨hM.ex e1 p hp, L2.upd_same⟩ (hr.reverse.ex (.new hp)))⟩⟩
    | _ => exact h1.elim) x
theorem xRev {X : L2.Cx} {W : WX} {e : Expr} {p : PX} {k : Nat} {p1 p2 p3 pos : Pos} (h : PP X W e p) : PP X W (.Subscript e (.Slice none none (some (.UnaryOp .USub (.Constant (.int 1) k p1) p2)) p3) pos) (pRev p) := .of (pe_revA h) (sp_rev cE_s)
/-! ### repr -/
def reprD (d : D) : Str := (toPy d).shown
/-- repr may be asked -/
def reprOk (d : D) : Prop := cmpOk d ∧ (toPy d).showable = true ∧ (reprD d).length ≤ line
def fRepr : RL := fun ds Q => match ds with
  | [.tup xs] => reprOk (.tup xs) ∧ Q (.str (reprD (.tup xs)))
  | [.lst xs] => reprOk (.lst xs) ∧ Q (.str (reprD (.lst xs)))
  | _ => False
def rRepr (K : PySem.W.Frag) : List V → Hp → L2.VK → Prop := fun xs H Q => ∃ a d, xs = [.ref a] ∧ L2.Dp K H (.ref a) d ∧ d.canLay0 = true ∧ d.showable = true ∧ d.depth ≤ 64 ∧ d.shown.length ≤ sizeLine ∧ Q (.str d.shown) H
theorem call_reprD {X : L2.Cx} (gd : X.A.guards = some []) (hu : X.A.units + 66 < cLine) : L2.CallR X (.builtin "repr") (rRepr X.K) := by
  intro pins s σ H xs us Q I r h
  obtain ⟨a, d, rfl, hd, hl, hs, hdp, hz, q⟩ := h
  obtain ⟨u, rfl, ru⟩ := L2.Vals.one r
  cases (show u = Value.ref a from ru)
  obtain ⟨as, rd⟩ := L2.Dp.reads I d (.ref a) (.ref a) hd rfl
  refine repr_of_reads' rd hs (PyData.noDict_hsm (PyData.hasDict_of_canLay d hl)) gd (by omega) (fun _ _ z => z) (fun h' u tk hk => ?_) hz
  exact ⟨.str d.shown, H, I.kept (t' := tk) hk, ⟨_, rfl⟩, q⟩
theorem cb_repr {K : PySem.W.Frag} : CbS K (rRepr K) fRepr := fun xs ds H M Qd hM r h Q q => by
  unfold fRepr at h
  split at h
  · obtain ⟨v, rfl, r1⟩ := one_of r
    obtain ⟨⟨⟨h1, h2⟩, h3, h4⟩, hq⟩ := h
    have py := r1.py h1
    cases r1 with
    | tup a b => exact ⟨_, _, rfl, py, lay_py _ h1, h3, by rw [dep_py]; exact h2, le_line h4, q _ _ H hq (.refl H) (.str _)⟩
  · obtain ⟨v, rfl, r1⟩ := one_of r
    obtain ⟨⟨⟨h1, h2⟩, h3, h4⟩, hq⟩ := h
    have py := r1.py h1
    cases r1 with
    | lst a b => exact ⟨_, _, rfl, py, lay_py _ h1, h3, by rw [dep_py]; exact h2, le_line h4, q _ _ H hq (.refl H) (.str _)⟩
  · exact h.elim
theorem bRepr {X : L2.Cx} {W : WX} {k : Nat} (C : Ct X W k) : Blt X "repr" (.builtin "repr") fRepr := ⟨⟨_, call_reprD C.gd (by have := C.hr.un; omega), cb_repr⟩, PyProof.Rows.boot_repr⟩
/-! ### t.index(x), t a tuple of texts -/
def strsOf : List D → Option (List Str)
  | [] => some []
  | .str i :: r => (strsOf r).map (i :: ·)
  | _ :: _ => none
def mIndex : D → RL := fun d xs Q => match d, xs with
  | .tup ds, [.str z] => (match strsOf ds with
    | some ys => z ∈ ys ∧ Q (.int (ys.idxOf z : Nat))
    | none => False)
  | _, _ => False
theorem strs_df {K : PySem.W.Frag} {H : Hp} {M : Addr → Prop} : ∀ {vs : List V} {ds : List D} {ys : List Str}, DfL K H M vs ds → strsOf ds = some ys → vs = ys.map L2.V.str
  | _, _, _, .nil, e => by cases e; rfl
  | _, _, ys, .cons a b, e => by
    cases a with
    | str x =>
      simp only [strsOf] at e
      cases q : strsOf _ with
      | none => rw [q] at e; cases e
      | some zs =>
        rw [q] at e
        cases e
        rw [strs_df b q]
        rfl
    | _ => cases e
def rTIx (K : PySem.W.Frag) : L2.V → List L2.V → L2.Hp → L2.VK → Prop := fun x xs H Q => ∃ p, ∃ ys : List Str, ∃ z j, x = .ref p ∧ xs = [.str z] ∧ L2.SqT K H p (ys.map L2.V.str) ∧ ys[j]? = some z ∧ (∀ m, m < j → ys[m]? ≠ some z) ∧ Q (.int (j : Nat)) H
/-- t.m(e), t a tuple without a dict -/
theorem tuA_is {X : L2.Cx} {pins : List (Addr × Obj)} {σ : L2.St} {H : Hp} {s : Shared} {a : Addr} {vs : List V} (I : L2.Inv X pins σ H s) (h : TuA X.K H (some true) a vs) : s.TypeIs (.ref a) "tuple" ∧ ∀ b, Value.ref a = .ref b → ∃ ob, s.heap.get? b = some ob ∧ ob.dict = none := by
  obtain ⟨its, r, pl, hz⟩ := I.tuple h.q
  refine ⟨pl.typeIs, fun b e => ?_⟩
  cases e
  rcases h with ⟨ob, h, hd⟩ | ⟨o, its, n, h1, h2, h3, _⟩
  · exact ⟨ob, (I.hok a _ h).1, hd.1⟩
  · exact ⟨o, I.kIn _ _ h1, h3.1⟩
def tTM (K : PySem.W.Frag) (r : L2.V → List L2.V → L2.Hp → L2.VK → Prop) (to : L2.TE) (t : L2.TA) : L2.TE := fun σ H Q => to σ H fun x H1 => (∃ a vs, x = .ref a ∧ TuA K H1 (some true) a vs) ∧ t σ H1 fun xs H2 => r x xs H2 Q
theorem pe_tm {X : L2.Cx} {o e : Expr} {es : List Expr} {to : L2.TE} {t : L2.TA} {name : Str} {apos cpos : Pos} {id : String} {r : L2.V → List L2.V → L2.Hp → L2.VK → Prop} (slot : Slot "tuple" name id) (hty : typeOf (.builtin id) = pure (.type "method_descriptor")) (hm : L2.MtR X id r) (ho : L2.PE X o to)
    (ha : L2.PA X (e :: es) t) (hbase : attributeBase o name X.env (eval o X.env) = eval o X.env)
    (hfew : ((backTo cpos (starEach (e :: es) X.env)).all (fun x => !x.1) && (backToKw cpos (keywordEach [] X.env)).all (fun x => x.1.isSome) && decide ((e :: es).length + ([] : List Keyword).length + (if ([] : List Keyword).isEmpty then 0 else 1) < 30)) = true)
    (hline : (apos.endLine == cpos.line) = true) (hs : starEach (e :: es) X.env = (false, eval e X.env) :: starEach es X.env) (hplain : (backTo cpos (starEach es X.env)).any (·.1) = false) :
    L2.PE X (.Call (.Attribute o name apos) (e :: es) [] cpos) (tTM X.K r to t) := by
  refine ⟨fun pins s σ H Q I h => wpAny_Call_method_late hbase hfew hline rfl (L2.thn (ho.run pins s σ H _ I h) fun v s1 ⟨x, H1, I1, r1, ⟨a, vs, ex, tu⟩, q1⟩ => ?_)⟩
  subst ex
  cases (show v = Value.ref a from r1)
  obtain ⟨h1, h2⟩ := tuA_is I1 tu
  have hA := ha.run cpos pins s1 σ H1 _ I1 q1
  rw [hs] at hA
  refine ⟨"tuple", id, PySem.F.plainAttrs_tuple, slot, hty, h1, h2, ?_⟩
  rw [hs]
  exact Calls.callWith_builtin (by show (false || (backTo cpos (starEach es X.env)).any (·.1)) = false; rw [hplain] <;> rfl) (Calls.evalArgs_plain (L2.thn hA fun us s2 ⟨vs, H2, I2, r2, q2⟩ => hm pins s2 σ H2 _ vs _ us Q I2 r1 r2 q2))
def isTup : D → Prop
  | .tup _ => True
  | _ => False
def pTIx (p q : PX) : PX := fun δ Q X => p δ (fun d => isTup d ∧ q δ (fun e => mIndex d [e] Q) X) X
theorem xTIx {X : L2.Cx} {W : WX} {a e : Expr} {p q : PX} {apos cpos : Pos} (ho : PP X W a p) (he : PP X W e q) (hbase : attributeBase a "index" X.env (eval a X.env) = eval a X.env := by rfl)
    (hfew : ((backTo cpos (starEach [e] X.env)).all (fun x => !x.1) && (backToKw cpos (keywordEach [] X.env)).all (fun x => x.1.isSome) && decide (([e] : List Expr).length + ([] : List Keyword).length + (if ([] : List Keyword).isEmpty then 0 else 1) < 30)) = true := by rfl)
    (hline : (apos.endLine == cpos.line) = true := by rfl) (hs : starEach (e :: []) X.env = (false, eval e X.env) :: starEach [] X.env := by rfl) (hplain : (backTo cpos (starEach [] X.env)).any (·.1) = false := by rfl) :
    PP X W (.Call (.Attribute a "index" apos) [e] [] cpos) (pTIx p q) := by
  have hm : L2.MtR X "tuple.index" (rTIx X.K) := L2.mt_tup_index (X := X)
  refine .of (pe_tm PySem.F.slot_tuple_index PySem.F.type_tuple_index hm ho (L2.pa_cons he L2.pa_nil hs) hbase hfew hline hs hplain) ?_
  refine fun σ δ H M hM rd Qd Xd h Q qq x => cE_s (p := p) σ δ H M hM rd _ Xd h _ (fun v d H1 h1 e1 r1 => ?_) x
  obtain ⟨ht, h1⟩ := h1
  cases r1 with
  | tup hq hr =>
    refine ⟨⟨_, _, rfl, hq⟩, ?_⟩
    refine cE_s (p := q) σ δ H1 M (hM.ex e1) (rd.ex e1) _ Xd h1 _ (fun u d2 H2 h2 e2 r2 => ?_) fun y cls dd H' hx ex => x y cls dd H' hx (e1.trans ex)
    cases r2 with
    | str z =>
      simp only [mIndex] at h2
      split at h2
      · rename_i ys ey
        obtain ⟨hz, hQ⟩ := h2
        have hlt := List.idxOf_lt_length_of_mem hz
        refine ⟨_, ys, z, ys.idxOf z, rfl, rfl, by rw [← strs_df hr ey]; exact (e2.sqT hq).q, ?_, fun m hm hc => ?_, qq _ _ H2 hQ (e1.trans e2) (.int _)⟩
        · rw [List.getElem?_eq_getElem hlt, List.getElem_idxOf hlt]
        · obtain ⟨hl, e9⟩ := List.getElem?_eq_some_iff.mp hc
          have h9 := List.not_of_lt_findIdx (p := (· == z)) (xs := ys) (i := m) hm
          rw [e9] at h9
          simp at h9
      · exact h2.elim
    | _ => exact h2.elim
  | _ => exact ht.elim
end
end DL
/-! The data layer's soundness, 18: a law's end. -/
namespace DL
open PySem PySem.W PySem.Spec PyProof.Rows
/-- what a law promises: at most n ints, the answer True -/
def fdLaw (n : Nat) : FD := fun os Q _ => ∃ ns : List Int, ns.length ≤ n ∧ os = [.im (.scr (ns.map .int))] ∧ Q (.im (.bl true)) []
theorem dfl_ints {K : PySem.W.Frag} {H : Hp} {Z : Addr → Prop} : ∀ ns : List Int, DfL K H Z (ns.map L2.V.int) (ns.map D.int)
  | [] => .nil
  | n :: ns => .cons (.int n) (dfl_ints ns)
theorem law_spd {K : PySem.W.Frag} {H : Hp} {a : Addr} {ns : List Int} {n : Nat} (hO : L2.Only H) (hS : L2.SqL K H a (ns.map L2.V.int)) (hl : ns.length ≤ n) :
    spD K 1 [] (fdLaw n) [.ref a] H (fun v _ => v = .bl true) fun _ _ _ => False := by
  refine ⟨rfl, [.im (.scr (ns.map .int))], fun _ => False, [], fun o _ => o = .im (.bl true), fun _ => False, ?_, ⟨List.nodup_nil, nofun, fun _ z => z.elim⟩, ⟨ns, hl, rfl, rfl⟩, fun o os' v H' Z' fo fp' ho hv _ _ _ _ => ?_, fun _ _ _ _ _ z _ _ _ => z⟩
  · refine OwL.cons (f := []) (.im (.scr ?_ (dfl_ints ns))) .nil
    rcases hS with (h | h) | h
    · rcases hO a with z | ⟨o, xs, z⟩
      · rw [z] at h; cases h
      · rw [z] at h; cases h
    · exact .inl h
    · exact .inr h
  · subst ho
    cases hv with
    | im r =>
      cases r
      rfl
section
variable {P : Program} {w : World} {K : PySem.W.Frag} {mg mb : Str → Option Value} {k n : Nat} {fa a : Addr} {fd : FuncData} {x : Str} {s₁ : Shared} {vs : List Value} {ns : List Int}
/-- the heap ahead of the law: the script is the one thing that may be tracked -/
theorem law_env (KX : K.In s₁.heap) (hns : s₁.heap.Ns mainGlobals mg) (hb : s₁.heap.Ns builtinsNs mb) (hbb : ∀ x : Str, x ≠ "__name__" → mb x = bootBuiltins x) (hlim : s₁.heap.NoLimit) (hg : s₁.gens = #[])
    (H : Hp) (hok : L2.HOk P w H s₁.heap) (hA : ∀ b, H b ≠ none → b = a) (ha : s₁.heap.get? a = some { cls := .type "list", data := .seq vs.toArray }) (hK : H a ≠ none → K.lookup a = none) :
    L2.Env0 P w K mg (L2.hidT s₁.heap H) callerA [] s₁ H ∧ K.In (L2.hidT s₁.heap H) ∧ (L2.hidT s₁.heap H).Ns mainGlobals mg := by
  have keeps : ∀ {b : Addr} {o : Obj}, s₁.heap.get? b = some o → (b = a → H b = none) → (L2.hidT s₁.heap H).get? b = some o := fun {b o} e h => L2.hidT_get e (by
    cases q : H b with
    | none => rfl
    | some u =>
      have q2 := h (hA b (by rw [q]; simp))
      rw [q] at q2
      cases q2)
  have nsK : ∀ {b : Addr} {m : Str → Option Value}, s₁.heap.Ns b m → (L2.hidT s₁.heap H).Ns b m := fun {b m} ⟨o, es, ep, e, d, r⟩ => ⟨o, es, ep, keeps e (fun eb => by
    rw [eb, ha] at e
    cases e
    cases (show Data.seq vs.toArray _ = Data.dict es ep from d)), d, r⟩
  have hKb : K.In (L2.hidT s₁.heap H) := fun b o e => keeps (KX b o e) fun eb => by
    subst eb
    cases q : H b with
    | none => rfl
    | some u =>
      have q2 := hK (by rw [q]; simp)
      rw [q2] at e
      cases e
  obtain ⟨mc, h1, h2⟩ := hlim
  exact ⟨⟨rfl, ⟨hKb, nsK hns, ⟨mb, nsK hb, hbb⟩, ⟨mc, nsK h1, h2⟩⟩, fun b o e => L2.of_hidT e, Nat.le_of_eq (L2.hidT_size _ _), trivial, fun b z => absurd (show b ∈ ([] : List Addr) from z) (by simp), hok, .of_eq hg⟩, hKb, nsK hns⟩
theorem law_callG (KX : K.In s₁.heap) (hns : s₁.heap.Ns mainGlobals mg) (hb : s₁.heap.Ns builtinsNs mb) (hbb : ∀ x : Str, x ≠ "__name__" → mb x = bootBuiltins x) (hlim : s₁.heap.NoLimit) (hg : s₁.gens = #[])
    (ha : s₁.heap.get? a = some { cls := .type "list", data := .seq vs.toArray }) (hi : IntsAre vs ns) (hl : ns.length ≤ n) (hn : n ≤ sizeLine) (hr : L2.Room k callerA)
    (F : ∀ base : Heap, K.In base → base.Ns mainGlobals mg → FnG P w K mg base k fa fd [x] (spD K 1 [] (fdLaw n))) (hbind : ∀ (s : Shared) (u : Value), BindsTo s fd ⟨[u], []⟩ [(x, u)]) :
    codeAny (model P w) callerA (.call (.ref fa) ⟨[.ref a], []⟩) (fun r s' => r = .ok (.ret (.bool true)) ∧ OldK s₁.heap s'.heap ∧ s'.os = s₁.os ∧ AllBare s'.gens) s₁ := by
  have rv := L2.vals_ints hi
  have lenV := hi.length
  have core : ∀ H : Hp, L2.Only H → L2.SqL K H a (ns.map L2.V.int) → L2.HOk P w H s₁.heap → (∀ b, H b ≠ none → b = a) → (H a ≠ none → K.lookup a = none) →
      codeAny (model P w) callerA (.call (.ref fa) ⟨[.ref a], []⟩) (fun r s' => r = .ok (.ret (.bool true)) ∧ OldK s₁.heap s'.heap ∧ s'.os = s₁.os ∧ AllBare s'.gens) s₁ := by
    intro H hO hS hok hA hK
    obtain ⟨e0, kb, nb⟩ := law_env (P := P) (w := w) KX hns hb hbb hlim hg H hok hA ha hK
    refine codeAny_mono ((F _ kb nb).run callerA [] s₁ H ⟨[.ref a], []⟩ [.ref a] [.ref a] _ _ rfl hr e0 (hbind s₁ (.ref a)) (.cons rfl .nil) (law_spd hO hS hl)) ?_
    intro r s' h
    cases r with
    | error e =>
      obtain ⟨_, _, _, _, _, _, _, _, _, _, _, _, z⟩ := (show L2.CX P w [] H s₁ (fun _ _ _ => False) e s' from h)
      exact z.elim
    | ok fl =>
      cases fl with
      | ret u =>
        obtain ⟨v, H', os, bare, un, hok', r', q⟩ := h
        have q' : v = .bl true := q
        subst q'
        cases (show u = Value.bool true from r')
        refine ⟨rfl, OldK.of_keep fun b o e => ?_, os, bare⟩
        cases q : H b with
        | none => exact un.keep b o e q (by intro z; exact absurd (show b ∈ ([] : List Addr) from z) (by simp)) (by simp)
        | some u =>
          rcases hO b with z | ⟨ob, xs, z⟩
          · rw [q] at z
            exact nomatch z
          · have z1 := (hok b _ z).1
            rw [e] at z1
            cases z1
            exact (hok' b _ (un.frzs b _ _ z)).1
      | _ => exact False.elim h
  cases hk : K.lookup a with
  | some o =>
    have e := KX a o hk
    rw [ha] at e
    cases e
    exact core (fun _ => none) (fun _ => .inl rfl) (.inr ⟨_, vs.toArray, _, hk, rfl, rfl, rfl, by rw [List.size_toArray, lenV]; exact Nat.le_trans hl hn, by simpa using rv⟩) (fun b u z => (nomatch z)) (fun b z => absurd rfl z) fun z => absurd rfl z
  | none =>
    refine core (fun b => if b = a then some (.frz { cls := .type "list", data := .seq vs.toArray } (.lst (ns.map L2.V.int))) else none) (fun b => ?_) (.inl (.inr ⟨{ cls := .type "list", data := .seq vs.toArray }, if_pos rfl⟩)) (fun b u z => ?_) (fun b z => ?_) fun _ => hk
    · by_cases eb : b = a
      · exact .inr ⟨_, _, if_pos eb⟩
      · exact .inl (if_neg eb)
    · by_cases eb : b = a
      · have z' := (if_pos eb).symm.trans z
        cases z'
        subst eb
        exact ⟨ha, by rw [List.length_map]; exact Nat.le_trans hl hn, vs, _, rv, ha⟩
      · have z' := (if_neg eb).symm.trans z
        cases z'
    · by_cases eb : b = a
      · exact eb
      · exact absurd (if_neg eb) z
end
/-- a law by its def's promise -/
theorem walkG {l : PySem.W.OpenLaw} {n k : Nat} {q : Program} {loose : List Str} {XP : (Str → Option Value) → Heap → Prop} {YP : World → Heap → Prop} {d : DefRec} {x : Str}
    (hn : l.most = some n) (hn2 : n ≤ sizeLine) (hdf : d.params.defaults = []) (hr : L2.Room k callerA)
    (F : ∀ (w : World) (mg : Str → Option Value) (fa : Addr) (h : Heap), YP w h → h.Ns mainGlobals mg → mg d.name = some (.ref fa) →
      ∃ (K : PySem.W.Frag) (fd : FuncData), K.In h ∧ (∀ (s : Shared) (u : Value), BindsTo s fd ⟨[u], []⟩ [(x, u)]) ∧ ∀ base : Heap, K.In base → base.Ns mainGlobals mg → FnG l.prog w K mg base k fa fd [x] (spD K 1 [] (fdLaw n))) :
    PySem.W.WalkO q loose XP YP l.row.toRowW d [] (fun f vs => PySem.call f vs) :=
  Att.attach_call hn hdf fun w s₀ s₁ mg mb fa o pm cd doc a vs ns G Y ho hd hcd hmg hobj hints hlen hg => by
    obtain ⟨K, fd, KX, hb, hF⟩ := F w mg fa _ Y G.T.g hmg
    exact law_callG KX G.T.g G.T.b G.T.builtins G.T.nolimit hg hobj hints hlen hn2 hr hF hb
end DL
/-! The data layer's soundness, 19: defs by names, constants of the top, calls. -/
namespace DL
open PySem
/-- a def keeps its contract F -/
structure OkF (P : Program) (w : World) (K : PySem.W.Frag) (mg : Str → Option Value) (base : Heap) (k : Nat) (x : Str) (ps : List Str) (n : Nat) (Pf : List Nat) (F : FD) : Prop where
  ex : ∃ fd, L2.Binds K fd ps [] ∧ FnG P w K mg base k (He.ga K x) fd ps (spD K n Pf F)
  kp : PySem.W.keepIn K (.ref (He.ga K x)) = true
  gl : mg x = some (.ref (He.ga K x))
theorem OkF.mono {P : Program} {w : World} {K : PySem.W.Frag} {mg : Str → Option Value} {base : Heap} {j k : Nat} {x : Str} {ps : List Str} {n : Nat} {Pf : List Nat} {F : FD} (h : OkF P w K mg base j x ps n Pf F) (hjk : j ≤ k) : OkF P w K mg base k x ps n Pf F := by
  obtain ⟨⟨fd, h1, h2⟩, h3, h4⟩ := h
  exact ⟨⟨fd, h1, h2.mono hjk⟩, h3, h4⟩
theorem spD_imp {K : PySem.W.Frag} {n : Nat} {Pf : List Nat} {F G : FD} (h : ∀ os Q X, G os Q X → F os Q X) {vs : List V} {H : Hp} {Q : L2.VK} {E : L2.XK} (q : spD K n Pf G vs H Q E) : spD K n Pf F vs H Q E := by
  obtain ⟨hl, os, Z, fp, Qd, Xd, h1, h2, h3, h4, h5⟩ := q
  exact ⟨hl, os, Z, fp, Qd, Xd, h1, h2, h os Qd Xd h3, h4, h5⟩
theorem OkF.imp {P : Program} {w : World} {K : PySem.W.Frag} {mg : Str → Option Value} {base : Heap} {k : Nat} {x : Str} {ps : List Str} {n : Nat} {Pf : List Nat} {F G : FD} (h : OkF P w K mg base k x ps n Pf F) (i : ∀ os Q X, G os Q X → F os Q X) : OkF P w K mg base k x ps n Pf G := by
  obtain ⟨⟨fd, h1, h2⟩, h3, h4⟩ := h
  exact ⟨⟨fd, h1, ⟨fun vs H Q E q => h2.len vs H Q E (spD_imp i q), fun A outer s H args us vs Q E hg hr he hb hv hs => h2.run A outer s H args us vs Q E hg hr he hb hv (spD_imp i hs)⟩⟩, h3, h4⟩
section
variable {X : L2.Cx} {W : WX} {P own : List Nat} {z : Bool} {k : Nat} {a b c e tg iter elt : Expr} {es rest : List Expr} {pos p2 : Pos}
theorem xC {ps : List Str} {n : Nat} {F : FD} {x : Str} {p : Pos} {q : PAx} (h : OkF X.prog X.w X.K X.mg X.base k x ps n [] F) (C : Ct X W k) (ha : PPA X W (e :: es) q) (hg : L2.Gl X x := by rfl) (hdb : (x == ("__debug__" : Str)) = false := by decide)
    (he : starEach (e :: es) X.env = (false, eval e X.env) :: starEach es X.env := by rfl) (hpl : (backTo pos (starEach es X.env)).any (·.1) = false := by rfl) : PP X W (.Call (.Name x p) (e :: es) [] pos) (pCall n F q) := by
  obtain ⟨⟨fd, h1, h2⟩, h3, h4⟩ := h
  exact xCall h2 C h4 h3 h1 ha hg hdb he hpl
theorem yC {ps : List Str} {n : Nat} {Pf : List Nat} {F : FD} {x : Str} {p : Pos} {q : EAx} {lt : List (Option Nat)} {js : List Nat} (h : OkF X.prog X.w X.K X.mg X.base k x ps n Pf F) (C : Ct X W k) (ha : EA X W P (e :: es) q lt) (hp : lentP 0 lt = Pf := by rfl) (hj : lentJ lt = js := by rfl)
    (hg : L2.Gl X x := by rfl) (hdb : (x == ("__debug__" : Str)) = false := by decide)
    (he : starEach (e :: es) X.env = (false, eval e X.env) :: starEach es X.env := by rfl) (hpl : (backTo pos (starEach es X.env)).any (·.1) = false := by rfl) : EE X W P (.Call (.Name x p) (e :: es) [] pos) (eCall n F js q) := by
  obtain ⟨⟨fd, h1, h2⟩, h3, h4⟩ := h
  exact yCall h2 C h4 h3 h1 ha hp hj hg hdb he hpl
/-- a call of what a name holds: the def g -/
def pCallV (i : Nat) (f : Addr) (n : Nat) (F : FD) (q : PAx) : PX := fun δ Q X => (dget δ i = some (.im (.fn f))) ∧ pCall n F q δ Q X
theorem xCV {ps : List Str} {n : Nat} {F : FD} {g x : Str} {p : Pos} {q : PAx} (h : OkF X.prog X.w X.K X.mg X.base k g ps n [] F) (C : Ct X W k) (i : Nat) (ha : PPA X W (e :: es) q) (hN : X.N[i]? = some x := by rfl)
    (hv : L2.Vis X.env.scope x := by first | exact Or.inl rfl | exact Or.inr (Or.inl rfl) | exact Or.inr (Or.inr rfl)) (hd : (x == ("__debug__" : Str)) = false := by decide) (hcd : (x == ("__classdict__" : Str)) = false := by decide)
    (he : starEach (e :: es) X.env = (false, eval e X.env) :: starEach es X.env := by rfl) (hpl : (backTo pos (starEach es X.env)).any (·.1) = false := by rfl) : PP X W (.Call (.Name x p) (e :: es) [] pos) (pCallV i (He.ga X.K g) n F q) := by
  obtain ⟨⟨fd, h1, h2⟩, h3, h4⟩ := h
  refine .of (t := fun σ H Q => σ[i]? = some (some (.ref (He.ga X.K g))) ∧ L2.tCallSD (spD X.K n [] F) [] (L2.WE W) (cA X.K W q) σ H Q) ⟨fun pins s σ H Q I hh => ?_⟩ ?_
  · refine wpAny_Call_Name_kw (L2.thn ((L2.pe_var (X := X) hN hv hd hcd).run pins s σ H (fun v H' => v = .ref (He.ga X.K g) ∧ H' = H) I ⟨_, hh.1, rfl, rfl⟩) fun u s1 ⟨v, H1, I1, r1, ev, eH⟩ => ?_)
    subst ev eH
    cases (show u = Value.ref (He.ga X.K g) from r1)
    exact PySem.W.callWith_K (h₀ := X.base) I1.ok.mod.kin h3 (L2.thn (ha.run pos pins s1 σ H1 _ I1 hh.2) fun us s2 ⟨vs, H2, I2, r, q⟩ => ⟨I2.kIn, runG h2 C.gd C.hr h1 C.tk I2 r (by
      have q' : spD X.K n [] F (vs ++ []) H2 Q (L2.WE W σ) := q
      rw [List.append_nil] at q'
      exact q')⟩) he hpl
  · intro σ δ H M hM rd Qd Xd hh Q qq x
    obtain ⟨h8, h9⟩ := hh
    obtain ⟨v, e1, r⟩ := rd.get i _ h8
    have r' : Df X.K H M v (.fn (He.ga X.K g)) := r
    cases r'
    exact ⟨e1, sp_call cA_s σ δ H M hM rd Qd Xd h9 Q qq x⟩
/-- l + m, lists without lists, the sum owned -/
def eCat (p q : PX) : EX := fun δ Q X => p δ (fun x => q δ (fun y => match x, y with
  | .lst a, .lst b => (a.length + b.length ≤ line ∧ nolL (a ++ b) = true) ∧ Q (.lst ((a ++ b).map .im)) δ
  | _, _ => False) fun x => X x δ) fun x => X x δ
theorem se_cat {K : PySem.W.Frag} {ta tb : L2.TE} {p q : PX} (ha : SndP K W ta p) (hb : SndP K W tb q) : SndE K P W (L2.tOp (rAddAll K) ta tb) (eCat p q) := fun B hK hP σ δ H T τ w Qd Xd hh Q qq x => by
  subst hK
  refine ha σ δ H AllZ fm_all w.rd _ _ hh _ (fun v d H1 h1 e1 r1 => hb σ δ H1 AllZ fm_all (w.ex e1).rd _ _ h1 _ (fun u d2 H2 h2 e2 r2 => ?_) fun y cls dd H' hx ex xr => x y cls dd δ H' hx ((w.ex e1).ex ex).dropAll xr) fun y cls dd H' hx ex xr => x y cls dd δ H' hx (w.ex ex).dropAll xr
  have r1' := r1.ex e2
  clear r1
  split at h2
  · rename_i a b
    cases r1' with
    | lst q1 s1 =>
      cases r2 with
      | lst q2 s2 =>
        refine .inr (.inr (.inr (.inl ⟨_, _, _, _, rfl, rfl, q1.2, q2.2, by rw [s1.length, s2.length]; exact le_line h2.1.1, fun p hp => ?_⟩)))
        exact qq _ _ δ _ h2.2 (((w.ex e1).ex e2).new hp ((s1.append s2).ex (.new hp)) h2.1.2)
  · exact h2.elim
theorem yCat {p q : PX} (ha : PP X W a p) (hb : PP X W b q) : EE X W P (.BinOp a .Add b pos) (eCat p q) := .of (L2.pe_op op_addAll ha hb) (se_cat cE_s cE_s)
/-- a new list by a pure comprehension -/
theorem xChain {op op' : CmpOp} {o o' : R2} {p q r : PX} (ho : COp X op o) (ho' : COp X op' o') (ha : PP X W a p) (hb : PP X W b q) (hc : PP X W c r) (hm : lastMarks [op, op'] [b, c] = false := by with_unfolding_all rfl) : PP X W (.Compare a [op, op'] [b, c] pos) (pChain o o' p q r) := by
  obtain ⟨r1, h1, h2⟩ := ho
  obtain ⟨r2, h3, h4⟩ := ho'
  refine .of (L2.pe_chain h1 h3 ha hb hc hm) fun σ δ H M hM rd Qd Xd hh Q qq x => ?_
  refine cE_s (p := p) σ δ H M hM rd _ Xd hh _ (fun v d H1 k1 e1 s1 => cE_s (p := q) σ δ H1 M (hM.ex e1) (rd.ex e1) _ Xd k1 _ (fun u d2 H2 k2 e2 s2 => ?_) fun y cls dd H' hx ex => x y cls dd H' hx (e1.trans ex)) x
  refine h2 v u d d2 H2 M _ (hM.ex (e1.trans e2)) (s1.ex e2) s2 k2 _ fun t dt H3 k3 e3 s3 => ?_
  split at k3
  · rename_i kb
    cases s3
    refine ⟨kb, rfl, ?_⟩
    cases kb with
    | true =>
      rw [if_pos rfl] at k3 ⊢
      refine cE_s (p := r) σ δ H3 M (hM.ex ((e1.trans e2).trans e3)) (rd.ex ((e1.trans e2).trans e3)) _ Xd k3 _ (fun t2 d4 H4 k4 e4 s4 => ?_) fun y cls dd H' hx ex => x y cls dd H' hx (((e1.trans e2).trans e3).trans ex)
      exact h4 u t2 d2 d4 H4 M _ (hM.ex (((e1.trans e2).trans e3).trans e4)) ((s2.ex e3).ex e4) s4 k4 _ fun t5 d5 H5 k5 e5 s5 => qq t5 d5 H5 k5 ((((e1.trans e2).trans e3).trans e4).trans e5) s5
    | false =>
      rw [if_neg Bool.false_ne_true] at k3 ⊢
      exact qq _ _ H3 k3 ((e1.trans e2).trans e3) (.bl false)
  · exact k3.elim
end
/-! ### constants of the top -/
mutual
def cstB (K : PySem.W.Frag) : D → Value → Bool
  | .non, .none => true
  | .bl b, .bool c => b == c
  | .int i, .int j _ => decide (i = j)
  | .str x, .str y _ => decide (x = y)
  | .tup ds, .ref a => (match K.lookup a with
    | some ⟨.type c, none, .seq its _, sl⟩ => decide (c = "tuple") && (sl.isEmpty && (decide (its.size ≤ sizeLine) && cstL K ds its.toList))
    | _ => false)
  | _, _ => false
def cstL (K : PySem.W.Frag) : List D → List Value → Bool
  | [], [] => true
  | d :: ds, v :: vs => cstB K d v && cstL K ds vs
  | _, _ => false
end
mutual
theorem cstB_ok {K : PySem.W.Frag} : ∀ {d : D} {u : Value}, cstB K d u = true → ∃ v, L2.RelV v u ∧ ∀ H Z, Df K H Z v d
  | .non, .none, _ => ⟨.non, rfl, fun _ _ => .non⟩
  | .bl b, .bool c, h => ⟨.bl b, by rw [eq_of_beq (show (b == c) = true by simpa [cstB] using h)]; rfl, fun _ _ => .bl b⟩
  | .int i, .int j t, h => ⟨.int i, ⟨t, by rw [show i = j by simpa [cstB] using h]⟩, fun _ _ => .int i⟩
  | .str i, .str j t, h => ⟨.str i, ⟨t, by rw [show i = j by simpa [cstB] using h]⟩, fun _ _ => .str i⟩
  | .tup ds, .ref a, h => by
    unfold cstB at h
    split at h
    · rename_i c its n sl q
      simp only [Bool.and_eq_true, decide_eq_true_eq] at h
      obtain ⟨h1, h0, h2, h3⟩ := h
      obtain ⟨vs, r, g⟩ := cstL_ok h3
      exact ⟨.ref a, rfl, fun H Z => .tup (.inr ⟨_, its, n, q, congrArg Value.type h1, ⟨rfl, Array.isEmpty_iff.mp h0⟩, rfl, h2, r⟩) (g H Z)⟩
    · cases h
theorem cstL_ok {K : PySem.W.Frag} : ∀ {ds : List D} {us : List Value}, cstL K ds us = true → ∃ vs, L2.Vals vs us ∧ ∀ H Z, DfL K H Z vs ds
  | [], [], _ => ⟨[], .nil, fun _ _ => .nil⟩
  | d :: ds, u :: us, h => by
    simp only [cstL, Bool.and_eq_true] at h
    obtain ⟨v, r, g⟩ := cstB_ok h.1
    obtain ⟨vs, r2, g2⟩ := cstL_ok h.2
    exact ⟨v :: vs, .cons r r2, fun H Z => .cons (g H Z) (g2 H Z)⟩
  | [], _ :: _, h => by simp [cstL] at h
  | _ :: _, [], h => by simp [cstL] at h
end
/-- the module's name x is the constant d -/
def gcB (K : PySem.W.Frag) (x : Str) (d : D) : Bool := match PySem.W.nsIn K mainGlobals x with
  | some (some u) => cstB K d u
  | _ => false
theorem gcB_ok {K : PySem.W.Frag} {h : Heap} {mg : Str → Option Value} {x : Str} {d : D} (X : K.In h) (G : h.Ns mainGlobals mg) (c : gcB K x d = true) : ∃ u v, mg x = some u ∧ L2.RelV v u ∧ ∀ H Z, Df K H Z v d := by
  unfold gcB at c
  split at c
  · rename_i u e
    obtain ⟨v, r, g⟩ := cstB_ok c
    exact ⟨u, v, PySem.W.mg_of X G e, r, g⟩
  · cases c
theorem xCst {X : L2.Cx} {W : WX} {x : Str} {d : D} {pos : Pos} (h : ∃ u v, X.mg x = some u ∧ L2.RelV v u ∧ ∀ H Z, Df X.K H Z v d) (hg : L2.Gl X x := by rfl) (hdb : (x == ("__debug__" : Str)) = false := by decide) : PP X W (.Name x pos) (pC d) := by
  obtain ⟨u, v, hm, r, g⟩ := h
  exact .of (L2.pe_glob hg hm r hdb) (sp_c g)
end DL
/-! The data layer's soundness, 20: three names at once, slices up to what owns, a tuple's index of what owns. -/
namespace DL
open PySem
def sPar3 (i j l : Nat) (a b c : EX) : SX := fun E δ => a δ (fun o δ1 => b δ1 (fun k δ2 => c δ2 (fun m δ3 => E.nx (dset (dset (dset δ3 i (some o)) j (some k)) l (some m))) E.ex) E.ex) E.ex
/-- a[:h] -/
def eSlH (a h : EX) : EX := fun δ Q X => a δ (fun o δ1 => h δ1 (fun k δ2 => match k with
  | .im (.int j) => opSl o.fz none (some j) fun z => nol z = true ∧ Q (.im z) δ2
  | _ => False) X) X
/-- t.index(e) -/
def eTIx (p : PX) (q : EX) : EX := fun δ Q X => p δ (fun d => isTup d ∧ nol d = true ∧ q δ (fun o δ1 => mIndex d [o.fz] fun z => nol z = true ∧ Q (.im z) δ1) X) fun x => X x δ
section
variable {z : Bool} {K : PySem.W.Frag} {P : List Nat} {W : WX} {ta tb tc : L2.TE} {a b c : EX}
theorem ss_par3 {i j l : Nat} (ha : SndE K P W ta a) (hb : SndE K P W tb b) (hc : SndE K P W tc c) (hi : i ∉ P) (hj : j ∉ P) (hl : l ∉ P) : SndS K P W z (L2.tPar3 i j l (L2.tCons ta (L2.tCons tb (L2.tCons tc L2.tNil)))) (sPar3 i j l a b c) := fun B hK hP σ δ H T τ hz w E h D R =>
  ha B hK hP σ δ H T τ w _ _ h _ (fun v o δ1 H1 h1 w1 => hb B hK hP σ δ1 H1 _ _ w1 _ _ h1 _ (fun u k δ2 H2 h2 w2 => hc B hK hP σ δ2 H2 _ _ w2 _ _ h2 _ (fun t m δ3 H3 h3 w3 => ⟨v, u, t, rfl, R.nx _ _ _ h3 (by
      have w4 := Wd.unrot (vs := [u, v]) (os := [k, o]) w3 rfl
      have w5 := Wd.swap w4
      exact ((w5.set (by rw [hP]; exact hi)).set (by rw [hP]; exact hj)).set (by rw [hP]; exact hl))⟩)
    fun x cls dd δ' H' hx wx xr => R.ex x cls dd σ δ' H' hx wx xr) fun x cls dd δ' H' hx wx xr => R.ex x cls dd σ δ' H' hx wx xr) fun x cls dd δ' H' hx wx xr => R.ex x cls dd σ δ' H' hx wx xr
theorem se_slH (ha : SndE K P W ta a) (hb : SndE K P W tb b) : SndE K P W (L2.tSl (rSlAll K) ta L2.tNoPart (L2.tPart tb)) (eSlH a b) := fun B hK hP σ δ H T τ w Qd Xd hh Q q x =>
  ha B hK hP σ δ H T τ w _ Xd hh _ (fun v o δ1 H1 h1 w1 => hb B hK hP σ δ1 H1 _ _ w1 _ Xd h1 _ (fun u k δ2 H2 h2 w2 => by
    subst hK
    split at h2
    · rename_i j
      have eu := int_top w2
      subst eu
      exact ⟨j, rfl, slS fm_all w2.drop.top h2 fun y d H3 h3 e3 r3 => q y _ δ2 H3 h3.2 ((w2.drop.drop.ex e3).push r3 h3.1)⟩
    · exact h2.elim) x) x
theorem se_tix {p : PX} (ha : SndP K W ta p) (hb : SndE K P W tb b) : SndE K P W (tTM K (rTIx K) ta (L2.tCons tb L2.tNil)) (eTIx p b) := fun B hK hP σ δ H T τ w Qd Xd hh Q q x => by
  subst hK
  refine ha σ δ H AllZ fm_all w.rd _ _ hh _ (fun v d H1 h1 e1 r1 => ?_) fun y cls dd H' hx ex xr => x y cls dd δ H' hx (w.ex ex).dropAll xr
  obtain ⟨ht, hn, h1⟩ := h1
  cases r1 with
  | tup hq hr =>
    refine ⟨⟨_, _, rfl, hq⟩, ?_⟩
    have w1 := (w.ex e1).push (v := .ref _) (d := .tup _) (.tup hq hr) hn
    refine hb B rfl hP σ δ H1 _ _ w1 _ Xd h1 _ (fun u o δ2 H2 h2 w2 => ?_) x
    have r2 : Dr B.K H2 _ (.tup _) := w2.drop.top
    have s2 : Dr B.K H2 u o.fz := w2.top
    generalize o.fz = d2 at *
    cases s2 with
    | str z =>
      simp only [mIndex] at h2
      split at h2
      · rename_i ys ey
        obtain ⟨hz, hQ⟩ := h2
        have hlt := List.idxOf_lt_length_of_mem hz
        cases r2 with
        | tup hq2 hr2 =>
          refine ⟨_, ys, z, ys.idxOf z, rfl, rfl, by rw [← strs_df hr2 ey]; exact hq2.q, ?_, fun m hm hc => ?_, q _ _ _ H2 hQ.2 (w2.drop.drop.push (.int _) rfl)⟩
          · rw [List.getElem?_eq_getElem hlt, List.getElem_idxOf hlt]
          · obtain ⟨hl, e9⟩ := List.getElem?_eq_some_iff.mp hc
            have h9 := List.not_of_lt_findIdx (p := (· == z)) (xs := ys) (i := m) hm
            rw [e9] at h9
            simp at h9
      · exact h2.elim
    | _ => exact h2.elim
  | _ => exact ht.elim
end
section
variable {X : L2.Cx} {W : WX} {P own : List Nat} {z : Bool} {k : Nat} {a b c e : Expr} {pos p2 : Pos}
theorem zPar3 {x y v : Str} {p q r : EX} {px py pv pt : Pos} {kt k2 pt2} (C : Ct X W k) (i j l : Nat) (ha : EE X W P a p) (hb : EE X W P b q) (hc : EE X W P c r) (hi : X.N[i]? = some x := by rfl) (hj : X.N[j]? = some y := by rfl) (hl : X.N[l]? = some v := by rfl) (hij : i ≠ j := by decide) (hil : i ≠ l := by decide) (hjl : j ≠ l := by decide)
    (hx : X.env.scope.names.lookup x = some .local := by rfl) (hy : X.env.scope.names.lookup y = some .local := by rfl) (hv : X.env.scope.names.lookup v = some .local := by rfl) (hPi : i ∉ P := by decide) (hPj : j ∉ P := by decide) (hPl : l ∉ P := by decide)
    (hs0 : starEach (a :: [b, c]) X.env = (false, eval a X.env) :: starEach [b, c] X.env := by rfl) (hs1 : starEach (b :: [c]) X.env = (false, eval b X.env) :: starEach [c] X.env := by rfl) (hs2 : starEach (c :: []) X.env = (false, eval c X.env) :: starEach [] X.env := by rfl)
    (hw : swappedStores [.Tuple [.Name x px, .Name y py, .Name v pv] kt pt] (.Tuple [a, b, c] k2 pt2) X.env = pure (some [x, y, v]) := by rfl)
    (hs : swapsWithSole [.Tuple [.Name x px, .Name y py, .Name v pv] kt pt] (.Tuple [a, b, c] k2 pt2) pos.line X.env = pure false := by rfl) : SS X W P z (.Assign [.Tuple [.Name x px, .Name y py, .Name v pv] kt pt] (.Tuple [a, b, c] k2 pt2) pos) (sPar3 i j l p q r) :=
  .of (L2.ps_par3 C.calm C.nd hi hj hl hij hil hjl hx hy hv (L2.pa_cons ha (L2.pa_cons hb (L2.pa_cons hc L2.pa_nil hs2) hs1) hs0) hw hs) (ss_par3 oE_s oE_s oE_s hPi hPj hPl)
theorem ySlH {p q : EX} (ha : EE X W P a p) (hb : EE X W P b q) : EE X W P (.Subscript a (.Slice none (some b) none p2) pos) (eSlH p q) := .of (L2.pe_slice sl_all ha L2.po_none (L2.po_some hb)) (se_slH oE_s oE_s)
theorem yTIx {p : PX} {q : EX} {apos cpos : Pos} (ho : PP X W a p) (he : EE X W P e q) (hbase : attributeBase a "index" X.env (eval a X.env) = eval a X.env := by rfl)
    (hfew : ((backTo cpos (starEach [e] X.env)).all (fun x => !x.1) && (backToKw cpos (keywordEach [] X.env)).all (fun x => x.1.isSome) && decide (([e] : List Expr).length + ([] : List Keyword).length + (if ([] : List Keyword).isEmpty then 0 else 1) < 30)) = true := by rfl)
    (hline : (apos.endLine == cpos.line) = true := by rfl) (hs : starEach (e :: []) X.env = (false, eval e X.env) :: starEach [] X.env := by rfl) (hplain : (backTo cpos (starEach [] X.env)).any (·.1) = false := by rfl) :
    EE X W P (.Call (.Attribute a "index" apos) [e] [] cpos) (eTIx p q) :=
  .of (pe_tm PySem.F.slot_tuple_index PySem.F.type_tuple_index (L2.mt_tup_index (X := X)) ho (L2.pa_cons he L2.pa_nil hs) hbase hfew hline hs hplain) (se_tix cE_s oE_s)
end
end DL
/-! The data layer's soundness, 21: what is frozen. -/
namespace DL
open PySem
/-- the frozen names alone -/
def frzO : Option OV → Option OV
  | some (.im d) => some (.im d)
  | _ => none
def frzD (δ : DE) : DE := δ.map frzO
theorem dget_frz : ∀ (δ : DE) (i : Nat), dget (frzD δ) i = frzO (dget δ i)
  | [], i => by cases i <;> rfl
  | x :: δ, 0 => rfl
  | x :: δ, i + 1 => dget_frz δ i
/-- a pure one of frozen names: its value is frozen, whatever it is -/
def eZ (p : PX) : EX := fun δ Q X => p (frzD δ) (fun d => Q (.im d) δ) fun x => X x δ
/-- frozen from here on -/
def eFz (e : EX) : EX := fun δ Q X => e δ (fun o δ1 => Q (.im o.fz) δ1) X
def goF (i : Nat) : GO := fun o δ Q => Q (dset δ i (some (.im o.fz)))
section
variable {z : Bool} {K : PySem.W.Frag} {P : List Nat} {W : WX} {te : L2.TE} {e : EX} {p : PX}
theorem OwS.slot {H : Hp} {Z : Addr → Prop} : ∀ {σ : L2.St} {δ : DE} {f : List Addr}, OwS K H Z σ δ f → ∀ i d, dget δ i = some (.im d) → ∃ v, σ[i]? = some (some v) ∧ Df K H Z v d
  | _, _, _, .nil, _, _, e => by cases e
  | _, _, _, .free h, 0, d, e => by cases e
  | _, _, _, .free h, i + 1, d, e => by simpa using h.slot i d e
  | _, _, _, .val a h, 0, d, e => by
    cases (show some _ = some _ from e)
    cases a with
    | im r => exact ⟨_, rfl, r⟩
  | _, _, _, .val a h, i + 1, d, e => by simpa using h.slot i d e
theorem se_Z (h : SndP K W te p) : SndE K P W te (eZ p) := fun B hK hP σ δ H T τ w Qd Xd hh Q q x => by
  subst hK
  obtain ⟨Z, f, g, w⟩ := w
  have rd : RdS B.K H (fun a => Z a ∨ H a = none) σ (frzD δ) := by
    refine ⟨by rw [w.s.length]; simp [frzD], fun i o e => ?_⟩
    rw [dget_frz] at e
    cases q : dget δ i with
    | none => rw [q] at e; cases e
    | some o2 =>
      rw [q] at e
      cases o2 with
      | lst os => cases e
      | im d =>
        cases (show some (OV.im d) = some o from e)
        obtain ⟨v, e1, r⟩ := w.s.slot i d q
        exact ⟨v, e1, r.mz fun _ => .inl⟩
  refine h σ (frzD δ) H (fun a => Z a ∨ H a = none) (fun a => .inr) rd _ _ hh Q (fun v d H' hq ex r => ?_) fun y cls dd H' hx ex xr => x y cls dd δ H' hx (Wd.dropAll ⟨Z, f, g, w.ex ex⟩) xr
  refine q v _ δ H' hq ?_
  have kp : ∀ {S : List Addr}, Kp S B.K H Z H' (fun a => Z a ∨ (H a = none ∧ H' a ≠ none)) := fun {S} => w.kEx ex fun _ => .inl
  refine w.to (Z' := fun a => Z a ∨ (H a = none ∧ H' a ≠ none)) (f' := f) (g' := [] ++ g) (w.s.keep kp) (.cons (.im (r.keep (fun _ _ z => z) fun a vs z => ⟨z.1.imp id fun n => ⟨n, by rw [z.2]; exact nofun⟩, z.2⟩)) (w.t.keep kp)) ⟨w.ok.nd, fun a m z => ?_, fun a z n => ?_⟩
    ⟨fun a o e _ => ex a o e, fun _ => .inl, fun a z => z.elim .inl fun z => .inr (.inr z.1)⟩ (fun a m => .inl m) fun _ _ => rfl
  · rcases z with z | z
    · exact w.ok.nz a m z
    · exact w.no z.1 m
  · rcases z with z | z
    · exact w.ok.zd a z (ex.free n)
    · exact z.2 n
theorem se_fz (h : SndE K P W te e) : SndE K P W te (eFz e) := fun B hK hP σ δ H T τ w Qd Xd hh Q q x =>
  h B hK hP σ δ H T τ w _ Xd hh Q (fun v o δ' H' h1 w1 => q v _ δ' H' h1 w1.frz) x
theorem sgo_frz {i : Nat} (hn : i ∉ P := by decide) : SndGO P K (L2.gName i) (goF i) := fun B hK hP v o σ δ H T τ w Qd h Q q => q _ _ h (w.frz.set (by rw [hP]; exact hn))
end
section
variable {X : L2.Cx} {W : WX} {P own : List Nat} {z : Bool} {k : Nat} {a b c e tg iter elt : Expr} {ifs : List Expr} {pos p2 spos : Pos} {scope : Scope}
theorem yZ {p : PX} (h : PP X W e p) : EE X W P e (eZ p) := .of h (se_Z cE_s)
theorem yFz {p : EX} (h : EE X W P e p) : EE X W P e (eFz p) := .of h (se_fz oE_s)
theorem zLcF {x : Str} {it : EIt} {g : GX} {t : ETx} {p : EX} (C : Ct X W k) (i : Nat) (ow : List (Str × Nat)) (hi : EI X W P tg iter it)
    (hg : ∀ s H A cl fp, Ct (Bk X scope s H A cl fp) W0 k → EG (Bk X scope s H A cl fp) P (ow.map (·.2)) tg g) (ht : ∀ s H A cl fp, Ct (Bk X scope s H A cl fp) W0 k → ETs (Bk X scope s H A cl fp) W0 P ifs t)
    (he : ∀ s H A cl fp, Ct (Bk X scope s H A cl fp) W0 k → EE (Bk X scope s H A cl fp) W0 P elt p) (ok : L2.blkC X.N X.env.scope scope ow = true := by kernel_rfl) (hO : ∀ i ∈ P, i ∉ ow.map (·.2) := by decide)
    (hy : X.N[i]? = some x := by rfl) (hyl : X.env.scope.names.lookup x = some .local := by rfl) (hP : i ∉ P := by decide) (hsw : swapsWith (.ListComp elt [⟨tg, iter, ifs, 0⟩] scope pos) (some (.Name x p2)) spos.line X.env = pure true := by rfl)
    (hs : ∀ x, foldedSetIterable iter X.env x = pure x := by intro _; rfl) :
    SS X W P z (.Assign [.Name x p2] (.ListComp elt [⟨tg, iter, ifs, 0⟩] scope pos) spos) (sAsg (eComp (ow.map (·.2)) it g t p) (goF i)) :=
  .of (L2.ps_setLc (g := oG X.K P (ow.map Prod.snd) g) (tt := oT X.K W0 P t) (te := oE X.K W0 P p) C.calm C.nd hy hyl hsw hi (L2.blkOk_by ok) (fun s H A cl fp => hg s H A cl fp (C.blk ..)) (fun s H A cl fp => ht s H A cl fp (C.blk ..)) (fun s H A cl fp => he s H A cl fp (C.blk ..)) hs)
    (ss_asg (se_comp oI_s oG_s oT_s oE_s hO) (sgo_frz hP))
/-- a lent name ahead of other arguments: they may still use it -/
def eaLate (i : Nat) (r : EAx) : EAx := fun δ Q X => (∃ o, dget δ i = some o) ∧ r δ (fun os δ1 => match dget δ1 i with
  | some o => Q (o :: os) (dset δ1 i none)
  | none => False) X
theorem sea_late {K : PySem.W.Frag} {tr : L2.TA} {r : EAx} {lt : List (Option Nat)} (i : Nat) (hr : SndEA K P W tr r lt) : SndEA K P W (L2.tCons (L2.tVar i) tr) (eaLate i r) (some i :: lt) := fun B hK hP σ δ H T τ w Qd Xd hh Q q x => by
  obtain ⟨⟨o0, e0⟩, hh⟩ := hh
  obtain ⟨v, e1, _⟩ := w.mv e0
  refine ⟨v, e1, hr B hK hP σ δ H T τ w _ Xd hh _ (fun vs os δ2 H2 h2 w2 hl hl2 hlt => ?_) x⟩
  split at h2
  · rename_i o e
    obtain ⟨v2, e3, w3⟩ := w2.mv e
    rw [e1] at e3
    cases e3
    refine q (v :: vs) (o :: os) _ H2 h2 w3 (by simp [hl]) (by simp [hl2]) fun k j ek => ?_
    cases k with
    | zero =>
      simp at ek
      subst ek
      exact ⟨v, rfl, e1⟩
    | succ k => simpa using hlt k j (by simpa using ek)
  · exact h2.elim
theorem bLate (i : Nat) {x : Str} {r : EAx} {lt : List (Option Nat)} {es : List Expr} (hr : EA X W P es r lt) (hN : X.N[i]? = some x := by rfl) (hv : L2.Vis X.env.scope x := by first | exact Or.inl rfl | exact Or.inr (Or.inl rfl) | exact Or.inr (Or.inr rfl)) (hd : (x == ("__debug__" : Str)) = false := by decide)
    (hcd : (x == ("__classdict__" : Str)) = false := by decide) (hs : starEach (.Name x pos :: es) X.env = (false, eval (.Name x pos) X.env) :: starEach es X.env := by rfl) : EA X W P (.Name x pos :: es) (eaLate i r) (some i :: lt) := .of (L2.pa_cons (L2.pe_var hN hv hd hcd) hr hs) (sea_late i oA_s)
end
end DL
/-! The data layer's soundness, 22: a lambda without parameters handed to a def that tries it. -/
namespace DL
open PySem PySem.Spec PyProof.Rows L2
section
variable {X : L2.Cx} {pins : List (Addr × Obj)} {σ : L2.St} {H HZ : Hp} {s s1 : Shared}
abbrev lamQ (X : L2.Cx) : Str := X.env.qual ++ "<lambda>"
abbrev lamO (X : L2.Cx) (ps : Arguments) (b : Expr) (sc : Scope) (pm ct : Value) (d : Addr) : Obj := PySem.W.kla_obj "<lambda>" (lamQ X) ps b sc (cloFrom X.env.cells sc.names []) pm d ct
/-- the lambda's object is made; beside its table all stays -/
theorem lam_new {c P0 : Addr} {ps : Arguments} {b : Expr} {sc : Scope} {pos : Pos} {E Q : Value → Shared → Prop} (I : L2.Inv X pins σ H s) (TB : LamX.TabB X.base X.mg c P0) (hc : X.env.code = .ref c) (hT : LamX.TabS H P0 (lamQ X))
    (hd : defaultsOf ps X.env = ([], [])) (hfr : ∀ y ∈ sc.names, y.2 = .free → ∃ c, X.env.cells.lookup y.1 = some c)
    (go : ∀ (f d : Addr) (pm ct : Value) (H1 : Hp) (s' : Shared), L2.Inv X pins σ H1 s' → (∀ a o, H a = some o → a ≠ P0 → H1 a = some o) → LamX.TabS H1 P0 (lamQ X) → s'.heap.get? f = some (lamO X ps b sc pm ct d) → H1 f = none → f ∉ frs X.stack → H1 d = some (LamX.CodeO d (lamQ X)) → Q (.ref f) s') :
    wpAny (model X.prog X.w) X.A (eval (.Lambda ps b sc pos) X.env) Q E s := by
  obtain ⟨tb, h1, h2, h3⟩ := hT
  have inP : s.heap.get? P0 = some { cls := .none, data := .fields tb } := I.hok P0 _ h1
  have above : ∀ a, s.heap.objs.size ≤ a → a ∉ frs X.stack := fun a ha m => (List.mem_cons.mp (I.stkSub _ m)).elim (fun e => Nat.lt_irrefl _ (Nat.lt_of_lt_of_le (e ▸ I.lt) ha)) fun e => I.nofs ha e
  have bi := TB.bm.keeps I.bk
  refine PySem.W.kla_eval hd (?_ : wpAny _ _ _ _ _ s)
  match q : codeAmong pos tb.toList with
  | some cv =>
    obtain ⟨d, rfl, hd2⟩ := h3 pos cv q
    exact PySem.W.kla_makeFunctionHit (closure_ok hfr) I.ok.glob (I.mod.glob.keeps I.bk) hc (TB.code.keeps I.bk) inP h2 q bi fun ct h' tk up size =>
      go h'.objs.size d _ ct H _ (I.kept fun a o e => Heap.get?_push_of_some _ (up a o e)) (fun _ _ e _ => e) ⟨tb, h1, h2, h3⟩ (Heap.get?_push_size _ rfl) (I.hok.fresh size) (above _ size) hd2
  | none =>
    refine PySem.W.kla_makeFunction (closure_ok hfr) I.ok.glob (I.mod.glob.keeps I.bk) hc (TB.code.keeps I.bk) inP h2 q TB.gP bi fun d ct h' tk up ge lt rec tab => ?_
    obtain ⟨d2, oc, vs, t, e2, hoc, hdc, hv⟩ := rec
    cases e2
    have big : s.heap.objs.size ≤ h'.objs.size := Nat.le_trans ge (Nat.le_of_lt lt)
    have nd : H d = none := I.hok.fresh ge
    have grown := LamX.inv_table (t' := tk) (more := #[rawInt pos.line, rawInt pos.col, .ref d]) (h' := h'.push (lamO X ps b sc ((X.mg "__name__").getD .none) ct d)) I h1 (fun a o ha e => Heap.get?_push_of_some _ (up a o ha e)) (Heap.get?_push_of_some _ tab) ge
      ⟨oc, vs, t, Heap.get?_push_of_some _ hoc, hdc, hv⟩
    have same : ∀ a o, H a = some o → a ≠ P0 → upd (upd H P0 (.tbl (tb ++ #[rawInt pos.line, rawInt pos.col, .ref d]))) d (LamX.CodeO d (lamQ X)) a = some o := fun a o e n => by
      rw [upd_ne (ne_of_none e nd), upd_ne n]
      exact e
    have toL : (tb ++ #[rawInt pos.line, rawInt pos.col, .ref d]).toList = tb.toList ++ [rawInt pos.line, rawInt pos.col, .ref d] := by simp
    refine go h'.objs.size d _ ct _ _ grown same ⟨_, by rw [upd_ne (ne_of_none h1 nd), upd_same], by rw [toL]; exact PySem.TriplesOk_snoc _ _ _ _ h2, fun p2 cv hcv => ?_⟩ (Heap.get?_push_size _ rfl) ?_ (above _ big) upd_same
    · rw [toL] at hcv
      rcases LamX.among_app _ h2 hcv with z | z
      · obtain ⟨d0, e1, e3⟩ := h3 p2 cv z
        refine ⟨d0, e1, same _ _ e3 fun e => ?_⟩
        rw [e, h1] at e3
        exact LamX.codeO_ne tb (Option.some.inj e3).symm
      · exact ⟨d, z, upd_same⟩
    · rw [upd_ne (Nat.ne_of_gt lt), upd_ne (Nat.ne_of_gt (Nat.lt_of_lt_of_le (Heap.lt_size inP) big))]
      exact I.hok.fresh big
/-- what the lambda gives, called -/
theorem lam_run {A : Around} {outer : List Env} {E : L2.XK} {k : Nat} {ps : Arguments} {b : Expr} {sc : Scope} {pm ct : Value} {f d : Addr} {p : PX} {Q : L2.VK} (I : L2.Inv X pins σ H s) (L : LamX.LamS X.env.scope sc) (hf : s1.heap.get? f = some (lamO X ps b sc pm ct d))
    (hd : HZ d = some (LamX.CodeO d (lamQ X))) (e0 : L2.Env0 X.prog X.w X.K X.mg X.base A outer s1 HZ) (hr : L2.Room (k + 1) A) (hg : A.guards = some []) (un : L2.Un (frs X.stack) [] H HZ s.heap s1.heap)
    (hb : ∀ (q : Str) (cl : List (Str × Addr)) (pm cv ctv : Value), bindArgs (PySem.W.kla_fn "<lambda>" q ps b sc cl pm cv ctv) ⟨[], []⟩ = pure [])
    (body : ∀ (A : Around) (outer : List Env) (s : Shared) (H : Hp) (E : L2.XK), A.guards = some [] → L2.Room k (A.deeper (LamX.lamEnv X sc s.heap.objs.size f d)) → PP (LamX.lamCx X A outer s H E sc f d) (fun cls dd _ H => E cls dd H) b p)
    (q : cE X.K (fun cls dd _ H => E cls dd H) p σ HZ Q) : codeAny (model X.prog X.w) A (.call (.ref f) ⟨[], []⟩) (L2.CR (L2.CX X.prog X.w) outer X.prog X.w HZ s1 Q E) s1 := by
  obtain ⟨⟨oc, vs, t, k1, k2, k3⟩, _, _⟩ := e0.hok d _ hd
  have lim : s1.heap.NoLimit := e0.mod.nolimit.keeps fun b o z => (e0.bs b o z).1
  refine PySem.W.kla_callFunE hr.depth hf rfl L.co L.gen rfl ⟨d, oc, vs, t, rfl, k1, k2, k3⟩ (by
    rw [hb]
    refine wpAny_pure (wpAny_newFunctionEnv (fun y m => (L.own y m).2) (fun y m => nomatch m) (fun h2 ns sb => ⟨lim.fresh _ sb, ?_⟩) L.kind)
    have up : ∀ a o, s1.heap.get? a = some o → h2.get? a = some o := fun a o e => sb.extBut a o (Nat.ne_of_lt (Heap.lt_size e)) (Heap.get?_push_of_some _ e)
    have J := LamX.lam_start2 (E := E) (f := f) (c' := d) (tk := s1.toks + ([] : List (Str × Value)).length) I L e0 hr.hd un ns up
    refine PySem.W.kla_codeExpr (wpAny_mono ((body A outer s1 HZ E hg (hr.deeper _)).run [] _ _ HZ Q J q) ?_ fun e s' z => z)
    rintro v s' ⟨w', H', J', rv, z⟩
    exact ⟨w', H', J'.os, J'.bare, J'.base, J'.hok, rv, z⟩)
end
section
variable {X : L2.Cx} {pins : List (Addr × Obj)} {σ : L2.St} {H : Hp} {s : Shared}
/-- the frame of a def that is called from X -/
abbrev inCx (X : L2.Cx) (Ng : List Str) (x : Str) (sg : Scope) (g : Addr) (cd : Value) (s : Shared) (H : Hp) : L2.Cx := L2.cxOf (L2.CX X.prog X.w) X.prog X.w X.K X.mg X.base Ng x sg g cd X.A X.stack s H fun _ _ _ => False
/-- the lambda called by the name a in the def that got it -/
theorem pe_actG {Ng : List Str} {x a : Str} {sg : Scope} {g f d : Addr} {cd pm ct : Value} {ps : Arguments} {b : Expr} {sc : Scope} {k : Nat} {pn : List (Addr × Obj)} {xe : Value → Shared → Prop} {W : WX} {p : PX} {p1 p2 : Pos} (I : L2.Inv X pins σ H s) (L : LamX.LamS X.env.scope sc)
    (hf : s.heap.get? f = some (lamO X ps b sc pm ct d)) (hn : H f = none) (hfs : f ∉ frs X.stack)
    (hb : ∀ (q : Str) (cl : List (Str × Addr)) (pm cv ctv : Value), bindArgs (PySem.W.kla_fn "<lambda>" q ps b sc cl pm cv ctv) ⟨[], []⟩ = pure [])
    (tk : L2.Takes ((inCx X Ng x sg g cd s H).tr pn xe) W) (hr : L2.Room (k + 1) (X.A.deeper (envOfC x sg s.heap.objs.size g cd))) (hg : X.A.guards = some [])
    (body : ∀ (A : Around) (outer : List Env) (s : Shared) (H : Hp) (E : L2.XK), A.guards = some [] → L2.Room k (A.deeper (LamX.lamEnv X sc s.heap.objs.size f d)) → PP (LamX.lamCx X A outer s H E sc f d) (fun cls dd _ H => E cls dd H) b p)
    (hN : Ng[0]? = some a) (hv : L2.Vis sg a) (h1 : (a == ("__debug__" : Str)) = false) (h2 : (a == ("__classdict__" : Str)) = false) :
    L2.PE ((inCx X Ng x sg g cd s H).tr pn xe) (.Call (.Name a p1) [] [] p2) (fun σ9 H9 Q => σ9[0]? = some (some (.ref f)) ∧ H9 d = some (LamX.CodeO d (lamQ X)) ∧ cE X.K (fun cls dd _ H' => W cls dd σ9 H') p σ H9 Q) := by
  refine ⟨fun q0 s0 σ9 H9 Q J ⟨e1, e2, e3⟩ => ?_⟩
  refine wpAny_Call_Name_kw (L2.thn ((L2.pe_var (pos := p1) (i := 0) hN hv h1 h2).run q0 s0 σ9 H9 (fun v H1 => v = .ref f ∧ H1 = H9) J ⟨_, e1, rfl, rfl⟩) ?_)
  rintro u s2 ⟨v, H2, J2, rv, rfl, rfl⟩
  cases (show u = Value.ref f from rv)
  have there : s2.heap.get? f = some (lamO X ps b sc pm ct d) := J2.base.keep f _ hf hn hfs nofun
  refine PySem.W.callWith_F0 ⟨_, _, _, _, there⟩ ?_
  have un : L2.Un (frs X.stack) [] H H2 s.heap s2.heap := J2.base
  have rc := lam_run (E := L2.WE W σ9) I L there e2 J2.env0 hr hg un hb body e3
  refine wpAny_call (codeAny_mono rc ?_)
  rintro r s3 h
  match r, h with
  | .error e, h => exact L2.passAt tk σ9 q0 H2 s2 e s3 J2 h
  | .ok (.ret u), h => exact J2.after h

/-- ("told", x) or ("nothing",) of what the lambda gives -/
def tHeard (K : PySem.W.Frag) (P0 : Addr) (q : Str) (C : Addr) (told nothing : Str) (p : PX) : L2.TE := fun σ H Q => LamX.TabS H P0 q ∧ ∀ H1, (∀ a o, H a = some o → a ≠ P0 → H1 a = some o) → LamX.TabS H1 P0 q →
  cE K (fun cls _ _ H2 => ∃ b, PySem.W.exmOne K cls (.ref C) = some b ∧ (b = true → Nz H2 [.str nothing] Q) ∧ (b = false → False)) p σ H1 fun v H2 => Nz H2 [.str told, v] Q
theorem pe_heard {x a e told nothing : Str} {g c P0 C : Addr} {k : Nat} {pg : Arguments} {sg : Scope} {fd : FuncData} {Ng : List Str} {ps : Arguments} {b : Expr} {sc : Scope} {p : PX} {j1 j2 t1 t2 : Nat} {q1 q2 q3 q4 q5 q6 q7 q8 q9 q10 q11 pos lpos qc : Pos}
    (Fd : L2.FunD X.K x x pg [.Try [.Return (some (.Tuple [.Constant (.str told) j1 q1, .Call (.Name a q2) [] [] q3] t1 q4)) q5] [.ExceptHandler (some (.Name e q6)) none [.Return (some (.Tuple [.Constant (.str nothing) j2 q7] t2 q8)) q9] q10] [] [] q11] sg [] [] g fd)
    (hbd : L2.Binds X.K fd [a] []) (Sg : L2.FnScope Ng [a] sg) (hNg : Ng[0]? = some a) (hva : L2.Vis sg a) (hge : sg.names.lookup e = some .globalImplicit) (hme : X.mg e = some (.ref C)) (hkg : PySem.W.keepIn X.K (.ref g) = true) (hmg : X.mg x = some (.ref g)) (hgl : L2.Gl X x)
    (TB : LamX.TabB X.base X.mg c P0) (hcode : X.env.code = .ref c) (hr : L2.Room (k + 2) X.A) (hg : X.A.guards = some []) (L : LamX.LamS X.env.scope sc) (hdef : defaultsOf ps X.env = ([], []))
    (hb : ∀ (q : Str) (cl : List (Str × Addr)) (pm cv ctv : Value), bindArgs (PySem.W.kla_fn "<lambda>" q ps b sc cl pm cv ctv) ⟨[], []⟩ = pure [])
    (body : ∀ (A : Around) (outer : List Env) (s : Shared) (H : Hp) (E : L2.XK) (f d : Addr), A.guards = some [] → L2.Room k (A.deeper (LamX.lamEnv X sc s.heap.objs.size f d)) → PP (LamX.lamCx X A outer s H E sc f d) (fun cls dd _ H => E cls dd H) b p)
    (hst : (L2.start Ng [V.ref g]).length = (L2.start Ng [V.ref g]).length := by rfl)
    (h1 : (a == ("__debug__" : Str)) = false := by decide) (h2 : (a == ("__classdict__" : Str)) = false := by decide) (h3 : (e == ("__debug__" : Str)) = false := by decide) (h4 : (x == ("__debug__" : Str)) = false := by decide) :
    L2.PE X (.Call (.Name x qc) [.Lambda ps b sc lpos] [] pos) (tHeard X.K P0 (lamQ X) C told nothing p) := by
  refine ⟨fun pins s σ H Q I ⟨hT, h⟩ => ?_⟩
  refine wpAny_Call_Name_kw (L2.ld_glob I hgl hmg (PySem.W.callWith_K (h₀ := X.base) I.ok.mod.kin hkg ?_ (by rfl) (by rfl)) h4)
  show wpAny _ _ (spliced ((false, eval (.Lambda ps b sc lpos) X.env) :: backTo pos (starEach [] X.env))) _ _ s
  refine Calls.spliced_cons (lam_new I TB hcode hT hdef (L.has I.ok) ?_)
  intro f d pm ct H1 s' I1 same T1 hf hn hfs hd
  refine Calls.spliced_nil ⟨I1.kIn, ?_⟩
  obtain ⟨oc, od, dV, kV, doc, pm2, an, cdv, ct2, osl, rfl, lk, hcd, _, _⟩ := Fd.ex
  have e0 : (L2.start Ng [V.ref f])[0]? = some (some (V.ref f)) := rfl
  have rc : codeAny (model X.prog X.w) X.A (.call (.ref g) ⟨[.ref f], []⟩) (L2.CR (L2.CX X.prog X.w) X.stack X.prog X.w H1 s' Q fun _ _ _ => False) s' := by
    refine LamX.run_ofS (N := Ng) (ps := [a]) (us := [.ref f]) (vs := [.ref f]) lk hcd Sg hr I1.env0 (hbd s' [.ref f] I1.kIn rfl) (.cons rfl .nil) rfl fun hr2 => ?_
    have gl : L2.Gl (inCx X Ng x sg g cdv s' H1) e := hge
    refine ⟨_, L2.pss_one (L2.ps_try_only (X := inCx X Ng x sg g cdv s' H1) (c := .ref C) (Wout := fun _ _ _ _ => False) (tb := fun W => L2.tRet (tTupZ (L2.tCons (L2.tC (.str told)) (L2.tCons (fun σ9 H9 Q => σ9[0]? = some (some (.ref f)) ∧ H9 d = some (LamX.CodeO d (lamQ X)) ∧ cE X.K (fun cls dd _ H' => W cls dd σ9 H') p σ H9 Q) L2.tNil))))
      (ts := fun _ _ _ => L2.tRet (tTupZ (L2.tCons (L2.tC (.str nothing)) L2.tNil))) rfl rfl ⟨gl, h3, .inl hme⟩ (L2.takes_of rfl rfl rfl rfl) (fun W pn xe tk _ => ?_) fun a0 oe cls dd pn _ _ => ?_), ?_⟩
    · exact L2.pss_one (L2.ps_ret (pe_tupZ (L2.pa_cons L2.pe_str (L2.pa_cons (pe_actG I1 L hf hn hfs hb tk hr2 hg (fun A outer s H E => body A outer s H E f d) hNg hva h1 h2) L2.pa_nil))))
    · exact L2.pss_one (L2.ps_ret (pe_tupZ (L2.pa_cons L2.pe_str L2.pa_nil)))
    · obtain ⟨δ, M, Qd, Xd, hM, rd, hp, hq, hx⟩ := h H1 same T1
      refine ⟨e0, hd, δ, M, Qd, Xd, hM, rd, hp, fun v dd H' k1 k2 k3 => ⟨(by decide : 2 ≤ sizeLine), hq v dd H' k1 k2 k3⟩, fun y cls dd H' k1 k2 k3 => ?_⟩
      obtain ⟨b, k4, k5, k6⟩ := hx y cls dd H' k1 k2 k3
      exact ⟨b, k4, fun z a _ => ⟨(by decide : 1 ≤ sizeLine), k5 z⟩, k6⟩
  refine wpAny_call (codeAny_mono rc ?_)
  rintro r s2 hq
  match r, hq with
  | .error e, hq =>
    obtain ⟨_, _, _, _, _, _, _, _, _, _, _, _, z⟩ := (show L2.CX X.prog X.w X.stack H1 s' (fun _ _ _ => False) e s2 from hq)
    exact z.elim
  | .ok (.ret u), hq => exact I1.after hq

/-- a world in which nothing but a table grew -/
theorem Wx.tabbed {B : Base} {H H1 : Hp} {σ : L2.St} {δ : DE} {T : List V} {τ : List OV} {Z : Addr → Prop} {f g : List Addr} {P0 : Addr} {q : Str} (w : Wx B H σ δ T τ Z f g) (hm : (P0, q) ∈ B.T0) (hu : ∀ p ∈ B.T0, p = (P0, q)) (e : ∀ a o, H a = some o → a ≠ P0 → H1 a = some o) (t : LamX.TabS H1 P0 q) : Wx B H1 σ δ T τ Z f g := by
  obtain ⟨hL, ps, hps, _, _⟩ := w.tq _ hm
  have ne : ∀ a o, H a = some o → (∀ ps, o ≠ .tbl ps) → H1 a = some o := fun a o ha n => e a o ha fun z => by
    rw [z, hps] at ha
    exact n ps (Option.some.inj ha).symm
  have kp : ∀ {S : List Addr}, Kp S B.K H Z H1 Z := fun {S} => ⟨fun a vs h => h.to (fun h => ne a _ h nofun) fun ob u h => ne a _ h nofun, fun a vs h => ⟨h.1, ne a _ h.2 nofun⟩, fun a vs _ h => ne a _ h nofun⟩
  obtain ⟨ps1, hps1, _, _⟩ := id t
  refine ⟨w.s.keep kp, w.t.keep kp, ⟨w.ok.nd, w.ok.nz, fun a z => ?_⟩, w.st.trans (F := [P0]) ⟨fun a o ha n => e a o ha (by simpa using n), fun _ z => z, fun _ z => .inl z⟩ (fun a m => by simp at m; subst m; exact .inl hL), w.fr, w.pr, fun p m => ?_⟩
  · by_cases ea : a = P0
    · rw [ea, hps1]
      nofun
    · cases ha : H a with
      | none => exact absurd ha (w.ok.zd a z)
      | some o => rw [e a o ha ea]; nofun
  · cases hu p m
    exact ⟨hL, t⟩
/-- _law_heard(lambda: p) : cl tells which classes are caught -/
def eHeard (told nothing : Str) (cl : Str → Option Bool) (p : PX) : EX := fun δ Q _ => p (frzD δ) (fun d => Q (.im (.tup [.str told, d])) δ) fun x => cl x.cls = some true ∧ Q (.im (.tup [.str nothing])) δ
theorem se_heard {K : PySem.W.Frag} {P : List Nat} {W : WX} {P0 C : Addr} {q told nothing : Str} {cl : Str → Option Bool} {p : PX} (hm : (P0, q) ∈ tbOf K P) (hu : ∀ p ∈ tbOf K P, p = (P0, q)) (hc : ∀ (x : Str) (k : Bool), cl x = some k → PySem.W.exmOne K (.ref (He.ga K x)) (.ref C) = some k) :
    SndE K P W (tHeard K P0 q C told nothing p) (eHeard told nothing cl p) := fun B hK hP σ δ H T τ w Qd Xd hh Q k x => by
  subst hK hP
  obtain ⟨Z, f, g, w⟩ := w
  refine ⟨(w.tq _ hm).2, fun H1 same T1 => ?_⟩
  have w1 := w.tabbed hm hu same T1
  have step : ∀ (ys : List V) (ds : List D) (H' : Hp), Ex H1 H' → DfL B.K H' (fun a => Z a ∨ H1 a = none) ys ds → Qd (.im (.tup ds)) δ → Nz H' ys Q := fun ys ds H' ex r hq pt ob hpt hob => by
    refine k _ _ δ _ hq ?_
    have x2 : Ex H1 (L2.upd H' pt (.frz ob (.tup ys))) := ex.trans (.new hpt)
    have kp : ∀ {S : List Addr}, Kp S B.K H1 Z (L2.upd H' pt (.frz ob (.tup ys))) (fun a => Z a ∨ (H1 a = none ∧ L2.upd H' pt (.frz ob (.tup ys)) a ≠ none)) := fun {S} => w1.kEx x2 fun _ => .inl
    refine w1.to (Z' := fun a => Z a ∨ (H1 a = none ∧ L2.upd H' pt (.frz ob (.tup ys)) a ≠ none)) (f' := f) (g' := [] ++ g) (w1.s.keep kp) (.cons (.im (.tup (.new hob) ((r.ex (.new hpt)).keep (fun _ _ z => z) fun a vs z => ⟨z.1.imp id fun n => ⟨n, by rw [z.2]; exact nofun⟩, z.2⟩))) (w1.t.keep kp)) ⟨w1.ok.nd, fun a m z => ?_, fun a z n => ?_⟩
      ⟨fun a o e _ => x2 a o e, fun _ => .inl, fun a z => z.elim .inl fun z => .inr (.inr z.1)⟩ (fun a m => .inl m) fun _ _ => rfl
    · rcases z with z | z
      · exact w1.ok.nz a m z
      · exact w1.no z.1 m
    · rcases z with z | z
      · exact w1.ok.zd a z (x2.free n)
      · exact z.2 n
  have rd : RdS B.K H1 (fun a => Z a ∨ H1 a = none) σ (frzD δ) := by
    refine ⟨by rw [w1.s.length]; simp [frzD], fun i o e => ?_⟩
    rw [dget_frz] at e
    cases q : dget δ i with
    | none => rw [q] at e; cases e
    | some o2 =>
      rw [q] at e
      cases o2 with
      | lst os => cases e
      | im d =>
        cases (show some (OV.im d) = some o from e)
        obtain ⟨v, e1, r⟩ := w1.s.slot i d q
        exact ⟨v, e1, r.mz fun _ => .inl⟩
  refine ⟨frzD δ, fun a => Z a ∨ H1 a = none, _, _, fun a => .inr, rd, hh, fun v d H' hq ex r => ?_, fun y cls dd H' hx ex xr => ?_⟩
  · exact step _ _ H' ex (.cons (.str _) (.cons r .nil)) hq
  · have hx1 := hx.1
    exact ⟨true, by rw [xr.1]; exact hc _ _ hx1, fun _ => step _ _ H' ex (.cons (.str _) .nil) hx.2, nofun⟩
end
end DL
/-! The data layer's soundness, 23: a law's end, the table of its lambdas tracked. -/
namespace DL
open PySem PySem.W PySem.Spec PyProof.Rows
/-- the law's code object, its table -/
abbrev lawC (K : PySem.W.Frag) : Addr := He.codeOf K ("law", none)
abbrev lawT (K : PySem.W.Frag) : Addr := (He.cT K ("law", none)).2
abbrev lawQ : Str := "law" ++ ".<locals>." ++ "<lambda>"
theorem tbOf_law (K : PySem.W.Frag) : tbOf K [1000] = [(lawT K, lawQ)] := rfl
/-- the law's promise: of at most n ints, with an own table -/
def spLaw (K : PySem.W.Frag) (n : Nat) : L2.Sp := fun vs H Q _ => ∃ ns : List Int, ns.length ≤ n ∧ vs.length = 1 ∧ LamX.TabS H (lawT K) lawQ ∧ OwL K H (fun _ => False) vs [.im (.scr (ns.map .int))] [] ∧ ∀ H', Q (.bl true) H'
section
variable {P : Program} {w : World} {K : PySem.W.Frag} {mg : Str → Option Value} {base : Heap} {k n : Nat} {fd : FuncData} {params : Arguments} {body : List Stmt} {scope : Scope} {N : List Str} {x : Str}
/-- the law by its data -/
theorem fn_law {s : SX} {ts : WX → L2.TS} (Fd : L2.FunD K "law" "law" params body scope [] [] (He.ga K "law") fd) (S : L2.FnScope N [x] scope)
    (vc : ∀ (ns : List Int) (Qd : OV → List OV → Prop) (Xd : Xc → Prop), ns.length ≤ n → Qd (.im (.bl true)) [] → s (fnEn [] Qd Xd) (startD N.length [.im (.scr (ns.map .int))])) (snd : ∀ W, SndS K [1000] W true (ts W) s)
    (hb : ∀ (A : Around) (outer : List Env) (s : Shared) (H : Hp) (E : L2.XK) (W : WX), A.guards = some [] → L2.Room k (A.deeper (envOfC "law" scope s.heap.objs.size (He.ga K "law") (.ref (lawC K)))) →
      L2.Takes (L2.cxOf (L2.CX P w) P w K mg base N "law" scope (He.ga K "law") (.ref (lawC K)) A outer s H E) W → L2.PSs (L2.cxOf (L2.CX P w) P w K mg base N "law" scope (He.ga K "law") (.ref (lawC K)) A outer s H E) body (ts W)) :
    FnG P w K mg base (k + 1) (He.ga K "law") fd [x] (spLaw K n) := by
  refine fnG_ofC Fd S (fun vs H Q E h => by obtain ⟨_, _, z, _⟩ := h; exact z) fun cdv A outer s0 H vs Q E hcode hg hr hsp => ?_
  obtain ⟨ns, hl, h1, hT, ow, hQ⟩ := hsp
  obtain ⟨oc, od, dV, kV, doc, pm, an, ct, osl, lk, hcd⟩ := hcode
  obtain ⟨c, rfl⟩ := He.codeIn_ref hcd
  have ec : lawC K = c := He.codeOf_eq (p := ("law", none)) lk rfl
  subst ec
  refine ⟨_, hb A outer s0 H E (fun cls d _ H => E cls d H) hg hr (L2.takes_of rfl rfl rfl rfl), ?_⟩
  have e1 : L2.start N vs = vs.map some ++ List.replicate (N.length - vs.length) none := rfl
  have e2 : startD N.length [OV.im (.scr (ns.map .int))] = [OV.im (.scr (ns.map .int))].map some ++ List.replicate (N.length - vs.length) none := by
    unfold startD
    rw [h1]
    rfl
  have w0 : Wd ⟨K, H, fun _ => False, [lawT K], [1000], L2.start N vs⟩ H (L2.start N vs) (startD N.length [OV.im (.scr (ns.map .int))]) [] [] := by
    refine ⟨fun _ => False, [], [], ?_, .nil, ⟨List.nodup_nil, nofun, fun _ z => z.elim⟩, .refl, nofun, fun _ _ => rfl, fun p m => ?_⟩
    · rw [e1, e2]
      exact ow.starts _
    · simp only [Base.T0, tbOf_law, List.mem_singleton] at m
      subst m
      exact ⟨List.mem_cons_self, hT⟩
  refine snd _ ⟨K, H, fun _ => False, [lawT K], [1000], L2.start N vs⟩ rfl rfl _ _ H [] [] (fun _ => ⟨rfl, rfl⟩) w0 _ (vc ns (fun o _ => o = .im (.bl true)) (fun _ => False) hl rfl) _ ⟨fun σ' δ' H' h w => ?_, fun v o σ' δ' H' h w => ?_, fun _ _ _ h _ => h.elim, fun _ _ _ h _ => h.elim, fun x cls dd σ' δ' H' hx _ _ => hx.elim⟩
  · have h : OV.im .non = .im (.bl true) := h
    cases h
  · have h : o = .im (.bl true) := h
    subst h
    obtain ⟨Z, f, g, w⟩ := w
    have t := w.t
    cases t with
    | cons hv _ =>
      cases hv with
      | im r =>
        cases r
        exact hQ H'
end
section
variable {P : Program} {w : World} {K : PySem.W.Frag} {mg mb : Str → Option Value} {k n : Nat} {fa a c T0 : Addr} {fd : FuncData} {x : Str} {s₁ : Shared} {vs : List Value} {ns : List Int}
abbrev noTab : Obj := { cls := .none, data := .fields #[] }
abbrev lstO (vs : List Value) : Obj := { cls := .type "list", data := .seq vs.toArray }
/-- the heap ahead of the law: the script and the table are all that may be tracked -/
theorem law_envT (KX : K.In s₁.heap) (hns : s₁.heap.Ns mainGlobals mg) (hb : s₁.heap.Ns builtinsNs mb) (hbb : ∀ x : Str, x ≠ "__name__" → mb x = bootBuiltins x) (hlim : s₁.heap.NoLimit) (hg : s₁.gens = #[])
    (hbm : ∃ (bm : Addr) (ob : Obj), mg "__builtins__" = some (.ref bm) ∧ bm ≠ builtinsNs ∧ s₁.heap.get? bm = some ob ∧ ob.cls = .type "module" ∧ ob.dict = some builtinsNs ∧ ob.data = .plain)
    (hcd : PySem.W.codeHdIn K c T0 = true) (hT : s₁.heap.get? T0 = some noTab) (nT : K.lookup T0 = none)
    (H : Hp) (hok : L2.HOk P w H s₁.heap) (hA : ∀ b, H b ≠ none → b = a ∨ b = T0) (ha : s₁.heap.get? a = some (lstO vs)) (hK : H a ≠ none → K.lookup a = none) :
    L2.Env0 P w K mg (L2.hidT s₁.heap H) callerA [] s₁ H ∧ K.In (L2.hidT s₁.heap H) ∧ (L2.hidT s₁.heap H).Ns mainGlobals mg ∧ LamX.TabB (L2.hidT s₁.heap H) mg c T0 := by
  have keeps : ∀ {b : Addr} {o : Obj}, s₁.heap.get? b = some o → (b = a → H b = none) → (b = T0 → H b = none) → (L2.hidT s₁.heap H).get? b = some o := fun {b o} e h h' => L2.hidT_get e (by
    cases q : H b with
    | none => rfl
    | some u =>
      rcases hA b (by rw [q]; nofun) with z | z
      · rw [h z] at q; cases q
      · rw [h' z] at q; cases q)
  have plain : ∀ {b : Addr} {o : Obj}, s₁.heap.get? b = some o → (∀ vs : List Value, o ≠ lstO vs) → o ≠ noTab → (L2.hidT s₁.heap H).get? b = some o := fun {b o} e h1 h2 => keeps e (fun z => by
    rw [z, ha] at e
    exact absurd (Option.some.inj e).symm (h1 vs)) fun z => by
    rw [z, hT] at e
    exact absurd (Option.some.inj e).symm h2
  have nsK : ∀ {b : Addr} {m : Str → Option Value}, s₁.heap.Ns b m → (L2.hidT s₁.heap H).Ns b m := fun {b m} ⟨o, es, ep, e, d, r⟩ => ⟨o, es, ep, plain e (fun vs z => by rw [z] at d; cases d) (fun z => by rw [z] at d; cases d), d, r⟩
  have inK : K.In (L2.hidT s₁.heap H) := fun b o e => keeps (KX b o e) (fun z => by
    cases q : H b with
    | none => rfl
    | some u =>
      rw [z] at e q
      rw [hK (by rw [q]; nofun)] at e
      cases e) fun z => by
    rw [z, nT] at e
    cases e
  have gNe : ∀ {b : Addr} {o : Obj}, s₁.heap.get? b = some o → (∀ es ep, o.data ≠ .dict es ep) → b ≠ mainGlobals := fun {b o} e n z => by
    obtain ⟨o2, es, ep, e2, d, _⟩ := hns
    rw [z, e2] at e
    cases e
    exact n _ _ d
  obtain ⟨bm, ob, m1, m2, m3, m4, m5, m6⟩ := hbm
  have bmK := plain m3 (fun vs z => by rw [z] at m6; cases m6) (fun z => by rw [z] at m6; cases m6)
  obtain ⟨mc, h1, h2⟩ := hlim
  refine ⟨⟨rfl, ⟨inK, nsK hns, ⟨mb, nsK hb, hbb⟩, ⟨mc, nsK h1, h2⟩⟩, fun b o e => L2.of_hidT e, Nat.le_of_eq (L2.hidT_size _ _), trivial, nofun, hok, .of_eq hg⟩, inK, nsK hns, ⟨PySem.W.codeHd_of_K inK hcd, ⟨bm, ob, m1, m2, gNe m3 (fun es ep z => by rw [m6] at z; cases z), fun z => ?_, bmK, m4, m5, m6⟩, fun z => gNe hT (fun es ep z => by cases z) z.symm⟩⟩
  rw [z, hT] at m3
  cases m3
  cases m6
theorem law_callT (KX : K.In s₁.heap) (hns : s₁.heap.Ns mainGlobals mg) (hb : s₁.heap.Ns builtinsNs mb) (hbb : ∀ x : Str, x ≠ "__name__" → mb x = bootBuiltins x) (hlim : s₁.heap.NoLimit) (hg : s₁.gens = #[])
    (hbm : ∃ (bm : Addr) (ob : Obj), mg "__builtins__" = some (.ref bm) ∧ bm ≠ builtinsNs ∧ s₁.heap.get? bm = some ob ∧ ob.cls = .type "module" ∧ ob.dict = some builtinsNs ∧ ob.data = .plain)
    (hcd : PySem.W.codeHdIn K (lawC K) (lawT K) = true) (hT : s₁.heap.get? (lawT K) = some noTab) (nT : K.lookup (lawT K) = none)
    (ha : s₁.heap.get? a = some (lstO vs)) (hi : IntsAre vs ns) (hl : ns.length ≤ n) (hn : n ≤ sizeLine) (hr : L2.Room k callerA)
    (F : ∀ base : Heap, K.In base → base.Ns mainGlobals mg → LamX.TabB base mg (lawC K) (lawT K) → FnG P w K mg base k fa fd [x] (spLaw K n)) (hbind : ∀ (s : Shared) (u : Value), BindsTo s fd ⟨[u], []⟩ [(x, u)]) :
    codeAny (model P w) callerA (.call (.ref fa) ⟨[.ref a], []⟩) (fun r s' => r = .ok (.ret (.bool true)) ∧ OldK s₁.heap s'.heap ∧ s'.os = s₁.os ∧ AllBare s'.gens) s₁ := by
  have rv := L2.vals_ints hi
  have aT : a ≠ lawT K := fun z => by
    rw [z, hT] at ha
    cases (show noTab = lstO vs from Option.some.inj ha)
  have core : ∀ H : Hp, H (lawT K) = some (.tbl #[]) → (∀ b, H b = none ∨ b = lawT K ∨ ∃ o xs, H b = some (.frz o (.lst xs))) → TuA K H none a (ns.map L2.V.int) → L2.HOk P w H s₁.heap → (∀ b, H b ≠ none → b = a ∨ b = lawT K) → (H a ≠ none → K.lookup a = none) →
      codeAny (model P w) callerA (.call (.ref fa) ⟨[.ref a], []⟩) (fun r s' => r = .ok (.ret (.bool true)) ∧ OldK s₁.heap s'.heap ∧ s'.os = s₁.os ∧ AllBare s'.gens) s₁ := by
    intro H hH hO hS hok hA hK
    obtain ⟨e0, kb, nb, tb⟩ := law_envT (P := P) (w := w) KX hns hb hbb hlim hg hbm hcd hT nT H hok hA ha hK
    have hsp : spLaw K n [.ref a] H (fun v _ => v = .bl true) fun _ _ _ => False := ⟨ns, hl, rfl, LamX.TabS.nil hH, OwL.cons (f := []) (.im (.scr hS (dfl_ints ns))) .nil, fun _ => rfl⟩
    refine codeAny_mono ((F _ kb nb tb).run callerA [] s₁ H ⟨[.ref a], []⟩ [.ref a] [.ref a] _ _ rfl hr e0 (hbind s₁ (.ref a)) (.cons rfl .nil) hsp) ?_
    intro r s' h
    match r, h with
    | .error e, h =>
      obtain ⟨_, _, _, _, _, _, _, _, _, _, _, _, z⟩ := (show L2.CX P w [] H s₁ (fun _ _ _ => False) e s' from h)
      exact z.elim
    | .ok (.ret u), h =>
      obtain ⟨v, H', os, bare, un, hok', r', q⟩ := h
      cases (show v = .bl true from q)
      cases (show u = Value.bool true from r')
      obtain ⟨more, z⟩ := un.tbls _ #[] hH
      have tbl' : s'.heap.get? (lawT K) = some { cls := .none, data := .fields more } := by
        have z2 := hok' _ _ z
        rw [Array.empty_append] at z2
        exact z2
      have rest : ∀ b o, b ≠ lawT K → s₁.heap.get? b = some o → s'.heap.get? b = some o := fun b o nb e => by
        cases q : H b with
        | none => exact un.keep b o e q nofun nofun
        | some u =>
          rcases hO b with z | z | ⟨ob, xs, z⟩
          · rw [q] at z; cases z
          · exact absurd z nb
          · have z1 := (hok b _ z).1
            rw [e] at z1
            cases z1
            exact (hok' b _ (un.frzs b _ _ z)).1
      refine ⟨rfl, ⟨fun b o e => ?_, fun b o e => ?_⟩, os, bare⟩
      · by_cases hbT : b = lawT K
        · subst hbT
          rw [hT] at e
          cases e
          exact .inr (.inl ⟨((PySem.W.codeHd_of_K KX hcd).tab hT).isCodeTable, rfl, #[], more, rfl, by rw [Array.empty_append]; exact tbl'⟩)
        · exact .inl (rest b o hbT e)
      · by_cases hbT : b = lawT K
        · subst hbT
          exact ⟨_, tbl'⟩
        · exact ⟨o, rest b o hbT e⟩
  cases hk : K.lookup a with
  | some o =>
    have e := KX a o hk
    rw [ha] at e
    cases e
    refine core (fun b => if b = lawT K then some (.tbl #[]) else none) (if_pos rfl) (fun b => ?_) (.inr ⟨_, vs.toArray, _, hk, rfl, rfl, rfl, by rw [List.size_toArray, hi.length]; exact Nat.le_trans hl hn, by simpa using rv⟩) (fun b u z => ?_) (fun b z => ?_) fun z => absurd (if_neg aT) z
    · by_cases hb : b = lawT K
      · exact .inr (.inl hb)
      · exact .inl (if_neg hb)
    · by_cases hb : b = lawT K
      · cases (if_pos hb).symm.trans z
        exact hb ▸ hT
      · cases (if_neg hb).symm.trans z
    · by_cases hb : b = lawT K
      · exact .inr hb
      · exact absurd (if_neg hb) z
  | none =>
    refine core (fun b => if b = lawT K then some (.tbl #[]) else if b = a then some (.frz (lstO vs) (.lst (ns.map L2.V.int))) else none) (if_pos rfl) (fun b => ?_) (.inl ⟨lstO vs, (if_neg aT).trans (if_pos rfl)⟩) (fun b u z => ?_) (fun b z => ?_) fun _ => hk
    · by_cases hb : b = lawT K
      · exact .inr (.inl hb)
      · by_cases h2 : b = a
        · exact .inr (.inr ⟨_, _, (if_neg hb).trans (if_pos h2)⟩)
        · exact .inl ((if_neg hb).trans (if_neg h2))
    · by_cases hb : b = lawT K
      · cases (if_pos hb).symm.trans z
        exact hb ▸ hT
      · by_cases h2 : b = a
        · cases ((if_neg hb).trans (if_pos h2)).symm.trans z
          subst h2
          exact ⟨ha, by rw [List.length_map]; exact Nat.le_trans hl hn, vs, _, rv, ha⟩
        · cases ((if_neg hb).trans (if_neg h2)).symm.trans z
    · by_cases hb : b = lawT K
      · exact .inr hb
      · by_cases h2 : b = a
        · exact .inl h2
        · exact absurd ((if_neg hb).trans (if_neg h2)) z
end
/-- a law with lambdas by its def's promise -/
theorem walkGT {l : PySem.W.OpenLaw} {n k : Nat} {q : Program} {loose : List Str} {XP : (Str → Option Value) → Heap → Prop} {YP : World → Heap → Prop} {d : DefRec} {x : Str}
    (hn : l.most = some n) (hn2 : n ≤ sizeLine) (hdf : d.params.defaults = []) (hr : L2.Room k callerA)
    (F : ∀ (w : World) (mg : Str → Option Value) (fa : Addr) (h : Heap), YP w h → h.Ns mainGlobals mg → mg d.name = some (.ref fa) →
      ∃ (K : PySem.W.Frag) (fd : FuncData), K.In h ∧ PySem.W.codeHdIn K (lawC K) (lawT K) = true ∧ h.get? (lawT K) = some noTab ∧ K.lookup (lawT K) = none ∧ (∀ (s : Shared) (u : Value), BindsTo s fd ⟨[u], []⟩ [(x, u)]) ∧
        ∀ base : Heap, K.In base → base.Ns mainGlobals mg → LamX.TabB base mg (lawC K) (lawT K) → FnG l.prog w K mg base k fa fd [x] (spLaw K n)) :
    PySem.W.WalkO q loose XP YP l.row.toRowW d [] (fun f vs => PySem.call f vs) :=
  Att.attach_call hn hdf fun w s₀ s₁ mg mb fa o pm cd doc a vs ns G Y ho hd hcd hmg hobj hints hlen hg => by
    obtain ⟨K, fd, KX, h1, h2, h3, hb, hF⟩ := F w mg fa _ Y G.T.g hmg
    exact law_callT KX G.T.g G.T.b G.T.builtins G.T.nolimit hg G.T.bmain h1 h2 h3 hobj hints hlen hn2 hr hF hb

/-- a def: try: return (told, a()) / except e: return (nothing,) -/
structure Heard (K : PySem.W.Frag) (mg : Str → Option Value) (x a e told nothing : Str) : Prop where
  ex : ∃ (pg : Arguments) (sg : Scope) (fd : FuncData) (Ng : List Str) (j1 j2 t1 t2 : Nat) (q1 q2 q3 q4 q5 q6 q7 q8 q9 q10 q11 : Pos),
    L2.FunD K x x pg [.Try [.Return (some (.Tuple [.Constant (.str told) j1 q1, .Call (.Name a q2) [] [] q3] t1 q4)) q5] [.ExceptHandler (some (.Name e q6)) none [.Return (some (.Tuple [.Constant (.str nothing) j2 q7] t2 q8)) q9] q10] [] [] q11] sg [] [] (He.ga K x) fd ∧
    L2.Binds K fd [a] [] ∧ L2.FnScope Ng [a] sg ∧ Ng[0]? = some a ∧ L2.Vis sg a ∧ sg.names.lookup e = some .globalImplicit
  gl : mg x = some (.ref (He.ga K x))
  ge : mg e = some (.ref (He.ga K e))
theorem yHeard {X : L2.Cx} {W : WX} {k : Nat} {x a e told nothing : Str} {cl : Str → Option Bool} {sc : Scope} {ps : Arguments} {b : Expr} {lpos pos qc : Pos} {p : PX} (Hd : Heard X.K X.mg x a e told nothing) (C : Ct X W (k + 2)) (TB : LamX.TabB X.base X.mg (lawC X.K) (lawT X.K))
    (hc : ∀ (y : Str) (c : Bool), cl y = some c → PySem.W.exmOne X.K (.ref (He.ga X.K y)) (.ref (He.ga X.K e)) = some c)
    (body : ∀ (A : Around) (outer : List Env) (s : Shared) (H : Hp) (E : L2.XK) (f d : Addr), Ct (LamX.lamCx X A outer s H E sc f d) (fun cls dd _ H => E cls dd H) k → PP (LamX.lamCx X A outer s H E sc f d) (fun cls dd _ H => E cls dd H) b p)
    (hcode : X.env.code = .ref (lawC X.K) := by rfl) (hq : lamQ X = lawQ := by rfl) (L : LamX.lamSB X.env.scope sc = true := by kernel_rfl) (hdef : defaultsOf ps X.env = ([], []) := by rfl)
    (hb : ∀ (q : Str) (cl : List (Str × Addr)) (pm cv ctv : Value), bindArgs (PySem.W.kla_fn "<lambda>" q ps b sc cl pm cv ctv) ⟨[], []⟩ = pure [] := by intros; rfl) (hgl : L2.Gl X x := by rfl)
    (h1 : (a == ("__debug__" : Str)) = false := by decide) (h2 : (a == ("__classdict__" : Str)) = false := by decide) (h3 : (e == ("__debug__" : Str)) = false := by decide) (h4 : (x == ("__debug__" : Str)) = false := by decide) :
    EE X W [1000] (.Call (.Name x qc) [.Lambda ps b sc lpos] [] pos) (eHeard told nothing cl p) := by
  obtain ⟨⟨pg, sg, fd, Ng, j1, j2, t1, t2, q1, q2, q3, q4, q5, q6, q7, q8, q9, q10, q11, Fd, k1, k2, k3, k4, k5⟩, gl, ge⟩ := Hd
  refine .of (pe_heard (C := He.ga X.K e) (p := p) Fd k1 k2 k3 k4 k5 ge Fd.kp gl hgl TB hcode C.hr C.gd (LamX.lamS_by L) hdef hb (fun A outer s H E f d hg hr => body A outer s H E f d ⟨hr, hg, L2.takes_of rfl rfl rfl rfl, rfl, C.nd⟩) rfl h1 h2 h3 h4) (se_heard ?_ ?_ hc)
  · rw [tbOf_law, hq]
    exact List.mem_cons_self
  · rw [tbOf_law, hq]
    exact fun p m => List.mem_singleton.mp m
end DL
/-! Plain lemmas about data wps: comprehensions, void contracts. -/
namespace DL
open PySem
theorem compP_map {own : List Nat} {g : GX} {e : PX} {δ : DE} (f : D → D) : ∀ (ds : List D) (Q : List D → Prop), (∀ d ∈ ds, ∀ Q' : D → Prop, Q' (f d) → g d (dwipe δ own) fun δ1 => e δ1 Q' fun _ => False) → Q (ds.map f) → compP own g tYesP e δ ds Q
  | [], Q, _, h => h
  | d :: ds, Q, H, h => by
    simp only [compP, tYesP, if_true]
    exact H d List.mem_cons_self _ (compP_map f ds _ (fun x m => H x (List.mem_cons_of_mem _ m)) h)
theorem compP_filter {own : List Nat} {g : GX} {t : PT} {e : PX} {δ : DE} (p : D → Bool) (f : D → D) : ∀ (ds : List D) (Q : List D → Prop),
    (∀ d ∈ ds, ∀ (Q' : D → Prop) (Q2 : Prop), (p d = true → Q' (f d)) → (p d = false → Q2) → g d (dwipe δ own) fun δ1 => t δ1 (fun b => if b = true then e δ1 Q' (fun _ => False) else Q2) fun _ => False) →
    Q ((ds.filter p).map f) → compP own g t e δ ds Q
  | [], Q, _, h => h
  | d :: ds, Q, H, h => by
    have ih := fun Q h => compP_filter p f ds Q (fun x m => H x (List.mem_cons_of_mem _ m)) h
    refine H d List.mem_cons_self _ _ (fun hp => ih _ ?_) fun hp => ih _ ?_
    · rw [List.filter_cons, hp, if_pos rfl, List.map_cons] at h
      exact h
    · rw [List.filter_cons, hp, if_neg Bool.false_ne_true] at h
      exact h
/-- a comprehension that owns: I, what holds of the names and of what there is behind each element -/
theorem compE_map {own : List Nat} {g : GX} {e : EX} (I : DE → Prop) (R : D → OV → Prop) (hI : ∀ δ, I δ → I (dwipe δ own)) : ∀ (ds : List D) (δ : DE) (Q : List OV → DE → Prop),
    (∀ d ∈ ds, ∀ (δ : DE) (Q' : OV → DE → Prop), I (dwipe δ own) → (∀ o δ', R d o → I δ' → Q' o δ') → g d (dwipe δ own) fun δ1 => e δ1 Q' fun _ _ => False) → I δ →
    (∀ os δ', os.length = ds.length → (∀ (i : Nat) (d : D) (o : OV), ds[i]? = some d → os[i]? = some o → R d o) → I δ' → Q os δ') → compE own g (etP tYesP) e ds δ Q
  | [], δ, Q, _, hδ, h => h [] _ rfl (fun i d o e => by simp at e) (hI δ hδ)
  | d :: ds, δ, Q, H, hδ, h => by
    simp only [compE, etP, tYesP, if_true]
    refine H d List.mem_cons_self δ _ (hI δ hδ) fun o δ' r hδ' => compE_map I R hI ds δ' _ (fun x m => H x (List.mem_cons_of_mem _ m)) hδ' fun os δ2 hl hR h2 => h (o :: os) δ2 (by simp [hl]) (fun i x y e1 e2 => ?_) h2
    cases i with
    | zero =>
      simp at e1 e2
      subst e1 e2
      exact r
    | succ i => exact hR i x y (by simpa using e1) (by simpa using e2)
theorem seq_def {a b : SX} {E : En} {δ : DE} : sSeq a b E δ = a { E with nx := b E } δ := rfl
theorem while_rule {t : ETx} {b : SX} {E : En} {δ : DE} (I : Nat → DE → Prop) (n : Nat) (h : I n δ)
    (st : ∀ n δ, I n δ → t δ (fun c δ1 => if c = true then b { E with nx := fun δ2 => ∃ m, m < n ∧ I m δ2, ct := fun δ2 => ∃ m, m < n ∧ I m δ2, bk := E.nx } δ1 else E.nx δ1) E.ex) : sWhile t b E δ := ⟨I, ⟨n, h⟩, st⟩
theorem forL_step {g : GX} {b : SX} {E : En} {x : D} {xs : List D} {δ : DE} (N : DE → Prop) (hN : N = forL g b E xs) (h : g x δ fun δ1 => b { E with nx := N, ct := N, bk := E.nx } δ1) : forL g b E (x :: xs) δ := by
  subst hN
  exact h
theorem compE_step {own : List Nat} {g : GX} {t : ETx} {e : EX} {x : D} {xs : List D} {δ : DE} {Q : List OV → DE → Prop} (N : (List OV → DE → Prop) → DE → Prop) (hN : N = fun Q δ => compE own g t e xs δ Q)
    (h : g x (dwipe δ own) fun δ1 => t δ1 (fun b δ2 => if b = true then e δ2 (fun y δ3 => N (fun ys δ4 => Q (y :: ys) δ4) δ3) (fun _ _ => False) else N Q δ2) (fun _ _ => False)) : compE own g t e (x :: xs) δ Q := by
  subst hN
  exact h
theorem compE_all {own : List Nat} {g : GX} {e : EX} (I : DE → Prop) (R : OV → Prop) (hI : ∀ δ, I δ → I (dwipe δ own)) : ∀ (ds : List D) (δ : DE) (Q : List OV → DE → Prop),
    (∀ d ∈ ds, ∀ (δ : DE) (Q' : OV → DE → Prop), I (dwipe δ own) → (∀ o δ', R o → I δ' → Q' o δ') → g d (dwipe δ own) fun δ1 => e δ1 Q' fun _ _ => False) → I δ →
    (∀ os δ', os.length = ds.length → (∀ o ∈ os, R o) → I δ' → Q os δ') → compE own g (etP tYesP) e ds δ Q := fun ds δ Q H hδ h =>
  compE_map I (fun _ o => R o) hI ds δ Q H hδ fun os δ' hl hR hδ' => h os δ' hl (fun o m => by
    obtain ⟨i, hi, rfl⟩ := List.mem_iff_getElem.mp m
    exact hR i (ds[i]'(by omega)) _ (by simp) (by simp)) hδ'
theorem all_map {α : Type} {f : α → OV} : ∀ {os : List OV} {P : α → Prop}, (∀ o ∈ os, ∃ a, o = f a ∧ P a) → ∃ l : List α, os = l.map f ∧ l.length = os.length ∧ ∀ a ∈ l, P a
  | [], P, _ => ⟨[], rfl, rfl, by simp⟩
  | o :: os, P, h => by
    obtain ⟨a, rfl, ha⟩ := h o List.mem_cons_self
    obtain ⟨l, rfl, _, hl⟩ := all_map (os := os) fun o m => h o (List.mem_cons_of_mem _ m)
    refine ⟨a :: l, rfl, by simp, fun b m => ?_⟩
    rcases List.mem_cons.mp m with rfl | m
    · exact ha
    · exact hl b m
theorem seq_st {a b : SX} {E : En} {δ : DE} (h : ∀ N : DE → Prop, N = b E → a { E with nx := N } δ) : sSeq a b E δ := h _ rfl
theorem for_st {g : GX} {b : SX} {E : En} {x : D} {xs : List D} {δ : DE} (h : ∀ N : DE → Prop, N = forL g b E xs → g x δ fun δ1 => b { E with nx := N, ct := N, bk := E.nx } δ1) : forL g b E (x :: xs) δ := h _ rfl
theorem comp_st {own : List Nat} {g : GX} {t : ETx} {e : EX} {x : D} {xs : List D} {δ : DE} {Q : List OV → DE → Prop}
    (h : ∀ N : (List OV → DE → Prop) → DE → Prop, (N = fun Q δ => compE own g t e xs δ Q) → g x (dwipe δ own) fun δ1 => t δ1 (fun b δ2 => if b = true then e δ2 (fun y δ3 => N (fun ys δ4 => Q (y :: ys) δ4) δ3) (fun _ _ => False) else N Q δ2) (fun _ _ => False)) : compE own g t e (x :: xs) δ Q := h _ rfl
theorem asg_st {e : EX} {i : Nat} {E : En} {δ : DE} (h : ∀ M : OV → DE → Prop, (M = fun o δ1 => E.nx (dset δ1 i (some o))) → e δ M E.ex) : sAsg e (goN i) E δ := h _ rfl
def fdVoid : FD := fun _ _ _ => False
/-- a def keeps a contract that nobody asks for -/
theorem OkF.void {P : Program} {w : World} {K : PySem.W.Frag} {mg : Str → Option Value} {base : Heap} {k : Nat} {x qual : Str} {params : Arguments} {body : List Stmt} {scope : Scope} {ps : List Str} {n : Nat} {Pf : List Nat} (h : ∃ fd, L2.FunD K x qual params body scope [] [] (He.ga K x) fd)
    (hb : ∀ (kV doc pm : Value) (an : Option Addr) (cdv ct : Value) (us : List Value), us.length = ps.length → bindArgs (PySem.W.fnOf x qual params body scope .none kV doc pm an cdv ct) ⟨us, []⟩ = pure (ps.zip us)) (g : mg x = some (.ref (He.ga K x))) :
    OkF P w K mg base k x ps n Pf fdVoid := by
  obtain ⟨fd, Fd⟩ := h
  exact ⟨⟨fd, Fd.bindsN hb, ⟨fun vs H Q E q => by obtain ⟨_, _, _, _, _, _, _, _, q, _⟩ := q; exact q.elim, fun A outer s H args us vs Q E _ _ _ _ _ q => by obtain ⟨_, _, _, _, _, _, _, _, q, _⟩ := q; exact q.elim⟩⟩, Fd.kp, g⟩
theorem atD_lt {α : Type} (xs : List α) (v : Int) (h0 : 0 ≤ v) (h1 : v < xs.length) : ∃ x, atD xs v = some x ∧ x ∈ xs := by
  have hn : v.toNat < xs.length := by omega
  refine ⟨xs[v.toNat], ?_, List.getElem_mem hn⟩
  unfold atD ixD
  rw [if_pos h0, if_pos h1]
  simp [hn]

/-! ### what may be shown -/
mutual
/-- small ints -/
def sml : D → Bool
  | .int i => decide (i.natAbs < 10 ^ 12)
  | .tup xs => smlL xs
  | .lst xs => smlL xs
  | .non => true | .bl _ => true | .str _ => true | .fn _ => true | .ty _ => true | .pr _ => true | .scr _ => true
def smlL : List D → Bool
  | [] => true
  | x :: xs => sml x && smlL xs
end
mutual
def wgt : D → Nat
  | .str x => x.cps.size
  | .int _ => 40
  | .tup xs => wgtL xs
  | .lst xs => wgtL xs
  | .non => 0 | .bl _ => 0 | .fn _ => 0 | .ty _ => 0 | .pr _ => 0 | .scr _ => 0
def wgtL : List D → Nat
  | [] => 0
  | x :: xs => wgt x + 1 + wgtL xs
end
theorem log_small {i : Int} (h : i.natAbs < 10 ^ 12) : i.natAbs.log2 < 40 := by
  by_cases z : i.natAbs = 0
  · rw [z]
    decide
  · exact (Nat.log2_lt z).mpr (Nat.lt_trans h (by decide))
mutual
theorem sml_py : ∀ d : D, sml d = true → (toPy d).showable = true ∧ (toPy d).intsShort 13 = true ∧ (toPy d).weight ≤ wgt d
  | .non, _ => by simp [toPy, PyData.showable, PyData.intsShort, PyData.weight]
  | .bl _, _ => by simp [toPy, PyData.showable, PyData.intsShort, PyData.weight]
  | .fn _, _ => by simp [toPy, PyData.showable, PyData.intsShort, PyData.weight]
  | .ty _, _ => by simp [toPy, PyData.showable, PyData.intsShort, PyData.weight]
  | .pr _, _ => by simp [toPy, PyData.showable, PyData.intsShort, PyData.weight]
  | .scr _, _ => by simp [toPy, PyData.showable, PyData.intsShort, PyData.weight]
  | .str x, _ => by simp [toPy, PyData.showable, PyData.intsShort, PyData.weight, wgt]
  | .int i, h => by
    have h2 : i.natAbs < 10 ^ 12 := by simpa [sml] using h
    have h3 := log_small h2
    refine ⟨by simp only [toPy, PyData.showable, decide_eq_true_eq]; omega, by simp only [toPy, PyData.intsShort, decide_eq_true_eq]; exact PyData.shown_int_le h2, ?_⟩
    simp only [toPy, PyData.weight, wgt]
    split <;> omega
  | .tup xs, h => by
    obtain ⟨a, b, c⟩ := smlL_py xs (by simpa [sml] using h)
    exact ⟨by simpa only [toPy, PyData.showable] using a, by simpa only [toPy, PyData.intsShort] using b, by simpa only [toPy, PyData.weight, wgt] using c⟩
  | .lst xs, h => by
    obtain ⟨a, b, c⟩ := smlL_py xs (by simpa [sml] using h)
    exact ⟨by simpa only [toPy, PyData.showable] using a, by simpa only [toPy, PyData.intsShort] using b, by simpa only [toPy, PyData.weight, wgt] using c⟩
theorem smlL_py : ∀ ds : List D, smlL ds = true → PyData.showableAll (toPyL ds) = true ∧ PyData.intsShortAll 13 (toPyL ds) = true ∧ PyData.weightAll (toPyL ds) ≤ wgtL ds
  | [], _ => by simp [toPyL, PyData.showableAll, PyData.intsShortAll, PyData.weightAll]
  | x :: xs, h => by
    simp only [smlL, Bool.and_eq_true] at h
    obtain ⟨a, b, c⟩ := sml_py x h.1
    obtain ⟨a2, b2, c2⟩ := smlL_py xs h.2
    refine ⟨by simp only [toPyL, PyData.showableAll, a, a2, Bool.and_self], by simp only [toPyL, PyData.intsShortAll, b, b2, Bool.and_self], ?_⟩
    simp only [toPyL, PyData.weightAll, wgtL]
    omega
end
theorem reprOk_of {d : D} (h : cmpOk d) (hs : sml d = true) (hw : wgt d ≤ 1048576) : reprOk d := by
  obtain ⟨a, b, c⟩ := sml_py d hs
  refine ⟨h, a, Nat.le_trans (PyProof.Rows.shown_le13 (d := toPy d) ?_ b) (by decide)⟩
  unfold PyData.layable0
  rw [lay_py d h.1, dep_py]
  simp only [Bool.true_and, Bool.and_eq_true, decide_eq_true_eq]
  have := h.2
  exact ⟨this, Nat.le_trans c (by simpa using hw)⟩
theorem ints_okL : ∀ l : List Int, okL (l.map D.int) = true
  | [] => rfl
  | i :: l => by simp [okL, okd, ints_okL l]
theorem ints_depL : ∀ l : List Int, depL (l.map D.int) = 0
  | [] => rfl
  | i :: l => by simp [depL, dep, ints_depL l]
theorem ints_wgtL : ∀ l : List Int, wgtL (l.map D.int) = 41 * l.length
  | [] => rfl
  | i :: l => by
    simp only [List.map_cons, wgtL, wgt, ints_wgtL l, List.length_cons]
    omega
theorem ints_smlL : ∀ l : List Int, (∀ i ∈ l, i.natAbs < 10 ^ 12) → smlL (l.map D.int) = true
  | [], _ => rfl
  | i :: l, h => by simp only [List.map_cons, smlL, sml, Bool.and_eq_true, decide_eq_true_eq]; exact ⟨h i List.mem_cons_self, ints_smlL l fun j m => h j (List.mem_cons_of_mem _ m)⟩
end DL
namespace G66
open PySem DL PyProof.Rows

/-! ### the text -/
def top (i : Nat) : Stmt := PySem.Challenge.pw_validpages_k66_straight_templates_and_wo.main.body.getD i (.Pass ⟨0, 0, 0, 0⟩)
abbrev prog : Program := PySem.Challenge.rw_validpages_k66_straight_templates_and_wo.prog
def d__wall : He.DefD := ⟨("_wall", none), "_wall", "_wall", L2.defArgs (top 0), L2.defBody (top 0), L2.defScope (top 0), [], []⟩
def d_inner_parts : He.DefD := ⟨("inner_parts", none), "inner_parts", "inner_parts", L2.defArgs (top 5), L2.defBody (top 5), L2.defScope (top 5), [], []⟩
def d_nodes_of : He.DefD := ⟨("nodes_of", none), "nodes_of", "nodes_of", L2.defArgs (top 6), L2.defBody (top 6), L2.defScope (top 6), [], []⟩
def d_rule_of : He.DefD := ⟨("rule_of", none), "rule_of", "rule_of", L2.defArgs (top 7), L2.defBody (top 7), L2.defScope (top 7), [], []⟩
def d_parts_in : He.DefD := ⟨("parts_in", none), "parts_in", "parts_in", L2.defArgs (top 8), L2.defBody (top 8), L2.defScope (top 8), [], []⟩
def d_is_straight_rule : He.DefD := ⟨("is_straight_rule", none), "is_straight_rule", "is_straight_rule", L2.defArgs (top 13), L2.defBody (top 13), L2.defScope (top 13), [], []⟩
def d_is_straight : He.DefD := ⟨("is_straight", none), "is_straight", "is_straight", L2.defArgs (top 14), L2.defBody (top 14), L2.defScope (top 14), [], []⟩
def d_word_of : He.DefD := ⟨("word_of", none), "word_of", "word_of", L2.defArgs (top 15), L2.defBody (top 15), L2.defScope (top 15), [], []⟩
def d_rule_words : He.DefD := ⟨("rule_words", none), "rule_words", "rule_words", L2.defArgs (top 16), L2.defBody (top 16), L2.defScope (top 16), [], []⟩
def d_times : He.DefD := ⟨("times", none), "times", "times", L2.defArgs (top 17), L2.defBody (top 17), L2.defScope (top 17), [], []⟩
def d_letter_matrix : He.DefD := ⟨("letter_matrix", none), "letter_matrix", "letter_matrix", L2.defArgs (top 18), L2.defBody (top 18), L2.defScope (top 18), [], []⟩
def d_word_matrix : He.DefD := ⟨("word_matrix", none), "word_matrix", "word_matrix", L2.defArgs (top 19), L2.defBody (top 19), L2.defScope (top 19), [], []⟩
def d__law_bag : He.DefD := ⟨("_law_bag", none), "_law_bag", "_law_bag", L2.defArgs (top 21), L2.defBody (top 21), L2.defScope (top 21), [], []⟩
def d__law_take : He.DefD := ⟨("_law_take", none), "_law_take", "_law_take", L2.defArgs (top 22), L2.defBody (top 22), L2.defScope (top 22), [], []⟩
def d__law_some : He.DefD := ⟨("_law_some", none), "_law_some", "_law_some", L2.defArgs (top 23), L2.defBody (top 23), L2.defScope (top 23), [], []⟩
def d__law_mixed : He.DefD := ⟨("_law_mixed", none), "_law_mixed", "_law_mixed", L2.defArgs (top 24), L2.defBody (top 24), L2.defScope (top 24), [], []⟩
def d__law_alike : He.DefD := ⟨("_law_alike", none), "_law_alike", "_law_alike", L2.defArgs (top 25), L2.defBody (top 25), L2.defScope (top 25), [], []⟩
def d__law_tree : He.DefD := ⟨("_law_tree", none), "_law_tree", "_law_tree", L2.defArgs (top 26), L2.defBody (top 26), L2.defScope (top 26), [], []⟩
def d__law_flat : He.DefD := ⟨("_law_flat", none), "_law_flat", "_law_flat", L2.defArgs (top 27), L2.defBody (top 27), L2.defScope (top 27), [], []⟩
def d__law_tags : He.DefD := ⟨("_law_tags", none), "_law_tags", "_law_tags", L2.defArgs (top 28), L2.defBody (top 28), L2.defScope (top 28), [], []⟩
def d__law_test : He.DefD := ⟨("_law_test", none), "_law_test", "_law_test", L2.defArgs (top 29), L2.defBody (top 29), L2.defScope (top 29), [], []⟩
def d__law_parts : He.DefD := ⟨("_law_parts", none), "_law_parts", "_law_parts", L2.defArgs (top 30), L2.defBody (top 30), L2.defScope (top 30), [], []⟩
def d__law_template : He.DefD := ⟨("_law_template", none), "_law_template", "_law_template", L2.defArgs (top 31), L2.defBody (top 31), L2.defScope (top 31), [], []⟩
def d__law_many : He.DefD := ⟨("_law_many", none), "_law_many", "_law_many", L2.defArgs (top 32), L2.defBody (top 32), L2.defScope (top 32), [], []⟩
def d__law_many_tests : He.DefD := ⟨("_law_many_tests", none), "_law_many_tests", "_law_many_tests", L2.defArgs (top 33), L2.defBody (top 33), L2.defScope (top 33), [], []⟩
def d__law_all_parts : He.DefD := ⟨("_law_all_parts", none), "_law_all_parts", "_law_all_parts", L2.defArgs (top 34), L2.defBody (top 34), L2.defScope (top 34), [], []⟩
def d__law_straight : He.DefD := ⟨("_law_straight", none), "_law_straight", "_law_straight", L2.defArgs (top 35), L2.defBody (top 35), L2.defScope (top 35), [], []⟩
def d__law_heard : He.DefD := ⟨("_law_heard", none), "_law_heard", "_law_heard", L2.defArgs (top 36), L2.defBody (top 36), L2.defScope (top 36), [], []⟩
def d__law_word : He.DefD := ⟨("_law_word", none), "_law_word", "_law_word", L2.defArgs (top 37), L2.defBody (top 37), L2.defScope (top 37), [], []⟩
def d__law_times : He.DefD := ⟨("_law_times", none), "_law_times", "_law_times", L2.defArgs (top 38), L2.defBody (top 38), L2.defScope (top 38), [], []⟩
def d__law_matrix : He.DefD := ⟨("_law_matrix", none), "_law_matrix", "_law_matrix", L2.defArgs (top 39), L2.defBody (top 39), L2.defScope (top 39), [], []⟩
def d__law_words : He.DefD := ⟨("_law_words", none), "_law_words", "_law_words", L2.defArgs (top 40), L2.defBody (top 40), L2.defScope (top 40), [], []⟩
def d_law : He.DefD := ⟨("law", none), "law", "law", L2.defArgs (top 41), L2.defBody (top 41), L2.defScope (top 41), [], []⟩
abbrev P__wall : List Str := ["k"]
abbrev P_inner_parts : List Str := ["part"]
abbrev P_nodes_of : List Str := ["some", "inner"]
abbrev P_rule_of : List Str := ["template", "mode", "tag"]
abbrev P_parts_in : List Str := ["parts"]
abbrev P_is_straight_rule : List Str := ["parts"]
abbrev P_is_straight : List Str := ["template"]
abbrev P_word_of : List Str := ["tags", "row"]
abbrev P_rule_words : List Str := ["tags", "template", "mode", "tag"]
abbrev P_times : List Str := ["one", "other"]
abbrev P_letter_matrix : List Str := ["letter"]
abbrev P_word_matrix : List Str := ["word"]
abbrev P__law_bag : List Str := ["script"]
abbrev P__law_take : List Str := ["bag", "many"]
abbrev P__law_some : List Str := ["bag", "things"]
abbrev P__law_mixed : List Str := ["bag", "things"]
abbrev P__law_alike : List Str := ["found", "due"]
abbrev P__law_tree : List Str := ["bag", "tags", "deep"]
abbrev P__law_flat : List Str := ["trees"]
abbrev P__law_tags : List Str := ["bag", "tags"]
abbrev P__law_test : List Str := ["bag", "tags", "deep"]
abbrev P__law_parts : List Str := ["bag", "kit", "deep"]
abbrev P__law_template : List Str := ["bag", "tags"]
abbrev P__law_many : List Str := ["parts"]
abbrev P__law_many_tests : List Str := ["test"]
abbrev P__law_all_parts : List Str := ["parts"]
abbrev P__law_straight : List Str := ["bag", "tags"]
abbrev P__law_heard : List Str := ["act"]
abbrev P__law_word : List Str := ["tags", "trees"]
abbrev P__law_times : List Str := ["one", "other"]
abbrev P__law_matrix : List Str := ["word"]
abbrev P__law_words : List Str := ["tags", "parts"]
abbrev P_law : List Str := ["script"]
def fn : List He.DefD := [d__wall, d_inner_parts, d_nodes_of, d_rule_of, d_parts_in, d_is_straight_rule, d_is_straight, d_word_of, d_rule_words, d_times, d_letter_matrix, d_word_matrix, d__law_bag, d__law_take, d__law_some, d__law_mixed, d__law_alike, d__law_tree, d__law_flat, d__law_tags, d__law_test, d__law_parts, d__law_template, d__law_many, d__law_many_tests, d__law_all_parts, d__law_straight, d__law_heard, d__law_word, d__law_times, d__law_matrix, d__law_words, d_law]
def fa : List He.Fa := [.glo "_wall", .glo "inner_parts", .glo "nodes_of", .glo "rule_of", .glo "parts_in", .glo "is_straight_rule", .glo "is_straight", .glo "word_of", .glo "rule_words", .glo "times", .glo "letter_matrix", .glo "word_matrix", .glo "_law_bag", .glo "_law_take", .glo "_law_some", .glo "_law_mixed", .glo "_law_alike", .glo "_law_tree", .glo "_law_flat", .glo "_law_tags", .glo "_law_test", .glo "_law_parts", .glo "_law_template", .glo "_law_many", .glo "_law_many_tests", .glo "_law_all_parts", .glo "_law_straight", .glo "_law_heard", .glo "_law_word", .glo "_law_times", .glo "_law_matrix", .glo "_law_words", .glo "law", .glo "Nothing", .free "abs", .free "all", .free "any", .free "enumerate", .free "int", .free "isinstance", .free "len", .free "list", .free "range", .free "repr", .free "str", .free "sum", .free "tuple", .exc "Nothing", .exm "Nothing" "Nothing" true]
def k_ONE : D := (.tup [(.int 1), (.int 0), (.int 0), (.int 1)])
def k_UP : D := (.tup [(.int 1), (.int 1), (.int 0), (.int 1)])
def k_DOWN : D := (.tup [(.int 1), (.int 0), (.int 1), (.int 1)])
def ex (K : PySem.W.Frag) : Bool := gcB K "ONE" k_ONE && gcB K "UP" k_UP && gcB K "DOWN" k_DOWN
/-- what the head tells -/
structure Fx (K : PySem.W.Frag) (mg : Str → Option Value) (base : Heap) : Prop where
  kin : K.In base
  ns : base.Ns mainGlobals mg
  says : He.SaysD fa fn K
  ex : ex K = true
section
variable {w : World} {K : PySem.W.Frag} {mg : Str → Option Value} {base : Heap}
theorem g__wall (G : Fx K mg base) : mg "_wall" = some (.ref (He.ga K "_wall")) := He.glo_ok G.kin G.ns (G.says.fact 0)
theorem g_inner_parts (G : Fx K mg base) : mg "inner_parts" = some (.ref (He.ga K "inner_parts")) := He.glo_ok G.kin G.ns (G.says.fact 1)
theorem g_nodes_of (G : Fx K mg base) : mg "nodes_of" = some (.ref (He.ga K "nodes_of")) := He.glo_ok G.kin G.ns (G.says.fact 2)
theorem g_rule_of (G : Fx K mg base) : mg "rule_of" = some (.ref (He.ga K "rule_of")) := He.glo_ok G.kin G.ns (G.says.fact 3)
theorem g_parts_in (G : Fx K mg base) : mg "parts_in" = some (.ref (He.ga K "parts_in")) := He.glo_ok G.kin G.ns (G.says.fact 4)
theorem g_is_straight_rule (G : Fx K mg base) : mg "is_straight_rule" = some (.ref (He.ga K "is_straight_rule")) := He.glo_ok G.kin G.ns (G.says.fact 5)
theorem g_is_straight (G : Fx K mg base) : mg "is_straight" = some (.ref (He.ga K "is_straight")) := He.glo_ok G.kin G.ns (G.says.fact 6)
theorem g_word_of (G : Fx K mg base) : mg "word_of" = some (.ref (He.ga K "word_of")) := He.glo_ok G.kin G.ns (G.says.fact 7)
theorem g_rule_words (G : Fx K mg base) : mg "rule_words" = some (.ref (He.ga K "rule_words")) := He.glo_ok G.kin G.ns (G.says.fact 8)
theorem g_times (G : Fx K mg base) : mg "times" = some (.ref (He.ga K "times")) := He.glo_ok G.kin G.ns (G.says.fact 9)
theorem g_letter_matrix (G : Fx K mg base) : mg "letter_matrix" = some (.ref (He.ga K "letter_matrix")) := He.glo_ok G.kin G.ns (G.says.fact 10)
theorem g_word_matrix (G : Fx K mg base) : mg "word_matrix" = some (.ref (He.ga K "word_matrix")) := He.glo_ok G.kin G.ns (G.says.fact 11)
theorem g__law_bag (G : Fx K mg base) : mg "_law_bag" = some (.ref (He.ga K "_law_bag")) := He.glo_ok G.kin G.ns (G.says.fact 12)
theorem g__law_take (G : Fx K mg base) : mg "_law_take" = some (.ref (He.ga K "_law_take")) := He.glo_ok G.kin G.ns (G.says.fact 13)
theorem g__law_some (G : Fx K mg base) : mg "_law_some" = some (.ref (He.ga K "_law_some")) := He.glo_ok G.kin G.ns (G.says.fact 14)
theorem g__law_mixed (G : Fx K mg base) : mg "_law_mixed" = some (.ref (He.ga K "_law_mixed")) := He.glo_ok G.kin G.ns (G.says.fact 15)
theorem g__law_alike (G : Fx K mg base) : mg "_law_alike" = some (.ref (He.ga K "_law_alike")) := He.glo_ok G.kin G.ns (G.says.fact 16)
theorem g__law_tree (G : Fx K mg base) : mg "_law_tree" = some (.ref (He.ga K "_law_tree")) := He.glo_ok G.kin G.ns (G.says.fact 17)
theorem g__law_flat (G : Fx K mg base) : mg "_law_flat" = some (.ref (He.ga K "_law_flat")) := He.glo_ok G.kin G.ns (G.says.fact 18)
theorem g__law_tags (G : Fx K mg base) : mg "_law_tags" = some (.ref (He.ga K "_law_tags")) := He.glo_ok G.kin G.ns (G.says.fact 19)
theorem g__law_test (G : Fx K mg base) : mg "_law_test" = some (.ref (He.ga K "_law_test")) := He.glo_ok G.kin G.ns (G.says.fact 20)
theorem g__law_parts (G : Fx K mg base) : mg "_law_parts" = some (.ref (He.ga K "_law_parts")) := He.glo_ok G.kin G.ns (G.says.fact 21)
theorem g__law_template (G : Fx K mg base) : mg "_law_template" = some (.ref (He.ga K "_law_template")) := He.glo_ok G.kin G.ns (G.says.fact 22)
theorem g__law_many (G : Fx K mg base) : mg "_law_many" = some (.ref (He.ga K "_law_many")) := He.glo_ok G.kin G.ns (G.says.fact 23)
theorem g__law_many_tests (G : Fx K mg base) : mg "_law_many_tests" = some (.ref (He.ga K "_law_many_tests")) := He.glo_ok G.kin G.ns (G.says.fact 24)
theorem g__law_all_parts (G : Fx K mg base) : mg "_law_all_parts" = some (.ref (He.ga K "_law_all_parts")) := He.glo_ok G.kin G.ns (G.says.fact 25)
theorem g__law_straight (G : Fx K mg base) : mg "_law_straight" = some (.ref (He.ga K "_law_straight")) := He.glo_ok G.kin G.ns (G.says.fact 26)
theorem g__law_heard (G : Fx K mg base) : mg "_law_heard" = some (.ref (He.ga K "_law_heard")) := He.glo_ok G.kin G.ns (G.says.fact 27)
theorem g__law_word (G : Fx K mg base) : mg "_law_word" = some (.ref (He.ga K "_law_word")) := He.glo_ok G.kin G.ns (G.says.fact 28)
theorem g__law_times (G : Fx K mg base) : mg "_law_times" = some (.ref (He.ga K "_law_times")) := He.glo_ok G.kin G.ns (G.says.fact 29)
theorem g__law_matrix (G : Fx K mg base) : mg "_law_matrix" = some (.ref (He.ga K "_law_matrix")) := He.glo_ok G.kin G.ns (G.says.fact 30)
theorem g__law_words (G : Fx K mg base) : mg "_law_words" = some (.ref (He.ga K "_law_words")) := He.glo_ok G.kin G.ns (G.says.fact 31)
theorem g_law (G : Fx K mg base) : mg "law" = some (.ref (He.ga K "law")) := He.glo_ok G.kin G.ns (G.says.fact 32)
theorem g_Nothing (G : Fx K mg base) : mg "Nothing" = some (.ref (He.ga K "Nothing")) := He.glo_ok G.kin G.ns (G.says.fact 33)
theorem f_abs (G : Fx K mg base) : mg "abs" = none := He.free_ok G.kin G.ns (G.says.fact 34)
theorem f_all (G : Fx K mg base) : mg "all" = none := He.free_ok G.kin G.ns (G.says.fact 35)
theorem f_any (G : Fx K mg base) : mg "any" = none := He.free_ok G.kin G.ns (G.says.fact 36)
theorem f_enumerate (G : Fx K mg base) : mg "enumerate" = none := He.free_ok G.kin G.ns (G.says.fact 37)
theorem f_int (G : Fx K mg base) : mg "int" = none := He.free_ok G.kin G.ns (G.says.fact 38)
theorem f_isinstance (G : Fx K mg base) : mg "isinstance" = none := He.free_ok G.kin G.ns (G.says.fact 39)
theorem f_len (G : Fx K mg base) : mg "len" = none := He.free_ok G.kin G.ns (G.says.fact 40)
theorem f_list (G : Fx K mg base) : mg "list" = none := He.free_ok G.kin G.ns (G.says.fact 41)
theorem f_range (G : Fx K mg base) : mg "range" = none := He.free_ok G.kin G.ns (G.says.fact 42)
theorem f_repr (G : Fx K mg base) : mg "repr" = none := He.free_ok G.kin G.ns (G.says.fact 43)
theorem f_str (G : Fx K mg base) : mg "str" = none := He.free_ok G.kin G.ns (G.says.fact 44)
theorem f_sum (G : Fx K mg base) : mg "sum" = none := He.free_ok G.kin G.ns (G.says.fact 45)
theorem f_tuple (G : Fx K mg base) : mg "tuple" = none := He.free_ok G.kin G.ns (G.says.fact 46)
theorem x_Nothing (G : Fx K mg base) : (He.Fa.exc "Nothing").ok K = true := G.says.fact 47
def cl_Nothing : Str → Option Bool := fun y => if y = "Nothing" then some true else none
theorem cl_Nothing_ok (G : Fx K mg base) : ∀ (y : Str) (b : Bool), cl_Nothing y = some b → PySem.W.exmOne K (.ref (He.ga K y)) (.ref (He.ga K "Nothing")) = some b := fun y b e => by
  unfold cl_Nothing at e
  split at e
  · rename_i h
    subst h
    cases e
    exact He.exm_ok (G.says.fact 48)
  · cases e
theorem c_ONE (G : Fx K mg base) : ∃ u v, mg "ONE" = some u ∧ L2.RelV v u ∧ ∀ H Z, Df K H Z v k_ONE := gcB_ok G.kin G.ns (He.ba (He.ba G.ex).1).1
theorem c_UP (G : Fx K mg base) : ∃ u v, mg "UP" = some u ∧ L2.RelV v u ∧ ∀ H Z, Df K H Z v k_UP := gcB_ok G.kin G.ns (He.ba (He.ba G.ex).1).2
theorem c_DOWN (G : Fx K mg base) : ∃ u v, mg "DOWN" = some u ∧ L2.RelV v u ∧ ∀ H Z, Df K H Z v k_DOWN := gcB_ok G.kin G.ns (He.ba G.ex).2
theorem D__wall (G : Fx K mg base) : ∃ fd, L2.FunD K "_wall" "_wall" d__wall.params d__wall.body d__wall.scope [] [] (He.ga K "_wall") fd := G.says.def_ 0
theorem D_inner_parts (G : Fx K mg base) : ∃ fd, L2.FunD K "inner_parts" "inner_parts" d_inner_parts.params d_inner_parts.body d_inner_parts.scope [] [] (He.ga K "inner_parts") fd := G.says.def_ 1
theorem D_nodes_of (G : Fx K mg base) : ∃ fd, L2.FunD K "nodes_of" "nodes_of" d_nodes_of.params d_nodes_of.body d_nodes_of.scope [] [] (He.ga K "nodes_of") fd := G.says.def_ 2
theorem D_rule_of (G : Fx K mg base) : ∃ fd, L2.FunD K "rule_of" "rule_of" d_rule_of.params d_rule_of.body d_rule_of.scope [] [] (He.ga K "rule_of") fd := G.says.def_ 3
theorem D_parts_in (G : Fx K mg base) : ∃ fd, L2.FunD K "parts_in" "parts_in" d_parts_in.params d_parts_in.body d_parts_in.scope [] [] (He.ga K "parts_in") fd := G.says.def_ 4
theorem D_is_straight_rule (G : Fx K mg base) : ∃ fd, L2.FunD K "is_straight_rule" "is_straight_rule" d_is_straight_rule.params d_is_straight_rule.body d_is_straight_rule.scope [] [] (He.ga K "is_straight_rule") fd := G.says.def_ 5
theorem D_is_straight (G : Fx K mg base) : ∃ fd, L2.FunD K "is_straight" "is_straight" d_is_straight.params d_is_straight.body d_is_straight.scope [] [] (He.ga K "is_straight") fd := G.says.def_ 6
theorem D_word_of (G : Fx K mg base) : ∃ fd, L2.FunD K "word_of" "word_of" d_word_of.params d_word_of.body d_word_of.scope [] [] (He.ga K "word_of") fd := G.says.def_ 7
theorem D_rule_words (G : Fx K mg base) : ∃ fd, L2.FunD K "rule_words" "rule_words" d_rule_words.params d_rule_words.body d_rule_words.scope [] [] (He.ga K "rule_words") fd := G.says.def_ 8
theorem D_times (G : Fx K mg base) : ∃ fd, L2.FunD K "times" "times" d_times.params d_times.body d_times.scope [] [] (He.ga K "times") fd := G.says.def_ 9
theorem D_letter_matrix (G : Fx K mg base) : ∃ fd, L2.FunD K "letter_matrix" "letter_matrix" d_letter_matrix.params d_letter_matrix.body d_letter_matrix.scope [] [] (He.ga K "letter_matrix") fd := G.says.def_ 10
theorem D_word_matrix (G : Fx K mg base) : ∃ fd, L2.FunD K "word_matrix" "word_matrix" d_word_matrix.params d_word_matrix.body d_word_matrix.scope [] [] (He.ga K "word_matrix") fd := G.says.def_ 11
theorem D__law_bag (G : Fx K mg base) : ∃ fd, L2.FunD K "_law_bag" "_law_bag" d__law_bag.params d__law_bag.body d__law_bag.scope [] [] (He.ga K "_law_bag") fd := G.says.def_ 12
theorem D__law_take (G : Fx K mg base) : ∃ fd, L2.FunD K "_law_take" "_law_take" d__law_take.params d__law_take.body d__law_take.scope [] [] (He.ga K "_law_take") fd := G.says.def_ 13
theorem D__law_some (G : Fx K mg base) : ∃ fd, L2.FunD K "_law_some" "_law_some" d__law_some.params d__law_some.body d__law_some.scope [] [] (He.ga K "_law_some") fd := G.says.def_ 14
theorem D__law_mixed (G : Fx K mg base) : ∃ fd, L2.FunD K "_law_mixed" "_law_mixed" d__law_mixed.params d__law_mixed.body d__law_mixed.scope [] [] (He.ga K "_law_mixed") fd := G.says.def_ 15
theorem D__law_alike (G : Fx K mg base) : ∃ fd, L2.FunD K "_law_alike" "_law_alike" d__law_alike.params d__law_alike.body d__law_alike.scope [] [] (He.ga K "_law_alike") fd := G.says.def_ 16
theorem D__law_tree (G : Fx K mg base) : ∃ fd, L2.FunD K "_law_tree" "_law_tree" d__law_tree.params d__law_tree.body d__law_tree.scope [] [] (He.ga K "_law_tree") fd := G.says.def_ 17
theorem D__law_flat (G : Fx K mg base) : ∃ fd, L2.FunD K "_law_flat" "_law_flat" d__law_flat.params d__law_flat.body d__law_flat.scope [] [] (He.ga K "_law_flat") fd := G.says.def_ 18
theorem D__law_tags (G : Fx K mg base) : ∃ fd, L2.FunD K "_law_tags" "_law_tags" d__law_tags.params d__law_tags.body d__law_tags.scope [] [] (He.ga K "_law_tags") fd := G.says.def_ 19
theorem D__law_test (G : Fx K mg base) : ∃ fd, L2.FunD K "_law_test" "_law_test" d__law_test.params d__law_test.body d__law_test.scope [] [] (He.ga K "_law_test") fd := G.says.def_ 20
theorem D__law_parts (G : Fx K mg base) : ∃ fd, L2.FunD K "_law_parts" "_law_parts" d__law_parts.params d__law_parts.body d__law_parts.scope [] [] (He.ga K "_law_parts") fd := G.says.def_ 21
theorem D__law_template (G : Fx K mg base) : ∃ fd, L2.FunD K "_law_template" "_law_template" d__law_template.params d__law_template.body d__law_template.scope [] [] (He.ga K "_law_template") fd := G.says.def_ 22
theorem D__law_many (G : Fx K mg base) : ∃ fd, L2.FunD K "_law_many" "_law_many" d__law_many.params d__law_many.body d__law_many.scope [] [] (He.ga K "_law_many") fd := G.says.def_ 23
theorem D__law_many_tests (G : Fx K mg base) : ∃ fd, L2.FunD K "_law_many_tests" "_law_many_tests" d__law_many_tests.params d__law_many_tests.body d__law_many_tests.scope [] [] (He.ga K "_law_many_tests") fd := G.says.def_ 24
theorem D__law_all_parts (G : Fx K mg base) : ∃ fd, L2.FunD K "_law_all_parts" "_law_all_parts" d__law_all_parts.params d__law_all_parts.body d__law_all_parts.scope [] [] (He.ga K "_law_all_parts") fd := G.says.def_ 25
theorem D__law_straight (G : Fx K mg base) : ∃ fd, L2.FunD K "_law_straight" "_law_straight" d__law_straight.params d__law_straight.body d__law_straight.scope [] [] (He.ga K "_law_straight") fd := G.says.def_ 26
theorem D__law_heard (G : Fx K mg base) : ∃ fd, L2.FunD K "_law_heard" "_law_heard" d__law_heard.params d__law_heard.body d__law_heard.scope [] [] (He.ga K "_law_heard") fd := G.says.def_ 27
theorem D__law_word (G : Fx K mg base) : ∃ fd, L2.FunD K "_law_word" "_law_word" d__law_word.params d__law_word.body d__law_word.scope [] [] (He.ga K "_law_word") fd := G.says.def_ 28
theorem D__law_times (G : Fx K mg base) : ∃ fd, L2.FunD K "_law_times" "_law_times" d__law_times.params d__law_times.body d__law_times.scope [] [] (He.ga K "_law_times") fd := G.says.def_ 29
theorem D__law_matrix (G : Fx K mg base) : ∃ fd, L2.FunD K "_law_matrix" "_law_matrix" d__law_matrix.params d__law_matrix.body d__law_matrix.scope [] [] (He.ga K "_law_matrix") fd := G.says.def_ 30
theorem D__law_words (G : Fx K mg base) : ∃ fd, L2.FunD K "_law_words" "_law_words" d__law_words.params d__law_words.body d__law_words.scope [] [] (He.ga K "_law_words") fd := G.says.def_ 31
theorem D_law (G : Fx K mg base) : ∃ fd, L2.FunD K "law" "law" d_law.params d_law.body d_law.scope [] [] (He.ga K "law") fd := G.says.def_ 32
theorem hs__law_heard : L2.FnScope P__law_heard P__law_heard (L2.defScope (top 36)) := ⟨rfl, rfl, rfl, by decide +kernel, rfl, by decide +kernel, by decide +kernel⟩
theorem hd__law_heard (G : Fx K mg base) : Heard K mg "_law_heard" "act" "Nothing" "told" "nothing" := by
  obtain ⟨fd, Fd⟩ := D__law_heard G
  exact ⟨⟨_, _, fd, ["act"], _, _, _, _, _, _, _, _, _, _, _, _, _, _, _, Fd, Fd.bindsN (fun _ _ _ _ _ _ us hl => match us, hl with | [_], _ => rfl), hs__law_heard, rfl, .inl rfl, rfl⟩, g__law_heard G, g_Nothing G⟩
end
/-! ### inner_parts -/
abbrev N_inner_parts : List Str := ["part"]
def s_inner_parts : SX := (sSeq (sIf (etP (tB (pOp opEq (pOp opIx (pVar 0) (pC (.int 0))) (pC (.str "page")))))
    (sRet (eRd (pthS (pth0 0) (pC (.int 2)))))
    sNext)
    (sRet (eIf (etP (tB (pOp opEq (pOp opIx (pVar 0) (pC (.int 0))) (pC (.str "if"))))) (eZ (pOp opAdd (pOp opIx (pVar 0) (pC (.int 2))) (pOp opIx (pVar 0) (pC (.int 3))))) (eTup eaNil))))
theorem sc_inner_parts : L2.FnScope N_inner_parts P_inner_parts (L2.defScope (top 5)) := ⟨rfl, rfl, rfl, by decide +kernel, rfl, by decide +kernel, by decide +kernel⟩
section
variable {w : World} {K : PySem.W.Frag} {mg : Str → Option Value} {base : Heap} {k : Nat}
theorem b_inner_parts (G : Fx K mg base) {cdv : Value} {A : Around} {outer : List Env} {s : Shared} {H : Hp} {E : L2.XK} {W : WX} (hg : A.guards = some []) (hr : L2.Room k (A.deeper (envOfC "inner_parts" (L2.defScope (top 5)) s.heap.objs.size (He.ga K "inner_parts") cdv))) (tk : L2.Takes (L2.cxOf (L2.CX prog w) prog w K mg base N_inner_parts "inner_parts" (L2.defScope (top 5)) (He.ga K "inner_parts") cdv A outer s H E) W) :
    Ss (L2.cxOf (L2.CX prog w) prog w K mg base N_inner_parts "inner_parts" (L2.defScope (top 5)) (He.ga K "inner_parts") cdv A outer s H E) W [] true (L2.defBody (top 5)) (s_inner_parts) := by
  have C : Ct (L2.cxOf (L2.CX prog w) prog w K mg base N_inner_parts "inner_parts" (L2.defScope (top 5)) (He.ga K "inner_parts") cdv A outer s H E) W k := ⟨hr, hg, tk, rfl, sc_inner_parts.nd⟩
  have po : Po (L2.cxOf (L2.CX prog w) prog w K mg base N_inner_parts "inner_parts" (L2.defScope (top 5)) (He.ga K "inner_parts") cdv A outer s H E) := L2.passes_of rfl
  exact (zCons (zIf (uP (tCmp (kEq C) (xIx (xV 0) xInt) xStr))
    (zOne (zRet (yRd (hIx (hV 0) xInt))))
    zNil)
    (zOne (zRet (yIf (uP (tCmp (kEq C) (xIx (xV 0) xInt) xStr)) (yZ (xOp oAdd (xIx (xV 0) xInt) (xIx (xV 0) xInt))) (yTup bNil)))))
theorem ok_inner_parts (G : Fx K mg base) {F : FD} (vc : ∀ os Qd Xd, os.length = 1 → F os Qd Xd → s_inner_parts (fnEn [] Qd Xd) (startD 1 os)) : OkF prog w K mg base (k + 1) "inner_parts" P_inner_parts 1 [] F := by
  obtain ⟨fd, Fd⟩ := D_inner_parts G
  exact ⟨⟨fd, Fd.bindsN (fun _ _ _ _ _ _ us hl => match us, hl with | [_], _ => rfl), fn_data Fd sc_inner_parts rfl (by decide) (by decide) vc (fun _ => oS_s) fun cdv A outer s H E W hg hr tk => b_inner_parts G hg hr tk⟩, Fd.kp, g_inner_parts G⟩
theorem no_inner_parts (G : Fx K mg base) : OkF prog w K mg base k "inner_parts" P_inner_parts 1 [] fdVoid := .void (D_inner_parts G) (fun _ _ _ _ _ _ us hl => match us, hl with | [_], _ => rfl) (g_inner_parts G)
end
/-! ### nodes_of -/
abbrev N_nodes_of : List Str := ["some", "inner", "found", "waiting", "one", "around", "its"]
def eo1_nodes_of (F_inner_parts : FD) (a_inner_parts : Nat) : EX := (eTup (eaCons (eFr 4) (eaCons (eZ (pC (.int 0))) eaNil)))
def eo2_nodes_of (F_inner_parts : FD) (a_inner_parts : Nat) : EX := (eTup (eaCons (eFr 6) (eaCons (eZ (pOp opAdd (pVar 5) (pC (.int 1)))) eaNil)))
def wt1_nodes_of (F_inner_parts : FD) (a_inner_parts : Nat) : ETx := (etP (tTru (pVar 3)))
def L1_nodes_of (F_inner_parts : FD) (a_inner_parts : Nat) : SX := (sSeq (sAsg (ePop 3) (goT (gT 2 (gsCons (gN 4) (gsCons (gN 5) gsNil)))))
    (sSeq (sApp 2 (eTup (eaCons (eFr 4) (eaCons (eFr 5) eaNil))))
    (sExt 3 (eComp [6] (eiSeq (eZ (pRev (pCallV 1 a_inner_parts 1 F_inner_parts (paCons (pVar 4) paNil))))) (gN 6) (etP tYesP) (eo2_nodes_of F_inner_parts a_inner_parts)))))
def s_nodes_of (F_inner_parts : FD) (a_inner_parts : Nat) : SX := (sSeq (sPar 2 3 (eLst eaNil) (eComp [4] (eiSeq (eZ (pRev (pVar 0)))) (gN 4) (etP tYesP) (eo1_nodes_of F_inner_parts a_inner_parts)))
    (sSeq (sWhile (wt1_nodes_of F_inner_parts a_inner_parts)
    (L1_nodes_of F_inner_parts a_inner_parts))
    (sRet (eMv 2))))
theorem sc_nodes_of : L2.FnScope N_nodes_of P_nodes_of (L2.defScope (top 6)) := ⟨rfl, rfl, rfl, by decide +kernel, rfl, by decide +kernel, by decide +kernel⟩
section
variable {w : World} {K : PySem.W.Frag} {mg : Str → Option Value} {base : Heap} {k : Nat} {F_inner_parts : FD}
theorem b_nodes_of (G : Fx K mg base) (h_inner_parts : OkF prog w K mg base k "inner_parts" P_inner_parts 1 [] F_inner_parts) {cdv : Value} {A : Around} {outer : List Env} {s : Shared} {H : Hp} {E : L2.XK} {W : WX} (hg : A.guards = some []) (hr : L2.Room k (A.deeper (envOfC "nodes_of" (L2.defScope (top 6)) s.heap.objs.size (He.ga K "nodes_of") cdv))) (tk : L2.Takes (L2.cxOf (L2.CX prog w) prog w K mg base N_nodes_of "nodes_of" (L2.defScope (top 6)) (He.ga K "nodes_of") cdv A outer s H E) W) :
    Ss (L2.cxOf (L2.CX prog w) prog w K mg base N_nodes_of "nodes_of" (L2.defScope (top 6)) (He.ga K "nodes_of") cdv A outer s H E) W [] true (L2.defBody (top 6)) (s_nodes_of F_inner_parts (He.ga K "inner_parts")) := by
  have C : Ct (L2.cxOf (L2.CX prog w) prog w K mg base N_nodes_of "nodes_of" (L2.defScope (top 6)) (He.ga K "nodes_of") cdv A outer s H E) W k := ⟨hr, hg, tk, rfl, sc_nodes_of.nd⟩
  have po : Po (L2.cxOf (L2.CX prog w) prog w K mg base N_nodes_of "nodes_of" (L2.defScope (top 6)) (He.ga K "nodes_of") cdv A outer s H E) := L2.passes_of rfl
  exact (zCons (zPar C 2 3 (yLst bNil) (yLc C [("one", 4)] (jSq (yZ (xRev (xV 0)))) (fun _ _ _ _ _ C1 => (eV C1 4)) (fun _ _ _ _ _ C1 => (usP tsNil)) (fun _ _ _ _ _ C1 => (yTup (bCons (yFr 4) (bCons (yZ xInt) bNil))))))
    (zCons (zWhile po (uP (tTruth' (xV 3)))
    (zCons (zTg (own := [4, 5]) (yPop 3) (eTu C (esC (eV C 4) (esC (eV C 5) esN))))
    (zCons (zApp 2 (yTup (bCons (yFr 4) (bCons (yFr 5) bNil))))
    (zOne (zExt 3 (yLc C [("its", 6)] (jSq (yZ (xRev (xCV h_inner_parts C 1 (aCons (xV 4) aNil))))) (fun _ _ _ _ _ C1 => (eV C1 6)) (fun _ _ _ _ _ C1 => (usP tsNil)) (fun _ _ _ _ _ C1 => (yTup (bCons (yFr 6) (bCons (yZ (xOp oAdd (xV 5) xInt)) bNil))))))))))
    (zOne (zRet (yMv 2)))))
theorem ok_nodes_of (G : Fx K mg base) (h_inner_parts : OkF prog w K mg base k "inner_parts" P_inner_parts 1 [] F_inner_parts) {F : FD} (vc : ∀ os Qd Xd, os.length = 2 → F os Qd Xd → s_nodes_of F_inner_parts (He.ga K "inner_parts") (fnEn [] Qd Xd) (startD 7 os)) : OkF prog w K mg base (k + 1) "nodes_of" P_nodes_of 2 [] F := by
  obtain ⟨fd, Fd⟩ := D_nodes_of G
  exact ⟨⟨fd, Fd.bindsN (fun _ _ _ _ _ _ us hl => match us, hl with | [_, _], _ => rfl), fn_data Fd sc_nodes_of rfl (by decide) (by decide) vc (fun _ => oS_s) fun cdv A outer s H E W hg hr tk => b_nodes_of G h_inner_parts hg hr tk⟩, Fd.kp, g_nodes_of G⟩
theorem no_nodes_of (G : Fx K mg base) : OkF prog w K mg base k "nodes_of" P_nodes_of 2 [] fdVoid := .void (D_nodes_of G) (fun _ _ _ _ _ _ us hl => match us, hl with | [_, _], _ => rfl) (g_nodes_of G)
end
/-! ### rule_of -/
abbrev N_rule_of : List Str := ["template", "mode", "tag", "its", "name", "parts"]
def L1_rule_of : SX := (sIf (etP (tB (pOp opEq (pTup (paCons (pVar 3) (paCons (pVar 4) paNil))) (pTup (paCons (pVar 1) (paCons (pVar 2) paNil))))))
    (sRet (eFr 5))
    sNext)
def s_rule_of : SX := (sSeq (sFor (eiSeq (eRd (pthS (pth0 0) (pC (.int 1))))) (gT 3 (gsCons (gN 3) (gsCons (gN 4) (gsCons (gN 5) gsNil))))
    L1_rule_of)
    (sRet (eTup eaNil)))
theorem sc_rule_of : L2.FnScope N_rule_of P_rule_of (L2.defScope (top 7)) := ⟨rfl, rfl, rfl, by decide +kernel, rfl, by decide +kernel, by decide +kernel⟩
section
variable {w : World} {K : PySem.W.Frag} {mg : Str → Option Value} {base : Heap} {k : Nat}
theorem b_rule_of (G : Fx K mg base) {cdv : Value} {A : Around} {outer : List Env} {s : Shared} {H : Hp} {E : L2.XK} {W : WX} (hg : A.guards = some []) (hr : L2.Room k (A.deeper (envOfC "rule_of" (L2.defScope (top 7)) s.heap.objs.size (He.ga K "rule_of") cdv))) (tk : L2.Takes (L2.cxOf (L2.CX prog w) prog w K mg base N_rule_of "rule_of" (L2.defScope (top 7)) (He.ga K "rule_of") cdv A outer s H E) W) :
    Ss (L2.cxOf (L2.CX prog w) prog w K mg base N_rule_of "rule_of" (L2.defScope (top 7)) (He.ga K "rule_of") cdv A outer s H E) W [] true (L2.defBody (top 7)) (s_rule_of) := by
  have C : Ct (L2.cxOf (L2.CX prog w) prog w K mg base N_rule_of "rule_of" (L2.defScope (top 7)) (He.ga K "rule_of") cdv A outer s H E) W k := ⟨hr, hg, tk, rfl, sc_rule_of.nd⟩
  have po : Po (L2.cxOf (L2.CX prog w) prog w K mg base N_rule_of "rule_of" (L2.defScope (top 7)) (He.ga K "rule_of") cdv A outer s H E) := L2.passes_of rfl
  exact (zCons (zFor (own := [3, 4, 5]) po C (jSq (yRd (hIx (hV 0) xInt))) (eTu C (esC (eV C 3) (esC (eV C 4) (esC (eV C 5) esN))))
    (zOne (zIf (uP (tCmp (kEq C) (xTup (aCons (xV 3) (aCons (xV 4) aNil))) (xTup (aCons (xV 1) (aCons (xV 2) aNil)))))
    (zOne (zRet (yFr 5)))
    zNil)))
    (zOne (zRet (yTup bNil))))
theorem ok_rule_of (G : Fx K mg base) {F : FD} (vc : ∀ os Qd Xd, os.length = 3 → F os Qd Xd → s_rule_of (fnEn [] Qd Xd) (startD 6 os)) : OkF prog w K mg base (k + 1) "rule_of" P_rule_of 3 [] F := by
  obtain ⟨fd, Fd⟩ := D_rule_of G
  exact ⟨⟨fd, Fd.bindsN (fun _ _ _ _ _ _ us hl => match us, hl with | [_, _, _], _ => rfl), fn_data Fd sc_rule_of rfl (by decide) (by decide) vc (fun _ => oS_s) fun cdv A outer s H E W hg hr tk => b_rule_of G hg hr tk⟩, Fd.kp, g_rule_of G⟩
theorem no_rule_of (G : Fx K mg base) : OkF prog w K mg base k "rule_of" P_rule_of 3 [] fdVoid := .void (D_rule_of G) (fun _ _ _ _ _ _ us hl => match us, hl with | [_, _, _], _ => rfl) (g_rule_of G)
end
/-! ### parts_in -/
abbrev N_parts_in : List Str := ["parts", "part", "around"]
def ep1_parts_in (F_nodes_of : FD) (a_inner_parts : Nat) : PX := (pVar 1)
def s_parts_in (F_nodes_of : FD) (a_inner_parts : Nat) : SX := (sRet (eZ (pCB fTuple (paCons (pComp [1, 2] (piSeq (pCall 2 F_nodes_of (paCons (pVar 0) (paCons (pC (.fn a_inner_parts)) paNil)))) (gT 2 (gsCons (gN 1) (gsCons (gN 2) gsNil))) tYesP (ep1_parts_in F_nodes_of a_inner_parts)) paNil))))
theorem sc_parts_in : L2.FnScope N_parts_in P_parts_in (L2.defScope (top 8)) := ⟨rfl, rfl, rfl, by decide +kernel, rfl, by decide +kernel, by decide +kernel⟩
section
variable {w : World} {K : PySem.W.Frag} {mg : Str → Option Value} {base : Heap} {k : Nat} {F_nodes_of : FD}
theorem b_parts_in (G : Fx K mg base) (h_nodes_of : OkF prog w K mg base k "nodes_of" P_nodes_of 2 [] F_nodes_of) {cdv : Value} {A : Around} {outer : List Env} {s : Shared} {H : Hp} {E : L2.XK} {W : WX} (hg : A.guards = some []) (hr : L2.Room k (A.deeper (envOfC "parts_in" (L2.defScope (top 8)) s.heap.objs.size (He.ga K "parts_in") cdv))) (tk : L2.Takes (L2.cxOf (L2.CX prog w) prog w K mg base N_parts_in "parts_in" (L2.defScope (top 8)) (He.ga K "parts_in") cdv A outer s H E) W) :
    Ss (L2.cxOf (L2.CX prog w) prog w K mg base N_parts_in "parts_in" (L2.defScope (top 8)) (He.ga K "parts_in") cdv A outer s H E) W [] true (L2.defBody (top 8)) (s_parts_in F_nodes_of (He.ga K "inner_parts")) := by
  have C : Ct (L2.cxOf (L2.CX prog w) prog w K mg base N_parts_in "parts_in" (L2.defScope (top 8)) (He.ga K "parts_in") cdv A outer s H E) W k := ⟨hr, hg, tk, rfl, sc_parts_in.nd⟩
  have po : Po (L2.cxOf (L2.CX prog w) prog w K mg base N_parts_in "parts_in" (L2.defScope (top 8)) (He.ga K "parts_in") cdv A outer s H E) := L2.passes_of rfl
  exact (zOne (zRet (yZ (xT (bTuple C) (f_tuple G) (aCons (xLc C [("part", 1), ("around", 2)] (iSq (xC h_nodes_of C (aCons (xV 0) (aCons (xGl (g_inner_parts G)) aNil)))) (fun _ _ _ _ _ C1 => (gTu C1 (gsC (gV C1 1) (gsC (gV C1 2) gsN)))) (fun _ _ _ _ _ C1 => tsNil) (fun _ _ _ _ _ C1 => (xV 1))) aNil)))))
theorem ok_parts_in (G : Fx K mg base) (h_nodes_of : OkF prog w K mg base k "nodes_of" P_nodes_of 2 [] F_nodes_of) {F : FD} (vc : ∀ os Qd Xd, os.length = 1 → F os Qd Xd → s_parts_in F_nodes_of (He.ga K "inner_parts") (fnEn [] Qd Xd) (startD 3 os)) : OkF prog w K mg base (k + 1) "parts_in" P_parts_in 1 [] F := by
  obtain ⟨fd, Fd⟩ := D_parts_in G
  exact ⟨⟨fd, Fd.bindsN (fun _ _ _ _ _ _ us hl => match us, hl with | [_], _ => rfl), fn_data Fd sc_parts_in rfl (by decide) (by decide) vc (fun _ => oS_s) fun cdv A outer s H E W hg hr tk => b_parts_in G h_nodes_of hg hr tk⟩, Fd.kp, g_parts_in G⟩
theorem no_parts_in (G : Fx K mg base) : OkF prog w K mg base k "parts_in" P_parts_in 1 [] fdVoid := .void (D_parts_in G) (fun _ _ _ _ _ _ us hl => match us, hl with | [_], _ => rfl) (g_parts_in G)
end
/-! ### is_straight_rule -/
abbrev N_is_straight_rule : List Str := ["parts", "some", "calls", "part"]
def eo1_is_straight_rule (F_parts_in : FD) : EX := (eFr 3)
def to1_is_straight_rule (F_parts_in : FD) : ETx := (etP (tB (pOp opEq (pOp opIx (pVar 3) (pC (.int 0))) (pC (.str "apply")))))
def ep1_is_straight_rule (F_parts_in : FD) : PX := (pOp opEq (pOp opIx (pVar 3) (pC (.int 0))) (pC (.str "if")))
def s_is_straight_rule (F_parts_in : FD) : SX := (sSeq (sAsg (eFz (eCall 1 F_parts_in [] (eaCons (eFr 0) eaNil))) (goN 1))
    (sSeq (sAsg (eComp [3] (eiSeq (eFr 1)) (gN 3) (to1_is_straight_rule F_parts_in) (eo1_is_straight_rule F_parts_in)) (goF 2))
    (sRet (eZ (pAndV (pOp opEq (pCB fLen (paCons (pVar 2) paNil)) (pC (.int 1))) (pAndV (pOp opIsN (pOp opIx (pOp opIx (pVar 2) (pC (.int 0))) (pC (.int 2))) (pC .non)) (pNotV (pCB fAny (paCons (pComp [3] (piSeq (pVar 1)) (gN 3) tYesP (ep1_is_straight_rule F_parts_in)) paNil)))))))))
theorem sc_is_straight_rule : L2.FnScope N_is_straight_rule P_is_straight_rule (L2.defScope (top 13)) := ⟨rfl, rfl, rfl, by decide +kernel, rfl, by decide +kernel, by decide +kernel⟩
section
variable {w : World} {K : PySem.W.Frag} {mg : Str → Option Value} {base : Heap} {k : Nat} {F_parts_in : FD}
theorem b_is_straight_rule (G : Fx K mg base) (h_parts_in : OkF prog w K mg base k "parts_in" P_parts_in 1 [] F_parts_in) {cdv : Value} {A : Around} {outer : List Env} {s : Shared} {H : Hp} {E : L2.XK} {W : WX} (hg : A.guards = some []) (hr : L2.Room k (A.deeper (envOfC "is_straight_rule" (L2.defScope (top 13)) s.heap.objs.size (He.ga K "is_straight_rule") cdv))) (tk : L2.Takes (L2.cxOf (L2.CX prog w) prog w K mg base N_is_straight_rule "is_straight_rule" (L2.defScope (top 13)) (He.ga K "is_straight_rule") cdv A outer s H E) W) :
    Ss (L2.cxOf (L2.CX prog w) prog w K mg base N_is_straight_rule "is_straight_rule" (L2.defScope (top 13)) (He.ga K "is_straight_rule") cdv A outer s H E) W [] true (L2.defBody (top 13)) (s_is_straight_rule F_parts_in) := by
  have C : Ct (L2.cxOf (L2.CX prog w) prog w K mg base N_is_straight_rule "is_straight_rule" (L2.defScope (top 13)) (He.ga K "is_straight_rule") cdv A outer s H E) W k := ⟨hr, hg, tk, rfl, sc_is_straight_rule.nd⟩
  have po : Po (L2.cxOf (L2.CX prog w) prog w K mg base N_is_straight_rule "is_straight_rule" (L2.defScope (top 13)) (He.ga K "is_straight_rule") cdv A outer s H E) := L2.passes_of rfl
  exact (zCons (zSet C 1 (yFz (yC h_parts_in C (bCons (yFr 0) bNil))))
    (zCons (zLcF C 2 [("part", 3)] (jSq (yFr 1)) (fun _ _ _ _ _ C1 => (eV C1 3)) (fun _ _ _ _ _ C1 => (usOne (uP (tCmp (kEq C1) (xIx (xV 3) xInt) xStr)))) (fun _ _ _ _ _ C1 => (yFr 3)))
    (zOne (zRet (yZ (xAnd (xCmp (kEq C) (xB (bLen C) (f_len G) (aCons (xV 2) aNil)) xInt) (xAnd (xCmp (kIsN C) (xIx (xIx (xV 2) xInt) xInt) xNon) (xOne (xNot (xB (bAny C) (f_any G) (aCons (xLc C [("part", 3)] (iSq (xV 1)) (fun _ _ _ _ _ C1 => (gV C1 3)) (fun _ _ _ _ _ C1 => tsNil) (fun _ _ _ _ _ C1 => (xCmp (kEq C1) (xIx (xV 3) xInt) xStr))) aNil)))))))))))
theorem ok_is_straight_rule (G : Fx K mg base) (h_parts_in : OkF prog w K mg base k "parts_in" P_parts_in 1 [] F_parts_in) {F : FD} (vc : ∀ os Qd Xd, os.length = 1 → F os Qd Xd → s_is_straight_rule F_parts_in (fnEn [] Qd Xd) (startD 4 os)) : OkF prog w K mg base (k + 1) "is_straight_rule" P_is_straight_rule 1 [] F := by
  obtain ⟨fd, Fd⟩ := D_is_straight_rule G
  exact ⟨⟨fd, Fd.bindsN (fun _ _ _ _ _ _ us hl => match us, hl with | [_], _ => rfl), fn_data Fd sc_is_straight_rule rfl (by decide) (by decide) vc (fun _ => oS_s) fun cdv A outer s H E W hg hr tk => b_is_straight_rule G h_parts_in hg hr tk⟩, Fd.kp, g_is_straight_rule G⟩
theorem no_is_straight_rule (G : Fx K mg base) : OkF prog w K mg base k "is_straight_rule" P_is_straight_rule 1 [] fdVoid := .void (D_is_straight_rule G) (fun _ _ _ _ _ _ us hl => match us, hl with | [_], _ => rfl) (g_is_straight_rule G)
end
/-! ### is_straight -/
abbrev N_is_straight : List Str := ["template", "mode", "tag", "parts"]
def ep1_is_straight (F_is_straight_rule : FD) : PX := (pCall 1 F_is_straight_rule (paCons (pVar 3) paNil))
def s_is_straight (F_is_straight_rule : FD) : SX := (sRet (eZ (pCB fAll (paCons (pComp [1, 2, 3] (piSeq (pOp opIx (pVar 0) (pC (.int 1)))) (gT 3 (gsCons (gN 1) (gsCons (gN 2) (gsCons (gN 3) gsNil)))) tYesP (ep1_is_straight F_is_straight_rule)) paNil))))
theorem sc_is_straight : L2.FnScope N_is_straight P_is_straight (L2.defScope (top 14)) := ⟨rfl, rfl, rfl, by decide +kernel, rfl, by decide +kernel, by decide +kernel⟩
section
variable {w : World} {K : PySem.W.Frag} {mg : Str → Option Value} {base : Heap} {k : Nat} {F_is_straight_rule : FD}
theorem b_is_straight (G : Fx K mg base) (h_is_straight_rule : OkF prog w K mg base k "is_straight_rule" P_is_straight_rule 1 [] F_is_straight_rule) {cdv : Value} {A : Around} {outer : List Env} {s : Shared} {H : Hp} {E : L2.XK} {W : WX} (hg : A.guards = some []) (hr : L2.Room k (A.deeper (envOfC "is_straight" (L2.defScope (top 14)) s.heap.objs.size (He.ga K "is_straight") cdv))) (tk : L2.Takes (L2.cxOf (L2.CX prog w) prog w K mg base N_is_straight "is_straight" (L2.defScope (top 14)) (He.ga K "is_straight") cdv A outer s H E) W) :
    Ss (L2.cxOf (L2.CX prog w) prog w K mg base N_is_straight "is_straight" (L2.defScope (top 14)) (He.ga K "is_straight") cdv A outer s H E) W [] true (L2.defBody (top 14)) (s_is_straight F_is_straight_rule) := by
  have C : Ct (L2.cxOf (L2.CX prog w) prog w K mg base N_is_straight "is_straight" (L2.defScope (top 14)) (He.ga K "is_straight") cdv A outer s H E) W k := ⟨hr, hg, tk, rfl, sc_is_straight.nd⟩
  have po : Po (L2.cxOf (L2.CX prog w) prog w K mg base N_is_straight "is_straight" (L2.defScope (top 14)) (He.ga K "is_straight") cdv A outer s H E) := L2.passes_of rfl
  exact (zOne (zRet (yZ (xB (bAll C) (f_all G) (aCons (xLc C [("mode", 1), ("tag", 2), ("parts", 3)] (iSq (xIx (xV 0) xInt)) (fun _ _ _ _ _ C1 => (gTu C1 (gsC (gV C1 1) (gsC (gV C1 2) (gsC (gV C1 3) gsN))))) (fun _ _ _ _ _ C1 => tsNil) (fun _ _ _ _ _ C1 => (xC h_is_straight_rule C1 (aCons (xV 3) aNil)))) aNil)))))
theorem ok_is_straight (G : Fx K mg base) (h_is_straight_rule : OkF prog w K mg base k "is_straight_rule" P_is_straight_rule 1 [] F_is_straight_rule) {F : FD} (vc : ∀ os Qd Xd, os.length = 1 → F os Qd Xd → s_is_straight F_is_straight_rule (fnEn [] Qd Xd) (startD 4 os)) : OkF prog w K mg base (k + 1) "is_straight" P_is_straight 1 [] F := by
  obtain ⟨fd, Fd⟩ := D_is_straight G
  exact ⟨⟨fd, Fd.bindsN (fun _ _ _ _ _ _ us hl => match us, hl with | [_], _ => rfl), fn_data Fd sc_is_straight rfl (by decide) (by decide) vc (fun _ => oS_s) fun cdv A outer s H E W hg hr tk => b_is_straight G h_is_straight_rule hg hr tk⟩, Fd.kp, g_is_straight G⟩
theorem no_is_straight (G : Fx K mg base) : OkF prog w K mg base k "is_straight" P_is_straight 1 [] fdVoid := .void (D_is_straight G) (fun _ _ _ _ _ _ us hl => match us, hl with | [_], _ => rfl) (g_is_straight G)
end
/-! ### word_of -/
abbrev N_word_of : List Str := ["tags", "row", "found", "ends", "tag", "many"]
def wt1_word_of : ETx := (etP (tAndP (tB (pOp opNe (pVar 3) (pLst paNil))) (tB (pOp opEq (pOp opIx (pOp opIx (pVar 3) (pUn opNeg (pC (.int 1)))) (pC (.int 1))) (pC (.int 0))))))
def L1_word_of : SX := (sSeq (sApp 2 (eOp opAdd (eOp opMul (eZ (pC (.int 2))) (eTIx (pVar 0) (eIx (ePop 3) (eZ (pC (.int 0)))))) (eZ (pC (.int 1)))))
    (sIf (etP (tB (pOp opNe (pVar 3) (pLst paNil))))
    (sAugIx 3 (pthS (pth0 3) (pUn opNeg (pC (.int 1)))) (pC (.int 1)) opSub (pC (.int 1)))
    sNext))
def L2_word_of : SX := (sSeq (sIf (etP (tB (pOp opNotIn (pVar 4) (pVar 0))))
    (sRaise "Nothing" [] paNil)
    sNext)
    (sSeq (sApp 2 (eZ (pOp opMul (pC (.int 2)) (pTIx (pVar 0) (pVar 4)))))
    (sSeq (sApp 3 (eLst (eaCons (eFr 4) (eaCons (eFr 5) eaNil))))
    (sWhile wt1_word_of
    L1_word_of))))
def s_word_of : SX := (sSeq (sPar 2 3 (eLst eaNil) (eLst eaNil))
    (sSeq (sFor (eiSeq (eFr 1)) (gT 2 (gsCons (gN 4) (gsCons (gN 5) gsNil)))
    L2_word_of)
    (sRet (eP (pCB fTuple (paCons (pVar 2) paNil))))))
theorem sc_word_of : L2.FnScope N_word_of P_word_of (L2.defScope (top 15)) := ⟨rfl, rfl, rfl, by decide +kernel, rfl, by decide +kernel, by decide +kernel⟩
section
variable {w : World} {K : PySem.W.Frag} {mg : Str → Option Value} {base : Heap} {k : Nat}
theorem b_word_of (G : Fx K mg base) {cdv : Value} {A : Around} {outer : List Env} {s : Shared} {H : Hp} {E : L2.XK} {W : WX} (hg : A.guards = some []) (hr : L2.Room k (A.deeper (envOfC "word_of" (L2.defScope (top 15)) s.heap.objs.size (He.ga K "word_of") cdv))) (tk : L2.Takes (L2.cxOf (L2.CX prog w) prog w K mg base N_word_of "word_of" (L2.defScope (top 15)) (He.ga K "word_of") cdv A outer s H E) W) :
    Ss (L2.cxOf (L2.CX prog w) prog w K mg base N_word_of "word_of" (L2.defScope (top 15)) (He.ga K "word_of") cdv A outer s H E) W [] true (L2.defBody (top 15)) (s_word_of) := by
  have C : Ct (L2.cxOf (L2.CX prog w) prog w K mg base N_word_of "word_of" (L2.defScope (top 15)) (He.ga K "word_of") cdv A outer s H E) W k := ⟨hr, hg, tk, rfl, sc_word_of.nd⟩
  have po : Po (L2.cxOf (L2.CX prog w) prog w K mg base N_word_of "word_of" (L2.defScope (top 15)) (He.ga K "word_of") cdv A outer s H E) := L2.passes_of rfl
  exact (zCons (zPar C 2 3 (yLst bNil) (yLst bNil))
    (zCons (zFor (own := [4, 5]) po C (jSq (yFr 1)) (eTu C (esC (eV C 4) (esC (eV C 5) esN)))
    (zCons (zIf (uP (tCmp (kNotIn C) (xV 4) (xV 0)))
    (zOne (zRaise0 C (x_Nothing G) (g_Nothing G)))
    zNil)
    (zCons (zApp 2 (yZ (xOp oMul xInt (xTIx (xV 0) (xV 4)))))
    (zCons (zApp 3 (yLst (bCons (yFr 4) (bCons (yFr 5) bNil))))
    (zOne (zWhile po (uP (tW (wAnd (tCmp (kNe C) (xV 3) (xLst aNil)) (wAnd1 (tCmp (kEq C) (xIx (xIx (xV 3) (xUn uNeg xInt)) xInt) xInt)))))
    (zCons (zApp 2 (yOp oAdd (yOp oMul (yZ xInt) (yTIx (xV 0) (yIx (yPop 3) (yZ xInt)))) (yZ xInt)))
    (zOne (zIf (uP (tCmp (kNe C) (xV 3) (xLst aNil)))
    (zOne (zAugIx 3 iSub (hIx (hV 3) (xUn uNeg xInt)) xInt xInt))
    zNil)))))))))
    (zOne (zRet (yP (xT (bTuple C) (f_tuple G) (aCons (xV 2) aNil)))))))
theorem ok_word_of (G : Fx K mg base) {F : FD} (vc : ∀ os Qd Xd, os.length = 2 → F os Qd Xd → s_word_of (fnEn [] Qd Xd) (startD 6 os)) : OkF prog w K mg base (k + 1) "word_of" P_word_of 2 [] F := by
  obtain ⟨fd, Fd⟩ := D_word_of G
  exact ⟨⟨fd, Fd.bindsN (fun _ _ _ _ _ _ us hl => match us, hl with | [_, _], _ => rfl), fn_data Fd sc_word_of rfl (by decide) (by decide) vc (fun _ => oS_s) fun cdv A outer s H E W hg hr tk => b_word_of G hg hr tk⟩, Fd.kp, g_word_of G⟩
theorem no_word_of (G : Fx K mg base) : OkF prog w K mg base k "word_of" P_word_of 2 [] fdVoid := .void (D_word_of G) (fun _ _ _ _ _ _ us hl => match us, hl with | [_, _], _ => rfl) (g_word_of G)
end
/-! ### rule_words -/
abbrev N_rule_words : List Str := ["tags", "template", "mode", "tag", "rule", "found", "call", "waiting", "part", "at"]
def ep1_rule_words (F_rule_of : FD) : PX := (pOp opEq (pSl (pVar 4) poNone (poSome (pC (.int 2)))) (pTup (paCons (pVar 2) (paCons (pVar 3) paNil))))
def wt1_rule_words (F_rule_of : FD) : ETx := (etP (tB (pOp opNe (pVar 7) (pLst paNil))))
def L1_rule_words (F_rule_of : FD) : SX := (sSeq (sAsg (eFz (ePop 7)) (goN 8))
    (sIf (etP (tB (pCB fIsi (paCons (pVar 8) (paCons (pC (.ty "int")) paNil)))))
    (sAppP 5 (pthS (pth0 5) (pCB fInt (paCons (pOp opNotN (pVar 6) (pC .non)) paNil))) (pVar 8))
    (sIf (etP (tB (pOp opEq (pOp opIx (pVar 8) (pC (.int 0))) (pC (.str "apply")))))
    (sAsg (eRd (pthS (pth0 8) (pC (.int 1)))) (goN 6))
    (sSeq (sIf (etP (tB (pOp opNotIn (pOp opIx (pVar 8) (pC (.int 1))) (pVar 0))))
    (sRaise "Nothing" [] paNil)
    sNext)
    (sSeq (sAsg (eFz (eZ (pTIx (pVar 0) (pOp opIx (pVar 8) (pC (.int 1)))))) (goN 9))
    (sSeq (sAppP 5 (pthS (pth0 5) (pCB fInt (paCons (pOp opNotN (pVar 6) (pC .non)) paNil))) (pOp opMul (pC (.int 2)) (pVar 9)))
    (sSeq (sApp 7 (eZ (pOp opAdd (pOp opMul (pC (.int 2)) (pVar 9)) (pC (.int 1)))))
    (sExt 7 (eCBF fList (eaCons (eZ (pRev (pOp opIx (pVar 8) (pC (.int 2))))) eaNil))))))))))
def s_rule_words (F_rule_of : FD) : SX := (sSeq (sIf (etP (tOrP (tB (pOp opIsN (pVar 2) (pC .non))) (tNotP (tB (pCB fAny (paCons (pComp [4] (piSeq (pOp opIx (pVar 1) (pC (.int 1)))) (gN 4) tYesP (ep1_rule_words F_rule_of)) paNil))))))
    (sRet (eZ (pC .non)))
    sNext)
    (sSeq (sPar3 5 6 7 (eLst (eaCons (eLst eaNil) (eaCons (eLst eaNil) eaNil))) (eZ (pC .non)) (eCBF fList (eaCons (eZ (pRev (pCall 3 F_rule_of (paCons (pVar 1) (paCons (pVar 2) (paCons (pVar 3) paNil)))))) eaNil)))
    (sSeq (sWhile (wt1_rule_words F_rule_of)
    (L1_rule_words F_rule_of))
    (sRet (eTup (eaCons (eP (pCB fTuple (paCons (pOp opIx (pVar 5) (pC (.int 0))) paNil))) (eaCons (eP (pCB fTuple (paCons (pOp opIx (pVar 5) (pC (.int 1))) paNil))) (eaCons (eFr 6) eaNil))))))))
theorem sc_rule_words : L2.FnScope N_rule_words P_rule_words (L2.defScope (top 16)) := ⟨rfl, rfl, rfl, by decide +kernel, rfl, by decide +kernel, by decide +kernel⟩
section
variable {w : World} {K : PySem.W.Frag} {mg : Str → Option Value} {base : Heap} {k : Nat} {F_rule_of : FD}
theorem b_rule_words (G : Fx K mg base) (h_rule_of : OkF prog w K mg base k "rule_of" P_rule_of 3 [] F_rule_of) {cdv : Value} {A : Around} {outer : List Env} {s : Shared} {H : Hp} {E : L2.XK} {W : WX} (hg : A.guards = some []) (hr : L2.Room k (A.deeper (envOfC "rule_words" (L2.defScope (top 16)) s.heap.objs.size (He.ga K "rule_words") cdv))) (tk : L2.Takes (L2.cxOf (L2.CX prog w) prog w K mg base N_rule_words "rule_words" (L2.defScope (top 16)) (He.ga K "rule_words") cdv A outer s H E) W) :
    Ss (L2.cxOf (L2.CX prog w) prog w K mg base N_rule_words "rule_words" (L2.defScope (top 16)) (He.ga K "rule_words") cdv A outer s H E) W [] true (L2.defBody (top 16)) (s_rule_words F_rule_of) := by
  have C : Ct (L2.cxOf (L2.CX prog w) prog w K mg base N_rule_words "rule_words" (L2.defScope (top 16)) (He.ga K "rule_words") cdv A outer s H E) W k := ⟨hr, hg, tk, rfl, sc_rule_words.nd⟩
  have po : Po (L2.cxOf (L2.CX prog w) prog w K mg base N_rule_words "rule_words" (L2.defScope (top 16)) (He.ga K "rule_words") cdv A outer s H E) := L2.passes_of rfl
  exact (zCons (zIf (uP (tW (wOr (tCmp (kIsN C) (xV 2) xNon) (wOr1 (tNot (tVal (xB (bAny C) (f_any G) (aCons (xLc C [("rule", 4)] (iSq (xIx (xV 1) xInt)) (fun _ _ _ _ _ C1 => (gV C1 4)) (fun _ _ _ _ _ C1 => tsNil) (fun _ _ _ _ _ C1 => (xCmp (kEq C1) (xSl (xV 4) oNone (oSome xInt)) (xTup (aCons (xV 2) (aCons (xV 3) aNil)))))) aNil))))))))
    (zOne (zRet (yZ xNon)))
    zNil)
    (zCons (zPar3 C 5 6 7 (yLst (bCons (yLst bNil) (bCons (yLst bNil) bNil))) (yZ xNon) (yTF (bList C) (f_list G) (bCons (yZ (xRev (xC h_rule_of C (aCons (xV 1) (aCons (xV 2) (aCons (xV 3) aNil)))))) bNil)))
    (zCons (zWhile po (uP (tCmp (kNe C) (xV 7) (xLst aNil)))
    (zCons (zSet C 8 (yFz (yPop 7)))
    (zOne (zIf (uP (tVal (xB (bIsi C) (f_isinstance G) (aCons (xV 8) (aCons (xTy (f_int G) PyProof.Rows.boot_int) aNil)))))
    (zOne (zAppP 5 (hIx (hV 5) (xT (bInt C) (f_int G) (aCons (xCmp (kNotN C) (xV 6) xNon) aNil))) (xV 8)))
    (zOne (zIf (uP (tCmp (kEq C) (xIx (xV 8) xInt) xStr))
    (zOne (zSet C 6 (yRd (hIx (hV 8) xInt))))
    (zCons (zIf (uP (tCmp (kNotIn C) (xIx (xV 8) xInt) (xV 0)))
    (zOne (zRaise0 C (x_Nothing G) (g_Nothing G)))
    zNil)
    (zCons (zSet C 9 (yFz (yZ (xTIx (xV 0) (xIx (xV 8) xInt)))))
    (zCons (zAppP 5 (hIx (hV 5) (xT (bInt C) (f_int G) (aCons (xCmp (kNotN C) (xV 6) xNon) aNil))) (xOp oMul xInt (xV 9)))
    (zCons (zApp 7 (yZ (xOp oAdd (xOp oMul xInt (xV 9)) xInt)))
    (zOne (zExt 7 (yTF (bList C) (f_list G) (bCons (yZ (xRev (xIx (xV 8) xInt))) bNil))))))))))))))
    (zOne (zRet (yTup (bCons (yP (xT (bTuple C) (f_tuple G) (aCons (xIx (xV 5) xInt) aNil))) (bCons (yP (xT (bTuple C) (f_tuple G) (aCons (xIx (xV 5) xInt) aNil))) (bCons (yFr 6) bNil)))))))))
theorem ok_rule_words (G : Fx K mg base) (h_rule_of : OkF prog w K mg base k "rule_of" P_rule_of 3 [] F_rule_of) {F : FD} (vc : ∀ os Qd Xd, os.length = 4 → F os Qd Xd → s_rule_words F_rule_of (fnEn [] Qd Xd) (startD 10 os)) : OkF prog w K mg base (k + 1) "rule_words" P_rule_words 4 [] F := by
  obtain ⟨fd, Fd⟩ := D_rule_words G
  exact ⟨⟨fd, Fd.bindsN (fun _ _ _ _ _ _ us hl => match us, hl with | [_, _, _, _], _ => rfl), fn_data Fd sc_rule_words rfl (by decide) (by decide) vc (fun _ => oS_s) fun cdv A outer s H E W hg hr tk => b_rule_words G h_rule_of hg hr tk⟩, Fd.kp, g_rule_words G⟩
theorem no_rule_words (G : Fx K mg base) : OkF prog w K mg base k "rule_words" P_rule_words 4 [] fdVoid := .void (D_rule_words G) (fun _ _ _ _ _ _ us hl => match us, hl with | [_, _, _, _], _ => rfl) (g_rule_words G)
end
/-! ### times -/
abbrev N_times : List Str := ["one", "other", "a", "b", "c", "d", "e", "f", "g", "h"]
def s_times : SX := (sSeq (sAsg (eFr 0) (goT (gT 4 (gsCons (gN 2) (gsCons (gN 3) (gsCons (gN 4) (gsCons (gN 5) gsNil)))))))
    (sSeq (sAsg (eFr 1) (goT (gT 4 (gsCons (gN 6) (gsCons (gN 7) (gsCons (gN 8) (gsCons (gN 9) gsNil)))))))
    (sRet (eTup (eaCons (eZ (pOp opAdd (pOp opMul (pVar 2) (pVar 6)) (pOp opMul (pVar 3) (pVar 8)))) (eaCons (eZ (pOp opAdd (pOp opMul (pVar 2) (pVar 7)) (pOp opMul (pVar 3) (pVar 9)))) (eaCons (eZ (pOp opAdd (pOp opMul (pVar 4) (pVar 6)) (pOp opMul (pVar 5) (pVar 8)))) (eaCons (eZ (pOp opAdd (pOp opMul (pVar 4) (pVar 7)) (pOp opMul (pVar 5) (pVar 9)))) eaNil))))))))
theorem sc_times : L2.FnScope N_times P_times (L2.defScope (top 17)) := ⟨rfl, rfl, rfl, by decide +kernel, rfl, by decide +kernel, by decide +kernel⟩
section
variable {w : World} {K : PySem.W.Frag} {mg : Str → Option Value} {base : Heap} {k : Nat}
theorem b_times (G : Fx K mg base) {cdv : Value} {A : Around} {outer : List Env} {s : Shared} {H : Hp} {E : L2.XK} {W : WX} (hg : A.guards = some []) (hr : L2.Room k (A.deeper (envOfC "times" (L2.defScope (top 17)) s.heap.objs.size (He.ga K "times") cdv))) (tk : L2.Takes (L2.cxOf (L2.CX prog w) prog w K mg base N_times "times" (L2.defScope (top 17)) (He.ga K "times") cdv A outer s H E) W) :
    Ss (L2.cxOf (L2.CX prog w) prog w K mg base N_times "times" (L2.defScope (top 17)) (He.ga K "times") cdv A outer s H E) W [] true (L2.defBody (top 17)) (s_times) := by
  have C : Ct (L2.cxOf (L2.CX prog w) prog w K mg base N_times "times" (L2.defScope (top 17)) (He.ga K "times") cdv A outer s H E) W k := ⟨hr, hg, tk, rfl, sc_times.nd⟩
  have po : Po (L2.cxOf (L2.CX prog w) prog w K mg base N_times "times" (L2.defScope (top 17)) (He.ga K "times") cdv A outer s H E) := L2.passes_of rfl
  exact (zCons (zTg (own := [2, 3, 4, 5]) (yFr 0) (eTu C (esC (eV C 2) (esC (eV C 3) (esC (eV C 4) (esC (eV C 5) esN))))))
    (zCons (zTg (own := [6, 7, 8, 9]) (yFr 1) (eTu C (esC (eV C 6) (esC (eV C 7) (esC (eV C 8) (esC (eV C 9) esN))))))
    (zOne (zRet (yTup (bCons (yZ (xOp oAdd (xOp oMul (xV 2) (xV 6)) (xOp oMul (xV 3) (xV 8)))) (bCons (yZ (xOp oAdd (xOp oMul (xV 2) (xV 7)) (xOp oMul (xV 3) (xV 9)))) (bCons (yZ (xOp oAdd (xOp oMul (xV 4) (xV 6)) (xOp oMul (xV 5) (xV 8)))) (bCons (yZ (xOp oAdd (xOp oMul (xV 4) (xV 7)) (xOp oMul (xV 5) (xV 9)))) bNil)))))))))
theorem ok_times (G : Fx K mg base) {F : FD} (vc : ∀ os Qd Xd, os.length = 2 → F os Qd Xd → s_times (fnEn [] Qd Xd) (startD 10 os)) : OkF prog w K mg base (k + 1) "times" P_times 2 [] F := by
  obtain ⟨fd, Fd⟩ := D_times G
  exact ⟨⟨fd, Fd.bindsN (fun _ _ _ _ _ _ us hl => match us, hl with | [_, _], _ => rfl), fn_data Fd sc_times rfl (by decide) (by decide) vc (fun _ => oS_s) fun cdv A outer s H E W hg hr tk => b_times G hg hr tk⟩, Fd.kp, g_times G⟩
theorem no_times (G : Fx K mg base) : OkF prog w K mg base k "times" P_times 2 [] fdVoid := .void (D_times G) (fun _ _ _ _ _ _ us hl => match us, hl with | [_, _], _ => rfl) (g_times G)
end
/-! ### letter_matrix -/
abbrev N_letter_matrix : List Str := ["letter", "found", "_turn"]
def L1_letter_matrix (F_times : FD) : SX := (sAsg (eFz (eCall 2 F_times [] (eaCons (eFr 1) (eaCons (eZ (pC k_UP)) eaNil)))) (goN 1))
def s_letter_matrix (F_times : FD) : SX := (sSeq (sAsg (eZ (pC k_ONE)) (goN 1))
    (sSeq (sFor (eiRange (eaCons (eFr 0) eaNil)) (gN 2)
    (L1_letter_matrix F_times))
    (sRet (eCall 2 F_times [] (eaCons (eFr 1) (eaCons (eZ (pC k_DOWN)) eaNil))))))
theorem sc_letter_matrix : L2.FnScope N_letter_matrix P_letter_matrix (L2.defScope (top 18)) := ⟨rfl, rfl, rfl, by decide +kernel, rfl, by decide +kernel, by decide +kernel⟩
section
variable {w : World} {K : PySem.W.Frag} {mg : Str → Option Value} {base : Heap} {k : Nat} {F_times : FD}
theorem b_letter_matrix (G : Fx K mg base) (h_times : OkF prog w K mg base k "times" P_times 2 [] F_times) {cdv : Value} {A : Around} {outer : List Env} {s : Shared} {H : Hp} {E : L2.XK} {W : WX} (hg : A.guards = some []) (hr : L2.Room k (A.deeper (envOfC "letter_matrix" (L2.defScope (top 18)) s.heap.objs.size (He.ga K "letter_matrix") cdv))) (tk : L2.Takes (L2.cxOf (L2.CX prog w) prog w K mg base N_letter_matrix "letter_matrix" (L2.defScope (top 18)) (He.ga K "letter_matrix") cdv A outer s H E) W) :
    Ss (L2.cxOf (L2.CX prog w) prog w K mg base N_letter_matrix "letter_matrix" (L2.defScope (top 18)) (He.ga K "letter_matrix") cdv A outer s H E) W [] true (L2.defBody (top 18)) (s_letter_matrix F_times) := by
  have C : Ct (L2.cxOf (L2.CX prog w) prog w K mg base N_letter_matrix "letter_matrix" (L2.defScope (top 18)) (He.ga K "letter_matrix") cdv A outer s H E) W k := ⟨hr, hg, tk, rfl, sc_letter_matrix.nd⟩
  have po : Po (L2.cxOf (L2.CX prog w) prog w K mg base N_letter_matrix "letter_matrix" (L2.defScope (top 18)) (He.ga K "letter_matrix") cdv A outer s H E) := L2.passes_of rfl
  exact (zCons (zSet C 1 (yZ (xCst (c_ONE G))))
    (zCons (zFor0 (own := [2]) po C (j0R1 (f_range G) (yFr 0)) (eV C 2)
    (zOne (zSet C 1 (yFz (yC h_times C (bCons (yFr 1) (bCons (yZ (xCst (c_UP G))) bNil)))))))
    (zOne (zRet (yC h_times C (bCons (yFr 1) (bCons (yZ (xCst (c_DOWN G))) bNil)))))))
theorem ok_letter_matrix (G : Fx K mg base) (h_times : OkF prog w K mg base k "times" P_times 2 [] F_times) {F : FD} (vc : ∀ os Qd Xd, os.length = 1 → F os Qd Xd → s_letter_matrix F_times (fnEn [] Qd Xd) (startD 3 os)) : OkF prog w K mg base (k + 1) "letter_matrix" P_letter_matrix 1 [] F := by
  obtain ⟨fd, Fd⟩ := D_letter_matrix G
  exact ⟨⟨fd, Fd.bindsN (fun _ _ _ _ _ _ us hl => match us, hl with | [_], _ => rfl), fn_data Fd sc_letter_matrix rfl (by decide) (by decide) vc (fun _ => oS_s) fun cdv A outer s H E W hg hr tk => b_letter_matrix G h_times hg hr tk⟩, Fd.kp, g_letter_matrix G⟩
theorem no_letter_matrix (G : Fx K mg base) : OkF prog w K mg base k "letter_matrix" P_letter_matrix 1 [] fdVoid := .void (D_letter_matrix G) (fun _ _ _ _ _ _ us hl => match us, hl with | [_], _ => rfl) (g_letter_matrix G)
end
/-! ### word_matrix -/
abbrev N_word_matrix : List Str := ["word", "found", "letter"]
def L1_word_matrix (F_times : FD) (F_letter_matrix : FD) : SX := (sAsg (eFz (eCall 2 F_times [] (eaCons (eFr 1) (eaCons (eFz (eCall 1 F_letter_matrix [] (eaCons (eFr 2) eaNil))) eaNil)))) (goN 1))
def s_word_matrix (F_times : FD) (F_letter_matrix : FD) : SX := (sSeq (sAsg (eZ (pC k_ONE)) (goN 1))
    (sSeq (sFor (eiSeq (eFr 0)) (gN 2)
    (L1_word_matrix F_times F_letter_matrix))
    (sRet (eFr 1))))
theorem sc_word_matrix : L2.FnScope N_word_matrix P_word_matrix (L2.defScope (top 19)) := ⟨rfl, rfl, rfl, by decide +kernel, rfl, by decide +kernel, by decide +kernel⟩
section
variable {w : World} {K : PySem.W.Frag} {mg : Str → Option Value} {base : Heap} {k : Nat} {F_times : FD} {F_letter_matrix : FD}
theorem b_word_matrix (G : Fx K mg base) (h_times : OkF prog w K mg base k "times" P_times 2 [] F_times) (h_letter_matrix : OkF prog w K mg base k "letter_matrix" P_letter_matrix 1 [] F_letter_matrix) {cdv : Value} {A : Around} {outer : List Env} {s : Shared} {H : Hp} {E : L2.XK} {W : WX} (hg : A.guards = some []) (hr : L2.Room k (A.deeper (envOfC "word_matrix" (L2.defScope (top 19)) s.heap.objs.size (He.ga K "word_matrix") cdv))) (tk : L2.Takes (L2.cxOf (L2.CX prog w) prog w K mg base N_word_matrix "word_matrix" (L2.defScope (top 19)) (He.ga K "word_matrix") cdv A outer s H E) W) :
    Ss (L2.cxOf (L2.CX prog w) prog w K mg base N_word_matrix "word_matrix" (L2.defScope (top 19)) (He.ga K "word_matrix") cdv A outer s H E) W [] true (L2.defBody (top 19)) (s_word_matrix F_times F_letter_matrix) := by
  have C : Ct (L2.cxOf (L2.CX prog w) prog w K mg base N_word_matrix "word_matrix" (L2.defScope (top 19)) (He.ga K "word_matrix") cdv A outer s H E) W k := ⟨hr, hg, tk, rfl, sc_word_matrix.nd⟩
  have po : Po (L2.cxOf (L2.CX prog w) prog w K mg base N_word_matrix "word_matrix" (L2.defScope (top 19)) (He.ga K "word_matrix") cdv A outer s H E) := L2.passes_of rfl
  exact (zCons (zSet C 1 (yZ (xCst (c_ONE G))))
    (zCons (zFor (own := [2]) po C (jSq (yFr 0)) (eV C 2)
    (zOne (zSet C 1 (yFz (yC h_times C (bCons (yFr 1) (bCons (yFz (yC h_letter_matrix C (bCons (yFr 2) bNil))) bNil)))))))
    (zOne (zRet (yFr 1)))))
theorem ok_word_matrix (G : Fx K mg base) (h_times : OkF prog w K mg base k "times" P_times 2 [] F_times) (h_letter_matrix : OkF prog w K mg base k "letter_matrix" P_letter_matrix 1 [] F_letter_matrix) {F : FD} (vc : ∀ os Qd Xd, os.length = 1 → F os Qd Xd → s_word_matrix F_times F_letter_matrix (fnEn [] Qd Xd) (startD 3 os)) : OkF prog w K mg base (k + 1) "word_matrix" P_word_matrix 1 [] F := by
  obtain ⟨fd, Fd⟩ := D_word_matrix G
  exact ⟨⟨fd, Fd.bindsN (fun _ _ _ _ _ _ us hl => match us, hl with | [_], _ => rfl), fn_data Fd sc_word_matrix rfl (by decide) (by decide) vc (fun _ => oS_s) fun cdv A outer s H E W hg hr tk => b_word_matrix G h_times h_letter_matrix hg hr tk⟩, Fd.kp, g_word_matrix G⟩
theorem no_word_matrix (G : Fx K mg base) : OkF prog w K mg base k "word_matrix" P_word_matrix 1 [] fdVoid := .void (D_word_matrix G) (fun _ _ _ _ _ _ us hl => match us, hl with | [_], _ => rfl) (g_word_matrix G)
end
/-! ### _law_bag -/
abbrev N__law_bag : List Str := ["script", "cell"]
def eo1__law_bag : EX := (eZ (pCB fAbs (paCons (pVar 1) paNil)))
def s__law_bag : SX := (sRet (eLst (eaCons (eZ (pC (.int 0))) (eaCons (eZ (pC (.int 1234567891))) (eaCons (eZ (pC (.int 0))) (eaCons (eComp [1] (eiSeq (eZ (pSl (pVar 0) poNone (poSome (pC (.int 63)))))) (gN 1) (etP tYesP) eo1__law_bag) eaNil))))))
theorem sc__law_bag : L2.FnScope N__law_bag P__law_bag (L2.defScope (top 21)) := ⟨rfl, rfl, rfl, by decide +kernel, rfl, by decide +kernel, by decide +kernel⟩
section
variable {w : World} {K : PySem.W.Frag} {mg : Str → Option Value} {base : Heap} {k : Nat}
theorem b__law_bag (G : Fx K mg base) {cdv : Value} {A : Around} {outer : List Env} {s : Shared} {H : Hp} {E : L2.XK} {W : WX} (hg : A.guards = some []) (hr : L2.Room k (A.deeper (envOfC "_law_bag" (L2.defScope (top 21)) s.heap.objs.size (He.ga K "_law_bag") cdv))) (tk : L2.Takes (L2.cxOf (L2.CX prog w) prog w K mg base N__law_bag "_law_bag" (L2.defScope (top 21)) (He.ga K "_law_bag") cdv A outer s H E) W) :
    Ss (L2.cxOf (L2.CX prog w) prog w K mg base N__law_bag "_law_bag" (L2.defScope (top 21)) (He.ga K "_law_bag") cdv A outer s H E) W [] true (L2.defBody (top 21)) (s__law_bag) := by
  have C : Ct (L2.cxOf (L2.CX prog w) prog w K mg base N__law_bag "_law_bag" (L2.defScope (top 21)) (He.ga K "_law_bag") cdv A outer s H E) W k := ⟨hr, hg, tk, rfl, sc__law_bag.nd⟩
  have po : Po (L2.cxOf (L2.CX prog w) prog w K mg base N__law_bag "_law_bag" (L2.defScope (top 21)) (He.ga K "_law_bag") cdv A outer s H E) := L2.passes_of rfl
  exact (zOne (zRet (yLst (bCons (yZ xInt) (bCons (yZ xInt) (bCons (yZ xInt) (bCons (yLc C [("cell", 1)] (jSq (yZ (xSl (xV 0) oNone (oSome xInt)))) (fun _ _ _ _ _ C1 => (eV C1 1)) (fun _ _ _ _ _ C1 => (usP tsNil)) (fun _ _ _ _ _ C1 => (yZ (xB (bAbs C1) (f_abs G) (aCons (xV 1) aNil))))) bNil)))))))
theorem ok__law_bag (G : Fx K mg base) {F : FD} (vc : ∀ os Qd Xd, os.length = 1 → F os Qd Xd → s__law_bag (fnEn [] Qd Xd) (startD 2 os)) : OkF prog w K mg base (k + 1) "_law_bag" P__law_bag 1 [] F := by
  obtain ⟨fd, Fd⟩ := D__law_bag G
  exact ⟨⟨fd, Fd.bindsN (fun _ _ _ _ _ _ us hl => match us, hl with | [_], _ => rfl), fn_data Fd sc__law_bag rfl (by decide) (by decide) vc (fun _ => oS_s) fun cdv A outer s H E W hg hr tk => b__law_bag G hg hr tk⟩, Fd.kp, g__law_bag G⟩
theorem no__law_bag (G : Fx K mg base) : OkF prog w K mg base k "_law_bag" P__law_bag 1 [] fdVoid := .void (D__law_bag G) (fun _ _ _ _ _ _ us hl => match us, hl with | [_], _ => rfl) (g__law_bag G)
end
/-! ### _law_take -/
abbrev N__law_take : List Str := ["bag", "many", "cell", "stirred", "value", "begin", "second"]
def s__law_take : SX := (sSeq (sIf (etP (tB (pOp opEq (pOp opIx (pVar 0) (pC (.int 0))) (pC (.int 0)))))
    (sSeq (sAsg (eP (pOp opIx (pOp opAdd (pSl (pOp opIx (pVar 0) (pC (.int 3))) (poSome (pOp opIx (pVar 0) (pC (.int 2)))) poNone) (pLst (paCons (pC (.int 0)) paNil))) (pC (.int 0)))) (goN 2))
    (sSeq (sAugIx 0 (pth0 0) (pC (.int 2)) ipAdd (pC (.int 1)))
    (sSeq (sIf (etP (tB (pOp opGe (pVar 2) (pOp opPow (pC (.int 10)) (pC (.int 18))))))
    (sSet 0 (pth0 0) (pC (.int 0)) (eFr 2))
    sNext)
    (sSeq (sAsg (eP (pOp opAdd (pOp opAdd (pOp opMul (pOp opIx (pVar 0) (pC (.int 1))) (pC (.int 48271))) (pOp opMod (pCB fInt (paCons (pVar 2) paNil)) (pC (.int 2147483647)))) (pOp opMul (pC (.int 7919)) (pOp opIx (pVar 0) (pC (.int 2)))))) (goN 3))
    (sSet 0 (pth0 0) (pC (.int 1)) (eZ (pOp opMod (pCB fInt (paCons (pVar 3) paNil)) (pC (.int 2147483647)))))))))
    sNext)
    (sSeq (sIf (etP (tB (pOp opGt (pOp opIx (pVar 0) (pC (.int 0))) (pC (.int 0)))))
    (sSeq (sAsg (eP (pOp opMod (pCB fInt (paCons (pOp opIx (pVar 0) (pC (.int 0))) paNil)) (pVar 1))) (goN 4))
    (sSeq (sSet 0 (pth0 0) (pC (.int 0)) (eP (pOp opDiv (pCB fInt (paCons (pOp opIx (pVar 0) (pC (.int 0))) paNil)) (pVar 1))))
    (sRet (eFr 4))))
    sNext)
    (sSeq (sAsg (eP (pOp opMod (pCB fInt (paCons (pOp opMul (pOp opAdd (pOp opIx (pVar 0) (pC (.int 1))) (pC (.int 1))) (pC (.int 39373))) paNil)) (pC (.int 1000000007)))) (goN 5))
    (sSeq (sAsg (eZ (pOp opMod (pCB fInt (paCons (pOp opMul (pOp opMod (pCB fInt (paCons (pOp opMul (pVar 5) (pVar 5)) paNil)) (pC (.int 998244353))) (pC (.int 30011))) paNil)) (pC (.int 998244353)))) (goN 6))
    (sRet (eZ (pOp opMod (pCB fInt (paCons (pOp opDiv (pVar 6) (pC (.int 7))) paNil)) (pVar 1))))))))
theorem sc__law_take : L2.FnScope N__law_take P__law_take (L2.defScope (top 22)) := ⟨rfl, rfl, rfl, by decide +kernel, rfl, by decide +kernel, by decide +kernel⟩
section
variable {w : World} {K : PySem.W.Frag} {mg : Str → Option Value} {base : Heap} {k : Nat}
theorem b__law_take (G : Fx K mg base) {cdv : Value} {A : Around} {outer : List Env} {s : Shared} {H : Hp} {E : L2.XK} {W : WX} (hg : A.guards = some []) (hr : L2.Room k (A.deeper (envOfC "_law_take" (L2.defScope (top 22)) s.heap.objs.size (He.ga K "_law_take") cdv))) (tk : L2.Takes (L2.cxOf (L2.CX prog w) prog w K mg base N__law_take "_law_take" (L2.defScope (top 22)) (He.ga K "_law_take") cdv A outer s H E) W) :
    Ss (L2.cxOf (L2.CX prog w) prog w K mg base N__law_take "_law_take" (L2.defScope (top 22)) (He.ga K "_law_take") cdv A outer s H E) W [0] true (L2.defBody (top 22)) (s__law_take) := by
  have C : Ct (L2.cxOf (L2.CX prog w) prog w K mg base N__law_take "_law_take" (L2.defScope (top 22)) (He.ga K "_law_take") cdv A outer s H E) W k := ⟨hr, hg, tk, rfl, sc__law_take.nd⟩
  have po : Po (L2.cxOf (L2.CX prog w) prog w K mg base N__law_take "_law_take" (L2.defScope (top 22)) (He.ga K "_law_take") cdv A outer s H E) := L2.passes_of rfl
  exact (zCons (zIf (uP (tCmp (kEq C) (xIx (xV 0) xInt) xInt))
    (zCons (zSet C 2 (yP (xIx (xOp oAdd (xSl (xIx (xV 0) xInt) (oSome (xIx (xV 0) xInt)) oNone) (xLst (aCons xInt aNil))) xInt)))
    (zCons (zAugIx 0 iAdd (hV 0) xInt xInt)
    (zCons (zIf (uP (tCmp (kGe C) (xV 2) (xOp oPow xInt xInt)))
    (zOne (zSub 0 (yFr 2) (hV 0) xInt))
    zNil)
    (zCons (zSet C 3 (yP (xOp oAdd (xOp oAdd (xOp oMul (xIx (xV 0) xInt) xInt) (xOp oMod (xT (bInt C) (f_int G) (aCons (xV 2) aNil)) xInt)) (xOp oMul xInt (xIx (xV 0) xInt)))))
    (zOne (zSub 0 (yZ (xOp oMod (xT (bInt C) (f_int G) (aCons (xV 3) aNil)) xInt)) (hV 0) xInt))))))
    zNil)
    (zCons (zIf (uP (tCmp (kGt C) (xIx (xV 0) xInt) xInt))
    (zCons (zSet C 4 (yP (xOp oMod (xT (bInt C) (f_int G) (aCons (xIx (xV 0) xInt) aNil)) (xV 1))))
    (zCons (zSub 0 (yP (xOp oDiv (xT (bInt C) (f_int G) (aCons (xIx (xV 0) xInt) aNil)) (xV 1))) (hV 0) xInt)
    (zOne (zRet (yFr 4)))))
    zNil)
    (zCons (zSet C 5 (yP (xOp oMod (xT (bInt C) (f_int G) (aCons (xOp oMul (xOp oAdd (xIx (xV 0) xInt) xInt) xInt) aNil)) xInt)))
    (zCons (zSet C 6 (yZ (xOp oMod (xT (bInt C) (f_int G) (aCons (xOp oMul (xOp oMod (xT (bInt C) (f_int G) (aCons (xOp oMul (xV 5) (xV 5)) aNil)) xInt) xInt) aNil)) xInt)))
    (zOne (zRet (yZ (xOp oMod (xT (bInt C) (f_int G) (aCons (xOp oDiv (xV 6) xInt) aNil)) (xV 1)))))))))
theorem ok__law_take (G : Fx K mg base) {F : FD} (vc : ∀ os Qd Xd, os.length = 2 → F os Qd Xd → s__law_take (fnEn [0] Qd Xd) (startD 7 os)) : OkF prog w K mg base (k + 1) "_law_take" P__law_take 2 [0] F := by
  obtain ⟨fd, Fd⟩ := D__law_take G
  exact ⟨⟨fd, Fd.bindsN (fun _ _ _ _ _ _ us hl => match us, hl with | [_, _], _ => rfl), fn_data Fd sc__law_take rfl (by decide) (by decide) vc (fun _ => oS_s) fun cdv A outer s H E W hg hr tk => b__law_take G hg hr tk⟩, Fd.kp, g__law_take G⟩
theorem no__law_take (G : Fx K mg base) : OkF prog w K mg base k "_law_take" P__law_take 2 [0] fdVoid := .void (D__law_take G) (fun _ _ _ _ _ _ us hl => match us, hl with | [_, _], _ => rfl) (g__law_take G)
end
/-! ### _law_some -/
abbrev N__law_some : List Str := ["bag", "things"]
def s__law_some (F__law_take : FD) : SX := (sRet (eIx (eFr 1) (eCall 2 F__law_take [0] (eaLate 0 (eaCons (eZ (pCB fLen (paCons (pVar 1) paNil))) eaNil)))))
theorem sc__law_some : L2.FnScope N__law_some P__law_some (L2.defScope (top 23)) := ⟨rfl, rfl, rfl, by decide +kernel, rfl, by decide +kernel, by decide +kernel⟩
section
variable {w : World} {K : PySem.W.Frag} {mg : Str → Option Value} {base : Heap} {k : Nat} {F__law_take : FD}
theorem b__law_some (G : Fx K mg base) (h__law_take : OkF prog w K mg base k "_law_take" P__law_take 2 [0] F__law_take) {cdv : Value} {A : Around} {outer : List Env} {s : Shared} {H : Hp} {E : L2.XK} {W : WX} (hg : A.guards = some []) (hr : L2.Room k (A.deeper (envOfC "_law_some" (L2.defScope (top 23)) s.heap.objs.size (He.ga K "_law_some") cdv))) (tk : L2.Takes (L2.cxOf (L2.CX prog w) prog w K mg base N__law_some "_law_some" (L2.defScope (top 23)) (He.ga K "_law_some") cdv A outer s H E) W) :
    Ss (L2.cxOf (L2.CX prog w) prog w K mg base N__law_some "_law_some" (L2.defScope (top 23)) (He.ga K "_law_some") cdv A outer s H E) W [0] true (L2.defBody (top 23)) (s__law_some F__law_take) := by
  have C : Ct (L2.cxOf (L2.CX prog w) prog w K mg base N__law_some "_law_some" (L2.defScope (top 23)) (He.ga K "_law_some") cdv A outer s H E) W k := ⟨hr, hg, tk, rfl, sc__law_some.nd⟩
  have po : Po (L2.cxOf (L2.CX prog w) prog w K mg base N__law_some "_law_some" (L2.defScope (top 23)) (He.ga K "_law_some") cdv A outer s H E) := L2.passes_of rfl
  exact (zOne (zRet (yIx (yFr 1) (yC h__law_take C (bLate 0 (bCons (yZ (xB (bLen C) (f_len G) (aCons (xV 1) aNil))) bNil))))))
theorem ok__law_some (G : Fx K mg base) (h__law_take : OkF prog w K mg base k "_law_take" P__law_take 2 [0] F__law_take) {F : FD} (vc : ∀ os Qd Xd, os.length = 2 → F os Qd Xd → s__law_some F__law_take (fnEn [0] Qd Xd) (startD 2 os)) : OkF prog w K mg base (k + 1) "_law_some" P__law_some 2 [0] F := by
  obtain ⟨fd, Fd⟩ := D__law_some G
  exact ⟨⟨fd, Fd.bindsN (fun _ _ _ _ _ _ us hl => match us, hl with | [_, _], _ => rfl), fn_data Fd sc__law_some rfl (by decide) (by decide) vc (fun _ => oS_s) fun cdv A outer s H E W hg hr tk => b__law_some G h__law_take hg hr tk⟩, Fd.kp, g__law_some G⟩
theorem no__law_some (G : Fx K mg base) : OkF prog w K mg base k "_law_some" P__law_some 2 [0] fdVoid := .void (D__law_some G) (fun _ _ _ _ _ _ us hl => match us, hl with | [_, _], _ => rfl) (g__law_some G)
end
/-! ### _law_mixed -/
abbrev N__law_mixed : List Str := ["bag", "things", "found", "thing"]
def L1__law_mixed (F__law_take : FD) : SX := (sIns 2 (eCall 2 F__law_take [0] (eaLate 0 (eaCons (eP (pOp opAdd (pCB fLen (paCons (pVar 2) paNil)) (pC (.int 1)))) eaNil))) (eFr 3))
def s__law_mixed (F__law_take : FD) : SX := (sSeq (sAsg (eLst eaNil) (goN 2))
    (sSeq (sFor (eiSeq (eFr 1)) (gN 3)
    (L1__law_mixed F__law_take))
    (sRet (eMv 2))))
theorem sc__law_mixed : L2.FnScope N__law_mixed P__law_mixed (L2.defScope (top 24)) := ⟨rfl, rfl, rfl, by decide +kernel, rfl, by decide +kernel, by decide +kernel⟩
section
variable {w : World} {K : PySem.W.Frag} {mg : Str → Option Value} {base : Heap} {k : Nat} {F__law_take : FD}
theorem b__law_mixed (G : Fx K mg base) (h__law_take : OkF prog w K mg base k "_law_take" P__law_take 2 [0] F__law_take) {cdv : Value} {A : Around} {outer : List Env} {s : Shared} {H : Hp} {E : L2.XK} {W : WX} (hg : A.guards = some []) (hr : L2.Room k (A.deeper (envOfC "_law_mixed" (L2.defScope (top 24)) s.heap.objs.size (He.ga K "_law_mixed") cdv))) (tk : L2.Takes (L2.cxOf (L2.CX prog w) prog w K mg base N__law_mixed "_law_mixed" (L2.defScope (top 24)) (He.ga K "_law_mixed") cdv A outer s H E) W) :
    Ss (L2.cxOf (L2.CX prog w) prog w K mg base N__law_mixed "_law_mixed" (L2.defScope (top 24)) (He.ga K "_law_mixed") cdv A outer s H E) W [0] true (L2.defBody (top 24)) (s__law_mixed F__law_take) := by
  have C : Ct (L2.cxOf (L2.CX prog w) prog w K mg base N__law_mixed "_law_mixed" (L2.defScope (top 24)) (He.ga K "_law_mixed") cdv A outer s H E) W k := ⟨hr, hg, tk, rfl, sc__law_mixed.nd⟩
  have po : Po (L2.cxOf (L2.CX prog w) prog w K mg base N__law_mixed "_law_mixed" (L2.defScope (top 24)) (He.ga K "_law_mixed") cdv A outer s H E) := L2.passes_of rfl
  exact (zCons (zSet C 2 (yLst bNil))
    (zCons (zFor (own := [3]) po C (jSq (yFr 1)) (eV C 3)
    (zOne (zIns 2 (yC h__law_take C (bLate 0 (bCons (yP (xOp oAdd (xB (bLen C) (f_len G) (aCons (xV 2) aNil)) xInt)) bNil))) (yFr 3))))
    (zOne (zRet (yMv 2)))))
theorem ok__law_mixed (G : Fx K mg base) (h__law_take : OkF prog w K mg base k "_law_take" P__law_take 2 [0] F__law_take) {F : FD} (vc : ∀ os Qd Xd, os.length = 2 → F os Qd Xd → s__law_mixed F__law_take (fnEn [0] Qd Xd) (startD 4 os)) : OkF prog w K mg base (k + 1) "_law_mixed" P__law_mixed 2 [0] F := by
  obtain ⟨fd, Fd⟩ := D__law_mixed G
  exact ⟨⟨fd, Fd.bindsN (fun _ _ _ _ _ _ us hl => match us, hl with | [_, _], _ => rfl), fn_data Fd sc__law_mixed rfl (by decide) (by decide) vc (fun _ => oS_s) fun cdv A outer s H E W hg hr tk => b__law_mixed G h__law_take hg hr tk⟩, Fd.kp, g__law_mixed G⟩
theorem no__law_mixed (G : Fx K mg base) : OkF prog w K mg base k "_law_mixed" P__law_mixed 2 [0] fdVoid := .void (D__law_mixed G) (fun _ _ _ _ _ _ us hl => match us, hl with | [_, _], _ => rfl) (g__law_mixed G)
end
/-! ### _law_alike -/
abbrev N__law_alike : List Str := ["found", "due"]
def s__law_alike : SX := (sRet (eZ (pAndV (pOp opEq (pCB fRepr (paCons (pVar 0) paNil)) (pCB fRepr (paCons (pVar 1) paNil))) (pOp opEq (pVar 0) (pVar 1)))))
theorem sc__law_alike : L2.FnScope N__law_alike P__law_alike (L2.defScope (top 25)) := ⟨rfl, rfl, rfl, by decide +kernel, rfl, by decide +kernel, by decide +kernel⟩
section
variable {w : World} {K : PySem.W.Frag} {mg : Str → Option Value} {base : Heap} {k : Nat}
theorem b__law_alike (G : Fx K mg base) {cdv : Value} {A : Around} {outer : List Env} {s : Shared} {H : Hp} {E : L2.XK} {W : WX} (hg : A.guards = some []) (hr : L2.Room k (A.deeper (envOfC "_law_alike" (L2.defScope (top 25)) s.heap.objs.size (He.ga K "_law_alike") cdv))) (tk : L2.Takes (L2.cxOf (L2.CX prog w) prog w K mg base N__law_alike "_law_alike" (L2.defScope (top 25)) (He.ga K "_law_alike") cdv A outer s H E) W) :
    Ss (L2.cxOf (L2.CX prog w) prog w K mg base N__law_alike "_law_alike" (L2.defScope (top 25)) (He.ga K "_law_alike") cdv A outer s H E) W [] true (L2.defBody (top 25)) (s__law_alike) := by
  have C : Ct (L2.cxOf (L2.CX prog w) prog w K mg base N__law_alike "_law_alike" (L2.defScope (top 25)) (He.ga K "_law_alike") cdv A outer s H E) W k := ⟨hr, hg, tk, rfl, sc__law_alike.nd⟩
  have po : Po (L2.cxOf (L2.CX prog w) prog w K mg base N__law_alike "_law_alike" (L2.defScope (top 25)) (He.ga K "_law_alike") cdv A outer s H E) := L2.passes_of rfl
  exact (zOne (zRet (yZ (xAnd (xCmp (kEq C) (xB (bRepr C) (f_repr G) (aCons (xV 0) aNil)) (xB (bRepr C) (f_repr G) (aCons (xV 1) aNil))) (xOne (xCmp (kEq C) (xV 0) (xV 1)))))))
theorem ok__law_alike (G : Fx K mg base) {F : FD} (vc : ∀ os Qd Xd, os.length = 2 → F os Qd Xd → s__law_alike (fnEn [] Qd Xd) (startD 2 os)) : OkF prog w K mg base (k + 1) "_law_alike" P__law_alike 2 [] F := by
  obtain ⟨fd, Fd⟩ := D__law_alike G
  exact ⟨⟨fd, Fd.bindsN (fun _ _ _ _ _ _ us hl => match us, hl with | [_, _], _ => rfl), fn_data Fd sc__law_alike rfl (by decide) (by decide) vc (fun _ => oS_s) fun cdv A outer s H E W hg hr tk => b__law_alike G hg hr tk⟩, Fd.kp, g__law_alike G⟩
theorem no__law_alike (G : Fx K mg base) : OkF prog w K mg base k "_law_alike" P__law_alike 2 [] fdVoid := .void (D__law_alike G) (fun _ _ _ _ _ _ us hl => match us, hl with | [_, _], _ => rfl) (g__law_alike G)
end
/-! ### _law_tree -/
abbrev N__law_tree : List Str := ["bag", "tags", "deep", "many", "k"]
def eo1__law_tree (F__law_some : FD) (F__law_tree : FD) : EX := (eCall 3 F__law_tree [0] (eaLate 0 (eaCons (eFr 1) (eaCons (eZ (pOp opSub (pVar 2) (pC (.int 1)))) eaNil))))
def s__law_tree (F__law_some : FD) (F__law_tree : FD) : SX := (sSeq (sAsg (eFz (eIf (etP (tB (pOp opGt (pVar 2) (pC (.int 0))))) (eCall 2 F__law_some [0] (eaLate 0 (eaCons (eFz (eLst (eaCons (eZ (pC (.int 0))) (eaCons (eZ (pC (.int 1))) (eaCons (eZ (pC (.int 1))) (eaCons (eZ (pC (.int 2))) (eaCons (eZ (pC (.int 3))) eaNil))))))) eaNil))) (eZ (pC (.int 0))))) (goN 3))
    (sRet (eTup (eaCons (eCall 2 F__law_some [0] (eaLate 0 (eaCons (eFz (eCBF fList (eaCons (eFr 1) eaNil))) eaNil))) (eaCons (eComp [4] (eiRange (eaCons (eFr 3) eaNil)) (gN 4) (etP tYesP) (eo1__law_tree F__law_some F__law_tree)) eaNil)))))
theorem sc__law_tree : L2.FnScope N__law_tree P__law_tree (L2.defScope (top 26)) := ⟨rfl, rfl, rfl, by decide +kernel, rfl, by decide +kernel, by decide +kernel⟩
section
variable {w : World} {K : PySem.W.Frag} {mg : Str → Option Value} {base : Heap} {k : Nat} {F__law_some : FD} {F__law_tree : FD}
theorem b__law_tree (G : Fx K mg base) (h__law_some : OkF prog w K mg base k "_law_some" P__law_some 2 [0] F__law_some) (h__law_tree : OkF prog w K mg base k "_law_tree" P__law_tree 3 [0] F__law_tree) {cdv : Value} {A : Around} {outer : List Env} {s : Shared} {H : Hp} {E : L2.XK} {W : WX} (hg : A.guards = some []) (hr : L2.Room k (A.deeper (envOfC "_law_tree" (L2.defScope (top 26)) s.heap.objs.size (He.ga K "_law_tree") cdv))) (tk : L2.Takes (L2.cxOf (L2.CX prog w) prog w K mg base N__law_tree "_law_tree" (L2.defScope (top 26)) (He.ga K "_law_tree") cdv A outer s H E) W) :
    Ss (L2.cxOf (L2.CX prog w) prog w K mg base N__law_tree "_law_tree" (L2.defScope (top 26)) (He.ga K "_law_tree") cdv A outer s H E) W [0] true (L2.defBody (top 26)) (s__law_tree F__law_some F__law_tree) := by
  have C : Ct (L2.cxOf (L2.CX prog w) prog w K mg base N__law_tree "_law_tree" (L2.defScope (top 26)) (He.ga K "_law_tree") cdv A outer s H E) W k := ⟨hr, hg, tk, rfl, sc__law_tree.nd⟩
  have po : Po (L2.cxOf (L2.CX prog w) prog w K mg base N__law_tree "_law_tree" (L2.defScope (top 26)) (He.ga K "_law_tree") cdv A outer s H E) := L2.passes_of rfl
  exact (zCons (zSet C 3 (yFz (yIf (uP (tCmp (kGt C) (xV 2) xInt)) (yC h__law_some C (bLate 0 (bCons (yFz (yLst (bCons (yZ xInt) (bCons (yZ xInt) (bCons (yZ xInt) (bCons (yZ xInt) (bCons (yZ xInt) bNil))))))) bNil))) (yZ xInt))))
    (zOne (zRet (yTup (bCons (yC h__law_some C (bLate 0 (bCons (yFz (yTF (bList C) (f_list G) (bCons (yFr 1) bNil))) bNil))) (bCons (yLc C [("k", 4)] (jR1 (f_range G) (yFr 3)) (fun _ _ _ _ _ C1 => (eV C1 4)) (fun _ _ _ _ _ C1 => (usP tsNil)) (fun _ _ _ _ _ C1 => (yC h__law_tree C1 (bLate 0 (bCons (yFr 1) (bCons (yZ (xOp oSub (xV 2) xInt)) bNil)))))) bNil))))))
theorem ok__law_tree (G : Fx K mg base) (h__law_some : OkF prog w K mg base k "_law_some" P__law_some 2 [0] F__law_some) (h__law_tree : OkF prog w K mg base k "_law_tree" P__law_tree 3 [0] F__law_tree) {F : FD} (vc : ∀ os Qd Xd, os.length = 3 → F os Qd Xd → s__law_tree F__law_some F__law_tree (fnEn [0] Qd Xd) (startD 5 os)) : OkF prog w K mg base (k + 1) "_law_tree" P__law_tree 3 [0] F := by
  obtain ⟨fd, Fd⟩ := D__law_tree G
  exact ⟨⟨fd, Fd.bindsN (fun _ _ _ _ _ _ us hl => match us, hl with | [_, _, _], _ => rfl), fn_data Fd sc__law_tree rfl (by decide) (by decide) vc (fun _ => oS_s) fun cdv A outer s H E W hg hr tk => b__law_tree G h__law_some h__law_tree hg hr tk⟩, Fd.kp, g__law_tree G⟩
theorem no__law_tree (G : Fx K mg base) : OkF prog w K mg base k "_law_tree" P__law_tree 3 [0] fdVoid := .void (D__law_tree G) (fun _ _ _ _ _ _ us hl => match us, hl with | [_, _, _], _ => rfl) (g__law_tree G)
end
/-! ### _law_flat -/
abbrev N__law_flat : List Str := ["trees", "found", "tag", "inner"]
def L1__law_flat (F__law_flat : FD) : SX := (sSeq (sApp 1 (eTup (eaCons (eFr 2) (eaCons (eZ (pCB fLen (paCons (pVar 3) paNil))) eaNil))))
    (sExt 1 (eCall 1 F__law_flat [] (eaCons (eFr 3) eaNil))))
def s__law_flat (F__law_flat : FD) : SX := (sSeq (sAsg (eLst eaNil) (goN 1))
    (sSeq (sFor (eiSeq (eFr 0)) (gT 2 (gsCons (gN 2) (gsCons (gN 3) gsNil)))
    (L1__law_flat F__law_flat))
    (sRet (eP (pCB fTuple (paCons (pVar 1) paNil))))))
theorem sc__law_flat : L2.FnScope N__law_flat P__law_flat (L2.defScope (top 27)) := ⟨rfl, rfl, rfl, by decide +kernel, rfl, by decide +kernel, by decide +kernel⟩
section
variable {w : World} {K : PySem.W.Frag} {mg : Str → Option Value} {base : Heap} {k : Nat} {F__law_flat : FD}
theorem b__law_flat (G : Fx K mg base) (h__law_flat : OkF prog w K mg base k "_law_flat" P__law_flat 1 [] F__law_flat) {cdv : Value} {A : Around} {outer : List Env} {s : Shared} {H : Hp} {E : L2.XK} {W : WX} (hg : A.guards = some []) (hr : L2.Room k (A.deeper (envOfC "_law_flat" (L2.defScope (top 27)) s.heap.objs.size (He.ga K "_law_flat") cdv))) (tk : L2.Takes (L2.cxOf (L2.CX prog w) prog w K mg base N__law_flat "_law_flat" (L2.defScope (top 27)) (He.ga K "_law_flat") cdv A outer s H E) W) :
    Ss (L2.cxOf (L2.CX prog w) prog w K mg base N__law_flat "_law_flat" (L2.defScope (top 27)) (He.ga K "_law_flat") cdv A outer s H E) W [] true (L2.defBody (top 27)) (s__law_flat F__law_flat) := by
  have C : Ct (L2.cxOf (L2.CX prog w) prog w K mg base N__law_flat "_law_flat" (L2.defScope (top 27)) (He.ga K "_law_flat") cdv A outer s H E) W k := ⟨hr, hg, tk, rfl, sc__law_flat.nd⟩
  have po : Po (L2.cxOf (L2.CX prog w) prog w K mg base N__law_flat "_law_flat" (L2.defScope (top 27)) (He.ga K "_law_flat") cdv A outer s H E) := L2.passes_of rfl
  exact (zCons (zSet C 1 (yLst bNil))
    (zCons (zFor (own := [2, 3]) po C (jSq (yFr 0)) (eTu C (esC (eV C 2) (esC (eV C 3) esN)))
    (zCons (zApp 1 (yTup (bCons (yFr 2) (bCons (yZ (xB (bLen C) (f_len G) (aCons (xV 3) aNil))) bNil))))
    (zOne (zExt 1 (yC h__law_flat C (bCons (yFr 3) bNil))))))
    (zOne (zRet (yP (xT (bTuple C) (f_tuple G) (aCons (xV 1) aNil)))))))
theorem ok__law_flat (G : Fx K mg base) (h__law_flat : OkF prog w K mg base k "_law_flat" P__law_flat 1 [] F__law_flat) {F : FD} (vc : ∀ os Qd Xd, os.length = 1 → F os Qd Xd → s__law_flat F__law_flat (fnEn [] Qd Xd) (startD 4 os)) : OkF prog w K mg base (k + 1) "_law_flat" P__law_flat 1 [] F := by
  obtain ⟨fd, Fd⟩ := D__law_flat G
  exact ⟨⟨fd, Fd.bindsN (fun _ _ _ _ _ _ us hl => match us, hl with | [_], _ => rfl), fn_data Fd sc__law_flat rfl (by decide) (by decide) vc (fun _ => oS_s) fun cdv A outer s H E W hg hr tk => b__law_flat G h__law_flat hg hr tk⟩, Fd.kp, g__law_flat G⟩
theorem no__law_flat (G : Fx K mg base) : OkF prog w K mg base k "_law_flat" P__law_flat 1 [] fdVoid := .void (D__law_flat G) (fun _ _ _ _ _ _ us hl => match us, hl with | [_], _ => rfl) (g__law_flat G)
end
/-! ### _law_tags -/
abbrev N__law_tags : List Str := ["bag", "tags", "tag"]
def eo1__law_tags (F__law_take : FD) : EX := (eFr 2)
def to1__law_tags (F__law_take : FD) : ETx := (etE (eOp opEq (eCall 2 F__law_take [0] (eaLate 0 (eaCons (eZ (pC (.int 2))) eaNil))) (eZ (pC (.int 0)))))
def s__law_tags (F__law_take : FD) : SX := (sRet (eCB fTuple (eaCons (eComp [2] (eiSeq (eFr 1)) (gN 2) (to1__law_tags F__law_take) (eo1__law_tags F__law_take)) eaNil)))
theorem sc__law_tags : L2.FnScope N__law_tags P__law_tags (L2.defScope (top 28)) := ⟨rfl, rfl, rfl, by decide +kernel, rfl, by decide +kernel, by decide +kernel⟩
section
variable {w : World} {K : PySem.W.Frag} {mg : Str → Option Value} {base : Heap} {k : Nat} {F__law_take : FD}
theorem b__law_tags (G : Fx K mg base) (h__law_take : OkF prog w K mg base k "_law_take" P__law_take 2 [0] F__law_take) {cdv : Value} {A : Around} {outer : List Env} {s : Shared} {H : Hp} {E : L2.XK} {W : WX} (hg : A.guards = some []) (hr : L2.Room k (A.deeper (envOfC "_law_tags" (L2.defScope (top 28)) s.heap.objs.size (He.ga K "_law_tags") cdv))) (tk : L2.Takes (L2.cxOf (L2.CX prog w) prog w K mg base N__law_tags "_law_tags" (L2.defScope (top 28)) (He.ga K "_law_tags") cdv A outer s H E) W) :
    Ss (L2.cxOf (L2.CX prog w) prog w K mg base N__law_tags "_law_tags" (L2.defScope (top 28)) (He.ga K "_law_tags") cdv A outer s H E) W [0] true (L2.defBody (top 28)) (s__law_tags F__law_take) := by
  have C : Ct (L2.cxOf (L2.CX prog w) prog w K mg base N__law_tags "_law_tags" (L2.defScope (top 28)) (He.ga K "_law_tags") cdv A outer s H E) W k := ⟨hr, hg, tk, rfl, sc__law_tags.nd⟩
  have po : Po (L2.cxOf (L2.CX prog w) prog w K mg base N__law_tags "_law_tags" (L2.defScope (top 28)) (He.ga K "_law_tags") cdv A outer s H E) := L2.passes_of rfl
  exact (zOne (zRet (yT (bTuple C) (f_tuple G) (bCons (yLc C [("tag", 2)] (jSq (yFr 1)) (fun _ _ _ _ _ C1 => (eV C1 2)) (fun _ _ _ _ _ C1 => (usOne (uCmp (kEq C1) (yC h__law_take C1 (bLate 0 (bCons (yZ xInt) bNil))) (yZ xInt)))) (fun _ _ _ _ _ C1 => (yFr 2))) bNil))))
theorem ok__law_tags (G : Fx K mg base) (h__law_take : OkF prog w K mg base k "_law_take" P__law_take 2 [0] F__law_take) {F : FD} (vc : ∀ os Qd Xd, os.length = 2 → F os Qd Xd → s__law_tags F__law_take (fnEn [0] Qd Xd) (startD 3 os)) : OkF prog w K mg base (k + 1) "_law_tags" P__law_tags 2 [0] F := by
  obtain ⟨fd, Fd⟩ := D__law_tags G
  exact ⟨⟨fd, Fd.bindsN (fun _ _ _ _ _ _ us hl => match us, hl with | [_, _], _ => rfl), fn_data Fd sc__law_tags rfl (by decide) (by decide) vc (fun _ => oS_s) fun cdv A outer s H E W hg hr tk => b__law_tags G h__law_take hg hr tk⟩, Fd.kp, g__law_tags G⟩
theorem no__law_tags (G : Fx K mg base) : OkF prog w K mg base k "_law_tags" P__law_tags 2 [0] fdVoid := .void (D__law_tags G) (fun _ _ _ _ _ _ us hl => match us, hl with | [_, _], _ => rfl) (g__law_tags G)
end
/-! ### _law_test -/
abbrev N__law_test : List Str := ["bag", "tags", "deep", "word", "k"]
def eo1__law_test (F__law_some : FD) (F__law_tags : FD) (F__law_test : FD) (F__law_take : FD) : EX := (eCall 3 F__law_test [0] (eaLate 0 (eaCons (eFr 1) (eaCons (eZ (pOp opSub (pVar 2) (pC (.int 1)))) eaNil))))
def s__law_test (F__law_some : FD) (F__law_tags : FD) (F__law_test : FD) (F__law_take : FD) : SX := (sSeq (sAsg (eFz (eIf (etP (tB (pOp opGt (pVar 2) (pC (.int 0))))) (eCall 2 F__law_some [0] (eaLate 0 (eaCons (eFz (eLst (eaCons (eZ (pC (.str "has"))) (eaCons (eZ (pC (.str "has"))) (eaCons (eZ (pC (.str "first"))) (eaCons (eZ (pC (.str "last"))) (eaCons (eZ (pC (.str "none"))) (eaCons (eZ (pC (.str "not"))) (eaCons (eZ (pC (.str "and"))) (eaCons (eZ (pC (.str "or"))) eaNil)))))))))) eaNil))) (eCall 2 F__law_some [0] (eaLate 0 (eaCons (eFz (eLst (eaCons (eZ (pC (.str "has"))) (eaCons (eZ (pC (.str "first"))) (eaCons (eZ (pC (.str "last"))) (eaCons (eZ (pC (.str "none"))) eaNil)))))) eaNil))))) (goN 3))
    (sSeq (sIf (etP (tB (pOp opIn (pVar 3) (pTup (paCons (pC (.str "has")) (paCons (pC (.str "first")) (paCons (pC (.str "last")) paNil)))))))
    (sRet (eTup (eaCons (eFr 3) (eaCons (eCall 2 F__law_tags [0] (eaLate 0 (eaCons (eFr 1) eaNil))) eaNil))))
    sNext)
    (sSeq (sIf (etP (tB (pOp opEq (pVar 3) (pC (.str "none")))))
    (sRet (eTup (eaCons (eFr 3) eaNil)))
    sNext)
    (sSeq (sIf (etP (tB (pOp opEq (pVar 3) (pC (.str "not")))))
    (sRet (eTup (eaCons (eFr 3) (eaCons (eCall 3 F__law_test [0] (eaLate 0 (eaCons (eFr 1) (eaCons (eZ (pOp opSub (pVar 2) (pC (.int 1)))) eaNil)))) eaNil))))
    sNext)
    (sRet (eTup (eaCons (eFr 3) (eaCons (eCB fTuple (eaCons (eComp [4] (eiRange (eaCons (eCall 2 F__law_take [0] (eaLate 0 (eaCons (eZ (pC (.int 3))) eaNil))) eaNil)) (gN 4) (etP tYesP) (eo1__law_test F__law_some F__law_tags F__law_test F__law_take)) eaNil)) eaNil))))))))
theorem sc__law_test : L2.FnScope N__law_test P__law_test (L2.defScope (top 29)) := ⟨rfl, rfl, rfl, by decide +kernel, rfl, by decide +kernel, by decide +kernel⟩
section
variable {w : World} {K : PySem.W.Frag} {mg : Str → Option Value} {base : Heap} {k : Nat} {F__law_some : FD} {F__law_tags : FD} {F__law_test : FD} {F__law_take : FD}
theorem b__law_test (G : Fx K mg base) (h__law_some : OkF prog w K mg base k "_law_some" P__law_some 2 [0] F__law_some) (h__law_tags : OkF prog w K mg base k "_law_tags" P__law_tags 2 [0] F__law_tags) (h__law_test : OkF prog w K mg base k "_law_test" P__law_test 3 [0] F__law_test) (h__law_take : OkF prog w K mg base k "_law_take" P__law_take 2 [0] F__law_take) {cdv : Value} {A : Around} {outer : List Env} {s : Shared} {H : Hp} {E : L2.XK} {W : WX} (hg : A.guards = some []) (hr : L2.Room k (A.deeper (envOfC "_law_test" (L2.defScope (top 29)) s.heap.objs.size (He.ga K "_law_test") cdv))) (tk : L2.Takes (L2.cxOf (L2.CX prog w) prog w K mg base N__law_test "_law_test" (L2.defScope (top 29)) (He.ga K "_law_test") cdv A outer s H E) W) :
    Ss (L2.cxOf (L2.CX prog w) prog w K mg base N__law_test "_law_test" (L2.defScope (top 29)) (He.ga K "_law_test") cdv A outer s H E) W [0] true (L2.defBody (top 29)) (s__law_test F__law_some F__law_tags F__law_test F__law_take) := by
  have C : Ct (L2.cxOf (L2.CX prog w) prog w K mg base N__law_test "_law_test" (L2.defScope (top 29)) (He.ga K "_law_test") cdv A outer s H E) W k := ⟨hr, hg, tk, rfl, sc__law_test.nd⟩
  have po : Po (L2.cxOf (L2.CX prog w) prog w K mg base N__law_test "_law_test" (L2.defScope (top 29)) (He.ga K "_law_test") cdv A outer s H E) := L2.passes_of rfl
  exact (zCons (zSet C 3 (yFz (yIf (uP (tCmp (kGt C) (xV 2) xInt)) (yC h__law_some C (bLate 0 (bCons (yFz (yLst (bCons (yZ xStr) (bCons (yZ xStr) (bCons (yZ xStr) (bCons (yZ xStr) (bCons (yZ xStr) (bCons (yZ xStr) (bCons (yZ xStr) (bCons (yZ xStr) bNil)))))))))) bNil))) (yC h__law_some C (bLate 0 (bCons (yFz (yLst (bCons (yZ xStr) (bCons (yZ xStr) (bCons (yZ xStr) (bCons (yZ xStr) bNil)))))) bNil))))))
    (zCons (zIf (uP (tCmp (kIn C) (xV 3) (xTup (aCons xStr (aCons xStr (aCons xStr aNil))))))
    (zOne (zRet (yTup (bCons (yFr 3) (bCons (yC h__law_tags C (bLate 0 (bCons (yFr 1) bNil))) bNil)))))
    zNil)
    (zCons (zIf (uP (tCmp (kEq C) (xV 3) xStr))
    (zOne (zRet (yTup (bCons (yFr 3) bNil))))
    zNil)
    (zCons (zIf (uP (tCmp (kEq C) (xV 3) xStr))
    (zOne (zRet (yTup (bCons (yFr 3) (bCons (yC h__law_test C (bLate 0 (bCons (yFr 1) (bCons (yZ (xOp oSub (xV 2) xInt)) bNil)))) bNil)))))
    zNil)
    (zOne (zRet (yTup (bCons (yFr 3) (bCons (yT (bTuple C) (f_tuple G) (bCons (yLc C [("k", 4)] (jR1 (f_range G) (yC h__law_take C (bLate 0 (bCons (yZ xInt) bNil)))) (fun _ _ _ _ _ C1 => (eV C1 4)) (fun _ _ _ _ _ C1 => (usP tsNil)) (fun _ _ _ _ _ C1 => (yC h__law_test C1 (bLate 0 (bCons (yFr 1) (bCons (yZ (xOp oSub (xV 2) xInt)) bNil)))))) bNil)) bNil)))))))))
theorem ok__law_test (G : Fx K mg base) (h__law_some : OkF prog w K mg base k "_law_some" P__law_some 2 [0] F__law_some) (h__law_tags : OkF prog w K mg base k "_law_tags" P__law_tags 2 [0] F__law_tags) (h__law_test : OkF prog w K mg base k "_law_test" P__law_test 3 [0] F__law_test) (h__law_take : OkF prog w K mg base k "_law_take" P__law_take 2 [0] F__law_take) {F : FD} (vc : ∀ os Qd Xd, os.length = 3 → F os Qd Xd → s__law_test F__law_some F__law_tags F__law_test F__law_take (fnEn [0] Qd Xd) (startD 5 os)) : OkF prog w K mg base (k + 1) "_law_test" P__law_test 3 [0] F := by
  obtain ⟨fd, Fd⟩ := D__law_test G
  exact ⟨⟨fd, Fd.bindsN (fun _ _ _ _ _ _ us hl => match us, hl with | [_, _, _], _ => rfl), fn_data Fd sc__law_test rfl (by decide) (by decide) vc (fun _ => oS_s) fun cdv A outer s H E W hg hr tk => b__law_test G h__law_some h__law_tags h__law_test h__law_take hg hr tk⟩, Fd.kp, g__law_test G⟩
theorem no__law_test (G : Fx K mg base) : OkF prog w K mg base k "_law_test" P__law_test 3 [0] fdVoid := .void (D__law_test G) (fun _ _ _ _ _ _ us hl => match us, hl with | [_, _, _], _ => rfl) (g__law_test G)
end
/-! ### _law_parts -/
abbrev N__law_parts : List Str := ["bag", "kit", "deep", "found", "k", "word"]
def L1__law_parts (F__law_some : FD) (F__law_parts : FD) (F__law_tags : FD) (F__law_test : FD) : SX := (sSeq (sAsg (eFz (eIf (etP (tB (pOp opGt (pVar 2) (pC (.int 0))))) (eCall 2 F__law_some [0] (eaLate 0 (eaCons (eFz (eLst (eaCons (eZ (pC (.str "page"))) (eaCons (eZ (pC (.str "page"))) (eaCons (eZ (pC (.str "apply"))) (eaCons (eZ (pC (.str "apply"))) (eaCons (eZ (pC (.str "if"))) eaNil))))))) eaNil))) (eCall 2 F__law_some [0] (eaLate 0 (eaCons (eFz (eLst (eaCons (eZ (pC (.str "page"))) (eaCons (eZ (pC (.str "apply"))) eaNil)))) eaNil))))) (goN 5))
    (sIf (etP (tB (pOp opEq (pVar 5) (pC (.str "page")))))
    (sApp 3 (eTup (eaCons (eZ (pC (.str "page"))) (eaCons (eCall 2 F__law_some [0] (eaLate 0 (eaCons (eRd (pthS (pth0 1) (pC (.int 2)))) eaNil))) (eaCons (eIf (etP (tB (pOp opGt (pVar 2) (pC (.int 0))))) (eCall 3 F__law_parts [0] (eaLate 0 (eaCons (eFr 1) (eaCons (eZ (pOp opSub (pVar 2) (pC (.int 1)))) eaNil)))) (eTup eaNil)) eaNil)))))
    (sIf (etP (tB (pOp opEq (pVar 5) (pC (.str "apply")))))
    (sApp 3 (eTup (eaCons (eZ (pC (.str "apply"))) (eaCons (eCall 2 F__law_some [0] (eaLate 0 (eaCons (eRd (pthS (pth0 1) (pC (.int 0)))) eaNil))) (eaCons (eCall 2 F__law_some [0] (eaLate 0 (eaCons (eFz (eLst (eaCons (eZ (pC .non)) (eaCons (eZ (pC .non)) (eaCons (eCall 2 F__law_tags [0] (eaLate 0 (eaCons (eRd (pthS (pth0 1) (pC (.int 1)))) eaNil))) eaNil))))) eaNil))) eaNil)))))
    (sApp 3 (eTup (eaCons (eZ (pC (.str "if"))) (eaCons (eCall 3 F__law_test [0] (eaLate 0 (eaCons (eRd (pthS (pth0 1) (pC (.int 1)))) (eaCons (eZ (pC (.int 1))) eaNil)))) (eaCons (eCall 3 F__law_parts [0] (eaLate 0 (eaCons (eFr 1) (eaCons (eZ (pOp opSub (pVar 2) (pC (.int 1)))) eaNil)))) (eaCons (eCall 3 F__law_parts [0] (eaLate 0 (eaCons (eFr 1) (eaCons (eZ (pOp opSub (pVar 2) (pC (.int 1)))) eaNil)))) eaNil)))))))))
def s__law_parts (F__law_some : FD) (F__law_parts : FD) (F__law_tags : FD) (F__law_test : FD) : SX := (sSeq (sAsg (eLst eaNil) (goN 3))
    (sSeq (sFor (eiRange (eaCons (eCall 2 F__law_some [0] (eaLate 0 (eaCons (eFz (eLst (eaCons (eZ (pC (.int 0))) (eaCons (eZ (pC (.int 1))) (eaCons (eZ (pC (.int 1))) (eaCons (eZ (pC (.int 2))) eaNil)))))) eaNil))) eaNil)) (gN 4)
    (L1__law_parts F__law_some F__law_parts F__law_tags F__law_test))
    (sRet (eP (pCB fTuple (paCons (pVar 3) paNil))))))
theorem sc__law_parts : L2.FnScope N__law_parts P__law_parts (L2.defScope (top 30)) := ⟨rfl, rfl, rfl, by decide +kernel, rfl, by decide +kernel, by decide +kernel⟩
section
variable {w : World} {K : PySem.W.Frag} {mg : Str → Option Value} {base : Heap} {k : Nat} {F__law_some : FD} {F__law_parts : FD} {F__law_tags : FD} {F__law_test : FD}
theorem b__law_parts (G : Fx K mg base) (h__law_some : OkF prog w K mg base k "_law_some" P__law_some 2 [0] F__law_some) (h__law_parts : OkF prog w K mg base k "_law_parts" P__law_parts 3 [0] F__law_parts) (h__law_tags : OkF prog w K mg base k "_law_tags" P__law_tags 2 [0] F__law_tags) (h__law_test : OkF prog w K mg base k "_law_test" P__law_test 3 [0] F__law_test) {cdv : Value} {A : Around} {outer : List Env} {s : Shared} {H : Hp} {E : L2.XK} {W : WX} (hg : A.guards = some []) (hr : L2.Room k (A.deeper (envOfC "_law_parts" (L2.defScope (top 30)) s.heap.objs.size (He.ga K "_law_parts") cdv))) (tk : L2.Takes (L2.cxOf (L2.CX prog w) prog w K mg base N__law_parts "_law_parts" (L2.defScope (top 30)) (He.ga K "_law_parts") cdv A outer s H E) W) :
    Ss (L2.cxOf (L2.CX prog w) prog w K mg base N__law_parts "_law_parts" (L2.defScope (top 30)) (He.ga K "_law_parts") cdv A outer s H E) W [0] true (L2.defBody (top 30)) (s__law_parts F__law_some F__law_parts F__law_tags F__law_test) := by
  have C : Ct (L2.cxOf (L2.CX prog w) prog w K mg base N__law_parts "_law_parts" (L2.defScope (top 30)) (He.ga K "_law_parts") cdv A outer s H E) W k := ⟨hr, hg, tk, rfl, sc__law_parts.nd⟩
  have po : Po (L2.cxOf (L2.CX prog w) prog w K mg base N__law_parts "_law_parts" (L2.defScope (top 30)) (He.ga K "_law_parts") cdv A outer s H E) := L2.passes_of rfl
  exact (zCons (zSet C 3 (yLst bNil))
    (zCons (zFor0 (own := [4]) po C (j0R1 (f_range G) (yC h__law_some C (bLate 0 (bCons (yFz (yLst (bCons (yZ xInt) (bCons (yZ xInt) (bCons (yZ xInt) (bCons (yZ xInt) bNil)))))) bNil)))) (eV C 4)
    (zCons (zSet C 5 (yFz (yIf (uP (tCmp (kGt C) (xV 2) xInt)) (yC h__law_some C (bLate 0 (bCons (yFz (yLst (bCons (yZ xStr) (bCons (yZ xStr) (bCons (yZ xStr) (bCons (yZ xStr) (bCons (yZ xStr) bNil))))))) bNil))) (yC h__law_some C (bLate 0 (bCons (yFz (yLst (bCons (yZ xStr) (bCons (yZ xStr) bNil)))) bNil))))))
    (zOne (zIf (uP (tCmp (kEq C) (xV 5) xStr))
    (zOne (zApp 3 (yTup (bCons (yZ xStr) (bCons (yC h__law_some C (bLate 0 (bCons (yRd (hIx (hV 1) xInt)) bNil))) (bCons (yIf (uP (tCmp (kGt C) (xV 2) xInt)) (yC h__law_parts C (bLate 0 (bCons (yFr 1) (bCons (yZ (xOp oSub (xV 2) xInt)) bNil)))) (yTup bNil)) bNil))))))
    (zOne (zIf (uP (tCmp (kEq C) (xV 5) xStr))
    (zOne (zApp 3 (yTup (bCons (yZ xStr) (bCons (yC h__law_some C (bLate 0 (bCons (yRd (hIx (hV 1) xInt)) bNil))) (bCons (yC h__law_some C (bLate 0 (bCons (yFz (yLst (bCons (yZ xNon) (bCons (yZ xNon) (bCons (yC h__law_tags C (bLate 0 (bCons (yRd (hIx (hV 1) xInt)) bNil))) bNil))))) bNil))) bNil))))))
    (zOne (zApp 3 (yTup (bCons (yZ xStr) (bCons (yC h__law_test C (bLate 0 (bCons (yRd (hIx (hV 1) xInt)) (bCons (yZ xInt) bNil)))) (bCons (yC h__law_parts C (bLate 0 (bCons (yFr 1) (bCons (yZ (xOp oSub (xV 2) xInt)) bNil)))) (bCons (yC h__law_parts C (bLate 0 (bCons (yFr 1) (bCons (yZ (xOp oSub (xV 2) xInt)) bNil)))) bNil)))))))))))))
    (zOne (zRet (yP (xT (bTuple C) (f_tuple G) (aCons (xV 3) aNil)))))))
theorem ok__law_parts (G : Fx K mg base) (h__law_some : OkF prog w K mg base k "_law_some" P__law_some 2 [0] F__law_some) (h__law_parts : OkF prog w K mg base k "_law_parts" P__law_parts 3 [0] F__law_parts) (h__law_tags : OkF prog w K mg base k "_law_tags" P__law_tags 2 [0] F__law_tags) (h__law_test : OkF prog w K mg base k "_law_test" P__law_test 3 [0] F__law_test) {F : FD} (vc : ∀ os Qd Xd, os.length = 3 → F os Qd Xd → s__law_parts F__law_some F__law_parts F__law_tags F__law_test (fnEn [0] Qd Xd) (startD 6 os)) : OkF prog w K mg base (k + 1) "_law_parts" P__law_parts 3 [0] F := by
  obtain ⟨fd, Fd⟩ := D__law_parts G
  exact ⟨⟨fd, Fd.bindsN (fun _ _ _ _ _ _ us hl => match us, hl with | [_, _, _], _ => rfl), fn_data Fd sc__law_parts rfl (by decide) (by decide) vc (fun _ => oS_s) fun cdv A outer s H E W hg hr tk => b__law_parts G h__law_some h__law_parts h__law_tags h__law_test hg hr tk⟩, Fd.kp, g__law_parts G⟩
theorem no__law_parts (G : Fx K mg base) : OkF prog w K mg base k "_law_parts" P__law_parts 3 [0] fdVoid := .void (D__law_parts G) (fun _ _ _ _ _ _ us hl => match us, hl with | [_, _, _], _ => rfl) (g__law_parts G)
end
/-! ### _law_template -/
abbrev N__law_template : List Str := ["bag", "tags", "modes", "rules", "mode", "tag", "parts"]
def L1__law_template (F__law_take : FD) (F__law_parts : FD) (F__law_many : FD) : SX := (sIf (etE (eOp opGt (eCall 2 F__law_take [0] (eaLate 0 (eaCons (eZ (pC (.int 5))) eaNil))) (eZ (pC (.int 0)))))
    (sSeq (sAsg (eFz (eCall 3 F__law_parts [0] (eaLate 0 (eaCons (eTup (eaCons (eFr 2) (eaCons (eFr 1) (eaCons (eTup (eaCons (eZ (pC (.str "p"))) (eaCons (eZ (pC (.str "q"))) eaNil))) eaNil)))) (eaCons (eZ (pC (.int 2))) eaNil))))) (goN 6))
    (sApp 3 (eTup (eaCons (eFr 4) (eaCons (eFr 5) (eaCons (eIf (etP (tB (pOp opLe (pCall 1 F__law_many (paCons (pVar 6) paNil)) (pC (.int 24))))) (eFr 6) (eIf (etP (tB (pOp opLe (pCall 1 F__law_many (paCons (pSl (pVar 6) poNone (poSome (pC (.int 1)))) paNil)) (pC (.int 24))))) (eZ (pSl (pVar 6) poNone (poSome (pC (.int 1))))) (eTup eaNil))) eaNil))))))
    sNext)
def L2__law_template (F__law_take : FD) (F__law_parts : FD) (F__law_many : FD) : SX := (sFor (eiSeq (eFr 1)) (gN 5)
    (L1__law_template F__law_take F__law_parts F__law_many))
def s__law_template (F__law_take : FD) (F__law_parts : FD) (F__law_many : FD) : SX := (sSeq (sAsg (eSlH (eTup (eaCons (eZ (pC (.str "m"))) (eaCons (eZ (pC (.str "n"))) eaNil))) (eOp opAdd (eZ (pC (.int 1))) (eCall 2 F__law_take [0] (eaLate 0 (eaCons (eZ (pC (.int 2))) eaNil))))) (goN 2))
    (sSeq (sAsg (eLst eaNil) (goN 3))
    (sSeq (sFor (eiSeq (eFr 2)) (gN 4)
    (L2__law_template F__law_take F__law_parts F__law_many))
    (sRet (eTup (eaCons (eFr 2) (eaCons (eP (pCB fTuple (paCons (pVar 3) paNil))) eaNil)))))))
theorem sc__law_template : L2.FnScope N__law_template P__law_template (L2.defScope (top 31)) := ⟨rfl, rfl, rfl, by decide +kernel, rfl, by decide +kernel, by decide +kernel⟩
section
variable {w : World} {K : PySem.W.Frag} {mg : Str → Option Value} {base : Heap} {k : Nat} {F__law_take : FD} {F__law_parts : FD} {F__law_many : FD}
theorem b__law_template (G : Fx K mg base) (h__law_take : OkF prog w K mg base k "_law_take" P__law_take 2 [0] F__law_take) (h__law_parts : OkF prog w K mg base k "_law_parts" P__law_parts 3 [0] F__law_parts) (h__law_many : OkF prog w K mg base k "_law_many" P__law_many 1 [] F__law_many) {cdv : Value} {A : Around} {outer : List Env} {s : Shared} {H : Hp} {E : L2.XK} {W : WX} (hg : A.guards = some []) (hr : L2.Room k (A.deeper (envOfC "_law_template" (L2.defScope (top 31)) s.heap.objs.size (He.ga K "_law_template") cdv))) (tk : L2.Takes (L2.cxOf (L2.CX prog w) prog w K mg base N__law_template "_law_template" (L2.defScope (top 31)) (He.ga K "_law_template") cdv A outer s H E) W) :
    Ss (L2.cxOf (L2.CX prog w) prog w K mg base N__law_template "_law_template" (L2.defScope (top 31)) (He.ga K "_law_template") cdv A outer s H E) W [0] true (L2.defBody (top 31)) (s__law_template F__law_take F__law_parts F__law_many) := by
  have C : Ct (L2.cxOf (L2.CX prog w) prog w K mg base N__law_template "_law_template" (L2.defScope (top 31)) (He.ga K "_law_template") cdv A outer s H E) W k := ⟨hr, hg, tk, rfl, sc__law_template.nd⟩
  have po : Po (L2.cxOf (L2.CX prog w) prog w K mg base N__law_template "_law_template" (L2.defScope (top 31)) (He.ga K "_law_template") cdv A outer s H E) := L2.passes_of rfl
  exact (zCons (zSet C 2 (ySlH (yTup (bCons (yZ xStr) (bCons (yZ xStr) bNil))) (yOp oAdd (yZ xInt) (yC h__law_take C (bLate 0 (bCons (yZ xInt) bNil))))))
    (zCons (zSet C 3 (yLst bNil))
    (zCons (zFor (own := [4]) po C (jSq (yFr 2)) (eV C 4)
    (zOne (zFor (own := [5]) po C (jSq (yFr 1)) (eV C 5)
    (zOne (zIf (uCmp (kGt C) (yC h__law_take C (bLate 0 (bCons (yZ xInt) bNil))) (yZ xInt))
    (zCons (zSet C 6 (yFz (yC h__law_parts C (bLate 0 (bCons (yTup (bCons (yFr 2) (bCons (yFr 1) (bCons (yTup (bCons (yZ xStr) (bCons (yZ xStr) bNil))) bNil)))) (bCons (yZ xInt) bNil))))))
    (zOne (zApp 3 (yTup (bCons (yFr 4) (bCons (yFr 5) (bCons (yIf (uP (tCmp (kLe C) (xC h__law_many C (aCons (xV 6) aNil)) xInt)) (yFr 6) (yIf (uP (tCmp (kLe C) (xC h__law_many C (aCons (xSl (xV 6) oNone (oSome xInt)) aNil)) xInt)) (yZ (xSl (xV 6) oNone (oSome xInt))) (yTup bNil))) bNil)))))))
    zNil)))))
    (zOne (zRet (yTup (bCons (yFr 2) (bCons (yP (xT (bTuple C) (f_tuple G) (aCons (xV 3) aNil))) bNil))))))))
theorem ok__law_template (G : Fx K mg base) (h__law_take : OkF prog w K mg base k "_law_take" P__law_take 2 [0] F__law_take) (h__law_parts : OkF prog w K mg base k "_law_parts" P__law_parts 3 [0] F__law_parts) (h__law_many : OkF prog w K mg base k "_law_many" P__law_many 1 [] F__law_many) {F : FD} (vc : ∀ os Qd Xd, os.length = 2 → F os Qd Xd → s__law_template F__law_take F__law_parts F__law_many (fnEn [0] Qd Xd) (startD 7 os)) : OkF prog w K mg base (k + 1) "_law_template" P__law_template 2 [0] F := by
  obtain ⟨fd, Fd⟩ := D__law_template G
  exact ⟨⟨fd, Fd.bindsN (fun _ _ _ _ _ _ us hl => match us, hl with | [_, _], _ => rfl), fn_data Fd sc__law_template rfl (by decide) (by decide) vc (fun _ => oS_s) fun cdv A outer s H E W hg hr tk => b__law_template G h__law_take h__law_parts h__law_many hg hr tk⟩, Fd.kp, g__law_template G⟩
theorem no__law_template (G : Fx K mg base) : OkF prog w K mg base k "_law_template" P__law_template 2 [0] fdVoid := .void (D__law_template G) (fun _ _ _ _ _ _ us hl => match us, hl with | [_, _], _ => rfl) (g__law_template G)
end
/-! ### _law_many -/
abbrev N__law_many : List Str := ["parts", "found", "part"]
def L1__law_many (F__law_all_parts : FD) (F__law_many_tests : FD) : SX := (sAug 1 ipAdd (pOp opAdd (pC (.int 1)) (pIf (tB (pOp opEq (pOp opIx (pVar 2) (pC (.int 0))) (pC (.str "if")))) (pCall 1 F__law_many_tests (paCons (pOp opIx (pVar 2) (pC (.int 1))) paNil)) (pC (.int 0)))))
def s__law_many (F__law_all_parts : FD) (F__law_many_tests : FD) : SX := (sSeq (sAsg (eZ (pC (.int 0))) (goN 1))
    (sSeq (sFor (eiSeq (eCall 1 F__law_all_parts [] (eaCons (eFr 0) eaNil))) (gN 2)
    (L1__law_many F__law_all_parts F__law_many_tests))
    (sRet (eFr 1))))
theorem sc__law_many : L2.FnScope N__law_many P__law_many (L2.defScope (top 32)) := ⟨rfl, rfl, rfl, by decide +kernel, rfl, by decide +kernel, by decide +kernel⟩
section
variable {w : World} {K : PySem.W.Frag} {mg : Str → Option Value} {base : Heap} {k : Nat} {F__law_all_parts : FD} {F__law_many_tests : FD}
theorem b__law_many (G : Fx K mg base) (h__law_all_parts : OkF prog w K mg base k "_law_all_parts" P__law_all_parts 1 [] F__law_all_parts) (h__law_many_tests : OkF prog w K mg base k "_law_many_tests" P__law_many_tests 1 [] F__law_many_tests) {cdv : Value} {A : Around} {outer : List Env} {s : Shared} {H : Hp} {E : L2.XK} {W : WX} (hg : A.guards = some []) (hr : L2.Room k (A.deeper (envOfC "_law_many" (L2.defScope (top 32)) s.heap.objs.size (He.ga K "_law_many") cdv))) (tk : L2.Takes (L2.cxOf (L2.CX prog w) prog w K mg base N__law_many "_law_many" (L2.defScope (top 32)) (He.ga K "_law_many") cdv A outer s H E) W) :
    Ss (L2.cxOf (L2.CX prog w) prog w K mg base N__law_many "_law_many" (L2.defScope (top 32)) (He.ga K "_law_many") cdv A outer s H E) W [] true (L2.defBody (top 32)) (s__law_many F__law_all_parts F__law_many_tests) := by
  have C : Ct (L2.cxOf (L2.CX prog w) prog w K mg base N__law_many "_law_many" (L2.defScope (top 32)) (He.ga K "_law_many") cdv A outer s H E) W k := ⟨hr, hg, tk, rfl, sc__law_many.nd⟩
  have po : Po (L2.cxOf (L2.CX prog w) prog w K mg base N__law_many "_law_many" (L2.defScope (top 32)) (He.ga K "_law_many") cdv A outer s H E) := L2.passes_of rfl
  exact (zCons (zSet C 1 (yZ xInt))
    (zCons (zFor (own := [2]) po C (jSq (yC h__law_all_parts C (bCons (yFr 0) bNil))) (eV C 2)
    (zOne (zAug C 1 iAdd (xOp oAdd xInt (xIf (tCmp (kEq C) (xIx (xV 2) xInt) xStr) (xC h__law_many_tests C (aCons (xIx (xV 2) xInt) aNil)) xInt)))))
    (zOne (zRet (yFr 1)))))
theorem ok__law_many (G : Fx K mg base) (h__law_all_parts : OkF prog w K mg base k "_law_all_parts" P__law_all_parts 1 [] F__law_all_parts) (h__law_many_tests : OkF prog w K mg base k "_law_many_tests" P__law_many_tests 1 [] F__law_many_tests) {F : FD} (vc : ∀ os Qd Xd, os.length = 1 → F os Qd Xd → s__law_many F__law_all_parts F__law_many_tests (fnEn [] Qd Xd) (startD 3 os)) : OkF prog w K mg base (k + 1) "_law_many" P__law_many 1 [] F := by
  obtain ⟨fd, Fd⟩ := D__law_many G
  exact ⟨⟨fd, Fd.bindsN (fun _ _ _ _ _ _ us hl => match us, hl with | [_], _ => rfl), fn_data Fd sc__law_many rfl (by decide) (by decide) vc (fun _ => oS_s) fun cdv A outer s H E W hg hr tk => b__law_many G h__law_all_parts h__law_many_tests hg hr tk⟩, Fd.kp, g__law_many G⟩
theorem no__law_many (G : Fx K mg base) : OkF prog w K mg base k "_law_many" P__law_many 1 [] fdVoid := .void (D__law_many G) (fun _ _ _ _ _ _ us hl => match us, hl with | [_], _ => rfl) (g__law_many G)
end
/-! ### _law_many_tests -/
abbrev N__law_many_tests : List Str := ["test", "one"]
def ep1__law_many_tests (F__law_many_tests : FD) : PX := (pCall 1 F__law_many_tests (paCons (pVar 1) paNil))
def s__law_many_tests (F__law_many_tests : FD) : SX := (sSeq (sIf (etP (tB (pOp opEq (pOp opIx (pVar 0) (pC (.int 0))) (pC (.str "not")))))
    (sRet (eZ (pOp opAdd (pC (.int 1)) (pCall 1 F__law_many_tests (paCons (pOp opIx (pVar 0) (pC (.int 1))) paNil)))))
    sNext)
    (sRet (eZ (pOp opAdd (pC (.int 1)) (pIf (tB (pOp opIn (pOp opIx (pVar 0) (pC (.int 0))) (pTup (paCons (pC (.str "and")) (paCons (pC (.str "or")) paNil))))) (pCB fSum (paCons (pComp [1] (piSeq (pOp opIx (pVar 0) (pC (.int 1)))) (gN 1) tYesP (ep1__law_many_tests F__law_many_tests)) paNil)) (pC (.int 0)))))))
theorem sc__law_many_tests : L2.FnScope N__law_many_tests P__law_many_tests (L2.defScope (top 33)) := ⟨rfl, rfl, rfl, by decide +kernel, rfl, by decide +kernel, by decide +kernel⟩
section
variable {w : World} {K : PySem.W.Frag} {mg : Str → Option Value} {base : Heap} {k : Nat} {F__law_many_tests : FD}
theorem b__law_many_tests (G : Fx K mg base) (h__law_many_tests : OkF prog w K mg base k "_law_many_tests" P__law_many_tests 1 [] F__law_many_tests) {cdv : Value} {A : Around} {outer : List Env} {s : Shared} {H : Hp} {E : L2.XK} {W : WX} (hg : A.guards = some []) (hr : L2.Room k (A.deeper (envOfC "_law_many_tests" (L2.defScope (top 33)) s.heap.objs.size (He.ga K "_law_many_tests") cdv))) (tk : L2.Takes (L2.cxOf (L2.CX prog w) prog w K mg base N__law_many_tests "_law_many_tests" (L2.defScope (top 33)) (He.ga K "_law_many_tests") cdv A outer s H E) W) :
    Ss (L2.cxOf (L2.CX prog w) prog w K mg base N__law_many_tests "_law_many_tests" (L2.defScope (top 33)) (He.ga K "_law_many_tests") cdv A outer s H E) W [] true (L2.defBody (top 33)) (s__law_many_tests F__law_many_tests) := by
  have C : Ct (L2.cxOf (L2.CX prog w) prog w K mg base N__law_many_tests "_law_many_tests" (L2.defScope (top 33)) (He.ga K "_law_many_tests") cdv A outer s H E) W k := ⟨hr, hg, tk, rfl, sc__law_many_tests.nd⟩
  have po : Po (L2.cxOf (L2.CX prog w) prog w K mg base N__law_many_tests "_law_many_tests" (L2.defScope (top 33)) (He.ga K "_law_many_tests") cdv A outer s H E) := L2.passes_of rfl
  exact (zCons (zIf (uP (tCmp (kEq C) (xIx (xV 0) xInt) xStr))
    (zOne (zRet (yZ (xOp oAdd xInt (xC h__law_many_tests C (aCons (xIx (xV 0) xInt) aNil))))))
    zNil)
    (zOne (zRet (yZ (xOp oAdd xInt (xIf (tCmp (kIn C) (xIx (xV 0) xInt) (xTup (aCons xStr (aCons xStr aNil)))) (xB (bSum C) (f_sum G) (aCons (xLc C [("one", 1)] (iSq (xIx (xV 0) xInt)) (fun _ _ _ _ _ C1 => (gV C1 1)) (fun _ _ _ _ _ C1 => tsNil) (fun _ _ _ _ _ C1 => (xC h__law_many_tests C1 (aCons (xV 1) aNil)))) aNil)) xInt))))))
theorem ok__law_many_tests (G : Fx K mg base) (h__law_many_tests : OkF prog w K mg base k "_law_many_tests" P__law_many_tests 1 [] F__law_many_tests) {F : FD} (vc : ∀ os Qd Xd, os.length = 1 → F os Qd Xd → s__law_many_tests F__law_many_tests (fnEn [] Qd Xd) (startD 2 os)) : OkF prog w K mg base (k + 1) "_law_many_tests" P__law_many_tests 1 [] F := by
  obtain ⟨fd, Fd⟩ := D__law_many_tests G
  exact ⟨⟨fd, Fd.bindsN (fun _ _ _ _ _ _ us hl => match us, hl with | [_], _ => rfl), fn_data Fd sc__law_many_tests rfl (by decide) (by decide) vc (fun _ => oS_s) fun cdv A outer s H E W hg hr tk => b__law_many_tests G h__law_many_tests hg hr tk⟩, Fd.kp, g__law_many_tests G⟩
theorem no__law_many_tests (G : Fx K mg base) : OkF prog w K mg base k "_law_many_tests" P__law_many_tests 1 [] fdVoid := .void (D__law_many_tests G) (fun _ _ _ _ _ _ us hl => match us, hl with | [_], _ => rfl) (g__law_many_tests G)
end
/-! ### _law_all_parts -/
abbrev N__law_all_parts : List Str := ["parts", "found", "part"]
def L1__law_all_parts (F__law_all_parts : FD) : SX := (sSeq (sApp 1 (eFr 2))
    (sIf (etP (tB (pOp opEq (pOp opIx (pVar 2) (pC (.int 0))) (pC (.str "page")))))
    (sExt 1 (eCall 1 F__law_all_parts [] (eaCons (eRd (pthS (pth0 2) (pC (.int 2)))) eaNil)))
    (sIf (etP (tB (pOp opEq (pOp opIx (pVar 2) (pC (.int 0))) (pC (.str "if")))))
    (sExt 1 (eCat (pCall 1 F__law_all_parts (paCons (pOp opIx (pVar 2) (pC (.int 2))) paNil)) (pCall 1 F__law_all_parts (paCons (pOp opIx (pVar 2) (pC (.int 3))) paNil))))
    sNext)))
def s__law_all_parts (F__law_all_parts : FD) : SX := (sSeq (sAsg (eLst eaNil) (goN 1))
    (sSeq (sFor (eiSeq (eFr 0)) (gN 2)
    (L1__law_all_parts F__law_all_parts))
    (sRet (eMv 1))))
theorem sc__law_all_parts : L2.FnScope N__law_all_parts P__law_all_parts (L2.defScope (top 34)) := ⟨rfl, rfl, rfl, by decide +kernel, rfl, by decide +kernel, by decide +kernel⟩
section
variable {w : World} {K : PySem.W.Frag} {mg : Str → Option Value} {base : Heap} {k : Nat} {F__law_all_parts : FD}
theorem b__law_all_parts (G : Fx K mg base) (h__law_all_parts : OkF prog w K mg base k "_law_all_parts" P__law_all_parts 1 [] F__law_all_parts) {cdv : Value} {A : Around} {outer : List Env} {s : Shared} {H : Hp} {E : L2.XK} {W : WX} (hg : A.guards = some []) (hr : L2.Room k (A.deeper (envOfC "_law_all_parts" (L2.defScope (top 34)) s.heap.objs.size (He.ga K "_law_all_parts") cdv))) (tk : L2.Takes (L2.cxOf (L2.CX prog w) prog w K mg base N__law_all_parts "_law_all_parts" (L2.defScope (top 34)) (He.ga K "_law_all_parts") cdv A outer s H E) W) :
    Ss (L2.cxOf (L2.CX prog w) prog w K mg base N__law_all_parts "_law_all_parts" (L2.defScope (top 34)) (He.ga K "_law_all_parts") cdv A outer s H E) W [] true (L2.defBody (top 34)) (s__law_all_parts F__law_all_parts) := by
  have C : Ct (L2.cxOf (L2.CX prog w) prog w K mg base N__law_all_parts "_law_all_parts" (L2.defScope (top 34)) (He.ga K "_law_all_parts") cdv A outer s H E) W k := ⟨hr, hg, tk, rfl, sc__law_all_parts.nd⟩
  have po : Po (L2.cxOf (L2.CX prog w) prog w K mg base N__law_all_parts "_law_all_parts" (L2.defScope (top 34)) (He.ga K "_law_all_parts") cdv A outer s H E) := L2.passes_of rfl
  exact (zCons (zSet C 1 (yLst bNil))
    (zCons (zFor (own := [2]) po C (jSq (yFr 0)) (eV C 2)
    (zCons (zApp 1 (yFr 2))
    (zOne (zIf (uP (tCmp (kEq C) (xIx (xV 2) xInt) xStr))
    (zOne (zExt 1 (yC h__law_all_parts C (bCons (yRd (hIx (hV 2) xInt)) bNil))))
    (zOne (zIf (uP (tCmp (kEq C) (xIx (xV 2) xInt) xStr))
    (zOne (zExt 1 (yCat (xC h__law_all_parts C (aCons (xIx (xV 2) xInt) aNil)) (xC h__law_all_parts C (aCons (xIx (xV 2) xInt) aNil)))))
    zNil))))))
    (zOne (zRet (yMv 1)))))
theorem ok__law_all_parts (G : Fx K mg base) (h__law_all_parts : OkF prog w K mg base k "_law_all_parts" P__law_all_parts 1 [] F__law_all_parts) {F : FD} (vc : ∀ os Qd Xd, os.length = 1 → F os Qd Xd → s__law_all_parts F__law_all_parts (fnEn [] Qd Xd) (startD 3 os)) : OkF prog w K mg base (k + 1) "_law_all_parts" P__law_all_parts 1 [] F := by
  obtain ⟨fd, Fd⟩ := D__law_all_parts G
  exact ⟨⟨fd, Fd.bindsN (fun _ _ _ _ _ _ us hl => match us, hl with | [_], _ => rfl), fn_data Fd sc__law_all_parts rfl (by decide) (by decide) vc (fun _ => oS_s) fun cdv A outer s H E W hg hr tk => b__law_all_parts G h__law_all_parts hg hr tk⟩, Fd.kp, g__law_all_parts G⟩
theorem no__law_all_parts (G : Fx K mg base) : OkF prog w K mg base k "_law_all_parts" P__law_all_parts 1 [] fdVoid := .void (D__law_all_parts G) (fun _ _ _ _ _ _ us hl => match us, hl with | [_], _ => rfl) (g__law_all_parts G)
end
/-! ### _law_straight -/
abbrev N__law_straight : List Str := ["bag", "tags", "modes", "rules", "mode", "tag", "call", "leaf", "inner", "shape", "k"]
def eo1__law_straight (F__law_take : FD) (F__law_some : FD) (F__law_mixed : FD) : EX := (eTup (eaCons (eZ (pC (.str "page"))) (eaCons (eCall 2 F__law_some [0] (eaLate 0 (eaCons (eFz (eLst (eaCons (eZ (pC (.str "p"))) (eaCons (eZ (pC (.str "q"))) eaNil)))) eaNil))) (eaCons (eTup eaNil) eaNil))))
def L1__law_straight (F__law_take : FD) (F__law_some : FD) (F__law_mixed : FD) : SX := (sIf (etE (eOp opGt (eCall 2 F__law_take [0] (eaLate 0 (eaCons (eZ (pC (.int 5))) eaNil))) (eZ (pC (.int 0)))))
    (sSeq (sAsg (eTup (eaCons (eZ (pC (.str "apply"))) (eaCons (eCall 2 F__law_some [0] (eaLate 0 (eaCons (eFz (eCBF fList (eaCons (eFr 2) eaNil))) eaNil))) (eaCons (eZ (pC .non)) eaNil)))) (goN 6))
    (sSeq (sAsg (eComp [10] (eiRange (eaCons (eCall 2 F__law_take [0] (eaLate 0 (eaCons (eZ (pC (.int 2))) eaNil))) eaNil)) (gN 10) (etP tYesP) (eo1__law_straight F__law_take F__law_some F__law_mixed)) (goF 7))
    (sSeq (sAsg (eCB fTuple (eaCons (eCall 2 F__law_mixed [0] (eaLate 0 (eaCons (eFz (eCat (pVar 7) (pLst (paCons (pVar 6) paNil)))) eaNil))) eaNil)) (goN 8))
    (sSeq (sAsg (eFz (eLst (eaCons (eFr 8) (eaCons (eTup (eaCons (eTup (eaCons (eZ (pC (.str "page"))) (eaCons (eCall 2 F__law_some [0] (eaLate 0 (eaCons (eFz (eLst (eaCons (eZ (pC (.str "p"))) (eaCons (eZ (pC (.str "q"))) eaNil)))) eaNil))) (eaCons (eFr 8) eaNil)))) eaNil)) (eaCons (eZ (pOp opAdd (pTup (paCons (pTup (paCons (pC (.str "page")) (paCons (pC (.str "p")) (paCons (pTup paNil) paNil)))) paNil)) (pVar 8))) eaNil))))) (goN 9))
    (sApp 3 (eTup (eaCons (eFr 4) (eaCons (eFr 5) (eaCons (eCall 2 F__law_some [0] (eaLate 0 (eaCons (eFr 9) eaNil))) eaNil)))))))))
    sNext)
def L2__law_straight (F__law_take : FD) (F__law_some : FD) (F__law_mixed : FD) : SX := (sFor (eiSeq (eFr 1)) (gN 5)
    (L1__law_straight F__law_take F__law_some F__law_mixed))
def s__law_straight (F__law_take : FD) (F__law_some : FD) (F__law_mixed : FD) : SX := (sSeq (sAsg (eSlH (eTup (eaCons (eZ (pC (.str "m"))) (eaCons (eZ (pC (.str "n"))) eaNil))) (eOp opAdd (eZ (pC (.int 1))) (eCall 2 F__law_take [0] (eaLate 0 (eaCons (eZ (pC (.int 2))) eaNil))))) (goN 2))
    (sSeq (sAsg (eLst eaNil) (goN 3))
    (sSeq (sFor (eiSeq (eFr 2)) (gN 4)
    (L2__law_straight F__law_take F__law_some F__law_mixed))
    (sRet (eTup (eaCons (eFr 2) (eaCons (eP (pCB fTuple (paCons (pVar 3) paNil))) eaNil)))))))
theorem sc__law_straight : L2.FnScope N__law_straight P__law_straight (L2.defScope (top 35)) := ⟨rfl, rfl, rfl, by decide +kernel, rfl, by decide +kernel, by decide +kernel⟩
section
variable {w : World} {K : PySem.W.Frag} {mg : Str → Option Value} {base : Heap} {k : Nat} {F__law_take : FD} {F__law_some : FD} {F__law_mixed : FD}
theorem b__law_straight (G : Fx K mg base) (h__law_take : OkF prog w K mg base k "_law_take" P__law_take 2 [0] F__law_take) (h__law_some : OkF prog w K mg base k "_law_some" P__law_some 2 [0] F__law_some) (h__law_mixed : OkF prog w K mg base k "_law_mixed" P__law_mixed 2 [0] F__law_mixed) {cdv : Value} {A : Around} {outer : List Env} {s : Shared} {H : Hp} {E : L2.XK} {W : WX} (hg : A.guards = some []) (hr : L2.Room k (A.deeper (envOfC "_law_straight" (L2.defScope (top 35)) s.heap.objs.size (He.ga K "_law_straight") cdv))) (tk : L2.Takes (L2.cxOf (L2.CX prog w) prog w K mg base N__law_straight "_law_straight" (L2.defScope (top 35)) (He.ga K "_law_straight") cdv A outer s H E) W) :
    Ss (L2.cxOf (L2.CX prog w) prog w K mg base N__law_straight "_law_straight" (L2.defScope (top 35)) (He.ga K "_law_straight") cdv A outer s H E) W [0] true (L2.defBody (top 35)) (s__law_straight F__law_take F__law_some F__law_mixed) := by
  have C : Ct (L2.cxOf (L2.CX prog w) prog w K mg base N__law_straight "_law_straight" (L2.defScope (top 35)) (He.ga K "_law_straight") cdv A outer s H E) W k := ⟨hr, hg, tk, rfl, sc__law_straight.nd⟩
  have po : Po (L2.cxOf (L2.CX prog w) prog w K mg base N__law_straight "_law_straight" (L2.defScope (top 35)) (He.ga K "_law_straight") cdv A outer s H E) := L2.passes_of rfl
  exact (zCons (zSet C 2 (ySlH (yTup (bCons (yZ xStr) (bCons (yZ xStr) bNil))) (yOp oAdd (yZ xInt) (yC h__law_take C (bLate 0 (bCons (yZ xInt) bNil))))))
    (zCons (zSet C 3 (yLst bNil))
    (zCons (zFor (own := [4]) po C (jSq (yFr 2)) (eV C 4)
    (zOne (zFor (own := [5]) po C (jSq (yFr 1)) (eV C 5)
    (zOne (zIf (uCmp (kGt C) (yC h__law_take C (bLate 0 (bCons (yZ xInt) bNil))) (yZ xInt))
    (zCons (zSet C 6 (yTup (bCons (yZ xStr) (bCons (yC h__law_some C (bLate 0 (bCons (yFz (yTF (bList C) (f_list G) (bCons (yFr 2) bNil))) bNil))) (bCons (yZ xNon) bNil)))))
    (zCons (zLcF C 7 [("k", 10)] (jR1 (f_range G) (yC h__law_take C (bLate 0 (bCons (yZ xInt) bNil)))) (fun _ _ _ _ _ C1 => (eV C1 10)) (fun _ _ _ _ _ C1 => (usP tsNil)) (fun _ _ _ _ _ C1 => (yTup (bCons (yZ xStr) (bCons (yC h__law_some C1 (bLate 0 (bCons (yFz (yLst (bCons (yZ xStr) (bCons (yZ xStr) bNil)))) bNil))) (bCons (yTup bNil) bNil))))))
    (zCons (zSet C 8 (yT (bTuple C) (f_tuple G) (bCons (yC h__law_mixed C (bLate 0 (bCons (yFz (yCat (xV 7) (xLst (aCons (xV 6) aNil)))) bNil))) bNil)))
    (zCons (zSet C 9 (yFz (yLst (bCons (yFr 8) (bCons (yTup (bCons (yTup (bCons (yZ xStr) (bCons (yC h__law_some C (bLate 0 (bCons (yFz (yLst (bCons (yZ xStr) (bCons (yZ xStr) bNil)))) bNil))) (bCons (yFr 8) bNil)))) bNil)) (bCons (yZ (xOp oAdd (xTup (aCons (xTup (aCons xStr (aCons xStr (aCons (xTup aNil) aNil)))) aNil)) (xV 8))) bNil))))))
    (zOne (zApp 3 (yTup (bCons (yFr 4) (bCons (yFr 5) (bCons (yC h__law_some C (bLate 0 (bCons (yFr 9) bNil))) bNil))))))))))
    zNil)))))
    (zOne (zRet (yTup (bCons (yFr 2) (bCons (yP (xT (bTuple C) (f_tuple G) (aCons (xV 3) aNil))) bNil))))))))
theorem ok__law_straight (G : Fx K mg base) (h__law_take : OkF prog w K mg base k "_law_take" P__law_take 2 [0] F__law_take) (h__law_some : OkF prog w K mg base k "_law_some" P__law_some 2 [0] F__law_some) (h__law_mixed : OkF prog w K mg base k "_law_mixed" P__law_mixed 2 [0] F__law_mixed) {F : FD} (vc : ∀ os Qd Xd, os.length = 2 → F os Qd Xd → s__law_straight F__law_take F__law_some F__law_mixed (fnEn [0] Qd Xd) (startD 11 os)) : OkF prog w K mg base (k + 1) "_law_straight" P__law_straight 2 [0] F := by
  obtain ⟨fd, Fd⟩ := D__law_straight G
  exact ⟨⟨fd, Fd.bindsN (fun _ _ _ _ _ _ us hl => match us, hl with | [_, _], _ => rfl), fn_data Fd sc__law_straight rfl (by decide) (by decide) vc (fun _ => oS_s) fun cdv A outer s H E W hg hr tk => b__law_straight G h__law_take h__law_some h__law_mixed hg hr tk⟩, Fd.kp, g__law_straight G⟩
theorem no__law_straight (G : Fx K mg base) : OkF prog w K mg base k "_law_straight" P__law_straight 2 [0] fdVoid := .void (D__law_straight G) (fun _ _ _ _ _ _ us hl => match us, hl with | [_, _], _ => rfl) (g__law_straight G)
end
/-! ### _law_word -/
abbrev N__law_word : List Str := ["tags", "trees", "found", "tag", "inner"]
def L1__law_word (F__law_word : FD) : SX := (sExt 2 (eCat (pOp opAdd (pLst (paCons (pOp opMul (pC (.int 2)) (pTIx (pVar 0) (pVar 3))) paNil)) (pCall 2 F__law_word (paCons (pVar 0) (paCons (pVar 4) paNil)))) (pLst (paCons (pOp opAdd (pOp opMul (pC (.int 2)) (pTIx (pVar 0) (pVar 3))) (pC (.int 1))) paNil))))
def s__law_word (F__law_word : FD) : SX := (sSeq (sAsg (eLst eaNil) (goN 2))
    (sSeq (sFor (eiSeq (eFr 1)) (gT 2 (gsCons (gN 3) (gsCons (gN 4) gsNil)))
    (L1__law_word F__law_word))
    (sRet (eMv 2))))
theorem sc__law_word : L2.FnScope N__law_word P__law_word (L2.defScope (top 37)) := ⟨rfl, rfl, rfl, by decide +kernel, rfl, by decide +kernel, by decide +kernel⟩
section
variable {w : World} {K : PySem.W.Frag} {mg : Str → Option Value} {base : Heap} {k : Nat} {F__law_word : FD}
theorem b__law_word (G : Fx K mg base) (h__law_word : OkF prog w K mg base k "_law_word" P__law_word 2 [] F__law_word) {cdv : Value} {A : Around} {outer : List Env} {s : Shared} {H : Hp} {E : L2.XK} {W : WX} (hg : A.guards = some []) (hr : L2.Room k (A.deeper (envOfC "_law_word" (L2.defScope (top 37)) s.heap.objs.size (He.ga K "_law_word") cdv))) (tk : L2.Takes (L2.cxOf (L2.CX prog w) prog w K mg base N__law_word "_law_word" (L2.defScope (top 37)) (He.ga K "_law_word") cdv A outer s H E) W) :
    Ss (L2.cxOf (L2.CX prog w) prog w K mg base N__law_word "_law_word" (L2.defScope (top 37)) (He.ga K "_law_word") cdv A outer s H E) W [] true (L2.defBody (top 37)) (s__law_word F__law_word) := by
  have C : Ct (L2.cxOf (L2.CX prog w) prog w K mg base N__law_word "_law_word" (L2.defScope (top 37)) (He.ga K "_law_word") cdv A outer s H E) W k := ⟨hr, hg, tk, rfl, sc__law_word.nd⟩
  have po : Po (L2.cxOf (L2.CX prog w) prog w K mg base N__law_word "_law_word" (L2.defScope (top 37)) (He.ga K "_law_word") cdv A outer s H E) := L2.passes_of rfl
  exact (zCons (zSet C 2 (yLst bNil))
    (zCons (zFor (own := [3, 4]) po C (jSq (yFr 1)) (eTu C (esC (eV C 3) (esC (eV C 4) esN)))
    (zOne (zExt 2 (yCat (xOp oAdd (xLst (aCons (xOp oMul xInt (xTIx (xV 0) (xV 3))) aNil)) (xC h__law_word C (aCons (xV 0) (aCons (xV 4) aNil)))) (xLst (aCons (xOp oAdd (xOp oMul xInt (xTIx (xV 0) (xV 3))) xInt) aNil))))))
    (zOne (zRet (yMv 2)))))
theorem ok__law_word (G : Fx K mg base) (h__law_word : OkF prog w K mg base k "_law_word" P__law_word 2 [] F__law_word) {F : FD} (vc : ∀ os Qd Xd, os.length = 2 → F os Qd Xd → s__law_word F__law_word (fnEn [] Qd Xd) (startD 5 os)) : OkF prog w K mg base (k + 1) "_law_word" P__law_word 2 [] F := by
  obtain ⟨fd, Fd⟩ := D__law_word G
  exact ⟨⟨fd, Fd.bindsN (fun _ _ _ _ _ _ us hl => match us, hl with | [_, _], _ => rfl), fn_data Fd sc__law_word rfl (by decide) (by decide) vc (fun _ => oS_s) fun cdv A outer s H E W hg hr tk => b__law_word G h__law_word hg hr tk⟩, Fd.kp, g__law_word G⟩
theorem no__law_word (G : Fx K mg base) : OkF prog w K mg base k "_law_word" P__law_word 2 [] fdVoid := .void (D__law_word G) (fun _ _ _ _ _ _ us hl => match us, hl with | [_, _], _ => rfl) (g__law_word G)
end
/-! ### _law_times -/
abbrev N__law_times : List Str := ["one", "other", "a", "b", "c", "d", "e", "f", "g", "h"]
def s__law_times : SX := (sSeq (sAsg (eTup (eaCons (eFr 0) (eaCons (eFr 1) eaNil))) (goT (gT 2 (gsCons (gT 4 (gsCons (gN 2) (gsCons (gN 3) (gsCons (gN 4) (gsCons (gN 5) gsNil))))) (gsCons (gT 4 (gsCons (gN 6) (gsCons (gN 7) (gsCons (gN 8) (gsCons (gN 9) gsNil))))) gsNil)))))
    (sRet (eTup (eaCons (eZ (pOp opAdd (pOp opMul (pVar 2) (pVar 6)) (pOp opMul (pVar 3) (pVar 8)))) (eaCons (eZ (pOp opAdd (pOp opMul (pVar 2) (pVar 7)) (pOp opMul (pVar 3) (pVar 9)))) (eaCons (eZ (pOp opAdd (pOp opMul (pVar 4) (pVar 6)) (pOp opMul (pVar 5) (pVar 8)))) (eaCons (eZ (pOp opAdd (pOp opMul (pVar 4) (pVar 7)) (pOp opMul (pVar 5) (pVar 9)))) eaNil)))))))
theorem sc__law_times : L2.FnScope N__law_times P__law_times (L2.defScope (top 38)) := ⟨rfl, rfl, rfl, by decide +kernel, rfl, by decide +kernel, by decide +kernel⟩
section
variable {w : World} {K : PySem.W.Frag} {mg : Str → Option Value} {base : Heap} {k : Nat}
theorem b__law_times (G : Fx K mg base) {cdv : Value} {A : Around} {outer : List Env} {s : Shared} {H : Hp} {E : L2.XK} {W : WX} (hg : A.guards = some []) (hr : L2.Room k (A.deeper (envOfC "_law_times" (L2.defScope (top 38)) s.heap.objs.size (He.ga K "_law_times") cdv))) (tk : L2.Takes (L2.cxOf (L2.CX prog w) prog w K mg base N__law_times "_law_times" (L2.defScope (top 38)) (He.ga K "_law_times") cdv A outer s H E) W) :
    Ss (L2.cxOf (L2.CX prog w) prog w K mg base N__law_times "_law_times" (L2.defScope (top 38)) (He.ga K "_law_times") cdv A outer s H E) W [] true (L2.defBody (top 38)) (s__law_times) := by
  have C : Ct (L2.cxOf (L2.CX prog w) prog w K mg base N__law_times "_law_times" (L2.defScope (top 38)) (He.ga K "_law_times") cdv A outer s H E) W k := ⟨hr, hg, tk, rfl, sc__law_times.nd⟩
  have po : Po (L2.cxOf (L2.CX prog w) prog w K mg base N__law_times "_law_times" (L2.defScope (top 38)) (He.ga K "_law_times") cdv A outer s H E) := L2.passes_of rfl
  exact (zCons (zTg (own := [2, 3, 4, 5, 6, 7, 8, 9]) (yTup (bCons (yFr 0) (bCons (yFr 1) bNil))) (eTu C (esC (eTu C (esC (eV C 2) (esC (eV C 3) (esC (eV C 4) (esC (eV C 5) esN))))) (esC (eTu C (esC (eV C 6) (esC (eV C 7) (esC (eV C 8) (esC (eV C 9) esN))))) esN))))
    (zOne (zRet (yTup (bCons (yZ (xOp oAdd (xOp oMul (xV 2) (xV 6)) (xOp oMul (xV 3) (xV 8)))) (bCons (yZ (xOp oAdd (xOp oMul (xV 2) (xV 7)) (xOp oMul (xV 3) (xV 9)))) (bCons (yZ (xOp oAdd (xOp oMul (xV 4) (xV 6)) (xOp oMul (xV 5) (xV 8)))) (bCons (yZ (xOp oAdd (xOp oMul (xV 4) (xV 7)) (xOp oMul (xV 5) (xV 9)))) bNil))))))))
theorem ok__law_times (G : Fx K mg base) {F : FD} (vc : ∀ os Qd Xd, os.length = 2 → F os Qd Xd → s__law_times (fnEn [] Qd Xd) (startD 10 os)) : OkF prog w K mg base (k + 1) "_law_times" P__law_times 2 [] F := by
  obtain ⟨fd, Fd⟩ := D__law_times G
  exact ⟨⟨fd, Fd.bindsN (fun _ _ _ _ _ _ us hl => match us, hl with | [_, _], _ => rfl), fn_data Fd sc__law_times rfl (by decide) (by decide) vc (fun _ => oS_s) fun cdv A outer s H E W hg hr tk => b__law_times G hg hr tk⟩, Fd.kp, g__law_times G⟩
theorem no__law_times (G : Fx K mg base) : OkF prog w K mg base k "_law_times" P__law_times 2 [] fdVoid := .void (D__law_times G) (fun _ _ _ _ _ _ us hl => match us, hl with | [_, _], _ => rfl) (g__law_times G)
end
/-! ### _law_matrix -/
abbrev N__law_matrix : List Str := ["word", "found", "letter", "turn"]
def L1__law_matrix (F__law_times : FD) : SX := (sAsg (eFz (eCall 2 F__law_times [] (eaCons (eFr 1) (eaCons (eTup (eaCons (eZ (pC (.int 1))) (eaCons (eZ (pC (.int 1))) (eaCons (eZ (pC (.int 0))) (eaCons (eZ (pC (.int 1))) eaNil))))) eaNil)))) (goN 1))
def L2__law_matrix (F__law_times : FD) : SX := (sSeq (sFor (eiRange (eaCons (eFr 2) eaNil)) (gN 3)
    (L1__law_matrix F__law_times))
    (sAsg (eFz (eCall 2 F__law_times [] (eaCons (eFr 1) (eaCons (eTup (eaCons (eZ (pC (.int 1))) (eaCons (eZ (pC (.int 0))) (eaCons (eZ (pC (.int 1))) (eaCons (eZ (pC (.int 1))) eaNil))))) eaNil)))) (goN 1)))
def s__law_matrix (F__law_times : FD) : SX := (sSeq (sAsg (eTup (eaCons (eZ (pC (.int 1))) (eaCons (eZ (pC (.int 0))) (eaCons (eZ (pC (.int 0))) (eaCons (eZ (pC (.int 1))) eaNil))))) (goN 1))
    (sSeq (sFor (eiSeq (eFr 0)) (gN 2)
    (L2__law_matrix F__law_times))
    (sRet (eFr 1))))
theorem sc__law_matrix : L2.FnScope N__law_matrix P__law_matrix (L2.defScope (top 39)) := ⟨rfl, rfl, rfl, by decide +kernel, rfl, by decide +kernel, by decide +kernel⟩
section
variable {w : World} {K : PySem.W.Frag} {mg : Str → Option Value} {base : Heap} {k : Nat} {F__law_times : FD}
theorem b__law_matrix (G : Fx K mg base) (h__law_times : OkF prog w K mg base k "_law_times" P__law_times 2 [] F__law_times) {cdv : Value} {A : Around} {outer : List Env} {s : Shared} {H : Hp} {E : L2.XK} {W : WX} (hg : A.guards = some []) (hr : L2.Room k (A.deeper (envOfC "_law_matrix" (L2.defScope (top 39)) s.heap.objs.size (He.ga K "_law_matrix") cdv))) (tk : L2.Takes (L2.cxOf (L2.CX prog w) prog w K mg base N__law_matrix "_law_matrix" (L2.defScope (top 39)) (He.ga K "_law_matrix") cdv A outer s H E) W) :
    Ss (L2.cxOf (L2.CX prog w) prog w K mg base N__law_matrix "_law_matrix" (L2.defScope (top 39)) (He.ga K "_law_matrix") cdv A outer s H E) W [] true (L2.defBody (top 39)) (s__law_matrix F__law_times) := by
  have C : Ct (L2.cxOf (L2.CX prog w) prog w K mg base N__law_matrix "_law_matrix" (L2.defScope (top 39)) (He.ga K "_law_matrix") cdv A outer s H E) W k := ⟨hr, hg, tk, rfl, sc__law_matrix.nd⟩
  have po : Po (L2.cxOf (L2.CX prog w) prog w K mg base N__law_matrix "_law_matrix" (L2.defScope (top 39)) (He.ga K "_law_matrix") cdv A outer s H E) := L2.passes_of rfl
  exact (zCons (zSet C 1 (yTup (bCons (yZ xInt) (bCons (yZ xInt) (bCons (yZ xInt) (bCons (yZ xInt) bNil))))))
    (zCons (zFor (own := [2]) po C (jSq (yFr 0)) (eV C 2)
    (zCons (zFor0 (own := [3]) po C (j0R1 (f_range G) (yFr 2)) (eV C 3)
    (zOne (zSet C 1 (yFz (yC h__law_times C (bCons (yFr 1) (bCons (yTup (bCons (yZ xInt) (bCons (yZ xInt) (bCons (yZ xInt) (bCons (yZ xInt) bNil))))) bNil)))))))
    (zOne (zSet C 1 (yFz (yC h__law_times C (bCons (yFr 1) (bCons (yTup (bCons (yZ xInt) (bCons (yZ xInt) (bCons (yZ xInt) (bCons (yZ xInt) bNil))))) bNil))))))))
    (zOne (zRet (yFr 1)))))
theorem ok__law_matrix (G : Fx K mg base) (h__law_times : OkF prog w K mg base k "_law_times" P__law_times 2 [] F__law_times) {F : FD} (vc : ∀ os Qd Xd, os.length = 1 → F os Qd Xd → s__law_matrix F__law_times (fnEn [] Qd Xd) (startD 4 os)) : OkF prog w K mg base (k + 1) "_law_matrix" P__law_matrix 1 [] F := by
  obtain ⟨fd, Fd⟩ := D__law_matrix G
  exact ⟨⟨fd, Fd.bindsN (fun _ _ _ _ _ _ us hl => match us, hl with | [_], _ => rfl), fn_data Fd sc__law_matrix rfl (by decide) (by decide) vc (fun _ => oS_s) fun cdv A outer s H E W hg hr tk => b__law_matrix G h__law_times hg hr tk⟩, Fd.kp, g__law_matrix G⟩
theorem no__law_matrix (G : Fx K mg base) : OkF prog w K mg base k "_law_matrix" P__law_matrix 1 [] fdVoid := .void (D__law_matrix G) (fun _ _ _ _ _ _ us hl => match us, hl with | [_], _ => rfl) (g__law_matrix G)
end
/-! ### _law_words -/
abbrev N__law_words : List Str := ["tags", "parts", "found", "part"]
def L1__law_words (F__law_words : FD) : SX := (sIf (etP (tB (pOp opEq (pOp opIx (pVar 3) (pC (.int 0))) (pC (.str "apply")))))
    (sApp 2 (eRd (pthS (pth0 3) (pC (.int 1)))))
    (sExt 2 (eCat (pOp opAdd (pLst (paCons (pOp opMul (pC (.int 2)) (pTIx (pVar 0) (pOp opIx (pVar 3) (pC (.int 1))))) paNil)) (pCall 2 F__law_words (paCons (pVar 0) (paCons (pOp opIx (pVar 3) (pC (.int 2))) paNil)))) (pLst (paCons (pOp opAdd (pOp opMul (pC (.int 2)) (pTIx (pVar 0) (pOp opIx (pVar 3) (pC (.int 1))))) (pC (.int 1))) paNil)))))
def s__law_words (F__law_words : FD) : SX := (sSeq (sAsg (eLst eaNil) (goN 2))
    (sSeq (sFor (eiSeq (eFr 1)) (gN 3)
    (L1__law_words F__law_words))
    (sRet (eMv 2))))
theorem sc__law_words : L2.FnScope N__law_words P__law_words (L2.defScope (top 40)) := ⟨rfl, rfl, rfl, by decide +kernel, rfl, by decide +kernel, by decide +kernel⟩
section
variable {w : World} {K : PySem.W.Frag} {mg : Str → Option Value} {base : Heap} {k : Nat} {F__law_words : FD}
theorem b__law_words (G : Fx K mg base) (h__law_words : OkF prog w K mg base k "_law_words" P__law_words 2 [] F__law_words) {cdv : Value} {A : Around} {outer : List Env} {s : Shared} {H : Hp} {E : L2.XK} {W : WX} (hg : A.guards = some []) (hr : L2.Room k (A.deeper (envOfC "_law_words" (L2.defScope (top 40)) s.heap.objs.size (He.ga K "_law_words") cdv))) (tk : L2.Takes (L2.cxOf (L2.CX prog w) prog w K mg base N__law_words "_law_words" (L2.defScope (top 40)) (He.ga K "_law_words") cdv A outer s H E) W) :
    Ss (L2.cxOf (L2.CX prog w) prog w K mg base N__law_words "_law_words" (L2.defScope (top 40)) (He.ga K "_law_words") cdv A outer s H E) W [] true (L2.defBody (top 40)) (s__law_words F__law_words) := by
  have C : Ct (L2.cxOf (L2.CX prog w) prog w K mg base N__law_words "_law_words" (L2.defScope (top 40)) (He.ga K "_law_words") cdv A outer s H E) W k := ⟨hr, hg, tk, rfl, sc__law_words.nd⟩
  have po : Po (L2.cxOf (L2.CX prog w) prog w K mg base N__law_words "_law_words" (L2.defScope (top 40)) (He.ga K "_law_words") cdv A outer s H E) := L2.passes_of rfl
  exact (zCons (zSet C 2 (yLst bNil))
    (zCons (zFor (own := [3]) po C (jSq (yFr 1)) (eV C 3)
    (zOne (zIf (uP (tCmp (kEq C) (xIx (xV 3) xInt) xStr))
    (zOne (zApp 2 (yRd (hIx (hV 3) xInt))))
    (zOne (zExt 2 (yCat (xOp oAdd (xLst (aCons (xOp oMul xInt (xTIx (xV 0) (xIx (xV 3) xInt))) aNil)) (xC h__law_words C (aCons (xV 0) (aCons (xIx (xV 3) xInt) aNil)))) (xLst (aCons (xOp oAdd (xOp oMul xInt (xTIx (xV 0) (xIx (xV 3) xInt))) xInt) aNil))))))))
    (zOne (zRet (yMv 2)))))
theorem ok__law_words (G : Fx K mg base) (h__law_words : OkF prog w K mg base k "_law_words" P__law_words 2 [] F__law_words) {F : FD} (vc : ∀ os Qd Xd, os.length = 2 → F os Qd Xd → s__law_words F__law_words (fnEn [] Qd Xd) (startD 4 os)) : OkF prog w K mg base (k + 1) "_law_words" P__law_words 2 [] F := by
  obtain ⟨fd, Fd⟩ := D__law_words G
  exact ⟨⟨fd, Fd.bindsN (fun _ _ _ _ _ _ us hl => match us, hl with | [_, _], _ => rfl), fn_data Fd sc__law_words rfl (by decide) (by decide) vc (fun _ => oS_s) fun cdv A outer s H E W hg hr tk => b__law_words G h__law_words hg hr tk⟩, Fd.kp, g__law_words G⟩
theorem no__law_words (G : Fx K mg base) : OkF prog w K mg base k "_law_words" P__law_words 2 [] fdVoid := .void (D__law_words G) (fun _ _ _ _ _ _ us hl => match us, hl with | [_, _], _ => rfl) (g__law_words G)
end
/-! ### law -/
abbrev N_law : List Str := ["script", "bag", "tags", "lap", "truths", "row", "words", "word", "straight", "other", "mode", "tag", "parts", "every", "calls", "at", "k", "turn", "part", "its", "letter"]
def eo1_law (F__law_bag : FD) (F__law_straight : FD) (F__law_template : FD) (F__law_all_parts : FD) (F__law_alike : FD) (F_is_straight : FD) (F__law_words : FD) (F_rule_words : FD) (F__law_take : FD) (F__law_tree : FD) (F__law_word : FD) (F_word_of : FD) (F__law_flat : FD) (F__law_matrix : FD) (F_times : FD) (F_letter_matrix : FD) (F_word_matrix : FD) : EX := (eFr 18)
def to1_law (F__law_bag : FD) (F__law_straight : FD) (F__law_template : FD) (F__law_all_parts : FD) (F__law_alike : FD) (F_is_straight : FD) (F__law_words : FD) (F_rule_words : FD) (F__law_take : FD) (F__law_tree : FD) (F__law_word : FD) (F_word_of : FD) (F__law_flat : FD) (F__law_matrix : FD) (F_times : FD) (F_letter_matrix : FD) (F_word_matrix : FD) : ETx := (etP (tB (pOp opEq (pOp opIx (pVar 18) (pC (.int 0))) (pC (.str "apply")))))
def ep1_law (F__law_bag : FD) (F__law_straight : FD) (F__law_template : FD) (F__law_all_parts : FD) (F__law_alike : FD) (F_is_straight : FD) (F__law_words : FD) (F_rule_words : FD) (F__law_take : FD) (F__law_tree : FD) (F__law_word : FD) (F_word_of : FD) (F__law_flat : FD) (F__law_matrix : FD) (F_times : FD) (F_letter_matrix : FD) (F_word_matrix : FD) : PX := (pVar 18)
def tp1_law (F__law_bag : FD) (F__law_straight : FD) (F__law_template : FD) (F__law_all_parts : FD) (F__law_alike : FD) (F_is_straight : FD) (F__law_words : FD) (F_rule_words : FD) (F__law_take : FD) (F__law_tree : FD) (F__law_word : FD) (F_word_of : FD) (F__law_flat : FD) (F__law_matrix : FD) (F_times : FD) (F_letter_matrix : FD) (F_word_matrix : FD) : PT := (tB (pOp opEq (pOp opIx (pVar 18) (pC (.int 0))) (pC (.str "if"))))
def L1_law (F__law_bag : FD) (F__law_straight : FD) (F__law_template : FD) (F__law_all_parts : FD) (F__law_alike : FD) (F_is_straight : FD) (F__law_words : FD) (F_rule_words : FD) (F__law_take : FD) (F__law_tree : FD) (F__law_word : FD) (F_word_of : FD) (F__law_flat : FD) (F__law_matrix : FD) (F_times : FD) (F_letter_matrix : FD) (F_word_matrix : FD) : SX := (sSeq (sAsg (eFz (eCall 1 F__law_all_parts [] (eaCons (eFr 12) eaNil))) (goN 13))
    (sSeq (sAsg (eComp [18] (eiSeq (eFr 13)) (gN 18) (to1_law F__law_bag F__law_straight F__law_template F__law_all_parts F__law_alike F_is_straight F__law_words F_rule_words F__law_take F__law_tree F__law_word F_word_of F__law_flat F__law_matrix F_times F_letter_matrix F_word_matrix) (eo1_law F__law_bag F__law_straight F__law_template F__law_all_parts F__law_alike F_is_straight F__law_words F_rule_words F__law_take F__law_tree F__law_word F_word_of F__law_flat F__law_matrix F_times F_letter_matrix F_word_matrix)) (goF 14))
    (sApp 4 (eZ (pAndV (pOp opEq (pCB fLen (paCons (pVar 14) paNil)) (pC (.int 1))) (pAndV (pOp opIsN (pOp opIx (pOp opIx (pVar 14) (pC (.int 0))) (pC (.int 2))) (pC .non)) (pOp opEq (pComp [18] (piSeq (pVar 13)) (gN 18) (tp1_law F__law_bag F__law_straight F__law_template F__law_all_parts F__law_alike F_is_straight F__law_words F_rule_words F__law_take F__law_tree F__law_word F_word_of F__law_flat F__law_matrix F_times F_letter_matrix F_word_matrix) (ep1_law F__law_bag F__law_straight F__law_template F__law_all_parts F__law_alike F_is_straight F__law_words F_rule_words F__law_take F__law_tree F__law_word F_word_of F__law_flat F__law_matrix F_times F_letter_matrix F_word_matrix)) (pLst paNil))))))))
def ep2_law (F__law_bag : FD) (F__law_straight : FD) (F__law_template : FD) (F__law_all_parts : FD) (F__law_alike : FD) (F_is_straight : FD) (F__law_words : FD) (F_rule_words : FD) (F__law_take : FD) (F__law_tree : FD) (F__law_word : FD) (F_word_of : FD) (F__law_flat : FD) (F__law_matrix : FD) (F_times : FD) (F_letter_matrix : FD) (F_word_matrix : FD) : PX := (pVar 16)
def tp2_law (F__law_bag : FD) (F__law_straight : FD) (F__law_template : FD) (F__law_all_parts : FD) (F__law_alike : FD) (F_is_straight : FD) (F__law_words : FD) (F_rule_words : FD) (F__law_take : FD) (F__law_tree : FD) (F__law_word : FD) (F_word_of : FD) (F__law_flat : FD) (F__law_matrix : FD) (F_times : FD) (F_letter_matrix : FD) (F_word_matrix : FD) : PT := (tB (pCB fIsi (paCons (pVar 20) (paCons (pC (.ty "str")) paNil))))
def L2_law (F__law_bag : FD) (F__law_straight : FD) (F__law_template : FD) (F__law_all_parts : FD) (F__law_alike : FD) (F_is_straight : FD) (F__law_words : FD) (F_rule_words : FD) (F__law_take : FD) (F__law_tree : FD) (F__law_word : FD) (F_word_of : FD) (F__law_flat : FD) (F__law_matrix : FD) (F_times : FD) (F_letter_matrix : FD) (F_word_matrix : FD) : SX := (sSeq (sAsg (eFz (eCall 2 F__law_words [] (eaCons (eFr 2) (eaCons (eFr 12) eaNil)))) (goN 7))
    (sSeq (sAsg (eZ (pOp opIx (pComp [16, 20] (piEnum (paCons (pVar 7) paNil)) (gT 2 (gsCons (gN 16) (gsCons (gN 20) gsNil))) (tp2_law F__law_bag F__law_straight F__law_template F__law_all_parts F__law_alike F_is_straight F__law_words F_rule_words F__law_take F__law_tree F__law_word F_word_of F__law_flat F__law_matrix F_times F_letter_matrix F_word_matrix) (ep2_law F__law_bag F__law_straight F__law_template F__law_all_parts F__law_alike F_is_straight F__law_words F_rule_words F__law_take F__law_tree F__law_word F_word_of F__law_flat F__law_matrix F_times F_letter_matrix F_word_matrix)) (pC (.int 0)))) (goN 15))
    (sIf (etP (tNotP (tB (pCall 2 F__law_alike (paCons (pCall 4 F_rule_words (paCons (pVar 2) (paCons (pVar 8) (paCons (pVar 10) (paCons (pVar 11) paNil))))) (paCons (pTup (paCons (pCB fTuple (paCons (pSl (pVar 7) poNone (poSome (pVar 15))) paNil)) (paCons (pCB fTuple (paCons (pSl (pVar 7) (poSome (pOp opAdd (pVar 15) (pC (.int 1)))) poNone) paNil)) (paCons (pOp opIx (pVar 7) (pVar 15)) paNil)))) paNil))))))
    (sRet (eZ (pC (.bl false))))
    sNext)))
def eo2_law (F__law_bag : FD) (F__law_straight : FD) (F__law_template : FD) (F__law_all_parts : FD) (F__law_alike : FD) (F_is_straight : FD) (F__law_words : FD) (F_rule_words : FD) (F__law_take : FD) (F__law_tree : FD) (F__law_word : FD) (F_word_of : FD) (F__law_flat : FD) (F__law_matrix : FD) (F_times : FD) (F_letter_matrix : FD) (F_word_matrix : FD) : EX := (eCall 3 F__law_tree [1] (eaLate 1 (eaCons (eFr 2) (eaCons (eZ (pC (.int 2))) eaNil))))
def eo3_law (F__law_bag : FD) (F__law_straight : FD) (F__law_template : FD) (F__law_all_parts : FD) (F__law_alike : FD) (F_is_straight : FD) (F__law_words : FD) (F_rule_words : FD) (F__law_take : FD) (F__law_tree : FD) (F__law_word : FD) (F_word_of : FD) (F__law_flat : FD) (F__law_matrix : FD) (F_times : FD) (F_letter_matrix : FD) (F_word_matrix : FD) : EX := (eCall 2 F__law_take [1] (eaLate 1 (eaCons (eZ (pC (.int 4))) eaNil)))
def eo4_law (F__law_bag : FD) (F__law_straight : FD) (F__law_template : FD) (F__law_all_parts : FD) (F__law_alike : FD) (F_is_straight : FD) (F__law_words : FD) (F_rule_words : FD) (F__law_take : FD) (F__law_tree : FD) (F__law_word : FD) (F_word_of : FD) (F__law_flat : FD) (F__law_matrix : FD) (F_times : FD) (F_letter_matrix : FD) (F_word_matrix : FD) : EX := (eCB fTuple (eaCons (eComp [16] (eiRange (eaCons (eCall 2 F__law_take [1] (eaLate 1 (eaCons (eZ (pC (.int 5))) eaNil))) eaNil)) (gN 16) (etP tYesP) (eo3_law F__law_bag F__law_straight F__law_template F__law_all_parts F__law_alike F_is_straight F__law_words F_rule_words F__law_take F__law_tree F__law_word F_word_of F__law_flat F__law_matrix F_times F_letter_matrix F_word_matrix)) eaNil))
def ep3_law (F__law_bag : FD) (F__law_straight : FD) (F__law_template : FD) (F__law_all_parts : FD) (F__law_alike : FD) (F_is_straight : FD) (F__law_words : FD) (F_rule_words : FD) (F__law_take : FD) (F__law_tree : FD) (F__law_word : FD) (F_word_of : FD) (F__law_flat : FD) (F__law_matrix : FD) (F_times : FD) (F_letter_matrix : FD) (F_word_matrix : FD) : PX := (pVar 19)
def tp3_law (F__law_bag : FD) (F__law_straight : FD) (F__law_template : FD) (F__law_all_parts : FD) (F__law_alike : FD) (F_is_straight : FD) (F__law_words : FD) (F_rule_words : FD) (F__law_take : FD) (F__law_tree : FD) (F__law_word : FD) (F_word_of : FD) (F__law_flat : FD) (F__law_matrix : FD) (F_times : FD) (F_letter_matrix : FD) (F_word_matrix : FD) : PT := (tB (pOp opNe (pOp opEq (pCall 1 F_word_matrix (paCons (pVar 19) paNil)) (pCall 1 F_word_matrix (paCons (pVar 7) paNil))) (pOp opEq (pVar 19) (pVar 7))))
def L3_law (F__law_bag : FD) (F__law_straight : FD) (F__law_template : FD) (F__law_all_parts : FD) (F__law_alike : FD) (F_is_straight : FD) (F__law_words : FD) (F_rule_words : FD) (F__law_take : FD) (F__law_tree : FD) (F__law_word : FD) (F_word_of : FD) (F__law_flat : FD) (F__law_matrix : FD) (F_times : FD) (F_letter_matrix : FD) (F_word_matrix : FD) : SX := (sSeq (sIf (etP (tNotP (tB (pCall 2 F__law_alike (paCons (pLst (paCons (pCall 1 F_word_matrix (paCons (pVar 7) paNil)) (paCons (pCall 2 F_times (paCons (pCall 1 F_word_matrix (paCons (pVar 7) paNil)) (paCons (pCall 1 F_letter_matrix (paCons (pC (.int 2)) paNil)) paNil))) paNil))) (paCons (pLst (paCons (pCall 1 F__law_matrix (paCons (pVar 7) paNil)) (paCons (pCall 1 F__law_matrix (paCons (pOp opAdd (pVar 7) (pTup (paCons (pC (.int 2)) paNil))) paNil)) paNil))) paNil))))))
    (sRet (eZ (pC (.bl false))))
    sNext)
    (sIf (etP (tB (pOp opNe (pComp [19] (piSeq (pVar 6)) (gN 19) (tp3_law F__law_bag F__law_straight F__law_template F__law_all_parts F__law_alike F_is_straight F__law_words F_rule_words F__law_take F__law_tree F__law_word F_word_of F__law_flat F__law_matrix F_times F_letter_matrix F_word_matrix) (ep3_law F__law_bag F__law_straight F__law_template F__law_all_parts F__law_alike F_is_straight F__law_words F_rule_words F__law_take F__law_tree F__law_word F_word_of F__law_flat F__law_matrix F_times F_letter_matrix F_word_matrix)) (pLst paNil))))
    (sRet (eZ (pC (.bl false))))
    sNext))
def L4_law (F__law_bag : FD) (F__law_straight : FD) (F__law_template : FD) (F__law_all_parts : FD) (F__law_alike : FD) (F_is_straight : FD) (F__law_words : FD) (F_rule_words : FD) (F__law_take : FD) (F__law_tree : FD) (F__law_word : FD) (F_word_of : FD) (F__law_flat : FD) (F__law_matrix : FD) (F_times : FD) (F_letter_matrix : FD) (F_word_matrix : FD) : SX := (sSeq (sPar 8 9 (eFz (eCall 2 F__law_straight [1] (eaLate 1 (eaCons (eTup (eaCons (eZ (pC (.str "a"))) (eaCons (eZ (pC (.str "b"))) eaNil))) eaNil)))) (eFz (eCall 2 F__law_template [1] (eaLate 1 (eaCons (eTup (eaCons (eZ (pC (.str "a"))) (eaCons (eZ (pC (.str "b"))) eaNil))) eaNil)))))
    (sSeq (sAsg (eLst eaNil) (goN 4))
    (sSeq (sFor (eiSeq (eRd (pthS (pth0 9) (pC (.int 1))))) (gT 3 (gsCons (gN 10) (gsCons (gN 11) (gsCons (gN 12) gsNil))))
    (L1_law F__law_bag F__law_straight F__law_template F__law_all_parts F__law_alike F_is_straight F__law_words F_rule_words F__law_take F__law_tree F__law_word F_word_of F__law_flat F__law_matrix F_times F_letter_matrix F_word_matrix))
    (sSeq (sIf (etP (tNotP (tB (pCall 2 F__law_alike (paCons (pLst (paCons (pCall 1 F_is_straight (paCons (pVar 8) paNil)) (paCons (pCall 1 F_is_straight (paCons (pVar 9) paNil)) paNil))) (paCons (pLst (paCons (pC (.bl true)) (paCons (pOp opNotIn (pC (.bl false)) (pVar 4)) paNil))) paNil))))))
    (sRet (eZ (pC (.bl false))))
    sNext)
    (sSeq (sFor (eiSeq (eRd (pthS (pth0 8) (pC (.int 1))))) (gT 3 (gsCons (gN 10) (gsCons (gN 11) (gsCons (gN 12) gsNil))))
    (L2_law F__law_bag F__law_straight F__law_template F__law_all_parts F__law_alike F_is_straight F__law_words F_rule_words F__law_take F__law_tree F__law_word F_word_of F__law_flat F__law_matrix F_times F_letter_matrix F_word_matrix))
    (sSeq (sAsg (eComp [16] (eiRange (eaCons (eCall 2 F__law_take [1] (eaLate 1 (eaCons (eZ (pC (.int 3))) eaNil))) eaNil)) (gN 16) (etP tYesP) (eo2_law F__law_bag F__law_straight F__law_template F__law_all_parts F__law_alike F_is_straight F__law_words F_rule_words F__law_take F__law_tree F__law_word F_word_of F__law_flat F__law_matrix F_times F_letter_matrix F_word_matrix)) (goF 5))
    (sSeq (sIf (etP (tOrP (tB (pOp opNotN (pCall 4 F_rule_words (paCons (pVar 2) (paCons (pVar 8) (paCons (pC (.str "m")) (paCons (pC (.str "zz")) paNil))))) (pC .non))) (tNotP (tB (pCall 2 F__law_alike (paCons (pCall 2 F_word_of (paCons (pVar 2) (paCons (pCall 1 F__law_flat (paCons (pVar 5) paNil)) paNil))) (paCons (pCB fTuple (paCons (pCall 2 F__law_word (paCons (pVar 2) (paCons (pVar 5) paNil))) paNil)) paNil)))))))
    (sRet (eZ (pC (.bl false))))
    sNext)
    (sSeq (sIf (etE (eOp opNe (eHeard "told" "nothing" cl_Nothing (pCall 2 F_word_of (paCons (pVar 2) (paCons (pTup (paCons (pTup (paCons (pC (.str "zz")) (paCons (pC (.int 0)) paNil))) paNil)) paNil)))) (eTup (eaCons (eZ (pC (.str "nothing"))) eaNil))))
    (sRet (eZ (pC (.bl false))))
    sNext)
    (sSeq (sAsg (eComp [17] (eiRange (eaCons (eZ (pC (.int 4))) eaNil)) (gN 17) (etP tYesP) (eo4_law F__law_bag F__law_straight F__law_template F__law_all_parts F__law_alike F_is_straight F__law_words F_rule_words F__law_take F__law_tree F__law_word F_word_of F__law_flat F__law_matrix F_times F_letter_matrix F_word_matrix)) (goF 6))
    (sFor (eiSeq (eFr 6)) (gN 7)
    (L3_law F__law_bag F__law_straight F__law_template F__law_all_parts F__law_alike F_is_straight F__law_words F_rule_words F__law_take F__law_tree F__law_word F_word_of F__law_flat F__law_matrix F_times F_letter_matrix F_word_matrix)))))))))))
def s_law (F__law_bag : FD) (F__law_straight : FD) (F__law_template : FD) (F__law_all_parts : FD) (F__law_alike : FD) (F_is_straight : FD) (F__law_words : FD) (F_rule_words : FD) (F__law_take : FD) (F__law_tree : FD) (F__law_word : FD) (F_word_of : FD) (F__law_flat : FD) (F__law_matrix : FD) (F_times : FD) (F_letter_matrix : FD) (F_word_matrix : FD) : SX := (sSeq (sAsg (eCall 1 F__law_bag [] (eaCons (eFr 0) eaNil)) (goN 1))
    (sSeq (sAsg (eTup (eaCons (eZ (pC (.str "p"))) (eaCons (eZ (pC (.str "q"))) eaNil))) (goN 2))
    (sSeq (sFor (eiRange (eaCons (eZ (pC (.int 4))) eaNil)) (gN 3)
    (L4_law F__law_bag F__law_straight F__law_template F__law_all_parts F__law_alike F_is_straight F__law_words F_rule_words F__law_take F__law_tree F__law_word F_word_of F__law_flat F__law_matrix F_times F_letter_matrix F_word_matrix))
    (sRet (eZ (pC (.bl true)))))))
theorem sc_law : L2.FnScope N_law P_law (L2.defScope (top 41)) := ⟨rfl, rfl, rfl, by decide +kernel, rfl, by decide +kernel, by decide +kernel⟩
section
variable {w : World} {K : PySem.W.Frag} {mg : Str → Option Value} {base : Heap} {k : Nat} {F__law_bag : FD} {F__law_straight : FD} {F__law_template : FD} {F__law_all_parts : FD} {F__law_alike : FD} {F_is_straight : FD} {F__law_words : FD} {F_rule_words : FD} {F__law_take : FD} {F__law_tree : FD} {F__law_word : FD} {F_word_of : FD} {F__law_flat : FD} {F__law_matrix : FD} {F_times : FD} {F_letter_matrix : FD} {F_word_matrix : FD}
theorem b_law (G : Fx K mg base) (TB : LamX.TabB base mg (lawC K) (lawT K)) (h__law_bag : OkF prog w K mg base k "_law_bag" P__law_bag 1 [] F__law_bag) (h__law_straight : OkF prog w K mg base k "_law_straight" P__law_straight 2 [0] F__law_straight) (h__law_template : OkF prog w K mg base k "_law_template" P__law_template 2 [0] F__law_template) (h__law_all_parts : OkF prog w K mg base k "_law_all_parts" P__law_all_parts 1 [] F__law_all_parts) (h__law_alike : OkF prog w K mg base k "_law_alike" P__law_alike 2 [] F__law_alike) (h_is_straight : OkF prog w K mg base k "is_straight" P_is_straight 1 [] F_is_straight) (h__law_words : OkF prog w K mg base k "_law_words" P__law_words 2 [] F__law_words) (h_rule_words : OkF prog w K mg base k "rule_words" P_rule_words 4 [] F_rule_words) (h__law_take : OkF prog w K mg base k "_law_take" P__law_take 2 [0] F__law_take) (h__law_tree : OkF prog w K mg base k "_law_tree" P__law_tree 3 [0] F__law_tree) (h__law_word : OkF prog w K mg base k "_law_word" P__law_word 2 [] F__law_word) (h_word_of : OkF prog w K mg base k "word_of" P_word_of 2 [] F_word_of) (h__law_flat : OkF prog w K mg base k "_law_flat" P__law_flat 1 [] F__law_flat) (h__law_matrix : OkF prog w K mg base k "_law_matrix" P__law_matrix 1 [] F__law_matrix) (h_times : OkF prog w K mg base k "times" P_times 2 [] F_times) (h_letter_matrix : OkF prog w K mg base k "letter_matrix" P_letter_matrix 1 [] F_letter_matrix) (h_word_matrix : OkF prog w K mg base k "word_matrix" P_word_matrix 1 [] F_word_matrix) {A : Around} {outer : List Env} {s : Shared} {H : Hp} {E : L2.XK} {W : WX} (hg : A.guards = some []) (hr : L2.Room (k + 2) (A.deeper (envOfC "law" (L2.defScope (top 41)) s.heap.objs.size (He.ga K "law") (.ref (lawC K))))) (tk : L2.Takes (L2.cxOf (L2.CX prog w) prog w K mg base N_law "law" (L2.defScope (top 41)) (He.ga K "law") (.ref (lawC K)) A outer s H E) W) :
    Ss (L2.cxOf (L2.CX prog w) prog w K mg base N_law "law" (L2.defScope (top 41)) (He.ga K "law") (.ref (lawC K)) A outer s H E) W [1000] true (L2.defBody (top 41)) (s_law F__law_bag F__law_straight F__law_template F__law_all_parts F__law_alike F_is_straight F__law_words F_rule_words F__law_take F__law_tree F__law_word F_word_of F__law_flat F__law_matrix F_times F_letter_matrix F_word_matrix) := by
  have C : Ct (L2.cxOf (L2.CX prog w) prog w K mg base N_law "law" (L2.defScope (top 41)) (He.ga K "law") (.ref (lawC K)) A outer s H E) W (k + 2) := ⟨hr, hg, tk, rfl, sc_law.nd⟩
  have po : Po (L2.cxOf (L2.CX prog w) prog w K mg base N_law "law" (L2.defScope (top 41)) (He.ga K "law") (.ref (lawC K)) A outer s H E) := L2.passes_of rfl
  have h2__law_bag := h__law_bag.mono (Nat.le_add_right k 2)
  have h2__law_straight := h__law_straight.mono (Nat.le_add_right k 2)
  have h2__law_template := h__law_template.mono (Nat.le_add_right k 2)
  have h2__law_all_parts := h__law_all_parts.mono (Nat.le_add_right k 2)
  have h2__law_alike := h__law_alike.mono (Nat.le_add_right k 2)
  have h2_is_straight := h_is_straight.mono (Nat.le_add_right k 2)
  have h2__law_words := h__law_words.mono (Nat.le_add_right k 2)
  have h2_rule_words := h_rule_words.mono (Nat.le_add_right k 2)
  have h2__law_take := h__law_take.mono (Nat.le_add_right k 2)
  have h2__law_tree := h__law_tree.mono (Nat.le_add_right k 2)
  have h2__law_word := h__law_word.mono (Nat.le_add_right k 2)
  have h2_word_of := h_word_of.mono (Nat.le_add_right k 2)
  have h2__law_flat := h__law_flat.mono (Nat.le_add_right k 2)
  have h2__law_matrix := h__law_matrix.mono (Nat.le_add_right k 2)
  have h2_times := h_times.mono (Nat.le_add_right k 2)
  have h2_letter_matrix := h_letter_matrix.mono (Nat.le_add_right k 2)
  have h2_word_matrix := h_word_matrix.mono (Nat.le_add_right k 2)
  exact (zCons (zSet C 1 (yC h2__law_bag C (bCons (yFr 0) bNil)))
    (zCons (zSet C 2 (yTup (bCons (yZ xStr) (bCons (yZ xStr) bNil))))
    (zCons (zFor0 (own := [3]) po C (j0R1 (f_range G) (yZ xInt)) (eV C 3)
    (zCons (zPar C 8 9 (yFz (yC h2__law_straight C (bLate 1 (bCons (yTup (bCons (yZ xStr) (bCons (yZ xStr) bNil))) bNil)))) (yFz (yC h2__law_template C (bLate 1 (bCons (yTup (bCons (yZ xStr) (bCons (yZ xStr) bNil))) bNil)))))
    (zCons (zSet C 4 (yLst bNil))
    (zCons (zFor (own := [10, 11, 12]) po C (jSq (yRd (hIx (hV 9) xInt))) (eTu C (esC (eV C 10) (esC (eV C 11) (esC (eV C 12) esN))))
    (zCons (zSet C 13 (yFz (yC h2__law_all_parts C (bCons (yFr 12) bNil))))
    (zCons (zLcF C 14 [("part", 18)] (jSq (yFr 13)) (fun _ _ _ _ _ C1 => (eV C1 18)) (fun _ _ _ _ _ C1 => (usOne (uP (tCmp (kEq C1) (xIx (xV 18) xInt) xStr)))) (fun _ _ _ _ _ C1 => (yFr 18)))
    (zOne (zApp 4 (yZ (xAnd (xCmp (kEq C) (xB (bLen C) (f_len G) (aCons (xV 14) aNil)) xInt) (xAnd (xCmp (kIsN C) (xIx (xIx (xV 14) xInt) xInt) xNon) (xOne (xCmp (kEq C) (xLc C [("part", 18)] (iSq (xV 13)) (fun _ _ _ _ _ C1 => (gV C1 18)) (fun _ _ _ _ _ C1 => (tsOne (tCmp (kEq C1) (xIx (xV 18) xInt) xStr))) (fun _ _ _ _ _ C1 => (xV 18))) (xLst aNil)))))))))))
    (zCons (zIf (uP (tNot (tVal (xC h2__law_alike C (aCons (xLst (aCons (xC h2_is_straight C (aCons (xV 8) aNil)) (aCons (xC h2_is_straight C (aCons (xV 9) aNil)) aNil))) (aCons (xLst (aCons xBl (aCons (xCmp (kNotIn C) xBl (xV 4)) aNil))) aNil))))))
    (zOne (zRet (yZ xBl)))
    zNil)
    (zCons (zFor (own := [10, 11, 12]) po C (jSq (yRd (hIx (hV 8) xInt))) (eTu C (esC (eV C 10) (esC (eV C 11) (esC (eV C 12) esN))))
    (zCons (zSet C 7 (yFz (yC h2__law_words C (bCons (yFr 2) (bCons (yFr 12) bNil)))))
    (zCons (zSet C 15 (yZ (xIx (xLc C [("k", 16), ("letter", 20)] (iEn (f_enumerate G) (xV 7)) (fun _ _ _ _ _ C1 => (gTu C1 (gsC (gV C1 16) (gsC (gV C1 20) gsN)))) (fun _ _ _ _ _ C1 => (tsOne (tVal (xB (bIsi C1) (f_isinstance G) (aCons (xV 20) (aCons (xTy (f_str G) PyProof.Rows.boot_str) aNil)))))) (fun _ _ _ _ _ C1 => (xV 16))) xInt)))
    (zOne (zIf (uP (tNot (tVal (xC h2__law_alike C (aCons (xC h2_rule_words C (aCons (xV 2) (aCons (xV 8) (aCons (xV 10) (aCons (xV 11) aNil))))) (aCons (xTup (aCons (xT (bTuple C) (f_tuple G) (aCons (xSl (xV 7) oNone (oSome (xV 15))) aNil)) (aCons (xT (bTuple C) (f_tuple G) (aCons (xSl (xV 7) (oSome (xOp oAdd (xV 15) xInt)) oNone) aNil)) (aCons (xIx (xV 7) (xV 15)) aNil)))) aNil))))))
    (zOne (zRet (yZ xBl)))
    zNil)))))
    (zCons (zLcF C 5 [("k", 16)] (jR1 (f_range G) (yC h2__law_take C (bLate 1 (bCons (yZ xInt) bNil)))) (fun _ _ _ _ _ C1 => (eV C1 16)) (fun _ _ _ _ _ C1 => (usP tsNil)) (fun _ _ _ _ _ C1 => (yC h2__law_tree C1 (bLate 1 (bCons (yFr 2) (bCons (yZ xInt) bNil))))))
    (zCons (zIf (uP (tW (wOr (tCmp (kNotN C) (xC h2_rule_words C (aCons (xV 2) (aCons (xV 8) (aCons xStr (aCons xStr aNil))))) xNon) (wOr1 (tNot (tVal (xC h2__law_alike C (aCons (xC h2_word_of C (aCons (xV 2) (aCons (xC h2__law_flat C (aCons (xV 5) aNil)) aNil))) (aCons (xT (bTuple C) (f_tuple G) (aCons (xC h2__law_word C (aCons (xV 2) (aCons (xV 5) aNil))) aNil)) aNil)))))))))
    (zOne (zRet (yZ xBl)))
    zNil)
    (zCons (zIf (uCmp (kNe C) (yHeard (hd__law_heard G) C TB (cl_Nothing_ok G) (fun _ _ _ _ _ _ _ C1 => (xC h_word_of C1 (aCons (xV 2) (aCons (xTup (aCons (xTup (aCons xStr (aCons xInt aNil))) aNil)) aNil))))) (yTup (bCons (yZ xStr) bNil)))
    (zOne (zRet (yZ xBl)))
    zNil)
    (zCons (zLcF C 6 [("turn", 17)] (jR1 (f_range G) (yZ xInt)) (fun _ _ _ _ _ C1 => (eV C1 17)) (fun _ _ _ _ _ C1 => (usP tsNil)) (fun _ _ _ _ _ C1 => (yT (bTuple C1) (f_tuple G) (bCons (yLc C1 [("k", 16)] (jR1 (f_range G) (yC h2__law_take C1 (bLate 1 (bCons (yZ xInt) bNil)))) (fun _ _ _ _ _ C2 => (eV C2 16)) (fun _ _ _ _ _ C2 => (usP tsNil)) (fun _ _ _ _ _ C2 => (yC h2__law_take C2 (bLate 1 (bCons (yZ xInt) bNil))))) bNil))))
    (zOne (zFor (own := [7]) po C (jSq (yFr 6)) (eV C 7)
    (zCons (zIf (uP (tNot (tVal (xC h2__law_alike C (aCons (xLst (aCons (xC h2_word_matrix C (aCons (xV 7) aNil)) (aCons (xC h2_times C (aCons (xC h2_word_matrix C (aCons (xV 7) aNil)) (aCons (xC h2_letter_matrix C (aCons xInt aNil)) aNil))) aNil))) (aCons (xLst (aCons (xC h2__law_matrix C (aCons (xV 7) aNil)) (aCons (xC h2__law_matrix C (aCons (xOp oAdd (xV 7) (xTup (aCons xInt aNil))) aNil)) aNil))) aNil))))))
    (zOne (zRet (yZ xBl)))
    zNil)
    (zOne (zIf (uP (tCmp (kNe C) (xLc C [("its", 19)] (iSq (xV 6)) (fun _ _ _ _ _ C1 => (gV C1 19)) (fun _ _ _ _ _ C1 => (tsOne (tCmp (kNe C1) (xCmp (kEq C1) (xC h2_word_matrix C1 (aCons (xV 19) aNil)) (xC h2_word_matrix C1 (aCons (xV 7) aNil))) (xCmp (kEq C1) (xV 19) (xV 7))))) (fun _ _ _ _ _ C1 => (xV 19))) (xLst aNil)))
    (zOne (zRet (yZ xBl)))
    zNil)))))))))))))))
    (zOne (zRet (yZ xBl))))))
theorem ok_law (G : Fx K mg base) (TB : LamX.TabB base mg (lawC K) (lawT K)) (h__law_bag : OkF prog w K mg base k "_law_bag" P__law_bag 1 [] F__law_bag) (h__law_straight : OkF prog w K mg base k "_law_straight" P__law_straight 2 [0] F__law_straight) (h__law_template : OkF prog w K mg base k "_law_template" P__law_template 2 [0] F__law_template) (h__law_all_parts : OkF prog w K mg base k "_law_all_parts" P__law_all_parts 1 [] F__law_all_parts) (h__law_alike : OkF prog w K mg base k "_law_alike" P__law_alike 2 [] F__law_alike) (h_is_straight : OkF prog w K mg base k "is_straight" P_is_straight 1 [] F_is_straight) (h__law_words : OkF prog w K mg base k "_law_words" P__law_words 2 [] F__law_words) (h_rule_words : OkF prog w K mg base k "rule_words" P_rule_words 4 [] F_rule_words) (h__law_take : OkF prog w K mg base k "_law_take" P__law_take 2 [0] F__law_take) (h__law_tree : OkF prog w K mg base k "_law_tree" P__law_tree 3 [0] F__law_tree) (h__law_word : OkF prog w K mg base k "_law_word" P__law_word 2 [] F__law_word) (h_word_of : OkF prog w K mg base k "word_of" P_word_of 2 [] F_word_of) (h__law_flat : OkF prog w K mg base k "_law_flat" P__law_flat 1 [] F__law_flat) (h__law_matrix : OkF prog w K mg base k "_law_matrix" P__law_matrix 1 [] F__law_matrix) (h_times : OkF prog w K mg base k "times" P_times 2 [] F_times) (h_letter_matrix : OkF prog w K mg base k "letter_matrix" P_letter_matrix 1 [] F_letter_matrix) (h_word_matrix : OkF prog w K mg base k "word_matrix" P_word_matrix 1 [] F_word_matrix) (vc : ∀ (ns : List Int) (Qd : OV → List OV → Prop) (Xd : Xc → Prop), ns.length ≤ 63 → Qd (.im (.bl true)) [] → s_law F__law_bag F__law_straight F__law_template F__law_all_parts F__law_alike F_is_straight F__law_words F_rule_words F__law_take F__law_tree F__law_word F_word_of F__law_flat F__law_matrix F_times F_letter_matrix F_word_matrix (fnEn [] Qd Xd) (startD 21 [.im (.scr (ns.map .int))])) {fd : FuncData} (Fd : L2.FunD K "law" "law" d_law.params d_law.body d_law.scope [] [] (He.ga K "law") fd) : FnG prog w K mg base (k + 3) (He.ga K "law") fd P_law (spLaw K 63) :=
  fn_law Fd sc_law vc (fun _ => oS_s) fun A outer s H E W hg hr tk => b_law G TB h__law_bag h__law_straight h__law_template h__law_all_parts h__law_alike h_is_straight h__law_words h_rule_words h__law_take h__law_tree h__law_word h_word_of h__law_flat h__law_matrix h_times h_letter_matrix h_word_matrix hg hr tk
end
end G66
namespace G66
open PySem DL
/-- the bag that a law draws from -/
def bagOk (o : OV) : Prop := ∃ (a b c : Int) (cells : List Int), o = .lst [.im (.int a), .im (.int b), .im (.int c), .lst (cells.map fun i => .im (.int i))] ∧ 0 ≤ a ∧ 0 ≤ b ∧ 0 ≤ c ∧ (∀ i ∈ cells, 0 ≤ i) ∧ cells.length ≤ 63
def fdTake : FD := fun os Q _ => ∃ b m, os = [b, .im (.int m)] ∧ bagOk b ∧ (0 < m ∧ m < 1073741824) ∧ ∀ b' v, bagOk b' → 0 ≤ v → v < m → Q (.im (.int v)) [b']
theorem fzL_ints : ∀ cells : List Int, fzL (cells.map fun i => OV.im (.int i)) = cells.map D.int
  | [] => rfl
  | x :: xs => by simp only [List.map_cons, fzL, OV.fz, fzL_ints xs]
theorem cut_head (cells : List Int) (c : Int) (h : ∀ i ∈ cells, 0 ≤ i) : ∃ (i : Int) (rest : List D), cutD (cells.map D.int) (some c) none ++ [D.int 0] = D.int i :: rest ∧ 0 ≤ i ∧ (cutD (cells.map D.int) (some c) none).length ≤ cells.length := by
  unfold cutD
  generalize sIxD _ 0 (some c) = n
  rw [← List.map_drop, ← List.map_take]
  generalize hz : List.take _ (List.drop n cells) = z
  have hm : ∀ i ∈ z, 0 ≤ i := fun i m => h i (List.mem_of_mem_drop (List.mem_of_mem_take (hz ▸ m)))
  have hl : z.length ≤ cells.length := by rw [← hz]; simp; omega
  cases z with
  | nil => exact ⟨0, [], rfl, Int.le_refl _, by simp⟩
  | cons x z => exact ⟨x, z.map D.int ++ [D.int 0], rfl, hm x List.mem_cons_self, by simpa using hl⟩
theorem mulOk_r {i j : Int} (h1 : -(2 ^ 64) < j) (h2 : j < 2 ^ 64) : mulOk i j := .inr ⟨h1, h2⟩
theorem mulOk_l {i j : Int} (h1 : -(2 ^ 64) < i) (h2 : i < 2 ^ 64) : mulOk i j := .inl ⟨h1, h2⟩
theorem modpos (a m : Int) (h : 0 < m) : 0 ≤ a % m ∧ a % m < m := ⟨Int.emod_nonneg _ (by omega), Int.emod_lt_of_pos _ h⟩
theorem vc_take (os : List OV) (Qd : OV → List OV → Prop) (Xd : Xc → Prop) (h : fdTake os Qd Xd) : s__law_take (fnEn [0] Qd Xd) (startD 7 os) := by
  obtain ⟨b, m, rfl, ⟨a, b, c, cells, rfl, ha, hb, hc, hcs, hl⟩, ⟨hm, hm2⟩, hQ⟩ := h
  obtain ⟨i, rest, e, hi, hl2⟩ := cut_head cells c hcs
  have e0 := congrArg List.length e
  simp only [List.length_append, List.length_cons, List.length_nil] at e0
  have draw : ∀ b2 : Int, mulOk (b2 + 1) 39373 ∧ mulOk ((b2 + 1) * 39373 % 1000000007) ((b2 + 1) * 39373 % 1000000007) ∧ mulOk ((b2 + 1) * 39373 % 1000000007 * ((b2 + 1) * 39373 % 1000000007) % 998244353) 30011 := fun b2 => by
    have h1 := modpos ((b2 + 1) * 39373) 1000000007 (by decide)
    exact ⟨mulOk_r (by decide) (by decide), mulOk_r (by omega) (by omega), mulOk_r (by decide) (by decide)⟩
  have h1 := modpos (b * 48271 + i % 2147483647 + 7919 * (c + 1)) 2147483647 (by decide)
  have hlin : (cutD (cells.map D.int) (some c) none).length + 1 ≤ line := by show _ ≤ 16777216; omega
  simp [s__law_take, seq_def, sIf, sRet, sRetN, sAsg, sPar, sPar3, sDrop, sAug, sApp, sAppP, sExt, sIns, sSet, sAugIx, sNext, sBreak, sCont, sRaise, goN, goT, gN, gsNil, gsCons, gT, etP, etE, etAnd, etOr, etNot, tB, tTru, tAndP, tOrP, tNotP, tYesP, pVar, pC, pOp, pUn, paNil, paCons, pTup, pLst, pAndV, pOrV, pNotV, pIf, poNone, poSome, pSl, pRev, pCall, pCB, pTIx, piSeq, eP, eF, pth0, pthS, eRd, eFr, eMv, eaNil, eaCons, eaLate, eTup, eLst, eIx, eOp, eUn, eIf, eCall, eCB, eCBF, eSl, eSlH, eTIx, ePop, eCat, eiSeq, eiRange, eiEnum, dputs, dget, dset, dwipe, getP, getD, setP, getAll, fnEn, startD, opAdd, opSub, opMul, opMod, opDiv, opPow, opNeg, opEq, opNe, opLt, opLe, opGt, opGe, opIsN, opNotN, opIx, opSl, opRev, ipAdd, fLen, fTuple, fList, fInt, fAbs, OV.fz, fzL, nol, nolL, List.map_cons, List.map_nil, List.cons_append, List.nil_append, List.replicate_succ, List.replicate_zero, List.append_nil, List.length_cons, List.length_nil, if_true, if_false, eZ, eFz, goF, frzD, frzO, List.map, fzL_im, eqOk, scalD, deq, atD, ixD, eqOk, scalD, deq, fzL_ints, e]
  have fin : ∀ a' b' c' v : Int, 0 ≤ a' → 0 ≤ b' → 0 ≤ c' → Qd (.im (.int (v % m))) [.lst [.im (.int a'), .im (.int b'), .im (.int c'), .lst (cells.map fun i => .im (.int i))]] := fun a' b' c' v g1 g2 g3 => hQ _ _ ⟨a', b', c', cells, rfl, g1, g2, g3, hcs, hl⟩ (modpos v m hm).1 (modpos v m hm).2
  have hc1 : 0 ≤ c + 1 := by omega
  have dv : ∀ x : Int, 0 ≤ x → 0 ≤ x / m := fun x hx => Int.ediv_nonneg hx (by omega)
  have k1 : mulOk b 48271 := mulOk_r (by decide) (by decide)
  have k2 : mulOk 7919 (c + 1) := mulOk_l (by decide) (by decide)
  split
  · refine ⟨by decide, hlin, ?_⟩
    split
    · refine ⟨k1, k2, ?_⟩
      split
      · exact ⟨hm, ⟨hm, hm2⟩, fin _ _ _ _ (dv i hi) h1.1 hc1⟩
      · exact ⟨(draw _).1, (draw _).2.1, (draw _).2.2, hm, fin _ _ _ _ hi h1.1 hc1⟩
    · refine ⟨k1, k2, ?_⟩
      split
      · exact ⟨hm, ⟨hm, hm2⟩, fin _ _ _ _ (dv a ha) h1.1 hc1⟩
      · exact ⟨(draw _).1, (draw _).2.1, (draw _).2.2, hm, fin _ _ _ _ ha h1.1 hc1⟩
  · split
    · exact ⟨hm, ⟨hm, hm2⟩, fin _ _ _ _ (dv a ha) hb hc⟩
    · exact ⟨(draw _).1, (draw _).2.1, (draw _).2.2, hm, fin _ _ _ _ ha hb hc⟩

def fdSome : FD := fun os Q _ => ∃ b d ds, os = [b, .im d] ∧ bagOk b ∧ (d = .tup ds ∨ d = .lst ds) ∧ (0 < ds.length ∧ ds.length < 1073741824) ∧ ∀ b' x, bagOk b' → x ∈ ds → Q (.im x) [b']
theorem vc_some (os : List OV) (Qd : OV → List OV → Prop) (Xd : Xc → Prop) (h : fdSome os Qd Xd) : s__law_some fdTake (fnEn [0] Qd Xd) (startD 2 os) := by
  obtain ⟨b, d, ds, rfl, hb, hd, ⟨h0, h1⟩, hQ⟩ := h
  rcases hd with rfl | rfl
  all_goals
    simp [s__law_some, seq_def, sIf, sRet, sRetN, sAsg, sPar, sPar3, sDrop, sAug, sApp, sAppP, sExt, sIns, sSet, sAugIx, sNext, sBreak, sCont, sRaise, goN, goT, gN, gsNil, gsCons, gT, etP, etE, etAnd, etOr, etNot, tB, tTru, tAndP, tOrP, tNotP, tYesP, pVar, pC, pOp, pUn, paNil, paCons, pTup, pLst, pAndV, pOrV, pNotV, pIf, poNone, poSome, pSl, pRev, pCall, pCB, pTIx, piSeq, eP, eF, pth0, pthS, eRd, eFr, eMv, eaNil, eaCons, eaLate, eTup, eLst, eIx, eOp, eUn, eIf, eCall, eCB, eCBF, eSl, eSlH, eTIx, ePop, eCat, eiSeq, eiRange, eiEnum, dputs, dget, dset, dwipe, getP, getD, setP, getAll, fnEn, startD, opAdd, opSub, opMul, opMod, opDiv, opPow, opNeg, opEq, opNe, opLt, opLe, opGt, opGe, opIsN, opNotN, opIx, opSl, opRev, ipAdd, fLen, fTuple, fList, fInt, fAbs, OV.fz, fzL, nol, nolL, List.map_cons, List.map_nil, List.cons_append, List.nil_append, List.replicate_succ, List.replicate_zero, List.append_nil, List.length_cons, List.length_nil, if_true, if_false, eZ, eFz, goF, frzD, frzO, List.map, fzL_im, eqOk, scalD, deq]
    refine ⟨b, ds.length, rfl, hb, ⟨by omega, by omega⟩, fun b' v hb' hv0 hv1 => ⟨rfl, ?_⟩⟩
    obtain ⟨x, e, hx⟩ := atD_lt ds v hv0 hv1
    simp [seq_def, sIf, sRet, sRetN, sAsg, sPar, sPar3, sDrop, sAug, sApp, sAppP, sExt, sIns, sSet, sAugIx, sNext, sBreak, sCont, sRaise, goN, goT, gN, gsNil, gsCons, gT, etP, etE, etAnd, etOr, etNot, tB, tTru, tAndP, tOrP, tNotP, tYesP, pVar, pC, pOp, pUn, paNil, paCons, pTup, pLst, pAndV, pOrV, pNotV, pIf, poNone, poSome, pSl, pRev, pCall, pCB, pTIx, piSeq, eP, eF, pth0, pthS, eRd, eFr, eMv, eaNil, eaCons, eaLate, eTup, eLst, eIx, eOp, eUn, eIf, eCall, eCB, eCBF, eSl, eSlH, eTIx, ePop, eCat, eiSeq, eiRange, eiEnum, dputs, dget, dset, dwipe, getP, getD, setP, getAll, fnEn, startD, opAdd, opSub, opMul, opMod, opDiv, opPow, opNeg, opEq, opNe, opLt, opLe, opGt, opGe, opIsN, opNotN, opIx, opSl, opRev, ipAdd, fLen, fTuple, fList, fInt, fAbs, OV.fz, fzL, nol, nolL, List.map_cons, List.map_nil, List.cons_append, List.nil_append, List.replicate_succ, List.replicate_zero, List.append_nil, List.length_cons, List.length_nil, if_true, if_false, eZ, eFz, goF, frzD, frzO, List.map, fzL_im, eqOk, scalD, deq, e]
    exact hQ b' x hb' hx
def fdBag : FD := fun os Q _ => ∃ ns : List Int, os = [.im (.scr (ns.map .int))] ∧ ns.length ≤ 63 ∧ ∀ b, bagOk b → Q b []
theorem comp_abs : ∀ (ns : List Int) (s0 x : Option OV) (Q : List OV → DE → Prop), Q (ns.map fun i => .im (.int (if i < 0 then -i else i))) [s0, none] →
    compE [1] (gN 1) (etP tYesP) eo1__law_bag (ns.map D.int) [s0, x] Q
  | [], s0, x, Q, h => h
  | n :: ns, s0, x, Q, h => by
    simp [compE, eo1__law_bag, seq_def, sIf, sRet, sRetN, sAsg, sPar, sPar3, sDrop, sAug, sApp, sAppP, sExt, sIns, sSet, sAugIx, sNext, sBreak, sCont, sRaise, goN, goT, gN, gsNil, gsCons, gT, etP, etE, etAnd, etOr, etNot, tB, tTru, tAndP, tOrP, tNotP, tYesP, pVar, pC, pOp, pUn, paNil, paCons, pTup, pLst, pAndV, pOrV, pNotV, pIf, poNone, poSome, pSl, pRev, pCall, pCB, pTIx, piSeq, eP, eF, pth0, pthS, eRd, eFr, eMv, eaNil, eaCons, eaLate, eTup, eLst, eIx, eOp, eUn, eIf, eCall, eCB, eCBF, eSl, eSlH, eTIx, ePop, eCat, eiSeq, eiRange, eiEnum, dputs, dget, dset, dwipe, getP, getD, setP, getAll, fnEn, startD, opAdd, opSub, opMul, opMod, opDiv, opPow, opNeg, opEq, opNe, opLt, opLe, opGt, opGe, opIsN, opNotN, opIx, opSl, opRev, ipAdd, fLen, fTuple, fList, fInt, fAbs, OV.fz, fzL, nol, nolL, List.map_cons, List.map_nil, List.cons_append, List.nil_append, List.replicate_succ, List.replicate_zero, List.append_nil, List.length_cons, List.length_nil, if_true, if_false, eZ, eFz, goF, frzD, frzO, List.map, fzL_im, eqOk, scalD, deq]
    refine comp_abs ns s0 _ _ ?_
    simpa using h
theorem vc_bag (os : List OV) (Qd : OV → List OV → Prop) (Xd : Xc → Prop) (h : fdBag os Qd Xd) : s__law_bag (fnEn [] Qd Xd) (startD 2 os) := by
  obtain ⟨ns, rfl, hl, hQ⟩ := h
  simp [s__law_bag, eComp, seq_def, sIf, sRet, sRetN, sAsg, sPar, sPar3, sDrop, sAug, sApp, sAppP, sExt, sIns, sSet, sAugIx, sNext, sBreak, sCont, sRaise, goN, goT, gN, gsNil, gsCons, gT, etP, etE, etAnd, etOr, etNot, tB, tTru, tAndP, tOrP, tNotP, tYesP, pVar, pC, pOp, pUn, paNil, paCons, pTup, pLst, pAndV, pOrV, pNotV, pIf, poNone, poSome, pSl, pRev, pCall, pCB, pTIx, piSeq, eP, eF, pth0, pthS, eRd, eFr, eMv, eaNil, eaCons, eaLate, eTup, eLst, eIx, eOp, eUn, eIf, eCall, eCB, eCBF, eSl, eSlH, eTIx, ePop, eCat, eiSeq, eiRange, eiEnum, dputs, dget, dset, dwipe, getP, getD, setP, getAll, fnEn, startD, opAdd, opSub, opMul, opMod, opDiv, opPow, opNeg, opEq, opNe, opLt, opLe, opGt, opGe, opIsN, opNotN, opIx, opSl, opRev, ipAdd, fLen, fTuple, fList, fInt, fAbs, OV.fz, fzL, nol, nolL, List.map_cons, List.map_nil, List.cons_append, List.nil_append, List.replicate_succ, List.replicate_zero, List.append_nil, List.length_cons, List.length_nil, if_true, if_false, eZ, eFz, goF, frzD, frzO, List.map, fzL_im, eqOk, scalD, deq]
  have e : cutD (ns.map D.int) none (some 63) = (ns.take 63).map D.int := by
    simp [cutD, sIxD]
  rw [e]
  refine ⟨by simp; show min 63 ns.length ≤ 16777216; omega, comp_abs _ _ _ _ ⟨by decide, hQ _ ⟨0, 1234567891, 0, (ns.take 63).map fun i => if i < 0 then -i else i, by rw [List.map_map]; rfl, by decide, by decide, by decide, fun i m => ?_, by simp; omega⟩⟩⟩
  obtain ⟨j, _, rfl⟩ := List.mem_map.mp m
  split <;> omega
/-- things put in any order -/
def fdMixed : FD := fun os Q _ => ∃ b ds, os = [b, .im (.lst ds)] ∧ bagOk b ∧ ds.length < 1000 ∧ ∀ (b' : OV) (es : List D), bagOk b' → es.Perm ds → Q (.lst (es.map .im)) [b']
theorem mixed_loop (E : En) : ∀ (ds es : List D) (b : OV) (s1 x : Option OV), bagOk b → es.length + ds.length < 1000 → (∀ (b' : OV) (es' : List D) (x' : Option OV), bagOk b' → es'.Perm (es ++ ds) → E.nx [some b', s1, some (.lst (es'.map .im)), x']) →
    forL (gN 3) (L1__law_mixed fdTake) E ds [some b, s1, some (.lst (es.map .im)), x]
  | [], es, b, s1, x, hb, hl, h => h b es x hb (by simp)
  | d :: ds, es, b, s1, x, hb, hl, h => by
    simp only [List.length_cons] at hl
    simp [forL, L1__law_mixed, seq_def, sIf, sRet, sRetN, sAsg, sPar, sPar3, sDrop, sAug, sApp, sAppP, sExt, sIns, sSet, sAugIx, sNext, sBreak, sCont, sRaise, goN, goT, gN, gsNil, gsCons, gT, etP, etE, etAnd, etOr, etNot, tB, tTru, tAndP, tOrP, tNotP, tYesP, pVar, pC, pOp, pUn, paNil, paCons, pTup, pLst, pAndV, pOrV, pNotV, pIf, poNone, poSome, pSl, pRev, pCall, pCB, pTIx, piSeq, eP, eF, pth0, pthS, eRd, eFr, eMv, eaNil, eaCons, eaLate, eTup, eLst, eIx, eOp, eUn, eIf, eCall, eCB, eCBF, eSl, eSlH, eTIx, ePop, eCat, eiSeq, eiRange, eiEnum, dputs, dget, dset, dwipe, getP, getD, setP, getAll, fnEn, startD, opAdd, opSub, opMul, opMod, opDiv, opPow, opNeg, opEq, opNe, opLt, opLe, opGt, opGe, opIsN, opNotN, opIx, opSl, opRev, ipAdd, fLen, fTuple, fList, fInt, fAbs, OV.fz, fzL, nol, nolL, List.map_cons, List.map_nil, List.cons_append, List.nil_append, List.replicate_succ, List.replicate_zero, List.append_nil, List.length_cons, List.length_nil, if_true, if_false, eZ, eFz, goF, frzD, frzO, List.map, fzL_im, eqOk, scalD, deq]
    refine ⟨b, es.length + 1, rfl, hb, ⟨by omega, by omega⟩, fun b' v hb' hv0 hv1 => ⟨rfl, ?_⟩⟩
    simp [seq_def, sIf, sRet, sRetN, sAsg, sPar, sPar3, sDrop, sAug, sApp, sAppP, sExt, sIns, sSet, sAugIx, sNext, sBreak, sCont, sRaise, goN, goT, gN, gsNil, gsCons, gT, etP, etE, etAnd, etOr, etNot, tB, tTru, tAndP, tOrP, tNotP, tYesP, pVar, pC, pOp, pUn, paNil, paCons, pTup, pLst, pAndV, pOrV, pNotV, pIf, poNone, poSome, pSl, pRev, pCall, pCB, pTIx, piSeq, eP, eF, pth0, pthS, eRd, eFr, eMv, eaNil, eaCons, eaLate, eTup, eLst, eIx, eOp, eUn, eIf, eCall, eCB, eCBF, eSl, eSlH, eTIx, ePop, eCat, eiSeq, eiRange, eiEnum, dputs, dget, dset, dwipe, getP, getD, setP, getAll, fnEn, startD, opAdd, opSub, opMul, opMod, opDiv, opPow, opNeg, opEq, opNe, opLt, opLe, opGt, opGe, opIsN, opNotN, opIx, opSl, opRev, ipAdd, fLen, fTuple, fList, fInt, fAbs, OV.fz, fzL, nol, nolL, List.map_cons, List.map_nil, List.cons_append, List.nil_append, List.replicate_succ, List.replicate_zero, List.append_nil, List.length_cons, List.length_nil, if_true, if_false, eZ, eFz, goF, frzD, frzO, List.map, fzL_im, eqOk, scalD, deq]
    refine ⟨by show es.length < 16777216; omega, ⟨hv0, by omega⟩, ?_⟩
    have e : insAt (es.map OV.im) v.toNat (OV.im d) = (insAt es v.toNat d).map OV.im := by simp [insAt]
    rw [e]
    have p : (insAt es v.toNat d).Perm (es ++ [d]) := by
      unfold insAt
      have h1 : (es.take v.toNat ++ [d] ++ es.drop v.toNat).Perm (es.take v.toNat ++ (es.drop v.toNat ++ [d])) := by
        rw [List.append_assoc]
        exact List.Perm.append_left _ List.perm_append_comm
      rw [← List.append_assoc, List.take_append_drop] at h1
      exact h1
    refine mixed_loop E ds (insAt es v.toNat d) b' s1 _ hb' (by have := p.length_eq; simp at this; omega) fun b2 es' x' hb2 hp => h b2 es' x' hb2 (hp.trans ?_)
    have := List.Perm.append_right ds p
    simpa using this
theorem vc_mixed (os : List OV) (Qd : OV → List OV → Prop) (Xd : Xc → Prop) (h : fdMixed os Qd Xd) : s__law_mixed fdTake (fnEn [0] Qd Xd) (startD 4 os) := by
  obtain ⟨b, ds, rfl, hb, hl, hQ⟩ := h
  simp [s__law_mixed, sFor, seq_def, sIf, sRet, sRetN, sAsg, sPar, sPar3, sDrop, sAug, sApp, sAppP, sExt, sIns, sSet, sAugIx, sNext, sBreak, sCont, sRaise, goN, goT, gN, gsNil, gsCons, gT, etP, etE, etAnd, etOr, etNot, tB, tTru, tAndP, tOrP, tNotP, tYesP, pVar, pC, pOp, pUn, paNil, paCons, pTup, pLst, pAndV, pOrV, pNotV, pIf, poNone, poSome, pSl, pRev, pCall, pCB, pTIx, piSeq, eP, eF, pth0, pthS, eRd, eFr, eMv, eaNil, eaCons, eaLate, eTup, eLst, eIx, eOp, eUn, eIf, eCall, eCB, eCBF, eSl, eSlH, eTIx, ePop, eCat, eiSeq, eiRange, eiEnum, dputs, dget, dset, dwipe, getP, getD, setP, getAll, fnEn, startD, opAdd, opSub, opMul, opMod, opDiv, opPow, opNeg, opEq, opNe, opLt, opLe, opGt, opGe, opIsN, opNotN, opIx, opSl, opRev, ipAdd, fLen, fTuple, fList, fInt, fAbs, OV.fz, fzL, nol, nolL, List.map_cons, List.map_nil, List.cons_append, List.nil_append, List.replicate_succ, List.replicate_zero, List.append_nil, List.length_cons, List.length_nil, if_true, if_false, eZ, eFz, goF, frzD, frzO, List.map, fzL_im, eqOk, scalD, deq]
  refine mixed_loop _ ds [] b _ none hb (by simpa using hl) fun b' es' x' hb' hp => ?_
  simp [seq_def, sIf, sRet, sRetN, sAsg, sPar, sPar3, sDrop, sAug, sApp, sAppP, sExt, sIns, sSet, sAugIx, sNext, sBreak, sCont, sRaise, goN, goT, gN, gsNil, gsCons, gT, etP, etE, etAnd, etOr, etNot, tB, tTru, tAndP, tOrP, tNotP, tYesP, pVar, pC, pOp, pUn, paNil, paCons, pTup, pLst, pAndV, pOrV, pNotV, pIf, poNone, poSome, pSl, pRev, pCall, pCB, pTIx, piSeq, eP, eF, pth0, pthS, eRd, eFr, eMv, eaNil, eaCons, eaLate, eTup, eLst, eIx, eOp, eUn, eIf, eCall, eCB, eCBF, eSl, eSlH, eTIx, ePop, eCat, eiSeq, eiRange, eiEnum, dputs, dget, dset, dwipe, getP, getD, setP, getAll, fnEn, startD, opAdd, opSub, opMul, opMod, opDiv, opPow, opNeg, opEq, opNe, opLt, opLe, opGt, opGe, opIsN, opNotN, opIx, opSl, opRev, ipAdd, fLen, fTuple, fList, fInt, fAbs, OV.fz, fzL, nol, nolL, List.map_cons, List.map_nil, List.cons_append, List.nil_append, List.replicate_succ, List.replicate_zero, List.append_nil, List.length_cons, List.length_nil, if_true, if_false, eZ, eFz, goF, frzD, frzO, List.map, fzL_im, eqOk, scalD, deq]
  exact hQ b' es' hb' (by simpa using hp)
end G66
namespace G66
open PySem DL
inductive Hw where
  | has | first | last
def Hw.s : Hw → Str
  | .has => "has"
  | .first => "first"
  | .last => "last"
inductive Ao where
  | and | or
def Ao.s : Ao → Str
  | .and => "and"
  | .or => "or"
inductive Tst where
  | has (w : Hw) (ts : List Str) | nope | not (t : Tst) | many (w : Ao) (l : List Tst)
mutual
def tE : Tst → D
  | .has w ts => .tup [.str w.s, .tup (ts.map .str)]
  | .nope => .tup [.str "none"]
  | .not t => .tup [.str "not", tE t]
  | .many w l => .tup [.str w.s, .tup (tEL l)]
def tEL : List Tst → List D
  | [] => []
  | t :: l => tE t :: tEL l
end
mutual
def tD : Tst → Nat
  | .has _ _ => 0
  | .nope => 0
  | .not t => tD t + 1
  | .many _ l => tDL l + 1
def tDL : List Tst → Nat
  | [] => 0
  | t :: l => max (tD t) (tDL l)
end
mutual
def tC : Tst → Int
  | .has _ _ => 1
  | .nope => 1
  | .not t => 1 + tC t
  | .many _ l => 1 + tCL l
def tCL : List Tst → Int
  | [] => 0
  | t :: l => tC t + tCL l
end
theorem tEL_map : ∀ l, tEL l = l.map tE
  | [] => rfl
  | t :: l => by simp [tEL, tEL_map l]
theorem tDL_mem : ∀ {l : List Tst} {t : Tst}, t ∈ l → tD t ≤ tDL l
  | t :: l, _, .head _ => by simp [tDL]; omega
  | t :: l, u, .tail _ m => by have := tDL_mem m; simp [tDL]; omega
inductive Part where
  | page (p : Str) (l : List Part) | apply (m : Str) (t : Option (List Str)) | iff (t : Tst) (a b : List Part)
mutual
def pE : Part → D
  | .page p l => .tup [.str "page", .str p, .tup (pEL l)]
  | .apply m none => .tup [.str "apply", .str m, .non]
  | .apply m (some ts) => .tup [.str "apply", .str m, .tup (ts.map .str)]
  | .iff t a b => .tup [.str "if", tE t, .tup (pEL a), .tup (pEL b)]
def pEL : List Part → List D
  | [] => []
  | p :: l => pE p :: pEL l
end
theorem pEL_map : ∀ l, pEL l = l.map pE
  | [] => rfl
  | p :: l => by simp [pEL, pEL_map l]
/-- the parts of a part -/
def inn : Part → List Part
  | .page _ l => l
  | .apply _ _ => []
  | .iff _ a b => a ++ b
mutual
def pD : Part → Nat
  | .page _ l => pDL l + 1
  | .apply _ _ => 0
  | .iff _ a b => max (pDL a) (pDL b) + 1
def pDL : List Part → Nat
  | [] => 0
  | p :: l => max (pD p) (pDL l)
end
mutual
/-- all parts, each ahead of its own -/
def pre : Part → List Part
  | .page p l => .page p l :: preL l
  | .apply m t => [.apply m t]
  | .iff t a b => .iff t a b :: (preL a ++ preL b)
def preL : List Part → List Part
  | [] => []
  | p :: l => pre p ++ preL l
end
theorem preL_flat : ∀ l, preL l = l.flatMap pre
  | [] => rfl
  | p :: l => by simp [preL, preL_flat l]
theorem preL_append (a b : List Part) : preL (a ++ b) = preL a ++ preL b := by simp [preL_flat]
theorem pre_inn (p : Part) : pre p = p :: preL (inn p) := by
  cases p with
  | page p l => simp [pre, inn]
  | apply m t => simp [pre, inn, preL]
  | iff t a b => simp [pre, inn, preL_append]
theorem pDL_mem : ∀ {l : List Part} {p : Part}, p ∈ l → pD p ≤ pDL l
  | p :: l, _, .head _ => by simp [pDL]; omega
  | p :: l, u, .tail _ m => by have := pDL_mem m; simp [pDL]; omega
mutual
theorem tE_nol : ∀ t, nol (tE t) = true
  | .has w ts => by
    have : ∀ ts : List Str, nolL (ts.map D.str) = true := fun ts => by induction ts with
      | nil => rfl
      | cons a l ih => simp [nolL, nol, ih]
    simp [tE, nol, nolL, this]
  | .nope => by simp [tE, nol, nolL]
  | .not t => by simp [tE, nol, nolL, tE_nol t]
  | .many w l => by simp [tE, nol, nolL, tEL_nol l]
theorem tEL_nol : ∀ l, nolL (tEL l) = true
  | [] => rfl
  | t :: l => by simp [tEL, nolL, tE_nol t, tEL_nol l]
end
theorem strs_nol : ∀ ts : List Str, nolL (ts.map D.str) = true
  | [] => rfl
  | a :: l => by simp [nolL, nol, strs_nol l]
mutual
theorem pE_nol : ∀ t, nol (pE t) = true
  | .page p l => by simp [pE, nol, nolL, pEL_nol l]
  | .apply m none => by simp [pE, nol, nolL]
  | .apply m (some ts) => by simp [pE, nol, nolL, strs_nol]
  | .iff t a b => by simp [pE, nol, nolL, tE_nol, pEL_nol a, pEL_nol b]
theorem pEL_nol : ∀ l, nolL (pEL l) = true
  | [] => rfl
  | t :: l => by simp [pEL, nolL, pE_nol t, pEL_nol l]
end
theorem s1 : (("page" : Str) == ("page" : Str)) = true := by decide
theorem s2 : (("apply" : Str) == ("page" : Str)) = false := by decide
theorem s3 : (("if" : Str) == ("page" : Str)) = false := by decide
theorem s4 : (("page" : Str) == ("if" : Str)) = false := by decide
theorem s5 : (("apply" : Str) == ("if" : Str)) = false := by decide
theorem s6 : (("if" : Str) == ("if" : Str)) = true := by decide
theorem s7 : (("page" : Str) == ("apply" : Str)) = false := by decide
theorem s8 : (("apply" : Str) == ("apply" : Str)) = true := by decide
theorem s9 : (("if" : Str) == ("apply" : Str)) = false := by decide
/-! ### the parts' walkers -/
def fdInner : FD := fun os Q _ => ∃ p : Part, os = [.im (pE p)] ∧ (inn p).length ≤ 10000 ∧ Q (.im (.tup (pEL (inn p)))) []
theorem vc_inner (os : List OV) (Qd : OV → List OV → Prop) (Xd : Xc → Prop) (h : fdInner os Qd Xd) : s_inner_parts (fnEn [] Qd Xd) (startD 1 os) := by
  obtain ⟨p, rfl, hl, hQ⟩ := h
  cases p with
  | page p l =>
    simp [s_inner_parts, pE, seq_def, sIf, sRet, sRetN, sAsg, sPar, sPar3, sDrop, sAug, sApp, sAppP, sExt, sIns, sSet, sAugIx, sNext, sBreak, sCont, sRaise, goN, goT, gN, gsNil, gsCons, gT, etP, etE, etAnd, etOr, etNot, tB, tTru, tAndP, tOrP, tNotP, tYesP, pVar, pC, pOp, pUn, paNil, paCons, pTup, pLst, pAndV, pOrV, pNotV, pIf, poNone, poSome, pSl, pRev, pCall, pCB, pTIx, piSeq, eP, eF, pth0, pthS, eRd, eFr, eMv, eaNil, eaCons, eaLate, eTup, eLst, eIx, eOp, eUn, eIf, eCall, eCB, eCBF, eSl, eSlH, eTIx, ePop, eCat, eiSeq, eiRange, eiEnum, dputs, dget, dset, dwipe, getP, getD, setP, getAll, fnEn, startD, opAdd, opSub, opMul, opMod, opDiv, opPow, opNeg, opEq, opNe, opLt, opLe, opGt, opGe, opIsN, opNotN, opIx, opSl, opRev, ipAdd, fLen, fTuple, fList, fInt, fAbs, OV.fz, fzL, nol, nolL, List.map_cons, List.map_nil, List.cons_append, List.nil_append, List.replicate_succ, List.replicate_zero, List.append_nil, List.length_cons, List.length_nil, if_true, if_false, eZ, eFz, goF, frzD, frzO, List.map, fzL_im, eqOk, scalD, deq, atD, ixD, eqOk, scalD, deq, s1]
    simpa [inn] using hQ
  | apply m t =>
    cases t <;>
    · simp [s_inner_parts, pE, seq_def, sIf, sRet, sRetN, sAsg, sPar, sPar3, sDrop, sAug, sApp, sAppP, sExt, sIns, sSet, sAugIx, sNext, sBreak, sCont, sRaise, goN, goT, gN, gsNil, gsCons, gT, etP, etE, etAnd, etOr, etNot, tB, tTru, tAndP, tOrP, tNotP, tYesP, pVar, pC, pOp, pUn, paNil, paCons, pTup, pLst, pAndV, pOrV, pNotV, pIf, poNone, poSome, pSl, pRev, pCall, pCB, pTIx, piSeq, eP, eF, pth0, pthS, eRd, eFr, eMv, eaNil, eaCons, eaLate, eTup, eLst, eIx, eOp, eUn, eIf, eCall, eCB, eCBF, eSl, eSlH, eTIx, ePop, eCat, eiSeq, eiRange, eiEnum, dputs, dget, dset, dwipe, getP, getD, setP, getAll, fnEn, startD, opAdd, opSub, opMul, opMod, opDiv, opPow, opNeg, opEq, opNe, opLt, opLe, opGt, opGe, opIsN, opNotN, opIx, opSl, opRev, ipAdd, fLen, fTuple, fList, fInt, fAbs, OV.fz, fzL, nol, nolL, List.map_cons, List.map_nil, List.cons_append, List.nil_append, List.replicate_succ, List.replicate_zero, List.append_nil, List.length_cons, List.length_nil, if_true, if_false, eZ, eFz, goF, frzD, frzO, List.map, fzL_im, eqOk, scalD, deq, atD, ixD, eqOk, scalD, deq, s2, s5]
      simpa [inn, pEL] using hQ
  | iff t a b =>
    simp [inn] at hl
    simp [s_inner_parts, pE, seq_def, sIf, sRet, sRetN, sAsg, sPar, sPar3, sDrop, sAug, sApp, sAppP, sExt, sIns, sSet, sAugIx, sNext, sBreak, sCont, sRaise, goN, goT, gN, gsNil, gsCons, gT, etP, etE, etAnd, etOr, etNot, tB, tTru, tAndP, tOrP, tNotP, tYesP, pVar, pC, pOp, pUn, paNil, paCons, pTup, pLst, pAndV, pOrV, pNotV, pIf, poNone, poSome, pSl, pRev, pCall, pCB, pTIx, piSeq, eP, eF, pth0, pthS, eRd, eFr, eMv, eaNil, eaCons, eaLate, eTup, eLst, eIx, eOp, eUn, eIf, eCall, eCB, eCBF, eSl, eSlH, eTIx, ePop, eCat, eiSeq, eiRange, eiEnum, dputs, dget, dset, dwipe, getP, getD, setP, getAll, fnEn, startD, opAdd, opSub, opMul, opMod, opDiv, opPow, opNeg, opEq, opNe, opLt, opLe, opGt, opGe, opIsN, opNotN, opIx, opSl, opRev, ipAdd, fLen, fTuple, fList, fInt, fAbs, OV.fz, fzL, nol, nolL, List.map_cons, List.map_nil, List.cons_append, List.nil_append, List.replicate_succ, List.replicate_zero, List.append_nil, List.length_cons, List.length_nil, if_true, if_false, eZ, eFz, goF, frzD, frzO, List.map, fzL_im, eqOk, scalD, deq, atD, ixD, eqOk, scalD, deq, s3, s6]
    refine ⟨⟨?_, ?_, ?_⟩, ?_⟩
    · rw [pEL_map, List.length_map]; show _ ≤ 16777216; omega
    · rw [pEL_map, List.length_map]; show _ ≤ 16777216; omega
    · rw [pEL_map, pEL_map, List.length_map, List.length_map]; show _ ≤ 16777216; omega
    · simpa [inn, pEL_map] using hQ
/-- an entry of nodes_of -/
abbrev ent (e : Part × Int) : OV := .im (.tup [pE e.1, .int e.2])
def fdNodes (a : Nat) : FD := fun os Q _ => ∃ l : List Part, os = [.im (.tup (pEL l)), .im (.fn a)] ∧ (preL l).length ≤ 10000 ∧ ∀ es : List (Part × Int), es.map (·.1) = preL l → Q (.lst (es.map ent)) []
theorem pre_pos (p : Part) : 1 ≤ (pre p).length := by rw [pre_inn]; simp
theorem preL_len : ∀ l : List Part, l.length ≤ (preL l).length
  | [] => by simp [preL]
  | p :: l => by have := preL_len l; have := pre_pos p; simp [preL]; omega
theorem comp_ents1 : ∀ (l : List Part) (d0 d1 d2 d3 d5 d6 x : Option OV) (F : FD) (a : Nat) (Q : List OV → DE → Prop), Q (l.map fun p => ent (p, 0)) [d0, d1, d2, d3, none, d5, d6] → compE [4] (gN 4) (etP tYesP) (eo1_nodes_of F a) (l.map pE) [d0, d1, d2, d3, x, d5, d6] Q
  | [], _, _, _, _, _, _, _, _, _, _, h => h
  | p :: l, d0, d1, d2, d3, d5, d6, x, F, a, Q, h => by
    simp [compE, eo1_nodes_of, seq_def, sIf, sRet, sRetN, sAsg, sPar, sPar3, sDrop, sAug, sApp, sAppP, sExt, sIns, sSet, sAugIx, sNext, sBreak, sCont, sRaise, goN, goT, gN, gsNil, gsCons, gT, etP, etE, etAnd, etOr, etNot, tB, tTru, tAndP, tOrP, tNotP, tYesP, pVar, pC, pOp, pUn, paNil, paCons, pTup, pLst, pAndV, pOrV, pNotV, pIf, poNone, poSome, pSl, pRev, pCall, pCB, pTIx, piSeq, eP, eF, pth0, pthS, eRd, eFr, eMv, eaNil, eaCons, eaLate, eTup, eLst, eIx, eOp, eUn, eIf, eCall, eCB, eCBF, eSl, eSlH, eTIx, ePop, eCat, eiSeq, eiRange, eiEnum, dputs, dget, dset, dwipe, getP, getD, setP, getAll, fnEn, startD, opAdd, opSub, opMul, opMod, opDiv, opPow, opNeg, opEq, opNe, opLt, opLe, opGt, opGe, opIsN, opNotN, opIx, opSl, opRev, ipAdd, fLen, fTuple, fList, fInt, fAbs, OV.fz, fzL, nol, nolL, List.map_cons, List.map_nil, List.cons_append, List.nil_append, List.replicate_succ, List.replicate_zero, List.append_nil, List.length_cons, List.length_nil, if_true, if_false, eZ, eFz, goF, frzD, frzO, List.map, fzL_im, eqOk, scalD, deq]
    exact ⟨by decide, comp_ents1 l _ _ _ _ _ _ _ F a _ h⟩
theorem comp_ents2 (k : Int) : ∀ (l : List Part) (d0 d1 d2 d3 d4 x : Option OV) (F : FD) (a : Nat) (Q : List OV → DE → Prop), Q (l.map fun p => ent (p, k + 1)) [d0, d1, d2, d3, d4, some (.im (.int k)), none] → compE [6] (gN 6) (etP tYesP) (eo2_nodes_of F a) (l.map pE) [d0, d1, d2, d3, d4, some (.im (.int k)), x] Q
  | [], _, _, _, _, _, _, _, _, _, h => h
  | p :: l, d0, d1, d2, d3, d4, x, F, a, Q, h => by
    simp [compE, eo2_nodes_of, seq_def, sIf, sRet, sRetN, sAsg, sPar, sPar3, sDrop, sAug, sApp, sAppP, sExt, sIns, sSet, sAugIx, sNext, sBreak, sCont, sRaise, goN, goT, gN, gsNil, gsCons, gT, etP, etE, etAnd, etOr, etNot, tB, tTru, tAndP, tOrP, tNotP, tYesP, pVar, pC, pOp, pUn, paNil, paCons, pTup, pLst, pAndV, pOrV, pNotV, pIf, poNone, poSome, pSl, pRev, pCall, pCB, pTIx, piSeq, eP, eF, pth0, pthS, eRd, eFr, eMv, eaNil, eaCons, eaLate, eTup, eLst, eIx, eOp, eUn, eIf, eCall, eCB, eCBF, eSl, eSlH, eTIx, ePop, eCat, eiSeq, eiRange, eiEnum, dputs, dget, dset, dwipe, getP, getD, setP, getAll, fnEn, startD, opAdd, opSub, opMul, opMod, opDiv, opPow, opNeg, opEq, opNe, opLt, opLe, opGt, opGe, opIsN, opNotN, opIx, opSl, opRev, ipAdd, fLen, fTuple, fList, fInt, fAbs, OV.fz, fzL, nol, nolL, List.map_cons, List.map_nil, List.cons_append, List.nil_append, List.replicate_succ, List.replicate_zero, List.append_nil, List.length_cons, List.length_nil, if_true, if_false, eZ, eFz, goF, frzD, frzO, List.map, fzL_im, eqOk, scalD, deq]
    exact ⟨by decide, comp_ents2 k l _ _ _ _ _ _ F a _ h⟩
/-- what a stack stands for -/
def rest (w : List (Part × Int)) : List Part := (w.reverse.map (·.1)).flatMap pre
theorem rest_snoc (w : List (Part × Int)) (p : Part) (k : Int) : rest (w ++ [(p, k)]) = p :: (preL (inn p) ++ rest w) := by simp [rest, pre_inn]
theorem rest_push (w : List (Part × Int)) (l : List Part) (k : Int) : rest (w ++ l.reverse.map fun p => (p, k)) = preL l ++ rest w := by
  simp [rest, preL_flat, List.map_reverse, Function.comp_def]
theorem snoc_cases {α : Type} (w : List α) : w = [] ∨ ∃ v e, w = v ++ [e] := by
  rcases List.eq_nil_or_concat w with h | ⟨v, e, h⟩
  · exact .inl h
  · exact .inr ⟨v, e, by rw [h, List.concat_eq_append]⟩
theorem vc_nodes (a : Nat) (os : List OV) (Qd : OV → List OV → Prop) (Xd : Xc → Prop) (h : fdNodes a os Qd Xd) : s_nodes_of fdInner a (fnEn [] Qd Xd) (startD 7 os) := by
  obtain ⟨l, rfl, hl, hQ⟩ := h
  have hll := preL_len l
  have hline : ∀ n : Nat, n ≤ 10000 → n ≤ line := fun n h => Nat.le_trans h (by decide)
  simp [s_nodes_of, eComp, seq_def, sIf, sRet, sRetN, sAsg, sPar, sPar3, sDrop, sAug, sApp, sAppP, sExt, sIns, sSet, sAugIx, sNext, sBreak, sCont, sRaise, goN, goT, gN, gsNil, gsCons, gT, etP, etE, etAnd, etOr, etNot, tB, tTru, tAndP, tOrP, tNotP, tYesP, pVar, pC, pOp, pUn, paNil, paCons, pTup, pLst, pAndV, pOrV, pNotV, pIf, poNone, poSome, pSl, pRev, pCall, pCB, pTIx, piSeq, eP, eF, pth0, pthS, eRd, eFr, eMv, eaNil, eaCons, eaLate, eTup, eLst, eIx, eOp, eUn, eIf, eCall, eCB, eCBF, eSl, eSlH, eTIx, ePop, eCat, eiSeq, eiRange, eiEnum, dputs, dget, dset, dwipe, getP, getD, setP, getAll, fnEn, startD, opAdd, opSub, opMul, opMod, opDiv, opPow, opNeg, opEq, opNe, opLt, opLe, opGt, opGe, opIsN, opNotN, opIx, opSl, opRev, ipAdd, fLen, fTuple, fList, fInt, fAbs, OV.fz, fzL, nol, nolL, List.map_cons, List.map_nil, List.cons_append, List.nil_append, List.replicate_succ, List.replicate_zero, List.append_nil, List.length_cons, List.length_nil, if_true, if_false, eZ, eFz, goF, frzD, frzO, List.map, fzL_im, eqOk, scalD, deq]
  refine ⟨hline _ (by rw [pEL_map, List.length_map]; omega), ?_⟩
  rw [pEL_map, ← List.map_reverse]
  refine comp_ents1 l.reverse _ _ _ _ _ _ _ _ _ _ ?_
  simp only [seq_def, sIf, sRet, sRetN, sAsg, sPar, sPar3, sDrop, sAug, sApp, sAppP, sExt, sIns, sSet, sAugIx, sNext, sBreak, sCont, sRaise, goN, goT, gN, gsNil, gsCons, gT, etP, etE, etAnd, etOr, etNot, tB, tTru, tAndP, tOrP, tNotP, tYesP, pVar, pC, pOp, pUn, paNil, paCons, pTup, pLst, pAndV, pOrV, pNotV, pIf, poNone, poSome, pSl, pRev, pCall, pCB, pTIx, piSeq, eP, eF, pth0, pthS, eRd, eFr, eMv, eaNil, eaCons, eaLate, eTup, eLst, eIx, eOp, eUn, eIf, eCall, eCB, eCBF, eSl, eSlH, eTIx, ePop, eCat, eiSeq, eiRange, eiEnum, dputs, dget, dset, dwipe, getP, getD, setP, getAll, fnEn, startD, opAdd, opSub, opMul, opMod, opDiv, opPow, opNeg, opEq, opNe, opLt, opLe, opGt, opGe, opIsN, opNotN, opIx, opSl, opRev, ipAdd, fLen, fTuple, fList, fInt, fAbs, OV.fz, fzL, nol, nolL, List.map_cons, List.map_nil, List.cons_append, List.nil_append, List.replicate_succ, List.replicate_zero, List.append_nil, List.length_cons, List.length_nil, if_true, if_false, eZ, eFz, goF, frzD, frzO, List.map, fzL_im, eqOk, scalD, deq]
  refine while_rule (fun n δ => ∃ (f w : List (Part × Int)) (x4 x5 x6 : Option OV), δ = [some (.im (.tup (l.map pE))), some (.im (.fn a)), some (.lst (f.map ent)), some (.lst (w.map ent)), x4, x5, x6] ∧
    f.map (·.1) ++ rest w = preL l ∧ n = (rest w).length) (preL l).length ⟨[], l.reverse.map fun p => (p, 0), none, none, none, by simp, by simpa [rest] using rest_push [] l 0, by simpa [rest] using congrArg List.length (rest_push [] l 0).symm⟩ ?_
  rintro n δ ⟨f, w, x4, x5, x6, rfl, hpre, rfl⟩
  rcases snoc_cases w with rfl | ⟨w, ⟨p, k⟩, rfl⟩
  · simp [wt1_nodes_of, seq_def, sIf, sRet, sRetN, sAsg, sPar, sPar3, sDrop, sAug, sApp, sAppP, sExt, sIns, sSet, sAugIx, sNext, sBreak, sCont, sRaise, goN, goT, gN, gsNil, gsCons, gT, etP, etE, etAnd, etOr, etNot, tB, tTru, tAndP, tOrP, tNotP, tYesP, pVar, pC, pOp, pUn, paNil, paCons, pTup, pLst, pAndV, pOrV, pNotV, pIf, poNone, poSome, pSl, pRev, pCall, pCB, pTIx, piSeq, eP, eF, pth0, pthS, eRd, eFr, eMv, eaNil, eaCons, eaLate, eTup, eLst, eIx, eOp, eUn, eIf, eCall, eCB, eCBF, eSl, eSlH, eTIx, ePop, eCat, eiSeq, eiRange, eiEnum, dputs, dget, dset, dwipe, getP, getD, setP, getAll, fnEn, startD, opAdd, opSub, opMul, opMod, opDiv, opPow, opNeg, opEq, opNe, opLt, opLe, opGt, opGe, opIsN, opNotN, opIx, opSl, opRev, ipAdd, fLen, fTuple, fList, fInt, fAbs, OV.fz, fzL, nol, nolL, List.map_cons, List.map_nil, List.cons_append, List.nil_append, List.replicate_succ, List.replicate_zero, List.append_nil, List.length_cons, List.length_nil, if_true, if_false, eZ, eFz, goF, frzD, frzO, List.map, fzL_im, eqOk, scalD, deq, truth, strSz]
    exact hQ f (by simpa [rest] using hpre)
  · have hr := rest_snoc w p k
    rw [hr] at hpre
    have htot := congrArg List.length hpre
    simp only [List.length_append, List.length_map, List.length_cons] at htot
    have hin := preL_len (inn p)
    simp [wt1_nodes_of, L1_nodes_of, eComp, pCallV, seq_def, sIf, sRet, sRetN, sAsg, sPar, sPar3, sDrop, sAug, sApp, sAppP, sExt, sIns, sSet, sAugIx, sNext, sBreak, sCont, sRaise, goN, goT, gN, gsNil, gsCons, gT, etP, etE, etAnd, etOr, etNot, tB, tTru, tAndP, tOrP, tNotP, tYesP, pVar, pC, pOp, pUn, paNil, paCons, pTup, pLst, pAndV, pOrV, pNotV, pIf, poNone, poSome, pSl, pRev, pCall, pCB, pTIx, piSeq, eP, eF, pth0, pthS, eRd, eFr, eMv, eaNil, eaCons, eaLate, eTup, eLst, eIx, eOp, eUn, eIf, eCall, eCB, eCBF, eSl, eSlH, eTIx, ePop, eCat, eiSeq, eiRange, eiEnum, dputs, dget, dset, dwipe, getP, getD, setP, getAll, fnEn, startD, opAdd, opSub, opMul, opMod, opDiv, opPow, opNeg, opEq, opNe, opLt, opLe, opGt, opGe, opIsN, opNotN, opIx, opSl, opRev, ipAdd, fLen, fTuple, fList, fInt, fAbs, OV.fz, fzL, nol, nolL, List.map_cons, List.map_nil, List.cons_append, List.nil_append, List.replicate_succ, List.replicate_zero, List.append_nil, List.length_cons, List.length_nil, if_true, if_false, eZ, eFz, goF, frzD, frzO, List.map, fzL_im, eqOk, scalD, deq, truth, strSz]
    rw [if_neg (by rw [fzL_map]; simp)]
    refine ⟨by decide, by show f.length < 16777216; omega, p, rfl, by omega, ?_⟩
    simp only [OV.fz]
    refine ⟨hline _ (by rw [pEL_map, List.length_map]; omega), ?_⟩
    rw [pEL_map, ← List.map_reverse]
    refine comp_ents2 k (inn p).reverse _ _ _ _ _ _ _ _ _ ?_
    simp [seq_def, sIf, sRet, sRetN, sAsg, sPar, sPar3, sDrop, sAug, sApp, sAppP, sExt, sIns, sSet, sAugIx, sNext, sBreak, sCont, sRaise, goN, goT, gN, gsNil, gsCons, gT, etP, etE, etAnd, etOr, etNot, tB, tTru, tAndP, tOrP, tNotP, tYesP, pVar, pC, pOp, pUn, paNil, paCons, pTup, pLst, pAndV, pOrV, pNotV, pIf, poNone, poSome, pSl, pRev, pCall, pCB, pTIx, piSeq, eP, eF, pth0, pthS, eRd, eFr, eMv, eaNil, eaCons, eaLate, eTup, eLst, eIx, eOp, eUn, eIf, eCall, eCB, eCBF, eSl, eSlH, eTIx, ePop, eCat, eiSeq, eiRange, eiEnum, dputs, dget, dset, dwipe, getP, getD, setP, getAll, fnEn, startD, opAdd, opSub, opMul, opMod, opDiv, opPow, opNeg, opEq, opNe, opLt, opLe, opGt, opGe, opIsN, opNotN, opIx, opSl, opRev, ipAdd, fLen, fTuple, fList, fInt, fAbs, OV.fz, fzL, nol, nolL, List.map_cons, List.map_nil, List.cons_append, List.nil_append, List.replicate_succ, List.replicate_zero, List.append_nil, List.length_cons, List.length_nil, if_true, if_false, eZ, eFz, goF, frzD, frzO, List.map, fzL_im, eqOk, scalD, deq]
    have hw : w.length ≤ (rest w).length := by
      have : ∀ u : List (Part × Int), u.length ≤ (rest u.reverse).length := fun u => by
        induction u with
        | nil => simp [rest]
        | cons e u ih =>
          obtain ⟨q, j⟩ := e
          rw [List.reverse_cons, rest_snoc]
          simp
          omega
      simpa using this w.reverse
    refine ⟨hline _ (by omega), _, ?_, f ++ [(p, k)], w ++ (inn p).reverse.map fun q => (q, k + 1), ⟨by simp, by simp [List.map_reverse, Function.comp_def]⟩, ?_, rfl⟩
    · rw [rest_push, hr]
      simp
    · rw [rest_push]
      simpa using hpre
def fdPartsIn : FD := fun os Q _ => ∃ l : List Part, os = [.im (.tup (pEL l))] ∧ (preL l).length ≤ 10000 ∧ Q (.im (.tup (pEL (preL l)))) []
theorem vc_partsIn (a : Nat) (os : List OV) (Qd : OV → List OV → Prop) (Xd : Xc → Prop) (h : fdPartsIn os Qd Xd) : s_parts_in (fdNodes a) a (fnEn [] Qd Xd) (startD 3 os) := by
  obtain ⟨l, rfl, hl, hQ⟩ := h
  have hll := preL_len l
  simp [s_parts_in, pComp, seq_def, sIf, sRet, sRetN, sAsg, sPar, sPar3, sDrop, sAug, sApp, sAppP, sExt, sIns, sSet, sAugIx, sNext, sBreak, sCont, sRaise, goN, goT, gN, gsNil, gsCons, gT, etP, etE, etAnd, etOr, etNot, tB, tTru, tAndP, tOrP, tNotP, tYesP, pVar, pC, pOp, pUn, paNil, paCons, pTup, pLst, pAndV, pOrV, pNotV, pIf, poNone, poSome, pSl, pRev, pCall, pCB, pTIx, piSeq, eP, eF, pth0, pthS, eRd, eFr, eMv, eaNil, eaCons, eaLate, eTup, eLst, eIx, eOp, eUn, eIf, eCall, eCB, eCBF, eSl, eSlH, eTIx, ePop, eCat, eiSeq, eiRange, eiEnum, dputs, dget, dset, dwipe, getP, getD, setP, getAll, fnEn, startD, opAdd, opSub, opMul, opMod, opDiv, opPow, opNeg, opEq, opNe, opLt, opLe, opGt, opGe, opIsN, opNotN, opIx, opSl, opRev, ipAdd, fLen, fTuple, fList, fInt, fAbs, OV.fz, fzL, nol, nolL, List.map_cons, List.map_nil, List.cons_append, List.nil_append, List.replicate_succ, List.replicate_zero, List.append_nil, List.length_cons, List.length_nil, if_true, if_false, eZ, eFz, goF, frzD, frzO, List.map, fzL_im, eqOk, scalD, deq]
  refine ⟨l, rfl, hl, fun es he => ?_⟩
  simp [seq_def, sIf, sRet, sRetN, sAsg, sPar, sPar3, sDrop, sAug, sApp, sAppP, sExt, sIns, sSet, sAugIx, sNext, sBreak, sCont, sRaise, goN, goT, gN, gsNil, gsCons, gT, etP, etE, etAnd, etOr, etNot, tB, tTru, tAndP, tOrP, tNotP, tYesP, pVar, pC, pOp, pUn, paNil, paCons, pTup, pLst, pAndV, pOrV, pNotV, pIf, poNone, poSome, pSl, pRev, pCall, pCB, pTIx, piSeq, eP, eF, pth0, pthS, eRd, eFr, eMv, eaNil, eaCons, eaLate, eTup, eLst, eIx, eOp, eUn, eIf, eCall, eCB, eCBF, eSl, eSlH, eTIx, ePop, eCat, eiSeq, eiRange, eiEnum, dputs, dget, dset, dwipe, getP, getD, setP, getAll, fnEn, startD, opAdd, opSub, opMul, opMod, opDiv, opPow, opNeg, opEq, opNe, opLt, opLe, opGt, opGe, opIsN, opNotN, opIx, opSl, opRev, ipAdd, fLen, fTuple, fList, fInt, fAbs, OV.fz, fzL, nol, nolL, List.map_cons, List.map_nil, List.cons_append, List.nil_append, List.replicate_succ, List.replicate_zero, List.append_nil, List.length_cons, List.length_nil, if_true, if_false, eZ, eFz, goF, frzD, frzO, List.map, fzL_im, eqOk, scalD, deq]
  have hes : es.length = (preL l).length := by rw [← he, List.length_map]
  have e1 : fzL (es.map ent) = es.map fun e => D.tup [pE e.1, .int e.2] := by rw [fzL_map, List.map_map]; rfl
  refine ⟨by rw [e1, List.length_map]; show _ ≤ 16777216; omega, ?_⟩
  rw [e1]
  refine compP_map (fun d => match d with | .tup (x :: _) => x | _ => .non) _ _ (fun d hd Q' hq => ?_) ?_
  · obtain ⟨e, _, rfl⟩ := List.mem_map.mp hd
    simp [ep1_parts_in, seq_def, sIf, sRet, sRetN, sAsg, sPar, sPar3, sDrop, sAug, sApp, sAppP, sExt, sIns, sSet, sAugIx, sNext, sBreak, sCont, sRaise, goN, goT, gN, gsNil, gsCons, gT, etP, etE, etAnd, etOr, etNot, tB, tTru, tAndP, tOrP, tNotP, tYesP, pVar, pC, pOp, pUn, paNil, paCons, pTup, pLst, pAndV, pOrV, pNotV, pIf, poNone, poSome, pSl, pRev, pCall, pCB, pTIx, piSeq, eP, eF, pth0, pthS, eRd, eFr, eMv, eaNil, eaCons, eaLate, eTup, eLst, eIx, eOp, eUn, eIf, eCall, eCB, eCBF, eSl, eSlH, eTIx, ePop, eCat, eiSeq, eiRange, eiEnum, dputs, dget, dset, dwipe, getP, getD, setP, getAll, fnEn, startD, opAdd, opSub, opMul, opMod, opDiv, opPow, opNeg, opEq, opNe, opLt, opLe, opGt, opGe, opIsN, opNotN, opIx, opSl, opRev, ipAdd, fLen, fTuple, fList, fInt, fAbs, OV.fz, fzL, nol, nolL, List.map_cons, List.map_nil, List.cons_append, List.nil_append, List.replicate_succ, List.replicate_zero, List.append_nil, List.length_cons, List.length_nil, if_true, if_false, eZ, eFz, goF, frzD, frzO, List.map, fzL_im, eqOk, scalD, deq]
    exact hq
  · simp [seq_def, sIf, sRet, sRetN, sAsg, sPar, sPar3, sDrop, sAug, sApp, sAppP, sExt, sIns, sSet, sAugIx, sNext, sBreak, sCont, sRaise, goN, goT, gN, gsNil, gsCons, gT, etP, etE, etAnd, etOr, etNot, tB, tTru, tAndP, tOrP, tNotP, tYesP, pVar, pC, pOp, pUn, paNil, paCons, pTup, pLst, pAndV, pOrV, pNotV, pIf, poNone, poSome, pSl, pRev, pCall, pCB, pTIx, piSeq, eP, eF, pth0, pthS, eRd, eFr, eMv, eaNil, eaCons, eaLate, eTup, eLst, eIx, eOp, eUn, eIf, eCall, eCB, eCBF, eSl, eSlH, eTIx, ePop, eCat, eiSeq, eiRange, eiEnum, dputs, dget, dset, dwipe, getP, getD, setP, getAll, fnEn, startD, opAdd, opSub, opMul, opMod, opDiv, opPow, opNeg, opEq, opNe, opLt, opLe, opGt, opGe, opIsN, opNotN, opIx, opSl, opRev, ipAdd, fLen, fTuple, fList, fInt, fAbs, OV.fz, fzL, nol, nolL, List.map_cons, List.map_nil, List.cons_append, List.nil_append, List.replicate_succ, List.replicate_zero, List.append_nil, List.length_cons, List.length_nil, if_true, if_false, eZ, eFz, goF, frzD, frzO, List.map, fzL_im, eqOk, scalD, deq]
    have e2 : (List.map ((fun d => match d with | D.tup (x :: tail) => x | x => D.non) ∘ fun (e : Part × Int) => D.tup [pE e.fst, D.int e.snd]) es) = pEL (preL l) := by
      rw [pEL_map, ← he, List.map_map]
      rfl
    rw [e2]
    exact hQ
def isApp : Part → Bool
  | .apply _ _ => true
  | _ => false
def isIf : Part → Bool
  | .iff _ _ _ => true
  | _ => false
/-- straight: one call, of any tag, no if -/
def strR (l : List Part) : Bool := match (preL l).filter isApp with
  | [.apply _ none] => !((preL l).any isIf)
  | _ => false
def fdStrR : FD := fun os Q _ => ∃ l : List Part, os = [.im (.tup (pEL l))] ∧ (preL l).length ≤ 10000 ∧ Q (.im (.bl (strR l))) []
end G66
namespace G66
open PySem DL
theorem comp_app : ∀ (l : List Part) (d0 d1 d2 x : Option OV) (F : FD) (Q : List OV → DE → Prop), Q ((l.filter isApp).map fun p => .im (pE p)) [d0, d1, d2, none] → compE [3] (gN 3) (to1_is_straight_rule F) (eo1_is_straight_rule F) (l.map pE) [d0, d1, d2, x] Q
  | [], _, _, _, _, _, _, h => h
  | p :: l, d0, d1, d2, x, F, Q, h => by
    cases p with
    | page q k =>
      simp [compE, to1_is_straight_rule, pE, seq_def, sIf, sRet, sRetN, sAsg, sPar, sPar3, sDrop, sAug, sApp, sAppP, sExt, sIns, sSet, sAugIx, sNext, sBreak, sCont, sRaise, goN, goT, gN, gsNil, gsCons, gT, etP, etE, etAnd, etOr, etNot, tB, tTru, tAndP, tOrP, tNotP, tYesP, pVar, pC, pOp, pUn, paNil, paCons, pTup, pLst, pAndV, pOrV, pNotV, pIf, poNone, poSome, pSl, pRev, pCall, pCB, pTIx, piSeq, eP, eF, pth0, pthS, eRd, eFr, eMv, eaNil, eaCons, eaLate, eTup, eLst, eIx, eOp, eUn, eIf, eCall, eCB, eCBF, eSl, eSlH, eTIx, ePop, eCat, eiSeq, eiRange, eiEnum, dputs, dget, dset, dwipe, getP, getD, setP, getAll, fnEn, startD, opAdd, opSub, opMul, opMod, opDiv, opPow, opNeg, opEq, opNe, opLt, opLe, opGt, opGe, opIsN, opNotN, opIx, opSl, opRev, ipAdd, fLen, fTuple, fList, fInt, fAbs, OV.fz, fzL, nol, nolL, List.map_cons, List.map_nil, List.cons_append, List.nil_append, List.replicate_succ, List.replicate_zero, List.append_nil, List.length_cons, List.length_nil, if_true, if_false, eZ, eFz, goF, frzD, frzO, List.map, fzL_im, eqOk, scalD, deq, atD, ixD, eqOk, scalD, deq, s7]
      exact comp_app l _ _ _ _ F _ (by simpa [isApp] using h)
    | iff t a b =>
      simp [compE, to1_is_straight_rule, pE, seq_def, sIf, sRet, sRetN, sAsg, sPar, sPar3, sDrop, sAug, sApp, sAppP, sExt, sIns, sSet, sAugIx, sNext, sBreak, sCont, sRaise, goN, goT, gN, gsNil, gsCons, gT, etP, etE, etAnd, etOr, etNot, tB, tTru, tAndP, tOrP, tNotP, tYesP, pVar, pC, pOp, pUn, paNil, paCons, pTup, pLst, pAndV, pOrV, pNotV, pIf, poNone, poSome, pSl, pRev, pCall, pCB, pTIx, piSeq, eP, eF, pth0, pthS, eRd, eFr, eMv, eaNil, eaCons, eaLate, eTup, eLst, eIx, eOp, eUn, eIf, eCall, eCB, eCBF, eSl, eSlH, eTIx, ePop, eCat, eiSeq, eiRange, eiEnum, dputs, dget, dset, dwipe, getP, getD, setP, getAll, fnEn, startD, opAdd, opSub, opMul, opMod, opDiv, opPow, opNeg, opEq, opNe, opLt, opLe, opGt, opGe, opIsN, opNotN, opIx, opSl, opRev, ipAdd, fLen, fTuple, fList, fInt, fAbs, OV.fz, fzL, nol, nolL, List.map_cons, List.map_nil, List.cons_append, List.nil_append, List.replicate_succ, List.replicate_zero, List.append_nil, List.length_cons, List.length_nil, if_true, if_false, eZ, eFz, goF, frzD, frzO, List.map, fzL_im, eqOk, scalD, deq, atD, ixD, eqOk, scalD, deq, s9]
      exact comp_app l _ _ _ _ F _ (by simpa [isApp] using h)
    | apply m t =>
      cases t <;>
      · simp [compE, to1_is_straight_rule, eo1_is_straight_rule, pE, seq_def, sIf, sRet, sRetN, sAsg, sPar, sPar3, sDrop, sAug, sApp, sAppP, sExt, sIns, sSet, sAugIx, sNext, sBreak, sCont, sRaise, goN, goT, gN, gsNil, gsCons, gT, etP, etE, etAnd, etOr, etNot, tB, tTru, tAndP, tOrP, tNotP, tYesP, pVar, pC, pOp, pUn, paNil, paCons, pTup, pLst, pAndV, pOrV, pNotV, pIf, poNone, poSome, pSl, pRev, pCall, pCB, pTIx, piSeq, eP, eF, pth0, pthS, eRd, eFr, eMv, eaNil, eaCons, eaLate, eTup, eLst, eIx, eOp, eUn, eIf, eCall, eCB, eCBF, eSl, eSlH, eTIx, ePop, eCat, eiSeq, eiRange, eiEnum, dputs, dget, dset, dwipe, getP, getD, setP, getAll, fnEn, startD, opAdd, opSub, opMul, opMod, opDiv, opPow, opNeg, opEq, opNe, opLt, opLe, opGt, opGe, opIsN, opNotN, opIx, opSl, opRev, ipAdd, fLen, fTuple, fList, fInt, fAbs, OV.fz, fzL, nol, nolL, List.map_cons, List.map_nil, List.cons_append, List.nil_append, List.replicate_succ, List.replicate_zero, List.append_nil, List.length_cons, List.length_nil, if_true, if_false, eZ, eFz, goF, frzD, frzO, List.map, fzL_im, eqOk, scalD, deq, atD, ixD, eqOk, scalD, deq, s8]
        exact comp_app l _ _ _ _ F _ h
theorem if_first (p : Part) (F : FD) (d0 d1 d2 : Option OV) (Q : D → Prop) (h : Q (.bl (isIf p))) : ep1_is_straight_rule F [d0, d1, d2, some (.im (pE p))] Q fun _ => False := by
  cases p with
  | page q k => simpa [ep1_is_straight_rule, pE, seq_def, sIf, sRet, sRetN, sAsg, sPar, sPar3, sDrop, sAug, sApp, sAppP, sExt, sIns, sSet, sAugIx, sNext, sBreak, sCont, sRaise, goN, goT, gN, gsNil, gsCons, gT, etP, etE, etAnd, etOr, etNot, tB, tTru, tAndP, tOrP, tNotP, tYesP, pVar, pC, pOp, pUn, paNil, paCons, pTup, pLst, pAndV, pOrV, pNotV, pIf, poNone, poSome, pSl, pRev, pCall, pCB, pTIx, piSeq, eP, eF, pth0, pthS, eRd, eFr, eMv, eaNil, eaCons, eaLate, eTup, eLst, eIx, eOp, eUn, eIf, eCall, eCB, eCBF, eSl, eSlH, eTIx, ePop, eCat, eiSeq, eiRange, eiEnum, dputs, dget, dset, dwipe, getP, getD, setP, getAll, fnEn, startD, opAdd, opSub, opMul, opMod, opDiv, opPow, opNeg, opEq, opNe, opLt, opLe, opGt, opGe, opIsN, opNotN, opIx, opSl, opRev, ipAdd, fLen, fTuple, fList, fInt, fAbs, OV.fz, fzL, nol, nolL, List.map_cons, List.map_nil, List.cons_append, List.nil_append, List.replicate_succ, List.replicate_zero, List.append_nil, List.length_cons, List.length_nil, if_true, if_false, eZ, eFz, goF, frzD, frzO, List.map, fzL_im, eqOk, scalD, deq, atD, ixD, eqOk, scalD, deq, s4, isIf] using h
  | iff t a b => simpa [ep1_is_straight_rule, pE, seq_def, sIf, sRet, sRetN, sAsg, sPar, sPar3, sDrop, sAug, sApp, sAppP, sExt, sIns, sSet, sAugIx, sNext, sBreak, sCont, sRaise, goN, goT, gN, gsNil, gsCons, gT, etP, etE, etAnd, etOr, etNot, tB, tTru, tAndP, tOrP, tNotP, tYesP, pVar, pC, pOp, pUn, paNil, paCons, pTup, pLst, pAndV, pOrV, pNotV, pIf, poNone, poSome, pSl, pRev, pCall, pCB, pTIx, piSeq, eP, eF, pth0, pthS, eRd, eFr, eMv, eaNil, eaCons, eaLate, eTup, eLst, eIx, eOp, eUn, eIf, eCall, eCB, eCBF, eSl, eSlH, eTIx, ePop, eCat, eiSeq, eiRange, eiEnum, dputs, dget, dset, dwipe, getP, getD, setP, getAll, fnEn, startD, opAdd, opSub, opMul, opMod, opDiv, opPow, opNeg, opEq, opNe, opLt, opLe, opGt, opGe, opIsN, opNotN, opIx, opSl, opRev, ipAdd, fLen, fTuple, fList, fInt, fAbs, OV.fz, fzL, nol, nolL, List.map_cons, List.map_nil, List.cons_append, List.nil_append, List.replicate_succ, List.replicate_zero, List.append_nil, List.length_cons, List.length_nil, if_true, if_false, eZ, eFz, goF, frzD, frzO, List.map, fzL_im, eqOk, scalD, deq, atD, ixD, eqOk, scalD, deq, s6, isIf] using h
  | apply m t => cases t <;> simpa [ep1_is_straight_rule, pE, seq_def, sIf, sRet, sRetN, sAsg, sPar, sPar3, sDrop, sAug, sApp, sAppP, sExt, sIns, sSet, sAugIx, sNext, sBreak, sCont, sRaise, goN, goT, gN, gsNil, gsCons, gT, etP, etE, etAnd, etOr, etNot, tB, tTru, tAndP, tOrP, tNotP, tYesP, pVar, pC, pOp, pUn, paNil, paCons, pTup, pLst, pAndV, pOrV, pNotV, pIf, poNone, poSome, pSl, pRev, pCall, pCB, pTIx, piSeq, eP, eF, pth0, pthS, eRd, eFr, eMv, eaNil, eaCons, eaLate, eTup, eLst, eIx, eOp, eUn, eIf, eCall, eCB, eCBF, eSl, eSlH, eTIx, ePop, eCat, eiSeq, eiRange, eiEnum, dputs, dget, dset, dwipe, getP, getD, setP, getAll, fnEn, startD, opAdd, opSub, opMul, opMod, opDiv, opPow, opNeg, opEq, opNe, opLt, opLe, opGt, opGe, opIsN, opNotN, opIx, opSl, opRev, ipAdd, fLen, fTuple, fList, fInt, fAbs, OV.fz, fzL, nol, nolL, List.map_cons, List.map_nil, List.cons_append, List.nil_append, List.replicate_succ, List.replicate_zero, List.append_nil, List.length_cons, List.length_nil, if_true, if_false, eZ, eFz, goF, frzD, frzO, List.map, fzL_im, eqOk, scalD, deq, atD, ixD, eqOk, scalD, deq, s5, isIf] using h
theorem bools_map {α : Type} (f : α → Bool) : ∀ l : List α, boolsOf (l.map fun a => D.bl (f a)) = some (l.map f)
  | [] => rfl
  | a :: l => by simp [boolsOf, bools_map f l]
/-- the part that a sign stands for -/
theorem vc_strR (os : List OV) (Qd : OV → List OV → Prop) (Xd : Xc → Prop) (h : fdStrR os Qd Xd) : s_is_straight_rule fdPartsIn (fnEn [] Qd Xd) (startD 4 os) := by
  obtain ⟨l, rfl, hl, hQ⟩ := h
  simp [s_is_straight_rule, eComp, seq_def, sIf, sRet, sRetN, sAsg, sPar, sPar3, sDrop, sAug, sApp, sAppP, sExt, sIns, sSet, sAugIx, sNext, sBreak, sCont, sRaise, goN, goT, gN, gsNil, gsCons, gT, etP, etE, etAnd, etOr, etNot, tB, tTru, tAndP, tOrP, tNotP, tYesP, pVar, pC, pOp, pUn, paNil, paCons, pTup, pLst, pAndV, pOrV, pNotV, pIf, poNone, poSome, pSl, pRev, pCall, pCB, pTIx, piSeq, eP, eF, pth0, pthS, eRd, eFr, eMv, eaNil, eaCons, eaLate, eTup, eLst, eIx, eOp, eUn, eIf, eCall, eCB, eCBF, eSl, eSlH, eTIx, ePop, eCat, eiSeq, eiRange, eiEnum, dputs, dget, dset, dwipe, getP, getD, setP, getAll, fnEn, startD, opAdd, opSub, opMul, opMod, opDiv, opPow, opNeg, opEq, opNe, opLt, opLe, opGt, opGe, opIsN, opNotN, opIx, opSl, opRev, ipAdd, fLen, fTuple, fList, fInt, fAbs, OV.fz, fzL, nol, nolL, List.map_cons, List.map_nil, List.cons_append, List.nil_append, List.replicate_succ, List.replicate_zero, List.append_nil, List.length_cons, List.length_nil, if_true, if_false, eZ, eFz, goF, frzD, frzO, List.map, fzL_im, eqOk, scalD, deq]
  refine ⟨l, rfl, hl, ?_⟩
  simp only [OV.fz]
  refine ⟨trivial, by rw [pEL_map, List.length_map]; show _ ≤ 16777216; omega, ?_⟩
  rw [pEL_map (preL l)]
  refine comp_app (preL l) _ _ _ _ _ _ ?_
  have hf : ((preL l).filter isApp).length ≤ 10000 := Nat.le_trans (List.length_filter_le _ _) hl
  have e1 : fzL (((preL l).filter isApp).map fun p => OV.im (pE p)) = ((preL l).filter isApp).map pE := by rw [fzL_map, List.map_map]; rfl
  simp [pComp, seq_def, sIf, sRet, sRetN, sAsg, sPar, sPar3, sDrop, sAug, sApp, sAppP, sExt, sIns, sSet, sAugIx, sNext, sBreak, sCont, sRaise, goN, goT, gN, gsNil, gsCons, gT, etP, etE, etAnd, etOr, etNot, tB, tTru, tAndP, tOrP, tNotP, tYesP, pVar, pC, pOp, pUn, paNil, paCons, pTup, pLst, pAndV, pOrV, pNotV, pIf, poNone, poSome, pSl, pRev, pCall, pCB, pTIx, piSeq, eP, eF, pth0, pthS, eRd, eFr, eMv, eaNil, eaCons, eaLate, eTup, eLst, eIx, eOp, eUn, eIf, eCall, eCB, eCBF, eSl, eSlH, eTIx, ePop, eCat, eiSeq, eiRange, eiEnum, dputs, dget, dset, dwipe, getP, getD, setP, getAll, fnEn, startD, opAdd, opSub, opMul, opMod, opDiv, opPow, opNeg, opEq, opNe, opLt, opLe, opGt, opGe, opIsN, opNotN, opIx, opSl, opRev, ipAdd, fLen, fTuple, fList, fInt, fAbs, OV.fz, fzL, nol, nolL, List.map_cons, List.map_nil, List.cons_append, List.nil_append, List.replicate_succ, List.replicate_zero, List.append_nil, List.length_cons, List.length_nil, if_true, if_false, eZ, eFz, goF, frzD, frzO, List.map, fzL_im, eqOk, scalD, deq, e1, eqOk, scalD, deq]
  rcases hc : (preL l).filter isApp with _ | ⟨p, _ | ⟨q, r⟩⟩
  · simpa [strR, hc] using hQ
  · have hp : isApp p = true := (List.mem_filter.mp (by rw [hc]; exact List.mem_cons_self : p ∈ (preL l).filter isApp)).2
    cases p with
    | page _ _ => cases hp
    | iff _ _ _ => cases hp
    | apply m t =>
      cases t with
      | some ts =>
        simp [seq_def, sIf, sRet, sRetN, sAsg, sPar, sPar3, sDrop, sAug, sApp, sAppP, sExt, sIns, sSet, sAugIx, sNext, sBreak, sCont, sRaise, goN, goT, gN, gsNil, gsCons, gT, etP, etE, etAnd, etOr, etNot, tB, tTru, tAndP, tOrP, tNotP, tYesP, pVar, pC, pOp, pUn, paNil, paCons, pTup, pLst, pAndV, pOrV, pNotV, pIf, poNone, poSome, pSl, pRev, pCall, pCB, pTIx, piSeq, eP, eF, pth0, pthS, eRd, eFr, eMv, eaNil, eaCons, eaLate, eTup, eLst, eIx, eOp, eUn, eIf, eCall, eCB, eCBF, eSl, eSlH, eTIx, ePop, eCat, eiSeq, eiRange, eiEnum, dputs, dget, dset, dwipe, getP, getD, setP, getAll, fnEn, startD, opAdd, opSub, opMul, opMod, opDiv, opPow, opNeg, opEq, opNe, opLt, opLe, opGt, opGe, opIsN, opNotN, opIx, opSl, opRev, ipAdd, fLen, fTuple, fList, fInt, fAbs, OV.fz, fzL, nol, nolL, List.map_cons, List.map_nil, List.cons_append, List.nil_append, List.replicate_succ, List.replicate_zero, List.append_nil, List.length_cons, List.length_nil, if_true, if_false, eZ, eFz, goF, frzD, frzO, List.map, fzL_im, eqOk, scalD, deq, pE, atD, ixD]
        simpa [strR, hc] using hQ
      | none =>
        simp [seq_def, sIf, sRet, sRetN, sAsg, sPar, sPar3, sDrop, sAug, sApp, sAppP, sExt, sIns, sSet, sAugIx, sNext, sBreak, sCont, sRaise, goN, goT, gN, gsNil, gsCons, gT, etP, etE, etAnd, etOr, etNot, tB, tTru, tAndP, tOrP, tNotP, tYesP, pVar, pC, pOp, pUn, paNil, paCons, pTup, pLst, pAndV, pOrV, pNotV, pIf, poNone, poSome, pSl, pRev, pCall, pCB, pTIx, piSeq, eP, eF, pth0, pthS, eRd, eFr, eMv, eaNil, eaCons, eaLate, eTup, eLst, eIx, eOp, eUn, eIf, eCall, eCB, eCBF, eSl, eSlH, eTIx, ePop, eCat, eiSeq, eiRange, eiEnum, dputs, dget, dset, dwipe, getP, getD, setP, getAll, fnEn, startD, opAdd, opSub, opMul, opMod, opDiv, opPow, opNeg, opEq, opNe, opLt, opLe, opGt, opGe, opIsN, opNotN, opIx, opSl, opRev, ipAdd, fLen, fTuple, fList, fInt, fAbs, OV.fz, fzL, nol, nolL, List.map_cons, List.map_nil, List.cons_append, List.nil_append, List.replicate_succ, List.replicate_zero, List.append_nil, List.length_cons, List.length_nil, if_true, if_false, eZ, eFz, goF, frzD, frzO, List.map, fzL_im, eqOk, scalD, deq, pE, atD, ixD]
        refine ⟨by show _ ≤ 16777216; omega, ?_⟩
        refine compP_map (fun d => match d with | .tup (.str x :: _) => .bl (x == "if") | _ => .non) _ _ (fun d hd Q' hq => ?_) ?_
        · obtain ⟨p, _, rfl⟩ := List.mem_map.mp hd
          refine if_first p fdPartsIn _ _ _ _ ?_
          cases p with
          | page q k => simpa [pE, isIf, s4] using hq
          | iff t a b => simpa [pE, isIf, s6] using hq
          | apply m t => cases t <;> simpa [pE, isIf, s5] using hq
        · have e2 : ((preL l).map pE).map (fun d => match d with | D.tup (.str x :: _) => D.bl (x == "if") | _ => .non) = (preL l).map fun p => D.bl (isIf p) := by
            rw [List.map_map]
            refine List.map_congr_left fun p _ => ?_
            cases p with
            | page q k => simp [pE, isIf, s4]
            | iff t a b => simp [pE, isIf, s6]
            | apply m t => cases t <;> simp [pE, isIf, s5]
          rw [e2]
          simp [fAny, bools_map]
          have : strR l = !((preL l).any isIf) := by simp [strR, hc]
          rw [this] at hQ
          simpa [List.any_map, Function.comp_def] using hQ
  · have hne : ((r.length : Int) + 1 + 1 == 1) = false := by
      rw [beq_eq_false_iff_ne]; omega
    simp [seq_def, sIf, sRet, sRetN, sAsg, sPar, sPar3, sDrop, sAug, sApp, sAppP, sExt, sIns, sSet, sAugIx, sNext, sBreak, sCont, sRaise, goN, goT, gN, gsNil, gsCons, gT, etP, etE, etAnd, etOr, etNot, tB, tTru, tAndP, tOrP, tNotP, tYesP, pVar, pC, pOp, pUn, paNil, paCons, pTup, pLst, pAndV, pOrV, pNotV, pIf, poNone, poSome, pSl, pRev, pCall, pCB, pTIx, piSeq, eP, eF, pth0, pthS, eRd, eFr, eMv, eaNil, eaCons, eaLate, eTup, eLst, eIx, eOp, eUn, eIf, eCall, eCB, eCBF, eSl, eSlH, eTIx, ePop, eCat, eiSeq, eiRange, eiEnum, dputs, dget, dset, dwipe, getP, getD, setP, getAll, fnEn, startD, opAdd, opSub, opMul, opMod, opDiv, opPow, opNeg, opEq, opNe, opLt, opLe, opGt, opGe, opIsN, opNotN, opIx, opSl, opRev, ipAdd, fLen, fTuple, fList, fInt, fAbs, OV.fz, fzL, nol, nolL, List.map_cons, List.map_nil, List.cons_append, List.nil_append, List.replicate_succ, List.replicate_zero, List.append_nil, List.length_cons, List.length_nil, if_true, if_false, eZ, eFz, goF, frzD, frzO, List.map, fzL_im, eqOk, scalD, deq, hne]
    have : strR l = false := by
      unfold strR
      rw [hc]
      cases p <;> first | rfl | (rename_i m t; cases t <;> rfl)
    rw [this] at hQ
    exact hQ
/-! ### templates -/
abbrev Rule := Str × Str × List Part
abbrev rE (r : Rule) : D := .tup [.str r.1, .str r.2.1, .tup (pEL r.2.2)]
def tplE (ms : List Str) (rs : List Rule) : D := .tup [.tup (ms.map .str), .tup (rs.map rE)]
def fdStraight : FD := fun os Q _ => ∃ ms rs, os = [.im (tplE ms rs)] ∧ rs.length ≤ 10000 ∧ (∀ r ∈ rs, (preL r.2.2).length ≤ 10000) ∧ Q (.im (.bl (rs.all fun r => strR r.2.2))) []
theorem vc_straight (os : List OV) (Qd : OV → List OV → Prop) (Xd : Xc → Prop) (h : fdStraight os Qd Xd) : s_is_straight fdStrR (fnEn [] Qd Xd) (startD 4 os) := by
  obtain ⟨ms, rs, rfl, hl, hr, hQ⟩ := h
  simp [s_is_straight, tplE, pComp, seq_def, sIf, sRet, sRetN, sAsg, sPar, sPar3, sDrop, sAug, sApp, sAppP, sExt, sIns, sSet, sAugIx, sNext, sBreak, sCont, sRaise, goN, goT, gN, gsNil, gsCons, gT, etP, etE, etAnd, etOr, etNot, tB, tTru, tAndP, tOrP, tNotP, tYesP, pVar, pC, pOp, pUn, paNil, paCons, pTup, pLst, pAndV, pOrV, pNotV, pIf, poNone, poSome, pSl, pRev, pCall, pCB, pTIx, piSeq, eP, eF, pth0, pthS, eRd, eFr, eMv, eaNil, eaCons, eaLate, eTup, eLst, eIx, eOp, eUn, eIf, eCall, eCB, eCBF, eSl, eSlH, eTIx, ePop, eCat, eiSeq, eiRange, eiEnum, dputs, dget, dset, dwipe, getP, getD, setP, getAll, fnEn, startD, opAdd, opSub, opMul, opMod, opDiv, opPow, opNeg, opEq, opNe, opLt, opLe, opGt, opGe, opIsN, opNotN, opIx, opSl, opRev, ipAdd, fLen, fTuple, fList, fInt, fAbs, OV.fz, fzL, nol, nolL, List.map_cons, List.map_nil, List.cons_append, List.nil_append, List.replicate_succ, List.replicate_zero, List.append_nil, List.length_cons, List.length_nil, if_true, if_false, eZ, eFz, goF, frzD, frzO, List.map, fzL_im, eqOk, scalD, deq, atD, ixD]
  refine ⟨by show _ ≤ 16777216; omega, ?_⟩
  have key : ∀ (rs : List Rule) (δ : DE) (Q : List D → Prop), δ.length = 4 → (∀ r ∈ rs, (preL r.2.2).length ≤ 10000) → Q (rs.map fun r => D.bl (strR r.2.2)) → compP [1, 2, 3] (gT 3 (gsCons (gN 1) (gsCons (gN 2) (gsCons (gN 3) gsNil)))) tYesP (ep1_is_straight fdStrR) δ (rs.map rE) Q := fun rs => by
    induction rs with
    | nil => intro δ Q _ _ h; exact h
    | cons r rs ih =>
      intro δ Q hd hr h
      match δ, hd with
      | [a, b, c, d], _ =>
        simp only [List.map_cons, compP]
        simp [ep1_is_straight, seq_def, sIf, sRet, sRetN, sAsg, sPar, sPar3, sDrop, sAug, sApp, sAppP, sExt, sIns, sSet, sAugIx, sNext, sBreak, sCont, sRaise, goN, goT, gN, gsNil, gsCons, gT, etP, etE, etAnd, etOr, etNot, tB, tTru, tAndP, tOrP, tNotP, tYesP, pVar, pC, pOp, pUn, paNil, paCons, pTup, pLst, pAndV, pOrV, pNotV, pIf, poNone, poSome, pSl, pRev, pCall, pCB, pTIx, piSeq, eP, eF, pth0, pthS, eRd, eFr, eMv, eaNil, eaCons, eaLate, eTup, eLst, eIx, eOp, eUn, eIf, eCall, eCB, eCBF, eSl, eSlH, eTIx, ePop, eCat, eiSeq, eiRange, eiEnum, dputs, dget, dset, dwipe, getP, getD, setP, getAll, fnEn, startD, opAdd, opSub, opMul, opMod, opDiv, opPow, opNeg, opEq, opNe, opLt, opLe, opGt, opGe, opIsN, opNotN, opIx, opSl, opRev, ipAdd, fLen, fTuple, fList, fInt, fAbs, OV.fz, fzL, nol, nolL, List.map_cons, List.map_nil, List.cons_append, List.nil_append, List.replicate_succ, List.replicate_zero, List.append_nil, List.length_cons, List.length_nil, if_true, if_false, eZ, eFz, goF, frzD, frzO, List.map, fzL_im, eqOk, scalD, deq, tYesP]
        exact ⟨_, rfl, hr r List.mem_cons_self, ih _ _ rfl (fun r m => hr r (List.mem_cons_of_mem _ m)) h⟩
  refine key rs _ _ rfl hr ?_
  simp [fAll, bools_map, seq_def, sIf, sRet, sRetN, sAsg, sPar, sPar3, sDrop, sAug, sApp, sAppP, sExt, sIns, sSet, sAugIx, sNext, sBreak, sCont, sRaise, goN, goT, gN, gsNil, gsCons, gT, etP, etE, etAnd, etOr, etNot, tB, tTru, tAndP, tOrP, tNotP, tYesP, pVar, pC, pOp, pUn, paNil, paCons, pTup, pLst, pAndV, pOrV, pNotV, pIf, poNone, poSome, pSl, pRev, pCall, pCB, pTIx, piSeq, eP, eF, pth0, pthS, eRd, eFr, eMv, eaNil, eaCons, eaLate, eTup, eLst, eIx, eOp, eUn, eIf, eCall, eCB, eCBF, eSl, eSlH, eTIx, ePop, eCat, eiSeq, eiRange, eiEnum, dputs, dget, dset, dwipe, getP, getD, setP, getAll, fnEn, startD, opAdd, opSub, opMul, opMod, opDiv, opPow, opNeg, opEq, opNe, opLt, opLe, opGt, opGe, opIsN, opNotN, opIx, opSl, opRev, ipAdd, fLen, fTuple, fList, fInt, fAbs, OV.fz, fzL, nol, nolL, List.map_cons, List.map_nil, List.cons_append, List.nil_append, List.replicate_succ, List.replicate_zero, List.append_nil, List.length_cons, List.length_nil, if_true, if_false, eZ, eFz, goF, frzD, frzO, List.map, fzL_im, eqOk, scalD, deq]
  simpa [List.all_map, Function.comp_def] using hQ
end G66
namespace G66
open PySem DL
abbrev okS (x : Str) : Prop := (x.cps.all (· < 0x110000)) = true
def ruleOf (rs : List Rule) (m t : Str) : List Part := match rs.find? (fun r => r.1 == m && r.2.1 == t) with
  | some r => r.2.2
  | none => []
def fdRuleOf : FD := fun os Q _ => ∃ ms rs m t, os = [.im (tplE ms rs), .im (.str m), .im (.str t)] ∧ okS m ∧ okS t ∧ (∀ r ∈ rs, okS r.1 ∧ okS r.2.1) ∧ Q (.im (.tup (pEL (ruleOf rs m t)))) []
theorem vc_ruleOf (os : List OV) (Qd : OV → List OV → Prop) (Xd : Xc → Prop) (h : fdRuleOf os Qd Xd) : s_rule_of (fnEn [] Qd Xd) (startD 6 os) := by
  obtain ⟨ms, rs, m, t, rfl, hm, ht, hr, hQ⟩ := h
  have key : ∀ (rs : List Rule) (d0 x3 x4 x5 : Option OV) (E : En), (∀ r ∈ rs, okS r.1 ∧ okS r.2.1) → (∀ r, rs.find? (fun r => r.1 == m && r.2.1 == t) = some r → ∀ x3 x4, E.rt (.im (.tup (pEL r.2.2))) [d0, some (.im (.str m)), some (.im (.str t)), x3, x4, some (.im (.tup (pEL r.2.2)))]) →
      (rs.find? (fun r => r.1 == m && r.2.1 == t) = none → ∀ x3 x4 x5, E.nx [d0, some (.im (.str m)), some (.im (.str t)), x3, x4, x5]) →
      forL (gT 3 (gsCons (gN 3) (gsCons (gN 4) (gsCons (gN 5) gsNil)))) L1_rule_of E (rs.map rE) [d0, some (.im (.str m)), some (.im (.str t)), x3, x4, x5] := fun rs => by
    induction rs with
    | nil => intro d0 x3 x4 x5 E _ _ h; exact h rfl x3 x4 x5
    | cons r rs ih =>
      intro d0 x3 x4 x5 E hr h1 h2
      obtain ⟨h3, h4⟩ := hr r List.mem_cons_self
      simp [forL, L1_rule_of, seq_def, sIf, sRet, sRetN, sAsg, sPar, sPar3, sDrop, sAug, sApp, sAppP, sExt, sIns, sSet, sAugIx, sNext, sBreak, sCont, sRaise, goN, goT, gN, gsNil, gsCons, gT, etP, etE, etAnd, etOr, etNot, tB, tTru, tAndP, tOrP, tNotP, tYesP, pVar, pC, pOp, pUn, paNil, paCons, pTup, pLst, pAndV, pOrV, pNotV, pIf, poNone, poSome, pSl, pRev, pCall, pCB, pTIx, piSeq, eP, eF, pth0, pthS, eRd, eFr, eMv, eaNil, eaCons, eaLate, eTup, eLst, eIx, eOp, eUn, eIf, eCall, eCB, eCBF, eSl, eSlH, eTIx, ePop, eCat, eiSeq, eiRange, eiEnum, dputs, dget, dset, dwipe, getP, getD, setP, getAll, fnEn, startD, opAdd, opSub, opMul, opMod, opDiv, opPow, opNeg, opEq, opNe, opLt, opLe, opGt, opGe, opIsN, opNotN, opIx, opSl, opRev, ipAdd, fLen, fTuple, fList, fInt, fAbs, OV.fz, fzL, nol, nolL, List.map_cons, List.map_nil, List.cons_append, List.nil_append, List.replicate_succ, List.replicate_zero, List.append_nil, List.length_cons, List.length_nil, if_true, if_false, eZ, eFz, goF, frzD, frzO, List.map, fzL_im, eqOk, scalD, deq, eqOk, scalD, deq, deqL, cmpOk, okd, okL, dep, depL]
      refine ⟨by decide, ⟨⟨by simpa using h3, by simpa using h4⟩, by simpa using hm, by simpa using ht⟩, ?_⟩
      by_cases hc : (r.1 == m && r.2.1 == t) = true
      · rw [if_pos (by simpa using hc)]
        exact h1 r (by rw [List.find?_cons, hc]) _ _
      · rw [if_neg (by simpa using hc)]
        refine ih _ _ _ _ E (fun r m => hr r (List.mem_cons_of_mem _ m)) (fun q hq => h1 q (by rw [List.find?_cons, Bool.eq_false_iff.mpr hc]; exact hq)) fun hq => h2 (by rw [List.find?_cons, Bool.eq_false_iff.mpr hc]; exact hq)
  simp [s_rule_of, sFor, tplE, seq_def, sIf, sRet, sRetN, sAsg, sPar, sPar3, sDrop, sAug, sApp, sAppP, sExt, sIns, sSet, sAugIx, sNext, sBreak, sCont, sRaise, goN, goT, gN, gsNil, gsCons, gT, etP, etE, etAnd, etOr, etNot, tB, tTru, tAndP, tOrP, tNotP, tYesP, pVar, pC, pOp, pUn, paNil, paCons, pTup, pLst, pAndV, pOrV, pNotV, pIf, poNone, poSome, pSl, pRev, pCall, pCB, pTIx, piSeq, eP, eF, pth0, pthS, eRd, eFr, eMv, eaNil, eaCons, eaLate, eTup, eLst, eIx, eOp, eUn, eIf, eCall, eCB, eCBF, eSl, eSlH, eTIx, ePop, eCat, eiSeq, eiRange, eiEnum, dputs, dget, dset, dwipe, getP, getD, setP, getAll, fnEn, startD, opAdd, opSub, opMul, opMod, opDiv, opPow, opNeg, opEq, opNe, opLt, opLe, opGt, opGe, opIsN, opNotN, opIx, opSl, opRev, ipAdd, fLen, fTuple, fList, fInt, fAbs, OV.fz, fzL, nol, nolL, List.map_cons, List.map_nil, List.cons_append, List.nil_append, List.replicate_succ, List.replicate_zero, List.append_nil, List.length_cons, List.length_nil, if_true, if_false, eZ, eFz, goF, frzD, frzO, List.map, fzL_im, eqOk, scalD, deq, atD, ixD]
  refine key rs _ _ _ _ _ hr (fun r hq x3 x4 => ?_) fun hq x3 x4 x5 => ?_
  · simpa [ruleOf, hq, seq_def, sIf, sRet, sRetN, sAsg, sPar, sPar3, sDrop, sAug, sApp, sAppP, sExt, sIns, sSet, sAugIx, sNext, sBreak, sCont, sRaise, goN, goT, gN, gsNil, gsCons, gT, etP, etE, etAnd, etOr, etNot, tB, tTru, tAndP, tOrP, tNotP, tYesP, pVar, pC, pOp, pUn, paNil, paCons, pTup, pLst, pAndV, pOrV, pNotV, pIf, poNone, poSome, pSl, pRev, pCall, pCB, pTIx, piSeq, eP, eF, pth0, pthS, eRd, eFr, eMv, eaNil, eaCons, eaLate, eTup, eLst, eIx, eOp, eUn, eIf, eCall, eCB, eCBF, eSl, eSlH, eTIx, ePop, eCat, eiSeq, eiRange, eiEnum, dputs, dget, dset, dwipe, getP, getD, setP, getAll, fnEn, startD, opAdd, opSub, opMul, opMod, opDiv, opPow, opNeg, opEq, opNe, opLt, opLe, opGt, opGe, opIsN, opNotN, opIx, opSl, opRev, ipAdd, fLen, fTuple, fList, fInt, fAbs, OV.fz, fzL, nol, nolL, List.map_cons, List.map_nil, List.cons_append, List.nil_append, List.replicate_succ, List.replicate_zero, List.append_nil, List.length_cons, List.length_nil, if_true, if_false, eZ, eFz, goF, frzD, frzO, List.map, fzL_im, eqOk, scalD, deq] using hQ
  · simp [seq_def, sIf, sRet, sRetN, sAsg, sPar, sPar3, sDrop, sAug, sApp, sAppP, sExt, sIns, sSet, sAugIx, sNext, sBreak, sCont, sRaise, goN, goT, gN, gsNil, gsCons, gT, etP, etE, etAnd, etOr, etNot, tB, tTru, tAndP, tOrP, tNotP, tYesP, pVar, pC, pOp, pUn, paNil, paCons, pTup, pLst, pAndV, pOrV, pNotV, pIf, poNone, poSome, pSl, pRev, pCall, pCB, pTIx, piSeq, eP, eF, pth0, pthS, eRd, eFr, eMv, eaNil, eaCons, eaLate, eTup, eLst, eIx, eOp, eUn, eIf, eCall, eCB, eCBF, eSl, eSlH, eTIx, ePop, eCat, eiSeq, eiRange, eiEnum, dputs, dget, dset, dwipe, getP, getD, setP, getAll, fnEn, startD, opAdd, opSub, opMul, opMod, opDiv, opPow, opNeg, opEq, opNe, opLt, opLe, opGt, opGe, opIsN, opNotN, opIx, opSl, opRev, ipAdd, fLen, fTuple, fList, fInt, fAbs, OV.fz, fzL, nol, nolL, List.map_cons, List.map_nil, List.cons_append, List.nil_append, List.replicate_succ, List.replicate_zero, List.append_nil, List.length_cons, List.length_nil, if_true, if_false, eZ, eFz, goF, frzD, frzO, List.map, fzL_im, eqOk, scalD, deq]
    simpa [ruleOf, hq, pEL] using hQ
/-! ### the law's own walkers -/
def fdAll (n : Nat) : FD := fun os Q _ => ∃ l : List Part, os = [.im (.tup (pEL l))] ∧ pDL l < n ∧ (preL l).length ≤ 10000 ∧ Q (.lst ((preL l).map fun p => .im (pE p))) []
theorem preL_cons (p : Part) (l : List Part) : preL (p :: l) = pre p ++ preL l := by simp [preL]
theorem nolL_append : ∀ a b : List D, nolL (a ++ b) = (nolL a && nolL b)
  | [], b => by simp [nolL]
  | x :: a, b => by simp [nolL, nolL_append a b, Bool.and_assoc]
theorem fz_parts (l : List Part) : fzL (l.map fun p => OV.im (pE p)) = l.map pE := by rw [fzL_map, List.map_map]; rfl
theorem nol_parts (l : List Part) : nolL (l.map pE) = true := by rw [← pEL_map]; exact pEL_nol l
theorem vc_all (n : Nat) (os : List OV) (Qd : OV → List OV → Prop) (Xd : Xc → Prop) (h : fdAll (n + 1) os Qd Xd) : s__law_all_parts (fdAll n) (fnEn [] Qd Xd) (startD 3 os) := by
  obtain ⟨l, rfl, hd, hl, hQ⟩ := h
  have hline : ∀ n : Nat, n ≤ 10000 → n ≤ line := fun n h => Nat.le_trans h (by decide)
  have key : ∀ (l : List Part) (acc : List Part) (d0 x2 : Option OV) (E : En), pDL l < n + 1 → acc.length + (preL l).length ≤ 10000 → (∀ x2, E.nx [d0, some (.lst ((acc ++ preL l).map fun p => .im (pE p))), x2]) →
      forL (gN 2) (L1__law_all_parts (fdAll n)) E (l.map pE) [d0, some (.lst (acc.map fun p => .im (pE p))), x2] := fun l => by
    induction l with
    | nil =>
      intro acc d0 x2 E _ _ h
      have := h x2
      simp only [preL, List.append_nil] at this
      exact this
    | cons p l ih =>
      intro acc d0 x2 E hd hl h
      have hp : pD p < n + 1 := by simp [pDL] at hd; omega
      have hd2 : pDL l < n + 1 := by simp [pDL] at hd; omega
      rw [preL_cons, List.length_append] at hl
      have hpos := pre_pos p
      obtain ⟨N, hN⟩ : ∃ N, N = forL (gN 2) (L1__law_all_parts (fdAll n)) E (l.map pE) := ⟨_, rfl⟩
      have fin : ∀ (acc2 : List Part) (x2 : Option OV), acc2 = acc ++ pre p → N [d0, some (.lst (acc2.map fun p => .im (pE p))), x2] := fun acc2 x2 e2 => by
        subst e2
        rw [hN]
        refine ih _ _ _ _ hd2 (by rw [List.length_append]; omega) fun x2 => ?_
        have := h x2
        rw [preL_cons] at this
        simpa using this
      have hacc : acc.length < line := by show _ < 16777216; omega
      rw [List.map_cons]
      refine forL_step N hN ?_
      cases p with
      | apply m t =>
        have e : acc ++ [Part.apply m t] = acc ++ pre (.apply m t) := by simp [pre]
        have f := fun x2 => fin _ x2 e
        cases t <;>
        · simp [L1__law_all_parts, seq_def, sIf, sRet, sRetN, sAsg, sPar, sPar3, sDrop, sAug, sApp, sAppP, sExt, sIns, sSet, sAugIx, sNext, sBreak, sCont, sRaise, goN, goT, gN, gsNil, gsCons, gT, etP, etE, etAnd, etOr, etNot, tB, tTru, tAndP, tOrP, tNotP, tYesP, pVar, pC, pOp, pUn, paNil, paCons, pTup, pLst, pAndV, pOrV, pNotV, pIf, poNone, poSome, pSl, pRev, pCall, pCB, pTIx, piSeq, eP, eF, pth0, pthS, eRd, eFr, eMv, eaNil, eaCons, eaLate, eTup, eLst, eIx, eOp, eUn, eIf, eCall, eCB, eCBF, eSl, eSlH, eTIx, ePop, eCat, eiSeq, eiRange, eiEnum, dputs, dget, dset, dwipe, getP, getD, setP, getAll, fnEn, startD, opAdd, opSub, opMul, opMod, opDiv, opPow, opNeg, opEq, opNe, opLt, opLe, opGt, opGe, opIsN, opNotN, opIx, opSl, opRev, ipAdd, fLen, fTuple, fList, fInt, fAbs, OV.fz, fzL, nol, nolL, List.map_cons, List.map_nil, List.cons_append, List.nil_append, List.replicate_succ, List.replicate_zero, List.append_nil, List.length_cons, List.length_nil, if_true, if_false, eZ, eFz, goF, frzD, frzO, List.map, fzL_im, eqOk, scalD, deq, pE, atD, ixD, eqOk, scalD, deq, s2, s5]
          exact ⟨hacc, by simpa [pE] using f _⟩
      | page q k =>
        have hk : pDL k < n := by simp [pD] at hp; omega
        have e : acc ++ (Part.page q k :: preL k) = acc ++ pre (.page q k) := by simp [pre]
        have f := fun x2 => fin _ x2 e
        simp [pre] at hl
        simp [L1__law_all_parts, seq_def, sIf, sRet, sRetN, sAsg, sPar, sPar3, sDrop, sAug, sApp, sAppP, sExt, sIns, sSet, sAugIx, sNext, sBreak, sCont, sRaise, goN, goT, gN, gsNil, gsCons, gT, etP, etE, etAnd, etOr, etNot, tB, tTru, tAndP, tOrP, tNotP, tYesP, pVar, pC, pOp, pUn, paNil, paCons, pTup, pLst, pAndV, pOrV, pNotV, pIf, poNone, poSome, pSl, pRev, pCall, pCB, pTIx, piSeq, eP, eF, pth0, pthS, eRd, eFr, eMv, eaNil, eaCons, eaLate, eTup, eLst, eIx, eOp, eUn, eIf, eCall, eCB, eCBF, eSl, eSlH, eTIx, ePop, eCat, eiSeq, eiRange, eiEnum, dputs, dget, dset, dwipe, getP, getD, setP, getAll, fnEn, startD, opAdd, opSub, opMul, opMod, opDiv, opPow, opNeg, opEq, opNe, opLt, opLe, opGt, opGe, opIsN, opNotN, opIx, opSl, opRev, ipAdd, fLen, fTuple, fList, fInt, fAbs, OV.fz, fzL, nol, nolL, List.map_cons, List.map_nil, List.cons_append, List.nil_append, List.replicate_succ, List.replicate_zero, List.append_nil, List.length_cons, List.length_nil, if_true, if_false, eZ, eFz, goF, frzD, frzO, List.map, fzL_im, eqOk, scalD, deq, pE, atD, ixD, eqOk, scalD, deq, s1]
        refine ⟨hacc, k, rfl, hk, by omega, ?_⟩
        simp
        exact ⟨hline _ (by omega), by simpa [pE] using f _⟩
      | iff c a b =>
        have ha : pDL a < n := by simp [pD] at hp; omega
        have hb : pDL b < n := by simp [pD] at hp; omega
        have e : acc ++ (Part.iff c a b :: (preL a ++ preL b)) = acc ++ pre (.iff c a b) := by simp [pre]
        have f := fun x2 => fin _ x2 e
        simp [pre] at hl
        simp [L1__law_all_parts, seq_def, sIf, sRet, sRetN, sAsg, sPar, sPar3, sDrop, sAug, sApp, sAppP, sExt, sIns, sSet, sAugIx, sNext, sBreak, sCont, sRaise, goN, goT, gN, gsNil, gsCons, gT, etP, etE, etAnd, etOr, etNot, tB, tTru, tAndP, tOrP, tNotP, tYesP, pVar, pC, pOp, pUn, paNil, paCons, pTup, pLst, pAndV, pOrV, pNotV, pIf, poNone, poSome, pSl, pRev, pCall, pCB, pTIx, piSeq, eP, eF, pth0, pthS, eRd, eFr, eMv, eaNil, eaCons, eaLate, eTup, eLst, eIx, eOp, eUn, eIf, eCall, eCB, eCBF, eSl, eSlH, eTIx, ePop, eCat, eiSeq, eiRange, eiEnum, dputs, dget, dset, dwipe, getP, getD, setP, getAll, fnEn, startD, opAdd, opSub, opMul, opMod, opDiv, opPow, opNeg, opEq, opNe, opLt, opLe, opGt, opGe, opIsN, opNotN, opIx, opSl, opRev, ipAdd, fLen, fTuple, fList, fInt, fAbs, OV.fz, fzL, nol, nolL, List.map_cons, List.map_nil, List.cons_append, List.nil_append, List.replicate_succ, List.replicate_zero, List.append_nil, List.length_cons, List.length_nil, if_true, if_false, eZ, eFz, goF, frzD, frzO, List.map, fzL_im, eqOk, scalD, deq, pE, atD, ixD, eqOk, scalD, deq, s3, s6]
        refine ⟨hacc, a, rfl, ha, by omega, b, rfl, hb, by omega, ?_⟩
        simp only [OV.fz]
        rw [fz_parts, fz_parts]
        simp [nolL_append, nol_parts]
        exact ⟨hline _ (by omega), hline _ (by omega), by simpa [pE, Function.comp_def] using f _⟩
  simp [s__law_all_parts, sFor, seq_def, sIf, sRet, sRetN, sAsg, sPar, sPar3, sDrop, sAug, sApp, sAppP, sExt, sIns, sSet, sAugIx, sNext, sBreak, sCont, sRaise, goN, goT, gN, gsNil, gsCons, gT, etP, etE, etAnd, etOr, etNot, tB, tTru, tAndP, tOrP, tNotP, tYesP, pVar, pC, pOp, pUn, paNil, paCons, pTup, pLst, pAndV, pOrV, pNotV, pIf, poNone, poSome, pSl, pRev, pCall, pCB, pTIx, piSeq, eP, eF, pth0, pthS, eRd, eFr, eMv, eaNil, eaCons, eaLate, eTup, eLst, eIx, eOp, eUn, eIf, eCall, eCB, eCBF, eSl, eSlH, eTIx, ePop, eCat, eiSeq, eiRange, eiEnum, dputs, dget, dset, dwipe, getP, getD, setP, getAll, fnEn, startD, opAdd, opSub, opMul, opMod, opDiv, opPow, opNeg, opEq, opNe, opLt, opLe, opGt, opGe, opIsN, opNotN, opIx, opSl, opRev, ipAdd, fLen, fTuple, fList, fInt, fAbs, OV.fz, fzL, nol, nolL, List.map_cons, List.map_nil, List.cons_append, List.nil_append, List.replicate_succ, List.replicate_zero, List.append_nil, List.length_cons, List.length_nil, if_true, if_false, eZ, eFz, goF, frzD, frzO, List.map, fzL_im, eqOk, scalD, deq]
  rw [pEL_map]
  refine key l [] _ _ _ hd (by simpa using hl) fun x2 => ?_
  simpa [seq_def, sIf, sRet, sRetN, sAsg, sPar, sPar3, sDrop, sAug, sApp, sAppP, sExt, sIns, sSet, sAugIx, sNext, sBreak, sCont, sRaise, goN, goT, gN, gsNil, gsCons, gT, etP, etE, etAnd, etOr, etNot, tB, tTru, tAndP, tOrP, tNotP, tYesP, pVar, pC, pOp, pUn, paNil, paCons, pTup, pLst, pAndV, pOrV, pNotV, pIf, poNone, poSome, pSl, pRev, pCall, pCB, pTIx, piSeq, eP, eF, pth0, pthS, eRd, eFr, eMv, eaNil, eaCons, eaLate, eTup, eLst, eIx, eOp, eUn, eIf, eCall, eCB, eCBF, eSl, eSlH, eTIx, ePop, eCat, eiSeq, eiRange, eiEnum, dputs, dget, dset, dwipe, getP, getD, setP, getAll, fnEn, startD, opAdd, opSub, opMul, opMod, opDiv, opPow, opNeg, opEq, opNe, opLt, opLe, opGt, opGe, opIsN, opNotN, opIx, opSl, opRev, ipAdd, fLen, fTuple, fList, fInt, fAbs, OV.fz, fzL, nol, nolL, List.map_cons, List.map_nil, List.cons_append, List.nil_append, List.replicate_succ, List.replicate_zero, List.append_nil, List.length_cons, List.length_nil, if_true, if_false, eZ, eFz, goF, frzD, frzO, List.map, fzL_im, eqOk, scalD, deq] using hQ
end G66
namespace G66
open PySem DL
theorem s10 : (("not" : Str) == ("not" : Str)) = true := by decide
theorem s11 : (("none" : Str) == ("not" : Str)) = false := by decide
theorem hw_not (w : Hw) : (w.s == ("not" : Str)) = false := by cases w <;> decide
theorem ao_not (w : Ao) : (w.s == ("not" : Str)) = false := by cases w <;> decide
theorem hw_and (w : Hw) : ((("and" : Str) == w.s) || (("or" : Str) == w.s)) = false := by cases w <;> decide
theorem ao_and (w : Ao) : ((("and" : Str) == w.s) || (("or" : Str) == w.s)) = true := by cases w <;> decide
theorem none_and : ((("and" : Str) == ("none" : Str)) || (("or" : Str) == ("none" : Str))) = false := by decide
mutual
def tW : Tst → Bool
  | .has _ ts => ts.all fun x => x.cps.all (· < 0x110000)
  | .nope => true
  | .not t => tW t
  | .many _ l => decide (l.length ≤ 100) && tWL l
def tWL : List Tst → Bool
  | [] => true
  | t :: l => tW t && tWL l
end
theorem tWL_mem : ∀ {l : List Tst} {t : Tst}, tWL l = true → t ∈ l → tW t = true
  | t :: l, _, h, .head _ => by simp [tWL] at h; exact h.1
  | t :: l, u, h, .tail _ m => by simp [tWL] at h; exact tWL_mem h.2 m
def fdCount (n : Nat) : FD := fun os Q _ => ∃ t : Tst, os = [.im (tE t)] ∧ tD t < n ∧ tW t = true ∧ Q (.im (.int (tC t))) []
theorem ints_map {α : Type} (f : α → Int) : ∀ l : List α, intsOf (l.map fun a => D.int (f a)) = some (l.map f)
  | [] => rfl
  | a :: l => by simp [intsOf, ints_map f l]
theorem tCL_sum : ∀ l : List Tst, (l.map tC).sum = tCL l
  | [] => rfl
  | t :: l => by simp [tCL, tCL_sum l]
theorem vc_count (n : Nat) (os : List OV) (Qd : OV → List OV → Prop) (Xd : Xc → Prop) (h : fdCount (n + 1) os Qd Xd) : s__law_many_tests (fdCount n) (fnEn [] Qd Xd) (startD 2 os) := by
  obtain ⟨t, rfl, hd, hw, hQ⟩ := h
  have h2 : 2 ≤ line := by decide
  cases t with
  | has w ts =>
    simp [s__law_many_tests, tE, seq_def, sIf, sRet, sRetN, sAsg, sPar, sPar3, sDrop, sAug, sApp, sAppP, sExt, sIns, sSet, sAugIx, sNext, sBreak, sCont, sRaise, goN, goT, gN, gsNil, gsCons, gT, etP, etE, etAnd, etOr, etNot, tB, tTru, tAndP, tOrP, tNotP, tYesP, pVar, pC, pOp, pUn, paNil, paCons, pTup, pLst, pAndV, pOrV, pNotV, pIf, poNone, poSome, pSl, pRev, pCall, pCB, pTIx, piSeq, eP, eF, pth0, pthS, eRd, eFr, eMv, eaNil, eaCons, eaLate, eTup, eLst, eIx, eOp, eUn, eIf, eCall, eCB, eCBF, eSl, eSlH, eTIx, ePop, eCat, eiSeq, eiRange, eiEnum, dputs, dget, dset, dwipe, getP, getD, setP, getAll, fnEn, startD, opAdd, opSub, opMul, opMod, opDiv, opPow, opNeg, opEq, opNe, opLt, opLe, opGt, opGe, opIsN, opNotN, opIx, opSl, opRev, ipAdd, fLen, fTuple, fList, fInt, fAbs, OV.fz, fzL, nol, nolL, List.map_cons, List.map_nil, List.cons_append, List.nil_append, List.replicate_succ, List.replicate_zero, List.append_nil, List.length_cons, List.length_nil, if_true, if_false, eZ, eFz, goF, frzD, frzO, List.map, fzL_im, eqOk, scalD, deq, atD, ixD, eqOk, scalD, deq, hw_not, opIn, inOk, hw_and, h2]
    simpa [tC] using hQ
  | nope =>
    simp [s__law_many_tests, tE, seq_def, sIf, sRet, sRetN, sAsg, sPar, sPar3, sDrop, sAug, sApp, sAppP, sExt, sIns, sSet, sAugIx, sNext, sBreak, sCont, sRaise, goN, goT, gN, gsNil, gsCons, gT, etP, etE, etAnd, etOr, etNot, tB, tTru, tAndP, tOrP, tNotP, tYesP, pVar, pC, pOp, pUn, paNil, paCons, pTup, pLst, pAndV, pOrV, pNotV, pIf, poNone, poSome, pSl, pRev, pCall, pCB, pTIx, piSeq, eP, eF, pth0, pthS, eRd, eFr, eMv, eaNil, eaCons, eaLate, eTup, eLst, eIx, eOp, eUn, eIf, eCall, eCB, eCBF, eSl, eSlH, eTIx, ePop, eCat, eiSeq, eiRange, eiEnum, dputs, dget, dset, dwipe, getP, getD, setP, getAll, fnEn, startD, opAdd, opSub, opMul, opMod, opDiv, opPow, opNeg, opEq, opNe, opLt, opLe, opGt, opGe, opIsN, opNotN, opIx, opSl, opRev, ipAdd, fLen, fTuple, fList, fInt, fAbs, OV.fz, fzL, nol, nolL, List.map_cons, List.map_nil, List.cons_append, List.nil_append, List.replicate_succ, List.replicate_zero, List.append_nil, List.length_cons, List.length_nil, if_true, if_false, eZ, eFz, goF, frzD, frzO, List.map, fzL_im, eqOk, scalD, deq, atD, ixD, eqOk, scalD, deq, s11, opIn, inOk, none_and, h2]
    simpa [tC] using hQ
  | not t =>
    simp [s__law_many_tests, tE, seq_def, sIf, sRet, sRetN, sAsg, sPar, sPar3, sDrop, sAug, sApp, sAppP, sExt, sIns, sSet, sAugIx, sNext, sBreak, sCont, sRaise, goN, goT, gN, gsNil, gsCons, gT, etP, etE, etAnd, etOr, etNot, tB, tTru, tAndP, tOrP, tNotP, tYesP, pVar, pC, pOp, pUn, paNil, paCons, pTup, pLst, pAndV, pOrV, pNotV, pIf, poNone, poSome, pSl, pRev, pCall, pCB, pTIx, piSeq, eP, eF, pth0, pthS, eRd, eFr, eMv, eaNil, eaCons, eaLate, eTup, eLst, eIx, eOp, eUn, eIf, eCall, eCB, eCBF, eSl, eSlH, eTIx, ePop, eCat, eiSeq, eiRange, eiEnum, dputs, dget, dset, dwipe, getP, getD, setP, getAll, fnEn, startD, opAdd, opSub, opMul, opMod, opDiv, opPow, opNeg, opEq, opNe, opLt, opLe, opGt, opGe, opIsN, opNotN, opIx, opSl, opRev, ipAdd, fLen, fTuple, fList, fInt, fAbs, OV.fz, fzL, nol, nolL, List.map_cons, List.map_nil, List.cons_append, List.nil_append, List.replicate_succ, List.replicate_zero, List.append_nil, List.length_cons, List.length_nil, if_true, if_false, eZ, eFz, goF, frzD, frzO, List.map, fzL_im, eqOk, scalD, deq, atD, ixD, eqOk, scalD, deq, s10]
    refine ⟨t, rfl, by simp [tD] at hd; omega, by simpa [tW] using hw, ?_⟩
    simpa [tC, seq_def, sIf, sRet, sRetN, sAsg, sPar, sPar3, sDrop, sAug, sApp, sAppP, sExt, sIns, sSet, sAugIx, sNext, sBreak, sCont, sRaise, goN, goT, gN, gsNil, gsCons, gT, etP, etE, etAnd, etOr, etNot, tB, tTru, tAndP, tOrP, tNotP, tYesP, pVar, pC, pOp, pUn, paNil, paCons, pTup, pLst, pAndV, pOrV, pNotV, pIf, poNone, poSome, pSl, pRev, pCall, pCB, pTIx, piSeq, eP, eF, pth0, pthS, eRd, eFr, eMv, eaNil, eaCons, eaLate, eTup, eLst, eIx, eOp, eUn, eIf, eCall, eCB, eCBF, eSl, eSlH, eTIx, ePop, eCat, eiSeq, eiRange, eiEnum, dputs, dget, dset, dwipe, getP, getD, setP, getAll, fnEn, startD, opAdd, opSub, opMul, opMod, opDiv, opPow, opNeg, opEq, opNe, opLt, opLe, opGt, opGe, opIsN, opNotN, opIx, opSl, opRev, ipAdd, fLen, fTuple, fList, fInt, fAbs, OV.fz, fzL, nol, nolL, List.map_cons, List.map_nil, List.cons_append, List.nil_append, List.replicate_succ, List.replicate_zero, List.append_nil, List.length_cons, List.length_nil, if_true, if_false, eZ, eFz, goF, frzD, frzO, List.map, fzL_im, eqOk, scalD, deq] using hQ
  | many w l =>
    simp [tW] at hw
    simp [tD] at hd
    simp [s__law_many_tests, tE, pComp, seq_def, sIf, sRet, sRetN, sAsg, sPar, sPar3, sDrop, sAug, sApp, sAppP, sExt, sIns, sSet, sAugIx, sNext, sBreak, sCont, sRaise, goN, goT, gN, gsNil, gsCons, gT, etP, etE, etAnd, etOr, etNot, tB, tTru, tAndP, tOrP, tNotP, tYesP, pVar, pC, pOp, pUn, paNil, paCons, pTup, pLst, pAndV, pOrV, pNotV, pIf, poNone, poSome, pSl, pRev, pCall, pCB, pTIx, piSeq, eP, eF, pth0, pthS, eRd, eFr, eMv, eaNil, eaCons, eaLate, eTup, eLst, eIx, eOp, eUn, eIf, eCall, eCB, eCBF, eSl, eSlH, eTIx, ePop, eCat, eiSeq, eiRange, eiEnum, dputs, dget, dset, dwipe, getP, getD, setP, getAll, fnEn, startD, opAdd, opSub, opMul, opMod, opDiv, opPow, opNeg, opEq, opNe, opLt, opLe, opGt, opGe, opIsN, opNotN, opIx, opSl, opRev, ipAdd, fLen, fTuple, fList, fInt, fAbs, OV.fz, fzL, nol, nolL, List.map_cons, List.map_nil, List.cons_append, List.nil_append, List.replicate_succ, List.replicate_zero, List.append_nil, List.length_cons, List.length_nil, if_true, if_false, eZ, eFz, goF, frzD, frzO, List.map, fzL_im, eqOk, scalD, deq, atD, ixD, eqOk, scalD, deq, ao_not, opIn, inOk, ao_and, h2]
    rw [tEL_map]
    refine ⟨by rw [List.length_map]; show _ ≤ 16777216; omega, ?_⟩
    have key : ∀ (l : List Tst) (d0 x : Option OV) (Q : List D → Prop), tDL l < n → tWL l = true → Q (l.map fun t => D.int (tC t)) → compP [1] (gN 1) tYesP (ep1__law_many_tests (fdCount n)) [d0, x] (l.map tE) Q := fun l => by
      induction l with
      | nil => intro d0 x Q _ _ h; exact h
      | cons t l ih =>
        intro d0 x Q hd hw h
        simp [tDL] at hd
        simp [tWL] at hw
        simp only [List.map_cons, compP]
        simp [ep1__law_many_tests, seq_def, sIf, sRet, sRetN, sAsg, sPar, sPar3, sDrop, sAug, sApp, sAppP, sExt, sIns, sSet, sAugIx, sNext, sBreak, sCont, sRaise, goN, goT, gN, gsNil, gsCons, gT, etP, etE, etAnd, etOr, etNot, tB, tTru, tAndP, tOrP, tNotP, tYesP, pVar, pC, pOp, pUn, paNil, paCons, pTup, pLst, pAndV, pOrV, pNotV, pIf, poNone, poSome, pSl, pRev, pCall, pCB, pTIx, piSeq, eP, eF, pth0, pthS, eRd, eFr, eMv, eaNil, eaCons, eaLate, eTup, eLst, eIx, eOp, eUn, eIf, eCall, eCB, eCBF, eSl, eSlH, eTIx, ePop, eCat, eiSeq, eiRange, eiEnum, dputs, dget, dset, dwipe, getP, getD, setP, getAll, fnEn, startD, opAdd, opSub, opMul, opMod, opDiv, opPow, opNeg, opEq, opNe, opLt, opLe, opGt, opGe, opIsN, opNotN, opIx, opSl, opRev, ipAdd, fLen, fTuple, fList, fInt, fAbs, OV.fz, fzL, nol, nolL, List.map_cons, List.map_nil, List.cons_append, List.nil_append, List.replicate_succ, List.replicate_zero, List.append_nil, List.length_cons, List.length_nil, if_true, if_false, eZ, eFz, goF, frzD, frzO, List.map, fzL_im, eqOk, scalD, deq, tYesP]
        exact ⟨t, rfl, by omega, hw.1, ih _ _ _ (by omega) hw.2 h⟩
    refine key l _ _ _ hd hw.2 ?_
    simp [fSum, ints_map]
    simpa [tC, tCL_sum, seq_def, sIf, sRet, sRetN, sAsg, sPar, sPar3, sDrop, sAug, sApp, sAppP, sExt, sIns, sSet, sAugIx, sNext, sBreak, sCont, sRaise, goN, goT, gN, gsNil, gsCons, gT, etP, etE, etAnd, etOr, etNot, tB, tTru, tAndP, tOrP, tNotP, tYesP, pVar, pC, pOp, pUn, paNil, paCons, pTup, pLst, pAndV, pOrV, pNotV, pIf, poNone, poSome, pSl, pRev, pCall, pCB, pTIx, piSeq, eP, eF, pth0, pthS, eRd, eFr, eMv, eaNil, eaCons, eaLate, eTup, eLst, eIx, eOp, eUn, eIf, eCall, eCB, eCBF, eSl, eSlH, eTIx, ePop, eCat, eiSeq, eiRange, eiEnum, dputs, dget, dset, dwipe, getP, getD, setP, getAll, fnEn, startD, opAdd, opSub, opMul, opMod, opDiv, opPow, opNeg, opEq, opNe, opLt, opLe, opGt, opGe, opIsN, opNotN, opIx, opSl, opRev, ipAdd, fLen, fTuple, fList, fInt, fAbs, OV.fz, fzL, nol, nolL, List.map_cons, List.map_nil, List.cons_append, List.nil_append, List.replicate_succ, List.replicate_zero, List.append_nil, List.length_cons, List.length_nil, if_true, if_false, eZ, eFz, goF, frzD, frzO, List.map, fzL_im, eqOk, scalD, deq] using hQ
def fdMany : FD := fun os Q _ => ∃ l : List Part, os = [.im (.tup (pEL l))] ∧ pDL l < 20 ∧ (preL l).length ≤ 10000 ∧ (∀ p ∈ preL l, ∀ t a b, p = .iff t a b → tD t < 20 ∧ tW t = true) ∧ ∀ v, Q (.im (.int v)) []
theorem vc_many (os : List OV) (Qd : OV → List OV → Prop) (Xd : Xc → Prop) (h : fdMany os Qd Xd) : s__law_many (fdAll 20) (fdCount 20) (fnEn [] Qd Xd) (startD 3 os) := by
  obtain ⟨l, rfl, hd, hl, ht, hQ⟩ := h
  have key : ∀ (l : List Part) (v : Int) (d0 x : Option OV) (E : En), (∀ p ∈ l, ∀ t a b, p = .iff t a b → tD t < 20 ∧ tW t = true) → (∀ v x, E.nx [d0, some (.im (.int v)), x]) → forL (gN 2) (L1__law_many (fdAll 20) (fdCount 20)) E (l.map pE) [d0, some (.im (.int v)), x] := fun l => by
    induction l with
    | nil => intro v d0 x E _ h; exact h v x
    | cons p l ih =>
      intro v d0 x E hp h
      obtain ⟨N, hN⟩ : ∃ N, N = forL (gN 2) (L1__law_many (fdAll 20) (fdCount 20)) E (l.map pE) := ⟨_, rfl⟩
      have f : ∀ v x, N [d0, some (.im (.int v)), x] := fun v x => by rw [hN]; exact ih v d0 x E (fun q m => hp q (List.mem_cons_of_mem _ m)) h
      rw [List.map_cons]
      refine forL_step N hN ?_
      cases p with
      | page q k => simp [L1__law_many, pE, seq_def, sIf, sRet, sRetN, sAsg, sPar, sPar3, sDrop, sAug, sApp, sAppP, sExt, sIns, sSet, sAugIx, sNext, sBreak, sCont, sRaise, goN, goT, gN, gsNil, gsCons, gT, etP, etE, etAnd, etOr, etNot, tB, tTru, tAndP, tOrP, tNotP, tYesP, pVar, pC, pOp, pUn, paNil, paCons, pTup, pLst, pAndV, pOrV, pNotV, pIf, poNone, poSome, pSl, pRev, pCall, pCB, pTIx, piSeq, eP, eF, pth0, pthS, eRd, eFr, eMv, eaNil, eaCons, eaLate, eTup, eLst, eIx, eOp, eUn, eIf, eCall, eCB, eCBF, eSl, eSlH, eTIx, ePop, eCat, eiSeq, eiRange, eiEnum, dputs, dget, dset, dwipe, getP, getD, setP, getAll, fnEn, startD, opAdd, opSub, opMul, opMod, opDiv, opPow, opNeg, opEq, opNe, opLt, opLe, opGt, opGe, opIsN, opNotN, opIx, opSl, opRev, ipAdd, fLen, fTuple, fList, fInt, fAbs, OV.fz, fzL, nol, nolL, List.map_cons, List.map_nil, List.cons_append, List.nil_append, List.replicate_succ, List.replicate_zero, List.append_nil, List.length_cons, List.length_nil, if_true, if_false, eZ, eFz, goF, frzD, frzO, List.map, fzL_im, eqOk, scalD, deq, atD, ixD, eqOk, scalD, deq, s4]; exact f _ _
      | apply m t =>
        cases t <;>
        · simp [L1__law_many, pE, seq_def, sIf, sRet, sRetN, sAsg, sPar, sPar3, sDrop, sAug, sApp, sAppP, sExt, sIns, sSet, sAugIx, sNext, sBreak, sCont, sRaise, goN, goT, gN, gsNil, gsCons, gT, etP, etE, etAnd, etOr, etNot, tB, tTru, tAndP, tOrP, tNotP, tYesP, pVar, pC, pOp, pUn, paNil, paCons, pTup, pLst, pAndV, pOrV, pNotV, pIf, poNone, poSome, pSl, pRev, pCall, pCB, pTIx, piSeq, eP, eF, pth0, pthS, eRd, eFr, eMv, eaNil, eaCons, eaLate, eTup, eLst, eIx, eOp, eUn, eIf, eCall, eCB, eCBF, eSl, eSlH, eTIx, ePop, eCat, eiSeq, eiRange, eiEnum, dputs, dget, dset, dwipe, getP, getD, setP, getAll, fnEn, startD, opAdd, opSub, opMul, opMod, opDiv, opPow, opNeg, opEq, opNe, opLt, opLe, opGt, opGe, opIsN, opNotN, opIx, opSl, opRev, ipAdd, fLen, fTuple, fList, fInt, fAbs, OV.fz, fzL, nol, nolL, List.map_cons, List.map_nil, List.cons_append, List.nil_append, List.replicate_succ, List.replicate_zero, List.append_nil, List.length_cons, List.length_nil, if_true, if_false, eZ, eFz, goF, frzD, frzO, List.map, fzL_im, eqOk, scalD, deq, atD, ixD, eqOk, scalD, deq, s5]; exact f _ _
      | iff t a b =>
        simp [L1__law_many, pE, seq_def, sIf, sRet, sRetN, sAsg, sPar, sPar3, sDrop, sAug, sApp, sAppP, sExt, sIns, sSet, sAugIx, sNext, sBreak, sCont, sRaise, goN, goT, gN, gsNil, gsCons, gT, etP, etE, etAnd, etOr, etNot, tB, tTru, tAndP, tOrP, tNotP, tYesP, pVar, pC, pOp, pUn, paNil, paCons, pTup, pLst, pAndV, pOrV, pNotV, pIf, poNone, poSome, pSl, pRev, pCall, pCB, pTIx, piSeq, eP, eF, pth0, pthS, eRd, eFr, eMv, eaNil, eaCons, eaLate, eTup, eLst, eIx, eOp, eUn, eIf, eCall, eCB, eCBF, eSl, eSlH, eTIx, ePop, eCat, eiSeq, eiRange, eiEnum, dputs, dget, dset, dwipe, getP, getD, setP, getAll, fnEn, startD, opAdd, opSub, opMul, opMod, opDiv, opPow, opNeg, opEq, opNe, opLt, opLe, opGt, opGe, opIsN, opNotN, opIx, opSl, opRev, ipAdd, fLen, fTuple, fList, fInt, fAbs, OV.fz, fzL, nol, nolL, List.map_cons, List.map_nil, List.cons_append, List.nil_append, List.replicate_succ, List.replicate_zero, List.append_nil, List.length_cons, List.length_nil, if_true, if_false, eZ, eFz, goF, frzD, frzO, List.map, fzL_im, eqOk, scalD, deq, atD, ixD, eqOk, scalD, deq, s6]
        exact ⟨t, rfl, (hp _ List.mem_cons_self t a b rfl).1, (hp _ List.mem_cons_self t a b rfl).2, f _ _⟩
  simp [s__law_many, sFor, seq_def, sIf, sRet, sRetN, sAsg, sPar, sPar3, sDrop, sAug, sApp, sAppP, sExt, sIns, sSet, sAugIx, sNext, sBreak, sCont, sRaise, goN, goT, gN, gsNil, gsCons, gT, etP, etE, etAnd, etOr, etNot, tB, tTru, tAndP, tOrP, tNotP, tYesP, pVar, pC, pOp, pUn, paNil, paCons, pTup, pLst, pAndV, pOrV, pNotV, pIf, poNone, poSome, pSl, pRev, pCall, pCB, pTIx, piSeq, eP, eF, pth0, pthS, eRd, eFr, eMv, eaNil, eaCons, eaLate, eTup, eLst, eIx, eOp, eUn, eIf, eCall, eCB, eCBF, eSl, eSlH, eTIx, ePop, eCat, eiSeq, eiRange, eiEnum, dputs, dget, dset, dwipe, getP, getD, setP, getAll, fnEn, startD, opAdd, opSub, opMul, opMod, opDiv, opPow, opNeg, opEq, opNe, opLt, opLe, opGt, opGe, opIsN, opNotN, opIx, opSl, opRev, ipAdd, fLen, fTuple, fList, fInt, fAbs, OV.fz, fzL, nol, nolL, List.map_cons, List.map_nil, List.cons_append, List.nil_append, List.replicate_succ, List.replicate_zero, List.append_nil, List.length_cons, List.length_nil, if_true, if_false, eZ, eFz, goF, frzD, frzO, List.map, fzL_im, eqOk, scalD, deq]
  refine ⟨l, rfl, hd, hl, ?_⟩
  simp only [OV.fz]
  rw [fz_parts]
  refine ⟨trivial, key (preL l) 0 _ _ _ ht fun v x => ?_⟩
  simp [seq_def, sIf, sRet, sRetN, sAsg, sPar, sPar3, sDrop, sAug, sApp, sAppP, sExt, sIns, sSet, sAugIx, sNext, sBreak, sCont, sRaise, goN, goT, gN, gsNil, gsCons, gT, etP, etE, etAnd, etOr, etNot, tB, tTru, tAndP, tOrP, tNotP, tYesP, pVar, pC, pOp, pUn, paNil, paCons, pTup, pLst, pAndV, pOrV, pNotV, pIf, poNone, poSome, pSl, pRev, pCall, pCB, pTIx, piSeq, eP, eF, pth0, pthS, eRd, eFr, eMv, eaNil, eaCons, eaLate, eTup, eLst, eIx, eOp, eUn, eIf, eCall, eCB, eCBF, eSl, eSlH, eTIx, ePop, eCat, eiSeq, eiRange, eiEnum, dputs, dget, dset, dwipe, getP, getD, setP, getAll, fnEn, startD, opAdd, opSub, opMul, opMod, opDiv, opPow, opNeg, opEq, opNe, opLt, opLe, opGt, opGe, opIsN, opNotN, opIx, opSl, opRev, ipAdd, fLen, fTuple, fList, fInt, fAbs, OV.fz, fzL, nol, nolL, List.map_cons, List.map_nil, List.cons_append, List.nil_append, List.replicate_succ, List.replicate_zero, List.append_nil, List.length_cons, List.length_nil, if_true, if_false, eZ, eFz, goF, frzD, frzO, List.map, fzL_im, eqOk, scalD, deq]
  exact hQ v
end G66
namespace G66
open PySem DL
abbrev strE (s : Str) : OV := .im (.str s)
theorem fz_strs (l : List Str) : fzL (l.map strE) = l.map D.str := by rw [fzL_map, List.map_map]; rfl
def fdTags : FD := fun os Q _ => ∃ (b : OV) (ts : List Str), os = [b, .im (.tup (ts.map .str))] ∧ bagOk b ∧ ts.length ≤ 100 ∧ ∀ (b' : OV) (ss : List Str), bagOk b' → (∀ s ∈ ss, s ∈ ts) → ss.length ≤ ts.length → Q (.im (.tup (ss.map .str))) [b']
theorem comp_tags : ∀ (ts : List Str) (b : OV) (d1 x : Option OV) (Q : List OV → DE → Prop), bagOk b → (∀ (b' : OV) (ss : List Str), bagOk b' → (∀ s ∈ ss, s ∈ ts) → ss.length ≤ ts.length → Q (ss.map strE) [some b', d1, none]) →
    compE [2] (gN 2) (to1__law_tags fdTake) (eo1__law_tags fdTake) (ts.map D.str) [some b, d1, x] Q
  | [], b, d1, x, Q, hb, h => h b [] hb (by simp) (by simp)
  | t :: ts, b, d1, x, Q, hb, h => by
    rw [List.map_cons]
    obtain ⟨N, hN⟩ : ∃ N, N = fun Q δ => compE [2] (gN 2) (to1__law_tags fdTake) (eo1__law_tags fdTake) (ts.map D.str) δ Q := ⟨_, rfl⟩
    refine compE_step N hN ?_
    simp [to1__law_tags, eo1__law_tags, seq_def, sIf, sRet, sRetN, sAsg, sPar, sPar3, sDrop, sAug, sApp, sAppP, sExt, sIns, sSet, sAugIx, sNext, sBreak, sCont, sRaise, goN, goT, gN, gsNil, gsCons, gT, etP, etE, etAnd, etOr, etNot, tB, tTru, tAndP, tOrP, tNotP, tYesP, pVar, pC, pOp, pUn, paNil, paCons, pTup, pLst, pAndV, pOrV, pNotV, pIf, poNone, poSome, pSl, pRev, pCall, pCB, pTIx, piSeq, eP, eF, pth0, pthS, eRd, eFr, eMv, eaNil, eaCons, eaLate, eTup, eLst, eIx, eOp, eUn, eIf, eCall, eCB, eCBF, eSl, eSlH, eTIx, ePop, eCat, eiSeq, eiRange, eiEnum, dputs, dget, dset, dwipe, getP, getD, setP, getAll, fnEn, startD, opAdd, opSub, opMul, opMod, opDiv, opPow, opNeg, opEq, opNe, opLt, opLe, opGt, opGe, opIsN, opNotN, opIx, opSl, opRev, ipAdd, fLen, fTuple, fList, fInt, fAbs, OV.fz, fzL, nol, nolL, List.map_cons, List.map_nil, List.cons_append, List.nil_append, List.replicate_succ, List.replicate_zero, List.append_nil, List.length_cons, List.length_nil, if_true, if_false, eZ, eFz, goF, frzD, frzO, List.map, fzL_im, eqOk, scalD, deq, eqOk, scalD, deq]
    refine ⟨b, 2, rfl, hb, ⟨by decide, by decide⟩, fun b' v hb' h0 h1 => ⟨rfl, ?_⟩⟩
    simp [seq_def, sIf, sRet, sRetN, sAsg, sPar, sPar3, sDrop, sAug, sApp, sAppP, sExt, sIns, sSet, sAugIx, sNext, sBreak, sCont, sRaise, goN, goT, gN, gsNil, gsCons, gT, etP, etE, etAnd, etOr, etNot, tB, tTru, tAndP, tOrP, tNotP, tYesP, pVar, pC, pOp, pUn, paNil, paCons, pTup, pLst, pAndV, pOrV, pNotV, pIf, poNone, poSome, pSl, pRev, pCall, pCB, pTIx, piSeq, eP, eF, pth0, pthS, eRd, eFr, eMv, eaNil, eaCons, eaLate, eTup, eLst, eIx, eOp, eUn, eIf, eCall, eCB, eCBF, eSl, eSlH, eTIx, ePop, eCat, eiSeq, eiRange, eiEnum, dputs, dget, dset, dwipe, getP, getD, setP, getAll, fnEn, startD, opAdd, opSub, opMul, opMod, opDiv, opPow, opNeg, opEq, opNe, opLt, opLe, opGt, opGe, opIsN, opNotN, opIx, opSl, opRev, ipAdd, fLen, fTuple, fList, fInt, fAbs, OV.fz, fzL, nol, nolL, List.map_cons, List.map_nil, List.cons_append, List.nil_append, List.replicate_succ, List.replicate_zero, List.append_nil, List.length_cons, List.length_nil, if_true, if_false, eZ, eFz, goF, frzD, frzO, List.map, fzL_im, eqOk, scalD, deq]
    by_cases hv : v = 0
    · rw [if_pos hv, hN]
      refine comp_tags ts b' d1 _ _ hb' fun b2 ss hb2 hs hl => h b2 (t :: ss) hb2 (fun s m => ?_) (by simp; exact hl)
      rcases List.mem_cons.mp m with rfl | m
      · exact List.mem_cons_self
      · exact List.mem_cons_of_mem _ (hs s m)
    · rw [if_neg hv, hN]
      exact comp_tags ts b' d1 _ _ hb' fun b2 ss hb2 hs hl => h b2 ss hb2 (fun s m => List.mem_cons_of_mem _ (hs s m)) (by simp; omega)
theorem vc_tags (os : List OV) (Qd : OV → List OV → Prop) (Xd : Xc → Prop) (h : fdTags os Qd Xd) : s__law_tags fdTake (fnEn [0] Qd Xd) (startD 3 os) := by
  obtain ⟨b, ts, rfl, hb, hl, hQ⟩ := h
  simp [s__law_tags, eComp, seq_def, sIf, sRet, sRetN, sAsg, sPar, sPar3, sDrop, sAug, sApp, sAppP, sExt, sIns, sSet, sAugIx, sNext, sBreak, sCont, sRaise, goN, goT, gN, gsNil, gsCons, gT, etP, etE, etAnd, etOr, etNot, tB, tTru, tAndP, tOrP, tNotP, tYesP, pVar, pC, pOp, pUn, paNil, paCons, pTup, pLst, pAndV, pOrV, pNotV, pIf, poNone, poSome, pSl, pRev, pCall, pCB, pTIx, piSeq, eP, eF, pth0, pthS, eRd, eFr, eMv, eaNil, eaCons, eaLate, eTup, eLst, eIx, eOp, eUn, eIf, eCall, eCB, eCBF, eSl, eSlH, eTIx, ePop, eCat, eiSeq, eiRange, eiEnum, dputs, dget, dset, dwipe, getP, getD, setP, getAll, fnEn, startD, opAdd, opSub, opMul, opMod, opDiv, opPow, opNeg, opEq, opNe, opLt, opLe, opGt, opGe, opIsN, opNotN, opIx, opSl, opRev, ipAdd, fLen, fTuple, fList, fInt, fAbs, OV.fz, fzL, nol, nolL, List.map_cons, List.map_nil, List.cons_append, List.nil_append, List.replicate_succ, List.replicate_zero, List.append_nil, List.length_cons, List.length_nil, if_true, if_false, eZ, eFz, goF, frzD, frzO, List.map, fzL_im, eqOk, scalD, deq]
  refine ⟨by show _ ≤ 16777216; omega, comp_tags ts b _ _ _ hb fun b' ss hb' hs hl' => ?_⟩
  simp only [fz_strs]
  simp [seq_def, sIf, sRet, sRetN, sAsg, sPar, sPar3, sDrop, sAug, sApp, sAppP, sExt, sIns, sSet, sAugIx, sNext, sBreak, sCont, sRaise, goN, goT, gN, gsNil, gsCons, gT, etP, etE, etAnd, etOr, etNot, tB, tTru, tAndP, tOrP, tNotP, tYesP, pVar, pC, pOp, pUn, paNil, paCons, pTup, pLst, pAndV, pOrV, pNotV, pIf, poNone, poSome, pSl, pRev, pCall, pCB, pTIx, piSeq, eP, eF, pth0, pthS, eRd, eFr, eMv, eaNil, eaCons, eaLate, eTup, eLst, eIx, eOp, eUn, eIf, eCall, eCB, eCBF, eSl, eSlH, eTIx, ePop, eCat, eiSeq, eiRange, eiEnum, dputs, dget, dset, dwipe, getP, getD, setP, getAll, fnEn, startD, opAdd, opSub, opMul, opMod, opDiv, opPow, opNeg, opEq, opNe, opLt, opLe, opGt, opGe, opIsN, opNotN, opIx, opSl, opRev, ipAdd, fLen, fTuple, fList, fInt, fAbs, OV.fz, fzL, nol, nolL, List.map_cons, List.map_nil, List.cons_append, List.nil_append, List.replicate_succ, List.replicate_zero, List.append_nil, List.length_cons, List.length_nil, if_true, if_false, eZ, eFz, goF, frzD, frzO, List.map, fzL_im, eqOk, scalD, deq, strs_nol]
  exact hQ b' ss hb' hs hl'
def fdTest (n : Nat) : FD := fun os Q _ => ∃ (b : OV) (ts : List Str) (k : Nat), os = [b, .im (.tup (ts.map .str)), .im (.int k)] ∧ bagOk b ∧ (ts.length ≤ 100 ∧ ∀ t ∈ ts, okS t) ∧ k < n ∧ ∀ (b' : OV) (t : Tst), bagOk b' → tD t ≤ k → tW t = true → Q (.im (tE t)) [b']
theorem tup_strs_nol (ts : List Str) : nol (.tup (ts.map D.str)) = true := by simp [nol, strs_nol]
theorem fz_tests (l : List Tst) : fzL (l.map fun t => OV.im (tE t)) = l.map tE := by rw [fzL_map, List.map_map]; rfl
theorem tests_nol (l : List Tst) : nolL (l.map tE) = true := by rw [← tEL_map]; exact tEL_nol l
theorem tDL_le {l : List Tst} {k : Nat} (h : ∀ t ∈ l, tD t ≤ k) : tDL l ≤ k := by
  induction l with
  | nil => simp [tDL]
  | cons t l ih => exact Nat.max_le.mpr ⟨h t List.mem_cons_self, ih fun u m => h u (List.mem_cons_of_mem _ m)⟩
theorem tWL_all {l : List Tst} (h : ∀ t ∈ l, tW t = true) : tWL l = true := by
  induction l with
  | nil => rfl
  | cons t l ih => simp [tWL]; exact ⟨h t List.mem_cons_self, ih fun u m => h u (List.mem_cons_of_mem _ m)⟩
theorem vc_test (n : Nat) (os : List OV) (Qd : OV → List OV → Prop) (Xd : Xc → Prop) (h : fdTest (n + 1) os Qd Xd) : s__law_test fdSome fdTags (fdTest n) fdTake (fnEn [0] Qd Xd) (startD 5 os) := by
  obtain ⟨b, ts, k, rfl, hb, ⟨hl, hsk⟩, hk, hQ⟩ := h
  have hws : ∀ (w : Hw) (ss : List Str), (∀ s ∈ ss, s ∈ ts) → tW (.has w ss) = true := fun w ss hs => by simp only [tW, List.all_eq_true]; exact fun s m => hsk s (hs s m)
  have h3 : 3 ≤ line := by decide
  have h8 : 8 ≤ line := by decide
  have h4 : 4 ≤ line := by decide
  have h2 : 2 ≤ line := by decide
  have h1 : 1 ≤ line := by decide
  unfold s__law_test
  refine seq_st fun N hN => asg_st fun M hM => ?_
  -- behind the word
  have words : ∀ (x : D) (b : OV), bagOk b → (x = .str "has" ∨ x = .str "first" ∨ x = .str "last" ∨ x = .str "none" ∨ (0 < k ∧ (x = .str "not" ∨ x = .str "and" ∨ x = .str "or"))) → M (.im x) [some b, some (.im (.tup (ts.map .str))), some (.im (.int k)), none, none] := by
    intro x b hb hx
    subst hM hN
    have tags : ∀ w : Hw, fdTags [b, .im (.tup (ts.map .str))] (fun o os' => os'.length = 1 ∧ 2 ≤ line ∧ match getAll (dputs [none, some (.im (.tup (ts.map .str))), some (.im (.int k)), some (.im (.str w.s)), none] [0] os') [0] with
        | some os => Qd (.im (.tup [.str w.s, o.fz])) os
        | none => False) Xd := fun w => ⟨b, ts, rfl, hb, hl, fun b' ss hb' hs hls => ⟨rfl, h2, by
      have := hQ b' (.has w ss) hb' (by simp [tD]) (hws w ss hs)
      simpa [seq_def, sIf, sRet, sRetN, sAsg, sPar, sPar3, sDrop, sAug, sApp, sAppP, sExt, sIns, sSet, sAugIx, sNext, sBreak, sCont, sRaise, goN, goT, gN, gsNil, gsCons, gT, etP, etE, etAnd, etOr, etNot, tB, tTru, tAndP, tOrP, tNotP, tYesP, pVar, pC, pOp, pUn, paNil, paCons, pTup, pLst, pAndV, pOrV, pNotV, pIf, poNone, poSome, pSl, pRev, pCall, pCB, pTIx, piSeq, eP, eF, pth0, pthS, eRd, eFr, eMv, eaNil, eaCons, eaLate, eTup, eLst, eIx, eOp, eUn, eIf, eCall, eCB, eCBF, eSl, eSlH, eTIx, ePop, eCat, eiSeq, eiRange, eiEnum, dputs, dget, dset, dwipe, getP, getD, setP, getAll, fnEn, startD, opAdd, opSub, opMul, opMod, opDiv, opPow, opNeg, opEq, opNe, opLt, opLe, opGt, opGe, opIsN, opNotN, opIx, opSl, opRev, ipAdd, fLen, fTuple, fList, fInt, fAbs, OV.fz, fzL, nol, nolL, List.map_cons, List.map_nil, List.cons_append, List.nil_append, List.replicate_succ, List.replicate_zero, List.append_nil, List.length_cons, List.length_nil, if_true, if_false, eZ, eFz, goF, frzD, frzO, List.map, fzL_im, eqOk, scalD, deq, tE] using this⟩⟩
    have kk : 0 < k → ((k - 1 : Nat) : Int) = (k : Int) - 1 := fun h => by omega
    rcases hx with rfl | rfl | rfl | rfl | ⟨h0, hx⟩
    · simp [seq_def, sIf, sRet, sRetN, sAsg, sPar, sPar3, sDrop, sAug, sApp, sAppP, sExt, sIns, sSet, sAugIx, sNext, sBreak, sCont, sRaise, goN, goT, gN, gsNil, gsCons, gT, etP, etE, etAnd, etOr, etNot, tB, tTru, tAndP, tOrP, tNotP, tYesP, pVar, pC, pOp, pUn, paNil, paCons, pTup, pLst, pAndV, pOrV, pNotV, pIf, poNone, poSome, pSl, pRev, pCall, pCB, pTIx, piSeq, eP, eF, pth0, pthS, eRd, eFr, eMv, eaNil, eaCons, eaLate, eTup, eLst, eIx, eOp, eUn, eIf, eCall, eCB, eCBF, eSl, eSlH, eTIx, ePop, eCat, eiSeq, eiRange, eiEnum, dputs, dget, dset, dwipe, getP, getD, setP, getAll, fnEn, startD, opAdd, opSub, opMul, opMod, opDiv, opPow, opNeg, opEq, opNe, opLt, opLe, opGt, opGe, opIsN, opNotN, opIx, opSl, opRev, ipAdd, fLen, fTuple, fList, fInt, fAbs, OV.fz, fzL, nol, nolL, List.map_cons, List.map_nil, List.cons_append, List.nil_append, List.replicate_succ, List.replicate_zero, List.append_nil, List.length_cons, List.length_nil, if_true, if_false, eZ, eFz, goF, frzD, frzO, List.map, fzL_im, eqOk, scalD, deq, opIn, inOk, h3]
      exact ⟨b, ts, rfl, hb, hl, fun b' ss hb' hs hls => ⟨rfl, h2, by simpa [seq_def, sIf, sRet, sRetN, sAsg, sPar, sPar3, sDrop, sAug, sApp, sAppP, sExt, sIns, sSet, sAugIx, sNext, sBreak, sCont, sRaise, goN, goT, gN, gsNil, gsCons, gT, etP, etE, etAnd, etOr, etNot, tB, tTru, tAndP, tOrP, tNotP, tYesP, pVar, pC, pOp, pUn, paNil, paCons, pTup, pLst, pAndV, pOrV, pNotV, pIf, poNone, poSome, pSl, pRev, pCall, pCB, pTIx, piSeq, eP, eF, pth0, pthS, eRd, eFr, eMv, eaNil, eaCons, eaLate, eTup, eLst, eIx, eOp, eUn, eIf, eCall, eCB, eCBF, eSl, eSlH, eTIx, ePop, eCat, eiSeq, eiRange, eiEnum, dputs, dget, dset, dwipe, getP, getD, setP, getAll, fnEn, startD, opAdd, opSub, opMul, opMod, opDiv, opPow, opNeg, opEq, opNe, opLt, opLe, opGt, opGe, opIsN, opNotN, opIx, opSl, opRev, ipAdd, fLen, fTuple, fList, fInt, fAbs, OV.fz, fzL, nol, nolL, List.map_cons, List.map_nil, List.cons_append, List.nil_append, List.replicate_succ, List.replicate_zero, List.append_nil, List.length_cons, List.length_nil, if_true, if_false, eZ, eFz, goF, frzD, frzO, List.map, fzL_im, eqOk, scalD, deq, tE, Hw.s] using hQ b' (.has .has ss) hb' (Nat.zero_le _) (hws _ ss hs)⟩⟩
    · simp [seq_def, sIf, sRet, sRetN, sAsg, sPar, sPar3, sDrop, sAug, sApp, sAppP, sExt, sIns, sSet, sAugIx, sNext, sBreak, sCont, sRaise, goN, goT, gN, gsNil, gsCons, gT, etP, etE, etAnd, etOr, etNot, tB, tTru, tAndP, tOrP, tNotP, tYesP, pVar, pC, pOp, pUn, paNil, paCons, pTup, pLst, pAndV, pOrV, pNotV, pIf, poNone, poSome, pSl, pRev, pCall, pCB, pTIx, piSeq, eP, eF, pth0, pthS, eRd, eFr, eMv, eaNil, eaCons, eaLate, eTup, eLst, eIx, eOp, eUn, eIf, eCall, eCB, eCBF, eSl, eSlH, eTIx, ePop, eCat, eiSeq, eiRange, eiEnum, dputs, dget, dset, dwipe, getP, getD, setP, getAll, fnEn, startD, opAdd, opSub, opMul, opMod, opDiv, opPow, opNeg, opEq, opNe, opLt, opLe, opGt, opGe, opIsN, opNotN, opIx, opSl, opRev, ipAdd, fLen, fTuple, fList, fInt, fAbs, OV.fz, fzL, nol, nolL, List.map_cons, List.map_nil, List.cons_append, List.nil_append, List.replicate_succ, List.replicate_zero, List.append_nil, List.length_cons, List.length_nil, if_true, if_false, eZ, eFz, goF, frzD, frzO, List.map, fzL_im, eqOk, scalD, deq, opIn, inOk, h3]
      exact ⟨b, ts, rfl, hb, hl, fun b' ss hb' hs hls => ⟨rfl, h2, by simpa [seq_def, sIf, sRet, sRetN, sAsg, sPar, sPar3, sDrop, sAug, sApp, sAppP, sExt, sIns, sSet, sAugIx, sNext, sBreak, sCont, sRaise, goN, goT, gN, gsNil, gsCons, gT, etP, etE, etAnd, etOr, etNot, tB, tTru, tAndP, tOrP, tNotP, tYesP, pVar, pC, pOp, pUn, paNil, paCons, pTup, pLst, pAndV, pOrV, pNotV, pIf, poNone, poSome, pSl, pRev, pCall, pCB, pTIx, piSeq, eP, eF, pth0, pthS, eRd, eFr, eMv, eaNil, eaCons, eaLate, eTup, eLst, eIx, eOp, eUn, eIf, eCall, eCB, eCBF, eSl, eSlH, eTIx, ePop, eCat, eiSeq, eiRange, eiEnum, dputs, dget, dset, dwipe, getP, getD, setP, getAll, fnEn, startD, opAdd, opSub, opMul, opMod, opDiv, opPow, opNeg, opEq, opNe, opLt, opLe, opGt, opGe, opIsN, opNotN, opIx, opSl, opRev, ipAdd, fLen, fTuple, fList, fInt, fAbs, OV.fz, fzL, nol, nolL, List.map_cons, List.map_nil, List.cons_append, List.nil_append, List.replicate_succ, List.replicate_zero, List.append_nil, List.length_cons, List.length_nil, if_true, if_false, eZ, eFz, goF, frzD, frzO, List.map, fzL_im, eqOk, scalD, deq, tE, Hw.s] using hQ b' (.has .first ss) hb' (Nat.zero_le _) (hws _ ss hs)⟩⟩
    · simp [seq_def, sIf, sRet, sRetN, sAsg, sPar, sPar3, sDrop, sAug, sApp, sAppP, sExt, sIns, sSet, sAugIx, sNext, sBreak, sCont, sRaise, goN, goT, gN, gsNil, gsCons, gT, etP, etE, etAnd, etOr, etNot, tB, tTru, tAndP, tOrP, tNotP, tYesP, pVar, pC, pOp, pUn, paNil, paCons, pTup, pLst, pAndV, pOrV, pNotV, pIf, poNone, poSome, pSl, pRev, pCall, pCB, pTIx, piSeq, eP, eF, pth0, pthS, eRd, eFr, eMv, eaNil, eaCons, eaLate, eTup, eLst, eIx, eOp, eUn, eIf, eCall, eCB, eCBF, eSl, eSlH, eTIx, ePop, eCat, eiSeq, eiRange, eiEnum, dputs, dget, dset, dwipe, getP, getD, setP, getAll, fnEn, startD, opAdd, opSub, opMul, opMod, opDiv, opPow, opNeg, opEq, opNe, opLt, opLe, opGt, opGe, opIsN, opNotN, opIx, opSl, opRev, ipAdd, fLen, fTuple, fList, fInt, fAbs, OV.fz, fzL, nol, nolL, List.map_cons, List.map_nil, List.cons_append, List.nil_append, List.replicate_succ, List.replicate_zero, List.append_nil, List.length_cons, List.length_nil, if_true, if_false, eZ, eFz, goF, frzD, frzO, List.map, fzL_im, eqOk, scalD, deq, opIn, inOk, h3]
      exact ⟨b, ts, rfl, hb, hl, fun b' ss hb' hs hls => ⟨rfl, h2, by simpa [seq_def, sIf, sRet, sRetN, sAsg, sPar, sPar3, sDrop, sAug, sApp, sAppP, sExt, sIns, sSet, sAugIx, sNext, sBreak, sCont, sRaise, goN, goT, gN, gsNil, gsCons, gT, etP, etE, etAnd, etOr, etNot, tB, tTru, tAndP, tOrP, tNotP, tYesP, pVar, pC, pOp, pUn, paNil, paCons, pTup, pLst, pAndV, pOrV, pNotV, pIf, poNone, poSome, pSl, pRev, pCall, pCB, pTIx, piSeq, eP, eF, pth0, pthS, eRd, eFr, eMv, eaNil, eaCons, eaLate, eTup, eLst, eIx, eOp, eUn, eIf, eCall, eCB, eCBF, eSl, eSlH, eTIx, ePop, eCat, eiSeq, eiRange, eiEnum, dputs, dget, dset, dwipe, getP, getD, setP, getAll, fnEn, startD, opAdd, opSub, opMul, opMod, opDiv, opPow, opNeg, opEq, opNe, opLt, opLe, opGt, opGe, opIsN, opNotN, opIx, opSl, opRev, ipAdd, fLen, fTuple, fList, fInt, fAbs, OV.fz, fzL, nol, nolL, List.map_cons, List.map_nil, List.cons_append, List.nil_append, List.replicate_succ, List.replicate_zero, List.append_nil, List.length_cons, List.length_nil, if_true, if_false, eZ, eFz, goF, frzD, frzO, List.map, fzL_im, eqOk, scalD, deq, tE, Hw.s] using hQ b' (.has .last ss) hb' (Nat.zero_le _) (hws _ ss hs)⟩⟩
    · simp [seq_def, sIf, sRet, sRetN, sAsg, sPar, sPar3, sDrop, sAug, sApp, sAppP, sExt, sIns, sSet, sAugIx, sNext, sBreak, sCont, sRaise, goN, goT, gN, gsNil, gsCons, gT, etP, etE, etAnd, etOr, etNot, tB, tTru, tAndP, tOrP, tNotP, tYesP, pVar, pC, pOp, pUn, paNil, paCons, pTup, pLst, pAndV, pOrV, pNotV, pIf, poNone, poSome, pSl, pRev, pCall, pCB, pTIx, piSeq, eP, eF, pth0, pthS, eRd, eFr, eMv, eaNil, eaCons, eaLate, eTup, eLst, eIx, eOp, eUn, eIf, eCall, eCB, eCBF, eSl, eSlH, eTIx, ePop, eCat, eiSeq, eiRange, eiEnum, dputs, dget, dset, dwipe, getP, getD, setP, getAll, fnEn, startD, opAdd, opSub, opMul, opMod, opDiv, opPow, opNeg, opEq, opNe, opLt, opLe, opGt, opGe, opIsN, opNotN, opIx, opSl, opRev, ipAdd, fLen, fTuple, fList, fInt, fAbs, OV.fz, fzL, nol, nolL, List.map_cons, List.map_nil, List.cons_append, List.nil_append, List.replicate_succ, List.replicate_zero, List.append_nil, List.length_cons, List.length_nil, if_true, if_false, eZ, eFz, goF, frzD, frzO, List.map, fzL_im, eqOk, scalD, deq, opIn, inOk, h3]
      rw [if_neg (by decide)]
      exact ⟨h1, by simpa [tE] using hQ b .nope hb (Nat.zero_le _) rfl⟩
    · have kids : ∀ (w : Str) (v : Int) (b : OV) (K : List OV → DE → Prop), 0 ≤ v → v < 3 → bagOk b →
          (∀ (b' : OV) (x : Option OV) (l : List Tst), bagOk b' → l.length ≤ 2 → (∀ t ∈ l, tD t ≤ k - 1 ∧ tW t = true) → K (l.map fun t => .im (tE t)) [some b', some (.im (.tup (ts.map .str))), some (.im (.int k)), some (.im (.str w)), x]) →
          compE [4] (gN 4) (etP tYesP) (eo1__law_test fdSome fdTags (fdTest n) fdTake) (rangeD 0 v.toNat) [some b, some (.im (.tup (ts.map .str))), some (.im (.int k)), some (.im (.str w)), none] K := fun w v b K hv0 hv1 hb hK => by
        refine compE_all (fun δ => ∃ b x, bagOk b ∧ δ = [some b, some (.im (.tup (ts.map .str))), some (.im (.int k)), some (.im (.str w)), x]) (fun o => ∃ t, o = .im (tE t) ∧ (tD t ≤ k - 1 ∧ tW t = true)) (fun δ ⟨b, x, hb, e⟩ => ⟨b, none, hb, by rw [e]; rfl⟩) _ _ _ (fun d _ δ Q' ⟨b, x, hb, e⟩ hq => ?_) ⟨b, none, hb, rfl⟩ fun os δ' hlen hR ⟨b2, x, hb2, e⟩ => ?_
        · rw [e]
          simp [eo1__law_test, seq_def, sIf, sRet, sRetN, sAsg, sPar, sPar3, sDrop, sAug, sApp, sAppP, sExt, sIns, sSet, sAugIx, sNext, sBreak, sCont, sRaise, goN, goT, gN, gsNil, gsCons, gT, etP, etE, etAnd, etOr, etNot, tB, tTru, tAndP, tOrP, tNotP, tYesP, pVar, pC, pOp, pUn, paNil, paCons, pTup, pLst, pAndV, pOrV, pNotV, pIf, poNone, poSome, pSl, pRev, pCall, pCB, pTIx, piSeq, eP, eF, pth0, pthS, eRd, eFr, eMv, eaNil, eaCons, eaLate, eTup, eLst, eIx, eOp, eUn, eIf, eCall, eCB, eCBF, eSl, eSlH, eTIx, ePop, eCat, eiSeq, eiRange, eiEnum, dputs, dget, dset, dwipe, getP, getD, setP, getAll, fnEn, startD, opAdd, opSub, opMul, opMod, opDiv, opPow, opNeg, opEq, opNe, opLt, opLe, opGt, opGe, opIsN, opNotN, opIx, opSl, opRev, ipAdd, fLen, fTuple, fList, fInt, fAbs, OV.fz, fzL, nol, nolL, List.map_cons, List.map_nil, List.cons_append, List.nil_append, List.replicate_succ, List.replicate_zero, List.append_nil, List.length_cons, List.length_nil, if_true, if_false, eZ, eFz, goF, frzD, frzO, List.map, fzL_im, eqOk, scalD, deq]
          exact ⟨b, ts, k - 1, by rw [kk h0], hb, ⟨hl, hsk⟩, by omega, fun b' t hb' hd hw => ⟨rfl, by simpa [seq_def, sIf, sRet, sRetN, sAsg, sPar, sPar3, sDrop, sAug, sApp, sAppP, sExt, sIns, sSet, sAugIx, sNext, sBreak, sCont, sRaise, goN, goT, gN, gsNil, gsCons, gT, etP, etE, etAnd, etOr, etNot, tB, tTru, tAndP, tOrP, tNotP, tYesP, pVar, pC, pOp, pUn, paNil, paCons, pTup, pLst, pAndV, pOrV, pNotV, pIf, poNone, poSome, pSl, pRev, pCall, pCB, pTIx, piSeq, eP, eF, pth0, pthS, eRd, eFr, eMv, eaNil, eaCons, eaLate, eTup, eLst, eIx, eOp, eUn, eIf, eCall, eCB, eCBF, eSl, eSlH, eTIx, ePop, eCat, eiSeq, eiRange, eiEnum, dputs, dget, dset, dwipe, getP, getD, setP, getAll, fnEn, startD, opAdd, opSub, opMul, opMod, opDiv, opPow, opNeg, opEq, opNe, opLt, opLe, opGt, opGe, opIsN, opNotN, opIx, opSl, opRev, ipAdd, fLen, fTuple, fList, fInt, fAbs, OV.fz, fzL, nol, nolL, List.map_cons, List.map_nil, List.cons_append, List.nil_append, List.replicate_succ, List.replicate_zero, List.append_nil, List.length_cons, List.length_nil, if_true, if_false, eZ, eFz, goF, frzD, frzO, List.map, fzL_im, eqOk, scalD, deq] using hq (.im (tE t)) _ ⟨t, rfl, hd, hw⟩ ⟨b', _, hb', rfl⟩⟩⟩
        · obtain ⟨l, rfl, hll, hP⟩ := all_map hR
          rw [e]
          refine hK b2 x l hb2 ?_ hP
          simp [rangeD] at hlen
          omega
      have last : ∀ (w : Ao) (b' : OV) (l : List Tst), bagOk b' → l.length ≤ 2 → (∀ t ∈ l, tD t ≤ k - 1 ∧ tW t = true) → Qd (.im (.tup [.str w.s, .tup (l.map tE)])) [b'] := fun w b' l hb' hl2 hP => by
        have := hQ b' (.many w l) hb' (by simp only [tD]; have := tDL_le fun t m => (hP t m).1; omega) (by simp [tW]; exact ⟨by omega, tWL_all fun t m => (hP t m).2⟩)
        simpa [tE, tEL_map] using this
      rcases hx with rfl | rfl | rfl
      · simp [seq_def, sIf, sRet, sRetN, sAsg, sPar, sPar3, sDrop, sAug, sApp, sAppP, sExt, sIns, sSet, sAugIx, sNext, sBreak, sCont, sRaise, goN, goT, gN, gsNil, gsCons, gT, etP, etE, etAnd, etOr, etNot, tB, tTru, tAndP, tOrP, tNotP, tYesP, pVar, pC, pOp, pUn, paNil, paCons, pTup, pLst, pAndV, pOrV, pNotV, pIf, poNone, poSome, pSl, pRev, pCall, pCB, pTIx, piSeq, eP, eF, pth0, pthS, eRd, eFr, eMv, eaNil, eaCons, eaLate, eTup, eLst, eIx, eOp, eUn, eIf, eCall, eCB, eCBF, eSl, eSlH, eTIx, ePop, eCat, eiSeq, eiRange, eiEnum, dputs, dget, dset, dwipe, getP, getD, setP, getAll, fnEn, startD, opAdd, opSub, opMul, opMod, opDiv, opPow, opNeg, opEq, opNe, opLt, opLe, opGt, opGe, opIsN, opNotN, opIx, opSl, opRev, ipAdd, fLen, fTuple, fList, fInt, fAbs, OV.fz, fzL, nol, nolL, List.map_cons, List.map_nil, List.cons_append, List.nil_append, List.replicate_succ, List.replicate_zero, List.append_nil, List.length_cons, List.length_nil, if_true, if_false, eZ, eFz, goF, frzD, frzO, List.map, fzL_im, eqOk, scalD, deq, opIn, inOk, h3]
        rw [if_neg (by decide), if_neg (by decide)]
        exact ⟨b, ts, k - 1, by rw [kk h0], hb, ⟨hl, hsk⟩, by omega, fun b' t hb' hd hw => ⟨rfl, h2, by simpa [seq_def, sIf, sRet, sRetN, sAsg, sPar, sPar3, sDrop, sAug, sApp, sAppP, sExt, sIns, sSet, sAugIx, sNext, sBreak, sCont, sRaise, goN, goT, gN, gsNil, gsCons, gT, etP, etE, etAnd, etOr, etNot, tB, tTru, tAndP, tOrP, tNotP, tYesP, pVar, pC, pOp, pUn, paNil, paCons, pTup, pLst, pAndV, pOrV, pNotV, pIf, poNone, poSome, pSl, pRev, pCall, pCB, pTIx, piSeq, eP, eF, pth0, pthS, eRd, eFr, eMv, eaNil, eaCons, eaLate, eTup, eLst, eIx, eOp, eUn, eIf, eCall, eCB, eCBF, eSl, eSlH, eTIx, ePop, eCat, eiSeq, eiRange, eiEnum, dputs, dget, dset, dwipe, getP, getD, setP, getAll, fnEn, startD, opAdd, opSub, opMul, opMod, opDiv, opPow, opNeg, opEq, opNe, opLt, opLe, opGt, opGe, opIsN, opNotN, opIx, opSl, opRev, ipAdd, fLen, fTuple, fList, fInt, fAbs, OV.fz, fzL, nol, nolL, List.map_cons, List.map_nil, List.cons_append, List.nil_append, List.replicate_succ, List.replicate_zero, List.append_nil, List.length_cons, List.length_nil, if_true, if_false, eZ, eFz, goF, frzD, frzO, List.map, fzL_im, eqOk, scalD, deq, tE] using hQ b' (.not t) hb' (by simp only [tD]; omega) (by simpa [tW] using hw)⟩⟩
      · simp [seq_def, sIf, sRet, sRetN, sAsg, sPar, sPar3, sDrop, sAug, sApp, sAppP, sExt, sIns, sSet, sAugIx, sNext, sBreak, sCont, sRaise, goN, goT, gN, gsNil, gsCons, gT, etP, etE, etAnd, etOr, etNot, tB, tTru, tAndP, tOrP, tNotP, tYesP, pVar, pC, pOp, pUn, paNil, paCons, pTup, pLst, pAndV, pOrV, pNotV, pIf, poNone, poSome, pSl, pRev, pCall, pCB, pTIx, piSeq, eP, eF, pth0, pthS, eRd, eFr, eMv, eaNil, eaCons, eaLate, eTup, eLst, eIx, eOp, eUn, eIf, eCall, eCB, eCBF, eSl, eSlH, eTIx, ePop, eCat, eiSeq, eiRange, eiEnum, dputs, dget, dset, dwipe, getP, getD, setP, getAll, fnEn, startD, opAdd, opSub, opMul, opMod, opDiv, opPow, opNeg, opEq, opNe, opLt, opLe, opGt, opGe, opIsN, opNotN, opIx, opSl, opRev, ipAdd, fLen, fTuple, fList, fInt, fAbs, OV.fz, fzL, nol, nolL, List.map_cons, List.map_nil, List.cons_append, List.nil_append, List.replicate_succ, List.replicate_zero, List.append_nil, List.length_cons, List.length_nil, if_true, if_false, eZ, eFz, goF, frzD, frzO, List.map, fzL_im, eqOk, scalD, deq, opIn, inOk, h3, eComp]
        rw [if_neg (by decide), if_neg (by decide), if_neg (by decide)]
        refine ⟨b, 3, rfl, hb, ⟨by decide, by decide⟩, fun b' v hb' hv0 hv1 => ⟨rfl, ?_⟩⟩
        simp only [OV.fz, rngItems, dputs, dset]
        refine ⟨⟨by omega, by omega⟩, by simp [rangeD]; show _ ≤ 16777216; omega, ?_⟩
        refine kids "and" v b' _ hv0 hv1 hb' fun b2 x l hb2 hl2 hP => ?_
        rw [fz_tests]
        exact ⟨by simp [tests_nol], h2, last .and b2 l hb2 hl2 hP⟩
      · simp [seq_def, sIf, sRet, sRetN, sAsg, sPar, sPar3, sDrop, sAug, sApp, sAppP, sExt, sIns, sSet, sAugIx, sNext, sBreak, sCont, sRaise, goN, goT, gN, gsNil, gsCons, gT, etP, etE, etAnd, etOr, etNot, tB, tTru, tAndP, tOrP, tNotP, tYesP, pVar, pC, pOp, pUn, paNil, paCons, pTup, pLst, pAndV, pOrV, pNotV, pIf, poNone, poSome, pSl, pRev, pCall, pCB, pTIx, piSeq, eP, eF, pth0, pthS, eRd, eFr, eMv, eaNil, eaCons, eaLate, eTup, eLst, eIx, eOp, eUn, eIf, eCall, eCB, eCBF, eSl, eSlH, eTIx, ePop, eCat, eiSeq, eiRange, eiEnum, dputs, dget, dset, dwipe, getP, getD, setP, getAll, fnEn, startD, opAdd, opSub, opMul, opMod, opDiv, opPow, opNeg, opEq, opNe, opLt, opLe, opGt, opGe, opIsN, opNotN, opIx, opSl, opRev, ipAdd, fLen, fTuple, fList, fInt, fAbs, OV.fz, fzL, nol, nolL, List.map_cons, List.map_nil, List.cons_append, List.nil_append, List.replicate_succ, List.replicate_zero, List.append_nil, List.length_cons, List.length_nil, if_true, if_false, eZ, eFz, goF, frzD, frzO, List.map, fzL_im, eqOk, scalD, deq, opIn, inOk, h3, eComp]
        rw [if_neg (by decide), if_neg (by decide), if_neg (by decide)]
        refine ⟨b, 3, rfl, hb, ⟨by decide, by decide⟩, fun b' v hb' hv0 hv1 => ⟨rfl, ?_⟩⟩
        simp only [OV.fz, rngItems, dputs, dset]
        refine ⟨⟨by omega, by omega⟩, by simp [rangeD]; show _ ≤ 16777216; omega, ?_⟩
        refine kids "or" v b' _ hv0 hv1 hb' fun b2 x l hb2 hl2 hP => ?_
        rw [fz_tests]
        exact ⟨by simp [tests_nol], h2, last .or b2 l hb2 hl2 hP⟩
  simp [seq_def, sIf, sRet, sRetN, sAsg, sPar, sPar3, sDrop, sAug, sApp, sAppP, sExt, sIns, sSet, sAugIx, sNext, sBreak, sCont, sRaise, goN, goT, gN, gsNil, gsCons, gT, etP, etE, etAnd, etOr, etNot, tB, tTru, tAndP, tOrP, tNotP, tYesP, pVar, pC, pOp, pUn, paNil, paCons, pTup, pLst, pAndV, pOrV, pNotV, pIf, poNone, poSome, pSl, pRev, pCall, pCB, pTIx, piSeq, eP, eF, pth0, pthS, eRd, eFr, eMv, eaNil, eaCons, eaLate, eTup, eLst, eIx, eOp, eUn, eIf, eCall, eCB, eCBF, eSl, eSlH, eTIx, ePop, eCat, eiSeq, eiRange, eiEnum, dputs, dget, dset, dwipe, getP, getD, setP, getAll, fnEn, startD, opAdd, opSub, opMul, opMod, opDiv, opPow, opNeg, opEq, opNe, opLt, opLe, opGt, opGe, opIsN, opNotN, opIx, opSl, opRev, ipAdd, fLen, fTuple, fList, fInt, fAbs, OV.fz, fzL, nol, nolL, List.map_cons, List.map_nil, List.cons_append, List.nil_append, List.replicate_succ, List.replicate_zero, List.append_nil, List.length_cons, List.length_nil, if_true, if_false, eZ, eFz, goF, frzD, frzO, List.map, fzL_im, eqOk, scalD, deq, h8, h4]
  split
  · rename_i hk0
    refine ⟨b, _, _, rfl, hb, .inr rfl, ⟨by decide, by decide⟩, fun b' x hb' hx => ⟨rfl, ?_⟩⟩
    simp at hx
    refine words x b' hb' ?_
    rcases hx with h | h | h | h | h | h | h <;> simp [h, hk0]
  · refine ⟨b, _, _, rfl, hb, .inr rfl, ⟨by decide, by decide⟩, fun b' x hb' hx => ⟨rfl, ?_⟩⟩
    simp at hx
    refine words x b' hb' ?_
    rcases hx with h | h | h | h <;> simp [h]
end G66
namespace G66
open PySem DL
def wid : Nat → Nat
  | 0 => 1
  | k + 1 => 1 + 4 * wid k
/-- small tests, texts that are texts -/
def pG : Part → Prop
  | .page s _ => okS s
  | .apply m o => okS m ∧ ∀ ts, o = some ts → ∀ t ∈ ts, okS t
  | .iff t _ _ => tD t ≤ 1 ∧ tW t = true
theorem pG_iff {q : Part} (h : pG q) (t : Tst) (a b : List Part) (e : q = .iff t a b) : tD t ≤ 1 ∧ tW t = true := by
  subst e
  exact h
def gp (k : Nat) (p : Part) : Prop := pD p ≤ k + 1 ∧ (pre p).length ≤ wid k ∧ ∀ q ∈ pre p, pG q
theorem gp_list {k : Nat} {l : List Part} (hl : l.length ≤ 2) (h : ∀ p ∈ l, gp k p) : pDL l ≤ k + 1 ∧ (preL l).length ≤ 2 * wid k ∧ ∀ q ∈ preL l, pG q := by
  match l, hl with
  | [], _ => exact ⟨by simp [pDL], by simp [preL], by simp [preL]⟩
  | [p], _ =>
    obtain ⟨a1, a2, a3⟩ := h p (by simp)
    refine ⟨by simp only [pDL]; omega, by simp [preL]; omega, fun q m => a3 q (by simpa [preL] using m)⟩
  | [p, r], _ =>
    obtain ⟨a1, a2, a3⟩ := h p (by simp)
    obtain ⟨b1, b2, b3⟩ := h r (by simp)
    refine ⟨by simp only [pDL]; omega, by simp [preL]; omega, fun q m => ?_⟩
    simp [preL] at m
    exact m.elim (a3 q) (b3 q)
theorem gp_page {k : Nat} {s : Str} {l : List Part} (hs : okS s) (hl : l.length ≤ 2) (h : ∀ p ∈ l, gp k p) : gp (k + 1) (.page s l) := by
  obtain ⟨h1, h2, h3⟩ := gp_list hl h
  refine ⟨by simp only [pD]; omega, by simp only [pre, List.length_cons, wid]; omega, fun q m => ?_⟩
  simp [pre] at m
  rcases m with rfl | m
  · exact hs
  · exact h3 q m
theorem gp_page0 {k : Nat} {s : Str} (hs : okS s) : gp k (.page s []) := by
  refine ⟨by simp [pD, pDL], by cases k <;> simp [pre, preL, wid], fun q m => ?_⟩
  simp [pre, preL] at m
  subst m
  exact hs
theorem gp_app {k : Nat} {m : Str} {o : Option (List Str)} (hm : okS m) (ho : ∀ ts, o = some ts → ∀ t ∈ ts, okS t) : gp k (.apply m o) := by
  refine ⟨by simp [pD], ?_, fun q h => ?_⟩
  · cases k <;> simp [pre, wid]
  · simp [pre] at h
    subst h
    exact ⟨hm, ho⟩
theorem gp_if {k : Nat} {t : Tst} {a b : List Part} (ht : tD t ≤ 1 ∧ tW t = true) (ha : a.length ≤ 2) (hb : b.length ≤ 2) (h1 : ∀ p ∈ a, gp k p) (h2 : ∀ p ∈ b, gp k p) : gp (k + 1) (.iff t a b) := by
  obtain ⟨a1, a2, a3⟩ := gp_list ha h1
  obtain ⟨b1, b2, b3⟩ := gp_list hb h2
  refine ⟨by simp only [pD]; omega, by simp only [pre, List.length_cons, List.length_append, wid]; omega, fun q m => ?_⟩
  simp [pre] at m
  rcases m with rfl | m | m
  · exact ht
  · exact a3 q m
  · exact b3 q m
def kitE (ms ts ps : List Str) : D := .tup [.tup (ms.map .str), .tup (ts.map .str), .tup (ps.map .str)]
def fdParts (n : Nat) : FD := fun os Q _ => ∃ (b : OV) (ms ts ps : List Str) (k : Nat), os = [b, .im (kitE ms ts ps), .im (.int k)] ∧ bagOk b ∧ ((0 < ms.length ∧ ms.length < 1000 ∧ ts.length ≤ 100 ∧ 0 < ps.length ∧ ps.length < 1000) ∧ (∀ m ∈ ms, okS m) ∧ (∀ t ∈ ts, okS t) ∧ ∀ p ∈ ps, okS p) ∧ k < n ∧
  ∀ (b' : OV) (l : List Part), bagOk b' → l.length ≤ 2 → (∀ p ∈ l, gp k p) → Q (.im (.tup (pEL l))) [b']
theorem str_mem {x : D} {l : List Str} (h : x ∈ l.map D.str) : ∃ s, x = .str s ∧ s ∈ l := by
  obtain ⟨s, m, rfl⟩ := List.mem_map.mp h
  exact ⟨s, rfl, m⟩
theorem parts_loop (n : Nat) (ms ts ps : List Str) (k : Nat) (hs9 : (0 < ms.length ∧ ms.length < 1000 ∧ ts.length ≤ 100 ∧ 0 < ps.length ∧ ps.length < 1000) ∧ (∀ m ∈ ms, okS m) ∧ (∀ t ∈ ts, okS t) ∧ ∀ p ∈ ps, okS p) (hk : k < n + 1) (E : En) : ∀ (ds : List D) (acc : List Part) (b : OV) (x4 x5 : Option OV), bagOk b → acc.length + ds.length ≤ 2 → (∀ p ∈ acc, gp k p) →
    (∀ (b' : OV) (l : List Part) (x4 x5 : Option OV), bagOk b' → l.length ≤ 2 → (∀ p ∈ l, gp k p) → E.nx [some b', some (.im (kitE ms ts ps)), some (.im (.int k)), some (.lst (l.map fun p => .im (pE p))), x4, x5]) →
    forL (gN 4) (L1__law_parts fdSome (fdParts n) fdTags (fdTest 2)) E ds [some b, some (.im (kitE ms ts ps)), some (.im (.int k)), some (.lst (acc.map fun p => .im (pE p))), x4, x5]
  | [], acc, b, x4, x5, hb, hl, ha, h => h b acc x4 x5 hb (by simpa using hl) ha
  | d :: ds, acc, b, x4, x5, hb, hl, ha, h => by
    simp only [List.length_cons] at hl
    obtain ⟨hs, hsm, hst, hsp⟩ := id hs9
    have l1 : 1 ≤ line := by decide
    have l2 : 2 ≤ line := by decide
    have l3 : 3 ≤ line := by decide
    have l4 : 4 ≤ line := by decide
    have l5 : 5 ≤ line := by decide
    have hacc : acc.length < line := by show _ < 16777216; omega
    refine for_st fun N hN => ?_
    -- one more part
    have more : ∀ (p : Part) (b' : OV) (x4 x5 : Option OV), bagOk b' → gp k p → N [some b', some (.im (kitE ms ts ps)), some (.im (.int k)), some (.lst ((acc.map fun p => .im (pE p)) ++ [.im (pE p)])), x4, x5] := fun p b' x4 x5 hb' hp => by
      rw [hN]
      have := parts_loop n ms ts ps k hs9 hk E ds (acc ++ [p]) b' x4 x5 hb' (by simp; omega) (fun q m => (List.mem_append.mp m).elim (ha q) fun m => by rw [List.mem_singleton.mp m]; exact hp) h
      simpa using this
    show L1__law_parts _ _ _ _ _ _
    unfold L1__law_parts
    refine seq_st fun N2 hN2 => asg_st fun M hM => ?_
    have kk : 0 < k → ((k - 1 : Nat) : Int) = (k : Int) - 1 := fun h => by omega
    have words : ∀ (x : D) (b : OV), bagOk b → (x = .str "page" ∨ x = .str "apply" ∨ (0 < k ∧ x = .str "if")) → M (.im x) [some b, some (.im (kitE ms ts ps)), some (.im (.int k)), some (.lst (acc.map fun p => .im (pE p))), some (.im d), x5] := by
      intro x b hb hx
      subst hM hN2
      rcases hx with rfl | rfl | ⟨h0, rfl⟩
      · simp [seq_def, sIf, sRet, sRetN, sAsg, sPar, sPar3, sDrop, sAug, sApp, sAppP, sExt, sIns, sSet, sAugIx, sNext, sBreak, sCont, sRaise, goN, goT, gN, gsNil, gsCons, gT, etP, etE, etAnd, etOr, etNot, tB, tTru, tAndP, tOrP, tNotP, tYesP, pVar, pC, pOp, pUn, paNil, paCons, pTup, pLst, pAndV, pOrV, pNotV, pIf, poNone, poSome, pSl, pRev, pCall, pCB, pTIx, piSeq, eP, eF, pth0, pthS, eRd, eFr, eMv, eaNil, eaCons, eaLate, eTup, eLst, eIx, eOp, eUn, eIf, eCall, eCB, eCBF, eSl, eSlH, eTIx, ePop, eCat, eiSeq, eiRange, eiEnum, dputs, dget, dset, dwipe, getP, getD, setP, getAll, fnEn, startD, opAdd, opSub, opMul, opMod, opDiv, opPow, opNeg, opEq, opNe, opLt, opLe, opGt, opGe, opIsN, opNotN, opIx, opSl, opRev, ipAdd, fLen, fTuple, fList, fInt, fAbs, OV.fz, fzL, nol, nolL, List.map_cons, List.map_nil, List.cons_append, List.nil_append, List.replicate_succ, List.replicate_zero, List.append_nil, List.length_cons, List.length_nil, if_true, if_false, eZ, eFz, goF, frzD, frzO, List.map, fzL_im, eqOk, scalD, deq, kitE, atD, ixD, s1]
        refine ⟨b, _, ps.map D.str, rfl, hb, .inl rfl, ⟨by simpa using hs.2.2.2.1, by simp; omega⟩, fun b1 y hb1 hy => ⟨rfl, ?_⟩⟩
        obtain ⟨s, rfl, hsy⟩ := str_mem hy
        simp [seq_def, sIf, sRet, sRetN, sAsg, sPar, sPar3, sDrop, sAug, sApp, sAppP, sExt, sIns, sSet, sAugIx, sNext, sBreak, sCont, sRaise, goN, goT, gN, gsNil, gsCons, gT, etP, etE, etAnd, etOr, etNot, tB, tTru, tAndP, tOrP, tNotP, tYesP, pVar, pC, pOp, pUn, paNil, paCons, pTup, pLst, pAndV, pOrV, pNotV, pIf, poNone, poSome, pSl, pRev, pCall, pCB, pTIx, piSeq, eP, eF, pth0, pthS, eRd, eFr, eMv, eaNil, eaCons, eaLate, eTup, eLst, eIx, eOp, eUn, eIf, eCall, eCB, eCBF, eSl, eSlH, eTIx, ePop, eCat, eiSeq, eiRange, eiEnum, dputs, dget, dset, dwipe, getP, getD, setP, getAll, fnEn, startD, opAdd, opSub, opMul, opMod, opDiv, opPow, opNeg, opEq, opNe, opLt, opLe, opGt, opGe, opIsN, opNotN, opIx, opSl, opRev, ipAdd, fLen, fTuple, fList, fInt, fAbs, OV.fz, fzL, nol, nolL, List.map_cons, List.map_nil, List.cons_append, List.nil_append, List.replicate_succ, List.replicate_zero, List.append_nil, List.length_cons, List.length_nil, if_true, if_false, eZ, eFz, goF, frzD, frzO, List.map, fzL_im, eqOk, scalD, deq, l3, hacc]
        split
        · rename_i h0
          refine ⟨b1, ms, ts, ps, k - 1, by rw [kk h0]; rfl, hb1, hs9, by omega, fun b2 l hb2 hl2 hp => ⟨rfl, ?_⟩⟩
          simp [seq_def, sIf, sRet, sRetN, sAsg, sPar, sPar3, sDrop, sAug, sApp, sAppP, sExt, sIns, sSet, sAugIx, sNext, sBreak, sCont, sRaise, goN, goT, gN, gsNil, gsCons, gT, etP, etE, etAnd, etOr, etNot, tB, tTru, tAndP, tOrP, tNotP, tYesP, pVar, pC, pOp, pUn, paNil, paCons, pTup, pLst, pAndV, pOrV, pNotV, pIf, poNone, poSome, pSl, pRev, pCall, pCB, pTIx, piSeq, eP, eF, pth0, pthS, eRd, eFr, eMv, eaNil, eaCons, eaLate, eTup, eLst, eIx, eOp, eUn, eIf, eCall, eCB, eCBF, eSl, eSlH, eTIx, ePop, eCat, eiSeq, eiRange, eiEnum, dputs, dget, dset, dwipe, getP, getD, setP, getAll, fnEn, startD, opAdd, opSub, opMul, opMod, opDiv, opPow, opNeg, opEq, opNe, opLt, opLe, opGt, opGe, opIsN, opNotN, opIx, opSl, opRev, ipAdd, fLen, fTuple, fList, fInt, fAbs, OV.fz, fzL, nol, nolL, List.map_cons, List.map_nil, List.cons_append, List.nil_append, List.replicate_succ, List.replicate_zero, List.append_nil, List.length_cons, List.length_nil, if_true, if_false, eZ, eFz, goF, frzD, frzO, List.map, fzL_im, eqOk, scalD, deq, l3, hacc]
          have g : gp k (.page s l) := by
            have := gp_page (s := s) (hsp s hsy) hl2 hp
            rwa [show k - 1 + 1 = k by omega] at this
          simpa [pE, kitE] using more (.page s l) b2 _ _ hb2 g
        · simpa [pE, pEL, kitE] using more (.page s []) b1 _ _ hb1 (gp_page0 (hsp s hsy))
      · simp [seq_def, sIf, sRet, sRetN, sAsg, sPar, sPar3, sDrop, sAug, sApp, sAppP, sExt, sIns, sSet, sAugIx, sNext, sBreak, sCont, sRaise, goN, goT, gN, gsNil, gsCons, gT, etP, etE, etAnd, etOr, etNot, tB, tTru, tAndP, tOrP, tNotP, tYesP, pVar, pC, pOp, pUn, paNil, paCons, pTup, pLst, pAndV, pOrV, pNotV, pIf, poNone, poSome, pSl, pRev, pCall, pCB, pTIx, piSeq, eP, eF, pth0, pthS, eRd, eFr, eMv, eaNil, eaCons, eaLate, eTup, eLst, eIx, eOp, eUn, eIf, eCall, eCB, eCBF, eSl, eSlH, eTIx, ePop, eCat, eiSeq, eiRange, eiEnum, dputs, dget, dset, dwipe, getP, getD, setP, getAll, fnEn, startD, opAdd, opSub, opMul, opMod, opDiv, opPow, opNeg, opEq, opNe, opLt, opLe, opGt, opGe, opIsN, opNotN, opIx, opSl, opRev, ipAdd, fLen, fTuple, fList, fInt, fAbs, OV.fz, fzL, nol, nolL, List.map_cons, List.map_nil, List.cons_append, List.nil_append, List.replicate_succ, List.replicate_zero, List.append_nil, List.length_cons, List.length_nil, if_true, if_false, eZ, eFz, goF, frzD, frzO, List.map, fzL_im, eqOk, scalD, deq, kitE, atD, ixD, s2, s8]
        refine ⟨b, _, ms.map D.str, rfl, hb, .inl rfl, ⟨by simpa using hs.1, by simp; omega⟩, fun b1 y hb1 hy => ⟨rfl, ?_⟩⟩
        obtain ⟨m, rfl, hmy⟩ := str_mem hy
        simp [seq_def, sIf, sRet, sRetN, sAsg, sPar, sPar3, sDrop, sAug, sApp, sAppP, sExt, sIns, sSet, sAugIx, sNext, sBreak, sCont, sRaise, goN, goT, gN, gsNil, gsCons, gT, etP, etE, etAnd, etOr, etNot, tB, tTru, tAndP, tOrP, tNotP, tYesP, pVar, pC, pOp, pUn, paNil, paCons, pTup, pLst, pAndV, pOrV, pNotV, pIf, poNone, poSome, pSl, pRev, pCall, pCB, pTIx, piSeq, eP, eF, pth0, pthS, eRd, eFr, eMv, eaNil, eaCons, eaLate, eTup, eLst, eIx, eOp, eUn, eIf, eCall, eCB, eCBF, eSl, eSlH, eTIx, ePop, eCat, eiSeq, eiRange, eiEnum, dputs, dget, dset, dwipe, getP, getD, setP, getAll, fnEn, startD, opAdd, opSub, opMul, opMod, opDiv, opPow, opNeg, opEq, opNe, opLt, opLe, opGt, opGe, opIsN, opNotN, opIx, opSl, opRev, ipAdd, fLen, fTuple, fList, fInt, fAbs, OV.fz, fzL, nol, nolL, List.map_cons, List.map_nil, List.cons_append, List.nil_append, List.replicate_succ, List.replicate_zero, List.append_nil, List.length_cons, List.length_nil, if_true, if_false, eZ, eFz, goF, frzD, frzO, List.map, fzL_im, eqOk, scalD, deq, l3, hacc, atD, ixD]
        refine ⟨b1, ts, rfl, hb1, hs.2.2.1, fun b2 ss hb2 hss _ => ⟨rfl, ?_⟩⟩
        simp [seq_def, sIf, sRet, sRetN, sAsg, sPar, sPar3, sDrop, sAug, sApp, sAppP, sExt, sIns, sSet, sAugIx, sNext, sBreak, sCont, sRaise, goN, goT, gN, gsNil, gsCons, gT, etP, etE, etAnd, etOr, etNot, tB, tTru, tAndP, tOrP, tNotP, tYesP, pVar, pC, pOp, pUn, paNil, paCons, pTup, pLst, pAndV, pOrV, pNotV, pIf, poNone, poSome, pSl, pRev, pCall, pCB, pTIx, piSeq, eP, eF, pth0, pthS, eRd, eFr, eMv, eaNil, eaCons, eaLate, eTup, eLst, eIx, eOp, eUn, eIf, eCall, eCB, eCBF, eSl, eSlH, eTIx, ePop, eCat, eiSeq, eiRange, eiEnum, dputs, dget, dset, dwipe, getP, getD, setP, getAll, fnEn, startD, opAdd, opSub, opMul, opMod, opDiv, opPow, opNeg, opEq, opNe, opLt, opLe, opGt, opGe, opIsN, opNotN, opIx, opSl, opRev, ipAdd, fLen, fTuple, fList, fInt, fAbs, OV.fz, fzL, nol, nolL, List.map_cons, List.map_nil, List.cons_append, List.nil_append, List.replicate_succ, List.replicate_zero, List.append_nil, List.length_cons, List.length_nil, if_true, if_false, eZ, eFz, goF, frzD, frzO, List.map, fzL_im, eqOk, scalD, deq, l3, hacc]
        refine ⟨b2, _, _, rfl, hb2, .inr rfl, ⟨by simp, by simp⟩, fun b3 z hb3 hz => ⟨rfl, ?_⟩⟩
        simp at hz
        simp [seq_def, sIf, sRet, sRetN, sAsg, sPar, sPar3, sDrop, sAug, sApp, sAppP, sExt, sIns, sSet, sAugIx, sNext, sBreak, sCont, sRaise, goN, goT, gN, gsNil, gsCons, gT, etP, etE, etAnd, etOr, etNot, tB, tTru, tAndP, tOrP, tNotP, tYesP, pVar, pC, pOp, pUn, paNil, paCons, pTup, pLst, pAndV, pOrV, pNotV, pIf, poNone, poSome, pSl, pRev, pCall, pCB, pTIx, piSeq, eP, eF, pth0, pthS, eRd, eFr, eMv, eaNil, eaCons, eaLate, eTup, eLst, eIx, eOp, eUn, eIf, eCall, eCB, eCBF, eSl, eSlH, eTIx, ePop, eCat, eiSeq, eiRange, eiEnum, dputs, dget, dset, dwipe, getP, getD, setP, getAll, fnEn, startD, opAdd, opSub, opMul, opMod, opDiv, opPow, opNeg, opEq, opNe, opLt, opLe, opGt, opGe, opIsN, opNotN, opIx, opSl, opRev, ipAdd, fLen, fTuple, fList, fInt, fAbs, OV.fz, fzL, nol, nolL, List.map_cons, List.map_nil, List.cons_append, List.nil_append, List.replicate_succ, List.replicate_zero, List.append_nil, List.length_cons, List.length_nil, if_true, if_false, eZ, eFz, goF, frzD, frzO, List.map, fzL_im, eqOk, scalD, deq, l3, hacc]
        rcases hz with rfl | rfl
        · simpa [pE, kitE] using more (.apply m none) b3 _ _ hb3 (gp_app (hsm m hmy) nofun)
        · simpa [pE, kitE] using more (.apply m (some ss)) b3 _ _ hb3 (gp_app (hsm m hmy) fun ts e t mt => by cases e; exact hst t (hss t mt))
      · simp [seq_def, sIf, sRet, sRetN, sAsg, sPar, sPar3, sDrop, sAug, sApp, sAppP, sExt, sIns, sSet, sAugIx, sNext, sBreak, sCont, sRaise, goN, goT, gN, gsNil, gsCons, gT, etP, etE, etAnd, etOr, etNot, tB, tTru, tAndP, tOrP, tNotP, tYesP, pVar, pC, pOp, pUn, paNil, paCons, pTup, pLst, pAndV, pOrV, pNotV, pIf, poNone, poSome, pSl, pRev, pCall, pCB, pTIx, piSeq, eP, eF, pth0, pthS, eRd, eFr, eMv, eaNil, eaCons, eaLate, eTup, eLst, eIx, eOp, eUn, eIf, eCall, eCB, eCBF, eSl, eSlH, eTIx, ePop, eCat, eiSeq, eiRange, eiEnum, dputs, dget, dset, dwipe, getP, getD, setP, getAll, fnEn, startD, opAdd, opSub, opMul, opMod, opDiv, opPow, opNeg, opEq, opNe, opLt, opLe, opGt, opGe, opIsN, opNotN, opIx, opSl, opRev, ipAdd, fLen, fTuple, fList, fInt, fAbs, OV.fz, fzL, nol, nolL, List.map_cons, List.map_nil, List.cons_append, List.nil_append, List.replicate_succ, List.replicate_zero, List.append_nil, List.length_cons, List.length_nil, if_true, if_false, eZ, eFz, goF, frzD, frzO, List.map, fzL_im, eqOk, scalD, deq, kitE, atD, ixD, s3, s9]
        refine ⟨b, ts, 1, rfl, hb, ⟨hs.2.2.1, hst⟩, by decide, fun b1 t hb1 ht1 ht2 => ⟨rfl, ?_⟩⟩
        simp [seq_def, sIf, sRet, sRetN, sAsg, sPar, sPar3, sDrop, sAug, sApp, sAppP, sExt, sIns, sSet, sAugIx, sNext, sBreak, sCont, sRaise, goN, goT, gN, gsNil, gsCons, gT, etP, etE, etAnd, etOr, etNot, tB, tTru, tAndP, tOrP, tNotP, tYesP, pVar, pC, pOp, pUn, paNil, paCons, pTup, pLst, pAndV, pOrV, pNotV, pIf, poNone, poSome, pSl, pRev, pCall, pCB, pTIx, piSeq, eP, eF, pth0, pthS, eRd, eFr, eMv, eaNil, eaCons, eaLate, eTup, eLst, eIx, eOp, eUn, eIf, eCall, eCB, eCBF, eSl, eSlH, eTIx, ePop, eCat, eiSeq, eiRange, eiEnum, dputs, dget, dset, dwipe, getP, getD, setP, getAll, fnEn, startD, opAdd, opSub, opMul, opMod, opDiv, opPow, opNeg, opEq, opNe, opLt, opLe, opGt, opGe, opIsN, opNotN, opIx, opSl, opRev, ipAdd, fLen, fTuple, fList, fInt, fAbs, OV.fz, fzL, nol, nolL, List.map_cons, List.map_nil, List.cons_append, List.nil_append, List.replicate_succ, List.replicate_zero, List.append_nil, List.length_cons, List.length_nil, if_true, if_false, eZ, eFz, goF, frzD, frzO, List.map, fzL_im, eqOk, scalD, deq, l3, hacc]
        refine ⟨b1, ms, ts, ps, k - 1, by rw [kk h0]; rfl, hb1, hs9, by omega, fun b2 la hb2 hla hpa => ⟨rfl, ?_⟩⟩
        simp [seq_def, sIf, sRet, sRetN, sAsg, sPar, sPar3, sDrop, sAug, sApp, sAppP, sExt, sIns, sSet, sAugIx, sNext, sBreak, sCont, sRaise, goN, goT, gN, gsNil, gsCons, gT, etP, etE, etAnd, etOr, etNot, tB, tTru, tAndP, tOrP, tNotP, tYesP, pVar, pC, pOp, pUn, paNil, paCons, pTup, pLst, pAndV, pOrV, pNotV, pIf, poNone, poSome, pSl, pRev, pCall, pCB, pTIx, piSeq, eP, eF, pth0, pthS, eRd, eFr, eMv, eaNil, eaCons, eaLate, eTup, eLst, eIx, eOp, eUn, eIf, eCall, eCB, eCBF, eSl, eSlH, eTIx, ePop, eCat, eiSeq, eiRange, eiEnum, dputs, dget, dset, dwipe, getP, getD, setP, getAll, fnEn, startD, opAdd, opSub, opMul, opMod, opDiv, opPow, opNeg, opEq, opNe, opLt, opLe, opGt, opGe, opIsN, opNotN, opIx, opSl, opRev, ipAdd, fLen, fTuple, fList, fInt, fAbs, OV.fz, fzL, nol, nolL, List.map_cons, List.map_nil, List.cons_append, List.nil_append, List.replicate_succ, List.replicate_zero, List.append_nil, List.length_cons, List.length_nil, if_true, if_false, eZ, eFz, goF, frzD, frzO, List.map, fzL_im, eqOk, scalD, deq, l3, hacc]
        refine ⟨b2, ms, ts, ps, k - 1, by rw [kk h0]; rfl, hb2, hs9, by omega, fun b3 lb hb3 hlb hpb => ⟨rfl, ?_⟩⟩
        simp [seq_def, sIf, sRet, sRetN, sAsg, sPar, sPar3, sDrop, sAug, sApp, sAppP, sExt, sIns, sSet, sAugIx, sNext, sBreak, sCont, sRaise, goN, goT, gN, gsNil, gsCons, gT, etP, etE, etAnd, etOr, etNot, tB, tTru, tAndP, tOrP, tNotP, tYesP, pVar, pC, pOp, pUn, paNil, paCons, pTup, pLst, pAndV, pOrV, pNotV, pIf, poNone, poSome, pSl, pRev, pCall, pCB, pTIx, piSeq, eP, eF, pth0, pthS, eRd, eFr, eMv, eaNil, eaCons, eaLate, eTup, eLst, eIx, eOp, eUn, eIf, eCall, eCB, eCBF, eSl, eSlH, eTIx, ePop, eCat, eiSeq, eiRange, eiEnum, dputs, dget, dset, dwipe, getP, getD, setP, getAll, fnEn, startD, opAdd, opSub, opMul, opMod, opDiv, opPow, opNeg, opEq, opNe, opLt, opLe, opGt, opGe, opIsN, opNotN, opIx, opSl, opRev, ipAdd, fLen, fTuple, fList, fInt, fAbs, OV.fz, fzL, nol, nolL, List.map_cons, List.map_nil, List.cons_append, List.nil_append, List.replicate_succ, List.replicate_zero, List.append_nil, List.length_cons, List.length_nil, if_true, if_false, eZ, eFz, goF, frzD, frzO, List.map, fzL_im, eqOk, scalD, deq, l4, hacc]
        have g : gp k (.iff t la lb) := by
          have := gp_if ⟨ht1, ht2⟩ hla hlb hpa hpb
          rwa [show k - 1 + 1 = k by omega] at this
        simpa [pE, kitE] using more (.iff t la lb) b3 _ _ hb3 g
    simp [seq_def, sIf, sRet, sRetN, sAsg, sPar, sPar3, sDrop, sAug, sApp, sAppP, sExt, sIns, sSet, sAugIx, sNext, sBreak, sCont, sRaise, goN, goT, gN, gsNil, gsCons, gT, etP, etE, etAnd, etOr, etNot, tB, tTru, tAndP, tOrP, tNotP, tYesP, pVar, pC, pOp, pUn, paNil, paCons, pTup, pLst, pAndV, pOrV, pNotV, pIf, poNone, poSome, pSl, pRev, pCall, pCB, pTIx, piSeq, eP, eF, pth0, pthS, eRd, eFr, eMv, eaNil, eaCons, eaLate, eTup, eLst, eIx, eOp, eUn, eIf, eCall, eCB, eCBF, eSl, eSlH, eTIx, ePop, eCat, eiSeq, eiRange, eiEnum, dputs, dget, dset, dwipe, getP, getD, setP, getAll, fnEn, startD, opAdd, opSub, opMul, opMod, opDiv, opPow, opNeg, opEq, opNe, opLt, opLe, opGt, opGe, opIsN, opNotN, opIx, opSl, opRev, ipAdd, fLen, fTuple, fList, fInt, fAbs, OV.fz, fzL, nol, nolL, List.map_cons, List.map_nil, List.cons_append, List.nil_append, List.replicate_succ, List.replicate_zero, List.append_nil, List.length_cons, List.length_nil, if_true, if_false, eZ, eFz, goF, frzD, frzO, List.map, fzL_im, eqOk, scalD, deq, l5, l2]
    split
    · rename_i hk0
      refine ⟨b, _, _, rfl, hb, .inr rfl, ⟨by decide, by decide⟩, fun b' x hb' hx => ⟨rfl, ?_⟩⟩
      simp at hx
      refine words x b' hb' ?_
      rcases hx with h | h | h | h | h <;> simp [h, hk0]
    · refine ⟨b, _, _, rfl, hb, .inr rfl, ⟨by decide, by decide⟩, fun b' x hb' hx => ⟨rfl, ?_⟩⟩
      simp at hx
      refine words x b' hb' ?_
      rcases hx with h | h <;> simp [h]
theorem vc_parts (n : Nat) (os : List OV) (Qd : OV → List OV → Prop) (Xd : Xc → Prop) (h : fdParts (n + 1) os Qd Xd) : s__law_parts fdSome (fdParts n) fdTags (fdTest 2) (fnEn [0] Qd Xd) (startD 6 os) := by
  obtain ⟨b, ms, ts, ps, k, rfl, hb, hs, hk, hQ⟩ := h
  have l4 : 4 ≤ line := by decide
  simp [s__law_parts, sFor, seq_def, sIf, sRet, sRetN, sAsg, sPar, sPar3, sDrop, sAug, sApp, sAppP, sExt, sIns, sSet, sAugIx, sNext, sBreak, sCont, sRaise, goN, goT, gN, gsNil, gsCons, gT, etP, etE, etAnd, etOr, etNot, tB, tTru, tAndP, tOrP, tNotP, tYesP, pVar, pC, pOp, pUn, paNil, paCons, pTup, pLst, pAndV, pOrV, pNotV, pIf, poNone, poSome, pSl, pRev, pCall, pCB, pTIx, piSeq, eP, eF, pth0, pthS, eRd, eFr, eMv, eaNil, eaCons, eaLate, eTup, eLst, eIx, eOp, eUn, eIf, eCall, eCB, eCBF, eSl, eSlH, eTIx, ePop, eCat, eiSeq, eiRange, eiEnum, dputs, dget, dset, dwipe, getP, getD, setP, getAll, fnEn, startD, opAdd, opSub, opMul, opMod, opDiv, opPow, opNeg, opEq, opNe, opLt, opLe, opGt, opGe, opIsN, opNotN, opIx, opSl, opRev, ipAdd, fLen, fTuple, fList, fInt, fAbs, OV.fz, fzL, nol, nolL, List.map_cons, List.map_nil, List.cons_append, List.nil_append, List.replicate_succ, List.replicate_zero, List.append_nil, List.length_cons, List.length_nil, if_true, if_false, eZ, eFz, goF, frzD, frzO, List.map, fzL_im, eqOk, scalD, deq, l4]
  refine ⟨b, _, _, rfl, hb, .inr rfl, ⟨by decide, by decide⟩, fun b' x hb' hx => ⟨rfl, ?_⟩⟩
  have fin : ∀ v : Int, 0 ≤ v → v ≤ 2 → forL (gN 4) (L1__law_parts fdSome (fdParts n) fdTags (fdTest 2)) { fnEn [0] Qd Xd with nx := sRet (eP (pCB fTuple (paCons (pVar 3) paNil))) (fnEn [0] Qd Xd) } (rangeD 0 v.toNat) [some b', some (.im (kitE ms ts ps)), some (.im (.int k)), some (.lst []), none, none] := fun v h0 h2 => by
    refine parts_loop n ms ts ps k hs hk _ (rangeD 0 v.toNat) [] b' none none hb' (by simp [rangeD]; omega) (by simp) fun b2 l x4 x5 hb2 hl2 hp => ?_
    simp [seq_def, sIf, sRet, sRetN, sAsg, sPar, sPar3, sDrop, sAug, sApp, sAppP, sExt, sIns, sSet, sAugIx, sNext, sBreak, sCont, sRaise, goN, goT, gN, gsNil, gsCons, gT, etP, etE, etAnd, etOr, etNot, tB, tTru, tAndP, tOrP, tNotP, tYesP, pVar, pC, pOp, pUn, paNil, paCons, pTup, pLst, pAndV, pOrV, pNotV, pIf, poNone, poSome, pSl, pRev, pCall, pCB, pTIx, piSeq, eP, eF, pth0, pthS, eRd, eFr, eMv, eaNil, eaCons, eaLate, eTup, eLst, eIx, eOp, eUn, eIf, eCall, eCB, eCBF, eSl, eSlH, eTIx, ePop, eCat, eiSeq, eiRange, eiEnum, dputs, dget, dset, dwipe, getP, getD, setP, getAll, fnEn, startD, opAdd, opSub, opMul, opMod, opDiv, opPow, opNeg, opEq, opNe, opLt, opLe, opGt, opGe, opIsN, opNotN, opIx, opSl, opRev, ipAdd, fLen, fTuple, fList, fInt, fAbs, OV.fz, fzL, nol, nolL, List.map_cons, List.map_nil, List.cons_append, List.nil_append, List.replicate_succ, List.replicate_zero, List.append_nil, List.length_cons, List.length_nil, if_true, if_false, eZ, eFz, goF, frzD, frzO, List.map, fzL_im, eqOk, scalD, deq, fz_parts, nol_parts]
    simpa [pEL_map] using hQ b2 l hb2 hl2 hp
  simp at hx
  rcases hx with rfl | rfl | rfl
  · exact ⟨⟨by decide, by decide⟩, fin 0 (by decide) (by decide)⟩
  · exact ⟨⟨by decide, by decide⟩, fin 1 (by decide) (by decide)⟩
  · exact ⟨⟨by decide, by decide⟩, fin 2 (by decide) (by decide)⟩
end G66
namespace G66
open PySem DL
def gl (l : List Part) : Prop := l.length ≤ 2 ∧ ∀ p ∈ l, gp 2 p
theorem gl_ok {l : List Part} (h : gl l) : pDL l < 20 ∧ (preL l).length ≤ 10000 ∧ (∀ q ∈ preL l, ∀ t a b, q = .iff t a b → tD t < 20 ∧ tW t = true) ∧ ∀ q ∈ preL l, pG q := by
  obtain ⟨h1, h2, h3⟩ := gp_list h.1 h.2
  have : wid 2 = 21 := rfl
  exact ⟨by omega, by omega, fun q m t a b e => ⟨by have := (pG_iff (h3 q m) t a b e).1; omega, (pG_iff (h3 q m) t a b e).2⟩, h3⟩
theorem gl_take {l : List Part} (h : gl l) : gl (l.take 1) := ⟨by simp; omega, fun p m => h.2 p (List.mem_of_mem_take m)⟩
theorem gl_nil : gl [] := ⟨by simp, by simp⟩
theorem cut_one (l : List Part) : cutD (pEL l) none (some 1) = pEL (l.take 1) := by
  rw [pEL_map, pEL_map, List.map_take]
  simp [cutD, sIxD]
abbrev kit2 (ms ts : List Str) : D := kitE ms ts ["p", "q"]
/-- a rule that a law draws -/
def gr (ts : List Str) (r : Rule) : Prop := (r.1 = "m" ∨ r.1 = "n") ∧ r.2.1 ∈ ts ∧ gl r.2.2
theorem tpl_inner (ms ts0 : List Str) (m : Str) (hm : m = "m" ∨ m = "n") (hms : (0 < ms.length ∧ ms.length ≤ 2) ∧ ∀ m ∈ ms, m = "m" ∨ m = "n") (ht0 : ts0.length ≤ 100 ∧ ∀ t ∈ ts0, okS t) (E : En) : ∀ (ts : List Str) (acc : List Rule) (b : OV) (x5 x6 : Option OV), bagOk b → (∀ t ∈ ts, t ∈ ts0) → (∀ r ∈ acc, gr ts0 r) → acc.length + ts.length ≤ 1000 →
    (∀ (b' : OV) (acc' : List Rule) (x5 x6 : Option OV), bagOk b' → (∀ r ∈ acc', gr ts0 r) → acc'.length ≤ acc.length + ts.length → E.nx [some b', some (.im (.tup (ts0.map .str))), some (.im (.tup (ms.map .str))), some (.lst (acc'.map fun r => .im (rE r))), some (.im (.str m)), x5, x6]) →
    forL (gN 5) (L1__law_template fdTake (fdParts 3) fdMany) E (ts.map .str) [some b, some (.im (.tup (ts0.map .str))), some (.im (.tup (ms.map .str))), some (.lst (acc.map fun r => .im (rE r))), some (.im (.str m)), x5, x6]
  | [], acc, b, x5, x6, hb, ht, ha, hl, h => h b acc x5 x6 hb ha (by simp)
  | t :: ts, acc, b, x5, x6, hb, ht, ha, hl, h => by
    simp only [List.length_cons] at hl h
    have hacc : acc.length < line := by show _ < 16777216; omega
    have l2 : 2 ≤ line := by decide
    have l3 : 3 ≤ line := by decide
    rw [List.map_cons]
    refine for_st fun N hN => ?_
    have go : ∀ (acc2 : List Rule) (b' : OV) (x5 x6 : Option OV), bagOk b' → (∀ r ∈ acc2, gr ts0 r) → acc2.length ≤ acc.length + 1 → N [some b', some (.im (.tup (ts0.map .str))), some (.im (.tup (ms.map .str))), some (.lst (acc2.map fun r => .im (rE r))), some (.im (.str m)), x5, x6] := fun acc2 b' x5 x6 hb' ha2 hl2 => by
      rw [hN]
      exact tpl_inner ms ts0 m hm hms ht0 E ts acc2 b' x5 x6 hb' (fun t m => ht t (List.mem_cons_of_mem _ m)) ha2 (by omega) fun b2 acc3 x5 x6 hb2 h3 hl3 => h b2 acc3 x5 x6 hb2 h3 (by omega)
    have add : ∀ (l : List Part) (b' : OV) (x5 x6 : Option OV), bagOk b' → gl l → N [some b', some (.im (.tup (ts0.map .str))), some (.im (.tup (ms.map .str))), some (.lst ((acc.map fun r => .im (rE r)) ++ [.im (rE (m, t, l))])), some (.im (.str m)), x5, x6] := fun l b' x5 x6 hb' hg => by
      have := go (acc ++ [(m, t, l)]) b' x5 x6 hb' (fun r mr => (List.mem_append.mp mr).elim (ha r) fun mr => by rw [List.mem_singleton.mp mr]; exact ⟨hm, ht t List.mem_cons_self, hg⟩) (by simp)
      simpa using this
    show L1__law_template _ _ _ _ _
    simp [L1__law_template, seq_def, sIf, sRet, sRetN, sAsg, sPar, sPar3, sDrop, sAug, sApp, sAppP, sExt, sIns, sSet, sAugIx, sNext, sBreak, sCont, sRaise, goN, goT, gN, gsNil, gsCons, gT, etP, etE, etAnd, etOr, etNot, tB, tTru, tAndP, tOrP, tNotP, tYesP, pVar, pC, pOp, pUn, paNil, paCons, pTup, pLst, pAndV, pOrV, pNotV, pIf, poNone, poSome, pSl, pRev, pCall, pCB, pTIx, piSeq, eP, eF, pth0, pthS, eRd, eFr, eMv, eaNil, eaCons, eaLate, eTup, eLst, eIx, eOp, eUn, eIf, eCall, eCB, eCBF, eSl, eSlH, eTIx, ePop, eCat, eiSeq, eiRange, eiEnum, dputs, dget, dset, dwipe, getP, getD, setP, getAll, fnEn, startD, opAdd, opSub, opMul, opMod, opDiv, opPow, opNeg, opEq, opNe, opLt, opLe, opGt, opGe, opIsN, opNotN, opIx, opSl, opRev, ipAdd, fLen, fTuple, fList, fInt, fAbs, OV.fz, fzL, nol, nolL, List.map_cons, List.map_nil, List.cons_append, List.nil_append, List.replicate_succ, List.replicate_zero, List.append_nil, List.length_cons, List.length_nil, if_true, if_false, eZ, eFz, goF, frzD, frzO, List.map, fzL_im, eqOk, scalD, deq]
    refine ⟨b, 5, rfl, hb, ⟨by decide, by decide⟩, fun b1 v hb1 hv0 hv1 => ⟨rfl, ?_⟩⟩
    simp [seq_def, sIf, sRet, sRetN, sAsg, sPar, sPar3, sDrop, sAug, sApp, sAppP, sExt, sIns, sSet, sAugIx, sNext, sBreak, sCont, sRaise, goN, goT, gN, gsNil, gsCons, gT, etP, etE, etAnd, etOr, etNot, tB, tTru, tAndP, tOrP, tNotP, tYesP, pVar, pC, pOp, pUn, paNil, paCons, pTup, pLst, pAndV, pOrV, pNotV, pIf, poNone, poSome, pSl, pRev, pCall, pCB, pTIx, piSeq, eP, eF, pth0, pthS, eRd, eFr, eMv, eaNil, eaCons, eaLate, eTup, eLst, eIx, eOp, eUn, eIf, eCall, eCB, eCBF, eSl, eSlH, eTIx, ePop, eCat, eiSeq, eiRange, eiEnum, dputs, dget, dset, dwipe, getP, getD, setP, getAll, fnEn, startD, opAdd, opSub, opMul, opMod, opDiv, opPow, opNeg, opEq, opNe, opLt, opLe, opGt, opGe, opIsN, opNotN, opIx, opSl, opRev, ipAdd, fLen, fTuple, fList, fInt, fAbs, OV.fz, fzL, nol, nolL, List.map_cons, List.map_nil, List.cons_append, List.nil_append, List.replicate_succ, List.replicate_zero, List.append_nil, List.length_cons, List.length_nil, if_true, if_false, eZ, eFz, goF, frzD, frzO, List.map, fzL_im, eqOk, scalD, deq, l2, l3]
    split
    · refine ⟨b1, ms, ts0, ["p", "q"], 2, rfl, hb1, ⟨⟨hms.1.1, by omega, ht0.1, by decide, by decide⟩, fun m mm => by rcases hms.2 m mm with rfl | rfl <;> decide +kernel, ht0.2, by decide +kernel⟩, by decide, fun b2 l hb2 hl2 hp => ⟨rfl, ?_⟩⟩
      have hg : gl l := ⟨hl2, hp⟩
      obtain ⟨g1, g2, g3, _⟩ := gl_ok hg
      obtain ⟨k1, k2, k3, _⟩ := gl_ok (gl_take hg)
      simp [seq_def, sIf, sRet, sRetN, sAsg, sPar, sPar3, sDrop, sAug, sApp, sAppP, sExt, sIns, sSet, sAugIx, sNext, sBreak, sCont, sRaise, goN, goT, gN, gsNil, gsCons, gT, etP, etE, etAnd, etOr, etNot, tB, tTru, tAndP, tOrP, tNotP, tYesP, pVar, pC, pOp, pUn, paNil, paCons, pTup, pLst, pAndV, pOrV, pNotV, pIf, poNone, poSome, pSl, pRev, pCall, pCB, pTIx, piSeq, eP, eF, pth0, pthS, eRd, eFr, eMv, eaNil, eaCons, eaLate, eTup, eLst, eIx, eOp, eUn, eIf, eCall, eCB, eCBF, eSl, eSlH, eTIx, ePop, eCat, eiSeq, eiRange, eiEnum, dputs, dget, dset, dwipe, getP, getD, setP, getAll, fnEn, startD, opAdd, opSub, opMul, opMod, opDiv, opPow, opNeg, opEq, opNe, opLt, opLe, opGt, opGe, opIsN, opNotN, opIx, opSl, opRev, ipAdd, fLen, fTuple, fList, fInt, fAbs, OV.fz, fzL, nol, nolL, List.map_cons, List.map_nil, List.cons_append, List.nil_append, List.replicate_succ, List.replicate_zero, List.append_nil, List.length_cons, List.length_nil, if_true, if_false, eZ, eFz, goF, frzD, frzO, List.map, fzL_im, eqOk, scalD, deq, l2, l3]
      refine ⟨l, rfl, g1, g2, g3, fun v => ?_⟩
      simp [seq_def, sIf, sRet, sRetN, sAsg, sPar, sPar3, sDrop, sAug, sApp, sAppP, sExt, sIns, sSet, sAugIx, sNext, sBreak, sCont, sRaise, goN, goT, gN, gsNil, gsCons, gT, etP, etE, etAnd, etOr, etNot, tB, tTru, tAndP, tOrP, tNotP, tYesP, pVar, pC, pOp, pUn, paNil, paCons, pTup, pLst, pAndV, pOrV, pNotV, pIf, poNone, poSome, pSl, pRev, pCall, pCB, pTIx, piSeq, eP, eF, pth0, pthS, eRd, eFr, eMv, eaNil, eaCons, eaLate, eTup, eLst, eIx, eOp, eUn, eIf, eCall, eCB, eCBF, eSl, eSlH, eTIx, ePop, eCat, eiSeq, eiRange, eiEnum, dputs, dget, dset, dwipe, getP, getD, setP, getAll, fnEn, startD, opAdd, opSub, opMul, opMod, opDiv, opPow, opNeg, opEq, opNe, opLt, opLe, opGt, opGe, opIsN, opNotN, opIx, opSl, opRev, ipAdd, fLen, fTuple, fList, fInt, fAbs, OV.fz, fzL, nol, nolL, List.map_cons, List.map_nil, List.cons_append, List.nil_append, List.replicate_succ, List.replicate_zero, List.append_nil, List.length_cons, List.length_nil, if_true, if_false, eZ, eFz, goF, frzD, frzO, List.map, fzL_im, eqOk, scalD, deq, l2, l3, cut_one, hacc]
      split
      · exact add l b2 _ _ hb2 hg
      · refine ⟨l.take 1, rfl, k1, k2, k3, fun v => ?_⟩
        simp [seq_def, sIf, sRet, sRetN, sAsg, sPar, sPar3, sDrop, sAug, sApp, sAppP, sExt, sIns, sSet, sAugIx, sNext, sBreak, sCont, sRaise, goN, goT, gN, gsNil, gsCons, gT, etP, etE, etAnd, etOr, etNot, tB, tTru, tAndP, tOrP, tNotP, tYesP, pVar, pC, pOp, pUn, paNil, paCons, pTup, pLst, pAndV, pOrV, pNotV, pIf, poNone, poSome, pSl, pRev, pCall, pCB, pTIx, piSeq, eP, eF, pth0, pthS, eRd, eFr, eMv, eaNil, eaCons, eaLate, eTup, eLst, eIx, eOp, eUn, eIf, eCall, eCB, eCBF, eSl, eSlH, eTIx, ePop, eCat, eiSeq, eiRange, eiEnum, dputs, dget, dset, dwipe, getP, getD, setP, getAll, fnEn, startD, opAdd, opSub, opMul, opMod, opDiv, opPow, opNeg, opEq, opNe, opLt, opLe, opGt, opGe, opIsN, opNotN, opIx, opSl, opRev, ipAdd, fLen, fTuple, fList, fInt, fAbs, OV.fz, fzL, nol, nolL, List.map_cons, List.map_nil, List.cons_append, List.nil_append, List.replicate_succ, List.replicate_zero, List.append_nil, List.length_cons, List.length_nil, if_true, if_false, eZ, eFz, goF, frzD, frzO, List.map, fzL_im, eqOk, scalD, deq, l2, l3, cut_one, hacc]
        split
        · exact add (l.take 1) b2 _ _ hb2 (gl_take hg)
        · exact add [] b2 _ _ hb2 gl_nil
    · exact go acc b1 _ _ hb1 ha (by omega)
theorem tpl_outer (ms0 ts : List Str) (hms : (0 < ms0.length ∧ ms0.length ≤ 2) ∧ ∀ m ∈ ms0, m = "m" ∨ m = "n") (ht0 : ts.length ≤ 100 ∧ ∀ t ∈ ts, okS t) (E : En) : ∀ (ms : List Str) (acc : List Rule) (b : OV) (x4 x5 x6 : Option OV), bagOk b → (∀ m ∈ ms, m = "m" ∨ m = "n") → (∀ r ∈ acc, gr ts r) → acc.length + ms.length * 100 ≤ 900 →
    (∀ (b' : OV) (acc' : List Rule) (x4 x5 x6 : Option OV), bagOk b' → (∀ r ∈ acc', gr ts r) → acc'.length ≤ acc.length + ms.length * 100 → E.nx [some b', some (.im (.tup (ts.map .str))), some (.im (.tup (ms0.map .str))), some (.lst (acc'.map fun r => .im (rE r))), x4, x5, x6]) →
    forL (gN 4) (L2__law_template fdTake (fdParts 3) fdMany) E (ms.map .str) [some b, some (.im (.tup (ts.map .str))), some (.im (.tup (ms0.map .str))), some (.lst (acc.map fun r => .im (rE r))), x4, x5, x6]
  | [], acc, b, x4, x5, x6, hb, hm, ha, hl, h => h b acc x4 x5 x6 hb ha (by simp)
  | m :: ms, acc, b, x4, x5, x6, hb, hm, ha, hl, h => by
    simp only [List.length_cons] at hl h
    rw [List.map_cons]
    refine for_st fun N hN => ?_
    show L2__law_template _ _ _ _ _
    simp [L2__law_template, sFor, seq_def, sIf, sRet, sRetN, sAsg, sPar, sPar3, sDrop, sAug, sApp, sAppP, sExt, sIns, sSet, sAugIx, sNext, sBreak, sCont, sRaise, goN, goT, gN, gsNil, gsCons, gT, etP, etE, etAnd, etOr, etNot, tB, tTru, tAndP, tOrP, tNotP, tYesP, pVar, pC, pOp, pUn, paNil, paCons, pTup, pLst, pAndV, pOrV, pNotV, pIf, poNone, poSome, pSl, pRev, pCall, pCB, pTIx, piSeq, eP, eF, pth0, pthS, eRd, eFr, eMv, eaNil, eaCons, eaLate, eTup, eLst, eIx, eOp, eUn, eIf, eCall, eCB, eCBF, eSl, eSlH, eTIx, ePop, eCat, eiSeq, eiRange, eiEnum, dputs, dget, dset, dwipe, getP, getD, setP, getAll, fnEn, startD, opAdd, opSub, opMul, opMod, opDiv, opPow, opNeg, opEq, opNe, opLt, opLe, opGt, opGe, opIsN, opNotN, opIx, opSl, opRev, ipAdd, fLen, fTuple, fList, fInt, fAbs, OV.fz, fzL, nol, nolL, List.map_cons, List.map_nil, List.cons_append, List.nil_append, List.replicate_succ, List.replicate_zero, List.append_nil, List.length_cons, List.length_nil, if_true, if_false, eZ, eFz, goF, frzD, frzO, List.map, fzL_im, eqOk, scalD, deq]
    refine tpl_inner ms0 ts m (hm m List.mem_cons_self) hms ht0 _ ts acc b _ _ hb (fun _ m => m) ha (by omega) fun b2 acc2 x5 x6 hb2 h2 hl2 => ?_
    show N _
    rw [hN]
    exact tpl_outer ms0 ts hms ht0 E ms acc2 b2 _ x5 x6 hb2 (fun q mq => hm q (List.mem_cons_of_mem _ mq)) h2 (by omega) fun b3 acc3 x4 x5 x6 hb3 h3 hl3 => h b3 acc3 x4 x5 x6 hb3 h3 (by omega)
def fdTpl : FD := fun os Q _ => ∃ (b : OV) (ts : List Str), os = [b, .im (.tup (ts.map .str))] ∧ bagOk b ∧ (ts.length ≤ 100 ∧ ∀ t ∈ ts, okS t) ∧
  ∀ (b' : OV) (ms : List Str) (rs : List Rule), bagOk b' → (∀ r ∈ rs, gr ts r) → rs.length ≤ 200 → Q (.im (tplE ms rs)) [b']
theorem rules_nol (rs : List Rule) : nolL (rs.map rE) = true := by
  induction rs with
  | nil => rfl
  | cons r rs ih => simp [nolL, nol, pEL_nol, ih]
theorem fz_rules (rs : List Rule) : fzL (rs.map fun r => OV.im (rE r)) = rs.map rE := by rw [fzL_map, List.map_map]; rfl
theorem vc_tpl (os : List OV) (Qd : OV → List OV → Prop) (Xd : Xc → Prop) (h : fdTpl os Qd Xd) : s__law_template fdTake (fdParts 3) fdMany (fnEn [0] Qd Xd) (startD 7 os) := by
  obtain ⟨b, ts, rfl, hb, ht, hQ⟩ := h
  have l2 : 2 ≤ line := by decide
  unfold s__law_template
  refine seq_st fun N hN => ?_
  have fin : ∀ (ms : List Str) (b' : OV), bagOk b' → (0 < ms.length ∧ ms.length ≤ 2) → (∀ m ∈ ms, m = "m" ∨ m = "n") → N [some b', some (.im (.tup (ts.map .str))), some (.im (.tup (ms.map .str))), none, none, none, none] := fun ms b' hb' hms hm => by
    rw [hN]
    simp [sFor, seq_def, sIf, sRet, sRetN, sAsg, sPar, sPar3, sDrop, sAug, sApp, sAppP, sExt, sIns, sSet, sAugIx, sNext, sBreak, sCont, sRaise, goN, goT, gN, gsNil, gsCons, gT, etP, etE, etAnd, etOr, etNot, tB, tTru, tAndP, tOrP, tNotP, tYesP, pVar, pC, pOp, pUn, paNil, paCons, pTup, pLst, pAndV, pOrV, pNotV, pIf, poNone, poSome, pSl, pRev, pCall, pCB, pTIx, piSeq, eP, eF, pth0, pthS, eRd, eFr, eMv, eaNil, eaCons, eaLate, eTup, eLst, eIx, eOp, eUn, eIf, eCall, eCB, eCBF, eSl, eSlH, eTIx, ePop, eCat, eiSeq, eiRange, eiEnum, dputs, dget, dset, dwipe, getP, getD, setP, getAll, fnEn, startD, opAdd, opSub, opMul, opMod, opDiv, opPow, opNeg, opEq, opNe, opLt, opLe, opGt, opGe, opIsN, opNotN, opIx, opSl, opRev, ipAdd, fLen, fTuple, fList, fInt, fAbs, OV.fz, fzL, nol, nolL, List.map_cons, List.map_nil, List.cons_append, List.nil_append, List.replicate_succ, List.replicate_zero, List.append_nil, List.length_cons, List.length_nil, if_true, if_false, eZ, eFz, goF, frzD, frzO, List.map, fzL_im, eqOk, scalD, deq]
    refine tpl_outer ms ts ⟨hms, hm⟩ ht _ ms [] b' _ _ _ hb' hm (by simp) (by simp; omega) fun b2 rs x4 x5 x6 hb2 hr hl => ?_
    simp [seq_def, sIf, sRet, sRetN, sAsg, sPar, sPar3, sDrop, sAug, sApp, sAppP, sExt, sIns, sSet, sAugIx, sNext, sBreak, sCont, sRaise, goN, goT, gN, gsNil, gsCons, gT, etP, etE, etAnd, etOr, etNot, tB, tTru, tAndP, tOrP, tNotP, tYesP, pVar, pC, pOp, pUn, paNil, paCons, pTup, pLst, pAndV, pOrV, pNotV, pIf, poNone, poSome, pSl, pRev, pCall, pCB, pTIx, piSeq, eP, eF, pth0, pthS, eRd, eFr, eMv, eaNil, eaCons, eaLate, eTup, eLst, eIx, eOp, eUn, eIf, eCall, eCB, eCBF, eSl, eSlH, eTIx, ePop, eCat, eiSeq, eiRange, eiEnum, dputs, dget, dset, dwipe, getP, getD, setP, getAll, fnEn, startD, opAdd, opSub, opMul, opMod, opDiv, opPow, opNeg, opEq, opNe, opLt, opLe, opGt, opGe, opIsN, opNotN, opIx, opSl, opRev, ipAdd, fLen, fTuple, fList, fInt, fAbs, OV.fz, fzL, nol, nolL, List.map_cons, List.map_nil, List.cons_append, List.nil_append, List.replicate_succ, List.replicate_zero, List.append_nil, List.length_cons, List.length_nil, if_true, if_false, eZ, eFz, goF, frzD, frzO, List.map, fzL_im, eqOk, scalD, deq, fz_rules, rules_nol, l2]
    simp at hl
    simpa [tplE] using hQ b2 ms rs hb2 hr (by omega)
  simp [seq_def, sIf, sRet, sRetN, sAsg, sPar, sPar3, sDrop, sAug, sApp, sAppP, sExt, sIns, sSet, sAugIx, sNext, sBreak, sCont, sRaise, goN, goT, gN, gsNil, gsCons, gT, etP, etE, etAnd, etOr, etNot, tB, tTru, tAndP, tOrP, tNotP, tYesP, pVar, pC, pOp, pUn, paNil, paCons, pTup, pLst, pAndV, pOrV, pNotV, pIf, poNone, poSome, pSl, pRev, pCall, pCB, pTIx, piSeq, eP, eF, pth0, pthS, eRd, eFr, eMv, eaNil, eaCons, eaLate, eTup, eLst, eIx, eOp, eUn, eIf, eCall, eCB, eCBF, eSl, eSlH, eTIx, ePop, eCat, eiSeq, eiRange, eiEnum, dputs, dget, dset, dwipe, getP, getD, setP, getAll, fnEn, startD, opAdd, opSub, opMul, opMod, opDiv, opPow, opNeg, opEq, opNe, opLt, opLe, opGt, opGe, opIsN, opNotN, opIx, opSl, opRev, ipAdd, fLen, fTuple, fList, fInt, fAbs, OV.fz, fzL, nol, nolL, List.map_cons, List.map_nil, List.cons_append, List.nil_append, List.replicate_succ, List.replicate_zero, List.append_nil, List.length_cons, List.length_nil, if_true, if_false, eZ, eFz, goF, frzD, frzO, List.map, fzL_im, eqOk, scalD, deq, l2]
  refine ⟨b, 2, rfl, hb, ⟨by decide, by decide⟩, fun b1 v hb1 hv0 hv1 => ⟨rfl, ?_⟩⟩
  have hv : v = 0 ∨ v = 1 := by omega
  rcases hv with rfl | rfl
  · simpa [seq_def, sIf, sRet, sRetN, sAsg, sPar, sPar3, sDrop, sAug, sApp, sAppP, sExt, sIns, sSet, sAugIx, sNext, sBreak, sCont, sRaise, goN, goT, gN, gsNil, gsCons, gT, etP, etE, etAnd, etOr, etNot, tB, tTru, tAndP, tOrP, tNotP, tYesP, pVar, pC, pOp, pUn, paNil, paCons, pTup, pLst, pAndV, pOrV, pNotV, pIf, poNone, poSome, pSl, pRev, pCall, pCB, pTIx, piSeq, eP, eF, pth0, pthS, eRd, eFr, eMv, eaNil, eaCons, eaLate, eTup, eLst, eIx, eOp, eUn, eIf, eCall, eCB, eCBF, eSl, eSlH, eTIx, ePop, eCat, eiSeq, eiRange, eiEnum, dputs, dget, dset, dwipe, getP, getD, setP, getAll, fnEn, startD, opAdd, opSub, opMul, opMod, opDiv, opPow, opNeg, opEq, opNe, opLt, opLe, opGt, opGe, opIsN, opNotN, opIx, opSl, opRev, ipAdd, fLen, fTuple, fList, fInt, fAbs, OV.fz, fzL, nol, nolL, List.map_cons, List.map_nil, List.cons_append, List.nil_append, List.replicate_succ, List.replicate_zero, List.append_nil, List.length_cons, List.length_nil, if_true, if_false, eZ, eFz, goF, frzD, frzO, List.map, fzL_im, eqOk, scalD, deq, cutD, sIxD] using fin ["m"] b1 hb1 (by simp) (by simp)
  · simpa [seq_def, sIf, sRet, sRetN, sAsg, sPar, sPar3, sDrop, sAug, sApp, sAppP, sExt, sIns, sSet, sAugIx, sNext, sBreak, sCont, sRaise, goN, goT, gN, gsNil, gsCons, gT, etP, etE, etAnd, etOr, etNot, tB, tTru, tAndP, tOrP, tNotP, tYesP, pVar, pC, pOp, pUn, paNil, paCons, pTup, pLst, pAndV, pOrV, pNotV, pIf, poNone, poSome, pSl, pRev, pCall, pCB, pTIx, piSeq, eP, eF, pth0, pthS, eRd, eFr, eMv, eaNil, eaCons, eaLate, eTup, eLst, eIx, eOp, eUn, eIf, eCall, eCB, eCBF, eSl, eSlH, eTIx, ePop, eCat, eiSeq, eiRange, eiEnum, dputs, dget, dset, dwipe, getP, getD, setP, getAll, fnEn, startD, opAdd, opSub, opMul, opMod, opDiv, opPow, opNeg, opEq, opNe, opLt, opLe, opGt, opGe, opIsN, opNotN, opIx, opSl, opRev, ipAdd, fLen, fTuple, fList, fInt, fAbs, OV.fz, fzL, nol, nolL, List.map_cons, List.map_nil, List.cons_append, List.nil_append, List.replicate_succ, List.replicate_zero, List.append_nil, List.length_cons, List.length_nil, if_true, if_false, eZ, eFz, goF, frzD, frzO, List.map, fzL_im, eqOk, scalD, deq, cutD, sIxD] using fin ["m", "n"] b1 hb1 (by simp) (by simp)
end G66
namespace G66
open PySem DL
inductive Tr where
  | mk (t : Str) (l : List Tr)
mutual
def trE : Tr → D
  | .mk t l => .tup [.str t, .lst (trEL l)]
def trEL : List Tr → List D
  | [] => []
  | t :: l => trE t :: trEL l
end
theorem trEL_map : ∀ l, trEL l = l.map trE
  | [] => rfl
  | t :: l => by simp [trEL, trEL_map l]
mutual
def trD : Tr → Nat
  | .mk _ l => trDL l + 1
def trDL : List Tr → Nat
  | [] => 0
  | t :: l => max (trD t) (trDL l)
end
mutual
/-- the row of a tree: each tag with how many stand below it -/
def flat : Tr → List (Str × Nat)
  | .mk t l => (t, l.length) :: flatL l
def flatL : List Tr → List (Str × Nat)
  | [] => []
  | t :: l => flat t ++ flatL l
end
abbrev nodE (e : Str × Nat) : D := .tup [.str e.1, .int (e.2 : Nat)]
theorem fz_nods (l : List (Str × Nat)) : fzL (l.map fun e => OV.im (nodE e)) = l.map nodE := by rw [fzL_map, List.map_map]; rfl
theorem nods_nol (l : List (Str × Nat)) : nolL (l.map nodE) = true := by
  induction l with
  | nil => rfl
  | cons e l ih => simp [nolL, nol, ih]
def fdFlat (n : Nat) : FD := fun os Q _ => ∃ l : List Tr, os = [.im (.lst (trEL l))] ∧ trDL l < n ∧ (flatL l).length ≤ 10000 ∧ Q (.im (.tup ((flatL l).map nodE))) []
theorem flatL_cons (t : Tr) (l : List Tr) : flatL (t :: l) = flat t ++ flatL l := by simp [flatL]
theorem vc_flat (n : Nat) (os : List OV) (Qd : OV → List OV → Prop) (Xd : Xc → Prop) (h : fdFlat (n + 1) os Qd Xd) : s__law_flat (fdFlat n) (fnEn [] Qd Xd) (startD 4 os) := by
  obtain ⟨l, rfl, hd, hl, hQ⟩ := h
  have l2 : 2 ≤ line := by decide
  have hline : ∀ n : Nat, n ≤ 10000 → n ≤ line := fun n h => Nat.le_trans h (by decide)
  have key : ∀ (l : List Tr) (acc : List (Str × Nat)) (d0 x2 x3 : Option OV) (E : En), trDL l < n + 1 → acc.length + (flatL l).length ≤ 10000 → (∀ x2 x3, E.nx [d0, some (.lst ((acc ++ flatL l).map fun e => .im (nodE e))), x2, x3]) →
      forL (gT 2 (gsCons (gN 2) (gsCons (gN 3) gsNil))) (L1__law_flat (fdFlat n)) E (l.map trE) [d0, some (.lst (acc.map fun e => .im (nodE e))), x2, x3] := fun l => by
    induction l with
    | nil =>
      intro acc d0 x2 x3 E _ _ h
      have := h x2 x3
      simp only [flatL, List.append_nil] at this
      exact this
    | cons t l ih =>
      intro acc d0 x2 x3 E hd hl h
      obtain ⟨t, k⟩ := t
      have hp : trDL k < n := by simp [trDL, trD] at hd; omega
      have hd2 : trDL l < n + 1 := by simp [trDL] at hd; omega
      rw [flatL_cons, List.length_append] at hl
      simp [flat] at hl
      have hacc : acc.length < line := by show _ < 16777216; omega
      rw [List.map_cons]
      refine for_st fun N hN => ?_
      have fin : ∀ (acc2 : List (Str × Nat)) (x2 x3 : Option OV), acc2 = acc ++ flat (.mk t k) → N [d0, some (.lst (acc2.map fun e => .im (nodE e))), x2, x3] := fun acc2 x2 x3 e2 => by
        subst e2
        rw [hN]
        refine ih _ _ _ _ _ hd2 (by simp [flat]; omega) fun x2 x3 => ?_
        have := h x2 x3
        rw [flatL_cons] at this
        simpa using this
      have f := fun x2 x3 => fin (acc ++ ((t, k.length) :: flatL k)) x2 x3 (by simp [flat])
      simp [L1__law_flat, trE, seq_def, sIf, sRet, sRetN, sAsg, sPar, sPar3, sDrop, sAug, sApp, sAppP, sExt, sIns, sSet, sAugIx, sNext, sBreak, sCont, sRaise, goN, goT, gN, gsNil, gsCons, gT, etP, etE, etAnd, etOr, etNot, tB, tTru, tAndP, tOrP, tNotP, tYesP, pVar, pC, pOp, pUn, paNil, paCons, pTup, pLst, pAndV, pOrV, pNotV, pIf, poNone, poSome, pSl, pRev, pCall, pCB, pTIx, piSeq, eP, eF, pth0, pthS, eRd, eFr, eMv, eaNil, eaCons, eaLate, eTup, eLst, eIx, eOp, eUn, eIf, eCall, eCB, eCBF, eSl, eSlH, eTIx, ePop, eCat, eiSeq, eiRange, eiEnum, dputs, dget, dset, dwipe, getP, getD, setP, getAll, fnEn, startD, opAdd, opSub, opMul, opMod, opDiv, opPow, opNeg, opEq, opNe, opLt, opLe, opGt, opGe, opIsN, opNotN, opIx, opSl, opRev, ipAdd, fLen, fTuple, fList, fInt, fAbs, OV.fz, fzL, nol, nolL, List.map_cons, List.map_nil, List.cons_append, List.nil_append, List.replicate_succ, List.replicate_zero, List.append_nil, List.length_cons, List.length_nil, if_true, if_false, eZ, eFz, goF, frzD, frzO, List.map, fzL_im, eqOk, scalD, deq, l2, hacc]
      refine ⟨k, rfl, hp, by omega, rfl, ?_⟩
      simp only []
      refine ⟨hline _ (by simp; omega), ?_⟩
      have f2 := f (some (.im (.str t))) (some (.im (.lst (trEL k))))
      have e3 : (trEL k).length = k.length := by rw [trEL_map, List.length_map]
      simpa [e3, Function.comp_def] using f2
  simp [s__law_flat, sFor, seq_def, sIf, sRet, sRetN, sAsg, sPar, sPar3, sDrop, sAug, sApp, sAppP, sExt, sIns, sSet, sAugIx, sNext, sBreak, sCont, sRaise, goN, goT, gN, gsNil, gsCons, gT, etP, etE, etAnd, etOr, etNot, tB, tTru, tAndP, tOrP, tNotP, tYesP, pVar, pC, pOp, pUn, paNil, paCons, pTup, pLst, pAndV, pOrV, pNotV, pIf, poNone, poSome, pSl, pRev, pCall, pCB, pTIx, piSeq, eP, eF, pth0, pthS, eRd, eFr, eMv, eaNil, eaCons, eaLate, eTup, eLst, eIx, eOp, eUn, eIf, eCall, eCB, eCBF, eSl, eSlH, eTIx, ePop, eCat, eiSeq, eiRange, eiEnum, dputs, dget, dset, dwipe, getP, getD, setP, getAll, fnEn, startD, opAdd, opSub, opMul, opMod, opDiv, opPow, opNeg, opEq, opNe, opLt, opLe, opGt, opGe, opIsN, opNotN, opIx, opSl, opRev, ipAdd, fLen, fTuple, fList, fInt, fAbs, OV.fz, fzL, nol, nolL, List.map_cons, List.map_nil, List.cons_append, List.nil_append, List.replicate_succ, List.replicate_zero, List.append_nil, List.length_cons, List.length_nil, if_true, if_false, eZ, eFz, goF, frzD, frzO, List.map, fzL_im, eqOk, scalD, deq]
  rw [trEL_map]
  refine key l [] _ _ _ _ hd (by simpa using hl) fun x2 x3 => ?_
  simp [seq_def, sIf, sRet, sRetN, sAsg, sPar, sPar3, sDrop, sAug, sApp, sAppP, sExt, sIns, sSet, sAugIx, sNext, sBreak, sCont, sRaise, goN, goT, gN, gsNil, gsCons, gT, etP, etE, etAnd, etOr, etNot, tB, tTru, tAndP, tOrP, tNotP, tYesP, pVar, pC, pOp, pUn, paNil, paCons, pTup, pLst, pAndV, pOrV, pNotV, pIf, poNone, poSome, pSl, pRev, pCall, pCB, pTIx, piSeq, eP, eF, pth0, pthS, eRd, eFr, eMv, eaNil, eaCons, eaLate, eTup, eLst, eIx, eOp, eUn, eIf, eCall, eCB, eCBF, eSl, eSlH, eTIx, ePop, eCat, eiSeq, eiRange, eiEnum, dputs, dget, dset, dwipe, getP, getD, setP, getAll, fnEn, startD, opAdd, opSub, opMul, opMod, opDiv, opPow, opNeg, opEq, opNe, opLt, opLe, opGt, opGe, opIsN, opNotN, opIx, opSl, opRev, ipAdd, fLen, fTuple, fList, fInt, fAbs, OV.fz, fzL, nol, nolL, List.map_cons, List.map_nil, List.cons_append, List.nil_append, List.replicate_succ, List.replicate_zero, List.append_nil, List.length_cons, List.length_nil, if_true, if_false, eZ, eFz, goF, frzD, frzO, List.map, fzL_im, eqOk, scalD, deq, fz_nods, nods_nol]
  simpa using hQ
end G66
namespace G66
open PySem DL
def treeSz : Nat → Nat
  | 0 => 1
  | k + 1 => 1 + 3 * treeSz k
/-- a drawn tree: tags of ts, at most k deep -/
def gTr (ts : List Str) (k : Nat) (t : Tr) : Prop := trD t ≤ k + 1 ∧ (flat t).length ≤ treeSz k ∧ ∀ e ∈ flat t, e.1 ∈ ts
theorem gTr_list {ts : List Str} {k : Nat} : ∀ {l : List Tr}, (∀ t ∈ l, gTr ts k t) → trDL l ≤ k + 1 ∧ (flatL l).length ≤ l.length * treeSz k ∧ ∀ e ∈ flatL l, e.1 ∈ ts
  | [], _ => by simp [trDL, flatL]
  | t :: l, h => by
    obtain ⟨h1, h2, h5⟩ := h t List.mem_cons_self
    obtain ⟨h3, h4, h6⟩ := gTr_list fun u m => h u (List.mem_cons_of_mem _ m)
    refine ⟨by simp only [trDL]; omega, ?_, fun e m => ?_⟩
    · simp only [flatL, List.length_append, List.length_cons, Nat.succ_mul]
      omega
    · simp only [flatL, List.mem_append] at m
      exact m.elim (h5 e) (h6 e)
def fdTree (n : Nat) : FD := fun os Q _ => ∃ (b : OV) (ts : List Str) (k : Nat), os = [b, .im (.tup (ts.map .str)), .im (.int k)] ∧ bagOk b ∧ (0 < ts.length ∧ ts.length ≤ 100) ∧ k < n ∧ ∀ (b' : OV) (t : Tr), bagOk b' → gTr ts k t → Q (.im (trE t)) [b']
theorem fz_trees (l : List Tr) : fzL (l.map fun t => OV.im (trE t)) = l.map trE := by rw [fzL_map, List.map_map]; rfl
theorem vc_tree (n : Nat) (os : List OV) (Qd : OV → List OV → Prop) (Xd : Xc → Prop) (h : fdTree (n + 1) os Qd Xd) : s__law_tree fdSome (fdTree n) (fnEn [0] Qd Xd) (startD 5 os) := by
  obtain ⟨b, ts, k, rfl, hb, ht, hk, hQ⟩ := h
  have l5 : 5 ≤ line := by decide
  have l2 : 2 ≤ line := by decide
  unfold s__law_tree
  refine seq_st fun N hN => asg_st fun M hM => ?_
  have go : ∀ (v : Int) (b : OV), bagOk b → 0 ≤ v → v ≤ 3 → (0 < v → 0 < k) → M (.im (.int v)) [some b, some (.im (.tup (ts.map .str))), some (.im (.int k)), none, none] := fun v b hb h0 h3 hv => by
    subst hM hN
    simp [seq_def, sIf, sRet, sRetN, sAsg, sPar, sPar3, sDrop, sAug, sApp, sAppP, sExt, sIns, sSet, sAugIx, sNext, sBreak, sCont, sRaise, goN, goT, gN, gsNil, gsCons, gT, etP, etE, etAnd, etOr, etNot, tB, tTru, tAndP, tOrP, tNotP, tYesP, pVar, pC, pOp, pUn, paNil, paCons, pTup, pLst, pAndV, pOrV, pNotV, pIf, poNone, poSome, pSl, pRev, pCall, pCB, pTIx, piSeq, eP, eF, pth0, pthS, eRd, eFr, eMv, eaNil, eaCons, eaLate, eTup, eLst, eIx, eOp, eUn, eIf, eCall, eCB, eCBF, eSl, eSlH, eTIx, ePop, eCat, eiSeq, eiRange, eiEnum, dputs, dget, dset, dwipe, getP, getD, setP, getAll, fnEn, startD, opAdd, opSub, opMul, opMod, opDiv, opPow, opNeg, opEq, opNe, opLt, opLe, opGt, opGe, opIsN, opNotN, opIx, opSl, opRev, ipAdd, fLen, fTuple, fList, fInt, fAbs, OV.fz, fzL, nol, nolL, List.map_cons, List.map_nil, List.cons_append, List.nil_append, List.replicate_succ, List.replicate_zero, List.append_nil, List.length_cons, List.length_nil, if_true, if_false, eZ, eFz, goF, frzD, frzO, List.map, fzL_im, eqOk, scalD, deq]
    have fs : fzL (List.map (OV.im ∘ D.str) ts) = ts.map D.str := by rw [fzL_map, List.map_map]; rfl
    rw [fs]
    refine ⟨strs_nol ts, b, _, ts.map D.str, rfl, hb, .inr rfl, ⟨by simpa using ht.1, by simp; omega⟩, fun b1 y hb1 hy => ⟨rfl, ?_⟩⟩
    obtain ⟨s, rfl, hsy⟩ := str_mem hy
    simp [eComp, rngItems, seq_def, sIf, sRet, sRetN, sAsg, sPar, sPar3, sDrop, sAug, sApp, sAppP, sExt, sIns, sSet, sAugIx, sNext, sBreak, sCont, sRaise, goN, goT, gN, gsNil, gsCons, gT, etP, etE, etAnd, etOr, etNot, tB, tTru, tAndP, tOrP, tNotP, tYesP, pVar, pC, pOp, pUn, paNil, paCons, pTup, pLst, pAndV, pOrV, pNotV, pIf, poNone, poSome, pSl, pRev, pCall, pCB, pTIx, piSeq, eP, eF, pth0, pthS, eRd, eFr, eMv, eaNil, eaCons, eaLate, eTup, eLst, eIx, eOp, eUn, eIf, eCall, eCB, eCBF, eSl, eSlH, eTIx, ePop, eCat, eiSeq, eiRange, eiEnum, dputs, dget, dset, dwipe, getP, getD, setP, getAll, fnEn, startD, opAdd, opSub, opMul, opMod, opDiv, opPow, opNeg, opEq, opNe, opLt, opLe, opGt, opGe, opIsN, opNotN, opIx, opSl, opRev, ipAdd, fLen, fTuple, fList, fInt, fAbs, OV.fz, fzL, nol, nolL, List.map_cons, List.map_nil, List.cons_append, List.nil_append, List.replicate_succ, List.replicate_zero, List.append_nil, List.length_cons, List.length_nil, if_true, if_false, eZ, eFz, goF, frzD, frzO, List.map, fzL_im, eqOk, scalD, deq]
    refine ⟨⟨by omega, by omega⟩, by simp [rangeD]; show _ ≤ 16777216; omega, ?_⟩
    refine compE_all (fun δ => ∃ b x, bagOk b ∧ δ = [some b, some (.im (.tup (ts.map .str))), some (.im (.int k)), some (.im (.int v)), x]) (fun o => ∃ t, o = .im (trE t) ∧ gTr ts (k - 1) t) (fun δ ⟨b, x, hb, e⟩ => ⟨b, none, hb, by rw [e]; rfl⟩) _ _ _ (fun d hd δ Q' ⟨b, x, hb, e⟩ hq => ?_) ⟨b1, none, hb1, rfl⟩ fun os δ' hlen hR ⟨b2, x, hb2, e⟩ => ?_
    · have h0k : 0 < k := hv (by
        have : 0 < (rangeD 0 v.toNat).length := List.length_pos_of_mem hd
        simp [rangeD] at this
        omega)
      rw [e]
      simp [eo1__law_tree, seq_def, sIf, sRet, sRetN, sAsg, sPar, sPar3, sDrop, sAug, sApp, sAppP, sExt, sIns, sSet, sAugIx, sNext, sBreak, sCont, sRaise, goN, goT, gN, gsNil, gsCons, gT, etP, etE, etAnd, etOr, etNot, tB, tTru, tAndP, tOrP, tNotP, tYesP, pVar, pC, pOp, pUn, paNil, paCons, pTup, pLst, pAndV, pOrV, pNotV, pIf, poNone, poSome, pSl, pRev, pCall, pCB, pTIx, piSeq, eP, eF, pth0, pthS, eRd, eFr, eMv, eaNil, eaCons, eaLate, eTup, eLst, eIx, eOp, eUn, eIf, eCall, eCB, eCBF, eSl, eSlH, eTIx, ePop, eCat, eiSeq, eiRange, eiEnum, dputs, dget, dset, dwipe, getP, getD, setP, getAll, fnEn, startD, opAdd, opSub, opMul, opMod, opDiv, opPow, opNeg, opEq, opNe, opLt, opLe, opGt, opGe, opIsN, opNotN, opIx, opSl, opRev, ipAdd, fLen, fTuple, fList, fInt, fAbs, OV.fz, fzL, nol, nolL, List.map_cons, List.map_nil, List.cons_append, List.nil_append, List.replicate_succ, List.replicate_zero, List.append_nil, List.length_cons, List.length_nil, if_true, if_false, eZ, eFz, goF, frzD, frzO, List.map, fzL_im, eqOk, scalD, deq]
      exact ⟨b, ts, k - 1, by rw [show ((k - 1 : Nat) : Int) = (k : Int) - 1 by omega], hb, ht, by omega, fun b' t hb' hg => ⟨rfl, by simpa [seq_def, sIf, sRet, sRetN, sAsg, sPar, sPar3, sDrop, sAug, sApp, sAppP, sExt, sIns, sSet, sAugIx, sNext, sBreak, sCont, sRaise, goN, goT, gN, gsNil, gsCons, gT, etP, etE, etAnd, etOr, etNot, tB, tTru, tAndP, tOrP, tNotP, tYesP, pVar, pC, pOp, pUn, paNil, paCons, pTup, pLst, pAndV, pOrV, pNotV, pIf, poNone, poSome, pSl, pRev, pCall, pCB, pTIx, piSeq, eP, eF, pth0, pthS, eRd, eFr, eMv, eaNil, eaCons, eaLate, eTup, eLst, eIx, eOp, eUn, eIf, eCall, eCB, eCBF, eSl, eSlH, eTIx, ePop, eCat, eiSeq, eiRange, eiEnum, dputs, dget, dset, dwipe, getP, getD, setP, getAll, fnEn, startD, opAdd, opSub, opMul, opMod, opDiv, opPow, opNeg, opEq, opNe, opLt, opLe, opGt, opGe, opIsN, opNotN, opIx, opSl, opRev, ipAdd, fLen, fTuple, fList, fInt, fAbs, OV.fz, fzL, nol, nolL, List.map_cons, List.map_nil, List.cons_append, List.nil_append, List.replicate_succ, List.replicate_zero, List.append_nil, List.length_cons, List.length_nil, if_true, if_false, eZ, eFz, goF, frzD, frzO, List.map, fzL_im, eqOk, scalD, deq] using hq (.im (trE t)) _ ⟨t, rfl, hg⟩ ⟨b', _, hb', rfl⟩⟩⟩
    · obtain ⟨l, rfl, hll, hP⟩ := all_map hR
      rw [e, fz_trees]
      simp [rangeD] at hlen
      obtain ⟨g1, g2, g3⟩ := gTr_list hP
      have hin : ∀ e ∈ flat (.mk s l), e.1 ∈ ts := fun e m => by
        simp only [flat, List.mem_cons] at m
        rcases m with rfl | m
        · exact hsy
        · exact g3 e m
      have hg : gTr ts k (.mk s l) := by
        cases k with
        | zero =>
          have hv0 : v = 0 := by
            rcases Int.lt_or_le 0 v with h | h
            · exact absurd (hv h) (by decide)
            · omega
          have : l = [] := by cases l with | nil => rfl | cons a l => simp [hv0] at hlen
          subst this
          exact ⟨by simp [trD, trDL], by simp [flat, flatL, treeSz], hin⟩
        | succ k =>
          have e1 : k + 1 - 1 = k := rfl
          rw [e1] at g1 g2
          refine ⟨by simp only [trD]; omega, ?_, hin⟩
          simp only [flat, List.length_cons, treeSz]
          have : l.length * treeSz k ≤ 3 * treeSz k := Nat.mul_le_mul_right _ (by omega)
          omega
      have := hQ b2 (.mk s l) hb2 hg
      refine ⟨l2, ?_⟩
      simpa [trE, trEL_map, seq_def, sIf, sRet, sRetN, sAsg, sPar, sPar3, sDrop, sAug, sApp, sAppP, sExt, sIns, sSet, sAugIx, sNext, sBreak, sCont, sRaise, goN, goT, gN, gsNil, gsCons, gT, etP, etE, etAnd, etOr, etNot, tB, tTru, tAndP, tOrP, tNotP, tYesP, pVar, pC, pOp, pUn, paNil, paCons, pTup, pLst, pAndV, pOrV, pNotV, pIf, poNone, poSome, pSl, pRev, pCall, pCB, pTIx, piSeq, eP, eF, pth0, pthS, eRd, eFr, eMv, eaNil, eaCons, eaLate, eTup, eLst, eIx, eOp, eUn, eIf, eCall, eCB, eCBF, eSl, eSlH, eTIx, ePop, eCat, eiSeq, eiRange, eiEnum, dputs, dget, dset, dwipe, getP, getD, setP, getAll, fnEn, startD, opAdd, opSub, opMul, opMod, opDiv, opPow, opNeg, opEq, opNe, opLt, opLe, opGt, opGe, opIsN, opNotN, opIx, opSl, opRev, ipAdd, fLen, fTuple, fList, fInt, fAbs, OV.fz, fzL, nol, nolL, List.map_cons, List.map_nil, List.cons_append, List.nil_append, List.replicate_succ, List.replicate_zero, List.append_nil, List.length_cons, List.length_nil, if_true, if_false, eZ, eFz, goF, frzD, frzO, List.map, fzL_im, eqOk, scalD, deq] using this
  simp [seq_def, sIf, sRet, sRetN, sAsg, sPar, sPar3, sDrop, sAug, sApp, sAppP, sExt, sIns, sSet, sAugIx, sNext, sBreak, sCont, sRaise, goN, goT, gN, gsNil, gsCons, gT, etP, etE, etAnd, etOr, etNot, tB, tTru, tAndP, tOrP, tNotP, tYesP, pVar, pC, pOp, pUn, paNil, paCons, pTup, pLst, pAndV, pOrV, pNotV, pIf, poNone, poSome, pSl, pRev, pCall, pCB, pTIx, piSeq, eP, eF, pth0, pthS, eRd, eFr, eMv, eaNil, eaCons, eaLate, eTup, eLst, eIx, eOp, eUn, eIf, eCall, eCB, eCBF, eSl, eSlH, eTIx, ePop, eCat, eiSeq, eiRange, eiEnum, dputs, dget, dset, dwipe, getP, getD, setP, getAll, fnEn, startD, opAdd, opSub, opMul, opMod, opDiv, opPow, opNeg, opEq, opNe, opLt, opLe, opGt, opGe, opIsN, opNotN, opIx, opSl, opRev, ipAdd, fLen, fTuple, fList, fInt, fAbs, OV.fz, fzL, nol, nolL, List.map_cons, List.map_nil, List.cons_append, List.nil_append, List.replicate_succ, List.replicate_zero, List.append_nil, List.length_cons, List.length_nil, if_true, if_false, eZ, eFz, goF, frzD, frzO, List.map, fzL_im, eqOk, scalD, deq, l5]
  split
  · rename_i hk0
    refine ⟨b, _, _, rfl, hb, .inr rfl, ⟨by decide, by decide⟩, fun b' x hb' hx => ⟨rfl, ?_⟩⟩
    simp at hx
    rcases hx with rfl | rfl | rfl | rfl <;> exact go _ b' hb' (by decide) (by decide) fun _ => hk0
  · exact go 0 b hb (by decide) (by decide) fun h => absurd h (by decide)
end G66
namespace G66
open PySem DL
structure M4 where
  a : Int
  b : Int
  c : Int
  d : Int
abbrev mE (m : M4) : D := .tup [.int m.a, .int m.b, .int m.c, .int m.d]
def M4.mul (x y : M4) : M4 := ⟨x.a * y.a + x.b * y.c, x.a * y.b + x.b * y.d, x.c * y.a + x.d * y.c, x.c * y.b + x.d * y.d⟩
/-- small entries -/
def M4.sm (y : M4) : Prop := (-(2 ^ 64) < y.a ∧ y.a < 2 ^ 64) ∧ (-(2 ^ 64) < y.b ∧ y.b < 2 ^ 64) ∧ (-(2 ^ 64) < y.c ∧ y.c < 2 ^ 64) ∧ (-(2 ^ 64) < y.d ∧ y.d < 2 ^ 64)
def fdTimes : FD := fun os Q _ => ∃ x y : M4, os = [.im (mE x), .im (mE y)] ∧ y.sm ∧ Q (.im (mE (x.mul y))) []
theorem vc_times (os : List OV) (Qd : OV → List OV → Prop) (Xd : Xc → Prop) (h : fdTimes os Qd Xd) : s_times (fnEn [] Qd Xd) (startD 10 os) := by
  obtain ⟨x, y, rfl, ⟨ha, hb, hc, hd⟩, hQ⟩ := h
  have l4 : 4 ≤ line := by decide
  have ma : ∀ i, mulOk i y.a := fun i => .inr ha
  have mb : ∀ i, mulOk i y.b := fun i => .inr hb
  have mc : ∀ i, mulOk i y.c := fun i => .inr hc
  have md : ∀ i, mulOk i y.d := fun i => .inr hd
  simp [s_times, seq_def, sIf, sRet, sRetN, sAsg, sPar, sPar3, sDrop, sAug, sApp, sAppP, sExt, sIns, sSet, sAugIx, sNext, sBreak, sCont, sRaise, goN, goT, gN, gsNil, gsCons, gT, etP, etE, etAnd, etOr, etNot, tB, tTru, tAndP, tOrP, tNotP, tYesP, pVar, pC, pOp, pUn, paNil, paCons, pTup, pLst, pAndV, pOrV, pNotV, pIf, poNone, poSome, pSl, pRev, pCall, pCB, pTIx, piSeq, eP, eF, pth0, pthS, eRd, eFr, eMv, eaNil, eaCons, eaLate, eTup, eLst, eIx, eOp, eUn, eIf, eCall, eCB, eCBF, eSl, eSlH, eTIx, ePop, eCat, eiSeq, eiRange, eiEnum, dputs, dget, dset, dwipe, getP, getD, setP, getAll, fnEn, startD, opAdd, opSub, opMul, opMod, opDiv, opPow, opNeg, opEq, opNe, opLt, opLe, opGt, opGe, opIsN, opNotN, opIx, opSl, opRev, ipAdd, fLen, fTuple, fList, fInt, fAbs, OV.fz, fzL, nol, nolL, List.map_cons, List.map_nil, List.cons_append, List.nil_append, List.replicate_succ, List.replicate_zero, List.append_nil, List.length_cons, List.length_nil, if_true, if_false, eZ, eFz, goF, frzD, frzO, List.map, fzL_im, eqOk, scalD, deq, ma, mb, mc, md, l4]
  simpa [M4.mul] using hQ
theorem vc_ltimes (os : List OV) (Qd : OV → List OV → Prop) (Xd : Xc → Prop) (h : fdTimes os Qd Xd) : s__law_times (fnEn [] Qd Xd) (startD 10 os) := by
  obtain ⟨x, y, rfl, ⟨ha, hb, hc, hd⟩, hQ⟩ := h
  have l4 : 4 ≤ line := by decide
  have l2 : 2 ≤ line := by decide
  have ma : ∀ i, mulOk i y.a := fun i => .inr ha
  have mb : ∀ i, mulOk i y.b := fun i => .inr hb
  have mc : ∀ i, mulOk i y.c := fun i => .inr hc
  have md : ∀ i, mulOk i y.d := fun i => .inr hd
  simp [s__law_times, seq_def, sIf, sRet, sRetN, sAsg, sPar, sPar3, sDrop, sAug, sApp, sAppP, sExt, sIns, sSet, sAugIx, sNext, sBreak, sCont, sRaise, goN, goT, gN, gsNil, gsCons, gT, etP, etE, etAnd, etOr, etNot, tB, tTru, tAndP, tOrP, tNotP, tYesP, pVar, pC, pOp, pUn, paNil, paCons, pTup, pLst, pAndV, pOrV, pNotV, pIf, poNone, poSome, pSl, pRev, pCall, pCB, pTIx, piSeq, eP, eF, pth0, pthS, eRd, eFr, eMv, eaNil, eaCons, eaLate, eTup, eLst, eIx, eOp, eUn, eIf, eCall, eCB, eCBF, eSl, eSlH, eTIx, ePop, eCat, eiSeq, eiRange, eiEnum, dputs, dget, dset, dwipe, getP, getD, setP, getAll, fnEn, startD, opAdd, opSub, opMul, opMod, opDiv, opPow, opNeg, opEq, opNe, opLt, opLe, opGt, opGe, opIsN, opNotN, opIx, opSl, opRev, ipAdd, fLen, fTuple, fList, fInt, fAbs, OV.fz, fzL, nol, nolL, List.map_cons, List.map_nil, List.cons_append, List.nil_append, List.replicate_succ, List.replicate_zero, List.append_nil, List.length_cons, List.length_nil, if_true, if_false, eZ, eFz, goF, frzD, frzO, List.map, fzL_im, eqOk, scalD, deq, ma, mb, mc, md, l4, l2]
  simpa [M4.mul] using hQ
def letM (l : Nat) : M4 := ⟨l + 1, l, 1, 1⟩
theorem sm_up : M4.sm ⟨1, 1, 0, 1⟩ := by refine ⟨?_, ?_, ?_, ?_⟩ <;> exact ⟨by decide, by decide⟩
theorem sm_dn : M4.sm ⟨1, 0, 1, 1⟩ := by refine ⟨?_, ?_, ?_, ?_⟩ <;> exact ⟨by decide, by decide⟩
theorem sm_let {l : Nat} (h : l ≤ 100) : (letM l).sm := by
  have : (2 : Int) ^ 64 = 18446744073709551616 := by decide
  refine ⟨?_, ?_, ?_, ?_⟩ <;> simp only [letM] <;> constructor <;> omega
def fdLet : FD := fun os Q _ => ∃ l : Nat, os = [.im (.int l)] ∧ l ≤ 100 ∧ Q (.im (mE (letM l))) []
theorem let_loop (E : En) (d0 : Option OV) : ∀ (ds : List D) (i : Nat) (x : Option OV), (∀ x, E.nx [d0, some (.im (mE ⟨1, (i + ds.length : Nat), 0, 1⟩)), x]) → forL (gN 2) (L1_letter_matrix fdTimes) E ds [d0, some (.im (mE ⟨1, i, 0, 1⟩)), x]
  | [], i, x, h => h x
  | d :: ds, i, x, h => by
    refine for_st fun N hN => ?_
    have f := fun x => let_loop E d0 ds (i + 1) x fun x => by
      have := h x
      simp only [List.length_cons] at this
      rwa [show i + 1 + ds.length = i + (ds.length + 1) by omega]
    rw [← hN] at f
    simp [L1_letter_matrix, k_UP, seq_def, sIf, sRet, sRetN, sAsg, sPar, sPar3, sDrop, sAug, sApp, sAppP, sExt, sIns, sSet, sAugIx, sNext, sBreak, sCont, sRaise, goN, goT, gN, gsNil, gsCons, gT, etP, etE, etAnd, etOr, etNot, tB, tTru, tAndP, tOrP, tNotP, tYesP, pVar, pC, pOp, pUn, paNil, paCons, pTup, pLst, pAndV, pOrV, pNotV, pIf, poNone, poSome, pSl, pRev, pCall, pCB, pTIx, piSeq, eP, eF, pth0, pthS, eRd, eFr, eMv, eaNil, eaCons, eaLate, eTup, eLst, eIx, eOp, eUn, eIf, eCall, eCB, eCBF, eSl, eSlH, eTIx, ePop, eCat, eiSeq, eiRange, eiEnum, dputs, dget, dset, dwipe, getP, getD, setP, getAll, fnEn, startD, opAdd, opSub, opMul, opMod, opDiv, opPow, opNeg, opEq, opNe, opLt, opLe, opGt, opGe, opIsN, opNotN, opIx, opSl, opRev, ipAdd, fLen, fTuple, fList, fInt, fAbs, OV.fz, fzL, nol, nolL, List.map_cons, List.map_nil, List.cons_append, List.nil_append, List.replicate_succ, List.replicate_zero, List.append_nil, List.length_cons, List.length_nil, if_true, if_false, eZ, eFz, goF, frzD, frzO, List.map, fzL_im, eqOk, scalD, deq]
    refine ⟨⟨1, i, 0, 1⟩, ⟨1, 1, 0, 1⟩, rfl, sm_up, rfl, ?_⟩
    have f2 := f (some (.im d))
    simpa [M4.mul, seq_def, sIf, sRet, sRetN, sAsg, sPar, sPar3, sDrop, sAug, sApp, sAppP, sExt, sIns, sSet, sAugIx, sNext, sBreak, sCont, sRaise, goN, goT, gN, gsNil, gsCons, gT, etP, etE, etAnd, etOr, etNot, tB, tTru, tAndP, tOrP, tNotP, tYesP, pVar, pC, pOp, pUn, paNil, paCons, pTup, pLst, pAndV, pOrV, pNotV, pIf, poNone, poSome, pSl, pRev, pCall, pCB, pTIx, piSeq, eP, eF, pth0, pthS, eRd, eFr, eMv, eaNil, eaCons, eaLate, eTup, eLst, eIx, eOp, eUn, eIf, eCall, eCB, eCBF, eSl, eSlH, eTIx, ePop, eCat, eiSeq, eiRange, eiEnum, dputs, dget, dset, dwipe, getP, getD, setP, getAll, fnEn, startD, opAdd, opSub, opMul, opMod, opDiv, opPow, opNeg, opEq, opNe, opLt, opLe, opGt, opGe, opIsN, opNotN, opIx, opSl, opRev, ipAdd, fLen, fTuple, fList, fInt, fAbs, OV.fz, fzL, nol, nolL, List.map_cons, List.map_nil, List.cons_append, List.nil_append, List.replicate_succ, List.replicate_zero, List.append_nil, List.length_cons, List.length_nil, if_true, if_false, eZ, eFz, goF, frzD, frzO, List.map, fzL_im, eqOk, scalD, deq, Int.add_comm] using f2
theorem vc_let (os : List OV) (Qd : OV → List OV → Prop) (Xd : Xc → Prop) (h : fdLet os Qd Xd) : s_letter_matrix fdTimes (fnEn [] Qd Xd) (startD 3 os) := by
  obtain ⟨l, rfl, hl, hQ⟩ := h
  simp [s_letter_matrix, sFor, k_ONE, rngItems, seq_def, sIf, sRet, sRetN, sAsg, sPar, sPar3, sDrop, sAug, sApp, sAppP, sExt, sIns, sSet, sAugIx, sNext, sBreak, sCont, sRaise, goN, goT, gN, gsNil, gsCons, gT, etP, etE, etAnd, etOr, etNot, tB, tTru, tAndP, tOrP, tNotP, tYesP, pVar, pC, pOp, pUn, paNil, paCons, pTup, pLst, pAndV, pOrV, pNotV, pIf, poNone, poSome, pSl, pRev, pCall, pCB, pTIx, piSeq, eP, eF, pth0, pthS, eRd, eFr, eMv, eaNil, eaCons, eaLate, eTup, eLst, eIx, eOp, eUn, eIf, eCall, eCB, eCBF, eSl, eSlH, eTIx, ePop, eCat, eiSeq, eiRange, eiEnum, dputs, dget, dset, dwipe, getP, getD, setP, getAll, fnEn, startD, opAdd, opSub, opMul, opMod, opDiv, opPow, opNeg, opEq, opNe, opLt, opLe, opGt, opGe, opIsN, opNotN, opIx, opSl, opRev, ipAdd, fLen, fTuple, fList, fInt, fAbs, OV.fz, fzL, nol, nolL, List.map_cons, List.map_nil, List.cons_append, List.nil_append, List.replicate_succ, List.replicate_zero, List.append_nil, List.length_cons, List.length_nil, if_true, if_false, eZ, eFz, goF, frzD, frzO, List.map, fzL_im, eqOk, scalD, deq]
  refine ⟨⟨by omega, by omega⟩, ?_⟩
  refine let_loop _ _ (rangeD 0 l) 0 _ fun x => ?_
  simp [k_DOWN, rangeD, seq_def, sIf, sRet, sRetN, sAsg, sPar, sPar3, sDrop, sAug, sApp, sAppP, sExt, sIns, sSet, sAugIx, sNext, sBreak, sCont, sRaise, goN, goT, gN, gsNil, gsCons, gT, etP, etE, etAnd, etOr, etNot, tB, tTru, tAndP, tOrP, tNotP, tYesP, pVar, pC, pOp, pUn, paNil, paCons, pTup, pLst, pAndV, pOrV, pNotV, pIf, poNone, poSome, pSl, pRev, pCall, pCB, pTIx, piSeq, eP, eF, pth0, pthS, eRd, eFr, eMv, eaNil, eaCons, eaLate, eTup, eLst, eIx, eOp, eUn, eIf, eCall, eCB, eCBF, eSl, eSlH, eTIx, ePop, eCat, eiSeq, eiRange, eiEnum, dputs, dget, dset, dwipe, getP, getD, setP, getAll, fnEn, startD, opAdd, opSub, opMul, opMod, opDiv, opPow, opNeg, opEq, opNe, opLt, opLe, opGt, opGe, opIsN, opNotN, opIx, opSl, opRev, ipAdd, fLen, fTuple, fList, fInt, fAbs, OV.fz, fzL, nol, nolL, List.map_cons, List.map_nil, List.cons_append, List.nil_append, List.replicate_succ, List.replicate_zero, List.append_nil, List.length_cons, List.length_nil, if_true, if_false, eZ, eFz, goF, frzD, frzO, List.map, fzL_im, eqOk, scalD, deq]
  refine ⟨⟨1, l, 0, 1⟩, ⟨1, 0, 1, 1⟩, rfl, sm_dn, rfl, ?_⟩
  simpa [M4.mul, letM, seq_def, sIf, sRet, sRetN, sAsg, sPar, sPar3, sDrop, sAug, sApp, sAppP, sExt, sIns, sSet, sAugIx, sNext, sBreak, sCont, sRaise, goN, goT, gN, gsNil, gsCons, gT, etP, etE, etAnd, etOr, etNot, tB, tTru, tAndP, tOrP, tNotP, tYesP, pVar, pC, pOp, pUn, paNil, paCons, pTup, pLst, pAndV, pOrV, pNotV, pIf, poNone, poSome, pSl, pRev, pCall, pCB, pTIx, piSeq, eP, eF, pth0, pthS, eRd, eFr, eMv, eaNil, eaCons, eaLate, eTup, eLst, eIx, eOp, eUn, eIf, eCall, eCB, eCBF, eSl, eSlH, eTIx, ePop, eCat, eiSeq, eiRange, eiEnum, dputs, dget, dset, dwipe, getP, getD, setP, getAll, fnEn, startD, opAdd, opSub, opMul, opMod, opDiv, opPow, opNeg, opEq, opNe, opLt, opLe, opGt, opGe, opIsN, opNotN, opIx, opSl, opRev, ipAdd, fLen, fTuple, fList, fInt, fAbs, OV.fz, fzL, nol, nolL, List.map_cons, List.map_nil, List.cons_append, List.nil_append, List.replicate_succ, List.replicate_zero, List.append_nil, List.length_cons, List.length_nil, if_true, if_false, eZ, eFz, goF, frzD, frzO, List.map, fzL_im, eqOk, scalD, deq, Int.add_comm] using hQ
def wordM : List Nat → M4 → M4
  | [], m => m
  | l :: w, m => wordM w (m.mul (letM l))
abbrev oneM : M4 := ⟨1, 0, 0, 1⟩
def fdWordM : FD := fun os Q _ => ∃ w : List Nat, os = [.im (.tup (w.map fun l => .int (l : Nat)))] ∧ (∀ l ∈ w, l ≤ 100) ∧ Q (.im (mE (wordM w oneM))) []
theorem word_loop (E : En) (d0 : Option OV) : ∀ (w : List Nat) (m : M4) (x : Option OV), (∀ l ∈ w, l ≤ 100) → (∀ x, E.nx [d0, some (.im (mE (wordM w m))), x]) → forL (gN 2) (L1_word_matrix fdTimes fdLet) E (w.map fun l => .int (l : Nat)) [d0, some (.im (mE m)), x]
  | [], m, x, _, h => h x
  | l :: w, m, x, hw, h => by
    rw [List.map_cons]
    refine for_st fun N hN => ?_
    have f := fun x => word_loop E d0 w (m.mul (letM l)) x (fun l m => hw l (List.mem_cons_of_mem _ m)) h
    rw [← hN] at f
    simp [L1_word_matrix, seq_def, sIf, sRet, sRetN, sAsg, sPar, sPar3, sDrop, sAug, sApp, sAppP, sExt, sIns, sSet, sAugIx, sNext, sBreak, sCont, sRaise, goN, goT, gN, gsNil, gsCons, gT, etP, etE, etAnd, etOr, etNot, tB, tTru, tAndP, tOrP, tNotP, tYesP, pVar, pC, pOp, pUn, paNil, paCons, pTup, pLst, pAndV, pOrV, pNotV, pIf, poNone, poSome, pSl, pRev, pCall, pCB, pTIx, piSeq, eP, eF, pth0, pthS, eRd, eFr, eMv, eaNil, eaCons, eaLate, eTup, eLst, eIx, eOp, eUn, eIf, eCall, eCB, eCBF, eSl, eSlH, eTIx, ePop, eCat, eiSeq, eiRange, eiEnum, dputs, dget, dset, dwipe, getP, getD, setP, getAll, fnEn, startD, opAdd, opSub, opMul, opMod, opDiv, opPow, opNeg, opEq, opNe, opLt, opLe, opGt, opGe, opIsN, opNotN, opIx, opSl, opRev, ipAdd, fLen, fTuple, fList, fInt, fAbs, OV.fz, fzL, nol, nolL, List.map_cons, List.map_nil, List.cons_append, List.nil_append, List.replicate_succ, List.replicate_zero, List.append_nil, List.length_cons, List.length_nil, if_true, if_false, eZ, eFz, goF, frzD, frzO, List.map, fzL_im, eqOk, scalD, deq]
    refine ⟨l, rfl, hw l List.mem_cons_self, rfl, ?_⟩
    simp [seq_def, sIf, sRet, sRetN, sAsg, sPar, sPar3, sDrop, sAug, sApp, sAppP, sExt, sIns, sSet, sAugIx, sNext, sBreak, sCont, sRaise, goN, goT, gN, gsNil, gsCons, gT, etP, etE, etAnd, etOr, etNot, tB, tTru, tAndP, tOrP, tNotP, tYesP, pVar, pC, pOp, pUn, paNil, paCons, pTup, pLst, pAndV, pOrV, pNotV, pIf, poNone, poSome, pSl, pRev, pCall, pCB, pTIx, piSeq, eP, eF, pth0, pthS, eRd, eFr, eMv, eaNil, eaCons, eaLate, eTup, eLst, eIx, eOp, eUn, eIf, eCall, eCB, eCBF, eSl, eSlH, eTIx, ePop, eCat, eiSeq, eiRange, eiEnum, dputs, dget, dset, dwipe, getP, getD, setP, getAll, fnEn, startD, opAdd, opSub, opMul, opMod, opDiv, opPow, opNeg, opEq, opNe, opLt, opLe, opGt, opGe, opIsN, opNotN, opIx, opSl, opRev, ipAdd, fLen, fTuple, fList, fInt, fAbs, OV.fz, fzL, nol, nolL, List.map_cons, List.map_nil, List.cons_append, List.nil_append, List.replicate_succ, List.replicate_zero, List.append_nil, List.length_cons, List.length_nil, if_true, if_false, eZ, eFz, goF, frzD, frzO, List.map, fzL_im, eqOk, scalD, deq]
    refine ⟨m, letM l, rfl, sm_let (hw l List.mem_cons_self), rfl, ?_⟩
    simpa [seq_def, sIf, sRet, sRetN, sAsg, sPar, sPar3, sDrop, sAug, sApp, sAppP, sExt, sIns, sSet, sAugIx, sNext, sBreak, sCont, sRaise, goN, goT, gN, gsNil, gsCons, gT, etP, etE, etAnd, etOr, etNot, tB, tTru, tAndP, tOrP, tNotP, tYesP, pVar, pC, pOp, pUn, paNil, paCons, pTup, pLst, pAndV, pOrV, pNotV, pIf, poNone, poSome, pSl, pRev, pCall, pCB, pTIx, piSeq, eP, eF, pth0, pthS, eRd, eFr, eMv, eaNil, eaCons, eaLate, eTup, eLst, eIx, eOp, eUn, eIf, eCall, eCB, eCBF, eSl, eSlH, eTIx, ePop, eCat, eiSeq, eiRange, eiEnum, dputs, dget, dset, dwipe, getP, getD, setP, getAll, fnEn, startD, opAdd, opSub, opMul, opMod, opDiv, opPow, opNeg, opEq, opNe, opLt, opLe, opGt, opGe, opIsN, opNotN, opIx, opSl, opRev, ipAdd, fLen, fTuple, fList, fInt, fAbs, OV.fz, fzL, nol, nolL, List.map_cons, List.map_nil, List.cons_append, List.nil_append, List.replicate_succ, List.replicate_zero, List.append_nil, List.length_cons, List.length_nil, if_true, if_false, eZ, eFz, goF, frzD, frzO, List.map, fzL_im, eqOk, scalD, deq] using f _
theorem vc_wordM (os : List OV) (Qd : OV → List OV → Prop) (Xd : Xc → Prop) (h : fdWordM os Qd Xd) : s_word_matrix fdTimes fdLet (fnEn [] Qd Xd) (startD 3 os) := by
  obtain ⟨w, rfl, hw, hQ⟩ := h
  simp [s_word_matrix, sFor, k_ONE, seq_def, sIf, sRet, sRetN, sAsg, sPar, sPar3, sDrop, sAug, sApp, sAppP, sExt, sIns, sSet, sAugIx, sNext, sBreak, sCont, sRaise, goN, goT, gN, gsNil, gsCons, gT, etP, etE, etAnd, etOr, etNot, tB, tTru, tAndP, tOrP, tNotP, tYesP, pVar, pC, pOp, pUn, paNil, paCons, pTup, pLst, pAndV, pOrV, pNotV, pIf, poNone, poSome, pSl, pRev, pCall, pCB, pTIx, piSeq, eP, eF, pth0, pthS, eRd, eFr, eMv, eaNil, eaCons, eaLate, eTup, eLst, eIx, eOp, eUn, eIf, eCall, eCB, eCBF, eSl, eSlH, eTIx, ePop, eCat, eiSeq, eiRange, eiEnum, dputs, dget, dset, dwipe, getP, getD, setP, getAll, fnEn, startD, opAdd, opSub, opMul, opMod, opDiv, opPow, opNeg, opEq, opNe, opLt, opLe, opGt, opGe, opIsN, opNotN, opIx, opSl, opRev, ipAdd, fLen, fTuple, fList, fInt, fAbs, OV.fz, fzL, nol, nolL, List.map_cons, List.map_nil, List.cons_append, List.nil_append, List.replicate_succ, List.replicate_zero, List.append_nil, List.length_cons, List.length_nil, if_true, if_false, eZ, eFz, goF, frzD, frzO, List.map, fzL_im, eqOk, scalD, deq]
  refine word_loop _ _ w oneM _ hw fun x => ?_
  simpa [seq_def, sIf, sRet, sRetN, sAsg, sPar, sPar3, sDrop, sAug, sApp, sAppP, sExt, sIns, sSet, sAugIx, sNext, sBreak, sCont, sRaise, goN, goT, gN, gsNil, gsCons, gT, etP, etE, etAnd, etOr, etNot, tB, tTru, tAndP, tOrP, tNotP, tYesP, pVar, pC, pOp, pUn, paNil, paCons, pTup, pLst, pAndV, pOrV, pNotV, pIf, poNone, poSome, pSl, pRev, pCall, pCB, pTIx, piSeq, eP, eF, pth0, pthS, eRd, eFr, eMv, eaNil, eaCons, eaLate, eTup, eLst, eIx, eOp, eUn, eIf, eCall, eCB, eCBF, eSl, eSlH, eTIx, ePop, eCat, eiSeq, eiRange, eiEnum, dputs, dget, dset, dwipe, getP, getD, setP, getAll, fnEn, startD, opAdd, opSub, opMul, opMod, opDiv, opPow, opNeg, opEq, opNe, opLt, opLe, opGt, opGe, opIsN, opNotN, opIx, opSl, opRev, ipAdd, fLen, fTuple, fList, fInt, fAbs, OV.fz, fzL, nol, nolL, List.map_cons, List.map_nil, List.cons_append, List.nil_append, List.replicate_succ, List.replicate_zero, List.append_nil, List.length_cons, List.length_nil, if_true, if_false, eZ, eFz, goF, frzD, frzO, List.map, fzL_im, eqOk, scalD, deq] using hQ
end G66
namespace G66
open PySem DL
mutual
theorem deq_self : ∀ d : D, okd d = true → deq d d = true
  | .non, _ => by simp [deq]
  | .bl b, _ => by simp [deq]
  | .int i, _ => by simp [deq]
  | .str x, _ => by simp [deq]
  | .tup xs, h => by simp only [deq]; exact deqL_self xs (by simpa [okd] using h)
  | .lst xs, h => by simp only [deq]; exact deqL_self xs (by simpa [okd] using h)
  | .fn _, h => by simp [okd] at h
  | .ty _, h => by simp [okd] at h
  | .pr _, h => by simp [okd] at h
  | .scr _, h => by simp [okd] at h
theorem deqL_self : ∀ d : List D, okL d = true → deqL d d = true
  | [], _ => by simp [deqL]
  | x :: xs, h => by
    simp only [okL, Bool.and_eq_true] at h
    simp only [deqL, deq_self x h.1, deqL_self xs h.2, Bool.and_self]
end
def fdAlike : FD := fun os Q _ => ∃ d ds, (d = .tup ds ∨ d = .lst ds) ∧ os = [.im d, .im d] ∧ reprOk d ∧ Q (.im (.bl true)) []
theorem vc_alike (os : List OV) (Qd : OV → List OV → Prop) (Xd : Xc → Prop) (h : fdAlike os Qd Xd) : s__law_alike (fnEn [] Qd Xd) (startD 2 os) := by
  obtain ⟨d, ds, hd, rfl, hr, hQ⟩ := h
  have hs := deq_self d hr.1.1
  have hc := hr.1
  rcases hd with rfl | rfl
  all_goals
    simp only [deq] at hs
    simp [s__law_alike, fRepr, seq_def, sIf, sRet, sRetN, sAsg, sPar, sPar3, sDrop, sAug, sApp, sAppP, sExt, sIns, sSet, sAugIx, sNext, sBreak, sCont, sRaise, goN, goT, gN, gsNil, gsCons, gT, etP, etE, etAnd, etOr, etNot, tB, tTru, tAndP, tOrP, tNotP, tYesP, pVar, pC, pOp, pUn, paNil, paCons, pTup, pLst, pAndV, pOrV, pNotV, pIf, poNone, poSome, pSl, pRev, pCall, pCB, pTIx, piSeq, eP, eF, pth0, pthS, eRd, eFr, eMv, eaNil, eaCons, eaLate, eTup, eLst, eIx, eOp, eUn, eIf, eCall, eCB, eCBF, eSl, eSlH, eTIx, ePop, eCat, eiSeq, eiRange, eiEnum, dputs, dget, dset, dwipe, getP, getD, setP, getAll, fnEn, startD, opAdd, opSub, opMul, opMod, opDiv, opPow, opNeg, opEq, opNe, opLt, opLe, opGt, opGe, opIsN, opNotN, opIx, opSl, opRev, ipAdd, fLen, fTuple, fList, fInt, fAbs, OV.fz, fzL, nol, nolL, List.map_cons, List.map_nil, List.cons_append, List.nil_append, List.replicate_succ, List.replicate_zero, List.append_nil, List.length_cons, List.length_nil, if_true, if_false, eZ, eFz, goF, frzD, frzO, List.map, fzL_im, eqOk, scalD, deq, hs, hr, hc]
    exact hQ
end G66
namespace G66
open PySem DL
theorem mul_up (m : M4) (i : Nat) : (m.mul ⟨1, i, 0, 1⟩).mul ⟨1, 1, 0, 1⟩ = m.mul ⟨1, (i + 1 : Nat), 0, 1⟩ := by
  simp only [M4.mul, M4.mk.injEq, Int.natCast_add, Int.natCast_one]
  refine ⟨?_, ?_, ?_, ?_⟩ <;> grind
theorem mul_dn (m : M4) (l : Nat) : (m.mul ⟨1, l, 0, 1⟩).mul ⟨1, 0, 1, 1⟩ = m.mul (letM l) := by
  simp only [M4.mul, letM, M4.mk.injEq]
  refine ⟨?_, ?_, ?_, ?_⟩ <;> grind
theorem lm_inner (E : En) (d0 d2 : Option OV) (m : M4) : ∀ (ds : List D) (i : Nat) (x : Option OV), (∀ x, E.nx [d0, some (.im (mE (m.mul ⟨1, (i + ds.length : Nat), 0, 1⟩))), d2, x]) → forL (gN 3) (L1__law_matrix fdTimes) E ds [d0, some (.im (mE (m.mul ⟨1, i, 0, 1⟩))), d2, x]
  | [], i, x, h => h x
  | d :: ds, i, x, h => by
    refine for_st fun N hN => ?_
    have f := fun x => lm_inner E d0 d2 m ds (i + 1) x fun x => by
      have := h x
      simp only [List.length_cons] at this
      rwa [show i + 1 + ds.length = i + (ds.length + 1) by omega]
    rw [← hN] at f
    have l4 : 4 ≤ line := by decide
    simp [L1__law_matrix, seq_def, sIf, sRet, sRetN, sAsg, sPar, sPar3, sDrop, sAug, sApp, sAppP, sExt, sIns, sSet, sAugIx, sNext, sBreak, sCont, sRaise, goN, goT, gN, gsNil, gsCons, gT, etP, etE, etAnd, etOr, etNot, tB, tTru, tAndP, tOrP, tNotP, tYesP, pVar, pC, pOp, pUn, paNil, paCons, pTup, pLst, pAndV, pOrV, pNotV, pIf, poNone, poSome, pSl, pRev, pCall, pCB, pTIx, piSeq, eP, eF, pth0, pthS, eRd, eFr, eMv, eaNil, eaCons, eaLate, eTup, eLst, eIx, eOp, eUn, eIf, eCall, eCB, eCBF, eSl, eSlH, eTIx, ePop, eCat, eiSeq, eiRange, eiEnum, dputs, dget, dset, dwipe, getP, getD, setP, getAll, fnEn, startD, opAdd, opSub, opMul, opMod, opDiv, opPow, opNeg, opEq, opNe, opLt, opLe, opGt, opGe, opIsN, opNotN, opIx, opSl, opRev, ipAdd, fLen, fTuple, fList, fInt, fAbs, OV.fz, fzL, nol, nolL, List.map_cons, List.map_nil, List.cons_append, List.nil_append, List.replicate_succ, List.replicate_zero, List.append_nil, List.length_cons, List.length_nil, if_true, if_false, eZ, eFz, goF, frzD, frzO, List.map, fzL_im, eqOk, scalD, deq, l4]
    refine ⟨m.mul ⟨1, i, 0, 1⟩, ⟨1, 1, 0, 1⟩, rfl, sm_up, rfl, ?_⟩
    rw [mul_up]
    simpa [seq_def, sIf, sRet, sRetN, sAsg, sPar, sPar3, sDrop, sAug, sApp, sAppP, sExt, sIns, sSet, sAugIx, sNext, sBreak, sCont, sRaise, goN, goT, gN, gsNil, gsCons, gT, etP, etE, etAnd, etOr, etNot, tB, tTru, tAndP, tOrP, tNotP, tYesP, pVar, pC, pOp, pUn, paNil, paCons, pTup, pLst, pAndV, pOrV, pNotV, pIf, poNone, poSome, pSl, pRev, pCall, pCB, pTIx, piSeq, eP, eF, pth0, pthS, eRd, eFr, eMv, eaNil, eaCons, eaLate, eTup, eLst, eIx, eOp, eUn, eIf, eCall, eCB, eCBF, eSl, eSlH, eTIx, ePop, eCat, eiSeq, eiRange, eiEnum, dputs, dget, dset, dwipe, getP, getD, setP, getAll, fnEn, startD, opAdd, opSub, opMul, opMod, opDiv, opPow, opNeg, opEq, opNe, opLt, opLe, opGt, opGe, opIsN, opNotN, opIx, opSl, opRev, ipAdd, fLen, fTuple, fList, fInt, fAbs, OV.fz, fzL, nol, nolL, List.map_cons, List.map_nil, List.cons_append, List.nil_append, List.replicate_succ, List.replicate_zero, List.append_nil, List.length_cons, List.length_nil, if_true, if_false, eZ, eFz, goF, frzD, frzO, List.map, fzL_im, eqOk, scalD, deq] using f (some (.im d))
theorem lm_outer (E : En) (d0 : Option OV) : ∀ (w : List Nat) (m : M4) (x2 x3 : Option OV), (∀ l ∈ w, l ≤ 100) → (∀ x2 x3, E.nx [d0, some (.im (mE (wordM w m))), x2, x3]) → forL (gN 2) (L2__law_matrix fdTimes) E (w.map fun l => .int (l : Nat)) [d0, some (.im (mE m)), x2, x3]
  | [], m, x2, x3, _, h => h x2 x3
  | l :: w, m, x2, x3, hw, h => by
    have hl := hw l List.mem_cons_self
    have l4 : 4 ≤ line := by decide
    rw [List.map_cons]
    refine for_st fun N hN => ?_
    have f := fun x2 x3 => lm_outer E d0 w (m.mul (letM l)) x2 x3 (fun l m => hw l (List.mem_cons_of_mem _ m)) h
    rw [← hN] at f
    simp [L2__law_matrix, sFor, rngItems, seq_def, sIf, sRet, sRetN, sAsg, sPar, sPar3, sDrop, sAug, sApp, sAppP, sExt, sIns, sSet, sAugIx, sNext, sBreak, sCont, sRaise, goN, goT, gN, gsNil, gsCons, gT, etP, etE, etAnd, etOr, etNot, tB, tTru, tAndP, tOrP, tNotP, tYesP, pVar, pC, pOp, pUn, paNil, paCons, pTup, pLst, pAndV, pOrV, pNotV, pIf, poNone, poSome, pSl, pRev, pCall, pCB, pTIx, piSeq, eP, eF, pth0, pthS, eRd, eFr, eMv, eaNil, eaCons, eaLate, eTup, eLst, eIx, eOp, eUn, eIf, eCall, eCB, eCBF, eSl, eSlH, eTIx, ePop, eCat, eiSeq, eiRange, eiEnum, dputs, dget, dset, dwipe, getP, getD, setP, getAll, fnEn, startD, opAdd, opSub, opMul, opMod, opDiv, opPow, opNeg, opEq, opNe, opLt, opLe, opGt, opGe, opIsN, opNotN, opIx, opSl, opRev, ipAdd, fLen, fTuple, fList, fInt, fAbs, OV.fz, fzL, nol, nolL, List.map_cons, List.map_nil, List.cons_append, List.nil_append, List.replicate_succ, List.replicate_zero, List.append_nil, List.length_cons, List.length_nil, if_true, if_false, eZ, eFz, goF, frzD, frzO, List.map, fzL_im, eqOk, scalD, deq]
    refine ⟨⟨by omega, by omega⟩, ?_⟩
    have e : m = m.mul ⟨1, (0 : Nat), 0, 1⟩ := by
      cases m
      simp [M4.mul]
    have key := lm_inner { E with nx := fun δ => sAsg (eFz (eCall 2 fdTimes [] (eaCons (eFr 1) (eaCons (eTup (eaCons (eZ (pC (.int 1))) (eaCons (eZ (pC (.int 0))) (eaCons (eZ (pC (.int 1))) (eaCons (eZ (pC (.int 1))) eaNil))))) eaNil)))) (goN 1) { E with nx := N, ct := N, bk := E.nx } δ, ct := N, bk := E.nx } d0 (some (.im (.int l))) m (rangeD 0 l) 0 x3 fun x => by
      simp [seq_def, sIf, sRet, sRetN, sAsg, sPar, sPar3, sDrop, sAug, sApp, sAppP, sExt, sIns, sSet, sAugIx, sNext, sBreak, sCont, sRaise, goN, goT, gN, gsNil, gsCons, gT, etP, etE, etAnd, etOr, etNot, tB, tTru, tAndP, tOrP, tNotP, tYesP, pVar, pC, pOp, pUn, paNil, paCons, pTup, pLst, pAndV, pOrV, pNotV, pIf, poNone, poSome, pSl, pRev, pCall, pCB, pTIx, piSeq, eP, eF, pth0, pthS, eRd, eFr, eMv, eaNil, eaCons, eaLate, eTup, eLst, eIx, eOp, eUn, eIf, eCall, eCB, eCBF, eSl, eSlH, eTIx, ePop, eCat, eiSeq, eiRange, eiEnum, dputs, dget, dset, dwipe, getP, getD, setP, getAll, fnEn, startD, opAdd, opSub, opMul, opMod, opDiv, opPow, opNeg, opEq, opNe, opLt, opLe, opGt, opGe, opIsN, opNotN, opIx, opSl, opRev, ipAdd, fLen, fTuple, fList, fInt, fAbs, OV.fz, fzL, nol, nolL, List.map_cons, List.map_nil, List.cons_append, List.nil_append, List.replicate_succ, List.replicate_zero, List.append_nil, List.length_cons, List.length_nil, if_true, if_false, eZ, eFz, goF, frzD, frzO, List.map, fzL_im, eqOk, scalD, deq, l4, rangeD]
      refine ⟨m.mul ⟨1, l, 0, 1⟩, ⟨1, 0, 1, 1⟩, rfl, sm_dn, rfl, ?_⟩
      rw [mul_dn]
      simpa [seq_def, sIf, sRet, sRetN, sAsg, sPar, sPar3, sDrop, sAug, sApp, sAppP, sExt, sIns, sSet, sAugIx, sNext, sBreak, sCont, sRaise, goN, goT, gN, gsNil, gsCons, gT, etP, etE, etAnd, etOr, etNot, tB, tTru, tAndP, tOrP, tNotP, tYesP, pVar, pC, pOp, pUn, paNil, paCons, pTup, pLst, pAndV, pOrV, pNotV, pIf, poNone, poSome, pSl, pRev, pCall, pCB, pTIx, piSeq, eP, eF, pth0, pthS, eRd, eFr, eMv, eaNil, eaCons, eaLate, eTup, eLst, eIx, eOp, eUn, eIf, eCall, eCB, eCBF, eSl, eSlH, eTIx, ePop, eCat, eiSeq, eiRange, eiEnum, dputs, dget, dset, dwipe, getP, getD, setP, getAll, fnEn, startD, opAdd, opSub, opMul, opMod, opDiv, opPow, opNeg, opEq, opNe, opLt, opLe, opGt, opGe, opIsN, opNotN, opIx, opSl, opRev, ipAdd, fLen, fTuple, fList, fInt, fAbs, OV.fz, fzL, nol, nolL, List.map_cons, List.map_nil, List.cons_append, List.nil_append, List.replicate_succ, List.replicate_zero, List.append_nil, List.length_cons, List.length_nil, if_true, if_false, eZ, eFz, goF, frzD, frzO, List.map, fzL_im, eqOk, scalD, deq] using f _ _
    rw [← e] at key
    exact key
theorem vc_lmatrix (os : List OV) (Qd : OV → List OV → Prop) (Xd : Xc → Prop) (h : fdWordM os Qd Xd) : s__law_matrix fdTimes (fnEn [] Qd Xd) (startD 4 os) := by
  obtain ⟨w, rfl, hw, hQ⟩ := h
  have l4 : 4 ≤ line := by decide
  simp [s__law_matrix, sFor, seq_def, sIf, sRet, sRetN, sAsg, sPar, sPar3, sDrop, sAug, sApp, sAppP, sExt, sIns, sSet, sAugIx, sNext, sBreak, sCont, sRaise, goN, goT, gN, gsNil, gsCons, gT, etP, etE, etAnd, etOr, etNot, tB, tTru, tAndP, tOrP, tNotP, tYesP, pVar, pC, pOp, pUn, paNil, paCons, pTup, pLst, pAndV, pOrV, pNotV, pIf, poNone, poSome, pSl, pRev, pCall, pCB, pTIx, piSeq, eP, eF, pth0, pthS, eRd, eFr, eMv, eaNil, eaCons, eaLate, eTup, eLst, eIx, eOp, eUn, eIf, eCall, eCB, eCBF, eSl, eSlH, eTIx, ePop, eCat, eiSeq, eiRange, eiEnum, dputs, dget, dset, dwipe, getP, getD, setP, getAll, fnEn, startD, opAdd, opSub, opMul, opMod, opDiv, opPow, opNeg, opEq, opNe, opLt, opLe, opGt, opGe, opIsN, opNotN, opIx, opSl, opRev, ipAdd, fLen, fTuple, fList, fInt, fAbs, OV.fz, fzL, nol, nolL, List.map_cons, List.map_nil, List.cons_append, List.nil_append, List.replicate_succ, List.replicate_zero, List.append_nil, List.length_cons, List.length_nil, if_true, if_false, eZ, eFz, goF, frzD, frzO, List.map, fzL_im, eqOk, scalD, deq, l4]
  refine lm_outer _ _ w oneM _ _ hw fun x2 x3 => ?_
  simpa [seq_def, sIf, sRet, sRetN, sAsg, sPar, sPar3, sDrop, sAug, sApp, sAppP, sExt, sIns, sSet, sAugIx, sNext, sBreak, sCont, sRaise, goN, goT, gN, gsNil, gsCons, gT, etP, etE, etAnd, etOr, etNot, tB, tTru, tAndP, tOrP, tNotP, tYesP, pVar, pC, pOp, pUn, paNil, paCons, pTup, pLst, pAndV, pOrV, pNotV, pIf, poNone, poSome, pSl, pRev, pCall, pCB, pTIx, piSeq, eP, eF, pth0, pthS, eRd, eFr, eMv, eaNil, eaCons, eaLate, eTup, eLst, eIx, eOp, eUn, eIf, eCall, eCB, eCBF, eSl, eSlH, eTIx, ePop, eCat, eiSeq, eiRange, eiEnum, dputs, dget, dset, dwipe, getP, getD, setP, getAll, fnEn, startD, opAdd, opSub, opMul, opMod, opDiv, opPow, opNeg, opEq, opNe, opLt, opLe, opGt, opGe, opIsN, opNotN, opIx, opSl, opRev, ipAdd, fLen, fTuple, fList, fInt, fAbs, OV.fz, fzL, nol, nolL, List.map_cons, List.map_nil, List.cons_append, List.nil_append, List.replicate_succ, List.replicate_zero, List.append_nil, List.length_cons, List.length_nil, if_true, if_false, eZ, eFz, goF, frzD, frzO, List.map, fzL_im, eqOk, scalD, deq] using hQ
end G66
namespace G66
open PySem DL
mutual
/-- the word of a tree -/
def trW (ts : List Str) : Tr → List Int
  | .mk t l => (2 * (ts.idxOf t : Nat) : Int) :: (trWL ts l ++ [(2 * (ts.idxOf t : Nat) : Int) + 1])
def trWL (ts : List Str) : List Tr → List Int
  | [] => []
  | t :: l => trW ts t ++ trWL ts l
end
mutual
def trIn (ts : List Str) : Tr → Prop
  | .mk t l => t ∈ ts ∧ trInL ts l
def trInL (ts : List Str) : List Tr → Prop
  | [] => True
  | t :: l => trIn ts t ∧ trInL ts l
end
theorem strsOf_map : ∀ ts : List Str, strsOf (ts.map D.str) = some ts
  | [] => rfl
  | t :: ts => by simp [strsOf, strsOf_map ts]
theorem fz_ints (l : List Int) : fzL (l.map fun i => OV.im (.int i)) = l.map D.int := by rw [fzL_map, List.map_map]; rfl
theorem ints_nol (l : List Int) : nolL (l.map D.int) = true := by
  induction l with
  | nil => rfl
  | cons e l ih => simp [nolL, nol, ih]
def fdLWord (n : Nat) : FD := fun os Q _ => ∃ (ts : List Str) (l : List Tr), os = [.im (.tup (ts.map .str)), .im (.lst (trEL l))] ∧ trInL ts l ∧ trDL l < n ∧ (trWL ts l).length ≤ 10000 ∧ Q (.lst ((trWL ts l).map fun i => .im (.int i))) []
theorem vc_lword (n : Nat) (os : List OV) (Qd : OV → List OV → Prop) (Xd : Xc → Prop) (h : fdLWord (n + 1) os Qd Xd) : s__law_word (fdLWord n) (fnEn [] Qd Xd) (startD 5 os) := by
  obtain ⟨ts, l, rfl, hi, hd, hl, hQ⟩ := h
  have l1 : 1 ≤ line := by decide
  have hline : ∀ n : Nat, n ≤ 10000 → n ≤ line := fun n h => Nat.le_trans h (by decide)
  have m2 : ∀ j, mulOk 2 j := fun j => mulOk_l (by decide) (by decide)
  have key : ∀ (l : List Tr) (acc : List Int) (d1 x3 x4 : Option OV) (E : En), trInL ts l → trDL l < n + 1 → acc.length + (trWL ts l).length ≤ 10000 → (∀ x3 x4, E.nx [some (.im (.tup (ts.map .str))), d1, some (.lst ((acc ++ trWL ts l).map fun i => .im (.int i))), x3, x4]) →
      forL (gT 2 (gsCons (gN 3) (gsCons (gN 4) gsNil))) (L1__law_word (fdLWord n)) E (l.map trE) [some (.im (.tup (ts.map .str))), d1, some (.lst (acc.map fun i => .im (.int i))), x3, x4] := fun l => by
    induction l with
    | nil =>
      intro acc d1 x3 x4 E _ _ _ h
      have := h x3 x4
      simp only [trWL, List.append_nil] at this
      exact this
    | cons t l ih =>
      intro acc d1 x3 x4 E hi hd hl h
      obtain ⟨t, k⟩ := t
      simp only [trInL, trIn] at hi
      have hp : trDL k < n := by simp [trDL, trD] at hd; omega
      have hd2 : trDL l < n + 1 := by simp [trDL] at hd; omega
      simp only [trWL, trW, List.length_append, List.length_cons, List.length_nil] at hl
      rw [List.map_cons]
      refine for_st fun N hN => ?_
      have f : ∀ x3 x4, N [some (.im (.tup (ts.map .str))), d1, some (.lst ((acc ++ trW ts (.mk t k)).map fun i => .im (.int i))), x3, x4] := fun x3 x4 => by
        rw [hN]
        refine ih _ _ _ _ _ hi.2 hd2 (by simp [trW]; omega) fun x3 x4 => ?_
        have := h x3 x4
        rw [trWL] at this
        simpa using this
      simp [L1__law_word, trE, seq_def, sIf, sRet, sRetN, sAsg, sPar, sPar3, sDrop, sAug, sApp, sAppP, sExt, sIns, sSet, sAugIx, sNext, sBreak, sCont, sRaise, goN, goT, gN, gsNil, gsCons, gT, etP, etE, etAnd, etOr, etNot, tB, tTru, tAndP, tOrP, tNotP, tYesP, pVar, pC, pOp, pUn, paNil, paCons, pTup, pLst, pAndV, pOrV, pNotV, pIf, poNone, poSome, pSl, pRev, pCall, pCB, pTIx, piSeq, eP, eF, pth0, pthS, eRd, eFr, eMv, eaNil, eaCons, eaLate, eTup, eLst, eIx, eOp, eUn, eIf, eCall, eCB, eCBF, eSl, eSlH, eTIx, ePop, eCat, eiSeq, eiRange, eiEnum, dputs, dget, dset, dwipe, getP, getD, setP, getAll, fnEn, startD, opAdd, opSub, opMul, opMod, opDiv, opPow, opNeg, opEq, opNe, opLt, opLe, opGt, opGe, opIsN, opNotN, opIx, opSl, opRev, ipAdd, fLen, fTuple, fList, fInt, fAbs, OV.fz, fzL, nol, nolL, List.map_cons, List.map_nil, List.cons_append, List.nil_append, List.replicate_succ, List.replicate_zero, List.append_nil, List.length_cons, List.length_nil, if_true, if_false, eZ, eFz, goF, frzD, frzO, List.map, fzL_im, eqOk, scalD, deq, l1, isTup, mIndex, strsOf_map, hi.1.1, m2]
      refine ⟨ts, k, rfl, hi.1.2, hp, by omega, ?_⟩
      simp only [OV.fz]
      rw [fz_ints]
      simp [seq_def, sIf, sRet, sRetN, sAsg, sPar, sPar3, sDrop, sAug, sApp, sAppP, sExt, sIns, sSet, sAugIx, sNext, sBreak, sCont, sRaise, goN, goT, gN, gsNil, gsCons, gT, etP, etE, etAnd, etOr, etNot, tB, tTru, tAndP, tOrP, tNotP, tYesP, pVar, pC, pOp, pUn, paNil, paCons, pTup, pLst, pAndV, pOrV, pNotV, pIf, poNone, poSome, pSl, pRev, pCall, pCB, pTIx, piSeq, eP, eF, pth0, pthS, eRd, eFr, eMv, eaNil, eaCons, eaLate, eTup, eLst, eIx, eOp, eUn, eIf, eCall, eCB, eCBF, eSl, eSlH, eTIx, ePop, eCat, eiSeq, eiRange, eiEnum, dputs, dget, dset, dwipe, getP, getD, setP, getAll, fnEn, startD, opAdd, opSub, opMul, opMod, opDiv, opPow, opNeg, opEq, opNe, opLt, opLe, opGt, opGe, opIsN, opNotN, opIx, opSl, opRev, ipAdd, fLen, fTuple, fList, fInt, fAbs, OV.fz, fzL, nol, nolL, List.map_cons, List.map_nil, List.cons_append, List.nil_append, List.replicate_succ, List.replicate_zero, List.append_nil, List.length_cons, List.length_nil, if_true, if_false, eZ, eFz, goF, frzD, frzO, List.map, fzL_im, eqOk, scalD, deq, l1, isTup, mIndex, strsOf_map, hi.1.1, m2, nolL_append, ints_nol]
      refine ⟨hline _ (by omega), hline _ (by omega), hline _ (by omega), ?_⟩
      have f2 := f (some (.im (.str t))) (some (.im (.lst (trEL k))))
      simpa [trW, Function.comp_def] using f2
  simp [s__law_word, sFor, seq_def, sIf, sRet, sRetN, sAsg, sPar, sPar3, sDrop, sAug, sApp, sAppP, sExt, sIns, sSet, sAugIx, sNext, sBreak, sCont, sRaise, goN, goT, gN, gsNil, gsCons, gT, etP, etE, etAnd, etOr, etNot, tB, tTru, tAndP, tOrP, tNotP, tYesP, pVar, pC, pOp, pUn, paNil, paCons, pTup, pLst, pAndV, pOrV, pNotV, pIf, poNone, poSome, pSl, pRev, pCall, pCB, pTIx, piSeq, eP, eF, pth0, pthS, eRd, eFr, eMv, eaNil, eaCons, eaLate, eTup, eLst, eIx, eOp, eUn, eIf, eCall, eCB, eCBF, eSl, eSlH, eTIx, ePop, eCat, eiSeq, eiRange, eiEnum, dputs, dget, dset, dwipe, getP, getD, setP, getAll, fnEn, startD, opAdd, opSub, opMul, opMod, opDiv, opPow, opNeg, opEq, opNe, opLt, opLe, opGt, opGe, opIsN, opNotN, opIx, opSl, opRev, ipAdd, fLen, fTuple, fList, fInt, fAbs, OV.fz, fzL, nol, nolL, List.map_cons, List.map_nil, List.cons_append, List.nil_append, List.replicate_succ, List.replicate_zero, List.append_nil, List.length_cons, List.length_nil, if_true, if_false, eZ, eFz, goF, frzD, frzO, List.map, fzL_im, eqOk, scalD, deq]
  rw [trEL_map]
  refine key l [] _ _ _ _ hi hd (by simpa using hl) fun x3 x4 => ?_
  simpa [seq_def, sIf, sRet, sRetN, sAsg, sPar, sPar3, sDrop, sAug, sApp, sAppP, sExt, sIns, sSet, sAugIx, sNext, sBreak, sCont, sRaise, goN, goT, gN, gsNil, gsCons, gT, etP, etE, etAnd, etOr, etNot, tB, tTru, tAndP, tOrP, tNotP, tYesP, pVar, pC, pOp, pUn, paNil, paCons, pTup, pLst, pAndV, pOrV, pNotV, pIf, poNone, poSome, pSl, pRev, pCall, pCB, pTIx, piSeq, eP, eF, pth0, pthS, eRd, eFr, eMv, eaNil, eaCons, eaLate, eTup, eLst, eIx, eOp, eUn, eIf, eCall, eCB, eCBF, eSl, eSlH, eTIx, ePop, eCat, eiSeq, eiRange, eiEnum, dputs, dget, dset, dwipe, getP, getD, setP, getAll, fnEn, startD, opAdd, opSub, opMul, opMod, opDiv, opPow, opNeg, opEq, opNe, opLt, opLe, opGt, opGe, opIsN, opNotN, opIx, opSl, opRev, ipAdd, fLen, fTuple, fList, fInt, fAbs, OV.fz, fzL, nol, nolL, List.map_cons, List.map_nil, List.cons_append, List.nil_append, List.replicate_succ, List.replicate_zero, List.append_nil, List.length_cons, List.length_nil, if_true, if_false, eZ, eFz, goF, frzD, frzO, List.map, fzL_im, eqOk, scalD, deq] using hQ
end G66
namespace G66
open PySem DL

mutual
def pW (ts : List Str) : Part → List D
  | .apply m _ => [.str m]
  | .page p l => .int (2 * (ts.idxOf p : Nat)) :: (pWL ts l ++ [.int (2 * (ts.idxOf p : Nat) + 1)])
  | .iff _ _ _ => []
def pWL (ts : List Str) : List Part → List D
  | [] => []
  | p :: l => pW ts p ++ pWL ts l
end
mutual
def pIn (ts : List Str) : Part → Prop
  | .apply _ _ => True
  | .page p l => p ∈ ts ∧ pInL ts l
  | .iff _ _ _ => False
def pInL (ts : List Str) : List Part → Prop
  | [] => True
  | p :: l => pIn ts p ∧ pInL ts l
end
mutual
theorem pW_nol (ts : List Str) : ∀ p, nolL (pW ts p) = true
  | .apply m _ => by simp [pW, nolL, nol]
  | .page p l => by simp [pW, nolL, nol, nolL_append, pWL_nol ts l]
  | .iff _ _ _ => by simp [pW, nolL]
theorem pWL_nol (ts : List Str) : ∀ l, nolL (pWL ts l) = true
  | [] => by simp [pWL, nolL]
  | p :: l => by simp [pWL, nolL_append, pW_nol ts p, pWL_nol ts l]
end
def fdLWords (n : Nat) : FD := fun os Q _ => ∃ (ts : List Str) (l : List Part), os = [.im (.tup (ts.map .str)), .im (.tup (pEL l))] ∧ pInL ts l ∧ pDL l < n ∧ (pWL ts l).length ≤ 10000 ∧ Q (.lst ((pWL ts l).map .im)) []
theorem vc_lwords (n : Nat) (os : List OV) (Qd : OV → List OV → Prop) (Xd : Xc → Prop) (h : fdLWords (n + 1) os Qd Xd) : s__law_words (fdLWords n) (fnEn [] Qd Xd) (startD 4 os) := by
  obtain ⟨ts, l, rfl, hi, hd, hl, hQ⟩ := h
  have l1 : 1 ≤ line := by decide
  have hline : ∀ n : Nat, n ≤ 10000 → n ≤ line := fun n h => Nat.le_trans h (by decide)
  have m2 : ∀ j, mulOk 2 j := fun j => mulOk_l (by decide) (by decide)
  have key : ∀ (l : List Part) (acc : List D) (d1 x3 : Option OV) (E : En), pInL ts l → pDL l < n + 1 → acc.length + (pWL ts l).length ≤ 10000 → (∀ x3, E.nx [some (.im (.tup (ts.map .str))), d1, some (.lst ((acc ++ pWL ts l).map .im)), x3]) →
      forL (gN 3) (L1__law_words (fdLWords n)) E (l.map pE) [some (.im (.tup (ts.map .str))), d1, some (.lst (acc.map .im)), x3] := fun l => by
    induction l with
    | nil =>
      intro acc d1 x3 E _ _ _ h
      have := h x3
      simp only [pWL, List.append_nil] at this
      exact this
    | cons p l ih =>
      intro acc d1 x3 E hi hd hl h
      simp only [pInL] at hi
      have hp : pD p < n + 1 := by simp [pDL] at hd; omega
      have hd2 : pDL l < n + 1 := by simp [pDL] at hd; omega
      simp only [pWL, List.length_append] at hl
      rw [List.map_cons]
      refine for_st fun N hN => ?_
      have f : ∀ x3, N [some (.im (.tup (ts.map .str))), d1, some (.lst ((acc ++ pW ts p).map .im)), x3] := fun x3 => by
        rw [hN]
        refine ih _ _ _ _ hi.2 hd2 (by rw [List.length_append]; omega) fun x3 => ?_
        have := h x3
        rw [pWL] at this
        simpa using this
      cases p with
      | iff t a b => exact hi.1.elim
      | apply m t =>
        have hacc : acc.length < line := by simp [pW] at hl; show _ < 16777216; omega
        cases t <;>
        · simp [L1__law_words, pE, seq_def, sIf, sRet, sRetN, sAsg, sPar, sPar3, sDrop, sAug, sApp, sAppP, sExt, sIns, sSet, sAugIx, sNext, sBreak, sCont, sRaise, goN, goT, gN, gsNil, gsCons, gT, etP, etE, etAnd, etOr, etNot, tB, tTru, tAndP, tOrP, tNotP, tYesP, pVar, pC, pOp, pUn, paNil, paCons, pTup, pLst, pAndV, pOrV, pNotV, pIf, poNone, poSome, pSl, pRev, pCall, pCB, pTIx, piSeq, eP, eF, pth0, pthS, eRd, eFr, eMv, eaNil, eaCons, eaLate, eTup, eLst, eIx, eOp, eUn, eIf, eCall, eCB, eCBF, eSl, eSlH, eTIx, ePop, eCat, eiSeq, eiRange, eiEnum, dputs, dget, dset, dwipe, getP, getD, setP, getAll, fnEn, startD, opAdd, opSub, opMul, opMod, opDiv, opPow, opNeg, opEq, opNe, opLt, opLe, opGt, opGe, opIsN, opNotN, opIx, opSl, opRev, ipAdd, fLen, fTuple, fList, fInt, fAbs, OV.fz, fzL, nol, nolL, List.map_cons, List.map_nil, List.cons_append, List.nil_append, List.replicate_succ, List.replicate_zero, List.append_nil, List.length_cons, List.length_nil, if_true, if_false, eZ, eFz, goF, frzD, frzO, List.map, fzL_im, eqOk, scalD, deq, atD, ixD, s8, hacc]
          simpa [pW, pE] using f _
      | page q k =>
        simp only [pIn] at hi
        have hk : pDL k < n := by simp [pD] at hp; omega
        simp only [pW, List.length_cons, List.length_append, List.length_nil] at hl
        simp [L1__law_words, pE, seq_def, sIf, sRet, sRetN, sAsg, sPar, sPar3, sDrop, sAug, sApp, sAppP, sExt, sIns, sSet, sAugIx, sNext, sBreak, sCont, sRaise, goN, goT, gN, gsNil, gsCons, gT, etP, etE, etAnd, etOr, etNot, tB, tTru, tAndP, tOrP, tNotP, tYesP, pVar, pC, pOp, pUn, paNil, paCons, pTup, pLst, pAndV, pOrV, pNotV, pIf, poNone, poSome, pSl, pRev, pCall, pCB, pTIx, piSeq, eP, eF, pth0, pthS, eRd, eFr, eMv, eaNil, eaCons, eaLate, eTup, eLst, eIx, eOp, eUn, eIf, eCall, eCB, eCBF, eSl, eSlH, eTIx, ePop, eCat, eiSeq, eiRange, eiEnum, dputs, dget, dset, dwipe, getP, getD, setP, getAll, fnEn, startD, opAdd, opSub, opMul, opMod, opDiv, opPow, opNeg, opEq, opNe, opLt, opLe, opGt, opGe, opIsN, opNotN, opIx, opSl, opRev, ipAdd, fLen, fTuple, fList, fInt, fAbs, OV.fz, fzL, nol, nolL, List.map_cons, List.map_nil, List.cons_append, List.nil_append, List.replicate_succ, List.replicate_zero, List.append_nil, List.length_cons, List.length_nil, if_true, if_false, eZ, eFz, goF, frzD, frzO, List.map, fzL_im, eqOk, scalD, deq, atD, ixD, s7, l1, isTup, mIndex, strsOf_map, hi.1.1, m2]
        refine ⟨ts, k, rfl, hi.1.2, hk, by omega, ?_⟩
        simp [seq_def, sIf, sRet, sRetN, sAsg, sPar, sPar3, sDrop, sAug, sApp, sAppP, sExt, sIns, sSet, sAugIx, sNext, sBreak, sCont, sRaise, goN, goT, gN, gsNil, gsCons, gT, etP, etE, etAnd, etOr, etNot, tB, tTru, tAndP, tOrP, tNotP, tYesP, pVar, pC, pOp, pUn, paNil, paCons, pTup, pLst, pAndV, pOrV, pNotV, pIf, poNone, poSome, pSl, pRev, pCall, pCB, pTIx, piSeq, eP, eF, pth0, pthS, eRd, eFr, eMv, eaNil, eaCons, eaLate, eTup, eLst, eIx, eOp, eUn, eIf, eCall, eCB, eCBF, eSl, eSlH, eTIx, ePop, eCat, eiSeq, eiRange, eiEnum, dputs, dget, dset, dwipe, getP, getD, setP, getAll, fnEn, startD, opAdd, opSub, opMul, opMod, opDiv, opPow, opNeg, opEq, opNe, opLt, opLe, opGt, opGe, opIsN, opNotN, opIx, opSl, opRev, ipAdd, fLen, fTuple, fList, fInt, fAbs, OV.fz, fzL, nol, nolL, List.map_cons, List.map_nil, List.cons_append, List.nil_append, List.replicate_succ, List.replicate_zero, List.append_nil, List.length_cons, List.length_nil, if_true, if_false, eZ, eFz, goF, frzD, frzO, List.map, fzL_im, eqOk, scalD, deq, atD, ixD, l1, isTup, mIndex, strsOf_map, hi.1.1, m2, nolL_append, pWL_nol]
        refine ⟨hline _ (by omega), hline _ (by omega), hline _ (by omega), ?_⟩
        simpa [pW, pE] using f _
  simp [s__law_words, sFor, seq_def, sIf, sRet, sRetN, sAsg, sPar, sPar3, sDrop, sAug, sApp, sAppP, sExt, sIns, sSet, sAugIx, sNext, sBreak, sCont, sRaise, goN, goT, gN, gsNil, gsCons, gT, etP, etE, etAnd, etOr, etNot, tB, tTru, tAndP, tOrP, tNotP, tYesP, pVar, pC, pOp, pUn, paNil, paCons, pTup, pLst, pAndV, pOrV, pNotV, pIf, poNone, poSome, pSl, pRev, pCall, pCB, pTIx, piSeq, eP, eF, pth0, pthS, eRd, eFr, eMv, eaNil, eaCons, eaLate, eTup, eLst, eIx, eOp, eUn, eIf, eCall, eCB, eCBF, eSl, eSlH, eTIx, ePop, eCat, eiSeq, eiRange, eiEnum, dputs, dget, dset, dwipe, getP, getD, setP, getAll, fnEn, startD, opAdd, opSub, opMul, opMod, opDiv, opPow, opNeg, opEq, opNe, opLt, opLe, opGt, opGe, opIsN, opNotN, opIx, opSl, opRev, ipAdd, fLen, fTuple, fList, fInt, fAbs, OV.fz, fzL, nol, nolL, List.map_cons, List.map_nil, List.cons_append, List.nil_append, List.replicate_succ, List.replicate_zero, List.append_nil, List.length_cons, List.length_nil, if_true, if_false, eZ, eFz, goF, frzD, frzO, List.map, fzL_im, eqOk, scalD, deq]
  rw [pEL_map]
  refine key l [] _ _ _ hi hd (by simpa using hl) fun x3 => ?_
  simpa [seq_def, sIf, sRet, sRetN, sAsg, sPar, sPar3, sDrop, sAug, sApp, sAppP, sExt, sIns, sSet, sAugIx, sNext, sBreak, sCont, sRaise, goN, goT, gN, gsNil, gsCons, gT, etP, etE, etAnd, etOr, etNot, tB, tTru, tAndP, tOrP, tNotP, tYesP, pVar, pC, pOp, pUn, paNil, paCons, pTup, pLst, pAndV, pOrV, pNotV, pIf, poNone, poSome, pSl, pRev, pCall, pCB, pTIx, piSeq, eP, eF, pth0, pthS, eRd, eFr, eMv, eaNil, eaCons, eaLate, eTup, eLst, eIx, eOp, eUn, eIf, eCall, eCB, eCBF, eSl, eSlH, eTIx, ePop, eCat, eiSeq, eiRange, eiEnum, dputs, dget, dset, dwipe, getP, getD, setP, getAll, fnEn, startD, opAdd, opSub, opMul, opMod, opDiv, opPow, opNeg, opEq, opNe, opLt, opLe, opGt, opGe, opIsN, opNotN, opIx, opSl, opRev, ipAdd, fLen, fTuple, fList, fInt, fAbs, OV.fz, fzL, nol, nolL, List.map_cons, List.map_nil, List.cons_append, List.nil_append, List.replicate_succ, List.replicate_zero, List.append_nil, List.length_cons, List.length_nil, if_true, if_false, eZ, eFz, goF, frzD, frzO, List.map, fzL_im, eqOk, scalD, deq] using hQ
end G66
namespace G66
open PySem DL
theorem if_st {t : ETx} {a b : SX} {E : En} {δ : DE} (h : ∀ A B : DE → Prop, A = a E → B = b E → t δ (fun c δ1 => if c = true then A δ1 else B δ1) E.ex) : sIf t a b E δ := h _ _ rfl rfl
theorem fz_strs2 (l : List Str) : fzL (l.map (OV.im ∘ D.str)) = l.map D.str := by rw [fzL_map, List.map_map]; rfl
theorem perm_one {α : Type} {es : List α} {a : α} (h : es.Perm [a]) : es = [a] := List.perm_singleton.mp h
theorem perm_two {α : Type} {es : List α} {a b : α} (h : es.Perm [a, b]) : es = [a, b] ∨ es = [b, a] := by
  match es, h.length_eq with
  | [x, y], _ =>
    have ma : a ∈ [x, y] := h.symm.mem_iff.mp (by simp)
    simp only [List.mem_cons, List.not_mem_nil, or_false] at ma
    rcases ma with rfl | rfl
    · have := List.Perm.cons_inv h
      rw [perm_one this]
      exact .inl rfl
    · have h2 : [a, x].Perm [a, b] := (List.Perm.swap x a []).trans h
      have := List.Perm.cons_inv h2
      have e := perm_one this
      injection e with e
      subst e
      exact .inr rfl
/-- what a straight rule gives -/
abbrev lf (p : Str) : Part := .page p []
abbrev cl (m : Str) : Part := .apply m none
def stP (l : List Part) : Prop := ∃ (m p q : Str) (i : List Part), (m = "m" ∨ m = "n") ∧ (p = "p" ∨ p = "q") ∧ (q = "p" ∨ q = "q") ∧ (i = [cl m] ∨ i = [lf p, cl m] ∨ i = [cl m, lf p]) ∧ (l = i ∨ l = [.page q i] ∨ l = lf "p" :: i)
def sr (ts : List Str) (r : Rule) : Prop := (r.1 = "m" ∨ r.1 = "n") ∧ r.2.1 ∈ ts ∧ stP r.2.2
abbrev ky (r s : Rule) : Prop := ¬ (r.1 = s.1 ∧ r.2.1 = s.2.1)
theorem str_inner (ms ts0 : List Str) (m : Str) (hm : m = "m" ∨ m = "n") (hms : 0 < ms.length ∧ ms.length ≤ 2) (hmn : ∀ m ∈ ms, m = "m" ∨ m = "n") (E : En) : ∀ (ts : List Str) (acc : List Rule) (b : OV) (x5 x6 x7 x8 x9 x10 : Option OV), bagOk b → (∀ t ∈ ts, t ∈ ts0) → ts.Nodup → (∀ r ∈ acc, sr ts0 r) → acc.Pairwise ky → (∀ r ∈ acc, r.1 = m → r.2.1 ∉ ts) → acc.length + ts.length ≤ 1000 →
    (∀ (b' : OV) (acc' : List Rule) (x5 x6 x7 x8 x9 x10 : Option OV), bagOk b' → (∀ r ∈ acc', sr ts0 r) → acc'.Pairwise ky → (∀ r ∈ acc', r ∈ acc ∨ r.1 = m) → acc'.length ≤ acc.length + ts.length → E.nx [some b', some (.im (.tup (ts0.map .str))), some (.im (.tup (ms.map .str))), some (.lst (acc'.map fun r => .im (rE r))), some (.im (.str m)), x5, x6, x7, x8, x9, x10]) →
    forL (gN 5) (L1__law_straight fdTake fdSome fdMixed) E (ts.map .str) [some b, some (.im (.tup (ts0.map .str))), some (.im (.tup (ms.map .str))), some (.lst (acc.map fun r => .im (rE r))), some (.im (.str m)), x5, x6, x7, x8, x9, x10]
  | [], acc, b, x5, x6, x7, x8, x9, x10, hb, ht, hnd, ha, hp, hf, hl, h => h b acc x5 x6 x7 x8 x9 x10 hb ha hp (fun r m => .inl m) (by simp)
  | t :: ts, acc, b, x5, x6, x7, x8, x9, x10, hb, ht, hnd, ha, hp, hf, hl, h => by
    simp only [List.length_cons] at hl h
    obtain ⟨nt, nd⟩ := List.nodup_cons.mp hnd
    have hacc : acc.length < line := by show _ < 16777216; omega
    have l2 : 2 ≤ line := by decide
    have l3 : 3 ≤ line := by decide
    have l1 : 1 ≤ line := by decide
    rw [List.map_cons]
    refine for_st fun N hN => ?_
    have skip : ∀ (b' : OV) (x5 x6 x7 x8 x9 x10 : Option OV), bagOk b' → N [some b', some (.im (.tup (ts0.map .str))), some (.im (.tup (ms.map .str))), some (.lst (acc.map fun r => .im (rE r))), some (.im (.str m)), x5, x6, x7, x8, x9, x10] := fun b' x5 x6 x7 x8 x9 x10 hb' => by
      rw [hN]
      exact str_inner ms ts0 m hm hms hmn E ts acc b' x5 x6 x7 x8 x9 x10 hb' (fun t m => ht t (List.mem_cons_of_mem _ m)) nd ha hp (fun r mr e me => hf r mr e (List.mem_cons_of_mem _ me)) (by omega) fun b2 acc3 x5 x6 x7 x8 x9 x10 hb2 h3 hp3 hf3 hl3 => h b2 acc3 x5 x6 x7 x8 x9 x10 hb2 h3 hp3 hf3 (by omega)
    have add : ∀ (l : List Part) (b' : OV) (x5 x6 x7 x8 x9 x10 : Option OV), bagOk b' → stP l → N [some b', some (.im (.tup (ts0.map .str))), some (.im (.tup (ms.map .str))), some (.lst ((acc.map fun r => .im (rE r)) ++ [.im (rE (m, t, l))])), some (.im (.str m)), x5, x6, x7, x8, x9, x10] := fun l b' x5 x6 x7 x8 x9 x10 hb' hs => by
      rw [hN]
      have e : ((acc.map fun r => OV.im (rE r)) ++ [.im (rE (m, t, l))]) = (acc ++ [(m, t, l)]).map fun r => OV.im (rE r) := by simp
      rw [e]
      refine str_inner ms ts0 m hm hms hmn E ts (acc ++ [(m, t, l)]) b' x5 x6 x7 x8 x9 x10 hb' (fun t m => ht t (List.mem_cons_of_mem _ m)) nd ?_ ?_ ?_ (by simp; omega) fun b2 acc3 x5 x6 x7 x8 x9 x10 hb2 h3 hp3 hf3 hl3 => h b2 acc3 x5 x6 x7 x8 x9 x10 hb2 h3 hp3 (fun r mr => ?_) (by simp at hl3; omega)
      · intro r mr
        rcases List.mem_append.mp mr with mr | mr
        · exact ha r mr
        · rw [List.mem_singleton.mp mr]
          exact ⟨hm, ht t List.mem_cons_self, hs⟩
      · refine List.pairwise_append.mpr ⟨hp, List.pairwise_singleton _ _, fun r mr s ms => ?_⟩
        rw [List.mem_singleton.mp ms]
        rintro ⟨e1, e2⟩
        exact hf r mr e1 (by rw [e2]; exact List.mem_cons_self)
      · intro r mr e1 me
        rcases List.mem_append.mp mr with mr | mr
        · exact hf r mr e1 (List.mem_cons_of_mem _ me)
        · rw [List.mem_singleton.mp mr] at me
          exact nt me
      · rcases hf3 r mr with q | q
        · rcases List.mem_append.mp q with q | q
          · exact .inl q
          · rw [List.mem_singleton.mp q]
            exact .inr rfl
        · exact .inr q
    show L1__law_straight _ _ _ _ _
    unfold L1__law_straight
    refine if_st fun A B hA hB => ?_
    simp [seq_def, sIf, sRet, sRetN, sAsg, sPar, sPar3, sDrop, sAug, sApp, sAppP, sExt, sIns, sSet, sAugIx, sNext, sBreak, sCont, sRaise, goN, goT, gN, gsNil, gsCons, gT, etP, etE, etAnd, etOr, etNot, tB, tTru, tAndP, tOrP, tNotP, tYesP, pVar, pC, pOp, pUn, paNil, paCons, pTup, pLst, pAndV, pOrV, pNotV, pIf, poNone, poSome, pSl, pRev, pCall, pCB, pTIx, piSeq, eP, eF, pth0, pthS, eRd, eFr, eMv, eaNil, eaCons, eaLate, eTup, eLst, eIx, eOp, eUn, eIf, eCall, eCB, eCBF, eSl, eSlH, eTIx, ePop, eCat, eiSeq, eiRange, eiEnum, dputs, dget, dset, dwipe, getP, getD, setP, getAll, fnEn, startD, opAdd, opSub, opMul, opMod, opDiv, opPow, opNeg, opEq, opNe, opLt, opLe, opGt, opGe, opIsN, opNotN, opIx, opSl, opRev, ipAdd, fLen, fTuple, fList, fInt, fAbs, OV.fz, fzL, nol, nolL, List.map_cons, List.map_nil, List.cons_append, List.nil_append, List.replicate_succ, List.replicate_zero, List.append_nil, List.length_cons, List.length_nil, if_true, if_false, eZ, eFz, goF, frzD, frzO, List.map, fzL_im, eqOk, scalD, deq]
    refine ⟨b, 5, rfl, hb, ⟨by decide, by decide⟩, fun b1 v hb1 hv0 hv1 => ⟨rfl, ?_⟩⟩
    simp [seq_def, sIf, sRet, sRetN, sAsg, sPar, sPar3, sDrop, sAug, sApp, sAppP, sExt, sIns, sSet, sAugIx, sNext, sBreak, sCont, sRaise, goN, goT, gN, gsNil, gsCons, gT, etP, etE, etAnd, etOr, etNot, tB, tTru, tAndP, tOrP, tNotP, tYesP, pVar, pC, pOp, pUn, paNil, paCons, pTup, pLst, pAndV, pOrV, pNotV, pIf, poNone, poSome, pSl, pRev, pCall, pCB, pTIx, piSeq, eP, eF, pth0, pthS, eRd, eFr, eMv, eaNil, eaCons, eaLate, eTup, eLst, eIx, eOp, eUn, eIf, eCall, eCB, eCBF, eSl, eSlH, eTIx, ePop, eCat, eiSeq, eiRange, eiEnum, dputs, dget, dset, dwipe, getP, getD, setP, getAll, fnEn, startD, opAdd, opSub, opMul, opMod, opDiv, opPow, opNeg, opEq, opNe, opLt, opLe, opGt, opGe, opIsN, opNotN, opIx, opSl, opRev, ipAdd, fLen, fTuple, fList, fInt, fAbs, OV.fz, fzL, nol, nolL, List.map_cons, List.map_nil, List.cons_append, List.nil_append, List.replicate_succ, List.replicate_zero, List.append_nil, List.length_cons, List.length_nil, if_true, if_false, eZ, eFz, goF, frzD, frzO, List.map, fzL_im, eqOk, scalD, deq]
    split
    · rw [hA]
      refine seq_st fun N1 hN1 => ?_
      simp [seq_def, sIf, sRet, sRetN, sAsg, sPar, sPar3, sDrop, sAug, sApp, sAppP, sExt, sIns, sSet, sAugIx, sNext, sBreak, sCont, sRaise, goN, goT, gN, gsNil, gsCons, gT, etP, etE, etAnd, etOr, etNot, tB, tTru, tAndP, tOrP, tNotP, tYesP, pVar, pC, pOp, pUn, paNil, paCons, pTup, pLst, pAndV, pOrV, pNotV, pIf, poNone, poSome, pSl, pRev, pCall, pCB, pTIx, piSeq, eP, eF, pth0, pthS, eRd, eFr, eMv, eaNil, eaCons, eaLate, eTup, eLst, eIx, eOp, eUn, eIf, eCall, eCB, eCBF, eSl, eSlH, eTIx, ePop, eCat, eiSeq, eiRange, eiEnum, dputs, dget, dset, dwipe, getP, getD, setP, getAll, fnEn, startD, opAdd, opSub, opMul, opMod, opDiv, opPow, opNeg, opEq, opNe, opLt, opLe, opGt, opGe, opIsN, opNotN, opIx, opSl, opRev, ipAdd, fLen, fTuple, fList, fInt, fAbs, OV.fz, fzL, nol, nolL, List.map_cons, List.map_nil, List.cons_append, List.nil_append, List.replicate_succ, List.replicate_zero, List.append_nil, List.length_cons, List.length_nil, if_true, if_false, eZ, eFz, goF, frzD, frzO, List.map, fzL_im, eqOk, scalD, deq, l3, strs_nol]
      rw [fz_strs2]
      refine ⟨b1, _, _, rfl, hb1, .inr rfl, ⟨by simp; omega, by simp; omega⟩, fun b2 x hb2 hx => ⟨rfl, ?_⟩⟩
      obtain ⟨m1, hm1, rfl⟩ := List.mem_map.mp hx
      have hm1 := hmn m1 hm1
      simp [seq_def, sIf, sRet, sRetN, sAsg, sPar, sPar3, sDrop, sAug, sApp, sAppP, sExt, sIns, sSet, sAugIx, sNext, sBreak, sCont, sRaise, goN, goT, gN, gsNil, gsCons, gT, etP, etE, etAnd, etOr, etNot, tB, tTru, tAndP, tOrP, tNotP, tYesP, pVar, pC, pOp, pUn, paNil, paCons, pTup, pLst, pAndV, pOrV, pNotV, pIf, poNone, poSome, pSl, pRev, pCall, pCB, pTIx, piSeq, eP, eF, pth0, pthS, eRd, eFr, eMv, eaNil, eaCons, eaLate, eTup, eLst, eIx, eOp, eUn, eIf, eCall, eCB, eCBF, eSl, eSlH, eTIx, ePop, eCat, eiSeq, eiRange, eiEnum, dputs, dget, dset, dwipe, getP, getD, setP, getAll, fnEn, startD, opAdd, opSub, opMul, opMod, opDiv, opPow, opNeg, opEq, opNe, opLt, opLe, opGt, opGe, opIsN, opNotN, opIx, opSl, opRev, ipAdd, fLen, fTuple, fList, fInt, fAbs, OV.fz, fzL, nol, nolL, List.map_cons, List.map_nil, List.cons_append, List.nil_append, List.replicate_succ, List.replicate_zero, List.append_nil, List.length_cons, List.length_nil, if_true, if_false, eZ, eFz, goF, frzD, frzO, List.map, fzL_im, eqOk, scalD, deq, l3]
      rw [hN1]
      refine seq_st fun N2 hN2 => ?_
      have h2 : ∀ (lv : List Part) (b3 : OV) (x8 x9 x10 : Option OV), bagOk b3 → (lv = [] ∨ ∃ p : Str, (p = "p" ∨ p = "q") ∧ lv = [lf p]) → N2 [some b3, some (.im (.tup (ts0.map .str))), some (.im (.tup (ms.map .str))), some (.lst (acc.map fun r => .im (rE r))), some (.im (.str m)), some (.im (.str t)), some (.im (pE (cl m1))), some (.im (.lst (lv.map pE))), x8, x9, x10] := fun lv b3 x8 x9 x10 hb3 hlv => by
        rw [hN2]
        refine seq_st fun N3 hN3 => ?_
        have llv : lv.length ≤ 1 := by rcases hlv with rfl | ⟨p, _, rfl⟩ <;> simp
        simp [seq_def, sIf, sRet, sRetN, sAsg, sPar, sPar3, sDrop, sAug, sApp, sAppP, sExt, sIns, sSet, sAugIx, sNext, sBreak, sCont, sRaise, goN, goT, gN, gsNil, gsCons, gT, etP, etE, etAnd, etOr, etNot, tB, tTru, tAndP, tOrP, tNotP, tYesP, pVar, pC, pOp, pUn, paNil, paCons, pTup, pLst, pAndV, pOrV, pNotV, pIf, poNone, poSome, pSl, pRev, pCall, pCB, pTIx, piSeq, eP, eF, pth0, pthS, eRd, eFr, eMv, eaNil, eaCons, eaLate, eTup, eLst, eIx, eOp, eUn, eIf, eCall, eCB, eCBF, eSl, eSlH, eTIx, ePop, eCat, eiSeq, eiRange, eiEnum, dputs, dget, dset, dwipe, getP, getD, setP, getAll, fnEn, startD, opAdd, opSub, opMul, opMod, opDiv, opPow, opNeg, opEq, opNe, opLt, opLe, opGt, opGe, opIsN, opNotN, opIx, opSl, opRev, ipAdd, fLen, fTuple, fList, fInt, fAbs, OV.fz, fzL, nol, nolL, List.map_cons, List.map_nil, List.cons_append, List.nil_append, List.replicate_succ, List.replicate_zero, List.append_nil, List.length_cons, List.length_nil, if_true, if_false, eZ, eFz, goF, frzD, frzO, List.map, fzL_im, eqOk, scalD, deq, l3, l1]
        have hn : nolL (lv.map pE ++ [pE (cl m1)]) = true := by rw [← List.map_singleton (f := pE), ← List.map_append]; exact nol_parts _
        refine ⟨⟨by show _ ≤ 16777216; omega, hn⟩, b3, lv.map pE ++ [pE (cl m1)], by simp [pE, fzL_map, OV.fz, Function.comp_def], hb3, by simp; omega, fun b4 es hb4 hes => ⟨rfl, ?_⟩⟩
        simp [seq_def, sIf, sRet, sRetN, sAsg, sPar, sPar3, sDrop, sAug, sApp, sAppP, sExt, sIns, sSet, sAugIx, sNext, sBreak, sCont, sRaise, goN, goT, gN, gsNil, gsCons, gT, etP, etE, etAnd, etOr, etNot, tB, tTru, tAndP, tOrP, tNotP, tYesP, pVar, pC, pOp, pUn, paNil, paCons, pTup, pLst, pAndV, pOrV, pNotV, pIf, poNone, poSome, pSl, pRev, pCall, pCB, pTIx, piSeq, eP, eF, pth0, pthS, eRd, eFr, eMv, eaNil, eaCons, eaLate, eTup, eLst, eIx, eOp, eUn, eIf, eCall, eCB, eCBF, eSl, eSlH, eTIx, ePop, eCat, eiSeq, eiRange, eiEnum, dputs, dget, dset, dwipe, getP, getD, setP, getAll, fnEn, startD, opAdd, opSub, opMul, opMod, opDiv, opPow, opNeg, opEq, opNe, opLt, opLe, opGt, opGe, opIsN, opNotN, opIx, opSl, opRev, ipAdd, fLen, fTuple, fList, fInt, fAbs, OV.fz, fzL, nol, nolL, List.map_cons, List.map_nil, List.cons_append, List.nil_append, List.replicate_succ, List.replicate_zero, List.append_nil, List.length_cons, List.length_nil, if_true, if_false, eZ, eFz, goF, frzD, frzO, List.map, fzL_im, eqOk, scalD, deq]
        have ei : ∃ (i : List Part) (p : Str), es = pEL i ∧ (p = "p" ∨ p = "q") ∧ (i = [cl m1] ∨ i = [lf p, cl m1] ∨ i = [cl m1, lf p]) := by
          rcases hlv with rfl | ⟨p, hp, rfl⟩
          · exact ⟨[cl m1], "p", perm_one hes, .inl rfl, .inl rfl⟩
          · rcases perm_two hes with rfl | rfl
            · exact ⟨[lf p, cl m1], p, rfl, hp, .inr (.inl rfl)⟩
            · exact ⟨[cl m1, lf p], p, rfl, hp, .inr (.inr rfl)⟩
        obtain ⟨i, p, rfl, hp, hi⟩ := ei
        have li : (pEL i).length ≤ 2 := by rw [pEL_map]; rcases hi with rfl | rfl | rfl <;> simp
        refine ⟨pEL_nol _, ?_⟩
        rw [hN3]
        refine seq_st fun N4 hN4 => ?_
        simp [seq_def, sIf, sRet, sRetN, sAsg, sPar, sPar3, sDrop, sAug, sApp, sAppP, sExt, sIns, sSet, sAugIx, sNext, sBreak, sCont, sRaise, goN, goT, gN, gsNil, gsCons, gT, etP, etE, etAnd, etOr, etNot, tB, tTru, tAndP, tOrP, tNotP, tYesP, pVar, pC, pOp, pUn, paNil, paCons, pTup, pLst, pAndV, pOrV, pNotV, pIf, poNone, poSome, pSl, pRev, pCall, pCB, pTIx, piSeq, eP, eF, pth0, pthS, eRd, eFr, eMv, eaNil, eaCons, eaLate, eTup, eLst, eIx, eOp, eUn, eIf, eCall, eCB, eCBF, eSl, eSlH, eTIx, ePop, eCat, eiSeq, eiRange, eiEnum, dputs, dget, dset, dwipe, getP, getD, setP, getAll, fnEn, startD, opAdd, opSub, opMul, opMod, opDiv, opPow, opNeg, opEq, opNe, opLt, opLe, opGt, opGe, opIsN, opNotN, opIx, opSl, opRev, ipAdd, fLen, fTuple, fList, fInt, fAbs, OV.fz, fzL, nol, nolL, List.map_cons, List.map_nil, List.cons_append, List.nil_append, List.replicate_succ, List.replicate_zero, List.append_nil, List.length_cons, List.length_nil, if_true, if_false, eZ, eFz, goF, frzD, frzO, List.map, fzL_im, eqOk, scalD, deq, l3, l1, l2]
        refine ⟨b4, _, [.str "p", .str "q"], rfl, hb4, .inr rfl, by decide, fun b5 x hb5 hx => ⟨rfl, ?_⟩⟩
        have hq : ∃ q : Str, x = .str q ∧ (q = "p" ∨ q = "q") := by
          simp at hx
          rcases hx with rfl | rfl
          · exact ⟨"p", rfl, .inl rfl⟩
          · exact ⟨"q", rfl, .inr rfl⟩
        obtain ⟨q, rfl, hq⟩ := hq
        simp [seq_def, sIf, sRet, sRetN, sAsg, sPar, sPar3, sDrop, sAug, sApp, sAppP, sExt, sIns, sSet, sAugIx, sNext, sBreak, sCont, sRaise, goN, goT, gN, gsNil, gsCons, gT, etP, etE, etAnd, etOr, etNot, tB, tTru, tAndP, tOrP, tNotP, tYesP, pVar, pC, pOp, pUn, paNil, paCons, pTup, pLst, pAndV, pOrV, pNotV, pIf, poNone, poSome, pSl, pRev, pCall, pCB, pTIx, piSeq, eP, eF, pth0, pthS, eRd, eFr, eMv, eaNil, eaCons, eaLate, eTup, eLst, eIx, eOp, eUn, eIf, eCall, eCB, eCBF, eSl, eSlH, eTIx, ePop, eCat, eiSeq, eiRange, eiEnum, dputs, dget, dset, dwipe, getP, getD, setP, getAll, fnEn, startD, opAdd, opSub, opMul, opMod, opDiv, opPow, opNeg, opEq, opNe, opLt, opLe, opGt, opGe, opIsN, opNotN, opIx, opSl, opRev, ipAdd, fLen, fTuple, fList, fInt, fAbs, OV.fz, fzL, nol, nolL, List.map_cons, List.map_nil, List.cons_append, List.nil_append, List.replicate_succ, List.replicate_zero, List.append_nil, List.length_cons, List.length_nil, if_true, if_false, eZ, eFz, goF, frzD, frzO, List.map, fzL_im, eqOk, scalD, deq, l3, l1, pEL_nol]
        refine ⟨⟨by show _ ≤ 16777216; omega, by show _ ≤ 16777216; omega⟩, ?_⟩
        rw [hN4]
        simp [seq_def, sIf, sRet, sRetN, sAsg, sPar, sPar3, sDrop, sAug, sApp, sAppP, sExt, sIns, sSet, sAugIx, sNext, sBreak, sCont, sRaise, goN, goT, gN, gsNil, gsCons, gT, etP, etE, etAnd, etOr, etNot, tB, tTru, tAndP, tOrP, tNotP, tYesP, pVar, pC, pOp, pUn, paNil, paCons, pTup, pLst, pAndV, pOrV, pNotV, pIf, poNone, poSome, pSl, pRev, pCall, pCB, pTIx, piSeq, eP, eF, pth0, pthS, eRd, eFr, eMv, eaNil, eaCons, eaLate, eTup, eLst, eIx, eOp, eUn, eIf, eCall, eCB, eCBF, eSl, eSlH, eTIx, ePop, eCat, eiSeq, eiRange, eiEnum, dputs, dget, dset, dwipe, getP, getD, setP, getAll, fnEn, startD, opAdd, opSub, opMul, opMod, opDiv, opPow, opNeg, opEq, opNe, opLt, opLe, opGt, opGe, opIsN, opNotN, opIx, opSl, opRev, ipAdd, fLen, fTuple, fList, fInt, fAbs, OV.fz, fzL, nol, nolL, List.map_cons, List.map_nil, List.cons_append, List.nil_append, List.replicate_succ, List.replicate_zero, List.append_nil, List.length_cons, List.length_nil, if_true, if_false, eZ, eFz, goF, frzD, frzO, List.map, fzL_im, eqOk, scalD, deq, l3, l1, pEL_nol]
        refine ⟨b5, _, _, rfl, hb5, .inr rfl, ⟨by simp, by simp⟩, fun b6 x hb6 hx => ⟨rfl, ?_⟩⟩
        have hx2 : ∃ l : List Part, x = .tup (pEL l) ∧ (l = i ∨ l = [.page q i] ∨ l = lf "p" :: i) := by
          simp at hx
          rcases hx with rfl | rfl | rfl
          · exact ⟨i, rfl, .inl rfl⟩
          · exact ⟨[.page q i], rfl, .inr (.inl rfl)⟩
          · exact ⟨lf "p" :: i, rfl, .inr (.inr rfl)⟩
        obtain ⟨l, rfl, hl2⟩ := hx2
        simp [seq_def, sIf, sRet, sRetN, sAsg, sPar, sPar3, sDrop, sAug, sApp, sAppP, sExt, sIns, sSet, sAugIx, sNext, sBreak, sCont, sRaise, goN, goT, gN, gsNil, gsCons, gT, etP, etE, etAnd, etOr, etNot, tB, tTru, tAndP, tOrP, tNotP, tYesP, pVar, pC, pOp, pUn, paNil, paCons, pTup, pLst, pAndV, pOrV, pNotV, pIf, poNone, poSome, pSl, pRev, pCall, pCB, pTIx, piSeq, eP, eF, pth0, pthS, eRd, eFr, eMv, eaNil, eaCons, eaLate, eTup, eLst, eIx, eOp, eUn, eIf, eCall, eCB, eCBF, eSl, eSlH, eTIx, ePop, eCat, eiSeq, eiRange, eiEnum, dputs, dget, dset, dwipe, getP, getD, setP, getAll, fnEn, startD, opAdd, opSub, opMul, opMod, opDiv, opPow, opNeg, opEq, opNe, opLt, opLe, opGt, opGe, opIsN, opNotN, opIx, opSl, opRev, ipAdd, fLen, fTuple, fList, fInt, fAbs, OV.fz, fzL, nol, nolL, List.map_cons, List.map_nil, List.cons_append, List.nil_append, List.replicate_succ, List.replicate_zero, List.append_nil, List.length_cons, List.length_nil, if_true, if_false, eZ, eFz, goF, frzD, frzO, List.map, fzL_im, eqOk, scalD, deq, l3, hacc]
        exact add l b6 _ _ _ _ _ _ hb6 ⟨m1, p, q, i, hm1, hp, hq, hi, hl2⟩
      simp [eComp, seq_def, sIf, sRet, sRetN, sAsg, sPar, sPar3, sDrop, sAug, sApp, sAppP, sExt, sIns, sSet, sAugIx, sNext, sBreak, sCont, sRaise, goN, goT, gN, gsNil, gsCons, gT, etP, etE, etAnd, etOr, etNot, tB, tTru, tAndP, tOrP, tNotP, tYesP, pVar, pC, pOp, pUn, paNil, paCons, pTup, pLst, pAndV, pOrV, pNotV, pIf, poNone, poSome, pSl, pRev, pCall, pCB, pTIx, piSeq, eP, eF, pth0, pthS, eRd, eFr, eMv, eaNil, eaCons, eaLate, eTup, eLst, eIx, eOp, eUn, eIf, eCall, eCB, eCBF, eSl, eSlH, eTIx, ePop, eCat, eiSeq, eiRange, eiEnum, dputs, dget, dset, dwipe, getP, getD, setP, getAll, fnEn, startD, opAdd, opSub, opMul, opMod, opDiv, opPow, opNeg, opEq, opNe, opLt, opLe, opGt, opGe, opIsN, opNotN, opIx, opSl, opRev, ipAdd, fLen, fTuple, fList, fInt, fAbs, OV.fz, fzL, nol, nolL, List.map_cons, List.map_nil, List.cons_append, List.nil_append, List.replicate_succ, List.replicate_zero, List.append_nil, List.length_cons, List.length_nil, if_true, if_false, eZ, eFz, goF, frzD, frzO, List.map, fzL_im, eqOk, scalD, deq, l3]
      refine ⟨b2, 2, rfl, hb2, ⟨by decide, by decide⟩, fun b3 v3 hb3 hv30 hv31 => ⟨rfl, ?_⟩⟩
      have hv : v3 = 0 ∨ v3 = 1 := by omega
      rcases hv with rfl | rfl
      · simpa [rngItems, bnd62, rangeD, compE, seq_def, sIf, sRet, sRetN, sAsg, sPar, sPar3, sDrop, sAug, sApp, sAppP, sExt, sIns, sSet, sAugIx, sNext, sBreak, sCont, sRaise, goN, goT, gN, gsNil, gsCons, gT, etP, etE, etAnd, etOr, etNot, tB, tTru, tAndP, tOrP, tNotP, tYesP, pVar, pC, pOp, pUn, paNil, paCons, pTup, pLst, pAndV, pOrV, pNotV, pIf, poNone, poSome, pSl, pRev, pCall, pCB, pTIx, piSeq, eP, eF, pth0, pthS, eRd, eFr, eMv, eaNil, eaCons, eaLate, eTup, eLst, eIx, eOp, eUn, eIf, eCall, eCB, eCBF, eSl, eSlH, eTIx, ePop, eCat, eiSeq, eiRange, eiEnum, dputs, dget, dset, dwipe, getP, getD, setP, getAll, fnEn, startD, opAdd, opSub, opMul, opMod, opDiv, opPow, opNeg, opEq, opNe, opLt, opLe, opGt, opGe, opIsN, opNotN, opIx, opSl, opRev, ipAdd, fLen, fTuple, fList, fInt, fAbs, OV.fz, fzL, nol, nolL, List.map_cons, List.map_nil, List.cons_append, List.nil_append, List.replicate_succ, List.replicate_zero, List.append_nil, List.length_cons, List.length_nil, if_true, if_false, eZ, eFz, goF, frzD, frzO, List.map, fzL_im, eqOk, scalD, deq, pE] using h2 [] b3 _ _ _ hb3 (.inl rfl)
      · simp [rngItems, bnd62, rangeD, compE, eo1__law_straight, seq_def, sIf, sRet, sRetN, sAsg, sPar, sPar3, sDrop, sAug, sApp, sAppP, sExt, sIns, sSet, sAugIx, sNext, sBreak, sCont, sRaise, goN, goT, gN, gsNil, gsCons, gT, etP, etE, etAnd, etOr, etNot, tB, tTru, tAndP, tOrP, tNotP, tYesP, pVar, pC, pOp, pUn, paNil, paCons, pTup, pLst, pAndV, pOrV, pNotV, pIf, poNone, poSome, pSl, pRev, pCall, pCB, pTIx, piSeq, eP, eF, pth0, pthS, eRd, eFr, eMv, eaNil, eaCons, eaLate, eTup, eLst, eIx, eOp, eUn, eIf, eCall, eCB, eCBF, eSl, eSlH, eTIx, ePop, eCat, eiSeq, eiRange, eiEnum, dputs, dget, dset, dwipe, getP, getD, setP, getAll, fnEn, startD, opAdd, opSub, opMul, opMod, opDiv, opPow, opNeg, opEq, opNe, opLt, opLe, opGt, opGe, opIsN, opNotN, opIx, opSl, opRev, ipAdd, fLen, fTuple, fList, fInt, fAbs, OV.fz, fzL, nol, nolL, List.map_cons, List.map_nil, List.cons_append, List.nil_append, List.replicate_succ, List.replicate_zero, List.append_nil, List.length_cons, List.length_nil, if_true, if_false, eZ, eFz, goF, frzD, frzO, List.map, fzL_im, eqOk, scalD, deq, l1, l2, l3, List.range_succ]
        refine ⟨b3, _, [.str "p", .str "q"], rfl, hb3, .inr rfl, by decide, fun b4 x hb4 hx => ⟨rfl, ?_⟩⟩
        have hq : ∃ q : Str, x = .str q ∧ (q = "p" ∨ q = "q") := by
          simp at hx
          rcases hx with rfl | rfl
          · exact ⟨"p", rfl, .inl rfl⟩
          · exact ⟨"q", rfl, .inr rfl⟩
        obtain ⟨q, rfl, hq⟩ := hq
        simpa [seq_def, sIf, sRet, sRetN, sAsg, sPar, sPar3, sDrop, sAug, sApp, sAppP, sExt, sIns, sSet, sAugIx, sNext, sBreak, sCont, sRaise, goN, goT, gN, gsNil, gsCons, gT, etP, etE, etAnd, etOr, etNot, tB, tTru, tAndP, tOrP, tNotP, tYesP, pVar, pC, pOp, pUn, paNil, paCons, pTup, pLst, pAndV, pOrV, pNotV, pIf, poNone, poSome, pSl, pRev, pCall, pCB, pTIx, piSeq, eP, eF, pth0, pthS, eRd, eFr, eMv, eaNil, eaCons, eaLate, eTup, eLst, eIx, eOp, eUn, eIf, eCall, eCB, eCBF, eSl, eSlH, eTIx, ePop, eCat, eiSeq, eiRange, eiEnum, dputs, dget, dset, dwipe, getP, getD, setP, getAll, fnEn, startD, opAdd, opSub, opMul, opMod, opDiv, opPow, opNeg, opEq, opNe, opLt, opLe, opGt, opGe, opIsN, opNotN, opIx, opSl, opRev, ipAdd, fLen, fTuple, fList, fInt, fAbs, OV.fz, fzL, nol, nolL, List.map_cons, List.map_nil, List.cons_append, List.nil_append, List.replicate_succ, List.replicate_zero, List.append_nil, List.length_cons, List.length_nil, if_true, if_false, eZ, eFz, goF, frzD, frzO, List.map, fzL_im, eqOk, scalD, deq, pE, pEL] using h2 [lf q] b4 _ _ _ hb4 (.inr ⟨q, hq, rfl⟩)
    · rw [hB]
      exact skip b1 _ _ _ _ _ _ hb1
theorem str_outer (ms0 ts : List Str) (hms : 0 < ms0.length ∧ ms0.length ≤ 2) (hmn : ∀ m ∈ ms0, m = "m" ∨ m = "n") (ht0 : ts.length ≤ 100) (hts : ts.Nodup) (E : En) : ∀ (ms : List Str) (acc : List Rule) (b : OV) (x4 x5 x6 x7 x8 x9 x10 : Option OV), bagOk b → (∀ m ∈ ms, m = "m" ∨ m = "n") → ms.Nodup → (∀ r ∈ acc, sr ts r) → acc.Pairwise ky → (∀ r ∈ acc, r.1 ∉ ms) → acc.length + ms.length * 100 ≤ 900 →
    (∀ (b' : OV) (acc' : List Rule) (x4 x5 x6 x7 x8 x9 x10 : Option OV), bagOk b' → (∀ r ∈ acc', sr ts r) → acc'.Pairwise ky → acc'.length ≤ acc.length + ms.length * 100 → E.nx [some b', some (.im (.tup (ts.map .str))), some (.im (.tup (ms0.map .str))), some (.lst (acc'.map fun r => .im (rE r))), x4, x5, x6, x7, x8, x9, x10]) →
    forL (gN 4) (L2__law_straight fdTake fdSome fdMixed) E (ms.map .str) [some b, some (.im (.tup (ts.map .str))), some (.im (.tup (ms0.map .str))), some (.lst (acc.map fun r => .im (rE r))), x4, x5, x6, x7, x8, x9, x10]
  | [], acc, b, x4, x5, x6, x7, x8, x9, x10, hb, hm, hnd, ha, hp, hf, hl, h => h b acc x4 x5 x6 x7 x8 x9 x10 hb ha hp (by simp)
  | m :: ms, acc, b, x4, x5, x6, x7, x8, x9, x10, hb, hm, hnd, ha, hp, hf, hl, h => by
    simp only [List.length_cons] at hl h
    obtain ⟨nt, nd⟩ := List.nodup_cons.mp hnd
    rw [List.map_cons]
    refine for_st fun N hN => ?_
    show L2__law_straight _ _ _ _ _
    simp [L2__law_straight, sFor, seq_def, sIf, sRet, sRetN, sAsg, sPar, sPar3, sDrop, sAug, sApp, sAppP, sExt, sIns, sSet, sAugIx, sNext, sBreak, sCont, sRaise, goN, goT, gN, gsNil, gsCons, gT, etP, etE, etAnd, etOr, etNot, tB, tTru, tAndP, tOrP, tNotP, tYesP, pVar, pC, pOp, pUn, paNil, paCons, pTup, pLst, pAndV, pOrV, pNotV, pIf, poNone, poSome, pSl, pRev, pCall, pCB, pTIx, piSeq, eP, eF, pth0, pthS, eRd, eFr, eMv, eaNil, eaCons, eaLate, eTup, eLst, eIx, eOp, eUn, eIf, eCall, eCB, eCBF, eSl, eSlH, eTIx, ePop, eCat, eiSeq, eiRange, eiEnum, dputs, dget, dset, dwipe, getP, getD, setP, getAll, fnEn, startD, opAdd, opSub, opMul, opMod, opDiv, opPow, opNeg, opEq, opNe, opLt, opLe, opGt, opGe, opIsN, opNotN, opIx, opSl, opRev, ipAdd, fLen, fTuple, fList, fInt, fAbs, OV.fz, fzL, nol, nolL, List.map_cons, List.map_nil, List.cons_append, List.nil_append, List.replicate_succ, List.replicate_zero, List.append_nil, List.length_cons, List.length_nil, if_true, if_false, eZ, eFz, goF, frzD, frzO, List.map, fzL_im, eqOk, scalD, deq]
    refine str_inner ms0 ts m (hm m List.mem_cons_self) hms hmn _ ts acc b _ _ _ _ _ _ hb (fun _ m => m) hts ha hp (fun r mr e => absurd (by rw [e]; exact List.mem_cons_self) (hf r mr)) (by omega) fun b2 acc2 x5 x6 x7 x8 x9 x10 hb2 h2 hp2 hf2 hl2 => ?_
    show N _
    rw [hN]
    refine str_outer ms0 ts hms hmn ht0 hts E ms acc2 b2 _ x5 x6 x7 x8 x9 x10 hb2 (fun q mq => hm q (List.mem_cons_of_mem _ mq)) nd h2 hp2 (fun r mr me => ?_) (by omega) fun b3 acc3 x4 x5 x6 x7 x8 x9 x10 hb3 h3 hp3 hl3 => h b3 acc3 x4 x5 x6 x7 x8 x9 x10 hb3 h3 hp3 (by omega)
    rcases hf2 r mr with q | q
    · exact hf r q (List.mem_cons_of_mem _ me)
    · rw [q] at me
      exact nt me
def fdStr : FD := fun os Q _ => ∃ (b : OV) (ts : List Str), os = [b, .im (.tup (ts.map .str))] ∧ bagOk b ∧ ts.length ≤ 100 ∧ ts.Nodup ∧
  ∀ (b' : OV) (ms : List Str) (rs : List Rule), bagOk b' → (∀ r ∈ rs, sr ts r) → rs.Pairwise ky → rs.length ≤ 200 → Q (.im (tplE ms rs)) [b']
theorem vc_str (os : List OV) (Qd : OV → List OV → Prop) (Xd : Xc → Prop) (h : fdStr os Qd Xd) : s__law_straight fdTake fdSome fdMixed (fnEn [0] Qd Xd) (startD 11 os) := by
  obtain ⟨b, ts, rfl, hb, ht, hts, hQ⟩ := h
  have l2 : 2 ≤ line := by decide
  unfold s__law_straight
  refine seq_st fun N hN => ?_
  have fin : ∀ (ms : List Str) (b' : OV), bagOk b' → (0 < ms.length ∧ ms.length ≤ 2) → (∀ m ∈ ms, m = "m" ∨ m = "n") → ms.Nodup → N [some b', some (.im (.tup (ts.map .str))), some (.im (.tup (ms.map .str))), none, none, none, none, none, none, none, none] := fun ms b' hb' hms hm hnd => by
    rw [hN]
    simp [sFor, seq_def, sIf, sRet, sRetN, sAsg, sPar, sPar3, sDrop, sAug, sApp, sAppP, sExt, sIns, sSet, sAugIx, sNext, sBreak, sCont, sRaise, goN, goT, gN, gsNil, gsCons, gT, etP, etE, etAnd, etOr, etNot, tB, tTru, tAndP, tOrP, tNotP, tYesP, pVar, pC, pOp, pUn, paNil, paCons, pTup, pLst, pAndV, pOrV, pNotV, pIf, poNone, poSome, pSl, pRev, pCall, pCB, pTIx, piSeq, eP, eF, pth0, pthS, eRd, eFr, eMv, eaNil, eaCons, eaLate, eTup, eLst, eIx, eOp, eUn, eIf, eCall, eCB, eCBF, eSl, eSlH, eTIx, ePop, eCat, eiSeq, eiRange, eiEnum, dputs, dget, dset, dwipe, getP, getD, setP, getAll, fnEn, startD, opAdd, opSub, opMul, opMod, opDiv, opPow, opNeg, opEq, opNe, opLt, opLe, opGt, opGe, opIsN, opNotN, opIx, opSl, opRev, ipAdd, fLen, fTuple, fList, fInt, fAbs, OV.fz, fzL, nol, nolL, List.map_cons, List.map_nil, List.cons_append, List.nil_append, List.replicate_succ, List.replicate_zero, List.append_nil, List.length_cons, List.length_nil, if_true, if_false, eZ, eFz, goF, frzD, frzO, List.map, fzL_im, eqOk, scalD, deq]
    refine str_outer ms ts hms hm ht hts _ ms [] b' _ _ _ _ _ _ _ hb' hm hnd (by simp) .nil (by simp) (by simp; omega) fun b2 rs x4 x5 x6 x7 x8 x9 x10 hb2 hr hp hl => ?_
    simp [seq_def, sIf, sRet, sRetN, sAsg, sPar, sPar3, sDrop, sAug, sApp, sAppP, sExt, sIns, sSet, sAugIx, sNext, sBreak, sCont, sRaise, goN, goT, gN, gsNil, gsCons, gT, etP, etE, etAnd, etOr, etNot, tB, tTru, tAndP, tOrP, tNotP, tYesP, pVar, pC, pOp, pUn, paNil, paCons, pTup, pLst, pAndV, pOrV, pNotV, pIf, poNone, poSome, pSl, pRev, pCall, pCB, pTIx, piSeq, eP, eF, pth0, pthS, eRd, eFr, eMv, eaNil, eaCons, eaLate, eTup, eLst, eIx, eOp, eUn, eIf, eCall, eCB, eCBF, eSl, eSlH, eTIx, ePop, eCat, eiSeq, eiRange, eiEnum, dputs, dget, dset, dwipe, getP, getD, setP, getAll, fnEn, startD, opAdd, opSub, opMul, opMod, opDiv, opPow, opNeg, opEq, opNe, opLt, opLe, opGt, opGe, opIsN, opNotN, opIx, opSl, opRev, ipAdd, fLen, fTuple, fList, fInt, fAbs, OV.fz, fzL, nol, nolL, List.map_cons, List.map_nil, List.cons_append, List.nil_append, List.replicate_succ, List.replicate_zero, List.append_nil, List.length_cons, List.length_nil, if_true, if_false, eZ, eFz, goF, frzD, frzO, List.map, fzL_im, eqOk, scalD, deq, fz_rules, rules_nol, l2]
    simp at hl
    simpa [tplE] using hQ b2 ms rs hb2 hr hp (by omega)
  simp [seq_def, sIf, sRet, sRetN, sAsg, sPar, sPar3, sDrop, sAug, sApp, sAppP, sExt, sIns, sSet, sAugIx, sNext, sBreak, sCont, sRaise, goN, goT, gN, gsNil, gsCons, gT, etP, etE, etAnd, etOr, etNot, tB, tTru, tAndP, tOrP, tNotP, tYesP, pVar, pC, pOp, pUn, paNil, paCons, pTup, pLst, pAndV, pOrV, pNotV, pIf, poNone, poSome, pSl, pRev, pCall, pCB, pTIx, piSeq, eP, eF, pth0, pthS, eRd, eFr, eMv, eaNil, eaCons, eaLate, eTup, eLst, eIx, eOp, eUn, eIf, eCall, eCB, eCBF, eSl, eSlH, eTIx, ePop, eCat, eiSeq, eiRange, eiEnum, dputs, dget, dset, dwipe, getP, getD, setP, getAll, fnEn, startD, opAdd, opSub, opMul, opMod, opDiv, opPow, opNeg, opEq, opNe, opLt, opLe, opGt, opGe, opIsN, opNotN, opIx, opSl, opRev, ipAdd, fLen, fTuple, fList, fInt, fAbs, OV.fz, fzL, nol, nolL, List.map_cons, List.map_nil, List.cons_append, List.nil_append, List.replicate_succ, List.replicate_zero, List.append_nil, List.length_cons, List.length_nil, if_true, if_false, eZ, eFz, goF, frzD, frzO, List.map, fzL_im, eqOk, scalD, deq, l2]
  refine ⟨b, 2, rfl, hb, ⟨by decide, by decide⟩, fun b1 v hb1 hv0 hv1 => ⟨rfl, ?_⟩⟩
  have hv : v = 0 ∨ v = 1 := by omega
  rcases hv with rfl | rfl
  · simpa [seq_def, sIf, sRet, sRetN, sAsg, sPar, sPar3, sDrop, sAug, sApp, sAppP, sExt, sIns, sSet, sAugIx, sNext, sBreak, sCont, sRaise, goN, goT, gN, gsNil, gsCons, gT, etP, etE, etAnd, etOr, etNot, tB, tTru, tAndP, tOrP, tNotP, tYesP, pVar, pC, pOp, pUn, paNil, paCons, pTup, pLst, pAndV, pOrV, pNotV, pIf, poNone, poSome, pSl, pRev, pCall, pCB, pTIx, piSeq, eP, eF, pth0, pthS, eRd, eFr, eMv, eaNil, eaCons, eaLate, eTup, eLst, eIx, eOp, eUn, eIf, eCall, eCB, eCBF, eSl, eSlH, eTIx, ePop, eCat, eiSeq, eiRange, eiEnum, dputs, dget, dset, dwipe, getP, getD, setP, getAll, fnEn, startD, opAdd, opSub, opMul, opMod, opDiv, opPow, opNeg, opEq, opNe, opLt, opLe, opGt, opGe, opIsN, opNotN, opIx, opSl, opRev, ipAdd, fLen, fTuple, fList, fInt, fAbs, OV.fz, fzL, nol, nolL, List.map_cons, List.map_nil, List.cons_append, List.nil_append, List.replicate_succ, List.replicate_zero, List.append_nil, List.length_cons, List.length_nil, if_true, if_false, eZ, eFz, goF, frzD, frzO, List.map, fzL_im, eqOk, scalD, deq, cutD, sIxD] using fin ["m"] b1 hb1 (by simp) (by simp) (by simp)
  · simpa [seq_def, sIf, sRet, sRetN, sAsg, sPar, sPar3, sDrop, sAug, sApp, sAppP, sExt, sIns, sSet, sAugIx, sNext, sBreak, sCont, sRaise, goN, goT, gN, gsNil, gsCons, gT, etP, etE, etAnd, etOr, etNot, tB, tTru, tAndP, tOrP, tNotP, tYesP, pVar, pC, pOp, pUn, paNil, paCons, pTup, pLst, pAndV, pOrV, pNotV, pIf, poNone, poSome, pSl, pRev, pCall, pCB, pTIx, piSeq, eP, eF, pth0, pthS, eRd, eFr, eMv, eaNil, eaCons, eaLate, eTup, eLst, eIx, eOp, eUn, eIf, eCall, eCB, eCBF, eSl, eSlH, eTIx, ePop, eCat, eiSeq, eiRange, eiEnum, dputs, dget, dset, dwipe, getP, getD, setP, getAll, fnEn, startD, opAdd, opSub, opMul, opMod, opDiv, opPow, opNeg, opEq, opNe, opLt, opLe, opGt, opGe, opIsN, opNotN, opIx, opSl, opRev, ipAdd, fLen, fTuple, fList, fInt, fAbs, OV.fz, fzL, nol, nolL, List.map_cons, List.map_nil, List.cons_append, List.nil_append, List.replicate_succ, List.replicate_zero, List.append_nil, List.length_cons, List.length_nil, if_true, if_false, eZ, eFz, goF, frzD, frzO, List.map, fzL_im, eqOk, scalD, deq, cutD, sIxD] using fin ["m", "n"] b1 hb1 (by simp) (by simp) (by decide)
end G66
namespace G66
open PySem DL
/-- the while of word_of: g with none left, above S -/
def clo (ts : List Str) : Str → Nat → List (Str × Nat) → List Int × List (Str × Nat)
  | g, n + 1, S => ([], (g, n + 1) :: S)
  | g, 0, [] => ([(2 * (ts.idxOf g : Nat) : Int) + 1], [])
  | g, 0, (h, n) :: S => (((2 * (ts.idxOf g : Nat) : Int) + 1) :: (clo ts h (n - 1) S).1, (clo ts h (n - 1) S).2)
def wh (ts : List Str) : List (Str × Nat) → List Int × List (Str × Nat)
  | [] => ([], [])
  | (g, n) :: S => clo ts g n S
def dcr : List (Str × Nat) → List (Str × Nat)
  | [] => []
  | (g, n) :: S => (g, n - 1) :: S
theorem clo_zero (ts : List Str) (g : Str) (S : List (Str × Nat)) : clo ts g 0 S = (((2 * (ts.idxOf g : Nat) : Int) + 1) :: (wh ts (dcr S)).1, (wh ts (dcr S)).2) := by
  cases S with
  | nil => rfl
  | cons e S => rfl
/-- a node taken -/
def stp (ts : List Str) (a : List Int × List (Str × Nat)) (e : Str × Nat) : List Int × List (Str × Nat) :=
  (a.1 ++ [(2 * (ts.idxOf e.1 : Nat) : Int)] ++ (clo ts e.1 e.2 a.2).1, (clo ts e.1 e.2 a.2).2)
def run (ts : List Str) : List Int × List (Str × Nat) → List (Str × Nat) → List Int × List (Str × Nat)
  | a, [] => a
  | a, e :: l => run ts (stp ts a e) l
theorem run_append (ts : List Str) : ∀ (l r : List (Str × Nat)) (a), run ts a (l ++ r) = run ts (run ts a l) r
  | [], _, _ => rfl
  | e :: l, r, a => run_append ts l r _
mutual
theorem run_flat (ts : List Str) : ∀ (t : Tr) (f : List Int) (S : List (Str × Nat)), run ts (f, S) (flat t) = (f ++ trW ts t ++ (wh ts (dcr S)).1, (wh ts (dcr S)).2)
  | .mk t [], f, S => by
    simp only [flat, flatL, run, stp, List.length_nil, clo_zero, trW, trWL]
    simp
  | .mk t (u :: l), f, S => by
    have := run_flatL ts (u :: l) (by simp) (f ++ [(2 * (ts.idxOf t : Nat) : Int)]) t S
    simp only [flat, run, stp, List.length_cons, clo]
    rw [List.append_nil]
    simp only [List.length_cons] at this
    rw [this, clo_zero]
    simp [trW]
theorem run_flatL (ts : List Str) : ∀ (l : List Tr), l ≠ [] → ∀ (f : List Int) (g : Str) (S : List (Str × Nat)), run ts (f, (g, l.length) :: S) (flatL l) = (f ++ trWL ts l ++ (clo ts g 0 S).1, (clo ts g 0 S).2)
  | [u], _, f, g, S => by
    simp only [flatL, List.append_nil, trWL]
    rw [run_flat ts u]
    rfl
  | u :: v :: l, _, f, g, S => by
    have := run_flatL ts (v :: l) (by simp) (f ++ trW ts u) g S
    rw [flatL, run_append, run_flat ts u]
    simp only [dcr, wh, List.length_cons, Nat.add_sub_cancel, clo]
    rw [List.append_nil]
    simp only [List.length_cons] at this
    rw [this]
    simp [trWL]
end
theorem run_all (ts : List Str) : ∀ (l : List Tr) (f : List Int), run ts (f, []) (flatL l) = (f ++ trWL ts l, [])
  | [], f => by simp [flatL, run, trWL]
  | u :: l, f => by
    rw [flatL, run_append, run_flat ts u]
    simp only [dcr, wh, List.append_nil]
    rw [run_all ts l]
    simp [trWL]
theorem run_len (ts : List Str) : ∀ (l : List (Str × Nat)) (a), a.1.length ≤ (run ts a l).1.length
  | [], a => Nat.le_refl _
  | e :: l, a => by
    have := run_len ts l (stp ts a e)
    simp only [run]
    simp only [stp, List.length_append] at this ⊢
    omega
theorem clo_len (ts : List Str) : ∀ (S : List (Str × Nat)) (g : Str) (n : Nat), (clo ts g n S).2.length ≤ S.length + 1
  | S, g, n + 1 => by simp [clo]
  | [], g, 0 => by simp [clo]
  | (h, n) :: S, g, 0 => by
    have := clo_len ts S h (n - 1)
    simp only [clo, List.length_cons]
    omega
theorem clo_pos (ts : List Str) : ∀ (S : List (Str × Nat)) (g : Str) (n : Nat), (∀ e ∈ S, 0 < e.2) → ∀ e ∈ (clo ts g n S).2, 0 < e.2
  | S, g, n + 1, h => by
    intro e m
    simp only [clo, List.mem_cons] at m
    rcases m with rfl | m
    · exact Nat.succ_pos _
    · exact h e m
  | [], g, 0, h => by simp [clo]
  | (k, n) :: S, g, 0, h => clo_pos ts S k (n - 1) fun e m => h e (List.mem_cons_of_mem _ m)
theorem clo_in (ts : List Str) (P : Str → Prop) : ∀ (S : List (Str × Nat)) (g : Str) (n : Nat), P g → (∀ e ∈ S, P e.1) → ∀ e ∈ (clo ts g n S).2, P e.1
  | S, g, n + 1, hg, h => by
    intro e m
    simp only [clo, List.mem_cons] at m
    rcases m with rfl | m
    · exact hg
    · exact h e m
  | [], g, 0, hg, h => by simp [clo]
  | (k, n) :: S, g, 0, hg, h => clo_in ts P S k (n - 1) (h _ List.mem_cons_self) fun e m => h e (List.mem_cons_of_mem _ m)
/-- the stack as a list of lists -/
abbrev stE (e : Str × Nat) : OV := .lst [.im (.str e.1), .im (.int (e.2 : Nat))]
def stk (S : List (Str × Nat)) : List OV := S.reverse.map stE
theorem stk_nil : stk [] = [] := rfl
theorem stk_snoc (e : Str × Nat) (S : List (Str × Nat)) : stk (e :: S) = stk S ++ [stE e] := by simp [stk]
theorem stk_len (S : List (Str × Nat)) : (stk S).length = S.length := by simp [stk]
theorem fz_stk (S : List (Str × Nat)) : fzL (stk S) = S.reverse.map fun e => D.lst [.str e.1, .int (e.2 : Nat)] := by unfold stk; rw [fzL_map, List.map_map]; rfl
theorem fz_snoc (e : Str × Nat) (S : List (Str × Nat)) : fzL (stk (e :: S)) = fzL (stk S) ++ [.lst [.str e.1, .int (e.2 : Nat)]] := by rw [fz_stk, fz_stk]; simp
theorem okL_mem : ∀ {l : List D}, (∀ d ∈ l, okd d = true) → okL l = true
  | [], _ => rfl
  | d :: l, h => by simp [okL, h d List.mem_cons_self, okL_mem fun d m => h d (List.mem_cons_of_mem _ m)]
theorem depL_mem {n : Nat} : ∀ {l : List D}, (∀ d ∈ l, dep d ≤ n) → depL l ≤ n
  | [], _ => Nat.zero_le _
  | d :: l, h => by
    have h1 := h d List.mem_cons_self
    have h2 := depL_mem (l := l) fun d m => h d (List.mem_cons_of_mem _ m)
    simp only [depL]
    omega
theorem cmp_stk {S : List (Str × Nat)} (h : ∀ e ∈ S, okS e.1) : cmpOk (.lst (fzL (stk S))) := by
  rw [fz_stk]
  refine ⟨?_, ?_⟩
  · simp only [okd]
    refine okL_mem fun d m => ?_
    obtain ⟨e, me, rfl⟩ := List.mem_map.mp m
    have := h e (List.mem_reverse.mp me)
    simpa [okd, okL] using this
  · simp only [dep]
    have : depL (S.reverse.map fun e => D.lst [.str e.1, .int (e.2 : Nat)]) ≤ 1 := depL_mem fun d m => by
      obtain ⟨e, me, rfl⟩ := List.mem_map.mp m
      simp [dep, depL]
    omega
theorem cmp_nil : cmpOk (.lst []) := ⟨rfl, by decide⟩
theorem deq_nil (l : List D) : deq (.lst l) (.lst []) = l.isEmpty := by cases l <;> simp [deq, deqL]
theorem anyStr (ts : List Str) (t : Str) : ((ts.map D.str).any fun z => deq z (.str t)) = decide (t ∈ ts) := by
  induction ts with
  | nil => rfl
  | cons a ts ih =>
    simp only [List.map_cons, List.any_cons, ih, deq]
    by_cases e : a = t
    · subst e; simp
    · have e2 : ¬ t = a := fun z => e z.symm
      simp [e, e2]
theorem scal_strs (ts : List Str) : (ts.map D.str).all scalD = true := by simp [scalD]
theorem atD_last {α : Type} (l : List α) (x : α) : atD (l ++ [x]) (-1) = some x := by
  have h : ixD (l ++ [x]).length (-1) = some l.length := by
    unfold ixD
    rw [if_neg (by decide), if_pos (by simp; omega)]
    simp
    omega
  unfold atD
  rw [h]
  simp
theorem wo_test (ts : List Str) (T : List (Str × Nat)) (hT : ∀ e ∈ T, okS e.1) (d0 d1 d2 d4 d5 : Option OV) (Q : Bool → DE → Prop) (X : Xc → DE → Prop)
    (h : Q (match T with | [] => false | (_, k) :: _ => k == 0) [d0, d1, d2, some (.lst (stk T)), d4, d5]) : wt1_word_of [d0, d1, d2, some (.lst (stk T)), d4, d5] Q X := by
  have hc := cmp_stk hT
  have hn := cmp_nil
  cases T with
  | nil => simpa [wt1_word_of, seq_def, sIf, sRet, sRetN, sAsg, sPar, sPar3, sDrop, sAug, sApp, sAppP, sExt, sIns, sSet, sAugIx, sNext, sBreak, sCont, sRaise, goN, goT, gN, gsNil, gsCons, gT, etP, etE, etAnd, etOr, etNot, tB, tTru, tAndP, tOrP, tNotP, tYesP, pVar, pC, pOp, pUn, paNil, paCons, pTup, pLst, pAndV, pOrV, pNotV, pIf, poNone, poSome, pSl, pRev, pCall, pCB, pTIx, piSeq, eP, eF, pth0, pthS, eRd, eFr, eMv, eaNil, eaCons, eaLate, eTup, eLst, eIx, eOp, eUn, eIf, eCall, eCB, eCBF, eSl, eSlH, eTIx, ePop, eCat, eiSeq, eiRange, eiEnum, dputs, dget, dset, dwipe, getP, getD, setP, getAll, fnEn, startD, opAdd, opSub, opMul, opMod, opDiv, opPow, opNeg, opEq, opNe, opLt, opLe, opGt, opGe, opIsN, opNotN, opIx, opSl, opRev, ipAdd, fLen, fTuple, fList, fInt, fAbs, OV.fz, fzL, nol, nolL, List.map_cons, List.map_nil, List.cons_append, List.nil_append, List.replicate_succ, List.replicate_zero, List.append_nil, List.length_cons, List.length_nil, if_true, if_false, eZ, eFz, goF, frzD, frzO, List.map, fzL_im, eqOk, scalD, deq, stk_nil, cmpOk, okd, okL, dep, depL, deqL] using h
  | cons e T =>
    obtain ⟨g, k⟩ := e
    generalize hz : stk ((g, k) :: T) = z at *
    have ef : fzL z = fzL (stk T) ++ [.lst [.str g, .int (k : Nat)]] := by rw [← hz]; exact fz_snoc (g, k) T
    rw [ef] at hc
    have ha := atD_last (fzL (stk T)) (D.lst [.str g, .int (k : Nat)])
    simp [wt1_word_of, etP, tAndP, tB, pOp, pVar, dget, pC, pLst, paNil, pUn, OV.fz, ef]
    refine ⟨.inr ⟨hc, hn⟩, ?_⟩
    have e0 : deq (.lst (fzL (stk T) ++ [.lst [.str g, .int (k : Nat)]])) (.lst []) = false := by rw [deq_nil]; simp
    have ha2 : atD [D.str g, D.int (k : Nat)] 1 = some (.int (k : Nat)) := rfl
    have e3 : deq (.int (k : Nat)) (.int 0) = (k == 0) := by
      simp only [deq]
      cases k <;> rfl
    simp only [e0, opNeg, opIx, ha, ha2, opEq, eqOk, scalD, e3, Bool.not_false, if_true]
    exact ⟨.inl ⟨trivial, trivial⟩, h⟩
theorem set_last {α : Type} (l : List α) (x y : α) : (l ++ [x]).set l.length y = l ++ [y] := by simp
theorem ix_last (n : Nat) : ixD (n + 1) (-1) = some n := by
  unfold ixD
  rw [if_neg (by decide), if_pos (by omega)]
  simp
  omega
theorem wo_body (ts : List Str) (g : Str) (hg : g ∈ ts) (T : List (Str × Nat)) (hT : ∀ e ∈ T, okS e.1 ∧ 0 < e.2) (f : List Int) (hf : f.length < line) (d1 d4 d5 : Option OV) (E : En)
    (h : E.nx [some (.im (.tup (ts.map .str))), d1, some (.lst ((f ++ [(2 * (ts.idxOf g : Nat) : Int) + 1]).map fun i => .im (.int i))), some (.lst (stk (dcr T))), d4, d5]) :
    L1_word_of E [some (.im (.tup (ts.map .str))), d1, some (.lst (f.map fun i => .im (.int i))), some (.lst (stk ((g, 0) :: T))), d4, d5] := by
  have m2 : ∀ j, mulOk 2 j := fun j => mulOk_l (by decide) (by decide)
  have hc := cmp_stk fun e m => (hT e m).1
  have hn := cmp_nil
  unfold L1_word_of
  refine seq_st fun N hN => ?_
  rw [stk_snoc]
  simp [seq_def, sIf, sRet, sRetN, sAsg, sPar, sPar3, sDrop, sAug, sApp, sAppP, sExt, sIns, sSet, sAugIx, sNext, sBreak, sCont, sRaise, goN, goT, gN, gsNil, gsCons, gT, etP, etE, etAnd, etOr, etNot, tB, tTru, tAndP, tOrP, tNotP, tYesP, pVar, pC, pOp, pUn, paNil, paCons, pTup, pLst, pAndV, pOrV, pNotV, pIf, poNone, poSome, pSl, pRev, pCall, pCB, pTIx, piSeq, eP, eF, pth0, pthS, eRd, eFr, eMv, eaNil, eaCons, eaLate, eTup, eLst, eIx, eOp, eUn, eIf, eCall, eCB, eCBF, eSl, eSlH, eTIx, ePop, eCat, eiSeq, eiRange, eiEnum, dputs, dget, dset, dwipe, getP, getD, setP, getAll, fnEn, startD, opAdd, opSub, opMul, opMod, opDiv, opPow, opNeg, opEq, opNe, opLt, opLe, opGt, opGe, opIsN, opNotN, opIx, opSl, opRev, ipAdd, fLen, fTuple, fList, fInt, fAbs, OV.fz, fzL, nol, nolL, List.map_cons, List.map_nil, List.cons_append, List.nil_append, List.replicate_succ, List.replicate_zero, List.append_nil, List.length_cons, List.length_nil, if_true, if_false, eZ, eFz, goF, frzD, frzO, List.map, fzL_im, eqOk, scalD, deq, isTup, mIndex, strsOf_map, hg, m2, hf, atD, ixD, strs_nol]
  rw [hN]
  refine if_st fun A B hA hB => ?_
  cases T with
  | nil =>
    simp [seq_def, sIf, sRet, sRetN, sAsg, sPar, sPar3, sDrop, sAug, sApp, sAppP, sExt, sIns, sSet, sAugIx, sNext, sBreak, sCont, sRaise, goN, goT, gN, gsNil, gsCons, gT, etP, etE, etAnd, etOr, etNot, tB, tTru, tAndP, tOrP, tNotP, tYesP, pVar, pC, pOp, pUn, paNil, paCons, pTup, pLst, pAndV, pOrV, pNotV, pIf, poNone, poSome, pSl, pRev, pCall, pCB, pTIx, piSeq, eP, eF, pth0, pthS, eRd, eFr, eMv, eaNil, eaCons, eaLate, eTup, eLst, eIx, eOp, eUn, eIf, eCall, eCB, eCBF, eSl, eSlH, eTIx, ePop, eCat, eiSeq, eiRange, eiEnum, dputs, dget, dset, dwipe, getP, getD, setP, getAll, fnEn, startD, opAdd, opSub, opMul, opMod, opDiv, opPow, opNeg, opEq, opNe, opLt, opLe, opGt, opGe, opIsN, opNotN, opIx, opSl, opRev, ipAdd, fLen, fTuple, fList, fInt, fAbs, OV.fz, fzL, nol, nolL, List.map_cons, List.map_nil, List.cons_append, List.nil_append, List.replicate_succ, List.replicate_zero, List.append_nil, List.length_cons, List.length_nil, if_true, if_false, eZ, eFz, goF, frzD, frzO, List.map, fzL_im, eqOk, scalD, deq, stk_nil, cmpOk, okd, okL, dep, depL, deqL]
    rw [hB]
    simpa [dcr, stk_nil, seq_def, sIf, sRet, sRetN, sAsg, sPar, sPar3, sDrop, sAug, sApp, sAppP, sExt, sIns, sSet, sAugIx, sNext, sBreak, sCont, sRaise, goN, goT, gN, gsNil, gsCons, gT, etP, etE, etAnd, etOr, etNot, tB, tTru, tAndP, tOrP, tNotP, tYesP, pVar, pC, pOp, pUn, paNil, paCons, pTup, pLst, pAndV, pOrV, pNotV, pIf, poNone, poSome, pSl, pRev, pCall, pCB, pTIx, piSeq, eP, eF, pth0, pthS, eRd, eFr, eMv, eaNil, eaCons, eaLate, eTup, eLst, eIx, eOp, eUn, eIf, eCall, eCB, eCBF, eSl, eSlH, eTIx, ePop, eCat, eiSeq, eiRange, eiEnum, dputs, dget, dset, dwipe, getP, getD, setP, getAll, fnEn, startD, opAdd, opSub, opMul, opMod, opDiv, opPow, opNeg, opEq, opNe, opLt, opLe, opGt, opGe, opIsN, opNotN, opIx, opSl, opRev, ipAdd, fLen, fTuple, fList, fInt, fAbs, OV.fz, fzL, nol, nolL, List.map_cons, List.map_nil, List.cons_append, List.nil_append, List.replicate_succ, List.replicate_zero, List.append_nil, List.length_cons, List.length_nil, if_true, if_false, eZ, eFz, goF, frzD, frzO, List.map, fzL_im, eqOk, scalD, deq] using h
  | cons e T =>
    obtain ⟨q, k⟩ := e
    have hk := (hT _ List.mem_cons_self).2
    generalize hz : stk ((q, k) :: T) = z at *
    have ef : fzL z = fzL (stk T) ++ [.lst [.str q, .int (k : Nat)]] := by rw [← hz]; exact fz_snoc (q, k) T
    rw [ef] at hc
    simp [etP, tB, pOp, pVar, dget, pLst, paNil, OV.fz, ef]
    refine ⟨.inr ⟨hc, hn⟩, ?_⟩
    simp [deq_nil]
    rw [hA, ← hz, stk_snoc]
    have e1 : ((k - 1 : Nat) : Int) = (k : Int) - 1 := by simp at hk; omega
    have e4 : stE (q, k - 1) = OV.lst [.im (.str q), .im (.int ((k : Int) - 1))] := by
      show OV.lst [.im (.str q), .im (.int ((k - 1 : Nat) : Int))] = _
      rw [e1]
    simp only [dcr, stk_snoc, e4] at h
    simp [sAugIx, pthS, pth0, dget, pUn, pC, opNeg, getP, atD, ix_last, opSub, nol, setP, dset]
    simp [ixD]
    simpa using h
theorem wo_while (ts : List Str) (hts : ∀ t ∈ ts, okS t) (E : En) (d1 d4 d5 : Option OV) (f0 : List Int) (S : List (Str × Nat)) (hS : ∀ e ∈ S, e.1 ∈ ts) (hp : ∀ e ∈ S.tail, 0 < e.2) (hl : (f0 ++ (wh ts S).1).length ≤ 100000)
    (h : E.nx [some (.im (.tup (ts.map .str))), d1, some (.lst ((f0 ++ (wh ts S).1).map fun i => .im (.int i))), some (.lst (stk (wh ts S).2)), d4, d5]) :
    sWhile wt1_word_of L1_word_of E [some (.im (.tup (ts.map .str))), d1, some (.lst (f0.map fun i => .im (.int i))), some (.lst (stk S)), d4, d5] := by
  refine while_rule (fun n δ => ∃ (f : List Int) (T : List (Str × Nat)), δ = [some (.im (.tup (ts.map .str))), d1, some (.lst (f.map fun i => .im (.int i))), some (.lst (stk T)), d4, d5] ∧ n = T.length ∧
    (∀ e ∈ T, e.1 ∈ ts) ∧ (∀ e ∈ T.tail, 0 < e.2) ∧ f ++ (wh ts T).1 = f0 ++ (wh ts S).1 ∧ (wh ts T).2 = (wh ts S).2) S.length ⟨f0, S, rfl, rfl, hS, hp, rfl, rfl⟩ ?_
  rintro n δ ⟨f, T, rfl, rfl, hT, hpT, e1, e2⟩
  refine wo_test ts T (fun e m => hts _ (hT e m)) _ _ _ _ _ _ _ ?_
  rw [← e1, ← e2] at h
  rw [← e1] at hl
  cases T with
  | nil => simpa [wh] using h
  | cons e T =>
    obtain ⟨g, k⟩ := e
    cases k with
    | succ k => simpa [wh, clo] using h
    | zero =>
      have ec := clo_zero ts g T
      have ew : wh ts ((g, 0) :: T) = clo ts g 0 T := rfl
      rw [ew, ec] at e1 e2 hl
      simp only [List.length_append, List.length_cons] at hl
      have goal : ∃ m, m < T.length + 1 ∧ ∃ (f2 : List Int) (T2 : List (Str × Nat)), [some (OV.im (.tup (ts.map .str))), d1, some (.lst ((f ++ [(2 * (ts.idxOf g : Nat) : Int) + 1]).map fun i => .im (.int i))), some (.lst (stk (dcr T))), d4, d5] = [some (.im (.tup (ts.map .str))), d1, some (.lst (f2.map fun i => .im (.int i))), some (.lst (stk T2)), d4, d5] ∧ m = T2.length ∧
          (∀ e ∈ T2, e.1 ∈ ts) ∧ (∀ e ∈ T2.tail, 0 < e.2) ∧ f2 ++ (wh ts T2).1 = f0 ++ (wh ts S).1 ∧ (wh ts T2).2 = (wh ts S).2 := by
        refine ⟨_, ?_, f ++ [(2 * (ts.idxOf g : Nat) : Int) + 1], dcr T, rfl, rfl, ?_, ?_, ?_, e2⟩
        · cases T with
          | nil => simp [dcr]
          | cons e T => simp [dcr]
        · intro e m
          cases T with
          | nil => simp [dcr] at m
          | cons d T =>
            simp only [dcr, List.mem_cons] at m
            rcases m with rfl | m
            · exact hT d (by simp)
            · exact hT e (by simp [m])
        · intro e m
          cases T with
          | nil => simp [dcr] at m
          | cons d T => exact hpT e (by simp only [dcr, List.tail_cons] at m; simp [m])
        · rw [← e1]
          simp
      simp only [beq_self_eq_true, if_true]
      exact wo_body ts g (hT _ List.mem_cons_self) T (fun e m => ⟨hts _ (hT e (List.mem_cons_of_mem _ m)), hpT e (by simpa using m)⟩) f (by show _ < 16777216; omega) _ _ _ _ goal
theorem nin_test (ts : List Str) (t : Str) (δ : DE) (i j : Nat) (h1 : dget δ i = some (.im (.str t))) (h2 : dget δ j = some (.im (.tup (ts.map .str)))) (Q : Bool → DE → Prop) (X : Xc → DE → Prop) (h : Q (!decide (t ∈ ts)) δ) : etP (tB (pOp opNotIn (pVar i) (pVar j))) δ Q X := by
  simp only [etP, tB, pOp, pVar, h1, h2, opNotIn, OV.fz, anyStr]
  exact ⟨⟨rfl, scal_strs ts⟩, h⟩
theorem wo_loop (ts : List Str) (hts : ∀ t ∈ ts, okS t) (E : En) (d1 : Option OV) : ∀ (l : List (Str × Nat)) (f : List Int) (S : List (Str × Nat)) (d4 d5 : Option OV), (∀ e ∈ l, e.1 ∈ ts) → (∀ e ∈ S, e.1 ∈ ts ∧ 0 < e.2) → (run ts (f, S) l).1.length ≤ 100000 → S.length + l.length ≤ 100000 →
    (∀ d4 d5, E.nx [some (.im (.tup (ts.map .str))), d1, some (.lst ((run ts (f, S) l).1.map fun i => .im (.int i))), some (.lst (stk (run ts (f, S) l).2)), d4, d5]) →
    forL (gT 2 (gsCons (gN 4) (gsCons (gN 5) gsNil))) L2_word_of E (l.map nodE) [some (.im (.tup (ts.map .str))), d1, some (.lst (f.map fun i => .im (.int i))), some (.lst (stk S)), d4, d5]
  | [], f, S, d4, d5, hi, hS, hl, hs, h => h d4 d5
  | (t, k) :: l, f, S, d4, d5, hi, hS, hl, hs, h => by
    have ht := hi _ List.mem_cons_self
    have m2 : ∀ j, mulOk 2 j := fun j => mulOk_l (by decide) (by decide)
    have l2 : 2 ≤ line := by decide
    simp only [List.length_cons] at hs
    rw [List.map_cons]
    refine for_st fun N hN => ?_
    simp only [run] at hl h
    have hrl := run_len ts l (stp ts (f, S) (t, k))
    have e1 : (stp ts (f, S) (t, k)).1.length = f.length + 1 + (clo ts t k S).1.length := by
      simp [stp]
      omega
    have hfl : f.length < line := by show _ < 16777216; omega
    have hsl : S.length < line := by show _ < 16777216; omega
    simp only [gT, nodE, gsCons, gsNil, gN, dset]
    refine ⟨rfl, trivial, ?_⟩
    unfold L2_word_of
    refine seq_st fun N1 hN1 => ?_
    refine if_st fun A B hA hB => nin_test ts t _ 4 0 rfl rfl _ _ ?_
    simp only [ht, decide_true, Bool.not_true, Bool.false_eq_true, if_false]
    rw [hB]
    simp only [sNext]
    rw [hN1]
    refine seq_st fun N2 hN2 => ?_
    simp [seq_def, sIf, sRet, sRetN, sAsg, sPar, sPar3, sDrop, sAug, sApp, sAppP, sExt, sIns, sSet, sAugIx, sNext, sBreak, sCont, sRaise, goN, goT, gN, gsNil, gsCons, gT, etP, etE, etAnd, etOr, etNot, tB, tTru, tAndP, tOrP, tNotP, tYesP, pVar, pC, pOp, pUn, paNil, paCons, pTup, pLst, pAndV, pOrV, pNotV, pIf, poNone, poSome, pSl, pRev, pCall, pCB, pTIx, piSeq, eP, eF, pth0, pthS, eRd, eFr, eMv, eaNil, eaCons, eaLate, eTup, eLst, eIx, eOp, eUn, eIf, eCall, eCB, eCBF, eSl, eSlH, eTIx, ePop, eCat, eiSeq, eiRange, eiEnum, dputs, dget, dset, dwipe, getP, getD, setP, getAll, fnEn, startD, opAdd, opSub, opMul, opMod, opDiv, opPow, opNeg, opEq, opNe, opLt, opLe, opGt, opGe, opIsN, opNotN, opIx, opSl, opRev, ipAdd, fLen, fTuple, fList, fInt, fAbs, OV.fz, fzL, nol, nolL, List.map_cons, List.map_nil, List.cons_append, List.nil_append, List.replicate_succ, List.replicate_zero, List.append_nil, List.length_cons, List.length_nil, if_true, if_false, eZ, eFz, goF, frzD, frzO, List.map, fzL_im, eqOk, scalD, deq, isTup, mIndex, strsOf_map, ht, m2, hfl]
    rw [hN2]
    refine seq_st fun N3 hN3 => ?_
    simp [seq_def, sIf, sRet, sRetN, sAsg, sPar, sPar3, sDrop, sAug, sApp, sAppP, sExt, sIns, sSet, sAugIx, sNext, sBreak, sCont, sRaise, goN, goT, gN, gsNil, gsCons, gT, etP, etE, etAnd, etOr, etNot, tB, tTru, tAndP, tOrP, tNotP, tYesP, pVar, pC, pOp, pUn, paNil, paCons, pTup, pLst, pAndV, pOrV, pNotV, pIf, poNone, poSome, pSl, pRev, pCall, pCB, pTIx, piSeq, eP, eF, pth0, pthS, eRd, eFr, eMv, eaNil, eaCons, eaLate, eTup, eLst, eIx, eOp, eUn, eIf, eCall, eCB, eCBF, eSl, eSlH, eTIx, ePop, eCat, eiSeq, eiRange, eiEnum, dputs, dget, dset, dwipe, getP, getD, setP, getAll, fnEn, startD, opAdd, opSub, opMul, opMod, opDiv, opPow, opNeg, opEq, opNe, opLt, opLe, opGt, opGe, opIsN, opNotN, opIx, opSl, opRev, ipAdd, fLen, fTuple, fList, fInt, fAbs, OV.fz, fzL, nol, nolL, List.map_cons, List.map_nil, List.cons_append, List.nil_append, List.replicate_succ, List.replicate_zero, List.append_nil, List.length_cons, List.length_nil, if_true, if_false, eZ, eFz, goF, frzD, frzO, List.map, fzL_im, eqOk, scalD, deq, l2, stk_len, hsl]
    rw [hN3]
    have hst : stk S ++ [OV.lst [.im (.str t), .im (.int (k : Nat))]] = stk ((t, k) :: S) := (stk_snoc (t, k) S).symm
    have hfm : (f.map fun i => OV.im (.int i)) ++ [OV.im (.int (2 * (ts.idxOf t : Nat) : Int))] = (f ++ [(2 * (ts.idxOf t : Nat) : Int)]).map fun i => OV.im (.int i) := by simp
    rw [hst, hfm]
    refine wo_while ts hts _ d1 _ _ (f ++ [(2 * (ts.idxOf t : Nat) : Int)]) ((t, k) :: S) (fun e m => ?_) (fun e m => (hS e m).2) (by simp only [wh, List.length_append, List.length_cons, List.length_nil]; omega) ?_
    · rcases List.mem_cons.mp m with rfl | m
      · exact ht
      · exact (hS e m).1
    · show N _
      rw [hN]
      have := wo_loop ts hts E d1 l (stp ts (f, S) (t, k)).1 (stp ts (f, S) (t, k)).2 (some (.im (.str t))) (some (.im (.int (k : Nat)))) (fun e m => hi e (List.mem_cons_of_mem _ m)) (fun e m => ⟨clo_in ts (· ∈ ts) S t k ht (fun e m => (hS e m).1) e m, clo_pos ts S t k (fun e m => (hS e m).2) e m⟩) hl (by have := clo_len ts S t k; simp only [stp]; omega) h
      simpa [stp, wh] using this
theorem trIn_flat (ts : List Str) : ∀ (n : Nat) (l : List Tr), trDL l < n → trInL ts l → ∀ e ∈ flatL l, e.1 ∈ ts
  | 0, l, hd, _ => by omega
  | n + 1, [], _, _ => by simp [flatL]
  | n + 1, .mk t k :: l, hd, hi => by
    intro e m
    simp only [trInL, trIn] at hi
    have hk : trDL k < n := by simp [trDL, trD] at hd; omega
    have hl : trDL l < n + 1 := by simp [trDL] at hd; omega
    simp only [flatL, flat, List.cons_append, List.mem_cons, List.mem_append] at m
    rcases m with rfl | m | m
    · exact hi.1.1
    · exact trIn_flat ts n k hk hi.1.2 e m
    · exact trIn_flat ts (n + 1) l hl hi.2 e m
def fdWordOf : FD := fun os Q X => (∃ (ts : List Str) (l : List Tr), os = [.im (.tup (ts.map .str)), .im (.tup ((flatL l).map nodE))] ∧ (∀ t ∈ ts, okS t) ∧ trInL ts l ∧ (flatL l).length ≤ 10000 ∧ (trWL ts l).length ≤ 100000 ∧ Q (.im (.tup ((trWL ts l).map .int))) []) ∨
  ∃ (ts : List Str) (t : Str) (k : Nat) (l : List (Str × Nat)), os = [.im (.tup (ts.map .str)), .im (.tup (((t, k) :: l).map nodE))] ∧ t ∉ ts ∧ X ⟨"Nothing", []⟩
theorem vc_wordOf (os : List OV) (Qd : OV → List OV → Prop) (Xd : Xc → Prop) (h : fdWordOf os Qd Xd) : s_word_of (fnEn [] Qd Xd) (startD 6 os) := by
  have l0 : 0 ≤ line := by decide
  rcases h with ⟨ts, l, rfl, hts, hi, hl, hw, hQ⟩ | ⟨ts, t, k, l, rfl, ht, hX⟩
  · unfold s_word_of
    refine seq_st fun N hN => ?_
    simp [seq_def, sIf, sRet, sRetN, sAsg, sPar, sPar3, sDrop, sAug, sApp, sAppP, sExt, sIns, sSet, sAugIx, sNext, sBreak, sCont, sRaise, goN, goT, gN, gsNil, gsCons, gT, etP, etE, etAnd, etOr, etNot, tB, tTru, tAndP, tOrP, tNotP, tYesP, pVar, pC, pOp, pUn, paNil, paCons, pTup, pLst, pAndV, pOrV, pNotV, pIf, poNone, poSome, pSl, pRev, pCall, pCB, pTIx, piSeq, eP, eF, pth0, pthS, eRd, eFr, eMv, eaNil, eaCons, eaLate, eTup, eLst, eIx, eOp, eUn, eIf, eCall, eCB, eCBF, eSl, eSlH, eTIx, ePop, eCat, eiSeq, eiRange, eiEnum, dputs, dget, dset, dwipe, getP, getD, setP, getAll, fnEn, startD, opAdd, opSub, opMul, opMod, opDiv, opPow, opNeg, opEq, opNe, opLt, opLe, opGt, opGe, opIsN, opNotN, opIx, opSl, opRev, ipAdd, fLen, fTuple, fList, fInt, fAbs, OV.fz, fzL, nol, nolL, List.map_cons, List.map_nil, List.cons_append, List.nil_append, List.replicate_succ, List.replicate_zero, List.append_nil, List.length_cons, List.length_nil, if_true, if_false, eZ, eFz, goF, frzD, frzO, List.map, fzL_im, eqOk, scalD, deq, l0]
    rw [hN]
    refine seq_st fun N2 hN2 => ?_
    simp [sFor, seq_def, sIf, sRet, sRetN, sAsg, sPar, sPar3, sDrop, sAug, sApp, sAppP, sExt, sIns, sSet, sAugIx, sNext, sBreak, sCont, sRaise, goN, goT, gN, gsNil, gsCons, gT, etP, etE, etAnd, etOr, etNot, tB, tTru, tAndP, tOrP, tNotP, tYesP, pVar, pC, pOp, pUn, paNil, paCons, pTup, pLst, pAndV, pOrV, pNotV, pIf, poNone, poSome, pSl, pRev, pCall, pCB, pTIx, piSeq, eP, eF, pth0, pthS, eRd, eFr, eMv, eaNil, eaCons, eaLate, eTup, eLst, eIx, eOp, eUn, eIf, eCall, eCB, eCBF, eSl, eSlH, eTIx, ePop, eCat, eiSeq, eiRange, eiEnum, dputs, dget, dset, dwipe, getP, getD, setP, getAll, fnEn, startD, opAdd, opSub, opMul, opMod, opDiv, opPow, opNeg, opEq, opNe, opLt, opLe, opGt, opGe, opIsN, opNotN, opIx, opSl, opRev, ipAdd, fLen, fTuple, fList, fInt, fAbs, OV.fz, fzL, nol, nolL, List.map_cons, List.map_nil, List.cons_append, List.nil_append, List.replicate_succ, List.replicate_zero, List.append_nil, List.length_cons, List.length_nil, if_true, if_false, eZ, eFz, goF, frzD, frzO, List.map, fzL_im, eqOk, scalD, deq]
    have := wo_loop ts hts { (fnEn [] Qd Xd) with nx := N2 } (some (.im (.tup ((flatL l).map nodE)))) (flatL l) [] [] none none (trIn_flat ts _ l (Nat.lt_succ_self _) hi) (by simp) (by rw [run_all]; simpa using hw) (by simp; omega) fun d4 d5 => ?_
    · simpa [stk_nil, seq_def, sIf, sRet, sRetN, sAsg, sPar, sPar3, sDrop, sAug, sApp, sAppP, sExt, sIns, sSet, sAugIx, sNext, sBreak, sCont, sRaise, goN, goT, gN, gsNil, gsCons, gT, etP, etE, etAnd, etOr, etNot, tB, tTru, tAndP, tOrP, tNotP, tYesP, pVar, pC, pOp, pUn, paNil, paCons, pTup, pLst, pAndV, pOrV, pNotV, pIf, poNone, poSome, pSl, pRev, pCall, pCB, pTIx, piSeq, eP, eF, pth0, pthS, eRd, eFr, eMv, eaNil, eaCons, eaLate, eTup, eLst, eIx, eOp, eUn, eIf, eCall, eCB, eCBF, eSl, eSlH, eTIx, ePop, eCat, eiSeq, eiRange, eiEnum, dputs, dget, dset, dwipe, getP, getD, setP, getAll, fnEn, startD, opAdd, opSub, opMul, opMod, opDiv, opPow, opNeg, opEq, opNe, opLt, opLe, opGt, opGe, opIsN, opNotN, opIx, opSl, opRev, ipAdd, fLen, fTuple, fList, fInt, fAbs, OV.fz, fzL, nol, nolL, List.map_cons, List.map_nil, List.cons_append, List.nil_append, List.replicate_succ, List.replicate_zero, List.append_nil, List.length_cons, List.length_nil, if_true, if_false, eZ, eFz, goF, frzD, frzO, List.map, fzL_im, eqOk, scalD, deq] using this
    · show N2 _
      rw [hN2, run_all]
      simp only [List.nil_append]
      simp [seq_def, sIf, sRet, sRetN, sAsg, sPar, sPar3, sDrop, sAug, sApp, sAppP, sExt, sIns, sSet, sAugIx, sNext, sBreak, sCont, sRaise, goN, goT, gN, gsNil, gsCons, gT, etP, etE, etAnd, etOr, etNot, tB, tTru, tAndP, tOrP, tNotP, tYesP, pVar, pC, pOp, pUn, paNil, paCons, pTup, pLst, pAndV, pOrV, pNotV, pIf, poNone, poSome, pSl, pRev, pCall, pCB, pTIx, piSeq, eP, eF, pth0, pthS, eRd, eFr, eMv, eaNil, eaCons, eaLate, eTup, eLst, eIx, eOp, eUn, eIf, eCall, eCB, eCBF, eSl, eSlH, eTIx, ePop, eCat, eiSeq, eiRange, eiEnum, dputs, dget, dset, dwipe, getP, getD, setP, getAll, fnEn, startD, opAdd, opSub, opMul, opMod, opDiv, opPow, opNeg, opEq, opNe, opLt, opLe, opGt, opGe, opIsN, opNotN, opIx, opSl, opRev, ipAdd, fLen, fTuple, fList, fInt, fAbs, OV.fz, fzL, nol, nolL, List.map_cons, List.map_nil, List.cons_append, List.nil_append, List.replicate_succ, List.replicate_zero, List.append_nil, List.length_cons, List.length_nil, if_true, if_false, eZ, eFz, goF, frzD, frzO, List.map, fzL_im, eqOk, scalD, deq, fz_ints, ints_nol]
      exact hQ
  · unfold s_word_of
    refine seq_st fun N hN => ?_
    simp [seq_def, sIf, sRet, sRetN, sAsg, sPar, sPar3, sDrop, sAug, sApp, sAppP, sExt, sIns, sSet, sAugIx, sNext, sBreak, sCont, sRaise, goN, goT, gN, gsNil, gsCons, gT, etP, etE, etAnd, etOr, etNot, tB, tTru, tAndP, tOrP, tNotP, tYesP, pVar, pC, pOp, pUn, paNil, paCons, pTup, pLst, pAndV, pOrV, pNotV, pIf, poNone, poSome, pSl, pRev, pCall, pCB, pTIx, piSeq, eP, eF, pth0, pthS, eRd, eFr, eMv, eaNil, eaCons, eaLate, eTup, eLst, eIx, eOp, eUn, eIf, eCall, eCB, eCBF, eSl, eSlH, eTIx, ePop, eCat, eiSeq, eiRange, eiEnum, dputs, dget, dset, dwipe, getP, getD, setP, getAll, fnEn, startD, opAdd, opSub, opMul, opMod, opDiv, opPow, opNeg, opEq, opNe, opLt, opLe, opGt, opGe, opIsN, opNotN, opIx, opSl, opRev, ipAdd, fLen, fTuple, fList, fInt, fAbs, OV.fz, fzL, nol, nolL, List.map_cons, List.map_nil, List.cons_append, List.nil_append, List.replicate_succ, List.replicate_zero, List.append_nil, List.length_cons, List.length_nil, if_true, if_false, eZ, eFz, goF, frzD, frzO, List.map, fzL_im, eqOk, scalD, deq, l0]
    rw [hN]
    refine seq_st fun N2 hN2 => ?_
    simp [sFor, seq_def, sIf, sRet, sRetN, sAsg, sPar, sPar3, sDrop, sAug, sApp, sAppP, sExt, sIns, sSet, sAugIx, sNext, sBreak, sCont, sRaise, goN, goT, gN, gsNil, gsCons, gT, etP, etE, etAnd, etOr, etNot, tB, tTru, tAndP, tOrP, tNotP, tYesP, pVar, pC, pOp, pUn, paNil, paCons, pTup, pLst, pAndV, pOrV, pNotV, pIf, poNone, poSome, pSl, pRev, pCall, pCB, pTIx, piSeq, eP, eF, pth0, pthS, eRd, eFr, eMv, eaNil, eaCons, eaLate, eTup, eLst, eIx, eOp, eUn, eIf, eCall, eCB, eCBF, eSl, eSlH, eTIx, ePop, eCat, eiSeq, eiRange, eiEnum, dputs, dget, dset, dwipe, getP, getD, setP, getAll, fnEn, startD, opAdd, opSub, opMul, opMod, opDiv, opPow, opNeg, opEq, opNe, opLt, opLe, opGt, opGe, opIsN, opNotN, opIx, opSl, opRev, ipAdd, fLen, fTuple, fList, fInt, fAbs, OV.fz, fzL, nol, nolL, List.map_cons, List.map_nil, List.cons_append, List.nil_append, List.replicate_succ, List.replicate_zero, List.append_nil, List.length_cons, List.length_nil, if_true, if_false, eZ, eFz, goF, frzD, frzO, List.map, fzL_im, eqOk, scalD, deq]
    refine for_st fun N3 hN3 => ?_
    simp only [gT, nodE, gsCons, gsNil, gN, dset]
    refine ⟨rfl, trivial, ?_⟩
    unfold L2_word_of
    refine seq_st fun N1 hN1 => ?_
    refine if_st fun A B hA hB => nin_test ts t _ 4 0 rfl rfl _ _ ?_
    simp only [ht, decide_false, Bool.not_false, if_true]
    rw [hA]
    simp [seq_def, sIf, sRet, sRetN, sAsg, sPar, sPar3, sDrop, sAug, sApp, sAppP, sExt, sIns, sSet, sAugIx, sNext, sBreak, sCont, sRaise, goN, goT, gN, gsNil, gsCons, gT, etP, etE, etAnd, etOr, etNot, tB, tTru, tAndP, tOrP, tNotP, tYesP, pVar, pC, pOp, pUn, paNil, paCons, pTup, pLst, pAndV, pOrV, pNotV, pIf, poNone, poSome, pSl, pRev, pCall, pCB, pTIx, piSeq, eP, eF, pth0, pthS, eRd, eFr, eMv, eaNil, eaCons, eaLate, eTup, eLst, eIx, eOp, eUn, eIf, eCall, eCB, eCBF, eSl, eSlH, eTIx, ePop, eCat, eiSeq, eiRange, eiEnum, dputs, dget, dset, dwipe, getP, getD, setP, getAll, fnEn, startD, opAdd, opSub, opMul, opMod, opDiv, opPow, opNeg, opEq, opNe, opLt, opLe, opGt, opGe, opIsN, opNotN, opIx, opSl, opRev, ipAdd, fLen, fTuple, fList, fInt, fAbs, OV.fz, fzL, nol, nolL, List.map_cons, List.map_nil, List.cons_append, List.nil_append, List.replicate_succ, List.replicate_zero, List.append_nil, List.length_cons, List.length_nil, if_true, if_false, eZ, eFz, goF, frzD, frzO, List.map, fzL_im, eqOk, scalD, deq]
    exact hX
end G66
namespace G66
open PySem DL
/-- what waits: parts, letters -/
inductive It where
  | p (x : Part) | i (n : Int)
def itE : It → D
  | .p x => pE x
  | .i n => .int n
def itW (ts : List Str) : It → List D
  | .p x => pW ts x
  | .i n => [.int n]
def itS : It → Nat
  | .p x => 2 * (pre x).length
  | .i _ => 1
def wrd (ts : List Str) (w : List It) : List D := w.flatMap (itW ts)
def wsz (w : List It) : Nat := (w.map itS).sum
theorem wrd_parts (ts : List Str) : ∀ l : List Part, wrd ts (l.map It.p) = pWL ts l
  | [] => rfl
  | p :: l => by
    have := wrd_parts ts l
    simp only [wrd] at this
    simp [wrd, itW, pWL, this]
theorem wsz_parts : ∀ l : List Part, wsz (l.map It.p) = 2 * (preL l).length
  | [] => rfl
  | p :: l => by
    have := wsz_parts l
    have e : wsz ((p :: l).map It.p) = itS (It.p p) + wsz (l.map It.p) := by simp [wsz]
    rw [e, this]
    simp [itS, preL]
    omega
theorem wrd_append (ts : List Str) (a b : List It) : wrd ts (a ++ b) = wrd ts a ++ wrd ts b := by simp [wrd]
theorem wsz_append (a b : List It) : wsz (a ++ b) = wsz a + wsz b := by simp [wsz]
theorem wsz_len : ∀ w : List It, w.length ≤ wsz w
  | [] => Nat.le_refl _
  | .p x :: w => by
    have := wsz_len w
    have h := pre_pos x
    simp [wsz, itS] at this ⊢
    omega
  | .i n :: w => by
    have := wsz_len w
    simp [wsz, itS] at this ⊢
    omega
structure St3 where
  u : List Int := []
  v : List Int := []
  c : Option Str := none
def St3.put (s : St3) : D → St3
  | .int i => match s.c with
    | none => { s with u := s.u ++ [i] }
    | some _ => { s with v := s.v ++ [i] }
  | .str m => { s with c := some m }
  | _ => s
def St3.puts (s : St3) (w : List D) : St3 := w.foldl St3.put s
def optE : Option Str → D
  | none => .non
  | some m => .str m
abbrev st5 (s : St3) : OV := .lst [.lst (s.u.map fun i => .im (.int i)), .lst (s.v.map fun i => .im (.int i))]
def stkI (w : List It) : List OV := w.reverse.map fun x => .im (itE x)
theorem stkI_nil : stkI [] = [] := rfl
theorem stkI_snoc (x : It) (w : List It) : stkI (x :: w) = stkI w ++ [.im (itE x)] := by simp [stkI]
theorem stkI_len (w : List It) : (stkI w).length = w.length := by simp [stkI]
theorem fz_stkI (w : List It) : fzL (stkI w) = w.reverse.map itE := by unfold stkI; rw [fzL_map, List.map_map]; rfl
theorem stkI_parts (l : List Part) (w : List It) : stkI (l.map It.p ++ w) = stkI w ++ (pEL l).reverse.map OV.im := by simp [stkI, pEL_map, itE, Function.comp_def]
def okI (x : It) : Prop := okd (itE x) = true ∧ dep (itE x) ≤ 60
theorem okL_all : ∀ {l : List D}, okL l = true → ∀ d ∈ l, okd d = true
  | d :: l, h, x, m => by
    simp only [okL, Bool.and_eq_true] at h
    rcases List.mem_cons.mp m with rfl | m
    · exact h.1
    · exact okL_all h.2 x m
theorem depL_all {n : Nat} : ∀ {l : List D}, depL l ≤ n → ∀ d ∈ l, dep d ≤ n
  | d :: l, h, x, m => by
    simp only [depL] at h
    rcases List.mem_cons.mp m with rfl | m
    · omega
    · exact depL_all (by omega) x m
theorem cmp_stkI {w : List It} (h : ∀ x ∈ w, okI x) : cmpOk (.lst (fzL (stkI w))) := by
  rw [fz_stkI]
  refine ⟨?_, ?_⟩
  · simp only [okd]
    refine okL_mem fun d m => ?_
    obtain ⟨e, me, rfl⟩ := List.mem_map.mp m
    exact (h e (List.mem_reverse.mp me)).1
  · simp only [dep]
    have : depL (w.reverse.map itE) ≤ 60 := depL_mem fun d m => by
      obtain ⟨e, me, rfl⟩ := List.mem_map.mp m
      exact (h e (List.mem_reverse.mp me)).2
    omega
theorem okI_page {q : Str} {k : List Part} (h : okI (.p (.page q k))) : ∀ x ∈ k.map It.p, okI x := by
  intro x m
  obtain ⟨p, mp, rfl⟩ := List.mem_map.mp m
  obtain ⟨h1, h2⟩ := h
  simp only [itE, pE, okd, okL, Bool.and_eq_true] at h1
  simp only [itE, pE, dep, depL] at h2
  have hm : pE p ∈ pEL k := by rw [pEL_map]; exact List.mem_map.mpr ⟨p, mp, rfl⟩
  exact ⟨okL_all h1.2.2.1 _ hm, depL_all (n := 60) (by omega) _ hm⟩
theorem okI_int (n : Int) : okI (.i n) := ⟨rfl, by show (0 : Nat) ≤ 60; decide⟩
def wIn (ts : List Str) : It → Prop
  | .p x => pIn ts x
  | .i _ => True
theorem pInL_mem (ts : List Str) : ∀ {l : List Part}, pInL ts l → ∀ x ∈ l.map It.p, wIn ts x
  | p :: l, h, x, m => by
    simp only [pInL] at h
    rw [List.map_cons] at m
    rcases List.mem_cons.mp m with rfl | m
    · exact h.1
    · exact pInL_mem ts h.2 x m
theorem rw_test (F : FD) (w : List It) (hw : ∀ x ∈ w, okI x) (d0 d1 d2 d3 d4 d5 d6 d8 d9 : Option OV) (Q : Bool → DE → Prop) (X : Xc → DE → Prop)
    (h : Q (!w.isEmpty) [d0, d1, d2, d3, d4, d5, d6, some (.lst (stkI w)), d8, d9]) : wt1_rule_words F [d0, d1, d2, d3, d4, d5, d6, some (.lst (stkI w)), d8, d9] Q X := by
  have hc := cmp_stkI hw
  have e : (fzL (stkI w)).isEmpty = w.isEmpty := by rw [fz_stkI]; cases w <;> simp
  simp only [wt1_rule_words, etP, tB, pOp, pVar, dget, pLst, paNil, OV.fz, opNe, deq_nil, e]
  exact ⟨by decide, .inr ⟨hc, cmp_nil⟩, h⟩
/-- found[int(call is not None)].append(..) -/
theorem rw_app (s : St3) (p : PX) (E : En) (d0 d1 d2 d3 d4 d7 d8 d9 : Option OV) (hl : s.u.length + s.v.length ≤ 10000) (i : Int)
    (hp : ∀ (Q : D → Prop) (X : Xc → Prop), Q (.int i) → p [d0, d1, d2, d3, d4, some (st5 s), some (.im (optE s.c)), d7, d8, d9] Q X)
    (h : E.nx [d0, d1, d2, d3, d4, some (st5 (s.put (.int i))), some (.im (optE (s.put (.int i)).c)), d7, d8, d9]) :
    sAppP 5 (pthS (pth0 5) (pCB fInt (paCons (pOp opNotN (pVar 6) (pC .non)) paNil))) p E [d0, d1, d2, d3, d4, some (st5 s), some (.im (optE s.c)), d7, d8, d9] := by
  have h1 : s.u.length < line := by show _ < 16777216; omega
  have h2 : s.v.length < line := by show _ < 16777216; omega
  obtain ⟨u, v, c⟩ := s
  cases c with
  | none =>
    simp [sAppP, pthS, pth0, dget, pCB, fInt, paCons, paNil, pOp, pVar, OV.fz, optE, opNotN, pC, getP, atD, ixD]
    refine hp _ _ ⟨rfl, h1, ?_⟩
    simpa [setP, ixD, dset, St3.put, optE, st5] using h
  | some m =>
    simp [sAppP, pthS, pth0, dget, pCB, fInt, paCons, paNil, pOp, pVar, OV.fz, optE, opNotN, pC, getP, atD, ixD]
    refine hp _ _ ⟨rfl, h2, ?_⟩
    simpa [setP, ixD, dset, St3.put, optE, st5] using h
theorem put_len (s : St3) (d : D) : (s.put d).u.length + (s.put d).v.length ≤ s.u.length + s.v.length + 1 := by
  cases d with
  | int i =>
    simp only [St3.put]
    split <;> simp <;> omega
  | _ => simp [St3.put]
theorem puts_cons (s : St3) (d : D) (w : List D) : s.puts (d :: w) = (s.put d).puts w := rfl
theorem isInt_tup (xs : List D) : isTy (.tup xs) "int" = false := by
  simp [isTy, tyD]
theorem isInt_int (i : Int) : isTy (.int i) "int" = true := by simp [isTy, tyD]
theorem pop_top (x : It) (w : List It) (i : Nat) (δ : DE) (h : dget δ i = some (.lst (stkI (x :: w)))) (Q : OV → DE → Prop) (X : Xc → DE → Prop) (hQ : Q (.im (itE x)) (dset δ i (some (.lst (stkI w))))) : eFz (ePop i) δ Q X := by
  rw [stkI_snoc] at h
  simp only [eFz, ePop, h, List.getLast?_append, List.getLast?_singleton, List.dropLast_concat, OV.fz]
  exact hQ
def nxS (ts : List Str) : It → St3 → St3
  | .i n, s => s.put (.int n)
  | .p (.apply m _), s => s.put (.str m)
  | .p (.page q _), s => s.put (.int (2 * (ts.idxOf q : Nat) : Int))
  | .p (.iff _ _ _), s => s
def nxW (ts : List Str) : It → List It → List It
  | .p (.page q k), w => k.map It.p ++ (.i ((2 * (ts.idxOf q : Nat) : Int) + 1) :: w)
  | _, w => w
theorem nx_puts (ts : List Str) (x : It) (w : List It) (s : St3) (h : wIn ts x) : (nxS ts x s).puts (wrd ts (nxW ts x w)) = s.puts (wrd ts (x :: w)) := by
  have e : wrd ts (x :: w) = itW ts x ++ wrd ts w := by simp [wrd]
  rw [e]
  cases x with
  | i n => rfl
  | p x =>
    cases x with
    | apply m t => rfl
    | iff t a b => exact h.elim
    | page q k =>
      have e2 : wrd ts (It.i ((2 * (ts.idxOf q : Nat) : Int) + 1) :: w) = .int ((2 * (ts.idxOf q : Nat) : Int) + 1) :: wrd ts w := by simp [wrd, itW]
      simp only [nxS, nxW, wrd_append, wrd_parts, e2, itW, pW, List.cons_append, List.append_assoc, List.nil_append]
      rfl
theorem nx_size (ts : List Str) (x : It) (w : List It) : wsz (nxW ts x w) < wsz (x :: w) := by
  have e : wsz (x :: w) = itS x + wsz w := by simp [wsz]
  rw [e]
  cases x with
  | i n => simp [nxW, itS]
  | p x =>
    have := pre_pos x
    cases x with
    | apply m t => simp [nxW, itS]; omega
    | iff t a b => simp [nxW, itS]; omega
    | page q k =>
      have e2 : wsz (It.i ((2 * (ts.idxOf q : Nat) : Int) + 1) :: w) = 1 + wsz w := by simp [wsz, itS]
      simp only [nxW, wsz_append, wsz_parts, e2, itS, pre, List.length_cons]
      omega
theorem rw_body (ts : List Str) (x : It) (w : List It) (F : FD) (hx : wIn ts x) (s : St3) (E : En) (d1 d2 d3 d4 d8 d9 : Option OV) (hl : s.u.length + s.v.length ≤ 10000) (hw : wsz (x :: w) ≤ 10000)
    (h : ∀ d8 d9, E.nx [some (.im (.tup (ts.map .str))), d1, d2, d3, d4, some (st5 (nxS ts x s)), some (.im (optE (nxS ts x s).c)), some (.lst (stkI (nxW ts x w))), d8, d9]) :
    L1_rule_words F E [some (.im (.tup (ts.map .str))), d1, d2, d3, d4, some (st5 s), some (.im (optE s.c)), some (.lst (stkI (x :: w))), d8, d9] := by
  have m2 : ∀ j, mulOk 2 j := fun j => mulOk_l (by decide) (by decide)
  have hline : ∀ n : Nat, n ≤ 10000 → n ≤ line := fun n h => Nat.le_trans h (by decide)
  have hsz := nx_size ts x w
  unfold L1_rule_words
  refine seq_st fun N hN => ?_
  refine pop_top x w 7 _ rfl _ _ ?_
  simp only [goN, dset]
  rw [hN]
  refine if_st fun A B hA hB => ?_
  cases x with
  | i n =>
    simp only [itE, etP, tB, pCB, paCons, paNil, pVar, dget, OV.fz, pC, fIsi, isInt_int]
    refine ⟨⟨rfl, by decide⟩, ?_⟩
    simp only [if_true]
    rw [hA]
    refine rw_app s _ _ _ _ _ _ _ _ _ _ hl n (fun Q X q => q) ?_
    exact h _ _
  | p x =>
    have htup : ∃ xs, pE x = .tup xs := by
      cases x with
      | page p l => exact ⟨_, by rw [pE]⟩
      | apply m t => cases t <;> exact ⟨_, by rw [pE]⟩
      | iff t a b => exact ⟨_, by rw [pE]⟩
    obtain ⟨xs, exs⟩ := htup
    simp only [itE, etP, tB, pCB, paCons, paNil, pVar, dget, OV.fz, pC, fIsi, exs, isInt_tup]
    refine ⟨⟨rfl, by decide⟩, ?_⟩
    simp only [Bool.false_eq_true, if_false]
    rw [hB, ← exs]
    clear exs
    refine if_st fun A B hA hB => ?_
    cases x with
    | iff t a b => exact hx.elim
    | apply m t =>
      cases t with
      | some _ =>
        simp [pE, seq_def, sIf, sRet, sRetN, sAsg, sPar, sPar3, sDrop, sAug, sApp, sAppP, sExt, sIns, sSet, sAugIx, sNext, sBreak, sCont, sRaise, goN, goT, gN, gsNil, gsCons, gT, etP, etE, etAnd, etOr, etNot, tB, tTru, tAndP, tOrP, tNotP, tYesP, pVar, pC, pOp, pUn, paNil, paCons, pTup, pLst, pAndV, pOrV, pNotV, pIf, poNone, poSome, pSl, pRev, pCall, pCB, pTIx, piSeq, eP, eF, pth0, pthS, eRd, eFr, eMv, eaNil, eaCons, eaLate, eTup, eLst, eIx, eOp, eUn, eIf, eCall, eCB, eCBF, eSl, eSlH, eTIx, ePop, eCat, eiSeq, eiRange, eiEnum, dputs, dget, dset, dwipe, getP, getD, setP, getAll, fnEn, startD, opAdd, opSub, opMul, opMod, opDiv, opPow, opNeg, opEq, opNe, opLt, opLe, opGt, opGe, opIsN, opNotN, opIx, opSl, opRev, ipAdd, fLen, fTuple, fList, fInt, fAbs, OV.fz, fzL, nol, nolL, List.map_cons, List.map_nil, List.cons_append, List.nil_append, List.replicate_succ, List.replicate_zero, List.append_nil, List.length_cons, List.length_nil, if_true, if_false, eZ, eFz, goF, frzD, frzO, List.map, fzL_im, eqOk, scalD, deq, atD, ixD, s8]
        rw [hA]
        simp [pE, seq_def, sIf, sRet, sRetN, sAsg, sPar, sPar3, sDrop, sAug, sApp, sAppP, sExt, sIns, sSet, sAugIx, sNext, sBreak, sCont, sRaise, goN, goT, gN, gsNil, gsCons, gT, etP, etE, etAnd, etOr, etNot, tB, tTru, tAndP, tOrP, tNotP, tYesP, pVar, pC, pOp, pUn, paNil, paCons, pTup, pLst, pAndV, pOrV, pNotV, pIf, poNone, poSome, pSl, pRev, pCall, pCB, pTIx, piSeq, eP, eF, pth0, pthS, eRd, eFr, eMv, eaNil, eaCons, eaLate, eTup, eLst, eIx, eOp, eUn, eIf, eCall, eCB, eCBF, eSl, eSlH, eTIx, ePop, eCat, eiSeq, eiRange, eiEnum, dputs, dget, dset, dwipe, getP, getD, setP, getAll, fnEn, startD, opAdd, opSub, opMul, opMod, opDiv, opPow, opNeg, opEq, opNe, opLt, opLe, opGt, opGe, opIsN, opNotN, opIx, opSl, opRev, ipAdd, fLen, fTuple, fList, fInt, fAbs, OV.fz, fzL, nol, nolL, List.map_cons, List.map_nil, List.cons_append, List.nil_append, List.replicate_succ, List.replicate_zero, List.append_nil, List.length_cons, List.length_nil, if_true, if_false, eZ, eFz, goF, frzD, frzO, List.map, fzL_im, eqOk, scalD, deq, atD, ixD]
        exact h _ _
      | none =>
        simp [pE, seq_def, sIf, sRet, sRetN, sAsg, sPar, sPar3, sDrop, sAug, sApp, sAppP, sExt, sIns, sSet, sAugIx, sNext, sBreak, sCont, sRaise, goN, goT, gN, gsNil, gsCons, gT, etP, etE, etAnd, etOr, etNot, tB, tTru, tAndP, tOrP, tNotP, tYesP, pVar, pC, pOp, pUn, paNil, paCons, pTup, pLst, pAndV, pOrV, pNotV, pIf, poNone, poSome, pSl, pRev, pCall, pCB, pTIx, piSeq, eP, eF, pth0, pthS, eRd, eFr, eMv, eaNil, eaCons, eaLate, eTup, eLst, eIx, eOp, eUn, eIf, eCall, eCB, eCBF, eSl, eSlH, eTIx, ePop, eCat, eiSeq, eiRange, eiEnum, dputs, dget, dset, dwipe, getP, getD, setP, getAll, fnEn, startD, opAdd, opSub, opMul, opMod, opDiv, opPow, opNeg, opEq, opNe, opLt, opLe, opGt, opGe, opIsN, opNotN, opIx, opSl, opRev, ipAdd, fLen, fTuple, fList, fInt, fAbs, OV.fz, fzL, nol, nolL, List.map_cons, List.map_nil, List.cons_append, List.nil_append, List.replicate_succ, List.replicate_zero, List.append_nil, List.length_cons, List.length_nil, if_true, if_false, eZ, eFz, goF, frzD, frzO, List.map, fzL_im, eqOk, scalD, deq, atD, ixD, s8]
        rw [hA]
        simp [pE, seq_def, sIf, sRet, sRetN, sAsg, sPar, sPar3, sDrop, sAug, sApp, sAppP, sExt, sIns, sSet, sAugIx, sNext, sBreak, sCont, sRaise, goN, goT, gN, gsNil, gsCons, gT, etP, etE, etAnd, etOr, etNot, tB, tTru, tAndP, tOrP, tNotP, tYesP, pVar, pC, pOp, pUn, paNil, paCons, pTup, pLst, pAndV, pOrV, pNotV, pIf, poNone, poSome, pSl, pRev, pCall, pCB, pTIx, piSeq, eP, eF, pth0, pthS, eRd, eFr, eMv, eaNil, eaCons, eaLate, eTup, eLst, eIx, eOp, eUn, eIf, eCall, eCB, eCBF, eSl, eSlH, eTIx, ePop, eCat, eiSeq, eiRange, eiEnum, dputs, dget, dset, dwipe, getP, getD, setP, getAll, fnEn, startD, opAdd, opSub, opMul, opMod, opDiv, opPow, opNeg, opEq, opNe, opLt, opLe, opGt, opGe, opIsN, opNotN, opIx, opSl, opRev, ipAdd, fLen, fTuple, fList, fInt, fAbs, OV.fz, fzL, nol, nolL, List.map_cons, List.map_nil, List.cons_append, List.nil_append, List.replicate_succ, List.replicate_zero, List.append_nil, List.length_cons, List.length_nil, if_true, if_false, eZ, eFz, goF, frzD, frzO, List.map, fzL_im, eqOk, scalD, deq, atD, ixD]
        exact h _ _
    | page q k =>
      simp only [wIn, pIn] at hx
      simp [pE, seq_def, sIf, sRet, sRetN, sAsg, sPar, sPar3, sDrop, sAug, sApp, sAppP, sExt, sIns, sSet, sAugIx, sNext, sBreak, sCont, sRaise, goN, goT, gN, gsNil, gsCons, gT, etP, etE, etAnd, etOr, etNot, tB, tTru, tAndP, tOrP, tNotP, tYesP, pVar, pC, pOp, pUn, paNil, paCons, pTup, pLst, pAndV, pOrV, pNotV, pIf, poNone, poSome, pSl, pRev, pCall, pCB, pTIx, piSeq, eP, eF, pth0, pthS, eRd, eFr, eMv, eaNil, eaCons, eaLate, eTup, eLst, eIx, eOp, eUn, eIf, eCall, eCB, eCBF, eSl, eSlH, eTIx, ePop, eCat, eiSeq, eiRange, eiEnum, dputs, dget, dset, dwipe, getP, getD, setP, getAll, fnEn, startD, opAdd, opSub, opMul, opMod, opDiv, opPow, opNeg, opEq, opNe, opLt, opLe, opGt, opGe, opIsN, opNotN, opIx, opSl, opRev, ipAdd, fLen, fTuple, fList, fInt, fAbs, OV.fz, fzL, nol, nolL, List.map_cons, List.map_nil, List.cons_append, List.nil_append, List.replicate_succ, List.replicate_zero, List.append_nil, List.length_cons, List.length_nil, if_true, if_false, eZ, eFz, goF, frzD, frzO, List.map, fzL_im, eqOk, scalD, deq, atD, ixD, s7]
      rw [hB]
      refine seq_st fun N1 hN1 => ?_
      refine if_st fun A B hA hB => ?_
      have hin : ((ts.map D.str).any fun z => deq z (.str q)) = true := by rw [anyStr]; simpa using hx.1
      simp [seq_def, sIf, sRet, sRetN, sAsg, sPar, sPar3, sDrop, sAug, sApp, sAppP, sExt, sIns, sSet, sAugIx, sNext, sBreak, sCont, sRaise, goN, goT, gN, gsNil, gsCons, gT, etP, etE, etAnd, etOr, etNot, tB, tTru, tAndP, tOrP, tNotP, tYesP, pVar, pC, pOp, pUn, paNil, paCons, pTup, pLst, pAndV, pOrV, pNotV, pIf, poNone, poSome, pSl, pRev, pCall, pCB, pTIx, piSeq, eP, eF, pth0, pthS, eRd, eFr, eMv, eaNil, eaCons, eaLate, eTup, eLst, eIx, eOp, eUn, eIf, eCall, eCB, eCBF, eSl, eSlH, eTIx, ePop, eCat, eiSeq, eiRange, eiEnum, dputs, dget, dset, dwipe, getP, getD, setP, getAll, fnEn, startD, opAdd, opSub, opMul, opMod, opDiv, opPow, opNeg, opEq, opNe, opLt, opLe, opGt, opGe, opIsN, opNotN, opIx, opSl, opRev, ipAdd, fLen, fTuple, fList, fInt, fAbs, OV.fz, fzL, nol, nolL, List.map_cons, List.map_nil, List.cons_append, List.nil_append, List.replicate_succ, List.replicate_zero, List.append_nil, List.length_cons, List.length_nil, if_true, if_false, eZ, eFz, goF, frzD, frzO, List.map, fzL_im, eqOk, scalD, deq, atD, ixD, opNotIn, inOk, hin, scal_strs]
      rw [hB]
      simp only [sNext]
      rw [hN1]
      refine seq_st fun N2 hN2 => ?_
      simp [seq_def, sIf, sRet, sRetN, sAsg, sPar, sPar3, sDrop, sAug, sApp, sAppP, sExt, sIns, sSet, sAugIx, sNext, sBreak, sCont, sRaise, goN, goT, gN, gsNil, gsCons, gT, etP, etE, etAnd, etOr, etNot, tB, tTru, tAndP, tOrP, tNotP, tYesP, pVar, pC, pOp, pUn, paNil, paCons, pTup, pLst, pAndV, pOrV, pNotV, pIf, poNone, poSome, pSl, pRev, pCall, pCB, pTIx, piSeq, eP, eF, pth0, pthS, eRd, eFr, eMv, eaNil, eaCons, eaLate, eTup, eLst, eIx, eOp, eUn, eIf, eCall, eCB, eCBF, eSl, eSlH, eTIx, ePop, eCat, eiSeq, eiRange, eiEnum, dputs, dget, dset, dwipe, getP, getD, setP, getAll, fnEn, startD, opAdd, opSub, opMul, opMod, opDiv, opPow, opNeg, opEq, opNe, opLt, opLe, opGt, opGe, opIsN, opNotN, opIx, opSl, opRev, ipAdd, fLen, fTuple, fList, fInt, fAbs, OV.fz, fzL, nol, nolL, List.map_cons, List.map_nil, List.cons_append, List.nil_append, List.replicate_succ, List.replicate_zero, List.append_nil, List.length_cons, List.length_nil, if_true, if_false, eZ, eFz, goF, frzD, frzO, List.map, fzL_im, eqOk, scalD, deq, isTup, mIndex, strsOf_map, hx.1, m2, atD, ixD]
      rw [hN2]
      refine seq_st fun N3 hN3 => ?_
      refine rw_app s _ _ _ _ _ _ _ _ _ _ hl (2 * (ts.idxOf q : Nat) : Int) (fun Q X q => ?_) ?_
      · simp [seq_def, sIf, sRet, sRetN, sAsg, sPar, sPar3, sDrop, sAug, sApp, sAppP, sExt, sIns, sSet, sAugIx, sNext, sBreak, sCont, sRaise, goN, goT, gN, gsNil, gsCons, gT, etP, etE, etAnd, etOr, etNot, tB, tTru, tAndP, tOrP, tNotP, tYesP, pVar, pC, pOp, pUn, paNil, paCons, pTup, pLst, pAndV, pOrV, pNotV, pIf, poNone, poSome, pSl, pRev, pCall, pCB, pTIx, piSeq, eP, eF, pth0, pthS, eRd, eFr, eMv, eaNil, eaCons, eaLate, eTup, eLst, eIx, eOp, eUn, eIf, eCall, eCB, eCBF, eSl, eSlH, eTIx, ePop, eCat, eiSeq, eiRange, eiEnum, dputs, dget, dset, dwipe, getP, getD, setP, getAll, fnEn, startD, opAdd, opSub, opMul, opMod, opDiv, opPow, opNeg, opEq, opNe, opLt, opLe, opGt, opGe, opIsN, opNotN, opIx, opSl, opRev, ipAdd, fLen, fTuple, fList, fInt, fAbs, OV.fz, fzL, nol, nolL, List.map_cons, List.map_nil, List.cons_append, List.nil_append, List.replicate_succ, List.replicate_zero, List.append_nil, List.length_cons, List.length_nil, if_true, if_false, eZ, eFz, goF, frzD, frzO, List.map, fzL_im, eqOk, scalD, deq, m2]
        exact q
      · show N3 _
        rw [hN3]
        refine seq_st fun N4 hN4 => ?_
        have e1 : wsz (It.p (.page q k) :: w) = 2 * (pre (.page q k)).length + wsz w := by simp [wsz, itS]
        have e2 := wsz_len w
        have e3 : (pre (.page q k)).length = (preL k).length + 1 := by simp [pre]
        have e4 := preL_len k
        have hs : (stkI w).length < line := by rw [stkI_len]; show _ < 16777216; omega
        simp [seq_def, sIf, sRet, sRetN, sAsg, sPar, sPar3, sDrop, sAug, sApp, sAppP, sExt, sIns, sSet, sAugIx, sNext, sBreak, sCont, sRaise, goN, goT, gN, gsNil, gsCons, gT, etP, etE, etAnd, etOr, etNot, tB, tTru, tAndP, tOrP, tNotP, tYesP, pVar, pC, pOp, pUn, paNil, paCons, pTup, pLst, pAndV, pOrV, pNotV, pIf, poNone, poSome, pSl, pRev, pCall, pCB, pTIx, piSeq, eP, eF, pth0, pthS, eRd, eFr, eMv, eaNil, eaCons, eaLate, eTup, eLst, eIx, eOp, eUn, eIf, eCall, eCB, eCBF, eSl, eSlH, eTIx, ePop, eCat, eiSeq, eiRange, eiEnum, dputs, dget, dset, dwipe, getP, getD, setP, getAll, fnEn, startD, opAdd, opSub, opMul, opMod, opDiv, opPow, opNeg, opEq, opNe, opLt, opLe, opGt, opGe, opIsN, opNotN, opIx, opSl, opRev, ipAdd, fLen, fTuple, fList, fInt, fAbs, OV.fz, fzL, nol, nolL, List.map_cons, List.map_nil, List.cons_append, List.nil_append, List.replicate_succ, List.replicate_zero, List.append_nil, List.length_cons, List.length_nil, if_true, if_false, eZ, eFz, goF, frzD, frzO, List.map, fzL_im, eqOk, scalD, deq, m2, hs]
        rw [hN4]
        simp [seq_def, sIf, sRet, sRetN, sAsg, sPar, sPar3, sDrop, sAug, sApp, sAppP, sExt, sIns, sSet, sAugIx, sNext, sBreak, sCont, sRaise, goN, goT, gN, gsNil, gsCons, gT, etP, etE, etAnd, etOr, etNot, tB, tTru, tAndP, tOrP, tNotP, tYesP, pVar, pC, pOp, pUn, paNil, paCons, pTup, pLst, pAndV, pOrV, pNotV, pIf, poNone, poSome, pSl, pRev, pCall, pCB, pTIx, piSeq, eP, eF, pth0, pthS, eRd, eFr, eMv, eaNil, eaCons, eaLate, eTup, eLst, eIx, eOp, eUn, eIf, eCall, eCB, eCBF, eSl, eSlH, eTIx, ePop, eCat, eiSeq, eiRange, eiEnum, dputs, dget, dset, dwipe, getP, getD, setP, getAll, fnEn, startD, opAdd, opSub, opMul, opMod, opDiv, opPow, opNeg, opEq, opNe, opLt, opLe, opGt, opGe, opIsN, opNotN, opIx, opSl, opRev, ipAdd, fLen, fTuple, fList, fInt, fAbs, OV.fz, fzL, nol, nolL, List.map_cons, List.map_nil, List.cons_append, List.nil_append, List.replicate_succ, List.replicate_zero, List.append_nil, List.length_cons, List.length_nil, if_true, if_false, eZ, eFz, goF, frzD, frzO, List.map, fzL_im, eqOk, scalD, deq, atD, ixD, pEL_nol, stkI_len]
        have en : nolL (pEL k).reverse = true := by rw [pEL_map, ← List.map_reverse]; exact nol_parts _
        refine ⟨en, hline _ (by rw [pEL_map, List.length_map]; omega), ?_⟩
        have := h (some (.im (pE (.page q k)))) (some (.im (.int (ts.idxOf q : Nat))))
        simpa [nxS, nxW, stkI_parts, stkI_snoc, itE, pE] using this
theorem rw_while (ts : List Str) (F : FD) (E : En) (d1 d2 d3 d4 d8 d9 : Option OV) (s0 : St3) (w0 : List It) (hw : ∀ x ∈ w0, wIn ts x ∧ okI x) (hz : wsz w0 ≤ 10000) (hl : s0.u.length + s0.v.length + wsz w0 ≤ 10000)
    (h : ∀ d8 d9, E.nx [some (.im (.tup (ts.map .str))), d1, d2, d3, d4, some (st5 (s0.puts (wrd ts w0))), some (.im (optE (s0.puts (wrd ts w0)).c)), some (.lst []), d8, d9]) :
    sWhile (wt1_rule_words F) (L1_rule_words F) E [some (.im (.tup (ts.map .str))), d1, d2, d3, d4, some (st5 s0), some (.im (optE s0.c)), some (.lst (stkI w0)), d8, d9] := by
  refine while_rule (fun n δ => ∃ (s : St3) (w : List It) (d8 d9 : Option OV), δ = [some (.im (.tup (ts.map .str))), d1, d2, d3, d4, some (st5 s), some (.im (optE s.c)), some (.lst (stkI w)), d8, d9] ∧ n = wsz w ∧ (∀ x ∈ w, wIn ts x ∧ okI x) ∧ wsz w ≤ 10000 ∧
    s.u.length + s.v.length + wsz w ≤ 10000 ∧ s.puts (wrd ts w) = s0.puts (wrd ts w0)) (wsz w0) ⟨s0, w0, d8, d9, rfl, rfl, hw, hz, hl, rfl⟩ ?_
  rintro n δ ⟨s, w, d8, d9, rfl, rfl, hw, hz, hl, he⟩
  refine rw_test F w (fun x m => (hw x m).2) _ _ _ _ _ _ _ _ _ _ _ ?_
  cases w with
  | nil =>
    simp only [List.isEmpty_nil, Bool.not_true, Bool.false_eq_true, if_false]
    have e2 : s.puts (wrd ts []) = s := rfl
    rw [e2] at he
    rw [← he] at h
    exact h d8 d9
  | cons x w =>
    simp only [List.isEmpty_cons, Bool.not_false, if_true]
    have hx := hw x List.mem_cons_self
    have sz := nx_size ts x w
    have goal : ∀ d8 d9, ∃ m, m < wsz (x :: w) ∧ ∃ (s2 : St3) (w2 : List It) (x8 x9 : Option OV), [some (.im (.tup (ts.map .str))), d1, d2, d3, d4, some (st5 (nxS ts x s)), some (.im (optE (nxS ts x s).c)), some (.lst (stkI (nxW ts x w))), d8, d9] = [some (.im (.tup (ts.map .str))), d1, d2, d3, d4, some (st5 s2), some (.im (optE s2.c)), some (.lst (stkI w2)), x8, x9] ∧ m = wsz w2 ∧ (∀ x ∈ w2, wIn ts x ∧ okI x) ∧ wsz w2 ≤ 10000 ∧
        s2.u.length + s2.v.length + wsz w2 ≤ 10000 ∧ s2.puts (wrd ts w2) = s0.puts (wrd ts w0) := fun d8 d9 => by
      refine ⟨_, sz, nxS ts x s, nxW ts x w, d8, d9, rfl, rfl, fun y m => ?_, by omega, ?_, ?_⟩
      · cases x with
        | i n => exact hw y (List.mem_cons_of_mem _ m)
        | p x =>
          cases x with
          | apply _ _ => exact hw y (List.mem_cons_of_mem _ m)
          | iff _ _ _ => exact hw y (List.mem_cons_of_mem _ m)
          | page q k =>
            simp only [nxW, List.mem_append, List.mem_cons] at m
            rcases m with m | rfl | m
            · have h1 := hx.1
              simp only [wIn, pIn] at h1
              exact ⟨pInL_mem ts h1.2 y m, okI_page hx.2 y m⟩
            · exact ⟨trivial, okI_int _⟩
            · exact hw y (List.mem_cons_of_mem _ m)
      · have : (nxS ts x s).u.length + (nxS ts x s).v.length ≤ s.u.length + s.v.length + 1 := by
          cases x with
          | i n => exact put_len _ _
          | p x =>
            cases x with
            | apply _ _ => exact put_len _ _
            | iff _ _ _ => simp [nxS]
            | page q k => exact put_len _ _
        omega
      · rw [nx_puts ts x w s hx.1, he]
    exact rw_body ts x w F hx.1 s _ _ _ _ _ _ _ (by omega) hz goal
def fdRuleWords : FD := fun os Q _ => ∃ (ts ms : List Str) (rs : List Rule) (m t : Str), os = [.im (.tup (ts.map .str)), .im (tplE ms rs), .im (.str m), .im (.str t)] ∧ okS m ∧ okS t ∧ (∀ r ∈ rs, okS r.1 ∧ okS r.2.1) ∧ rs.length ≤ 10000 ∧
  (((rs.any fun r => r.1 == m && r.2.1 == t) = false ∧ Q (.im .non) []) ∨
   ∃ l, (rs.any fun r => r.1 == m && r.2.1 == t) = true ∧ ruleOf rs m t = l ∧ pInL ts l ∧ (∀ x ∈ l, okI (.p x)) ∧ (preL l).length ≤ 1000 ∧
    Q (.im (.tup [.tup ((({} : St3).puts (pWL ts l)).u.map .int), .tup ((({} : St3).puts (pWL ts l)).v.map .int), optE (({} : St3).puts (pWL ts l)).c])) [])
theorem comp_keys (F : FD) (m t : Str) (hm : okS m) (ht : okS t) (d0 d1 d5 d6 d7 d8 d9 : Option OV) : ∀ (rs : List Rule) (x : Option OV) (Q : List D → Prop), (∀ r ∈ rs, okS r.1 ∧ okS r.2.1) → Q (rs.map fun r => D.bl (r.1 == m && r.2.1 == t)) →
    compP [4] (gN 4) tYesP (ep1_rule_words F) [d0, d1, some (.im (.str m)), some (.im (.str t)), x, d5, d6, d7, d8, d9] (rs.map rE) Q
  | [], x, Q, _, h => h
  | r :: rs, x, Q, hr, h => by
    obtain ⟨h3, h4⟩ := hr r List.mem_cons_self
    simp only [List.map_cons, compP]
    simp [ep1_rule_words, seq_def, sIf, sRet, sRetN, sAsg, sPar, sPar3, sDrop, sAug, sApp, sAppP, sExt, sIns, sSet, sAugIx, sNext, sBreak, sCont, sRaise, goN, goT, gN, gsNil, gsCons, gT, etP, etE, etAnd, etOr, etNot, tB, tTru, tAndP, tOrP, tNotP, tYesP, pVar, pC, pOp, pUn, paNil, paCons, pTup, pLst, pAndV, pOrV, pNotV, pIf, poNone, poSome, pSl, pRev, pCall, pCB, pTIx, piSeq, eP, eF, pth0, pthS, eRd, eFr, eMv, eaNil, eaCons, eaLate, eTup, eLst, eIx, eOp, eUn, eIf, eCall, eCB, eCBF, eSl, eSlH, eTIx, ePop, eCat, eiSeq, eiRange, eiEnum, dputs, dget, dset, dwipe, getP, getD, setP, getAll, fnEn, startD, opAdd, opSub, opMul, opMod, opDiv, opPow, opNeg, opEq, opNe, opLt, opLe, opGt, opGe, opIsN, opNotN, opIx, opSl, opRev, ipAdd, fLen, fTuple, fList, fInt, fAbs, OV.fz, fzL, nol, nolL, List.map_cons, List.map_nil, List.cons_append, List.nil_append, List.replicate_succ, List.replicate_zero, List.append_nil, List.length_cons, List.length_nil, if_true, if_false, eZ, eFz, goF, frzD, frzO, List.map, fzL_im, eqOk, scalD, deq, tYesP, cutD, sIxD, cmpOk, okd, okL, dep, depL, deqL]
    refine ⟨by decide, ⟨⟨by simpa using h3, by simpa using h4⟩, by simpa using hm, by simpa using ht⟩, ?_⟩
    exact comp_keys F m t hm ht _ _ _ _ _ _ _ rs _ _ (fun r m => hr r (List.mem_cons_of_mem _ m)) (by simpa using h)
theorem vc_ruleWords (os : List OV) (Qd : OV → List OV → Prop) (Xd : Xc → Prop) (h : fdRuleWords os Qd Xd) : s_rule_words fdRuleOf (fnEn [] Qd Xd) (startD 10 os) := by
  obtain ⟨ts, ms, rs, m, t, rfl, hm, ht, hr, hlr, hQ⟩ := h
  have l2 : 2 ≤ line := by decide
  have l3 : 3 ≤ line := by decide
  have l0 : 0 ≤ line := by decide
  have hline : ∀ n : Nat, n ≤ 10000 → n ≤ line := fun n h => Nat.le_trans h (by decide)
  unfold s_rule_words
  refine seq_st fun N hN => ?_
  refine if_st fun A B hA hB => ?_
  simp [tplE, pComp, seq_def, sIf, sRet, sRetN, sAsg, sPar, sPar3, sDrop, sAug, sApp, sAppP, sExt, sIns, sSet, sAugIx, sNext, sBreak, sCont, sRaise, goN, goT, gN, gsNil, gsCons, gT, etP, etE, etAnd, etOr, etNot, tB, tTru, tAndP, tOrP, tNotP, tYesP, pVar, pC, pOp, pUn, paNil, paCons, pTup, pLst, pAndV, pOrV, pNotV, pIf, poNone, poSome, pSl, pRev, pCall, pCB, pTIx, piSeq, eP, eF, pth0, pthS, eRd, eFr, eMv, eaNil, eaCons, eaLate, eTup, eLst, eIx, eOp, eUn, eIf, eCall, eCB, eCBF, eSl, eSlH, eTIx, ePop, eCat, eiSeq, eiRange, eiEnum, dputs, dget, dset, dwipe, getP, getD, setP, getAll, fnEn, startD, opAdd, opSub, opMul, opMod, opDiv, opPow, opNeg, opEq, opNe, opLt, opLe, opGt, opGe, opIsN, opNotN, opIx, opSl, opRev, ipAdd, fLen, fTuple, fList, fInt, fAbs, OV.fz, fzL, nol, nolL, List.map_cons, List.map_nil, List.cons_append, List.nil_append, List.replicate_succ, List.replicate_zero, List.append_nil, List.length_cons, List.length_nil, if_true, if_false, eZ, eFz, goF, frzD, frzO, List.map, fzL_im, eqOk, scalD, deq, atD, ixD]
  refine ⟨hline _ hlr, ?_⟩
  refine comp_keys fdRuleOf m t hm ht _ _ _ _ _ _ _ rs _ _ hr ?_
  simp [fAny, bools_map]
  have ea : (rs.map fun r => r.1 == m && r.2.1 == t).any id = rs.any fun r => r.1 == m && r.2.1 == t := by rw [List.any_map]; rfl
  rw [ea]
  rcases hQ with ⟨hno, hQ⟩ | ⟨l, hyes, hro, hi, hok, hl, hQ⟩
  · rw [hno, hA]
    simp [seq_def, sIf, sRet, sRetN, sAsg, sPar, sPar3, sDrop, sAug, sApp, sAppP, sExt, sIns, sSet, sAugIx, sNext, sBreak, sCont, sRaise, goN, goT, gN, gsNil, gsCons, gT, etP, etE, etAnd, etOr, etNot, tB, tTru, tAndP, tOrP, tNotP, tYesP, pVar, pC, pOp, pUn, paNil, paCons, pTup, pLst, pAndV, pOrV, pNotV, pIf, poNone, poSome, pSl, pRev, pCall, pCB, pTIx, piSeq, eP, eF, pth0, pthS, eRd, eFr, eMv, eaNil, eaCons, eaLate, eTup, eLst, eIx, eOp, eUn, eIf, eCall, eCB, eCBF, eSl, eSlH, eTIx, ePop, eCat, eiSeq, eiRange, eiEnum, dputs, dget, dset, dwipe, getP, getD, setP, getAll, fnEn, startD, opAdd, opSub, opMul, opMod, opDiv, opPow, opNeg, opEq, opNe, opLt, opLe, opGt, opGe, opIsN, opNotN, opIx, opSl, opRev, ipAdd, fLen, fTuple, fList, fInt, fAbs, OV.fz, fzL, nol, nolL, List.map_cons, List.map_nil, List.cons_append, List.nil_append, List.replicate_succ, List.replicate_zero, List.append_nil, List.length_cons, List.length_nil, if_true, if_false, eZ, eFz, goF, frzD, frzO, List.map, fzL_im, eqOk, scalD, deq]
    exact hQ
  · rw [hyes, hB]
    simp only [if_true, sNext]
    rw [hN]
    refine seq_st fun N2 hN2 => ?_
    simp [seq_def, sIf, sRet, sRetN, sAsg, sPar, sPar3, sDrop, sAug, sApp, sAppP, sExt, sIns, sSet, sAugIx, sNext, sBreak, sCont, sRaise, goN, goT, gN, gsNil, gsCons, gT, etP, etE, etAnd, etOr, etNot, tB, tTru, tAndP, tOrP, tNotP, tYesP, pVar, pC, pOp, pUn, paNil, paCons, pTup, pLst, pAndV, pOrV, pNotV, pIf, poNone, poSome, pSl, pRev, pCall, pCB, pTIx, piSeq, eP, eF, pth0, pthS, eRd, eFr, eMv, eaNil, eaCons, eaLate, eTup, eLst, eIx, eOp, eUn, eIf, eCall, eCB, eCBF, eSl, eSlH, eTIx, ePop, eCat, eiSeq, eiRange, eiEnum, dputs, dget, dset, dwipe, getP, getD, setP, getAll, fnEn, startD, opAdd, opSub, opMul, opMod, opDiv, opPow, opNeg, opEq, opNe, opLt, opLe, opGt, opGe, opIsN, opNotN, opIx, opSl, opRev, ipAdd, fLen, fTuple, fList, fInt, fAbs, OV.fz, fzL, nol, nolL, List.map_cons, List.map_nil, List.cons_append, List.nil_append, List.replicate_succ, List.replicate_zero, List.append_nil, List.length_cons, List.length_nil, if_true, if_false, eZ, eFz, goF, frzD, frzO, List.map, fzL_im, eqOk, scalD, deq, l0, l2]
    refine ⟨ms, rs, m, t, rfl, hm, ht, hr, ?_⟩
    rw [hro]
    have en : nolL (pEL l).reverse = true := by rw [pEL_map, ← List.map_reverse]; exact nol_parts _
    simp [seq_def, sIf, sRet, sRetN, sAsg, sPar, sPar3, sDrop, sAug, sApp, sAppP, sExt, sIns, sSet, sAugIx, sNext, sBreak, sCont, sRaise, goN, goT, gN, gsNil, gsCons, gT, etP, etE, etAnd, etOr, etNot, tB, tTru, tAndP, tOrP, tNotP, tYesP, pVar, pC, pOp, pUn, paNil, paCons, pTup, pLst, pAndV, pOrV, pNotV, pIf, poNone, poSome, pSl, pRev, pCall, pCB, pTIx, piSeq, eP, eF, pth0, pthS, eRd, eFr, eMv, eaNil, eaCons, eaLate, eTup, eLst, eIx, eOp, eUn, eIf, eCall, eCB, eCBF, eSl, eSlH, eTIx, ePop, eCat, eiSeq, eiRange, eiEnum, dputs, dget, dset, dwipe, getP, getD, setP, getAll, fnEn, startD, opAdd, opSub, opMul, opMod, opDiv, opPow, opNeg, opEq, opNe, opLt, opLe, opGt, opGe, opIsN, opNotN, opIx, opSl, opRev, ipAdd, fLen, fTuple, fList, fInt, fAbs, OV.fz, fzL, nol, nolL, List.map_cons, List.map_nil, List.cons_append, List.nil_append, List.replicate_succ, List.replicate_zero, List.append_nil, List.length_cons, List.length_nil, if_true, if_false, eZ, eFz, goF, frzD, frzO, List.map, fzL_im, eqOk, scalD, deq, en]
    rw [hN2]
    refine seq_st fun N3 hN3 => ?_
    have ew := wrd_parts ts l
    have es := wsz_parts l
    have := rw_while ts fdRuleOf { (fnEn [] Qd Xd) with nx := N3 } (some (.im (tplE ms rs))) (some (.im (.str m))) (some (.im (.str t))) none none none {} (l.map It.p) (fun x mx => ⟨pInL_mem ts hi x mx, by
      obtain ⟨p, mp, rfl⟩ := List.mem_map.mp mx
      exact hok p mp⟩) (by omega) (by simp; omega) fun d8 d9 => ?_
    · have ek : stkI (l.map It.p) = (pEL l).reverse.map OV.im := by
        have := stkI_parts l []
        simpa [stkI_nil] using this
      rw [ek] at this
      simpa [optE, tplE, st5] using this
    · rw [ew]
      show N3 _
      rw [hN3]
      generalize ({} : St3).puts (pWL ts l) = r at *
      have ei : ∀ is : List Int, fzL (is.map fun i => OV.im (.int i)) = is.map D.int := fz_ints
      have ez : ∀ c, OV.fz (.im (optE c)) = optE c := fun c => rfl
      simp [seq_def, sIf, sRet, sRetN, sAsg, sPar, sPar3, sDrop, sAug, sApp, sAppP, sExt, sIns, sSet, sAugIx, sNext, sBreak, sCont, sRaise, goN, goT, gN, gsNil, gsCons, gT, etP, etE, etAnd, etOr, etNot, tB, tTru, tAndP, tOrP, tNotP, tYesP, pVar, pC, pOp, pUn, paNil, paCons, pTup, pLst, pAndV, pOrV, pNotV, pIf, poNone, poSome, pSl, pRev, pCall, pCB, pTIx, piSeq, eP, eF, pth0, pthS, eRd, eFr, eMv, eaNil, eaCons, eaLate, eTup, eLst, eIx, eOp, eUn, eIf, eCall, eCB, eCBF, eSl, eSlH, eTIx, ePop, eCat, eiSeq, eiRange, eiEnum, dputs, dget, dset, dwipe, getP, getD, setP, getAll, fnEn, startD, opAdd, opSub, opMul, opMod, opDiv, opPow, opNeg, opEq, opNe, opLt, opLe, opGt, opGe, opIsN, opNotN, opIx, opSl, opRev, ipAdd, fLen, fTuple, fList, fInt, fAbs, OV.fz, fzL, nol, nolL, List.map_cons, List.map_nil, List.cons_append, List.nil_append, List.replicate_succ, List.replicate_zero, List.append_nil, List.length_cons, List.length_nil, if_true, if_false, eZ, eFz, goF, frzD, frzO, List.map, fzL_im, eqOk, scalD, deq, atD, ixD, ei, ints_nol, l3]
      exact hQ
end G66
namespace G66
open PySem DL
/-! ### parts: plain, not deep -/
theorem strs_okL {ts : List Str} (h : ∀ t ∈ ts, okS t) : okL (ts.map D.str) = true := okL_mem fun d m => by
  obtain ⟨s, ms, rfl⟩ := List.mem_map.mp m
  exact h s ms
theorem strs_depL (ts : List Str) : depL (ts.map D.str) = 0 := Nat.le_zero.mp (depL_mem fun d m => by
  obtain ⟨s, ms, rfl⟩ := List.mem_map.mp m
  exact Nat.le_refl 0)
theorem hw_ok (w : Hw) : okS w.s := by cases w <;> decide +kernel
theorem ao_ok (w : Ao) : okS w.s := by cases w <;> decide +kernel
theorem lit_ok : okS "not" ∧ okS "none" ∧ okS "page" ∧ okS "apply" ∧ okS "if" := by decide +kernel
mutual
theorem tE_ok : ∀ t, tW t = true → okd (tE t) = true ∧ dep (tE t) ≤ 2 * tD t + 2
  | .has w ts, h => by
    have h2 : ∀ s ∈ ts, okS s := by simpa only [tW, List.all_eq_true] using h
    have h3 := hw_ok w
    refine ⟨?_, by simp [tE, dep, depL, strs_depL, tD]⟩
    simp only [tE, okd, okL, strs_okL h2, Bool.and_true]
    exact h3
  | .nope, _ => ⟨by have := lit_ok.2.1; simp only [tE, okd, okL, Bool.and_true]; exact this, by simp [tE, dep, depL]⟩
  | .not t, h => by
    obtain ⟨a, b⟩ := tE_ok t (by simpa [tW] using h)
    have := lit_ok.1
    refine ⟨by simp only [tE, okd, okL, a, Bool.and_true]; exact this, ?_⟩
    simp only [tE, dep, depL, tD]
    omega
  | .many w l, h => by
    simp only [tW, Bool.and_eq_true] at h
    obtain ⟨a, b⟩ := tEL_ok l h.2
    refine ⟨by simp only [tE, okd, okL, a, Bool.and_true]; exact ao_ok w, ?_⟩
    simp only [tE, dep, depL, tD]
    omega
theorem tEL_ok : ∀ l, tWL l = true → okL (tEL l) = true ∧ depL (tEL l) ≤ 2 * tDL l + 2
  | [], _ => ⟨rfl, Nat.zero_le _⟩
  | t :: l, h => by
    simp only [tWL, Bool.and_eq_true] at h
    obtain ⟨a, b⟩ := tE_ok t h.1
    obtain ⟨c, d⟩ := tEL_ok l h.2
    refine ⟨by simp only [tEL, okL, a, c, Bool.and_true], ?_⟩
    simp only [tEL, depL, tDL]
    omega
end
mutual
theorem pE_ok : ∀ p, (∀ q ∈ pre p, pG q) → okd (pE p) = true ∧ dep (pE p) ≤ 2 * pD p + 6
  | .page s l, h => by
    have h0 : okS s := (h (.page s l) (by simp [pre]) : pG (.page s l))
    obtain ⟨a, b⟩ := pEL_ok l fun q m => h q (by simp [pre, m])
    have := lit_ok.2.2.1
    refine ⟨by simp only [pE, okd, okL, a, Bool.and_true, Bool.and_eq_true]; exact ⟨this, h0⟩, ?_⟩
    simp only [pE, dep, depL, pD]
    omega
  | .apply m none, h => by
    have h0 : okS m := (h _ (by simp [pre]) : pG (.apply m none)).1
    have := lit_ok.2.2.2.1
    exact ⟨by simp only [pE, okd, okL, Bool.and_true, Bool.and_eq_true]; exact ⟨this, h0⟩, by simp [pE, dep, depL]⟩
  | .apply m (some ts), h => by
    have h0 : pG (.apply m (some ts)) := h _ (by simp [pre])
    have := lit_ok.2.2.2.1
    refine ⟨by simp only [pE, okd, okL, strs_okL (h0.2 ts rfl), Bool.and_true, Bool.and_eq_true]; exact ⟨this, h0.1⟩, by simp [pE, dep, depL, strs_depL]⟩
  | .iff t a b, h => by
    have h0 : pG (.iff t a b) := h _ (by simp [pre])
    obtain ⟨c, d⟩ := tE_ok t h0.2
    obtain ⟨a1, a2⟩ := pEL_ok a fun q m => h q (by simp [pre, m])
    obtain ⟨b1, b2⟩ := pEL_ok b fun q m => h q (by simp [pre, m])
    have := lit_ok.2.2.2.2
    have h1 := h0.1
    refine ⟨by simp only [pE, okd, okL, c, a1, b1, Bool.and_true]; exact this, ?_⟩
    simp only [pE, dep, depL, pD]
    omega
theorem pEL_ok : ∀ l, (∀ q ∈ preL l, pG q) → okL (pEL l) = true ∧ depL (pEL l) ≤ 2 * pDL l + 6
  | [], _ => ⟨rfl, Nat.zero_le _⟩
  | p :: l, h => by
    obtain ⟨a, b⟩ := pE_ok p fun q m => h q (by simp [preL, m])
    obtain ⟨c, d⟩ := pEL_ok l fun q m => h q (by simp [preL, m])
    refine ⟨by simp only [pEL, okL, a, c, Bool.and_true], ?_⟩
    simp only [pEL, depL, pDL]
    omega
end
mutual
theorem pre_sub : ∀ p, ∀ q ∈ pre p, pD q ≤ pD p ∧ ∀ r ∈ pre q, r ∈ pre p
  | .page s l, q, m => by
    simp only [pre, List.mem_cons] at m
    rcases m with rfl | m
    · exact ⟨Nat.le_refl _, fun r m => m⟩
    · obtain ⟨a, b⟩ := preL_sub l q m
      exact ⟨by simp only [pD]; omega, fun r m => by simp only [pre, List.mem_cons]; exact .inr (b r m)⟩
  | .apply m' t, q, m => by
    simp only [pre, List.mem_singleton] at m
    subst m
    exact ⟨Nat.le_refl _, fun r m => m⟩
  | .iff t a b, q, m => by
    simp only [pre, List.mem_cons, List.mem_append] at m
    rcases m with rfl | m | m
    · exact ⟨Nat.le_refl _, fun r m => m⟩
    · obtain ⟨c, d⟩ := preL_sub a q m
      exact ⟨by simp only [pD]; omega, fun r m => by simp only [pre, List.mem_cons, List.mem_append]; exact .inr (.inl (d r m))⟩
    · obtain ⟨c, d⟩ := preL_sub b q m
      exact ⟨by simp only [pD]; omega, fun r m => by simp only [pre, List.mem_cons, List.mem_append]; exact .inr (.inr (d r m))⟩
theorem preL_sub : ∀ l, ∀ q ∈ preL l, pD q ≤ pDL l ∧ ∀ r ∈ pre q, r ∈ preL l
  | p :: l, q, m => by
    simp only [preL, List.mem_append] at m
    rcases m with m | m
    · obtain ⟨a, b⟩ := pre_sub p q m
      exact ⟨by simp only [pDL]; omega, fun r m => by simp only [preL, List.mem_append]; exact .inl (b r m)⟩
    · obtain ⟨a, b⟩ := preL_sub l q m
      exact ⟨by simp only [pDL]; omega, fun r m => by simp only [preL, List.mem_append]; exact .inr (b r m)⟩
end
theorem cmp_parts {l : List Part} (h : gl l) (f : Part → Bool) : cmpOk (.lst (((preL l).filter f).map pE)) := by
  obtain ⟨h1, _, _, h4⟩ := gl_ok h
  have key : ∀ d ∈ ((preL l).filter f).map pE, okd d = true ∧ dep d ≤ 46 := fun d m => by
    obtain ⟨q, mq, rfl⟩ := List.mem_map.mp m
    have mq := (List.mem_filter.mp mq).1
    obtain ⟨a, b⟩ := preL_sub l q mq
    obtain ⟨c, e⟩ := pE_ok q fun r m => h4 r (b r m)
    exact ⟨c, by omega⟩
  refine ⟨by simp only [okd]; exact okL_mem fun d m => (key d m).1, ?_⟩
  simp only [dep]
  have : depL (((preL l).filter f).map pE) ≤ 46 := depL_mem fun d m => (key d m).2
  omega
/-! ### straight rules -/
/-- what a straight rule's word is -/
def stW (l : List Part) (u : List Int) (m : Str) (v : List Int) : Prop :=
  pWL ["p", "q"] l = u.map .int ++ .str m :: v.map .int ∧ (u.length ≤ 4 ∧ v.length ≤ 4) ∧ (∀ i ∈ u ++ v, i.natAbs < 10 ^ 12) ∧ (m = "m" ∨ m = "n")
abbrev pqI (x : Str) : Int := (2 * (List.idxOf x (["p", "q"] : List Str) : Nat) : Int)
theorem idx_small (p : Str) : ((2 * (List.idxOf p (["p", "q"] : List Str) : Nat) : Int)).natAbs < 10 ^ 12 ∧ ((2 * (List.idxOf p (["p", "q"] : List Str) : Nat) : Int) + 1).natAbs < 10 ^ 12 := by
  have h : List.idxOf p (["p", "q"] : List Str) ≤ 2 := List.idxOf_le_length
  constructor <;> omega
theorem stI_word {m p : Str} {i : List Part} (hi : i = [cl m] ∨ i = [lf p, cl m] ∨ i = [cl m, lf p]) : ∃ a b : List Int, pWL ["p", "q"] i = a.map .int ++ .str m :: b.map .int ∧ (a.length ≤ 2 ∧ b.length ≤ 2) ∧ ∀ j ∈ a ++ b, j.natAbs < 10 ^ 12 := by
  obtain ⟨h1, h2⟩ := idx_small p
  rcases hi with rfl | rfl | rfl
  · exact ⟨[], [], by simp [pWL, pW], by simp, by simp⟩
  · refine ⟨[pqI p, pqI p + 1], [], by simp [pWL, pW], by simp, fun j mj => ?_⟩
    simp at mj
    rcases mj with rfl | rfl
    · exact h1
    · exact h2
  · refine ⟨[], [pqI p, pqI p + 1], by simp [pWL, pW], by simp, fun j mj => ?_⟩
    simp at mj
    rcases mj with rfl | rfl
    · exact h1
    · exact h2
theorem stP_word {l : List Part} (h : stP l) : ∃ u m v, stW l u m v := by
  obtain ⟨m, p, q, i, hm, hp, hq, hi, hl⟩ := h
  obtain ⟨a, b, e, ⟨la, lb⟩, hs⟩ := stI_word hi
  unfold stW
  rcases hl with rfl | rfl | rfl
  · exact ⟨a, m, b, e, ⟨by omega, by omega⟩, hs, hm⟩
  · obtain ⟨h1, h2⟩ := idx_small q
    refine ⟨pqI q :: a, m, b ++ [pqI q + 1], by simp [pWL, pW, e], ⟨by simp; omega, by simp; omega⟩, fun j mj => ?_, hm⟩
    simp at mj
    rcases mj with rfl | mj | mj | rfl
    · exact h1
    · exact hs j (List.mem_append_left _ mj)
    · exact hs j (List.mem_append_right _ mj)
    · exact h2
  · obtain ⟨h1, h2⟩ := idx_small "p"
    refine ⟨pqI "p" :: (pqI "p" + 1) :: a, m, b, by have hp0 : pqI "p" = 0 := by decide +kernel
                                                    rw [pWL, e, hp0]; simp [pWL, pW], ⟨by simp; omega, by omega⟩, fun j mj => ?_, hm⟩
    simp only [List.cons_append, List.mem_cons] at mj
    rcases mj with rfl | rfl | mj
    · exact h1
    · exact h2
    · exact hs j mj
theorem puts_ints (w : List Int) : ∀ (s : St3) (r : List D), s.puts (w.map .int ++ r) = St3.puts (match s.c with | none => { s with u := s.u ++ w } | some _ => { s with v := s.v ++ w }) r := by
  induction w with
  | nil =>
    intro s r
    obtain ⟨u, v, c⟩ := s
    cases c <;> simp
  | cons i w ih =>
    intro s r
    rw [List.map_cons, List.cons_append, puts_cons, ih]
    obtain ⟨u, v, c⟩ := s
    cases c <;> simp [St3.put]
theorem puts_word (u v : List Int) (m : Str) : ({} : St3).puts (u.map .int ++ .str m :: v.map .int) = ⟨u, v, some m⟩ := by
  rw [puts_ints, puts_cons]
  have := puts_ints v (St3.put ⟨u, [], none⟩ (.str m)) []
  simp only [List.append_nil] at this
  simp only [List.nil_append]
  rw [this]
  simp [St3.put, St3.puts]
theorem stP_str {l : List Part} (h : stP l) : strR l = true := by
  obtain ⟨m, p, q, i, hm, hp, hq, hi, hl⟩ := h
  rcases hi with rfl | rfl | rfl <;> rcases hl with rfl | rfl | rfl <;> simp [strR, preL, pre, isApp, isIf, List.filter]
theorem stP_small {l : List Part} (h : stP l) : (preL l).length ≤ 10 ∧ pDL l ≤ 2 ∧ pInL ["p", "q"] l ∧ (∀ q ∈ preL l, pG q) ∧ (pWL ["p", "q"] l).length ≤ 20 := by
  obtain ⟨m, p, q, i, hm, hp, hq, hi, hl⟩ := h
  have hmk : okS m := by rcases hm with rfl | rfl <;> decide +kernel
  have hpk : okS p := by rcases hp with rfl | rfl <;> decide +kernel
  have hqk : okS q := by rcases hq with rfl | rfl <;> decide +kernel
  have hpp : okS "p" := by decide +kernel
  have hpm : p ∈ (["p", "q"] : List Str) := by rcases hp with rfl | rfl <;> simp
  have hqm : q ∈ (["p", "q"] : List Str) := by rcases hq with rfl | rfl <;> simp
  have hpp2 : ("p" : Str) ∈ (["p", "q"] : List Str) := by simp
  rcases hi with rfl | rfl | rfl <;> rcases hl with rfl | rfl | rfl <;>
    (refine ⟨by simp [preL, pre], by simp [pDL, pD], by simp only [pInL, pIn, hpm, hqm, hpp2, and_self], ?_, by simp [pWL, pW]⟩
     simp only [preL, pre, List.append_nil, List.nil_append, List.cons_append, List.forall_mem_cons, pG, hmk, hpk, hqk, hpp, true_and, reduceCtorEq, false_implies, implies_true, and_true, List.not_mem_nil]
     repeat' apply And.intro
     all_goals assumption)
end G66
namespace G66
open PySem DL
theorem filter_none {α : Type} (f : α → Bool) : ∀ l : List α, (l.filter f).isEmpty = !(l.any f)
  | [] => rfl
  | a :: l => by
    have ih := filter_none f l
    cases e : f a <;> simp [List.filter_cons, e, ih]
theorem law_calls : ∀ (l : List Part) (x0 x1 x2 x3 x4 x5 x6 x7 x8 x9 x10 x11 x12 x13 x14 x15 x16 x17 x18 x19 x20 : Option OV) (Q : List OV → DE → Prop), Q ((l.filter isApp).map fun p => .im (pE p)) [x0, x1, x2, x3, x4, x5, x6, x7, x8, x9, x10, x11, x12, x13, x14, x15, x16, x17, none, x19, x20] → compE [18] (gN 18) (to1_law fdBag fdStr fdTpl (fdAll 20) fdAlike fdStraight (fdLWords 20) fdRuleWords fdTake (fdTree 4) (fdLWord 20) fdWordOf (fdFlat 20) fdWordM fdTimes fdLet fdWordM) (eo1_law fdBag fdStr fdTpl (fdAll 20) fdAlike fdStraight (fdLWords 20) fdRuleWords fdTake (fdTree 4) (fdLWord 20) fdWordOf (fdFlat 20) fdWordM fdTimes fdLet fdWordM) (l.map pE) [x0, x1, x2, x3, x4, x5, x6, x7, x8, x9, x10, x11, x12, x13, x14, x15, x16, x17, x18, x19, x20] Q
  | [], x0, x1, x2, x3, x4, x5, x6, x7, x8, x9, x10, x11, x12, x13, x14, x15, x16, x17, x18, x19, x20, Q, h => h
  | p :: l, x0, x1, x2, x3, x4, x5, x6, x7, x8, x9, x10, x11, x12, x13, x14, x15, x16, x17, x18, x19, x20, Q, h => by
    cases p with
    | page q k =>
      simp [compE, to1_law, pE, seq_def, sIf, sRet, sRetN, sAsg, sPar, sPar3, sDrop, sAug, sApp, sAppP, sExt, sIns, sSet, sAugIx, sNext, sBreak, sCont, sRaise, goN, goT, gN, gsNil, gsCons, gT, etP, etE, etAnd, etOr, etNot, tB, tTru, tAndP, tOrP, tNotP, tYesP, pVar, pC, pOp, pUn, paNil, paCons, pTup, pLst, pAndV, pOrV, pNotV, pIf, poNone, poSome, pSl, pRev, pCall, pCB, pTIx, piSeq, eP, eF, pth0, pthS, eRd, eFr, eMv, eaNil, eaCons, eaLate, eTup, eLst, eIx, eOp, eUn, eIf, eCall, eCB, eCBF, eSl, eSlH, eTIx, ePop, eCat, eiSeq, eiRange, eiEnum, dputs, dget, dset, dwipe, getP, getD, setP, getAll, fnEn, startD, opAdd, opSub, opMul, opMod, opDiv, opPow, opNeg, opEq, opNe, opLt, opLe, opGt, opGe, opIsN, opNotN, opIx, opSl, opRev, ipAdd, fLen, fTuple, fList, fInt, fAbs, OV.fz, fzL, nol, nolL, List.map_cons, List.map_nil, List.cons_append, List.nil_append, List.replicate_succ, List.replicate_zero, List.append_nil, List.length_cons, List.length_nil, if_true, if_false, eZ, eFz, goF, frzD, frzO, List.map, fzL_im, eqOk, scalD, deq, atD, ixD, s7]
      exact law_calls l x0 x1 x2 x3 x4 x5 x6 x7 x8 x9 x10 x11 x12 x13 x14 x15 x16 x17 _ x19 x20 Q (by simpa [List.filter_cons, isApp] using h)
    | iff t a b =>
      simp [compE, to1_law, pE, seq_def, sIf, sRet, sRetN, sAsg, sPar, sPar3, sDrop, sAug, sApp, sAppP, sExt, sIns, sSet, sAugIx, sNext, sBreak, sCont, sRaise, goN, goT, gN, gsNil, gsCons, gT, etP, etE, etAnd, etOr, etNot, tB, tTru, tAndP, tOrP, tNotP, tYesP, pVar, pC, pOp, pUn, paNil, paCons, pTup, pLst, pAndV, pOrV, pNotV, pIf, poNone, poSome, pSl, pRev, pCall, pCB, pTIx, piSeq, eP, eF, pth0, pthS, eRd, eFr, eMv, eaNil, eaCons, eaLate, eTup, eLst, eIx, eOp, eUn, eIf, eCall, eCB, eCBF, eSl, eSlH, eTIx, ePop, eCat, eiSeq, eiRange, eiEnum, dputs, dget, dset, dwipe, getP, getD, setP, getAll, fnEn, startD, opAdd, opSub, opMul, opMod, opDiv, opPow, opNeg, opEq, opNe, opLt, opLe, opGt, opGe, opIsN, opNotN, opIx, opSl, opRev, ipAdd, fLen, fTuple, fList, fInt, fAbs, OV.fz, fzL, nol, nolL, List.map_cons, List.map_nil, List.cons_append, List.nil_append, List.replicate_succ, List.replicate_zero, List.append_nil, List.length_cons, List.length_nil, if_true, if_false, eZ, eFz, goF, frzD, frzO, List.map, fzL_im, eqOk, scalD, deq, atD, ixD, s9]
      exact law_calls l x0 x1 x2 x3 x4 x5 x6 x7 x8 x9 x10 x11 x12 x13 x14 x15 x16 x17 _ x19 x20 Q (by simpa [List.filter_cons, isApp] using h)
    | apply m t =>
      cases t <;>
      · simp [compE, to1_law, eo1_law, pE, seq_def, sIf, sRet, sRetN, sAsg, sPar, sPar3, sDrop, sAug, sApp, sAppP, sExt, sIns, sSet, sAugIx, sNext, sBreak, sCont, sRaise, goN, goT, gN, gsNil, gsCons, gT, etP, etE, etAnd, etOr, etNot, tB, tTru, tAndP, tOrP, tNotP, tYesP, pVar, pC, pOp, pUn, paNil, paCons, pTup, pLst, pAndV, pOrV, pNotV, pIf, poNone, poSome, pSl, pRev, pCall, pCB, pTIx, piSeq, eP, eF, pth0, pthS, eRd, eFr, eMv, eaNil, eaCons, eaLate, eTup, eLst, eIx, eOp, eUn, eIf, eCall, eCB, eCBF, eSl, eSlH, eTIx, ePop, eCat, eiSeq, eiRange, eiEnum, dputs, dget, dset, dwipe, getP, getD, setP, getAll, fnEn, startD, opAdd, opSub, opMul, opMod, opDiv, opPow, opNeg, opEq, opNe, opLt, opLe, opGt, opGe, opIsN, opNotN, opIx, opSl, opRev, ipAdd, fLen, fTuple, fList, fInt, fAbs, OV.fz, fzL, nol, nolL, List.map_cons, List.map_nil, List.cons_append, List.nil_append, List.replicate_succ, List.replicate_zero, List.append_nil, List.length_cons, List.length_nil, if_true, if_false, eZ, eFz, goF, frzD, frzO, List.map, fzL_im, eqOk, scalD, deq, atD, ixD, s8]
        exact law_calls l x0 x1 x2 x3 x4 x5 x6 x7 x8 x9 x10 x11 x12 x13 x14 x15 x16 x17 _ x19 x20 _ (by simpa [List.filter_cons, isApp, pE] using h)
theorem law_ifs : ∀ (l : List Part) (x0 x1 x2 x3 x4 x5 x6 x7 x8 x9 x10 x11 x12 x13 x14 x15 x16 x17 x18 x19 x20 : Option OV) (Q : List D → Prop), Q ((l.filter isIf).map pE) → compP [18] (gN 18) (tp1_law fdBag fdStr fdTpl (fdAll 20) fdAlike fdStraight (fdLWords 20) fdRuleWords fdTake (fdTree 4) (fdLWord 20) fdWordOf (fdFlat 20) fdWordM fdTimes fdLet fdWordM) (ep1_law fdBag fdStr fdTpl (fdAll 20) fdAlike fdStraight (fdLWords 20) fdRuleWords fdTake (fdTree 4) (fdLWord 20) fdWordOf (fdFlat 20) fdWordM fdTimes fdLet fdWordM) [x0, x1, x2, x3, x4, x5, x6, x7, x8, x9, x10, x11, x12, x13, x14, x15, x16, x17, x18, x19, x20] (l.map pE) Q
  | [], x0, x1, x2, x3, x4, x5, x6, x7, x8, x9, x10, x11, x12, x13, x14, x15, x16, x17, x18, x19, x20, Q, h => h
  | p :: l, x0, x1, x2, x3, x4, x5, x6, x7, x8, x9, x10, x11, x12, x13, x14, x15, x16, x17, x18, x19, x20, Q, h => by
    have ih := fun Q h => law_ifs l x0 x1 x2 x3 x4 x5 x6 x7 x8 x9 x10 x11 x12 x13 x14 x15 x16 x17 x18 x19 x20 Q h
    cases p with
    | page q k =>
      simp [compP, tp1_law, pE, seq_def, sIf, sRet, sRetN, sAsg, sPar, sPar3, sDrop, sAug, sApp, sAppP, sExt, sIns, sSet, sAugIx, sNext, sBreak, sCont, sRaise, goN, goT, gN, gsNil, gsCons, gT, etP, etE, etAnd, etOr, etNot, tB, tTru, tAndP, tOrP, tNotP, tYesP, pVar, pC, pOp, pUn, paNil, paCons, pTup, pLst, pAndV, pOrV, pNotV, pIf, poNone, poSome, pSl, pRev, pCall, pCB, pTIx, piSeq, eP, eF, pth0, pthS, eRd, eFr, eMv, eaNil, eaCons, eaLate, eTup, eLst, eIx, eOp, eUn, eIf, eCall, eCB, eCBF, eSl, eSlH, eTIx, ePop, eCat, eiSeq, eiRange, eiEnum, dputs, dget, dset, dwipe, getP, getD, setP, getAll, fnEn, startD, opAdd, opSub, opMul, opMod, opDiv, opPow, opNeg, opEq, opNe, opLt, opLe, opGt, opGe, opIsN, opNotN, opIx, opSl, opRev, ipAdd, fLen, fTuple, fList, fInt, fAbs, OV.fz, fzL, nol, nolL, List.map_cons, List.map_nil, List.cons_append, List.nil_append, List.replicate_succ, List.replicate_zero, List.append_nil, List.length_cons, List.length_nil, if_true, if_false, eZ, eFz, goF, frzD, frzO, List.map, fzL_im, eqOk, scalD, deq, atD, ixD, s4]
      exact ih Q (by simpa [List.filter_cons, isIf] using h)
    | iff t a b =>
      simp [compP, tp1_law, ep1_law, pE, seq_def, sIf, sRet, sRetN, sAsg, sPar, sPar3, sDrop, sAug, sApp, sAppP, sExt, sIns, sSet, sAugIx, sNext, sBreak, sCont, sRaise, goN, goT, gN, gsNil, gsCons, gT, etP, etE, etAnd, etOr, etNot, tB, tTru, tAndP, tOrP, tNotP, tYesP, pVar, pC, pOp, pUn, paNil, paCons, pTup, pLst, pAndV, pOrV, pNotV, pIf, poNone, poSome, pSl, pRev, pCall, pCB, pTIx, piSeq, eP, eF, pth0, pthS, eRd, eFr, eMv, eaNil, eaCons, eaLate, eTup, eLst, eIx, eOp, eUn, eIf, eCall, eCB, eCBF, eSl, eSlH, eTIx, ePop, eCat, eiSeq, eiRange, eiEnum, dputs, dget, dset, dwipe, getP, getD, setP, getAll, fnEn, startD, opAdd, opSub, opMul, opMod, opDiv, opPow, opNeg, opEq, opNe, opLt, opLe, opGt, opGe, opIsN, opNotN, opIx, opSl, opRev, ipAdd, fLen, fTuple, fList, fInt, fAbs, OV.fz, fzL, nol, nolL, List.map_cons, List.map_nil, List.cons_append, List.nil_append, List.replicate_succ, List.replicate_zero, List.append_nil, List.length_cons, List.length_nil, if_true, if_false, eZ, eFz, goF, frzD, frzO, List.map, fzL_im, eqOk, scalD, deq, atD, ixD, s6]
      exact ih _ (by simpa [List.filter_cons, isIf, pE] using h)
    | apply m t =>
      cases t <;>
      · simp [compP, tp1_law, pE, seq_def, sIf, sRet, sRetN, sAsg, sPar, sPar3, sDrop, sAug, sApp, sAppP, sExt, sIns, sSet, sAugIx, sNext, sBreak, sCont, sRaise, goN, goT, gN, gsNil, gsCons, gT, etP, etE, etAnd, etOr, etNot, tB, tTru, tAndP, tOrP, tNotP, tYesP, pVar, pC, pOp, pUn, paNil, paCons, pTup, pLst, pAndV, pOrV, pNotV, pIf, poNone, poSome, pSl, pRev, pCall, pCB, pTIx, piSeq, eP, eF, pth0, pthS, eRd, eFr, eMv, eaNil, eaCons, eaLate, eTup, eLst, eIx, eOp, eUn, eIf, eCall, eCB, eCBF, eSl, eSlH, eTIx, ePop, eCat, eiSeq, eiRange, eiEnum, dputs, dget, dset, dwipe, getP, getD, setP, getAll, fnEn, startD, opAdd, opSub, opMul, opMod, opDiv, opPow, opNeg, opEq, opNe, opLt, opLe, opGt, opGe, opIsN, opNotN, opIx, opSl, opRev, ipAdd, fLen, fTuple, fList, fInt, fAbs, OV.fz, fzL, nol, nolL, List.map_cons, List.map_nil, List.cons_append, List.nil_append, List.replicate_succ, List.replicate_zero, List.append_nil, List.length_cons, List.length_nil, if_true, if_false, eZ, eFz, goF, frzD, frzO, List.map, fzL_im, eqOk, scalD, deq, atD, ixD, s5]
        exact ih _ (by simpa [List.filter_cons, isIf] using h)
theorem law_truths (E : En) (x0 x1 x2 x3 x5 x6 x7 x8 x9 x15 x16 x17 x19 x20 : Option OV) : ∀ (rs : List Rule) (acc : List Bool) (x10 x11 x12 x13 x14 x18 : Option OV), (∀ r ∈ rs, gl r.2.2) → acc.length + rs.length ≤ 1000 →
    (∀ x10 x11 x12 x13 x14 x18, E.nx [x0, x1, x2, x3, some (.lst ((acc ++ rs.map fun r => strR r.2.2).map fun b => .im (.bl b))), x5, x6, x7, x8, x9, x10, x11, x12, x13, x14, x15, x16, x17, x18, x19, x20]) → forL (gT 3 (gsCons (gN 10) (gsCons (gN 11) (gsCons (gN 12) gsNil)))) (L1_law fdBag fdStr fdTpl (fdAll 20) fdAlike fdStraight (fdLWords 20) fdRuleWords fdTake (fdTree 4) (fdLWord 20) fdWordOf (fdFlat 20) fdWordM fdTimes fdLet fdWordM) E (rs.map rE) [x0, x1, x2, x3, some (.lst (acc.map fun b => .im (.bl b))), x5, x6, x7, x8, x9, x10, x11, x12, x13, x14, x15, x16, x17, x18, x19, x20]
  | [], acc, x10, x11, x12, x13, x14, x18, hg, hl, h => by
    have := h x10 x11 x12 x13 x14 x18
    simpa [forL] using this
  | r :: rs, acc, x10, x11, x12, x13, x14, x18, hg, hl, h => by
    simp only [List.length_cons] at hl
    have hacc : acc.length < line := by show _ < 16777216; omega
    have hline : ∀ n : Nat, n ≤ 10000 → n ≤ line := fun n h => Nat.le_trans h (by decide)
    have g := hg r List.mem_cons_self
    obtain ⟨g1, g2, _, _⟩ := gl_ok g
    have hc := cmp_parts g isIf
    obtain ⟨r1, r2, l⟩ := r
    simp only at g g1 g2 hc
    rw [List.map_cons]
    refine for_st fun N hN => ?_
    have fin : ∀ x10 x11 x12 x13 x14 x18, N [x0, x1, x2, x3, some (.lst ((acc ++ [strR l]).map fun b => .im (.bl b))), x5, x6, x7, x8, x9, x10, x11, x12, x13, x14, x15, x16, x17, x18, x19, x20] := fun x10 x11 x12 x13 x14 x18 => by
      rw [hN]
      refine law_truths E x0 x1 x2 x3 x5 x6 x7 x8 x9 x15 x16 x17 x19 x20 rs (acc ++ [strR l]) _ _ _ _ _ _ (fun r m => hg r (List.mem_cons_of_mem _ m)) (by simp; omega) fun x10 x11 x12 x13 x14 x18 => ?_
      have := h x10 x11 x12 x13 x14 x18
      simpa using this
    simp only [gT, rE, gsCons, gsNil, gN, dset]
    refine ⟨rfl, trivial, ?_⟩
    unfold L1_law
    refine seq_st fun N1 hN1 => ?_
    simp [seq_def, sIf, sRet, sRetN, sAsg, sPar, sPar3, sDrop, sAug, sApp, sAppP, sExt, sIns, sSet, sAugIx, sNext, sBreak, sCont, sRaise, goN, goT, gN, gsNil, gsCons, gT, etP, etE, etAnd, etOr, etNot, tB, tTru, tAndP, tOrP, tNotP, tYesP, pVar, pC, pOp, pUn, paNil, paCons, pTup, pLst, pAndV, pOrV, pNotV, pIf, poNone, poSome, pSl, pRev, pCall, pCB, pTIx, piSeq, eP, eF, pth0, pthS, eRd, eFr, eMv, eaNil, eaCons, eaLate, eTup, eLst, eIx, eOp, eUn, eIf, eCall, eCB, eCBF, eSl, eSlH, eTIx, ePop, eCat, eiSeq, eiRange, eiEnum, dputs, dget, dset, dwipe, getP, getD, setP, getAll, fnEn, startD, opAdd, opSub, opMul, opMod, opDiv, opPow, opNeg, opEq, opNe, opLt, opLe, opGt, opGe, opIsN, opNotN, opIx, opSl, opRev, ipAdd, fLen, fTuple, fList, fInt, fAbs, OV.fz, fzL, nol, nolL, List.map_cons, List.map_nil, List.cons_append, List.nil_append, List.replicate_succ, List.replicate_zero, List.append_nil, List.length_cons, List.length_nil, if_true, if_false, eZ, eFz, goF, frzD, frzO, List.map, fzL_im, eqOk, scalD, deq]
    refine ⟨l, rfl, g1, g2, ?_⟩
    simp only [OV.fz]
    rw [fz_parts, hN1]
    refine ⟨trivial, ?_⟩
    refine seq_st fun N2 hN2 => ?_
    simp [eComp, seq_def, sIf, sRet, sRetN, sAsg, sPar, sPar3, sDrop, sAug, sApp, sAppP, sExt, sIns, sSet, sAugIx, sNext, sBreak, sCont, sRaise, goN, goT, gN, gsNil, gsCons, gT, etP, etE, etAnd, etOr, etNot, tB, tTru, tAndP, tOrP, tNotP, tYesP, pVar, pC, pOp, pUn, paNil, paCons, pTup, pLst, pAndV, pOrV, pNotV, pIf, poNone, poSome, pSl, pRev, pCall, pCB, pTIx, piSeq, eP, eF, pth0, pthS, eRd, eFr, eMv, eaNil, eaCons, eaLate, eTup, eLst, eIx, eOp, eUn, eIf, eCall, eCB, eCBF, eSl, eSlH, eTIx, ePop, eCat, eiSeq, eiRange, eiEnum, dputs, dget, dset, dwipe, getP, getD, setP, getAll, fnEn, startD, opAdd, opSub, opMul, opMod, opDiv, opPow, opNeg, opEq, opNe, opLt, opLe, opGt, opGe, opIsN, opNotN, opIx, opSl, opRev, ipAdd, fLen, fTuple, fList, fInt, fAbs, OV.fz, fzL, nol, nolL, List.map_cons, List.map_nil, List.cons_append, List.nil_append, List.replicate_succ, List.replicate_zero, List.append_nil, List.length_cons, List.length_nil, if_true, if_false, eZ, eFz, goF, frzD, frzO, List.map, fzL_im, eqOk, scalD, deq]
    refine ⟨hline _ g2, ?_⟩
    refine law_calls (preL l) _ _ _ _ _ _ _ _ _ _ _ _ _ _ _ _ _ _ _ _ _ _ ?_
    have ef : fzL (((preL l).filter isApp).map fun p => OV.im (pE p)) = ((preL l).filter isApp).map pE := by rw [fzL_map, List.map_map]; rfl
    simp only [goF, dset, OV.fz]
    rw [ef, hN2]
    have hf : ((preL l).filter isIf).length ≤ 10000 := Nat.le_trans (List.length_filter_le _ _) g2
    have ife := filter_none isIf (preL l)
    have go : ∀ (b : Bool) (x14 : Option OV), b = strR l → N [x0, x1, x2, x3, some (.lst ((acc.map fun b => .im (.bl b)) ++ [.im (.bl b)])), x5, x6, x7, x8, x9, some (.im (.str r1)), some (.im (.str r2)), some (.im (.tup (pEL l))), some (.im (.lst ((preL l).map pE))), x14, x15, x16, x17, none, x19, x20] := fun b x14 e => by
      rw [e]
      have := fin (some (.im (.str r1))) (some (.im (.str r2))) (some (.im (.tup (pEL l)))) (some (.im (.lst ((preL l).map pE)))) x14 none
      rw [List.map_append] at this
      exact this
    rcases hcl : (preL l).filter isApp with _ | ⟨p, _ | ⟨q, t⟩⟩
    · simp [seq_def, sIf, sRet, sRetN, sAsg, sPar, sPar3, sDrop, sAug, sApp, sAppP, sExt, sIns, sSet, sAugIx, sNext, sBreak, sCont, sRaise, goN, goT, gN, gsNil, gsCons, gT, etP, etE, etAnd, etOr, etNot, tB, tTru, tAndP, tOrP, tNotP, tYesP, pVar, pC, pOp, pUn, paNil, paCons, pTup, pLst, pAndV, pOrV, pNotV, pIf, poNone, poSome, pSl, pRev, pCall, pCB, pTIx, piSeq, eP, eF, pth0, pthS, eRd, eFr, eMv, eaNil, eaCons, eaLate, eTup, eLst, eIx, eOp, eUn, eIf, eCall, eCB, eCBF, eSl, eSlH, eTIx, ePop, eCat, eiSeq, eiRange, eiEnum, dputs, dget, dset, dwipe, getP, getD, setP, getAll, fnEn, startD, opAdd, opSub, opMul, opMod, opDiv, opPow, opNeg, opEq, opNe, opLt, opLe, opGt, opGe, opIsN, opNotN, opIx, opSl, opRev, ipAdd, fLen, fTuple, fList, fInt, fAbs, OV.fz, fzL, nol, nolL, List.map_cons, List.map_nil, List.cons_append, List.nil_append, List.replicate_succ, List.replicate_zero, List.append_nil, List.length_cons, List.length_nil, if_true, if_false, eZ, eFz, goF, frzD, frzO, List.map, fzL_im, eqOk, scalD, deq, frzD, frzO, pAndV, hacc]
      simpa using go false _ (by simp [strR, hcl])
    · have hp : isApp p = true := (List.mem_filter.mp (by rw [hcl]; exact List.mem_cons_self : p ∈ (preL l).filter isApp)).2
      cases p with
      | page _ _ => cases hp
      | iff _ _ _ => cases hp
      | apply m t =>
        cases t with
        | some ts =>
          simp [seq_def, sIf, sRet, sRetN, sAsg, sPar, sPar3, sDrop, sAug, sApp, sAppP, sExt, sIns, sSet, sAugIx, sNext, sBreak, sCont, sRaise, goN, goT, gN, gsNil, gsCons, gT, etP, etE, etAnd, etOr, etNot, tB, tTru, tAndP, tOrP, tNotP, tYesP, pVar, pC, pOp, pUn, paNil, paCons, pTup, pLst, pAndV, pOrV, pNotV, pIf, poNone, poSome, pSl, pRev, pCall, pCB, pTIx, piSeq, eP, eF, pth0, pthS, eRd, eFr, eMv, eaNil, eaCons, eaLate, eTup, eLst, eIx, eOp, eUn, eIf, eCall, eCB, eCBF, eSl, eSlH, eTIx, ePop, eCat, eiSeq, eiRange, eiEnum, dputs, dget, dset, dwipe, getP, getD, setP, getAll, fnEn, startD, opAdd, opSub, opMul, opMod, opDiv, opPow, opNeg, opEq, opNe, opLt, opLe, opGt, opGe, opIsN, opNotN, opIx, opSl, opRev, ipAdd, fLen, fTuple, fList, fInt, fAbs, OV.fz, fzL, nol, nolL, List.map_cons, List.map_nil, List.cons_append, List.nil_append, List.replicate_succ, List.replicate_zero, List.append_nil, List.length_cons, List.length_nil, if_true, if_false, eZ, eFz, goF, frzD, frzO, List.map, fzL_im, eqOk, scalD, deq, frzD, frzO, pAndV, hacc, pE, atD, ixD]
          simpa [pE] using go false _ (by simp [strR, hcl])
        | none =>
          simp [seq_def, sIf, sRet, sRetN, sAsg, sPar, sPar3, sDrop, sAug, sApp, sAppP, sExt, sIns, sSet, sAugIx, sNext, sBreak, sCont, sRaise, goN, goT, gN, gsNil, gsCons, gT, etP, etE, etAnd, etOr, etNot, tB, tTru, tAndP, tOrP, tNotP, tYesP, pVar, pC, pOp, pUn, paNil, paCons, pTup, pLst, pAndV, pOrV, pNotV, pIf, poNone, poSome, pSl, pRev, pCall, pCB, pTIx, piSeq, eP, eF, pth0, pthS, eRd, eFr, eMv, eaNil, eaCons, eaLate, eTup, eLst, eIx, eOp, eUn, eIf, eCall, eCB, eCBF, eSl, eSlH, eTIx, ePop, eCat, eiSeq, eiRange, eiEnum, dputs, dget, dset, dwipe, getP, getD, setP, getAll, fnEn, startD, opAdd, opSub, opMul, opMod, opDiv, opPow, opNeg, opEq, opNe, opLt, opLe, opGt, opGe, opIsN, opNotN, opIx, opSl, opRev, ipAdd, fLen, fTuple, fList, fInt, fAbs, OV.fz, fzL, nol, nolL, List.map_cons, List.map_nil, List.cons_append, List.nil_append, List.replicate_succ, List.replicate_zero, List.append_nil, List.length_cons, List.length_nil, if_true, if_false, eZ, eFz, goF, frzD, frzO, List.map, fzL_im, eqOk, scalD, deq, frzD, frzO, pAndV, hacc, pE, atD, ixD, pComp]
          refine ⟨hline _ g2, law_ifs (preL l) _ _ _ _ _ _ _ _ _ _ _ _ _ _ _ _ _ _ _ _ _ _ ?_⟩
          have ed : deqL (((preL l).filter isIf).map pE) [] = !((preL l).any isIf) := by
            have := deq_nil (((preL l).filter isIf).map pE)
            simpa only [deq, List.isEmpty_map, ife] using this
          rw [ed]
          refine ⟨⟨hc, cmp_nil⟩, ?_⟩
          simpa [pE] using go (!((preL l).any isIf)) _ (by simp [strR, hcl])
    · simp [seq_def, sIf, sRet, sRetN, sAsg, sPar, sPar3, sDrop, sAug, sApp, sAppP, sExt, sIns, sSet, sAugIx, sNext, sBreak, sCont, sRaise, goN, goT, gN, gsNil, gsCons, gT, etP, etE, etAnd, etOr, etNot, tB, tTru, tAndP, tOrP, tNotP, tYesP, pVar, pC, pOp, pUn, paNil, paCons, pTup, pLst, pAndV, pOrV, pNotV, pIf, poNone, poSome, pSl, pRev, pCall, pCB, pTIx, piSeq, eP, eF, pth0, pthS, eRd, eFr, eMv, eaNil, eaCons, eaLate, eTup, eLst, eIx, eOp, eUn, eIf, eCall, eCB, eCBF, eSl, eSlH, eTIx, ePop, eCat, eiSeq, eiRange, eiEnum, dputs, dget, dset, dwipe, getP, getD, setP, getAll, fnEn, startD, opAdd, opSub, opMul, opMod, opDiv, opPow, opNeg, opEq, opNe, opLt, opLe, opGt, opGe, opIsN, opNotN, opIx, opSl, opRev, ipAdd, fLen, fTuple, fList, fInt, fAbs, OV.fz, fzL, nol, nolL, List.map_cons, List.map_nil, List.cons_append, List.nil_append, List.replicate_succ, List.replicate_zero, List.append_nil, List.length_cons, List.length_nil, if_true, if_false, eZ, eFz, goF, frzD, frzO, List.map, fzL_im, eqOk, scalD, deq, frzD, frzO, pAndV, hacc]
      rw [if_neg (by omega)]
      simpa using go false _ (by simp [strR, hcl])
end G66
namespace G66
open PySem DL
theorem isStr_int (i : Int) : isTy (.int i) "str" = false := by
  simp [isTy, tyD]
theorem isStr_str (x : Str) : isTy (.str x) "str" = true := by simp [isTy, tyD]
theorem law_at1 : ∀ (w : List Int) (k : Nat) (x0 x1 x2 x3 x4 x5 x6 x7 x8 x9 x10 x11 x12 x13 x14 x15 x16 x17 x18 x19 x20 : Option OV) (Q : List D → Prop), Q [] → compP [16, 20] (gT 2 (gsCons (gN 16) (gsCons (gN 20) gsNil))) (tp2_law fdBag fdStr fdTpl (fdAll 20) fdAlike fdStraight (fdLWords 20) fdRuleWords fdTake (fdTree 4) (fdLWord 20) fdWordOf (fdFlat 20) fdWordM fdTimes fdLet fdWordM) (ep2_law fdBag fdStr fdTpl (fdAll 20) fdAlike fdStraight (fdLWords 20) fdRuleWords fdTake (fdTree 4) (fdLWord 20) fdWordOf (fdFlat 20) fdWordM fdTimes fdLet fdWordM) [x0, x1, x2, x3, x4, x5, x6, x7, x8, x9, x10, x11, x12, x13, x14, x15, x16, x17, x18, x19, x20] (((w.map D.int).zipIdx k).map (fun p : D × Nat => D.pr [.int (p.2 : Nat), p.1])) Q
  | [], k, x0, x1, x2, x3, x4, x5, x6, x7, x8, x9, x10, x11, x12, x13, x14, x15, x16, x17, x18, x19, x20, Q, h => h
  | i :: w, k, x0, x1, x2, x3, x4, x5, x6, x7, x8, x9, x10, x11, x12, x13, x14, x15, x16, x17, x18, x19, x20, Q, h => by
    have ih := law_at1 w (k + 1) x0 x1 x2 x3 x4 x5 x6 x7 x8 x9 x10 x11 x12 x13 x14 x15 x16 x17 x18 x19 x20 Q h
    simp [compP, tp2_law, fIsi, isStr_int, noRaw, tyNames, seq_def, sIf, sRet, sRetN, sAsg, sPar, sPar3, sDrop, sAug, sApp, sAppP, sExt, sIns, sSet, sAugIx, sNext, sBreak, sCont, sRaise, goN, goT, gN, gsNil, gsCons, gT, etP, etE, etAnd, etOr, etNot, tB, tTru, tAndP, tOrP, tNotP, tYesP, pVar, pC, pOp, pUn, paNil, paCons, pTup, pLst, pAndV, pOrV, pNotV, pIf, poNone, poSome, pSl, pRev, pCall, pCB, pTIx, piSeq, eP, eF, pth0, pthS, eRd, eFr, eMv, eaNil, eaCons, eaLate, eTup, eLst, eIx, eOp, eUn, eIf, eCall, eCB, eCBF, eSl, eSlH, eTIx, ePop, eCat, eiSeq, eiRange, eiEnum, dputs, dget, dset, dwipe, getP, getD, setP, getAll, fnEn, startD, opAdd, opSub, opMul, opMod, opDiv, opPow, opNeg, opEq, opNe, opLt, opLe, opGt, opGe, opIsN, opNotN, opIx, opSl, opRev, ipAdd, fLen, fTuple, fList, fInt, fAbs, OV.fz, fzL, nol, nolL, List.map_cons, List.map_nil, List.cons_append, List.nil_append, List.replicate_succ, List.replicate_zero, List.append_nil, List.length_cons, List.length_nil, if_true, if_false, eZ, eFz, goF, frzD, frzO, List.map, fzL_im, eqOk, scalD, deq]
    simpa [tp2_law, ep2_law, Function.comp_def] using ih
theorem law_at : ∀ (u v : List Int) (m : Str) (k : Nat) (x0 x1 x2 x3 x4 x5 x6 x7 x8 x9 x10 x11 x12 x13 x14 x15 x16 x17 x18 x19 x20 : Option OV) (Q : List D → Prop), Q [.int ((k + u.length : Nat) : Int)] → compP [16, 20] (gT 2 (gsCons (gN 16) (gsCons (gN 20) gsNil))) (tp2_law fdBag fdStr fdTpl (fdAll 20) fdAlike fdStraight (fdLWords 20) fdRuleWords fdTake (fdTree 4) (fdLWord 20) fdWordOf (fdFlat 20) fdWordM fdTimes fdLet fdWordM) (ep2_law fdBag fdStr fdTpl (fdAll 20) fdAlike fdStraight (fdLWords 20) fdRuleWords fdTake (fdTree 4) (fdLWord 20) fdWordOf (fdFlat 20) fdWordM fdTimes fdLet fdWordM) [x0, x1, x2, x3, x4, x5, x6, x7, x8, x9, x10, x11, x12, x13, x14, x15, x16, x17, x18, x19, x20] (((u.map D.int ++ .str m :: v.map D.int).zipIdx k).map (fun p : D × Nat => D.pr [.int (p.2 : Nat), p.1])) Q
  | [], v, m, k, x0, x1, x2, x3, x4, x5, x6, x7, x8, x9, x10, x11, x12, x13, x14, x15, x16, x17, x18, x19, x20, Q, h => by
    have ih := law_at1 v (k + 1) x0 x1 x2 x3 x4 x5 x6 x7 x8 x9 x10 x11 x12 x13 x14 x15 x16 x17 x18 x19 x20 (fun ys => Q (.int (k : Nat) :: ys)) (by simpa using h)
    simp [compP, tp2_law, ep2_law, fIsi, isStr_str, noRaw, tyNames, seq_def, sIf, sRet, sRetN, sAsg, sPar, sPar3, sDrop, sAug, sApp, sAppP, sExt, sIns, sSet, sAugIx, sNext, sBreak, sCont, sRaise, goN, goT, gN, gsNil, gsCons, gT, etP, etE, etAnd, etOr, etNot, tB, tTru, tAndP, tOrP, tNotP, tYesP, pVar, pC, pOp, pUn, paNil, paCons, pTup, pLst, pAndV, pOrV, pNotV, pIf, poNone, poSome, pSl, pRev, pCall, pCB, pTIx, piSeq, eP, eF, pth0, pthS, eRd, eFr, eMv, eaNil, eaCons, eaLate, eTup, eLst, eIx, eOp, eUn, eIf, eCall, eCB, eCBF, eSl, eSlH, eTIx, ePop, eCat, eiSeq, eiRange, eiEnum, dputs, dget, dset, dwipe, getP, getD, setP, getAll, fnEn, startD, opAdd, opSub, opMul, opMod, opDiv, opPow, opNeg, opEq, opNe, opLt, opLe, opGt, opGe, opIsN, opNotN, opIx, opSl, opRev, ipAdd, fLen, fTuple, fList, fInt, fAbs, OV.fz, fzL, nol, nolL, List.map_cons, List.map_nil, List.cons_append, List.nil_append, List.replicate_succ, List.replicate_zero, List.append_nil, List.length_cons, List.length_nil, if_true, if_false, eZ, eFz, goF, frzD, frzO, List.map, fzL_im, eqOk, scalD, deq]
    simpa [tp2_law, ep2_law, Function.comp_def] using ih
  | i :: u, v, m, k, x0, x1, x2, x3, x4, x5, x6, x7, x8, x9, x10, x11, x12, x13, x14, x15, x16, x17, x18, x19, x20, Q, h => by
    have ih := law_at u v m (k + 1) x0 x1 x2 x3 x4 x5 x6 x7 x8 x9 x10 x11 x12 x13 x14 x15 x16 x17 x18 x19 x20 Q (by simpa [Nat.add_assoc, Nat.add_comm 1] using h)
    simp [compP, tp2_law, fIsi, isStr_int, noRaw, tyNames, seq_def, sIf, sRet, sRetN, sAsg, sPar, sPar3, sDrop, sAug, sApp, sAppP, sExt, sIns, sSet, sAugIx, sNext, sBreak, sCont, sRaise, goN, goT, gN, gsNil, gsCons, gT, etP, etE, etAnd, etOr, etNot, tB, tTru, tAndP, tOrP, tNotP, tYesP, pVar, pC, pOp, pUn, paNil, paCons, pTup, pLst, pAndV, pOrV, pNotV, pIf, poNone, poSome, pSl, pRev, pCall, pCB, pTIx, piSeq, eP, eF, pth0, pthS, eRd, eFr, eMv, eaNil, eaCons, eaLate, eTup, eLst, eIx, eOp, eUn, eIf, eCall, eCB, eCBF, eSl, eSlH, eTIx, ePop, eCat, eiSeq, eiRange, eiEnum, dputs, dget, dset, dwipe, getP, getD, setP, getAll, fnEn, startD, opAdd, opSub, opMul, opMod, opDiv, opPow, opNeg, opEq, opNe, opLt, opLe, opGt, opGe, opIsN, opNotN, opIx, opSl, opRev, ipAdd, fLen, fTuple, fList, fInt, fAbs, OV.fz, fzL, nol, nolL, List.map_cons, List.map_nil, List.cons_append, List.nil_append, List.replicate_succ, List.replicate_zero, List.append_nil, List.length_cons, List.length_nil, if_true, if_false, eZ, eFz, goF, frzD, frzO, List.map, fzL_im, eqOk, scalD, deq]
    simpa [tp2_law, ep2_law, Function.comp_def] using ih
theorem cut_ahead {α : Type} (u : List α) (x : α) (v : List α) : cutD (u ++ x :: v) none (some (u.length : Nat)) = u := by
  have h : ¬ ((u.length : Nat) : Int) < 0 := by omega
  simp only [cutD, sIxD, if_neg h]
  simp
theorem cut_behind {α : Type} (u : List α) (x : α) (v : List α) : cutD (u ++ x :: v) (some ((u.length : Nat) + 1)) none = v := by
  have h : ¬ ((u.length : Nat) + 1 : Int) < 0 := by omega
  have h2 : ((u.length : Nat) + 1 : Int).toNat = u.length + 1 := by omega
  simp only [cutD, sIxD, if_neg h, h2]
  simp only [List.length_append, List.length_cons]
  rw [Nat.min_eq_left (by omega)]
  rw [List.drop_append, List.drop_of_length_le (by omega)]
  simp
  rw [show u.length + (v.length + 1) - (u.length + 1) = v.length by omega, List.take_length]
theorem at_there {α : Type} (u : List α) (x : α) (v : List α) : atD (u ++ x :: v) (u.length : Nat) = some x := by
  unfold atD ixD
  rw [if_pos (by omega), if_pos (by simp; omega)]
  simp
theorem rule_found : ∀ {rs : List Rule} {r : Rule}, rs.Pairwise ky → r ∈ rs → ruleOf rs r.1 r.2.1 = r.2.2 ∧ (rs.any fun q => q.1 == r.1 && q.2.1 == r.2.1) = true
  | q :: rs, r, hp, m => by
    obtain ⟨h1, h2⟩ := List.pairwise_cons.mp hp
    rcases List.mem_cons.mp m with rfl | m
    · simp [ruleOf]
    · have n : (q.1 == r.1 && q.2.1 == r.2.1) = false := by
        have := h1 r m
        cases e : (q.1 == r.1 && q.2.1 == r.2.1) with
        | false => rfl
        | true =>
          simp only [Bool.and_eq_true, beq_iff_eq] at e
          exact absurd e this
      obtain ⟨a, b⟩ := rule_found h2 m
      refine ⟨?_, by simp only [List.any_cons, n, b, Bool.false_or]⟩
      unfold ruleOf at a ⊢
      rw [List.find?_cons, n]
      exact a
theorem parts_okI {l : List Part} (h : ∀ q ∈ preL l, pG q) (hd : pDL l ≤ 20) : ∀ x ∈ l, okI (.p x) := fun x m => by
  have mx : x ∈ preL l := by
    induction l with
    | nil => cases m
    | cons p l ih =>
      simp only [preL, List.mem_append]
      rcases List.mem_cons.mp m with rfl | m
      · exact .inl (by rw [pre_inn]; exact List.mem_cons_self)
      · exact .inr (ih (fun q mq => h q (by simp [preL, mq])) (by simp [pDL] at hd; omega) m)
  obtain ⟨a, b⟩ := preL_sub l x mx
  obtain ⟨c, d⟩ := pE_ok x fun r mr => h r (b r mr)
  exact ⟨c, by simp only [itE]; omega⟩
theorem sr_keys {ts : List Str} (ht : ∀ t ∈ ts, okS t) {r : Rule} (h : sr ts r) : okS r.1 ∧ okS r.2.1 := by
  refine ⟨?_, ht _ h.2.1⟩
  rcases h.1 with e | e <;> rw [e] <;> decide +kernel
theorem repr_word {u v : List Int} {m : Str} (hu : u.length ≤ 4 ∧ v.length ≤ 4) (hs : ∀ i ∈ u ++ v, i.natAbs < 10 ^ 12) (hm : m = "m" ∨ m = "n") : reprOk (.tup [.tup (u.map .int), .tup (v.map .int), .str m]) := by
  have hmk : okS m ∧ m.cps.size ≤ 1 := by rcases hm with rfl | rfl <;> decide +kernel
  refine reprOk_of ⟨?_, ?_⟩ ?_ ?_
  · simp only [okd, okL, ints_okL, Bool.true_and, Bool.and_true]
    exact hmk.1
  · simp only [dep, depL, ints_depL]
    omega
  · simp only [sml, smlL, Bool.and_true]
    rw [ints_smlL u fun i m => hs i (List.mem_append_left _ m), ints_smlL v fun i m => hs i (List.mem_append_right _ m)]
    rfl
  · simp only [wgt, wgtL, ints_wgtL]
    have := hmk.2
    omega
theorem law_words (ms : List Str) (rs0 : List Rule) (hrs0 : ∀ r ∈ rs0, sr ["a", "b"] r) (hp0 : rs0.Pairwise ky) (hl0 : rs0.length ≤ 200) (E : En) (x0 x1 x3 x4 x5 x6 x9 x13 x14 x16 x17 x18 x19 x20 : Option OV) : ∀ (rs : List Rule) (x7 x10 x11 x12 x15 : Option OV), (∀ r ∈ rs, r ∈ rs0) →
    (∀ x7 x10 x11 x12 x15, E.nx [x0, x1, some (.im (.tup [.str "p", .str "q"])), x3, x4, x5, x6, x7, some (.im (tplE ms rs0)), x9, x10, x11, x12, x13, x14, x15, x16, x17, x18, x19, x20]) → forL (gT 3 (gsCons (gN 10) (gsCons (gN 11) (gsCons (gN 12) gsNil)))) (L2_law fdBag fdStr fdTpl (fdAll 20) fdAlike fdStraight (fdLWords 20) fdRuleWords fdTake (fdTree 4) (fdLWord 20) fdWordOf (fdFlat 20) fdWordM fdTimes fdLet fdWordM) E (rs.map rE) [x0, x1, some (.im (.tup [.str "p", .str "q"])), x3, x4, x5, x6, x7, some (.im (tplE ms rs0)), x9, x10, x11, x12, x13, x14, x15, x16, x17, x18, x19, x20]
  | [], x7, x10, x11, x12, x15, hg, h => h x7 x10 x11 x12 x15
  | r :: rs, x7, x10, x11, x12, x15, hg, h => by
    have hline : ∀ n : Nat, n ≤ 10000 → n ≤ line := fun n h => Nat.le_trans h (by decide)
    have l3 : 3 ≤ line := by decide
    have hr := hg r List.mem_cons_self
    have hsr := hrs0 r hr
    obtain ⟨hro, hany⟩ := rule_found hp0 hr
    obtain ⟨u, m, v, hw, hlen, hsm, hm⟩ := stP_word hsr.2.2
    obtain ⟨g1, g2, g3, g4, g5⟩ := stP_small hsr.2.2
    have hok : ∀ r ∈ rs0, okS r.1 ∧ okS r.2.1 := fun r mr => sr_keys (by decide +kernel) (hrs0 r mr)
    have hk := hok r hr
    obtain ⟨r1, r2, l⟩ := r
    simp only at hro hany hw g1 g2 g3 g4 g5 hk
    rw [List.map_cons]
    refine for_st fun N hN => ?_
    have fin : ∀ x7 x10 x11 x12 x15, N [x0, x1, some (.im (.tup [.str "p", .str "q"])), x3, x4, x5, x6, x7, some (.im (tplE ms rs0)), x9, x10, x11, x12, x13, x14, x15, x16, x17, x18, x19, x20] := fun x7 x10 x11 x12 x15 => by
      rw [hN]
      exact law_words ms rs0 hrs0 hp0 hl0 E x0 x1 x3 x4 x5 x6 x9 x13 x14 x16 x17 x18 x19 x20 rs x7 x10 x11 x12 x15 (fun r m => hg r (List.mem_cons_of_mem _ m)) h
    simp only [gT, rE, gsCons, gsNil, gN, dset]
    refine ⟨rfl, trivial, ?_⟩
    unfold L2_law
    refine seq_st fun N1 hN1 => ?_
    simp [seq_def, sIf, sRet, sRetN, sAsg, sPar, sPar3, sDrop, sAug, sApp, sAppP, sExt, sIns, sSet, sAugIx, sNext, sBreak, sCont, sRaise, goN, goT, gN, gsNil, gsCons, gT, etP, etE, etAnd, etOr, etNot, tB, tTru, tAndP, tOrP, tNotP, tYesP, pVar, pC, pOp, pUn, paNil, paCons, pTup, pLst, pAndV, pOrV, pNotV, pIf, poNone, poSome, pSl, pRev, pCall, pCB, pTIx, piSeq, eP, eF, pth0, pthS, eRd, eFr, eMv, eaNil, eaCons, eaLate, eTup, eLst, eIx, eOp, eUn, eIf, eCall, eCB, eCBF, eSl, eSlH, eTIx, ePop, eCat, eiSeq, eiRange, eiEnum, dputs, dget, dset, dwipe, getP, getD, setP, getAll, fnEn, startD, opAdd, opSub, opMul, opMod, opDiv, opPow, opNeg, opEq, opNe, opLt, opLe, opGt, opGe, opIsN, opNotN, opIx, opSl, opRev, ipAdd, fLen, fTuple, fList, fInt, fAbs, OV.fz, fzL, nol, nolL, List.map_cons, List.map_nil, List.cons_append, List.nil_append, List.replicate_succ, List.replicate_zero, List.append_nil, List.length_cons, List.length_nil, if_true, if_false, eZ, eFz, goF, frzD, frzO, List.map, fzL_im, eqOk, scalD, deq]
    refine ⟨["p", "q"], l, rfl, g3, by omega, by omega, ?_⟩
    refine ⟨rfl, ?_⟩
    simp only [OV.fz, fzL_im]
    rw [hw, hN1]
    refine seq_st fun N2 hN2 => ?_
    simp [seq_def, sIf, sRet, sRetN, sAsg, sPar, sPar3, sDrop, sAug, sApp, sAppP, sExt, sIns, sSet, sAugIx, sNext, sBreak, sCont, sRaise, goN, goT, gN, gsNil, gsCons, gT, etP, etE, etAnd, etOr, etNot, tB, tTru, tAndP, tOrP, tNotP, tYesP, pVar, pC, pOp, pUn, paNil, paCons, pTup, pLst, pAndV, pOrV, pNotV, pIf, poNone, poSome, pSl, pRev, pCall, pCB, pTIx, piSeq, eP, eF, pth0, pthS, eRd, eFr, eMv, eaNil, eaCons, eaLate, eTup, eLst, eIx, eOp, eUn, eIf, eCall, eCB, eCBF, eSl, eSlH, eTIx, ePop, eCat, eiSeq, eiRange, eiEnum, dputs, dget, dset, dwipe, getP, getD, setP, getAll, fnEn, startD, opAdd, opSub, opMul, opMod, opDiv, opPow, opNeg, opEq, opNe, opLt, opLe, opGt, opGe, opIsN, opNotN, opIx, opSl, opRev, ipAdd, fLen, fTuple, fList, fInt, fAbs, OV.fz, fzL, nol, nolL, List.map_cons, List.map_nil, List.cons_append, List.nil_append, List.replicate_succ, List.replicate_zero, List.append_nil, List.length_cons, List.length_nil, if_true, if_false, eZ, eFz, goF, frzD, frzO, List.map, fzL_im, eqOk, scalD, deq, frzD, frzO, pComp, piEnum, enumItems, enumD]
    refine ⟨by show _ ≤ 16777216; omega, ?_⟩
    refine law_at u v m 0 _ _ _ _ _ _ _ _ _ _ _ _ _ _ _ _ _ _ _ _ _ _ ?_
    simp [seq_def, sIf, sRet, sRetN, sAsg, sPar, sPar3, sDrop, sAug, sApp, sAppP, sExt, sIns, sSet, sAugIx, sNext, sBreak, sCont, sRaise, goN, goT, gN, gsNil, gsCons, gT, etP, etE, etAnd, etOr, etNot, tB, tTru, tAndP, tOrP, tNotP, tYesP, pVar, pC, pOp, pUn, paNil, paCons, pTup, pLst, pAndV, pOrV, pNotV, pIf, poNone, poSome, pSl, pRev, pCall, pCB, pTIx, piSeq, eP, eF, pth0, pthS, eRd, eFr, eMv, eaNil, eaCons, eaLate, eTup, eLst, eIx, eOp, eUn, eIf, eCall, eCB, eCBF, eSl, eSlH, eTIx, ePop, eCat, eiSeq, eiRange, eiEnum, dputs, dget, dset, dwipe, getP, getD, setP, getAll, fnEn, startD, opAdd, opSub, opMul, opMod, opDiv, opPow, opNeg, opEq, opNe, opLt, opLe, opGt, opGe, opIsN, opNotN, opIx, opSl, opRev, ipAdd, fLen, fTuple, fList, fInt, fAbs, OV.fz, fzL, nol, nolL, List.map_cons, List.map_nil, List.cons_append, List.nil_append, List.replicate_succ, List.replicate_zero, List.append_nil, List.length_cons, List.length_nil, if_true, if_false, eZ, eFz, goF, frzD, frzO, List.map, fzL_im, eqOk, scalD, deq, atD, ixD]
    rw [hN2]
    refine if_st fun A B hA hB => ?_
    simp [seq_def, sIf, sRet, sRetN, sAsg, sPar, sPar3, sDrop, sAug, sApp, sAppP, sExt, sIns, sSet, sAugIx, sNext, sBreak, sCont, sRaise, goN, goT, gN, gsNil, gsCons, gT, etP, etE, etAnd, etOr, etNot, tB, tTru, tAndP, tOrP, tNotP, tYesP, pVar, pC, pOp, pUn, paNil, paCons, pTup, pLst, pAndV, pOrV, pNotV, pIf, poNone, poSome, pSl, pRev, pCall, pCB, pTIx, piSeq, eP, eF, pth0, pthS, eRd, eFr, eMv, eaNil, eaCons, eaLate, eTup, eLst, eIx, eOp, eUn, eIf, eCall, eCB, eCBF, eSl, eSlH, eTIx, ePop, eCat, eiSeq, eiRange, eiEnum, dputs, dget, dset, dwipe, getP, getD, setP, getAll, fnEn, startD, opAdd, opSub, opMul, opMod, opDiv, opPow, opNeg, opEq, opNe, opLt, opLe, opGt, opGe, opIsN, opNotN, opIx, opSl, opRev, ipAdd, fLen, fTuple, fList, fInt, fAbs, OV.fz, fzL, nol, nolL, List.map_cons, List.map_nil, List.cons_append, List.nil_append, List.replicate_succ, List.replicate_zero, List.append_nil, List.length_cons, List.length_nil, if_true, if_false, eZ, eFz, goF, frzD, frzO, List.map, fzL_im, eqOk, scalD, deq]
    have ea := at_there (u.map D.int) (D.str m) (v.map D.int)
    have ec := cut_ahead (u.map D.int) (D.str m) (v.map D.int)
    have eb := cut_behind (u.map D.int) (D.str m) (v.map D.int)
    rw [List.length_map] at ea ec eb
    refine ⟨["p", "q"], ms, rs0, r1, r2, rfl, hk.1, hk.2, hok, by omega, .inr ⟨l, hany, hro, g3, parts_okI g4 (by omega), by omega, ?_⟩⟩
    simp only [ea, ec, eb, hw, puts_word, OV.fz, optE]
    refine ⟨l3, _, _, .inl rfl, rfl, repr_word hlen hsm hm, ?_⟩
    simp only [OV.fz, if_true]
    rw [hB]
    exact fin _ _ _ _ _
end G66
namespace G66
open PySem DL
theorem wordM_snoc (l : Nat) : ∀ (w : List Nat) (m : M4), wordM (w ++ [l]) m = (wordM w m).mul (letM l)
  | [], m => rfl
  | k :: w, m => wordM_snoc l w _
def wR : List Nat → M4
  | [] => oneM
  | l :: r => (wR r).mul (letM l)
theorem wR_word (w : List Nat) : wordM w oneM = wR w.reverse := by
  have h : ∀ r : List Nat, wordM r.reverse oneM = wR r := fun r => by
    induction r with
    | nil => rfl
    | cons l r ih => rw [List.reverse_cons, wordM_snoc, ih]; rfl
  have := h w.reverse
  rwa [List.reverse_reverse] at this
structure Wg (m : M4) : Prop where
  a : 1 ≤ m.a
  b : 0 ≤ m.b ∧ m.b < m.a
  c : 0 ≤ m.c
  d : 0 ≤ m.d
  cd : 1 ≤ m.c + m.d
theorem mul_let (m : M4) (l : Nat) : (m.mul (letM l)).a = m.a * l + m.a + m.b ∧ (m.mul (letM l)).b = m.a * l + m.b ∧ (m.mul (letM l)).c = m.c * l + m.c + m.d ∧ (m.mul (letM l)).d = m.c * l + m.d := by
  simp only [M4.mul, letM]
  refine ⟨?_, ?_, ?_, ?_⟩ <;> grind
theorem Wg.step {m : M4} (h : Wg m) (l : Nat) : Wg (m.mul (letM l)) ∧ 1 ≤ (m.mul (letM l)).c := by
  obtain ⟨e1, e2, e3, e4⟩ := mul_let m l
  have h1 : 0 ≤ m.a * (l : Int) := Int.mul_nonneg (by have := h.a; omega) (by omega)
  have h2 : 0 ≤ m.c * (l : Int) := Int.mul_nonneg h.c (by omega)
  have := h.a; have := h.b; have := h.c; have := h.d; have := h.cd
  refine ⟨⟨by rw [e1]; omega, by rw [e1, e2]; omega, by rw [e3]; omega, by rw [e4]; omega, by rw [e3, e4]; omega⟩, by rw [e3]; omega⟩
theorem wR_ok : ∀ r, Wg (wR r)
  | [] => ⟨by decide, by decide, by decide, by decide, by decide⟩
  | l :: r => ((wR_ok r).step l).1
theorem let_inj {m n : M4} (hm : Wg m) (hn : Wg n) {k l : Nat} (e : m.mul (letM k) = n.mul (letM l)) : m = n ∧ k = l := by
  obtain ⟨a1, a2, a3, a4⟩ := mul_let m k
  obtain ⟨b1, b2, b3, b4⟩ := mul_let n l
  rw [e] at a1 a2 a3 a4
  have ea : m.a = n.a := by omega
  have ec : m.c = n.c := by omega
  have hb := hm.b
  have hb2 := hn.b
  have q : m.a * (k : Int) + m.b = m.a * (l : Int) + n.b := by rw [← a2, b2, ea]
  have dv : ∀ (x : Int) (j : Nat), 0 ≤ x → x < m.a → (m.a * (j : Int) + x) / m.a = j := fun x j h0 h1 => by
    rw [Int.add_comm, Int.add_mul_ediv_left _ _ (by have := hm.a; omega), Int.ediv_eq_zero_of_lt h0 h1]
    omega
  have ek : (k : Int) = l := by rw [← dv m.b k hb.1 hb.2, ← dv n.b l hb2.1 (by omega), q]
  have eb : m.b = n.b := by rw [ek] at q; omega
  have ed : m.d = n.d := by
    rw [ek, ec] at a4
    omega
  refine ⟨?_, by omega⟩
  cases m
  cases n
  simp only [M4.mk.injEq]
  exact ⟨ea, eb, ec, ed⟩
theorem wR_inj : ∀ r s, wR r = wR s → r = s
  | [], [], _ => rfl
  | [], l :: s, e => by
    have := ((wR_ok s).step l).2
    have e2 : wR [] = (wR s).mul (letM l) := e
    rw [← e2] at this
    exact absurd this (by decide)
  | l :: r, [], e => by
    have := ((wR_ok r).step l).2
    have e2 : (wR r).mul (letM l) = wR [] := e
    rw [e2] at this
    exact absurd this (by decide)
  | k :: r, l :: s, e => by
    obtain ⟨h1, h2⟩ := let_inj (wR_ok r) (wR_ok s) (show (wR r).mul (letM k) = (wR s).mul (letM l) from e)
    rw [h2, wR_inj r s h1]
theorem word_inj {w v : List Nat} (h : wordM w oneM = wordM v oneM) : w = v := by
  rw [wR_word, wR_word] at h
  have := congrArg List.reverse (wR_inj _ _ h)
  simpa using this
/-- how great the entries are -/
def M4.le (m : M4) (B : Nat) : Prop := (0 ≤ m.a ∧ m.a ≤ B) ∧ (0 ≤ m.b ∧ m.b ≤ B) ∧ (0 ≤ m.c ∧ m.c ≤ B) ∧ (0 ≤ m.d ∧ m.d ≤ B)
theorem le_step {m : M4} {B l : Nat} (h : m.le B) (hl : l ≤ 3) : (m.mul (letM l)).le (5 * B) := by
  obtain ⟨⟨h1, h2⟩, ⟨h3, h4⟩, ⟨h5, h6⟩, h7, h8⟩ := h
  have : l = 0 ∨ l = 1 ∨ l = 2 ∨ l = 3 := by omega
  unfold M4.le
  rcases this with rfl | rfl | rfl | rfl <;> simp only [M4.mul, letM] <;> omega
theorem wordM_le : ∀ (w : List Nat) (m : M4) (B : Nat), m.le B → (∀ l ∈ w, l ≤ 3) → (wordM w m).le (5 ^ w.length * B)
  | [], m, B, h, _ => by simpa [wordM] using h
  | l :: w, m, B, h, hw => by
    have := wordM_le w (m.mul (letM l)) (5 * B) (le_step h (hw l List.mem_cons_self)) fun k mk => hw k (List.mem_cons_of_mem _ mk)
    rw [List.length_cons, Nat.pow_succ, Nat.mul_assoc]
    exact this
/-- a word that a law draws -/
def gw (w : List Nat) : Prop := w.length ≤ 4 ∧ ∀ l ∈ w, l ≤ 3
theorem gw_le {w : List Nat} (h : gw w) : (wordM w oneM).le 625 ∧ (wordM (w ++ [2]) oneM).le 3125 := by
  have key : ∀ v : List Nat, v.length ≤ 5 → (∀ l ∈ v, l ≤ 3) → (wordM v oneM).le (5 ^ v.length) := fun v _ hv => by
    have := wordM_le v oneM 1 (by unfold M4.le; decide) hv
    rwa [Nat.mul_one] at this
  have up : ∀ {m : M4} {B C : Nat}, m.le B → B ≤ C → m.le C := fun {m B C} h hb => by
    obtain ⟨⟨h1, h2⟩, ⟨h3, h4⟩, ⟨h5, h6⟩, h7, h8⟩ := h
    unfold M4.le
    omega
  have h1 : 5 ^ w.length ≤ 5 ^ 4 := Nat.pow_le_pow_right (by decide) h.1
  have h2 : 5 ^ (w ++ [2]).length ≤ 5 ^ 5 := Nat.pow_le_pow_right (by decide) (by have := h.1; simp; omega)
  exact ⟨up (key w (by have := h.1; omega) h.2) h1, up (key (w ++ [2]) (by have := h.1; simp; omega) (by
    intro l m
    rcases List.mem_append.mp m with m | m
    · exact h.2 l m
    · simp at m; omega)) h2⟩
theorem mE_ok (m : M4) : okd (mE m) = true ∧ dep (mE m) = 1 := ⟨rfl, by simp [dep, depL]⟩
theorem mE_sml {m : M4} {B : Nat} (h : m.le B) (hB : B < 10 ^ 12) : sml (mE m) = true ∧ wgt (mE m) = 164 := by
  obtain ⟨⟨h1, h2⟩, ⟨h3, h4⟩, ⟨h5, h6⟩, h7, h8⟩ := h
  refine ⟨?_, by simp [wgt, wgtL]⟩
  simp only [sml, smlL, Bool.and_true, Bool.and_eq_true, decide_eq_true_eq]
  omega
theorem repr_mats {m n : M4} (hm : m.le 3125) (hn : n.le 3125) : reprOk (.lst [mE m, mE n]) := by
  obtain ⟨a1, a2⟩ := mE_ok m
  obtain ⟨b1, b2⟩ := mE_ok n
  obtain ⟨c1, c2⟩ := mE_sml hm (by decide)
  obtain ⟨d1, d2⟩ := mE_sml hn (by decide)
  refine reprOk_of ⟨?_, ?_⟩ ?_ ?_
  · simp only [okd, okL] at a1 b1 ⊢
    simp only [a1, b1, Bool.and_self]
  · simp only [dep, depL] at a2 b2 ⊢
    omega
  · simp only [sml, smlL, Bool.and_true] at c1 d1 ⊢
    simp only [c1, d1, Bool.and_self]
  · simp only [wgt, wgtL] at c2 d2 ⊢
    omega
theorem deq_mats (m n : M4) : deq (mE m) (mE n) = true ↔ m = n := by
  cases m
  cases n
  simp [deq, deqL]
abbrev wE (w : List Nat) : D := .tup (w.map fun l => .int (l : Nat))
theorem deq_words : ∀ w v : List Nat, deqL (w.map fun l => D.int (l : Nat)) (v.map fun l => D.int (l : Nat)) = decide (w = v)
  | [], [] => by simp [deqL]
  | [], l :: v => by simp [deqL]
  | k :: w, [] => by simp [deqL]
  | k :: w, l :: v => by
    simp only [List.map_cons, deqL, deq, deq_words w v]
    by_cases e : k = l
    · subst e; simp
    · have e2 : ¬ ((k : Int) = l) := by omega
      simp [e, e2]
theorem words_ok (w : List Nat) : cmpOk (wE w) := by
  have h : w.map (fun l => D.int (l : Nat)) = (w.map fun (l : Nat) => (l : Int)).map D.int := by rw [List.map_map]; rfl
  refine ⟨?_, ?_⟩
  · show okL _ = true
    rw [h]
    exact ints_okL _
  · show depL _ + 1 ≤ 64
    rw [h, ints_depL]
    decide
theorem mats_ok (m : M4) : cmpOk (mE m) := ⟨rfl, by simp [dep, depL]⟩
theorem law_its (w : List Nat) (hw : gw w) : ∀ (ws : List (List Nat)) (x0 x1 x2 x3 x4 x5 x6 x8 x9 x10 x11 x12 x13 x14 x15 x16 x17 x18 x19 x20 : Option OV) (Q : List D → Prop), (∀ v ∈ ws, gw v) → Q [] → compP [19] (gN 19) (tp3_law fdBag fdStr fdTpl (fdAll 20) fdAlike fdStraight (fdLWords 20) fdRuleWords fdTake (fdTree 4) (fdLWord 20) fdWordOf (fdFlat 20) fdWordM fdTimes fdLet fdWordM) (ep3_law fdBag fdStr fdTpl (fdAll 20) fdAlike fdStraight (fdLWords 20) fdRuleWords fdTake (fdTree 4) (fdLWord 20) fdWordOf (fdFlat 20) fdWordM fdTimes fdLet fdWordM) [x0, x1, x2, x3, x4, x5, x6, some (.im (wE w)), x8, x9, x10, x11, x12, x13, x14, x15, x16, x17, x18, x19, x20] (ws.map wE) Q
  | [], x0, x1, x2, x3, x4, x5, x6, x8, x9, x10, x11, x12, x13, x14, x15, x16, x17, x18, x19, x20, Q, _, h => h
  | v :: ws, x0, x1, x2, x3, x4, x5, x6, x8, x9, x10, x11, x12, x13, x14, x15, x16, x17, x18, x19, x20, Q, hv, h => by
    have ih := fun x19 => law_its w hw ws x0 x1 x2 x3 x4 x5 x6 x8 x9 x10 x11 x12 x13 x14 x15 x16 x17 x18 x19 x20 Q (fun u m => hv u (List.mem_cons_of_mem _ m)) h
    have g := hv v List.mem_cons_self
    have h100 : ∀ {w : List Nat}, gw w → ∀ l ∈ w, l ≤ 100 := fun h l m => by have := h.2 l m; omega
    have ed : deq (mE (wordM v oneM)) (mE (wordM w oneM)) = decide (v = w) := by
      by_cases e : v = w
      · subst e
        rw [(deq_mats _ _).mpr rfl]
        simp
      · have n : ¬ deq (mE (wordM v oneM)) (mE (wordM w oneM)) = true := fun z => e (word_inj ((deq_mats _ _).mp z))
        simp only [Bool.not_eq_true] at n
        rw [n]
        simp [e]
    have ew : deq (wE v) (wE w) = decide (v = w) := by simp only [deq]; exact deq_words v w
    have lw : ∀ w : List Nat, (w.map fun l => D.int (l : Nat)).length = w.length := fun w => by simp
    rw [List.map_cons]
    simp only [compP, gN, dwipe, dset]
    unfold tp3_law
    simp only [tB, pOp, pCall, paCons, paNil, pVar, dget, OV.fz]
    refine ⟨rfl, v, rfl, h100 g, rfl, w, rfl, h100 hw, ?_⟩
    simp only [OV.fz, opEq, opNe]
    refine ⟨.inr ⟨mats_ok _, mats_ok _⟩, .inr ⟨words_ok v, words_ok w⟩, .inl ⟨rfl, rfl⟩, ?_⟩
    have eb : (!deq (D.bl (deq (mE (wordM v oneM)) (mE (wordM w oneM)))) (.bl (deq (wE v) (wE w)))) = false := by
      rw [ed, ew]
      simp [deq]
    have nb : ¬ (!deq (D.bl (deq (mE (wordM v oneM)) (mE (wordM w oneM)))) (.bl (deq (wE v) (wE w)))) = true := by
      rw [eb]
      exact Bool.false_ne_true
    exact Eq.mpr (if_neg nb) (ih _)
theorem law_mats (ws : List (List Nat)) (hws : ∀ w ∈ ws, gw w) (hn : ws.length ≤ 10) (E : En) (x0 x1 x2 x3 x4 x5 x8 x9 x10 x11 x12 x13 x14 x15 x16 x17 x18 x19 x20 : Option OV) : ∀ (vs : List (List Nat)) (x7 : Option OV), (∀ v ∈ vs, gw v) →
    (∀ x7, E.nx [x0, x1, x2, x3, x4, x5, some (.im (.lst (ws.map wE))), x7, x8, x9, x10, x11, x12, x13, x14, x15, x16, x17, x18, x19, x20]) → forL (gN 7) (L3_law fdBag fdStr fdTpl (fdAll 20) fdAlike fdStraight (fdLWords 20) fdRuleWords fdTake (fdTree 4) (fdLWord 20) fdWordOf (fdFlat 20) fdWordM fdTimes fdLet fdWordM) E (vs.map wE) [x0, x1, x2, x3, x4, x5, some (.im (.lst (ws.map wE))), x7, x8, x9, x10, x11, x12, x13, x14, x15, x16, x17, x18, x19, x20]
  | [], x7, _, h => h x7
  | v :: vs, x7, hv, h => by
    have hline : ∀ n : Nat, n ≤ 10000 → n ≤ line := fun n h => Nat.le_trans h (by decide)
    have l2 : 2 ≤ line := by decide
    have l1 : 1 ≤ line := by decide
    have g := hv v List.mem_cons_self
    have h100 : ∀ {w : List Nat}, gw w → ∀ l ∈ w, l ≤ 100 := fun h l m => by have := h.2 l m; omega
    obtain ⟨q1, q2⟩ := gw_le g
    rw [List.map_cons]
    refine for_st fun N hN => ?_
    have fin : ∀ x7, N [x0, x1, x2, x3, x4, x5, some (.im (.lst (ws.map wE))), x7, x8, x9, x10, x11, x12, x13, x14, x15, x16, x17, x18, x19, x20] := fun x7 => by
      rw [hN]
      exact law_mats ws hws hn E x0 x1 x2 x3 x4 x5 x8 x9 x10 x11 x12 x13 x14 x15 x16 x17 x18 x19 x20 vs x7 (fun u m => hv u (List.mem_cons_of_mem _ m)) h
    simp only [gN, dset]
    unfold L3_law
    refine seq_st fun N1 hN1 => if_st fun A B hA hB => ?_
    have lv := g.1
    simp [seq_def, sIf, sRet, sRetN, sAsg, sPar, sPar3, sDrop, sAug, sApp, sAppP, sExt, sIns, sSet, sAugIx, sNext, sBreak, sCont, sRaise, goN, goT, gN, gsNil, gsCons, gT, etP, etE, etAnd, etOr, etNot, tB, tTru, tAndP, tOrP, tNotP, tYesP, pVar, pC, pOp, pUn, paNil, paCons, pTup, pLst, pAndV, pOrV, pNotV, pIf, poNone, poSome, pSl, pRev, pCall, pCB, pTIx, piSeq, eP, eF, pth0, pthS, eRd, eFr, eMv, eaNil, eaCons, eaLate, eTup, eLst, eIx, eOp, eUn, eIf, eCall, eCB, eCBF, eSl, eSlH, eTIx, ePop, eCat, eiSeq, eiRange, eiEnum, dputs, dget, dset, dwipe, getP, getD, setP, getAll, fnEn, startD, opAdd, opSub, opMul, opMod, opDiv, opPow, opNeg, opEq, opNe, opLt, opLe, opGt, opGe, opIsN, opNotN, opIx, opSl, opRev, ipAdd, fLen, fTuple, fList, fInt, fAbs, OV.fz, fzL, nol, nolL, List.map_cons, List.map_nil, List.cons_append, List.nil_append, List.replicate_succ, List.replicate_zero, List.append_nil, List.length_cons, List.length_nil, if_true, if_false, eZ, eFz, goF, frzD, frzO, List.map, fzL_im, eqOk, scalD, deq, l2, l1]
    refine ⟨v, rfl, h100 g, v, rfl, h100 g, 2, rfl, by decide, wordM v oneM, letM 2, rfl, sm_let (by decide), v, rfl, h100 g, ⟨hline _ (by omega), hline _ (by omega)⟩, v ++ [2], by simp, fun l m => ?_, ?_⟩
    · rcases List.mem_append.mp m with m | m
      · exact h100 g l m
      · simp at m; omega
    · simp only [OV.fz]
      have ew := wordM_snoc 2 v oneM
      rw [← ew]
      refine ⟨_, _, .inr rfl, rfl, repr_mats ?_ q2, ?_⟩
      · obtain ⟨⟨h1, h2⟩, ⟨h3, h4⟩, ⟨h5, h6⟩, h7, h8⟩ := q1
        unfold M4.le
        omega
      · simp only [OV.fz, if_true]
        rw [hB]
        simp only [sNext]
        rw [hN1]
        refine if_st fun A B hA hB => ?_
        simp [seq_def, sIf, sRet, sRetN, sAsg, sPar, sPar3, sDrop, sAug, sApp, sAppP, sExt, sIns, sSet, sAugIx, sNext, sBreak, sCont, sRaise, goN, goT, gN, gsNil, gsCons, gT, etP, etE, etAnd, etOr, etNot, tB, tTru, tAndP, tOrP, tNotP, tYesP, pVar, pC, pOp, pUn, paNil, paCons, pTup, pLst, pAndV, pOrV, pNotV, pIf, poNone, poSome, pSl, pRev, pCall, pCB, pTIx, piSeq, eP, eF, pth0, pthS, eRd, eFr, eMv, eaNil, eaCons, eaLate, eTup, eLst, eIx, eOp, eUn, eIf, eCall, eCB, eCBF, eSl, eSlH, eTIx, ePop, eCat, eiSeq, eiRange, eiEnum, dputs, dget, dset, dwipe, getP, getD, setP, getAll, fnEn, startD, opAdd, opSub, opMul, opMod, opDiv, opPow, opNeg, opEq, opNe, opLt, opLe, opGt, opGe, opIsN, opNotN, opIx, opSl, opRev, ipAdd, fLen, fTuple, fList, fInt, fAbs, OV.fz, fzL, nol, nolL, List.map_cons, List.map_nil, List.cons_append, List.nil_append, List.replicate_succ, List.replicate_zero, List.append_nil, List.length_cons, List.length_nil, if_true, if_false, eZ, eFz, goF, frzD, frzO, List.map, fzL_im, eqOk, scalD, deq, pComp]
        refine ⟨by show _ ≤ 16777216; omega, ?_⟩
        refine law_its v g ws _ _ _ _ _ _ _ _ _ _ _ _ _ _ _ _ _ _ _ _ _ hws ?_
        refine ⟨⟨cmp_nil, cmp_nil⟩, ?_⟩
        rw [if_pos (by simp [deqL]), hB]
        exact fin _
end G66
namespace G66
open PySem DL
theorem any_false (l : List Bool) : ((l.map D.bl).any fun z => deq z (.bl false)) = l.any fun b => !b := by
  induction l with
  | nil => rfl
  | cons a l ih => cases a <;> simp [deq, ih]
theorem repr_bools (a b : Bool) : reprOk (.lst [.bl a, .bl b]) := reprOk_of ⟨rfl, by simp [dep, depL]⟩ rfl (by simp [wgt, wgtL])
theorem fz_bools (l : List Bool) : fzL (l.map fun b => OV.im (.bl b)) = l.map D.bl := by rw [fzL_map, List.map_map]; rfl
mutual
theorem trIn_of (ts : List Str) : ∀ t, (∀ e ∈ flat t, e.1 ∈ ts) → trIn ts t
  | .mk t l, h => by
    simp only [trIn]
    exact ⟨h (t, l.length) (by simp [flat]), trInL_of ts l fun e m => h e (by simp [flat, m])⟩
theorem trInL_of (ts : List Str) : ∀ l, (∀ e ∈ flatL l, e.1 ∈ ts) → trInL ts l
  | [], _ => by simp [trInL]
  | t :: l, h => by
    simp only [trInL]
    exact ⟨trIn_of ts t fun e m => h e (by simp [flatL, m]), trInL_of ts l fun e m => h e (by simp [flatL, m])⟩
end
mutual
theorem trW_len (ts : List Str) : ∀ t, (trW ts t).length = 2 * (flat t).length
  | .mk t l => by
    have := trWL_len ts l
    simp [trW, flat, this]
    omega
theorem trWL_len (ts : List Str) : ∀ l, (trWL ts l).length = 2 * (flatL l).length
  | [] => rfl
  | t :: l => by
    have h1 := trW_len ts t
    have h2 := trWL_len ts l
    simp [trWL, flatL, h1, h2]
    omega
end
mutual
theorem trW_sml (ts : List Str) (hn : ts.length ≤ 100) : ∀ t, ∀ i ∈ trW ts t, i.natAbs < 10 ^ 12
  | .mk t l, i, m => by
    have h : ts.idxOf t ≤ 100 := Nat.le_trans List.idxOf_le_length hn
    simp only [trW, List.mem_cons, List.mem_append, List.not_mem_nil, or_false] at m
    rcases m with rfl | m | rfl
    · omega
    · exact trWL_sml ts hn l i m
    · omega
theorem trWL_sml (ts : List Str) (hn : ts.length ≤ 100) : ∀ l, ∀ i ∈ trWL ts l, i.natAbs < 10 ^ 12
  | t :: l, i, m => by
    simp only [trWL, List.mem_append] at m
    exact m.elim (trW_sml ts hn t i) (trWL_sml ts hn l i)
end
theorem repr_ints {l : List Int} (h : ∀ i ∈ l, i.natAbs < 10 ^ 12) (hl : l.length ≤ 10000) : reprOk (.tup (l.map .int)) := by
  refine reprOk_of ⟨?_, ?_⟩ ?_ ?_
  · simp only [okd]
    exact ints_okL l
  · simp only [dep, ints_depL]
    decide
  · simp only [sml]
    exact ints_smlL l h
  · simp only [wgt, ints_wgtL]
    omega
theorem not_zz {rs : List Rule} (h : ∀ r ∈ rs, sr ["a", "b"] r) : (rs.any fun r => r.1 == ("m" : Str) && r.2.1 == ("zz" : Str)) = false := by
  rw [List.any_eq_false]
  intro r m
  have h1 : r.2.1 = ("a" : Str) ∨ r.2.1 = ("b" : Str) := by simpa using (h r m).2.1
  have n1 : (("a" : Str) == ("zz" : Str)) = false := by decide
  have n2 : (("b" : Str) == ("zz" : Str)) = false := by decide
  rcases h1 with e | e <;> rw [e] <;> simp [n1, n2]
theorem law_lap (E : En) (b : OV) (hb : bagOk b) (x0 x3 x4 x5 x6 x7 x8 x9 x10 x11 x12 x13 x14 x15 x16 x17 x18 x19 x20 : Option OV) (h : ∀ (b : OV) (x0 x3 x4 x5 x6 x7 x8 x9 x10 x11 x12 x13 x14 x15 x16 x17 x18 x19 x20 : Option OV), bagOk b → E.nx [x0, some b, some (.im (.tup [.str "p", .str "q"])), x3, x4, x5, x6, x7, x8, x9, x10, x11, x12, x13, x14, x15, x16, x17, x18, x19, x20]) : L4_law fdBag fdStr fdTpl (fdAll 20) fdAlike fdStraight (fdLWords 20) fdRuleWords fdTake (fdTree 4) (fdLWord 20) fdWordOf (fdFlat 20) fdWordM fdTimes fdLet fdWordM E [x0, some b, some (.im (.tup [.str "p", .str "q"])), x3, x4, x5, x6, x7, x8, x9, x10, x11, x12, x13, x14, x15, x16, x17, x18, x19, x20] := by
  have hline : ∀ n : Nat, n ≤ 10000 → n ≤ line := fun n h => Nat.le_trans h (by decide)
  have l2 : 2 ≤ line := by decide
  have l1 : 1 ≤ line := by decide
  have l0 : 0 ≤ line := by decide
  unfold L4_law
  refine seq_st fun N1 hN1 => ?_
  simp [seq_def, sIf, sRet, sRetN, sAsg, sPar, sPar3, sDrop, sAug, sApp, sAppP, sExt, sIns, sSet, sAugIx, sNext, sBreak, sCont, sRaise, goN, goT, gN, gsNil, gsCons, gT, etP, etE, etAnd, etOr, etNot, tB, tTru, tAndP, tOrP, tNotP, tYesP, pVar, pC, pOp, pUn, paNil, paCons, pTup, pLst, pAndV, pOrV, pNotV, pIf, poNone, poSome, pSl, pRev, pCall, pCB, pTIx, piSeq, eP, eF, pth0, pthS, eRd, eFr, eMv, eaNil, eaCons, eaLate, eTup, eLst, eIx, eOp, eUn, eIf, eCall, eCB, eCBF, eSl, eSlH, eTIx, ePop, eCat, eiSeq, eiRange, eiEnum, dputs, dget, dset, dwipe, getP, getD, setP, getAll, fnEn, startD, opAdd, opSub, opMul, opMod, opDiv, opPow, opNeg, opEq, opNe, opLt, opLe, opGt, opGe, opIsN, opNotN, opIx, opSl, opRev, ipAdd, fLen, fTuple, fList, fInt, fAbs, OV.fz, fzL, nol, nolL, List.map_cons, List.map_nil, List.cons_append, List.nil_append, List.replicate_succ, List.replicate_zero, List.append_nil, List.length_cons, List.length_nil, if_true, if_false, eZ, eFz, goF, frzD, frzO, List.map, fzL_im, eqOk, scalD, deq, l2]
  refine ⟨b, ["a", "b"], rfl, hb, by decide, by decide, fun b1 ms rs hb1 hr hp hl => ⟨rfl, ?_⟩⟩
  simp [seq_def, sIf, sRet, sRetN, sAsg, sPar, sPar3, sDrop, sAug, sApp, sAppP, sExt, sIns, sSet, sAugIx, sNext, sBreak, sCont, sRaise, goN, goT, gN, gsNil, gsCons, gT, etP, etE, etAnd, etOr, etNot, tB, tTru, tAndP, tOrP, tNotP, tYesP, pVar, pC, pOp, pUn, paNil, paCons, pTup, pLst, pAndV, pOrV, pNotV, pIf, poNone, poSome, pSl, pRev, pCall, pCB, pTIx, piSeq, eP, eF, pth0, pthS, eRd, eFr, eMv, eaNil, eaCons, eaLate, eTup, eLst, eIx, eOp, eUn, eIf, eCall, eCB, eCBF, eSl, eSlH, eTIx, ePop, eCat, eiSeq, eiRange, eiEnum, dputs, dget, dset, dwipe, getP, getD, setP, getAll, fnEn, startD, opAdd, opSub, opMul, opMod, opDiv, opPow, opNeg, opEq, opNe, opLt, opLe, opGt, opGe, opIsN, opNotN, opIx, opSl, opRev, ipAdd, fLen, fTuple, fList, fInt, fAbs, OV.fz, fzL, nol, nolL, List.map_cons, List.map_nil, List.cons_append, List.nil_append, List.replicate_succ, List.replicate_zero, List.append_nil, List.length_cons, List.length_nil, if_true, if_false, eZ, eFz, goF, frzD, frzO, List.map, fzL_im, eqOk, scalD, deq, l2]
  refine ⟨b1, ["a", "b"], rfl, hb1, ⟨by decide, by decide +kernel⟩, fun b2 ms2 rs2 hb2 hr2 hl2 => ⟨rfl, ?_⟩⟩
  simp [seq_def, sIf, sRet, sRetN, sAsg, sPar, sPar3, sDrop, sAug, sApp, sAppP, sExt, sIns, sSet, sAugIx, sNext, sBreak, sCont, sRaise, goN, goT, gN, gsNil, gsCons, gT, etP, etE, etAnd, etOr, etNot, tB, tTru, tAndP, tOrP, tNotP, tYesP, pVar, pC, pOp, pUn, paNil, paCons, pTup, pLst, pAndV, pOrV, pNotV, pIf, poNone, poSome, pSl, pRev, pCall, pCB, pTIx, piSeq, eP, eF, pth0, pthS, eRd, eFr, eMv, eaNil, eaCons, eaLate, eTup, eLst, eIx, eOp, eUn, eIf, eCall, eCB, eCBF, eSl, eSlH, eTIx, ePop, eCat, eiSeq, eiRange, eiEnum, dputs, dget, dset, dwipe, getP, getD, setP, getAll, fnEn, startD, opAdd, opSub, opMul, opMod, opDiv, opPow, opNeg, opEq, opNe, opLt, opLe, opGt, opGe, opIsN, opNotN, opIx, opSl, opRev, ipAdd, fLen, fTuple, fList, fInt, fAbs, OV.fz, fzL, nol, nolL, List.map_cons, List.map_nil, List.cons_append, List.nil_append, List.replicate_succ, List.replicate_zero, List.append_nil, List.length_cons, List.length_nil, if_true, if_false, eZ, eFz, goF, frzD, frzO, List.map, fzL_im, eqOk, scalD, deq, l2]
  rw [hN1]
  refine seq_st fun N2 hN2 => ?_
  simp [seq_def, sIf, sRet, sRetN, sAsg, sPar, sPar3, sDrop, sAug, sApp, sAppP, sExt, sIns, sSet, sAugIx, sNext, sBreak, sCont, sRaise, goN, goT, gN, gsNil, gsCons, gT, etP, etE, etAnd, etOr, etNot, tB, tTru, tAndP, tOrP, tNotP, tYesP, pVar, pC, pOp, pUn, paNil, paCons, pTup, pLst, pAndV, pOrV, pNotV, pIf, poNone, poSome, pSl, pRev, pCall, pCB, pTIx, piSeq, eP, eF, pth0, pthS, eRd, eFr, eMv, eaNil, eaCons, eaLate, eTup, eLst, eIx, eOp, eUn, eIf, eCall, eCB, eCBF, eSl, eSlH, eTIx, ePop, eCat, eiSeq, eiRange, eiEnum, dputs, dget, dset, dwipe, getP, getD, setP, getAll, fnEn, startD, opAdd, opSub, opMul, opMod, opDiv, opPow, opNeg, opEq, opNe, opLt, opLe, opGt, opGe, opIsN, opNotN, opIx, opSl, opRev, ipAdd, fLen, fTuple, fList, fInt, fAbs, OV.fz, fzL, nol, nolL, List.map_cons, List.map_nil, List.cons_append, List.nil_append, List.replicate_succ, List.replicate_zero, List.append_nil, List.length_cons, List.length_nil, if_true, if_false, eZ, eFz, goF, frzD, frzO, List.map, fzL_im, eqOk, scalD, deq, l0]
  rw [hN2]
  refine seq_st fun N3 hN3 => ?_
  have hgl : ∀ r ∈ rs2, gl r.2.2 := fun r m => (hr2 r m).2.2
  simp [sFor, tplE, seq_def, sIf, sRet, sRetN, sAsg, sPar, sPar3, sDrop, sAug, sApp, sAppP, sExt, sIns, sSet, sAugIx, sNext, sBreak, sCont, sRaise, goN, goT, gN, gsNil, gsCons, gT, etP, etE, etAnd, etOr, etNot, tB, tTru, tAndP, tOrP, tNotP, tYesP, pVar, pC, pOp, pUn, paNil, paCons, pTup, pLst, pAndV, pOrV, pNotV, pIf, poNone, poSome, pSl, pRev, pCall, pCB, pTIx, piSeq, eP, eF, pth0, pthS, eRd, eFr, eMv, eaNil, eaCons, eaLate, eTup, eLst, eIx, eOp, eUn, eIf, eCall, eCB, eCBF, eSl, eSlH, eTIx, ePop, eCat, eiSeq, eiRange, eiEnum, dputs, dget, dset, dwipe, getP, getD, setP, getAll, fnEn, startD, opAdd, opSub, opMul, opMod, opDiv, opPow, opNeg, opEq, opNe, opLt, opLe, opGt, opGe, opIsN, opNotN, opIx, opSl, opRev, ipAdd, fLen, fTuple, fList, fInt, fAbs, OV.fz, fzL, nol, nolL, List.map_cons, List.map_nil, List.cons_append, List.nil_append, List.replicate_succ, List.replicate_zero, List.append_nil, List.length_cons, List.length_nil, if_true, if_false, eZ, eFz, goF, frzD, frzO, List.map, fzL_im, eqOk, scalD, deq, atD, ixD]
  refine law_truths { E with nx := N3 } _ _ _ _ _ _ _ _ _ _ _ _ _ _ rs2 [] _ _ _ _ _ _ hgl (by simp; omega) fun x10 x11 x12 x13 x14 x18 => ?_
  show N3 _
  rw [hN3]
  simp only [List.nil_append]
  refine seq_st fun N4 hN4 => if_st fun A B hA hB => ?_
  have hsmall : ∀ r ∈ rs, (preL r.2.2).length ≤ 10000 := fun r m => by have := (stP_small (hr r m).2.2).1; omega
  have hall : (rs.all fun r => strR r.2.2) = true := by
    rw [List.all_eq_true]
    exact fun r m => stP_str (hr r m).2.2
  simp [seq_def, sIf, sRet, sRetN, sAsg, sPar, sPar3, sDrop, sAug, sApp, sAppP, sExt, sIns, sSet, sAugIx, sNext, sBreak, sCont, sRaise, goN, goT, gN, gsNil, gsCons, gT, etP, etE, etAnd, etOr, etNot, tB, tTru, tAndP, tOrP, tNotP, tYesP, pVar, pC, pOp, pUn, paNil, paCons, pTup, pLst, pAndV, pOrV, pNotV, pIf, poNone, poSome, pSl, pRev, pCall, pCB, pTIx, piSeq, eP, eF, pth0, pthS, eRd, eFr, eMv, eaNil, eaCons, eaLate, eTup, eLst, eIx, eOp, eUn, eIf, eCall, eCB, eCBF, eSl, eSlH, eTIx, ePop, eCat, eiSeq, eiRange, eiEnum, dputs, dget, dset, dwipe, getP, getD, setP, getAll, fnEn, startD, opAdd, opSub, opMul, opMod, opDiv, opPow, opNeg, opEq, opNe, opLt, opLe, opGt, opGe, opIsN, opNotN, opIx, opSl, opRev, ipAdd, fLen, fTuple, fList, fInt, fAbs, OV.fz, fzL, nol, nolL, List.map_cons, List.map_nil, List.cons_append, List.nil_append, List.replicate_succ, List.replicate_zero, List.append_nil, List.length_cons, List.length_nil, if_true, if_false, eZ, eFz, goF, frzD, frzO, List.map, fzL_im, eqOk, scalD, deq, l2]
  refine ⟨ms, rs, rfl, by omega, hsmall, ms2, rs2, rfl, by omega, fun r m => (gl_ok (hgl r m)).2.1, ?_⟩
  simp only [OV.fz]
  have etr : fzL (rs2.map ((fun b => OV.im (D.bl b)) ∘ fun r => strR r.2.2)) = (rs2.map fun r => strR r.2.2).map D.bl := by rw [fzL_map, List.map_map, List.map_map]; rfl
  have eb : (!((rs2.map fun r => strR r.2.2).any fun b => !b)) = rs2.all fun r => strR r.2.2 := by rw [List.any_map, List.all_eq_not_any_not]; rfl
  rw [etr, hall]
  simp only [opNotIn, any_false, eb]
  refine ⟨⟨rfl, by simp [scalD]⟩, ?_⟩
  refine ⟨_, _, .inr rfl, rfl, repr_bools _ _, ?_⟩
  simp only [OV.fz, if_true]
  rw [hB]
  simp only [sNext]
  rw [hN4]
  refine seq_st fun N5 hN5 => ?_
  simp [sFor, seq_def, sIf, sRet, sRetN, sAsg, sPar, sPar3, sDrop, sAug, sApp, sAppP, sExt, sIns, sSet, sAugIx, sNext, sBreak, sCont, sRaise, goN, goT, gN, gsNil, gsCons, gT, etP, etE, etAnd, etOr, etNot, tB, tTru, tAndP, tOrP, tNotP, tYesP, pVar, pC, pOp, pUn, paNil, paCons, pTup, pLst, pAndV, pOrV, pNotV, pIf, poNone, poSome, pSl, pRev, pCall, pCB, pTIx, piSeq, eP, eF, pth0, pthS, eRd, eFr, eMv, eaNil, eaCons, eaLate, eTup, eLst, eIx, eOp, eUn, eIf, eCall, eCB, eCBF, eSl, eSlH, eTIx, ePop, eCat, eiSeq, eiRange, eiEnum, dputs, dget, dset, dwipe, getP, getD, setP, getAll, fnEn, startD, opAdd, opSub, opMul, opMod, opDiv, opPow, opNeg, opEq, opNe, opLt, opLe, opGt, opGe, opIsN, opNotN, opIx, opSl, opRev, ipAdd, fLen, fTuple, fList, fInt, fAbs, OV.fz, fzL, nol, nolL, List.map_cons, List.map_nil, List.cons_append, List.nil_append, List.replicate_succ, List.replicate_zero, List.append_nil, List.length_cons, List.length_nil, if_true, if_false, eZ, eFz, goF, frzD, frzO, List.map, fzL_im, eqOk, scalD, deq, atD, ixD]
  refine law_words ms rs hr hp hl { E with nx := N5 } _ _ _ _ _ _ _ _ _ _ _ _ _ _ rs _ _ _ _ _ (fun _ m => m) fun x7 x10 x11 x12 x15 => ?_
  show N5 _
  rw [hN5]
  refine seq_st fun N6 hN6 => ?_
  simp [eComp, seq_def, sIf, sRet, sRetN, sAsg, sPar, sPar3, sDrop, sAug, sApp, sAppP, sExt, sIns, sSet, sAugIx, sNext, sBreak, sCont, sRaise, goN, goT, gN, gsNil, gsCons, gT, etP, etE, etAnd, etOr, etNot, tB, tTru, tAndP, tOrP, tNotP, tYesP, pVar, pC, pOp, pUn, paNil, paCons, pTup, pLst, pAndV, pOrV, pNotV, pIf, poNone, poSome, pSl, pRev, pCall, pCB, pTIx, piSeq, eP, eF, pth0, pthS, eRd, eFr, eMv, eaNil, eaCons, eaLate, eTup, eLst, eIx, eOp, eUn, eIf, eCall, eCB, eCBF, eSl, eSlH, eTIx, ePop, eCat, eiSeq, eiRange, eiEnum, dputs, dget, dset, dwipe, getP, getD, setP, getAll, fnEn, startD, opAdd, opSub, opMul, opMod, opDiv, opPow, opNeg, opEq, opNe, opLt, opLe, opGt, opGe, opIsN, opNotN, opIx, opSl, opRev, ipAdd, fLen, fTuple, fList, fInt, fAbs, OV.fz, fzL, nol, nolL, List.map_cons, List.map_nil, List.cons_append, List.nil_append, List.replicate_succ, List.replicate_zero, List.append_nil, List.length_cons, List.length_nil, if_true, if_false, eZ, eFz, goF, frzD, frzO, List.map, fzL_im, eqOk, scalD, deq]
  refine ⟨b2, 3, rfl, hb2, ⟨by decide, by decide⟩, fun b3 v hb3 h0 h1 => ⟨rfl, ?_⟩⟩
  simp [seq_def, sIf, sRet, sRetN, sAsg, sPar, sPar3, sDrop, sAug, sApp, sAppP, sExt, sIns, sSet, sAugIx, sNext, sBreak, sCont, sRaise, goN, goT, gN, gsNil, gsCons, gT, etP, etE, etAnd, etOr, etNot, tB, tTru, tAndP, tOrP, tNotP, tYesP, pVar, pC, pOp, pUn, paNil, paCons, pTup, pLst, pAndV, pOrV, pNotV, pIf, poNone, poSome, pSl, pRev, pCall, pCB, pTIx, piSeq, eP, eF, pth0, pthS, eRd, eFr, eMv, eaNil, eaCons, eaLate, eTup, eLst, eIx, eOp, eUn, eIf, eCall, eCB, eCBF, eSl, eSlH, eTIx, ePop, eCat, eiSeq, eiRange, eiEnum, dputs, dget, dset, dwipe, getP, getD, setP, getAll, fnEn, startD, opAdd, opSub, opMul, opMod, opDiv, opPow, opNeg, opEq, opNe, opLt, opLe, opGt, opGe, opIsN, opNotN, opIx, opSl, opRev, ipAdd, fLen, fTuple, fList, fInt, fAbs, OV.fz, fzL, nol, nolL, List.map_cons, List.map_nil, List.cons_append, List.nil_append, List.replicate_succ, List.replicate_zero, List.append_nil, List.length_cons, List.length_nil, if_true, if_false, eZ, eFz, goF, frzD, frzO, List.map, fzL_im, eqOk, scalD, deq, rngItems]
  refine ⟨⟨by omega, by omega⟩, by simp [rangeD]; show _ ≤ 16777216; omega, ?_⟩
  refine compE_all (fun δ => ∃ (b : OV) (x16 : Option OV), bagOk b ∧ δ = [x0, some b, some (.im (.tup [.str "p", .str "q"])), x3, some (.lst (rs2.map ((fun b => OV.im (D.bl b)) ∘ fun r => strR r.2.2))), x5, x6, x7, some (.im (tplE ms rs)), some (.im (tplE ms2 rs2)), x10, x11, x12, x13, x14, x15, x16, x17, x18, x19, x20]) (fun o => ∃ t, o = .im (trE t) ∧ gTr ["p", "q"] 2 t) (fun δ ⟨b, x, hb, e⟩ => ⟨b, none, hb, by rw [e]; rfl⟩) _ _ _ (fun d hd δ Q' ⟨b, x, hb, e⟩ hq => ?_) ⟨b3, _, hb3, rfl⟩ fun os δ' hlen hR ⟨b4, x16', hb4, e⟩ => ?_
  · rw [e]
    simp [eo2_law, seq_def, sIf, sRet, sRetN, sAsg, sPar, sPar3, sDrop, sAug, sApp, sAppP, sExt, sIns, sSet, sAugIx, sNext, sBreak, sCont, sRaise, goN, goT, gN, gsNil, gsCons, gT, etP, etE, etAnd, etOr, etNot, tB, tTru, tAndP, tOrP, tNotP, tYesP, pVar, pC, pOp, pUn, paNil, paCons, pTup, pLst, pAndV, pOrV, pNotV, pIf, poNone, poSome, pSl, pRev, pCall, pCB, pTIx, piSeq, eP, eF, pth0, pthS, eRd, eFr, eMv, eaNil, eaCons, eaLate, eTup, eLst, eIx, eOp, eUn, eIf, eCall, eCB, eCBF, eSl, eSlH, eTIx, ePop, eCat, eiSeq, eiRange, eiEnum, dputs, dget, dset, dwipe, getP, getD, setP, getAll, fnEn, startD, opAdd, opSub, opMul, opMod, opDiv, opPow, opNeg, opEq, opNe, opLt, opLe, opGt, opGe, opIsN, opNotN, opIx, opSl, opRev, ipAdd, fLen, fTuple, fList, fInt, fAbs, OV.fz, fzL, nol, nolL, List.map_cons, List.map_nil, List.cons_append, List.nil_append, List.replicate_succ, List.replicate_zero, List.append_nil, List.length_cons, List.length_nil, if_true, if_false, eZ, eFz, goF, frzD, frzO, List.map, fzL_im, eqOk, scalD, deq]
    exact ⟨b, ["p", "q"], 2, rfl, hb, ⟨by decide, by decide⟩, by decide, fun b' t hb' hg => ⟨rfl, by simpa [seq_def, sIf, sRet, sRetN, sAsg, sPar, sPar3, sDrop, sAug, sApp, sAppP, sExt, sIns, sSet, sAugIx, sNext, sBreak, sCont, sRaise, goN, goT, gN, gsNil, gsCons, gT, etP, etE, etAnd, etOr, etNot, tB, tTru, tAndP, tOrP, tNotP, tYesP, pVar, pC, pOp, pUn, paNil, paCons, pTup, pLst, pAndV, pOrV, pNotV, pIf, poNone, poSome, pSl, pRev, pCall, pCB, pTIx, piSeq, eP, eF, pth0, pthS, eRd, eFr, eMv, eaNil, eaCons, eaLate, eTup, eLst, eIx, eOp, eUn, eIf, eCall, eCB, eCBF, eSl, eSlH, eTIx, ePop, eCat, eiSeq, eiRange, eiEnum, dputs, dget, dset, dwipe, getP, getD, setP, getAll, fnEn, startD, opAdd, opSub, opMul, opMod, opDiv, opPow, opNeg, opEq, opNe, opLt, opLe, opGt, opGe, opIsN, opNotN, opIx, opSl, opRev, ipAdd, fLen, fTuple, fList, fInt, fAbs, OV.fz, fzL, nol, nolL, List.map_cons, List.map_nil, List.cons_append, List.nil_append, List.replicate_succ, List.replicate_zero, List.append_nil, List.length_cons, List.length_nil, if_true, if_false, eZ, eFz, goF, frzD, frzO, List.map, fzL_im, eqOk, scalD, deq] using hq (.im (trE t)) _ ⟨t, rfl, hg⟩ ⟨b', _, hb', rfl⟩⟩⟩
  obtain ⟨l, rfl, hll, hP⟩ := all_map hR
  obtain ⟨t1, t2, t3⟩ := gTr_list hP
  have hsz : treeSz 2 = 13 := rfl
  have hl2 : l.length ≤ 2 := by simp [rangeD] at hlen; omega
  have hfl : (flatL l).length ≤ 26 := by
    have : l.length * treeSz 2 ≤ 2 * 13 := by rw [hsz]; omega
    omega
  have hin := trInL_of ["p", "q"] l t3
  have htw : (trWL ["p", "q"] l).length ≤ 52 := by rw [trWL_len]; omega
  rw [e]
  simp only [goF, dset, OV.fz]
  rw [fz_trees, hN6]
  refine seq_st fun N7 hN7 => if_st fun A7 B7 hA7 hB7 => ?_
  simp [seq_def, sIf, sRet, sRetN, sAsg, sPar, sPar3, sDrop, sAug, sApp, sAppP, sExt, sIns, sSet, sAugIx, sNext, sBreak, sCont, sRaise, goN, goT, gN, gsNil, gsCons, gT, etP, etE, etAnd, etOr, etNot, tB, tTru, tAndP, tOrP, tNotP, tYesP, pVar, pC, pOp, pUn, paNil, paCons, pTup, pLst, pAndV, pOrV, pNotV, pIf, poNone, poSome, pSl, pRev, pCall, pCB, pTIx, piSeq, eP, eF, pth0, pthS, eRd, eFr, eMv, eaNil, eaCons, eaLate, eTup, eLst, eIx, eOp, eUn, eIf, eCall, eCB, eCBF, eSl, eSlH, eTIx, ePop, eCat, eiSeq, eiRange, eiEnum, dputs, dget, dset, dwipe, getP, getD, setP, getAll, fnEn, startD, opAdd, opSub, opMul, opMod, opDiv, opPow, opNeg, opEq, opNe, opLt, opLe, opGt, opGe, opIsN, opNotN, opIx, opSl, opRev, ipAdd, fLen, fTuple, fList, fInt, fAbs, OV.fz, fzL, nol, nolL, List.map_cons, List.map_nil, List.cons_append, List.nil_append, List.replicate_succ, List.replicate_zero, List.append_nil, List.length_cons, List.length_nil, if_true, if_false, eZ, eFz, goF, frzD, frzO, List.map, fzL_im, eqOk, scalD, deq, l2, l1]
  have hok : ∀ r ∈ rs, okS r.1 ∧ okS r.2.1 := fun r m => sr_keys (by decide +kernel) (hr r m)
  refine ⟨["p", "q"], ms, rs, "m", "zz", rfl, by decide +kernel, by decide +kernel, hok, by omega, .inl ⟨not_zz hr, ?_⟩⟩
  simp only [OV.fz, Bool.false_eq_true, if_false]
  refine ⟨l, by rw [trEL_map], by omega, by omega, ?_⟩
  simp only [OV.fz]
  refine .inl ⟨["p", "q"], l, rfl, by decide +kernel, hin, by omega, by omega, ?_⟩
  refine ⟨["p", "q"], l, by rw [trEL_map]; rfl, hin, by omega, by omega, ?_⟩
  simp only [OV.fz, fz_ints]
  refine ⟨_, _, .inl rfl, rfl, repr_ints (trWL_sml _ (by decide) l) (by omega), ?_⟩
  simp only [OV.fz, if_true]
  rw [hB7]
  simp only [sNext]
  rw [hN7]
  refine seq_st fun N8 hN8 => if_st fun A8 B8 hA8 hB8 => ?_
  simp [eHeard, seq_def, sIf, sRet, sRetN, sAsg, sPar, sPar3, sDrop, sAug, sApp, sAppP, sExt, sIns, sSet, sAugIx, sNext, sBreak, sCont, sRaise, goN, goT, gN, gsNil, gsCons, gT, etP, etE, etAnd, etOr, etNot, tB, tTru, tAndP, tOrP, tNotP, tYesP, pVar, pC, pOp, pUn, paNil, paCons, pTup, pLst, pAndV, pOrV, pNotV, pIf, poNone, poSome, pSl, pRev, pCall, pCB, pTIx, piSeq, eP, eF, pth0, pthS, eRd, eFr, eMv, eaNil, eaCons, eaLate, eTup, eLst, eIx, eOp, eUn, eIf, eCall, eCB, eCBF, eSl, eSlH, eTIx, ePop, eCat, eiSeq, eiRange, eiEnum, dputs, dget, dset, dwipe, getP, getD, setP, getAll, fnEn, startD, opAdd, opSub, opMul, opMod, opDiv, opPow, opNeg, opEq, opNe, opLt, opLe, opGt, opGe, opIsN, opNotN, opIx, opSl, opRev, ipAdd, fLen, fTuple, fList, fInt, fAbs, OV.fz, fzL, nol, nolL, List.map_cons, List.map_nil, List.cons_append, List.nil_append, List.replicate_succ, List.replicate_zero, List.append_nil, List.length_cons, List.length_nil, if_true, if_false, eZ, eFz, goF, frzD, frzO, List.map, fzL_im, eqOk, scalD, deq, frzD, frzO, l1, l2]
  refine .inr ⟨["p", "q"], "zz", 0, [], rfl, by decide, ?_⟩
  simp [cl_Nothing, seq_def, sIf, sRet, sRetN, sAsg, sPar, sPar3, sDrop, sAug, sApp, sAppP, sExt, sIns, sSet, sAugIx, sNext, sBreak, sCont, sRaise, goN, goT, gN, gsNil, gsCons, gT, etP, etE, etAnd, etOr, etNot, tB, tTru, tAndP, tOrP, tNotP, tYesP, pVar, pC, pOp, pUn, paNil, paCons, pTup, pLst, pAndV, pOrV, pNotV, pIf, poNone, poSome, pSl, pRev, pCall, pCB, pTIx, piSeq, eP, eF, pth0, pthS, eRd, eFr, eMv, eaNil, eaCons, eaLate, eTup, eLst, eIx, eOp, eUn, eIf, eCall, eCB, eCBF, eSl, eSlH, eTIx, ePop, eCat, eiSeq, eiRange, eiEnum, dputs, dget, dset, dwipe, getP, getD, setP, getAll, fnEn, startD, opAdd, opSub, opMul, opMod, opDiv, opPow, opNeg, opEq, opNe, opLt, opLe, opGt, opGe, opIsN, opNotN, opIx, opSl, opRev, ipAdd, fLen, fTuple, fList, fInt, fAbs, OV.fz, fzL, nol, nolL, List.map_cons, List.map_nil, List.cons_append, List.nil_append, List.replicate_succ, List.replicate_zero, List.append_nil, List.length_cons, List.length_nil, if_true, if_false, eZ, eFz, goF, frzD, frzO, List.map, fzL_im, eqOk, scalD, deq, l1, cmpOk, okd, okL, dep, depL, deqL]
  refine ⟨by decide +kernel, ?_⟩
  rw [hB8]
  simp only [sNext]
  rw [hN8]
  refine seq_st fun N9 hN9 => ?_
  simp [eComp, seq_def, sIf, sRet, sRetN, sAsg, sPar, sPar3, sDrop, sAug, sApp, sAppP, sExt, sIns, sSet, sAugIx, sNext, sBreak, sCont, sRaise, goN, goT, gN, gsNil, gsCons, gT, etP, etE, etAnd, etOr, etNot, tB, tTru, tAndP, tOrP, tNotP, tYesP, pVar, pC, pOp, pUn, paNil, paCons, pTup, pLst, pAndV, pOrV, pNotV, pIf, poNone, poSome, pSl, pRev, pCall, pCB, pTIx, piSeq, eP, eF, pth0, pthS, eRd, eFr, eMv, eaNil, eaCons, eaLate, eTup, eLst, eIx, eOp, eUn, eIf, eCall, eCB, eCBF, eSl, eSlH, eTIx, ePop, eCat, eiSeq, eiRange, eiEnum, dputs, dget, dset, dwipe, getP, getD, setP, getAll, fnEn, startD, opAdd, opSub, opMul, opMod, opDiv, opPow, opNeg, opEq, opNe, opLt, opLe, opGt, opGe, opIsN, opNotN, opIx, opSl, opRev, ipAdd, fLen, fTuple, fList, fInt, fAbs, OV.fz, fzL, nol, nolL, List.map_cons, List.map_nil, List.cons_append, List.nil_append, List.replicate_succ, List.replicate_zero, List.append_nil, List.length_cons, List.length_nil, if_true, if_false, eZ, eFz, goF, frzD, frzO, List.map, fzL_im, eqOk, scalD, deq, rngItems]
  refine ⟨⟨by decide, by decide⟩, by simp [rangeD]; decide, ?_⟩
  refine compE_all (fun δ => ∃ (b : OV) (x16 x17 : Option OV), bagOk b ∧ δ = [x0, some b, some (.im (.tup [.str "p", .str "q"])), x3, some (.lst (rs2.map ((fun b => OV.im (D.bl b)) ∘ fun r => strR r.2.2))), some (.im (.lst (l.map trE))), x6, x7, some (.im (tplE ms rs)), some (.im (tplE ms2 rs2)), x10, x11, x12, x13, x14, x15, x16, x17, x18, x19, x20]) (fun o => ∃ w, o = .im (wE w) ∧ gw w) (fun δ ⟨b, x, y, hb, e⟩ => ⟨b, x, none, hb, by rw [e]; rfl⟩) _ _ _ (fun d hd δ Q' ⟨b, x16, x17, hb, e⟩ hq => ?_) ⟨b4, _, _, hb4, rfl⟩ fun os δ' hlen hR ⟨b5, x16', x17', hb5, e⟩ => ?_
  · rw [e]
    simp [eo4_law, eComp, seq_def, sIf, sRet, sRetN, sAsg, sPar, sPar3, sDrop, sAug, sApp, sAppP, sExt, sIns, sSet, sAugIx, sNext, sBreak, sCont, sRaise, goN, goT, gN, gsNil, gsCons, gT, etP, etE, etAnd, etOr, etNot, tB, tTru, tAndP, tOrP, tNotP, tYesP, pVar, pC, pOp, pUn, paNil, paCons, pTup, pLst, pAndV, pOrV, pNotV, pIf, poNone, poSome, pSl, pRev, pCall, pCB, pTIx, piSeq, eP, eF, pth0, pthS, eRd, eFr, eMv, eaNil, eaCons, eaLate, eTup, eLst, eIx, eOp, eUn, eIf, eCall, eCB, eCBF, eSl, eSlH, eTIx, ePop, eCat, eiSeq, eiRange, eiEnum, dputs, dget, dset, dwipe, getP, getD, setP, getAll, fnEn, startD, opAdd, opSub, opMul, opMod, opDiv, opPow, opNeg, opEq, opNe, opLt, opLe, opGt, opGe, opIsN, opNotN, opIx, opSl, opRev, ipAdd, fLen, fTuple, fList, fInt, fAbs, OV.fz, fzL, nol, nolL, List.map_cons, List.map_nil, List.cons_append, List.nil_append, List.replicate_succ, List.replicate_zero, List.append_nil, List.length_cons, List.length_nil, if_true, if_false, eZ, eFz, goF, frzD, frzO, List.map, fzL_im, eqOk, scalD, deq]
    refine ⟨b, 5, rfl, hb, ⟨by decide, by decide⟩, fun b6 v hb6 h0 h1 => ⟨rfl, ?_⟩⟩
    simp [seq_def, sIf, sRet, sRetN, sAsg, sPar, sPar3, sDrop, sAug, sApp, sAppP, sExt, sIns, sSet, sAugIx, sNext, sBreak, sCont, sRaise, goN, goT, gN, gsNil, gsCons, gT, etP, etE, etAnd, etOr, etNot, tB, tTru, tAndP, tOrP, tNotP, tYesP, pVar, pC, pOp, pUn, paNil, paCons, pTup, pLst, pAndV, pOrV, pNotV, pIf, poNone, poSome, pSl, pRev, pCall, pCB, pTIx, piSeq, eP, eF, pth0, pthS, eRd, eFr, eMv, eaNil, eaCons, eaLate, eTup, eLst, eIx, eOp, eUn, eIf, eCall, eCB, eCBF, eSl, eSlH, eTIx, ePop, eCat, eiSeq, eiRange, eiEnum, dputs, dget, dset, dwipe, getP, getD, setP, getAll, fnEn, startD, opAdd, opSub, opMul, opMod, opDiv, opPow, opNeg, opEq, opNe, opLt, opLe, opGt, opGe, opIsN, opNotN, opIx, opSl, opRev, ipAdd, fLen, fTuple, fList, fInt, fAbs, OV.fz, fzL, nol, nolL, List.map_cons, List.map_nil, List.cons_append, List.nil_append, List.replicate_succ, List.replicate_zero, List.append_nil, List.length_cons, List.length_nil, if_true, if_false, eZ, eFz, goF, frzD, frzO, List.map, fzL_im, eqOk, scalD, deq, rngItems]
    refine ⟨⟨by omega, by omega⟩, by simp [rangeD]; show _ ≤ 16777216; omega, ?_⟩
    refine compE_all (fun δ => ∃ (b : OV) (x16 : Option OV), bagOk b ∧ δ = [x0, some b, some (.im (.tup [.str "p", .str "q"])), x3, some (.lst (rs2.map ((fun b => OV.im (D.bl b)) ∘ fun r => strR r.2.2))), some (.im (.lst (l.map trE))), x6, x7, some (.im (tplE ms rs)), some (.im (tplE ms2 rs2)), x10, x11, x12, x13, x14, x15, x16, some (.im d), x18, x19, x20]) (fun o => ∃ n : Nat, o = .im (.int n) ∧ n ≤ 3) (fun δ ⟨b, x, hb, e⟩ => ⟨b, none, hb, by rw [e]; rfl⟩) _ _ _ (fun d2 hd2 δ2 Q2 ⟨b7, y, hb7, e7⟩ hq2 => ?_) ⟨b6, _, hb6, rfl⟩ fun os2 δ3 hlen2 hR2 ⟨b8, y2, hb8, e8⟩ => ?_
    · rw [e7]
      simp [eo3_law, seq_def, sIf, sRet, sRetN, sAsg, sPar, sPar3, sDrop, sAug, sApp, sAppP, sExt, sIns, sSet, sAugIx, sNext, sBreak, sCont, sRaise, goN, goT, gN, gsNil, gsCons, gT, etP, etE, etAnd, etOr, etNot, tB, tTru, tAndP, tOrP, tNotP, tYesP, pVar, pC, pOp, pUn, paNil, paCons, pTup, pLst, pAndV, pOrV, pNotV, pIf, poNone, poSome, pSl, pRev, pCall, pCB, pTIx, piSeq, eP, eF, pth0, pthS, eRd, eFr, eMv, eaNil, eaCons, eaLate, eTup, eLst, eIx, eOp, eUn, eIf, eCall, eCB, eCBF, eSl, eSlH, eTIx, ePop, eCat, eiSeq, eiRange, eiEnum, dputs, dget, dset, dwipe, getP, getD, setP, getAll, fnEn, startD, opAdd, opSub, opMul, opMod, opDiv, opPow, opNeg, opEq, opNe, opLt, opLe, opGt, opGe, opIsN, opNotN, opIx, opSl, opRev, ipAdd, fLen, fTuple, fList, fInt, fAbs, OV.fz, fzL, nol, nolL, List.map_cons, List.map_nil, List.cons_append, List.nil_append, List.replicate_succ, List.replicate_zero, List.append_nil, List.length_cons, List.length_nil, if_true, if_false, eZ, eFz, goF, frzD, frzO, List.map, fzL_im, eqOk, scalD, deq]
      exact ⟨b7, 4, rfl, hb7, ⟨by decide, by decide⟩, fun b' n hb' hn0 hn1 => ⟨rfl, by simpa [seq_def, sIf, sRet, sRetN, sAsg, sPar, sPar3, sDrop, sAug, sApp, sAppP, sExt, sIns, sSet, sAugIx, sNext, sBreak, sCont, sRaise, goN, goT, gN, gsNil, gsCons, gT, etP, etE, etAnd, etOr, etNot, tB, tTru, tAndP, tOrP, tNotP, tYesP, pVar, pC, pOp, pUn, paNil, paCons, pTup, pLst, pAndV, pOrV, pNotV, pIf, poNone, poSome, pSl, pRev, pCall, pCB, pTIx, piSeq, eP, eF, pth0, pthS, eRd, eFr, eMv, eaNil, eaCons, eaLate, eTup, eLst, eIx, eOp, eUn, eIf, eCall, eCB, eCBF, eSl, eSlH, eTIx, ePop, eCat, eiSeq, eiRange, eiEnum, dputs, dget, dset, dwipe, getP, getD, setP, getAll, fnEn, startD, opAdd, opSub, opMul, opMod, opDiv, opPow, opNeg, opEq, opNe, opLt, opLe, opGt, opGe, opIsN, opNotN, opIx, opSl, opRev, ipAdd, fLen, fTuple, fList, fInt, fAbs, OV.fz, fzL, nol, nolL, List.map_cons, List.map_nil, List.cons_append, List.nil_append, List.replicate_succ, List.replicate_zero, List.append_nil, List.length_cons, List.length_nil, if_true, if_false, eZ, eFz, goF, frzD, frzO, List.map, fzL_im, eqOk, scalD, deq] using hq2 (.im (.int n)) _ ⟨n.toNat, by rw [Int.toNat_of_nonneg hn0], by omega⟩ ⟨b', _, hb', rfl⟩⟩⟩
    · obtain ⟨ns, rfl, hnl, hnP⟩ := all_map hR2
      have fzn : fzL (ns.map fun (n : Nat) => OV.im (.int n)) = ns.map fun (n : Nat) => D.int n := by rw [fzL_map, List.map_map]; rfl
      have nn : nolL (ns.map fun (n : Nat) => D.int n) = true := by
        have := ints_nol (ns.map fun (n : Nat) => (n : Int))
        rwa [List.map_map] at this
      rw [fzn]
      exact ⟨nn, hq _ _ ⟨ns, rfl, by simp [rangeD] at hlen2; omega, hnP⟩ ⟨b8, _, _, hb8, e8⟩⟩
  obtain ⟨ws, rfl, hwl, hwP⟩ := all_map hR
  have fzw : fzL (ws.map fun w => OV.im (wE w)) = ws.map wE := by rw [fzL_map, List.map_map]; rfl
  rw [e]
  simp only [goF, dset, OV.fz]
  rw [fzw, hN9]
  simp [sFor, seq_def, sIf, sRet, sRetN, sAsg, sPar, sPar3, sDrop, sAug, sApp, sAppP, sExt, sIns, sSet, sAugIx, sNext, sBreak, sCont, sRaise, goN, goT, gN, gsNil, gsCons, gT, etP, etE, etAnd, etOr, etNot, tB, tTru, tAndP, tOrP, tNotP, tYesP, pVar, pC, pOp, pUn, paNil, paCons, pTup, pLst, pAndV, pOrV, pNotV, pIf, poNone, poSome, pSl, pRev, pCall, pCB, pTIx, piSeq, eP, eF, pth0, pthS, eRd, eFr, eMv, eaNil, eaCons, eaLate, eTup, eLst, eIx, eOp, eUn, eIf, eCall, eCB, eCBF, eSl, eSlH, eTIx, ePop, eCat, eiSeq, eiRange, eiEnum, dputs, dget, dset, dwipe, getP, getD, setP, getAll, fnEn, startD, opAdd, opSub, opMul, opMod, opDiv, opPow, opNeg, opEq, opNe, opLt, opLe, opGt, opGe, opIsN, opNotN, opIx, opSl, opRev, ipAdd, fLen, fTuple, fList, fInt, fAbs, OV.fz, fzL, nol, nolL, List.map_cons, List.map_nil, List.cons_append, List.nil_append, List.replicate_succ, List.replicate_zero, List.append_nil, List.length_cons, List.length_nil, if_true, if_false, eZ, eFz, goF, frzD, frzO, List.map, fzL_im, eqOk, scalD, deq]
  refine law_mats ws hwP (by simp [rangeD] at hlen; omega) E _ _ _ _ _ _ _ _ _ _ _ _ _ _ _ _ _ _ _ ws _ hwP fun x7 => ?_
  exact h b5 _ _ _ _ _ _ _ _ _ _ _ _ _ _ _ _ _ _ _ hb5
theorem law_laps (E : En) : ∀ (ds : List D) (b : OV) (x0 x3 x4 x5 x6 x7 x8 x9 x10 x11 x12 x13 x14 x15 x16 x17 x18 x19 x20 : Option OV), bagOk b → (∀ (b : OV) (x0 x3 x4 x5 x6 x7 x8 x9 x10 x11 x12 x13 x14 x15 x16 x17 x18 x19 x20 : Option OV), bagOk b → E.nx [x0, some b, some (.im (.tup [.str "p", .str "q"])), x3, x4, x5, x6, x7, x8, x9, x10, x11, x12, x13, x14, x15, x16, x17, x18, x19, x20]) → forL (gN 3) (L4_law fdBag fdStr fdTpl (fdAll 20) fdAlike fdStraight (fdLWords 20) fdRuleWords fdTake (fdTree 4) (fdLWord 20) fdWordOf (fdFlat 20) fdWordM fdTimes fdLet fdWordM) E ds [x0, some b, some (.im (.tup [.str "p", .str "q"])), x3, x4, x5, x6, x7, x8, x9, x10, x11, x12, x13, x14, x15, x16, x17, x18, x19, x20]
  | [], b, x0, x3, x4, x5, x6, x7, x8, x9, x10, x11, x12, x13, x14, x15, x16, x17, x18, x19, x20, hb, h => h b x0 x3 x4 x5 x6 x7 x8 x9 x10 x11 x12 x13 x14 x15 x16 x17 x18 x19 x20 hb
  | d :: ds, b, x0, x3, x4, x5, x6, x7, x8, x9, x10, x11, x12, x13, x14, x15, x16, x17, x18, x19, x20, hb, h => by
    refine for_st fun N hN => ?_
    simp only [gN, dset]
    refine law_lap _ b hb _ _ _ _ _ _ _ _ _ _ _ _ _ _ _ _ _ _ _ fun b2 x0 x3 x4 x5 x6 x7 x8 x9 x10 x11 x12 x13 x14 x15 x16 x17 x18 x19 x20 hb2 => ?_
    show N _
    rw [hN]
    exact law_laps E ds b2 _ _ _ _ _ _ _ _ _ _ _ _ _ _ _ _ _ _ _ hb2 h
theorem vc_law (ns : List Int) (Qd : OV → List OV → Prop) (Xd : Xc → Prop) (hl : ns.length ≤ 63) (hQ : Qd (.im (.bl true)) []) : s_law fdBag fdStr fdTpl (fdAll 20) fdAlike fdStraight (fdLWords 20) fdRuleWords fdTake (fdTree 4) (fdLWord 20) fdWordOf (fdFlat 20) fdWordM fdTimes fdLet fdWordM (fnEn [] Qd Xd) (startD 21 [.im (.scr (ns.map .int))]) := by
  have l2 : 2 ≤ line := by decide
  unfold s_law
  refine seq_st fun N hN => ?_
  simp [seq_def, sIf, sRet, sRetN, sAsg, sPar, sPar3, sDrop, sAug, sApp, sAppP, sExt, sIns, sSet, sAugIx, sNext, sBreak, sCont, sRaise, goN, goT, gN, gsNil, gsCons, gT, etP, etE, etAnd, etOr, etNot, tB, tTru, tAndP, tOrP, tNotP, tYesP, pVar, pC, pOp, pUn, paNil, paCons, pTup, pLst, pAndV, pOrV, pNotV, pIf, poNone, poSome, pSl, pRev, pCall, pCB, pTIx, piSeq, eP, eF, pth0, pthS, eRd, eFr, eMv, eaNil, eaCons, eaLate, eTup, eLst, eIx, eOp, eUn, eIf, eCall, eCB, eCBF, eSl, eSlH, eTIx, ePop, eCat, eiSeq, eiRange, eiEnum, dputs, dget, dset, dwipe, getP, getD, setP, getAll, fnEn, startD, opAdd, opSub, opMul, opMod, opDiv, opPow, opNeg, opEq, opNe, opLt, opLe, opGt, opGe, opIsN, opNotN, opIx, opSl, opRev, ipAdd, fLen, fTuple, fList, fInt, fAbs, OV.fz, fzL, nol, nolL, List.map_cons, List.map_nil, List.cons_append, List.nil_append, List.replicate_succ, List.replicate_zero, List.append_nil, List.length_cons, List.length_nil, if_true, if_false, eZ, eFz, goF, frzD, frzO, List.map, fzL_im, eqOk, scalD, deq]
  refine ⟨ns, rfl, hl, fun b hb => ?_⟩
  refine ⟨rfl, ?_⟩
  rw [hN]
  refine seq_st fun N2 hN2 => ?_
  simp [seq_def, sIf, sRet, sRetN, sAsg, sPar, sPar3, sDrop, sAug, sApp, sAppP, sExt, sIns, sSet, sAugIx, sNext, sBreak, sCont, sRaise, goN, goT, gN, gsNil, gsCons, gT, etP, etE, etAnd, etOr, etNot, tB, tTru, tAndP, tOrP, tNotP, tYesP, pVar, pC, pOp, pUn, paNil, paCons, pTup, pLst, pAndV, pOrV, pNotV, pIf, poNone, poSome, pSl, pRev, pCall, pCB, pTIx, piSeq, eP, eF, pth0, pthS, eRd, eFr, eMv, eaNil, eaCons, eaLate, eTup, eLst, eIx, eOp, eUn, eIf, eCall, eCB, eCBF, eSl, eSlH, eTIx, ePop, eCat, eiSeq, eiRange, eiEnum, dputs, dget, dset, dwipe, getP, getD, setP, getAll, fnEn, startD, opAdd, opSub, opMul, opMod, opDiv, opPow, opNeg, opEq, opNe, opLt, opLe, opGt, opGe, opIsN, opNotN, opIx, opSl, opRev, ipAdd, fLen, fTuple, fList, fInt, fAbs, OV.fz, fzL, nol, nolL, List.map_cons, List.map_nil, List.cons_append, List.nil_append, List.replicate_succ, List.replicate_zero, List.append_nil, List.length_cons, List.length_nil, if_true, if_false, eZ, eFz, goF, frzD, frzO, List.map, fzL_im, eqOk, scalD, deq, l2]
  rw [hN2]
  refine seq_st fun N3 hN3 => ?_
  simp [sFor, seq_def, sIf, sRet, sRetN, sAsg, sPar, sPar3, sDrop, sAug, sApp, sAppP, sExt, sIns, sSet, sAugIx, sNext, sBreak, sCont, sRaise, goN, goT, gN, gsNil, gsCons, gT, etP, etE, etAnd, etOr, etNot, tB, tTru, tAndP, tOrP, tNotP, tYesP, pVar, pC, pOp, pUn, paNil, paCons, pTup, pLst, pAndV, pOrV, pNotV, pIf, poNone, poSome, pSl, pRev, pCall, pCB, pTIx, piSeq, eP, eF, pth0, pthS, eRd, eFr, eMv, eaNil, eaCons, eaLate, eTup, eLst, eIx, eOp, eUn, eIf, eCall, eCB, eCBF, eSl, eSlH, eTIx, ePop, eCat, eiSeq, eiRange, eiEnum, dputs, dget, dset, dwipe, getP, getD, setP, getAll, fnEn, startD, opAdd, opSub, opMul, opMod, opDiv, opPow, opNeg, opEq, opNe, opLt, opLe, opGt, opGe, opIsN, opNotN, opIx, opSl, opRev, ipAdd, fLen, fTuple, fList, fInt, fAbs, OV.fz, fzL, nol, nolL, List.map_cons, List.map_nil, List.cons_append, List.nil_append, List.replicate_succ, List.replicate_zero, List.append_nil, List.length_cons, List.length_nil, if_true, if_false, eZ, eFz, goF, frzD, frzO, List.map, fzL_im, eqOk, scalD, deq, rngItems]
  refine ⟨⟨by decide, by decide⟩, ?_⟩
  refine law_laps { (fnEn [] Qd Xd) with nx := N3 } (rangeD 0 4) b _ _ _ _ _ _ _ _ _ _ _ _ _ _ _ _ _ _ _ hb fun b2 x0 x3 x4 x5 x6 x7 x8 x9 x10 x11 x12 x13 x14 x15 x16 x17 x18 x19 x20 hb2 => ?_
  show N3 _
  rw [hN3]
  simp [seq_def, sIf, sRet, sRetN, sAsg, sPar, sPar3, sDrop, sAug, sApp, sAppP, sExt, sIns, sSet, sAugIx, sNext, sBreak, sCont, sRaise, goN, goT, gN, gsNil, gsCons, gT, etP, etE, etAnd, etOr, etNot, tB, tTru, tAndP, tOrP, tNotP, tYesP, pVar, pC, pOp, pUn, paNil, paCons, pTup, pLst, pAndV, pOrV, pNotV, pIf, poNone, poSome, pSl, pRev, pCall, pCB, pTIx, piSeq, eP, eF, pth0, pthS, eRd, eFr, eMv, eaNil, eaCons, eaLate, eTup, eLst, eIx, eOp, eUn, eIf, eCall, eCB, eCBF, eSl, eSlH, eTIx, ePop, eCat, eiSeq, eiRange, eiEnum, dputs, dget, dset, dwipe, getP, getD, setP, getAll, fnEn, startD, opAdd, opSub, opMul, opMod, opDiv, opPow, opNeg, opEq, opNe, opLt, opLe, opGt, opGe, opIsN, opNotN, opIx, opSl, opRev, ipAdd, fLen, fTuple, fList, fInt, fAbs, OV.fz, fzL, nol, nolL, List.map_cons, List.map_nil, List.cons_append, List.nil_append, List.replicate_succ, List.replicate_zero, List.append_nil, List.length_cons, List.length_nil, if_true, if_false, eZ, eFz, goF, frzD, frzO, List.map, fzL_im, eqOk, scalD, deq]
  exact hQ
end G66
namespace G66
open PySem DL
section
variable {w : World} {K : PySem.W.Frag} {mg : Str → Option Value} {base : Heap}
theorem r_all (G : Fx K mg base) : ∀ n, OkF prog w K mg base n "_law_all_parts" P__law_all_parts 1 [] (fdAll n)
  | 0 => (no__law_all_parts G).imp fun os Q X ⟨l, _, h, _⟩ => absurd h (Nat.not_lt_zero _)
  | n + 1 => ok__law_all_parts G (r_all G n) fun os Q X _ h => vc_all n os Q X h
theorem r_count (G : Fx K mg base) : ∀ n, OkF prog w K mg base n "_law_many_tests" P__law_many_tests 1 [] (fdCount n)
  | 0 => (no__law_many_tests G).imp fun os Q X ⟨l, _, h, _⟩ => absurd h (Nat.not_lt_zero _)
  | n + 1 => ok__law_many_tests G (r_count G n) fun os Q X _ h => vc_count n os Q X h
theorem r_flat (G : Fx K mg base) : ∀ n, OkF prog w K mg base n "_law_flat" P__law_flat 1 [] (fdFlat n)
  | 0 => (no__law_flat G).imp fun os Q X ⟨l, _, h, _⟩ => absurd h (Nat.not_lt_zero _)
  | n + 1 => ok__law_flat G (r_flat G n) fun os Q X _ h => vc_flat n os Q X h
theorem r_lword (G : Fx K mg base) : ∀ n, OkF prog w K mg base n "_law_word" P__law_word 2 [] (fdLWord n)
  | 0 => (no__law_word G).imp fun os Q X ⟨_, l, _, _, h, _⟩ => absurd h (Nat.not_lt_zero _)
  | n + 1 => ok__law_word G (r_lword G n) fun os Q X _ h => vc_lword n os Q X h
theorem r_lwords (G : Fx K mg base) : ∀ n, OkF prog w K mg base n "_law_words" P__law_words 2 [] (fdLWords n)
  | 0 => (no__law_words G).imp fun os Q X ⟨_, l, _, _, h, _⟩ => absurd h (Nat.not_lt_zero _)
  | n + 1 => ok__law_words G (r_lwords G n) fun os Q X _ h => vc_lwords n os Q X h
theorem r_take (G : Fx K mg base) : OkF prog w K mg base 1 "_law_take" P__law_take 2 [0] fdTake := ok__law_take G fun os Q X _ h => vc_take os Q X h
theorem r_some (G : Fx K mg base) : OkF prog w K mg base 2 "_law_some" P__law_some 2 [0] fdSome := ok__law_some G (r_take G) fun os Q X _ h => vc_some os Q X h
theorem r_tags (G : Fx K mg base) : OkF prog w K mg base 2 "_law_tags" P__law_tags 2 [0] fdTags := ok__law_tags G (r_take G) fun os Q X _ h => vc_tags os Q X h
theorem r_mixed (G : Fx K mg base) : OkF prog w K mg base 2 "_law_mixed" P__law_mixed 2 [0] fdMixed := ok__law_mixed G (r_take G) fun os Q X _ h => vc_mixed os Q X h
theorem r_test (G : Fx K mg base) : ∀ n, OkF prog w K mg base (n + 2) "_law_test" P__law_test 3 [0] (fdTest n)
  | 0 => (no__law_test G).imp fun os Q X ⟨_, _, k, _, _, _, h, _⟩ => absurd h (Nat.not_lt_zero _)
  | n + 1 => ok__law_test G ((r_some G).mono (by omega)) ((r_tags G).mono (by omega)) (r_test G n) ((r_take G).mono (by omega)) fun os Q X _ h => vc_test n os Q X h
theorem r_parts (G : Fx K mg base) : ∀ n, OkF prog w K mg base (n + 4) "_law_parts" P__law_parts 3 [0] (fdParts n)
  | 0 => (no__law_parts G).imp fun os Q X ⟨_, _, _, _, k, _, _, _, h, _⟩ => absurd h (Nat.not_lt_zero _)
  | n + 1 => ok__law_parts G ((r_some G).mono (by omega)) (r_parts G n) ((r_tags G).mono (by omega)) ((r_test G 2).mono (by omega)) fun os Q X _ h => vc_parts n os Q X h
theorem r_tree (G : Fx K mg base) : ∀ n, OkF prog w K mg base (n + 2) "_law_tree" P__law_tree 3 [0] (fdTree n)
  | 0 => (no__law_tree G).imp fun os Q X ⟨_, _, k, _, _, _, h, _⟩ => absurd h (Nat.not_lt_zero _)
  | n + 1 => ok__law_tree G ((r_some G).mono (by omega)) (r_tree G n) fun os Q X _ h => vc_tree n os Q X h
theorem r_many (G : Fx K mg base) : OkF prog w K mg base 21 "_law_many" P__law_many 1 [] fdMany := ok__law_many G (r_all G 20) (r_count G 20) fun os Q X _ h => vc_many os Q X h
theorem r_tpl (G : Fx K mg base) : OkF prog w K mg base 22 "_law_template" P__law_template 2 [0] fdTpl := ok__law_template G ((r_take G).mono (by decide)) ((r_parts G 3).mono (by decide)) (r_many G) fun os Q X _ h => vc_tpl os Q X h
theorem r_str (G : Fx K mg base) : OkF prog w K mg base 3 "_law_straight" P__law_straight 2 [0] fdStr := ok__law_straight G ((r_take G).mono (by decide)) (r_some G) (r_mixed G) fun os Q X _ h => vc_str os Q X h
theorem r_partsIn (G : Fx K mg base) : OkF prog w K mg base 3 "parts_in" P_parts_in 1 [] fdPartsIn :=
  ok_parts_in G (ok_nodes_of G (ok_inner_parts G fun os Q X _ h => vc_inner os Q X h : OkF prog w K mg base 1 _ _ _ _ fdInner) (fun os Q X _ h => vc_nodes (He.ga K "inner_parts") os Q X h) : OkF prog w K mg base 2 _ _ _ _ (fdNodes (He.ga K "inner_parts"))) fun os Q X _ h => vc_partsIn (He.ga K "inner_parts") os Q X h
theorem r_strR (G : Fx K mg base) : OkF prog w K mg base 4 "is_straight_rule" P_is_straight_rule 1 [] fdStrR := ok_is_straight_rule G (r_partsIn G) fun os Q X _ h => vc_strR os Q X h
theorem r_straight (G : Fx K mg base) : OkF prog w K mg base 5 "is_straight" P_is_straight 1 [] fdStraight := ok_is_straight G (r_strR G) fun os Q X _ h => vc_straight os Q X h
theorem r_ruleOf (G : Fx K mg base) : OkF prog w K mg base 1 "rule_of" P_rule_of 3 [] fdRuleOf := ok_rule_of G fun os Q X _ h => vc_ruleOf os Q X h
theorem r_ruleWords (G : Fx K mg base) : OkF prog w K mg base 2 "rule_words" P_rule_words 4 [] fdRuleWords := ok_rule_words G (r_ruleOf G) fun os Q X _ h => vc_ruleWords os Q X h
theorem r_wordOf (G : Fx K mg base) : OkF prog w K mg base 1 "word_of" P_word_of 2 [] fdWordOf := ok_word_of G fun os Q X _ h => vc_wordOf os Q X h
theorem r_times (G : Fx K mg base) : OkF prog w K mg base 1 "times" P_times 2 [] fdTimes := ok_times G fun os Q X _ h => vc_times os Q X h
theorem r_ltimes (G : Fx K mg base) : OkF prog w K mg base 1 "_law_times" P__law_times 2 [] fdTimes := ok__law_times G fun os Q X _ h => vc_ltimes os Q X h
theorem r_let (G : Fx K mg base) : OkF prog w K mg base 2 "letter_matrix" P_letter_matrix 1 [] fdLet := ok_letter_matrix G (r_times G) fun os Q X _ h => vc_let os Q X h
theorem r_wordM (G : Fx K mg base) : OkF prog w K mg base 3 "word_matrix" P_word_matrix 1 [] fdWordM := ok_word_matrix G ((r_times G).mono (by decide)) (r_let G) fun os Q X _ h => vc_wordM os Q X h
theorem r_lmatrix (G : Fx K mg base) : OkF prog w K mg base 2 "_law_matrix" P__law_matrix 1 [] fdWordM := ok__law_matrix G (r_ltimes G) fun os Q X _ h => vc_lmatrix os Q X h
theorem r_bag (G : Fx K mg base) : OkF prog w K mg base 1 "_law_bag" P__law_bag 1 [] fdBag := ok__law_bag G fun os Q X _ h => vc_bag os Q X h
theorem r_alike (G : Fx K mg base) : OkF prog w K mg base 1 "_law_alike" P__law_alike 2 [] fdAlike := ok__law_alike G fun os Q X _ h => vc_alike os Q X h
theorem r_law (G : Fx K mg base) (TB : LamX.TabB base mg (lawC K) (lawT K)) {fd : FuncData} (Fd : L2.FunD K "law" "law" d_law.params d_law.body d_law.scope [] [] (He.ga K "law") fd) : FnG prog w K mg base 25 (He.ga K "law") fd P_law (spLaw K 63) :=
  ok_law G TB ((r_bag G).mono (by decide)) ((r_str G).mono (by decide)) (r_tpl G) ((r_all G 20).mono (by decide)) ((r_alike G).mono (by decide)) ((r_straight G).mono (by decide)) ((r_lwords G 20).mono (by decide)) ((r_ruleWords G).mono (by decide)) ((r_take G).mono (by decide))
    ((r_tree G 4).mono (by decide)) ((r_lword G 20).mono (by decide)) ((r_wordOf G).mono (by decide)) ((r_flat G 20).mono (by decide)) ((r_lmatrix G).mono (by decide)) ((r_times G).mono (by decide)) ((r_let G).mono (by decide)) ((r_wordM G).mono (by decide)) (fun ns Q X hl hQ => vc_law ns Q X hl hQ) Fd
end
end G66
namespace G66
open PySem DL
def loose : List Str := (["_wall", "PageError", "Nothing", "inner_parts", "nodes_of", "rule_of", "parts_in", "ONE", "UP", "DOWN", "is_straight_rule", "is_straight", "word_of", "rule_words", "times", "letter_matrix", "word_matrix", "_law_bag", "_law_take", "_law_some", "_law_mixed", "_law_alike", "_law_tree", "_law_flat", "_law_tags", "_law_test", "_law_parts", "_law_template", "_law_many", "_law_many_tests"] : List Str) ++ (["_law_all_parts", "_law_straight", "_law_heard", "_law_word", "_law_times", "_law_matrix", "_law_words"] : List Str)
abbrev RR : PySem.W.OpenRow := PySem.W.OpenLaw.row PySem.Challenge.rw_validpages_k66_straight_templates_and_wo
abbrev hk : PySem.W.Hook := He.hookX 4 fa fn [] [("law", none)] ex
def ob (s : PySem.W.SharedT) : He.AlX := He.obsX 4 fa fn [] [("law", none)] ex (HandSHeadRun.getT s)
theorem ob_eq (s : PySem.W.SharedT) : ob s = hk.obs s.abs := He.obsX_eq (HandSHeadRun.getT_eq s)
theorem head_run (w : World) : HandSHeadRun.RunEq RR (PySem.W.view RR.prog [41]) hk ob 4000 loose w := by
  intro os
  kernel_rfl
end G66
open PySem PySem.W PySem.Calls PyProof.Rows
theorem PySem.Challenge.cw_validpages_k66_straight_templates_and_wo_holds : PySem.Challenge.rw_validpages_k66_straight_templates_and_wo.Holds := by
  w_on; o_law
  refine HandSHeadRun.head_any (r := OpenLaw.row PySem.Challenge.rw_validpages_k66_straight_templates_and_wo) (q := view (OpenLaw.row PySem.Challenge.rw_validpages_k66_straight_templates_and_wo).prog [41]) (H := G66.hk) (ob := G66.ob) (M := 4000) (loose := G66.loose) (d := HandSHeadRun.topDef (OpenLaw.row PySem.Challenge.rw_validpages_k66_straight_templates_and_wo).prog 41) (kwd := []) G66.ob_eq
    (by kernel_rfl) (fun s => by kernel_rfl) G66.head_run (by kernel_rfl) (by kernel_rfl) (by kernel_rfl) (by rfl) (by first | assumption | decide +kernel) (by decide +kernel) ⟨rfl, rfl, rfl, rfl, rfl, by decide +kernel⟩ ?hw ?hc
  case hw => w_witness2
  case hc =>
    refine DL.walkGT (l := PySem.Challenge.rw_validpages_k66_straight_templates_and_wo) (n := 63) (k := 25) (x := "script") rfl (by decide) (by kernel_rfl) ⟨rfl, by decide, by decide⟩ fun w mg fa h Y ns hmg => ?_
    obtain ⟨K, KX, sx⟩ := Y
    have fx : ∀ base : Heap, K.In base → base.Ns mainGlobals mg → G66.Fx K mg base := fun base kb nb => ⟨kb, nb, sx.t.d, sx.more⟩
    obtain ⟨fd, Fd⟩ := G66.D_law (fx h KX ns)
    have e : fa = He.ga K "law" := by
      have z := (G66.g_law (fx h KX ns)).symm.trans hmg
      exact (Value.ref.inj (Option.some.inj z)).symm
    subst e
    exact ⟨K, fd, KX, sx.hd _ List.mem_cons_self, sx.empty _ List.mem_cons_self, sx.out _ List.mem_cons_self, fun s u => Fd.bindsA (ps := ["script"]) (fun _ _ _ _ _ _ us hl => match us, hl with | [_], _ => rfl) s [u] rfl, fun base kb nb TB => G66.r_law (fx base kb nb) TB Fd⟩
