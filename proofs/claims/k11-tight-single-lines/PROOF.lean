import PyProof.Rows.All
import Wide.All
import OpenK.AllK
import Wide.FinOn
import HandS.ForMost
import HandS.ForExc
import HandS.ExcInit
import HandS.IsInst
import HandS.TupAny
import HandS.TupMul
import HandS.Flow
import HandS.Zip
import HandS.Style
import HandS.NoneIn
import HandS.CallSlots
import KE.GoesNew
import KE.GoesMore
import KE.GoesEnum
import HandS.OwnEq
import HandS.BoundList
import HandS.Star
import PySem.Challenge.RW_sumtables_k11_whole_tight_single_lines
set_option Elab.async false
section
set_option linter.all false
set_option maxRecDepth 100000
set_option maxHeartbeats 2000000
namespace VL
open PySem

/-- a value as a tree; lst: a list that nobody changes any more, ref: the n-th live object of the store -/
inductive D where
  | non | bl (b : Bool) | int (i : Int) | str (s : Str) | ty (n : String)
  | tup (xs : List D) | lst (xs : List D) | scr (xs : List D) | obj (c : Str) (fs : List (Str × D))
  | ref (n : Nat) | glob (x : Str)
instance : Inhabited D := ⟨.non⟩

/-- an error in flight: its class's name, its fields -/
structure Ex where
  cls : Str
  fs : List (Str × D)

/-- a live object -/
inductive MO where
  | lst (xs : List D) | dct (kvs : List (L2.Key × D)) | ins (c : Str) (fs : List (Str × D))

abbrev Mu := List MO
abbrev Ro := List (Option D)

inductive Rs (α : Type) where
  | ok (a : α) (μ : Mu)
  | er (e : Ex) (μ : Mu)
/-- how a statement ends -/
inductive Fl where
  | nx (ρ : Ro) (μ : Mu) | rt (d : D) (μ : Mu) | bk (ρ : Ro) (μ : Mu) | ct (ρ : Ro) (μ : Mu) | er (ρ : Ro) (e : Ex) (μ : Mu)

abbrev VE := Ro → Mu → Option (Rs D)
abbrev VT := Ro → Mu → Option (Rs Bool)
abbrev VA := Ro → Mu → Option (Rs (List D))
abbrev VS := Ro → Mu → Option Fl
/-- a target: the value, the slots -/
abbrev VG := D → Ro → Mu → Option (Ro × Mu)
abbrev VGs := List D → Ro → Mu → Option (Ro × Mu)
/-- a def's meaning -/
abbrev VF := List D → Mu → Option (Rs D)

def bd {α β : Type} (x : Option (Rs α)) (k : α → Mu → Option (Rs β)) : Option (Rs β) :=
  match x with
  | some (.ok a μ) => k a μ
  | some (.er e μ) => some (.er e μ)
  | none => none
@[simp] theorem bd_ok {α β : Type} (a : α) (μ : Mu) (k : α → Mu → Option (Rs β)) : bd (some (.ok a μ)) k = k a μ := rfl
@[simp] theorem bd_er {α β : Type} (e : Ex) (μ : Mu) (k : α → Mu → Option (Rs β)) : bd (some (.er e μ)) k = some (.er e μ) := rfl
@[simp] theorem bd_none {α β : Type} (k : α → Mu → Option (Rs β)) : bd none k = none := rfl
/-- a built-in step that raises nothing -/
def lift {α : Type} : Option (α × Mu) → Option (Rs α)
  | some (a, μ) => some (.ok a μ)
  | none => none
@[simp] theorem lift_some {α : Type} (a : α) (μ : Mu) : lift (some (a, μ)) = some (.ok a μ) := rfl
@[simp] theorem lift_none {α : Type} : lift (none : Option (α × Mu)) = none := rfl
/-- a statement from an expression -/
def bs {α : Type} (x : Option (Rs α)) (ρ : Ro) (k : α → Mu → Option Fl) : Option Fl :=
  match x with
  | some (.ok a μ) => k a μ
  | some (.er e μ) => some (.er ρ e μ)
  | none => none
@[simp] theorem bs_ok {α : Type} (a : α) (μ : Mu) (ρ : Ro) (k : α → Mu → Option Fl) : bs (some (.ok a μ)) ρ k = k a μ := rfl
@[simp] theorem bs_er {α : Type} (e : Ex) (μ : Mu) (ρ : Ro) (k : α → Mu → Option Fl) : bs (some (.er e μ)) ρ k = some (.er ρ e μ) := rfl
@[simp] theorem bs_none {α : Type} (ρ : Ro) (k : α → Mu → Option Fl) : bs none ρ k = none := rfl

def lstOf (μ : Mu) : D → Option (List D)
  | .lst xs => some xs
  | .ref n => match μ[n]? with
    | some (.lst xs) => some xs
    | _ => none
  | _ => none
def seqOf (μ : Mu) : D → Option (List D)
  | .tup xs => some xs
  | .scr xs => some xs
  | d => lstOf μ d
/-- truth -/
def tru (μ : Mu) : D → Option Bool
  | .non => some false
  | .bl b => some b
  | .int i => some (i != 0)
  | .tup xs => some (!xs.isEmpty)
  | .lst xs => some (!xs.isEmpty)
  | .ref n => match μ[n]? with
    | some (.lst xs) => some (!xs.isEmpty)
    | _ => none
  | _ => none

def vVar (i : Nat) : VE := fun ρ μ => match ρ[i]? with
  | some (some d) => some (.ok d μ)
  | _ => none
def vC (d : D) : VE := fun _ μ => some (.ok d μ)
def vUn (f : D → Mu → Option (D × Mu)) (a : VE) : VE := fun ρ μ => bd (a ρ μ) fun x μ1 => lift (f x μ1)
def vOp (f : D → D → Mu → Option (D × Mu)) (a b : VE) : VE := fun ρ μ => bd (a ρ μ) fun x μ1 => bd (b ρ μ1) fun y μ2 => lift (f x y μ2)
def vIf (c : VT) (a b : VE) : VE := fun ρ μ => bd (c ρ μ) fun k μ1 => if k = true then a ρ μ1 else b ρ μ1
def vAnd (a b : VE) : VE := fun ρ μ => bd (a ρ μ) fun x μ1 => match tru μ1 x with
  | some true => b ρ μ1
  | some false => some (.ok x μ1)
  | none => none
def vOr (a b : VE) : VE := fun ρ μ => bd (a ρ μ) fun x μ1 => match tru μ1 x with
  | some true => some (.ok x μ1)
  | some false => b ρ μ1
  | none => none
def vNot (a : VE) : VE := fun ρ μ => bd (a ρ μ) fun x μ1 => match tru μ1 x with
  | some k => some (.ok (.bl (!k)) μ1)
  | none => none
def vChain (f g : D → D → Mu → Option (D × Mu)) (a b c : VE) : VE := fun ρ μ => bd (a ρ μ) fun x μ1 => bd (b ρ μ1) fun y μ2 => bd (lift (f x y μ2)) fun z μ3 => match z with
  | .bl true => bd (c ρ μ3) fun w μ4 => lift (g y w μ4)
  | .bl false => some (.ok (.bl false) μ3)
  | _ => none

def tTru (a : VE) : VT := fun ρ μ => bd (a ρ μ) fun x μ1 => match tru μ1 x with
  | some k => some (.ok k μ1)
  | none => none
def tVal (a : VE) : VT := fun ρ μ => bd (a ρ μ) fun x μ1 => match x with
  | .bl k => some (.ok k μ1)
  | _ => none
def tAnd (a b : VT) : VT := fun ρ μ => bd (a ρ μ) fun k μ1 => if k = true then b ρ μ1 else some (.ok false μ1)
def tOr (a b : VT) : VT := fun ρ μ => bd (a ρ μ) fun k μ1 => if k = true then some (.ok true μ1) else b ρ μ1
def tNot (a : VT) : VT := fun ρ μ => bd (a ρ μ) fun k μ1 => some (.ok (!k) μ1)

def aNil : VA := fun _ μ => some (.ok [] μ)
def aCons (a : VE) (r : VA) : VA := fun ρ μ => bd (a ρ μ) fun x μ1 => bd (r ρ μ1) fun xs μ2 => some (.ok (x :: xs) μ2)
def vTup (a : VA) : VE := fun ρ μ => bd (a ρ μ) fun xs μ1 => some (.ok (.tup xs) μ1)
def vLst (a : VA) : VE := fun ρ μ => bd (a ρ μ) fun xs μ1 => some (.ok (.lst xs) μ1)
/-- a call of a def by its meaning -/
def vCall (f : VF) (a : VA) : VE := fun ρ μ => bd (a ρ μ) fun xs μ1 => f xs μ1
/-- a call of a built-in by values -/
def vBlt (f : List D → Mu → Option (D × Mu)) (a : VA) : VE := fun ρ μ => bd (a ρ μ) fun xs μ1 => lift (f xs μ1)

def boxed : Option (Rs D) → Option (Rs D)
  | some (.ok (.lst xs) μ) => some (.ok (.ref μ.length) (μ ++ [.lst xs]))
  | some (.er e μ) => some (.er e μ)
  | _ => none
def vBox (a : VE) : VE := fun ρ μ => boxed (a ρ μ)

def gName (i : Nat) : VG := fun d ρ μ => some (ρ.set i (some d), μ)
def gNil : VGs := fun ds ρ μ => match ds with
  | [] => some (ρ, μ)
  | _ => none
def gCons (g : VG) (r : VGs) : VGs := fun ds ρ μ => match ds with
  | d :: ds => match g d ρ μ with
    | some (ρ1, μ1) => r ds ρ1 μ1
    | none => none
  | [] => none
def gTup (n : Nat) (gs : VGs) : VG := fun d ρ μ => match d with
  | .tup xs => if xs.length = n then gs xs ρ μ else none
  | d => match lstOf μ d with
    | some xs => if xs.length = n then gs xs ρ μ else none
    | none => none
def keyOf : D → Option L2.Key
  | .int i => some (.inl i)
  | .str s => some (.inr s)
  | _ => none
def lookK (kvs : List (L2.Key × D)) (k : L2.Key) : Option D := (kvs.find? fun kv => decide (kv.1 = k)).map (·.2)
def putKD (kvs : List (L2.Key × D)) (k : L2.Key) (d : D) : List (L2.Key × D) :=
  if (kvs.any fun kv => decide (kv.1 = k)) = true then kvs.map (fun kv => if kv.1 = k then (kv.1, d) else kv) else kvs ++ [(k, d)]
/-- o[i] = d for a live list, a live dict -/
def setAt (o i d : D) (μ : Mu) : Option Mu := match o with
  | .ref n => match μ[n]? with
    | some (.lst xs) => match i with
      | .int k => (L2.ixN xs.length k).map fun j => μ.set n (.lst (xs.set j d))
      | _ => none
    | some (.dct kvs) => match keyOf i with
      | some k => if kvs.length < 16777216 then some (μ.set n (.dct (putKD kvs k d))) else none
      | none => none
    | _ => none
  | _ => none
def gSub (o i : VE) : VG := fun d ρ μ => match o ρ μ with
  | some (.ok x μ1) => match i ρ μ1 with
    | some (.ok y μ2) => (setAt x y d μ2).map fun μ3 => (ρ, μ3)
    | _ => none
  | _ => none

/-- what a for goes through: the live lists that must stay, the items -/
structure Wk where
  src : List (Nat × List D)
  items : List D
def Wk.holds (w : Wk) (μ : Mu) : Prop := ∀ p ∈ w.src, μ[p.1]? = some (.lst p.2)
abbrev VI := Ro → Mu → Option (Rs Wk)
def srcOf : D → List D → List (Nat × List D)
  | .ref n, xs => [(n, xs)]
  | _, _ => []
def iSeq (a : VE) : VI := fun ρ μ => bd (a ρ μ) fun x μ1 => match seqOf μ1 x with
  | some xs => some (.ok ⟨srcOf x xs, xs⟩ μ1)
  | none => none
def rng (lo : Int) (n : Nat) : List D := (List.range n).map fun i => .int (lo + (i : Nat))
def iRg1 (a : VA) : VI := fun ρ μ => bd (a ρ μ) fun xs μ1 => match xs with
  | [.int j] => if -(2 ^ 62) ≤ j ∧ j < 2 ^ 62 ∧ j.toNat ≤ 16777216 then some (.ok ⟨[], rng 0 j.toNat⟩ μ1) else none
  | _ => none
def iRg2 (a : VA) : VI := fun ρ μ => bd (a ρ μ) fun xs μ1 => match xs with
  | [.int i, .int j] => if -(2 ^ 62) ≤ i ∧ i < 2 ^ 62 ∧ -(2 ^ 62) ≤ j ∧ j < 2 ^ 62 ∧ (j - i).toNat ≤ 16777216 then some (.ok ⟨[], rng i (j - i).toNat⟩ μ1) else none
  | _ => none
def iZp2 (a : VA) : VI := fun ρ μ => bd (a ρ μ) fun xs μ1 => match xs with
  | [x, y] => match seqOf μ1 x, seqOf μ1 y with
    | some us, some vs => some (.ok ⟨srcOf x us ++ srcOf y vs, (us.zip vs).map fun p => .tup [p.1, p.2]⟩ μ1)
    | _, _ => none
  | _ => none
def iZp3 (a : VA) : VI := fun ρ μ => bd (a ρ μ) fun xs μ1 => match xs with
  | [x, y, z] => match seqOf μ1 x, seqOf μ1 y, seqOf μ1 z with
    | some us, some vs, some ws => some (.ok ⟨srcOf x us ++ srcOf y vs ++ srcOf z ws, (us.zip (vs.zip ws)).map fun p => .tup [p.1, p.2.1, p.2.2]⟩ μ1)
    | _, _, _ => none
  | _ => none
def iEnum (a : VA) : VI := fun ρ μ => bd (a ρ μ) fun xs μ1 => match xs with
  | [x] => match seqOf μ1 x with
    | some us => some (.ok ⟨srcOf x us, us.zipIdx.map fun p => .tup [.int (p.2 : Nat), p.1]⟩ μ1)
    | none => none
  | _ => none

def wipe (ρ : Ro) : List Nat → Ro
  | [] => ρ
  | v :: vs => (wipe ρ vs).set v none
open Classical in
/-- the turns of a comprehension: w what must stay, ρ the slots with the block's own names forgotten -/
noncomputable def compL (w : Wk) (g : VG) (t : VT) (e : VE) (ρ : Ro) (vs : List Nat) : List D → List D → Mu → Option (Rs (List D))
  | [], acc, μ => if w.holds μ then some (.ok acc μ) else none
  | x :: xs, acc, μ => if w.holds μ then match g x (wipe ρ vs) μ with
      | some (ρ1, μ1) => bd (t ρ1 μ1) fun k μ2 => if k = true then bd (e ρ1 μ2) fun d μ3 => compL w g t e ρ vs xs (acc ++ [d]) μ3 else compL w g t e ρ vs xs acc μ2
      | none => none
    else none
noncomputable def vComp (i : VI) (g : VG) (t : VT) (e : VE) (vs : List Nat) : VE := fun ρ μ => match i ρ μ with
  | some (.ok w μ1) => match compL w g t e ρ vs w.items [] μ1 with
    | some (.ok ds μ2) => some (.ok (.lst ds) μ2)
    | _ => none
  | some (.er e μ1) => some (.er e μ1)
  | none => none
def tYes : VT := fun _ μ => some (.ok true μ)

def sPass : VS := fun ρ μ => some (.nx ρ μ)
def sSeq (a b : VS) : VS := fun ρ μ => match a ρ μ with
  | some (.nx ρ1 μ1) => b ρ1 μ1
  | r => r
def sAsg (e : VE) (g : VG) : VS := fun ρ μ => bs (e ρ μ) ρ fun d μ1 => match g d ρ μ1 with
  | some (ρ2, μ2) => some (.nx ρ2 μ2)
  | none => none
def sRet (e : VE) : VS := fun ρ μ => bs (e ρ μ) ρ fun d μ1 => some (.rt d μ1)
def sRetN : VS := fun _ μ => some (.rt .non μ)
def sDrop (e : VE) : VS := fun ρ μ => bs (e ρ μ) ρ fun _ μ1 => some (.nx ρ μ1)
def sIf (c : VT) (a b : VS) : VS := fun ρ μ => bs (c ρ μ) ρ fun k μ1 => if k = true then a ρ μ1 else b ρ μ1
def sBk : VS := fun ρ μ => some (.bk ρ μ)
def sCt : VS := fun ρ μ => some (.ct ρ μ)
/-- a = b at once: two local names -/
def sPar (i j : Nat) (a : VA) : VS := fun ρ μ => bs (a ρ μ) ρ fun ds μ1 => match ds with
  | [x, y] => some (.nx ((ρ.set i (some x)).set j (some y)) μ1)
  | _ => none
def sPar3 (i j l : Nat) (a : VA) : VS := fun ρ μ => bs (a ρ μ) ρ fun ds μ1 => match ds with
  | [x, y, z] => some (.nx (((ρ.set i (some x)).set j (some y)).set l (some z)) μ1)
  | _ => none
open Classical in
noncomputable def forL (w : Wk) (g : VG) (b : VS) : List D → VS
  | [], ρ, μ => if w.holds μ then some (.nx ρ μ) else none
  | x :: xs, ρ, μ => if w.holds μ then match g x ρ μ with
      | some (ρ1, μ1) => match b ρ1 μ1 with
        | some (.nx ρ2 μ2) => forL w g b xs ρ2 μ2
        | some (.ct ρ2 μ2) => forL w g b xs ρ2 μ2
        | some (.bk ρ2 μ2) => some (.nx ρ2 μ2)
        | r => r
      | none => none
    else none
noncomputable def sFor (i : VI) (g : VG) (b : VS) : VS := fun ρ μ => bs (i ρ μ) ρ fun w μ1 => forL w g b w.items ρ μ1
/-- at most n turns -/
def whileN (c : VT) (b : VS) : Nat → VS
  | 0, _, _ => none
  | n + 1, ρ, μ => bs (c ρ μ) ρ fun k μ1 => if k = true then (match b ρ μ1 with
      | some (.nx ρ2 μ2) => whileN c b n ρ2 μ2
      | some (.ct ρ2 μ2) => whileN c b n ρ2 μ2
      | some (.bk ρ2 μ2) => some (.nx ρ2 μ2)
      | r => r) else some (.nx ρ μ1)

open Classical in
/-- while: as many turns as it takes -/
noncomputable def sWhile (c : VT) (b : VS) : VS := fun ρ μ => if h : ∃ n, whileN c b n ρ μ ≠ none then whileN c b h.choose ρ μ else none

mutual
def D.und (n : Nat) : D → Bool
  | .tup xs => undAll n xs
  | .lst xs => undAll n xs
  | .scr xs => undAll n xs
  | .obj _ fs => undF n fs
  | .ref k => decide (k < n)
  | _ => true
def undAll (n : Nat) : List D → Bool
  | [] => true
  | d :: ds => d.und n && undAll n ds
def undF (n : Nat) : List (Str × D) → Bool
  | [] => true
  | (_, d) :: ds => d.und n && undF n ds
end
def MO.und (n : Nat) : MO → Bool
  | .lst xs => undAll n xs
  | .dct kvs => undAll n (kvs.map (·.2))
  | .ins _ fs => undAll n (fs.map (·.2))
mutual
/-- live lists of the call's own frozen: lk tells what a live object's number becomes -/
def frz (lk : Nat → Option D) : D → Option D
  | .non => some .non
  | .bl b => some (.bl b)
  | .int i => some (.int i)
  | .str s => some (.str s)
  | .ty n => some (.ty n)
  | .glob x => some (.glob x)
  | .tup xs => (frzAll lk xs).map .tup
  | .lst xs => (frzAll lk xs).map .lst
  | .scr xs => (frzAll lk xs).map .scr
  | .obj c fs => (frzF lk fs).map (.obj c)
  | .ref n => lk n
def frzAll (lk : Nat → Option D) : List D → Option (List D)
  | [] => some []
  | d :: ds => match frz lk d, frzAll lk ds with
    | some d', some ds' => some (d' :: ds')
    | _, _ => none
def frzF (lk : Nat → Option D) : List (Str × D) → Option (List (Str × D))
  | [] => some []
  | (x, d) :: ds => match frz lk d, frzF lk ds with
    | some d', some ds' => some ((x, d') :: ds')
    | _, _ => none
end
def lk0 (n0 : Nat) : Nat → Option D := fun n => if n < n0 then some (.ref n) else none
def lkS (μ : Mu) (n0 : Nat) (lk : Nat → Option D) : Nat → Option D := fun n => if n < n0 then some (.ref n) else match μ[n]? with
  | some (.lst xs) => (frzAll lk xs).map .lst
  | _ => none
/-- lists in lists in lists -/
def lkOf (μ : Mu) (n0 : Nat) : Nat → Option D := lkS μ n0 (lkS μ n0 (lkS μ n0 (lkS μ n0 (lk0 n0))))
/-- the live objects of before hold nothing of the call's own -/
def Keeps (μ μ' : Mu) : Prop := ∀ i o, i < μ.length → μ'[i]? = some o → μ[i]? = some o ∨ o.und μ.length = true
/-- one own live object handed on -/
def handOn (n0 : Nat) (d : D) (μ' : Mu) : Option (Rs D) := match d with
  | .ref n => if n0 ≤ n then (match μ'[n]? with
    | some o => if o.und n0 = true then some (.ok (.ref n0) (μ'.take n0 ++ [o])) else none
    | none => none) else none
  | _ => none
open Classical in
/-- the call's end: the value frozen, the call's own objects dropped; a dict or an instance of its own is handed on -/
noncomputable def close (μ : Mu) (d : D) (μ' : Mu) : Option (Rs D) :=
  if Keeps μ μ' ∧ μ.length ≤ μ'.length then
    match frz (lkOf μ' μ.length) d with
    | some d' => some (.ok d' (μ'.take μ.length))
    | none => handOn μ.length d μ'
  else none
open Classical in
/-- .. a list of its own is handed on, live -/
noncomputable def closeB (μ : Mu) (d : D) (μ' : Mu) : Option (Rs D) :=
  if Keeps μ μ' ∧ μ.length ≤ μ'.length then
    handOn μ.length d μ'
  else none
open Classical in
noncomputable def closeX (μ : Mu) (e : Ex) (μ' : Mu) : Option (Rs D) :=
  if Keeps μ μ' ∧ μ.length ≤ μ'.length then
    match frzF (lkOf μ' μ.length) e.fs with
    | some fs => some (.er ⟨e.cls, fs⟩ (μ'.take μ.length))
    | none => none
  else none
/-- a def of n slots that hands a new list on -/
noncomputable def runDefB (n : Nat) (b : VS) : VF := fun ds μ => match b (ds.map some ++ List.replicate (n - ds.length) none) μ with
  | some (.rt d μ') => closeB μ d μ'
  | some (.er _ e μ') => closeX μ e μ'
  | _ => none
/-- a def of n slots -/
noncomputable def runDef (n : Nat) (b : VS) : VF := fun ds μ => match b (ds.map some ++ List.replicate (n - ds.length) none) μ with
  | some (.nx _ μ') => close μ .non μ'
  | some (.rt d μ') => close μ d μ'
  | some (.er _ e μ') => closeX μ e μ'
  | _ => none
end VL
end
section
set_option linter.all false
set_option maxRecDepth 100000
set_option maxHeartbeats 2000000
namespace VL
open PySem L2

/-- the live objects' places, in order; further places that may change (a list that is being made) -/
structure Rg where
  l : List Addr
  z : List Addr
instance : Membership Addr Rg := ⟨fun R a => a ∈ R.l ∨ a ∈ R.z⟩
theorem Rg.mem {R : Rg} {a : Addr} : a ∈ R ↔ a ∈ R.l ∨ a ∈ R.z := Iff.rfl
def Rg.push (R : Rg) (p : Addr) : Rg := ⟨R.l ++ [p], R.z⟩
def Rg.priv (R : Rg) (p : Addr) : Rg := ⟨R.l, p :: R.z⟩

def LsA (K : PySem.W.Frag) (H : Hp) (R : Rg) (a : Addr) (xs : List V) : Prop := a ∉ R ∧ H a = some (.lst xs)
def ScA (K : PySem.W.Frag) (H : Hp) (R : Rg) (a : Addr) (xs : List V) : Prop := (a ∉ R ∧ ∃ o, H a = some (.frz o (.lst xs))) ∨
  ∃ (o : Obj) (its : Array Value) (n : Nat), K.lookup a = some o ∧ o.cls = .type "list" ∧ o.dict = none ∧ o.data = .seq its n ∧ its.size ≤ sizeLine ∧ Vals xs its.toList
def TpA (K : PySem.W.Frag) (H : Hp) (R : Rg) (a : Addr) (xs : List V) : Prop := (a ∉ R ∧ H a = some (.tup xs)) ∨
  ∃ (o : Obj) (its : Array Value) (n : Nat), K.lookup a = some o ∧ o.cls = .type "tuple" ∧ o.data = .seq its n ∧ its.size ≤ sizeLine ∧ Vals xs its.toList

mutual
inductive DV (K : PySem.W.Frag) (mg : Str → Option Value) (H : Hp) (R : Rg) : V → D → Prop
  | non : DV K mg H R .non .non
  | bl (b : Bool) : DV K mg H R (.bl b) (.bl b)
  | int (i : Int) : DV K mg H R (.int i) (.int i)
  | str (s : Str) : DV K mg H R (.str s) (.str s)
  | ty (n : String) : DV K mg H R (.ty n) (.ty n)
  | tup {a : Addr} {xs : List V} {ds : List D} (h : TpA K H R a xs) (z : xs.length ≤ sizeLine) (r : DVs K mg H R xs ds) : DV K mg H R (.ref a) (.tup ds)
  | lst {a : Addr} {xs : List V} {ds : List D} (h : LsA K H R a xs) (z : xs.length ≤ sizeLine) (r : DVs K mg H R xs ds) : DV K mg H R (.ref a) (.lst ds)
  | scr {a : Addr} {xs : List V} {ds : List D} (h : ScA K H R a xs) (z : xs.length ≤ sizeLine) (r : DVs K mg H R xs ds) : DV K mg H R (.ref a) (.scr ds)
  | obj {a C dx : Addr} {c : Str} {fs : List (Str × V)} {ds : List (Str × D)} (n : a ∉ R) (h : H a = some (.ins C dx fs)) (hc : mg c = some (.ref C)) (hk : fs.map (·.1) = ds.map (·.1)) (r : DVs K mg H R (fs.map (·.2)) (ds.map (·.2))) :
      DV K mg H R (.ref a) (.obj c ds)
  | ref {n : Nat} {a : Addr} (h : R.l[n]? = some a) : DV K mg H R (.ref a) (.ref n)
  | glob {x : Str} {f : Addr} (h : mg x = some (.ref f)) : DV K mg H R (.ref f) (.glob x)
inductive DVs (K : PySem.W.Frag) (mg : Str → Option Value) (H : Hp) (R : Rg) : List V → List D → Prop
  | nil : DVs K mg H R [] []
  | cons {v : V} {d : D} {vs : List V} {ds : List D} (h : DV K mg H R v d) (t : DVs K mg H R vs ds) : DVs K mg H R (v :: vs) (d :: ds)
end

/-- how heap and live objects may go on -/
structure Ex2 (R : Rg) (H : Hp) (R' : Rg) (H' : Hp) : Prop where
  pre : ∃ S, R'.l = R.l ++ S
  prz : R'.z = R.z
  keep : ∀ a u, a ∉ R.l → H a = some u → H' a = some u
  new : ∀ a, a ∈ R'.l → a ∉ R.l → H a = none
/-- .. with a list in the making at D0, which changes -/
structure Exd (D0 : Addr) (R : Rg) (H : Hp) (R' : Rg) (H' : Hp) : Prop where
  pre : ∃ S, R'.l = R.l ++ S
  prz : R'.z = R.z
  keep : ∀ a u, a ∉ R.l → a ≠ D0 → H a = some u → H' a = some u
  new : ∀ a, a ∈ R'.l → a ∉ R.l → H a = none

def MoOk (K : PySem.W.Frag) (mg : Str → Option Value) (H : Hp) (R : Rg) (a : Addr) : MO → Prop
  | .lst ds => ∃ vs, H a = some (.lst vs) ∧ vs.length ≤ sizeLine ∧ DVs K mg H R vs ds
  | .dct kvs => ∃ kv, H a = some (.dK kv) ∧ kv.length ≤ sizeLine ∧ kv.map (·.1) = kvs.map (·.1) ∧ DVs K mg H R (kv.map (·.2)) (kvs.map (·.2))
  | .ins c fs => ∃ C dx fv, H a = some (.ins C dx fv) ∧ mg c = some (.ref C) ∧ fv.map (·.1) = fs.map (·.1) ∧ DVs K mg H R (fv.map (·.2)) (fs.map (·.2))
structure Sto (K : PySem.W.Frag) (mg : Str → Option Value) (μ : Mu) (H : Hp) (R : Rg) : Prop where
  nd : R.l.Nodup
  len : R.l.length = μ.length
  obj : ∀ (n : Nat) (a : Addr) (o : MO), R.l[n]? = some a → μ[n]? = some o → MoOk K mg H R a o
  prv : ∀ a, a ∈ R.z → (∃ u, H a = some u) ∧ a ∉ R.l

section
variable {K : PySem.W.Frag} {mg : Str → Option Value} {H H' H2 : Hp} {R R' R2 : Rg} {μ μ' : Mu}
theorem Ex2.refl : Ex2 R H R H := ⟨⟨[], by simp⟩, rfl, fun _ _ _ h => h, fun a h n => absurd h n⟩
theorem Ex2.sub (e : Ex2 R H R' H') {a : Addr} (h : a ∈ R) : a ∈ R' := by
  obtain ⟨S, q⟩ := e.pre
  rcases h with h | h
  · exact .inl (by rw [q]; exact List.mem_append_left _ h)
  · exact .inr (by rw [e.prz]; exact h)
theorem Ex2.trans (e : Ex2 R H R' H') (e2 : Ex2 R' H' R2 H2) : Ex2 R H R2 H2 := by
  refine ⟨?_, e2.prz.trans e.prz, fun a u n h => ?_, fun a h n => ?_⟩
  · obtain ⟨S, q⟩ := e.pre
    obtain ⟨T, q2⟩ := e2.pre
    exact ⟨S ++ T, by rw [q2, q]; simp⟩
  · have n' : a ∉ R'.l := fun z => by rw [e.new a z n] at h; cases h
    exact e2.keep a u n' (e.keep a u n h)
  · by_cases z : a ∈ R'.l
    · exact e.new a z n
    · have q := e2.new a h z
      cases w : H a with
      | none => rfl
      | some u => rw [e.keep a u n w] at q; cases q
theorem Ex2.exd (e : Ex2 R H R' H') (D0 : Addr) : Exd D0 R H R' H' := ⟨e.pre, e.prz, fun a u n _ h => e.keep a u n h, e.new⟩
theorem Exd.trans {D0 : Addr} (e : Exd D0 R H R' H') (e2 : Exd D0 R' H' R2 H2) (hd : (∃ u, H' D0 = some u) ∨ H D0 = none) : Exd D0 R H R2 H2 := by
  refine ⟨?_, e2.prz.trans e.prz, fun a u n hn h => ?_, fun a h n => ?_⟩
  · obtain ⟨S, q⟩ := e.pre
    obtain ⟨T, q2⟩ := e2.pre
    exact ⟨S ++ T, by rw [q2, q]; simp⟩
  · have n' : a ∉ R'.l := fun z => by rw [e.new a z n] at h; cases h
    exact e2.keep a u n' hn (e.keep a u n hn h)
  · by_cases z : a ∈ R'.l
    · exact e.new a z n
    · have q := e2.new a h z
      cases w : H a with
      | none => rfl
      | some u =>
        by_cases hz : a = D0
        · subst hz
          rcases hd with ⟨u, hu⟩ | hd
          · rw [q] at hu; cases hu
          · rw [hd] at w; cases w
        · rw [e.keep a u n hz w] at q; cases q
theorem Exd.out {D0 : Addr} (e : Exd D0 R H R' H') (hD : D0 ∈ R) {a : Addr} {u : HO} (n : a ∉ R) (h : H a = some u) : a ∉ R' ∧ H' a = some u :=
  ⟨fun z => by
    rcases z with z | z
    · rw [e.new a z (fun y => n (.inl y))] at h; cases h
    · rw [e.prz] at z; exact n (.inr z), e.keep a u (fun y => n (.inl y)) (fun y => n (by rw [y]; exact hD)) h⟩
theorem Exd.at {D0 : Addr} (e : Exd D0 R H R' H') {n : Nat} {a : Addr} (h : R.l[n]? = some a) : R'.l[n]? = some a := by
  obtain ⟨S, q⟩ := e.pre
  have hl := (List.getElem?_eq_some_iff.mp h).1
  rw [q, List.getElem?_append_left hl]; exact h
theorem Ex2.out (e : Ex2 R H R' H') {a : Addr} {u : HO} (n : a ∉ R) (h : H a = some u) : a ∉ R' ∧ H' a = some u :=
  ⟨fun z => by
    rcases z with z | z
    · rw [e.new a z (fun y => n (.inl y))] at h; cases h
    · rw [e.prz] at z; exact n (.inr z), e.keep a u (fun y => n (.inl y)) h⟩
theorem Ex2.at (e : Ex2 R H R' H') {n : Nat} {a : Addr} (h : R.l[n]? = some a) : R'.l[n]? = some a := by
  obtain ⟨S, q⟩ := e.pre
  have hl := (List.getElem?_eq_some_iff.mp h).1
  rw [q, List.getElem?_append_left hl]; exact h
theorem TpA.ext {a : Addr} {xs : List V} (h : TpA K H R a xs) (e : Ex2 R H R' H') : TpA K H' R' a xs := Or.imp (fun q => e.out q.1 q.2) id h
theorem LsA.ext {a : Addr} {xs : List V} (h : LsA K H R a xs) (e : Ex2 R H R' H') : LsA K H' R' a xs := e.out h.1 h.2
theorem ScA.ext {a : Addr} {xs : List V} (h : ScA K H R a xs) (e : Ex2 R H R' H') : ScA K H' R' a xs := Or.imp (fun ⟨n, o, q⟩ => let ⟨n', q'⟩ := e.out n q; ⟨n', o, q'⟩) id h
theorem TpA.sq {a : Addr} {xs : List V} (h : TpA K H R a xs) : SqT K H a xs := Or.imp (fun q => .inl q.2) id h
theorem LsA.sq {a : Addr} {xs : List V} (h : LsA K H R a xs) : SqL K H a xs := .inl (.inl h.2)
theorem ScA.sq {a : Addr} {xs : List V} (h : ScA K H R a xs) : SqL K H a xs := Or.imp (fun ⟨_, o, q⟩ => .inr ⟨o, q⟩) id h

mutual
theorem DV.ext (e : Ex2 R H R' H') : ∀ {v : V} {d : D}, DV K mg H R v d → DV K mg H' R' v d
  | _, _, .non => .non
  | _, _, .bl b => .bl b
  | _, _, .int i => .int i
  | _, _, .str s => .str s
  | _, _, .ty n => .ty n
  | _, _, .tup h z r => .tup (h.ext e) z (DVs.ext e r)
  | _, _, .lst h z r => .lst (h.ext e) z (DVs.ext e r)
  | _, _, .scr h z r => .scr (h.ext e) z (DVs.ext e r)
  | _, _, .obj n h hc hk r => .obj (e.out n h).1 (e.out n h).2 hc hk (DVs.ext e r)
  | _, _, .ref h => .ref (e.at h)
  | _, _, .glob h => .glob h
theorem DVs.ext (e : Ex2 R H R' H') : ∀ {vs : List V} {ds : List D}, DVs K mg H R vs ds → DVs K mg H' R' vs ds
  | _, _, .nil => .nil
  | _, _, .cons h t => .cons (DV.ext e h) (DVs.ext e t)
end
theorem TpA.exd {D0 : Addr} (hD : D0 ∈ R) {a : Addr} {xs : List V} (h : TpA K H R a xs) (e : Exd D0 R H R' H') : TpA K H' R' a xs := Or.imp (fun q => e.out hD q.1 q.2) id h
theorem LsA.exd {D0 : Addr} (hD : D0 ∈ R) {a : Addr} {xs : List V} (h : LsA K H R a xs) (e : Exd D0 R H R' H') : LsA K H' R' a xs := e.out hD h.1 h.2
theorem ScA.exd {D0 : Addr} (hD : D0 ∈ R) {a : Addr} {xs : List V} (h : ScA K H R a xs) (e : Exd D0 R H R' H') : ScA K H' R' a xs := Or.imp (fun ⟨n, o, q⟩ => let ⟨n', q'⟩ := e.out hD n q; ⟨n', o, q'⟩) id h
mutual
theorem DV.exd {D0 : Addr} (hD : D0 ∈ R) (e : Exd D0 R H R' H') : ∀ {v : V} {d : D}, DV K mg H R v d → DV K mg H' R' v d
  | _, _, .non => .non
  | _, _, .bl b => .bl b
  | _, _, .int i => .int i
  | _, _, .str s => .str s
  | _, _, .ty n => .ty n
  | _, _, .tup h z r => .tup (h.exd hD e) z (DVs.exd hD e r)
  | _, _, .lst h z r => .lst (h.exd hD e) z (DVs.exd hD e r)
  | _, _, .scr h z r => .scr (h.exd hD e) z (DVs.exd hD e r)
  | _, _, .obj n h hc hk r => .obj (e.out hD n h).1 (e.out hD n h).2 hc hk (DVs.exd hD e r)
  | _, _, .ref h => .ref (e.at h)
  | _, _, .glob h => .glob h
theorem DVs.exd {D0 : Addr} (hD : D0 ∈ R) (e : Exd D0 R H R' H') : ∀ {vs : List V} {ds : List D}, DVs K mg H R vs ds → DVs K mg H' R' vs ds
  | _, _, .nil => .nil
  | _, _, .cons h t => .cons (DV.exd hD e h) (DVs.exd hD e t)
end
theorem DVs.length : ∀ {vs : List V} {ds : List D}, DVs K mg H R vs ds → vs.length = ds.length
  | _, _, .nil => rfl
  | _, _, .cons _ t => by simp [DVs.length t]
theorem DVs.get : ∀ {vs : List V} {ds : List D} {i : Nat} {d : D}, DVs K mg H R vs ds → ds[i]? = some d → ∃ v, vs[i]? = some v ∧ DV K mg H R v d
  | _, _, _, _, .nil, h => by simp at h
  | _, _, 0, _, .cons h _, e => by simp at e; subst e; exact ⟨_, by simp, h⟩
  | _, _, i + 1, _, .cons _ t, e => by
    obtain ⟨v, q, h⟩ := DVs.get t (by simpa using e)
    exact ⟨v, by simpa using q, h⟩
theorem DVs.getV : ∀ {vs : List V} {ds : List D} {i : Nat} {v : V}, DVs K mg H R vs ds → vs[i]? = some v → ∃ d, ds[i]? = some d ∧ DV K mg H R v d
  | _, _, _, _, .nil, h => by simp at h
  | _, _, 0, _, .cons h _, e => by simp at e; subst e; exact ⟨_, by simp, h⟩
  | _, _, i + 1, _, .cons _ t, e => by
    obtain ⟨v, q, h⟩ := DVs.getV t (by simpa using e)
    exact ⟨v, by simpa using q, h⟩
theorem DVs.append : ∀ {vs ws : List V} {ds es : List D}, DVs K mg H R vs ds → DVs K mg H R ws es → DVs K mg H R (vs ++ ws) (ds ++ es)
  | _, _, _, _, .nil, s => s
  | _, _, _, _, .cons h t, s => .cons h (DVs.append t s)
theorem DVs.take : ∀ {vs : List V} {ds : List D} (n : Nat), DVs K mg H R vs ds → DVs K mg H R (vs.take n) (ds.take n)
  | _, _, 0, _ => by simp; exact .nil
  | _, _, n + 1, .nil => by simp; exact .nil
  | _, _, n + 1, .cons h t => by simp; exact .cons h (DVs.take n t)
theorem DVs.drop : ∀ {vs : List V} {ds : List D} (n : Nat), DVs K mg H R vs ds → DVs K mg H R (vs.drop n) (ds.drop n)
  | _, _, 0, h => by simpa using h
  | _, _, n + 1, .nil => by simp; exact .nil
  | _, _, n + 1, .cons h t => by simp; exact DVs.drop n t
theorem DVs.set {x : V} {d : D} (h : DV K mg H R x d) : ∀ {vs : List V} {ds : List D} (i : Nat), DVs K mg H R vs ds → DVs K mg H R (vs.set i x) (ds.set i d)
  | _, _, _, .nil => .nil
  | _, _, 0, .cons _ t => .cons h t
  | _, _, i + 1, .cons q t => .cons q (DVs.set h i t)
theorem DVs.reverse : ∀ {vs : List V} {ds : List D}, DVs K mg H R vs ds → DVs K mg H R vs.reverse ds.reverse
  | _, _, .nil => by simp; exact .nil
  | _, _, .cons h t => by simp only [List.reverse_cons]; exact DVs.append (DVs.reverse t) (.cons h .nil)
theorem DVs.of_get {vs : List V} {ds : List D} (hl : vs.length = ds.length) (h : ∀ (i : Nat) (v : V) (d : D), vs[i]? = some v → ds[i]? = some d → DV K mg H R v d) : DVs K mg H R vs ds := by
  induction vs generalizing ds with
  | nil =>
    cases ds with
    | nil => exact .nil
    | cons _ _ => simp at hl
  | cons v vs ih =>
    cases ds with
    | nil => simp at hl
    | cons d ds => exact .cons (h 0 v d (by simp) (by simp)) (ih (by simpa using hl) fun i v d h1 h2 => h (i + 1) v d (by simpa using h1) (by simpa using h2))

theorem MoOk.ext {a : Addr} {o : MO} (e : Ex2 R H R' H') (hs : H' a = H a) (h : MoOk K mg H R a o) : MoOk K mg H' R' a o := by
  cases o with
  | lst ds => obtain ⟨vs, h1, h2, h3⟩ := h; exact ⟨vs, hs.trans h1, h2, h3.ext e⟩
  | dct kvs => obtain ⟨kv, h1, h2, h3, h4⟩ := h; exact ⟨kv, hs.trans h1, h2, h3, h4.ext e⟩
  | ins c fs => obtain ⟨C, dx, fv, h1, h2, h3, h4⟩ := h; exact ⟨C, dx, fv, hs.trans h1, h2, h3, h4.ext e⟩
theorem MoOk.some {a : Addr} {o : MO} (h : MoOk K mg H R a o) : ∃ u, H a = some u := by
  cases o with
  | lst ds => obtain ⟨vs, h1, _⟩ := h; exact ⟨_, h1⟩
  | dct kvs => obtain ⟨kv, h1, _⟩ := h; exact ⟨_, h1⟩
  | ins c fs => obtain ⟨C, dx, fv, h1, _⟩ := h; exact ⟨_, h1⟩
theorem Sto.mem (s : Sto K mg μ H R) {a : Addr} (h : a ∈ R) : ∃ u, H a = some u := by
  rcases h with h | h
  · obtain ⟨n, hn⟩ := List.getElem?_of_mem h
    have hl := (List.getElem?_eq_some_iff.mp hn).1
    rw [s.len] at hl
    exact (s.obj n a _ hn (List.getElem?_eq_getElem hl)).some
  · exact (s.prv a h).1
theorem Sto.fresh (s : Sto K mg μ H R) {a : Addr} (h : H a = none) : a ∉ R := fun z => by
  obtain ⟨u, q⟩ := s.mem z
  rw [h] at q; cases q
theorem Sto.at (s : Sto K mg μ H R) {n : Nat} {o : MO} (h : μ[n]? = some o) : ∃ a, R.l[n]? = some a ∧ MoOk K mg H R a o := by
  have hl := (List.getElem?_eq_some_iff.mp h).1
  rw [← s.len] at hl
  have q : R.l[n]? = some R.l[n] := by simp [hl]
  exact ⟨_, q, s.obj n _ o q h⟩
/-- something new that is no live object -/
theorem Ex2.upd {p : Addr} {o : HO} (hR : p ∉ R) (h : H p = none) : Ex2 R H R (upd H p o) := ⟨⟨[], by simp⟩, rfl, fun a u n e => by rw [upd_ne (ne_of_none e h)]; exact e, fun a h n => absurd h n⟩
theorem Sto.upd {p : Addr} {o : HO} (s : Sto K mg μ H R) (h : H p = none) : Sto K mg μ (upd H p o) R :=
  ⟨s.nd, s.len, fun n a m h1 h2 => by
    have q := s.obj n a m h1 h2
    obtain ⟨u, hu⟩ := q.some
    exact q.ext (Ex2.upd (s.fresh h) h) (upd_ne (ne_of_none hu h)), fun a ha => by
    obtain ⟨⟨u, hu⟩, n⟩ := s.prv a ha
    exact ⟨⟨u, by rw [upd_ne (ne_of_none hu h)]; exact hu⟩, n⟩⟩
/-- a new live object -/
theorem Ex2.push {p : Addr} {o : HO} (h : H p = none) : Ex2 R H (R.push p) (L2.upd H p o) := ⟨⟨[p], rfl⟩, rfl, fun a u n e => by rw [upd_ne (ne_of_none e h)]; exact e, fun a h' n => by
  rcases List.mem_append.mp h' with z | z
  · exact absurd z n
  · simp at z; rw [z]; exact h⟩
theorem Sto.push {p : Addr} {o : HO} {m : MO} (s : Sto K mg μ H R) (h : H p = none) (ok : MoOk K mg (L2.upd H p o) (R.push p) p m) : Sto K mg (μ ++ [m]) (L2.upd H p o) (R.push p) := by
  have nR := s.fresh h
  refine ⟨?_, by simp [Rg.push, s.len], fun n a m' h1 h2 => ?_, fun a ha => ?_⟩
  · show (R.l ++ [p]).Nodup
    rw [List.nodup_append]
    refine ⟨s.nd, by simp, fun a ha b hb => ?_⟩
    simp at hb; subst hb
    exact fun z => nR (.inl (z ▸ ha))
  · have h1 : (R.l ++ [p])[n]? = some a := h1
    by_cases hn : n < R.l.length
    · rw [List.getElem?_append_left hn] at h1
      rw [List.getElem?_append_left (by rw [← s.len]; exact hn)] at h2
      have q := s.obj n a m' h1 h2
      obtain ⟨u, hu⟩ := q.some
      exact q.ext (Ex2.push h) (upd_ne (ne_of_none hu h))
    · have e : n = R.l.length := by
        have := (List.getElem?_eq_some_iff.mp h1).1
        simp at this; omega
      subst e
      rw [List.getElem?_concat_length] at h1
      rw [s.len, List.getElem?_concat_length] at h2
      cases h1; cases h2
      exact ok
  · obtain ⟨⟨u, hu⟩, n⟩ := s.prv a ha
    refine ⟨⟨u, by rw [upd_ne (ne_of_none hu h)]; exact hu⟩, fun z => ?_⟩
    rcases List.mem_append.mp z with z | z
    · exact n z
    · simp at z; subst z; rw [h] at hu; cases hu
/-- a live object changed -/
theorem Ex2.set {a : Addr} {o : HO} (h : a ∈ R.l) : Ex2 R H R (L2.upd H a o) := ⟨⟨[], by simp⟩, rfl, fun b u n e => by rw [upd_ne (fun z => n (by rw [z]; exact h))]; exact e, fun a h n => absurd h n⟩
theorem Sto.set {n : Nat} {a : Addr} {o : HO} {m : MO} (s : Sto K mg μ H R) (ha : R.l[n]? = some a) (ok : MoOk K mg (L2.upd H a o) R a m) : Sto K mg (μ.set n m) (L2.upd H a o) R := by
  have hm : a ∈ R.l := List.mem_of_getElem? ha
  refine ⟨s.nd, by simp [s.len], fun i b m' h1 h2 => ?_, fun b hb => ?_⟩
  · by_cases hi : i = n
    · subst hi
      have hl : i < μ.length := by rw [← s.len]; exact (List.getElem?_eq_some_iff.mp h1).1
      rw [List.getElem?_set_self hl] at h2
      cases h2
      rw [ha] at h1; cases h1
      exact ok
    · rw [List.getElem?_set_ne (Ne.symm hi)] at h2
      have ne : b ≠ a := fun z => hi (by
        subst z
        obtain ⟨p1, q1⟩ := List.getElem?_eq_some_iff.mp h1
        obtain ⟨p2, q2⟩ := List.getElem?_eq_some_iff.mp ha
        exact (List.getElem_inj s.nd).mp (q1.trans q2.symm))
      exact (s.obj i b m' h1 h2).ext (Ex2.set hm) (upd_ne ne)
  · obtain ⟨⟨u, hu⟩, nn⟩ := s.prv b hb
    refine ⟨?_, nn⟩
    by_cases e : b = a
    · exact ⟨o, by rw [e, upd_same]⟩
    · exact ⟨u, by rw [upd_ne e]; exact hu⟩
mutual
theorem DV.topriv {D0 : Addr} {o : HO} (h0 : H D0 = none) : ∀ {v : V} {d : D}, DV K mg H R v d → DV K mg (L2.upd H D0 o) (R.priv D0) v d
  | _, _, .non => .non
  | _, _, .bl b => .bl b
  | _, _, .int i => .int i
  | _, _, .str s => .str s
  | _, _, .ty n => .ty n
  | _, _, .tup h z r => .tup (Or.imp (fun q => ⟨fun y => (by
      rcases y with y | y
      · exact q.1 (.inl y)
      · rcases List.mem_cons.mp y with rfl | y
        · rw [h0] at q; cases q.2
        · exact q.1 (.inr y)), by rw [upd_ne (ne_of_none q.2 h0)]; exact q.2⟩) id h) z (DVs.topriv h0 r)
  | _, _, .lst h z r => .lst ⟨fun y => (by
      rcases y with y | y
      · exact h.1 (.inl y)
      · rcases List.mem_cons.mp y with rfl | y
        · have := h.2; rw [h0] at this; cases this
        · exact h.1 (.inr y)), by rw [upd_ne (ne_of_none h.2 h0)]; exact h.2⟩ z (DVs.topriv h0 r)
  | _, _, .scr h z r => .scr (Or.imp (fun ⟨n, o', q⟩ => ⟨fun y => (by
      rcases y with y | y
      · exact n (.inl y)
      · rcases List.mem_cons.mp y with rfl | y
        · rw [h0] at q; cases q
        · exact n (.inr y)), o', by rw [upd_ne (ne_of_none q h0)]; exact q⟩) id h) z (DVs.topriv h0 r)
  | _, _, .obj n h hc hk r => .obj (fun y => (by
      rcases y with y | y
      · exact n (.inl y)
      · rcases List.mem_cons.mp y with rfl | y
        · rw [h0] at h; cases h
        · exact n (.inr y))) (by rw [upd_ne (ne_of_none h h0)]; exact h) hc hk (DVs.topriv h0 r)
  | _, _, .ref h => .ref h
  | _, _, .glob h => .glob h
theorem DVs.topriv {D0 : Addr} {o : HO} (h0 : H D0 = none) : ∀ {vs : List V} {ds : List D}, DVs K mg H R vs ds → DVs K mg (L2.upd H D0 o) (R.priv D0) vs ds
  | _, _, .nil => .nil
  | _, _, .cons h t => .cons (DV.topriv h0 h) (DVs.topriv h0 t)
end
mutual
theorem DV.unpriv {D0 : Addr} : ∀ {v : V} {d : D}, DV K mg H (R.priv D0) v d → DV K mg H R v d
  | _, _, .non => .non
  | _, _, .bl b => .bl b
  | _, _, .int i => .int i
  | _, _, .str s => .str s
  | _, _, .ty n => .ty n
  | _, _, .tup h z r => .tup (Or.imp (fun q => ⟨fun y => q.1 (Or.imp id (List.mem_cons_of_mem _) y), q.2⟩) id h) z (DVs.unpriv r)
  | _, _, .lst h z r => .lst ⟨fun y => h.1 (Or.imp id (List.mem_cons_of_mem _) y), h.2⟩ z (DVs.unpriv r)
  | _, _, .scr h z r => .scr (Or.imp (fun q => ⟨fun y => q.1 (Or.imp id (List.mem_cons_of_mem _) y), q.2⟩) id h) z (DVs.unpriv r)
  | _, _, .obj n h hc hk r => .obj (fun y => n (Or.imp id (List.mem_cons_of_mem _) y)) h hc hk (DVs.unpriv r)
  | _, _, .ref h => .ref h
  | _, _, .glob h => .glob h
theorem DVs.unpriv {D0 : Addr} : ∀ {vs : List V} {ds : List D}, DVs K mg H (R.priv D0) vs ds → DVs K mg H R vs ds
  | _, _, .nil => .nil
  | _, _, .cons h t => .cons (DV.unpriv h) (DVs.unpriv t)
end
theorem MoOk.topriv {a D0 : Addr} {ho : HO} {o : MO} (h0 : H D0 = none) (h : MoOk K mg H R a o) : MoOk K mg (L2.upd H D0 ho) (R.priv D0) a o := by
  cases o with
  | lst ds => obtain ⟨vs, h1, h2, h3⟩ := h; exact ⟨vs, by rw [upd_ne (ne_of_none h1 h0)]; exact h1, h2, h3.topriv h0⟩
  | dct kvs => obtain ⟨kv, h1, h2, h3, h4⟩ := h; exact ⟨kv, by rw [upd_ne (ne_of_none h1 h0)]; exact h1, h2, h3, h4.topriv h0⟩
  | ins c fs => obtain ⟨C, dx, fv, h1, h2, h3, h4⟩ := h; exact ⟨C, dx, fv, by rw [upd_ne (ne_of_none h1 h0)]; exact h1, h2, h3, h4.topriv h0⟩
theorem MoOk.unpriv {a D0 : Addr} {o : MO} (h : MoOk K mg H (R.priv D0) a o) : MoOk K mg H R a o := by
  cases o with
  | lst ds => obtain ⟨vs, h1, h2, h3⟩ := h; exact ⟨vs, h1, h2, h3.unpriv⟩
  | dct kvs => obtain ⟨kv, h1, h2, h3, h4⟩ := h; exact ⟨kv, h1, h2, h3, h4.unpriv⟩
  | ins c fs => obtain ⟨C, dx, fv, h1, h2, h3, h4⟩ := h; exact ⟨C, dx, fv, h1, h2, h3, h4.unpriv⟩
theorem Sto.topriv {D0 : Addr} {o : HO} (s : Sto K mg μ H R) (h0 : H D0 = none) : Sto K mg μ (L2.upd H D0 o) (R.priv D0) :=
  ⟨s.nd, s.len, fun n a m h1 h2 => (s.obj n a m h1 h2).topriv h0, fun a ha => by
    rcases List.mem_cons.mp ha with rfl | ha
    · exact ⟨⟨o, upd_same⟩, fun z => s.fresh h0 (.inl z)⟩
    · obtain ⟨⟨u, hu⟩, n⟩ := s.prv a ha
      exact ⟨⟨u, by rw [upd_ne (ne_of_none hu h0)]; exact hu⟩, n⟩⟩
theorem Sto.unpriv {D0 : Addr} (s : Sto K mg μ H (R.priv D0)) : Sto K mg μ H R :=
  ⟨s.nd, s.len, fun n a m h1 h2 => (s.obj n a m h1 h2).unpriv, fun a ha => s.prv a (List.mem_cons_of_mem _ ha)⟩
/-- the list in the making changed -/
theorem Exd.setz {D0 : Addr} {o : HO} : Exd D0 R H R (L2.upd H D0 o) := ⟨⟨[], by simp⟩, rfl, fun a u _ n h => by rw [upd_ne n]; exact h, fun a h n => absurd h n⟩
theorem MoOk.exd {D0 : Addr} (hD : D0 ∈ R) {a : Addr} {o : MO} (e : Exd D0 R H R' H') (hs : H' a = H a) (h : MoOk K mg H R a o) : MoOk K mg H' R' a o := by
  cases o with
  | lst ds => obtain ⟨vs, h1, h2, h3⟩ := h; exact ⟨vs, hs.trans h1, h2, h3.exd hD e⟩
  | dct kvs => obtain ⟨kv, h1, h2, h3, h4⟩ := h; exact ⟨kv, hs.trans h1, h2, h3, h4.exd hD e⟩
  | ins c fs => obtain ⟨C, dx, fv, h1, h2, h3, h4⟩ := h; exact ⟨C, dx, fv, hs.trans h1, h2, h3, h4.exd hD e⟩
theorem Sto.setz {D0 : Addr} {o : HO} (s : Sto K mg μ H R) (hz : D0 ∈ R.z) : Sto K mg μ (L2.upd H D0 o) R :=
  ⟨s.nd, s.len, fun n a m h1 h2 => (s.obj n a m h1 h2).exd (.inr hz) Exd.setz (upd_ne fun z => (s.prv D0 hz).2 (z ▸ List.mem_of_getElem? h1)), fun b hb => by
    obtain ⟨⟨u, hu⟩, nn⟩ := s.prv b hb
    refine ⟨?_, nn⟩
    by_cases e : b = D0
    · exact ⟨o, by rw [e, upd_same]⟩
    · exact ⟨u, by rw [upd_ne e]; exact hu⟩⟩
/-- all in all, when the list is made -/
theorem Ex2.made {D0 : Addr} {o : HO} (h0 : H D0 = none) (e : Exd D0 (R.priv D0) (L2.upd H D0 o) (R'.priv D0) H') : Ex2 R H R' H' :=
  ⟨e.pre, by have := e.prz; simp only [Rg.priv, List.cons.injEq, true_and] at this; exact this, fun a u na h => e.keep a u na (ne_of_none h h0) (by rw [upd_ne (ne_of_none h h0)]; exact h), fun a ha na => by
    by_cases hz : a = D0
    · subst hz; exact h0
    · have := e.new a ha na
      rw [upd_ne hz] at this; exact this⟩
end

structure Base where
  R : Rg
  H : Hp
structure Rp (K : PySem.W.Frag) (mg : Str → Option Value) (B : Base) (ρ : Ro) (μ : Mu) (σ : St) (H : Hp) (R : Rg) : Prop where
  sto : Sto K mg μ H R
  len : ρ.length = σ.length
  loc : ∀ (i : Nat) (d : D), ρ[i]? = some (some d) → ∃ v, σ[i]? = some (some v) ∧ DV K mg H R v d
  ext : Ex2 B.R B.H R H
section
variable {K : PySem.W.Frag} {mg : Str → Option Value} {B : Base} {ρ : Ro} {σ : St} {H H' : Hp} {R R' : Rg} {μ μ' : Mu}
theorem Rp.go (r : Rp K mg B ρ μ σ H R) (e : Ex2 R H R' H') (s : Sto K mg μ' H' R') : Rp K mg B ρ μ' σ H' R' :=
  ⟨s, r.len, fun i d h => let ⟨v, q, k⟩ := r.loc i d h; ⟨v, q, k.ext e⟩, r.ext.trans e⟩
/-- a new base -/
theorem Rp.god {D0 : Addr} (hD : D0 ∈ R) (r : Rp K mg B ρ μ σ H R) (e : Exd D0 R H R' H') (s : Sto K mg μ' H' R') : Rp K mg ⟨R', H'⟩ ρ μ' σ H' R' :=
  ⟨s, r.len, fun i d h => let ⟨v, q, k⟩ := r.loc i d h; ⟨v, q, k.exd hD e⟩, Ex2.refl⟩
theorem Rp.set {i : Nat} {v : V} {d : D} (r : Rp K mg B ρ μ σ H R) (h : DV K mg H R v d) : Rp K mg B (ρ.set i (some d)) μ (σ.set i (some v)) H R :=
  ⟨r.sto, by simp [r.len], fun j e hj => by
    by_cases hi : i = j
    · subst hi
      have hl : i < ρ.length := by
        have := (List.getElem?_eq_some_iff.mp hj).1
        simpa using this
      rw [List.getElem?_set_self hl] at hj
      cases hj
      exact ⟨v, by rw [List.getElem?_set_self (by rw [← r.len]; exact hl)], h⟩
    · rw [List.getElem?_set_ne hi] at hj
      rw [List.getElem?_set_ne hi]
      exact r.loc j e hj, r.ext⟩
theorem wipe_length (ρ : Ro) : ∀ vs : List Nat, (wipe ρ vs).length = ρ.length
  | [] => rfl
  | v :: vs => by unfold wipe; rw [List.length_set, wipe_length ρ vs]
theorem wipe_some {ρ : Ro} {i : Nat} {x : D} : ∀ {vs : List Nat}, (wipe ρ vs)[i]? = some (some x) → ρ[i]? = some (some x) ∧ i ∉ vs
  | [], h => ⟨h, by simp⟩
  | v :: vs, h => by
    unfold wipe at h
    by_cases hi : v = i
    · subst hi
      by_cases hv : v < (wipe ρ vs).length
      · rw [List.getElem?_set_self hv] at h; cases h
      · rw [List.getElem?_eq_none (by simpa using hv)] at h; cases h
    · rw [List.getElem?_set_ne hi] at h
      obtain ⟨h1, h2⟩ := wipe_some h
      exact ⟨h1, by simp only [List.mem_cons, not_or]; exact ⟨fun e => hi e.symm, h2⟩⟩
theorem Rp.wipe (r : Rp K mg B ρ μ σ H R) (vs : List Nat) : Rp K mg B (VL.wipe ρ vs) μ (L2.wipe σ vs) H R :=
  ⟨r.sto, by rw [wipe_length, L2.wipe_length]; exact r.len, fun i d h => by
    obtain ⟨h1, h2⟩ := wipe_some h
    obtain ⟨v, q, k⟩ := r.loc i d h1
    exact ⟨v, by rw [L2.wipe_out h2]; exact q, k⟩, r.ext⟩
end
end VL
end
section
set_option linter.all false
set_option maxRecDepth 100000
set_option maxHeartbeats 2000000
namespace VL
open PySem L2

/-- an outcome -/
def Ou {α : Type} (r : Option (Rs α)) (P : α → Mu → Prop) (E : Ex → Mu → Prop) : Prop :=
  match r with
  | some (.ok a μ) => P a μ
  | some (.er e μ) => E e μ
  | none => False
theorem Ou.mono {α : Type} {r : Option (Rs α)} {P P' : α → Mu → Prop} {E : Ex → Mu → Prop} (h : Ou r P E) (k : ∀ a μ, P a μ → P' a μ) : Ou r P' E := by
  cases r with
  | none => exact h
  | some x => cases x with
    | ok a μ => exact k a μ h
    | er e μ => exact h
theorem Ou.bd {α β : Type} {r : Option (Rs α)} {k : α → Mu → Option (Rs β)} {P : β → Mu → Prop} {E : Ex → Mu → Prop} (h : Ou (VL.bd r k) P E) : Ou r (fun a μ => Ou (k a μ) P E) E := by
  cases r with
  | none => exact h
  | some x => cases x with
    | ok a μ => exact h
    | er e μ => exact h
theorem Ou.lift {α : Type} {r : Option (α × Mu)} {P : α → Mu → Prop} {E : Ex → Mu → Prop} (h : Ou (VL.lift r) P E) : ∃ a μ, r = some (a, μ) ∧ P a μ := by
  cases r with
  | none => exact h.elim
  | some x => exact ⟨x.1, x.2, rfl, h⟩

section
variable (K : PySem.W.Frag) (mg : Str → Option Value) (B : Base) (EP : Ro → Ex → Mu → Prop)
def Post (R : Rg) (H : Hp) (μ' : Mu) (d : D) (Q : VK) : Prop := ∀ v H' R', Ex2 R H R' H' → Sto K mg μ' H' R' → DV K mg H' R' v d → Q v H'
def PostT (R : Rg) (H : Hp) (μ' : Mu) (k : Bool) (Q : Bool → Hp → Prop) : Prop := ∀ H' R', Ex2 R H R' H' → Sto K mg μ' H' R' → Q k H'
def PostA (R : Rg) (H : Hp) (μ' : Mu) (ds : List D) (Q : List V → Hp → Prop) : Prop := ∀ vs H' R', Ex2 R H R' H' → Sto K mg μ' H' R' → DVs K mg H' R' vs ds → Q vs H'
def lE (t : VE) : TE := fun σ H Q => ∃ ρ μ R, Rp K mg B ρ μ σ H R ∧ Ou (t ρ μ) (fun d μ' => Post K mg R H μ' d Q) (EP ρ)
def lT (t : VT) : TT := fun σ H Q => ∃ ρ μ R, Rp K mg B ρ μ σ H R ∧ Ou (t ρ μ) (fun k μ' => PostT K mg R H μ' k Q) (EP ρ)
def lA (t : VA) : TA := fun σ H Q => ∃ ρ μ R, Rp K mg B ρ μ σ H R ∧ Ou (t ρ μ) (fun ds μ' => PostA K mg R H μ' ds Q) (EP ρ)
end
abbrev SE (X : Cx) (B : Base) (EP : Ro → Ex → Mu → Prop) (e : Expr) (t : VE) : Prop := PE X e (lE X.K X.mg B EP t)
abbrev ST (X : Cx) (B : Base) (EP : Ro → Ex → Mu → Prop) (e : Expr) (t : VT) : Prop := PT X e (lT X.K X.mg B EP t)
abbrev SA (X : Cx) (B : Base) (EP : Ro → Ex → Mu → Prop) (es : List Expr) (t : VA) : Prop := PA X es (lA X.K X.mg B EP t)

theorem _root_.L2.PE.weak {X : Cx} {e : Expr} {t t' : TE} (h : PE X e t) (w : ∀ σ H Q, t' σ H Q → t σ H Q) : PE X e t' := ⟨fun pins s σ H Q I q => h.run pins s σ H Q I (w σ H Q q)⟩
theorem _root_.L2.PT.weak {X : Cx} {e : Expr} {t t' : TT} (h : PT X e t) (w : ∀ σ H Q, t' σ H Q → t σ H Q) : PT X e t' := ⟨fun pins s σ H Q I q => h.run pins s σ H Q I (w σ H Q q)⟩
theorem _root_.L2.PW.weak {X : Cx} {e : Expr} {t t' : TT} (h : PW X e t) (w : ∀ σ H Q, t' σ H Q → t σ H Q) : PW X e t' := ⟨fun wh pins s σ H Q I q => h.run wh pins s σ H Q I (w σ H Q q)⟩
theorem _root_.L2.PA.weak {X : Cx} {e : List Expr} {t t' : TA} (h : PA X e t) (w : ∀ σ H Q, t' σ H Q → t σ H Q) : PA X e t' := ⟨fun pos pins s σ H Q I q => h.run pos pins s σ H Q I (w σ H Q q)⟩
theorem _root_.L2.PS.weak {X : Cx} {e : Stmt} {t t' : TS} (h : PS X e t) (w : ∀ D σ H, t' D σ H → t D σ H) : PS X e t' := ⟨fun pins s σ H D I q => h.run pins s σ H D I (w D σ H q)⟩
theorem _root_.L2.PSs.weak {X : Cx} {e : List Stmt} {t t' : TS} (h : PSs X e t) (w : ∀ D σ H, t' D σ H → t D σ H) : PSs X e t' := ⟨fun pins s σ H D I q => h.run pins s σ H D I (w D σ H q)⟩

section
variable {K : PySem.W.Frag} {mg : Str → Option Value} {R R' : Rg} {H H' : Hp} {μ μ' : Mu} {d : D} {Q : VK}
theorem Post.pre (h : Post K mg R H μ d Q) (e : Ex2 R H R' H') : Post K mg R' H' μ d Q := fun v H2 R2 e2 s2 d2 => h v H2 R2 (e.trans e2) s2 d2
theorem PostA.pre {ds : List D} {Q : List V → Hp → Prop} (h : PostA K mg R H μ ds Q) (e : Ex2 R H R' H') : PostA K mg R' H' μ ds Q := fun v H2 R2 e2 s2 d2 => h v H2 R2 (e.trans e2) s2 d2
theorem PostT.pre {k : Bool} {Q : Bool → Hp → Prop} (h : PostT K mg R H μ k Q) (e : Ex2 R H R' H') : PostT K mg R' H' μ k Q := fun H2 R2 e2 s2 => h H2 R2 (e.trans e2) s2
/-- a value that is at hand -/
theorem Post.now {v : V} (h : Post K mg R H μ d Q) (s : Sto K mg μ H R) (q : DV K mg H R v d) : Q v H := h v H R Ex2.refl s q
/-- a new frozen thing -/
theorem Post.new {p : Addr} {o : HO} {v : V} (h : Post K mg R H μ d Q) (s : Sto K mg μ H R) (n : H p = none) (q : DV K mg (L2.upd H p o) R v d) : Q v (L2.upd H p o) := h v _ R (Ex2.upd (s.fresh n) n) (s.upd n) q
end

/-- by values: a binary step's meaning -/
def OpV (K : PySem.W.Frag) (mg : Str → Option Value) (f : D → D → Mu → Option (D × Mu)) (r : R2) : Prop :=
  ∀ (R : Rg) (H : Hp) (μ : Mu) (x y : V) (d e z : D) (μ' : Mu) (Q : VK), Sto K mg μ H R → DV K mg H R x d → DV K mg H R y e → f d e μ = some (z, μ') → Post K mg R H μ' z Q → r x y H Q
def UnV (K : PySem.W.Frag) (mg : Str → Option Value) (f : D → Mu → Option (D × Mu)) (r : V → Hp → VK → Prop) : Prop :=
  ∀ (R : Rg) (H : Hp) (μ : Mu) (x : V) (d z : D) (μ' : Mu) (Q : VK), Sto K mg μ H R → DV K mg H R x d → f d μ = some (z, μ') → Post K mg R H μ' z Q → r x H Q
def CaV (K : PySem.W.Frag) (mg : Str → Option Value) (f : List D → Mu → Option (D × Mu)) (r : List V → Hp → VK → Prop) : Prop :=
  ∀ (R : Rg) (H : Hp) (μ : Mu) (xs : List V) (ds : List D) (z : D) (μ' : Mu) (Q : VK), Sto K mg μ H R → DVs K mg H R xs ds → f ds μ = some (z, μ') → Post K mg R H μ' z Q → r xs H Q

section
variable {X : Cx} {B : Base} {EP : Ro → Ex → Mu → Prop} {a b c e : Expr} {es : List Expr} {ta tb tc : VE} {pos : Pos}

theorem se_var {i : Nat} {x : Str} (hN : X.N[i]? = some x) (hv : Vis X.env.scope x) (hd : (x == ("__debug__" : Str)) = false) (hcd : (x == ("__classdict__" : Str)) = false) : SE X B EP (.Name x pos) (vVar i) :=
  (pe_var hN hv hd hcd).weak fun σ H Q ⟨ρ, μ, R, rp, h⟩ => by
    unfold vVar at h
    split at h
    · rename_i d hd
      obtain ⟨v, q, k⟩ := rp.loc i d hd
      exact ⟨v, q, Post.now h rp.sto k⟩
    · exact h.elim
theorem se_const {v : V} {d : D} (h : PE X e (tC v)) (hd : ∀ H R, DV X.K X.mg H R v d) : SE X B EP e (vC d) :=
  h.weak fun σ H Q ⟨ρ, μ, R, rp, h⟩ => Post.now h rp.sto (hd H R)
theorem se_op {op : Operator} {f : D → D → Mu → Option (D × Mu)} {r : R2} (ho : OpR X (binaryOp op) r) (hv : OpV X.K X.mg f r) (ha : SE X B EP a ta) (hb : SE X B EP b tb) : SE X B EP (.BinOp a op b pos) (vOp f ta tb) :=
  (pe_op ho ha hb).weak fun σ H Q ⟨ρ, μ, R, rp, h⟩ => ⟨ρ, μ, R, rp, (Ou.bd h).mono fun x μ1 h1 v1 H1 R1 e1 s1 d1 => ⟨ρ, μ1, R1, rp.go e1 s1, (Ou.bd h1).mono fun y μ2 h2 v2 H2 R2 e2 s2 d2 => by
    obtain ⟨z, μ', ez, q⟩ := h2.lift
    exact hv R2 H2 μ2 v1 v2 x y z μ' Q s2 (d1.ext e2) d2 ez (q.pre (e1.trans e2))⟩⟩
theorem se_cmp {op : CmpOp} {f : D → D → Mu → Option (D × Mu)} {r : R2} (ho : OpR X (compareOp op) r) (hv : OpV X.K X.mg f r) (ha : SE X B EP a ta) (hb : SE X B EP b tb) (hm : behindInMarks op b = false) : SE X B EP (.Compare a [op] [b] pos) (vOp f ta tb) :=
  (pe_cmpR ho ha hb hm).weak fun σ H Q ⟨ρ, μ, R, rp, h⟩ => ⟨ρ, μ, R, rp, (Ou.bd h).mono fun x μ1 h1 v1 H1 R1 e1 s1 d1 => ⟨ρ, μ1, R1, rp.go e1 s1, (Ou.bd h1).mono fun y μ2 h2 v2 H2 R2 e2 s2 d2 => by
    obtain ⟨z, μ', ez, q⟩ := h2.lift
    exact hv R2 H2 μ2 v1 v2 x y z μ' Q s2 (d1.ext e2) d2 ez (q.pre (e1.trans e2))⟩⟩
theorem se_un {op : UnaryOp} {f : D → Mu → Option (D × Mu)} {r : V → Hp → VK → Prop} (ho : UnR X (unaryOp op) r) (hv : UnV X.K X.mg f r) (ha : SE X B EP a ta) : SE X B EP (.UnaryOp op a pos) (vUn f ta) :=
  (pe_un ho ha).weak fun σ H Q ⟨ρ, μ, R, rp, h⟩ => ⟨ρ, μ, R, rp, (Ou.bd h).mono fun x μ1 h1 v1 H1 R1 e1 s1 d1 => by
    obtain ⟨z, μ', ez, q⟩ := h1.lift
    exact hv R1 H1 μ1 v1 x z μ' Q s1 d1 ez (q.pre e1)⟩
theorem st_cmp {op : CmpOp} {f : D → D → Mu → Option (D × Mu)} {r : R2} (ho : OpR X (compareOp op) r) (hv : OpV X.K X.mg f r) (ha : SE X B EP a ta) (hb : SE X B EP b tb) (hm : behindInMarks op b = false) : ST X B EP (.Compare a [op] [b] pos) (tVal (vOp f ta tb)) :=
  (pt_cmpR ho ha hb hm).weak fun σ H Q ⟨ρ, μ, R, rp, h⟩ => ⟨ρ, μ, R, rp, (Ou.bd (Ou.bd h)).mono fun x μ1 h1 v1 H1 R1 e1 s1 d1 => ⟨ρ, μ1, R1, rp.go e1 s1, (Ou.bd h1).mono fun y μ2 h2 v2 H2 R2 e2 s2 d2 => by
    obtain ⟨z, μ', ez, q⟩ := h2.lift
    cases z <;> first | exact q.elim | skip
    rename_i k
    refine hv R2 H2 μ2 v1 v2 x y _ μ' _ s2 (d1.ext e2) d2 ez fun v H3 R3 e3 s3 d3 => ?_
    cases d3
    exact ⟨k, rfl, q H3 R3 ((e1.trans e2).trans e3) s3⟩⟩⟩
theorem Ou.bd2 {α β γ : Type} {r : Option (Rs α)} {k : α → Mu → Option (Rs β)} {l : β → Mu → Option (Rs γ)} {P : γ → Mu → Prop} {E : Ex → Mu → Prop} (h : Ou (VL.bd (VL.bd r k) l) P E) : Ou r (fun a μ => Ou (VL.bd (k a μ) l) P E) E := by
  cases r with
  | none => exact h
  | some x => cases x with
    | ok a μ => exact h
    | er e μ => exact h
theorem chain_weak {K : PySem.W.Frag} {mg : Str → Option Value} {f g : D → D → Mu → Option (D × Mu)} {r r' : R2} (hv : OpV K mg f r) (hv' : OpV K mg g r') : ∀ σ H Q, lE K mg B EP (vChain f g ta tb tc) σ H Q → tChain r r' (lE K mg B EP ta) (lE K mg B EP tb) (lE K mg B EP tc) σ H Q :=
  fun σ H Q ⟨ρ, μ, R, rp, h⟩ => ⟨ρ, μ, R, rp, (Ou.bd h).mono fun x μ1 h1 v1 H1 R1 e1 s1 d1 => ⟨ρ, μ1, R1, rp.go e1 s1, (Ou.bd h1).mono fun y μ2 h2 v2 H2 R2 e2 s2 d2 => by
    obtain ⟨z, μ', ez, q⟩ := (Ou.bd h2).lift
    refine hv R2 H2 μ2 v1 v2 x y _ μ' _ s2 (d1.ext e2) d2 ez fun v H3 R3 e3 s3 d3 => ?_
    cases z <;> first | exact q.elim | skip
    rename_i k
    cases d3
    refine ⟨k, rfl, ?_⟩
    cases k with
    | false => exact Post.now (q.pre ((e1.trans e2).trans e3)) s3 (.bl false)
    | true => exact ⟨ρ, μ', R3, rp.go ((e1.trans e2).trans e3) s3, (Ou.bd q).mono fun w μ4 h4 v4 H4 R4 e4 s4 d4 => by
        obtain ⟨z2, μ5, ez2, q2⟩ := h4.lift
        exact hv' R4 H4 μ4 v2 v4 y w z2 μ5 Q s4 (d2.ext (e3.trans e4)) d4 ez2 (q2.pre (((e1.trans e2).trans e3).trans e4))⟩⟩⟩
theorem se_chain {op op' : CmpOp} {f g : D → D → Mu → Option (D × Mu)} {r r' : R2} (ho : OpR X (compareOp op) r) (hv : OpV X.K X.mg f r) (ho' : OpR X (compareOp op') r') (hv' : OpV X.K X.mg g r') (ha : SE X B EP a ta) (hb : SE X B EP b tb) (hc : SE X B EP c tc)
    (hl : lastMarks [op, op'] [b, c] = false) (h : PE X (.Compare a [op, op'] [b, c] pos) (tChain r r' (lE X.K X.mg B EP ta) (lE X.K X.mg B EP tb) (lE X.K X.mg B EP tc))) : SE X B EP (.Compare a [op, op'] [b, c] pos) (vChain f g ta tb tc) :=
  h.weak (chain_weak hv hv')
theorem se_if {tC : VT} (hc : ST X B EP c tC) (ha : SE X B EP a ta) (hb : SE X B EP b tb) : SE X B EP (.IfExp c a b pos) (vIf tC ta tb) :=
  (pe_ifExp hc ha hb).weak fun σ H Q ⟨ρ, μ, R, rp, h⟩ => ⟨ρ, μ, R, rp, (Ou.bd h).mono fun k μ1 h1 H1 R1 e1 s1 => by
    cases k with
    | true => exact ⟨ρ, μ1, R1, rp.go e1 s1, Ou.mono h1 fun d μ2 q => q.pre e1⟩
    | false => exact ⟨ρ, μ1, R1, rp.go e1 s1, Ou.mono h1 fun d μ2 q => q.pre e1⟩⟩
theorem tru_V {K : PySem.W.Frag} {mg : Str → Option Value} {H : Hp} {R : Rg} {μ : Mu} {x : V} {d : D} {k : Bool} (s : Sto K mg μ H R) (h : DV K mg H R x d) (e : tru μ d = some k) : TruV K x H k := by
  cases h with
  | non => cases e; rfl
  | bl b => cases e; rfl
  | int i => cases e; rfl
  | str s => cases e
  | ty n => cases e
  | tup h z r =>
    cases e
    refine .inr (.inl ⟨_, h.sq, ?_⟩)
    have := r.length
    rename_i xs ds
    cases xs <;> cases ds <;> simp_all
  | lst h z r =>
    cases e
    refine .inl ⟨_, h.sq, ?_⟩
    have := r.length
    rename_i xs ds
    cases xs <;> cases ds <;> simp_all
  | scr h z r => cases e
  | obj => cases e
  | glob => cases e
  | ref h =>
    rename_i n a
    simp only [tru] at e
    split at e
    · rename_i xs hm
      cases e
      obtain ⟨a', ha', vs, h1, h2, h3⟩ := s.at hm
      rw [h] at ha'; cases ha'
      refine .inl ⟨vs, .inl (.inl h1), ?_⟩
      have := h3.length
      cases vs <;> cases xs <;> simp_all
    · cases e
theorem se_and {rest : List Expr} (ha : SE X B EP a ta) (hb : SE X B EP (.BoolOp .And (b :: rest) pos) tb) : SE X B EP (.BoolOp .And (a :: b :: rest) pos) (vAnd ta tb) :=
  (pe_andT ha hb).weak fun σ H Q ⟨ρ, μ, R, rp, h⟩ => ⟨ρ, μ, R, rp, (Ou.bd h).mono fun x μ1 h1 v1 H1 R1 e1 s1 d1 => by
    split at h1
    · rename_i hk
      exact ⟨true, tru_V s1 d1 hk, ρ, μ1, R1, rp.go e1 s1, Ou.mono h1 fun d μ2 q => q.pre e1⟩
    · rename_i hk
      exact ⟨false, tru_V s1 d1 hk, Post.now (Post.pre (show Post _ _ _ _ _ _ _ from h1) e1) s1 d1⟩
    · exact h1.elim⟩
theorem se_or {rest : List Expr} (ha : SE X B EP a ta) (hb : SE X B EP (.BoolOp .Or (b :: rest) pos) tb) : SE X B EP (.BoolOp .Or (a :: b :: rest) pos) (vOr ta tb) :=
  (pe_orT ha hb).weak fun σ H Q ⟨ρ, μ, R, rp, h⟩ => ⟨ρ, μ, R, rp, (Ou.bd h).mono fun x μ1 h1 v1 H1 R1 e1 s1 d1 => by
    split at h1
    · rename_i hk
      exact ⟨true, tru_V s1 d1 hk, Post.now (Post.pre (show Post _ _ _ _ _ _ _ from h1) e1) s1 d1⟩
    · rename_i hk
      exact ⟨false, tru_V s1 d1 hk, ρ, μ1, R1, rp.go e1 s1, Ou.mono h1 fun d μ2 q => q.pre e1⟩
    · exact h1.elim⟩
theorem se_one {op : BoolOp} (h : PE X (.BoolOp op [a] pos) (lE X.K X.mg B EP ta)) : SE X B EP (.BoolOp op [a] pos) ta := h
theorem se_not (ha : SE X B EP a ta) : SE X B EP (.UnaryOp .Not a pos) (vNot ta) :=
  (pe_notT ha).weak fun σ H Q ⟨ρ, μ, R, rp, h⟩ => ⟨ρ, μ, R, rp, (Ou.bd h).mono fun x μ1 h1 v1 H1 R1 e1 s1 d1 => by
    split at h1
    · rename_i k hk
      exact ⟨k, tru_V s1 d1 hk, Post.now (Post.pre (show Post _ _ _ _ _ _ _ from h1) e1) s1 (.bl _)⟩
    · exact h1.elim⟩

theorem st_tru (ha : SE X B EP a ta) (he : ∀ whole, isTrue a X.env whole = (do let v ← whole; standAt a.pos; holding [v] (truthy v))) : ST X B EP a (tTru ta) :=
  (pt_truth ha he).weak fun σ H Q ⟨ρ, μ, R, rp, h⟩ => ⟨ρ, μ, R, rp, (Ou.bd h).mono fun x μ1 h1 v1 H1 R1 e1 s1 d1 => by
    split at h1
    · rename_i k hk
      exact ⟨k, tru_V s1 d1 hk, (show PostT _ _ _ _ _ _ _ from h1) H1 R1 e1 s1⟩
    · exact h1.elim⟩
abbrev SW (X : Cx) (B : Base) (EP : Ro → Ex → Mu → Prop) (e : Expr) (t : VT) : Prop := PW X e (lT X.K X.mg B EP t)
variable {tA tB : VT} {rest : List Expr}
theorem sw_and1 (ha : ST X B EP a tA) : SW X B EP (.BoolOp .And [a] pos) tA := pw_and1 ha
theorem sw_or1 (ha : ST X B EP a tA) : SW X B EP (.BoolOp .Or [a] pos) tA := pw_or1 ha
theorem sw_and (ha : ST X B EP a tA) (hb : SW X B EP (.BoolOp .And (b :: rest) pos) tB) : SW X B EP (.BoolOp .And (a :: b :: rest) pos) (tAnd tA tB) :=
  (pw_and ha hb).weak fun σ H Q ⟨ρ, μ, R, rp, h⟩ => ⟨ρ, μ, R, rp, (Ou.bd h).mono fun k μ1 h1 H1 R1 e1 s1 => by
    cases k with
    | true => exact ⟨ρ, μ1, R1, rp.go e1 s1, Ou.mono h1 fun d μ2 q => q.pre e1⟩
    | false => exact (show PostT _ _ _ _ _ _ _ from h1) H1 R1 e1 s1⟩
theorem sw_or (ha : ST X B EP a tA) (hb : SW X B EP (.BoolOp .Or (b :: rest) pos) tB) : SW X B EP (.BoolOp .Or (a :: b :: rest) pos) (tOr tA tB) :=
  (pw_or ha hb).weak fun σ H Q ⟨ρ, μ, R, rp, h⟩ => ⟨ρ, μ, R, rp, (Ou.bd h).mono fun k μ1 h1 H1 R1 e1 s1 => by
    cases k with
    | true => exact (show PostT _ _ _ _ _ _ _ from h1) H1 R1 e1 s1
    | false => exact ⟨ρ, μ1, R1, rp.go e1 s1, Ou.mono h1 fun d μ2 q => q.pre e1⟩⟩
theorem st_not (ha : ST X B EP a tA) : ST X B EP (.UnaryOp .Not a pos) (tNot tA) :=
  (pt_not ha).weak fun σ H Q ⟨ρ, μ, R, rp, h⟩ => ⟨ρ, μ, R, rp, (Ou.bd h).mono fun k μ1 h1 H1 R1 e1 s1 => (show PostT _ _ _ _ _ _ _ from h1) H1 R1 e1 s1⟩
/-- a comparison's value, of any form, as a test -/
theorem st_val (h : PT X a (L2.tB (lE X.K X.mg B EP ta))) : ST X B EP a (tVal ta) :=
  h.weak fun σ H Q ⟨ρ, μ, R, rp, h⟩ => ⟨ρ, μ, R, rp, (Ou.bd h).mono fun x μ1 h1 v1 H1 R1 e1 s1 d1 => by
    cases x <;> first | exact h1.elim | skip
    rename_i k
    cases d1
    exact ⟨k, rfl, (show PostT _ _ _ _ _ _ _ from h1) H1 R1 e1 s1⟩⟩

variable {tr : VA}
theorem sa_nil : SA X B EP [] aNil := pa_nil.weak fun σ H Q ⟨ρ, μ, R, rp, h⟩ => (show PostA _ _ _ _ _ _ _ from h) [] H R Ex2.refl rp.sto .nil
theorem sa_cons (ha : SE X B EP a ta) (hr : SA X B EP es tr) (hs : starEach (a :: es) X.env = (false, eval a X.env) :: starEach es X.env) : SA X B EP (a :: es) (aCons ta tr) :=
  (pa_cons ha hr hs).weak fun σ H Q ⟨ρ, μ, R, rp, h⟩ => ⟨ρ, μ, R, rp, (Ou.bd h).mono fun x μ1 h1 v1 H1 R1 e1 s1 d1 => ⟨ρ, μ1, R1, rp.go e1 s1, (Ou.bd h1).mono fun xs μ2 h2 vs H2 R2 e2 s2 d2 =>
    (show PostA _ _ _ _ _ _ _ from h2) (v1 :: vs) H2 R2 (e1.trans e2) s2 (.cons (d1.ext e2) d2)⟩⟩
theorem se_tup {x1 : Nat} (h : SA X B EP es tr) (hz : es.length ≤ 1000) (hl : ∀ ρ μ ds μ', tr ρ μ = some (.ok ds μ') → ds.length = es.length) : SE X B EP (.Tuple es x1 pos) (vTup tr) :=
  (pe_tup h).weak fun σ H Q ⟨ρ, μ, R, rp, h⟩ => ⟨ρ, μ, R, rp, by
    have h' := Ou.bd h
    cases e : tr ρ μ with
    | none => rw [e] at h'; exact h'.elim
    | some q =>
      rw [e] at h'
      cases q with
      | er x m => exact h'
      | ok ds μ1 =>
        have hl := hl ρ μ ds μ1 e
        intro vs H1 R1 e1 s1 d1
        have hv : vs.length ≤ sizeLine := by rw [d1.length, hl, sizeLine_eq]; omega
        refine ⟨hv, fun p hp => ?_⟩
        exact Post.new (Post.pre (show Post _ _ _ _ _ _ _ from h') e1) s1 hp (.tup (.inl ⟨s1.fresh hp, upd_same⟩) hv (d1.ext (Ex2.upd (s1.fresh hp) hp)))⟩
theorem se_lst (h : SA X B EP es tr) (hz : es.length ≤ 1000) (hl : ∀ ρ μ ds μ', tr ρ μ = some (.ok ds μ') → ds.length = es.length) : SE X B EP (.List es pos) (vLst tr) :=
  (pe_lst h).weak fun σ H Q ⟨ρ, μ, R, rp, h⟩ => ⟨ρ, μ, R, rp, by
    have h' := Ou.bd h
    cases e : tr ρ μ with
    | none => rw [e] at h'; exact h'.elim
    | some q =>
      rw [e] at h'
      cases q with
      | er x m => exact h'
      | ok ds μ1 =>
        have hl := hl ρ μ ds μ1 e
        intro vs H1 R1 e1 s1 d1
        have hv : vs.length ≤ sizeLine := by rw [d1.length, hl, sizeLine_eq]; omega
        refine ⟨hv, fun p hp => ?_⟩
        exact Post.new (Post.pre (show Post _ _ _ _ _ _ _ from h') e1) s1 hp (.lst ⟨s1.fresh hp, upd_same⟩ hv (d1.ext (Ex2.upd (s1.fresh hp) hp)))⟩
/-- a built-in function, a built-in class, by values -/
theorem se_blt {x : Str} {p : Pos} {id : String} {f : List D → Mu → Option (D × Mu)} {r : List V → Hp → VK → Prop} (hc : CallR X (.builtin id) r) (hv : CaV X.K X.mg f r) (hg : Gl X x) (hm : X.mg x = none) (hb : bootBuiltins x = some (.builtin id)) (ha : SA X B EP (e :: es) tr)
    (hn : x ≠ "__name__") (hdb : (x == ("__debug__" : Str)) = false) (he : starEach (e :: es) X.env = (false, eval e X.env) :: starEach es X.env) (hpl : (backTo pos (starEach es X.env)).any (·.1) = false) : SE X B EP (.Call (.Name x p) (e :: es) [] pos) (vBlt f tr) :=
  (pe_callB hc hg hm hb ha hn hdb he hpl).weak fun σ H Q ⟨ρ, μ, R, rp, h⟩ => ⟨ρ, μ, R, rp, (Ou.bd h).mono fun xs μ1 h1 vs H1 R1 e1 s1 d1 => by
    obtain ⟨z, μ', ez, q⟩ := h1.lift
    exact hv R1 H1 μ1 vs xs z μ' Q s1 d1 ez (q.pre e1)⟩
theorem se_bty {x : Str} {p : Pos} {T : String} {f : List D → Mu → Option (D × Mu)} {r : List V → Hp → VK → Prop} (hc : CallR X (.type T) r) (hv : CaV X.K X.mg f r) (hg : Gl X x) (hm : X.mg x = none) (hb : bootBuiltins x = some (.type T)) (ha : SA X B EP (e :: es) tr)
    (hn : x ≠ "__name__") (hdb : (x == ("__debug__" : Str)) = false) (he : starEach (e :: es) X.env = (false, eval e X.env) :: starEach es X.env) (hpl : (backTo pos (starEach es X.env)).any (·.1) = false) : SE X B EP (.Call (.Name x p) (e :: es) [] pos) (vBlt f tr) :=
  (pe_callTy hc hg hm hb ha hn hdb he hpl).weak fun σ H Q ⟨ρ, μ, R, rp, h⟩ => ⟨ρ, μ, R, rp, (Ou.bd h).mono fun xs μ1 h1 vs H1 R1 e1 s1 d1 => by
    obtain ⟨z, μ', ez, q⟩ := h1.lift
    exact hv R1 H1 μ1 vs xs z μ' Q s1 d1 ez (q.pre e1)⟩
end
end VL
end
section
set_option linter.all false
set_option maxRecDepth 100000
set_option maxHeartbeats 2000000
namespace VL
open PySem L2

mutual
def D.plain : D → Bool
  | .non | .bl _ | .int _ => true
  | .str s => PyData.strOk s
  | .tup xs => plainAll xs
  | .lst xs => plainAll xs
  | _ => false
def plainAll : List D → Bool
  | [] => true
  | d :: ds => d.plain && plainAll ds
end
mutual
def D.dep : D → Nat
  | .tup xs => depAll xs + 1
  | .lst xs => depAll xs + 1
  | _ => 0
def depAll : List D → Nat
  | [] => 0
  | d :: ds => max d.dep (depAll ds)
end
mutual
def eqD : D → D → Bool
  | .non, .non => true
  | .bl a, .bl b => a == b
  | .bl a, .int j => (if a then 1 else 0) == j
  | .int i, .bl b => i == (if b then 1 else 0)
  | .int i, .int j => i == j
  | .str x, .str y => x == y
  | .lst xs, .lst ys => eqAll xs ys
  | .tup xs, .tup ys => eqAll xs ys
  | _, _ => false
def eqAll : List D → List D → Bool
  | [], [] => true
  | x :: xs, y :: ys => eqD x y && eqAll xs ys
  | _, _ => false
end
mutual
def toPy : D → PyData
  | .non => .none
  | .bl b => .bool b
  | .int i => .int i
  | .str s => .str s
  | .tup xs => .tuple (toPyAll xs)
  | .lst xs => .list (toPyAll xs)
  | _ => .none
def toPyAll : List D → List PyData
  | [] => []
  | d :: ds => toPy d :: toPyAll ds
end
mutual
theorem toPy_lay : ∀ d : D, d.plain = true → (toPy d).canLay0 = true
  | .non, _ => rfl
  | .bl _, _ => rfl
  | .int _, _ => rfl
  | .str s, h => by simpa [D.plain, toPy, PyData.canLay0] using h
  | .tup xs, h => by simpa [toPy, PyData.canLay0] using toPy_layAll xs (by simpa [D.plain] using h)
  | .lst xs, h => by simpa [toPy, PyData.canLay0] using toPy_layAll xs (by simpa [D.plain] using h)
  | .scr _, h => by simp [D.plain] at h
  | .obj _ _, h => by simp [D.plain] at h
  | .ref _, h => by simp [D.plain] at h
  | .glob _, h => by simp [D.plain] at h
  | .ty _, h => by simp [D.plain] at h
theorem toPy_layAll : ∀ ds : List D, plainAll ds = true → PyData.canLayAll0 (toPyAll ds) = true
  | [], _ => rfl
  | d :: ds, h => by
    simp only [plainAll, Bool.and_eq_true] at h
    simp only [toPyAll, PyData.canLayAll0, Bool.and_eq_true]
    exact ⟨toPy_lay d h.1, toPy_layAll ds h.2⟩
end
mutual
theorem toPy_dep : ∀ d : D, (toPy d).depth = d.dep
  | .non => rfl
  | .bl _ => rfl
  | .int _ => rfl
  | .str s => rfl
  | .tup xs => by simp only [toPy, PyData.depth, D.dep, toPy_depAll xs]
  | .lst xs => by simp only [toPy, PyData.depth, D.dep, toPy_depAll xs]
  | .scr _ => rfl
  | .obj _ _ => rfl
  | .ref _ => rfl
  | .glob _ => rfl
  | .ty _ => rfl
theorem toPy_depAll : ∀ ds : List D, PyData.depthAll (toPyAll ds) = depAll ds
  | [] => rfl
  | d :: ds => by simp only [toPyAll, PyData.depthAll, depAll, toPy_dep d, toPy_depAll ds]
end
mutual
theorem toPy_eq : ∀ d e : D, d.plain = true → e.plain = true → PyData.eqv (toPy d) (toPy e) = eqD d e
  | .tup xs, .tup ys, h, k => by simp only [toPy, PyData.eqv, eqD]; exact toPy_eqAll xs ys (by simpa [D.plain] using h) (by simpa [D.plain] using k)
  | .lst xs, .lst ys, h, k => by simp only [toPy, PyData.eqv, eqD]; exact toPy_eqAll xs ys (by simpa [D.plain] using h) (by simpa [D.plain] using k)
  | .non, e, _, k => by cases e <;> simp_all [toPy, PyData.eqv, eqD, D.plain]
  | .bl b, e, _, k => by cases e <;> simp_all [toPy, PyData.eqv, eqD, D.plain]
  | .int i, e, _, k => by cases e <;> simp_all [toPy, PyData.eqv, eqD, D.plain]
  | .str s, e, _, k => by cases e <;> simp_all [toPy, PyData.eqv, eqD, D.plain]
  | .tup xs, .non, _, _ => by simp [toPy, PyData.eqv, eqD]
  | .tup xs, .bl _, _, _ => by simp [toPy, PyData.eqv, eqD]
  | .tup xs, .int _, _, _ => by simp [toPy, PyData.eqv, eqD]
  | .tup xs, .str _, _, _ => by simp [toPy, PyData.eqv, eqD]
  | .tup xs, .lst _, _, _ => by simp [toPy, PyData.eqv, eqD]
  | .lst xs, .non, _, _ => by simp [toPy, PyData.eqv, eqD]
  | .lst xs, .bl _, _, _ => by simp [toPy, PyData.eqv, eqD]
  | .lst xs, .int _, _, _ => by simp [toPy, PyData.eqv, eqD]
  | .lst xs, .str _, _, _ => by simp [toPy, PyData.eqv, eqD]
  | .lst xs, .tup _, _, _ => by simp [toPy, PyData.eqv, eqD]
  | _, .ty _, _, k => by simp [D.plain] at k
  | _, .scr _, _, k => by simp [D.plain] at k
  | _, .obj _ _, _, k => by simp [D.plain] at k
  | _, .ref _, _, k => by simp [D.plain] at k
  | _, .glob _, _, k => by simp [D.plain] at k
  | .ty _, _, h, _ => by simp [D.plain] at h
  | .scr _, _, h, _ => by simp [D.plain] at h
  | .obj _ _, _, h, _ => by simp [D.plain] at h
  | .ref _, _, h, _ => by simp [D.plain] at h
  | .glob _, _, h, _ => by simp [D.plain] at h
theorem toPy_eqAll : ∀ ds es : List D, plainAll ds = true → plainAll es = true → PyData.eqvAll (toPyAll ds) (toPyAll es) = eqAll ds es
  | [], [], _, _ => rfl
  | [], _ :: _, _, _ => rfl
  | _ :: _, [], _, _ => rfl
  | d :: ds, e :: es, h, k => by
    simp only [plainAll, Bool.and_eq_true] at h k
    simp only [toPyAll, PyData.eqvAll, eqAll, toPy_eq d e h.1 k.1, toPy_eqAll ds es h.2 k.2]
end
section
variable {K : PySem.W.Frag} {mg : Str → Option Value} {H : Hp} {R : Rg}
mutual
theorem DV.py : ∀ {v : V} {d : D}, d.plain = true → DV K mg H R v d → Dp K H v (toPy d)
  | _, _, _, .non => .non
  | _, _, _, .bl b => .bl b
  | _, _, _, .int i => .int i
  | _, _, _, .str s => .str s
  | _, _, h, .tup q _ r => by simp only [toPy]; exact .tup q.sq (DVs.py (by simpa [D.plain] using h) r)
  | _, _, h, .lst q _ r => by simp only [toPy]; exact .lst q.sq (DVs.py (by simpa [D.plain] using h) r)
  | _, _, h, .scr .. => by simp [D.plain] at h
  | _, _, h, .obj .. => by simp [D.plain] at h
  | _, _, h, .ref _ => by simp [D.plain] at h
  | _, _, h, .glob _ => by simp [D.plain] at h
  | _, _, h, .ty _ => by simp [D.plain] at h
theorem DVs.py : ∀ {vs : List V} {ds : List D}, plainAll ds = true → DVs K mg H R vs ds → DpAll K H vs (toPyAll ds)
  | _, _, _, .nil => .nil
  | _, _, h, .cons q r => by
    simp only [plainAll, Bool.and_eq_true] at h
    exact .cons (DV.py h.1 q) (DVs.py h.2 r)
end
end
/-- a live list as it stands -/
def res (μ : Mu) : D → D
  | .ref n => match μ[n]? with
    | some (.lst xs) => .lst xs
    | _ => .ref n
  | d => d
def cmpData (d e : D) (μ : Mu) : Option Bool :=
  if (res μ d).plain = true ∧ (res μ e).plain = true ∧ (res μ d).dep ≤ 60 ∧ (res μ e).dep ≤ 60 then some (eqD (res μ d) (res μ e)) else none
def opEq : D → D → Mu → Option (D × Mu) := fun d e μ => (cmpData d e μ).map fun k => (.bl k, μ)
def opNe : D → D → Mu → Option (D × Mu) := fun d e μ => (cmpData d e μ).map fun k => (.bl (!k), μ)
section
variable {K : PySem.W.Frag} {mg : Str → Option Value} {H : Hp} {R : Rg} {μ : Mu}
theorem res_py {v : V} {d : D} (s : Sto K mg μ H R) (h : DV K mg H R v d) (p : (res μ d).plain = true) : Dp K H v (toPy (res μ d)) := by
  cases h with
  | @ref n a ha =>
    cases hm : μ[n]? with
    | none => simp [res, hm, D.plain] at p
    | some o => cases o with
      | lst xs =>
        simp only [res, hm] at p ⊢
        obtain ⟨a', ha', vs, h1, h2, h3⟩ := s.at hm
        rw [ha] at ha'; cases ha'
        simp only [toPy]
        exact .lst (.inl (.inl h1)) (DVs.py (by simpa [D.plain] using p) h3)
      | dct kvs => simp [res, hm, D.plain] at p
      | ins c fs => simp [res, hm, D.plain] at p
  | non => exact .non
  | bl b => exact .bl b
  | int i => exact .int i
  | str s => exact .str s
  | ty n => simp [res, D.plain] at p
  | tup q z r => exact DV.py p (.tup q z r)
  | lst q z r => exact DV.py p (.lst q z r)
  | scr => simp [res, D.plain] at p
  | obj => simp [res, D.plain] at p
  | glob => simp [res, D.plain] at p
theorem res_shaped {d : D} (p : (res μ d).plain = true) (h : (res μ d).dep ≤ 60) : SeqAt.shaped (toPy (res μ d)) = true := by
  unfold SeqAt.shaped
  rw [toPy_lay _ p, toPy_dep]
  simp; omega
end
theorem opEq_V {K : PySem.W.Frag} {mg : Str → Option Value} : OpV K mg opEq (rEqD K) := by
  intro R H μ x y d e z μ' Q s hx hy hz q
  unfold opEq cmpData at hz
  split at hz
  · rename_i h
    simp only [Option.map_some, Option.some.injEq, Prod.mk.injEq] at hz
    obtain ⟨rfl, rfl⟩ := hz
    refine ⟨_, _, res_py s hx h.1, res_py s hy h.2.1, res_shaped h.1 h.2.2.1, res_shaped h.2.1 h.2.2.2, ?_⟩
    rw [toPy_eq _ _ h.1 h.2.1]
    exact q.now s (.bl _)
  · simp at hz
theorem opNe_V {K : PySem.W.Frag} {mg : Str → Option Value} : OpV K mg opNe (rNeD K) := by
  intro R H μ x y d e z μ' Q s hx hy hz q
  unfold opNe cmpData at hz
  split at hz
  · rename_i h
    simp only [Option.map_some, Option.some.injEq, Prod.mk.injEq] at hz
    obtain ⟨rfl, rfl⟩ := hz
    refine ⟨_, _, res_py s hx h.1, res_py s hy h.2.1, res_shaped h.1 h.2.2.1, res_shaped h.2.1 h.2.2.2, ?_⟩
    rw [toPy_eq _ _ h.1 h.2.1]
    exact q.now s (.bl _)
  · simp at hz
end VL
end
section
set_option linter.all false
set_option maxRecDepth 100000
set_option maxHeartbeats 2000000
namespace VL
open PySem L2

section
variable {X : Cx}
theorem RelV.bool_iff {x : V} {v : Value} (r : RelV x v) (b : Bool) : (v == Value.bool b) = decide (x = .bl b) := by
  cases x with
  | non => cases r; rfl
  | bl c => cases r; cases b <;> cases c <;> rfl
  | int _ => obtain ⟨t, rfl⟩ := r; rfl
  | str _ => obtain ⟨t, rfl⟩ := r; rfl
  | byt _ => obtain ⟨t, rfl⟩ := r; rfl
  | flt _ => obtain ⟨t, rfl⟩ := r; rfl
  | ref _ => cases r; rfl
  | ty _ => cases r; rfl
theorem plainIs_bool {x : V} {v : Value} (r : RelV x v) (b : Bool) : plainIs v (.bool b) = true := by
  cases x with
  | non => cases r; rfl
  | bl c => cases r; rfl
  | int _ => obtain ⟨t, rfl⟩ := r; rfl
  | str _ => obtain ⟨t, rfl⟩ := r; rfl
  | byt _ => obtain ⟨t, rfl⟩ := r; rfl
  | flt _ => obtain ⟨t, rfl⟩ := r; rfl
  | ref _ => cases r; rfl
  | ty _ => cases r; rfl
/-- x is None, x is True, x is False, of any x -/
def rIsC : R2 := fun x y H Q => (y = .non ∧ Q (.bl (decide (x = .non))) H) ∨ ∃ b, y = .bl b ∧ Q (.bl (decide (x = .bl b))) H
def rNotC : R2 := fun x y H Q => (y = .non ∧ Q (.bl (!decide (x = .non))) H) ∨ ∃ b, y = .bl b ∧ Q (.bl (!decide (x = .bl b))) H
theorem op_isC : OpR X (compareOp .Is) rIsC := by
  refine OpR.or op_isN ?_
  intro pins s σ H x y v u Q I rx ry h
  obtain ⟨b, rfl, q⟩ := h
  cases (show u = Value.bool b from ry)
  refine wpAny_is_plain (plainIs_bool rx b) ⟨.bl _, H, I, ?_, q⟩
  rw [RelV.bool_iff rx]; rfl
theorem op_notC : OpR X (compareOp .IsNot) rNotC := by
  refine OpR.or op_notN ?_
  intro pins s σ H x y v u Q I rx ry h
  obtain ⟨b, rfl, q⟩ := h
  cases (show u = Value.bool b from ry)
  refine wpAny_isNot_plain (plainIs_bool rx b) ⟨.bl _, H, I, ?_, q⟩
  rw [RelV.bool_iff rx]; rfl
/-- sum of a tuple of ints -/
def rSumT (K : PySem.W.Frag) : List V → Hp → VK → Prop := fun vs H Q => ∃ (a : Addr) (ns : List Int), vs = [V.ref a] ∧ SqT K H a (ns.map V.int) ∧ Q (.int ns.sum) H
theorem sumT_raw {prog : Program} {w : World} {A : Around} {E : Value → Shared → Prop} {s : Shared} {l : Addr} {its : List Value} {ns : List Int} {Q : Value → Shared → Prop} (hh : A.handled = none) (hl : s.heap.IsTuple l its.toArray) (hi : PyProof.Rows.IntsAre its ns)
    (h : ∀ h' tk t', (∀ b o, s.heap.get? b = some o → h'.get? b = some o) → Q (.int ns.sum t') { s with heap := h', toks := tk }) : wpAny (model prog w) A (call (.builtin "sum") [.ref l]) Q E s := by
  obtain ⟨xs, e⟩ := hi.allInts.items
  have hn : numsOf (intItems xs).toList = ns := by rw [← e]; exact hi.numsOf
  rw [nums_intItems] at hn
  rw [e] at hl
  have hlt : l < s.heap.objs.size := by obtain ⟨_, e, _⟩ := hl; exact Heap.lt_size e
  refine PySem.call_sum_walkG (wpAny_pyIter_tuple hl ?_)
  refine ⟨_, _, _, _, _, _, numAt xs, rfl, Walks.tuple (A := A.in1) hh _ l (Nat.ne_of_lt hlt) (intItems xs), ⟨⟨_, Heap.get?_push_size _ rfl, rfl, rfl⟩, ?_⟩, ?_, (fun _ _ => intItems_at), fun h' tk t' hk => ?_⟩
  · obtain ⟨o, e, r⟩ := hl
    exact ⟨o, Heap.get?_push_of_some _ e, r⟩
  · intro b hb
    show b < (s.heap.push _).objs.size
    rw [Heap.size_push]
    simp at hb
    rcases hb with rfl | rfl
    · exact Nat.lt_succ_self _
    · exact Nat.lt_succ_of_lt hlt
  · have := h h' tk t' fun b o q => hk b o (by simp; exact fun z => absurd (z ▸ Heap.lt_size q) (Nat.lt_irrefl _)) (Heap.get?_push_of_some _ q)
    have hs : (intItems xs).size = xs.size := by simp [intItems]
    rw [hs, preSum_eq, List.take_of_length_le (by simp), hn]; exact this
theorem cr_sumT (hc : X.calm = true) : CallR X (.builtin "sum") (rSumT X.K) := by
  intro pins s σ H vs us Q I r h
  obtain ⟨a, ns, rfl, hs, q⟩ := h
  obtain ⟨its, rv, hl, _⟩ := I.tuple hs
  rw [Vals.ref1 r]
  exact sumT_raw (I.ok.hd hc) (show s.heap.IsTuple a its.toArray from hl) rv.ints fun h' tk t' hk => ⟨.int _, H, I.kept hk, ⟨_, rfl⟩, q⟩
end

def opAdd : D → D → Mu → Option (D × Mu) := fun d e μ => match d, e with
  | .int i, .int j => some (.int (i + j), μ)
  | .tup xs, .tup ys => if xs.length + ys.length ≤ 16777216 then some (.tup (xs ++ ys), μ) else none
  | .lst xs, .lst ys => if xs.length + ys.length ≤ 16777216 then some (.lst (xs ++ ys), μ) else none
  | .str a, .str b => if a.length + b.length ≤ 16777216 then some (.str (a ++ b), μ) else none
  | d, e => match lstOf μ d, lstOf μ e with
    | some xs, some ys => if xs.length + ys.length ≤ 16777216 then some (.lst (xs ++ ys), μ) else none
    | _, _ => none
def opSub : D → D → Mu → Option (D × Mu) := fun d e μ => match d, e with
  | .int i, .int j => some (.int (i - j), μ)
  | _, _ => none
def opMod : D → D → Mu → Option (D × Mu) := fun d e μ => match d, e with
  | .int i, .int j => if j ≠ 0 then some (.int (i.fmod j), μ) else none
  | _, _ => none
def opDiv : D → D → Mu → Option (D × Mu) := fun d e μ => match d, e with
  | .int i, .int j => if j ≠ 0 ∧ j.natAbs < 1073741824 then some (.int (i.fdiv j), μ) else none
  | _, _ => none
def opPow : D → D → Mu → Option (D × Mu) := fun d e μ => match d, e with
  | .int i, .int j => if 0 ≤ j ∧ j ≤ 1000000 ∧ i.natAbs < 2 ^ 64 then some (.int (i ^ j.toNat), μ) else none
  | _, _ => none
def opNeg : D → Mu → Option (D × Mu) := fun d μ => match d with
  | .int i => some (.int (-i), μ)
  | _ => none
/-- order of ints -/
def opOrd (p : Int → Int → Bool) : D → D → Mu → Option (D × Mu) := fun d e μ => match d, e with
  | .int i, .int j => some (.bl (p i j), μ)
  | _, _ => none
def opLt := opOrd fun i j => decide (i < j)
def opLe := opOrd fun i j => decide (i ≤ j)
def opGt := opOrd fun i j => decide (j < i)
def opGe := opOrd fun i j => decide (j ≤ i)
/-- is None, is True, is False -/
def isC : D → D → Option Bool := fun d e => match e with
  | .non => match d with
    | .non => some true
    | _ => some false
  | .bl b => match d with
    | .bl c => some (c == b)
    | _ => some false
  | _ => none
def opIs : D → D → Mu → Option (D × Mu) := fun d e μ => (isC d e).map fun k => (.bl k, μ)
def opIsNot : D → D → Mu → Option (D × Mu) := fun d e μ => (isC d e).map fun k => (.bl (!k), μ)

section
variable {X : Cx} {K : PySem.W.Frag} {mg : Str → Option Value} {H : Hp} {R : Rg} {μ : Mu}
theorem lst_at {x : V} {d : D} {xs : List D} (s : Sto K mg μ H R) (h : DV K mg H R x d) (e : lstOf μ d = some xs) : ∃ a vs, x = .ref a ∧ H a = some (.lst vs) ∧ vs.length ≤ sizeLine ∧ DVs K mg H R vs xs := by
  cases h <;> simp only [lstOf] at e <;> first | cases e | skip
  case lst a vs h z r => exact ⟨a, vs, rfl, h.2, z, r⟩
  case ref n a h =>
    split at e
    · rename_i ys hm
      cases e
      obtain ⟨a', ha', vs, h1, h2, h3⟩ := s.at hm
      rw [h] at ha'; cases ha'
      exact ⟨a, vs, rfl, h1, h2, h3⟩
    · cases e
/-- lists and tuples, also the script -/
theorem seq_at {x : V} {d : D} {xs : List D} (s : Sto K mg μ H R) (h : DV K mg H R x d) (e : seqOf μ d = some xs) : ∃ a vs, x = .ref a ∧ (SqL K H a vs ∨ SqT K H a vs) ∧ vs.length ≤ sizeLine ∧ DVs K mg H R vs xs := by
  cases h <;> simp only [seqOf, lstOf] at e <;> first | cases e | skip
  case tup a vs h z r => exact ⟨a, vs, rfl, .inr h.sq, z, r⟩
  case lst a vs h z r => exact ⟨a, vs, rfl, .inl h.sq, z, r⟩
  case scr a vs h z r => exact ⟨a, vs, rfl, .inl h.sq, z, r⟩
  case ref n a h =>
    obtain ⟨a', vs, h0, h1, h2, h3⟩ := lst_at s (.ref h) (d := .ref n) (xs := xs) (by simpa only [lstOf] using e)
    exact ⟨a', vs, h0, .inl (.inl (.inl h1)), h2, h3⟩
abbrev rAdd4 (K : PySem.W.Frag) : R2 := fun x y H Q => ((rI0 (fun i j => .int (i + j)) x y H Q ∨ rCatA K x y H Q) ∨ rCat x y H Q) ∨ ∃ i j, x = .str i ∧ y = .str j ∧ i.length + j.length ≤ sizeLine ∧ Q (.str (i ++ j)) H
theorem op_add4 : OpR X (binaryOp .Add) (rAdd4 X.K) := ((op_add.or op_catA).or op_cat).or op_add_str
theorem opAdd_V : OpV K mg opAdd (rAdd4 K) := by
  intro R H μ x y d e z μ' Q s hx hy hz q
  have lists : ∀ xs ys, lstOf μ d = some xs → lstOf μ e = some ys → xs.length + ys.length ≤ 16777216 → z = .lst (xs ++ ys) → μ' = μ → rAdd4 K x y H Q := fun xs ys h1 h2 h3 h4 h5 => by
    obtain ⟨a, vs, rfl, ha, za, da⟩ := lst_at s hx h1
    obtain ⟨b, ws, rfl, hb, zb, db⟩ := lst_at s hy h2
    subst h4 h5
    refine .inl (.inr ⟨a, b, vs, ws, rfl, rfl, ha, hb, by rw [da.length, db.length, sizeLine_eq]; exact h3, fun p hp => ?_⟩)
    refine q.new s hp (.lst ⟨s.fresh hp, upd_same⟩ ?_ ((da.append db).ext (Ex2.upd (s.fresh hp) hp)))
    rw [List.length_append, da.length, db.length, sizeLine_eq]; exact h3
  unfold opAdd at hz
  split at hz
  · cases hx; cases hy
    simp only [Option.some.injEq, Prod.mk.injEq] at hz
    obtain ⟨rfl, rfl⟩ := hz
    exact .inl (.inl (.inl ⟨_, _, rfl, rfl, q.now s (.int _)⟩))
  · cases hx with
    | @tup a vs _ ha za ra =>
      cases hy with
      | @tup b ws _ hb zb rb =>
        split at hz
        · rename_i hl
          simp only [Option.some.injEq, Prod.mk.injEq] at hz
          obtain ⟨rfl, rfl⟩ := hz
          refine .inl (.inl (.inr ⟨a, b, vs, ws, rfl, rfl, ha.sq, hb.sq, by rw [ra.length, rb.length, sizeLine_eq]; exact hl, fun e => ?_, fun _ e => ?_, fun _ _ p hp => ?_⟩))
          · subst e
            cases ra
            exact q.now s (.tup hb zb rb)
          · subst e
            cases rb
            rw [List.append_nil] at q
            exact q.now s (.tup ha za ra)
          · refine q.new s hp (.tup (.inl ⟨s.fresh hp, upd_same⟩) ?_ ((ra.append rb).ext (Ex2.upd (s.fresh hp) hp)))
            rw [List.length_append, ra.length, rb.length, sizeLine_eq]; exact hl
        · cases hz
  · split at hz
    · simp only [Option.some.injEq, Prod.mk.injEq] at hz
      exact lists _ _ rfl rfl (by assumption) hz.1.symm hz.2.symm
    · cases hz
  · cases hx; cases hy
    split at hz
    · rename_i hl
      simp only [Option.some.injEq, Prod.mk.injEq] at hz
      obtain ⟨rfl, rfl⟩ := hz
      exact .inr ⟨_, _, rfl, rfl, by rw [sizeLine_eq]; exact hl, q.now s (.str _)⟩
    · cases hz
  · split at hz
    · rename_i h1 h2
      split at hz
      · rename_i hl
        simp only [Option.some.injEq, Prod.mk.injEq] at hz
        exact lists _ _ h1 h2 hl hz.1.symm hz.2.symm
      · cases hz
    · cases hz
theorem opSub_V : OpV K mg opSub (rI0 fun i j => .int (i - j)) := by
  intro R H μ x y d e z μ' Q s hx hy hz q
  unfold opSub at hz
  split at hz
  · cases hx; cases hy
    simp only [Option.some.injEq, Prod.mk.injEq] at hz
    obtain ⟨rfl, rfl⟩ := hz
    exact ⟨_, _, rfl, rfl, q.now s (.int _)⟩
  · cases hz
theorem opMod_V : OpV K mg opMod (rI (fun _ j => j ≠ 0) fun i j => .int (i.fmod j)) := by
  intro R H μ x y d e z μ' Q s hx hy hz q
  unfold opMod at hz
  split at hz
  · cases hx; cases hy
    split at hz
    · rename_i hj
      simp only [Option.some.injEq, Prod.mk.injEq] at hz
      obtain ⟨rfl, rfl⟩ := hz
      exact ⟨_, _, rfl, rfl, hj, q.now s (.int _)⟩
    · cases hz
  · cases hz
theorem opDiv_V : OpV K mg opDiv (rI CDivN fun i j => .int (i.fdiv j)) := by
  intro R H μ x y d e z μ' Q s hx hy hz q
  unfold opDiv at hz
  split at hz
  · cases hx; cases hy
    split at hz
    · rename_i hj
      simp only [Option.some.injEq, Prod.mk.injEq] at hz
      obtain ⟨rfl, rfl⟩ := hz
      exact ⟨_, _, rfl, rfl, hj, q.now s (.int _)⟩
    · cases hz
  · cases hz
theorem opPow_V : OpV K mg opPow (rI CPow fun i j => .int (i ^ j.toNat)) := by
  intro R H μ x y d e z μ' Q s hx hy hz q
  unfold opPow at hz
  split at hz
  · cases hx; cases hy
    split at hz
    · rename_i hj
      simp only [Option.some.injEq, Prod.mk.injEq] at hz
      obtain ⟨rfl, rfl⟩ := hz
      exact ⟨_, _, rfl, rfl, hj, q.now s (.int _)⟩
    · cases hz
  · cases hz
theorem opNeg_V : UnV K mg opNeg (rU fun i => .int (-i)) := by
  intro R H μ x d z μ' Q s hx hz q
  unfold opNeg at hz
  split at hz
  · cases hx
    simp only [Option.some.injEq, Prod.mk.injEq] at hz
    obtain ⟨rfl, rfl⟩ := hz
    exact ⟨_, rfl, q.now s (.int _)⟩
  · cases hz
theorem opOrd_V {p : Int → Int → Bool} : OpV K mg (opOrd p) (rI0 fun i j => .bl (p i j)) := by
  intro R H μ x y d e z μ' Q s hx hy hz q
  unfold opOrd at hz
  split at hz
  · cases hx; cases hy
    simp only [Option.some.injEq, Prod.mk.injEq] at hz
    obtain ⟨rfl, rfl⟩ := hz
    exact ⟨_, _, rfl, rfl, q.now s (.bl _)⟩
  · cases hz
theorem isC_V {x y : V} {d e : D} {k : Bool} (hx : DV K mg H R x d) (hy : DV K mg H R y e) (h : isC d e = some k) : (y = .non ∧ k = decide (x = .non)) ∨ ∃ b, y = .bl b ∧ k = decide (x = .bl b) := by
  unfold isC at h
  split at h
  · cases hy
    left
    refine ⟨rfl, ?_⟩
    cases hx <;> simp at h <;> simp [h]
  · cases hy
    rename_i b
    right
    refine ⟨b, rfl, ?_⟩
    cases hx <;> simp at h <;> simp [h]
    rename_i c
    cases b <;> cases c <;> simp_all
  · cases h
theorem opIs_V : OpV K mg opIs rIsC := by
  intro R H μ x y d e z μ' Q s hx hy hz q
  unfold opIs at hz
  cases h : isC d e with
  | none => rw [h] at hz; cases hz
  | some k =>
    rw [h] at hz
    simp only [Option.map_some, Option.some.injEq, Prod.mk.injEq] at hz
    obtain ⟨rfl, rfl⟩ := hz
    rcases isC_V hx hy h with ⟨h1, h2⟩ | ⟨b, h1, h2⟩
    · exact .inl ⟨h1, by rw [← h2]; exact q.now s (.bl _)⟩
    · exact .inr ⟨b, h1, by rw [← h2]; exact q.now s (.bl _)⟩
theorem opIsNot_V : OpV K mg opIsNot rNotC := by
  intro R H μ x y d e z μ' Q s hx hy hz q
  unfold opIsNot at hz
  cases h : isC d e with
  | none => rw [h] at hz; cases hz
  | some k =>
    rw [h] at hz
    simp only [Option.map_some, Option.some.injEq, Prod.mk.injEq] at hz
    obtain ⟨rfl, rfl⟩ := hz
    rcases isC_V hx hy h with ⟨h1, h2⟩ | ⟨b, h1, h2⟩
    · exact .inl ⟨h1, by rw [← h2]; exact q.now s (.bl _)⟩
    · exact .inr ⟨b, h1, by rw [← h2]; exact q.now s (.bl _)⟩
end
end VL
end
section
set_option linter.all false
set_option maxRecDepth 100000
set_option maxHeartbeats 2000000
namespace VL
open PySem L2

def dctOf (μ : Mu) : D → Option (List (Key × D))
  | .ref n => match μ[n]? with
    | some (.dct kvs) => some kvs
    | _ => none
  | _ => none
def opIx : D → D → Mu → Option (D × Mu) := fun d e μ => match e with
  | .int i => match seqOf μ d with
    | some xs => (atI xs i).map fun x => (x, μ)
    | none => match dctOf μ d with
      | some kvs => (lookK kvs (.inl i)).map fun x => (x, μ)
      | none => none
  | .str s => match dctOf μ d with
      | some kvs => (lookK kvs (.inr s)).map fun x => (x, μ)
      | none => none
  | _ => none
section
variable {K : PySem.W.Frag} {mg : Str → Option Value} {H : Hp} {R : Rg} {μ : Mu}
theorem key_V {y : V} {e : D} {k : Key} (h : DV K mg H R y e) (q : keyOf e = some k) : y = kV k := by
  cases h <;> simp [keyOf] at q <;> subst q <;> rfl
theorem dct_at {x : V} {d : D} {kvs : List (Key × D)} (s : Sto K mg μ H R) (h : DV K mg H R x d) (e : dctOf μ d = some kvs) : ∃ (n : Nat) (a : Addr) (kv : List (Key × V)), d = .ref n ∧ R.l[n]? = some a ∧ μ[n]? = some (.dct kvs) ∧ x = .ref a ∧ H a = some (.dK kv) ∧ kv.length ≤ sizeLine ∧ kv.map (·.1) = kvs.map (·.1) ∧ DVs K mg H R (kv.map (·.2)) (kvs.map (·.2)) := by
  cases h <;> simp only [dctOf] at e <;> first | cases e | skip
  case ref n a h =>
    split at e
    · rename_i ys hm
      cases e
      obtain ⟨a', ha', kv, h1, h2, h3, h4⟩ := s.at hm
      rw [h] at ha'; cases ha'
      exact ⟨n, a, kv, rfl, h, hm, rfl, h1, h2, h3, h4⟩
    · cases e
theorem look_V {k : Key} {d : D} : ∀ {kv : List (Key × V)} {kvs : List (Key × D)}, kv.map (·.1) = kvs.map (·.1) → DVs K mg H R (kv.map (·.2)) (kvs.map (·.2)) → lookK kvs k = some d → ∃ v, valV kv k = some v ∧ DV K mg H R v d
  | [], [], _, _, e => by simp [lookK] at e
  | [], _ :: _, h, _, _ => by simp at h
  | _ :: _, [], h, _, _ => by simp at h
  | p :: kv, q :: kvs, h, r, e => by
    simp only [List.map_cons, List.cons.injEq] at h
    simp only [List.map_cons] at r
    cases r with
    | cons r1 r2 =>
      by_cases hk : q.1 = k
      · refine ⟨p.2, valV_pos (h.1.trans hk), ?_⟩
        simp only [lookK, List.find?_cons, decide_eq_true hk] at e
        cases e
        exact r1
      · have ih := look_V (k := k) (d := d) h.2 r2 (by simpa [lookK, List.find?_cons, hk] using e)
        obtain ⟨v, h1, h2⟩ := ih
        exact ⟨v, by rw [valV_neg (by rw [h.1]; exact hk)]; exact h1, h2⟩
theorem look_none {k : Key} : ∀ {kv : List (Key × V)} {kvs : List (Key × D)}, kv.map (·.1) = kvs.map (·.1) → lookK kvs k = none → valV kv k = none
  | [], [], _, _ => rfl
  | [], _ :: _, h, _ => by simp at h
  | _ :: _, [], h, _ => by simp at h
  | p :: kv, q :: kvs, h, e => by
    simp only [List.map_cons, List.cons.injEq] at h
    by_cases hk : q.1 = k
    · simp [lookK, List.find?_cons, decide_eq_true hk] at e
    · rw [valV_neg (by rw [h.1]; exact hk)]
      exact look_none h.2 (by simpa [lookK, List.find?_cons, hk] using e)
end
def rIxD : R2 := fun x y H Q => ∃ a v, x = .ref a ∧ DGet H a y (some v) ∧ Q v H
theorem ix_dict {X : Cx} (hu : X.A.units + 1 < cLine) : IxR X rIxD := by
  intro value slice pins s σ H x y v u Q I rx ry h hs
  obtain ⟨a, z, rfl, g, q⟩ := h
  cases rx
  exact PyProof.Rows.tail_any (dict_typeIs I g) PySem.F.slot_dict_getitem.lookup (d_getItem hu I g ry fun w' s' I' r' => ⟨z, H, I', r', q⟩) hs
abbrev rIx4 (K : PySem.W.Frag) : R2 := fun x y H Q => rIx K x y H Q ∨ rIxD x y H Q
theorem ix4 {X : Cx} (hu : X.A.units + 1 < cLine) : IxR X (rIx4 X.K) := ix_seq.or (ix_dict hu)
section
variable {K : PySem.W.Frag} {mg : Str → Option Value}
theorem atI_V {H : Hp} {R : Rg} {vs : List V} {xs : List D} {i : Int} {d : D} (r : DVs K mg H R vs xs) (h : atI xs i = some d) : ∃ v, atI vs i = some v ∧ DV K mg H R v d := by
  unfold atI at h ⊢
  rw [r.length]
  cases e : ixN xs.length i with
  | none => rw [e] at h; cases h
  | some j =>
    rw [e] at h
    simp only [Option.bind_some] at h ⊢
    exact r.get h
theorem opIx_V : OpV K mg opIx (rIx4 K) := by
  intro R H μ x y d e z μ' Q s hx hy hz q
  unfold opIx at hz
  split at hz
  · rename_i i
    cases hy
    split at hz
    · rename_i xs hq
      obtain ⟨a, vs, rfl, ha, _, r⟩ := seq_at s hx hq
      cases e1 : atI xs i with
      | none => rw [e1] at hz; cases hz
      | some w =>
        rw [e1] at hz
        simp only [Option.map_some, Option.some.injEq, Prod.mk.injEq] at hz
        obtain ⟨rfl, rfl⟩ := hz
        obtain ⟨v, h1, h2⟩ := atI_V r e1
        rcases ha with ha | ha
        · exact .inl (.inl ⟨a, vs, i, v, rfl, rfl, ha, h1, q.now s h2⟩)
        · exact .inl (.inr (.inl ⟨a, vs, i, v, rfl, rfl, ha, h1, q.now s h2⟩))
    · split at hz
      · rename_i kvs hd
        obtain ⟨n, a, kv, _, _, _, rfl, h1, _, h3, h4⟩ := dct_at s hx hd
        cases e1 : lookK kvs (.inl i) with
        | none => rw [e1] at hz; cases hz
        | some w =>
          rw [e1] at hz
          simp only [Option.map_some, Option.some.injEq, Prod.mk.injEq] at hz
          obtain ⟨rfl, rfl⟩ := hz
          obtain ⟨v, g1, g2⟩ := look_V h3 h4 e1
          exact .inr ⟨a, v, rfl, by rw [← g1]; exact DGet.k (k := .inl i) h1, q.now s g2⟩
      · cases hz
  · rename_i t
    cases hy
    split at hz
    · rename_i kvs hd
      obtain ⟨n, a, kv, _, _, _, rfl, h1, _, h3, h4⟩ := dct_at s hx hd
      cases e1 : lookK kvs (.inr t) with
      | none => rw [e1] at hz; cases hz
      | some w =>
        rw [e1] at hz
        simp only [Option.map_some, Option.some.injEq, Prod.mk.injEq] at hz
        obtain ⟨rfl, rfl⟩ := hz
        obtain ⟨v, g1, g2⟩ := look_V h3 h4 e1
        exact .inr ⟨a, v, rfl, by rw [← g1]; exact DGet.k (k := .inr t) h1, q.now s g2⟩
    · cases hz
  · cases hz
end

def cutD (xs : List D) (lo hi : Option Int) : List D := (xs.drop (HT.sIx xs.length 0 lo)).take (HT.sIx xs.length xs.length hi - HT.sIx xs.length 0 lo)
def opSl : D → Option Int → Option Int → Mu → Option (D × Mu) := fun d lo hi μ => match d with
  | .tup xs => some (.tup (cutD xs lo hi), μ)
  | d => match lstOf μ d with
    | some xs => some (.lst (cutD xs lo hi), μ)
    | none => none
theorem cutD_length (xs : List D) (lo hi : Option Int) : (cutD xs lo hi).length ≤ xs.length := by
  unfold cutD
  rw [List.length_take, List.length_drop]
  omega
theorem cut_V {K : PySem.W.Frag} {mg : Str → Option Value} {H : Hp} {R : Rg} {vs : List V} {xs : List D} (r : DVs K mg H R vs xs) (lo hi : Option Int) : DVs K mg H R (cutV vs lo hi) (cutD xs lo hi) := by
  unfold cutV cutD
  rw [r.length]
  exact (r.drop _).take _
abbrev rSl2 (K : PySem.W.Frag) : V → Option Int → Option Int → Hp → VK → Prop := fun x lo hi H Q => rSlA K x lo hi H Q ∨ rSlL K x lo hi H Q
theorem sl2 {X : Cx} : SlR X (rSl2 X.K) := sl_tupA.or sl_list
theorem opSl_V {K : PySem.W.Frag} {mg : Str → Option Value} {R : Rg} {H : Hp} {μ μ' : Mu} {x : V} {d z : D} {lo hi : Option Int} {Q : VK} (s : Sto K mg μ H R) (hx : DV K mg H R x d) (hz : opSl d lo hi μ = some (z, μ')) (q : Post K mg R H μ' z Q) : rSl2 K x lo hi H Q := by
  have lists : ∀ xs, lstOf μ d = some xs → z = .lst (cutD xs lo hi) → μ' = μ → rSl2 K x lo hi H Q := fun xs h1 h4 h5 => by
    obtain ⟨a, vs, rfl, ha, za, da⟩ := lst_at s hx h1
    subst h4 h5
    refine .inr ⟨a, vs, rfl, .inl (.inl ha), fun p hp => ?_⟩
    exact q.new s hp (.lst ⟨s.fresh hp, upd_same⟩ (Nat.le_trans (cutV_length _ _ _) za) ((cut_V da lo hi).ext (Ex2.upd (s.fresh hp) hp)))
  unfold opSl at hz
  split at hz
  · cases hx with
    | @tup a vs _ ha za ra =>
      simp only [Option.some.injEq, Prod.mk.injEq] at hz
      obtain ⟨rfl, rfl⟩ := hz
      rename_i xs
      refine .inl ⟨a, vs, rfl, ha.sq, fun e => ?_, fun _ p hp => ?_⟩
      · have : cutD xs lo hi = xs := by
          unfold cutD
          rw [← ra.length, e.1, e.2, ra.length]
          simp
        rw [this] at q
        exact q.now s (.tup ha za ra)
      · exact q.new s hp (.tup (.inl ⟨s.fresh hp, upd_same⟩) (Nat.le_trans (cutV_length _ _ _) za) ((cut_V ra lo hi).ext (Ex2.upd (s.fresh hp) hp)))
  · split at hz
    · rename_i xs h1
      simp only [Option.some.injEq, Prod.mk.injEq] at hz
      exact lists xs h1 hz.1.symm hz.2.symm
    · cases hz
/-- a slice's part -/
abbrev VO := Ro → Mu → Option (Rs (Option Int))
def oNone : VO := fun _ μ => some (.ok none μ)
def oSome (a : VE) : VO := fun ρ μ => bd (a ρ μ) fun x μ1 => match x with
  | .int i => some (.ok (some i) μ1)
  | _ => none
def vSl (a : VE) (lo hi : VO) : VE := fun ρ μ => bd (a ρ μ) fun x μ1 => bd (lo ρ μ1) fun l μ2 => bd (hi ρ μ2) fun h μ3 => lift (opSl x l h μ3)
section
variable {X : Cx} {B : Base} {EP : Ro → Ex → Mu → Prop} {e : Expr} {lo hi : Option Expr} {te : VE} {tl th : VO} {pos p2 : Pos}
def lO (K : PySem.W.Frag) (mg : Str → Option Value) (B : Base) (EP : Ro → Ex → Mu → Prop) (t : VO) : TO := fun σ H Q => ∃ ρ μ R, Rp K mg B ρ μ σ H R ∧ Ou (t ρ μ) (fun o μ' => ∀ H' R', Ex2 R H R' H' → Sto K mg μ' H' R' → Q o H') (EP ρ)
abbrev SO (X : Cx) (B : Base) (EP : Ro → Ex → Mu → Prop) (e : Option Expr) (t : VO) : Prop := PO X e (lO X.K X.mg B EP t)
theorem _root_.L2.PO.weak {e : Option Expr} {t t' : TO} (h : PO X e t) (w : ∀ σ H Q, t' σ H Q → t σ H Q) : PO X e t' := by
  constructor
  intros
  apply h.run <;> first | assumption | (apply w; assumption)
theorem so_none : SO X B EP none oNone := po_none.weak fun σ H Q ⟨ρ, μ, R, rp, h⟩ => h H R Ex2.refl rp.sto
theorem so_some (h : SE X B EP e te) : SO X B EP (some e) (oSome te) :=
  (po_some h).weak fun σ H Q ⟨ρ, μ, R, rp, h⟩ => ⟨ρ, μ, R, rp, (Ou.bd h).mono fun x μ1 h1 v1 H1 R1 e1 s1 d1 => by
    cases x <;> first | exact h1.elim | skip
    rename_i i
    cases d1
    exact ⟨i, rfl, h1 H1 R1 e1 s1⟩⟩
theorem se_sl (he : SE X B EP e te) (hl : SO X B EP lo tl) (hh : SO X B EP hi th) : SE X B EP (.Subscript e (.Slice lo hi none p2) pos) (vSl te tl th) :=
  (pe_slice sl2 he hl hh).weak fun σ H Q ⟨ρ, μ, R, rp, h⟩ => ⟨ρ, μ, R, rp, (Ou.bd h).mono fun x μ1 h1 v1 H1 R1 e1 s1 d1 => ⟨ρ, μ1, R1, rp.go e1 s1, (Ou.bd h1).mono fun l μ2 h2 H2 R2 e2 s2 =>
    ⟨ρ, μ2, R2, rp.go (e1.trans e2) s2, (Ou.bd h2).mono fun u μ3 h3 H3 R3 e3 s3 => by
      obtain ⟨z, μ', ez, q⟩ := h3.lift
      exact opSl_V s3 (d1.ext (e2.trans e3)) ez (q.pre ((e1.trans e2).trans e3))⟩⟩⟩
theorem se_ix {i : Expr} {ti : VE} (hu : X.A.units + 1 < cLine) (he : SE X B EP e te) (hi : SE X B EP i ti) (hs : PlainIx i) : SE X B EP (.Subscript e i pos) (vOp opIx te ti) :=
  (pe_ix (ix4 hu) he hi hs).weak fun σ H Q ⟨ρ, μ, R, rp, h⟩ => ⟨ρ, μ, R, rp, (Ou.bd h).mono fun x μ1 h1 v1 H1 R1 e1 s1 d1 => ⟨ρ, μ1, R1, rp.go e1 s1, (Ou.bd h1).mono fun y μ2 h2 v2 H2 R2 e2 s2 d2 => by
    obtain ⟨z, μ', ez, q⟩ := h2.lift
    exact opIx_V R2 H2 μ2 v1 v2 x y z μ' Q s2 (d1.ext e2) d2 ez (q.pre (e1.trans e2))⟩⟩
end

def intsOf : List D → Option (List Int)
  | [] => some []
  | .int i :: ds => (intsOf ds).map (i :: ·)
  | _ :: _ => none
def boolsOf : List D → Option (List Bool)
  | [] => some []
  | .bl b :: ds => (boolsOf ds).map (b :: ·)
  | _ :: _ => none
def bLen : List D → Mu → Option (D × Mu) := fun ds μ => match ds with
  | [d] => match seqOf μ d with
    | some xs => some (.int xs.length, μ)
    | none => match d with
      | .str s => if s.length ≤ 16777216 then some (.int s.length, μ) else none
      | _ => none
  | _ => none
def bAbs : List D → Mu → Option (D × Mu) := fun ds μ => match ds with
  | [.int i] => some (.int (if i < 0 then -i else i), μ)
  | _ => none
def maxOf (ns : List Int) : Option Int := ns.foldl (fun m n => match m with | none => some n | some k => some (if n > k then n else k)) none
def minOf (ns : List Int) : Option Int := ns.foldl (fun m n => match m with | none => some n | some k => some (if n < k then n else k)) none
def bMax : List D → Mu → Option (D × Mu) := fun ds μ => match ds with
  | [.int i, .int j] => some (.int (if j > i then j else i), μ)
  | [d] => match lstOf μ d with
    | some xs => match intsOf xs with
      | some ns => (maxOf ns).map fun m => (.int m, μ)
      | none => none
    | none => none
  | _ => none
def bMin : List D → Mu → Option (D × Mu) := fun ds μ => match ds with
  | [.int i, .int j] => some (.int (if j < i then j else i), μ)
  | [d] => match lstOf μ d with
    | some xs => match intsOf xs with
      | some ns => (minOf ns).map fun m => (.int m, μ)
      | none => none
    | none => none
  | _ => none
def bInt : List D → Mu → Option (D × Mu) := fun ds μ => match ds with
  | [.int i] => some (.int i, μ)
  | [.bl k] => some (.int (if k then 1 else 0), μ)
  | _ => none
def bSum : List D → Mu → Option (D × Mu) := fun ds μ => match ds with
  | [d] => match seqOf μ d with
    | some xs => (intsOf xs).map fun ns => (.int ns.sum, μ)
    | none => none
  | _ => none
def bAll : List D → Mu → Option (D × Mu) := fun ds μ => match ds with
  | [d] => match lstOf μ d with
    | some xs => (boolsOf xs).map fun bs => (.bl (bs.all id), μ)
    | none => none
  | _ => none
def bAny : List D → Mu → Option (D × Mu) := fun ds μ => match ds with
  | [d] => match lstOf μ d with
    | some xs => (boolsOf xs).map fun bs => (.bl (bs.any id), μ)
    | none => none
  | _ => none
def bTuple : List D → Mu → Option (D × Mu) := fun ds μ => match ds with
  | [d] => (seqOf μ d).map fun xs => (.tup xs, μ)
  | _ => none
def bList : List D → Mu → Option (D × Mu) := fun ds μ => match ds with
  | [d] => (seqOf μ d).map fun xs => (.lst xs, μ)
  | _ => none

section
variable {X : Cx} {K : PySem.W.Frag} {mg : Str → Option Value} {H : Hp} {R : Rg} {μ : Mu}
theorem intsOf_V {xs : List D} : ∀ {vs : List V} {ns : List Int}, DVs K mg H R vs xs → intsOf xs = some ns → vs = ns.map V.int := by
  induction xs with
  | nil => intro vs ns r e; cases r; simp [intsOf] at e; subst e; rfl
  | cons d ds ih =>
    intro vs ns r e
    cases r with
    | cons r1 r2 =>
      cases d <;> simp only [intsOf] at e <;> first | cases e | skip
      cases h : intsOf ds with
      | none => rw [h] at e; cases e
      | some ms =>
        rw [h] at e
        simp only [Option.map_some, Option.some.injEq] at e
        subst e
        cases r1
        rw [ih r2 h]; rfl
theorem boolsOf_V {xs : List D} : ∀ {vs : List V} {ns : List Bool}, DVs K mg H R vs xs → boolsOf xs = some ns → vs = ns.map V.bl := by
  induction xs with
  | nil => intro vs ns r e; cases r; simp [boolsOf] at e; subst e; rfl
  | cons d ds ih =>
    intro vs ns r e
    cases r with
    | cons r1 r2 =>
      cases d <;> simp only [boolsOf] at e <;> first | cases e | skip
      cases h : boolsOf ds with
      | none => rw [h] at e; cases e
      | some ms =>
        rw [h] at e
        simp only [Option.map_some, Option.some.injEq] at e
        subst e
        cases r1
        rw [ih r2 h]; rfl
theorem dv1 {xs : List V} {d : D} (r : DVs K mg H R xs [d]) : ∃ v, xs = [v] ∧ DV K mg H R v d := by
  cases r with
  | cons r1 r2 => cases r2; exact ⟨_, rfl, r1⟩
theorem dv2 {xs : List V} {d e : D} (r : DVs K mg H R xs [d, e]) : ∃ v w, xs = [v, w] ∧ DV K mg H R v d ∧ DV K mg H R w e := by
  cases r with
  | cons r1 r2 => cases r2 with
    | cons r2 r3 => cases r3; exact ⟨_, _, rfl, r1, r2⟩
theorem bLen_V : CaV K mg bLen (fun xs H Q => ∃ x n, xs = [x] ∧ LenV K x H n ∧ Q (.int n) H) := by
  intro R H μ xs ds z μ' Q s r hz q
  unfold bLen at hz
  split at hz
  · obtain ⟨v, rfl, h⟩ := dv1 r
    split at hz
    · rename_i us hq
      obtain ⟨a, vs, rfl, ha, _, rr⟩ := seq_at s h hq
      simp only [Option.some.injEq, Prod.mk.injEq] at hz
      obtain ⟨rfl, rfl⟩ := hz
      refine ⟨_, us.length, rfl, ?_, q.now s (.int _)⟩
      rcases ha with ha | ha
      · exact .inl ⟨vs, ha, rr.length.symm⟩
      · exact .inr ⟨vs, ha, rr.length.symm⟩
    · split at hz
      · cases h
        split at hz
        · rename_i hl
          simp only [Option.some.injEq, Prod.mk.injEq] at hz
          obtain ⟨rfl, rfl⟩ := hz
          exact ⟨_, _, rfl, ⟨by rw [sizeLine_eq]; exact hl, rfl⟩, q.now s (.int _)⟩
        · cases hz
      · cases hz
  · cases hz
theorem bAbs_V : CaV K mg bAbs (fun xs H Q => ∃ i, xs = [.int i] ∧ Q (.int (if i < 0 then -i else i)) H) := by
  intro R H μ xs ds z μ' Q s r hz q
  unfold bAbs at hz
  split at hz
  · obtain ⟨v, rfl, h⟩ := dv1 r
    cases h
    simp only [Option.some.injEq, Prod.mk.injEq] at hz
    obtain ⟨rfl, rfl⟩ := hz
    exact ⟨_, rfl, q.now s (.int _)⟩
  · cases hz
theorem bInt_V : CaV K mg bInt (fun xs H Q => (∃ i, xs = [.int i] ∧ Q (.int i) H) ∨ ∃ k, xs = [.bl k] ∧ Q (.int (if k then 1 else 0)) H) := by
  intro R H μ xs ds z μ' Q s r hz q
  unfold bInt at hz
  split at hz
  · obtain ⟨v, rfl, h⟩ := dv1 r
    cases h
    simp only [Option.some.injEq, Prod.mk.injEq] at hz
    obtain ⟨rfl, rfl⟩ := hz
    exact .inl ⟨_, rfl, q.now s (.int _)⟩
  · obtain ⟨v, rfl, h⟩ := dv1 r
    cases h
    simp only [Option.some.injEq, Prod.mk.injEq] at hz
    obtain ⟨rfl, rfl⟩ := hz
    exact .inr ⟨_, rfl, q.now s (.int _)⟩
  · cases hz
abbrev rSum2 (K : PySem.W.Frag) : List V → Hp → VK → Prop := fun vs H Q => rSum K vs H Q ∨ rSumT K vs H Q
theorem cr_sum2 (hc : X.calm = true) : CallR X (.builtin "sum") (rSum2 X.K) := (cr_sum hc).or (cr_sumT hc)
theorem bSum_V : CaV K mg bSum (rSum2 K) := by
  intro R H μ xs ds z μ' Q s r hz q
  unfold bSum at hz
  split at hz
  · obtain ⟨v, rfl, h⟩ := dv1 r
    split at hz
    · rename_i us hq
      obtain ⟨a, vs, rfl, ha, _, rr⟩ := seq_at s h hq
      cases e : intsOf us with
      | none => rw [e] at hz; cases hz
      | some ns =>
        rw [e] at hz
        simp only [Option.map_some, Option.some.injEq, Prod.mk.injEq] at hz
        obtain ⟨rfl, rfl⟩ := hz
        have := intsOf_V rr e
        subst this
        rcases ha with ha | ha
        · exact .inl ⟨a, ns, rfl, ha, q.now s (.int _)⟩
        · exact .inr ⟨a, ns, rfl, ha, q.now s (.int _)⟩
    · cases hz
  · cases hz
theorem bAll_V : CaV K mg bAll (rAll K) := by
  intro R H μ xs ds z μ' Q s r hz q
  unfold bAll at hz
  split at hz
  · obtain ⟨v, rfl, h⟩ := dv1 r
    split at hz
    · rename_i us hq
      obtain ⟨a, vs, rfl, ha, _, rr⟩ := lst_at s h hq
      cases e : boolsOf us with
      | none => rw [e] at hz; cases hz
      | some ns =>
        rw [e] at hz
        simp only [Option.map_some, Option.some.injEq, Prod.mk.injEq] at hz
        obtain ⟨rfl, rfl⟩ := hz
        have := boolsOf_V rr e
        subst this
        exact ⟨a, ns, rfl, .inl (.inl ha), q.now s (.bl _)⟩
    · cases hz
  · cases hz
theorem bAny_V : CaV K mg bAny (rAny K) := by
  intro R H μ xs ds z μ' Q s r hz q
  unfold bAny at hz
  split at hz
  · obtain ⟨v, rfl, h⟩ := dv1 r
    split at hz
    · rename_i us hq
      obtain ⟨a, vs, rfl, ha, _, rr⟩ := lst_at s h hq
      cases e : boolsOf us with
      | none => rw [e] at hz; cases hz
      | some ns =>
        rw [e] at hz
        simp only [Option.map_some, Option.some.injEq, Prod.mk.injEq] at hz
        obtain ⟨rfl, rfl⟩ := hz
        have := boolsOf_V rr e
        subst this
        exact ⟨a, ns, rfl, .inl (.inl ha), q.now s (.bl _)⟩
    · cases hz
  · cases hz
abbrev rTupOf (K : PySem.W.Frag) : List V → Hp → VK → Prop := fun xs H Q => ∃ p ys, xs = [.ref p] ∧ ((SqL K H p ys ∧ ∀ l, H l = none → Q (.ref l) (upd H l (.tup ys))) ∨ (SqT K H p ys ∧ Q (.ref p) H))
theorem bTuple_V : CaV K mg bTuple (rTupOf K) := by
  intro R H μ xs ds z μ' Q s r hz q
  unfold bTuple at hz
  split at hz
  · obtain ⟨v, rfl, h⟩ := dv1 r
    rename_i d
    cases e : seqOf μ d with
    | none => rw [e] at hz; cases hz
    | some us =>
      rw [e] at hz
      simp only [Option.map_some, Option.some.injEq, Prod.mk.injEq] at hz
      obtain ⟨rfl, rfl⟩ := hz
      by_cases hsc : ∃ ys, d = .scr ys
      · obtain ⟨ys, rfl⟩ := hsc
        cases h with
        | scr h1 h2 h3 =>
          simp only [seqOf, Option.some.injEq] at e
          subst e
          exact ⟨_, _, rfl, .inl ⟨h1.sq, fun l hl => q.new s hl (.tup (.inl ⟨s.fresh hl, upd_same⟩) h2 (h3.ext (Ex2.upd (s.fresh hl) hl)))⟩⟩
      obtain ⟨a, vs, rfl, ha, hz, rr⟩ := seq_at s h e
      rcases ha with ha | ha
      · exact ⟨a, vs, rfl, .inl ⟨ha, fun l hl => q.new s hl (.tup (.inl ⟨s.fresh hl, upd_same⟩) hz (rr.ext (Ex2.upd (s.fresh hl) hl)))⟩⟩
      · refine ⟨a, vs, rfl, .inr ⟨ha, ?_⟩⟩
        cases h with
        | tup h1 h2 h3 =>
          simp only [seqOf, Option.some.injEq] at e
          subst e
          exact q.now s (.tup h1 h2 h3)
        | lst h1 h2 h3 => exact q.now s (.tup (by
            rcases ha with (ha | ⟨o, ha⟩) | ha
            · rw [h1.2] at ha; cases ha
            · rw [h1.2] at ha; cases ha
            · exact .inr ha) hz rr)
        | scr h1 h2 h3 => exact absurd ⟨_, rfl⟩ hsc
        | ref h1 =>
          obtain ⟨a', vs', h0, h2, h3, h4⟩ := lst_at s (.ref h1) (by simpa only [seqOf] using e)
          cases h0
          exact q.now s (.tup (by
            rcases ha with (ha | ⟨o, ha⟩) | ha
            · rw [h2] at ha; cases ha
            · rw [h2] at ha; cases ha
            · exact .inr ha) hz rr)
        | obj => simp [seqOf, lstOf] at e
        | glob => simp [seqOf, lstOf] at e
  · cases hz
abbrev rListOf (K : PySem.W.Frag) : List V → Hp → VK → Prop := fun xs H Q => ∃ p ys, xs = [.ref p] ∧ (SqL K H p ys ∨ SqT K H p ys) ∧ ∀ l, H l = none → Q (.ref l) (upd H l (.lst ys))
theorem bList_V : CaV K mg bList (rListOf K) := by
  intro R H μ xs ds z μ' Q s r hz q
  unfold bList at hz
  split at hz
  · obtain ⟨v, rfl, h⟩ := dv1 r
    rename_i d
    cases e : seqOf μ d with
    | none => rw [e] at hz; cases hz
    | some us =>
      rw [e] at hz
      simp only [Option.map_some, Option.some.injEq, Prod.mk.injEq] at hz
      obtain ⟨rfl, rfl⟩ := hz
      obtain ⟨a, vs, rfl, ha, hz, rr⟩ := seq_at s h e
      exact ⟨a, vs, rfl, ha, fun l hl => q.new s hl (.lst ⟨s.fresh hl, upd_same⟩ hz (rr.ext (Ex2.upd (s.fresh hl) hl)))⟩
  · cases hz
theorem maxOf_spec : ∀ (ns : List Int) (m : Int), maxOf ns = some m → m ∈ ns ∧ ∀ y, y ∈ ns → y ≤ m := by
  have go : ∀ (ns : List Int) (k m : Int), ns.foldl (fun m n => match m with | none => some n | some k => some (if n > k then n else k)) (some k) = some m → (m = k ∨ m ∈ ns) ∧ k ≤ m ∧ ∀ y, y ∈ ns → y ≤ m := by
    intro ns
    induction ns with
    | nil => intro k m h; simp at h; subst h; simp
    | cons n ns ih =>
      intro k m h
      simp only [List.foldl_cons] at h
      obtain ⟨h1, h2, h3⟩ := ih _ m h
      by_cases c : n > k
      · rw [if_pos c] at h1 h2
        refine ⟨.inr ?_, by omega, fun y hy => ?_⟩
        · rcases h1 with h1 | h1
          · rw [h1]; exact List.mem_cons_self
          · exact List.mem_cons_of_mem _ h1
        · rcases List.mem_cons.mp hy with rfl | hy
          · exact h2
          · exact h3 y hy
      · rw [if_neg c] at h1 h2
        refine ⟨h1.imp id (List.mem_cons_of_mem _), h2, fun y hy => ?_⟩
        rcases List.mem_cons.mp hy with rfl | hy
        · omega
        · exact h3 y hy
  intro ns m h
  cases ns with
  | nil => simp [maxOf] at h
  | cons n ns =>
    simp only [maxOf, List.foldl_cons] at h
    obtain ⟨h1, h2, h3⟩ := go ns n m h
    refine ⟨?_, fun y hy => ?_⟩
    · rcases h1 with h1 | h1
      · rw [h1]; exact List.mem_cons_self
      · exact List.mem_cons_of_mem _ h1
    · rcases List.mem_cons.mp hy with rfl | hy
      · exact h2
      · exact h3 y hy
theorem minOf_spec : ∀ (ns : List Int) (m : Int), minOf ns = some m → m ∈ ns ∧ ∀ y, y ∈ ns → m ≤ y := by
  have go : ∀ (ns : List Int) (k m : Int), ns.foldl (fun m n => match m with | none => some n | some k => some (if n < k then n else k)) (some k) = some m → (m = k ∨ m ∈ ns) ∧ m ≤ k ∧ ∀ y, y ∈ ns → m ≤ y := by
    intro ns
    induction ns with
    | nil => intro k m h; simp at h; subst h; simp
    | cons n ns ih =>
      intro k m h
      simp only [List.foldl_cons] at h
      obtain ⟨h1, h2, h3⟩ := ih _ m h
      by_cases c : n < k
      · rw [if_pos c] at h1 h2
        refine ⟨.inr ?_, by omega, fun y hy => ?_⟩
        · rcases h1 with h1 | h1
          · rw [h1]; exact List.mem_cons_self
          · exact List.mem_cons_of_mem _ h1
        · rcases List.mem_cons.mp hy with rfl | hy
          · exact h2
          · exact h3 y hy
      · rw [if_neg c] at h1 h2
        refine ⟨h1.imp id (List.mem_cons_of_mem _), h2, fun y hy => ?_⟩
        rcases List.mem_cons.mp hy with rfl | hy
        · omega
        · exact h3 y hy
  intro ns m h
  cases ns with
  | nil => simp [minOf] at h
  | cons n ns =>
    simp only [minOf, List.foldl_cons] at h
    obtain ⟨h1, h2, h3⟩ := go ns n m h
    refine ⟨?_, fun y hy => ?_⟩
    · rcases h1 with h1 | h1
      · rw [h1]; exact List.mem_cons_self
      · exact List.mem_cons_of_mem _ h1
    · rcases List.mem_cons.mp hy with rfl | hy
      · exact h2
      · exact h3 y hy
abbrev rMax2 (K : PySem.W.Frag) : List V → Hp → VK → Prop := fun xs H Q => (∃ i j, xs = [.int i, .int j] ∧ Q (.int (if j > i then j else i)) H) ∨ rMax K xs H Q
abbrev rMin2 (K : PySem.W.Frag) : List V → Hp → VK → Prop := fun xs H Q => (∃ i j, xs = [.int i, .int j] ∧ Q (.int (if j < i then j else i)) H) ∨ rMin K xs H Q
theorem cr_max2 (hc : X.calm = true) : CallR X (.builtin "max") (rMax2 X.K) := (call_max2 hc).or (cr_max hc)
theorem cr_min2 (hc : X.calm = true) : CallR X (.builtin "min") (rMin2 X.K) := (call_min2 hc).or (cr_min hc)
theorem bMax_V : CaV K mg bMax (rMax2 K) := by
  intro R H μ xs ds z μ' Q s r hz q
  unfold bMax at hz
  split at hz
  · obtain ⟨v, w, rfl, h, h'⟩ := dv2 r
    cases h; cases h'
    simp only [Option.some.injEq, Prod.mk.injEq] at hz
    obtain ⟨rfl, rfl⟩ := hz
    exact .inl ⟨_, _, rfl, q.now s (.int _)⟩
  · obtain ⟨v, rfl, h⟩ := dv1 r
    split at hz
    · rename_i us hq
      obtain ⟨a, vs, rfl, ha, _, rr⟩ := lst_at s h hq
      split at hz
      · rename_i ns e
        have := intsOf_V rr e
        subst this
        cases e2 : maxOf ns with
        | none => rw [e2] at hz; cases hz
        | some m =>
          rw [e2] at hz
          simp only [Option.map_some, Option.some.injEq, Prod.mk.injEq] at hz
          obtain ⟨rfl, rfl⟩ := hz
          obtain ⟨m1, m2⟩ := maxOf_spec ns m e2
          refine .inr ⟨a, ns, rfl, .inl (.inl ha), List.length_pos_of_mem m1, fun m' h1 h2 => ?_⟩
          have : m' = m := Int.le_antisymm (m2 m' h1) (h2 m m1)
          subst this
          exact q.now s (.int _)
      · cases hz
    · cases hz
  · cases hz
theorem bMin_V : CaV K mg bMin (rMin2 K) := by
  intro R H μ xs ds z μ' Q s r hz q
  unfold bMin at hz
  split at hz
  · obtain ⟨v, w, rfl, h, h'⟩ := dv2 r
    cases h; cases h'
    simp only [Option.some.injEq, Prod.mk.injEq] at hz
    obtain ⟨rfl, rfl⟩ := hz
    exact .inl ⟨_, _, rfl, q.now s (.int _)⟩
  · obtain ⟨v, rfl, h⟩ := dv1 r
    split at hz
    · rename_i us hq
      obtain ⟨a, vs, rfl, ha, _, rr⟩ := lst_at s h hq
      split at hz
      · rename_i ns e
        have := intsOf_V rr e
        subst this
        cases e2 : minOf ns with
        | none => rw [e2] at hz; cases hz
        | some m =>
          rw [e2] at hz
          simp only [Option.map_some, Option.some.injEq, Prod.mk.injEq] at hz
          obtain ⟨rfl, rfl⟩ := hz
          obtain ⟨m1, m2⟩ := minOf_spec ns m e2
          refine .inr ⟨a, ns, rfl, .inl (.inl ha), List.length_pos_of_mem m1, fun m' h1 h2 => ?_⟩
          have : m' = m := Int.le_antisymm (h2 m m1) (m2 m' h1)
          subst this
          exact q.now s (.int _)
      · cases hz
    · cases hz
  · cases hz
end
end VL
end
section
set_option linter.all false
set_option maxRecDepth 100000
set_option maxHeartbeats 2000000
namespace VL
open PySem L2

/-- a statement's outcome -/
def OuS (K : PySem.W.Frag) (mg : Str → Option Value) (B : Base) (EP : Ro → Ex → Mu → Prop) (R : Rg) (H : Hp) (r : Option Fl) (Dn : Ends) : Prop :=
  match r with
  | some (.nx ρ μ) => ∀ σ' H' R', Ex2 R H R' H' → Rp K mg B ρ μ σ' H' R' → Dn.nx σ' H'
  | some (.bk ρ μ) => ∀ σ' H' R', Ex2 R H R' H' → Rp K mg B ρ μ σ' H' R' → Dn.bk σ' H'
  | some (.ct ρ μ) => ∀ σ' H' R', Ex2 R H R' H' → Rp K mg B ρ μ σ' H' R' → Dn.ct σ' H'
  | some (.rt d μ) => ∀ v H' R', Ex2 R H R' H' → Ex2 B.R B.H R' H' → Sto K mg μ H' R' → DV K mg H' R' v d → Dn.rt v H'
  | some (.er ρ e μ) => EP ρ e μ
  | none => False
theorem OuS.pre {K : PySem.W.Frag} {mg : Str → Option Value} {B : Base} {EP : Ro → Ex → Mu → Prop} {R R' : Rg} {H H' : Hp} {r : Option Fl} {Dn : Ends} (h : OuS K mg B EP R H r Dn) (e : Ex2 R H R' H') : OuS K mg B EP R' H' r Dn := by
  cases r with
  | none => exact h
  | some x => cases x with
    | nx ρ μ => exact fun σ' H2 R2 e2 => h σ' H2 R2 (e.trans e2)
    | bk ρ μ => exact fun σ' H2 R2 e2 => h σ' H2 R2 (e.trans e2)
    | ct ρ μ => exact fun σ' H2 R2 e2 => h σ' H2 R2 (e.trans e2)
    | rt d μ => exact fun v H2 R2 e2 => h v H2 R2 (e.trans e2)
    | er ρ e μ => exact h
def lS (K : PySem.W.Frag) (mg : Str → Option Value) (B : Base) (EP : Ro → Ex → Mu → Prop) (t : VS) : TS := fun Dn σ H => ∃ ρ μ R, Rp K mg B ρ μ σ H R ∧ OuS K mg B EP R H (t ρ μ) Dn
def lG (K : PySem.W.Frag) (mg : Str → Option Value) (B : Base) (t : VG) : TG := fun v σ H Q => ∃ d ρ μ R ρ' μ', Rp K mg B ρ μ σ H R ∧ DV K mg H R v d ∧ t d ρ μ = some (ρ', μ') ∧ ∀ σ' H' R', Ex2 R H R' H' → Rp K mg B ρ' μ' σ' H' R' → Q σ' H'
def lGs (K : PySem.W.Frag) (mg : Str → Option Value) (B : Base) (t : VGs) : TGs := fun vs σ H Q => ∃ ds ρ μ R ρ' μ', Rp K mg B ρ μ σ H R ∧ DVs K mg H R vs ds ∧ t ds ρ μ = some (ρ', μ') ∧ ∀ σ' H' R', Ex2 R H R' H' → Rp K mg B ρ' μ' σ' H' R' → Q σ' H'
abbrev SS (X : Cx) (B : Base) (EP : Ro → Ex → Mu → Prop) (s : Stmt) (t : VS) : Prop := PS X s (lS X.K X.mg B EP t)
abbrev SSs (X : Cx) (B : Base) (EP : Ro → Ex → Mu → Prop) (s : List Stmt) (t : VS) : Prop := PSs X s (lS X.K X.mg B EP t)
abbrev SG (X : Cx) (B : Base) (e : Expr) (t : VG) : Prop := PG X e (lG X.K X.mg B t)
abbrev SGs (X : Cx) (B : Base) (es : List Expr) (t : VGs) : Prop := PGs X es (lGs X.K X.mg B t)

section
variable {X : Cx}
theorem _root_.L2.PG.weak {e : Expr} {t t' : TG} (h : PG X e t) (w : ∀ v σ H Q, t' v σ H Q → t v σ H Q) : PG X e t' := ⟨fun pins s σ H v u Q I r q => h.run pins s σ H v u Q I r (w v σ H Q q)⟩
theorem _root_.L2.PGs.weak {e : List Expr} {t t' : TGs} (h : PGs X e t) (w : ∀ v σ H Q, t' v σ H Q → t v σ H Q) : PGs X e t' := ⟨fun pins s σ H v u Q I r q => h.run pins s σ H v u Q I r (w v σ H Q q)⟩
theorem _root_.L2.PG.or {e : Expr} {t t' : TG} (h : PG X e t) (h' : PG X e t') : PG X e (fun v σ H Q => t v σ H Q ∨ t' v σ H Q) := ⟨fun pins s σ H v u Q I r q => q.elim (h.run pins s σ H v u Q I r) (h'.run pins s σ H v u Q I r)⟩
theorem PSet.or {t t' : TSet} (h : PSet X t) (h' : PSet X t') : PSet X (fun o i v H Q => t o i v H Q ∨ t' o i v H Q) := fun pins s σ H o i v ov iv u Q I r1 r2 r3 q => q.elim (h pins s σ H o i v ov iv u Q I r1 r2 r3) (h' pins s σ H o i v ov iv u Q I r1 r2 r3)
/-- d[k] = v by values -/
def rSetD : TSet := fun o i v H Q => ∃ a H', o = .ref a ∧ DPut H a i v H' ∧ Q H'
theorem set_dict (hu : X.A.units + 1 < cLine) : PSet X rSetD := by
  intro pins s σ H o i v ov iv u Q I ro ri rv h
  obtain ⟨a, H', rfl, g, q⟩ := h
  cases ro
  exact d_setItem hu I g ri rv fun s' I' => ⟨H', I', q⟩
abbrev rSet2 : TSet := fun o i v H Q => rSetL o i v H Q ∨ rSetD o i v H Q
theorem set2 (hu : X.A.units + 1 < cLine) : PSet X rSet2 := PSet.or set_list (set_dict hu)
end
theorem Ou.bs {α : Type} {K : PySem.W.Frag} {mg : Str → Option Value} {B : Base} {EP : Ro → Ex → Mu → Prop} {R : Rg} {H : Hp} {Dn : Ends} {r : Option (Rs α)} {ρ : Ro} {k : α → Mu → Option Fl} (h : OuS K mg B EP R H (VL.bs r ρ k) Dn) : Ou r (fun a μ => OuS K mg B EP R H (k a μ) Dn) (EP ρ) := by
  cases r with
  | none => exact h
  | some x => cases x with
    | ok a μ => exact h
    | er e μ => exact h
section
variable {K : PySem.W.Frag} {mg : Str → Option Value} {H : Hp} {R : Rg} {μ μ' : Mu}
theorem any_keys {k : Key} : ∀ {kv : List (Key × V)} {kvs : List (Key × D)}, kv.map (·.1) = kvs.map (·.1) → (kv.any fun p => decide (p.1 = k)) = kvs.any fun p => decide (p.1 = k)
  | [], [], _ => rfl
  | [], _ :: _, h => by simp at h
  | _ :: _, [], h => by simp at h
  | p :: kv, q :: kvs, h => by
    simp only [List.map_cons, List.cons.injEq] at h
    simp only [List.any_cons, h.1, any_keys h.2]
theorem map_keys {k : Key} {v : V} {d : D} (hd : DV K mg H R v d) : ∀ {kv : List (Key × V)} {kvs : List (Key × D)}, kv.map (·.1) = kvs.map (·.1) → DVs K mg H R (kv.map (·.2)) (kvs.map (·.2)) →
    (kv.map fun p => if p.1 = k then (p.1, v) else p).map (·.1) = (kvs.map fun p => if p.1 = k then (p.1, d) else p).map (·.1) ∧ DVs K mg H R ((kv.map fun p => if p.1 = k then (p.1, v) else p).map (·.2)) ((kvs.map fun p => if p.1 = k then (p.1, d) else p).map (·.2))
  | [], [], _, _ => ⟨rfl, .nil⟩
  | [], _ :: _, h, _ => by simp at h
  | _ :: _, [], h, _ => by simp at h
  | p :: kv, q :: kvs, h, r => by
    simp only [List.map_cons, List.cons.injEq] at h
    simp only [List.map_cons] at r
    cases r with
    | cons r1 r2 =>
      obtain ⟨h1, h2⟩ := map_keys (k := k) hd h.2 r2
      simp only [List.map_cons]
      by_cases hk : p.1 = k
      · have hq : q.1 = k := h.1.symm.trans hk
        rw [if_pos hk, if_pos hq]
        exact ⟨by rw [h1, h.1], .cons hd h2⟩
      · have hq : ¬ q.1 = k := fun z => hk (h.1.trans z)
        rw [if_neg hk, if_neg hq]
        exact ⟨by rw [h1, h.1], .cons r1 h2⟩
theorem put_V {k : Key} {v : V} {d : D} {kv : List (Key × V)} {kvs : List (Key × D)} (hd : DV K mg H R v d) (h : kv.map (·.1) = kvs.map (·.1)) (r : DVs K mg H R (kv.map (·.2)) (kvs.map (·.2))) :
    (putK kv k v).map (·.1) = (putKD kvs k d).map (·.1) ∧ DVs K mg H R ((putK kv k v).map (·.2)) ((putKD kvs k d).map (·.2)) := by
  unfold putK putKD
  rw [any_keys h]
  split
  · exact map_keys hd h r
  · refine ⟨by simp [h], ?_⟩
    rw [List.map_append, List.map_append]
    exact r.append (.cons hd .nil)
theorem putK_len (k : Key) (v : V) (kv : List (Key × V)) : (putK kv k v).length ≤ kv.length + 1 := by
  unfold putK; split <;> simp
theorem setAt_V {o i v : V} {do' di dv : D} {Q : Hp → Prop} (s : Sto K mg μ H R) (ho : DV K mg H R o do') (hi : DV K mg H R i di) (hv : DV K mg H R v dv) (e : setAt do' di dv μ = some μ') (q : ∀ H', Ex2 R H R H' → Sto K mg μ' H' R → Q H') : rSet2 o i v H Q := by
  unfold setAt at e
  split at e
  · rename_i n
    cases ho with
    | @ref _ a ha =>
      have hm : a ∈ R.l := List.mem_of_getElem? ha
      split at e
      · rename_i xs hx
        obtain ⟨a', ha', vs, h1, h2, h3⟩ := s.at hx
        rw [ha] at ha'; cases ha'
        split at e
        · rename_i k
          cases hi
          cases hj : ixN xs.length k with
          | none => rw [hj] at e; cases e
          | some j =>
            rw [hj] at e
            simp only [Option.map_some, Option.some.injEq] at e
            subst e
            refine .inl ⟨a, vs, k, j, rfl, rfl, h1, by rw [h3.length]; exact hj, ?_⟩
            have ee : Ex2 R H R (L2.upd H a (.lst (vs.set j v))) := Ex2.set hm
            exact q _ ee (s.set ha ⟨_, upd_same, by rw [List.length_set]; exact h2, (h3.set hv j).ext ee⟩)
        · cases e
      · rename_i kvs hx
        obtain ⟨a', ha', kv, h1, h2, h3, h4⟩ := s.at hx
        rw [ha] at ha'; cases ha'
        split at e
        · rename_i k hk
          split at e
          · rename_i hl
            simp only [Option.some.injEq] at e
            subst e
            have hkl : kv.length = kvs.length := by have := congrArg List.length h3; simpa using this
            have ey : i = kV k := key_V hi hk
            subst ey
            have ee : Ex2 R H R (L2.upd H a (.dK (putK kv k v))) := Ex2.set hm
            obtain ⟨p1, p2⟩ := put_V (k := k) hv h3 h4
            have := putK_len k v kv
            refine .inr ⟨a, _, rfl, DPut.k h1 (by rw [hkl, sizeLine_eq]; exact hl), q _ ee (s.set ha ⟨_, upd_same, by rw [sizeLine_eq]; omega, p1, p2.ext ee⟩)⟩
          · cases e
        · cases e
      · cases e
  · cases e
end

section
variable {X : Cx} {B : Base} {EP : Ro → Ex → Mu → Prop} {a b c e : Expr} {es : List Expr} {ta tb tc : VE} {pos : Pos}
theorem sg_name {i : Nat} {x : Str} (hN : X.N.Nodup) (hi : X.N[i]? = some x) (hx : Loc X.env.scope x) (hf : X.fn x = true ∨ X.env.scope.names.lookup x = some .local) : SG X B (.Name x pos) (VL.gName i) :=
  (pg_name hN hi hx hf).weak fun v σ H Q ⟨d, ρ, μ, R, ρ', μ', rp, dv, h, q⟩ => by
    simp only [VL.gName, Option.some.injEq, Prod.mk.injEq] at h
    obtain ⟨rfl, rfl⟩ := h
    exact q _ H R Ex2.refl (rp.set dv)
theorem sgs_nil : SGs X B [] VL.gNil := pgs_nil.weak fun vs σ H Q ⟨ds, ρ, μ, R, ρ', μ', rp, dv, h, q⟩ => by
  cases dv with
  | nil =>
    simp only [VL.gNil, Option.some.injEq, Prod.mk.injEq] at h
    obtain ⟨rfl, rfl⟩ := h
    exact ⟨rfl, q σ H R Ex2.refl rp⟩
  | cons _ _ => cases h
theorem sgs_cons {g : VG} {gs : VGs} (h1 : SG X B e g) (h2 : SGs X B es gs) (hs : (assignEach (e :: es) X.env).map (·.2) = assign e X.env :: (assignEach es X.env).map (·.2)) : SGs X B (e :: es) (VL.gCons g gs) :=
  (pgs_cons h1 h2 hs).weak fun vs σ H Q ⟨ds, ρ, μ, R, ρ', μ', rp, dv, h, q⟩ => by
    cases dv with
    | nil => cases h
    | @cons v d vs' ds' d1 d2 =>
      simp only [VL.gCons] at h
      split at h
      · rename_i ρ1 μ1 eg
        exact ⟨v, vs', rfl, d, ρ, μ, R, ρ1, μ1, rp, d1, eg, fun σ1 H1 R1 e1 rp1 => ⟨ds', ρ1, μ1, R1, ρ', μ', rp1, d2.ext e1, h, fun σ2 H2 R2 e2 rp2 => q σ2 H2 R2 (e1.trans e2) rp2⟩⟩
      · cases h
theorem sg_tup {n k : Nat} {gs : VGs} (hc : X.calm = true) (h : SGs X B es gs) (hn : (assignEach es X.env).length = n) (hst : (assignEach es X.env).findIdx? (·.1) = none) : SG X B (.Tuple es k pos) (VL.gTup n gs) :=
  ((pg_tup hc h hn hst).or (pg_unl hc h hn hst)).weak fun v σ H Q ⟨d, ρ, μ, R, ρ', μ', rp, dv, h, q⟩ => by
    unfold VL.gTup at h
    split at h
    · cases dv with
      | tup h1 h2 h3 =>
        split at h
        · rename_i hl
          exact .inl ⟨_, _, rfl, h1.sq, h3.length.trans hl, _, ρ, μ, R, ρ', μ', rp, h3, h, q⟩
        · cases h
    · split at h
      · rename_i xs hx
        split at h
        · rename_i hl
          obtain ⟨a, vs, rfl, ha, _, dd⟩ := lst_at rp.sto dv hx
          exact .inr ⟨a, vs, rfl, .inl (.inl ha), dd.length.trans hl, _, ρ, μ, R, ρ', μ', rp, dd, h, q⟩
        · cases h
      · cases h
theorem sg_sub {o i : Expr} {to ti : VE} (hu : X.A.units + 1 < cLine) (ho : SE X B EP o to) (hi : SE X B EP i ti)
    (ha : ∀ v, assign (.Subscript o i pos) X.env v = (do
      let ov ← holding [v] (eval o X.env)
      let iv ← holding [v, ov] (eval i X.env)
      standAt pos
      holding [v, ov, iv] (setItem ov iv v)
      release [v, ov, iv] [])) : SG X B (.Subscript o i pos) (VL.gSub to ti) :=
  (pg_sub ho hi (set2 hu) ha).weak fun v σ H Q ⟨d, ρ, μ, R, ρ', μ', rp, dv, h, q⟩ => by
    unfold VL.gSub at h
    split at h
    · rename_i x μ1 e1
      split at h
      · rename_i y μ2 e2
        cases e3 : setAt x y d μ2 with
        | none => rw [e3] at h; cases h
        | some μ3 =>
          rw [e3] at h
          simp only [Option.map_some, Option.some.injEq, Prod.mk.injEq] at h
          obtain ⟨rfl, rfl⟩ := h
          refine ⟨ρ, μ, R, rp, ?_⟩
          rw [e1]
          intro ov H1 R1 x1 s1 d1
          refine ⟨ρ, μ1, R1, rp.go x1 s1, ?_⟩
          rw [e2]
          intro iv H2 R2 x2 s2 d2
          refine setAt_V s2 (d1.ext x2) d2 (dv.ext (x1.trans x2)) e3 fun H3 x3 s3 => ?_
          exact q σ H3 R2 ((x1.trans x2).trans x3) (rp.go ((x1.trans x2).trans x3) s3)
      · cases h
    · cases h

variable {s1 : Stmt} {rest : List Stmt} {t u : VS}
theorem ss_pass : SS X B EP (.Pass pos) sPass := ps_pass.weak fun Dn σ H ⟨ρ, μ, R, rp, h⟩ => h σ H R Ex2.refl rp
theorem sss_nil : SSs X B EP [] sPass := pss_nil.weak fun Dn σ H ⟨ρ, μ, R, rp, h⟩ => h σ H R Ex2.refl rp
theorem ss_bk : SS X B EP (.Break pos) sBk := ps_break.weak fun Dn σ H ⟨ρ, μ, R, rp, h⟩ => h σ H R Ex2.refl rp
theorem ss_ct : SS X B EP (.Continue pos) sCt := ps_continue.weak fun Dn σ H ⟨ρ, μ, R, rp, h⟩ => h σ H R Ex2.refl rp
theorem seq_weak {K : PySem.W.Frag} {mg : Str → Option Value} : ∀ Dn σ H, lS K mg B EP (sSeq t u) Dn σ H → tSeq (lS K mg B EP t) (lS K mg B EP u) Dn σ H := fun Dn σ H ⟨ρ, μ, R, rp, h⟩ => by
  refine ⟨ρ, μ, R, rp, ?_⟩
  unfold sSeq at h
  cases e : t ρ μ with
  | none => rw [e] at h; exact h
  | some r =>
    rw [e] at h
    cases r with
    | nx ρ1 μ1 => exact fun σ' H' R' e' rp' => ⟨ρ1, μ1, R', rp', h.pre e'⟩
    | bk ρ1 μ1 => exact h
    | ct ρ1 μ1 => exact h
    | rt d μ1 => exact h
    | er ρ1 e μ1 => exact h
theorem sss_cons (h1 : SS X B EP s1 t) (h2 : SSs X B EP rest u) : SSs X B EP (s1 :: rest) (sSeq t u) := (pss_cons h1 h2).weak seq_weak
theorem sss_one (h1 : SS X B EP s1 t) : SSs X B EP [s1] t := pss_one h1
theorem ss_asg {tg : Expr} {g : VG} (he : SE X B EP e ta) (hg : SG X B tg g) (hs : swapsWithSole [tg] e pos.line X.env = pure false) (hw : swappedStores [tg] e X.env = pure none) (h1 : (assignEach [tg] X.env).map (·.2) = [assign tg X.env]) : SS X B EP (.Assign [tg] e pos) (sAsg ta g) :=
  (ps_asg he hg hs hw h1).weak fun Dn σ H ⟨ρ, μ, R, rp, h⟩ => ⟨ρ, μ, R, rp, (Ou.bs h).mono fun x μ1 h1 v1 H1 R1 e1 s1 d1 => by
    split at h1
    · rename_i ρ2 μ2 eg
      exact ⟨x, ρ, μ1, R1, ρ2, μ2, rp.go e1 s1, d1, eg, fun σ' H' R' e' rp' => h1 σ' H' R' (e1.trans e') rp'⟩
    · exact h1.elim⟩
theorem ss_ret (he : SE X B EP e ta) : SS X B EP (.Return (some e) pos) (sRet ta) :=
  (ps_ret he).weak fun Dn σ H ⟨ρ, μ, R, rp, h⟩ => ⟨ρ, μ, R, rp, (Ou.bs h).mono fun x μ1 h1 v1 H1 R1 e1 s1 d1 => h1 v1 H1 R1 e1 (rp.ext.trans e1) s1 d1⟩
theorem ss_retN : SS X B EP (.Return none pos) sRetN := ps_retN.weak fun Dn σ H ⟨ρ, μ, R, rp, h⟩ => h .non H R Ex2.refl rp.ext rp.sto .non
theorem ss_expr (he : SE X B EP e ta) (hs : swapsWith e none pos.line X.env = pure false) : SS X B EP (.Expr e pos) (sDrop ta) :=
  (ps_expr he hs).weak fun Dn σ H ⟨ρ, μ, R, rp, h⟩ => ⟨ρ, μ, R, rp, (Ou.bs h).mono fun x μ1 h1 v1 H1 R1 e1 s1 d1 => h1 σ H1 R1 e1 (rp.go e1 s1)⟩
theorem ss_if {bA bB : List Stmt} {tc : VT} (hc : ST X B EP c tc) (ha : SSs X B EP bA t) (hb : SSs X B EP bB u) : SS X B EP (.If c bA bB pos) (sIf tc t u) :=
  (ps_if hc ha hb).weak fun Dn σ H ⟨ρ, μ, R, rp, h⟩ => ⟨ρ, μ, R, rp, (Ou.bs h).mono fun k μ1 h1 H1 R1 e1 s1 => by
    cases k with
    | true => exact ⟨ρ, μ1, R1, rp.go e1 s1, OuS.pre h1 e1⟩
    | false => exact ⟨ρ, μ1, R1, rp.go e1 s1, OuS.pre h1 e1⟩⟩
theorem ss_par {i j : Nat} {x y : Str} {px py pt : Pos} {kt k2 pt2} {tr : VA} (hc : X.calm = true) (hN : X.N.Nodup) (hi : X.N[i]? = some x) (hj : X.N[j]? = some y) (hij : i ≠ j)
    (hx : X.env.scope.names.lookup x = some .local) (hy : X.env.scope.names.lookup y = some .local) (ha : SA X B EP [a, b] tr)
    (hw : swappedStores [.Tuple [.Name x px, .Name y py] kt pt] (.Tuple [a, b] k2 pt2) X.env = pure (some [x, y])) :
    SS X B EP (.Assign [.Tuple [.Name x px, .Name y py] kt pt] (.Tuple [a, b] k2 pt2) pos) (sPar i j tr) :=
  (ps_par hc hN hi hj hij hx hy ha hw).weak fun Dn σ H ⟨ρ, μ, R, rp, h⟩ => ⟨ρ, μ, R, rp, (Ou.bs h).mono fun xs μ1 h1 vs H1 R1 e1 s1 d1 => by
    split at h1
    · obtain ⟨v, w, rfl, dv, dw⟩ := dv2 d1
      refine ⟨v, w, rfl, h1 _ H1 R1 e1 ?_⟩
      exact ((rp.go e1 s1).set dv).set dw
    · exact h1.elim⟩
theorem ss_par3 {i j l : Nat} {x y z : Str} {px py pz pt : Pos} {kt k2 pt2} {tr : VA} (hc : X.calm = true) (hN : X.N.Nodup) (hi : X.N[i]? = some x) (hj : X.N[j]? = some y) (hl : X.N[l]? = some z) (hij : i ≠ j) (hil : i ≠ l) (hjl : j ≠ l)
    (hx : X.env.scope.names.lookup x = some .local) (hy : X.env.scope.names.lookup y = some .local) (hz : X.env.scope.names.lookup z = some .local) (ha : SA X B EP [a, b, c] tr)
    (hw : swappedStores [.Tuple [.Name x px, .Name y py, .Name z pz] kt pt] (.Tuple [a, b, c] k2 pt2) X.env = pure (some [x, y, z])) :
    SS X B EP (.Assign [.Tuple [.Name x px, .Name y py, .Name z pz] kt pt] (.Tuple [a, b, c] k2 pt2) pos) (sPar3 i j l tr) :=
  (ps_par3 hc hN hi hj hl hij hil hjl hx hy hz ha hw).weak fun Dn σ H ⟨ρ, μ, R, rp, h⟩ => ⟨ρ, μ, R, rp, (Ou.bs h).mono fun xs μ1 h1 vs H1 R1 e1 s1 d1 => by
    split at h1
    · cases d1 with
      | cons q1 r1 =>
        obtain ⟨v, w, rfl, dv, dw⟩ := dv2 r1
        refine ⟨_, v, w, rfl, h1 _ H1 R1 e1 ?_⟩
        exact (((rp.go e1 s1).set q1).set dv).set dw
    · exact h1.elim⟩
end
end VL
end
section
set_option linter.all false
set_option maxRecDepth 100000
set_option maxHeartbeats 2000000
namespace VL
open PySem L2

/-- k: a list | a tuple -/
def SqK (k : Bool) (K : PySem.W.Frag) (H : Hp) (a : Addr) (xs : List V) : Prop := match k with
  | true => SqL K H a xs
  | false => SqT K H a xs
def IsIt (k : Bool) (h : Heap) (it a : Addr) (i : Nat) : Prop := match k with
  | true => h.IsListIter it a i
  | false => h.IsTupleIter it a i
def IsSq (k : Bool) (h : Heap) (a : Addr) (items : Array Value) : Prop := match k with
  | true => h.IsList a items
  | false => h.IsTuple a items
theorem IsIt.at {k : Bool} {h h' : Heap} {it a : Addr} {i : Nat} (x : IsIt k h it a i) (e : ∀ o, h.get? it = some o → h'.get? it = some o) : IsIt k h' it a i := by
  cases k with
  | true => exact Heap.IsListIter.at x e
  | false => exact Heap.IsTupleIter.at x e
theorem IsIt.obj {k : Bool} {h : Heap} {it a : Addr} {i : Nat} (x : IsIt k h it a i) : ∃ o, h.get? it = some o ∧ ∀ v, o.data ≠ .cell v := by
  cases k with
  | true => obtain ⟨o, e, _, d⟩ := (show h.IsListIter it a i from x); exact ⟨o, e, fun v q => by rw [d] at q; cases q⟩
  | false => obtain ⟨o, e, _, d⟩ := (show h.IsTupleIter it a i from x); exact ⟨o, e, fun v q => by rw [d] at q; cases q⟩
theorem IsSq.lt {k : Bool} {h : Heap} {a : Addr} {items : Array Value} (x : IsSq k h a items) : a < h.objs.size := by
  cases k with
  | true => obtain ⟨_, e, _⟩ := (show h.IsList a items from x); exact Heap.lt_size e
  | false => obtain ⟨_, e, _⟩ := (show h.IsTuple a items from x); exact Heap.lt_size e
theorem drawsK {prog : Program} {w : World} {A : Around} (hh : A.handled = none) (k : Bool) (it a : Addr) (hne : a ≠ it) (items : Array Value) :
    Draws prog w A it [it, a] items.size (fun i v => items[i]? = some v) (fun i h => IsIt k h it a i ∧ IsSq k h a items) := by
  cases k with
  | true => exact Draws.list hh it a hne items
  | false => exact Draws.tuple hh it a hne items
def itObj (k : Bool) (a : Addr) : Obj := match k with
  | true => { cls := .type "list_iterator", data := .fields #[.ref a, .int 0 0] }
  | false => { cls := .type "tuple_iterator", data := .fields #[.ref a, .int 0 0] }
theorem beginsK (k : Bool) (a : Addr) (items : Array Value) : Begins (.ref a) (itObj k a) (fun h => IsSq k h a items) := by
  cases k with
  | true => exact begins_list a items
  | false => exact begins_tuple a items
theorem isIt_of {k : Bool} {h : Heap} {it a : Addr} (e : h.get? it = some (itObj k a)) : IsIt k h it a 0 := by
  cases k with
  | true => exact ⟨_, e, rfl, rfl⟩
  | false => exact ⟨_, e, rfl, rfl⟩
section
variable {X : Cx} {pins : List (Addr × Obj)} {σ : St} {H : Hp} {s : Shared} {a : Addr} {xs ys : List V}
theorem _root_.L2.Inv.seqK {k : Bool} (I : Inv X pins σ H s) (h : SqK k X.K H a xs) : ∃ its : List Value, Vals xs its ∧ IsSq k s.heap a its.toArray ∧ xs.length ≤ sizeLine := by
  cases k with
  | true => obtain ⟨its, r, p, z⟩ := I.list h; exact ⟨its, r, p.isList, z⟩
  | false => obtain ⟨its, r, p, z⟩ := I.tuple h; exact ⟨its, r, (show s.heap.IsTuple a its.toArray from p), z⟩
theorem _root_.L2.Inv.seqK_inj {k : Bool} (I : Inv X pins σ H s) (h : SqK k X.K H a xs) (h' : SqK k X.K H a ys) : xs = ys := by
  cases k with
  | true => exact I.list_inj h h'
  | false => exact I.tuple_inj h h'
end

def ItzK (K : PySem.W.Frag) (k1 : Bool) (a : Addr) (k2 : Bool) (b : Addr) : It :=
  ⟨fun i H => ∃ (xs ys : List V) (x y : V), SqK k1 K H a xs ∧ SqK k2 K H b ys ∧ xs[i]? = some x ∧ ys[i]? = some y,
    fun i H v H' => ∃ T x y, v = .ref T ∧ H T = none ∧ H' = upd H T (.tup [x, y]) ∧ (∀ xs, SqK k1 K H a xs → xs[i]? = some x) ∧ ∀ ys, SqK k2 K H b ys → ys[i]? = some y,
    fun i H => ∃ xs ys : List V, SqK k1 K H a xs ∧ SqK k2 K H b ys ∧ min xs.length ys.length = i⟩
theorem turn_zipK {P : Program} {w : World} {K : PySem.W.Frag} {elts : List Expr} {kk : Nat} {tpos : Pos} {k1 k2 : Bool} {a b z TI TO i1 i2 : Addr} (S : ZipSep2 z TI TO i1 i2 [i1, a] [i2, b]) (na : a ≠ i1) (nb : b ≠ i2) :
    Turn P w K (.Tuple elts kk tpos) (ItzK K k1 a k2 b) [z, TI, TO, i1, i2] z (fun i h => IsZip h z TI TO .none ∧ IsTupOf2 h TI (.ref i1) (.ref i2) ∧ (∃ x y, IsTupOf2 h TO x y) ∧ IsIt k1 h i1 a i ∧ IsIt k2 h i2 b i) where
  mem := by simp
  obj := fun i h st c hc => by
    obtain ⟨hz, hTI, ⟨x, y, hTO⟩, h1, h2⟩ := st
    have e' : c = z ∨ c = TI ∨ c = TO ∨ c = i1 ∨ c = i2 := by simpa using hc
    rcases e' with q | q | q | q | q
    · rw [q]; exact ⟨_, hz, fun v q => nomatch q⟩
    · rw [q]; exact ⟨_, hTI, fun v q => nomatch q⟩
    · rw [q]; exact ⟨_, hTO, fun v q => nomatch q⟩
    · rw [q]; exact h1.obj
    · rw [q]; exact h2.obj
  keep := fun i h h' st k => by
    obtain ⟨hz, hTI, ⟨x, y, hTO⟩, h1, h2⟩ := st
    exact ⟨k z (by simp) _ hz, k TI (by simp) _ hTI, ⟨x, y, k TO (by simp) _ hTO⟩, h1.at fun o q => k i1 (by simp) o q, h2.at fun o q => k i2 (by simp) o q⟩
  item := by
    intro X hP hw hK hc i pins s σ H E I hf st hg
    subst hP hw hK
    obtain ⟨xs, ys, x, y, hqx, hqy, hx, hy⟩ := hg
    obtain ⟨its, rv, p, _⟩ := I.seqK hqx
    obtain ⟨its2, rv2, p2, _⟩ := I.seqK hqy
    obtain ⟨u, hu, ru⟩ := rv.get hx
    obtain ⟨u2, hu2, ru2⟩ := rv2.get hy
    have hh : X.A.in1.handled = none := I.ok.hd hc
    have D1 := drawsK (prog := X.prog) (w := X.w) (A := X.A.in1) hh k1 i1 a na its.toArray
    have D2 := drawsK (prog := X.prog) (w := X.w) (A := X.A.in1) hh k2 i2 b nb its2.toArray
    have G := GoesN.zip2 (elts := elts) (x1 := kk) (pos := tpos) S D1 D2
    have lt : ∀ c ∈ [z, TI, TO, i1, i2], c < s.heap.objs.size := fun c hcm => by
      obtain ⟨hz, hTI, ⟨x0, y0, hTO⟩, h1, h2⟩ := st
      have e' : c = z ∨ c = TI ∨ c = TO ∨ c = i1 ∨ c = i2 := by simpa using hcm
      rcases e' with q | q | q | q | q
      · rw [q]; exact Heap.lt_size hz
      · rw [q]; exact Heap.lt_size hTI
      · rw [q]; exact Heap.lt_size hTO
      · rw [q]; obtain ⟨_, e1, _⟩ := h1.obj; exact Heap.lt_size e1
      · rw [q]; obtain ⟨_, e2, _⟩ := h2.obj; exact Heap.lt_size e2
    have hi : i < min its.toArray.size its2.toArray.size := by
      have a1 := (List.getElem?_eq_some_iff.mp hu).1
      have a2 := (List.getElem?_eq_some_iff.mp hu2).1
      simp; omega
    have fin := G.goes i s (fun v s2 => ∃ x H', L2.Inv X pins σ H' s2 ∧ RelV x v ∧ (ItzK X.K k1 a k2 b).yld i H x H' ∧ (IsZip s2.heap z TI TO .none ∧ IsTupOf2 s2.heap TI (.ref i1) (.ref i2) ∧ (∃ x y, IsTupOf2 s2.heap TO x y) ∧ IsIt k1 s2.heap i1 a (i + 1) ∧ IsIt k2 s2.heap i2 b (i + 1)) ∧ ∀ b ∈ [z, TI, TO, i1, i2], H' b = none) E hi ⟨st.1, st.2.1, st.2.2.1, ⟨st.2.2.2.1, p⟩, ⟨st.2.2.2.2, p2⟩⟩ fun v h' tk hY hst hk _ => ?_
    · exact thn fin fun r s1 ⟨v, hr, q⟩ => ⟨v, hr, q⟩
    · obtain ⟨T, v1, v2, rfl, hT, e1, e2, hTT⟩ := hY
      have w1 : v1 = u := by
        rw [List.getElem?_toArray, hu] at e1; exact (Option.some.inj e1).symm
      have w2 : v2 = u2 := by
        rw [List.getElem?_toArray, hu2] at e2; exact (Option.some.inj e2).symm
      subst w1 w2
      have new : ObjOk X.prog X.w (upd H T (.tup [x, y])) h' T (.tup [x, y]) :=
        ⟨by show 2 ≤ sizeLine; decide, [v1, v2], .cons ru (.cons ru2 .nil), hTT⟩
      have I1 : L2.Inv X pins σ (upd H T (.tup [x, y])) { s with heap := h', toks := tk } :=
        I.turnedNew (t' := tk) (ch := [z, TI, TO, i1, i2]) (fun c o hb q => hk c o (fun z => hb (by simp at z; rcases z with z | z | z | z <;> simp [z])) q) hf hT new
      refine ⟨.ref T, _, I1, rfl, ⟨T, x, y, rfl, I.hok.fresh hT, rfl, fun l hl => by rw [I.seqK_inj hl hqx]; exact hx, fun l hl => by rw [I.seqK_inj hl hqy]; exact hy⟩, ⟨hst.1, hst.2.1, hst.2.2.1, hst.2.2.2.1.1, hst.2.2.2.2.1⟩, fun c hcm => ?_⟩
      rw [upd_ne (Nat.ne_of_lt (Nat.lt_of_lt_of_le (lt c hcm) hT))]
      exact (hf c hcm).1
  done := by
    intro X hP hw hK hc i pins s σ H E I hf st hg
    subst hP hw hK
    obtain ⟨xs, ys, hqx, hqy, hend⟩ := hg
    obtain ⟨its, rv, p, _⟩ := I.seqK hqx
    obtain ⟨its2, rv2, p2, _⟩ := I.seqK hqy
    have l1 := rv.length
    have l2 := rv2.length
    have hh : X.A.in1.handled = none := I.ok.hd hc
    have D1 := drawsK (prog := X.prog) (w := X.w) (A := X.A.in1) hh k1 i1 a na its.toArray
    have D2 := drawsK (prog := X.prog) (w := X.w) (A := X.A.in1) hh k2 i2 b nb its2.toArray
    have G := GoesN.zip2 (elts := elts) (x1 := kk) (pos := tpos) S D1 D2
    have hi : min its.toArray.size its2.toArray.size = i := by
      rw [← hend]; simp [l1, l2]
    refine G.stops s _ E (by rw [hi]; exact ⟨st.1, st.2.1, st.2.2.1, ⟨st.2.2.2.1, p⟩, ⟨st.2.2.2.2, p2⟩⟩) fun h' tk hk _ => ?_
    exact I.turnedL (t' := tk) (ch := [z, TI, TO, i1, i2]) (fun c o hb q => hk c o (fun z => hb (by simp at z; rcases z with z | z | z | z <;> simp [z])) q) hf
  self := fun A i s Q E st h => wpAny_pyIter_zip st.1 h
def iZipK (K : PySem.W.Frag) (ta : TA) : TI := fun σ H R => ta σ H fun vs H1 => ∃ k1 a k2 b xs ys, vs = [.ref a, .ref b] ∧ SqK k1 K H1 a xs ∧ SqK k2 K H1 b ys ∧ R (ItzK K k1 a k2 b) H1
theorem pi_zipK {X : Cx} {e e2 : Expr} {ta : TA} {p pos tpos : Pos} {elts : List Expr} {kk : Nat} (hg : Gl X "zip") (hm : X.mg "zip" = none) (ha : PA X [e, e2] ta)
    (hs : starEach [e, e2] X.env = (false, eval e X.env) :: starEach [e2] X.env) (hpl : (backTo pos (starEach [e2] X.env)).any (·.1) = false) :
    PI X (.Tuple elts kk tpos) (.Call (.Name "zip" p) [e, e2] [] pos) (iZipK X.K ta) := by
  refine ⟨fun pins s σ H R I h => ?_⟩
  refine PyProof.Rows.Call_ (ld_blt I hg hm PyProof.Rows.boot_zip (PyProof.Rows.callWith_type1 (thn (ha.run pos pins s σ H _ I h) fun us s1 ⟨vs, H1, I1, r1, q1⟩ => ?_) hs hpl))
  obtain ⟨k1, a, k2, b, xs, ys, ex, hqx, hqy, q⟩ := q1
  subst ex
  cases r1 with
  | cons r rr =>
    cases rr with
    | cons r' rr =>
      cases rr
      cases r
      cases r'
      have fresh5 : ∀ c, c ∈ [s1.heap.objs.size + 4, s1.heap.objs.size + 2, s1.heap.objs.size + 3, s1.heap.objs.size, s1.heap.objs.size + 1] → FpOk X pins H1 c := fun c hcm => by
        have e' : c = s1.heap.objs.size + 4 ∨ c = s1.heap.objs.size + 2 ∨ c = s1.heap.objs.size + 3 ∨ c = s1.heap.objs.size ∨ c = s1.heap.objs.size + 1 := by simpa using hcm
        have hle : s1.heap.objs.size ≤ c := by
          rcases e' with z | z | z | z | z
          · rw [z]; exact Nat.le_add_right _ _
          · rw [z]; exact Nat.le_add_right _ _
          · rw [z]; exact Nat.le_add_right _ _
          · rw [z]; exact Nat.le_refl _
          · rw [z]; exact Nat.le_add_right _ _
        exact I1.fpOk hle (I1.hok.fresh hle)
      obtain ⟨its, rv, p1, _⟩ := I1.seqK hqx
      obtain ⟨its2, rv2, p2, _⟩ := I1.seqK hqy
      refine zip_begins2 (beginsK k1 a its.toArray) (beginsK k2 b its2.toArray) p1 p2 fun h' hz hTI hTO h1 h2 hsz hk => wpAny_pyIter_zip hz ?_
      have I2 : L2.Inv X pins σ H1 { s1 with heap := h' } := I1.kept (t' := s1.toks) hk
      have S := zip_sep2 (N := s1.heap.objs.size) (fp1 := [a]) (fp2 := [b]) (by simpa using p1.lt) (by simpa using p2.lt)
      exact ⟨s1.heap.objs.size + 4, [s1.heap.objs.size + 4, s1.heap.objs.size + 2, s1.heap.objs.size + 3, s1.heap.objs.size, s1.heap.objs.size + 1], _, _, H1, rfl, I2, turn_zipK S (Nat.ne_of_lt p1.lt) (Nat.ne_of_lt (Nat.lt_succ_of_lt p2.lt)), ⟨hz, hTI, ⟨_, _, hTO⟩, isIt_of h1, isIt_of h2⟩, fresh5, q⟩
def Itz3 (K : PySem.W.Frag) (k1 : Bool) (a : Addr) (k2 : Bool) (b : Addr) (k3 : Bool) (c : Addr) : It :=
  ⟨fun i H => ∃ (xs ys zs : List V) (x y z : V), SqK k1 K H a xs ∧ SqK k2 K H b ys ∧ SqK k3 K H c zs ∧ xs[i]? = some x ∧ ys[i]? = some y ∧ zs[i]? = some z,
    fun i H v H' => ∃ T x y z, v = .ref T ∧ H T = none ∧ H' = upd H T (.tup [x, y, z]) ∧ (∀ xs, SqK k1 K H a xs → xs[i]? = some x) ∧ (∀ ys, SqK k2 K H b ys → ys[i]? = some y) ∧ ∀ zs, SqK k3 K H c zs → zs[i]? = some z,
    fun i H => ∃ xs ys zs : List V, SqK k1 K H a xs ∧ SqK k2 K H b ys ∧ SqK k3 K H c zs ∧ min (min xs.length ys.length) zs.length = i⟩
theorem turn_zip3K {P : Program} {w : World} {K : PySem.W.Frag} {elts : List Expr} {kk : Nat} {tpos : Pos} {k1 k2 k3 : Bool} {a b c z TI TO i1 i2 i3 : Addr} (S : ZipSep3 z TI TO i1 i2 i3 [i1, a] [i2, b] [i3, c]) (na : a ≠ i1) (nb : b ≠ i2) (nc : c ≠ i3) :
    Turn P w K (.Tuple elts kk tpos) (Itz3 K k1 a k2 b k3 c) [z, TI, TO, i1, i2, i3] z (fun i h => IsZip h z TI TO .none ∧ IsTupOf3 h TI (.ref i1) (.ref i2) (.ref i3) ∧ (∃ x y u, IsTupOf3 h TO x y u) ∧ IsIt k1 h i1 a i ∧ IsIt k2 h i2 b i ∧ IsIt k3 h i3 c i) where
  mem := by simp
  obj := fun i h st d hc => by
    obtain ⟨hz, hTI, ⟨x, y, u, hTO⟩, h1, h2, h3⟩ := st
    have e' : d = z ∨ d = TI ∨ d = TO ∨ d = i1 ∨ d = i2 ∨ d = i3 := by simpa using hc
    rcases e' with q | q | q | q | q | q
    · rw [q]; exact ⟨_, hz, fun v q => nomatch q⟩
    · rw [q]; exact ⟨_, hTI, fun v q => nomatch q⟩
    · rw [q]; exact ⟨_, hTO, fun v q => nomatch q⟩
    · rw [q]; exact h1.obj
    · rw [q]; exact h2.obj
    · rw [q]; exact h3.obj
  keep := fun i h h' st k => by
    obtain ⟨hz, hTI, ⟨x, y, u, hTO⟩, h1, h2, h3⟩ := st
    exact ⟨k z (by simp) _ hz, k TI (by simp) _ hTI, ⟨x, y, u, k TO (by simp) _ hTO⟩, h1.at fun o q => k i1 (by simp) o q, h2.at fun o q => k i2 (by simp) o q, h3.at fun o q => k i3 (by simp) o q⟩
  item := by
    intro X hP hw hK hc i pins s σ H E I hf st hg
    subst hP hw hK
    obtain ⟨xs, ys, zs, x, y, zz, hqx, hqy, hqz, hx, hy, hz0⟩ := hg
    obtain ⟨its, rv, p, _⟩ := I.seqK hqx
    obtain ⟨its2, rv2, p2, _⟩ := I.seqK hqy
    obtain ⟨its3, rv3, p3, _⟩ := I.seqK hqz
    obtain ⟨u, hu, ru⟩ := rv.get hx
    obtain ⟨u2, hu2, ru2⟩ := rv2.get hy
    obtain ⟨u3, hu3, ru3⟩ := rv3.get hz0
    have hh : X.A.in1.handled = none := I.ok.hd hc
    have D1 := drawsK (prog := X.prog) (w := X.w) (A := X.A.in1) hh k1 i1 a na its.toArray
    have D2 := drawsK (prog := X.prog) (w := X.w) (A := X.A.in1) hh k2 i2 b nb its2.toArray
    have D3 := drawsK (prog := X.prog) (w := X.w) (A := X.A.in1) hh k3 i3 c nc its3.toArray
    have G := GoesN.zip3 (elts := elts) (x1 := kk) (pos := tpos) S D1 D2 D3
    have lt : ∀ d ∈ [z, TI, TO, i1, i2, i3], d < s.heap.objs.size := fun d hcm => by
      obtain ⟨hz, hTI, ⟨x0, y0, _, hTO⟩, h1, h2, h3⟩ := st
      have e' : d = z ∨ d = TI ∨ d = TO ∨ d = i1 ∨ d = i2 ∨ d = i3 := by simpa using hcm
      rcases e' with q | q | q | q | q | q
      · rw [q]; exact Heap.lt_size hz
      · rw [q]; exact Heap.lt_size hTI
      · rw [q]; exact Heap.lt_size hTO
      · rw [q]; obtain ⟨_, e1, _⟩ := h1.obj; exact Heap.lt_size e1
      · rw [q]; obtain ⟨_, e2, _⟩ := h2.obj; exact Heap.lt_size e2
      · rw [q]; obtain ⟨_, e2, _⟩ := h3.obj; exact Heap.lt_size e2
    have hi : i < min (min its.toArray.size its2.toArray.size) its3.toArray.size := by
      have a1 := (List.getElem?_eq_some_iff.mp hu).1
      have a2 := (List.getElem?_eq_some_iff.mp hu2).1
      have a3 := (List.getElem?_eq_some_iff.mp hu3).1
      simp; omega
    have fin := G.goes i s (fun v s2 => ∃ x H', L2.Inv X pins σ H' s2 ∧ RelV x v ∧ (Itz3 X.K k1 a k2 b k3 c).yld i H x H' ∧ (IsZip s2.heap z TI TO .none ∧ IsTupOf3 s2.heap TI (.ref i1) (.ref i2) (.ref i3) ∧ (∃ x y u, IsTupOf3 s2.heap TO x y u) ∧ IsIt k1 s2.heap i1 a (i + 1) ∧ IsIt k2 s2.heap i2 b (i + 1) ∧ IsIt k3 s2.heap i3 c (i + 1)) ∧ ∀ b ∈ [z, TI, TO, i1, i2, i3], H' b = none) E hi ⟨st.1, st.2.1, st.2.2.1, ⟨st.2.2.2.1, p⟩, ⟨st.2.2.2.2.1, p2⟩, ⟨st.2.2.2.2.2, p3⟩⟩ fun v h' tk hY hst hk _ => ?_
    · exact thn fin fun r s1 ⟨v, hr, q⟩ => ⟨v, hr, q⟩
    · obtain ⟨T, v1, v2, v3, rfl, hT, e1, e2, e3, hTT⟩ := hY
      have w1 : v1 = u := by
        rw [List.getElem?_toArray, hu] at e1; exact (Option.some.inj e1).symm
      have w2 : v2 = u2 := by
        rw [List.getElem?_toArray, hu2] at e2; exact (Option.some.inj e2).symm
      have w3 : v3 = u3 := by
        rw [List.getElem?_toArray, hu3] at e3; exact (Option.some.inj e3).symm
      subst w1 w2 w3
      have new : ObjOk X.prog X.w (upd H T (.tup [x, y, zz])) h' T (.tup [x, y, zz]) :=
        ⟨by show 3 ≤ sizeLine; decide, [v1, v2, v3], .cons ru (.cons ru2 (.cons ru3 .nil)), hTT⟩
      have I1 : L2.Inv X pins σ (upd H T (.tup [x, y, zz])) { s with heap := h', toks := tk } :=
        I.turnedNew (t' := tk) (ch := [z, TI, TO, i1, i2, i3]) (fun c o hb q => hk c o (fun z => hb (by simp at z; rcases z with z | z | z | z | z <;> simp [z])) q) hf hT new
      refine ⟨.ref T, _, I1, rfl, ⟨T, x, y, zz, rfl, I.hok.fresh hT, rfl, fun l hl => by rw [I.seqK_inj hl hqx]; exact hx, fun l hl => by rw [I.seqK_inj hl hqy]; exact hy, fun l hl => by rw [I.seqK_inj hl hqz]; exact hz0⟩, ⟨hst.1, hst.2.1, hst.2.2.1, hst.2.2.2.1.1, hst.2.2.2.2.1.1, hst.2.2.2.2.2.1⟩, fun c hcm => ?_⟩
      rw [upd_ne (Nat.ne_of_lt (Nat.lt_of_lt_of_le (lt c hcm) hT))]
      exact (hf c hcm).1
  done := by
    intro X hP hw hK hc i pins s σ H E I hf st hg
    subst hP hw hK
    obtain ⟨xs, ys, zs, hqx, hqy, hqz, hend⟩ := hg
    obtain ⟨its, rv, p, _⟩ := I.seqK hqx
    obtain ⟨its2, rv2, p2, _⟩ := I.seqK hqy
    obtain ⟨its3, rv3, p3, _⟩ := I.seqK hqz
    have l1 := rv.length
    have l2 := rv2.length
    have l3 := rv3.length
    have hh : X.A.in1.handled = none := I.ok.hd hc
    have D1 := drawsK (prog := X.prog) (w := X.w) (A := X.A.in1) hh k1 i1 a na its.toArray
    have D2 := drawsK (prog := X.prog) (w := X.w) (A := X.A.in1) hh k2 i2 b nb its2.toArray
    have D3 := drawsK (prog := X.prog) (w := X.w) (A := X.A.in1) hh k3 i3 c nc its3.toArray
    have G := GoesN.zip3 (elts := elts) (x1 := kk) (pos := tpos) S D1 D2 D3
    have hi : min (min its.toArray.size its2.toArray.size) its3.toArray.size = i := by
      rw [← hend]; simp [l1, l2, l3]
    refine G.stops s _ E (by rw [hi]; exact ⟨st.1, st.2.1, st.2.2.1, ⟨st.2.2.2.1, p⟩, ⟨st.2.2.2.2.1, p2⟩, ⟨st.2.2.2.2.2, p3⟩⟩) fun h' tk hk _ => ?_
    exact I.turnedL (t' := tk) (ch := [z, TI, TO, i1, i2, i3]) (fun c o hb q => hk c o (fun z => hb (by simp at z; rcases z with z | z | z | z | z <;> simp [z])) q) hf
  self := fun A i s Q E st h => wpAny_pyIter_zip st.1 h
def iZip3 (K : PySem.W.Frag) (ta : TA) : TI := fun σ H R => ta σ H fun vs H1 => ∃ k1 a k2 b k3 c xs ys zs, vs = [.ref a, .ref b, .ref c] ∧ SqK k1 K H1 a xs ∧ SqK k2 K H1 b ys ∧ SqK k3 K H1 c zs ∧ R (Itz3 K k1 a k2 b k3 c) H1
theorem pi_zip3 {X : Cx} {e e2 e3 : Expr} {ta : TA} {p pos tpos : Pos} {elts : List Expr} {kk : Nat} (hg : Gl X "zip") (hm : X.mg "zip" = none) (ha : PA X [e, e2, e3] ta)
    (hs : starEach [e, e2, e3] X.env = (false, eval e X.env) :: starEach [e2, e3] X.env) (hpl : (backTo pos (starEach [e2, e3] X.env)).any (·.1) = false) :
    PI X (.Tuple elts kk tpos) (.Call (.Name "zip" p) [e, e2, e3] [] pos) (iZip3 X.K ta) := by
  refine ⟨fun pins s σ H R I h => ?_⟩
  refine PyProof.Rows.Call_ (ld_blt I hg hm PyProof.Rows.boot_zip (PyProof.Rows.callWith_type1 (thn (ha.run pos pins s σ H _ I h) fun us s1 ⟨vs, H1, I1, r1, q1⟩ => ?_) hs hpl))
  obtain ⟨k1, a, k2, b, k3, c, xs, ys, zs, ex, hqx, hqy, hqz, q⟩ := q1
  subst ex
  cases r1 with
  | cons r rr =>
    cases rr with
    | cons r' rr =>
      cases rr with
      | cons r'' rr =>
        cases rr
        cases r
        cases r'
        cases r''
        have fresh5 : ∀ d, d ∈ [s1.heap.objs.size + 5, s1.heap.objs.size + 3, s1.heap.objs.size + 4, s1.heap.objs.size, s1.heap.objs.size + 1, s1.heap.objs.size + 2] → FpOk X pins H1 d := fun d hcm => by
          have e' : d = s1.heap.objs.size + 5 ∨ d = s1.heap.objs.size + 3 ∨ d = s1.heap.objs.size + 4 ∨ d = s1.heap.objs.size ∨ d = s1.heap.objs.size + 1 ∨ d = s1.heap.objs.size + 2 := by simpa using hcm
          have hle : s1.heap.objs.size ≤ d := by
            rcases e' with z | z | z | z | z | z
            · rw [z]; exact Nat.le_add_right _ _
            · rw [z]; exact Nat.le_add_right _ _
            · rw [z]; exact Nat.le_add_right _ _
            · rw [z]; exact Nat.le_refl _
            · rw [z]; exact Nat.le_add_right _ _
            · rw [z]; exact Nat.le_add_right _ _
          exact I1.fpOk hle (I1.hok.fresh hle)
        obtain ⟨its, rv, p1, _⟩ := I1.seqK hqx
        obtain ⟨its2, rv2, p2, _⟩ := I1.seqK hqy
        obtain ⟨its3, rv3, p3, _⟩ := I1.seqK hqz
        refine zip_begins3 (beginsK k1 a its.toArray) (beginsK k2 b its2.toArray) (beginsK k3 c its3.toArray) p1 p2 p3 fun h' hz hTI hTO h1 h2 h3 hsz hk => wpAny_pyIter_zip hz ?_
        have I2 : L2.Inv X pins σ H1 { s1 with heap := h' } := I1.kept (t' := s1.toks) hk
        have S := zip_sep3 (N := s1.heap.objs.size) (fp1 := [a]) (fp2 := [b]) (fp3 := [c]) (by simpa using p1.lt) (by simpa using p2.lt) (by simpa using p3.lt)
        exact ⟨s1.heap.objs.size + 5, [s1.heap.objs.size + 5, s1.heap.objs.size + 3, s1.heap.objs.size + 4, s1.heap.objs.size, s1.heap.objs.size + 1, s1.heap.objs.size + 2], _, _, H1, rfl, I2, turn_zip3K S (Nat.ne_of_lt p1.lt) (Nat.ne_of_lt (Nat.lt_succ_of_lt p2.lt)) (Nat.ne_of_lt (Nat.lt_succ_of_lt (Nat.lt_succ_of_lt p3.lt))), ⟨hz, hTI, ⟨_, _, _, hTO⟩, isIt_of h1, isIt_of h2, isIt_of h3⟩, fresh5, q⟩
def IteK (K : PySem.W.Frag) (k : Bool) (a : Addr) : It :=
  ⟨fun i H => ∃ (xs : List V) (x : V), SqK k K H a xs ∧ xs[i]? = some x, fun i H v H' => ∃ T x, v = .ref T ∧ H T = none ∧ H' = upd H T (.tup [.int (i : Nat), x]) ∧ ∀ xs, SqK k K H a xs → xs[i]? = some x, fun i H => ∃ xs : List V, SqK k K H a xs ∧ xs.length = i⟩
theorem turn_enumK {P : Program} {w : World} {K : PySem.W.Frag} {elts : List Expr} {kk : Nat} {tpos : Pos} {k : Bool} {a e it : Addr} (ne : e ≠ it) (na : a ≠ it) (nea : e ≠ a) :
    Turn P w K (.Tuple elts kk tpos) (IteK K k a) [e, it] e (fun i h => (∃ old, IsEnum h e it (0 + ((i : Nat) : Int)) old) ∧ IsIt k h it a i) where
  mem := by simp
  obj := fun i h st b hb => by
    obtain ⟨⟨old, he⟩, hi⟩ := st
    have e' : b = e ∨ b = it := by simpa using hb
    rcases e' with z | z
    · rw [z]; exact ⟨_, he, fun v q => nomatch q⟩
    · rw [z]; exact hi.obj
  keep := fun i h h' st k => let ⟨⟨old, he⟩, hi⟩ := st; ⟨⟨old, k e (by simp) _ he⟩, hi.at fun o q => k it (by simp) o q⟩
  item := by
    intro X hP hw hK hc i pins s σ H E I hf st hg
    subst hP hw hK
    obtain ⟨xs, x, hq, hx⟩ := hg
    obtain ⟨its, rv, p, hz⟩ := I.seqK hq
    obtain ⟨u, hu, ru⟩ := rv.get hx
    have hh : X.A.in1.handled = none := I.ok.hd hc
    have D1 := drawsK (prog := X.prog) (w := X.w) (A := X.A.in1) hh k it a na its.toArray
    have G := GoesN.enumFrom (elts := elts) (x1 := kk) (pos := tpos) 0 D1 e ne (by simp [ne, nea]) (by simp)
    have hel : e < s.heap.objs.size := by obtain ⟨⟨_, he⟩, _⟩ := st; exact Heap.lt_size he
    have hil : it < s.heap.objs.size := by obtain ⟨_, hi⟩ := st; obtain ⟨_, e1, _⟩ := hi.obj; exact Heap.lt_size e1
    have hi : i < its.toArray.size := by
      have a1 := (List.getElem?_eq_some_iff.mp hu).1
      simpa using a1
    have fin := G.goes i s (fun v s2 => ∃ x H', L2.Inv X pins σ H' s2 ∧ RelV x v ∧ (IteK X.K k a).yld i H x H' ∧ ((∃ old, IsEnum s2.heap e it (0 + ((i + 1 : Nat) : Int)) old) ∧ IsIt k s2.heap it a (i + 1)) ∧ ∀ b ∈ [e, it], H' b = none) E hi ⟨st.1, st.2, p⟩ fun v h' tk hY hst hk _ => ?_
    · exact thn fin fun r s1 ⟨v, hr, q⟩ => ⟨v, hr, q⟩
    · obtain ⟨T, t, v1, rfl, hT, e1, hTT⟩ := hY
      have w1 : v1 = u := by
        rw [List.getElem?_toArray, hu] at e1; exact (Option.some.inj e1).symm
      subst w1
      have new : ObjOk X.prog X.w (upd H T (.tup [.int (i : Nat), x])) h' T (.tup [.int (i : Nat), x]) :=
        ⟨by show 2 ≤ sizeLine; decide, [.int (0 + (i : Int)) t, v1], .cons ⟨t, by rw [Int.zero_add]⟩ (.cons ru .nil), hTT⟩
      have I1 : L2.Inv X pins σ (upd H T (.tup [.int (i : Nat), x])) { s with heap := h', toks := tk } :=
        I.turnedNew (t' := tk) (ch := [e, it]) (fun c o hb q => hk c o hb q) hf hT new
      refine ⟨.ref T, _, I1, rfl, ⟨T, x, rfl, I.hok.fresh hT, rfl, fun l hl => by rw [I.seqK_inj hl hq]; exact hx⟩, ⟨hst.1, hst.2.1⟩, fun c hcm => ?_⟩
      have hb' : c < s.heap.objs.size := by
        have e' : c = e ∨ c = it := by simpa using hcm
        rcases e' with z | z
        · rw [z]; exact hel
        · rw [z]; exact hil
      rw [upd_ne (Nat.ne_of_lt (Nat.lt_of_lt_of_le hb' hT))]
      exact (hf c hcm).1
  done := by
    intro X hP hw hK hc i pins s σ H E I hf st hg
    subst hP hw hK
    obtain ⟨xs, hq, hend⟩ := hg
    obtain ⟨its, rv, p, hz⟩ := I.seqK hq
    have l1 := rv.length
    have hh : X.A.in1.handled = none := I.ok.hd hc
    have D1 := drawsK (prog := X.prog) (w := X.w) (A := X.A.in1) hh k it a na its.toArray
    have G := GoesN.enumFrom (elts := elts) (x1 := kk) (pos := tpos) 0 D1 e ne (by simp [ne, nea]) (by simp)
    have hi : its.toArray.size = i := by rw [← hend]; simp [l1]
    refine G.stops s _ E (by rw [hi]; exact ⟨st.1, st.2, p⟩) fun h' tk hk _ => ?_
    exact I.turnedL (t' := tk) (ch := [e, it]) (fun c o hb q => hk c o hb q) hf
  self := fun A i s Q E st h => let ⟨⟨_, he⟩, _⟩ := st; wpAny_pyIter_enum he h
def iEnumK (K : PySem.W.Frag) (ta : TA) : TI := fun σ H R => ta σ H fun vs H1 => ∃ k a xs, vs = [.ref a] ∧ SqK k K H1 a xs ∧ R (IteK K k a) H1
end VL
end
section
set_option linter.all false
set_option maxRecDepth 100000
set_option maxHeartbeats 2000000
namespace VL
open PySem L2

theorem meets_enum1 {v : Value} {o : Obj} {H : Heap → Prop} (B : Begins v o H) :
    Meets (Builtin.«enumerate.__new__» ⟨[.type "enumerate", v], []⟩) (fun _ R s => H s.heap ∧
      R (.ok (.ret (.ref (s.heap.push o).objs.size))) { s with heap := (s.heap.push o).push { cls := .type "enumerate", data := .fields #[.none, .bool false, .ref s.heap.objs.size, rawInt 0, .none, .none] } }) :=
  .of_wp fun prog w A R s h => by
    obtain ⟨hp, g, d, tk, os⟩ := s; obtain ⟨h1, h⟩ := h
    have hsub := sub_enumerate
    have q1 : ∀ {A' : Around} {E : Value → Shared → Prop} {Q : Value → Shared → Prop}, Q (.ref hp.objs.size) ⟨hp.push o, g, d, tk, os⟩ → wpAny (model prog w) A' (pyIter v) Q E ⟨hp, g, d, tk, os⟩ :=
      fun q => B.iter prog w _ _ ⟨hp, g, d, tk, os⟩ _ h1 q
    wp_walk using q1
    refine wpAny_stack_any fun st => wpAny_pure ?_
    split
    · rename_i c _ _ _ _ _
      cases (c == Value.type "enumerate")
      · wp_walk using q1
        exact ⟨_, rfl, h⟩
      · wp_walk using q1
        exact ⟨_, rfl, h⟩
    · wp_walk using q1
      exact ⟨_, rfl, h⟩
theorem enum_begins1 {prog : Program} {w : World} {A : Around} {E : Value → Shared → Prop} {s : Shared} {v : Value} {o : Obj} {H : Heap → Prop} {Q : Value → Shared → Prop} (B : Begins v o H) (h1 : H s.heap)
    (h : ∀ h', IsEnum h' (s.heap.objs.size + 1) s.heap.objs.size 0 .none → h'.get? s.heap.objs.size = some o → h'.objs.size = s.heap.objs.size + 2 →
      (∀ b o, s.heap.get? b = some o → h'.get? b = some o) → Q (.ref (s.heap.objs.size + 1)) { s with heap := h' }) :
    wpAny (model prog w) A (call (.type "enumerate") [v]) Q E s := by
  refine callType_new F.called_enumerate (by decide) (F.typeCall_enumerate_1 _) (F.newCall_enumerate_1 _) (fun obj => F.args_object_init_2 obj _) F.entry_enumerate_new
    (meets_enum1 B) ⟨h1, ?_⟩
  have hz : (s.heap.push o).objs.size = s.heap.objs.size + 1 := Heap.size_push ..
  show _ ∧ _
  rw [hz]
  have he : IsEnum ((s.heap.push o).push { cls := .type "enumerate", data := .fields #[.none, .bool false, .ref s.heap.objs.size, rawInt 0, .none, .none] }) (s.heap.objs.size + 1) s.heap.objs.size 0 .none := by
    have := Heap.get?_push_size (s.heap.push o) (o := { cls := .type "enumerate", data := .fields #[.none, .bool false, .ref s.heap.objs.size, rawInt 0, .none, .none] }) rfl
    rw [hz] at this; exact this
  refine ⟨⟨_, he, rfl⟩, h _ he (Heap.get?_push_of_some _ (Heap.get?_push_size _ B.free)) (by rw [Heap.size_push, hz]) fun b o x => Heap.get?_push_of_some _ (Heap.get?_push_of_some _ x)⟩
theorem pi_enumK {X : Cx} {e : Expr} {ta : TA} {p pos tpos : Pos} {elts : List Expr} {kk : Nat} (hg : Gl X "enumerate") (hm : X.mg "enumerate" = none) (ha : PA X [e] ta) (hs : starEach [e] X.env = [(false, eval e X.env)]) :
    PI X (.Tuple elts kk tpos) (.Call (.Name "enumerate" p) [e] [] pos) (iEnumK X.K ta) := by
  refine ⟨fun pins s σ H R I h => ?_⟩
  refine PyProof.Rows.Call_ (ld_blt I hg hm PyProof.Rows.boot_enumerate (PyProof.Rows.callWith_type1 (thn (ha.run pos pins s σ H _ I h) fun us s1 ⟨vs, H1, I1, r1, q1⟩ => ?_) hs rfl))
  obtain ⟨k, a, xs, ex, hq, q⟩ := q1
  subst ex
  cases r1 with
  | cons r rr =>
    cases rr
    cases r
    obtain ⟨its, rv, p', hz⟩ := I1.seqK hq
    refine enum_begins1 (beginsK k a its.toArray) p' fun h' he hit hsz hk => wpAny_pyIter_enum he ?_
    have I2 : L2.Inv X pins σ H1 { s1 with heap := h' } := I1.kept (t' := s1.toks) hk
    refine ⟨s1.heap.objs.size + 1, [s1.heap.objs.size + 1, s1.heap.objs.size], _, _, H1, rfl, I2, turn_enumK (a := a) (k := k) (Nat.succ_ne_self _) (Nat.ne_of_lt p'.lt) (fun z => absurd p'.lt (by rw [← z]; exact Nat.not_lt.mpr (Nat.le_succ _))), ⟨⟨.none, he⟩, isIt_of hit⟩, fun b hb => ?_, q⟩
    have e' : b = s1.heap.objs.size + 1 ∨ b = s1.heap.objs.size := by simpa using hb
    have hle : s1.heap.objs.size ≤ b := by
      rcases e' with z | z
      · rw [z]; exact Nat.le_add_right _ _
      · rw [z]; exact Nat.le_refl _
    exact I1.fpOk hle (I1.hok.fresh hle)

def JOk (K : PySem.W.Frag) (mg : Str → Option Value) (R1 : Rg) (H1 : Hp) (J : It) (w : Wk) : Prop := ∀ (i : Nat) (H : Hp) (R : Rg) (μ : Mu), (Ex2 R1 H1 R H ∨ ∃ D0 o, H1 D0 = none ∧ Exd D0 (R1.priv D0) (L2.upd H1 D0 o) R H) → Sto K mg μ H R → w.holds μ →
  (∀ d, w.items[i]? = some d → J.go i H ∧ ∀ x H', J.yld i H x H' → Ex2 R H R H' ∧ Sto K mg μ H' R ∧ DV K mg H' R x d) ∧ (i = w.items.length → J.stop i H)
def lI (K : PySem.W.Frag) (mg : Str → Option Value) (B : Base) (EP : Ro → Ex → Mu → Prop) (t : VI) : TI := fun σ H Rk => ∃ ρ μ R, Rp K mg B ρ μ σ H R ∧ Ou (t ρ μ) (fun w μ' => ∀ J H' R', Ex2 R H R' H' → Sto K mg μ' H' R' → JOk K mg R' H' J w → w.items.length ≤ sizeLine → Rk J H') (EP ρ)
abbrev SI (X : Cx) (B : Base) (EP : Ro → Ex → Mu → Prop) (tg e : Expr) (t : VI) : Prop := PI X tg e (lI X.K X.mg B EP t)
theorem _root_.L2.PI.weak {X : Cx} {tg e : Expr} {t t' : TI} (h : PI X tg e t) (w : ∀ σ H Q, t' σ H Q → t σ H Q) : PI X tg e t' := ⟨fun pins s σ H Q I q => h.run pins s σ H Q I (w σ H Q q)⟩
theorem _root_.L2.PI.or {X : Cx} {tg e : Expr} {t t' : TI} (h : PI X tg e t) (h' : PI X tg e t') : PI X tg e (fun σ H Q => t σ H Q ∨ t' σ H Q) := ⟨fun pins s σ H Q I q => q.elim (h.run pins s σ H Q I) (h'.run pins s σ H Q I)⟩
section
variable {K : PySem.W.Frag} {mg : Str → Option Value} {H H1 : Hp} {R R1 : Rg} {μ : Mu}
/-- what a sequence holds, later on: the same, if it is frozen or has not been changed -/
theorem seq_kept {x : V} {d : D} {xs : List D} {μ1 : Mu} (s1 : Sto K mg μ1 H1 R1) (h : DV K mg H1 R1 x d) (e : seqOf μ1 d = some xs) : ∃ k a n, x = .ref a ∧ n ≤ sizeLine ∧ xs.length = n ∧
    ∀ (H : Hp) (R : Rg) (μ : Mu), (Ex2 R1 H1 R H ∨ ∃ D0 o, H1 D0 = none ∧ Exd D0 (R1.priv D0) (L2.upd H1 D0 o) R H) → Sto K mg μ H R → (∀ p ∈ srcOf d xs, μ[p.1]? = some (.lst p.2)) → ∃ vs, SqK k K H a vs ∧ DVs K mg H R vs xs := by
  have key : ∀ {v : V} {d : D}, DV K mg H1 R1 v d → ∀ (H : Hp) (R : Rg), (Ex2 R1 H1 R H ∨ ∃ D0 o, H1 D0 = none ∧ Exd D0 (R1.priv D0) (L2.upd H1 D0 o) R H) → DV K mg H R v d := fun dv H R hx => by
    rcases hx with hx | ⟨D0, o, h0, hx⟩
    · exact dv.ext hx
    · exact DV.exd (.inr List.mem_cons_self) hx (dv.topriv h0)
  cases h with
  | non => simp [seqOf, lstOf] at e
  | bl => simp [seqOf, lstOf] at e
  | int => simp [seqOf, lstOf] at e
  | str => simp [seqOf, lstOf] at e
  | ty => simp [seqOf, lstOf] at e
  | obj => simp [seqOf, lstOf] at e
  | glob => simp [seqOf, lstOf] at e
  | @tup a vs ds h z r =>
    simp only [seqOf, Option.some.injEq] at e; subst e
    refine ⟨false, a, _, rfl, z, r.length.symm, fun H R μ hx s hs => ?_⟩
    have := key (.tup h z r) H R hx
    cases this with
    | tup h' z' r' => exact ⟨_, h'.sq, r'⟩
  | @lst a vs ds h z r =>
    simp only [seqOf, lstOf, Option.some.injEq] at e; subst e
    refine ⟨true, a, _, rfl, z, r.length.symm, fun H R μ hx s hs => ?_⟩
    have := key (.lst h z r) H R hx
    cases this with
    | lst h' z' r' => exact ⟨_, h'.sq, r'⟩
  | @scr a vs ds h z r =>
    simp only [seqOf, Option.some.injEq] at e; subst e
    refine ⟨true, a, _, rfl, z, r.length.symm, fun H R μ hx s hs => ?_⟩
    have := key (.scr h z r) H R hx
    cases this with
    | scr h' z' r' => exact ⟨_, h'.sq, r'⟩
  | @ref n a h =>
    obtain ⟨a', vs, h0, h1, h2, h3⟩ := lst_at s1 (.ref h) (by simpa only [seqOf] using e)
    cases h0
    refine ⟨true, a, _, rfl, h2, h3.length.symm, fun H R μ hx s hs => ?_⟩
    have hm := hs (n, xs) (by simp [srcOf])
    have := key (.ref h) H R hx
    cases this with
    | ref h' =>
      obtain ⟨a', ha', ws, g1, g2, g3⟩ := s.at hm
      rw [h'] at ha'; cases ha'
      exact ⟨ws, .inl (.inl g1), g3⟩
theorem sqK_inj {k : Bool} {a : Addr} {xs ys : List V} {X : Cx} {pins : List (Addr × Obj)} {σ : St} {s : Shared} (I : L2.Inv X pins σ H s) (h : SqK k X.K H a xs) (h' : SqK k X.K H a ys) : xs = ys := I.seqK_inj h h'
theorem Wk.holds_app {s1 s2 : List (Nat × List D)} {items : List D} (h : Wk.holds ⟨s1 ++ s2, items⟩ μ) : (∀ p ∈ s1, μ[p.1]? = some (.lst p.2)) ∧ ∀ p ∈ s2, μ[p.1]? = some (.lst p.2) :=
  ⟨fun p hp => h p (List.mem_append_left _ hp), fun p hp => h p (List.mem_append_right _ hp)⟩
end
def ItK (K : PySem.W.Frag) (k : Bool) (a : Addr) : It := match k with
  | true => Itl K a
  | false => Itt K a
section
variable {X : Cx} {B : Base} {EP : Ro → Ex → Mu → Prop} {a b c e tg : Expr} {es : List Expr} {ta : VE} {tr : VA} {pos : Pos}
theorem si_seq (he : SE X B EP e ta) : SI X B EP tg e (iSeq ta) :=
  ((pi_list (tg := tg) he).or (pi_tup he)).weak fun σ H Q ⟨ρ, μ, R, rp, h⟩ => by
    unfold iSeq at h
    have h' := Ou.bd h
    cases et : ta ρ μ with
    | none => rw [et] at h'; exact h'.elim
    | some r =>
      cases r with
      | er x m => rw [et] at h'; exact .inl ⟨ρ, μ, R, rp, by rw [et]; exact h'⟩
      | ok d μ1 =>
        rw [et] at h'
        simp only [Ou] at h'
        cases hq : seqOf μ1 d with
        | none => rw [hq] at h'; exact h'.elim
        | some xs =>
          rw [hq] at h'
          by_cases ht : ∃ ys, d = .tup ys
          · obtain ⟨ys, rfl⟩ := ht
            simp only [seqOf, Option.some.injEq] at hq; subst hq
            refine .inr ⟨ρ, μ, R, rp, ?_⟩
            rw [et]; intro v1 H1 R1 e1 s1 d1
            obtain ⟨k, a, n, ev, hn, hl, kept⟩ := seq_kept s1 d1 (by rfl)
            cases d1 with
            | @tup a0 vs _ h1 z r =>
              cases ev
              refine ⟨a, rfl, ⟨vs, h1.sq⟩, h' _ H1 R1 e1 s1 (fun i H2 R2 μ2 e2 s2 hw => ?_) (by simpa [hl] using hn)⟩
              have hd : DV X.K X.mg H2 R2 (.ref a) (.tup ys) := by
                rcases e2 with e2 | ⟨D0, o, h0, e2⟩
                · exact DV.ext e2 (.tup h1 z r)
                · exact DV.exd (.inr List.mem_cons_self) e2 (DV.topriv h0 (.tup h1 z r))
              cases hd with
              | @tup _ ws _ h2 z2 r2 =>
                refine ⟨fun dd hdd => ?_, fun hi => ?_⟩
                · obtain ⟨w, hw1, hw2⟩ := r2.get hdd
                  exact ⟨⟨ws, w, h2.sq, hw1⟩, fun x H3 y => by
                    obtain ⟨rfl, y⟩ := y
                    have := y ws h2.sq
                    rw [hw1] at this; cases this
                    exact ⟨Ex2.refl, s2, hw2⟩⟩
                · exact ⟨ws, h2.sq, by rw [r2.length]; exact Nat.le_of_eq hi.symm⟩
          · refine .inl ⟨ρ, μ, R, rp, ?_⟩
            rw [et]; intro v1 H1 R1 e1 s1 d1
            obtain ⟨k, a, n, ev, hn, hl, kept⟩ := seq_kept s1 d1 hq
            have hkk : ∀ (H : Hp) (R : Rg) (μ : Mu), (Ex2 R1 H1 R H ∨ ∃ D0 o, H1 D0 = none ∧ Exd D0 (R1.priv D0) (L2.upd H1 D0 o) R H) → Sto X.K X.mg μ H R → (∀ p ∈ srcOf d xs, μ[p.1]? = some (.lst p.2)) → ∃ vs, SqL X.K H a vs ∧ DVs X.K X.mg H R vs xs := fun H R μ hx s hs => by
              obtain ⟨vs, q1, q2⟩ := kept H R μ hx s hs
              cases k with
              | true => exact ⟨vs, q1, q2⟩
              | false =>
                have key : DV X.K X.mg H R v1 d := by
                  rcases hx with hx | ⟨D0, o, h0, hx⟩
                  · exact d1.ext hx
                  · exact DV.exd (.inr List.mem_cons_self) hx (d1.topriv h0)
                subst ev
                cases key with
                | tup => exact absurd ⟨_, rfl⟩ ht
                | lst g1 g2 g3 =>
                  simp only [seqOf, lstOf, Option.some.injEq] at hq; subst hq
                  exact ⟨_, g1.sq, g3⟩
                | scr g1 g2 g3 =>
                  simp only [seqOf, Option.some.injEq] at hq; subst hq
                  exact ⟨_, g1.sq, g3⟩
                | @ref n' _ g1 =>
                  have hm := hs (n', xs) (by simp [srcOf])
                  obtain ⟨a', ha', ws, g3, g4, g5⟩ := s.at hm
                  rw [g1] at ha'; cases ha'
                  exact ⟨ws, .inl (.inl g3), g5⟩
                | obj => simp [seqOf, lstOf] at hq
                | glob => simp [seqOf, lstOf] at hq
            have first := hkk H1 R1 μ1 (.inl Ex2.refl) s1 (fun p hp => by
              cases d <;> simp [srcOf] at hp
              subst hp
              simp only [seqOf, lstOf] at hq
              split at hq
              · rename_i hm
                cases hq; exact hm
              · cases hq)
            obtain ⟨vs0, q0, _⟩ := first
            refine ⟨a, ev, ⟨vs0, q0⟩, h' _ H1 R1 e1 s1 (fun i H2 R2 μ2 e2 s2 hw => ?_) (by simpa [hl] using hn)⟩
            obtain ⟨ws, h2, r2⟩ := hkk H2 R2 μ2 e2 s2 hw
            refine ⟨fun dd hdd => ?_, fun hi => ?_⟩
            · obtain ⟨w, hw1, hw2⟩ := r2.get hdd
              exact ⟨⟨ws, w, h2, hw1⟩, fun x H3 y => by
                obtain ⟨rfl, y⟩ := y
                have := y ws h2
                rw [hw1] at this; cases this
                exact ⟨Ex2.refl, s2, hw2⟩⟩
            · exact ⟨ws, h2, by rw [r2.length]; exact Nat.le_of_eq hi.symm⟩
theorem rng_get {lo : Int} {n i : Nat} {d : D} (h : (rng lo n)[i]? = some d) : i < n ∧ d = .int (lo + i) := by
  unfold rng at h
  rw [List.getElem?_map] at h
  by_cases hi : i < n
  · rw [List.getElem?_range hi] at h
    simp at h; exact ⟨hi, h.symm⟩
  · rw [List.getElem?_eq_none (by simpa using hi)] at h; cases h
theorem rng_length (lo : Int) (n : Nat) : (rng lo n).length = n := by simp [rng]
theorem jok_rng {K : PySem.W.Frag} {mg : Str → Option Value} {R1 : Rg} {H1 : Hp} {lo : Int} {n : Nat} : JOk K mg R1 H1 (Itr lo n) ⟨[], rng lo n⟩ := fun i H R μ e s hw => by
  refine ⟨fun d hd => ?_, fun hi => ?_⟩
  · obtain ⟨h1, rfl⟩ := rng_get hd
    exact ⟨h1, fun x H' y => by obtain ⟨rfl, rfl⟩ := y; exact ⟨Ex2.refl, s, .int _⟩⟩
  · simp only [rng_length] at hi
    exact Nat.le_of_eq hi.symm
end
end VL
end
section
set_option linter.all false
set_option maxRecDepth 100000
set_option maxHeartbeats 2000000
namespace VL
open PySem L2

section
variable {K : PySem.W.Frag} {mg : Str → Option Value} {H H1 : Hp} {R R1 : Rg} {μ : Mu}
/-- what a live source holds at the start -/
theorem src_start {d : D} {xs : List D} (e : seqOf μ d = some xs) : ∀ p ∈ srcOf d xs, μ[p.1]? = some (.lst p.2) := fun p hp => by
  cases d <;> simp [srcOf] at hp
  subst hp
  simp only [seqOf, lstOf] at e
  split at e
  · rename_i hm
    cases e; exact hm
  · cases e
theorem zip_get {us vs : List D} {i : Nat} {d : D} (h : ((us.zip vs).map fun p => D.tup [p.1, p.2])[i]? = some d) : ∃ x y, us[i]? = some x ∧ vs[i]? = some y ∧ d = .tup [x, y] := by
  rw [List.getElem?_map] at h
  cases hz : (us.zip vs)[i]? with
  | none => rw [hz] at h; cases h
  | some p =>
    rw [hz] at h
    obtain ⟨h1, h2⟩ := List.getElem?_zip_eq_some.mp hz
    simp at h
    exact ⟨p.1, p.2, h1, h2, h.symm⟩
theorem zip3_get {us vs ws : List D} {i : Nat} {d : D} (h : ((us.zip (vs.zip ws)).map fun p => D.tup [p.1, p.2.1, p.2.2])[i]? = some d) : ∃ x y z, us[i]? = some x ∧ vs[i]? = some y ∧ ws[i]? = some z ∧ d = .tup [x, y, z] := by
  rw [List.getElem?_map] at h
  cases hz : (us.zip (vs.zip ws))[i]? with
  | none => rw [hz] at h; cases h
  | some p =>
    rw [hz] at h
    obtain ⟨h1, h2⟩ := List.getElem?_zip_eq_some.mp hz
    obtain ⟨h3, h4⟩ := List.getElem?_zip_eq_some.mp h2
    simp at h
    exact ⟨p.1, p.2.1, p.2.2, h1, h3, h4, h.symm⟩
/-- a new tuple -/
theorem new_tup {T : Addr} {vs : List V} {ds : List D} (s : Sto K mg μ H R) (h0 : H T = none) (r : DVs K mg H R vs ds) (hz : vs.length ≤ sizeLine) :
    Ex2 R H R (L2.upd H T (.tup vs)) ∧ Sto K mg μ (L2.upd H T (.tup vs)) R ∧ DV K mg (L2.upd H T (.tup vs)) R (.ref T) (.tup ds) :=
  ⟨Ex2.upd (s.fresh h0) h0, s.upd h0, .tup (.inl ⟨s.fresh h0, upd_same⟩) hz (r.ext (Ex2.upd (s.fresh h0) h0))⟩
end

section
variable {X : Cx} {B : Base} {EP : Ro → Ex → Mu → Prop} {a b c e tg : Expr} {es : List Expr} {ta : VE} {tr : VA} {pos p : Pos}
theorem si_rng1 (hg : Gl X "range") (hm : X.mg "range" = none) (ha : SA X B EP [a] tr) (hs : starEach [a] X.env = [(false, eval a X.env)]) : SI X B EP tg (.Call (.Name "range" p) [a] [] pos) (iRg1 tr) :=
  (pi_range1 (tg := tg) hg hm ha hs).weak fun σ H Q ⟨ρ, μ, R, rp, h⟩ => ⟨ρ, μ, R, rp, (Ou.bd h).mono fun xs μ1 h1 vs H1 R1 e1 s1 d1 => by
    split at h1
    · split at h1
      · rename_i j hj
        obtain ⟨v, rfl, dv⟩ := dv1 d1
        cases dv
        exact ⟨_, rfl, hj.1, hj.2.1, h1 _ H1 R1 e1 s1 jok_rng (by show (rng _ _).length ≤ _; rw [rng_length, sizeLine_eq]; exact hj.2.2)⟩
      · exact h1.elim
    · exact h1.elim⟩
theorem si_rng2 (hg : Gl X "range") (hm : X.mg "range" = none) (ha : SA X B EP [a, b] tr) (hs : starEach [a, b] X.env = [(false, eval a X.env), (false, eval b X.env)]) (hs2 : starEach [b] X.env = [(false, eval b X.env)]) : SI X B EP tg (.Call (.Name "range" p) [a, b] [] pos) (iRg2 tr) :=
  (pi_range2 (tg := tg) hg hm ha hs hs2).weak fun σ H Q ⟨ρ, μ, R, rp, h⟩ => ⟨ρ, μ, R, rp, (Ou.bd h).mono fun xs μ1 h1 vs H1 R1 e1 s1 d1 => by
    split at h1
    · split at h1
      · rename_i i j hj
        obtain ⟨v, w, rfl, dv, dw⟩ := dv2 d1
        cases dv; cases dw
        exact ⟨_, _, rfl, ⟨hj.1, hj.2.1, hj.2.2.1, hj.2.2.2.1⟩, h1 _ H1 R1 e1 s1 jok_rng (by show (rng _ _).length ≤ _; rw [rng_length, sizeLine_eq]; exact hj.2.2.2.2)⟩
      · exact h1.elim
    · exact h1.elim⟩
theorem si_zip2 {elts : List Expr} {kk : Nat} {tpos : Pos} (hg : Gl X "zip") (hm : X.mg "zip" = none) (ha : SA X B EP [a, b] tr) (hz : PI X (.Tuple elts kk tpos) (.Call (.Name "zip" p) [a, b] [] pos) (iZipK X.K (lA X.K X.mg B EP tr))) :
    SI X B EP (.Tuple elts kk tpos) (.Call (.Name "zip" p) [a, b] [] pos) (iZp2 tr) :=
  hz.weak fun σ H Q ⟨ρ, μ, R, rp, h⟩ => ⟨ρ, μ, R, rp, (Ou.bd h).mono fun xs μ1 h1 vs H1 R1 e1 s1 d1 => by
    split at h1
    · split at h1
      · rename_i x y us ws hx hy
        obtain ⟨v, w, rfl, dv, dw⟩ := dv2 d1
        obtain ⟨k1, a1, n1, rfl, hn1, hl1, kp1⟩ := seq_kept s1 dv hx
        obtain ⟨k2, a2, n2, rfl, hn2, hl2, kp2⟩ := seq_kept s1 dw hy
        obtain ⟨vs1, q1, _⟩ := kp1 H1 R1 μ1 (.inl Ex2.refl) s1 (src_start hx)
        obtain ⟨vs2, q2, _⟩ := kp2 H1 R1 μ1 (.inl Ex2.refl) s1 (src_start hy)
        refine ⟨k1, a1, k2, a2, vs1, vs2, rfl, q1, q2, h1 _ H1 R1 e1 s1 (fun i H2 R2 μ2 e2 s2 hw => ?_) (by simp; omega)⟩
        obtain ⟨hw1, hw2⟩ := Wk.holds_app hw
        obtain ⟨vs1, q1, r1⟩ := kp1 H2 R2 μ2 e2 s2 hw1
        obtain ⟨vs2, q2, r2⟩ := kp2 H2 R2 μ2 e2 s2 hw2
        refine ⟨fun d hd => ?_, fun hi => ⟨vs1, vs2, q1, q2, ?_⟩⟩
        · obtain ⟨x', y', g1, g2, rfl⟩ := zip_get hd
          obtain ⟨v1, f1, t1⟩ := r1.get g1
          obtain ⟨v2, f2, t2⟩ := r2.get g2
          refine ⟨⟨vs1, vs2, v1, v2, q1, q2, f1, f2⟩, fun x3 H3 y3 => ?_⟩
          obtain ⟨T, w1, w2, rfl, h0, rfl, y1, y2⟩ := y3
          have := y1 vs1 q1; rw [f1] at this; cases this
          have := y2 vs2 q2; rw [f2] at this; cases this
          exact new_tup s2 h0 (.cons t1 (.cons t2 .nil)) (by rw [sizeLine_eq]; simp)
        · rw [hi, r1.length, r2.length]; simp
      · exact h1.elim
    · exact h1.elim⟩
theorem si_zip3 {elts : List Expr} {kk : Nat} {tpos : Pos} (hz : PI X (.Tuple elts kk tpos) (.Call (.Name "zip" p) [a, b, c] [] pos) (iZip3 X.K (lA X.K X.mg B EP tr))) :
    SI X B EP (.Tuple elts kk tpos) (.Call (.Name "zip" p) [a, b, c] [] pos) (iZp3 tr) :=
  hz.weak fun σ H Q ⟨ρ, μ, R, rp, h⟩ => ⟨ρ, μ, R, rp, (Ou.bd h).mono fun xs μ1 h1 vs H1 R1 e1 s1 d1 => by
    split at h1
    · split at h1
      · rename_i x y z us ws zs hx hy hz
        cases d1 with
        | @cons u1 _ _ _ du d1 =>
        obtain ⟨v, w, rfl, dv, dw⟩ := dv2 d1
        obtain ⟨k1, a1, n1, rfl, hn1, hl1, kp1⟩ := seq_kept s1 du hx
        obtain ⟨k2, a2, n2, rfl, hn2, hl2, kp2⟩ := seq_kept s1 dv hy
        obtain ⟨k3, a3, n3, rfl, hn3, hl3, kp3⟩ := seq_kept s1 dw hz
        obtain ⟨vs1, q1, _⟩ := kp1 H1 R1 μ1 (.inl Ex2.refl) s1 (src_start hx)
        obtain ⟨vs2, q2, _⟩ := kp2 H1 R1 μ1 (.inl Ex2.refl) s1 (src_start hy)
        obtain ⟨vs3, q3, _⟩ := kp3 H1 R1 μ1 (.inl Ex2.refl) s1 (src_start hz)
        refine ⟨k1, a1, k2, a2, k3, a3, vs1, vs2, vs3, rfl, q1, q2, q3, h1 _ H1 R1 e1 s1 (fun i H2 R2 μ2 e2 s2 hw => ?_) (by simp; omega)⟩
        obtain ⟨hw12, hw3⟩ := Wk.holds_app (items := (us.zip (ws.zip zs)).map fun p => D.tup [p.1, p.2.1, p.2.2]) hw
        have hw1 := fun p hp => hw12 p (List.mem_append_left _ hp)
        have hw2 := fun p hp => hw12 p (List.mem_append_right _ hp)
        obtain ⟨vs1, q1, r1⟩ := kp1 H2 R2 μ2 e2 s2 hw1
        obtain ⟨vs2, q2, r2⟩ := kp2 H2 R2 μ2 e2 s2 hw2
        obtain ⟨vs3, q3, r3⟩ := kp3 H2 R2 μ2 e2 s2 hw3
        refine ⟨fun d hd => ?_, fun hi => ⟨vs1, vs2, vs3, q1, q2, q3, ?_⟩⟩
        · obtain ⟨x', y', z', g1, g2, g3, rfl⟩ := zip3_get hd
          obtain ⟨v1, f1, t1⟩ := r1.get g1
          obtain ⟨v2, f2, t2⟩ := r2.get g2
          obtain ⟨v3, f3, t3⟩ := r3.get g3
          refine ⟨⟨vs1, vs2, vs3, v1, v2, v3, q1, q2, q3, f1, f2, f3⟩, fun x3 H3 y3 => ?_⟩
          obtain ⟨T, w1, w2, w3, rfl, h0, rfl, y1, y2, y3⟩ := y3
          have := y1 vs1 q1; rw [f1] at this; cases this
          have := y2 vs2 q2; rw [f2] at this; cases this
          have := y3 vs3 q3; rw [f3] at this; cases this
          exact new_tup s2 h0 (.cons t1 (.cons t2 (.cons t3 .nil))) (by rw [sizeLine_eq]; simp)
        · rw [hi, r1.length, r2.length, r3.length]; simp [Nat.min_assoc]
      · exact h1.elim
    · exact h1.elim⟩
theorem enum_get {us : List D} {i : Nat} {d : D} (h : (us.zipIdx.map fun p => D.tup [.int (p.2 : Nat), p.1])[i]? = some d) : ∃ x, us[i]? = some x ∧ d = .tup [.int (i : Nat), x] := by
  rw [List.getElem?_map, List.getElem?_zipIdx] at h
  cases hz : us[i]? with
  | none => rw [hz] at h; cases h
  | some p => rw [hz] at h; simp at h; exact ⟨p, rfl, h.symm⟩
theorem si_enum {elts : List Expr} {kk : Nat} {tpos : Pos} (hz : PI X (.Tuple elts kk tpos) (.Call (.Name "enumerate" p) [a] [] pos) (iEnumK X.K (lA X.K X.mg B EP tr))) :
    SI X B EP (.Tuple elts kk tpos) (.Call (.Name "enumerate" p) [a] [] pos) (iEnum tr) :=
  hz.weak fun σ H Q ⟨ρ, μ, R, rp, h⟩ => ⟨ρ, μ, R, rp, (Ou.bd h).mono fun xs μ1 h1 vs H1 R1 e1 s1 d1 => by
    split at h1
    · split at h1
      · rename_i x us hx
        obtain ⟨v, rfl, dv⟩ := dv1 d1
        obtain ⟨k1, a1, n1, rfl, hn1, hl1, kp1⟩ := seq_kept s1 dv hx
        obtain ⟨vs1, q1, _⟩ := kp1 H1 R1 μ1 (.inl Ex2.refl) s1 (src_start hx)
        refine ⟨k1, a1, vs1, rfl, q1, h1 _ H1 R1 e1 s1 (fun i H2 R2 μ2 e2 s2 hw => ?_) (by simp; omega)⟩
        obtain ⟨vs1, q1, r1⟩ := kp1 H2 R2 μ2 e2 s2 hw
        refine ⟨fun d hd => ?_, fun hi => ⟨vs1, q1, ?_⟩⟩
        · obtain ⟨x', g1, rfl⟩ := enum_get hd
          obtain ⟨v1, f1, t1⟩ := r1.get g1
          refine ⟨⟨vs1, v1, q1, f1⟩, fun x3 H3 y3 => ?_⟩
          obtain ⟨T, w1, rfl, h0, rfl, y1⟩ := y3
          have := y1 vs1 q1; rw [f1] at this; cases this
          exact new_tup s2 h0 (.cons (.int _) (.cons t1 .nil)) (by rw [sizeLine_eq]; simp)
        · rw [hi, r1.length]; simp
      · exact h1.elim
    · exact h1.elim⟩

variable {iter cnd : Expr} {body : List Stmt} {i : VI} {g : VG} {t : VS} {tc : VT}
theorem ss_for (hp : PassesOwn (model X.prog X.w) X.A X.env X.xe) (hc : X.calm = true) (hi : SI X B EP tg iter i) (hg : SG X B tg g) (hb : SSs X B EP body t)
    (hs : ∀ x, foldedSetIterable iter X.env x = pure x) : SS X B EP (.For tg iter body [] pos) (sFor i g t) :=
  (ps_for hp hc hi hg hb hs).weak fun Dn σ H ⟨ρ, μ, R, rp, h⟩ => ⟨ρ, μ, R, rp, (Ou.bs h).mono fun w μ1 h1 J H1 R1 e1 s1 jok _ => by
    refine ⟨fun n m σ' H' => ∃ ρ' μ' R', Rp X.K X.mg B ρ' μ' σ' H' R' ∧ Ex2 R1 H1 R' H' ∧ n + m = w.items.length ∧ OuS X.K X.mg B EP R' H' (forL w g t (w.items.drop n) ρ' μ') Dn, ⟨w.items.length, ρ, μ1, R1, rp.go e1 s1, Ex2.refl, by omega, by simpa using OuS.pre h1 e1⟩, fun n m σ' H' ⟨ρ', μ', R', rp', e', hl, h'⟩ => ?_⟩
    cases hd : w.items.drop n with
    | nil =>
      rw [hd] at h'
      unfold forL at h'
      split at h'
      · rename_i hw
        have hn : n = w.items.length := by have := List.drop_eq_nil_iff.mp hd; omega
        exact .inl ⟨(jok n H' R' μ' (.inl e') rp'.sto hw).2 hn, h' σ' H' R' Ex2.refl rp'⟩
      · exact h'.elim
    | cons x xs =>
      rw [hd] at h'
      unfold forL at h'
      have hx : w.items[n]? = some x := by
        have := List.getElem?_drop (xs := w.items) (i := n) (j := 0)
        rw [hd] at this; simpa using this.symm
      have hxs : w.items.drop (n + 1) = xs := by
        rw [← List.drop_drop, hd]; rfl
      have hn : n < w.items.length := (List.getElem?_eq_some_iff.mp hx).1
      split at h'
      · rename_i hw
        obtain ⟨go, yl⟩ := (jok n H' R' μ' (.inl e') rp'.sto hw).1 x hx
        refine .inr ⟨go, fun σ2 H2 => ∃ ρ2 μ2 R2, Rp X.K X.mg B ρ2 μ2 σ2 H2 R2 ∧ Ex2 R1 H1 R2 H2 ∧ OuS X.K X.mg B EP R2 H2 (forL w g t xs ρ2 μ2) Dn, fun σ2 H2 ⟨ρ2, μ2, R2, a1, a2, a3⟩ => ⟨m - 1, by omega, ρ2, μ2, R2, a1, a2, by omega, by rw [hxs]; exact a3⟩, fun x3 H3 y3 => ?_⟩
        obtain ⟨e3, s3, d3⟩ := yl x3 H3 y3
        split at h'
        · rename_i ρ4 μ4 eg
          refine ⟨x, ρ', μ', R', ρ4, μ4, rp'.go e3 s3, d3, eg, fun σ4 H4 R4 e4 rp4 => ⟨ρ4, μ4, R4, rp4, ?_⟩⟩
          have h5 := OuS.pre h' (e3.trans e4)
          cases et : t ρ4 μ4 with
          | none => rw [et] at h5; exact h5.elim
          | some r =>
            rw [et] at h5
            cases r with
            | nx ρ5 μ5 => exact fun σ5 H5 R5 e5 rp5 => ⟨ρ5, μ5, R5, rp5, e'.trans (e3.trans (e4.trans e5)), OuS.pre h5 e5⟩
            | ct ρ5 μ5 => exact fun σ5 H5 R5 e5 rp5 => ⟨ρ5, μ5, R5, rp5, e'.trans (e3.trans (e4.trans e5)), OuS.pre h5 e5⟩
            | bk ρ5 μ5 => exact h5
            | rt d5 μ5 => exact h5
            | er ρ5 x5 μ5 => exact h5
        · exact h'.elim
      · exact h'.elim⟩

theorem whileN_more {c : VT} {b : VS} : ∀ {n m : Nat} {ρ : Ro} {μ : Mu} {r : Fl}, whileN c b n ρ μ = some r → n ≤ m → whileN c b m ρ μ = some r
  | 0, _, _, _, _, h, _ => by cases h
  | n + 1, 0, _, _, _, _, h => absurd h (by omega)
  | n + 1, m + 1, ρ, μ, r, h, hm => by
    simp only [whileN] at h ⊢
    cases ec : c ρ μ with
    | none => rw [ec] at h; exact h
    | some q =>
      rw [ec] at h
      cases q with
      | er e μ1 => exact h
      | ok k μ1 =>
        simp only [bs_ok] at h ⊢
        split at h
        · rename_i hk
          rw [if_pos hk]
          cases eb : b ρ μ1 with
          | none => rw [eb] at h; exact h
          | some f =>
            rw [eb] at h
            cases f with
            | nx ρ2 μ2 => exact whileN_more h (by omega)
            | ct ρ2 μ2 => exact whileN_more h (by omega)
            | bk ρ2 μ2 => exact h
            | rt d μ2 => exact h
            | er ρ2 e μ2 => exact h
        · rename_i hk
          rw [if_neg hk]; exact h
theorem sWhile_eq {c : VT} {b : VS} {n : Nat} {ρ : Ro} {μ : Mu} {r : Fl} (h : whileN c b n ρ μ = some r) : sWhile c b ρ μ = some r := by
  unfold sWhile
  have hx : ∃ n, whileN c b n ρ μ ≠ none := ⟨n, by rw [h]; exact fun z => nomatch z⟩
  rw [dif_pos hx]
  cases e : whileN c b hx.choose ρ μ with
  | none => exact absurd e hx.choose_spec
  | some r' =>
    have h1 := whileN_more h (Nat.le_max_left n hx.choose)
    have h2 := whileN_more e (Nat.le_max_right n hx.choose)
    rw [h1] at h2; cases h2; rfl
theorem ss_while (hp : PassesOwn (model X.prog X.w) X.A X.env X.xe) (hc : ST X B EP cnd tc) (hb : SSs X B EP body t) : SS X B EP (.While cnd body [] pos) (sWhile tc t) :=
  (ps_while hp hc hb).weak fun Dn σ H ⟨ρ, μ, R, rp, h⟩ => by
    unfold sWhile at h
    split at h
    · rename_i hx
      refine ⟨fun m σ' H' => ∃ ρ' μ' R', Rp X.K X.mg B ρ' μ' σ' H' R' ∧ OuS X.K X.mg B EP R' H' (whileN tc t m ρ' μ') Dn, ⟨hx.choose, ρ, μ, R, rp, h⟩, fun m σ' H' ⟨ρ', μ', R', rp', h'⟩ => ⟨ρ', μ', R', rp', ?_⟩⟩
      cases m with
      | zero => exact h'.elim
      | succ m =>
        simp only [whileN] at h'
        refine (Ou.bs h').mono fun k μ1 h1 H1 R1 e1 s1 => ?_
        cases k with
        | false => exact h1 σ' H1 R1 e1 (rp'.go e1 s1)
        | true =>
          refine ⟨fun σ2 H2 => ∃ ρ2 μ2 R2, Rp X.K X.mg B ρ2 μ2 σ2 H2 R2 ∧ OuS X.K X.mg B EP R2 H2 (whileN tc t m ρ2 μ2) Dn, fun σ2 H2 q => ⟨m, Nat.lt_succ_self m, q⟩, ρ', μ1, R1, rp'.go e1 s1, ?_⟩
          have h5 := OuS.pre h1 e1
          simp only [if_true] at h5
          cases et : t ρ' μ1 with
          | none => rw [et] at h5; exact h5.elim
          | some r =>
            rw [et] at h5
            cases r with
            | nx ρ5 μ5 => exact fun σ5 H5 R5 e5 rp5 => ⟨ρ5, μ5, R5, rp5, OuS.pre h5 e5⟩
            | ct ρ5 μ5 => exact fun σ5 H5 R5 e5 rp5 => ⟨ρ5, μ5, R5, rp5, OuS.pre h5 e5⟩
            | bk ρ5 μ5 => exact h5
            | rt d5 μ5 => exact h5
            | er ρ5 x5 μ5 => exact h5
    · exact h.elim
end

/-- a block's target: it sets own slots only -/
def lGb (K : PySem.W.Frag) (mg : Str → Option Value) (B : Base) (vs : List Nat) (t : VG) : TG := fun v σ H Q => ∃ d ρ μ R ρ' μ', Rp K mg B ρ μ σ H R ∧ DV K mg H R v d ∧ t d ρ μ = some (ρ', μ') ∧
  ∀ σ', Rp K mg B ρ' μ' σ' H R → L2.wipe σ' vs = L2.wipe σ vs → Q σ' H
def lGbs (K : PySem.W.Frag) (mg : Str → Option Value) (B : Base) (vs : List Nat) (t : VGs) : TGs := fun ws σ H Q => ∃ ds ρ μ R ρ' μ', Rp K mg B ρ μ σ H R ∧ DVs K mg H R ws ds ∧ t ds ρ μ = some (ρ', μ') ∧
  ∀ σ', Rp K mg B ρ' μ' σ' H R → L2.wipe σ' vs = L2.wipe σ vs → Q σ' H
abbrev SGb (X : Cx) (B : Base) (vs : List Nat) (e : Expr) (t : VG) : Prop := PG X e (lGb X.K X.mg B vs t)
abbrev SGbs (X : Cx) (B : Base) (vs : List Nat) (es : List Expr) (t : VGs) : Prop := PGs X es (lGbs X.K X.mg B vs t)
theorem set_none_comm (σ : St) (i j : Nat) : (σ.set i none).set j none = (σ.set j none).set i none := by
  by_cases h : i = j
  · rw [h]
  · exact List.set_comm none none h
theorem wipe_none (σ : St) (i : Nat) : ∀ vs : List Nat, L2.wipe (σ.set i none) vs = (L2.wipe σ vs).set i none
  | [] => rfl
  | v :: vs => by
    show (L2.wipe (σ.set i none) vs).set v none = _
    rw [wipe_none σ i vs]
    exact set_none_comm _ _ _
theorem wipe_set {i : Nat} {x : Option V} : ∀ {vs : List Nat} {σ : St}, i ∈ vs → L2.wipe (σ.set i x) vs = L2.wipe σ vs
  | v :: vs, σ, h => by
    show (L2.wipe (σ.set i x) vs).set v none = (L2.wipe σ vs).set v none
    by_cases hm : i ∈ vs
    · rw [wipe_set hm]
    · rcases List.mem_cons.mp h with rfl | h
      · have e1 : (L2.wipe (σ.set i x) vs).set i none = L2.wipe ((σ.set i x).set i none) vs := (wipe_none _ _ _).symm
        have e2 : (L2.wipe σ vs).set i none = L2.wipe (σ.set i none) vs := (wipe_none _ _ _).symm
        rw [e1, e2, List.set_set]
      · exact absurd h hm
theorem wipe_idem (σ : St) : ∀ vs : List Nat, L2.wipe (L2.wipe σ vs) vs = L2.wipe σ vs
  | [] => rfl
  | v :: vs => by
    show (L2.wipe ((L2.wipe σ vs).set v none) vs).set v none = (L2.wipe σ vs).set v none
    rw [wipe_none, wipe_idem σ vs, List.set_set]
section
variable {X : Cx} {B : Base} {vs : List Nat} {e : Expr} {es : List Expr} {pos : Pos}
theorem sgb_name {i : Nat} {x : Str} (hv : i ∈ vs) (hN : X.N.Nodup) (hi : X.N[i]? = some x) (hx : Loc X.env.scope x) (hf : X.fn x = true ∨ X.env.scope.names.lookup x = some .local) : SGb X B vs (.Name x pos) (VL.gName i) :=
  (pg_name hN hi hx hf).weak fun v σ H Q ⟨d, ρ, μ, R, ρ', μ', rp, dv, h, q⟩ => by
    simp only [VL.gName, Option.some.injEq, Prod.mk.injEq] at h
    obtain ⟨rfl, rfl⟩ := h
    exact q _ (rp.set dv) (wipe_set hv)
theorem sgbs_nil : SGbs X B vs [] VL.gNil := pgs_nil.weak fun ws σ H Q ⟨ds, ρ, μ, R, ρ', μ', rp, dv, h, q⟩ => by
  cases dv with
  | nil =>
    simp only [VL.gNil, Option.some.injEq, Prod.mk.injEq] at h
    obtain ⟨rfl, rfl⟩ := h
    exact ⟨rfl, q σ rp rfl⟩
  | cons _ _ => cases h
theorem sgbs_cons {g : VG} {gs : VGs} (h1 : SGb X B vs e g) (h2 : SGbs X B vs es gs) (hs : (assignEach (e :: es) X.env).map (·.2) = assign e X.env :: (assignEach es X.env).map (·.2)) : SGbs X B vs (e :: es) (VL.gCons g gs) :=
  (pgs_cons h1 h2 hs).weak fun ws σ H Q ⟨ds, ρ, μ, R, ρ', μ', rp, dv, h, q⟩ => by
    cases dv with
    | nil => cases h
    | @cons v d vs' ds' d1 d2 =>
      simp only [VL.gCons] at h
      split at h
      · rename_i ρ1 μ1 eg
        exact ⟨v, vs', rfl, d, ρ, μ, R, ρ1, μ1, rp, d1, eg, fun σ1 rp1 w1 => ⟨ds', ρ1, μ1, R, ρ', μ', rp1, d2, h, fun σ2 rp2 w2 => q σ2 rp2 (w2.trans w1)⟩⟩
      · cases h
theorem sgb_tup {n k : Nat} {gs : VGs} (hc : X.calm = true) (h : SGbs X B vs es gs) (hn : (assignEach es X.env).length = n) (hst : (assignEach es X.env).findIdx? (·.1) = none) : SGb X B vs (.Tuple es k pos) (VL.gTup n gs) :=
  ((pg_tup hc h hn hst).or (pg_unl hc h hn hst)).weak fun v σ H Q ⟨d, ρ, μ, R, ρ', μ', rp, dv, h, q⟩ => by
    unfold VL.gTup at h
    split at h
    · cases dv with
      | tup h1 h2 h3 =>
        split at h
        · rename_i hl
          exact .inl ⟨_, _, rfl, h1.sq, h3.length.trans hl, _, ρ, μ, R, ρ', μ', rp, h3, h, q⟩
        · cases h
    · split at h
      · rename_i xs hx
        split at h
        · rename_i hl
          obtain ⟨a, ws, rfl, ha, _, dd⟩ := lst_at rp.sto dv hx
          exact .inr ⟨a, ws, rfl, .inl (.inl ha), dd.length.trans hl, _, ρ, μ, R, ρ', μ', rp, dd, h, q⟩
        · cases h
      · cases h
end
theorem Rp.priv {K : PySem.W.Frag} {mg : Str → Option Value} {B : Base} {ρ : Ro} {μ : Mu} {σ : St} {H : Hp} {R : Rg} {D0 : Addr} {o : HO} (r : Rp K mg B ρ μ σ H R) (h0 : H D0 = none) : Rp K mg ⟨R.priv D0, L2.upd H D0 o⟩ ρ μ σ (L2.upd H D0 o) (R.priv D0) :=
  ⟨r.sto.topriv h0, r.len, fun i d h => let ⟨v, q, k⟩ := r.loc i d h; ⟨v, q, k.topriv h0⟩, Ex2.refl⟩
abbrev NoE : Ro → Ex → Mu → Prop := fun _ _ _ => False
section
variable {X : Cx} {B : Base} {EP : Ro → Ex → Mu → Prop} {elt tg iter : Expr} {ifs : List Expr} {scope : Scope} {own : List (Str × Nat)} {pos : Pos} {i : VI} {g : VG} {t : VT} {te : VE}
abbrev STs (X : Cx) (B : Base) (EP : Ro → Ex → Mu → Prop) (es : List Expr) (t : VT) : Prop := PTs X es (lT X.K X.mg B EP t)
theorem _root_.L2.PTs.weak {X : Cx} {e : List Expr} {t t' : TT} (h : PTs X e t) (w : ∀ σ H Q, t' σ H Q → t σ H Q) : PTs X e t' := ⟨fun pins s σ H Q I q => h.run pins s σ H Q I (w σ H Q q)⟩
theorem sts_nil : STs X B EP [] VL.tYes := pts_nil.weak fun σ H Q ⟨ρ, μ, R, rp, h⟩ => (show PostT _ _ _ _ _ _ _ from h) H R Ex2.refl rp.sto
theorem sts_one {c : Expr} {tc : VT} (h : ST X B EP c tc) : STs X B EP [c] tc := pts_one h
end
end VL
end
section
set_option linter.all false
set_option maxRecDepth 100000
set_option maxHeartbeats 2000000
namespace VL
open PySem L2
section
variable (K : PySem.W.Frag) (mg : Str → Option Value) (B : Base) (EP : Ro → Ex → Mu → Prop)
/-- a list that was laid by this expression itself -/
def PostF (R : Rg) (H : Hp) (μ' : Mu) (ds : List D) (Q : VK) : Prop := ∀ a H' R' vs, Ex2 R H R' H' → Sto K mg μ' H' (R'.priv a) → H a = none → H' a = some (.lst vs) → vs.length ≤ sizeLine → DVs K mg H' (R'.priv a) vs ds → Q (.ref a) H'
def lF (t : VE) : TE := fun σ H Q => ∃ ρ μ R, Rp K mg B ρ μ σ H R ∧ Ou (t ρ μ) (fun d μ' => ∀ ds, d = .lst ds → PostF K mg R H μ' ds Q) (EP ρ)
def lGx (vs : List Nat) (g : VG) : TG := fun v σ H Q => ∃ B', lGb K mg B' vs g v σ H Q
def lTx (t : VT) : TT := fun σ H Q => ∃ B', lT K mg B' NoE t σ H Q
def lEx (t : VE) : TE := fun σ H Q => ∃ B', lE K mg B' NoE t σ H Q
end
abbrev SF (X : Cx) (B : Base) (EP : Ro → Ex → Mu → Prop) (e : Expr) (t : VE) : Prop := PE X e (lF X.K X.mg B EP t)
section
variable {K : PySem.W.Frag} {mg : Str → Option Value} {H H' : Hp} {R R' : Rg} {μ μ' : Mu}
theorem pub_mem {D0 a : Addr} (y : a ∈ R.push D0) : a ∈ R.priv D0 := by
  rcases y with y | y
  · rcases List.mem_append.mp y with z | z
    · exact .inl z
    · simp at z; subst z; exact .inr List.mem_cons_self
  · exact .inr (List.mem_cons_of_mem _ y)
mutual
theorem DV.pub {D0 : Addr} (hz : D0 ∉ R.l) : ∀ {v : V} {d : D}, DV K mg H (R.priv D0) v d → DV K mg H (R.push D0) v d
  | _, _, .non => .non
  | _, _, .bl b => .bl b
  | _, _, .int i => .int i
  | _, _, .str s => .str s
  | _, _, .ty n => .ty n
  | _, _, .tup h z r => .tup (Or.imp (fun q => ⟨fun y => q.1 (pub_mem y), q.2⟩) id h) z (DVs.pub hz r)
  | _, _, .lst h z r => .lst ⟨fun y => h.1 (pub_mem y), h.2⟩ z (DVs.pub hz r)
  | _, _, .scr h z r => .scr (Or.imp (fun q => ⟨fun y => q.1 (pub_mem y), q.2⟩) id h) z (DVs.pub hz r)
  | _, _, .obj n h hc hk r => .obj (fun y => n (pub_mem y)) h hc hk (DVs.pub hz r)
  | _, _, .ref h => .ref (by
      have h : R.l[_]? = _ := h
      have hl := (List.getElem?_eq_some_iff.mp h).1
      show (R.l ++ [D0])[_]? = _
      rw [List.getElem?_append_left hl]; exact h)
  | _, _, .glob h => .glob h
theorem DVs.pub {D0 : Addr} (hz : D0 ∉ R.l) : ∀ {vs : List V} {ds : List D}, DVs K mg H (R.priv D0) vs ds → DVs K mg H (R.push D0) vs ds
  | _, _, .nil => .nil
  | _, _, .cons h t => .cons (DV.pub hz h) (DVs.pub hz t)
end
theorem MoOk.pub {a D0 : Addr} {o : MO} (hz : D0 ∉ R.l) (h : MoOk K mg H (R.priv D0) a o) : MoOk K mg H (R.push D0) a o := by
  cases o with
  | lst ds => obtain ⟨vs, h1, h2, h3⟩ := h; exact ⟨vs, h1, h2, h3.pub hz⟩
  | dct kvs => obtain ⟨kv, h1, h2, h3, h4⟩ := h; exact ⟨kv, h1, h2, h3, h4.pub hz⟩
  | ins c fs => obtain ⟨C, dx, fv, h1, h2, h3, h4⟩ := h; exact ⟨C, dx, fv, h1, h2, h3, h4.pub hz⟩
/-- a list in the making becomes a live object -/
theorem Sto.pub {D0 : Addr} {m : MO} (s : Sto K mg μ H (R.priv D0)) (hn : D0 ∉ R.z) (ok : MoOk K mg H (R.push D0) D0 m) : Sto K mg (μ ++ [m]) H (R.push D0) := by
  have hz := (s.prv D0 List.mem_cons_self).2
  refine ⟨?_, by show (R.l ++ [D0]).length = _; have := s.len; simp at this ⊢; exact this, fun n a m' h1 h2 => ?_, fun a ha => ?_⟩
  · show (R.l ++ [D0]).Nodup
    rw [List.nodup_append]
    refine ⟨s.nd, by simp, fun a ha b hb => ?_⟩
    simp at hb; subst hb
    exact fun z => hz (z ▸ ha)
  · have h1 : (R.l ++ [D0])[n]? = some a := h1
    have hlen : R.l.length = μ.length := s.len
    by_cases hn : n < R.l.length
    · rw [List.getElem?_append_left hn] at h1
      rw [List.getElem?_append_left (by rw [← hlen]; exact hn)] at h2
      exact (s.obj n a m' h1 h2).pub hz
    · have e : n = R.l.length := by
        have := (List.getElem?_eq_some_iff.mp h1).1
        simp at this; omega
      subst e
      rw [List.getElem?_concat_length] at h1
      rw [hlen, List.getElem?_concat_length] at h2
      cases h1; cases h2
      exact ok
  · obtain ⟨hu, n⟩ := s.prv a (List.mem_cons_of_mem _ ha)
    refine ⟨hu, fun z => ?_⟩
    rcases List.mem_append.mp z with z | z
    · exact n z
    · simp at z; subst z; exact hn ha
theorem Ex2.pub {a : Addr} (e : Ex2 R H R' H') (h0 : H a = none) : Ex2 R H (R'.push a) H' := by
  refine ⟨?_, e.prz, e.keep, fun b hb n => ?_⟩
  · obtain ⟨S, q⟩ := e.pre
    exact ⟨S ++ [a], by show R'.l ++ [a] = _; rw [q]; simp⟩
  · rcases List.mem_append.mp hb with z | z
    · exact e.new b z n
    · simp at z; rw [z]; exact h0
theorem fresh_z {a : Addr} (s : Sto K mg μ H R) (e : Ex2 R H R' H') (h0 : H a = none) : a ∉ R'.z := fun z => by
  rw [e.prz] at z
  exact s.fresh h0 (.inr z)
end
section
variable {K : PySem.W.Frag} {mg : Str → Option Value} {B : Base} {EP : Ro → Ex → Mu → Prop} {t : VE} {σ : St} {H : Hp} {Q : VK}
theorem lE_lF (h : lE K mg B EP t σ H Q) : lF K mg B EP t σ H Q := by
  obtain ⟨ρ, μ, R, rp, h⟩ := h
  refine ⟨ρ, μ, R, rp, h.mono fun d μ' h1 ds e a H' R' vs e' s' h0 ha hz dd => ?_⟩
  subst e
  refine h1 _ H' R' e' s'.unpriv (.lst ⟨fun z => ?_, ha⟩ hz dd.unpriv)
  rcases z with z | z
  · exact (s'.prv a List.mem_cons_self).2 z
  · exact fresh_z rp.sto e' h0 z
theorem lB_lF (h : lE K mg B EP (vBox t) σ H Q) : lF K mg B EP t σ H Q := by
  obtain ⟨ρ, μ, R, rp, h⟩ := h
  refine ⟨ρ, μ, R, rp, ?_⟩
  unfold vBox at h
  cases et : t ρ μ with
  | none => rw [et] at h; exact h
  | some r =>
    rw [et] at h
    cases r with
    | er e μ' => exact h
    | ok d μ' =>
      intro ds e a H' R' vs e' s' h0 ha hz dd
      subst e
      have hnl : a ∉ R'.l := (s'.prv a List.mem_cons_self).2
      have hnz := fresh_z rp.sto e' h0
      have h : Post K mg R H (μ' ++ [.lst ds]) (.ref μ'.length) Q := h
      have dp : DVs K mg H' (R'.push a) vs ds := DVs.pub hnl dd
      refine h (.ref a) H' (R'.push a) (e'.pub h0) (s'.pub hnz ⟨vs, ha, hz, dp⟩) (.ref ?_)
      show (R'.l ++ [a])[_]? = _
      rw [← (show R'.l.length = μ'.length from s'.len), List.getElem?_concat_length]
end
section
variable {X : Cx} {B : Base} {EP : Ro → Ex → Mu → Prop} {a e : Expr} {es : List Expr} {t : VE} {tr : VA} {pos p : Pos}
theorem SF.val (h : SF X B EP e t) : SE X B EP e t := PE.weak h fun _ _ _ => lE_lF
theorem SF.box (h : SF X B EP e t) : SE X B EP e (vBox t) := PE.weak h fun _ _ _ => lB_lF
/-- a new list, laid at the end -/
theorem PostF.lay {K : PySem.W.Frag} {mg : Str → Option Value} {R R1 : Rg} {H H1 : Hp} {μ μ1 : Mu} {ds : List D} {Q : VK} (h : PostF K mg R H μ1 ds Q) (s : Sto K mg μ H R) (e1 : Ex2 R H R1 H1) (s1 : Sto K mg μ1 H1 R1) {vs : List V} (d1 : DVs K mg H1 R1 vs ds) (hz : vs.length ≤ sizeLine) {q : Addr} (hq : H1 q = none) : Q (.ref q) (L2.upd H1 q (.lst vs)) := by
  refine h q _ R1 vs (e1.trans (Ex2.upd (s1.fresh hq) hq)) (s1.topriv hq) ?_ upd_same hz (d1.topriv hq)
  cases hH : H q with
  | none => rfl
  | some u =>
    by_cases hl : q ∈ R.l
    · exact absurd (e1.sub (.inl hl)) (s1.fresh hq)
    · have := e1.keep q u hl hH; rw [hq] at this; cases this
theorem sf_lst (h : SA X B EP es tr) (hz : es.length ≤ 1000) (hl : ∀ ρ μ ds μ', tr ρ μ = some (.ok ds μ') → ds.length = es.length) : SF X B EP (.List es pos) (vLst tr) :=
  (pe_lst h).weak fun σ H Q ⟨ρ, μ, R, rp, h⟩ => ⟨ρ, μ, R, rp, by
    have h' := Ou.bd h
    cases e : tr ρ μ with
    | none => rw [e] at h'; exact h'.elim
    | some q =>
      rw [e] at h'
      cases q with
      | er x m => exact h'
      | ok ds μ1 =>
        have hl := hl ρ μ ds μ1 e
        intro vs H1 R1 e1 s1 d1
        have hv : vs.length ≤ sizeLine := by rw [d1.length, hl, sizeLine_eq]; omega
        exact ⟨hv, fun p hp => PostF.lay (h' ds rfl) rp.sto e1 s1 d1 hv hp⟩⟩
/-- list(x) -/
theorem bList_F {K : PySem.W.Frag} {mg : Str → Option Value} {R R1 : Rg} {H H1 : Hp} {μ μ1 μ' : Mu} {ds : List D} {z : D} {vs : List V} {Q : VK} (s : Sto K mg μ H R) (e1 : Ex2 R H R1 H1) (s1 : Sto K mg μ1 H1 R1) (r : DVs K mg H1 R1 vs ds) (hz : bList ds μ1 = some (z, μ')) (q : ∀ ds, z = .lst ds → PostF K mg R H μ' ds Q) : rListOf K vs H1 Q := by
  unfold bList at hz
  split at hz
  · obtain ⟨v, rfl, h⟩ := dv1 r
    rename_i d
    cases e : seqOf μ1 d with
    | none => rw [e] at hz; cases hz
    | some us =>
      rw [e] at hz
      simp only [Option.map_some, Option.some.injEq, Prod.mk.injEq] at hz
      obtain ⟨rfl, rfl⟩ := hz
      obtain ⟨a, vs, rfl, ha, hz, rr⟩ := seq_at s1 h e
      exact ⟨a, vs, rfl, ha, fun l hl => (q us rfl).lay s e1 s1 rr hz hl⟩
  · cases hz
theorem sf_list {es : List Expr} (hm : X.mg "list" = none) (hg : Gl X "list") (ha : SA X B EP (e :: es) tr)
    (he : starEach (e :: es) X.env = (false, eval e X.env) :: starEach es X.env) (hpl : (backTo pos (starEach es X.env)).any (·.1) = false) : SF X B EP (.Call (.Name "list" p) (e :: es) [] pos) (vBlt bList tr) :=
  (pe_callTy call_list_of hg hm rfl ha (by decide) (by decide) he hpl).weak fun σ H Q ⟨ρ, μ, R, rp, h⟩ => ⟨ρ, μ, R, rp, (Ou.bd h).mono fun xs μ1 h1 vs H1 R1 e1 s1 d1 => by
    obtain ⟨z, μ', ez, q⟩ := h1.lift
    exact bList_F rp.sto e1 s1 d1 ez q⟩
end
section
variable {X : Cx} {B : Base} {EP : Ro → Ex → Mu → Prop} {elt tg iter : Expr} {ifs : List Expr} {scope : Scope} {own : List (Str × Nat)} {pos : Pos} {i : VI} {g : VG} {t : VT} {te : VE}
/-- what the turns of a comprehension keep -/
theorem lc_weak {vs : List Nat} {K : PySem.W.Frag} {mg : Str → Option Value} (σ : St) (H : Hp) (Q : VK) (Bx : Base) : lF K mg B EP (vComp i g t te vs) σ H Q →
    tLc (lI K mg B EP i) (lGx K mg vs g) (lTx K mg t) (lEx K mg te) vs σ H Q := fun ⟨ρ, μ, R, rp, h⟩ => by
  refine ⟨ρ, μ, R, rp, ?_⟩
  unfold vComp at h
  cases ei : i ρ μ with
  | none => rw [ei] at h; exact h
  | some r0 =>
    rw [ei] at h
    cases r0 with
    | er x m => exact h
    | ok w μ1 =>
      simp only [] at h
      intro J H1 R1 e1 s1 jok hlen D0 hD0
      cases ec : compL w g t te ρ vs w.items [] μ1 with
      | none => rw [ec] at h; exact h.elim
      | some rc =>
        rw [ec] at h
        cases rc with
        | er _ _ => exact h.elim
        | ok ds μe =>
          have h : PostF K mg R H μe ds Q := h ds rfl
          have rp1 := rp.go e1 s1
          have rpP := (Rp.wipe rp1 vs).priv (o := .lst []) hD0
          have nD := s1.fresh hD0
          have mD : ∀ {R' : Rg}, D0 ∈ R'.priv D0 := .inr List.mem_cons_self
          refine ⟨fun n m H' => ∃ (μ' : Mu) (R' : Rg) (va : List V) (da : List D), Exd D0 (R1.priv D0) (L2.upd H1 D0 (.lst [])) (R'.priv D0) H' ∧ Sto K mg μ' H' (R'.priv D0) ∧ H' D0 = some (.lst va) ∧ DVs K mg H' (R'.priv D0) va da ∧ n + m = w.items.length ∧ da.length ≤ n ∧ compL w g t te ρ vs (w.items.drop n) da μ' = some (.ok ds μe),
            ⟨w.items.length, μ1, R1, [], [], Ex2.refl.exd D0, s1.topriv hD0, upd_same, .nil, by omega, by simp, by simpa using ec⟩, fun n m H' ⟨μ', R', va, da, e', s', hD, dd, hl, hle, h'⟩ => ?_⟩
          have hva : va.length = da.length := dd.length
          cases hd : w.items.drop n with
          | nil =>
            rw [hd] at h'
            unfold compL at h'
            split at h'
            · rename_i hw
              cases h'
              have hn : n = w.items.length := by have := List.drop_eq_nil_iff.mp hd; omega
              refine .inl ⟨(jok n H' (R'.priv D0) _ (.inr ⟨D0, _, hD0, e'⟩) s' hw).2 hn, ?_⟩
              have em := Ex2.made hD0 e'
              refine h D0 H' R' va (e1.trans em) s' ?_ hD (by omega) dd
              cases hH : H D0 with
              | none => rfl
              | some u =>
                by_cases hl : D0 ∈ R.l
                · exact absurd (Or.inl (e1.sub (.inl hl) |>.elim id fun z => absurd (Or.inr z) nD)) nD
                · have := e1.keep D0 u hl hH; rw [hD0] at this; cases this
            · cases h'
          | cons x xs =>
            rw [hd] at h'
            unfold compL at h'
            have hx : w.items[n]? = some x := by
              have := List.getElem?_drop (xs := w.items) (i := n) (j := 0)
              rw [hd] at this; simpa using this.symm
            have hxs : w.items.drop (n + 1) = xs := by
              rw [← List.drop_drop, hd]; rfl
            have hn : n < w.items.length := (List.getElem?_eq_some_iff.mp hx).1
            split at h'
            · rename_i hw
              obtain ⟨go, yl⟩ := (jok n H' (R'.priv D0) μ' (.inr ⟨D0, _, hD0, e'⟩) s' hw).1 x hx
              refine .inr ⟨go, fun H2 => ∃ μ2 R2 va2 da2, Exd D0 (R1.priv D0) (L2.upd H1 D0 (.lst [])) (R2.priv D0) H2 ∧ Sto K mg μ2 H2 (R2.priv D0) ∧ H2 D0 = some (.lst va2) ∧ DVs K mg H2 (R2.priv D0) va2 da2 ∧ da2.length ≤ n + 1 ∧ compL w g t te ρ vs xs da2 μ2 = some (.ok ds μe),
                fun H2 ⟨μ2, R2, va2, da2, a1, a2, a3, a4, a5, a6⟩ => ⟨m - 1, by omega, μ2, R2, va2, da2, a1, a2, a3, a4, by omega, a5, by rw [hxs]; exact a6⟩, fun x3 H3 y3 => ?_⟩
              obtain ⟨e3, s3, d3⟩ := yl x3 H3 y3
              split at h'
              · rename_i ρ4 μ4 eg
                have rp3 := (Rp.god mD rpP e' s').go e3 s3
                refine ⟨_, x, _, _, _, ρ4, μ4, rp3, d3, eg, fun σ4 rp4 hwp => ?_⟩
                refine ⟨by rw [hwp]; exact wipe_idem σ vs, _, ρ4, μ4, _, rp4, ?_⟩
                have fixR : ∀ {R5 : Rg} {H5 : Hp}, Ex2 (R'.priv D0) H3 R5 H5 → R5 = (⟨R5.l, R'.z⟩ : Rg).priv D0 := fun {R5 H5} e5 => by
                  have z1 := e5.prz
                  cases R5; simp only [Rg.priv] at z1 ⊢
                  rw [z1]
                have hD' : (∃ u, H' D0 = some u) ∨ (L2.upd H1 D0 (.lst [])) D0 = none := .inl ⟨_, hD⟩
                cases etb : t ρ4 μ4 with
                | none => rw [etb] at h'; cases h'
                | some rb =>
                  rw [etb] at h'
                  cases rb with
                  | er _ _ => simp at h'
                  | ok k μ5 =>
                    intro H5 R5 e5 s5
                    have e35 : Ex2 (R'.priv D0) H' R5 H5 := e3.trans e5
                    cases k with
                    | false =>
                      simp only [bd_ok, Bool.false_eq_true, if_false] at h' ⊢
                      have hz5 := fixR e5
                      generalize (⟨R5.l, R'.z⟩ : Rg) = R6 at hz5
                      subst hz5
                      exact ⟨μ5, R6, va, da, e'.trans (e35.exd D0) hD', s5, e35.keep D0 _ (fun z => (s'.prv D0 List.mem_cons_self).2 z) hD, dd.ext e35, by omega, h'⟩
                    | true =>
                      simp only [bd_ok, if_true] at h' ⊢
                      refine ⟨_, ρ4, μ5, R5, rp4.go e5 s5, ?_⟩
                      cases ete : te ρ4 μ5 with
                      | none => rw [ete] at h'; cases h'
                      | some re =>
                        rw [ete] at h'
                        cases re with
                        | er _ _ => simp at h'
                        | ok dy μ6 =>
                          intro vy H6 R7 e6 s6 d6
                          have e36 : Ex2 (R'.priv D0) H' R7 H6 := e35.trans e6
                          have hz7 := fixR (e5.trans e6)
                          generalize (⟨R7.l, R'.z⟩ : Rg) = R8 at hz7
                          subst hz7
                          refine ⟨va, e36.keep D0 _ (fun z => (s'.prv D0 List.mem_cons_self).2 z) hD, by omega, μ6, R8, va ++ [vy], da ++ [dy], (e'.trans (e36.exd D0) hD').trans Exd.setz (.inl ⟨_, e36.keep D0 _ (fun z => (s'.prv D0 List.mem_cons_self).2 z) hD⟩), s6.setz List.mem_cons_self, upd_same, (dd.ext e36).append (.cons d6 .nil) |>.exd mD Exd.setz, by simp; omega, h'⟩
              · cases h'
            · cases h'

/-- the parts of a comprehension -/
structure LcOk (X : Cx) (B : Base) (EP : Ro → Ex → Mu → Prop) (elt tg iter : Expr) (ifs : List Expr) (scope : Scope) (own : List (Str × Nat)) (i : VI) (g : VG) (t : VT) (te : VE) : Prop where
  calm : X.calm = true
  nd : X.N.Nodup
  it : SI X B EP tg iter i
  ok : BlkOk X.N X.env.scope scope own
  tg : ∀ (s : Shared) (H : Hp) (C : Addr) (cl : List (Str × Addr)) (fp : List Addr) (B' : Base), SGb (X.blk s H scope (compEnvC scope cl C X.env) fp) B' (own.map (·.2)) tg g
  tt : ∀ (s : Shared) (H : Hp) (C : Addr) (cl : List (Str × Addr)) (fp : List Addr) (B' : Base), STs (X.blk s H scope (compEnvC scope cl C X.env) fp) B' NoE ifs t
  te : ∀ (s : Shared) (H : Hp) (C : Addr) (cl : List (Str × Addr)) (fp : List Addr) (B' : Base), SE (X.blk s H scope (compEnvC scope cl C X.env) fp) B' NoE elt te
  fold : ∀ x, foldedSetIterable iter X.env x = pure x
theorem LcOk.pg (h : LcOk X B EP elt tg iter ifs scope own i g t te) (s : Shared) (H : Hp) (C : Addr) (cl : List (Str × Addr)) (fp : List Addr) : PG (X.blk s H scope (compEnvC scope cl C X.env) fp) tg (lGx X.K X.mg (own.map (·.2)) g) :=
  ⟨fun pins s' σ H' v u Q I r ⟨B', q⟩ => (h.tg s H C cl fp B').run pins s' σ H' v u Q I r q⟩
theorem LcOk.pt (h : LcOk X B EP elt tg iter ifs scope own i g t te) (s : Shared) (H : Hp) (C : Addr) (cl : List (Str × Addr)) (fp : List Addr) : PTs (X.blk s H scope (compEnvC scope cl C X.env) fp) ifs (lTx X.K X.mg t) :=
  ⟨fun pins s' σ H' Q I ⟨B', q⟩ => (h.tt s H C cl fp B').run pins s' σ H' Q I q⟩
theorem LcOk.pe (h : LcOk X B EP elt tg iter ifs scope own i g t te) (s : Shared) (H : Hp) (C : Addr) (cl : List (Str × Addr)) (fp : List Addr) : PE (X.blk s H scope (compEnvC scope cl C X.env) fp) elt (lEx X.K X.mg te) :=
  ⟨fun pins s' σ H' Q I ⟨B', q⟩ => (h.te s H C cl fp B').run pins s' σ H' Q I q⟩
theorem sf_comp (h : LcOk X B EP elt tg iter ifs scope own i g t te) : SF X B EP (.ListComp elt [⟨tg, iter, ifs, 0⟩] scope pos) (vComp i g t te (own.map (·.2))) :=
  (pe_lc h.calm h.nd h.it h.ok h.pg h.pt h.pe h.fold).weak fun σ H Q q => lc_weak σ H Q B q
/-- name = [..] on one line -/
theorem ss_setLc {n : Nat} {y : Str} {py spos : Pos} {tv : VE} (h : LcOk X B EP elt tg iter ifs scope own i g t te) (hy : X.N[n]? = some y) (hyl : X.env.scope.names.lookup y = some .local)
    (hsw : swapsWith (.ListComp elt [⟨tg, iter, ifs, 0⟩] scope pos) (some (.Name y py)) spos.line X.env = pure true)
    (hv : tv = vComp i g t te (own.map (·.2)) ∨ tv = vBox (vComp i g t te (own.map (·.2)))) : SS X B EP (.Assign [.Name y py] (.ListComp elt [⟨tg, iter, ifs, 0⟩] scope pos) spos) (sAsg tv (VL.gName n)) :=
  (ps_setLc h.calm h.nd hy hyl hsw h.it h.ok h.pg h.pt h.pe h.fold).weak fun Dn σ H ⟨ρ, μ, R, rp, h⟩ => by
    have key : lE X.K X.mg B EP tv σ H (fun x H1 => L2.gName n x σ H1 Dn.nx) := ⟨ρ, μ, R, rp, (Ou.bs h).mono fun x μ1 h1 v1 H1 R1 e1 s1 d1 => by
      simp only [VL.gName] at h1
      exact h1 _ H1 R1 e1 ((rp.go e1 s1).set d1)⟩
    show tLc _ _ _ _ _ σ H _
    refine lc_weak σ H _ B ?_
    rcases hv with rfl | rfl
    · exact lE_lF key
    · exact lB_lF key
end
end VL
end
section
set_option linter.all false
set_option maxRecDepth 100000
set_option maxHeartbeats 2000000
namespace VL
open PySem L2
theorem undF_all (n : Nat) : ∀ fs : List (Str × D), undF n fs = undAll n (fs.map (·.2))
  | [] => rfl
  | (x, d) :: fs => by simp only [undF, undAll, List.map_cons, undF_all n fs]
theorem frzF_all {lk : Nat → Option D} : ∀ (ds ys : List (Str × D)), frzF lk ds = some ys → frzAll lk (ds.map (·.2)) = some (ys.map (·.2)) ∧ ys.map (·.1) = ds.map (·.1)
  | [], _, e => by cases e; exact ⟨rfl, rfl⟩
  | (x, d) :: ds, ys, e => by
    unfold frzF at e
    cases q : frz lk d with
    | none => rw [q] at e; cases e
    | some d' =>
      cases q2 : frzF lk ds with
      | none => rw [q, q2] at e; cases e
      | some ds' =>
        rw [q, q2] at e; cases e
        obtain ⟨h1, h2⟩ := frzF_all ds ds' q2
        refine ⟨?_, by simp [h2]⟩
        simp only [List.map_cons]
        unfold frzAll
        rw [q, h1]
section
variable {K : PySem.W.Frag} {mg : Str → Option Value} {H H' : Hp} {R R' : Rg} {μ μ' : Mu}
/-- the first n live objects only -/
def Rg.cut (R : Rg) (n : Nat) : Rg := ⟨R.l.take n, R.z⟩
theorem cut_mem {n : Nat} {a : Addr} (h : a ∈ R.cut n) : a ∈ R := by
  rcases h with h | h
  · exact .inl (List.mem_of_mem_take h)
  · exact .inr h
mutual
theorem und_of : ∀ {v : V} {d : D}, DV K mg H R v d → d.und R.l.length = true
  | _, _, .non => rfl
  | _, _, .bl b => rfl
  | _, _, .int i => rfl
  | _, _, .str s => rfl
  | _, _, .ty n => rfl
  | _, _, .tup h z r => by unfold D.und; exact undAll_of r
  | _, _, .lst h z r => by unfold D.und; exact undAll_of r
  | _, _, .scr h z r => by unfold D.und; exact undAll_of r
  | _, _, .obj n h hc hk r => by unfold D.und; exact (undF_all _ _).trans (undAll_of r)
  | _, _, .ref h => by unfold D.und; exact decide_eq_true (List.getElem?_eq_some_iff.mp h).1
  | _, _, .glob h => rfl
theorem undAll_of : ∀ {vs : List V} {ds : List D}, DVs K mg H R vs ds → undAll R.l.length ds = true
  | _, _, .nil => rfl
  | _, _, .cons h t => by unfold undAll; rw [und_of h, undAll_of t]; rfl
end
/-- fewer live objects -/
structure Less (R R0 : Rg) (n : Nat) : Prop where
  sub : ∀ a, a ∈ R0 → a ∈ R
  at_ : ∀ k, k < n → R0.l[k]? = R.l[k]?
theorem Less.cut (R : Rg) (n : Nat) : Less R (R.cut n) n := ⟨fun _ => cut_mem, fun k h => by show (R.l.take n)[k]? = _; rw [List.getElem?_take_of_lt h]⟩
mutual
theorem DV.down {R0 : Rg} {n : Nat} (L : Less R R0 n) : ∀ {v : V} {d : D}, DV K mg H R v d → d.und n = true → DV K mg H R0 v d
  | _, _, .non, _ => .non
  | _, _, .bl b, _ => .bl b
  | _, _, .int i, _ => .int i
  | _, _, .str s, _ => .str s
  | _, _, .ty n, _ => .ty n
  | _, _, .tup h z r, u => .tup (Or.imp (fun q => ⟨fun y => q.1 (L.sub _ y), q.2⟩) id h) z (DVs.down L r (by unfold D.und at u; exact u))
  | _, _, .lst h z r, u => .lst ⟨fun y => h.1 (L.sub _ y), h.2⟩ z (DVs.down L r (by unfold D.und at u; exact u))
  | _, _, .scr h z r, u => .scr (Or.imp (fun q => ⟨fun y => q.1 (L.sub _ y), q.2⟩) id h) z (DVs.down L r (by unfold D.und at u; exact u))
  | _, _, .obj m h hc hk r, u => .obj (fun y => m (L.sub _ y)) h hc hk (DVs.down L r (by unfold D.und at u; rw [undF_all] at u; exact u))
  | _, _, .ref h, u => .ref (by
      unfold D.und at u
      rw [L.at_ _ (of_decide_eq_true u)]; exact h)
  | _, _, .glob h, _ => .glob h
theorem DVs.down {R0 : Rg} {n : Nat} (L : Less R R0 n) : ∀ {vs : List V} {ds : List D}, DVs K mg H R vs ds → undAll n ds = true → DVs K mg H R0 vs ds
  | _, _, .nil, _ => .nil
  | _, _, .cons h t, u => by
    unfold undAll at u
    rw [Bool.and_eq_true] at u
    exact .cons (DV.down L h u.1) (DVs.down L t u.2)
end
theorem MoOk.down {R0 : Rg} {a : Addr} {o : MO} {n : Nat} (L : Less R R0 n) (h : MoOk K mg H R a o) (u : o.und n = true) : MoOk K mg H R0 a o := by
  cases o with
  | lst ds => obtain ⟨vs, h1, h2, h3⟩ := h; exact ⟨vs, h1, h2, h3.down L u⟩
  | dct kvs => obtain ⟨kv, h1, h2, h3, h4⟩ := h; exact ⟨kv, h1, h2, h3, h4.down L u⟩
  | ins c fs => obtain ⟨C, dx, fv, h1, h2, h3, h4⟩ := h; exact ⟨C, dx, fv, h1, h2, h3, h4.down L u⟩
theorem mo_und {a : Addr} {o : MO} (h : MoOk K mg H R a o) : o.und R.l.length = true := by
  cases o with
  | lst ds => obtain ⟨vs, h1, h2, h3⟩ := h; exact undAll_of h3
  | dct kvs => obtain ⟨kv, h1, h2, h3, h4⟩ := h; exact undAll_of h4
  | ins c fs => obtain ⟨C, dx, fv, h1, h2, h3, h4⟩ := h; exact undAll_of h4
/-- the call's own live objects are live no more -/
theorem cut_eq (e : Ex2 R H R' H') (hl : R.l.length = μ.length) : R'.cut μ.length = R := by
  obtain ⟨S, q⟩ := e.pre
  have z := e.prz
  cases R; cases R'
  simp only [Rg.cut] at *
  subst z
  rw [q, ← hl, List.take_left]
theorem keeps_und {n : Nat} {a : Addr} {o : MO} (s : Sto K mg μ H R) (hk : Keeps μ μ') (h1 : R.l[n]? = some a) (hn : n < μ.length) (h2 : μ'[n]? = some o) : o.und μ.length = true := by
  rcases hk n o hn h2 with z | z
  · have := mo_und (s.obj n a o h1 z)
    rwa [s.len] at this
  · exact z
theorem sto_down (s : Sto K mg μ H R) (e : Ex2 R H R' H') (s' : Sto K mg μ' H' R') (hk : Keeps μ μ') : Sto K mg (μ'.take μ.length) H' R := by
  have hc := cut_eq e s.len
  have hle : μ.length ≤ μ'.length := by
    obtain ⟨S, q⟩ := e.pre
    rw [← s'.len, ← s.len, q, List.length_append]; omega
  refine ⟨s.nd, by rw [s.len, List.length_take]; omega, fun n a o h1 h2 => ?_, fun a ha => ?_⟩
  · have hn : n < μ.length := by rw [← s.len]; exact (List.getElem?_eq_some_iff.mp h1).1
    rw [List.getElem?_take_of_lt hn] at h2
    have m := s'.obj n a o (e.at h1) h2
    have := m.down (Less.cut R' μ.length) (keeps_und s hk h1 hn h2)
    rwa [hc] at this
  · obtain ⟨⟨u, hu⟩, nn⟩ := s.prv a ha
    exact ⟨⟨u, e.keep a u nn hu⟩, nn⟩
theorem ex_down (e : Ex2 R H R' H') : Ex2 R H R H' := ⟨⟨[], by simp⟩, rfl, e.keep, fun a h n => absurd h n⟩
/-- what a table of the own lists gives -/
def LkOk (K : PySem.W.Frag) (mg : Str → Option Value) (H : Hp) (R R0 : Rg) (lk : Nat → Option D) : Prop := ∀ k a d, lk k = some d → R.l[k]? = some a → DV K mg H R0 (.ref a) d
mutual
theorem frz_V {lk : Nat → Option D} {R0 : Rg} (hs : ∀ a, a ∈ R0 → a ∈ R) (hk : LkOk K mg H R R0 lk) : ∀ {v : V} {d d' : D}, DV K mg H R v d → frz lk d = some d' → DV K mg H R0 v d'
  | _, _, _, .non, h => by cases h; exact .non
  | _, _, _, .bl b, h => by cases h; exact .bl b
  | _, _, _, .int i, h => by cases h; exact .int i
  | _, _, _, .str s, h => by cases h; exact .str s
  | _, _, _, .ty n, h => by cases h; exact .ty n
  | _, .tup ds, _, .tup h z r, e => by
    unfold frz at e
    cases q : frzAll lk ds with
    | none => rw [q] at e; cases e
    | some ys => rw [q] at e; cases e; exact .tup (Or.imp (fun q => ⟨fun y => q.1 (hs _ y), q.2⟩) id h) z (frzAll_V hs hk r q)
  | _, .lst ds, _, .lst h z r, e => by
    unfold frz at e
    cases q : frzAll lk ds with
    | none => rw [q] at e; cases e
    | some ys => rw [q] at e; cases e; exact .lst ⟨fun y => h.1 (hs _ y), h.2⟩ z (frzAll_V hs hk r q)
  | _, .scr ds, _, .scr h z r, e => by
    unfold frz at e
    cases q : frzAll lk ds with
    | none => rw [q] at e; cases e
    | some ys => rw [q] at e; cases e; exact .scr (Or.imp (fun q => ⟨fun y => q.1 (hs _ y), q.2⟩) id h) z (frzAll_V hs hk r q)
  | _, .obj c ds, _, .obj n h hc hk' r, e => by
    unfold frz at e
    cases q : frzF lk ds with
    | none => rw [q] at e; cases e
    | some ys =>
      rw [q] at e; cases e
      obtain ⟨q1, q2⟩ := frzF_all ds ys q
      exact .obj (fun y => n (hs _ y)) h hc (hk'.trans q2.symm) (frzAll_V hs hk r q1)
  | _, _, _, .ref h, e => by unfold frz at e; exact hk _ _ _ e h
  | _, _, _, .glob h, e => by cases e; exact .glob h
theorem frzAll_V {lk : Nat → Option D} {R0 : Rg} (hs : ∀ a, a ∈ R0 → a ∈ R) (hk : LkOk K mg H R R0 lk) : ∀ {vs : List V} {ds ds' : List D}, DVs K mg H R vs ds → frzAll lk ds = some ds' → DVs K mg H R0 vs ds'
  | _, _, _, .nil, e => by cases e; exact .nil
  | _, d :: ds, _, .cons h t, e => by
    unfold frzAll at e
    cases q : frz lk d with
    | none => rw [q] at e; cases e
    | some d' =>
      cases q2 : frzAll lk ds with
      | none => rw [q, q2] at e; cases e
      | some ds' => rw [q, q2] at e; cases e; exact .cons (frz_V hs hk h q) (frzAll_V hs hk t q2)
end
theorem lk0_ok {n0 : Nat} : LkOk K mg H R (R.cut n0) (lk0 n0) := fun k a d h hr => by
  unfold lk0 at h
  split at h
  · rename_i hk
    cases h
    exact .ref (by show (R.l.take n0)[_]? = _; rw [List.getElem?_take_of_lt hk]; exact hr)
  · cases h
theorem lkS_ok {n0 : Nat} {lk : Nat → Option D} (s : Sto K mg μ H R) (h : LkOk K mg H R (R.cut n0) lk) : LkOk K mg H R (R.cut n0) (lkS μ n0 lk) := fun k a d e hr => by
  unfold lkS at e
  split at e
  · rename_i hk
    cases e
    exact .ref (by show (R.l.take n0)[_]? = _; rw [List.getElem?_take_of_lt hk]; exact hr)
  · rename_i hk
    split at e
    · rename_i xs hx
      cases q : frzAll lk xs with
      | none => rw [q] at e; cases e
      | some ys =>
        rw [q] at e; cases e
        obtain ⟨a', ha', vs, h1, h2, h3⟩ := s.at hx
        rw [hr] at ha'; cases ha'
        refine .lst ⟨fun z => ?_, h1⟩ h2 (frzAll_V (fun _ => cut_mem) h h3 q)
        rcases z with z | z
        · obtain ⟨j, hj⟩ := List.getElem?_of_mem z
          have hj2 : (R.l.take n0)[j]? = some a := hj
          have hjl : j < n0 := by
            have := (List.getElem?_eq_some_iff.mp hj2).1
            rw [List.length_take] at this; omega
          rw [List.getElem?_take_of_lt hjl] at hj2
          obtain ⟨p1, q1⟩ := List.getElem?_eq_some_iff.mp hj2
          obtain ⟨p2, q2⟩ := List.getElem?_eq_some_iff.mp hr
          have : j = k := (List.getElem_inj s.nd).mp (q1.trans q2.symm)
          omega
        · exact (s.prv a z).2 (List.mem_of_getElem? hr)
    · cases e
theorem lkOf_ok {n0 : Nat} (s : Sto K mg μ H R) : LkOk K mg H R (R.cut n0) (lkOf μ n0) := lkS_ok s (lkS_ok s (lkS_ok s (lkS_ok s lk0_ok)))
/-- an own live object handed on -/
theorem hand_sto {n : Nat} {a : Addr} {o : MO} (s : Sto K mg μ H R) (e : Ex2 R H R' H') (s' : Sto K mg μ' H' R') (hk : Keeps μ μ') (hn : μ.length ≤ n) (ha : R'.l[n]? = some a) (ho : μ'[n]? = some o) (u : o.und μ.length = true) :
    Ex2 R H (R.push a) H' ∧ Sto K mg (μ'.take μ.length ++ [o]) H' (R.push a) ∧ DV K mg H' (R.push a) (.ref a) (.ref μ.length) := by
  have hnR : a ∉ R.l := fun z => by
    obtain ⟨j, hj⟩ := List.getElem?_of_mem z
    have hjl := (List.getElem?_eq_some_iff.mp hj).1
    have hj' := e.at hj
    obtain ⟨p1, q1⟩ := List.getElem?_eq_some_iff.mp hj'
    obtain ⟨p2, q2⟩ := List.getElem?_eq_some_iff.mp ha
    have : j = n := (List.getElem_inj s'.nd).mp (q1.trans q2.symm)
    rw [s.len] at hjl; omega
  have h0 : H a = none := e.new a (List.mem_of_getElem? ha) hnR
  have nz : a ∉ R.z := fun z => s.fresh h0 (.inr z)
  have hle : μ.length ≤ μ'.length := by
    obtain ⟨S, q⟩ := e.pre
    rw [← s'.len, ← s.len, q, List.length_append]; omega
  have L : Less R' (R.push a) μ.length := ⟨fun b hb => by
      rcases hb with hb | hb
      · rcases List.mem_append.mp hb with z | z
        · exact e.sub (.inl z)
        · simp at z; subst z; exact .inl (List.mem_of_getElem? ha)
      · exact e.sub (.inr hb), fun k hk => by
      have hk' : k < R.l.length := by rw [s.len]; exact hk
      show (R.l ++ [a])[k]? = _
      rw [List.getElem?_append_left hk', List.getElem?_eq_getElem hk']
      exact (e.at (List.getElem?_eq_getElem hk')).symm⟩
  refine ⟨Ex2.pub (ex_down e) h0, ⟨?_, ?_, fun i b m h1 h2 => ?_, fun b hb => ?_⟩, .ref ?_⟩
  · show (R.l ++ [a]).Nodup
    rw [List.nodup_append]
    refine ⟨s.nd, by simp, fun x hx y hy => ?_⟩
    simp at hy; subst hy
    exact fun z => hnR (z ▸ hx)
  · show (R.l ++ [a]).length = _
    have := s.len
    simp; omega
  · have h1 : (R.l ++ [a])[i]? = some b := h1
    by_cases hi : i < R.l.length
    · rw [List.getElem?_append_left hi] at h1
      have hi' : i < μ.length := by rw [← s.len]; exact hi
      rw [List.getElem?_append_left (by rw [List.length_take]; omega), List.getElem?_take_of_lt hi'] at h2
      exact (s'.obj i b m (e.at h1) h2).down L (keeps_und s hk h1 hi' h2)
    · have ei : i = R.l.length := by
        have := (List.getElem?_eq_some_iff.mp h1).1
        simp at this; omega
      subst ei
      rw [List.getElem?_concat_length] at h1
      have hl2 : R.l.length = (μ'.take μ.length).length := by rw [List.length_take]; have := s.len; omega
      rw [hl2, List.getElem?_concat_length] at h2
      cases h1; cases h2
      exact (s'.obj n a o ha ho).down L u
  · obtain ⟨⟨w, hw⟩, nn⟩ := s.prv b hb
    refine ⟨⟨w, e.keep b w nn hw⟩, fun z => ?_⟩
    rcases List.mem_append.mp z with z | z
    · exact nn z
    · simp at z; subst z; exact nz hb
  · show (R.l ++ [a])[_]? = _
    rw [← s.len, List.getElem?_concat_length]
/-- a call's end -/
theorem hand_V {d z : D} {v : V} {μ2 : Mu} (s : Sto K mg μ H R) (e : Ex2 R H R' H') (s' : Sto K mg μ' H' R') (hk : Keeps μ μ') (hd : DV K mg H' R' v d) (h : handOn μ.length d μ' = some (.ok z μ2)) : ∃ R2, Ex2 R H R2 H' ∧ Sto K mg μ2 H' R2 ∧ DV K mg H' R2 v z := by
  unfold handOn at h
  split at h
  · rename_i n
    split at h
    · rename_i hn
      split at h
      · rename_i o ho
        split at h
        · rename_i hu
          cases h
          cases hd with
          | @ref _ a ha =>
            obtain ⟨h1, h2, h3⟩ := hand_sto s e s' hk hn ha ho hu
            exact ⟨_, h1, h2, h3⟩
        · cases h
      · cases h
    · cases h
  · cases h
theorem handOn_ok {n0 : Nat} {d : D} {r : Rs D} (h : handOn n0 d μ' = some r) : ∃ z μ2, r = .ok z μ2 := by
  unfold handOn at h
  split at h
  · split at h
    · split at h
      · split at h
        · cases h; exact ⟨_, _, rfl⟩
        · cases h
      · cases h
    · cases h
  · cases h
theorem close_V {d : D} {v : V} {P : D → Mu → Prop} {E : Ex → Mu → Prop} (s : Sto K mg μ H R) (e : Ex2 R H R' H') (s' : Sto K mg μ' H' R') (hd : DV K mg H' R' v d) (h : Ou (close μ d μ') P E) : ∃ z μ2, P z μ2 ∧ ∃ R2, Ex2 R H R2 H' ∧ Sto K mg μ2 H' R2 ∧ DV K mg H' R2 v z := by
  unfold close at h
  split at h
  · rename_i hk
    split at h
    · rename_i z hz
      have hc := cut_eq e s.len
      have := frz_V (fun _ => cut_mem) (lkOf_ok (n0 := μ.length) s') hd hz
      rw [hc] at this
      exact ⟨z, _, h, R, ex_down e, sto_down s e s' hk.1, this⟩
    · cases hh : handOn μ.length d μ' with
      | none => rw [hh] at h; exact h.elim
      | some r =>
        obtain ⟨z, μ2, rfl⟩ := handOn_ok hh
        rw [hh] at h
        exact ⟨z, μ2, h, hand_V s e s' hk.1 hd hh⟩
  · exact h.elim
theorem closeB_V {d : D} {v : V} {P : D → Mu → Prop} {E : Ex → Mu → Prop} (s : Sto K mg μ H R) (e : Ex2 R H R' H') (s' : Sto K mg μ' H' R') (hd : DV K mg H' R' v d) (h : Ou (closeB μ d μ') P E) : ∃ z μ2, P z μ2 ∧ ∃ R2, Ex2 R H R2 H' ∧ Sto K mg μ2 H' R2 ∧ DV K mg H' R2 v z := by
  unfold closeB at h
  split at h
  · rename_i hk
    cases hh : handOn μ.length d μ' with
    | none => rw [hh] at h; exact h.elim
    | some r =>
      obtain ⟨z, μ2, rfl⟩ := handOn_ok hh
      rw [hh] at h
      exact ⟨z, μ2, h, hand_V s e s' hk.1 hd hh⟩
  · exact h.elim
/-- an exception: its class's object and its fields -/
def ExV (K : PySem.W.Frag) (mg : Str → Option Value) (H : Hp) (R : Rg) (cls : Value) (d : Option Addr) (e : Ex) : Prop :=
  ∃ C dx fv, cls = .ref C ∧ mg e.cls = some (.ref C) ∧ d = some dx ∧ dx ∉ R ∧ H dx = some (.xd fv) ∧ fv.map (·.1) = e.fs.map (·.1) ∧ DVs K mg H R (fv.map (·.2)) (e.fs.map (·.2))
theorem closeX_V {x : Ex} {cls : Value} {dd : Option Addr} {P : D → Mu → Prop} {E : Ex → Mu → Prop} (s : Sto K mg μ H R) (e : Ex2 R H R' H') (s' : Sto K mg μ' H' R') (hd : ExV K mg H' R' cls dd x) (h : Ou (closeX μ x μ') P E) : ∃ z μ2, E z μ2 ∧ Ex2 R H R H' ∧ Sto K mg μ2 H' R ∧ ExV K mg H' R cls dd z := by
  unfold closeX at h
  split at h
  · rename_i hk
    split at h
    · rename_i fs hz
      have hc := cut_eq e s.len
      obtain ⟨q1, q2⟩ := frzF_all _ _ hz
      obtain ⟨C, dx, fv, h1, h2, h3, h4, h5, h6, h7⟩ := hd
      have := frzAll_V (fun _ => cut_mem) (lkOf_ok (n0 := μ.length) s') h7 q1
      rw [hc] at this
      refine ⟨⟨x.cls, fs⟩, _, h, ex_down e, sto_down s e s' hk.1, C, dx, fv, h1, h2, h3, fun z => h4 (e.sub z), h5, h6.trans q2.symm, this⟩
    · exact h.elim
  · exact h.elim
end

/-- what a def of this meaning promises -/
def LSp (K : PySem.W.Frag) (mg : Str → Option Value) (n : Nat) (f : VF) : Sp := fun vs H Q E => vs.length = n ∧ ∃ ds μ R, Sto K mg μ H R ∧ DVs K mg H R vs ds ∧
  Ou (f ds μ) (fun d μ' => Post K mg R H μ' d Q) (fun e μ' => ∀ H' R' cls dd, Ex2 R H R' H' → Sto K mg μ' H' R' → ExV K mg H' R' cls dd e → E cls dd H')
/-- an exception in the air -/
def WV (K : PySem.W.Frag) (mg : Str → Option Value) (B : Base) (EP : Ro → Ex → Mu → Prop) (cls : Value) (dd : Option Addr) (σ : St) (H : Hp) : Prop := ∃ ρ e μ R, Rp K mg B ρ μ σ H R ∧ ExV K mg H R cls dd e ∧ EP ρ e μ
/-- the context of a piece of a def -/
structure Ct (X : Cx) (B : Base) (EP : Ro → Ex → Mu → Prop) (sc : Scope) (N : List Str) (k : Nat) : Prop where
  esc : X.env.scope = sc
  eN : X.N = N
  nd : N.Nodup
  calm : X.calm = true
  room : Room k X.A
  pass : PassesOwn (model X.prog X.w) X.A X.env X.xe
  tk : Takes X (WV X.K X.mg B EP)
  fn : X.fn = fun _ => true
section
variable {P : Program} {w : World} {K : PySem.W.Frag} {mg : Str → Option Value} {base : Heap}
theorem rp_start {N : List Str} {ds : List D} {vs : List V} {μ : Mu} {H : Hp} {R : Rg} (s : Sto K mg μ H R) (d : DVs K mg H R vs ds) : Rp K mg ⟨R, H⟩ (ds.map some ++ List.replicate (N.length - ds.length) none) μ (L2.start N vs) H R :=
  ⟨s, by simp [L2.start, d.length], fun i x h => by
    unfold L2.start
    by_cases hi : i < ds.length
    · rw [List.getElem?_append_left (by simpa using hi), List.getElem?_map] at h
      cases hx : ds[i]? with
      | none => rw [hx] at h; cases h
      | some y =>
        rw [hx] at h; simp at h; subst h
        obtain ⟨v, hv, dv⟩ := d.get hx
        exact ⟨v, by rw [List.getElem?_append_left (by simpa [d.length] using hi), List.getElem?_map, hv]; rfl, dv⟩
    · rw [List.getElem?_append_right (by simpa using Nat.le_of_not_lt hi), List.getElem?_replicate] at h
      split at h <;> simp at h, Ex2.refl⟩
noncomputable def tailOf (run : Mu → D → Mu → Option (Rs D)) (unit : Bool) (μ : Mu) : Option Fl → Option (Rs D)
  | some (.nx _ μ') => if unit = true then run μ .non μ' else none
  | some (.rt d μ') => run μ d μ'
  | some (.er _ e μ') => closeX μ e μ'
  | _ => none
theorem def_gen {x qual : Str} {st : Stmt} {f : Addr} {fd : FuncData} {N ps : List Str} {k : Nat} (F : Fun K x qual st f fd) (S : FnScope N ps (defScope st)) {b : VS} {g : VF} {run : Mu → D → Mu → Option (Rs D)} {un : Bool}
    (hg : ∀ ds μ, g ds μ = tailOf run un μ (b (ds.map some ++ List.replicate (N.length - ds.length) none) μ))
    (hrun : ∀ {H H' : Hp} {R R' : Rg} {μ μ' : Mu} {d : D} {v : V} {P : D → Mu → Prop} {E : Ex → Mu → Prop}, Sto K mg μ H R → Ex2 R H R' H' → Sto K mg μ' H' R' → DV K mg H' R' v d → Ou (run μ d μ') P E → ∃ z μ2, P z μ2 ∧ ∃ R2, Ex2 R H R2 H' ∧ Sto K mg μ2 H' R2 ∧ DV K mg H' R2 v z)
    (hb : ∀ (X : Cx) (B : Base) (EP : Ro → Ex → Mu → Prop), X.prog = P → X.w = w → X.K = K → X.mg = mg → X.base = base → Ct X B EP (defScope st) N k → SSs X B EP (defBody st) b) :
    FnOk P w K mg base (L2.CX P w) (k + 1) f fd ps (LSp K mg ps.length g) := by
  refine Fun.okX F S (fun vs H Q E h => h.1) fun cdv A outer s H vs Q E hr ⟨hl, ds, μ, R, st0, dd, h⟩ => ?_
  rw [hg] at h
  let EP : Ro → Ex → Mu → Prop := fun _ e μ' => Ou (closeX μ e μ') (fun _ _ => False) (fun e μ' => ∀ H' R' cls dd, Ex2 R H R' H' → Sto K mg μ' H' R' → ExV K mg H' R' cls dd e → E cls dd H')
  let X := cxOf (L2.CX P w) P w K mg base N qual (defScope st) f cdv A outer s H E
  have ct : Ct X ⟨R, H⟩ EP (defScope st) N k := ⟨rfl, rfl, S.nd, rfl, hr, PassesOwn.leaving, (L2.takes_of (X := X) (E := E) rfl rfl rfl rfl).imp fun cls d σ H' ⟨ρ, e, μ', R', rp, ev, q⟩ => by
      obtain ⟨z, μ2, q1, q2, q3, q4⟩ := closeX_V st0 rp.ext rp.sto ev q
      exact q1 H' R cls d q2 q3 q4, rfl⟩
  refine ⟨_, hb X ⟨R, H⟩ EP rfl rfl rfl rfl rfl ct, _, μ, R, rp_start (N := N) st0 dd, ?_⟩
  show OuS K mg ⟨R, H⟩ EP R H (b (ds.map some ++ List.replicate (N.length - ds.length) none) μ) _
  cases eb : b (ds.map some ++ List.replicate (N.length - ds.length) none) μ with
  | none => rw [eb] at h; exact h.elim
  | some r =>
    rw [eb] at h
    cases r with
    | nx ρ' μ' =>
      intro σ' H' R' e' rp'
      cases un with
      | false => exact h.elim
      | true =>
        obtain ⟨z, μ2, q, R2, q1, q2, q3⟩ := hrun st0 e' rp'.sto .non (show Ou (run μ .non μ') _ _ from h)
        exact q .non H' R2 q1 q2 q3
    | rt d μ' =>
      intro v H' R' e' _ s' d'
      obtain ⟨z, μ2, q, R2, q1, q2, q3⟩ := hrun st0 e' s' d' (show Ou (run μ d μ') _ _ from h)
      exact q v H' R2 q1 q2 q3
    | bk _ _ => exact h.elim
    | ct _ _ => exact h.elim
    | er ρ' e μ' =>
      show EP ρ' e μ'
      have h : Ou (closeX μ e μ') _ _ := h
      show Ou (closeX μ e μ') _ _
      unfold closeX at h ⊢
      split at h
      · rename_i hk
        rw [if_pos hk]
        split at h
        · exact h
        · exact h.elim
      · exact h.elim
theorem def_ok {x qual : Str} {st : Stmt} {f : Addr} {fd : FuncData} {N ps : List Str} {k : Nat} (F : Fun K x qual st f fd) (S : FnScope N ps (defScope st)) {b : VS}
    (hb : ∀ (X : Cx) (B : Base) (EP : Ro → Ex → Mu → Prop), X.prog = P → X.w = w → X.K = K → X.mg = mg → X.base = base → Ct X B EP (defScope st) N k → SSs X B EP (defBody st) b) :
    FnOk P w K mg base (L2.CX P w) (k + 1) f fd ps (LSp K mg ps.length (runDef N.length b)) :=
  def_gen F S (run := close) (un := true) (fun ds μ => by unfold runDef tailOf; cases b (ds.map some ++ List.replicate (N.length - ds.length) none) μ with
    | none => rfl
    | some r => cases r <;> rfl) (fun s e s' d h => close_V s e s' d h) hb
theorem def_okB {x qual : Str} {st : Stmt} {f : Addr} {fd : FuncData} {N ps : List Str} {k : Nat} (F : Fun K x qual st f fd) (S : FnScope N ps (defScope st)) {b : VS}
    (hb : ∀ (X : Cx) (B : Base) (EP : Ro → Ex → Mu → Prop), X.prog = P → X.w = w → X.K = K → X.mg = mg → X.base = base → Ct X B EP (defScope st) N k → SSs X B EP (defBody st) b) :
    FnOk P w K mg base (L2.CX P w) (k + 1) f fd ps (LSp K mg ps.length (runDefB N.length b)) :=
  def_gen F S (run := closeB) (un := false) (fun ds μ => by unfold runDefB tailOf; cases b (ds.map some ++ List.replicate (N.length - ds.length) none) μ with
    | none => rfl
    | some r => cases r <;> rfl) (fun s e s' d h => closeB_V s e s' d h) hb
end

section
variable {X : Cx} {B : Base} {EP : Ro → Ex → Mu → Prop} {e : Expr} {es : List Expr} {tr : VA} {pos p : Pos}
theorem passV {σ : St} (tk : Takes X (WV X.K X.mg B EP)) : PassesAt (L2.CX X.prog X.w) X σ (fun cls dd H => WV X.K X.mg B EP cls dd σ H) := passAt tk σ
/-- the callee by values -/
theorem call_sp {n : Nat} {f : VF} {ρ : Ro} {μ1 : Mu} {σ : St} {H1 : Hp} {R1 : Rg} {vs : List V} {ds : List D} {Q : VK} (rp : Rp X.K X.mg B ρ μ1 σ H1 R1) (d : DVs X.K X.mg H1 R1 vs ds) (hn : vs.length = n) (h : Ou (f ds μ1) (fun d μ' => Post X.K X.mg R1 H1 μ' d Q) (EP ρ)) :
    LSp X.K X.mg n f vs H1 Q (fun cls dd H => WV X.K X.mg B EP cls dd σ H) := by
  refine ⟨hn, ds, μ1, R1, rp.sto, d, ?_⟩
  cases er : f ds μ1 with
  | none => rw [er] at h; exact h
  | some r =>
    rw [er] at h
    cases r with
    | ok d μ' => exact h
    | er x μ' => exact fun H' R' cls dd e' s' ev => ⟨ρ, x, μ', R', rp.go e' s', ev, h⟩
theorem se_call {k n : Nat} {f : Addr} {fd : FuncData} {ps : List Str} {g : VF} {x : Str} (F : FnOk X.prog X.w X.K X.mg X.base (L2.CX X.prog X.w) k f fd ps (LSp X.K X.mg n g)) (hr : Room k X.A) (hg : Gl X x) (hm : X.mg x = some (.ref f)) (hk : PySem.W.keepIn X.K (.ref f) = true) (hb : Binds X.K fd ps []) (tk : Takes X (WV X.K X.mg B EP))
    (ha : SA X B EP (e :: es) tr) (hn : ∀ ρ μ ds μ', tr ρ μ = some (.ok ds μ') → ds.length = n) (hdb : (x == ("__debug__" : Str)) = false) (he : starEach (e :: es) X.env = (false, eval e X.env) :: starEach es X.env) (hpl : (backTo pos (starEach es X.env)).any (·.1) = false) :
    SE X B EP (.Call (.Name x p) (e :: es) [] pos) (vCall g tr) :=
  (pe_callSD (dvs := []) (E := fun σ cls dd H => WV X.K X.mg B EP cls dd σ H) F hr hg hm hk hb .nil (fun σ => passV tk) ha hdb he hpl).weak fun σ H Q ⟨ρ, μ, R, rp, h⟩ => ⟨ρ, μ, R, rp, by
    have h' := Ou.bd h
    cases ea : tr ρ μ with
    | none => rw [ea] at h'; exact h'.elim
    | some r =>
      rw [ea] at h'
      cases r with
      | er x m => exact h'
      | ok ds μ1 =>
        have hn := hn _ _ _ _ ea
        intro vs H1 R1 e1 s1 d1
        rw [List.append_nil]
        exact call_sp (rp.go e1 s1) d1 (d1.length.trans hn) (Ou.mono h' fun d μ' q => q.pre e1)⟩
end
end VL
end
section
set_option linter.all false
set_option maxRecDepth 100000
set_option maxHeartbeats 4000000
namespace VL
open PySem L2 PySem.Spec PyProof.Rows
open AutoSeq1 (wpAny_loadPart')
theorem tuple_mul1 (l : Addr) (items : Array Value) (n : Nat) (dd : Option Addr) (sl : Array (Option Value)) (x : Int) (u : Tok) (c0 : (decide (x < -(2 ^ 63)) || decide (x ≥ 2 ^ 63)) = false) (c1 : (items.isEmpty || x == 1) = true) :
    Meets (Builtin.«tuple.__mul__» ⟨[.ref l, .int x u], []⟩) (fun _ R s => s.heap.get? l = some { cls := .type "tuple", dict := dd, data := .seq items n, slots := sl } ∧ R (.ok (.ret (Value.ref l))) s) :=
  .of_wp fun prog w A R s h => by
    obtain ⟨hp, g, d, tk, os⟩ := s
    obtain ⟨hl, h⟩ := h
    have f1 := AutoSeq1.idx_int
    wp_walk using wpAny_loadPart' hl
    repeat (first
      | (refine wpAny_ite_false (decide_eq_false (by rw [c0]; exact Bool.false_ne_true)) ?_; wp_walk using wpAny_loadPart' hl)
      | (refine wpAny_ite_true (decide_eq_true c1) ?_; wp_walk using wpAny_loadPart' hl))
    exact ⟨_, rfl, h⟩
theorem tuple_mul0 (l : Addr) (items : Array Value) (n : Nat) (dd : Option Addr) (sl : Array (Option Value)) (x : Int) (u : Tok) (c0 : (decide (x < -(2 ^ 63)) || decide (x ≥ 2 ^ 63)) = false) (c1 : (items.isEmpty || x == 1) = false) (c2 : (decide (x ≤ 0) || items.isEmpty) = true) :
    Meets (Builtin.«tuple.__mul__» ⟨[.ref l, .int x u], []⟩) (fun _ R s => s.heap.get? l = some { cls := .type "tuple", dict := dd, data := .seq items n, slots := sl } ∧
      R (.ok (.ret (Value.ref s.heap.objs.size))) { s with heap := s.heap.push { cls := Value.type "tuple", data := Data.seq #[] }, toks := s.toks }) :=
  .of_wp fun prog w A R s h => by
    obtain ⟨hp, g, d, tk, os⟩ := s
    obtain ⟨hl, h⟩ := h
    have f1 := AutoSeq1.idx_int
    wp_walk using wpAny_loadPart' hl
    repeat (first
      | (refine wpAny_ite_false (decide_eq_false (by rw [c0]; exact Bool.false_ne_true)) ?_; wp_walk using wpAny_loadPart' hl)
      | (refine wpAny_ite_false (decide_eq_false (by rw [c1]; exact Bool.false_ne_true)) ?_; wp_walk using wpAny_loadPart' hl)
      | (refine wpAny_ite_true (decide_eq_true c2) ?_; wp_walk using wpAny_loadPart' hl))
    exact ⟨_, rfl, h⟩

abbrev rRepT1 (K : PySem.W.Frag) : R2 := fun x y H Q => ∃ l k xs, x = .ref l ∧ y = .int k ∧ SqT K H l xs ∧ -(2 ^ 63) ≤ k ∧ k < 2 ^ 63 ∧ (((xs = [] ∨ k = 1) ∧ Q (.ref l) H) ∨ (xs ≠ [] ∧ k ≤ 0 ∧ ∀ p, H p = none → Q (.ref p) (upd H p (.tup []))))
theorem op_repT1 {X : Cx} : OpR X (binaryOp .Mult) (rRepT1 X.K) := by
  intro pins s σ H x y v u Q I rx ry h
  obtain ⟨l, k, xs, rfl, rfl, hT, h1, h2, q⟩ := h
  cases rx
  obtain ⟨t, rfl⟩ := ry
  obtain ⟨its, r, ⟨⟨cls, dd, data, sl⟩, ho, hc, n, hd⟩, hs⟩ := I.tuple hT
  simp only at hc hd
  subst hc hd
  have hle : its.length = xs.length := r.length.symm
  have c0 : (decide (k < -(2 ^ 63)) || decide (k ≥ 2 ^ 63)) = false := by
    rw [decide_eq_false (by omega), decide_eq_false (by omega)] <;> rfl
  rcases q with ⟨hk, q⟩ | ⟨hne, hk, q⟩
  · have c1 : (its.toArray.isEmpty || k == 1) = true := by
      rcases hk with rfl | rfl
      · cases its with
        | nil => rfl
        | cons a b => simp at hle
      · simp
    refine wpAny_binaryOp_repeat_ref (T := "tuple") (U := "int") (by decide) ⟨_, ho, rfl⟩ (fun s' => typeIs_int s' k t) noFill_tuple_mul F.fills_int_mul F.slot_int_rmul repeat_tuple F.slot_int_index.lookup
      (call_meets F.slot_int_rmul (typeIs_int s k t) F.entry_int_rmul (F.args_int_rmul_2 _ _) (int_rmul_tuple k t l its.toArray n dd sl)
        ⟨ho, rfl, ⟨_, ho, rfl⟩, call_meets F.slot_tuple_mul ⟨_, ho, rfl⟩ F.entry_tuple_mul (F.args_tuple_mul_2 _ _) (tuple_mul1 l its.toArray n dd sl k t c0 c1) ⟨ho, ?_⟩⟩)
    exact ⟨.ref l, H, I, rfl, q⟩
  · have hi : its.toArray.isEmpty = false := by
      cases its with
      | nil => exact absurd (List.eq_nil_of_length_eq_zero hle.symm) hne
      | cons a b => rfl
    have c1 : (its.toArray.isEmpty || k == 1) = false := by
      rw [hi, Bool.false_or]
      exact beq_eq_false_iff_ne.mpr (by omega)
    have c2 : (decide (k ≤ 0) || its.toArray.isEmpty) = true := by
      rw [decide_eq_true hk]; rfl
    refine wpAny_binaryOp_repeat_ref (T := "tuple") (U := "int") (by decide) ⟨_, ho, rfl⟩ (fun s' => typeIs_int s' k t) noFill_tuple_mul F.fills_int_mul F.slot_int_rmul repeat_tuple F.slot_int_index.lookup
      (call_meets F.slot_int_rmul (typeIs_int s k t) F.entry_int_rmul (F.args_int_rmul_2 _ _) (int_rmul_tuple k t l its.toArray n dd sl)
        ⟨ho, rfl, ⟨_, ho, rfl⟩, call_meets F.slot_tuple_mul ⟨_, ho, rfl⟩ F.entry_tuple_mul (F.args_tuple_mul_2 _ _) (tuple_mul0 l its.toArray n dd sl k t c0 c1 c2) ⟨ho, ?_⟩⟩)
    refine ⟨.ref s.heap.objs.size, _, I.laid (t' := s.toks) (o := .tup []) (fun b ob q => Heap.get?_push_of_some _ q) (Nat.le_refl _) ?_, rfl, q _ (I.hok.fresh (Nat.le_refl _))⟩
    exact ⟨by rw [sizeLine_eq]; simp, [], .nil, IsTup.new _ _⟩

def repD (xs : List D) (k : Int) : List D := (List.replicate k.toNat xs).flatten
def opRepL : D → D → Mu → Option (D × Mu) := fun d e μ => match lstOf μ d, e with
  | some xs, .int k => if -(2 ^ 62) ≤ k ∧ k ≤ 1000 ∧ xs.length ≤ 1000 then some (.lst (repD xs k), μ) else none
  | _, _ => none
def opMul : D → D → Mu → Option (D × Mu) := fun d e μ => match d, e with
  | .int i, .int j => if (-(2 ^ 64) < i ∧ i < 2 ^ 64) ∨ (-(2 ^ 64) < j ∧ j < 2 ^ 64) then some (.int (i * j), μ) else none
  | .tup xs, .int k => if -(2 ^ 62) ≤ k ∧ k ≤ 1000 ∧ xs.length ≤ 1000 then some (.tup (repD xs k), μ) else none
  | d, e => opRepL d e μ
abbrev rMul (K : PySem.W.Frag) : R2 := fun x y H Q => ((rI CMul (fun i j => .int (i * j)) x y H Q ∨ rRepT K x y H Q) ∨ rRepT1 K x y H Q) ∨ rRep x y H Q
theorem op_mul4 {X : Cx} : OpR X (binaryOp .Mult) (rMul X.K) := ((op_mul.or op_repT).or op_repT1).or op_rep
section
variable {K : PySem.W.Frag} {mg : Str → Option Value} {H : Hp} {R : Rg} {μ : Mu}
theorem DVs.rep {vs : List V} {ds : List D} (h : DVs K mg H R vs ds) : ∀ n : Nat, DVs K mg H R (List.replicate n vs).flatten (List.replicate n ds).flatten
  | 0 => .nil
  | n + 1 => by
    simp only [List.replicate_succ, List.flatten_cons]
    exact h.append (DVs.rep h n)
theorem rep_len {α : Type} (xs : List α) (n : Nat) : (List.replicate n xs).flatten.length = n * xs.length := by
  induction n with
  | zero => simp
  | succ n ih => simp only [List.replicate_succ, List.flatten_cons, List.length_append, ih, Nat.succ_mul]; omega
theorem rep_size {α : Type} {xs : List α} {k : Int} (h2 : k ≤ 1000) (h3 : xs.length ≤ 1000) : (List.replicate k.toNat xs).flatten.length ≤ sizeLine := by
  rw [rep_len, sizeLine_eq]
  have : k.toNat * xs.length ≤ 1000 * 1000 := Nat.mul_le_mul (by omega) h3
  omega
theorem opRepL_V' {x y : V} {d e z : D} {μ' : Mu} {Q : VK} (s : Sto K mg μ H R) (hx : DV K mg H R x d) (hy : DV K mg H R y e) (hz : opRepL d e μ = some (z, μ'))
    (q : ∀ xs vs k, z = .lst (repD xs k) → μ' = μ → DVs K mg H R (List.replicate k.toNat vs).flatten (repD xs k) → (List.replicate k.toNat vs).flatten.length ≤ sizeLine → ∀ p, H p = none → Q (.ref p) (upd H p (.lst (List.replicate k.toNat vs).flatten))) : rRep x y H Q := by
  unfold opRepL at hz
  split at hz
  · rename_i xs k hl
    split at hz
    · rename_i hk
      cases hz; cases hy
      obtain ⟨a, vs, rfl, ha, hs, dd⟩ := lst_at s hx hl
      have hlen := dd.length
      refine ⟨a, k, vs, rfl, rfl, ha, by omega, by omega, ?_, q _ vs k rfl rfl (dd.rep _) (rep_size hk.2.1 (by rw [hlen]; exact hk.2.2))⟩
      have := rep_size (xs := vs) hk.2.1 (by rw [hlen]; exact hk.2.2)
      rw [rep_len] at this
      rw [Nat.mul_comm]; exact this
    · cases hz
  · cases hz
theorem opRepL_V : OpV K mg opRepL rRep := fun R H μ x y d e z μ' Q s hx hy hz q => opRepL_V' s hx hy hz fun xs vs k ez em dd hl p hp => by
  subst ez em
  exact q.new s hp (.lst ⟨s.fresh hp, upd_same⟩ hl (dd.ext (Ex2.upd (s.fresh hp) hp)))
theorem opMul_V : OpV K mg opMul (rMul K) := by
  intro R H μ x y d e z μ' Q s hx hy hz q
  unfold opMul at hz
  split at hz
  · split at hz
    · rename_i hc
      cases hz; cases hx; cases hy
      exact .inl (.inl (.inl ⟨_, _, rfl, rfl, hc, q.now s (.int _)⟩))
    · cases hz
  · split at hz
    · rename_i xs k hk
      cases hz; cases hy
      cases hx with
      | @tup a vs _ h1 h2 h3 =>
        have hlen := h3.length
        by_cases hc : vs = [] ∨ k = 1
        · refine .inl (.inr ⟨a, k, vs, rfl, rfl, h1.sq, by omega, by omega, .inl ⟨hc, q.now s ?_⟩⟩)
          have : repD xs k = xs := by
            rcases hc with rfl | rfl
            · have hx0 : xs = [] := List.eq_nil_of_length_eq_zero hlen.symm
              subst hx0
              unfold repD
              exact List.eq_nil_of_length_eq_zero (by rw [rep_len]; simp)
            · simp [repD]
          rw [this]
          exact .tup h1 h2 h3
        · by_cases h0 : k ≤ 0
          · refine .inl (.inr ⟨a, k, vs, rfl, rfl, h1.sq, by omega, by omega, .inr ⟨fun z => hc (.inl z), h0, fun p hp => q.new s hp ?_⟩⟩)
            have : repD xs k = [] := by
              have e0 : k.toNat = 0 := by omega
              simp [repD, e0]
            rw [this]
            exact .tup (.inl ⟨s.fresh hp, upd_same⟩) (by simp) .nil
          · refine .inl (.inl (.inr ⟨a, k, vs, rfl, rfl, h1.sq, fun z => hc (.inl z), by omega, hk.2.1, by rw [hlen]; exact hk.2.2, fun p hp => q.new s hp ?_⟩))
            exact .tup (.inl ⟨s.fresh hp, upd_same⟩) (rep_size hk.2.1 (by rw [hlen]; exact hk.2.2)) ((h3.rep _).ext (Ex2.upd (s.fresh hp) hp))
    · cases hz
  · exact .inr (opRepL_V R H μ x y _ _ z μ' Q s hx hy hz q)
end
section
variable {X : Cx} {B : Base} {EP : Ro → Ex → Mu → Prop} {a b : Expr} {ta tb : VE} {pos : Pos}
/-- [..] * n, a new list -/
theorem sf_rep (ha : SE X B EP a ta) (hb : SE X B EP b tb) : SF X B EP (.BinOp a .Mult b pos) (vOp opRepL ta tb) :=
  (pe_op op_rep ha hb).weak fun σ H Q ⟨ρ, μ, R, rp, h⟩ => ⟨ρ, μ, R, rp, (Ou.bd h).mono fun x μ1 h1 v1 H1 R1 e1 s1 d1 => ⟨ρ, μ1, R1, rp.go e1 s1, (Ou.bd h1).mono fun y μ2 h2 v2 H2 R2 e2 s2 d2 => by
    obtain ⟨z, μ', ez, q⟩ := h2.lift
    refine opRepL_V' s2 (d1.ext e2) d2 ez fun xs vs k ez em dd hl p hp => ?_
    subst ez em
    exact (q _ rfl).lay rp.sto (e1.trans e2) s2 dd hl hp⟩⟩
def opCatL : D → D → Mu → Option (D × Mu) := fun d e μ => match lstOf μ d, lstOf μ e with
  | some xs, some ys => if xs.length + ys.length ≤ 16777216 then some (.lst (xs ++ ys), μ) else none
  | _, _ => none
theorem sf_cat (ha : SE X B EP a ta) (hb : SE X B EP b tb) : SF X B EP (.BinOp a .Add b pos) (vOp opCatL ta tb) :=
  (pe_op op_cat ha hb).weak fun σ H Q ⟨ρ, μ, R, rp, h⟩ => ⟨ρ, μ, R, rp, (Ou.bd h).mono fun x μ1 h1 v1 H1 R1 e1 s1 d1 => ⟨ρ, μ1, R1, rp.go e1 s1, (Ou.bd h1).mono fun y μ2 h2 v2 H2 R2 e2 s2 d2 => by
    obtain ⟨z, μ', ez, q⟩ := h2.lift
    unfold opCatL at ez
    split at ez
    · rename_i xs ys hx hy
      split at ez
      · rename_i hl
        cases ez
        obtain ⟨a, vs, rfl, ha, za, da⟩ := lst_at s2 (d1.ext e2) hx
        obtain ⟨b, ws, rfl, hb, zb, db⟩ := lst_at s2 d2 hy
        refine ⟨a, b, vs, ws, rfl, rfl, ha, hb, by rw [da.length, db.length, sizeLine_eq]; exact hl, fun p hp => ?_⟩
        exact (q _ rfl).lay rp.sto (e1.trans e2) s2 (da.append db) (by rw [List.length_append, da.length, db.length, sizeLine_eq]; exact hl) hp
      · cases ez
    · cases ez⟩⟩
end
end VL
end
section
set_option linter.all false
set_option maxRecDepth 100000
set_option maxHeartbeats 4000000
namespace VL
open PySem L2 PySem.Spec PyProof.Rows
section
variable {prog : Program} {w : World} {A : Around} {E : Value → Shared → Prop} {s : Shared}
theorem rev_pick (xs : Array Value) : ((List.range xs.size).filterMap fun (m : Nat) => xs[(((xs.size : Nat) : Int) - 1 + (m : Int) * (-1)).toNat]?).toArray = xs.toList.reverse.toArray := by
  have e : ((List.range xs.size).filterMap fun (m : Nat) => xs[(((xs.size : Nat) : Int) - 1 + (m : Int) * (-1)).toNat]?) = ((List.range xs.size).map (fun k => xs.size - 1 - k)).filterMap (xs[·]?) := by
    rw [List.filterMap_map]
    have : (fun (m : Nat) => xs[(((xs.size : Nat) : Int) - 1 + (m : Int) * (-1)).toNat]?) = (fun x => xs[x]?) ∘ fun k => xs.size - 1 - k := by
      funext m
      have : (((xs.size : Nat) : Int) - 1 + (m : Int) * (-1)).toNat = xs.size - 1 - m := by omega
      show xs[_]? = xs[_]?
      rw [this]
    rw [this]
  rw [e, PySem.W.krv_range, List.filterMap_reverse, PySem.W.krv_all]
theorem applied_rev {sl : Addr} {vl vu vs : Value} {n : Nat} {Q : Int × Int × Nat → Shared → Prop} (hs : s.heap.IsSliceOf sl vl vu vs) (pl : IsPart vl none) (pu : IsPart vu none) (ps : IsPart vs (some (-1)))
    (h : Q ((n : Int) - 1, -1, n) s) : wpAny (model prog w) A (Builtin.Slice.sliceApplied (.ref sl) (pure (n : Int))) Q E s := by
  obtain ⟨os, hos, hcs, hds⟩ := id hs
  unfold Builtin.Slice.sliceApplied Builtin.Slice.sliceFields
  refine wpAny_bind (wpAny_bind (wpAny_field hos hds (x := vl) rfl (wpAny_bind (wpAny_field hos hds (x := vu) rfl (wpAny_bind (wpAny_field hos hds (x := vs) rfl (wpAny_pure ?_)))))))
  refine wpAny_bind (HT.slicePart_ ps ?_)
  show wpAny _ _ (if ((-1 : Int) == 0) = true then _ else _) _ _ s
  rw [if_neg (by decide)]
  refine wpAny_bind (HT.slicePart_ pl (wpAny_bind (HT.slicePart_ pu (wpAny_bind (wpAny_pure ?_)))))
  have hp : Builtin.Slice.slicePlaces ((n : Int) - 1) (-1) (-1) = n := by
    unfold Builtin.Slice.slicePlaces
    have h1 : ¬ ((-1 : Int) > 0) := by decide
    simp only [h1, if_false]
    by_cases h : (n : Int) - 1 > -1
    · simp only [h, if_true]
      rw [show (- -1 : Int) = 1 by decide, Int.ediv_one]
      omega
    · simp only [h, if_false]
      omega
  show wpAny _ _ (match Builtin.Slice.sliceAdjust none none (-1) (n : Int) with | (lo, hi) => pure (lo, (-1 : Int), Builtin.Slice.slicePlaces lo hi (-1))) _ _ s
  rw [show Builtin.Slice.sliceAdjust none none (-1) (n : Int) = ((n : Int) - 1, -1) from rfl]
  show wpAny _ _ (pure ((n : Int) - 1, (-1 : Int), Builtin.Slice.slicePlaces ((n : Int) - 1) (-1) (-1))) _ _ s
  rw [hp]
  exact wpAny_pure h
theorem getItem_tuple_rev {t sl : Addr} {items : Array Value} {vl vu vs : Value} {Q : Value → Shared → Prop} (ht : IsTup s.heap t items) (hs : s.heap.IsSliceOf sl vl vu vs) (pl : IsPart vl none) (pu : IsPart vu none) (ps : IsPart vs (some (-1)))
    (h : Q (.ref s.heap.objs.size) { s with heap := s.heap.push { cls := .type "tuple", data := .seq items.toList.reverse.toArray } }) (hsz : items.size ≤ sizeLine) : wpAny (model prog w) A (getItem (.ref t) (.ref sl)) Q E s := by
  have htake : sizeOk (.seq items.toList.reverse.toArray) := by
    show items.toList.reverse.toArray.size ≤ sizeLine
    rw [List.size_toArray, List.length_reverse, Array.length_toList]
    exact hsz
  obtain ⟨os, hos, hcs, hds⟩ := id hs
  have hTs : s.TypeIs (.ref sl) "slice" := ⟨os, hos, hcs⟩
  unfold getItem
  try with_reducible refine wpAny_holding ?_
  first | refine wpAny_bind (wpAny_pure ?_) | skip
  refine wpAny_bind (wpAny_sequenceKey ht.typeIs (by decide) ?_)
  refine wpAny_bind (wpAny_callSpecial?_slot (name := Str.ofString "__getitem__") ht.typeIs PyProof.Rows.slot_tuple_getitem
    (wpAny_call_entry PyProof.Rows.slot_tuple_getitem ht.typeIs entry_tuple_getitem ?_ (args_tuple_getitem _ _)))
  show wpAny _ _ (Builtin.Tuple.tupleItemsOf (.ref t) >>= _) _ _ s
  refine wpAny_bind (tupleItemsOf_ ht ?_)
  refine wpAny_bind (wpAny_typeOf hTs ?_)
  rw [if_pos (by decide)]
  refine wpAny_bind (applied_rev hs pl pu ps ?_)
  show wpAny _ _ (if ((((items.size : Nat) : Int) - 1) == 0 && (-1 : Int) == 1 && items.size == items.size) = true then _ else _) _ _ s
  have hno : ¬ ((((items.size : Nat) : Int) - 1) == 0 && (-1 : Int) == 1 && items.size == items.size) = true := by
    intro q
    rw [Bool.and_eq_true, Bool.and_eq_true] at q
    exact absurd q.1.2 (by decide)
  rw [if_neg hno, rev_pick]
  first
    | exact wpAny_bind (m := Builtin.Tuple.tupleExact _) (wpAny_newObj_type (wpAny_pure ⟨_, rfl, wpAny_pure h⟩) htake)
    | exact wpAny_bind (m := Builtin.Tuple.tupleExact _) (wpAny_newObj_type (wpAny_bind (wpAny_pure (wpAny_pure ⟨_, rfl, wpAny_pure h⟩))) htake)
    | exact wpAny_bind (wpAny_bind (m := Builtin.Tuple.tupleExact _) (wpAny_newObj_type (wpAny_pure (wpAny_pure ⟨_, rfl, wpAny_pure h⟩)) htake))
    | exact wpAny_bind (wpAny_bind (m := Builtin.Tuple.tupleExact _) (wpAny_newObj_type (wpAny_pure ⟨_, rfl, wpAny_pure h⟩) htake))
end
/-- xs[::-1] of a list, of a tuple -/
def tRev2 (K : PySem.W.Frag) (te : TE) : TE := fun σ H Q => te σ H fun x H1 => ∃ a xs, x = .ref a ∧ ((SqL K H1 a xs ∧ ∀ p, H1 p = none → Q (.ref p) (upd H1 p (.lst xs.reverse))) ∨ (SqT K H1 a xs ∧ ∀ p, H1 p = none → Q (.ref p) (upd H1 p (.tup xs.reverse))))
theorem pe_rev2 {X : Cx} {e : Expr} {te : TE} {k : Nat} {p1 p2 p3 pos : Pos} (he : PE X e te) : PE X (.Subscript e (.Slice none none (some (.UnaryOp .USub (.Constant (.int 1) k p1) p2)) p3) pos) (tRev2 X.K te) := by
  refine ⟨fun pins s σ H Q I h => ?_⟩
  refine Subscript_ (thn (he.run pins s σ H _ I h) fun v s1 ⟨x, H1, I1, r1, q1⟩ => ?_)
  obtain ⟨a, xs, ex, hx⟩ := q1
  subst ex
  cases r1
  have hst : PO X (some (.UnaryOp .USub (.Constant (.int 1) k p1) p2)) (tPart (tUn (rU fun i => .int (-i)) (tC (.int 1)))) := po_some (pe_un un_neg pe_int)
  refine wpAny_Slice (thn (po_none.run pins s1 σ H1 (fun o H2 => o = none ∧ H2 = H1) I1 ⟨rfl, rfl⟩) fun vl s2 ⟨l, H2, I2, pl, el, e2⟩ => ?_)
  subst el e2
  refine thn (po_none.run pins s2 σ H2 (fun o H3 => o = none ∧ H3 = H2) I2 ⟨rfl, rfl⟩) fun vu s3 ⟨u, H3, I3, pu, eu, e3⟩ => ?_
  subst eu e3
  refine thn (hst.run pins s3 σ H3 (fun o H4 => o = some (-1) ∧ H4 = H3) I3 ⟨1, rfl, -1, rfl, rfl, rfl⟩) fun vs s4 ⟨o, H4, I4, ps, eo, e4⟩ => ?_
  subst eo e4
  have I5 : Inv X pins σ H4 { s4 with heap := s4.heap.push { cls := .type "slice", data := .fields #[vl, vu, vs] } } := I4.kept (t' := s4.toks) fun b ob q => Heap.get?_push_of_some _ q
  show wpAny (model X.prog X.w) X.A (subscriptTail e (.Slice none none (some (.UnaryOp .USub (.Constant (.int 1) k p1) p2)) p3) (.ref a) (.ref s4.heap.objs.size)) (L2.EP X pins σ Q) X.xe { s4 with heap := s4.heap.push { cls := .type "slice", data := .fields #[vl, vu, vs] } }
  rcases hx with ⟨hx, q⟩ | ⟨hx, q⟩
  · obtain ⟨its, r, ht, hz⟩ := I5.list hx
    have hlen := r.length
    refine tail_any (ops := [.ref a, .ref s4.heap.objs.size]) ht.isList.typeIs (PySem.slot_list_getitem.lookup) ?_ (by with_unfolding_all rfl)
    refine wpAny_getItem_list_slice ht.isList (Heap.IsSliceOf.new _ vl vu vs) pl pu ps (by decide) ?_ (by rw [List.size_toArray]; omega)
    rw [PySem.W.krv_pick]
    refine ⟨.ref _, _, I5.laid (t' := s4.toks) (o := .lst xs.reverse) (fun b ob q => Heap.get?_push_of_some _ q) (Nat.le_refl _) ?_, rfl, q _ (I5.hok.fresh (Nat.le_refl _))⟩
    exact ⟨by rw [List.length_reverse]; exact hz, _, 0, r.reverse, Heap.get?_push_size _ rfl⟩
  · obtain ⟨its, r, ht, hz⟩ := I5.tuple hx
    have hlen := r.length
    refine tail_any (ops := [.ref a, .ref s4.heap.objs.size]) ht.typeIs (PyProof.Rows.slot_tuple_getitem.lookup) ?_ (by with_unfolding_all rfl)
    refine getItem_tuple_rev ht (Heap.IsSliceOf.new _ vl vu vs) pl pu ps ?_ (by rw [List.size_toArray]; omega)
    refine ⟨.ref _, _, I5.laid (t' := s4.toks) (o := .tup xs.reverse) (fun b ob q => Heap.get?_push_of_some _ q) (Nat.le_refl _) ?_, rfl, q _ (I5.hok.fresh (Nat.le_refl _))⟩
    exact ⟨by rw [List.length_reverse]; exact hz, _, r.reverse, IsTup.new _ _⟩
def opRev : D → Mu → Option (D × Mu) := fun d μ => match d with
  | .tup xs => some (.tup xs.reverse, μ)
  | .scr xs => some (.lst xs.reverse, μ)
  | d => (lstOf μ d).map fun xs => (.lst xs.reverse, μ)
theorem se_rev {X : Cx} {B : Base} {EP : Ro → Ex → Mu → Prop} {e : Expr} {ta : VE} {k : Nat} {p1 p2 p3 pos : Pos} (he : SE X B EP e ta) : SE X B EP (.Subscript e (.Slice none none (some (.UnaryOp .USub (.Constant (.int 1) k p1) p2)) p3) pos) (vUn opRev ta) :=
  (pe_rev2 he).weak fun σ H Q ⟨ρ, μ, R, rp, h⟩ => ⟨ρ, μ, R, rp, (Ou.bd h).mono fun x μ1 h1 v1 H1 R1 e1 s1 d1 => by
    obtain ⟨z, μ', ez, q⟩ := h1.lift
    have q := q.pre e1
    unfold opRev at ez
    split at ez
    · cases ez
      cases d1 with
      | @tup a vs _ h1 h2 h3 => exact ⟨a, vs, rfl, .inr ⟨h1.sq, fun p hp => q.new s1 hp (.tup (.inl ⟨s1.fresh hp, upd_same⟩) (by rw [List.length_reverse]; exact h2) (h3.reverse.ext (Ex2.upd (s1.fresh hp) hp)))⟩⟩
    · cases ez
      cases d1 with
      | @scr a vs _ h1 h2 h3 => exact ⟨a, vs, rfl, .inl ⟨h1.sq, fun p hp => q.new s1 hp (.lst ⟨s1.fresh hp, upd_same⟩ (by rw [List.length_reverse]; exact h2) (h3.reverse.ext (Ex2.upd (s1.fresh hp) hp)))⟩⟩
    · cases hl : lstOf μ1 x with
      | none => rw [hl] at ez; cases ez
      | some xs =>
        rw [hl] at ez; cases ez
        obtain ⟨a, vs, rfl, ha, hz, dd⟩ := lst_at s1 d1 hl
        exact ⟨a, vs, rfl, .inl ⟨.inl (.inl ha), fun p hp => q.new s1 hp (.lst ⟨s1.fresh hp, upd_same⟩ (by rw [List.length_reverse]; exact hz) (dd.reverse.ext (Ex2.upd (s1.fresh hp) hp)))⟩⟩⟩
end VL
end
section
set_option linter.all false
set_option maxRecDepth 100000
set_option maxHeartbeats 4000000
namespace VL
open PySem L2

def flatD : D → Bool
  | .non => true | .bl _ => true | .int _ => true | .str _ => true
  | _ => false
def eqF : D → D → Bool
  | .non, .non => true
  | .bl a, .bl b => a == b
  | .bl a, .int b => (if a then 1 else 0) == b
  | .int a, .bl b => a == (if b then 1 else 0)
  | .int a, .int b => a == b
  | .str a, .str b => a == b
  | _, _ => false
def inD (d : D) (xs : List D) : Bool := xs.any fun y => eqF y d
def opIn (neg : Bool) : D → D → Mu → Option (D × Mu) := fun d e μ => match seqOf μ e with
  | some xs => if flatD d = true ∧ xs.all flatD = true then some (.bl (if neg = true then !inD d xs else inD d xs), μ) else none
  | none => none
section
variable {K : PySem.W.Frag} {mg : Str → Option Value} {H : Hp} {R : Rg} {μ : Mu}
theorem flat_V {v : V} {d : D} (h : DV K mg H R v d) (f : flatD d = true) : flatV v = true := by
  cases h <;> first | rfl | cases f
theorem eqF_V {v w : V} {d e : D} (h : DV K mg H R v d) (g : DV K mg H R w e) (f : flatD d = true) (f' : flatD e = true) : eqV v w = eqF d e := by
  cases h <;> first | (exfalso; simp [flatD] at f; done) | (cases g <;> first | rfl | (exfalso; simp [flatD] at f'; done))
theorem flatAll_V : ∀ {vs : List V} {ds : List D}, DVs K mg H R vs ds → ds.all flatD = true → vs.all flatV = true
  | _, _, .nil, _ => rfl
  | _, _, .cons h t, f => by
    simp only [List.all_cons, Bool.and_eq_true] at f ⊢
    exact ⟨flat_V h f.1, flatAll_V t f.2⟩
theorem in_V {v : V} {d : D} (h : DV K mg H R v d) (f : flatD d = true) : ∀ {vs : List V} {ds : List D}, DVs K mg H R vs ds → ds.all flatD = true → inV v vs = inD d ds
  | _, _, .nil, _ => rfl
  | _, _, .cons h' t, g => by
    simp only [List.all_cons, Bool.and_eq_true] at g
    unfold inV inD
    simp only [List.any_cons]
    rw [eqF_V h' h g.1 f]
    have := in_V h f t g.2
    unfold inV inD at this
    rw [this]
theorem opIn_V (neg : Bool) : OpV K mg (opIn neg) (rIn K neg) := by
  intro R H μ x y d e z μ' Q s hx hy hz q
  unfold opIn at hz
  split at hz
  · rename_i xs hs
    split at hz
    · rename_i hf
      cases hz
      obtain ⟨a, vs, rfl, ha, hsz, dd⟩ := seq_at s hy hs
      refine ⟨a, vs, rfl, ha, flat_V hx hf.1, flatAll_V dd hf.2, ?_⟩
      rw [in_V hx hf.1 dd hf.2]
      exact q.now s (.bl _)
    · cases hz
  · cases hz
end

inductive Ty where
  | b (n : String) | c (x : Str)
def tyD (μ : Mu) : D → Option Ty
  | .non => some (.b "NoneType")
  | .bl _ => some (.b "bool")
  | .int _ => some (.b "int")
  | .str _ => some (.b "str")
  | .tup _ => some (.b "tuple")
  | .lst _ => some (.b "list")
  | .scr _ => some (.b "list")
  | .obj c _ => some (.c c)
  | .ref n => match μ[n]? with
    | some (.lst _) => some (.b "list")
    | some (.dct _) => some (.b "dict")
    | some (.ins c _) => some (.c c)
    | none => none
  | _ => none
def anyK (kit : Ty → Ty → Option Bool) (t : Ty) : List Ty → Option Bool
  | [] => some false
  | c :: r => match kit t c with
    | some true => some true
    | some false => anyK kit t r
    | none => none
def vIsi (kit : Ty → Ty → Option Bool) (a : VE) (ts : List Ty) : VE := fun ρ μ => bd (a ρ μ) fun x μ1 => match tyD μ1 x with
  | some t => match anyK kit t ts with
    | some k => some (.ok (.bl k) μ1)
    | none => none
  | none => none
/-- a type's value -/
def TyVal (mg : Str → Option Value) : Ty → Value → Prop
  | .b n, v => v = .type n
  | .c x, v => mg x = some v ∧ ∃ C, v = .ref C
/-- what isinstance asks of an own class -/
structure ClsI (K : PySem.W.Frag) (C : Addr) : Prop where
  cls : Cls K C
  ha : PySem.W.findIn K (.ref C) "__class__" = some (some (.builtin "object.__class__"))
  hn : PySem.W.specialIn K (.builtin "object.__class__") "__get__" = some (some (.builtin "getset_descriptor.__get__"))
  htk : PySem.W.takesIn K (.builtin "object.__class__") = some true
  hm : PySem.W.mroIn K C (.type "object") = some true
structure KitOk (K : PySem.W.Frag) (mg : Str → Option Value) (kit : Ty → Ty → Option Bool) : Prop where
  one : ∀ t u b, kit t u = some b → ∀ tv uv, TyVal mg t tv → TyVal mg u uv → PySem.W.kitOne K tv uv = some b
  cls : ∀ x u b C, kit (.c x) u = some b → mg x = some (.ref C) → ClsI K C
section
variable {K : PySem.W.Frag} {mg : Str → Option Value} {H : Hp} {R : Rg} {μ : Mu} {kit : Ty → Ty → Option Bool}
theorem kit_hit {t : Ty} : ∀ {ts : List Ty} {b : Bool}, anyK kit t ts = some b → ts = [] ∨ ∃ u b', kit t u = some b'
  | [], _, _ => .inl rfl
  | c :: r, b, h => by
    unfold anyK at h
    cases e : kit t c with
    | none => rw [e] at h; cases h
    | some k => exact .inr ⟨c, k, e⟩
theorem kit_tys (ok : KitOk K mg kit) {t : Ty} {tv : Value} (ht : TyVal mg t tv) : ∀ {ts : List Ty} {us : List Value} {b : Bool}, Paired (TyVal mg) ts us → anyK kit t ts = some b → PySem.W.kitAny K tv us = some b
  | _, _, _, .nil, h => h
  | _, _, _, .cons (a := c) (b := cv) hc r, h => by
    unfold anyK at h
    unfold PySem.W.kitAny
    cases e : kit t c with
    | none => rw [e] at h; cases h
    | some k =>
      rw [ok.one _ _ _ e _ _ ht hc]
      rw [e] at h
      cases k with
      | true => exact h
      | false => exact kit_tys ok ht r h
theorem ty_V (ok : KitOk K mg kit) {v : V} {d : D} {t u : Ty} {b' : Bool} (s : Sto K mg μ H R) (h : DV K mg H R v d) (e : tyD μ d = some t) (hk : kit t u = some b') : ∃ tv, TyVal mg t tv ∧ TyX K H v tv := by
  have own : ∀ {a C dx : Addr} {c : Str} {fs : List (Str × V)}, H a = some (.ins C dx fs) → mg c = some (.ref C) → t = .c c → ∃ tv, TyVal mg t tv ∧ TyX K H (.ref a) tv := fun {a C dx c fs} h1 h2 h3 => by
    subst h3
    have z := ok.cls c u b' _ hk h2
    exact ⟨.ref C, ⟨h2, C, rfl⟩, .base (.ins h1 z.cls z.ha z.hn z.htk z.hm)⟩
  cases h with
  | non => cases e; exact ⟨_, rfl, .base .non⟩
  | bl k => cases e; exact ⟨_, rfl, .base (.bl k)⟩
  | int i => cases e; exact ⟨_, rfl, .base (.int i)⟩
  | str z => cases e; exact ⟨_, rfl, .base (.str z)⟩
  | ty n => cases e
  | glob h => cases e
  | tup h z r =>
    cases e
    rcases h with h | ⟨o, its, n, h, hc, _⟩
    · exact ⟨_, rfl, .base (.tup h.2)⟩
    · exact ⟨_, rfl, .kTuple h hc⟩
  | lst h z r => cases e; exact ⟨_, rfl, .base (.lst h.2)⟩
  | scr h z r =>
    cases e
    rcases h with ⟨_, o, h⟩ | ⟨o, its, n, h, hc, _⟩
    · exact ⟨_, rfl, .base (.frz h)⟩
    · exact ⟨_, rfl, .kList h hc⟩
  | obj n h hc hk' r => cases e; exact own h hc rfl
  | ref h =>
    simp only [tyD] at e
    split at e
    · rename_i xs hx
      cases e
      obtain ⟨a', ha', vs, h1, _⟩ := s.at hx
      rw [h] at ha'; cases ha'
      exact ⟨_, rfl, .base (.lst h1)⟩
    · rename_i xs hx
      cases e
      obtain ⟨a', ha', kv, h1, _⟩ := s.at hx
      rw [h] at ha'; cases ha'
      exact ⟨_, rfl, .base (.dK h1)⟩
    · rename_i c fs hx
      cases e
      obtain ⟨a', ha', C, dx, fv, h1, h2, _⟩ := s.at hx
      rw [h] at ha'; cases ha'
      exact own h1 h2 rfl
    · cases e
end
/-- a class's name, as an expression -/
structure TyE (X : Cx) (e : Expr) (t : Ty) (u : Value) : Prop where
  val : TyVal X.mg t u
  ex : ∃ c, ClsV c u ∧ PE X e (tC c)
section
variable {X : Cx} {B : Base} {EP : Ro → Ex → Mu → Prop} {a e : Expr} {ta : VE} {pos p : Pos} {kit : Ty → Ty → Option Bool}
theorem tye_b {n : String} {x : Str} (hg : Gl X x) (hm : X.mg x = none) (hv : bootBuiltins x = some (.type n)) (hn : x ≠ "__name__") (hd : (x == ("__debug__" : Str)) = false) : TyE X (.Name x p) (.b n) (.type n) :=
  ⟨rfl, .ty n, .ty n, pe_bltn hg hm hv rfl hn hd⟩
theorem tye_c {C : Addr} {x : Str} (hg : Gl X x) (hm : X.mg x = some (.ref C)) (hd : (x == ("__debug__" : Str)) = false) : TyE X (.Name x p) (.c x) (.ref C) :=
  ⟨⟨hm, C, rfl⟩, .ref C, .own C, pe_glob hg hm rfl hd⟩
theorem se_isi {t : Ty} {u : Value} (ok : KitOk X.K X.mg kit) (hg : Gl X "isinstance") (hm : X.mg "isinstance" = none) (ha : SE X B EP a ta) (he : TyE X e t u)
    (hs : starEach [a, e] X.env = (false, eval a X.env) :: starEach [e] X.env) (hs2 : starEach [e] X.env = (false, eval e X.env) :: starEach [] X.env) (hpl : (backTo pos (starEach [e] X.env)).any (·.1) = false) : SE X B EP (.Call (.Name "isinstance" p) [a, e] [] pos) (vIsi kit ta [t]) := by
  obtain ⟨c, hc, pe⟩ := he.ex
  refine (pe_callB call_isi hg hm rfl (pa_cons ha (pa_cons pe pa_nil hs2) hs) (by decide) (by decide) hs hpl).weak fun σ H Q ⟨ρ, μ, R, rp, h⟩ => ⟨ρ, μ, R, rp, (Ou.bd h).mono fun x μ1 h1 v1 H1 R1 e1 s1 d1 => ?_⟩
  split at h1
  · rename_i t' ht
    split at h1
    · rename_i k hk
      obtain ⟨w, b', hit⟩ := (kit_hit hk).resolve_left (by simp)
      obtain ⟨tv, h2, h3⟩ := ty_V ok s1 d1 ht hit
      have := kit_tys ok h2 (.cons he.val .nil) hk
      refine ⟨v1, c, tv, u, k, rfl, hc, h3, ?_, (h1 : Post _ _ _ _ _ _ _).pre e1 |>.now s1 (.bl k)⟩
      unfold PySem.W.kitAny at this
      cases hq : PySem.W.kitOne X.K tv u with
      | none => rw [hq] at this; cases this
      | some k' =>
        rw [hq] at this
        cases k' with
        | true => exact this
        | false => exact this
    · exact h1.elim
  · exact h1.elim
/-- (C, D, ..) -/
inductive TyEs (X : Cx) : List Expr → List Ty → List Value → List V → TA → Prop where
  | nil : TyEs X [] [] [] [] L2.tNil
  | cons {e : Expr} {es : List Expr} {t : Ty} {ts : List Ty} {u : Value} {us : List Value} {c : V} {cs : List V} {tr : TA} (hv : TyVal X.mg t u) (hc : ClsV c u) (pe : PE X e (tC c)) (hs : starEach (e :: es) X.env = (false, eval e X.env) :: starEach es X.env) (r : TyEs X es ts us cs tr) :
      TyEs X (e :: es) (t :: ts) (u :: us) (c :: cs) (L2.tCons (tC c) tr)
theorem TyEs.pa {es : List Expr} {ts : List Ty} {us : List Value} {cs : List V} {tr : TA} (h : TyEs X es ts us cs tr) : PA X es tr := by
  induction h with
  | nil => exact pa_nil
  | cons _ _ pe hs _ ih => exact pa_cons pe ih hs
theorem TyEs.run {es : List Expr} {ts : List Ty} {us : List Value} {cs : List V} {tr : TA} (h : TyEs X es ts us cs tr) (σ : St) (H : Hp) (Q : List V → Hp → Prop) (q : Q cs H) : tr σ H Q := by
  induction h generalizing Q with
  | nil => exact q
  | cons _ _ _ _ _ ih => exact ih _ q
theorem TyEs.vals {es : List Expr} {ts : List Ty} {us : List Value} {cs : List V} {tr : TA} (h : TyEs X es ts us cs tr) : Paired (TyVal X.mg) ts us ∧ Paired ClsV cs us ∧ cs.length = es.length := by
  induction h with
  | nil => exact ⟨.nil, .nil, rfl⟩
  | cons hv hc _ _ _ ih => exact ⟨.cons hv ih.1, .cons hc ih.2.1, by simp [ih.2.2]⟩
theorem se_isiT {es : List Expr} {ts : List Ty} {us : List Value} {cs : List V} {tr : TA} {kt : Nat} {tpos : Pos} (ok : KitOk X.K X.mg kit) (hg : Gl X "isinstance") (hm : X.mg "isinstance" = none) (ha : SE X B EP a ta) (he : TyEs X es ts us cs tr) (hne : ts ≠ []) (hz : es.length ≤ 1000)
    (hs : starEach [a, .Tuple es kt tpos] X.env = (false, eval a X.env) :: starEach [.Tuple es kt tpos] X.env) (hs2 : starEach [.Tuple es kt tpos] X.env = (false, eval (.Tuple es kt tpos) X.env) :: starEach [] X.env) (hpl : (backTo pos (starEach [.Tuple es kt tpos] X.env)).any (·.1) = false) : SE X B EP (.Call (.Name "isinstance" p) [a, .Tuple es kt tpos] [] pos) (vIsi kit ta ts) := by
  refine (pe_callB call_isiT hg hm rfl (pa_cons ha (pa_cons (pe_tup he.pa) pa_nil hs2) hs) (by decide) (by decide) hs hpl).weak fun σ H Q ⟨ρ, μ, R, rp, h⟩ => ⟨ρ, μ, R, rp, (Ou.bd h).mono fun x μ1 h1 v1 H1 R1 e1 s1 d1 => ?_⟩
  obtain ⟨hv, hc, hcl⟩ := he.vals
  refine he.run σ H1 _ ⟨by rw [hcl, sizeLine_eq]; omega, fun tp htp => ?_⟩
  split at h1
  · rename_i t' ht
    split at h1
    · rename_i k hk
      obtain ⟨w, b', hit⟩ := (kit_hit hk).resolve_left hne
      have eu := Ex2.upd (o := .tup cs) (s1.fresh htp) htp
      have s2 := s1.upd (o := .tup cs) htp
      obtain ⟨tv, h2, h3⟩ := ty_V ok s2 (d1.ext eu) ht hit
      exact ⟨v1, tp, cs, tv, us, k, rfl, upd_same, hc, h3, kit_tys ok h2 hv hk, (h1 : Post _ _ _ _ _ _ _).pre (e1.trans eu) |>.now s2 (.bl k)⟩
    · exact h1.elim
  · exact h1.elim
end
end VL
end
section
set_option linter.all false
set_option maxRecDepth 100000
set_option maxHeartbeats 4000000
namespace VL
open PySem L2

def opAttr (cs : List Str) (f : Str) : D → Mu → Option (D × Mu) := fun d μ => match d with
  | .obj c fs => if c ∈ cs then (fs.lookup f).map fun v => (v, μ) else none
  | .ref n => match μ[n]? with
    | some (.ins c fs) => if c ∈ cs then (fs.lookup f).map fun v => (v, μ) else none
    | _ => none
  | _ => none
def putFD (f : Str) (v : D) : List (Str × D) → List (Str × D)
  | [] => [(f, v)]
  | (g, x) :: r => if g = f then (g, v) :: r else (g, x) :: putFD f v r
def setAttr (cs : List Str) (f : Str) (o d : D) (μ : Mu) : Option Mu := match o with
  | .ref n => match μ[n]? with
    | some (.ins c fs) => if c ∈ cs ∧ fs.length < 1000 then some (μ.set n (.ins c (putFD f d fs))) else none
    | _ => none
  | _ => none
def sFldD (cs : List Str) (f : Str) (o v : VE) : VS := fun ρ μ => bs (v ρ μ) ρ fun d μ1 => bs (o ρ μ1) ρ fun x μ2 => match setAttr cs f x d μ2 with
  | some μ3 => some (.nx ρ μ3)
  | none => none
/-- the classes' facts for an attribute -/
def AttrOk (K : PySem.W.Frag) (mg : Str → Option Value) (cs : List Str) (f : Str) : Prop := ∀ c, c ∈ cs → ∀ C, mg c = some (.ref C) → Cls K C ∧ NoAttr K C f
section
variable {K : PySem.W.Frag} {mg : Str → Option Value} {H : Hp} {R : Rg} {μ : Mu}
theorem lookup_V {f : Str} {d : D} : ∀ {fv : List (Str × V)} {fs : List (Str × D)}, fv.map (·.1) = fs.map (·.1) → DVs K mg H R (fv.map (·.2)) (fs.map (·.2)) → fs.lookup f = some d → ∃ v, fv.lookup f = some v ∧ DV K mg H R v d
  | [], [], _, _, h => by cases h
  | [], _ :: _, h, _, _ => by simp at h
  | _ :: _, [], h, _, _ => by simp at h
  | (x, v) :: fv, (y, e) :: fs, h, r, l => by
    simp only [List.map_cons, List.cons.injEq] at h
    simp only [List.map_cons] at r
    obtain ⟨rfl, h2⟩ := h
    cases r with
    | cons r1 r2 =>
      simp only [List.lookup] at l ⊢
      split at l
      · cases l; exact ⟨v, rfl, r1⟩
      · exact lookup_V h2 r2 l
theorem putF_V {f : Str} {v : V} {d : D} (hd : DV K mg H R v d) : ∀ {fv : List (Str × V)} {fs : List (Str × D)}, fv.map (·.1) = fs.map (·.1) → DVs K mg H R (fv.map (·.2)) (fs.map (·.2)) → (putF f v fv).map (·.1) = (putFD f d fs).map (·.1) ∧ DVs K mg H R ((putF f v fv).map (·.2)) ((putFD f d fs).map (·.2))
  | [], [], _, _ => ⟨rfl, .cons hd .nil⟩
  | [], _ :: _, h, _ => by simp at h
  | _ :: _, [], h, _ => by simp at h
  | (x, w) :: fv, (y, e) :: fs, h, r => by
    simp only [List.map_cons, List.cons.injEq] at h
    simp only [List.map_cons] at r
    obtain ⟨rfl, h2⟩ := h
    cases r with
    | cons r1 r2 =>
      unfold putF putFD
      by_cases hx : x = f
      · rw [if_pos hx, if_pos hx]
        exact ⟨by simp [h2], .cons hd r2⟩
      · rw [if_neg hx, if_neg hx]
        obtain ⟨h3, h4⟩ := putF_V hd h2 r2
        exact ⟨by simp [h3], .cons r1 h4⟩
end
section
variable {X : Cx} {B : Base} {EP : Ro → Ex → Mu → Prop} {a e o : Expr} {es : List Expr} {ta to tv : VE} {tr : VA} {pos p : Pos} {cs : List Str} {f : Str}
theorem se_attr (ok : AttrOk X.K X.mg cs f) (he : SE X B EP e ta) (hb : attributeBase e f X.env (eval e X.env) = eval e X.env) : SE X B EP (.Attribute e f pos) (vUn (opAttr cs f) ta) :=
  (pe_fld he hb).weak fun σ H Q ⟨ρ, μ, R, rp, h⟩ => ⟨ρ, μ, R, rp, (Ou.bd h).mono fun x μ1 h1 v1 H1 R1 e1 s1 d1 => by
    obtain ⟨z, μ', ez, q⟩ := h1.lift
    unfold opAttr at ez
    split at ez
    · split at ez
      · rename_i hc
        rename_i c fs
        cases hl : fs.lookup f with
        | none => rw [hl] at ez; cases ez
        | some d =>
          rw [hl] at ez; cases ez
          cases d1 with
          | @obj a C dx _ fv _ n h hm hk r =>
            obtain ⟨v, l, dv⟩ := lookup_V hk r hl
            obtain ⟨k1, k2⟩ := ok _ hc _ hm
            exact ⟨a, C, dx, fv, v, rfl, h, k1, k2, l, (q.pre e1).now s1 dv⟩
      · cases ez
    · split at ez
      · split at ez
        · rename_i hm' hc
          rename_i n c fs
          cases hl : fs.lookup f with
          | none => rw [hl] at ez; cases ez
          | some d =>
            rw [hl] at ez; cases ez
            cases d1 with
            | @ref _ a ha =>
              obtain ⟨a', ha', C, dx, fv, h, hm, hk, r⟩ := s1.at hm'
              rw [ha] at ha'; cases ha'
              obtain ⟨v, l, dv⟩ := lookup_V hk r hl
              obtain ⟨k1, k2⟩ := ok _ hc _ hm
              exact ⟨a, C, dx, fv, v, rfl, h, k1, k2, l, (q.pre e1).now s1 dv⟩
        · cases ez
      · cases ez
    · cases ez⟩
theorem ss_fld {pos' : Pos} (ok : AttrOk X.K X.mg cs f) (ho : SE X B EP o to) (hv : SE X B EP e tv) (hs : swapsWith e (some (.Attribute o f pos')) pos.line X.env = pure false) : SS X B EP (.Assign [.Attribute o f pos'] e pos) (sFldD cs f to tv) :=
  (ps_fld ho hv hs).weak fun Dn σ H ⟨ρ, μ, R, rp, h⟩ => ⟨ρ, μ, R, rp, (Ou.bs h).mono fun x μ1 h1 v1 H1 R1 e1 s1 d1 => ⟨ρ, μ1, R1, rp.go e1 s1, (Ou.bs h1).mono fun y μ2 h2 v2 H2 R2 e2 s2 d2 => by
    split at h2
    · rename_i μ3 hset
      unfold setAttr at hset
      split at hset
      · split at hset
        · split at hset
          · rename_i hm' hc
            rename_i n c fs
            cases hset
            cases d2 with
            | @ref _ a ha =>
              obtain ⟨a', ha', C, dx, fv, h, hm, hk, r⟩ := s2.at hm'
              rw [ha] at ha'; cases ha'
              obtain ⟨k1, k2⟩ := ok _ hc.1 _ hm
              have hlen : fv.length = fs.length := by have := congrArg List.length hk; simpa using this
              refine ⟨a, C, dx, fv, rfl, h, k1, k2, by rw [hlen]; exact hc.2, ?_⟩
              have ee : Ex2 R2 H2 R2 (L2.upd H2 a (.ins C dx (putF f v1 fv))) := Ex2.set (List.mem_of_getElem? ha)
              obtain ⟨p1, p2⟩ := putF_V (f := f) (d1.ext e2) hk r
              have s3 : Sto X.K X.mg _ _ R2 := s2.set (m := .ins c (putFD f x fs)) ha ⟨C, dx, _, upd_same, hm, p1, p2.ext ee⟩
              exact h2 σ _ R2 ((e1.trans e2).trans ee) (rp.go ((e1.trans e2).trans ee) s3)
          · cases hset
        · cases hset
      · cases hset
    · exact h2.elim⟩⟩

open Classical in
/-- a new instance: g its __init__ -/
noncomputable def makeD (c : Str) (g : VF) : VF := fun xs μ => match g (.ref μ.length :: xs) (μ ++ [.ins c []]) with
  | some (.ok .non μ2) => match μ2[μ.length]? with
    | some (.ins c' fs) => if Keeps μ μ2 ∧ undF μ.length fs = true then some (.ok (.obj c' fs) (μ2.take μ.length)) else none
    | _ => none
  | some (.er e μ2) => closeX μ e μ2
  | _ => none
/-- .. that stays live -/
def makeL (c : Str) (g : VF) : VF := fun xs μ => match g (.ref μ.length :: xs) (μ ++ [.ins c []]) with
  | some (.ok .non μ2) => some (.ok (.ref μ.length) μ2)
  | some (.er e μ2) => some (.er e μ2)
  | _ => none
theorem laid_ins {K : PySem.W.Frag} {mg : Str → Option Value} {H : Hp} {R : Rg} {μ : Mu} {c : Str} {C x dx : Addr} (s : Sto K mg μ H R) (hx : H x = none) (hdx : H dx = none) (hne : dx ≠ x) (hm : mg c = some (.ref C)) :
    Ex2 R H (R.push x) (L2.upd (L2.upd H dx (.own x)) x (.ins C dx [])) ∧ Sto K mg (μ ++ [.ins c []]) (L2.upd (L2.upd H dx (.own x)) x (.ins C dx [])) (R.push x) := by
  have e1 := Ex2.upd (o := .own x) (s.fresh hdx) hdx
  have s1 := s.upd (o := .own x) hdx
  have hx1 : (L2.upd H dx (.own x)) x = none := by rw [upd_ne (Ne.symm hne)]; exact hx
  exact ⟨e1.trans (Ex2.push hx1), s1.push hx1 ⟨C, dx, [], upd_same, hm, rfl, .nil⟩⟩
theorem make_run {k : Nat} {C g0 : Addr} {fd : FuncData} {ps : List Str} {E : St → XK} {sp : Sp} {pins : List (Addr × Obj)} {σ : St} {H : Hp} {s : Shared} {Q : VK} {us : List Value} {vs : List V} (M : Mk X.K C g0) (F : FnOk X.prog X.w X.K X.mg X.base (L2.CX X.prog X.w) k g0 fd ps sp) (hr : Room (k + 1) X.A) (hb : Binds X.K fd ps [])
    (hx : PassesAt (L2.CX X.prog X.w) X σ (E σ)) (I : Inv X pins σ H s) (r : Vals vs us)
    (h : ∀ x dx, H x = none → H dx = none → dx ≠ x → sp (.ref x :: vs) (L2.upd (L2.upd H dx (.own x)) x (.ins C dx [])) (fun v H2 => v = .non ∧ Q (.ref x) H2) (E σ)) :
    wpAny (model X.prog X.w) X.A (call (.ref C) us) (L2.EP X pins σ Q) X.xe s := by
  have hq := h (s.heap.objs.size + 1) s.heap.objs.size (I.hok.fresh (Nat.le_succ _)) (I.hok.fresh (Nat.le_refl _)) (Nat.ne_of_lt (Nat.lt_succ_self _))
  have I2 := Inv.made (C := C) I
  have r2 : Vals (V.ref (s.heap.objs.size + 1) :: vs) (Value.ref (s.heap.objs.size + 1) :: us) := .cons rfl r
  have hl : (Value.ref (s.heap.objs.size + 1) :: us).length = ps.length := by
    have e := r2.length
    rw [F.len _ _ _ _ hq] at e
    exact e.symm
  have b := hb _ (Value.ref (s.heap.objs.size + 1) :: us) I2.kIn (by rw [List.append_nil]; exact hl)
  rw [List.append_nil] at b
  refine wpAny_call (make_map (f := g0) I.kIn M.makes M.init (beq_iff_eq.mp M.fn) (codeAny_mono (F.run _ X.stack _ _ ⟨Value.ref (s.heap.objs.size + 1) :: us, []⟩ (Value.ref (s.heap.objs.size + 1) :: us) _ _ (E σ) (hr.make C us [])
    (I2.env0.make C us []) b r2 hq) fun r s' hq' => ?_))
  cases r with
  | error e => exact hx pins _ _ e s' I2 hq'
  | ok fl =>
    cases fl with
    | ret u =>
      obtain ⟨v, H', I3, rv, ev, q3⟩ := I2.after hq'
      subst ev
      exact ⟨rv, ⟨V.ref (s.heap.objs.size + 1), H', I3, rfl, q3⟩⟩
    | next => exact False.elim hq'
    | brk => exact False.elim hq'
    | cont => exact False.elim hq'
theorem pe_makeV {k : Nat} {x : Str} {C g0 : Addr} {fd : FuncData} {ps : List Str} {E : St → XK} {sp : Sp} {t : TA} (M : Mk X.K C g0) (F : FnOk X.prog X.w X.K X.mg X.base (L2.CX X.prog X.w) k g0 fd ps sp) (hr : Room (k + 1) X.A) (hg : Gl X x) (hm : X.mg x = some (.ref C)) (hb : Binds X.K fd ps []) (hx : ∀ σ, PassesAt (L2.CX X.prog X.w) X σ (E σ))
    (ha : PA X (e :: es) t) (hdb : (x == ("__debug__" : Str)) = false) (he : starEach (e :: es) X.env = (false, eval e X.env) :: starEach es X.env) (hpl : (backTo pos (starEach es X.env)).any (·.1) = false) :
    PE X (.Call (.Name x p) (e :: es) [] pos) (fun σ H Q => t σ H fun vs H1 => ∀ x dx, H1 x = none → H1 dx = none → dx ≠ x → sp (.ref x :: vs) (L2.upd (L2.upd H1 dx (.own x)) x (.ins C dx [])) (fun v H2 => v = .non ∧ Q (.ref x) H2) (E σ)) := by
  refine ⟨fun pins s σ H Q I h => ?_⟩
  refine wpAny_Call_Name_kw (ld_glob I hg hm ?_ hdb)
  refine PySem.W.callWith_K (h₀ := X.base) I.ok.mod.kin M.kp (thn (ha.run pos pins s σ H _ I h) fun us s1 ⟨vs, H1, I1, r, q⟩ => ⟨I1.kIn, ?_⟩) he hpl
  exact make_run M F hr hb (hx σ) I1 r q
theorem make_V {c : Str} {C : Addr} {g : VF} {n : Nat} {ρ : Ro} {μ1 : Mu} {σ : St} {H1 : Hp} {R1 : Rg} {vs : List V} {ds : List D} {Q : VK} (rp : Rp X.K X.mg B ρ μ1 σ H1 R1) (d : DVs X.K X.mg H1 R1 vs ds) (hn : vs.length = n) (hm : X.mg c = some (.ref C))
    (h : Ou (makeD c g ds μ1) (fun d μ' => Post X.K X.mg R1 H1 μ' d Q) (EP ρ)) : ∀ x dx, H1 x = none → H1 dx = none → dx ≠ x →
    LSp X.K X.mg (n + 1) g (.ref x :: vs) (L2.upd (L2.upd H1 dx (.own x)) x (.ins C dx [])) (fun v H2 => v = .non ∧ Q (.ref x) H2) (fun cls dd H => WV X.K X.mg B EP cls dd σ H) := fun x dx hx hdx hne => by
  obtain ⟨e2, s2⟩ := laid_ins rp.sto hx hdx hne hm
  have hxn : (R1.push x).l[μ1.length]? = some x := by
    show (R1.l ++ [x])[_]? = _
    rw [← rp.sto.len, List.getElem?_concat_length]
  refine ⟨by simp [hn], .ref μ1.length :: ds, _, _, s2, .cons (.ref hxn) (d.ext e2), ?_⟩
  unfold makeD at h
  cases er : g (.ref μ1.length :: ds) (μ1 ++ [.ins c []]) with
  | none => rw [er] at h; exact h.elim
  | some r =>
    rw [er] at h
    cases r with
    | er y μ2 =>
      intro H' R' cls dd e' s' ev
      obtain ⟨z, μ3, q1, q2, q3, q4⟩ := closeX_V rp.sto (e2.trans e') s' ev (show Ou (closeX μ1 y μ2) _ _ from h)
      exact ⟨ρ, z, μ3, R1, rp.go q2 q3, q4, q1⟩
    | ok z μ2 =>
      cases z <;> first | exact h.elim | skip
      simp only [] at h
      split at h
      · rename_i c' fs hins
        split at h
        · rename_i hk
          intro v H' R' e' s' d'
          cases d'
          refine ⟨rfl, ?_⟩
          have e3 := e2.trans e'
          obtain ⟨a', ha', C', dx', fv, h4, h5, h6, h7⟩ := s'.at hins
          rw [e'.at hxn] at ha'; cases ha'
          have hc := cut_eq e3 rp.sto.len
          have h8 := h7.down (Less.cut R' μ1.length) (by rw [undF_all] at hk; exact hk.2)
          rw [hc] at h8
          exact (show Post _ _ _ _ _ _ _ from h) (.ref x) H' R1 (ex_down e3) (sto_down rp.sto e3 s' hk.1) (.obj (rp.sto.fresh hx) h4 h5 h6 h8)
        · exact h.elim
      · exact h.elim
theorem se_make {k n : Nat} {x : Str} {C g0 : Addr} {fd : FuncData} {ps : List Str} {g : VF} (M : Mk X.K C g0) (F : FnOk X.prog X.w X.K X.mg X.base (L2.CX X.prog X.w) k g0 fd ps (LSp X.K X.mg (n + 1) g)) (hr : Room (k + 1) X.A) (hg : Gl X x) (hm : X.mg x = some (.ref C)) (hb : Binds X.K fd ps []) (tk : Takes X (WV X.K X.mg B EP))
    (ha : SA X B EP (e :: es) tr) (hn : ∀ ρ μ ds μ', tr ρ μ = some (.ok ds μ') → ds.length = n) (hdb : (x == ("__debug__" : Str)) = false) (he : starEach (e :: es) X.env = (false, eval e X.env) :: starEach es X.env) (hpl : (backTo pos (starEach es X.env)).any (·.1) = false) :
    SE X B EP (.Call (.Name x p) (e :: es) [] pos) (vCall (makeD x g) tr) :=
  (pe_makeV (E := fun σ cls dd H => WV X.K X.mg B EP cls dd σ H) M F hr hg hm hb (fun σ => passV tk) ha hdb he hpl).weak fun σ H Q ⟨ρ, μ, R, rp, h⟩ => ⟨ρ, μ, R, rp, by
    have h' := Ou.bd h
    cases ea : tr ρ μ with
    | none => rw [ea] at h'; exact h'.elim
    | some r =>
      rw [ea] at h'
      cases r with
      | er x m => exact h'
      | ok ds μ1 =>
        have hn := hn _ _ _ _ ea
        intro vs H1 R1 e1 s1 d1
        exact make_V (rp.go e1 s1) d1 (d1.length.trans hn) hm (Ou.mono h' fun d μ' q => q.pre e1)⟩
theorem makeL_V {c : Str} {C : Addr} {g : VF} {n : Nat} {ρ : Ro} {μ1 : Mu} {σ : St} {H1 : Hp} {R1 : Rg} {vs : List V} {ds : List D} {Q : VK} (rp : Rp X.K X.mg B ρ μ1 σ H1 R1) (d : DVs X.K X.mg H1 R1 vs ds) (hn : vs.length = n) (hm : X.mg c = some (.ref C))
    (h : Ou (makeL c g ds μ1) (fun d μ' => Post X.K X.mg R1 H1 μ' d Q) (EP ρ)) : ∀ x dx, H1 x = none → H1 dx = none → dx ≠ x →
    LSp X.K X.mg (n + 1) g (.ref x :: vs) (L2.upd (L2.upd H1 dx (.own x)) x (.ins C dx [])) (fun v H2 => v = .non ∧ Q (.ref x) H2) (fun cls dd H => WV X.K X.mg B EP cls dd σ H) := fun x dx hx hdx hne => by
  obtain ⟨e2, s2⟩ := laid_ins rp.sto hx hdx hne hm
  have hxn : (R1.push x).l[μ1.length]? = some x := by
    show (R1.l ++ [x])[_]? = _
    rw [← rp.sto.len, List.getElem?_concat_length]
  refine ⟨by simp [hn], .ref μ1.length :: ds, _, _, s2, .cons (.ref hxn) (d.ext e2), ?_⟩
  unfold makeL at h
  cases er : g (.ref μ1.length :: ds) (μ1 ++ [.ins c []]) with
  | none => rw [er] at h; exact h.elim
  | some r =>
    rw [er] at h
    cases r with
    | er y μ2 => exact fun H' R' cls dd e' s' ev => ⟨ρ, y, μ2, R', rp.go (e2.trans e') s', ev, h⟩
    | ok z μ2 =>
      cases z <;> first | exact h.elim | skip
      intro v H' R' e' s' d'
      cases d'
      exact ⟨rfl, (show Post _ _ _ _ _ _ _ from h) (.ref x) H' R' (e2.trans e') s' (.ref (e'.at hxn))⟩
theorem se_makeL {k n : Nat} {x : Str} {C g0 : Addr} {fd : FuncData} {ps : List Str} {g : VF} (M : Mk X.K C g0) (F : FnOk X.prog X.w X.K X.mg X.base (L2.CX X.prog X.w) k g0 fd ps (LSp X.K X.mg (n + 1) g)) (hr : Room (k + 1) X.A) (hg : Gl X x) (hm : X.mg x = some (.ref C)) (hb : Binds X.K fd ps []) (tk : Takes X (WV X.K X.mg B EP))
    (ha : SA X B EP (e :: es) tr) (hn : ∀ ρ μ ds μ', tr ρ μ = some (.ok ds μ') → ds.length = n) (hdb : (x == ("__debug__" : Str)) = false) (he : starEach (e :: es) X.env = (false, eval e X.env) :: starEach es X.env) (hpl : (backTo pos (starEach es X.env)).any (·.1) = false) :
    SE X B EP (.Call (.Name x p) (e :: es) [] pos) (vCall (makeL x g) tr) :=
  (pe_makeV (E := fun σ cls dd H => WV X.K X.mg B EP cls dd σ H) M F hr hg hm hb (fun σ => passV tk) ha hdb he hpl).weak fun σ H Q ⟨ρ, μ, R, rp, h⟩ => ⟨ρ, μ, R, rp, by
    have h' := Ou.bd h
    cases ea : tr ρ μ with
    | none => rw [ea] at h'; exact h'.elim
    | some r =>
      rw [ea] at h'
      cases r with
      | er x m => exact h'
      | ok ds μ1 =>
        have hn := hn _ _ _ _ ea
        intro vs H1 R1 e1 s1 d1
        exact makeL_V (rp.go e1 s1) d1 (d1.length.trans hn) hm (Ou.mono h' fun d μ' q => q.pre e1)⟩
end
end VL
end
section
set_option linter.all false
set_option maxRecDepth 100000
set_option maxHeartbeats 4000000
namespace VL
open PySem L2

def mAppend : D → D → Mu → Option (D × Mu) := fun d e μ => match d with
  | .ref n => match μ[n]? with
    | some (.lst xs) => if xs.length < 16777216 then some (.non, μ.set n (.lst (xs ++ [e]))) else none
    | _ => none
  | _ => none
def mExtend : D → D → Mu → Option (D × Mu) := fun d e μ => match d with
  | .ref n => match μ[n]?, lstOf μ e with
    | some (.lst xs), some ys => if xs.length + ys.length ≤ 16777216 then some (.non, μ.set n (.lst (xs ++ ys))) else none
    | _, _ => none
  | _ => none
def mPop : D → Mu → Option (D × Mu) := fun d μ => match d with
  | .ref n => match μ[n]? with
    | some (.lst xs) => (xs[xs.length - 1]?).map fun y => (y, μ.set n (.lst xs.dropLast))
    | _ => none
  | _ => none
section
variable {K : PySem.W.Frag} {mg : Str → Option Value} {H : Hp} {R : Rg} {μ : Mu}
theorem live_lst {x : V} {n : Nat} {xs : List D} (s : Sto K mg μ H R) (h : DV K mg H R x (.ref n)) (e : μ[n]? = some (.lst xs)) : ∃ a vs, x = .ref a ∧ R.l[n]? = some a ∧ H a = some (.lst vs) ∧ vs.length ≤ sizeLine ∧ DVs K mg H R vs xs := by
  cases h with
  | @ref _ a ha =>
    obtain ⟨a', ha', vs, h1, h2, h3⟩ := s.at e
    rw [ha] at ha'; cases ha'
    exact ⟨a, vs, rfl, ha, h1, h2, h3⟩
theorem set_lst {n : Nat} {a : Addr} {xs : List D} {vs : List V} (s : Sto K mg μ H R) (ha : R.l[n]? = some a) (hz : vs.length ≤ sizeLine) (d : DVs K mg H R vs xs) : Ex2 R H R (L2.upd H a (.lst vs)) ∧ Sto K mg (μ.set n (.lst xs)) (L2.upd H a (.lst vs)) R := by
  have ee : Ex2 R H R (L2.upd H a (.lst vs)) := Ex2.set (List.mem_of_getElem? ha)
  exact ⟨ee, s.set ha ⟨vs, upd_same, hz, d.ext ee⟩⟩
end
/-- o.m(a) of a list -/
def vMet (f : D → D → Mu → Option (D × Mu)) (o a : VE) : VE := fun ρ μ => bd (o ρ μ) fun x μ1 => if (lstOf μ1 x).isSome = true then bd (a ρ μ1) fun y μ2 => lift (f x y μ2) else none
def MetV (K : PySem.W.Frag) (mg : Str → Option Value) (f : D → D → Mu → Option (D × Mu)) (r : V → List V → Hp → VK → Prop) : Prop :=
  ∀ (R : Rg) (H : Hp) (μ : Mu) (x y : V) (d e z : D) (μ' : Mu) (Q : VK), Sto K mg μ H R → DV K mg H R x d → DV K mg H R y e → f d e μ = some (z, μ') → Post K mg R H μ' z Q → r x [y] H Q
section
variable {K : PySem.W.Frag} {mg : Str → Option Value}
theorem mAppend_V : MetV K mg mAppend rAppend := by
  intro R H μ x y d e z μ' Q s hx hy hz q
  unfold mAppend at hz
  split at hz
  · split at hz
    · rename_i n _ xs hm
      split at hz
      · rename_i hl
        cases hz
        obtain ⟨a, vs, rfl, ha, h1, h2, h3⟩ := live_lst s hx hm
        obtain ⟨ee, s2⟩ := set_lst (vs := vs ++ [y]) (xs := xs ++ [e]) s ha (by rw [List.length_append, h3.length, sizeLine_eq]; simp; omega) (h3.append (.cons hy .nil))
        exact ⟨a, vs, y, rfl, rfl, h1, by rw [h3.length, sizeLine_eq]; exact hl, (q.pre ee).now s2 .non⟩
      · cases hz
    · cases hz
  · cases hz
theorem mExtend_V : MetV K mg mExtend rExtend := by
  intro R H μ x y d e z μ' Q s hx hy hz q
  unfold mExtend at hz
  split at hz
  · split at hz
    · rename_i n _ _ xs ys hm hy'
      split at hz
      · rename_i hl
        cases hz
        obtain ⟨a, vs, rfl, ha, h1, h2, h3⟩ := live_lst s hx hm
        obtain ⟨b, ws, rfl, g1, g2, g3⟩ := lst_at s hy hy'
        have hlen : (vs ++ ws).length ≤ sizeLine := by rw [List.length_append, h3.length, g3.length, sizeLine_eq]; exact hl
        obtain ⟨ee, s2⟩ := set_lst (vs := vs ++ ws) (xs := xs ++ ys) s ha hlen (h3.append g3)
        exact ⟨a, b, vs, ws, rfl, rfl, h1, g1, by rw [h3.length, g3.length, sizeLine_eq]; exact hl, (q.pre ee).now s2 .non⟩
      · cases hz
    · cases hz
  · cases hz
theorem mPop_V {R : Rg} {H : Hp} {μ μ' : Mu} {x : V} {d z : D} {Q : VK} (s : Sto K mg μ H R) (hx : DV K mg H R x d) (hz : mPop d μ = some (z, μ')) (q : Post K mg R H μ' z Q) : tyV K "list" x H ∧ rPop x [] H Q := by
  unfold mPop at hz
  split at hz
  · split at hz
    · rename_i n xs hm
      cases hl : xs[xs.length - 1]? with
      | none => rw [hl] at hz; cases hz
      | some y =>
        rw [hl] at hz; cases hz
        obtain ⟨a, vs, rfl, ha, h1, h2, h3⟩ := live_lst s hx hm
        obtain ⟨v, hv, dv⟩ := h3.get hl
        have hd : DVs K mg H R vs.dropLast xs.dropLast := by
          rw [List.dropLast_eq_take, List.dropLast_eq_take, h3.length]; exact h3.take _
        obtain ⟨ee, s2⟩ := set_lst (vs := vs.dropLast) (xs := xs.dropLast) s ha (by rw [List.length_dropLast]; omega) hd
        exact ⟨.inl ⟨rfl, vs, .inl (.inl h1)⟩, a, vs, v, rfl, rfl, h1, by rw [h3.length]; exact hv, (q.pre ee).now s2 (dv.ext ee)⟩
    · cases hz
  · cases hz
end
section
variable {X : Cx} {B : Base} {EP : Ro → Ex → Mu → Prop} {a e o : Expr} {es : List Expr} {ta to tv : VE} {tr : VA} {pos p apos cpos : Pos}
theorem met_weak {f : D → D → Mu → Option (D × Mu)} {r : V → List V → Hp → VK → Prop} (hf : MetV X.K X.mg f r) (σ : St) (H : Hp) (Q : VK) : lE X.K X.mg B EP (vMet f to ta) σ H Q → tBM X.K "list" r (lE X.K X.mg B EP to) (L2.tCons (lE X.K X.mg B EP ta) L2.tNil) σ H Q := fun ⟨ρ, μ, R, rp, h⟩ =>
  ⟨ρ, μ, R, rp, (Ou.bd h).mono fun x μ1 h1 v1 H1 R1 e1 s1 d1 => by
    split at h1
    · rename_i hl
      obtain ⟨xs, hxs⟩ := Option.isSome_iff_exists.mp hl
      obtain ⟨b, vs, rfl, hb, _, _⟩ := lst_at s1 d1 hxs
      refine ⟨.inl ⟨rfl, vs, .inl (.inl hb)⟩, ρ, μ1, R1, rp.go e1 s1, (Ou.bd h1).mono fun y μ2 h2 v2 H2 R2 e2 s2 d2 => ?_⟩
      obtain ⟨z, μ', ez, q⟩ := h2.lift
      exact hf R2 H2 μ2 _ v2 x y z μ' Q s2 (d1.ext e2) d2 ez (q.pre (e1.trans e2))
    · exact h1.elim⟩
theorem se_append (ho : SE X B EP o to) (he : SE X B EP e ta) (hbase : attributeBase o "append" X.env (eval o X.env) = eval o X.env) (hline : (apos.endLine == cpos.line) = true)
    (hs : starEach [e] X.env = [(false, eval e X.env)]) : SE X B EP (.Call (.Attribute o "append" apos) [e] [] cpos) (vMet mAppend to ta) :=
  (pe_bm (T := "list") PySem.F.plainAttrs_list PySem.F.slot_list_append PySem.F.type_list_append mt_append ho (pa_cons he pa_nil hs) hbase (by rw [hs]; rfl) hline hs rfl).weak (met_weak mAppend_V)
theorem se_extend (ho : SE X B EP o to) (he : SE X B EP e ta) (hbase : attributeBase o "extend" X.env (eval o X.env) = eval o X.env) (hline : (apos.endLine == cpos.line) = true)
    (hs : starEach [e] X.env = [(false, eval e X.env)]) : SE X B EP (.Call (.Attribute o "extend" apos) [e] [] cpos) (vMet mExtend to ta) :=
  (pe_bm (T := "list") PySem.F.plainAttrs_list PySem.F.slot_list_extend PySem.F.type_list_extend mt_extend ho (pa_cons he pa_nil hs) hbase (by rw [hs]; rfl) hline hs rfl).weak (met_weak mExtend_V)
theorem se_pop (ho : SE X B EP o to) (hbase : attributeBase o "pop" X.env (eval o X.env) = eval o X.env) (hline : (apos.endLine == cpos.line) = true) : SE X B EP (.Call (.Attribute o "pop" apos) [] [] cpos) (vUn mPop to) :=
  (pe_bm0 (T := "list") PySem.F.plainAttrs_list PySem.F.slot_list_pop PySem.F.type_list_pop mt_pop ho hbase hline).weak fun σ H Q ⟨ρ, μ, R, rp, h⟩ => ⟨ρ, μ, R, rp, (Ou.bd h).mono fun x μ1 h1 v1 H1 R1 e1 s1 d1 => by
    obtain ⟨z, μ', ez, q⟩ := h1.lift
    exact mPop_V s1 d1 ez (q.pre e1)⟩

def vDct (ks : List Key) (a : VA) : VE := fun ρ μ => match a ρ μ with
  | some (.ok xs μ1) => if xs.length = ks.length ∧ ks.length ≤ 15 ∧ ks.Nodup then some (.ok (.ref μ1.length) (μ1 ++ [.dct (ks.zip xs)])) else none
  | _ => none
/-- the keys, the values -/
inductive SPs (X : Cx) : Pos → List (Option Expr) → List Expr → List Key → VA → Prop where
  | nil {pos : Pos} : SPs X pos [] [] [] aNil
  | cons {pos : Pos} {k v : Expr} {ks : List (Option Expr)} {vs : List Expr} {key : Key} {keys : List Key} {tv : VE} {tr : VA} (hk : PE X k (tC (kV key))) (hv : ∀ B, SE X B NoE v tv) (hr : SPs X pos ks vs keys tr) : SPs X pos (some k :: ks) (v :: vs) (key :: keys) (aCons tv tr)
theorem lEx_all {v : Expr} {tv : VE} (hv : ∀ B, SE X B NoE v tv) : PE X v (lEx X.K X.mg tv) := ⟨fun pins s σ H Q I ⟨B', q⟩ => (hv B').run pins s σ H Q I q⟩
theorem sps_run {pos : Pos} {ks : List (Option Expr)} {vs : List Expr} {keys : List Key} {tr : VA} (h : SPs X pos ks vs keys tr) : ∃ trs, PPs X pos ks vs trs ∧ ks.all (·.isSome) = true ∧ ks.length = vs.length ∧ keys.length = ks.length ∧
    ∀ B σ H Q, (lA X.K X.mg B NoE tr σ H fun xs H' => Q (List.zip (keys.map kV) xs) H') → tPairs trs σ H Q := by
  induction h with
  | nil => exact ⟨[], pps_nil, rfl, rfl, rfl, fun B σ H Q ⟨ρ, μ, R, rp, h⟩ => (show PostA _ _ _ _ _ _ _ from h) [] H R Ex2.refl rp.sto .nil⟩
  | @cons k v ks vs key keys tv tr hk hv hr ih =>
    obtain ⟨trs, p1, p2, p3, p4, p5⟩ := ih
    refine ⟨_, pps_cons hk (lEx_all hv) p1, by simpa using p2, by simp [p3], by simp [p4], fun B σ H Q ⟨ρ, μ, R, rp, h⟩ => ?_⟩
    show tPairs ((tC (kV key), lEx X.K X.mg tv) :: trs) σ H Q
    unfold tPairs
    refine ⟨B, ρ, μ, R, rp, (Ou.bd h).mono fun x μ1 h1 v1 H1 R1 e1 s1 d1 => p5 B σ H1 _ ⟨ρ, μ1, R1, rp.go e1 s1, (Ou.bd h1).mono fun xs μ2 h2 ws H2 R2 e2 s2 d2 => ?_⟩⟩
    exact (show PostA _ _ _ _ _ _ _ from h2) (v1 :: ws) H2 R2 (e1.trans e2) s2 (.cons (d1.ext e2) d2)
theorem putK_new {α : Type} {k : Key} {v : V} : ∀ {kvs : List (Key × V)}, k ∉ kvs.map (·.1) → putK kvs k v = kvs ++ [(k, v)] := fun {kvs} h => by
  unfold putK
  split
  · rename_i hh
    simp only [List.any_eq_true, decide_eq_true_eq] at hh
    obtain ⟨p, hp, e⟩ := hh
    exact absurd (e ▸ List.mem_map_of_mem hp) h
  · rfl
theorem merge_new : ∀ (more kvs : List (Key × V)), (kvs.map (·.1) ++ more.map (·.1)).Nodup → mergeK kvs more = kvs ++ more
  | [], kvs, _ => by show kvs = _; simp
  | p :: more, kvs, h => by
    show mergeK (putK kvs p.1 p.2) more = _
    have hp : p.1 ∉ kvs.map (·.1) := by
      rw [List.nodup_append] at h
      intro z
      exact h.2.2 _ z _ (by simp) rfl
    rw [putK_new (α := Unit) hp, merge_new more _ (by simpa [List.append_assoc] using h)]
    simp
theorem zip_V {K : PySem.W.Frag} {mg : Str → Option Value} {H : Hp} {R : Rg} : ∀ {ks : List Key} {vs : List V} {ds : List D}, DVs K mg H R vs ds → (ks.zip vs).map (·.1) = (ks.zip ds).map (·.1) ∧ DVs K mg H R ((ks.zip vs).map (·.2)) ((ks.zip ds).map (·.2))
  | [], _, _, _ => ⟨rfl, .nil⟩
  | _ :: _, _, _, .nil => ⟨rfl, .nil⟩
  | k :: ks, _, _, .cons h t => by
    obtain ⟨h1, h2⟩ := zip_V (ks := ks) t
    exact ⟨by simp [h1], .cons h h2⟩
theorem zip_kV : ∀ (ks : List Key) (vs : List V), List.zip (ks.map kV) vs = (ks.zip vs).map fun kv => (kV kv.1, kv.2)
  | [], _ => rfl
  | _ :: _, [] => rfl
  | k :: ks, v :: vs => by simp [zip_kV ks vs]
theorem zip_keys : ∀ (ks : List Key) (vs : List V), vs.length = ks.length → (ks.zip vs).map (·.1) = ks
  | [], _, _ => rfl
  | _ :: _, [], h => by simp at h
  | k :: ks, v :: vs, h => by simp [zip_keys ks vs (by simpa using h)]
theorem se_dct {keys : List (Option Expr)} {values : List Expr} {ks : List Key} (h : SPs X pos keys values ks tr) (h0 : keys ≠ []) (h15 : keys.length ≤ 15) : SE X B EP (.Dict keys values pos) (vDct ks tr) := by
  obtain ⟨trs, p1, p2, p3, p4, p5⟩ := sps_run h
  refine (pe_disp p1 p2 p3 h0 h15).weak fun σ H Q ⟨ρ, μ, R, rp, h⟩ p hp => ?_
  unfold vDct at h
  cases ea : tr ρ μ with
  | none => rw [ea] at h; exact h.elim
  | some r =>
    rw [ea] at h
    cases r with
    | er x m => exact h.elim
    | ok xs μ1 =>
      simp only [] at h
      split at h
      · rename_i hk
        refine p5 _ σ _ _ ⟨ρ, μ, _, rp.priv (o := .dK []) hp, ?_⟩
        rw [ea]
        intro vs H1 R1 e1 s1 d1
        have hz1 : R1 = (⟨R1.l, R.z⟩ : Rg).priv p := by
          have z1 := e1.prz
          cases R1; simp only [Rg.priv] at z1 ⊢
          rw [z1]
        generalize hR2 : (⟨R1.l, R.z⟩ : Rg) = R2 at hz1
        subst hz1
        have hpn : p ∉ R.l := fun z => rp.sto.fresh hp (.inl z)
        have hD : H1 p = some (.dK []) := e1.keep p _ hpn upd_same
        have hvl : vs.length = ks.length := d1.length.trans hk.1
        refine ⟨hD, ks.zip vs, zip_kV ks vs, by rw [List.length_zip]; omega, ?_⟩
        have hnd : (([] : List (Key × V)).map (·.1) ++ (ks.zip vs).map (·.1)).Nodup := by rw [zip_keys ks vs hvl]; exact hk.2.2
        rw [merge_new _ _ hnd, List.nil_append]
        have s2 := s1.setz (o := .dK (ks.zip vs)) (D0 := p) List.mem_cons_self
        have d2 := d1.exd (D0 := p) (.inr List.mem_cons_self) (Exd.setz (o := .dK (ks.zip vs)))
        have hnl : p ∉ R2.l := (s1.prv p List.mem_cons_self).2
        have em : Ex2 R H R2 (L2.upd H1 p (.dK (ks.zip vs))) := Ex2.made hp ((e1.exd p).trans Exd.setz (.inl ⟨_, hD⟩))
        have hnz : p ∉ R2.z := fresh_z rp.sto em hp
        have d3 : DVs X.K X.mg (L2.upd H1 p (.dK (ks.zip vs))) (R2.push p) vs xs := DVs.pub hnl d2
        obtain ⟨q1, q2⟩ := zip_V (ks := ks) d3
        have h : Post X.K X.mg R H (μ1 ++ [.dct (ks.zip xs)]) (.ref μ1.length) Q := h
        refine h (.ref p) _ (R2.push p) (em.pub hp) (s2.pub hnz ⟨_, upd_same, by rw [List.length_zip, sizeLine_eq]; omega, q1, q2⟩) (.ref ?_)
        show (R2.l ++ [p])[_]? = _
        rw [← (show R2.l.length = μ1.length from s1.len), List.getElem?_concat_length]
      · exact h.elim
end
end VL
end
section
set_option linter.all false
set_option maxRecDepth 100000
set_option maxHeartbeats 4000000
namespace VL
open PySem L2
section
variable {X : Cx}
/-- == (or !=) of an own class: the def at f -/
def rOwn (X : Cx) (op : CmpOp) : R2 := fun x y H Q => ∃ (a C dx : Addr) (fs : List (Str × V)) (t : Value) (f : Addr) (k : Nat) (fd : FuncData) (ps : List Str) (sp : Sp), x = .ref a ∧ H a = some (.ins C dx fs) ∧ TyX X.K H y t ∧ PySem.W.notFirst X.K C t = true ∧
  PySem.W.findIn X.K (.ref C) (cmpInfo op).2.1 = some (some (.ref f)) ∧ PySem.W.isFn X.K (.ref f) = true ∧ FnOk X.prog X.w X.K X.mg X.base (L2.CX X.prog X.w) k f fd ps sp ∧ Room k X.A ∧ Binds X.K fd ps [] ∧ sp [x, y] H (fun v H' => ∃ b, v = .bl b ∧ Q v H') E0
theorem own_cmp {op : CmpOp} {pins : List (Addr × Obj)} {s : Shared} {σ : St} {H : Hp} {x y : V} {u v : Value} {Q : VK} (I : Inv X pins σ H s) (rx : RelV x u) (ry : RelV y v) (h : rOwn X op x y H Q) : wpAny (model X.prog X.w) X.A (richCompare op u v) (L2.EP X pins σ Q) X.xe s := by
  obtain ⟨a, C, dx, fs, t, f, k, fd, ps, sp, rfl, ha, hy, hn, hf1, hf2, F, hr, hb, hq⟩ := h
  cases rx
  obtain ⟨mA, J, _⟩ := ins_get I.hok ha
  obtain ⟨od, J, _⟩ := J.look
  obtain ⟨P, Z, pp, _⟩ := kit_of I ry hy
  obtain ⟨m, hF⟩ := I.fr
  refine PySem.W.cmp_K (op := op) (by have := hr.un; omega) hF I.ok.mod.kin J (Z.ty _ _ I.kIn pp) hn hf1 hf2 ?_
  have r2 : Vals [V.ref a, y] [Value.ref a, v] := .cons rfl (.cons ry .nil)
  refine wpAny_mono (run_fn (ds := []) (dvs := []) (E := E0) F hr hb .nil passL I r2 (Q := fun v H' => ∃ b, v = V.bl b ∧ Q v H') (by simpa using hq)) (fun w s' hw => ?_) fun _ _ e => e
  obtain ⟨z, H', I', rz, b, ez, q⟩ := hw
  subst ez
  cases (show w = Value.bool b from rz)
  exact ⟨.bl b, H', I', rfl, q⟩
theorem op_ownEq : OpR X (compareOp .Eq) (rOwn X .Eq) := fun pins s σ H x y v u Q I rx ry h => own_cmp I rx ry h
theorem op_ownNe : OpR X (compareOp .NotEq) (rOwn X .NotEq) := fun pins s σ H x y v u Q I rx ry h => own_cmp I rx ry h
end
/-- an own == by values: nf c t: the other's type t does not go first -/
def opOwn (tab : List (Str × VF)) (nf : Str → Ty → Bool) (g : D → D → Mu → Option (D × Mu)) : D → D → Mu → Option (D × Mu) := fun d e μ => match d with
  | .obj c fs => match tab.lookup c, tyD μ e with
    | some f, some t => if nf c t = true then (match f [d, e] μ with
      | some (.ok (.bl b) μ') => some (.bl b, μ')
      | _ => none) else none
    | _, _ => none
  | d => g d e μ
structure OwnOk (X : Cx) (op : CmpOp) (tab : List (Str × VF)) (nf : Str → Ty → Bool) : Prop where
  fn : ∀ c g, tab.lookup c = some g → ∀ C, X.mg c = some (.ref C) → ∃ f k fd ps, PySem.W.findIn X.K (.ref C) (cmpInfo op).2.1 = some (some (.ref f)) ∧ PySem.W.isFn X.K (.ref f) = true ∧ FnOk X.prog X.w X.K X.mg X.base (L2.CX X.prog X.w) k f fd ps (LSp X.K X.mg 2 g) ∧ Room k X.A ∧ Binds X.K fd ps []
  first : ∀ c t, nf c t = true → ∀ C tv, X.mg c = some (.ref C) → TyVal X.mg t tv → PySem.W.notFirst X.K C tv = true
  cls : ∀ c x, nf c (.c x) = true → ∀ C, X.mg x = some (.ref C) → ClsI X.K C
theorem ty_V2 {K : PySem.W.Frag} {mg : Str → Option Value} {H : Hp} {R : Rg} {μ : Mu} {v : V} {d : D} {t : Ty} (ok : ∀ x, t = .c x → ∀ C, mg x = some (.ref C) → ClsI K C) (s : Sto K mg μ H R) (h : DV K mg H R v d) (e : tyD μ d = some t) : ∃ tv, TyVal mg t tv ∧ TyX K H v tv := by
  let kit : Ty → Ty → Option Bool := fun _ _ => none
  have own : ∀ {a C dx : Addr} {c : Str} {fs : List (Str × V)}, H a = some (.ins C dx fs) → mg c = some (.ref C) → t = .c c → ∃ tv, TyVal mg t tv ∧ TyX K H (.ref a) tv := fun {a C dx c fs} h1 h2 h3 => by
    have z := ok c h3 C h2
    subst h3
    exact ⟨.ref C, ⟨h2, C, rfl⟩, .base (.ins h1 z.cls z.ha z.hn z.htk z.hm)⟩
  cases h with
  | non => cases e; exact ⟨_, rfl, .base .non⟩
  | bl k => cases e; exact ⟨_, rfl, .base (.bl k)⟩
  | int i => cases e; exact ⟨_, rfl, .base (.int i)⟩
  | str z => cases e; exact ⟨_, rfl, .base (.str z)⟩
  | ty n => cases e
  | glob h => cases e
  | tup h z r =>
    cases e
    rcases h with h | ⟨o, its, n, h, hc, _⟩
    · exact ⟨_, rfl, .base (.tup h.2)⟩
    · exact ⟨_, rfl, .kTuple h hc⟩
  | lst h z r => cases e; exact ⟨_, rfl, .base (.lst h.2)⟩
  | scr h z r =>
    cases e
    rcases h with ⟨_, o, h⟩ | ⟨o, its, n, h, hc, _⟩
    · exact ⟨_, rfl, .base (.frz h)⟩
    · exact ⟨_, rfl, .kList h hc⟩
  | obj n h hc hk' r => cases e; exact own h hc rfl
  | ref h =>
    simp only [tyD] at e
    split at e
    · rename_i xs hx
      cases e
      obtain ⟨a', ha', vs, h1, _⟩ := s.at hx
      rw [h] at ha'; cases ha'
      exact ⟨_, rfl, .base (.lst h1)⟩
    · rename_i xs hx
      cases e
      obtain ⟨a', ha', kv, h1, _⟩ := s.at hx
      rw [h] at ha'; cases ha'
      exact ⟨_, rfl, .base (.dK h1)⟩
    · rename_i c fs hx
      cases e
      obtain ⟨a', ha', C, dx, fv, h1, h2, _⟩ := s.at hx
      rw [h] at ha'; cases ha'
      exact own h1 h2 rfl
    · cases e
theorem opOwn_V {X : Cx} {op : CmpOp} {tab : List (Str × VF)} {nf : Str → Ty → Bool} {g : D → D → Mu → Option (D × Mu)} {r : R2} (ok : OwnOk X op tab nf) (hg : OpV X.K X.mg g r) : OpV X.K X.mg (opOwn tab nf g) (fun x y H Q => r x y H Q ∨ rOwn X op x y H Q) := by
  intro R H μ x y d e z μ' Q s hx hy hz q
  unfold opOwn at hz
  split at hz
  · rename_i c fs
    split at hz
    · rename_i f t hf ht
      split at hz
      · rename_i hn
        split at hz
        · rename_i b μ2 hfe
          cases hz
          obtain ⟨tv, h2, h3⟩ := ty_V2 (fun x e C h => by subst e; exact ok.cls c x hn C h) s hy ht
          refine .inr ?_
          cases hx with
          | @obj a C dx _ fv _ hnr ha hm hk rr =>
            obtain ⟨f0, k, fd, ps, q1, q2, q3, q4, q5⟩ := ok.fn c f hf C hm
            refine ⟨a, C, dx, fv, tv, f0, k, fd, ps, _, rfl, ha, h3, ok.first c t hn C tv hm h2, q1, q2, q3, q4, q5, rfl, [.obj c fs, e], μ, R, s, .cons (.obj hnr ha hm hk rr) (.cons hy .nil), ?_⟩
            rw [hfe]
            intro v H' R' e' s' d'
            cases d'
            exact ⟨b, rfl, q _ H' R' e' s' (.bl b)⟩
        · cases hz
      · cases hz
    · cases hz
  · exact .inl (hg R H μ x y d e z μ' Q s hx hy hz q)
def ValOk (K : PySem.W.Frag) (mg : Str → Option Value) (x : Str) (d : D) : Prop := ∃ v u, mg x = some u ∧ RelV v u ∧ ∀ H R, DV K mg H R v d
theorem se_glob {X : Cx} {B : Base} {EP : Ro → Ex → Mu → Prop} {x : Str} {d : D} {pos : Pos} (ok : ValOk X.K X.mg x d) (hg : Gl X x) (hd : (x == ("__debug__" : Str)) = false) : SE X B EP (.Name x pos) (vC d) := by
  obtain ⟨v, u, h1, h2, h3⟩ := ok
  exact se_const (pe_glob hg h1 h2 hd) h3
end VL
end
section
set_option linter.all false
set_option maxRecDepth 100000
set_option maxHeartbeats 4000000
namespace VL
open PySem L2
def aStar (a : VE) (r : VA) : VA := fun ρ μ => bd (a ρ μ) fun x μ1 => match seqOf μ1 x with
  | some xs => bd (r ρ μ1) fun ys μ2 => some (.ok (xs ++ ys) μ2)
  | none => none
def vTupC (r : VA) : VE := fun ρ μ => bd (r ρ μ) fun xs μ1 => if xs.length ≤ 16777216 then some (.ok (.tup xs) μ1) else none
def vLstC (r : VA) : VE := fun ρ μ => bd (r ρ μ) fun xs μ1 => if xs.length ≤ 16777216 then some (.ok (.lst xs) μ1) else none
section
variable {X : Cx} {B : Base} {EP : Ro → Ex → Mu → Prop} {e : Expr} {es : List Expr} {te : VE} {tr : VA} {pos p : Pos}
theorem sa_star (ha : SE X B EP e te) (hr : SA X B EP es tr) : SA X B EP (.Starred e p :: es) (aStar te tr) :=
  (StX.pa_star ha hr).weak fun σ H Q ⟨ρ, μ, R, rp, h⟩ => ⟨ρ, μ, R, rp, (Ou.bd h).mono fun x μ1 h1 v1 H1 R1 e1 s1 d1 => by
    split at h1
    · rename_i xs hx
      obtain ⟨a, vs, rfl, hq, hz, dd⟩ := seq_at s1 d1 hx
      exact ⟨a, vs, rfl, hq.symm, ρ, μ1, R1, rp.go e1 s1, (Ou.bd h1).mono fun ys μ2 h2 ws H2 R2 e2 s2 d2 =>
        (show PostA _ _ _ _ _ _ _ from h2) (vs ++ ws) H2 R2 (e1.trans e2) s2 ((dd.ext e2).append d2)⟩
    · exact h1.elim⟩
theorem se_tupC {x1 : Nat} (h : SA X B EP es tr) : SE X B EP (.Tuple es x1 pos) (vTupC tr) :=
  (pe_tup h).weak fun σ H Q ⟨ρ, μ, R, rp, h⟩ => ⟨ρ, μ, R, rp, (Ou.bd h).mono fun ds μ1 h1 vs H1 R1 e1 s1 d1 => by
    split at h1
    · rename_i hl
      have hv : vs.length ≤ sizeLine := by rw [d1.length, sizeLine_eq]; exact hl
      refine ⟨hv, fun p hp => ?_⟩
      exact Post.new (Post.pre (show Post _ _ _ _ _ _ _ from h1) e1) s1 hp (.tup (.inl ⟨s1.fresh hp, upd_same⟩) hv (d1.ext (Ex2.upd (s1.fresh hp) hp)))
    · exact h1.elim⟩
theorem se_lstC (h : SA X B EP es tr) : SE X B EP (.List es pos) (vLstC tr) :=
  (pe_lst h).weak fun σ H Q ⟨ρ, μ, R, rp, h⟩ => ⟨ρ, μ, R, rp, (Ou.bd h).mono fun ds μ1 h1 vs H1 R1 e1 s1 d1 => by
    split at h1
    · rename_i hl
      have hv : vs.length ≤ sizeLine := by rw [d1.length, sizeLine_eq]; exact hl
      refine ⟨hv, fun p hp => ?_⟩
      exact Post.new (Post.pre (show Post _ _ _ _ _ _ _ from h1) e1) s1 hp (.lst ⟨s1.fresh hp, upd_same⟩ hv (d1.ext (Ex2.upd (s1.fresh hp) hp)))
    · exact h1.elim⟩
end
/-- xs.pop(i) -/
def mPopI : D → D → Mu → Option (D × Mu) := fun d e μ => match d, e with
  | .ref n, .int i => (match μ[n]? with
    | some (.lst xs) => (match ixN xs.length i with
      | some k => (xs[k]?).map fun y => (y, μ.set n (.lst (xs.eraseIdx k)))
      | none => none)
    | _ => none)
  | _, _ => none
section
variable {K : PySem.W.Frag} {mg : Str → Option Value}
theorem mPopI_V : MetV K mg mPopI rPopAt := by
  intro R H μ x y d e z μ' Q s hx hy hz q
  unfold mPopI at hz
  split at hz
  · rename_i n i
    split at hz
    · rename_i xs hm
      split at hz
      · rename_i k hk
        cases hl : xs[k]? with
        | none => rw [hl] at hz; cases hz
        | some w =>
          rw [hl] at hz; cases hz
          obtain ⟨a, vs, rfl, ha, h1, h2, h3⟩ := live_lst s hx hm
          obtain ⟨v, hv, dv⟩ := h3.get hl
          obtain ⟨k1, k2, k3, k4⟩ := ixN_seq hk
          have hd : DVs K mg H R (vs.eraseIdx k) (xs.eraseIdx k) := by
            rw [List.eraseIdx_eq_take_drop_succ, List.eraseIdx_eq_take_drop_succ]; exact (h3.take _).append (h3.drop _)
          have hle : (vs.eraseIdx k).length ≤ sizeLine := by
            have := List.length_eraseIdx_le vs k
            omega
          obtain ⟨ee, s2⟩ := set_lst (vs := vs.eraseIdx k) (xs := xs.eraseIdx k) s ha hle hd
          cases hy
          have hsz : xs.length ≤ 16777216 := by rw [← h3.length]; rw [sizeLine_eq] at h2; exact h2
          exact ⟨a, vs, i, k, v, rfl, rfl, h1, by omega, by omega, by rw [h3.length]; exact k1, hv, (q.pre ee).now s2 (dv.ext ee)⟩
      · cases hz
    · cases hz
  · cases hz
end
section
variable {X : Cx} {B : Base} {EP : Ro → Ex → Mu → Prop} {e o : Expr} {ta to : VE} {apos cpos : Pos}
theorem se_popI (ho : SE X B EP o to) (he : SE X B EP e ta) (hbase : attributeBase o "pop" X.env (eval o X.env) = eval o X.env) (hline : (apos.endLine == cpos.line) = true)
    (hs : starEach [e] X.env = [(false, eval e X.env)]) : SE X B EP (.Call (.Attribute o "pop" apos) [e] [] cpos) (vMet mPopI to ta) :=
  (pe_bm (T := "list") PySem.F.plainAttrs_list PySem.F.slot_list_pop PySem.F.type_list_pop mt_popAt ho (pa_cons he pa_nil hs) hbase (by rw [hs]; rfl) hline hs rfl).weak (met_weak mPopI_V)
end
end VL
end
section
set_option linter.all false
set_option maxRecDepth 100000
set_option maxHeartbeats 4000000
namespace VL
open PySem L2

inductive Ce where
  | fn (n : Nat) (f : VF) | mk (n : Nat) (g : VF) | mkL (n : Nat) (g : VF)
  | blt (f : List D → Mu → Option (D × Mu)) | lst | isi | rng | zip | enm
structure Gam where
  call : List (Str × Ce) := []
  val : List (Str × D) := []
  ty : List (Str × Ty) := []
  attr : List (Str × List Str) := []
  kit : Ty → Ty → Option Bool := fun _ _ => none
  eqs : List (Str × VF) := []
  nes : List (Str × VF) := []
  nf : Str → Ty → Bool := fun _ _ => false
  bx : List Pos := []

def isStar : Expr → Bool
  | .Starred .. => true
  | _ => false
def slotOf : List Str → Str → Option Nat
  | [], _ => none
  | y :: ys, x => if x == y then some 0 else (slotOf ys x).map (· + 1)
theorem slotOf_get : ∀ {N : List Str} {x : Str} {i : Nat}, slotOf N x = some i → N[i]? = some x
  | [], _, _, h => by cases h
  | y :: ys, x, i, h => by
    unfold slotOf at h
    split at h
    · rename_i e
      cases h
      simp at e
      simp [e]
    · cases q : slotOf ys x with
      | none => rw [q] at h; cases h
      | some j => rw [q] at h; cases h; simpa using slotOf_get q
def okNm (x : Str) : Bool := !(x == ("__debug__" : Str)) && !(x == ("__classdict__" : Str)) && !(x == ("__name__" : Str))
def isVis (sc : Scope) (x : Str) : Bool := match sc.names.lookup x with
  | some .local => true | some .cell => true | some .free => true
  | _ => false
def isGl (sc : Scope) (x : Str) : Bool := match sc.names.lookup x with
  | some .globalImplicit => true
  | _ => false
def isLoc (sc : Scope) (x : Str) : Bool := match sc.names.lookup x with
  | some .local => true
  | _ => false
def vNo : VE := fun _ _ => none
def tNo : VT := fun _ _ => none
def aNo : VA := fun _ _ => none
def iNo : VI := fun _ _ => none
def gNo : VG := fun _ _ _ => none
def sNo : VS := fun _ _ => none
def cmpF (Γ : Gam) : CmpOp → D → D → Mu → Option (D × Mu)
  | .Eq => opOwn Γ.eqs Γ.nf opEq
  | .NotEq => opOwn Γ.nes Γ.nf opNe
  | .Lt => opLt
  | .LtE => opLe
  | .Gt => opGt
  | .GtE => opGe
  | .Is => opIs
  | .IsNot => opIsNot
  | .In => opIn false
  | .NotIn => opIn true
def binF : Operator → Option (D → D → Mu → Option (D × Mu))
  | .Add => some opAdd
  | .Sub => some opSub
  | .Mult => some opMul
  | .Mod => some opMod
  | .FloorDiv => some opDiv
  | .Pow => some opPow
  | _ => none
def plainBase : Expr → Bool
  | .Name .. => true | .Attribute .. => true | .Subscript .. => true
  | .Call (.Name ..) (_ :: _) [] _ => true
  | _ => false
def tysOf (Γ : Gam) (sc : Scope) : List Expr → Option (List Ty)
  | [] => some []
  | .Name x _ :: es => match Γ.ty.lookup x, tysOf Γ sc es with
    | some t, some ts => if isGl sc x && okNm x then some (t :: ts) else none
    | _, _ => none
  | _ => none
def keysOf : List (Option Expr) → Option (List Key)
  | [] => some []
  | some (.Constant (.str s) _ _) :: ks => (keysOf ks).map (Sum.inr s :: ·)
  | _ => none
def ownOf (N : List Str) (scope : Scope) : List (Str × Nat) := scope.names.filterMap fun y => match y.2 with
  | .local => (slotOf N y.1).map fun i => (y.1, i)
  | .cell => (slotOf N y.1).map fun i => (y.1, i)
  | _ => none

def aList : List VE → VA
  | [] => aNil
  | t :: ts => aCons t (aList ts)
def notSet : Expr → Bool
  | .Set .. => false
  | _ => true
/-- the compiler at one depth -/
structure Cp where
  e : Scope → Expr → VE
  t : Scope → Expr → VT
  w : Scope → Expr → VT
  a : Scope → List Expr → VA
  i : Scope → Expr → Expr → VI
  g : (Str → Bool) → Scope → Expr → VG
  gs : (Str → Bool) → Scope → List Expr → VGs
  b : (Str → Bool) → List Nat → Scope → Expr → VG
  bs : (Str → Bool) → List Nat → Scope → List Expr → VGs
  s : Scope → Stmt → VS
  ss : Scope → List Stmt → VS
noncomputable section
variable (Γ : Gam) (N : List Str) (c : Cp)
def fnb (scope : Scope) : Str → Bool := fun x => scope.names.lookup x == some .cell
/-- a comprehension's meaning -/
def lcM (sc : Scope) : Expr → Option VE
  | .ListComp elt [⟨tg, iter, ifs, 0⟩] scope _ =>
    let own := ownOf N scope
    if blkC N sc scope own && decide (ifs.length ≤ 1) && notSet iter then
      let sc2 := relS scope sc
      some (vComp (c.i sc tg iter) (c.b (fnb scope) (own.map (·.2)) sc2 tg) (match ifs with | [x] => c.t sc2 x | _ => tYes) (c.e sc2 elt) (own.map (·.2)))
    else none
  | _ => none
def boxAt (p : Pos) (v : VE) : VE := if p ∈ Γ.bx then vBox v else v
def callM (sc : Scope) (x : Str) (args : List Expr) (pos : Pos) : VE :=
  if isGl sc x && okNm x && !args.isEmpty && args.all (fun e => !isStar e) then match Γ.call.lookup x with
    | some (.fn n f) => if args.length = n then vCall f (c.a sc args) else vNo
    | some (.mk n g) => if args.length = n then vCall (makeD x g) (c.a sc args) else vNo
    | some (.mkL n g) => if args.length = n then vCall (makeL x g) (c.a sc args) else vNo
    | some (.blt f) => vBlt f (c.a sc args)
    | some .lst => boxAt Γ pos (vBlt bList (c.a sc args))
    | some .isi => (match args with
      | [a, .Name t p] => (match tysOf Γ sc [.Name t p] with
        | some ts => vIsi Γ.kit (c.e sc a) ts
        | none => vNo)
      | [a, .Tuple es _ _] => (match tysOf Γ sc es with
        | some ts => if !ts.isEmpty && decide (es.length ≤ 1000) then vIsi Γ.kit (c.e sc a) ts else vNo
        | none => vNo)
      | _ => vNo)
    | _ => vNo
  else vNo
def stepE (sc : Scope) (e : Expr) : VE := match e with
  | .Name x _ => if okNm x then (if isVis sc x then (match slotOf N x with | some i => vVar i | none => vNo) else if isGl sc x then (match Γ.val.lookup x with | some d => vC d | none => vNo) else vNo) else vNo
  | .Constant (.int i) _ _ => vC (.int i)
  | .Constant (.bool b) _ _ => vC (.bl b)
  | .Constant .none _ _ => vC .non
  | .Constant (.str s) _ _ => vC (.str s)
  | .BinOp a op b p => if p ∈ Γ.bx then (match op with
      | .Mult => vBox (vOp opRepL (c.e sc a) (c.e sc b))
      | .Add => vBox (vOp opCatL (c.e sc a) (c.e sc b))
      | _ => vNo)
    else (match binF op with
      | some f => vOp f (c.e sc a) (c.e sc b)
      | none => vNo)
  | .UnaryOp .Not a _ => vNot (c.e sc a)
  | .UnaryOp .USub a _ => vUn opNeg (c.e sc a)
  | .BoolOp _ [a] _ => c.e sc a
  | .BoolOp .And (a :: b :: r) p => vAnd (c.e sc a) (c.e sc (.BoolOp .And (b :: r) p))
  | .BoolOp .Or (a :: b :: r) p => vOr (c.e sc a) (c.e sc (.BoolOp .Or (b :: r) p))
  | .IfExp x a b _ => vIf (c.t sc x) (c.e sc a) (c.e sc b)
  | .Compare a [op] [b] _ => if behindInMarks op b then vNo else vOp (cmpF Γ op) (c.e sc a) (c.e sc b)
  | .Compare a [op, op'] [b, d] _ => if lastMarks [op, op'] [b, d] then vNo else vChain (cmpF Γ op) (cmpF Γ op') (c.e sc a) (c.e sc b) (c.e sc d)
  | .Call (.Name x _) args [] pos => callM Γ c sc x args pos
  | .Call (.Attribute o m apos) [x] [] cpos => if plainBase o && (apos.endLine == cpos.line) && !isStar x then (if m == ("append" : Str) then vMet mAppend (c.e sc o) (c.e sc x) else if m == ("extend" : Str) then vMet mExtend (c.e sc o) (c.e sc x) else if m == ("pop" : Str) then vMet mPopI (c.e sc o) (c.e sc x) else vNo) else vNo
  | .Call (.Attribute o m apos) [] [] cpos => if plainBase o && (apos.endLine == cpos.line) && m == ("pop" : Str) then vUn mPop (c.e sc o) else vNo
  | .Attribute o f _ => if plainBase o then (match Γ.attr.lookup f with | some cs => vUn (opAttr cs f) (c.e sc o) | none => vNo) else vNo
  | .Subscript o (.Slice lo hi none _) _ => vSl (c.e sc o) (match lo with | none => oNone | some x => oSome (c.e sc x)) (match hi with | none => oNone | some x => oSome (c.e sc x))
  | .Subscript o (.Slice none none (some (.UnaryOp .USub (.Constant (.int 1) _ _) _)) _) _ => vUn opRev (c.e sc o)
  | .Subscript o (.Slice ..) _ => vNo
  | .Subscript o i _ => vOp opIx (c.e sc o) (c.e sc i)
  | .Tuple es _ _ => if decide (es.length ≤ 1000) && es.all (fun e => !isStar e) then vTup (c.a sc es) else vTupC (c.a sc es)
  | .List es p => if decide (es.length ≤ 1000) && es.all (fun e => !isStar e) then boxAt Γ p (vLst (c.a sc es)) else if p ∈ Γ.bx then vNo else vLstC (c.a sc es)
  | .Dict ks vs _ => (match keysOf ks with
    | some keys => if decide (ks.length = vs.length) && !ks.isEmpty && decide (ks.length ≤ 15) && vs.all (fun e => !isStar e) then vDct keys (aList (vs.map (c.e sc))) else vNo
    | none => vNo)
  | .ListComp elt gens scope p => (match lcM N c sc (.ListComp elt gens scope p) with
    | some v => boxAt Γ p v
    | none => vNo)
  | _ => vNo
def stepT (sc : Scope) (e : Expr) : VT := match e with
  | .UnaryOp .Not a _ => tNot (c.t sc a)
  | .BoolOp op vs p => c.w sc (.BoolOp op vs p)
  | .IfExp .. => tNo
  | .Compare a [op] [b] _ => if behindInMarks op b then tNo else tVal (vOp (cmpF Γ op) (c.e sc a) (c.e sc b))
  | .Compare a [op, op'] [b, d] _ => if lastMarks [op, op'] [b, d] then tNo else tVal (vChain (cmpF Γ op) (cmpF Γ op') (c.e sc a) (c.e sc b) (c.e sc d))
  | .Compare .. => tNo
  | e => tTru (c.e sc e)
def stepW (sc : Scope) (e : Expr) : VT := match e with
  | .BoolOp _ [a] _ => c.t sc a
  | .BoolOp .And (a :: b :: r) p => tAnd (c.t sc a) (c.w sc (.BoolOp .And (b :: r) p))
  | .BoolOp .Or (a :: b :: r) p => tOr (c.t sc a) (c.w sc (.BoolOp .Or (b :: r) p))
  | _ => tNo
def stepA (sc : Scope) (es : List Expr) : VA := match es with
  | [] => aNil
  | .Starred e _ :: r => aStar (c.e sc e) (c.a sc r)
  | e :: r => if isStar e then aNo else aCons (c.e sc e) (c.a sc r)
def isTupE : Expr → Bool
  | .Tuple .. => true
  | _ => false
def stepI (sc : Scope) (tg e : Expr) : VI := match e with
  | .Call (.Name x _) args [] _ => if isGl sc x && okNm x && args.all (fun e => !isStar e) then (match Γ.call.lookup x, args with
      | some .rng, [a] => iRg1 (c.a sc [a])
      | some .rng, [a, b] => iRg2 (c.a sc [a, b])
      | some .zip, [a, b] => if isTupE tg then iZp2 (c.a sc [a, b]) else iNo
      | some .zip, [a, b, d] => if isTupE tg then iZp3 (c.a sc [a, b, d]) else iNo
      | some .enm, [a] => if isTupE tg then iEnum (c.a sc [a]) else iNo
      | some .rng, _ => iNo
      | some .zip, _ => iNo
      | some .enm, _ => iNo
      | _, _ => iSeq (c.e sc e)) else iSeq (c.e sc e)
  | e => iSeq (c.e sc e)
def stepG (f : Str → Bool) (sc : Scope) (e : Expr) : VG := match e with
  | .Name x _ => (match slotOf N x, sc.names.lookup x with
    | some i, some .local => gName i
    | some i, some .cell => if f x then gName i else gNo
    | _, _ => gNo)
  | .Tuple es _ _ => if es.all (fun e => !isStar e) then gTup es.length (c.gs f sc es) else gNo
  | .Subscript o i _ => (match i with
    | .Slice .. => gNo
    | i => gSub (c.e sc o) (c.e sc i))
  | _ => gNo
def stepGs (f : Str → Bool) (sc : Scope) (es : List Expr) : VGs := match es with
  | [] => gNil
  | e :: r => gCons (c.g f sc e) (c.gs f sc r)
def stepB (f : Str → Bool) (vs : List Nat) (sc : Scope) (e : Expr) : VG := match e with
  | .Name x _ => (match slotOf N x, sc.names.lookup x with
    | some i, some .local => if i ∈ vs then gName i else gNo
    | some i, some .cell => if f x && decide (i ∈ vs) then gName i else gNo
    | _, _ => gNo)
  | .Tuple es _ _ => if es.all (fun e => !isStar e) then gTup es.length (c.bs f vs sc es) else gNo
  | _ => gNo
def stepBs (f : Str → Bool) (vs : List Nat) (sc : Scope) (es : List Expr) : VGs := match es with
  | [] => gNil
  | e :: r => gCons (c.b f vs sc e) (c.bs f vs sc r)
def allF : Str → Bool := fun _ => true
/-- does the comprehension's value go to the name in the block itself -/
def swapC (sc scope : Scope) (y : Str) (py vp : Pos) : Bool := isLoc sc y && (py.line == vp.line) && !(scope.names.any fun (n, k) => n == y && (k == .local || k == .cell))
def swNames (sc : Scope) (ts : List Expr) : List Str :=
  let line := (ts.head?.map (·.pos.line)).getD 0
  ts.filterMap fun
    | .Name id pos => if sc.names.lookup id == some .local && pos.line == line then some id else none
    | _ => none
/-- no swapped stores -/
def noSwap (sc : Scope) (ts vs : List Expr) : Bool := !(ts.length == 2 || ts.length == 3) || vs.length != ts.length || (vs.any fun | .Starred .. => true | _ => false) || ((swNames sc ts).length != ts.length || (swNames sc ts).eraseDups.length != (swNames sc ts).length) || vs.all (foldedForSure 8)
def doSwap (sc : Scope) (ts vs : List Expr) (names : List Str) : Bool := (ts.length == 2 || ts.length == 3) && vs.length == ts.length && !(vs.any fun | .Starred .. => true | _ => false) && decide (swNames sc ts = names) && names.length == ts.length && names.eraseDups.length == names.length && !vs.all (foldedForSure 8) && !vs.all (constantsAlone 8)
def stepS (sc : Scope) (s : Stmt) : VS := match s with
  | .Assign [.Attribute o f _] v _ => (match v with
    | .ListComp .. => sNo | .SetComp .. => sNo | .DictComp .. => sNo
    | v => (match Γ.attr.lookup f with
      | some cs => sFldD cs f (c.e sc o) (c.e sc v)
      | none => sNo))
  | .Assign [.Name y py] (.ListComp elt gens scope vp) _ => (match lcM N c sc (.ListComp elt gens scope vp), slotOf N y with
    | some v, some i => if isLoc sc y then (if swapC sc scope y py vp then sAsg (boxAt Γ vp v) (gName i) else sAsg (boxAt Γ vp v) (gName i)) else sNo
    | _, _ => sNo)
  | .Assign [.Tuple ts k p] (.Tuple vs k2 p2) _ =>
    if noSwap sc ts vs then sAsg (c.e sc (.Tuple vs k2 p2)) (c.g allF sc (.Tuple ts k p)) else
    (match ts, vs with
    | [.Name x _, .Name y _], [a, b] => (match slotOf N x, slotOf N y with
      | some i, some j => if doSwap sc ts vs [x, y] && decide (i ≠ j) && isLoc sc x && isLoc sc y then sPar i j (c.a sc [a, b]) else sNo
      | _, _ => sNo)
    | [.Name x _, .Name y _, .Name z _], [a, b, d] => (match slotOf N x, slotOf N y, slotOf N z with
      | some i, some j, some l => if doSwap sc ts vs [x, y, z] && decide (i ≠ j) && decide (i ≠ l) && decide (j ≠ l) && isLoc sc x && isLoc sc y && isLoc sc z then sPar3 i j l (c.a sc [a, b, d]) else sNo
      | _, _, _ => sNo)
    | _, _ => sNo)
  | .Assign [tg] v _ => (match v with
    | .ListComp .. => sNo | .SetComp .. => sNo | .DictComp .. => sNo
    | v => (match tg with
      | .Name .. => sAsg (c.e sc v) (c.g allF sc tg)
      | .Subscript .. => sAsg (c.e sc v) (c.g allF sc tg)
      | .Tuple .. => (match v with
        | .Tuple .. => sNo
        | v => sAsg (c.e sc v) (c.g allF sc tg))
      | _ => sNo))
  | .Return (some e) _ => sRet (c.e sc e)
  | .Return none _ => sRetN
  | .Expr e _ => (match e with
    | .ListComp .. => sNo | .SetComp .. => sNo | .DictComp .. => sNo
    | e => sDrop (c.e sc e))
  | .If x a b _ => sIf (c.t sc x) (c.ss sc a) (c.ss sc b)
  | .For tg iter body [] _ => (match iter with
    | .Set .. => sNo
    | iter => sFor (c.i sc tg iter) (c.g allF sc tg) (c.ss sc body))
  | .While x body [] _ => sWhile (c.t sc x) (c.ss sc body)
  | .Pass _ => sPass
  | .Break _ => sBk
  | .Continue _ => sCt
  | _ => sNo
def stepSS (sc : Scope) (ss : List Stmt) : VS := match ss with
  | [] => sPass
  | [s] => c.s sc s
  | s :: r => sSeq (c.s sc s) (c.ss sc r)
def cp0 : Cp := ⟨fun _ _ => vNo, fun _ _ => tNo, fun _ _ => tNo, fun _ _ => aNo, fun _ _ _ => iNo, fun _ _ _ => gNo, fun _ _ _ _ _ _ => none, fun _ _ _ _ => gNo, fun _ _ _ _ _ _ _ => none, fun _ _ => sNo, fun _ _ => sNo⟩
def cpS : Cp := ⟨stepE Γ N c, stepT Γ c, stepW c, stepA c, stepI Γ c, stepG N c, stepGs c, stepB N c, stepBs c, stepS Γ N c, stepSS c⟩
def cp : Nat → Cp
  | 0 => cp0
  | n + 1 => cpS Γ N (cp n)
end
end VL
end
section
set_option linter.all false
set_option maxRecDepth 100000
set_option maxHeartbeats 4000000
namespace VL
open PySem L2
structure Wd where
  P : Program
  w : World
  K : PySem.W.Frag
  mg : Str → Option Value
  base : Heap
def wdOf (X : Cx) : Wd := ⟨X.prog, X.w, X.K, X.mg, X.base⟩
/-- a built-in by values, at its call -/
def BltR (X : Cx) (x : Str) (f : List D → Mu → Option (D × Mu)) : Prop := ∀ (B : Base) (EP : Ro → Ex → Mu → Prop) (e : Expr) (es : List Expr) (tr : VA) (p pos : Pos), Gl X x → SA X B EP (e :: es) tr →
  starEach (e :: es) X.env = (false, eval e X.env) :: starEach es X.env → (backTo pos (starEach es X.env)).any (·.1) = false → SE X B EP (.Call (.Name x p) (e :: es) [] pos) (vBlt f tr)
def BltOk (Y : Wd) (x : Str) (f : List D → Mu → Option (D × Mu)) : Prop := ∀ X, wdOf X = Y → X.calm = true → BltR X x f
structure GOk (Y : Wd) (Γ : Gam) (k : Nat) : Prop where
  fn : ∀ x n f, Γ.call.lookup x = some (.fn n f) → ∃ a fd ps, Y.mg x = some (.ref a) ∧ PySem.W.keepIn Y.K (.ref a) = true ∧ Binds Y.K fd ps [] ∧ FnOk Y.P Y.w Y.K Y.mg Y.base (L2.CX Y.P Y.w) k a fd ps (LSp Y.K Y.mg n f)
  made : ∀ x n g, (Γ.call.lookup x = some (.mk n g) ∨ Γ.call.lookup x = some (.mkL n g)) → ∃ C a fd ps j, Y.mg x = some (.ref C) ∧ Mk Y.K C a ∧ Binds Y.K fd ps [] ∧ j + 1 ≤ k ∧ FnOk Y.P Y.w Y.K Y.mg Y.base (L2.CX Y.P Y.w) j a fd ps (LSp Y.K Y.mg (n + 1) g)
  blt : ∀ x f, Γ.call.lookup x = some (.blt f) → BltOk Y x f
  lst : ∀ x, Γ.call.lookup x = some .lst → x = "list" ∧ Y.mg "list" = none
  isi : ∀ x, Γ.call.lookup x = some .isi → x = "isinstance" ∧ Y.mg "isinstance" = none
  rng : ∀ x, Γ.call.lookup x = some .rng → x = "range" ∧ Y.mg "range" = none
  zip : ∀ x, Γ.call.lookup x = some .zip → x = "zip" ∧ Y.mg "zip" = none
  enm : ∀ x, Γ.call.lookup x = some .enm → x = "enumerate" ∧ Y.mg "enumerate" = none
  val : ∀ x d, Γ.val.lookup x = some d → ValOk Y.K Y.mg x d
  ty : ∀ x t, Γ.ty.lookup x = some t → (∃ n, t = .b n ∧ Y.mg x = none ∧ bootBuiltins x = some (.type n)) ∨ (t = .c x ∧ ∃ C, Y.mg x = some (.ref C))
  attr : ∀ f cs, Γ.attr.lookup f = some cs → AttrOk Y.K Y.mg cs f
  kit : KitOk Y.K Y.mg Γ.kit
  eqs : ∀ X, wdOf X = Y → Room k X.A → OwnOk X .Eq Γ.eqs Γ.nf
  nes : ∀ X, wdOf X = Y → Room k X.A → OwnOk X .NotEq Γ.nes Γ.nf
structure Cte (X : Cx) (B : Base) (EP : Ro → Ex → Mu → Prop) (Γ : Gam) (sc : Scope) (N : List Str) (k : Nat) : Prop where
  gok : GOk (wdOf X) Γ k
  esc : X.env.scope = sc
  eN : X.N = N
  nd : N.Nodup
  calm : X.calm = true
  room : Room k X.A
  tk : Takes X (WV X.K X.mg B EP)
structure CteS (X : Cx) (B : Base) (EP : Ro → Ex → Mu → Prop) (Γ : Gam) (sc : Scope) (N : List Str) (k : Nat) : Prop extends Cte X B EP Γ sc N k where
  pass : PassesOwn (model X.prog X.w) X.A X.env X.xe
  kind : sc.kind = .function
  efn : ∀ x, X.fn x = true
section
variable {X : Cx} {B : Base} {EP : Ro → Ex → Mu → Prop}
theorem se_no {e : Expr} : SE X B EP e vNo := ⟨fun _ _ _ _ _ _ ⟨_, _, _, _, h⟩ => h.elim⟩
theorem st_no {e : Expr} : ST X B EP e tNo := ⟨fun _ _ _ _ _ _ ⟨_, _, _, _, h⟩ => h.elim⟩
theorem sw_no {e : Expr} : SW X B EP e tNo := ⟨fun _ _ _ _ _ _ _ ⟨_, _, _, _, h⟩ => h.elim⟩
theorem sa_no {e : List Expr} : SA X B EP e aNo := ⟨fun _ _ _ _ _ _ _ ⟨_, _, _, _, h⟩ => h.elim⟩
theorem si_no {tg e : Expr} : SI X B EP tg e iNo := ⟨fun _ _ _ _ _ _ ⟨_, _, _, _, h⟩ => h.elim⟩
theorem sg_no {e : Expr} : SG X B e gNo := ⟨fun _ _ _ _ _ _ _ _ _ ⟨_, _, _, _, _, _, _, _, h, _⟩ => nomatch h⟩
theorem sgb_no {vs : List Nat} {e : Expr} : SGb X B vs e gNo := ⟨fun _ _ _ _ _ _ _ _ _ ⟨_, _, _, _, _, _, _, _, h, _⟩ => nomatch h⟩
theorem ss_no {e : Stmt} : SS X B EP e sNo := ⟨fun _ _ _ _ _ _ ⟨_, _, _, _, h⟩ => h.elim⟩
theorem star_cons {e : Expr} (es : List Expr) (env : Env) (h : isStar e = false) : starEach (e :: es) env = (false, eval e env) :: starEach es env := by
  cases e <;> first | rfl | cases h
theorem star_any {pos : Pos} {env : Env} : ∀ {es : List Expr}, es.all (fun e => !isStar e) = true → (backTo pos (starEach es env)).any (·.1) = false
  | [], _ => rfl
  | e :: es, h => by
    simp only [List.all_cons, Bool.and_eq_true, Bool.not_eq_true'] at h
    rw [star_cons es env h.1]
    have := star_any (pos := pos) (env := env) (es := es) h.2
    unfold backTo at this ⊢
    simp only [List.map_cons, List.any_cons, this, Bool.false_or]
theorem asg_cons {e : Expr} (es : List Expr) (env : Env) (h : isStar e = false) : assignEach (e :: es) env = (false, assign e env) :: assignEach es env := by
  cases e <;> first | rfl | cases h
theorem asg_none {env : Env} : ∀ {es : List Expr}, es.all (fun e => !isStar e) = true → (assignEach es env).length = es.length ∧ (assignEach es env).findIdx? (·.1) = none
  | [], _ => ⟨rfl, rfl⟩
  | e :: es, h => by
    simp only [List.all_cons, Bool.and_eq_true, Bool.not_eq_true'] at h
    obtain ⟨h1, h2⟩ := asg_none (env := env) (es := es) h.2
    rw [asg_cons es env h.1]
    refine ⟨by simp [h1], ?_⟩
    rw [List.findIdx?_cons]
    simp [h2]
theorem base_ok {e : Expr} {f : Str} (h : plainBase e = true) (env : Env) : attributeBase e f env (eval e env) = eval e env := by
  unfold plainBase at h
  split at h <;> first | rfl | cases h
theorem gl_of {sc : Scope} {x : Str} (he : X.env.scope = sc) (h : isGl sc x = true) : Gl X x := by
  unfold isGl at h
  unfold Gl Env.kindOf
  rw [he]
  split at h
  · assumption
  · cases h
theorem vis_of {sc : Scope} {x : Str} (h : isVis sc x = true) : Vis sc x := by
  unfold isVis at h
  split at h
  · exact .inl (by assumption)
  · exact .inr (.inl (by assumption))
  · exact .inr (.inr (by assumption))
  · cases h
theorem loc_of {sc : Scope} {x : Str} (h : isLoc sc x = true) : sc.names.lookup x = some .local := by
  unfold isLoc at h
  split at h
  · assumption
  · cases h
theorem okNm_of {x : Str} (h : okNm x = true) : (x == ("__debug__" : Str)) = false ∧ (x == ("__classdict__" : Str)) = false ∧ x ≠ "__name__" := by
  unfold okNm at h
  simp only [Bool.and_eq_true, Bool.not_eq_true'] at h
  exact ⟨h.1.1, h.1.2, by simpa using h.2⟩
theorem cmp_ok {Γ : Gam} {sc : Scope} {N : List Str} {k : Nat} (C : Cte X B EP Γ sc N k) (op : CmpOp) : ∃ r, OpR X (compareOp op) r ∧ OpV X.K X.mg (cmpF Γ op) r := by
  have hu : X.A.units + 64 < cLine := by have := C.room.un; omega
  cases op with
  | Eq => exact ⟨_, (op_eqD hu).or op_ownEq, opOwn_V (C.gok.eqs X rfl C.room) opEq_V⟩
  | NotEq => exact ⟨_, (op_neD hu).or op_ownNe, opOwn_V (C.gok.nes X rfl C.room) opNe_V⟩
  | Lt => exact ⟨_, op_lt, opOrd_V⟩
  | LtE => exact ⟨_, op_le, opOrd_V⟩
  | Gt => exact ⟨_, op_gt, opOrd_V⟩
  | GtE => exact ⟨_, op_ge, opOrd_V⟩
  | Is => exact ⟨_, op_isC, opIs_V⟩
  | IsNot => exact ⟨_, op_notC, opIsNot_V⟩
  | In => exact ⟨_, op_in_seq, opIn_V false⟩
  | NotIn => exact ⟨_, op_notIn_seq, opIn_V true⟩
theorem bin_ok {op : Operator} {f : D → D → Mu → Option (D × Mu)} (h : binF op = some f) : ∃ r, OpR X (binaryOp op) r ∧ OpV X.K X.mg f r := by
  cases op <;> simp only [binF, Option.some.injEq, reduceCtorEq] at h <;> subst h
  · exact ⟨_, op_add4, opAdd_V⟩
  · exact ⟨_, op_sub, opSub_V⟩
  · exact ⟨_, op_mul4, opMul_V⟩
  · exact ⟨_, op_modN, opMod_V⟩
  · exact ⟨_, op_pow, opPow_V⟩
  · exact ⟨_, op_fdivN, opDiv_V⟩
theorem st_chain {a b c : Expr} {pos : Pos} {ta tb tc : VE} {op op' : CmpOp} {f g : D → D → Mu → Option (D × Mu)} {r r' : R2} (hv : OpV X.K X.mg f r) (hv' : OpV X.K X.mg g r') (h : PT X (.Compare a [op, op'] [b, c] pos) (tTest (tChain r r' (lE X.K X.mg B EP ta) (lE X.K X.mg B EP tb) (lE X.K X.mg B EP tc)))) : ST X B EP (.Compare a [op, op'] [b, c] pos) (tVal (vChain f g ta tb tc)) := by
  refine h.weak fun σ H Q ⟨ρ, μ, R, rp, h⟩ => ?_
  have h' : lE X.K X.mg B EP (vChain f g ta tb tc) σ H (fun x H' => ∃ k, x = .bl k ∧ Q k H') := ⟨ρ, μ, R, rp, (Ou.bd h).mono fun x μ1 h1 v1 H1 R1 e1 s1 d1 => by
    cases x <;> first | exact h1.elim | skip
    cases d1
    exact ⟨_, rfl, (show PostT _ _ _ _ _ _ _ from h1) H1 R1 e1 s1⟩⟩
  exact chain_weak hv hv' σ H _ h'
end
end VL
end
section
set_option linter.all false
set_option maxRecDepth 100000
set_option maxHeartbeats 4000000
namespace VL
open PySem L2
structure Ok (Γ : Gam) (N : List Str) (k : Nat) (c : Cp) : Prop where
  e : ∀ {X : Cx} {B : Base} {EP : Ro → Ex → Mu → Prop} {sc : Scope} (e : Expr), Cte X B EP Γ sc N k → SE X B EP e (c.e sc e)
  t : ∀ {X : Cx} {B : Base} {EP : Ro → Ex → Mu → Prop} {sc : Scope} (e : Expr), Cte X B EP Γ sc N k → ST X B EP e (c.t sc e)
  w : ∀ {X : Cx} {B : Base} {EP : Ro → Ex → Mu → Prop} {sc : Scope} (e : Expr), Cte X B EP Γ sc N k → SW X B EP e (c.w sc e)
  a : ∀ {X : Cx} {B : Base} {EP : Ro → Ex → Mu → Prop} {sc : Scope} (es : List Expr), Cte X B EP Γ sc N k → SA X B EP es (c.a sc es)
  al : ∀ {sc : Scope} (es : List Expr), es.all (fun e => !isStar e) = true → ∀ (ρ : Ro) (μ : Mu) (ds : List D) (μ' : Mu), c.a sc es ρ μ = some (.ok ds μ') → ds.length = es.length
  i : ∀ {X : Cx} {B : Base} {EP : Ro → Ex → Mu → Prop} {sc : Scope} (tg e : Expr), Cte X B EP Γ sc N k → SI X B EP tg e (c.i sc tg e)
  g : ∀ {X : Cx} {B : Base} {EP : Ro → Ex → Mu → Prop} {sc : Scope} {f : Str → Bool} (e : Expr), Cte X B EP Γ sc N k → (∀ x, f x = true → X.fn x = true) → SG X B e (c.g f sc e)
  gs : ∀ {X : Cx} {B : Base} {EP : Ro → Ex → Mu → Prop} {sc : Scope} {f : Str → Bool} (es : List Expr), Cte X B EP Γ sc N k → (∀ x, f x = true → X.fn x = true) → es.all (fun e => !isStar e) = true → SGs X B es (c.gs f sc es)
  b : ∀ {X : Cx} {B : Base} {EP : Ro → Ex → Mu → Prop} {sc : Scope} {f : Str → Bool} {vs : List Nat} (e : Expr), Cte X B EP Γ sc N k → (∀ x, f x = true → X.fn x = true) → SGb X B vs e (c.b f vs sc e)
  bs : ∀ {X : Cx} {B : Base} {EP : Ro → Ex → Mu → Prop} {sc : Scope} {f : Str → Bool} {vs : List Nat} (es : List Expr), Cte X B EP Γ sc N k → (∀ x, f x = true → X.fn x = true) → es.all (fun e => !isStar e) = true → SGbs X B vs es (c.bs f vs sc es)
  s : ∀ {X : Cx} {B : Base} {EP : Ro → Ex → Mu → Prop} {sc : Scope} (s : Stmt), CteS X B EP Γ sc N k → SS X B EP s (c.s sc s)
  ss : ∀ {X : Cx} {B : Base} {EP : Ro → Ex → Mu → Prop} {sc : Scope} (ss : List Stmt), CteS X B EP Γ sc N k → SSs X B EP ss (c.ss sc ss)
section
variable {X : Cx} {B : Base} {EP : Ro → Ex → Mu → Prop} {Γ : Gam} {N : List Str} {k : Nat} {c : Cp} {sc : Scope}
theorem Cte.blk (C : Cte X B EP Γ sc N k) (s : Shared) (H : Hp) (scope : Scope) (Cd : Addr) (cl : List (Str × Addr)) (fp : List Addr) (B' : Base) : Cte (X.blk s H scope (compEnvC scope cl Cd X.env) fp) B' NoE Γ (relS scope sc) N k :=
  ⟨C.gok, by rw [← C.esc]; rfl, C.eN, C.nd, C.calm, C.room, fun u s' ⟨_, _, _, _, _, _, _, _, _, _, _, _, _, _, _, _, _, _, _, _, _, _, w⟩ => w.elim⟩
theorem Cte.noE (C : Cte X B EP Γ sc N k) (B' : Base) : Cte X B' NoE Γ sc N k :=
  ⟨C.gok, C.esc, C.eN, C.nd, C.calm, C.room, fun u s' ⟨_, _, _, _, _, _, _, _, _, _, _, _, _, _, _, _, _, _, _, _, _, _, w⟩ => w.elim⟩
/-- the parts of a comprehension -/
theorem lc_ok (ok : Ok Γ N k c) (C : Cte X B EP Γ sc N k) {elt : Expr} {gens : List Comprehension} {scope : Scope} {p : Pos} {v : VE} (h : lcM N c sc (.ListComp elt gens scope p) = some v) :
    ∃ tg iter ifs own i g t te, gens = [⟨tg, iter, ifs, 0⟩] ∧ LcOk X B EP elt tg iter ifs scope own i g t te ∧ v = vComp i g t te (own.map (·.2)) := by
  unfold lcM at h
  split at h
  · rename_i elt' tg iter ifs scope' p' heq
    cases heq
    simp only [] at h
    split at h
    · rename_i hc
      cases h
      simp only [Bool.and_eq_true, decide_eq_true_eq] at hc
      have hset := hc.2
      refine ⟨tg, iter, ifs, ownOf N scope, _, _, _, _, rfl, ⟨C.calm, by rw [C.eN]; exact C.nd, ok.i tg iter C, by rw [C.eN, C.esc]; exact blkOk_by hc.1.1, fun s H Cd cl fp B' => ok.b tg (C.blk s H scope Cd cl fp B') (fun x hx => hx), fun s H Cd cl fp B' => ?_, fun s H Cd cl fp B' => ok.e elt (C.blk s H scope Cd cl fp B'), fun x => ?_⟩, rfl⟩
      · match ifs, hc.1.2 with
        | [], _ => exact sts_nil
        | [x], _ => exact sts_one (ok.t x (C.blk s H scope Cd cl fp B'))
        | _ :: _ :: _, hl => exact absurd hl (by simp)
      · cases iter <;> first | rfl | cases hset
    · cases h
  · cases h
theorem box_ok {e : Expr} {p : Pos} {v : VE} (h : SF X B EP e v) : SE X B EP e (boxAt Γ p v) := by
  unfold boxAt
  split
  · exact h.box
  · exact h.val
theorem tys_ok (C : Cte X B EP Γ sc N k) : ∀ {es : List Expr} {ts : List Ty}, tysOf Γ sc es = some ts → ∃ us cs tr, TyEs X es ts us cs tr
  | [], ts, h => by cases h; exact ⟨[], [], _, .nil⟩
  | e :: es, ts, h => by
    by_cases hn : ∃ x p, e = .Name x p
    · obtain ⟨x, p, rfl⟩ := hn
      simp only [tysOf] at h
      split at h
      · rename_i t ts' ht hts
        split at h
        · rename_i hc
          simp only [Bool.and_eq_true] at hc
          cases h
          obtain ⟨us, cs, tr, r⟩ := tys_ok C hts
          have hg := gl_of C.esc hc.1
          obtain ⟨n1, n2, n3⟩ := okNm_of hc.2
          rcases C.gok.ty x t ht with ⟨n, rfl, hm, hb⟩ | ⟨rfl, C', hm⟩
          · exact ⟨_, _, _, .cons (u := .type n) (c := .ty n) rfl (.ty n) (pe_bltn hg hm hb rfl n3 n1) rfl r⟩
          · exact ⟨_, _, _, .cons (u := .ref C') (c := .ref C') ⟨hm, C', rfl⟩ (.own C') (pe_glob hg hm rfl n1) rfl r⟩
        · cases h
      · cases h
    · exfalso
      cases e <;> first | (exact hn ⟨_, _, rfl⟩) | (simp [tysOf] at h)
theorem tys1_ok (C : Cte X B EP Γ sc N k) {x : Str} {p : Pos} {ts : List Ty} (h : tysOf Γ sc [.Name x p] = some ts) : ∃ t u, ts = [t] ∧ TyE X (.Name x p) t u := by
  obtain ⟨us, cs, tr, r⟩ := tys_ok C h
  cases r with
  | cons hv hc pe hs r' => cases r'; exact ⟨_, _, rfl, hv, _, hc, pe⟩
theorem call_ok (ok : Ok Γ N k c) (C : Cte X B EP Γ sc N k) (x : Str) (p : Pos) (args : List Expr) (pos : Pos) : SE X B EP (.Call (.Name x p) args [] pos) (callM Γ c sc x args pos) := by
  unfold callM
  split
  · rename_i hc
    simp only [Bool.and_eq_true, Bool.not_eq_true'] at hc
    obtain ⟨⟨⟨h1, h2⟩, h3⟩, h4⟩ := hc
    have hg := gl_of C.esc h1
    obtain ⟨n1, n2, n3⟩ := okNm_of h2
    cases args with
    | nil => cases h3
    | cons e es =>
      have hst : isStar e = false := by simp only [List.all_cons, Bool.and_eq_true, Bool.not_eq_true'] at h4; exact h4.1
      have hes : es.all (fun e => !isStar e) = true := by simp only [List.all_cons, Bool.and_eq_true] at h4; exact h4.2
      have hs := star_cons es X.env hst
      have hp := star_any (pos := pos) (env := X.env) hes
      split
      · rename_i n f hf
        split
        · rename_i hn
          obtain ⟨a, fd, ps, q1, q2, q3, q4⟩ := C.gok.fn x n f hf
          exact se_call q4 C.room hg q1 q2 q3 C.tk (ok.a _ C) (fun ρ μ ds μ' h => (ok.al _ h4 ρ μ ds μ' h).trans hn) n1 hs hp
        · exact se_no
      · rename_i n f hf
        split
        · rename_i hn
          obtain ⟨C', a, fd, ps, j, q1, q2, q3, q5, q4⟩ := C.gok.made x n f (.inl hf)
          exact se_make q2 q4 (C.room.mono q5) hg q1 q3 C.tk (ok.a _ C) (fun ρ μ ds μ' h => (ok.al _ h4 ρ μ ds μ' h).trans hn) n1 hs hp
        · exact se_no
      · rename_i n f hf
        split
        · rename_i hn
          obtain ⟨C', a, fd, ps, j, q1, q2, q3, q5, q4⟩ := C.gok.made x n f (.inr hf)
          exact se_makeL q2 q4 (C.room.mono q5) hg q1 q3 C.tk (ok.a _ C) (fun ρ μ ds μ' h => (ok.al _ h4 ρ μ ds μ' h).trans hn) n1 hs hp
        · exact se_no
      · rename_i f hf
        exact C.gok.blt x f hf X rfl C.calm B EP e es _ p pos hg (ok.a _ C) hs hp
      · rename_i hf
        obtain ⟨rfl, hm⟩ := C.gok.lst x hf
        exact box_ok (sf_list hm hg (ok.a _ C) hs hp)
      · rename_i hf
        obtain ⟨rfl, hm⟩ := C.gok.isi x hf
        split
        · rename_i a t p' heq
          cases heq
          split
          · rename_i ts hts
            obtain ⟨t', u, rfl, he⟩ := tys1_ok C hts
            exact se_isi C.gok.kit hg hm (ok.e _ C) he hs rfl hp
          · exact se_no
        · rename_i a es' kk pp heq
          cases heq
          split
          · rename_i ts hts
            split
            · rename_i hz
              simp only [Bool.and_eq_true, Bool.not_eq_true', decide_eq_true_eq] at hz
              obtain ⟨us, cs, tr, r⟩ := tys_ok C hts
              exact se_isiT C.gok.kit hg hm (ok.e _ C) r (fun z => by rw [z] at hz; simp at hz) hz.2 hs rfl hp
            · exact se_no
          · exact se_no
        · exact se_no
      · exact se_no
  · exact se_no
end
end VL
end
section
set_option linter.all false
set_option maxRecDepth 100000
set_option maxHeartbeats 4000000
namespace VL
open PySem L2
section
variable {X : Cx} {B : Base} {EP : Ro → Ex → Mu → Prop} {Γ : Gam} {N : List Str} {k : Nat} {c : Cp} {sc : Scope}
theorem so_of (ok : Ok Γ N k c) (C : Cte X B EP Γ sc N k) (o : Option Expr) : SO X B EP o (match o with | none => oNone | some x => oSome (c.e sc x)) := by
  cases o with
  | none => exact so_none
  | some x => exact so_some (ok.e x C)
theorem keys_ok (ok : Ok Γ N k c) (C : Cte X B EP Γ sc N k) {pos : Pos} : ∀ {ks : List (Option Expr)} {vs : List Expr} {keys : List Key}, keysOf ks = some keys → ks.length = vs.length → vs.all (fun e => !isStar e) = true → SPs X pos ks vs keys (aList (vs.map (c.e sc)))
  | [], [], keys, h, _, _ => by cases h; exact .nil
  | [], _ :: _, _, _, h, _ => by simp at h
  | _ :: _, [], _, _, h, _ => by simp at h
  | kx :: ks, v :: vs, keys, h, hl, hst => by
    unfold keysOf at h
    split at h
    · rename_i heq; cases heq
    · rename_i s k' p' ks' heq
      cases heq
      cases hk : keysOf ks with
      | none => rw [hk] at h; cases h
      | some keys' =>
        rw [hk] at h; cases h
        simp only [List.all_cons, Bool.and_eq_true] at hst
        exact .cons (key := .inr s) pe_str (fun B' => ok.e v (C.noE B')) (keys_ok ok C hk (by simpa using hl) hst.2)
    · cases h
theorem stepE_ok (ok : Ok Γ N k c) (C : Cte X B EP Γ sc N k) (e : Expr) : SE X B EP e (stepE Γ N c sc e) := by
  have hu : X.A.units + 1 < cLine := by have := C.room.un; omega
  unfold stepE
  split
  · rename_i x p
    split
    · rename_i hn
      obtain ⟨n1, n2, n3⟩ := okNm_of hn
      split
      · rename_i hv
        split
        · rename_i i hi
          exact se_var (by rw [C.eN]; exact slotOf_get hi) (by rw [C.esc]; exact vis_of hv) n1 n2
        · exact se_no
      · split
        · rename_i hg
          split
          · rename_i d hd
            exact se_glob (C.gok.val x d hd) (gl_of C.esc hg) n1
          · exact se_no
        · exact se_no
    · exact se_no
  · exact se_const pe_int fun _ _ => .int _
  · exact se_const pe_bl fun _ _ => .bl _
  · exact se_const pe_non fun _ _ => .non
  · exact se_const pe_str fun _ _ => .str _
  · rename_i a op b p
    split
    · split
      · exact (sf_rep (ok.e a C) (ok.e b C)).box
      · exact (sf_cat (ok.e a C) (ok.e b C)).box
      · exact se_no
    · split
      · rename_i f hf
        obtain ⟨r, h1, h2⟩ := bin_ok (X := X) hf
        exact se_op h1 h2 (ok.e a C) (ok.e b C)
      · exact se_no
  · exact se_not (ok.e _ C)
  · exact se_un un_neg opNeg_V (ok.e _ C)
  · exact pe_one (ok.e _ C)
  · exact se_and (ok.e _ C) (ok.e _ C)
  · exact se_or (ok.e _ C) (ok.e _ C)
  · exact se_if (ok.t _ C) (ok.e _ C) (ok.e _ C)
  · split
    · exact se_no
    · rename_i a op b p hm
      obtain ⟨r, h1, h2⟩ := cmp_ok C op
      exact se_cmp h1 h2 (ok.e _ C) (ok.e _ C) (by simpa using hm)
  · split
    · exact se_no
    · rename_i a op op' b d p hm
      obtain ⟨r, h1, h2⟩ := cmp_ok C op
      obtain ⟨r', h3, h4⟩ := cmp_ok C op'
      have hm' : lastMarks [op, op'] [b, d] = false := by simpa using hm
      exact se_chain h1 h2 h3 h4 (ok.e _ C) (ok.e _ C) (ok.e _ C) hm' (pe_chain h1 h3 (ok.e _ C) (ok.e _ C) (ok.e _ C) hm')
  · exact call_ok ok C _ _ _ _
  · rename_i o m apos x cpos
    split
    · rename_i hc
      simp only [Bool.and_eq_true, Bool.not_eq_true'] at hc
      split
      · rename_i hm
        have hm : m = "append" := by simpa using hm
        subst hm
        exact se_append (ok.e _ C) (ok.e _ C) (base_ok hc.1.1 _) hc.1.2 (star_cons [] _ hc.2)
      · split
        · rename_i hm
          have hm : m = "extend" := by simpa using hm
          subst hm
          exact se_extend (ok.e _ C) (ok.e _ C) (base_ok hc.1.1 _) hc.1.2 (star_cons [] _ hc.2)
        · split
          · rename_i hm
            have hm : m = "pop" := by simpa using hm
            subst hm
            exact se_popI (ok.e _ C) (ok.e _ C) (base_ok hc.1.1 _) hc.1.2 (star_cons [] _ hc.2)
          · exact se_no
    · exact se_no
  · rename_i o m apos cpos
    split
    · rename_i hc
      simp only [Bool.and_eq_true] at hc
      have hm : m = "pop" := by simpa using hc.2
      subst hm
      exact se_pop (ok.e _ C) (base_ok hc.1.1 _) hc.1.2
    · exact se_no
  · rename_i o f p
    split
    · rename_i hb
      split
      · rename_i cs hcs
        exact se_attr (C.gok.attr f cs hcs) (ok.e _ C) (base_ok hb _)
      · exact se_no
    · exact se_no
  · exact se_sl (ok.e _ C) (so_of ok C _) (so_of ok C _)
  · exact se_rev (ok.e _ C)
  · exact se_no
  · rename_i o i p h1 h2 h3
    exact se_ix hu (ok.e _ C) (ok.e _ C) (by
      intro o' i'
      cases i <;> first | rfl | (exfalso; first | exact h3 _ _ _ _ rfl | exact h2 _ _ _ _ rfl | exact h1 _ _ _ _ rfl))
  · split
    · rename_i hc
      simp only [Bool.and_eq_true, decide_eq_true_eq] at hc
      exact se_tup (ok.a _ C) hc.1 (fun ρ μ ds μ' h => ok.al _ hc.2 ρ μ ds μ' h)
    · exact se_tupC (ok.a _ C)
  · split
    · rename_i hc
      simp only [Bool.and_eq_true, decide_eq_true_eq] at hc
      exact box_ok (sf_lst (ok.a _ C) hc.1 (fun ρ μ ds μ' h => ok.al _ hc.2 ρ μ ds μ' h))
    · split
      · exact se_no
      · exact se_lstC (ok.a _ C)
  · split
    · rename_i keys hk
      split
      · rename_i hc
        simp only [Bool.and_eq_true, decide_eq_true_eq, Bool.not_eq_true'] at hc
        exact se_dct (keys_ok ok C hk hc.1.1.1 hc.2) (fun z => by rw [z] at hc; simp at hc) hc.1.2
      · exact se_no
    · exact se_no
  · split
    · rename_i v hv
      obtain ⟨tg, iter, ifs, own, i, g, t, te, rfl, h1, rfl⟩ := lc_ok ok C hv
      exact box_ok (sf_comp h1)
    · exact se_no
  · exact se_no
theorem stepW_ok (ok : Ok Γ N k c) (C : Cte X B EP Γ sc N k) (e : Expr) : SW X B EP e (stepW c sc e) := by
  unfold stepW
  split
  · rename_i op a p
    cases op
    · exact sw_and1 (ok.t _ C)
    · exact sw_or1 (ok.t _ C)
  · exact sw_and (ok.t _ C) (ok.w _ C)
  · exact sw_or (ok.t _ C) (ok.w _ C)
  · exact sw_no
theorem stepT_ok (ok : Ok Γ N k c) (C : Cte X B EP Γ sc N k) (e : Expr) : ST X B EP e (stepT Γ c sc e) := by
  unfold stepT
  split
  · exact st_not (ok.t _ C)
  · exact (ok.w _ C).pt
  · exact st_no
  · split
    · exact st_no
    · rename_i a op b p hm
      obtain ⟨r, h1, h2⟩ := cmp_ok C op
      exact st_cmp h1 h2 (ok.e _ C) (ok.e _ C) (by simpa using hm)
  · split
    · exact st_no
    · rename_i a op op' b d p hm
      obtain ⟨r, h1, h2⟩ := cmp_ok C op
      obtain ⟨r', h3, h4⟩ := cmp_ok C op'
      have hm' : lastMarks [op, op'] [b, d] = false := by simpa using hm
      exact st_chain h2 h4 (pt_chain h1 h3 (ok.e _ C) (ok.e _ C) (ok.e _ C) hm')
  · exact st_no
  · rename_i h1 h2 h3 h4 h5 h6
    refine st_tru (ok.e _ C) fun whole => ?_
    cases e <;> first
      | rfl
      | (exact absurd rfl (h2 _ _ _))
      | (exact absurd rfl (h3 _ _ _ _))
      | (exact absurd rfl (h6 _ _ _ _))
      | (rename_i op a p; cases op <;> first | rfl | (exact absurd rfl (h1 _ _)))
theorem stepA_ok (ok : Ok Γ N k c) (C : Cte X B EP Γ sc N k) (es : List Expr) : SA X B EP es (stepA c sc es) := by
  unfold stepA
  split
  · exact sa_nil
  · exact sa_star (ok.e _ C) (ok.a _ C)
  · split
    · exact sa_no
    · rename_i h
      exact sa_cons (ok.e _ C) (ok.a _ C) (star_cons _ _ (by simpa using h))
theorem stepA_len (ok : Ok Γ N k c) (es : List Expr) (hns : es.all (fun e => !isStar e) = true) (ρ : Ro) (μ : Mu) (ds : List D) (μ' : Mu) (h : stepA c sc es ρ μ = some (.ok ds μ')) : ds.length = es.length := by
  unfold stepA at h
  split at h
  · cases h; rfl
  · simp [isStar] at hns
  · split at h
    · cases h
    · rename_i e r _ _
      unfold aCons at h
      cases h1 : c.e sc e ρ μ with
      | none => rw [h1] at h; cases h
      | some q =>
        rw [h1] at h
        cases q with
        | er _ _ => cases h
        | ok x μ1 =>
          simp only [bd_ok] at h
          cases h2 : c.a sc r ρ μ1 with
          | none => rw [h2] at h; cases h
          | some q2 =>
            rw [h2] at h
            cases q2 with
            | er _ _ => cases h
            | ok xs μ2 =>
              cases h
              simp [ok.al r (by simp only [List.all_cons, Bool.and_eq_true] at hns; exact hns.2) ρ μ1 xs _ h2]
theorem stepI_ok (ok : Ok Γ N k c) (C : Cte X B EP Γ sc N k) (tg e : Expr) : SI X B EP tg e (stepI Γ c sc tg e) := by
  unfold stepI
  split
  · rename_i x p args pos
    split
    · rename_i hc
      simp only [Bool.and_eq_true] at hc
      obtain ⟨⟨h1, h2⟩, h3⟩ := hc
      have hg := gl_of C.esc h1
      have s1 : ∀ {a : Expr} {r : List Expr}, (a :: r).all (fun e => !isStar e) = true → isStar a = false ∧ r.all (fun e => !isStar e) = true := fun h => by
        simp only [List.all_cons, Bool.and_eq_true, Bool.not_eq_true'] at h; exact h
      split
      · rename_i a hf
        obtain ⟨rfl, hm⟩ := C.gok.rng x hf
        exact si_rng1 hg hm (ok.a _ C) (star_cons [] _ (s1 h3).1)
      · rename_i a b hf
        obtain ⟨rfl, hm⟩ := C.gok.rng x hf
        have hb := star_cons [] X.env (s1 (s1 h3).2).1
        exact si_rng2 hg hm (ok.a _ C) (by rw [star_cons [b] _ (s1 h3).1, hb]; rfl) hb
      · rename_i a b hf
        obtain ⟨rfl, hm⟩ := C.gok.zip x hf
        split
        · rename_i ht
          cases tg <;> first | (cases ht; done) | skip
          exact si_zip2 hg hm (ok.a _ C) (pi_zipK hg hm (ok.a _ C) (star_cons _ _ (s1 h3).1) (star_any (s1 h3).2))
        · exact si_no
      · rename_i a b d hf
        obtain ⟨rfl, hm⟩ := C.gok.zip x hf
        split
        · rename_i ht
          cases tg <;> first | (cases ht; done) | skip
          exact si_zip3 (pi_zip3 hg hm (ok.a _ C) (star_cons _ _ (s1 h3).1) (star_any (s1 h3).2))
        · exact si_no
      · rename_i a hf
        obtain ⟨rfl, hm⟩ := C.gok.enm x hf
        split
        · rename_i ht
          cases tg <;> first | (cases ht; done) | skip
          exact si_enum (pi_enumK hg hm (ok.a _ C) (star_cons [] _ (s1 h3).1))
        · exact si_no
      · exact si_no
      · exact si_no
      · exact si_no
      · exact si_seq (ok.e _ C)
    · exact si_seq (ok.e _ C)
  · exact si_seq (ok.e _ C)
theorem asg_map {e : Expr} (es : List Expr) (h : isStar e = false) : (assignEach (e :: es) X.env).map (·.2) = assign e X.env :: (assignEach es X.env).map (·.2) := by
  rw [asg_cons es X.env h]; rfl
theorem stepG_ok (ok : Ok Γ N k c) (C : Cte X B EP Γ sc N k) {f : Str → Bool} (hf : ∀ x, f x = true → X.fn x = true) (e : Expr) : SG X B e (stepG N c f sc e) := by
  have hu : X.A.units + 1 < cLine := by have := C.room.un; omega
  unfold stepG
  split
  · rename_i x p
    split
    · rename_i i hi hl
      exact sg_name (by rw [C.eN]; exact C.nd) (by rw [C.eN]; exact slotOf_get hi) (by rw [C.esc]; exact .inl hl) (.inr (by rw [C.esc]; exact hl))
    · rename_i i hi hl
      split
      · rename_i hx
        exact sg_name (by rw [C.eN]; exact C.nd) (by rw [C.eN]; exact slotOf_get hi) (by rw [C.esc]; exact .inr hl) (.inl (hf x hx))
      · exact sg_no
    · exact sg_no
  · split
    · rename_i es kk p hs
      obtain ⟨h1, h2⟩ := asg_none (env := X.env) hs
      exact sg_tup C.calm (ok.gs es C hf hs) h1 h2
    · exact sg_no
  · rename_i o i p
    split
    · exact sg_no
    · rename_i hno
      exact sg_sub hu (ok.e _ C) (ok.e _ C) fun v => by
        cases i <;> first | rfl | (exact (hno _ _ _ _ rfl).elim)
  · exact sg_no
theorem stepGs_ok (ok : Ok Γ N k c) (C : Cte X B EP Γ sc N k) {f : Str → Bool} (hf : ∀ x, f x = true → X.fn x = true) (es : List Expr) (hs : es.all (fun e => !isStar e) = true) : SGs X B es (stepGs c f sc es) := by
  unfold stepGs
  split
  · exact sgs_nil
  · simp only [List.all_cons, Bool.and_eq_true, Bool.not_eq_true'] at hs
    exact sgs_cons (ok.g _ C hf) (ok.gs _ C hf hs.2) (asg_map _ hs.1)
theorem stepB_ok (ok : Ok Γ N k c) (C : Cte X B EP Γ sc N k) {f : Str → Bool} {vs : List Nat} (hf : ∀ x, f x = true → X.fn x = true) (e : Expr) : SGb X B vs e (stepB N c f vs sc e) := by
  unfold stepB
  split
  · rename_i x p
    split
    · rename_i i hi hl
      split
      · rename_i hv
        exact sgb_name hv (by rw [C.eN]; exact C.nd) (by rw [C.eN]; exact slotOf_get hi) (by rw [C.esc]; exact .inl hl) (.inr (by rw [C.esc]; exact hl))
      · exact sgb_no
    · rename_i i hi hl
      split
      · rename_i hx
        simp only [Bool.and_eq_true, decide_eq_true_eq] at hx
        exact sgb_name hx.2 (by rw [C.eN]; exact C.nd) (by rw [C.eN]; exact slotOf_get hi) (by rw [C.esc]; exact .inr hl) (.inl (hf x hx.1))
      · exact sgb_no
    · exact sgb_no
  · split
    · rename_i es kk p hs
      obtain ⟨h1, h2⟩ := asg_none (env := X.env) hs
      exact sgb_tup C.calm (ok.bs es C hf hs) h1 h2
    · exact sgb_no
  · exact sgb_no
theorem stepBs_ok (ok : Ok Γ N k c) (C : Cte X B EP Γ sc N k) {f : Str → Bool} {vs : List Nat} (hf : ∀ x, f x = true → X.fn x = true) (es : List Expr) (hs : es.all (fun e => !isStar e) = true) : SGbs X B vs es (stepBs c f vs sc es) := by
  unfold stepBs
  split
  · exact sgbs_nil
  · simp only [List.all_cons, Bool.and_eq_true, Bool.not_eq_true'] at hs
    exact sgbs_cons (ok.b _ C hf) (ok.bs _ C hf hs.2) (asg_map _ hs.1)
end
end VL
end
section
set_option linter.all false
set_option maxRecDepth 100000
set_option maxHeartbeats 4000000
namespace VL
open PySem L2
section
variable {env : Env} {sc : Scope}
theorem blk_fun (he : env.scope = sc) (hk : sc.kind = .function) : env.blockKind = .function := by
  unfold Env.blockKind
  rw [he, hk]; rfl
def anyStar (vs : List Expr) : Bool := vs.any fun | .Starred .. => true | _ => false
theorem sw_eq {ts vs : List Expr} {k k2 : Nat} {p p2 : Pos} : swappedStores [.Tuple ts k p] (.Tuple vs k2 p2) env =
    (if (!(ts.length == 2 || ts.length == 3) || vs.length != ts.length || env.blockKind != .function) = true then pure none else
     if anyStar vs = true then pure none else
     if ((swNames env.scope ts).length != ts.length || (swNames env.scope ts).eraseDups.length != (swNames env.scope ts).length) = true then pure none else
     if vs.all (foldedForSure 8) = true then pure none else
     if vs.all (constantsAlone 8) = true then (do unsupported "assign.tuple-of-constant-expressions:order-of-the-stores"; return some (swNames env.scope ts)) else pure (some (swNames env.scope ts))) := by
  unfold swappedStores
  rfl
theorem noSwap_ok (he : env.scope = sc) (hk : sc.kind = .function) {ts vs : List Expr} {k k2 : Nat} {p p2 : Pos} (h : noSwap sc ts vs = true) : swappedStores [.Tuple ts k p] (.Tuple vs k2 p2) env = pure none := by
  have hb := blk_fun he hk
  subst he
  rw [sw_eq, hb]
  have h' : ((((!(ts.length == 2 || ts.length == 3) || vs.length != ts.length) || anyStar vs) || ((swNames env.scope ts).length != ts.length || (swNames env.scope ts).eraseDups.length != (swNames env.scope ts).length)) || vs.all (foldedForSure 8)) = true := h
  split
  · rfl
  · rename_i c1
    split
    · rfl
    · rename_i c2
      split
      · rfl
      · rename_i c3
        split
        · rfl
        · rename_i c4
          exfalso
          have d1 : (!(ts.length == 2 || ts.length == 3) || vs.length != ts.length) = false := by
            have : (ScopeKind.function != ScopeKind.function) = false := rfl
            rw [this, Bool.or_false] at c1
            simpa using c1
          simp only [Bool.not_eq_true] at c2 c3 c4
          rw [d1, c2, c3, c4] at h'
          cases h'
theorem doSwap_ok (he : env.scope = sc) (hk : sc.kind = .function) {ts vs : List Expr} {k k2 : Nat} {p p2 : Pos} {names : List Str} (h : doSwap sc ts vs names = true) : swappedStores [.Tuple ts k p] (.Tuple vs k2 p2) env = pure (some names) := by
  have hb := blk_fun he hk
  subst he
  rw [sw_eq, hb]
  have h' : ((ts.length == 2 || ts.length == 3) && vs.length == ts.length && !(anyStar vs) && decide (swNames env.scope ts = names) && names.length == ts.length && names.eraseDups.length == names.length && !vs.all (foldedForSure 8) && !vs.all (constantsAlone 8)) = true := h
  simp only [Bool.and_eq_true, Bool.not_eq_true', decide_eq_true_eq] at h'
  obtain ⟨⟨⟨⟨⟨⟨⟨h1, h2⟩, h3⟩, h4⟩, h5⟩, h6⟩, h7⟩, h8⟩ := h'
  rw [h4]
  have e1 : (!(ts.length == 2 || ts.length == 3) || vs.length != ts.length || (ScopeKind.function != ScopeKind.function)) = false := by
    rw [h1]; simp only [Bool.not_true, Bool.false_or]
    rw [show (vs.length != ts.length) = false by simp only [bne, h2, Bool.not_true]]
    rfl
  have e2 : (names.length != ts.length || names.eraseDups.length != names.length) = false := by
    simp only [bne, h5, h6, Bool.not_true, Bool.or_false]
  rw [e1, h3, e2, h7, h8]
  rfl
theorem swap_lc (he : env.scope = sc) (hk : sc.kind = .function) {elt : Expr} {gens : List Comprehension} {scope : Scope} {vp py : Pos} {y : Str} {line : Nat} (h : isLoc sc y = true) : swapsWith (.ListComp elt gens scope vp) (some (.Name y py)) line env = pure (swapC sc scope y py vp) := by
  have hb := blk_fun he hk
  have hl := loc_of h
  unfold swapsWith swapC
  rw [h]
  show (pure (env.blockKind == .function && env.kindOf y == some .local && py.line == vp.line && !(scope.names.any fun (n, k) => n == y && (k == .local || k == .cell))) : Sem Bool) = _
  rw [hb]
  unfold Env.kindOf
  rw [he, hl]
  rfl
def notComp : Expr → Bool
  | .ListComp .. => false | .SetComp .. => false | .DictComp .. => false
  | _ => true
theorem swap_no {v : Expr} (h : notComp v = true) (tg : Option Expr) (line : Nat) : swapsWith v tg line env = pure false := by
  cases v <;> first | rfl | cases h
theorem sole_no {v tg : Expr} (h : notComp v = true) (line : Nat) : swapsWithSole [tg] v line env = pure false := by
  show swapsWith v (some tg) line env = _
  exact swap_no h _ _
end
section
variable {X : Cx} {B : Base} {EP : Ro → Ex → Mu → Prop} {Γ : Gam} {N : List Str} {k : Nat} {c : Cp} {sc : Scope}
theorem comp_asg (ok : Ok Γ N k c) (C : CteS X B EP Γ sc N k) {elt : Expr} {gens : List Comprehension} {scope : Scope} {vp py spos : Pos} {y : Str} {v : VE} {i : Nat} (hv : lcM N c sc (.ListComp elt gens scope vp) = some v) (hi : slotOf N y = some i) (hl : isLoc sc y = true) :
    SS X B EP (.Assign [.Name y py] (.ListComp elt gens scope vp) spos) (sAsg (boxAt Γ vp v) (VL.gName i)) := by
  obtain ⟨tg, iter, ifs, own, ii, g, t, te, rfl, h1, rfl⟩ := lc_ok ok C.toCte hv
  have hN : X.N[i]? = some y := by rw [C.eN]; exact slotOf_get hi
  have hloc : X.env.scope.names.lookup y = some .local := by rw [C.esc]; exact loc_of hl
  have hsw := swap_lc (py := py) (vp := vp) (scope := scope) (elt := elt) (gens := [⟨tg, iter, ifs, 0⟩]) (line := spos.line) C.esc C.kind hl
  cases hs : swapC sc scope y py vp with
  | true =>
    rw [hs] at hsw
    refine ss_setLc h1 hN hloc hsw ?_
    unfold boxAt
    split
    · exact .inr rfl
    · exact .inl rfl
  | false =>
    rw [hs] at hsw
    refine ss_asg (box_ok (sf_comp h1)) (sg_name (by rw [C.eN]; exact C.nd) hN (.inl hloc) (.inr hloc)) ?_ rfl rfl
    unfold swapsWithSole
    exact hsw
theorem stepS_ok (ok : Ok Γ N k c) (C : CteS X B EP Γ sc N k) (s : Stmt) : SS X B EP s (stepS Γ N c sc s) := by
  have hfn : ∀ x, allF x = true → X.fn x = true := fun x _ => C.efn x
  have hnd : X.N.Nodup := by rw [C.eN]; exact C.nd
  have C' := C.toCte
  unfold stepS
  split
  · rename_i o f p' v p
    split
    · exact ss_no
    · exact ss_no
    · exact ss_no
    · rename_i h1 h2 h3
      split
      · rename_i cs hcs
        refine ss_fld (C.gok.attr f cs hcs) (ok.e _ C') (ok.e _ C') (swap_no ?_ _ _)
        cases v <;> first | rfl | (exact (h1 _ _ _ _ rfl).elim) | (exact (h2 _ _ _ _ rfl).elim) | (exact (h3 _ _ _ _ _ rfl).elim)
      · exact ss_no
  · split
    · rename_i v i hv hi
      split
      · rename_i hl
        split <;> exact comp_asg ok C hv hi hl
      · exact ss_no
    · exact ss_no
  · rename_i ts kt pt vs k2 p2 p
    split
    · rename_i hn
      exact ss_asg (ok.e _ C') (ok.g _ C' hfn) (sole_no rfl _) (noSwap_ok C.esc C.kind hn) rfl
    · split
      · rename_i x px y py a b _
        split
        · rename_i i j hi hj
          split
          · rename_i hc
            simp only [Bool.and_eq_true, decide_eq_true_eq] at hc
            exact ss_par C.calm hnd (by rw [C.eN]; exact slotOf_get hi) (by rw [C.eN]; exact slotOf_get hj) hc.1.1.2 (by rw [C.esc]; exact loc_of hc.1.2) (by rw [C.esc]; exact loc_of hc.2) (ok.a _ C') (doSwap_ok C.esc C.kind hc.1.1.1)
          · exact ss_no
        · exact ss_no
      · rename_i x px y py z pz a b d _
        split
        · rename_i i j l hi hj hl
          split
          · rename_i hc
            simp only [Bool.and_eq_true, decide_eq_true_eq] at hc
            obtain ⟨⟨⟨⟨⟨⟨h1, h2⟩, h3⟩, h4⟩, h5⟩, h6⟩, h7⟩ := hc
            exact ss_par3 C.calm hnd (by rw [C.eN]; exact slotOf_get hi) (by rw [C.eN]; exact slotOf_get hj) (by rw [C.eN]; exact slotOf_get hl) h2 h3 h4 (by rw [C.esc]; exact loc_of h5) (by rw [C.esc]; exact loc_of h6) (by rw [C.esc]; exact loc_of h7) (ok.a _ C') (doSwap_ok C.esc C.kind h1)
          · exact ss_no
        · exact ss_no
      · exact ss_no
  · rename_i tg v p _ _ _
    split
    · exact ss_no
    · exact ss_no
    · exact ss_no
    · rename_i h1 h2 h3
      have hc : notComp v = true := by
        cases v <;> first | rfl | (exact (h1 _ _ _ _ rfl).elim) | (exact (h2 _ _ _ _ rfl).elim) | (exact (h3 _ _ _ _ _ rfl).elim)
      split
      · exact ss_asg (ok.e _ C') (ok.g _ C' hfn) (sole_no hc _) rfl rfl
      · exact ss_asg (ok.e _ C') (ok.g _ C' hfn) (sole_no hc _) rfl rfl
      · split
        · exact ss_no
        · rename_i h4
          refine ss_asg (ok.e _ C') (ok.g _ C' hfn) (sole_no hc _) ?_ rfl
          cases v <;> first | rfl | (exact (h4 _ _ _ rfl).elim)
      · exact ss_no
  · exact ss_ret (ok.e _ C')
  · exact ss_retN
  · rename_i e p
    split
    · exact ss_no
    · exact ss_no
    · exact ss_no
    · rename_i h1 h2 h3
      refine ss_expr (ok.e _ C') (swap_no ?_ _ _)
      cases e <;> first | rfl | (exact (h1 _ _ _ _ rfl).elim) | (exact (h2 _ _ _ _ rfl).elim) | (exact (h3 _ _ _ _ _ rfl).elim)
  · exact ss_if (ok.t _ C') (ok.ss _ C) (ok.ss _ C)
  · rename_i tg iter body p
    split
    · exact ss_no
    · rename_i h1
      refine ss_for C.pass C.calm (ok.i _ _ C') (ok.g _ C' hfn) (ok.ss _ C) fun x => ?_
      cases iter <;> first | rfl | (exact (h1 _ _ _ rfl).elim)
  · exact ss_while C.pass (ok.t _ C') (ok.ss _ C)
  · exact ss_pass
  · exact ss_bk
  · exact ss_ct
  · exact ss_no
theorem stepSS_ok (ok : Ok Γ N k c) (C : CteS X B EP Γ sc N k) (ss : List Stmt) : SSs X B EP ss (stepSS c sc ss) := by
  unfold stepSS
  split
  · exact sss_nil
  · exact sss_one (ok.s _ C)
  · exact sss_cons (ok.s _ C) (ok.ss _ C)
end
theorem sgs_no {X : Cx} {B : Base} {es : List Expr} : SGs X B es (fun _ _ _ => none) := ⟨fun _ _ _ _ _ _ _ _ _ ⟨_, _, _, _, _, _, _, _, h, _⟩ => nomatch h⟩
theorem sgbs_no {X : Cx} {B : Base} {vs : List Nat} {es : List Expr} : SGbs X B vs es (fun _ _ _ => none) := ⟨fun _ _ _ _ _ _ _ _ _ ⟨_, _, _, _, _, _, _, _, h, _⟩ => nomatch h⟩
theorem sss_no {X : Cx} {B : Base} {EP : Ro → Ex → Mu → Prop} {ss : List Stmt} : SSs X B EP ss sNo := ⟨fun _ _ _ _ _ _ ⟨_, _, _, _, h⟩ => h.elim⟩
/-- THE COMPILER IS SOUND -/
theorem cp_ok (Γ : Gam) (N : List Str) (k : Nat) : ∀ n, Ok Γ N k (cp Γ N n)
  | 0 => ⟨fun _ _ => se_no, fun _ _ => st_no, fun _ _ => sw_no, fun _ _ => sa_no, fun _ _ _ _ _ _ h => (by cases h), fun _ _ _ => si_no, fun _ _ _ => sg_no, fun _ _ _ _ => sgs_no, fun _ _ _ => sgb_no, fun _ _ _ _ => sgbs_no, fun _ _ => ss_no, fun _ _ => sss_no⟩
  | n + 1 => by
    have ok := cp_ok Γ N k n
    exact ⟨fun e C => stepE_ok ok C e, fun e C => stepT_ok ok C e, fun e C => stepW_ok ok C e, fun es C => stepA_ok ok C es, fun es => stepA_len ok es, fun tg e C => stepI_ok ok C tg e, fun e C hf => stepG_ok ok C hf e, fun es C hf hs => stepGs_ok ok C hf es hs, fun e C hf => stepB_ok ok C hf e, fun es C hf hs => stepBs_ok ok C hf es hs,
      fun s C => stepS_ok ok C s, fun ss C => stepSS_ok ok C ss⟩
/-- a def by its text -/
theorem fn_ok {P : Program} {w : World} {K : PySem.W.Frag} {mg : Str → Option Value} {base : Heap} {x qual : Str} {st : Stmt} {f : Addr} {fd : FuncData} {N ps : List Str} {k n : Nat} {Γ : Gam} (F : Fun K x qual st f fd) (S : FnScope N ps (defScope st)) (g : GOk ⟨P, w, K, mg, base⟩ Γ k) (m : Nat) :
    FnOk P w K mg base (L2.CX P w) (k + 1) f fd ps (LSp K mg ps.length (runDef N.length ((cp Γ N m).ss (defScope st) (defBody st)))) :=
  def_ok F S fun X B EP e1 e2 e3 e4 e5 C => (cp_ok Γ N k m).ss _ ⟨⟨by subst e1 e2 e3 e4 e5; exact g, C.esc, C.eN, C.nd, C.calm, C.room, C.tk⟩, C.pass, S.kind, fun x => by rw [C.fn]⟩
theorem fn_okB {P : Program} {w : World} {K : PySem.W.Frag} {mg : Str → Option Value} {base : Heap} {x qual : Str} {st : Stmt} {f : Addr} {fd : FuncData} {N ps : List Str} {k n : Nat} {Γ : Gam} (F : Fun K x qual st f fd) (S : FnScope N ps (defScope st)) (g : GOk ⟨P, w, K, mg, base⟩ Γ k) (m : Nat) :
    FnOk P w K mg base (L2.CX P w) (k + 1) f fd ps (LSp K mg ps.length (runDefB N.length ((cp Γ N m).ss (defScope st) (defBody st)))) :=
  def_okB F S fun X B EP e1 e2 e3 e4 e5 C => (cp_ok Γ N k m).ss _ ⟨⟨by subst e1 e2 e3 e4 e5; exact g, C.esc, C.eN, C.nd, C.calm, C.room, C.tk⟩, C.pass, S.kind, fun x => by rw [C.fn]⟩
end VL
end
section
set_option linter.all false
set_option maxRecDepth 100000
set_option maxHeartbeats 4000000
namespace VL
open PySem L2

def FunX (K : PySem.W.Frag) (mg : Str → Option Value) (x : Str) (st : Stmt) : Prop := ∃ f fd, mg x = some (.ref f) ∧ Fun K x x st f fd
theorem funX {K : PySem.W.Frag} {h : Heap} {mg : Str → Option Value} {x : Str} {st : Stmt} {f : Addr} {oc : Value} {od an : Option Addr} {osl : Array (Option Value)} {kV doc pm cdv ct : Value} (X : K.In h) (G : h.Ns mainGlobals mg)
    (a : PySem.W.nsIn K mainGlobals x = some (some (.ref f))) (l : K.lookup f = some ⟨oc, od, .func (PySem.W.fnOf x x (defArgs st) (defBody st) (defScope st) .none kV doc pm an cdv ct), osl⟩) (c : PySem.W.codeIn K cdv x = true) (k : PySem.W.keepIn K (.ref f) = true) : FunX K mg x st :=
  ⟨f, _, PySem.W.mg_of X G a, fun_mk l c k⟩
/-- a method m of the class c -/
def MethX (K : PySem.W.Frag) (mg : Str → Option Value) (c m qual : Str) (st : Stmt) : Prop := ∃ C f fd, mg c = some (.ref C) ∧ PySem.W.findIn K (.ref C) m = some (some (.ref f)) ∧ PySem.W.isFn K (.ref f) = true ∧ Fun K m qual st f fd
theorem methX {K : PySem.W.Frag} {h : Heap} {mg : Str → Option Value} {c m qual : Str} {st : Stmt} {C f : Addr} {oc : Value} {od an : Option Addr} {osl : Array (Option Value)} {kV doc pm cdv ct : Value} (X : K.In h) (G : h.Ns mainGlobals mg)
    (a : PySem.W.nsIn K mainGlobals c = some (some (.ref C))) (i : PySem.W.findIn K (.ref C) m = some (some (.ref f))) (t : PySem.W.typeIn K (.ref f) = some (.type "function")) (l : K.lookup f = some ⟨oc, od, .func (PySem.W.fnOf m qual (defArgs st) (defBody st) (defScope st) .none kV doc pm an cdv ct), osl⟩) (cc : PySem.W.codeIn K cdv qual = true) (k : PySem.W.keepIn K (.ref f) = true) : MethX K mg c m qual st :=
  ⟨C, f, _, PySem.W.mg_of X G a, i, by unfold PySem.W.isFn; rw [t]; rfl, fun_mk l cc k⟩
/-- a class that is made -/
def ClsX (K : PySem.W.Frag) (mg : Str → Option Value) (c : Str) : Prop := ∃ C, mg c = some (.ref C) ∧ PySem.W.makesIn K C = true ∧ PySem.W.keepIn K (.ref C) = true ∧ ClsI K C
theorem clsX {K : PySem.W.Frag} {h : Heap} {mg : Str → Option Value} {c : Str} {C : Addr} (X : K.In h) (G : h.Ns mainGlobals mg) (a : PySem.W.nsIn K mainGlobals c = some (some (.ref C))) (mk : PySem.W.makesIn K C = true) (kp : PySem.W.keepIn K (.ref C) = true)
    (pg : PySem.W.plainGet K C Str.empty = true) (hd : PySem.W.hasDictIn K C = true) (po : PySem.W.plainOver K C = true) (sa : PySem.W.findIn K (.ref C) "__setattr__" = some (some (.builtin "object.__setattr__")))
    (ha : PySem.W.findIn K (.ref C) "__class__" = some (some (.builtin "object.__class__"))) (hn : PySem.W.specialIn K (.builtin "object.__class__") "__get__" = some (some (.builtin "getset_descriptor.__get__"))) (htk : PySem.W.takesIn K (.builtin "object.__class__") = some true) (hm : PySem.W.mroIn K C (.type "object") = some true) : ClsX K mg c :=
  ⟨C, PySem.W.mg_of X G a, mk, kp, ⟨pg, hd, po, sa⟩, ha, hn, htk, hm⟩
/-- an attribute that no class has -/
def NoX (K : PySem.W.Frag) (mg : Str → Option Value) (c f : Str) : Prop := ∃ C, mg c = some (.ref C) ∧ NoAttr K C f
theorem noX {K : PySem.W.Frag} {h : Heap} {mg : Str → Option Value} {c f : Str} {C : Addr} (X : K.In h) (G : h.Ns mainGlobals mg) (a : PySem.W.nsIn K mainGlobals c = some (some (.ref C))) (n : PySem.W.findIn K (.ref C) f = some none) : NoX K mg c f := ⟨C, PySem.W.mg_of X G a, n⟩
theorem attrOk_nil {K : PySem.W.Frag} {mg : Str → Option Value} {f : Str} : AttrOk K mg [] f := fun _ h => by cases h
theorem attrOk_cons {K : PySem.W.Frag} {mg : Str → Option Value} {c f : Str} {cs : List Str} (h : ClsX K mg c) (n : NoX K mg c f) (r : AttrOk K mg cs f) : AttrOk K mg (c :: cs) f := fun x hx C hm => by
  rcases List.mem_cons.mp hx with rfl | hx
  · obtain ⟨C1, e1, _, _, k⟩ := h
    obtain ⟨C2, e2, k2⟩ := n
    rw [hm] at e1 e2; cases e1; cases e2
    exact ⟨k.cls, k2⟩
  · exact r x hx C hm

def FnX (Y : Wd) (k n : Nat) (x : Str) (f : VF) : Prop := ∃ a fd ps, Y.mg x = some (.ref a) ∧ PySem.W.keepIn Y.K (.ref a) = true ∧ Binds Y.K fd ps [] ∧ FnOk Y.P Y.w Y.K Y.mg Y.base (L2.CX Y.P Y.w) k a fd ps (LSp Y.K Y.mg n f)
theorem FnX.mono {Y : Wd} {j k n : Nat} {x : Str} {f : VF} (h : FnX Y j n x f) (hk : j ≤ k) : FnX Y k n x f := let ⟨a, fd, ps, h1, h2, h3, h4⟩ := h; ⟨a, fd, ps, h1, h2, h3, h4.mono hk⟩
/-- a method by values -/
def MeX (Y : Wd) (k n : Nat) (c m : Str) (f : VF) : Prop := ∃ C a fd ps, Y.mg c = some (.ref C) ∧ PySem.W.findIn Y.K (.ref C) m = some (some (.ref a)) ∧ PySem.W.isFn Y.K (.ref a) = true ∧ Binds Y.K fd ps [] ∧ FnOk Y.P Y.w Y.K Y.mg Y.base (L2.CX Y.P Y.w) k a fd ps (LSp Y.K Y.mg n f)
theorem MeX.mono {Y : Wd} {j k n : Nat} {c m : Str} {f : VF} (h : MeX Y j n c m f) (hk : j ≤ k) : MeX Y k n c m f := let ⟨C, a, fd, ps, h0, h1, h2, h3, h4⟩ := h; ⟨C, a, fd, ps, h0, h1, h2, h3, h4.mono hk⟩
/-- a class's making -/
def MkX (Y : Wd) (k n : Nat) (c : Str) (g : VF) : Prop := ∃ C a fd ps j, Y.mg c = some (.ref C) ∧ Mk Y.K C a ∧ Binds Y.K fd ps [] ∧ j + 1 ≤ k ∧ FnOk Y.P Y.w Y.K Y.mg Y.base (L2.CX Y.P Y.w) j a fd ps (LSp Y.K Y.mg (n + 1) g)
theorem mkX {Y : Wd} {j k n : Nat} {c : Str} {g : VF} (h : ClsX Y.K Y.mg c) (m : MeX Y j (n + 1) c "__init__" g) (hk : j + 1 ≤ k) : MkX Y k n c g := by
  obtain ⟨C, e, mk, kp, _⟩ := h
  obtain ⟨C', a, fd, ps, e', h1, h2, h3, h4⟩ := m
  rw [e] at e'; cases e'
  exact ⟨C, a, fd, ps, j, e, ⟨mk, h1, h2, kp⟩, h3, hk, h4⟩
def CeOk (Y : Wd) (k : Nat) (x : Str) : Ce → Prop
  | .fn n f => FnX Y k n x f
  | .mk n g => MkX Y k n x g
  | .mkL n g => MkX Y k n x g
  | .blt f => BltOk Y x f
  | .lst => x = "list" ∧ Y.mg "list" = none
  | .isi => x = "isinstance" ∧ Y.mg "isinstance" = none
  | .rng => x = "range" ∧ Y.mg "range" = none
  | .zip => x = "zip" ∧ Y.mg "zip" = none
  | .enm => x = "enumerate" ∧ Y.mg "enumerate" = none
def TyOk (Y : Wd) (x : Str) (t : Ty) : Prop := (∃ n, t = .b n ∧ Y.mg x = none ∧ bootBuiltins x = some (.type n)) ∨ (t = .c x ∧ ∃ C, Y.mg x = some (.ref C))
theorem tyOk_b {Y : Wd} {x : Str} {n : String} (h : Y.mg x = none) (hb : bootBuiltins x = some (.type n)) : TyOk Y x (.b n) := .inl ⟨n, rfl, h, hb⟩
theorem tyOk_c {Y : Wd} {x : Str} (h : ClsX Y.K Y.mg x) : TyOk Y x (.c x) := .inr ⟨rfl, let ⟨C, e, _⟩ := h; ⟨C, e⟩⟩
/-- every entry -/
def AllE {α : Type} (p : Str → α → Prop) : List (Str × α) → Prop
  | [] => True
  | (x, a) :: r => p x a ∧ AllE p r
theorem AllE.at {α : Type} {p : Str → α → Prop} : ∀ {l : List (Str × α)}, AllE p l → ∀ {x : Str} {a : α}, l.lookup x = some a → p x a
  | [], _, _, _, h => by cases h
  | (y, b) :: r, h, x, a, e => by
    simp only [List.lookup] at e
    split at e
    · rename_i hxy
      cases e
      have : x = y := by simpa using hxy
      subst this
      exact h.1
    · exact AllE.at h.2 e
/-- isinstance and == of the law's classes -/
structure KOk (Y : Wd) (k : Nat) (Γ : Gam) : Prop where
  kit : KitOk Y.K Y.mg Γ.kit
  eqs : ∀ X, wdOf X = Y → Room k X.A → OwnOk X .Eq Γ.eqs Γ.nf
  nes : ∀ X, wdOf X = Y → Room k X.A → OwnOk X .NotEq Γ.nes Γ.nf
theorem gok {Y : Wd} {k : Nat} {Γ : Gam} (c : AllE (CeOk Y k) Γ.call) (v : AllE (ValOk Y.K Y.mg) Γ.val) (t : AllE (TyOk Y) Γ.ty) (a : AllE (fun f cs => AttrOk Y.K Y.mg cs f) Γ.attr) (q : KOk Y k Γ) : GOk Y Γ k where
  fn := fun x n f h => c.at h
  made := fun x n g h => by
    rcases h with h | h
    · exact c.at h
    · exact c.at h
  blt := fun x f h => c.at h
  lst := fun x h => c.at h
  isi := fun x h => c.at h
  rng := fun x h => c.at h
  zip := fun x h => c.at h
  enm := fun x h => c.at h
  val := fun x d h => v.at h
  ty := fun x t' h => t.at h
  attr := fun f cs h => a.at h
  kit := q.kit
  eqs := q.eqs
  nes := q.nes
theorem own_nil {X : Cx} {op : CmpOp} : OwnOk X op [] (fun _ _ => false) := ⟨fun c g h => (by cases h), fun c t h => (by cases h), fun c x h => (by cases h)⟩

def BindC (st : Stmt) (x qual : Str) (ps : List Str) : Prop := ∀ (kV doc pm : Value) (an : Option Addr) (cdv ct : Value) (us : List Value), us.length = ps.length → bindArgs (PySem.W.fnOf x qual (defArgs st) (defBody st) (defScope st) .none kV doc pm an cdv ct) ⟨us, []⟩ = pure (ps.zip us)
theorem fnX {Y : Wd} {x : Str} {st : Stmt} {N ps : List Str} {k : Nat} {Γ : Gam} {g : VF} (F : FunX Y.K Y.mg x st) (S : FnScope N ps (defScope st)) (b : BindC st x x ps) (G : GOk Y Γ k) (m : Nat) (hg : runDef N.length ((cp Γ N m).ss (defScope st) (defBody st)) = g) : FnX Y (k + 1) ps.length x g := by
  obtain ⟨f, fd, e, F⟩ := F
  subst hg
  exact ⟨f, fd, ps, e, F.kp, F.binds b, fn_ok (n := 0) F S G m⟩
theorem fnXB {Y : Wd} {x : Str} {st : Stmt} {N ps : List Str} {k : Nat} {Γ : Gam} {g : VF} (F : FunX Y.K Y.mg x st) (S : FnScope N ps (defScope st)) (b : BindC st x x ps) (G : GOk Y Γ k) (m : Nat) (hg : runDefB N.length ((cp Γ N m).ss (defScope st) (defBody st)) = g) : FnX Y (k + 1) ps.length x g := by
  obtain ⟨f, fd, e, F⟩ := F
  subst hg
  exact ⟨f, fd, ps, e, F.kp, F.binds b, fn_okB (n := 0) F S G m⟩
theorem meX {Y : Wd} {c mm qual : Str} {st : Stmt} {N ps : List Str} {k : Nat} {Γ : Gam} {g : VF} (F : MethX Y.K Y.mg c mm qual st) (S : FnScope N ps (defScope st)) (b : BindC st mm qual ps) (G : GOk Y Γ k) (m : Nat) (hg : runDef N.length ((cp Γ N m).ss (defScope st) (defBody st)) = g) : MeX Y (k + 1) ps.length c mm g := by
  obtain ⟨C, f, fd, e, h1, h2, F⟩ := F
  subst hg
  exact ⟨C, f, fd, ps, e, h1, h2, F.binds b, fn_ok (n := 0) F S G m⟩
theorem fnX0 {Y : Wd} {x : Str} {st : Stmt} {ps : List Str} {k : Nat} (F : FunX Y.K Y.mg x st) (b : BindC st x x ps) : FnX Y k ps.length x (fun _ _ => none) := by
  obtain ⟨f, fd, e, F⟩ := F
  exact ⟨f, fd, ps, e, F.kp, F.binds b, fun vs H Q E h => h.1, fun A outer s H args us vs Q E hr he hb hv ⟨_, _, _, _, _, _, h⟩ => h.elim⟩

section
variable {Y : Wd}
theorem blt_fun {x : Str} {id : String} {f : List D → Mu → Option (D × Mu)} {r : Cx → List V → Hp → VK → Prop} (hc : ∀ X, X.calm = true → CallR X (.builtin id) (r X)) (hv : ∀ X, CaV X.K X.mg f (r X)) (hm : Y.mg x = none) (hb : bootBuiltins x = some (.builtin id)) (hn : x ≠ "__name__") (hd : (x == ("__debug__" : Str)) = false) : BltOk Y x f :=
  fun X e hcm B EP a es tr p pos hg ha hs hp => by subst e; exact se_blt (hc X hcm) (hv X) hg hm hb ha hn hd hs hp
theorem blt_ty {x : Str} {T : String} {f : List D → Mu → Option (D × Mu)} {r : Cx → List V → Hp → VK → Prop} (hc : ∀ X, X.calm = true → CallR X (.type T) (r X)) (hv : ∀ X, CaV X.K X.mg f (r X)) (hm : Y.mg x = none) (hb : bootBuiltins x = some (.type T)) (hn : x ≠ "__name__") (hd : (x == ("__debug__" : Str)) = false) : BltOk Y x f :=
  fun X e hcm B EP a es tr p pos hg ha hs hp => by subst e; exact se_bty (hc X hcm) (hv X) hg hm hb ha hn hd hs hp
theorem blt_len (h : Y.mg "len" = none) : BltOk Y "len" bLen := blt_fun (fun X _ => call_len) (fun X => bLen_V) h rfl (by decide) (by decide)
theorem blt_abs (h : Y.mg "abs" = none) : BltOk Y "abs" bAbs := blt_fun (r := fun X => _) (fun X _ => call_abs) (fun X => bAbs_V) h rfl (by decide) (by decide)
theorem blt_max (h : Y.mg "max" = none) : BltOk Y "max" bMax := blt_fun (fun X c => cr_max2 c) (fun X => bMax_V) h rfl (by decide) (by decide)
theorem blt_min (h : Y.mg "min" = none) : BltOk Y "min" bMin := blt_fun (fun X c => cr_min2 c) (fun X => bMin_V) h rfl (by decide) (by decide)
theorem blt_sum (h : Y.mg "sum" = none) : BltOk Y "sum" bSum := blt_fun (fun X c => cr_sum2 c) (fun X => bSum_V) h rfl (by decide) (by decide)
theorem blt_all (h : Y.mg "all" = none) : BltOk Y "all" bAll := blt_fun (fun X c => cr_all c) (fun X => bAll_V) h rfl (by decide) (by decide)
theorem blt_any (h : Y.mg "any" = none) : BltOk Y "any" bAny := blt_fun (fun X c => cr_any c) (fun X => bAny_V) h rfl (by decide) (by decide)
theorem blt_int (h : Y.mg "int" = none) : BltOk Y "int" bInt := blt_ty (r := fun X => _) (fun X _ => call_int1) (fun X => bInt_V) h rfl (by decide) (by decide)
theorem blt_tuple (h : Y.mg "tuple" = none) : BltOk Y "tuple" bTuple := blt_ty (fun X _ => call_tuple_of) (fun X => bTuple_V) h rfl (by decide) (by decide)
end

def known : List String := ["NoneType", "bool", "int", "str", "tuple", "list", "dict"]
def kitBB (a b : String) : Option Bool := if a ∈ known ∧ b ∈ known then some (a == b || (a == "bool" && b == "int")) else none
/-- isinstance of the values of the law: cls its classes -/
def kitL (cls : List Str) : Ty → Ty → Option Bool
  | .b a, .b b => kitBB a b
  | .b a, .c x => if a ∈ known ∧ x ∈ cls then some false else none
  | .c x, .b b => if x ∈ cls ∧ b ∈ known then some false else none
  | .c x, .c y => if x ∈ cls ∧ y ∈ cls then some (decide (x = y)) else none
def nfL (cls : List Str) : Str → Ty → Bool
  | c, .b n => decide (c ∈ cls) && decide (n ∈ known)
  | c, .c x => decide (c ∈ cls) && decide (x ∈ cls)
/-- two classes apart -/
def ApX (K : PySem.W.Frag) (mg : Str → Option Value) (x y : Str) : Prop := ∃ C D, mg x = some (.ref C) ∧ mg y = some (.ref D) ∧ C ≠ D ∧ PySem.W.kitOne K (.ref C) (.ref D) = some false ∧ PySem.W.subIn K (.ref C) (.ref D) = some false
/-- a class and the built-in kinds -/
def KnX (K : PySem.W.Frag) (mg : Str → Option Value) (x : Str) : Prop := ∃ C, mg x = some (.ref C) ∧ ∀ a ∈ known, PySem.W.kitOne K (.type a) (.ref C) = some false ∧ PySem.W.kitOne K (.ref C) (.type a) = some false ∧ PySem.W.subIn K (.type a) (.ref C) = some false
theorem known_bb : ∀ a ∈ known, ∀ b ∈ known, kitB a b = some (a == b || (a == "bool" && b == "int")) := by decide +kernel
theorem kitL_ok {K : PySem.W.Frag} {mg : Str → Option Value} {cls : List Str} (hc : ∀ x ∈ cls, ClsX K mg x ∧ KnX K mg x) (ha : ∀ x ∈ cls, ∀ y ∈ cls, x ≠ y → ApX K mg x y) : KitOk K mg (kitL cls) where
  one := fun t u b h tv uv ht hu => by
    cases t with
    | b a =>
      cases (show tv = .type a from ht)
      cases u with
      | b b' =>
        cases (show uv = .type b' from hu)
        simp only [kitL, kitBB] at h
        split at h
        · rename_i hk
          cases h
          exact kit_ty (known_bb a hk.1 b' hk.2)
        · cases h
      | c x =>
        simp only [kitL] at h
        split at h
        · rename_i hk
          cases h
          obtain ⟨C, e, q⟩ := (hc x hk.2).2
          obtain ⟨hm, C', rfl⟩ := hu
          rw [hm] at e; cases e
          exact (q a hk.1).1
        · cases h
    | c x =>
      obtain ⟨hm, C', rfl⟩ := ht
      cases u with
      | b b' =>
        cases (show uv = .type b' from hu)
        simp only [kitL] at h
        split at h
        · rename_i hk
          cases h
          obtain ⟨C, e, q⟩ := (hc x hk.1).2
          rw [hm] at e; cases e
          exact (q b' hk.2).2.1
        · cases h
      | c y =>
        obtain ⟨hm2, D', rfl⟩ := hu
        simp only [kitL] at h
        split at h
        · rename_i hk
          cases h
          by_cases hxy : x = y
          · subst hxy
            rw [hm] at hm2; cases hm2
            unfold PySem.W.kitOne
            rw [if_pos (beq_self_eq_true _)]
            simp
          · obtain ⟨C, D, e1, e2, _, q, _⟩ := ha x hk.1 y hk.2 hxy
            rw [hm] at e1; rw [hm2] at e2; cases e1; cases e2
            rw [q]; simp [hxy]
        · cases h
  cls := fun x u b C h hm => by
    have hx : x ∈ cls := by
      cases u with
      | b b' => simp only [kitL] at h; split at h; · rename_i hk; exact hk.1
                · cases h
      | c y => simp only [kitL] at h; split at h; · rename_i hk; exact hk.1
               · cases h
    obtain ⟨C', e, _, _, k⟩ := (hc x hx).1
    rw [hm] at e; cases e
    exact k
/-- the law's == -/
theorem own_tab {Y : Wd} {k : Nat} {cls : List Str} {op : CmpOp} {tab : List (Str × VF)} (hc : ∀ x ∈ cls, ClsX Y.K Y.mg x ∧ KnX Y.K Y.mg x) (ha : ∀ x ∈ cls, ∀ y ∈ cls, x ≠ y → ApX Y.K Y.mg x y) (ht : AllE (fun c g => MeX Y k 2 c (cmpInfo op).2.1 g) tab) : ∀ X, wdOf X = Y → Room k X.A → OwnOk X op tab (nfL cls) := fun X e hr => by
  subst e
  refine ⟨fun c g hg C hm => ?_, fun c t hn C tv hm hv => ?_, fun c x hn C hm => ?_⟩
  · obtain ⟨C', a, fd, ps, e, h1, h2, h3, h4⟩ := ht.at hg
    rw [show (wdOf X).mg c = X.mg c from rfl, hm] at e; cases e
    exact ⟨a, k, fd, ps, h1, h2, h4, hr, h3⟩
  · cases t with
    | b n =>
      cases (show tv = .type n from hv)
      simp only [nfL, Bool.and_eq_true, decide_eq_true_eq] at hn
      obtain ⟨C', e, q⟩ := (hc c hn.1).2
      rw [show (wdOf X).mg c = X.mg c from rfl, hm] at e; cases e
      have := (q n hn.2).2.2
      unfold PySem.W.notFirst
      rw [show PySem.W.subIn X.K (.type n) (.ref C) = some false from this]
      simp
    | c x =>
      obtain ⟨hm2, D, rfl⟩ := hv
      simp only [nfL, Bool.and_eq_true, decide_eq_true_eq] at hn
      unfold PySem.W.notFirst
      by_cases hx : x = c
      · subst hx
        rw [hm] at hm2; cases hm2
        simp
      · obtain ⟨C1, D1, e1, e2, _, _, q⟩ := ha x hn.2 c hn.1 hx
        rw [show (wdOf X).mg x = X.mg x from rfl, hm2] at e1
        rw [show (wdOf X).mg c = X.mg c from rfl, hm] at e2
        cases e1; cases e2
        rw [show PySem.W.subIn X.K (.ref D) (.ref C) = some false from q]
        simp
  · simp only [nfL, Bool.and_eq_true, decide_eq_true_eq] at hn
    obtain ⟨C', e, _, _, k⟩ := (hc x hn.2).1
    rw [show (wdOf X).mg x = X.mg x from rfl, hm] at e; cases e
    exact k
def spLaw (K : PySem.W.Frag) : Sp := fun vs H Q _ => ∃ (a : Addr) (ns : List Int), vs = [.ref a] ∧ SqL K H a (ns.map V.int) ∧ Only H ∧ ns.length ≤ 63 ∧ Q = (fun (v : V) (_ : Hp) => v = V.bl true)
/-- what is to be shown of a law's meaning -/
def LawHolds (f : VF) : Prop := ∀ ns : List Int, ns.length ≤ 63 → ∃ μ, f [.scr (ns.map D.int)] [] = some (.ok (.bl true) μ)
theorem law_sp {K : PySem.W.Frag} {mg : Str → Option Value} {f : VF} (h : LawHolds f) : ∀ vs H Q E, spLaw K vs H Q E → LSp K mg 1 f vs H Q E := fun vs H Q E ⟨a, ns, e, hs, ho, hl, hq⟩ => by
  subst e hq
  obtain ⟨μ, hf⟩ := h ns hl
  have hn : ∀ H' : Hp, ∀ R : Rg, ∀ ns : List Int, DVs K mg H' R (ns.map V.int) (ns.map D.int) := fun H' R ns => by
    induction ns with
    | nil => exact .nil
    | cons n ns ih => exact .cons (.int n) ih
  refine ⟨rfl, [.scr (ns.map D.int)], [], ⟨[], []⟩, ⟨List.nodup_nil, rfl, fun n a o h => (by simp at h), fun a h => (by cases h)⟩, .cons (.scr ?_ (by rw [List.length_map, sizeLine_eq]; omega) (hn _ _ _)) .nil, ?_⟩
  · rcases hs with (hs | ⟨o, hs⟩) | hs
    · rcases ho a with z | ⟨o, xs, z⟩
      · rw [hs] at z; cases z
      · rw [hs] at z; cases z
    · exact .inl ⟨fun z => (by rcases z with z | z <;> cases z), o, hs⟩
    · exact .inr hs
  · rw [hf]
    intro v H' R' _ _ d'
    cases d'
    rfl
end VL
end
section
set_option linter.all false
set_option maxRecDepth 100000
set_option maxHeartbeats 4000000
namespace VL
open PySem L2
theorem kit_cl {K : PySem.W.Frag} {t : Value} {C : Addr} (ic : PySem.W.isClsIn K C = true) (ty : PySem.W.typeIn K (.ref C) = some (.type "type")) (s : PySem.W.subIn K t (.ref C) = some false) (h : (t == Value.ref C) = false) : PySem.W.kitOne K t (.ref C) = some false := by
  unfold PySem.W.kitOne PySem.W.kitCls
  rw [h]
  have : ((PySem.W.clsIn K C).isSome && PySem.W.typeIn K (.ref C) == some (.type "type")) = true := by
    rw [ty]
    unfold PySem.W.isClsIn at ic
    rw [ic]; rfl
  simp only [this, Bool.false_eq_true, if_false, if_true]
  exact s
theorem kit_ct {K : PySem.W.Frag} {C : Addr} {T : String} (m : PySem.W.kitMeta T = true) (s : PySem.W.subIn K (.ref C) (.type T) = some false) : PySem.W.kitOne K (.ref C) (.type T) = some false := by
  unfold PySem.W.kitOne PySem.W.kitCls
  rw [show (Value.ref C == Value.type T) = false by simp]
  simp only [Bool.false_eq_true, if_false, m, if_true]
  exact s
theorem known_meta : ∀ a ∈ known, PySem.W.kitMeta a = true := by decide +kernel
theorem knX {K : PySem.W.Frag} {h : Heap} {mg : Str → Option Value} {c : Str} {C : Addr} (X : K.In h) (G : h.Ns mainGlobals mg) (a : PySem.W.nsIn K mainGlobals c = some (some (.ref C))) (ic : PySem.W.isClsIn K C = true) (ty : PySem.W.typeIn K (.ref C) = some (.type "type"))
    (s1 : PySem.W.subIn K (.type "NoneType") (.ref C) = some false) (s2 : PySem.W.subIn K (.type "bool") (.ref C) = some false) (s3 : PySem.W.subIn K (.type "int") (.ref C) = some false) (s4 : PySem.W.subIn K (.type "str") (.ref C) = some false) (s5 : PySem.W.subIn K (.type "tuple") (.ref C) = some false) (s6 : PySem.W.subIn K (.type "list") (.ref C) = some false) (s7 : PySem.W.subIn K (.type "dict") (.ref C) = some false)
    (t1 : PySem.W.subIn K (.ref C) (.type "NoneType") = some false) (t2 : PySem.W.subIn K (.ref C) (.type "bool") = some false) (t3 : PySem.W.subIn K (.ref C) (.type "int") = some false) (t4 : PySem.W.subIn K (.ref C) (.type "str") = some false) (t5 : PySem.W.subIn K (.ref C) (.type "tuple") = some false) (t6 : PySem.W.subIn K (.ref C) (.type "list") = some false) (t7 : PySem.W.subIn K (.ref C) (.type "dict") = some false) : KnX K mg c := by
  refine ⟨C, PySem.W.mg_of X G a, fun b hb => ?_⟩
  have hs : PySem.W.subIn K (.type b) (.ref C) = some false := by
    simp only [known, List.mem_cons, List.not_mem_nil, or_false] at hb
    rcases hb with rfl | rfl | rfl | rfl | rfl | rfl | rfl <;> assumption
  have ht : PySem.W.subIn K (.ref C) (.type b) = some false := by
    simp only [known, List.mem_cons, List.not_mem_nil, or_false] at hb
    rcases hb with rfl | rfl | rfl | rfl | rfl | rfl | rfl <;> assumption
  exact ⟨kit_cl ic ty hs (by simp), kit_ct (known_meta b hb) ht, hs⟩
theorem apX {K : PySem.W.Frag} {h : Heap} {mg : Str → Option Value} {c d : Str} {C D : Addr} (X : K.In h) (G : h.Ns mainGlobals mg) (a : PySem.W.nsIn K mainGlobals c = some (some (.ref C))) (b : PySem.W.nsIn K mainGlobals d = some (some (.ref D))) (ic : PySem.W.isClsIn K D = true) (ty : PySem.W.typeIn K (.ref D) = some (.type "type"))
    (s : PySem.W.subIn K (.ref C) (.ref D) = some false) (n : (C == D) = false) : ApX K mg c d :=
  ⟨C, D, PySem.W.mg_of X G a, PySem.W.mg_of X G b, by simpa using n, kit_cl ic ty s (by simpa using n), s⟩
theorem valOk_int {K : PySem.W.Frag} {mg : Str → Option Value} {x : Str} {i : Int} {t : Tok} (h : mg x = some (.int i t)) : ValOk K mg x (.int i) := ⟨.int i, _, h, ⟨t, rfl⟩, fun _ _ => .int i⟩
theorem valOk_str {K : PySem.W.Frag} {mg : Str → Option Value} {x : Str} {i : Str} {t : Tok} (h : mg x = some (.str i t)) : ValOk K mg x (.str i) := ⟨.str i, _, h, ⟨t, rfl⟩, fun _ _ => .str i⟩
abbrev FunXo {K : PySem.W.Frag} {h : Heap} (_ : K.In h) (mg : Str → Option Value) (x : Str) (st : Stmt) : Prop := FunX K mg x st
abbrev MethXo {K : PySem.W.Frag} {h : Heap} (_ : K.In h) (mg : Str → Option Value) (c m qual : Str) (st : Stmt) : Prop := MethX K mg c m qual st
abbrev ClsXo {K : PySem.W.Frag} {h : Heap} (_ : K.In h) (mg : Str → Option Value) (c : Str) : Prop := ClsX K mg c
abbrev KnXo {K : PySem.W.Frag} {h : Heap} (_ : K.In h) (mg : Str → Option Value) (c : Str) : Prop := KnX K mg c
abbrev ApXo {K : PySem.W.Frag} {h : Heap} (_ : K.In h) (mg : Str → Option Value) (c d : Str) : Prop := ApX K mg c d
abbrev NoXo {K : PySem.W.Frag} {h : Heap} (_ : K.In h) (mg : Str → Option Value) (c f : Str) : Prop := NoX K mg c f
abbrev ValXo {K : PySem.W.Frag} {h : Heap} (_ : K.In h) (mg : Str → Option Value) (x : Str) (d : D) : Prop := ValOk K mg x d
theorem valX_int {K : PySem.W.Frag} {h : Heap} {mg : Str → Option Value} {x : Str} {i : Int} {t : Tok} (X : K.In h) (G : h.Ns mainGlobals mg) (a : PySem.W.nsIn K mainGlobals x = some (some (.int i t))) : ValOk K mg x (.int i) := valOk_int (PySem.W.mg_of X G a)
theorem valX_str {K : PySem.W.Frag} {h : Heap} {mg : Str → Option Value} {x : Str} {i : Str} {t : Tok} (X : K.In h) (G : h.Ns mainGlobals mg) (a : PySem.W.nsIn K mainGlobals x = some (some (.str i t))) : ValOk K mg x (.str i) := valOk_str (PySem.W.mg_of X G a)
/-- plain items of a known tuple -/
def datsOf : List Value → Option (List D)
  | [] => some []
  | .str s _ :: r => (datsOf r).map (.str s :: ·)
  | .int i _ :: r => (datsOf r).map (.int i :: ·)
  | .none :: r => (datsOf r).map (.non :: ·)
  | _ => none
theorem datsOf_ok {K : PySem.W.Frag} {mg : Str → Option Value} : ∀ {us : List Value} {ds : List D}, datsOf us = some ds → ∃ vs, Vals vs us ∧ ∀ H R, DVs K mg H R vs ds
  | [], ds, h => by cases h; exact ⟨[], .nil, fun _ _ => .nil⟩
  | u :: us, ds, h => by
    cases u <;> first
      | (cases h; done)
      | (simp only [datsOf] at h
         cases q : datsOf us with
         | none => rw [q] at h; cases h
         | some es =>
           rw [q] at h
           cases h
           obtain ⟨vs, h1, h2⟩ := datsOf_ok (K := K) (mg := mg) q
           first
             | exact ⟨.str _ :: vs, .cons ⟨_, rfl⟩ h1, fun H R => .cons (.str _) (h2 H R)⟩
             | exact ⟨.int _ :: vs, .cons ⟨_, rfl⟩ h1, fun H R => .cons (.int _) (h2 H R)⟩
             | exact ⟨.non :: vs, .cons rfl h1, fun H R => .cons .non (h2 H R)⟩)
theorem valX_tup {K : PySem.W.Frag} {h : Heap} {mg : Str → Option Value} {x : Str} {ad : Addr} {od : Option Addr} {its : Array Value} {n : Nat} {osl : Array (Option Value)} {ds : List D} (X : K.In h) (G : h.Ns mainGlobals mg) (a : PySem.W.nsIn K mainGlobals x = some (some (.ref ad)))
    (l : K.lookup ad = some ⟨.type "tuple", od, .seq its n, osl⟩) (d : datsOf its.toList = some ds) (z : its.size ≤ 1000) : ValOk K mg x (.tup ds) := by
  obtain ⟨vs, h1, h2⟩ := datsOf_ok (K := K) (mg := mg) d
  have hz : its.size ≤ sizeLine := by rw [sizeLine_eq]; omega
  refine ⟨.ref ad, _, PySem.W.mg_of X G a, rfl, fun H R => .tup (.inr ⟨_, its, n, l, rfl, rfl, hz, h1⟩) ?_ (h2 H R)⟩
  have : vs.length = its.size := by rw [h1.length, Array.length_toList]
  omega
end VL
end
section
set_option linter.all false
set_option maxRecDepth 100000
set_option maxHeartbeats 2000000
namespace VL
open PySem
def We (t : VE) (ρ : Ro) (μ : Mu) (P : D → Mu → Prop) : Prop := ∃ d μ', t ρ μ = some (.ok d μ') ∧ P d μ'
def Wt (t : VT) (ρ : Ro) (μ : Mu) (P : Bool → Mu → Prop) : Prop := ∃ d μ', t ρ μ = some (.ok d μ') ∧ P d μ'
def Wa (t : VA) (ρ : Ro) (μ : Mu) (P : List D → Mu → Prop) : Prop := ∃ d μ', t ρ μ = some (.ok d μ') ∧ P d μ'
def Wi (t : VI) (ρ : Ro) (μ : Mu) (P : Wk → Mu → Prop) : Prop := ∃ d μ', t ρ μ = some (.ok d μ') ∧ P d μ'
def Wo (t : VO) (ρ : Ro) (μ : Mu) (P : Option Int → Mu → Prop) : Prop := ∃ d μ', t ρ μ = some (.ok d μ') ∧ P d μ'
def Wf (f : VF) (ds : List D) (μ : Mu) (P : D → Mu → Prop) : Prop := ∃ d μ', f ds μ = some (.ok d μ') ∧ P d μ'
/-- a built-in step -/
def Wp (r : Option (D × Mu)) (P : D → Mu → Prop) : Prop := ∃ d μ', r = some (d, μ') ∧ P d μ'
def Wl (r : Option (Rs (List D))) (P : List D → Mu → Prop) : Prop := ∃ d μ', r = some (.ok d μ') ∧ P d μ'
def Wg (g : VG) (d : D) (ρ : Ro) (μ : Mu) (P : Ro → Mu → Prop) : Prop := ∃ ρ' μ', g d ρ μ = some (ρ', μ') ∧ P ρ' μ'
def Wgs (g : VGs) (d : List D) (ρ : Ro) (μ : Mu) (P : Ro → Mu → Prop) : Prop := ∃ ρ' μ', g d ρ μ = some (ρ', μ') ∧ P ρ' μ'
def isiB (kit : Ty → Ty → Option Bool) (μ : Mu) (x : D) (ts : List Ty) : Option Bool := (tyD μ x).bind fun t => anyK kit t ts
@[simp] theorem tru_bl {μ : Mu} {b : Bool} : tru μ (.bl b) = some b := rfl
structure Ed where
  nx : Ro → Mu → Prop
  rt : D → Mu → Prop
  bk : Ro → Mu → Prop := fun _ _ => False
  ct : Ro → Mu → Prop := fun _ _ => False
def Wfl (r : Option Fl) (E : Ed) : Prop := match r with
  | some (.nx ρ μ) => E.nx ρ μ
  | some (.rt d μ) => E.rt d μ
  | some (.bk ρ μ) => E.bk ρ μ
  | some (.ct ρ μ) => E.ct ρ μ
  | _ => False
def Ws (s : VS) (ρ : Ro) (μ : Mu) (E : Ed) : Prop := Wfl (s ρ μ) E
def Wcl (μ : Mu) (d : D) (μ' : Mu) (P : D → Mu → Prop) : Prop := ∃ e μ2, close μ d μ' = some (.ok e μ2) ∧ P e μ2
@[simp] theorem ex_ok {α : Type} {a : α} {μ : Mu} {Q : α → Mu → Prop} : (∃ y μ1, some (Rs.ok a μ) = some (Rs.ok y μ1) ∧ Q y μ1) ↔ Q a μ :=
  ⟨fun ⟨_, _, h, q⟩ => by cases h; exact q, fun q => ⟨a, μ, rfl, q⟩⟩
@[simp] theorem ex_er {α : Type} {e : Ex} {μ : Mu} {Q : α → Mu → Prop} : (∃ y μ1, some (Rs.er e μ) = some (Rs.ok y μ1) ∧ Q y μ1) ↔ False :=
  ⟨fun ⟨_, _, h, q⟩ => (by cases h), fun q => q.elim⟩
@[simp] theorem ex_no {α : Type} {Q : α → Mu → Prop} : (∃ y μ1, (none : Option (Rs α)) = some (Rs.ok y μ1) ∧ Q y μ1) ↔ False :=
  ⟨fun ⟨_, _, h, q⟩ => (by cases h), fun q => q.elim⟩
@[simp] theorem ex_pair {α β : Type} {p : α × β} {Q : α → β → Prop} : (∃ y z, some p = some (y, z) ∧ Q y z) ↔ Q p.1 p.2 :=
  ⟨fun ⟨_, _, h, q⟩ => by cases h; exact q, fun q => ⟨p.1, p.2, rfl, q⟩⟩
@[simp] theorem ex_pair' {α β : Type} {a : α} {b : β} {Q : α → β → Prop} : (∃ y z, (some (a, b) : Option (α × β)) = some (y, z) ∧ Q y z) ↔ Q a b :=
  ⟨fun ⟨_, _, h, q⟩ => by cases h; exact q, fun q => ⟨a, b, rfl, q⟩⟩
@[simp] theorem ex_some {α : Type} {a : α} {Q : α → Prop} : (∃ k, some a = some k ∧ Q k) ↔ Q a := ⟨fun ⟨_, h, q⟩ => by cases h; exact q, fun q => ⟨a, rfl, q⟩⟩
@[simp] theorem ex_some2 {α : Type} {a : α} {Q : α → Prop} : (∃ k, some (some a) = some (some k) ∧ Q k) ↔ Q a := ⟨fun ⟨_, h, q⟩ => by cases h; exact q, fun q => ⟨a, rfl, q⟩⟩
@[simp] theorem ex_none {α : Type} {Q : α → Prop} : (∃ k, (none : Option α) = some k ∧ Q k) ↔ False := ⟨fun ⟨_, h, q⟩ => (by cases h), fun q => q.elim⟩
@[simp] theorem ex_conj {α β : Type} {a : α} {b : β} {Q : α → β → Prop} : (∃ d e, (a = d ∧ b = e) ∧ Q d e) ↔ Q a b := ⟨fun ⟨_, _, ⟨h1, h2⟩, q⟩ => h1 ▸ h2 ▸ q, fun q => ⟨a, b, ⟨rfl, rfl⟩, q⟩⟩
@[simp] theorem ex_conj' {α β : Type} {a : α} {b : β} {Q : α → β → Prop} : (∃ d e, (d = a ∧ b = e) ∧ Q d e) ↔ Q a b := ⟨fun ⟨_, _, ⟨h1, h2⟩, q⟩ => h1 ▸ h2 ▸ q, fun q => ⟨a, b, ⟨rfl, rfl⟩, q⟩⟩
section
variable {ρ : Ro} {μ : Mu} {P : D → Mu → Prop} {a b c : VE} {t u : VT} {r : VA} {E : Ed}
theorem bdW {α β : Type} {x : Option (Rs α)} {k : α → Mu → Option (Rs β)} {Q : β → Mu → Prop} : (∃ d μ', bd x k = some (.ok d μ') ∧ Q d μ') ↔ ∃ y μ1, x = some (.ok y μ1) ∧ ∃ d μ', k y μ1 = some (.ok d μ') ∧ Q d μ' := by
  cases x with
  | none => simp only [bd_none, ex_no]
  | some x => cases x <;> simp only [bd_ok, bd_er, ex_ok, ex_er]
theorem liftW {x : Option (D × Mu)} : (∃ d μ', lift x = some (.ok d μ') ∧ P d μ') ↔ Wp x P := by
  cases x with
  | none =>
    rw [lift_none, ex_no]
    exact ⟨False.elim, fun ⟨_, _, h, _⟩ => by cases h⟩
  | some x => show (∃ d μ', some (Rs.ok x.1 x.2) = _ ∧ _) ↔ _; simp only [ex_ok, Wp, ex_pair]
@[simp] theorem we_var {i : Nat} : We (vVar i) ρ μ P ↔ ∃ d, ρ[i]? = some (some d) ∧ P d μ := by
  unfold We vVar
  constructor
  · rintro ⟨d, μ', h, q⟩
    split at h
    · rename_i e hd
      cases h
      exact ⟨_, hd, q⟩
    · cases h
  · rintro ⟨d, h, q⟩
    exact ⟨d, μ, by rw [h], q⟩
@[simp] theorem we_c {d : D} : We (vC d) ρ μ P ↔ P d μ := by simp only [We, vC, ex_ok]
@[simp] theorem we_un {f : D → Mu → Option (D × Mu)} : We (vUn f a) ρ μ P ↔ We a ρ μ fun x μ1 => Wp (f x μ1) P := by
  unfold We vUn; rw [bdW]; simp only [liftW]
@[simp] theorem we_op {f : D → D → Mu → Option (D × Mu)} : We (vOp f a b) ρ μ P ↔ We a ρ μ fun x μ1 => We b ρ μ1 fun y μ2 => Wp (f x y μ2) P := by
  unfold We vOp; rw [bdW]; simp only [bdW, liftW]
@[simp] theorem we_if : We (vIf t a b) ρ μ P ↔ Wt t ρ μ fun k μ1 => if k = true then We a ρ μ1 P else We b ρ μ1 P := by
  unfold We Wt vIf; rw [bdW]
  refine exists_congr fun k => exists_congr fun μ1 => and_congr_right fun _ => ?_
  cases k <;> simp
@[simp] theorem we_and : We (vAnd a b) ρ μ P ↔ We a ρ μ fun x μ1 => ∃ k, tru μ1 x = some k ∧ if k = true then We b ρ μ1 P else P x μ1 := by
  unfold We vAnd; rw [bdW]
  refine exists_congr fun x => exists_congr fun μ1 => and_congr_right fun _ => ?_
  cases h : tru μ1 x with
  | none => simp only [ex_no, ex_none, h]
  | some k => cases k <;> simp only [ex_ok, ex_some, Bool.false_eq_true, if_false, if_true, h]
@[simp] theorem we_or : We (vOr a b) ρ μ P ↔ We a ρ μ fun x μ1 => ∃ k, tru μ1 x = some k ∧ if k = true then P x μ1 else We b ρ μ1 P := by
  unfold We vOr; rw [bdW]
  refine exists_congr fun x => exists_congr fun μ1 => and_congr_right fun _ => ?_
  cases h : tru μ1 x with
  | none => simp only [ex_no, ex_none, h]
  | some k => cases k <;> simp only [ex_ok, ex_some, Bool.false_eq_true, if_false, if_true, h]
@[simp] theorem we_not : We (vNot a) ρ μ P ↔ We a ρ μ fun x μ1 => ∃ k, tru μ1 x = some k ∧ P (.bl (!k)) μ1 := by
  unfold We vNot; rw [bdW]
  refine exists_congr fun x => exists_congr fun μ1 => and_congr_right fun _ => ?_
  cases h : tru μ1 x <;> simp only [ex_ok, ex_no, ex_some, ex_none, h]
@[simp] theorem we_chain {f g : D → D → Mu → Option (D × Mu)} : We (vChain f g a b c) ρ μ P ↔ We a ρ μ fun x μ1 => We b ρ μ1 fun y μ2 => Wp (f x y μ2) fun z μ3 => (z = .bl true ∧ We c ρ μ3 fun w μ4 => Wp (g y w μ4) P) ∨ (z = .bl false ∧ P (.bl false) μ3) := by
  unfold We vChain; rw [bdW]
  refine exists_congr fun x => exists_congr fun μ1 => and_congr_right fun _ => ?_
  rw [bdW]
  refine exists_congr fun y => exists_congr fun μ2 => and_congr_right fun _ => ?_
  rw [bdW]
  constructor
  · rintro ⟨z, μ3, h, q⟩
    cases hf : f x y μ2 with
    | none => rw [hf] at h; cases h
    | some p =>
      rw [hf] at h; cases h
      refine ⟨p.1, p.2, rfl, ?_⟩
      split at q
      · rename_i hz
        rw [bdW] at q
        simp only [liftW] at q
        exact .inl ⟨hz, q⟩
      · rename_i hz
        rw [ex_ok] at q
        exact .inr ⟨hz, q⟩
      · simp at q
  · rintro ⟨z, μ3, h, q⟩
    refine ⟨z, μ3, by rw [h]; rfl, ?_⟩
    rcases q with ⟨rfl, q⟩ | ⟨rfl, q⟩
    · simp only []
      rw [bdW]
      simp only [liftW]
      exact q
    · exact ⟨_, _, rfl, q⟩
@[simp] theorem we_tup : We (vTup r) ρ μ P ↔ Wa r ρ μ fun xs μ1 => P (.tup xs) μ1 := by
  unfold We Wa vTup; rw [bdW]; simp
@[simp] theorem we_lst : We (vLst r) ρ μ P ↔ Wa r ρ μ fun xs μ1 => P (.lst xs) μ1 := by
  unfold We Wa vLst; rw [bdW]; simp
@[simp] theorem we_tupC : We (vTupC r) ρ μ P ↔ Wa r ρ μ fun xs μ1 => xs.length ≤ 16777216 ∧ P (.tup xs) μ1 := by
  unfold We Wa vTupC; rw [bdW]
  refine exists_congr fun x => exists_congr fun μ1 => and_congr_right fun _ => ?_
  by_cases h : x.length ≤ 16777216 <;> simp [h]
@[simp] theorem we_lstC : We (vLstC r) ρ μ P ↔ Wa r ρ μ fun xs μ1 => xs.length ≤ 16777216 ∧ P (.lst xs) μ1 := by
  unfold We Wa vLstC; rw [bdW]
  refine exists_congr fun x => exists_congr fun μ1 => and_congr_right fun _ => ?_
  by_cases h : x.length ≤ 16777216 <;> simp [h]
@[simp] theorem we_call {f : VF} : We (vCall f r) ρ μ P ↔ Wa r ρ μ fun xs μ1 => Wf f xs μ1 P := by
  unfold We Wa vCall Wf; rw [bdW]
@[simp] theorem we_blt {f : List D → Mu → Option (D × Mu)} : We (vBlt f r) ρ μ P ↔ Wa r ρ μ fun xs μ1 => Wp (f xs μ1) P := by
  unfold We Wa vBlt; rw [bdW]; simp only [liftW]
@[simp] theorem we_box : We (vBox a) ρ μ P ↔ We a ρ μ fun x μ1 => ∃ xs, x = .lst xs ∧ P (.ref μ1.length) (μ1 ++ [.lst xs]) := by
  unfold We vBox
  constructor
  · rintro ⟨d, μ', h, q⟩
    unfold boxed at h
    split at h
    · rename_i xs μ1 e
      cases h
      exact ⟨_, _, e, xs, rfl, q⟩
    · cases h
    · cases h
  · rintro ⟨x, μ1, h, xs, rfl, q⟩
    exact ⟨_, _, by rw [h]; rfl, q⟩
@[simp] theorem we_sl {lo hi : VO} : We (vSl a lo hi) ρ μ P ↔ We a ρ μ fun x μ1 => Wo lo ρ μ1 fun l μ2 => Wo hi ρ μ2 fun h μ3 => Wp (opSl x l h μ3) P := by
  unfold We Wo vSl; rw [bdW]; simp only [bdW, liftW]
@[simp] theorem we_met {f : D → D → Mu → Option (D × Mu)} : We (vMet f a b) ρ μ P ↔ We a ρ μ fun x μ1 => (lstOf μ1 x).isSome = true ∧ We b ρ μ1 fun y μ2 => Wp (f x y μ2) P := by
  unfold We vMet; rw [bdW]
  refine exists_congr fun x => exists_congr fun μ1 => and_congr_right fun _ => ?_
  split
  · rename_i h
    rw [bdW]; simp only [liftW, h, true_and]
  · rename_i h
    simp [h]
@[simp] theorem we_isi {kit : Ty → Ty → Option Bool} {ts : List Ty} : We (vIsi kit a ts) ρ μ P ↔ We a ρ μ fun x μ1 => ∃ k, isiB kit μ1 x ts = some k ∧ P (.bl k) μ1 := by
  unfold We vIsi; rw [bdW]
  refine exists_congr fun x => exists_congr fun μ1 => and_congr_right fun _ => ?_
  unfold isiB
  cases h0 : tyD μ1 x with
  | none => simp only [ex_no, Option.bind_none, ex_none, h0]
  | some t =>
    simp only [Option.bind_some, h0]
    cases h : anyK kit t ts with
    | none => simp only [ex_no, ex_none, h]
    | some k => simp only [ex_ok, ex_some, h]
@[simp] theorem we_dct {ks : List L2.Key} : We (vDct ks r) ρ μ P ↔ Wa r ρ μ fun xs μ1 => (xs.length = ks.length ∧ ks.length ≤ 15 ∧ ks.Nodup) ∧ P (.ref μ1.length) (μ1 ++ [.dct (ks.zip xs)]) := by
  unfold We Wa vDct
  constructor
  · rintro ⟨d, μ', h, q⟩
    split at h
    · rename_i xs μ1 e
      split at h
      · rename_i hk
        cases h
        exact ⟨xs, μ1, e, hk, q⟩
      · cases h
    · cases h
  · rintro ⟨xs, μ1, e, hk, q⟩
    exact ⟨_, _, by rw [e]; simp only []; rw [if_pos hk], q⟩
@[simp] theorem wo_none {Q : Option Int → Mu → Prop} : Wo oNone ρ μ Q ↔ Q none μ := by simp [Wo, oNone]
@[simp] theorem wo_some {Q : Option Int → Mu → Prop} : Wo (oSome a) ρ μ Q ↔ We a ρ μ fun x μ1 => ∃ i, x = .int i ∧ Q (some i) μ1 := by
  unfold Wo We oSome; rw [bdW]
  refine exists_congr fun x => exists_congr fun μ1 => and_congr_right fun _ => ?_
  cases x <;> simp
@[simp] theorem wa_nil {Q : List D → Mu → Prop} : Wa aNil ρ μ Q ↔ Q [] μ := by simp [Wa, aNil]
@[simp] theorem wa_cons {Q : List D → Mu → Prop} : Wa (aCons a r) ρ μ Q ↔ We a ρ μ fun x μ1 => Wa r ρ μ1 fun xs μ2 => Q (x :: xs) μ2 := by
  unfold Wa We aCons; rw [bdW]
  refine exists_congr fun x => exists_congr fun μ1 => and_congr_right fun _ => ?_
  rw [bdW]; simp
@[simp] theorem wa_star {Q : List D → Mu → Prop} : Wa (aStar a r) ρ μ Q ↔ We a ρ μ fun x μ1 => ∃ xs, seqOf μ1 x = some xs ∧ Wa r ρ μ1 fun ys μ2 => Q (xs ++ ys) μ2 := by
  unfold Wa We aStar; rw [bdW]
  refine exists_congr fun x => exists_congr fun μ1 => and_congr_right fun _ => ?_
  cases h : seqOf μ1 x with
  | none => simp only [ex_no, ex_none, h]
  | some xs => simp only [ex_some, h]; rw [bdW]; simp only [ex_ok]
@[simp] theorem wa_list_nil {Q : List D → Mu → Prop} : Wa (aList []) ρ μ Q ↔ Q [] μ := by simp [Wa, aList, aNil]
@[simp] theorem wa_list_cons {ts : List VE} {Q : List D → Mu → Prop} : Wa (aList (a :: ts)) ρ μ Q ↔ We a ρ μ fun x μ1 => Wa (aList ts) ρ μ1 fun xs μ2 => Q (x :: xs) μ2 := by
  show Wa (aCons a (aList ts)) ρ μ Q ↔ _
  exact wa_cons
variable {T : Bool → Mu → Prop}
@[simp] theorem wt_tru : Wt (tTru a) ρ μ T ↔ We a ρ μ fun x μ1 => ∃ k, tru μ1 x = some k ∧ T k μ1 := by
  unfold Wt We tTru; rw [bdW]
  refine exists_congr fun x => exists_congr fun μ1 => and_congr_right fun _ => ?_
  cases h : tru μ1 x <;> simp only [ex_ok, ex_no, ex_some, ex_none, h]
@[simp] theorem wt_val : Wt (tVal a) ρ μ T ↔ We a ρ μ fun x μ1 => ∃ k, x = .bl k ∧ T k μ1 := by
  unfold Wt We tVal; rw [bdW]
  refine exists_congr fun x => exists_congr fun μ1 => and_congr_right fun _ => ?_
  cases x <;> simp
@[simp] theorem wt_and : Wt (tAnd t u) ρ μ T ↔ Wt t ρ μ fun k μ1 => if k = true then Wt u ρ μ1 T else T false μ1 := by
  unfold Wt tAnd; rw [bdW]
  refine exists_congr fun x => exists_congr fun μ1 => and_congr_right fun _ => ?_
  cases x <;> simp
@[simp] theorem wt_or : Wt (tOr t u) ρ μ T ↔ Wt t ρ μ fun k μ1 => if k = true then T true μ1 else Wt u ρ μ1 T := by
  unfold Wt tOr; rw [bdW]
  refine exists_congr fun x => exists_congr fun μ1 => and_congr_right fun _ => ?_
  cases x <;> simp
@[simp] theorem wt_not : Wt (tNot t) ρ μ T ↔ Wt t ρ μ fun k μ1 => T (!k) μ1 := by
  unfold Wt tNot; rw [bdW]; simp
@[simp] theorem wt_yes : Wt VL.tYes ρ μ T ↔ T true μ := by simp [Wt, VL.tYes]
variable {W : Wk → Mu → Prop}
@[simp] theorem wi_seq : Wi (iSeq a) ρ μ W ↔ We a ρ μ fun x μ1 => ∃ xs, seqOf μ1 x = some xs ∧ W ⟨srcOf x xs, xs⟩ μ1 := by
  unfold Wi We iSeq; rw [bdW]
  refine exists_congr fun x => exists_congr fun μ1 => and_congr_right fun _ => ?_
  cases h : seqOf μ1 x with
  | none => simp only [ex_no, ex_none, h]
  | some xs => simp only [ex_ok, ex_some, h]
@[simp] theorem wi_rg1 : Wi (iRg1 r) ρ μ W ↔ Wa r ρ μ fun xs μ1 => ∃ j, xs = [.int j] ∧ (-(2 ^ 62) ≤ j ∧ j < 2 ^ 62 ∧ j.toNat ≤ 16777216) ∧ W ⟨[], rng 0 j.toNat⟩ μ1 := by
  unfold Wi Wa iRg1; rw [bdW]
  refine exists_congr fun x => exists_congr fun μ1 => and_congr_right fun _ => ?_
  split
  · rename_i j _
    constructor
    · rintro ⟨d, μ', h, q⟩
      split at h
      · rename_i hj; cases h; exact ⟨j, rfl, hj, q⟩
      · cases h
    · rintro ⟨j', h, hj, q⟩
      simp only [List.cons.injEq, D.int.injEq, and_true] at h; subst h
      exact ⟨_, _, by rw [if_pos hj], q⟩
  · rename_i hx
    constructor
    · rintro ⟨d, μ', h, q⟩; cases h
    · rintro ⟨j', h, hj, q⟩; exact absurd h (hx _)
@[simp] theorem wi_rg2 : Wi (iRg2 r) ρ μ W ↔ Wa r ρ μ fun xs μ1 => ∃ i j, xs = [.int i, .int j] ∧ (-(2 ^ 62) ≤ i ∧ i < 2 ^ 62 ∧ -(2 ^ 62) ≤ j ∧ j < 2 ^ 62 ∧ (j - i).toNat ≤ 16777216) ∧ W ⟨[], rng i (j - i).toNat⟩ μ1 := by
  unfold Wi Wa iRg2; rw [bdW]
  refine exists_congr fun x => exists_congr fun μ1 => and_congr_right fun _ => ?_
  split
  · rename_i i j _
    constructor
    · rintro ⟨d, μ', h, q⟩
      split at h
      · rename_i hj; cases h; exact ⟨i, j, rfl, hj, q⟩
      · cases h
    · rintro ⟨i', j', h, hj, q⟩
      simp only [List.cons.injEq, D.int.injEq, and_true] at h; obtain ⟨rfl, rfl⟩ := h
      exact ⟨_, _, by rw [if_pos hj], q⟩
  · rename_i hx
    constructor
    · rintro ⟨d, μ', h, q⟩; cases h
    · rintro ⟨i', j', h, hj, q⟩; exact absurd h (hx _ _)
@[simp] theorem wi_zp2 : Wi (iZp2 r) ρ μ W ↔ Wa r ρ μ fun xs μ1 => ∃ x y us vs, xs = [x, y] ∧ seqOf μ1 x = some us ∧ seqOf μ1 y = some vs ∧ W ⟨srcOf x us ++ srcOf y vs, (us.zip vs).map fun p => .tup [p.1, p.2]⟩ μ1 := by
  unfold Wi Wa iZp2; rw [bdW]
  refine exists_congr fun x => exists_congr fun μ1 => and_congr_right fun _ => ?_
  split
  · rename_i x y _
    constructor
    · rintro ⟨d, μ', h, q⟩
      split at h
      · rename_i us vs h1 h2; cases h; exact ⟨x, y, us, vs, rfl, h1, h2, q⟩
      · cases h
    · rintro ⟨x', y', us, vs, h, h1, h2, q⟩
      simp only [List.cons.injEq, and_true] at h; obtain ⟨rfl, rfl⟩ := h
      exact ⟨_, _, by rw [h1, h2], q⟩
  · rename_i hx
    constructor
    · rintro ⟨d, μ', h, q⟩; cases h
    · rintro ⟨x', y', us, vs, h, _⟩; exact absurd h (hx _ _)
@[simp] theorem wi_enum : Wi (iEnum r) ρ μ W ↔ Wa r ρ μ fun xs μ1 => ∃ x us, xs = [x] ∧ seqOf μ1 x = some us ∧ W ⟨srcOf x us, us.zipIdx.map fun p => .tup [.int (p.2 : Nat), p.1]⟩ μ1 := by
  unfold Wi Wa iEnum; rw [bdW]
  refine exists_congr fun x => exists_congr fun μ1 => and_congr_right fun _ => ?_
  split
  · rename_i x _
    constructor
    · rintro ⟨d, μ', h, q⟩
      split at h
      · rename_i us h1; cases h; exact ⟨x, us, rfl, h1, q⟩
      · cases h
    · rintro ⟨x', us, h, h1, q⟩
      simp only [List.cons.injEq, and_true] at h; subst h
      exact ⟨_, _, by rw [h1], q⟩
  · rename_i hx
    constructor
    · rintro ⟨d, μ', h, q⟩; cases h
    · rintro ⟨x', us, h, _⟩; exact absurd h (hx _)
@[simp] theorem we_comp {i : VI} {g : VG} {vs : List Nat} : We (vComp i g t a vs) ρ μ P ↔ Wi i ρ μ fun w μ1 => Wl (compL w g t a ρ vs w.items [] μ1) fun ds μ2 => P (.lst ds) μ2 := by
  unfold We Wi Wl vComp
  constructor
  · rintro ⟨d, μ', h, q⟩
    split at h
    · rename_i w μ1 e
      split at h
      · rename_i ds μ2 e2
        cases h
        exact ⟨w, μ1, e, ds, _, e2, q⟩
      · cases h
    · cases h
    · cases h
  · rintro ⟨w, μ1, e, ds, μ2, e2, q⟩
    exact ⟨_, _, by rw [e]; simp only []; rw [e2], q⟩
theorem compL_e0 {w : Wk} {g : VG} {vs : List Nat} {acc : List D} : compL w g t a ρ vs [] acc μ = open Classical in (if w.holds μ then some (.ok acc μ) else none) := by
  rw [compL]
theorem compL_e1 {w : Wk} {g : VG} {vs : List Nat} {x : D} {xs acc : List D} : compL w g t a ρ vs (x :: xs) acc μ = open Classical in (if w.holds μ then match g x (wipe ρ vs) μ with
      | some (ρ1, μ1) => bd (t ρ1 μ1) fun k μ2 => if k = true then bd (a ρ1 μ2) fun d μ3 => compL w g t a ρ vs xs (acc ++ [d]) μ3 else compL w g t a ρ vs xs acc μ2
      | none => none else none) := by
  rw [compL]
  all_goals (
    by_cases h : w.holds μ
    · rw [if_pos h, if_pos h]
      cases g x (wipe ρ vs) μ <;> rfl
    · rw [if_neg h, if_neg h])
theorem compL_nil {w : Wk} {g : VG} {vs : List Nat} {acc : List D} {Q : List D → Mu → Prop} : Wl (compL w g t a ρ vs [] acc μ) Q ↔ w.holds μ ∧ Q acc μ := by
  unfold Wl; rw [compL_e0]
  constructor
  · rintro ⟨d, μ', h, q⟩
    split at h
    · rename_i hw; cases h; exact ⟨hw, q⟩
    · cases h
  · rintro ⟨hw, q⟩
    exact ⟨_, _, by rw [if_pos hw], q⟩
theorem compL_cons {w : Wk} {g : VG} {vs : List Nat} {x : D} {xs acc : List D} {Q : List D → Mu → Prop} : Wl (compL w g t a ρ vs (x :: xs) acc μ) Q ↔ w.holds μ ∧ Wg g x (wipe ρ vs) μ fun ρ1 μ1 => Wt t ρ1 μ1 fun k μ2 => if k = true then We a ρ1 μ2 fun d μ3 => Wl (compL w g t a ρ vs xs (acc ++ [d]) μ3) Q else Wl (compL w g t a ρ vs xs acc μ2) Q := by
  unfold Wl Wg Wt We; rw [compL_e1]
  constructor
  · rintro ⟨d, μ', h, q⟩
    split at h
    · rename_i hw
      refine ⟨hw, ?_⟩
      split at h
      · rename_i ρ1 μ1 e
        refine ⟨ρ1, μ1, e, ?_⟩
        cases ht : t ρ1 μ1 with
        | none => rw [ht] at h; cases h
        | some rt =>
          rw [ht] at h
          cases rt with
          | er _ _ => cases h
          | ok k μ2 =>
            refine ⟨k, μ2, ht, ?_⟩
            simp only [bd_ok] at h
            cases k with
            | false => simp only [Bool.false_eq_true, if_false] at h ⊢; exact ⟨d, μ', h, q⟩
            | true =>
              simp only [if_true] at h ⊢
              cases he : a ρ1 μ2 with
              | none => rw [he] at h; cases h
              | some re =>
                rw [he] at h
                cases re with
                | er _ _ => cases h
                | ok y μ3 => exact ⟨y, μ3, rfl, d, μ', h, q⟩
      · cases h
    · cases h
  · rintro ⟨hw, ρ1, μ1, e, k, μ2, ht, q⟩
    cases k with
    | false =>
      simp only [Bool.false_eq_true, if_false] at q
      obtain ⟨d, μ', h, q⟩ := q
      exact ⟨d, μ', by rw [if_pos hw, e]; simp only []; rw [ht]; simp only [bd_ok, Bool.false_eq_true, if_false]; exact h, q⟩
    | true =>
      simp only [if_true] at q
      obtain ⟨y, μ3, he, d, μ', h, q⟩ := q
      exact ⟨d, μ', by rw [if_pos hw, e]; simp only []; rw [ht]; simp only [bd_ok, if_true]; rw [he]; exact h, q⟩
variable {R : Ro → Mu → Prop} {g : VG} {gs : VGs}
@[simp] theorem wg_name {i : Nat} {d : D} : Wg (VL.gName i) d ρ μ R ↔ R (ρ.set i (some d)) μ := by simp [Wg, VL.gName]
@[simp] theorem wgs_nil : Wgs VL.gNil [] ρ μ R ↔ R ρ μ := by simp [Wgs, VL.gNil]
@[simp] theorem wgs_cons {d : D} {ds : List D} : Wgs (VL.gCons g gs) (d :: ds) ρ μ R ↔ Wg g d ρ μ fun ρ1 μ1 => Wgs gs ds ρ1 μ1 R := by
  unfold Wgs Wg VL.gCons
  cases h : g d ρ μ with
  | none => simp only [h]; exact ⟨fun ⟨_, _, h', _⟩ => (by cases h'), fun ⟨_, _, h', _⟩ => (by cases h')⟩
  | some p =>
    obtain ⟨p1, p2⟩ := p
    simp only [h, ex_pair']
@[simp] theorem wg_tup {n : Nat} {xs : List D} : Wg (VL.gTup n gs) (.tup xs) ρ μ R ↔ xs.length = n ∧ Wgs gs xs ρ μ R := by
  unfold Wg Wgs VL.gTup
  simp only []
  split <;> simp [*]
theorem wg_tup_l {n : Nat} {d : D} {xs : List D} (h : lstOf μ d = some xs) : Wg (VL.gTup n gs) d ρ μ R ↔ xs.length = n ∧ Wgs gs xs ρ μ R := by
  unfold Wg Wgs VL.gTup
  split
  · cases h
  · rw [h]; simp only []; split <;> simp [*]
@[simp] theorem wg_sub {d : D} : Wg (VL.gSub a b) d ρ μ R ↔ We a ρ μ fun x μ1 => We b ρ μ1 fun y μ2 => ∃ μ3, setAt x y d μ2 = some μ3 ∧ R ρ μ3 := by
  unfold Wg We VL.gSub
  constructor
  · rintro ⟨ρ', μ', h, q⟩
    split at h
    · rename_i x μ1 e
      split at h
      · rename_i y μ2 e2
        cases hs : setAt x y d μ2 with
        | none => rw [hs] at h; cases h
        | some μ3 => rw [hs] at h; cases h; exact ⟨x, μ1, e, y, μ2, e2, _, hs, q⟩
      · cases h
    · cases h
  · rintro ⟨x, μ1, e, y, μ2, e2, μ3, hs, q⟩
    exact ⟨_, _, by rw [e]; simp only []; rw [e2]; simp only []; rw [hs]; rfl, q⟩
variable {s s' : VS}
@[simp] theorem ws_pass : Ws sPass ρ μ E ↔ E.nx ρ μ := Iff.rfl
@[simp] theorem ws_bk : Ws sBk ρ μ E ↔ E.bk ρ μ := Iff.rfl
@[simp] theorem ws_ct : Ws sCt ρ μ E ↔ E.ct ρ μ := Iff.rfl
@[simp] theorem ws_no : Ws sNo ρ μ E ↔ False := Iff.rfl
@[simp] theorem ws_retN : Ws sRetN ρ μ E ↔ E.rt .non μ := Iff.rfl
@[simp] theorem ws_seq : Ws (sSeq s s') ρ μ E ↔ Ws s ρ μ ⟨fun ρ1 μ1 => Ws s' ρ1 μ1 E, E.rt, E.bk, E.ct⟩ := by
  unfold Ws sSeq
  cases h : s ρ μ with
  | none => simp [Wfl]
  | some f => cases f <;> simp [Wfl]
theorem bsW {α : Type} {x : Option (Rs α)} {k : α → Mu → Option Fl} : Wfl (bs x ρ k) E ↔ ∃ y μ1, x = some (.ok y μ1) ∧ Wfl (k y μ1) E := by
  cases x with
  | none => simp [Wfl]
  | some x => cases x <;> simp [Wfl]
@[simp] theorem ws_asg : Ws (sAsg a g) ρ μ E ↔ We a ρ μ fun d μ1 => Wg g d ρ μ1 E.nx := by
  unfold Ws sAsg We Wg; rw [bsW]
  refine exists_congr fun x => exists_congr fun μ1 => and_congr_right fun _ => ?_
  cases h : g x ρ μ1 with
  | none => exact ⟨False.elim, fun ⟨_, _, h', _⟩ => by rw [h] at h'; cases h'⟩
  | some p =>
    obtain ⟨p1, p2⟩ := p
    exact ⟨fun q => ⟨p1, p2, h, q⟩, fun ⟨_, _, h', q⟩ => by rw [h] at h'; cases h'; exact q⟩
@[simp] theorem ws_ret : Ws (sRet a) ρ μ E ↔ We a ρ μ E.rt := by unfold Ws sRet We; rw [bsW]; simp [Wfl]
@[simp] theorem ws_drop : Ws (sDrop a) ρ μ E ↔ We a ρ μ fun _ μ1 => E.nx ρ μ1 := by unfold Ws sDrop We; rw [bsW]; simp [Wfl]
@[simp] theorem ws_if : Ws (sIf t s s') ρ μ E ↔ Wt t ρ μ fun k μ1 => if k = true then Ws s ρ μ1 E else Ws s' ρ μ1 E := by
  unfold Ws sIf Wt; rw [bsW]
  refine exists_congr fun x => exists_congr fun μ1 => and_congr_right fun _ => ?_
  cases x <;> simp
@[simp] theorem ws_par {i j : Nat} : Ws (sPar i j r) ρ μ E ↔ Wa r ρ μ fun ds μ1 => ∃ x y, ds = [x, y] ∧ E.nx ((ρ.set i (some x)).set j (some y)) μ1 := by
  unfold Ws sPar Wa; rw [bsW]
  refine exists_congr fun x => exists_congr fun μ1 => and_congr_right fun _ => ?_
  split
  · exact ⟨fun q => ⟨_, _, rfl, q⟩, fun ⟨x, y, e, q⟩ => by simp only [List.cons.injEq, and_true] at e; obtain ⟨rfl, rfl⟩ := e; exact q⟩
  · rename_i h
    exact ⟨False.elim, fun ⟨x, y, e, _⟩ => (h _ _ e).elim⟩
@[simp] theorem ws_par3 {i j l : Nat} : Ws (sPar3 i j l r) ρ μ E ↔ Wa r ρ μ fun ds μ1 => ∃ x y z, ds = [x, y, z] ∧ E.nx (((ρ.set i (some x)).set j (some y)).set l (some z)) μ1 := by
  unfold Ws sPar3 Wa; rw [bsW]
  refine exists_congr fun x => exists_congr fun μ1 => and_congr_right fun _ => ?_
  split
  · exact ⟨fun q => ⟨_, _, _, rfl, q⟩, fun ⟨x, y, z, e, q⟩ => by simp only [List.cons.injEq, and_true] at e; obtain ⟨rfl, rfl, rfl⟩ := e; exact q⟩
  · rename_i h
    exact ⟨False.elim, fun ⟨x, y, z, e, _⟩ => (h _ _ _ e).elim⟩
@[simp] theorem ws_fld {cs : List Str} {f : Str} : Ws (sFldD cs f a b) ρ μ E ↔ We b ρ μ fun d μ1 => We a ρ μ1 fun x μ2 => ∃ μ3, setAttr cs f x d μ2 = some μ3 ∧ E.nx ρ μ3 := by
  unfold Ws sFldD We; rw [bsW]
  refine exists_congr fun x => exists_congr fun μ1 => and_congr_right fun _ => ?_
  rw [bsW]
  refine exists_congr fun y => exists_congr fun μ2 => and_congr_right fun _ => ?_
  cases h : setAttr cs f y x μ2 with
  | none => exact ⟨False.elim, fun ⟨_, h', _⟩ => by rw [h] at h'; cases h'⟩
  | some μ3 => exact ⟨fun q => ⟨_, h, q⟩, fun ⟨_, h', q⟩ => by rw [h] at h'; cases h'; exact q⟩
@[simp] theorem ws_for {i : VI} : Ws (sFor i g s) ρ μ E ↔ Wi i ρ μ fun w μ1 => Ws (forL w g s w.items) ρ μ1 E := by
  unfold Ws sFor Wi; rw [bsW]
theorem forL_e0 {w : Wk} : forL w g s [] ρ μ = open Classical in (if w.holds μ then some (.nx ρ μ) else none) := by rw [forL]
theorem forL_e1 {w : Wk} {x : D} {xs : List D} : forL w g s (x :: xs) ρ μ = open Classical in (if w.holds μ then match g x ρ μ with
      | some (ρ1, μ1) => match s ρ1 μ1 with
        | some (.nx ρ2 μ2) => forL w g s xs ρ2 μ2
        | some (.ct ρ2 μ2) => forL w g s xs ρ2 μ2
        | some (.bk ρ2 μ2) => some (.nx ρ2 μ2)
        | r => r
      | none => none
    else none) := by
  rw [forL]
  all_goals (
    by_cases h : w.holds μ
    · rw [if_pos h, if_pos h]
      cases g x ρ μ with
      | none => rfl
      | some p =>
        simp only []
        cases s p.1 p.2 with
        | none => rfl
        | some f => cases f <;> rfl
    · rw [if_neg h, if_neg h])
theorem forL_nil {w : Wk} : Ws (forL w g s []) ρ μ E ↔ w.holds μ ∧ E.nx ρ μ := by
  unfold Ws; rw [forL_e0]
  split <;> simp_all [Wfl]
theorem forL_cons {w : Wk} {x : D} {xs : List D} : Ws (forL w g s (x :: xs)) ρ μ E ↔ w.holds μ ∧ Wg g x ρ μ fun ρ1 μ1 => Ws s ρ1 μ1 ⟨fun ρ2 μ2 => Ws (forL w g s xs) ρ2 μ2 E, E.rt, E.nx, fun ρ2 μ2 => Ws (forL w g s xs) ρ2 μ2 E⟩ := by
  unfold Ws; rw [forL_e1]; unfold Wg
  split
  · rename_i hw
    simp only [hw, true_and]
    cases hg : g x ρ μ with
    | none => exact ⟨False.elim, fun ⟨_, _, h', _⟩ => (by cases h')⟩
    | some p =>
      obtain ⟨ρ1, μ1⟩ := p
      simp only [ex_pair']
      cases hs : s ρ1 μ1 with
      | none => exact Iff.rfl
      | some f => cases f <;> exact Iff.rfl
  · rename_i hw
    exact ⟨False.elim, fun h => absurd h.1 hw⟩
theorem wf_def {n : Nat} {b : VS} {ds : List D} : Wf (runDef n b) ds μ P ↔ Ws b (ds.map some ++ List.replicate (n - ds.length) none) μ ⟨fun _ μ' => Wcl μ .non μ' P, fun d μ' => Wcl μ d μ' P, fun _ _ => False, fun _ _ => False⟩ := by
  unfold Wf runDef Ws
  cases h : b (ds.map some ++ List.replicate (n - ds.length) none) μ with
  | none => simp [Wfl]
  | some f =>
    cases f with
    | nx ρ μ' => exact Iff.rfl
    | rt d μ' => exact Iff.rfl
    | bk _ _ => simp [Wfl]
    | ct _ _ => simp [Wfl]
    | er ρ e μ' =>
      simp only [Wfl, iff_false]
      rintro ⟨d, μ2, h, _⟩
      unfold closeX at h
      split at h
      · split at h <;> cases h
      · cases h
end
end VL
end
section
set_option linter.all false
set_option maxRecDepth 100000
set_option maxHeartbeats 2000000
namespace VL
open PySem L2
section
variable {μ : Mu} {P : D → Mu → Prop}
theorem wp_some {d : D} {μ' : Mu} : Wp (some (d, μ')) P ↔ P d μ' := ex_pair'
theorem wp_none : Wp none P ↔ False := ⟨fun ⟨_, _, h, _⟩ => (by cases h), False.elim⟩
theorem wp_ite {c : Prop} [Decidable c] {d : D} {μ' : Mu} : Wp (if c then some (d, μ') else none) P ↔ c ∧ P d μ' := by
  split
  · rename_i h; rw [wp_some]; simp [h]
  · rename_i h; rw [wp_none]; simp [h]
theorem wp_map {α : Type} {x : Option α} {f : α → D × Mu} : Wp (x.map f) P ↔ ∃ a, x = some a ∧ P (f a).1 (f a).2 := by
  cases x with
  | none => exact ⟨fun ⟨_, _, h, _⟩ => (by cases h), fun ⟨_, h, _⟩ => (by cases h)⟩
  | some a =>
    constructor
    · rintro ⟨d, m, h, q⟩
      have h : f a = (d, m) := Option.some.inj h
      exact ⟨a, rfl, by rw [h]; exact q⟩
    · rintro ⟨a', h, q⟩
      cases h
      exact ⟨(f a).1, (f a).2, rfl, q⟩
@[simp] theorem wp_add {i j : Int} : Wp (opAdd (.int i) (.int j) μ) P ↔ P (.int (i + j)) μ := wp_some
@[simp] theorem wp_addT {xs ys : List D} : Wp (opAdd (.tup xs) (.tup ys) μ) P ↔ xs.length + ys.length ≤ 16777216 ∧ P (.tup (xs ++ ys)) μ := wp_ite
@[simp] theorem wp_addL {xs ys : List D} : Wp (opAdd (.lst xs) (.lst ys) μ) P ↔ xs.length + ys.length ≤ 16777216 ∧ P (.lst (xs ++ ys)) μ := wp_ite
@[simp] theorem wp_sub {i j : Int} : Wp (opSub (.int i) (.int j) μ) P ↔ P (.int (i - j)) μ := wp_some
@[simp] theorem wp_mul {i j : Int} : Wp (opMul (.int i) (.int j) μ) P ↔ ((-(2 ^ 64) < i ∧ i < 2 ^ 64) ∨ (-(2 ^ 64) < j ∧ j < 2 ^ 64)) ∧ P (.int (i * j)) μ := wp_ite
@[simp] theorem wp_mulT {xs : List D} {k : Int} : Wp (opMul (.tup xs) (.int k) μ) P ↔ (-(2 ^ 62) ≤ k ∧ k ≤ 1000 ∧ xs.length ≤ 1000) ∧ P (.tup (repD xs k)) μ := wp_ite
@[simp] theorem wp_mulL {xs : List D} {k : Int} : Wp (opMul (.lst xs) (.int k) μ) P ↔ (-(2 ^ 62) ≤ k ∧ k ≤ 1000 ∧ xs.length ≤ 1000) ∧ P (.lst (repD xs k)) μ := wp_ite
@[simp] theorem wp_mod {i j : Int} : Wp (opMod (.int i) (.int j) μ) P ↔ j ≠ 0 ∧ P (.int (i.fmod j)) μ := wp_ite
@[simp] theorem wp_div {i j : Int} : Wp (opDiv (.int i) (.int j) μ) P ↔ (j ≠ 0 ∧ j.natAbs < 1073741824) ∧ P (.int (i.fdiv j)) μ := wp_ite
@[simp] theorem wp_pow {i j : Int} : Wp (opPow (.int i) (.int j) μ) P ↔ (0 ≤ j ∧ j ≤ 1000000 ∧ i.natAbs < 2 ^ 64) ∧ P (.int (i ^ j.toNat)) μ := wp_ite
@[simp] theorem wp_neg {i : Int} : Wp (opNeg (.int i) μ) P ↔ P (.int (-i)) μ := wp_some
@[simp] theorem wp_lt {i j : Int} : Wp (opLt (.int i) (.int j) μ) P ↔ P (.bl (decide (i < j))) μ := wp_some
@[simp] theorem wp_le {i j : Int} : Wp (opLe (.int i) (.int j) μ) P ↔ P (.bl (decide (i ≤ j))) μ := wp_some
@[simp] theorem wp_gt {i j : Int} : Wp (opGt (.int i) (.int j) μ) P ↔ P (.bl (decide (j < i))) μ := wp_some
@[simp] theorem wp_ge {i j : Int} : Wp (opGe (.int i) (.int j) μ) P ↔ P (.bl (decide (j ≤ i))) μ := wp_some
@[simp] theorem wp_isN {d : D} : Wp (opIs d .non μ) P ↔ P (.bl (match d with | .non => true | _ => false)) μ := by
  cases d <;> exact wp_some
@[simp] theorem wp_isNotN {d : D} : Wp (opIsNot d .non μ) P ↔ P (.bl (match d with | .non => false | _ => true)) μ := by
  cases d <;> exact wp_some
@[simp] theorem wp_isB {d : D} {b : Bool} : Wp (opIs d (.bl b) μ) P ↔ P (.bl (match d with | .bl a => a == b | _ => false)) μ := by
  cases d <;> cases b <;> first | exact wp_some | (rename_i a; cases a <;> exact wp_some)
theorem isObj_no {tab : List (Str × VF)} {nf : Str → Ty → Bool} {g : D → D → Mu → Option (D × Mu)} {d e : D} (h : ∀ c fs, d ≠ .obj c fs) : opOwn tab nf g d e μ = g d e μ := by
  cases d <;> first | rfl | exact absurd rfl (h _ _)
@[simp] theorem own_int {tab : List (Str × VF)} {nf : Str → Ty → Bool} {g : D → D → Mu → Option (D × Mu)} {i : Int} {e : D} : opOwn tab nf g (.int i) e μ = g (.int i) e μ := rfl
@[simp] theorem own_bl {tab : List (Str × VF)} {nf : Str → Ty → Bool} {g : D → D → Mu → Option (D × Mu)} {i : Bool} {e : D} : opOwn tab nf g (.bl i) e μ = g (.bl i) e μ := rfl
@[simp] theorem own_non {tab : List (Str × VF)} {nf : Str → Ty → Bool} {g : D → D → Mu → Option (D × Mu)} {e : D} : opOwn tab nf g .non e μ = g .non e μ := rfl
@[simp] theorem own_str {tab : List (Str × VF)} {nf : Str → Ty → Bool} {g : D → D → Mu → Option (D × Mu)} {i : Str} {e : D} : opOwn tab nf g (.str i) e μ = g (.str i) e μ := rfl
@[simp] theorem own_tup {tab : List (Str × VF)} {nf : Str → Ty → Bool} {g : D → D → Mu → Option (D × Mu)} {xs : List D} {e : D} : opOwn tab nf g (.tup xs) e μ = g (.tup xs) e μ := rfl
@[simp] theorem own_lst {tab : List (Str × VF)} {nf : Str → Ty → Bool} {g : D → D → Mu → Option (D × Mu)} {xs : List D} {e : D} : opOwn tab nf g (.lst xs) e μ = g (.lst xs) e μ := rfl
@[simp] theorem wp_eqI {i j : Int} : Wp (opEq (.int i) (.int j) μ) P ↔ P (.bl (decide (i = j))) μ := by
  show Wp (some (.bl (i == j), μ)) P ↔ _
  rw [wp_some]; exact Iff.rfl
@[simp] theorem wp_neI {i j : Int} : Wp (opNe (.int i) (.int j) μ) P ↔ P (.bl (!decide (i = j))) μ := by
  show Wp (some (.bl (!(i == j)), μ)) P ↔ _
  rw [wp_some]; exact Iff.rfl
theorem wp_eq {d e : D} (h1 : d.plain = true) (h2 : e.plain = true) (h3 : d.dep ≤ 60) (h4 : e.dep ≤ 60) : Wp (opEq d e μ) P ↔ P (.bl (eqD d e)) μ := by
  have r1 : res μ d = d := by cases d <;> first | rfl | (simp [D.plain] at h1)
  have r2 : res μ e = e := by cases e <;> first | rfl | (simp [D.plain] at h2)
  unfold opEq cmpData
  rw [r1, r2, if_pos ⟨h1, h2, h3, h4⟩]
  exact wp_some
theorem wp_ne {d e : D} (h1 : d.plain = true) (h2 : e.plain = true) (h3 : d.dep ≤ 60) (h4 : e.dep ≤ 60) : Wp (opNe d e μ) P ↔ P (.bl (!eqD d e)) μ := by
  have r1 : res μ d = d := by cases d <;> first | rfl | (simp [D.plain] at h1)
  have r2 : res μ e = e := by cases e <;> first | rfl | (simp [D.plain] at h2)
  unfold opNe cmpData
  rw [r1, r2, if_pos ⟨h1, h2, h3, h4⟩]
  exact wp_some
@[simp] theorem wp_ixT {xs : List D} {i : Int} : Wp (opIx (.tup xs) (.int i) μ) P ↔ ∃ d, atI xs i = some d ∧ P d μ := wp_map
@[simp] theorem wp_ixL {xs : List D} {i : Int} : Wp (opIx (.lst xs) (.int i) μ) P ↔ ∃ d, atI xs i = some d ∧ P d μ := wp_map
theorem wp_ix {d : D} {xs : List D} {i : Int} (h : seqOf μ d = some xs) : Wp (opIx d (.int i) μ) P ↔ ∃ d, atI xs i = some d ∧ P d μ := by
  unfold opIx; simp only [h]; exact wp_map
theorem wp_ixK {d : D} {kvs : List (Key × D)} {s : Str} (h : dctOf μ d = some kvs) : Wp (opIx d (.str s) μ) P ↔ ∃ d, lookK kvs (.inr s) = some d ∧ P d μ := by
  unfold opIx; simp only [h]; exact wp_map
@[simp] theorem wp_slT {xs : List D} {lo hi : Option Int} : Wp (opSl (.tup xs) lo hi μ) P ↔ P (.tup (cutD xs lo hi)) μ := wp_some
@[simp] theorem wp_revT {xs : List D} : Wp (opRev (.tup xs) μ) P ↔ P (.tup xs.reverse) μ := wp_some
@[simp] theorem wp_lenT {xs : List D} : Wp (bLen [.tup xs] μ) P ↔ P (.int xs.length) μ := wp_some
@[simp] theorem wp_lenL {xs : List D} : Wp (bLen [.lst xs] μ) P ↔ P (.int xs.length) μ := wp_some
theorem wp_len {d : D} {xs : List D} (h : seqOf μ d = some xs) : Wp (bLen [d] μ) P ↔ P (.int xs.length) μ := by
  unfold bLen; simp only [h]; exact wp_some
@[simp] theorem wp_int {i : Int} : Wp (bInt [.int i] μ) P ↔ P (.int i) μ := wp_some
@[simp] theorem wp_max2 {i j : Int} : Wp (bMax [.int i, .int j] μ) P ↔ P (.int (max i j)) μ := by
  show Wp (some (.int (if j > i then j else i), μ)) P ↔ _
  rw [wp_some, show (if j > i then j else i) = max i j by split <;> omega]
@[simp] theorem wp_min2 {i j : Int} : Wp (bMin [.int i, .int j] μ) P ↔ P (.int (min i j)) μ := by
  show Wp (some (.int (if j < i then j else i), μ)) P ↔ _
  rw [wp_some, show (if j < i then j else i) = min i j by split <;> omega]
theorem wp_sum {d : D} {xs : List D} {ns : List Int} (h : seqOf μ d = some xs) (hn : intsOf xs = some ns) : Wp (bSum [d] μ) P ↔ P (.int ns.sum) μ := by
  unfold bSum; simp only [h, hn]; exact wp_some
theorem wp_tuple {d : D} {xs : List D} (h : seqOf μ d = some xs) : Wp (bTuple [d] μ) P ↔ P (.tup xs) μ := by
  unfold bTuple; simp only [h]; exact wp_some
theorem wp_list {d : D} {xs : List D} (h : seqOf μ d = some xs) : Wp (bList [d] μ) P ↔ P (.lst xs) μ := by
  unfold bList; simp only [h]; exact wp_some
@[simp] theorem wp_tupleL {xs : List D} : Wp (bTuple [.lst xs] μ) P ↔ P (.tup xs) μ := wp_some
@[simp] theorem wp_tupleT {xs : List D} : Wp (bTuple [.tup xs] μ) P ↔ P (.tup xs) μ := wp_some
@[simp] theorem wp_listT {xs : List D} : Wp (bList [.tup xs] μ) P ↔ P (.lst xs) μ := wp_some
@[simp] theorem wp_listL {xs : List D} : Wp (bList [.lst xs] μ) P ↔ P (.lst xs) μ := wp_some
theorem wp_all {d : D} {xs : List D} {bs : List Bool} (h : lstOf μ d = some xs) (hn : boolsOf xs = some bs) : Wp (bAll [d] μ) P ↔ P (.bl (bs.all id)) μ := by
  unfold bAll; simp only [h, hn]; exact wp_some
theorem wp_any {d : D} {xs : List D} {bs : List Bool} (h : lstOf μ d = some xs) (hn : boolsOf xs = some bs) : Wp (bAny [d] μ) P ↔ P (.bl (bs.any id)) μ := by
  unfold bAny; simp only [h, hn]; exact wp_some
end
@[simp] theorem intsOf_map (ns : List Int) : intsOf (ns.map D.int) = some ns := by
  induction ns with
  | nil => rfl
  | cons n ns ih => simp [intsOf, ih]
@[simp] theorem boolsOf_map (ns : List Bool) : boolsOf (ns.map D.bl) = some ns := by
  induction ns with
  | nil => rfl
  | cons n ns ih => simp [boolsOf, ih]
theorem boolsOf_map' {α : Type} (f : α → Bool) (xs : List α) : boolsOf (xs.map fun x => D.bl (f x)) = some (xs.map f) := by
  induction xs with
  | nil => rfl
  | cons n ns ih => simp [boolsOf, ih]
theorem intsOf_map' {α : Type} (f : α → Int) (xs : List α) : intsOf (xs.map fun x => D.int (f x)) = some (xs.map f) := by
  induction xs with
  | nil => rfl
  | cons n ns ih => simp [intsOf, ih]
section
variable {w : Wk} {g : VG} {t : VT} {e : VE} {ρ : Ro} {vs : List Nat} {s : VS} {E : Ed}
theorem comp_inv {Q : List D → Mu → Prop} (J : List D → List D → Mu → Prop)
    (step : ∀ x xs acc μ, J (x :: xs) acc μ → w.holds μ ∧ Wg g x (wipe ρ vs) μ fun ρ1 μ1 => Wt t ρ1 μ1 fun k μ2 => if k = true then We e ρ1 μ2 fun d μ3 => J xs (acc ++ [d]) μ3 else J xs acc μ2)
    (fin : ∀ acc μ, J [] acc μ → w.holds μ ∧ Q acc μ) : ∀ (xs acc : List D) (μ : Mu), J xs acc μ → Wl (compL w g t e ρ vs xs acc μ) Q := by
  intro xs
  induction xs with
  | nil => intro acc μ h; exact compL_nil.mpr (fin acc μ h)
  | cons x xs ih =>
    intro acc μ h
    refine compL_cons.mpr ?_
    obtain ⟨h1, ρ1, μ1, h2, k, μ2, h3, h4⟩ := step x xs acc μ h
    refine ⟨h1, ρ1, μ1, h2, k, μ2, h3, ?_⟩
    cases k with
    | false => exact ih acc μ2 h4
    | true => obtain ⟨d, μ3, h5, h6⟩ := h4; exact ⟨d, μ3, h5, ih _ μ3 h6⟩
/-- each item by itself, the store as it was -/
theorem comp_map {Q : List D → Mu → Prop} {μ : Mu} (f : D → D) (hw : w.holds μ) {xs acc : List D}
    (h : ∀ x ∈ xs, Wg g x (wipe ρ vs) μ fun ρ1 μ1 => Wt t ρ1 μ1 fun k μ2 => k = true ∧ We e ρ1 μ2 fun d μ3 => d = f x ∧ μ3 = μ) (q : Q (acc ++ xs.map f) μ) : Wl (compL w g t e ρ vs xs acc μ) Q := by
  induction xs generalizing acc with
  | nil => exact compL_nil.mpr ⟨hw, by simpa using q⟩
  | cons x xs ih =>
    refine compL_cons.mpr ⟨hw, ?_⟩
    obtain ⟨ρ1, μ1, h2, k, μ2, h3, rfl, d, μ3, h5, rfl, rfl⟩ := h x (by simp)
    exact ⟨ρ1, μ1, h2, true, μ2, h3, f x, μ3, h5, ih (fun y hy => h y (by simp [hy])) (by simpa using q)⟩
/-- .. only those that p takes -/
theorem comp_filter {Q : List D → Mu → Prop} {μ : Mu} (p : D → Bool) (f : D → D) (hw : w.holds μ) {xs acc : List D}
    (h : ∀ x ∈ xs, Wg g x (wipe ρ vs) μ fun ρ1 μ1 => Wt t ρ1 μ1 fun k μ2 => k = p x ∧ μ2 = μ ∧ (k = true → We e ρ1 μ2 fun d μ3 => d = f x ∧ μ3 = μ)) (q : Q (acc ++ (xs.filter p).map f) μ) : Wl (compL w g t e ρ vs xs acc μ) Q := by
  induction xs generalizing acc with
  | nil => exact compL_nil.mpr ⟨hw, by simpa using q⟩
  | cons x xs ih =>
    refine compL_cons.mpr ⟨hw, ?_⟩
    obtain ⟨ρ1, μ1, h2, k, μ2, h3, rfl, rfl, h4⟩ := h x (by simp)
    refine ⟨ρ1, μ1, h2, p x, μ2, h3, ?_⟩
    cases hp : p x with
    | false =>
      simp only [Bool.false_eq_true, if_false]
      exact ih (fun y hy => h y (by simp [hy])) (by simpa [hp] using q)
    | true =>
      simp only [if_true]
      obtain ⟨d, μ3, h5, rfl, rfl⟩ := h4 hp
      exact ⟨f x, _, h5, ih (fun y hy => h y (by simp [hy])) (by simpa [hp] using q)⟩
theorem for_inv (J : List D → Ro → Mu → Prop)
    (step : ∀ x xs ρ μ, J (x :: xs) ρ μ → w.holds μ ∧ Wg g x ρ μ fun ρ1 μ1 => Ws s ρ1 μ1 ⟨J xs, E.rt, E.nx, J xs⟩)
    (fin : ∀ ρ μ, J [] ρ μ → w.holds μ ∧ E.nx ρ μ) : ∀ (xs : List D) (ρ : Ro) (μ : Mu), J xs ρ μ → Ws (forL w g s xs) ρ μ E := by
  intro xs
  induction xs with
  | nil => intro ρ μ h; exact forL_nil.mpr (fin ρ μ h)
  | cons x xs ih =>
    intro ρ μ h
    refine forL_cons.mpr ?_
    obtain ⟨h1, ρ1, μ1, h2, h3⟩ := step x xs ρ μ h
    refine ⟨h1, ρ1, μ1, h2, ?_⟩
    unfold Ws at h3 ⊢
    cases hs : s ρ1 μ1 with
    | none => rw [hs] at h3; exact h3.elim
    | some f =>
      rw [hs] at h3 ⊢
      cases f with
      | nx ρ2 μ2 => exact ih _ _ h3
      | rt d μ2 => exact h3
      | bk ρ2 μ2 => exact h3
      | ct ρ2 μ2 => exact ih _ _ h3
      | er _ _ _ => exact h3.elim
end
@[simp] theorem holds_nil {items : List D} {μ : Mu} : Wk.holds ⟨[], items⟩ μ := fun _ h => by cases h
mutual
theorem und_mono {m n : Nat} (h : m ≤ n) : ∀ d : D, d.und m = true → d.und n = true
  | .non, _ => rfl
  | .bl _, _ => rfl
  | .int _, _ => rfl
  | .str _, _ => rfl
  | .ty _, _ => rfl
  | .glob _, _ => rfl
  | .tup xs, q => by unfold D.und at q ⊢; exact undAll_mono h xs q
  | .lst xs, q => by unfold D.und at q ⊢; exact undAll_mono h xs q
  | .scr xs, q => by unfold D.und at q ⊢; exact undAll_mono h xs q
  | .obj _ fs, q => by unfold D.und at q ⊢; exact undF_mono h fs q
  | .ref k, q => by unfold D.und at q ⊢; exact decide_eq_true (Nat.lt_of_lt_of_le (of_decide_eq_true q) h)
theorem undAll_mono {m n : Nat} (h : m ≤ n) : ∀ ds : List D, undAll m ds = true → undAll n ds = true
  | [], _ => rfl
  | d :: ds, q => by
    unfold undAll at q ⊢
    rw [Bool.and_eq_true] at q ⊢
    exact ⟨und_mono h d q.1, undAll_mono h ds q.2⟩
theorem undF_mono {m n : Nat} (h : m ≤ n) : ∀ ds : List (Str × D), undF m ds = true → undF n ds = true
  | [], _ => rfl
  | (_, d) :: ds, q => by
    unfold undF at q ⊢
    rw [Bool.and_eq_true] at q ⊢
    exact ⟨und_mono h d q.1, undF_mono h ds q.2⟩
end
mutual
theorem frz_und {n : Nat} {lk : Nat → Option D} (hl : ∀ k, k < n → lk k = some (.ref k)) : ∀ d : D, d.und n = true → frz lk d = some d
  | .non, _ => rfl
  | .bl _, _ => rfl
  | .int _, _ => rfl
  | .str _, _ => rfl
  | .ty _, _ => rfl
  | .glob _, _ => rfl
  | .tup xs, q => by unfold D.und at q; unfold frz; rw [frzAll_und hl xs q]; rfl
  | .lst xs, q => by unfold D.und at q; unfold frz; rw [frzAll_und hl xs q]; rfl
  | .scr xs, q => by unfold D.und at q; unfold frz; rw [frzAll_und hl xs q]; rfl
  | .obj c fs, q => by unfold D.und at q; unfold frz; rw [frzF_und hl fs q]; rfl
  | .ref k, q => by unfold D.und at q; unfold frz; exact hl k (of_decide_eq_true q)
theorem frzAll_und {n : Nat} {lk : Nat → Option D} (hl : ∀ k, k < n → lk k = some (.ref k)) : ∀ ds : List D, undAll n ds = true → frzAll lk ds = some ds
  | [], _ => rfl
  | d :: ds, q => by
    unfold undAll at q
    rw [Bool.and_eq_true] at q
    unfold frzAll
    rw [frz_und hl d q.1, frzAll_und hl ds q.2]
theorem frzF_und {n : Nat} {lk : Nat → Option D} (hl : ∀ k, k < n → lk k = some (.ref k)) : ∀ ds : List (Str × D), undF n ds = true → frzF lk ds = some ds
  | [], _ => rfl
  | (x, d) :: ds, q => by
    unfold undF at q
    rw [Bool.and_eq_true] at q
    unfold frzF
    rw [frz_und hl d q.1, frzF_und hl ds q.2]
end
theorem lkOf_low {μ : Mu} {n k : Nat} (h : k < n) : lkOf μ n k = some (.ref k) := by unfold lkOf lkS; rw [if_pos h]
theorem keeps_refl {μ : Mu} : Keeps μ μ := fun _ _ _ h => .inl h
section
variable {μ μ' : Mu} {P : D → Mu → Prop} {d : D}
theorem wcl_und (hk : Keeps μ μ') (hl : μ.length ≤ μ'.length) (hu : d.und μ.length = true) (q : P d (μ'.take μ.length)) : Wcl μ d μ' P := by
  refine ⟨d, μ'.take μ.length, ?_, q⟩
  unfold close
  rw [if_pos ⟨hk, hl⟩, frz_und (fun k h => lkOf_low h) d hu]
theorem wcl_same (hu : d.und μ.length = true) (q : P d μ) : Wcl μ d μ P := wcl_und keeps_refl (Nat.le_refl _) hu (by rw [List.take_length]; exact q)
/-- a list of the call's own is handed back -/
theorem wcl_own {n : Nat} {xs : List D} (hk : Keeps μ μ') (hn : μ.length ≤ n) (he : μ'[n]? = some (.lst xs)) (hu : undAll μ.length xs = true) (q : P (.lst xs) (μ'.take μ.length)) : Wcl μ (.ref n) μ' P := by
  have hlt := (List.getElem?_eq_some_iff.mp he).1
  refine ⟨.lst xs, μ'.take μ.length, ?_, q⟩
  unfold close
  rw [if_pos ⟨hk, by omega⟩]
  have : frz (lkOf μ' μ.length) (.ref n) = some (.lst xs) := by
    unfold frz lkOf
    show lkS μ' μ.length _ n = _
    unfold lkS
    rw [if_neg (by omega), he]
    show (frzAll _ xs).map D.lst = _
    rw [frzAll_und (n := μ.length) (fun k h => by rw [if_pos h]) xs hu]
    rfl
  rw [this]
/-- a dict or an instance of the call's own is handed on -/
theorem wcl_hand {n : Nat} {o : MO} (ho : ∀ xs, o ≠ .lst xs) (hk : Keeps μ μ') (hn : μ.length ≤ n) (he : μ'[n]? = some o) (hu : o.und μ.length = true) (q : P (.ref μ.length) (μ'.take μ.length ++ [o])) : Wcl μ (.ref n) μ' P := by
  have hlt := (List.getElem?_eq_some_iff.mp he).1
  refine ⟨_, _, ?_, q⟩
  unfold close
  rw [if_pos ⟨hk, by omega⟩]
  have : frz (lkOf μ' μ.length) (.ref n) = none := by
    unfold frz lkOf
    show lkS μ' μ.length _ n = _
    unfold lkS
    rw [if_neg (by omega), he]
    cases o with
    | lst xs => exact absurd rfl (ho xs)
    | dct _ => rfl
    | ins _ _ => rfl
  rw [this]
  show handOn μ.length (.ref n) μ' = _
  unfold handOn
  simp only []
  rw [if_pos hn, he]
  simp only []
  rw [if_pos hu]
end
end VL
end
section
set_option linter.all false
set_option maxRecDepth 100000
set_option maxHeartbeats 4000000
namespace VL
open PySem L2
def topS (i : Nat) : Stmt := PySem.Challenge.pw_sumtables_k11_whole_tight_single_lines.main.body.getD i (.Pass ⟨0, 0, 0, 0⟩)
def inS (i j : Nat) : Stmt := match topS i with
  | .ClassDef _ _ _ b _ _ _ _ _ _ _ => b.getD j (.Pass ⟨0, 0, 0, 0⟩)
  | _ => .Pass ⟨0, 0, 0, 0⟩
def lawCls : List Str := ["Sheet"]
def kitT : Ty → Ty → Option Bool := kitL lawCls
def nfT : Str → Ty → Bool := nfL lawCls
def nfN : Str → Ty → Bool := fun _ _ => false
noncomputable def f_law_pen : VF := runDef 3 (sSeq (sAsg (vC (.int 0)) (VL.gName 1))
  (sSeq (sFor (iSeq (vVar 0)) (VL.gName 2)
    (sAsg (vOp opMod (vBlt bInt (aCons (vOp opAdd (vOp opMul (vVar 1) (vC (.int 47))) (vVar 2)) aNil)) (vC (.int 1000000007))) (VL.gName 1)))
  (sRet (vDct [.inr "cells", .inr "at", .inr "digits", .inr "count", .inr "fold"] (aList [(vBlt bList (aCons (vVar 0) aNil)), (vC (.int 0)), (vC (.int 0)), (vC (.int 0)), (vVar 1)])))))
noncomputable def f_law_draw : VF := runDef 5 (sSeq (sAsg (vOp opAdd (vOp opIx (vVar 0) (vC (.str "count"))) (vC (.int 1))) (VL.gSub (vVar 0) (vC (.str "count"))))
  (sSeq (sIf (VL.tAnd (tVal (vOp (opOwn [] nfN opEq) (vOp opIx (vVar 0) (vC (.str "digits"))) (vC (.int 0)))) (tVal (vOp opLt (vOp opIx (vVar 0) (vC (.str "at"))) (vBlt bLen (aCons (vOp opIx (vVar 0) (vC (.str "cells"))) aNil)))))
    (sSeq (sAsg (vOp opIx (vOp opIx (vVar 0) (vC (.str "cells"))) (vOp opIx (vVar 0) (vC (.str "at")))) (VL.gName 2))
    (sSeq (sAsg (vOp opAdd (vOp opIx (vVar 0) (vC (.str "at"))) (vC (.int 1))) (VL.gSub (vVar 0) (vC (.str "at"))))
    (sIf (tVal (vOp opGe (vVar 2) (vOp opPow (vC (.int 10)) (vC (.int 18)))))
      (sAsg (vOp opSub (vVar 2) (vOp opPow (vC (.int 10)) (vC (.int 18)))) (VL.gSub (vVar 0) (vC (.str "digits"))))
      (sAsg (vOp opMod (vBlt bInt (aCons (vOp opAdd (vOp opMul (vOp opIx (vVar 0) (vC (.str "fold"))) (vC (.int 69069))) (vVar 2)) aNil)) (vC (.int 2147483587))) (VL.gSub (vVar 0) (vC (.str "fold")))))))
    sPass)
  (sSeq (sIf (tVal (vOp opGt (vOp opIx (vVar 0) (vC (.str "digits"))) (vC (.int 0))))
    (sSeq (sAsg (vOp opMod (vBlt bInt (aCons (vOp opIx (vVar 0) (vC (.str "digits"))) aNil)) (vVar 1)) (VL.gName 3))
    (sSeq (sAsg (vOp opDiv (vOp opIx (vVar 0) (vC (.str "digits"))) (vVar 1)) (VL.gSub (vVar 0) (vC (.str "digits"))))
    (sRet (vVar 3))))
    sPass)
  (sSeq (sAsg (vOp opMod (vBlt bInt (aCons (vOp opAdd (vOp opAdd (vOp opMul (vOp opIx (vVar 0) (vC (.str "fold"))) (vC (.int 48271))) (vOp opMul (vOp opIx (vVar 0) (vC (.str "count"))) (vC (.int 7919)))) (vC (.int 13))) aNil)) (vC (.int 2147483647))) (VL.gName 4))
  (sSeq (sAsg (vOp opMod (vBlt bInt (aCons (vOp opAdd (vOp opAdd (vOp opMul (vVar 4) (vVar 4)) (vOp opMul (vC (.int 31)) (vVar 4))) (vOp opIx (vVar 0) (vC (.str "count")))) aNil)) (vC (.int 2147483629))) (VL.gName 4))
  (sSeq (sAsg (vOp opMod (vBlt bInt (aCons (vOp opAdd (vOp opMul (vVar 4) (vC (.int 16807))) (vC (.int 7))) aNil)) (vC (.int 2147483647))) (VL.gSub (vVar 0) (vC (.str "fold"))))
  (sRet (vOp opMod (vBlt bInt (aCons (vOp opDiv (vVar 4) (vC (.int 64))) aNil)) (vVar 1)))))))))
noncomputable def f_law_about : VF := runDef 3 (sRet (vTup (aCons (vBlt bMax (aCons (vC (.int 0)) (aCons (vOp opSub (vVar 1) (vCall f_law_draw (aCons (vVar 0) (aCons (vVar 2) aNil)))) aNil))) (aCons (vOp opAdd (vVar 1) (vCall f_law_draw (aCons (vVar 0) (aCons (vVar 2) aNil)))) aNil))))
noncomputable def f_law_turned : VF := runDef 3 (sRet (vBlt bTuple (aCons (vComp (iRg1 (aCons (vBlt bLen (aCons (vOp opIx (vVar 0) (vC (.int 0))) aNil)) aNil)) (VL.gName 1) VL.tYes (vBlt bTuple (aCons (vComp (iSeq (vVar 0)) (VL.gName 2) VL.tYes (vOp opIx (vVar 2) (vVar 1)) [2]) aNil)) [1]) aNil)))
noncomputable def f_law_single : VF := runDef 10 (sSeq (sAsg (vBlt bTuple (aCons (vComp (iRg1 (aCons (vVar 1) aNil)) (VL.gName 4) VL.tYes (vCall f_law_draw (aCons (vVar 0) (aCons (vC (.int 7)) aNil))) [4]) aNil)) (VL.gName 3))
  (sSeq (sAsg (vTup (aCons (vBlt bTuple (aCons (vComp (iSeq (vVar 3)) (VL.gName 6) VL.tYes (vBlt bMax (aCons (vC (.int 0)) (aCons (vOp opSub (vVar 6) (vCall f_law_draw (aCons (vVar 0) (aCons (vC (.int 4)) aNil)))) aNil))) [6]) aNil)) aNil)) (VL.gName 5))
  (sSeq (sAsg (vTup (aCons (vBlt bTuple (aCons (vComp (iSeq (vVar 3)) (VL.gName 6) VL.tYes (vIf (tVal (vOp (opOwn [] nfN opEq) (vCall f_law_draw (aCons (vVar 0) (aCons (vC (.int 4)) aNil))) (vC (.int 0)))) (vC .non) (vOp opAdd (vVar 6) (vCall f_law_draw (aCons (vVar 0) (aCons (vC (.int 4)) aNil))))) [6]) aNil)) aNil)) (VL.gName 7))
  (sSeq (sPar 8 9 (aCons (vTup (aCons (vCall f_law_about (aCons (vVar 0) (aCons (vBlt bMax (aCons (vC (.int 0)) (aCons (vOp opSub (vOp opAdd (vBlt bSum (aCons (vVar 3) aNil)) (vCall f_law_draw (aCons (vVar 0) (aCons (vC (.int 9)) aNil)))) (vC (.int 4))) aNil))) (aCons (vC (.int 3)) aNil)))) aNil)) (aCons (vBlt bTuple (aCons (vComp (iSeq (vVar 3)) (VL.gName 6) VL.tYes (vCall f_law_about (aCons (vVar 0) (aCons (vVar 6) (aCons (vC (.int 4)) aNil)))) [6]) aNil)) aNil)))
  (sRet (vIf (tTru (vVar 2)) (vTup (aCons (vCall f_law_turned (aCons (vVar 5) aNil)) (aCons (vCall f_law_turned (aCons (vVar 7) aNil)) (aCons (vVar 9) (aCons (vVar 8) aNil))))) (vTup (aCons (vVar 5) (aCons (vVar 7) (aCons (vVar 8) (aCons (vVar 9) aNil)))))))))))
noncomputable def f_law_row_tables : VF := runDef 11 (sSeq (sPar 3 4 (aCons (vLst (aCons (vTup aNil) aNil)) (aCons (vOp opIx (vOp opIx (vOp opIx (vVar 0) (vC (.int 2))) (vVar 1)) (vC (.int 1))) aNil)))
  (sSeq (sFor (iZp2 (aCons (vOp opIx (vOp opIx (vVar 0) (vC (.int 0))) (vVar 1)) (aCons (vOp opIx (vOp opIx (vVar 0) (vC (.int 1))) (vVar 1)) aNil))) (VL.gTup 2 (VL.gCons (VL.gName 5) (VL.gCons (VL.gName 6) VL.gNil)))
    (sSeq (sAsg (vBox (vLst aNil)) (VL.gName 7))
    (sSeq (sFor (iSeq (vVar 3)) (VL.gName 8)
      (sSeq (sAsg (vIf (tVal (vOp opIs (vVar 6) (vC .non))) (vOp opSub (vVar 4) (vBlt bSum (aCons (vVar 8) aNil))) (vBlt bMin (aCons (vVar 6) (aCons (vOp opSub (vVar 4) (vBlt bSum (aCons (vVar 8) aNil))) aNil)))) (VL.gName 9))
      (sDrop (vMet mExtend (vVar 7) (vComp (iRg2 (aCons (vVar 5) (aCons (vOp opAdd (vVar 9) (vC (.int 1))) aNil))) (VL.gName 10) VL.tYes (vOp opAdd (vVar 8) (vTup (aCons (vVar 10) aNil))) [10])))))
    (sAsg (vVar 7) (VL.gName 3)))))
  (sRet (vComp (iSeq (vVar 3)) (VL.gName 8) (tVal (vOp opGe (vBlt bSum (aCons (vVar 8) aNil)) (vOp opIx (vOp opIx (vOp opIx (vVar 0) (vC (.int 2))) (vVar 1)) (vC (.int 0))))) (vVar 8) [8]))))
noncomputable def f_law_in : VF := runDef 3 (sRet (vAnd (vOp opGe (vVar 0) (vVar 1)) (vOr (vOp opIs (vVar 2) (vC .non)) (vOp opLe (vVar 0) (vVar 2)))))
noncomputable def f_law_wrong : VF := runDef 8 (sSeq (sFor (iRg1 (aCons (vBlt bLen (aCons (vVar 1) aNil)) aNil)) (VL.gName 2)
    (sFor (iRg1 (aCons (vBlt bLen (aCons (vOp opIx (vVar 1) (vC (.int 0))) aNil)) aNil)) (VL.gName 3)
      (sIf (VL.tNot (tTru (vCall f_law_in (aCons (vOp opIx (vOp opIx (vVar 1) (vVar 2)) (vVar 3)) (aCons (vOp opIx (vOp opIx (vOp opIx (vVar 0) (vC (.int 0))) (vVar 2)) (vVar 3)) (aCons (vOp opIx (vOp opIx (vOp opIx (vVar 0) (vC (.int 1))) (vVar 2)) (vVar 3)) aNil))))))
        (sRet (vTup (aCons (vC (.str "cell")) (aCons (vVar 2) (aCons (vVar 3) aNil)))))
        sPass)))
  (sSeq (sFor (iSeq (vLst (aCons (vTup (aCons (vC (.str "row")) (aCons (vVar 1) (aCons (vOp opIx (vVar 0) (vC (.int 2))) aNil)))) (aCons (vTup (aCons (vC (.str "column")) (aCons (vCall f_law_turned (aCons (vVar 1) aNil)) (aCons (vOp opIx (vVar 0) (vC (.int 3))) aNil)))) aNil)))) (VL.gTup 3 (VL.gCons (VL.gName 4) (VL.gCons (VL.gName 5) (VL.gCons (VL.gName 6) VL.gNil))))
    (sFor (iRg1 (aCons (vBlt bLen (aCons (vVar 5) aNil)) aNil)) (VL.gName 7)
      (sIf (VL.tNot (tVal (vChain opLe opLe (vOp opIx (vOp opIx (vVar 6) (vVar 7)) (vC (.int 0))) (vBlt bSum (aCons (vOp opIx (vVar 5) (vVar 7)) aNil)) (vOp opIx (vOp opIx (vVar 6) (vVar 7)) (vC (.int 1))))))
        (sRet (vTup (aCons (vVar 4) (aCons (vVar 7) aNil))))
        sPass)))
  (sRet (vC .non))))
noncomputable def f_law_fillings : VF := runDef 11 (sSeq (sAsg (vLst (aCons (vTup aNil) aNil)) (VL.gName 2))
  (sSeq (sFor (iRg1 (aCons (vBlt bLen (aCons (vOp opIx (vVar 0) (vC (.int 0))) aNil)) aNil)) (VL.gName 3)
    (sSeq (sPar 4 5 (aCons (vCall f_law_row_tables (aCons (vVar 0) (aCons (vVar 3) (aCons (vVar 1) aNil)))) (aCons (vBox (vLst aNil)) aNil)))
    (sSeq (sFor (iSeq (vVar 2)) (VL.gName 6)
      (sFor (iSeq (vVar 4)) (VL.gName 7)
        (sSeq (sAsg (vOp opAdd (vVar 6) (vTup (aCons (vVar 7) aNil))) (VL.gName 8))
        (sIf (tVal (vOp (opOwn [] nfN opEq) (vComp (iZp2 (aCons (vCall f_law_turned (aCons (vVar 8) aNil)) (aCons (vOp opIx (vVar 0) (vC (.int 3))) aNil))) (VL.gTup 2 (VL.gCons (VL.gName 9) (VL.gCons (VL.gName 10) VL.gNil))) (tVal (vOp opGt (vBlt bSum (aCons (vVar 9) aNil)) (vOp opIx (vVar 10) (vC (.int 1))))) (vC (.int 1)) [9, 10]) (vLst aNil)))
          (sDrop (vMet mAppend (vVar 5) (vVar 8)))
          sPass))))
    (sSeq (sAsg (vVar 5) (VL.gName 2))
    (sIf (tVal (vOp opGt (vBlt bLen (aCons (vVar 2) aNil)) (vVar 1)))
      (sRet (vC .non))
      sPass)))))
  (sRet (vComp (iSeq (vVar 2)) (VL.gName 6) (tVal (vOp opIs (vCall f_law_wrong (aCons (vVar 0) (aCons (vVar 6) aNil))) (vC .non))) (vVar 6) [6]))))
noncomputable def f_shape_of : VF := runDef 1 (sRet (vTup (aCons (vBlt bLen (aCons (vUn (opAttr ["Sheet"] "lows") (vVar 0)) aNil)) (aCons (vBlt bLen (aCons (vOp opIx (vUn (opAttr ["Sheet"] "lows") (vVar 0)) (vC (.int 0))) aNil)) aNil))))
noncomputable def f_lines_many : VF := runDef 2 (sRet (vOp opIx (vCall f_shape_of (aCons (vVar 0) aNil)) (vIf (tVal (vOp (opOwn [] nfN opEq) (vVar 1) (vC (.str "row")))) (vC (.int 0)) (vC (.int 1)))))
noncomputable def f_line_cells : VF := runDef 7 (sSeq (sAsg (vCall f_shape_of (aCons (vVar 0) aNil)) (VL.gTup 2 (VL.gCons (VL.gName 3) (VL.gCons (VL.gName 4) VL.gNil))))
  (sSeq (sIf (tVal (vOp (opOwn [] nfN opEq) (vVar 1) (vC (.str "row"))))
    (sRet (vComp (iRg1 (aCons (vVar 4) aNil)) (VL.gName 5) VL.tYes (vTup (aCons (vVar 2) (aCons (vVar 5) aNil))) [5]))
    sPass)
  (sRet (vComp (iRg1 (aCons (vVar 3) aNil)) (VL.gName 6) VL.tYes (vTup (aCons (vVar 6) (aCons (vVar 2) aNil))) [6]))))
noncomputable def f_all_steps : VF := runDef 6 (sSeq (sAsg (vBox (vLst aNil)) (VL.gName 1))
  (sSeq (sFor (iSeq (vC (.tup [.str "column", .str "row"]))) (VL.gName 2)
    (sFor (iRg1 (aCons (vCall f_lines_many (aCons (vVar 0) (aCons (vVar 2) aNil))) aNil)) (VL.gName 3)
      (sFor (iRg2 (aCons (vC (.int (-1))) (aCons (vBlt bLen (aCons (vCall f_line_cells (aCons (vVar 0) (aCons (vVar 2) (aCons (vVar 3) aNil)))) aNil)) aNil))) (VL.gName 4)
        (sDrop (vMet mExtend (vVar 1) (vComp (iSeq (vC (.tup [.str "high", .str "low"]))) (VL.gName 5) VL.tYes (vTup (aCons (vVar 2) (aCons (vVar 3) (aCons (vVar 4) (aCons (vVar 5) aNil))))) [5]))))))
  (sRet (vVar 1))))
noncomputable def f_span_by : VF := runDef 3 (sRet (vIf (tVal (vOp (opOwn [] nfN opEq) (vVar 1) (vC (.str "row")))) (vOp opIx (vUn (opAttr ["Sheet"] "rows") (vVar 0)) (vVar 2)) (vOp opIx (vUn (opAttr ["Sheet"] "columns") (vVar 0)) (vVar 2))))
noncomputable def f_bounds_by : VF := runDef 7 (sSeq (sAsg (vSl (vVar 1) oNone (oSome (vC (.int 3)))) (VL.gTup 3 (VL.gCons (VL.gName 2) (VL.gCons (VL.gName 3) (VL.gCons (VL.gName 4) VL.gNil)))))
  (sSeq (sIf (tVal (vOp (opOwn [] nfN opEq) (vVar 4) (vC (.int (-1)))))
    (sRet (vCall f_span_by (aCons (vVar 0) (aCons (vVar 2) (aCons (vVar 3) aNil)))))
    sPass)
  (sSeq (sAsg (vOp opIx (vCall f_line_cells (aCons (vVar 0) (aCons (vVar 2) (aCons (vVar 3) aNil)))) (vVar 4)) (VL.gTup 2 (VL.gCons (VL.gName 5) (VL.gCons (VL.gName 6) VL.gNil))))
  (sRet (vTup (aCons (vOp opIx (vOp opIx (vUn (opAttr ["Sheet"] "lows") (vVar 0)) (vVar 5)) (vVar 6)) (aCons (vOp opIx (vOp opIx (vUn (opAttr ["Sheet"] "highs") (vVar 0)) (vVar 5)) (vVar 6)) aNil)))))))
noncomputable def f_sum_or_none : VF := runDef 2 (sRet (vIf (tTru (vBlt bAny (aCons (vComp (iSeq (vVar 0)) (VL.gName 1) VL.tYes (vOp opIs (vVar 1) (vC .non)) [1]) aNil))) (vC .non) (vBlt bSum (aCons (vVar 0) aNil))))
noncomputable def f_others_by : VF := runDef 10 (sSeq (sAsg (vSl (vVar 1) oNone (oSome (vC (.int 3)))) (VL.gTup 3 (VL.gCons (VL.gName 3) (VL.gCons (VL.gName 4) (VL.gCons (VL.gName 5) VL.gNil)))))
  (sSeq (sAsg (vCall f_line_cells (aCons (vVar 0) (aCons (vVar 3) (aCons (vVar 4) aNil)))) (VL.gName 6))
  (sRet (vComp (iEnum (aCons (vVar 6) aNil)) (VL.gTup 2 (VL.gCons (VL.gName 7) (VL.gCons (VL.gTup 2 (VL.gCons (VL.gName 8) (VL.gCons (VL.gName 9) VL.gNil))) VL.gNil))) (tVal (vOp (opOwn [] nfN opNe) (vVar 7) (vVar 5))) (vOp opIx (vOp opIx (vVar 2) (vVar 8)) (vVar 9)) [7, 8, 9]))))
noncomputable def f_number_by : VF := runDef 9 (sSeq (sAsg (vVar 1) (VL.gTup 4 (VL.gCons (VL.gName 2) (VL.gCons (VL.gName 3) (VL.gCons (VL.gName 4) (VL.gCons (VL.gName 5) VL.gNil))))))
  (sSeq (sAsg (vCall f_span_by (aCons (vVar 0) (aCons (vVar 2) (aCons (vVar 3) aNil)))) (VL.gTup 2 (VL.gCons (VL.gName 6) (VL.gCons (VL.gName 7) VL.gNil))))
  (sSeq (sIf (tVal (vOp (opOwn [] nfN opEq) (vVar 4) (vC (.int (-1)))))
    (sRet (vCall f_sum_or_none (aCons (vCall f_others_by (aCons (vVar 0) (aCons (vVar 1) (aCons (vIf (tVal (vOp (opOwn [] nfN opEq) (vVar 5) (vC (.str "low")))) (vUn (opAttr ["Sheet"] "lows") (vVar 0)) (vUn (opAttr ["Sheet"] "highs") (vVar 0))) aNil)))) aNil)))
    sPass)
  (sSeq (sIf (tVal (vOp (opOwn [] nfN opEq) (vVar 5) (vC (.str "high"))))
    (sRet (vOp opSub (vVar 7) (vBlt bSum (aCons (vCall f_others_by (aCons (vVar 0) (aCons (vVar 1) (aCons (vUn (opAttr ["Sheet"] "lows") (vVar 0)) aNil)))) aNil))))
    sPass)
  (sSeq (sAsg (vCall f_sum_or_none (aCons (vCall f_others_by (aCons (vVar 0) (aCons (vVar 1) (aCons (vUn (opAttr ["Sheet"] "highs") (vVar 0)) aNil)))) aNil)) (VL.gName 8))
  (sRet (vIf (tVal (vOp opIs (vVar 8) (vC .non))) (vC .non) (vOp opSub (vVar 6) (vVar 8)))))))))
noncomputable def f_takes_by : VF := runDef 5 (sSeq (sAsg (vTup (aCons (vCall f_number_by (aCons (vVar 0) (aCons (vVar 1) aNil))) (aCons (vCall f_bounds_by (aCons (vVar 0) (aCons (vVar 1) aNil))) aNil))) (VL.gTup 2 (VL.gCons (VL.gName 2) (VL.gCons (VL.gTup 2 (VL.gCons (VL.gName 3) (VL.gCons (VL.gName 4) VL.gNil))) VL.gNil))))
  (sSeq (sIf (tVal (vOp opIs (vVar 2) (vC .non)))
    (sRet (vC (.bl false)))
    sPass)
  (sRet (vIf (tVal (vOp (opOwn [] nfN opEq) (vOp opIx (vVar 1) (vC (.int 3))) (vC (.str "low")))) (vOp opGt (vVar 2) (vVar 3)) (vOr (vOp opIs (vVar 4) (vC .non)) (vOp opLt (vVar 2) (vVar 4)))))))
noncomputable def f_taking : VF := runDef 2 (sRet (vComp (iSeq (vCall f_all_steps (aCons (vVar 0) aNil))) (VL.gName 1) (tTru (vCall f_takes_by (aCons (vVar 0) (aCons (vVar 1) aNil)))) (vVar 1) [1]))
noncomputable def f_bounds_behind : VF := runDef 5 (sSeq (sAsg (vTup (aCons (vCall f_number_by (aCons (vVar 0) (aCons (vVar 1) aNil))) (aCons (vCall f_bounds_by (aCons (vVar 0) (aCons (vVar 1) aNil))) aNil))) (VL.gTup 2 (VL.gCons (VL.gName 2) (VL.gCons (VL.gTup 2 (VL.gCons (VL.gName 3) (VL.gCons (VL.gName 4) VL.gNil))) VL.gNil))))
  (sRet (vIf (tVal (vOp (opOwn [] nfN opEq) (vOp opIx (vVar 1) (vC (.int 3))) (vC (.str "low")))) (vTup (aCons (vVar 2) (aCons (vVar 4) aNil))) (vTup (aCons (vVar 3) (aCons (vVar 2) aNil))))))
noncomputable def f_breaks_by : VF := runDef 4 (sSeq (sAsg (vCall f_bounds_behind (aCons (vVar 0) (aCons (vVar 1) aNil))) (VL.gTup 2 (VL.gCons (VL.gName 2) (VL.gCons (VL.gName 3) VL.gNil))))
  (sRet (vAnd (vOp opIsNot (vVar 3) (vC .non)) (vOp opGt (vVar 2) (vVar 3)))))
noncomputable def f_is_whole : VF := runDef 1 (sRet (vAnd (vIsi kitT (vVar 0) [.b "int"]) (vNot (vIsi kitT (vVar 0) [.b "bool"]))))
noncomputable def f_is_number : VF := runDef 1 (sRet (vAnd (vCall f_is_whole (aCons (vVar 0) aNil)) (vOp opGe (vVar 0) (vC (.int 0)))))
noncomputable def f_are_numbers : VF := runDef 3 (sRet (vAnd (vIsi kitT (vVar 0) [.b "tuple"]) (vAnd (vOp (opOwn [] nfN opEq) (vBlt bLen (aCons (vVar 0) aNil)) (vVar 1)) (vBlt bAll (aCons (vComp (iSeq (vVar 0)) (VL.gName 2) VL.tYes (vCall f_is_number (aCons (vVar 2) aNil)) [2]) aNil)))))
noncomputable def f_need_lows : VF := runDef 2 (sSeq (sIf (VL.tOr (VL.tNot (tTru (vIsi kitT (vVar 0) [.b "list", .b "tuple"]))) (VL.tNot (tVal (vChain opLe opLe (vC (.int 1)) (vBlt bLen (aCons (vVar 0) aNil)) (vC (.int 6))))))
    sNo
    sPass)
  (sSeq (sIf (VL.tOr (VL.tNot (tTru (vIsi kitT (vOp opIx (vVar 0) (vC (.int 0))) [.b "tuple"]))) (VL.tNot (tVal (vChain opLe opLe (vC (.int 1)) (vBlt bLen (aCons (vOp opIx (vVar 0) (vC (.int 0))) aNil)) (vC (.int 6))))))
    sNo
    sPass)
  (sIf (VL.tNot (tTru (vBlt bAll (aCons (vComp (iSeq (vVar 0)) (VL.gName 1) VL.tYes (vCall f_are_numbers (aCons (vVar 1) (aCons (vBlt bLen (aCons (vOp opIx (vVar 0) (vC (.int 0))) aNil)) aNil))) [1]) aNil))))
    sNo
    sPass)))
noncomputable def f_is_high : VF := runDef 2 (sRet (vOr (vOp opIs (vVar 1) (vC .non)) (vAnd (vCall f_is_number (aCons (vVar 1) aNil)) (vOp opGe (vVar 1) (vVar 0)))))
noncomputable def f_are_highs : VF := runDef 4 (sSeq (sIf (VL.tOr (VL.tNot (tTru (vIsi kitT (vVar 1) [.b "tuple"]))) (tVal (vOp (opOwn [] nfN opNe) (vBlt bLen (aCons (vVar 1) aNil)) (vBlt bLen (aCons (vVar 0) aNil)))))
    (sRet (vC (.bl false)))
    sPass)
  (sRet (vBlt bAll (aCons (vComp (iZp2 (aCons (vVar 0) (aCons (vVar 1) aNil))) (VL.gTup 2 (VL.gCons (VL.gName 2) (VL.gCons (VL.gName 3) VL.gNil))) VL.tYes (vCall f_is_high (aCons (vVar 2) (aCons (vVar 3) aNil))) [2, 3]) aNil))))
noncomputable def f_need_highs : VF := runDef 4 (sSeq (sIf (VL.tOr (VL.tNot (tTru (vIsi kitT (vVar 1) [.b "list", .b "tuple"]))) (tVal (vOp (opOwn [] nfN opNe) (vBlt bLen (aCons (vVar 1) aNil)) (vBlt bLen (aCons (vVar 0) aNil)))))
    sNo
    sPass)
  (sIf (VL.tNot (tTru (vBlt bAll (aCons (vComp (iZp2 (aCons (vVar 0) (aCons (vVar 1) aNil))) (VL.gTup 2 (VL.gCons (VL.gName 2) (VL.gCons (VL.gName 3) VL.gNil))) VL.tYes (vCall f_are_highs (aCons (vVar 2) (aCons (vVar 3) aNil))) [2, 3]) aNil))))
    sNo
    sPass))
noncomputable def f_is_span : VF := runDef 1 (sRet (vAnd (vCall f_are_numbers (aCons (vVar 0) (aCons (vC (.int 2)) aNil))) (vOp opLe (vOp opIx (vVar 0) (vC (.int 0))) (vOp opIx (vVar 0) (vC (.int 1))))))
noncomputable def f_need_spans : VF := runDef 4 (sIf (VL.tOr (VL.tNot (tTru (vIsi kitT (vVar 1) [.b "list", .b "tuple"]))) (VL.tOr (tVal (vOp (opOwn [] nfN opNe) (vBlt bLen (aCons (vVar 1) aNil)) (vVar 2))) (VL.tNot (tTru (vBlt bAll (aCons (vComp (iSeq (vVar 1)) (VL.gName 3) VL.tYes (vCall f_is_span (aCons (vVar 3) aNil)) [3]) aNil))))))
    sNo
    sPass)
noncomputable def m_Sheet_init : VF := runDef 5 (sSeq (sDrop (vCall f_need_lows (aCons (vVar 1) aNil)))
  (sSeq (sDrop (vCall f_need_highs (aCons (vVar 1) (aCons (vVar 2) aNil))))
  (sSeq (sDrop (vCall f_need_spans (aCons (vC (.str "rows")) (aCons (vVar 3) (aCons (vBlt bLen (aCons (vVar 1) aNil)) aNil)))))
  (sSeq (sDrop (vCall f_need_spans (aCons (vC (.str "columns")) (aCons (vVar 4) (aCons (vBlt bLen (aCons (vOp opIx (vVar 1) (vC (.int 0))) aNil)) aNil)))))
  (sSeq (sFldD ["Sheet"] "lows" (vVar 0) (vBlt bTuple (aCons (vVar 1) aNil)))
  (sSeq (sFldD ["Sheet"] "highs" (vVar 0) (vBlt bTuple (aCons (vVar 2) aNil)))
  (sSeq (sFldD ["Sheet"] "rows" (vVar 0) (vBlt bTuple (aCons (vVar 3) aNil)))
  (sFldD ["Sheet"] "columns" (vVar 0) (vBlt bTuple (aCons (vVar 4) aNil))))))))))
noncomputable def f_with_item : VF := runDef 3 (sRet (vTupC (aStar (vSl (vVar 0) oNone (oSome (vVar 1))) (aCons (vVar 2) (aStar (vSl (vVar 0) (oSome (vOp opAdd (vVar 1) (vC (.int 1)))) oNone) aNil)))))
noncomputable def f_with_span : VF := runDef 4 (sSeq (sIf (tVal (vOp (opOwn [] nfN opEq) (vVar 1) (vC (.str "row"))))
    (sRet (vCall (makeD "Sheet" m_Sheet_init) (aCons (vUn (opAttr ["Sheet"] "lows") (vVar 0)) (aCons (vUn (opAttr ["Sheet"] "highs") (vVar 0)) (aCons (vCall f_with_item (aCons (vUn (opAttr ["Sheet"] "rows") (vVar 0)) (aCons (vVar 2) (aCons (vVar 3) aNil)))) (aCons (vUn (opAttr ["Sheet"] "columns") (vVar 0)) aNil))))))
    sPass)
  (sRet (vCall (makeD "Sheet" m_Sheet_init) (aCons (vUn (opAttr ["Sheet"] "lows") (vVar 0)) (aCons (vUn (opAttr ["Sheet"] "highs") (vVar 0)) (aCons (vUn (opAttr ["Sheet"] "rows") (vVar 0)) (aCons (vCall f_with_item (aCons (vUn (opAttr ["Sheet"] "columns") (vVar 0)) (aCons (vVar 2) (aCons (vVar 3) aNil)))) aNil)))))))
noncomputable def f_behind_by : VF := runDef 11 (sSeq (sAsg (vSl (vVar 1) oNone (oSome (vC (.int 3)))) (VL.gTup 3 (VL.gCons (VL.gName 2) (VL.gCons (VL.gName 3) (VL.gCons (VL.gName 4) VL.gNil)))))
  (sSeq (sAsg (vCall f_bounds_behind (aCons (vVar 0) (aCons (vVar 1) aNil))) (VL.gTup 2 (VL.gCons (VL.gName 5) (VL.gCons (VL.gName 6) VL.gNil))))
  (sSeq (sIf (tVal (vOp (opOwn [] nfN opEq) (vVar 4) (vC (.int (-1)))))
    (sRet (vCall f_with_span (aCons (vVar 0) (aCons (vVar 2) (aCons (vVar 3) (aCons (vTup (aCons (vVar 5) (aCons (vVar 6) aNil))) aNil))))))
    sPass)
  (sSeq (sAsg (vOp opIx (vCall f_line_cells (aCons (vVar 0) (aCons (vVar 2) (aCons (vVar 3) aNil)))) (vVar 4)) (VL.gTup 2 (VL.gCons (VL.gName 7) (VL.gCons (VL.gName 8) VL.gNil))))
  (sSeq (sAsg (vCall f_with_item (aCons (vUn (opAttr ["Sheet"] "lows") (vVar 0)) (aCons (vVar 7) (aCons (vCall f_with_item (aCons (vOp opIx (vUn (opAttr ["Sheet"] "lows") (vVar 0)) (vVar 7)) (aCons (vVar 8) (aCons (vVar 5) aNil)))) aNil)))) (VL.gName 9))
  (sSeq (sAsg (vCall f_with_item (aCons (vUn (opAttr ["Sheet"] "highs") (vVar 0)) (aCons (vVar 7) (aCons (vCall f_with_item (aCons (vOp opIx (vUn (opAttr ["Sheet"] "highs") (vVar 0)) (vVar 7)) (aCons (vVar 8) (aCons (vVar 6) aNil)))) aNil)))) (VL.gName 10))
  (sRet (vCall (makeD "Sheet" m_Sheet_init) (aCons (vVar 9) (aCons (vVar 10) (aCons (vUn (opAttr ["Sheet"] "rows") (vVar 0)) (aCons (vUn (opAttr ["Sheet"] "columns") (vVar 0)) aNil))))))))))))
noncomputable def f_tightened : VF := runDef 4 (sSeq (sPar 1 2 (aCons (vBox (vLst aNil)) (aCons (vVar 0) aNil)))
  (sSeq (sAsg (vCall f_taking (aCons (vVar 2) aNil)) (VL.gName 3))
  (sSeq (sWhile (tTru (vVar 3))
    (sSeq (sDrop (vMet mAppend (vVar 1) (vOp opIx (vVar 3) (vC (.int 0)))))
    (sSeq (sIf (tTru (vCall f_breaks_by (aCons (vVar 2) (aCons (vOp opIx (vVar 3) (vC (.int 0))) aNil))))
      (sRet (vTup (aCons (vVar 1) (aCons (vC .non) aNil))))
      sPass)
    (sSeq (sAsg (vCall f_behind_by (aCons (vVar 2) (aCons (vOp opIx (vVar 3) (vC (.int 0))) aNil))) (VL.gName 2))
    (sAsg (vCall f_taking (aCons (vVar 2) aNil)) (VL.gName 3))))))
  (sRet (vTup (aCons (vVar 1) (aCons (vVar 2) aNil)))))))
noncomputable def f_tight_sheet : VF := runDef 1 (sRet (vOp opIx (vCall f_tightened (aCons (vVar 0) aNil)) (vC (.int 1))))
noncomputable def f_law_made : VF := runDef 1 (sRet (vCall (makeD "Sheet" m_Sheet_init) (aCons (vOp opIx (vVar 0) (vC (.int 0))) (aCons (vOp opIx (vVar 0) (vC (.int 1))) (aCons (vOp opIx (vVar 0) (vC (.int 2))) (aCons (vOp opIx (vVar 0) (vC (.int 3))) aNil))))))
noncomputable def f_law_is : Nat → VF
  | 0 => fun _ _ => none
  | n + 1 => runDef 3 (sSeq (sIf (tTru (vIsi kitT (vVar 1) [.b "tuple"]))
    (sSeq (sIf (VL.tOr (VL.tNot (tTru (vIsi kitT (vVar 0) [.b "tuple"]))) (tVal (vOp (opOwn [] nfN opNe) (vBlt bLen (aCons (vVar 0) aNil)) (vBlt bLen (aCons (vVar 1) aNil)))))
      (sRet (vC (.bl false)))
      sPass)
    (sRet (vOp (opOwn [] nfN opEq) (vComp (iRg1 (aCons (vBlt bLen (aCons (vVar 1) aNil)) aNil)) (VL.gName 2) (VL.tNot (tTru (vCall (f_law_is n) (aCons (vOp opIx (vVar 0) (vVar 2)) (aCons (vOp opIx (vVar 1) (vVar 2)) aNil))))) (vVar 2) [2]) (vLst aNil))))
    sPass)
  (sSeq (sIf (tVal (vOp opIs (vVar 1) (vC .non)))
    (sRet (vOp opIs (vVar 0) (vC .non)))
    sPass)
  (sSeq (sIf (tVal (vOp opIs (vVar 1) (vC (.bl true))))
    (sRet (vOp opIs (vVar 0) (vC (.bl true))))
    sPass)
  (sSeq (sIf (tVal (vOp opIs (vVar 1) (vC (.bl false))))
    (sRet (vOp opIs (vVar 0) (vC (.bl false))))
    sPass)
  (sSeq (sIf (tTru (vIsi kitT (vVar 1) [.b "str"]))
    (sRet (vAnd (vIsi kitT (vVar 0) [.b "str"]) (vOp (opOwn [] nfN opEq) (vVar 0) (vVar 1))))
    sPass)
  (sRet (vAnd (vIsi kitT (vVar 0) [.b "int"]) (vAnd (vNot (vIsi kitT (vVar 0) [.b "bool"])) (vOp (opOwn [] nfN opEq) (vVar 0) (vVar 1))))))))))
noncomputable def f_law_drawn_shape : VF := runDef 2 (sRet (vTup (aCons (vOp opAdd (vC (.int 1)) (vCall f_law_draw (aCons (vVar 0) (aCons (vVar 1) aNil)))) (aCons (vOp opAdd (vC (.int 1)) (vCall f_law_draw (aCons (vVar 0) (aCons (vVar 1) aNil)))) aNil))))
noncomputable def f_law_pick : VF := runDef 2 (sRet (vOp opIx (vVar 1) (vCall f_law_draw (aCons (vVar 0) (aCons (vBlt bLen (aCons (vVar 1) aNil)) aNil)))))
noncomputable def f_law_drawn_table : VF := runDef 6 (sRet (vBlt bTuple (aCons (vComp (iRg1 (aCons (vVar 1) aNil)) (VL.gName 4) VL.tYes (vBlt bTuple (aCons (vComp (iRg1 (aCons (vVar 2) aNil)) (VL.gName 5) VL.tYes (vCall f_law_draw (aCons (vVar 0) (aCons (vOp opAdd (vVar 3) (vC (.int 1))) aNil))) [5]) aNil)) [4]) aNil)))
noncomputable def f_law_drawn_sheet : VF := runDef 16 (sSeq (sAsg (vCall f_law_drawn_shape (aCons (vVar 0) (aCons (vVar 1) aNil))) (VL.gTup 2 (VL.gCons (VL.gName 3) (VL.gCons (VL.gName 4) VL.gNil))))
  (sSeq (sAsg (vTup (aCons (vCall f_law_drawn_table (aCons (vVar 0) (aCons (vVar 3) (aCons (vVar 4) (aCons (vVar 2) aNil))))) (aCons (vCall f_law_pick (aCons (vVar 0) (aCons (vLst (aCons (vC (.int 1)) (aCons (vC (.int 2)) (aCons (vC (.int 3)) (aCons (vC (.int 4)) aNil))))) aNil))) aNil))) (VL.gTup 2 (VL.gCons (VL.gName 5) (VL.gCons (VL.gName 6) VL.gNil))))
  (sSeq (sAsg (vCall f_law_pick (aCons (vVar 0) (aCons (vLst (aCons (vC (.int 1)) (aCons (vC (.int 4)) (aCons (vC (.int 9)) aNil)))) aNil))) (VL.gName 7))
  (sSeq (sAsg (vBlt bTuple (aCons (vComp (iSeq (vVar 5)) (VL.gName 9) VL.tYes (vBlt bTuple (aCons (vComp (iSeq (vVar 9)) (VL.gName 10) VL.tYes (vBlt bMax (aCons (vC (.int 0)) (aCons (vOp opSub (vVar 10) (vCall f_law_draw (aCons (vVar 0) (aCons (vOp opAdd (vVar 6) (vC (.int 1))) aNil)))) aNil))) [10]) aNil)) [9]) aNil)) (VL.gName 8))
  (sSeq (sAsg (vBlt bTuple (aCons (vComp (iSeq (vVar 5)) (VL.gName 9) VL.tYes (vBlt bTuple (aCons (vComp (iSeq (vVar 9)) (VL.gName 10) VL.tYes (vIf (tVal (vOp (opOwn [] nfN opEq) (vCall f_law_draw (aCons (vVar 0) (aCons (vVar 7) aNil))) (vC (.int 0)))) (vC .non) (vOp opAdd (vVar 10) (vCall f_law_draw (aCons (vVar 0) (aCons (vOp opAdd (vVar 6) (vC (.int 1))) aNil))))) [10]) aNil)) [9]) aNil)) (VL.gName 11))
  (sSeq (sAsg (vBox (vComp (iSeq (vVar 5)) (VL.gName 9) VL.tYes (vCall f_law_about (aCons (vVar 0) (aCons (vBlt bSum (aCons (vVar 9) aNil)) (aCons (vVar 6) aNil)))) [9])) (VL.gName 12))
  (sSeq (sAsg (vComp (iSeq (vCall f_law_turned (aCons (vVar 5) aNil))) (VL.gName 9) VL.tYes (vCall f_law_about (aCons (vVar 0) (aCons (vBlt bSum (aCons (vVar 9) aNil)) (aCons (vVar 6) aNil)))) [9]) (VL.gName 13))
  (sSeq (sIf (tVal (vOp (opOwn [] nfN opEq) (vCall f_law_draw (aCons (vVar 0) (aCons (vC (.int 3)) aNil))) (vC (.int 0))))
    (sSeq (sPar 14 15 (aCons (vCall f_law_draw (aCons (vVar 0) (aCons (vVar 3) aNil))) (aCons (vCall f_law_draw (aCons (vVar 0) (aCons (vC (.int 5)) aNil))) aNil)))
    (sAsg (vTup (aCons (vBlt bMax (aCons (vC (.int 0)) (aCons (vOp opSub (vOp opAdd (vOp opIx (vOp opIx (vVar 12) (vVar 14)) (vC (.int 0))) (vVar 15)) (vC (.int 2))) aNil))) (aCons (vBlt bMax (aCons (vC (.int 0)) (aCons (vOp opSub (vOp opAdd (vOp opIx (vOp opIx (vVar 12) (vVar 14)) (vC (.int 1))) (vVar 15)) (vC (.int 2))) aNil))) aNil))) (VL.gSub (vVar 12) (vVar 14))))
    sPass)
  (sRet (vTup (aCons (vVar 8) (aCons (vVar 11) (aCons (vBlt bTuple (aCons (vVar 12) aNil)) (aCons (vBlt bTuple (aCons (vVar 13) aNil)) aNil))))))))))))))
noncomputable def f_law_plain : VF := runDef 1 (sRet (vIf (tTru (vIsi kitT (vVar 0) [.c "Sheet"])) (vTup (aCons (vUn (opAttr ["Sheet"] "lows") (vVar 0)) (aCons (vUn (opAttr ["Sheet"] "highs") (vVar 0)) (aCons (vUn (opAttr ["Sheet"] "rows") (vVar 0)) (aCons (vUn (opAttr ["Sheet"] "columns") (vVar 0)) aNil))))) (vC .non)))
noncomputable def f_law : VF := runDef 12 (sSeq (sAsg (vCall f_law_pen (aCons (vVar 0) aNil)) (VL.gName 1))
  (sSeq (sFor (iRg1 (aCons (vC (.int 6)) aNil)) (VL.gName 2)
    (sSeq (sAsg (vOp (opOwn [] nfN opEq) (vCall f_law_draw (aCons (vVar 1) (aCons (vC (.int 2)) aNil))) (vC (.int 0))) (VL.gName 3))
    (sSeq (sAsg (vCall f_law_single (aCons (vVar 1) (aCons (vOp opAdd (vC (.int 1)) (vCall f_law_draw (aCons (vVar 1) (aCons (vC (.int 4)) aNil)))) (aCons (vVar 3) aNil)))) (VL.gName 4))
    (sSeq (sPar 5 6 (aCons (vCall f_tight_sheet (aCons (vCall f_law_made (aCons (vVar 4) aNil)) aNil)) (aCons (vCall f_law_fillings (aCons (vVar 4) (aCons (vC (.int 20000)) aNil))) aNil)))
    (sSeq (sIf (tVal (vOp opIs (vVar 6) (vC .non)))
      sCt
      sPass)
    (sSeq (sIf (tVal (vOp (opOwn [] nfN opNe) (vOp opIs (vVar 5) (vC .non)) (vOp (opOwn [] nfN opEq) (vVar 6) (vLst aNil))))
      (sRet (vC (.bl false)))
      sPass)
    (sSeq (sIf (tVal (vOp opIs (vVar 5) (vC .non)))
      sCt
      sPass)
    (sSeq (sFor (iRg1 (aCons (vBlt bLen (aCons (vOp opIx (vVar 4) (vC (.int 0))) aNil)) aNil)) (VL.gName 7)
      (sFor (iRg1 (aCons (vBlt bLen (aCons (vOp opIx (vOp opIx (vVar 4) (vC (.int 0))) (vC (.int 0))) aNil)) aNil)) (VL.gName 8)
        (sSeq (sAsg (vComp (iSeq (vVar 6)) (VL.gName 10) VL.tYes (vOp opIx (vOp opIx (vVar 10) (vVar 7)) (vVar 8)) [10]) (VL.gName 9))
        (sIf (VL.tNot (tTru (vCall (f_law_is 10) (aCons (vTup (aCons (vOp opIx (vOp opIx (vUn (opAttr ["Sheet"] "lows") (vVar 5)) (vVar 7)) (vVar 8)) (aCons (vOp opIx (vOp opIx (vUn (opAttr ["Sheet"] "highs") (vVar 5)) (vVar 7)) (vVar 8)) aNil))) (aCons (vTup (aCons (vBlt bMin (aCons (vVar 9) aNil)) (aCons (vBlt bMax (aCons (vVar 9) aNil)) aNil))) aNil)))))
          (sRet (vC (.bl false)))
          sPass))))
    (sSeq (sAsg (vComp (iSeq (vVar 6)) (VL.gName 10) VL.tYes (vBlt bSum (aCons (vComp (iSeq (vVar 10)) (VL.gName 7) VL.tYes (vBlt bSum (aCons (vVar 7) aNil)) [7]) aNil)) [10]) (VL.gName 11))
    (sIf (VL.tNot (tTru (vCall (f_law_is 10) (aCons (vOp opIx (vIf (tTru (vVar 3)) (vUn (opAttr ["Sheet"] "columns") (vVar 5)) (vUn (opAttr ["Sheet"] "rows") (vVar 5))) (vC (.int 0))) (aCons (vTup (aCons (vBlt bMin (aCons (vVar 11) aNil)) (aCons (vBlt bMax (aCons (vVar 11) aNil)) aNil))) aNil)))))
      (sRet (vC (.bl false)))
      sPass))))))))))
  (sSeq (sAsg (vCall f_law_drawn_sheet (aCons (vVar 1) (aCons (vC (.int 2)) (aCons (vC (.int 5)) aNil)))) (VL.gName 4))
  (sSeq (sPar 5 6 (aCons (vCall f_tight_sheet (aCons (vCall f_law_made (aCons (vVar 4) aNil)) aNil)) (aCons (vCall f_law_fillings (aCons (vVar 4) (aCons (vC (.int 5000)) aNil))) aNil)))
  (sSeq (sFor (iSeq (vIf (tVal (vOp opIsNot (vVar 6) (vC .non))) (vVar 6) (vLst aNil))) (VL.gName 10)
    (sIf (VL.tOr (tVal (vOp opIs (vVar 5) (vC .non))) (tVal (vOp opIsNot (vCall f_law_wrong (aCons (vCall f_law_plain (aCons (vVar 5) aNil)) (aCons (vVar 10) aNil))) (vC .non))))
      (sRet (vC (.bl false)))
      sPass))
  (sRet (vC (.bl true))))))))
structure Facts (Y : Wd) : Prop where
  F_f_law_pen : FunX Y.K Y.mg "_law_pen" (topS 40)
  F_f_law_draw : FunX Y.K Y.mg "_law_draw" (topS 41)
  F_f_law_about : FunX Y.K Y.mg "_law_about" (topS 47)
  F_f_law_turned : FunX Y.K Y.mg "_law_turned" (topS 44)
  F_f_law_single : FunX Y.K Y.mg "_law_single" (topS 55)
  F_f_law_row_tables : FunX Y.K Y.mg "_law_row_tables" (topS 53)
  F_f_law_in : FunX Y.K Y.mg "_law_in" (topS 51)
  F_f_law_wrong : FunX Y.K Y.mg "_law_wrong" (topS 52)
  F_f_law_fillings : FunX Y.K Y.mg "_law_fillings" (topS 54)
  F_f_shape_of : FunX Y.K Y.mg "shape_of" (topS 17)
  F_f_lines_many : FunX Y.K Y.mg "lines_many" (topS 18)
  F_f_line_cells : FunX Y.K Y.mg "line_cells" (topS 19)
  F_f_all_steps : FunX Y.K Y.mg "all_steps" (topS 27)
  F_f_span_by : FunX Y.K Y.mg "span_by" (topS 20)
  F_f_bounds_by : FunX Y.K Y.mg "bounds_by" (topS 31)
  F_f_sum_or_none : FunX Y.K Y.mg "sum_or_none" (topS 28)
  F_f_others_by : FunX Y.K Y.mg "others_by" (topS 29)
  F_f_number_by : FunX Y.K Y.mg "number_by" (topS 30)
  F_f_takes_by : FunX Y.K Y.mg "takes_by" (topS 32)
  F_f_taking : FunX Y.K Y.mg "taking" (topS 36)
  F_f_bounds_behind : FunX Y.K Y.mg "bounds_behind" (topS 33)
  F_f_breaks_by : FunX Y.K Y.mg "breaks_by" (topS 34)
  F_f_is_whole : FunX Y.K Y.mg "is_whole" (topS 4)
  F_f_is_number : FunX Y.K Y.mg "is_number" (topS 5)
  F_f_are_numbers : FunX Y.K Y.mg "are_numbers" (topS 10)
  F_f_need_lows : FunX Y.K Y.mg "need_lows" (topS 11)
  F_f_is_high : FunX Y.K Y.mg "is_high" (topS 12)
  F_f_are_highs : FunX Y.K Y.mg "are_highs" (topS 13)
  F_f_need_highs : FunX Y.K Y.mg "need_highs" (topS 14)
  F_f_is_span : FunX Y.K Y.mg "is_span" (topS 15)
  F_f_need_spans : FunX Y.K Y.mg "need_spans" (topS 16)
  F_m_Sheet_init : MethX Y.K Y.mg "Sheet" "__init__" "Sheet.__init__" (inS 8 0)
  F_f_with_item : FunX Y.K Y.mg "with_item" (topS 21)
  F_f_with_span : FunX Y.K Y.mg "with_span" (topS 22)
  F_f_behind_by : FunX Y.K Y.mg "behind_by" (topS 35)
  F_f_tightened : FunX Y.K Y.mg "tightened" (topS 37)
  F_f_tight_sheet : FunX Y.K Y.mg "tight_sheet" (topS 38)
  F_f_law_made : FunX Y.K Y.mg "_law_made" (topS 49)
  F_f_law_is : FunX Y.K Y.mg "_law_is" (topS 43)
  F_f_law_drawn_shape : FunX Y.K Y.mg "_law_drawn_shape" (topS 45)
  F_f_law_pick : FunX Y.K Y.mg "_law_pick" (topS 42)
  F_f_law_drawn_table : FunX Y.K Y.mg "_law_drawn_table" (topS 46)
  F_f_law_drawn_sheet : FunX Y.K Y.mg "_law_drawn_sheet" (topS 48)
  F_f_law_plain : FunX Y.K Y.mg "_law_plain" (topS 50)
  F_f_law : FunX Y.K Y.mg "law" (topS 56)
  z_all : Y.mg "all" = none
  z_any : Y.mg "any" = none
  z_bool : Y.mg "bool" = none
  z_enumerate : Y.mg "enumerate" = none
  z_int : Y.mg "int" = none
  z_isinstance : Y.mg "isinstance" = none
  z_len : Y.mg "len" = none
  z_list : Y.mg "list" = none
  z_max : Y.mg "max" = none
  z_min : Y.mg "min" = none
  z_range : Y.mg "range" = none
  z_str : Y.mg "str" = none
  z_sum : Y.mg "sum" = none
  z_tuple : Y.mg "tuple" = none
  z_zip : Y.mg "zip" = none
  C_Sheet : ClsX Y.K Y.mg "Sheet"
  K_Sheet : KnX Y.K Y.mg "Sheet"
  N_Sheet_columns : NoX Y.K Y.mg "Sheet" "columns"
  N_Sheet_highs : NoX Y.K Y.mg "Sheet" "highs"
  N_Sheet_lows : NoX Y.K Y.mg "Sheet" "lows"
  N_Sheet_rows : NoX Y.K Y.mg "Sheet" "rows"
  V_ENDS : ValOk Y.K Y.mg "ENDS" (.tup [.str "high", .str "low"])
  V_MOST_LINES : ValOk Y.K Y.mg "MOST_LINES" (.int 6)
  V_SUM : ValOk Y.K Y.mg "SUM" (.int (-1))
  V_WORDS : ValOk Y.K Y.mg "WORDS" (.tup [.str "column", .str "row"])
section
variable {Y : Wd}
theorem cls_all (Fa : Facts Y) : ∀ x ∈ lawCls, ClsX Y.K Y.mg x ∧ KnX Y.K Y.mg x := by
  intro x hx
  simp only [lawCls, List.mem_cons, List.not_mem_nil, or_false] at hx
  rcases hx with rfl
  · exact ⟨Fa.C_Sheet, Fa.K_Sheet⟩
theorem ap_all (Fa : Facts Y) : ∀ x ∈ lawCls, ∀ y ∈ lawCls, x ≠ y → ApX Y.K Y.mg x y := by
  intro x hx y hy h
  simp only [lawCls, List.mem_cons, List.not_mem_nil, or_false] at hx hy
  rcases hx with rfl
  · rcases hy with rfl
    · exact absurd rfl h
theorem kit_all (Fa : Facts Y) : KitOk Y.K Y.mg kitT := kitL_ok (cls_all Fa) (ap_all Fa)
theorem kok0 (Fa : Facts Y) (k : Nat) {Γ : Gam} (h1 : Γ.kit = kitT) (h2 : Γ.eqs = []) (h3 : Γ.nes = []) (h4 : Γ.nf = nfN) : KOk Y k Γ := ⟨by rw [h1]; exact kit_all Fa, fun X _ _ => by rw [h2, h4]; exact own_nil, fun X _ _ => by rw [h3, h4]; exact own_nil⟩
theorem at_columns (Fa : Facts Y) : AttrOk Y.K Y.mg ["Sheet"] "columns" := (attrOk_cons Fa.C_Sheet Fa.N_Sheet_columns attrOk_nil)
theorem at_highs (Fa : Facts Y) : AttrOk Y.K Y.mg ["Sheet"] "highs" := (attrOk_cons Fa.C_Sheet Fa.N_Sheet_highs attrOk_nil)
theorem at_lows (Fa : Facts Y) : AttrOk Y.K Y.mg ["Sheet"] "lows" := (attrOk_cons Fa.C_Sheet Fa.N_Sheet_lows attrOk_nil)
theorem at_rows (Fa : Facts Y) : AttrOk Y.K Y.mg ["Sheet"] "rows" := (attrOk_cons Fa.C_Sheet Fa.N_Sheet_rows attrOk_nil)
noncomputable def G_f_law_pen : Gam := { call := [("int", .blt bInt), ("list", .lst)], kit := kitT, nf := nfN }
theorem sc_f_law_pen : FnScope ["script", "fold", "cell"] ["script"] (defScope (topS 40)) := ⟨rfl, rfl, rfl, by decide +kernel, rfl, by decide +kernel, by decide +kernel⟩
theorem run_f_law_pen : runDef (["script", "fold", "cell"] : List Str).length ((cp G_f_law_pen ["script", "fold", "cell"] 63).ss (defScope (topS 40)) (defBody (topS 40))) = f_law_pen := by kernel_rfl
theorem ok_f_law_pen (Fa : Facts Y) : FnX Y 1 1 "_law_pen" f_law_pen := fnX Fa.F_f_law_pen sc_f_law_pen (fun _ _ _ _ _ _ us hl => match us, hl with | [_], _ => rfl) (gok (Γ := G_f_law_pen) ⟨(blt_int Fa.z_int), ⟨⟨rfl, Fa.z_list⟩, trivial⟩⟩ trivial trivial trivial (kok0 Fa _ rfl rfl rfl rfl)) 63 run_f_law_pen
noncomputable def G_f_law_draw : Gam := { call := [("len", .blt bLen), ("int", .blt bInt)], kit := kitT, nf := nfN }
theorem sc_f_law_draw : FnScope ["pen", "many", "cell", "digit", "blend"] ["pen", "many"] (defScope (topS 41)) := ⟨rfl, rfl, rfl, by decide +kernel, rfl, by decide +kernel, by decide +kernel⟩
theorem run_f_law_draw : runDef (["pen", "many", "cell", "digit", "blend"] : List Str).length ((cp G_f_law_draw ["pen", "many", "cell", "digit", "blend"] 67).ss (defScope (topS 41)) (defBody (topS 41))) = f_law_draw := by kernel_rfl
theorem ok_f_law_draw (Fa : Facts Y) : FnX Y 1 2 "_law_draw" f_law_draw := fnX Fa.F_f_law_draw sc_f_law_draw (fun _ _ _ _ _ _ us hl => match us, hl with | [_, _], _ => rfl) (gok (Γ := G_f_law_draw) ⟨(blt_len Fa.z_len), ⟨(blt_int Fa.z_int), trivial⟩⟩ trivial trivial trivial (kok0 Fa _ rfl rfl rfl rfl)) 67 run_f_law_draw
noncomputable def G_f_law_about : Gam := { call := [("_law_draw", .fn 2 f_law_draw), ("max", .blt bMax)], kit := kitT, nf := nfN }
theorem sc_f_law_about : FnScope ["pen", "number", "wide"] ["pen", "number", "wide"] (defScope (topS 47)) := ⟨rfl, rfl, rfl, by decide +kernel, rfl, by decide +kernel, by decide +kernel⟩
theorem run_f_law_about : runDef (["pen", "number", "wide"] : List Str).length ((cp G_f_law_about ["pen", "number", "wide"] 63).ss (defScope (topS 47)) (defBody (topS 47))) = f_law_about := by kernel_rfl
theorem ok_f_law_about (Fa : Facts Y) : FnX Y 2 3 "_law_about" f_law_about := fnX Fa.F_f_law_about sc_f_law_about (fun _ _ _ _ _ _ us hl => match us, hl with | [_, _, _], _ => rfl) (gok (Γ := G_f_law_about) ⟨((ok_f_law_draw Fa).mono (by decide)), ⟨(blt_max Fa.z_max), trivial⟩⟩ trivial trivial trivial (kok0 Fa _ rfl rfl rfl rfl)) 63 run_f_law_about
noncomputable def G_f_law_turned : Gam := { call := [("tuple", .blt bTuple), ("range", .rng), ("len", .blt bLen)], kit := kitT, nf := nfN }
theorem sc_f_law_turned : FnScope ["rows", "at", "row"] ["rows"] (defScope (topS 44)) := ⟨rfl, rfl, rfl, by decide +kernel, rfl, by decide +kernel, by decide +kernel⟩
theorem run_f_law_turned : runDef (["rows", "at", "row"] : List Str).length ((cp G_f_law_turned ["rows", "at", "row"] 61).ss (defScope (topS 44)) (defBody (topS 44))) = f_law_turned := by kernel_rfl
theorem ok_f_law_turned (Fa : Facts Y) : FnX Y 1 1 "_law_turned" f_law_turned := fnX Fa.F_f_law_turned sc_f_law_turned (fun _ _ _ _ _ _ us hl => match us, hl with | [_], _ => rfl) (gok (Γ := G_f_law_turned) ⟨(blt_tuple Fa.z_tuple), ⟨⟨rfl, Fa.z_range⟩, ⟨(blt_len Fa.z_len), trivial⟩⟩⟩ trivial trivial trivial (kok0 Fa _ rfl rfl rfl rfl)) 61 run_f_law_turned
noncomputable def G_f_law_single : Gam := { call := [("tuple", .blt bTuple), ("range", .rng), ("_law_draw", .fn 2 f_law_draw), ("max", .blt bMax), ("_law_about", .fn 3 f_law_about), ("sum", .blt bSum), ("_law_turned", .fn 1 f_law_turned)], kit := kitT, nf := nfN }
theorem sc_f_law_single : FnScope ["pen", "many", "turned", "table", "cell", "lows", "number", "highs", "rows", "columns"] ["pen", "many", "turned"] (defScope (topS 55)) := ⟨rfl, rfl, rfl, by decide +kernel, rfl, by decide +kernel, by decide +kernel⟩
theorem run_f_law_single : runDef (["pen", "many", "turned", "table", "cell", "lows", "number", "highs", "rows", "columns"] : List Str).length ((cp G_f_law_single ["pen", "many", "turned", "table", "cell", "lows", "number", "highs", "rows", "columns"] 69).ss (defScope (topS 55)) (defBody (topS 55))) = f_law_single := by kernel_rfl
theorem ok_f_law_single (Fa : Facts Y) : FnX Y 3 3 "_law_single" f_law_single := fnX Fa.F_f_law_single sc_f_law_single (fun _ _ _ _ _ _ us hl => match us, hl with | [_, _, _], _ => rfl) (gok (Γ := G_f_law_single) ⟨(blt_tuple Fa.z_tuple), ⟨⟨rfl, Fa.z_range⟩, ⟨((ok_f_law_draw Fa).mono (by decide)), ⟨(blt_max Fa.z_max), ⟨((ok_f_law_about Fa).mono (by decide)), ⟨(blt_sum Fa.z_sum), ⟨((ok_f_law_turned Fa).mono (by decide)), trivial⟩⟩⟩⟩⟩⟩⟩ trivial trivial trivial (kok0 Fa _ rfl rfl rfl rfl)) 69 run_f_law_single
noncomputable def G_f_law_row_tables : Gam := { call := [("zip", .zip), ("sum", .blt bSum), ("min", .blt bMin), ("range", .rng)], kit := kitT, nf := nfN, bx := [⟨222, 17, 222, 19⟩] }
theorem sc_f_law_row_tables : FnScope ["sheet", "at", "most", "rows", "high", "low", "top", "longer", "row", "last", "number"] ["sheet", "at", "most"] (defScope (topS 53)) := ⟨rfl, rfl, rfl, by decide +kernel, rfl, by decide +kernel, by decide +kernel⟩
theorem run_f_law_row_tables : runDef (["sheet", "at", "most", "rows", "high", "low", "top", "longer", "row", "last", "number"] : List Str).length ((cp G_f_law_row_tables ["sheet", "at", "most", "rows", "high", "low", "top", "longer", "row", "last", "number"] 65).ss (defScope (topS 53)) (defBody (topS 53))) = f_law_row_tables := by kernel_rfl
theorem ok_f_law_row_tables (Fa : Facts Y) : FnX Y 1 3 "_law_row_tables" f_law_row_tables := fnX Fa.F_f_law_row_tables sc_f_law_row_tables (fun _ _ _ _ _ _ us hl => match us, hl with | [_, _, _], _ => rfl) (gok (Γ := G_f_law_row_tables) ⟨⟨rfl, Fa.z_zip⟩, ⟨(blt_sum Fa.z_sum), ⟨(blt_min Fa.z_min), ⟨⟨rfl, Fa.z_range⟩, trivial⟩⟩⟩⟩ trivial trivial trivial (kok0 Fa _ rfl rfl rfl rfl)) 65 run_f_law_row_tables
noncomputable def G_f_law_in : Gam := { kit := kitT, nf := nfN }
theorem sc_f_law_in : FnScope ["number", "low", "high"] ["number", "low", "high"] (defScope (topS 51)) := ⟨rfl, rfl, rfl, by decide +kernel, rfl, by decide +kernel, by decide +kernel⟩
theorem run_f_law_in : runDef (["number", "low", "high"] : List Str).length ((cp G_f_law_in ["number", "low", "high"] 61).ss (defScope (topS 51)) (defBody (topS 51))) = f_law_in := by kernel_rfl
theorem ok_f_law_in (Fa : Facts Y) : FnX Y 1 3 "_law_in" f_law_in := fnX Fa.F_f_law_in sc_f_law_in (fun _ _ _ _ _ _ us hl => match us, hl with | [_, _, _], _ => rfl) (gok (Γ := G_f_law_in) trivial trivial trivial trivial (kok0 Fa _ rfl rfl rfl rfl)) 61 run_f_law_in
noncomputable def G_f_law_wrong : Gam := { call := [("range", .rng), ("len", .blt bLen), ("_law_in", .fn 3 f_law_in), ("_law_turned", .fn 1 f_law_turned), ("sum", .blt bSum)], kit := kitT, nf := nfN }
theorem sc_f_law_wrong : FnScope ["sheet", "table", "row", "column", "word", "rows", "spans", "at"] ["sheet", "table"] (defScope (topS 52)) := ⟨rfl, rfl, rfl, by decide +kernel, rfl, by decide +kernel, by decide +kernel⟩
theorem run_f_law_wrong : runDef (["sheet", "table", "row", "column", "word", "rows", "spans", "at"] : List Str).length ((cp G_f_law_wrong ["sheet", "table", "row", "column", "word", "rows", "spans", "at"] 66).ss (defScope (topS 52)) (defBody (topS 52))) = f_law_wrong := by kernel_rfl
theorem ok_f_law_wrong (Fa : Facts Y) : FnX Y 2 2 "_law_wrong" f_law_wrong := fnX Fa.F_f_law_wrong sc_f_law_wrong (fun _ _ _ _ _ _ us hl => match us, hl with | [_, _], _ => rfl) (gok (Γ := G_f_law_wrong) ⟨⟨rfl, Fa.z_range⟩, ⟨(blt_len Fa.z_len), ⟨((ok_f_law_in Fa).mono (by decide)), ⟨((ok_f_law_turned Fa).mono (by decide)), ⟨(blt_sum Fa.z_sum), trivial⟩⟩⟩⟩⟩ trivial trivial trivial (kok0 Fa _ rfl rfl rfl rfl)) 66 run_f_law_wrong
noncomputable def G_f_law_fillings : Gam := { call := [("range", .rng), ("len", .blt bLen), ("_law_row_tables", .fn 3 f_law_row_tables), ("zip", .zip), ("_law_turned", .fn 1 f_law_turned), ("sum", .blt bSum), ("_law_wrong", .fn 2 f_law_wrong)], kit := kitT, nf := nfN, bx := [⟨231, 58, 231, 60⟩] }
theorem sc_f_law_fillings : FnScope ["sheet", "most", "tables", "at", "some", "longer", "table", "row", "more", "column", "span"] ["sheet", "most"] (defScope (topS 54)) := ⟨rfl, rfl, rfl, by decide +kernel, rfl, by decide +kernel, by decide +kernel⟩
theorem run_f_law_fillings : runDef (["sheet", "most", "tables", "at", "some", "longer", "table", "row", "more", "column", "span"] : List Str).length ((cp G_f_law_fillings ["sheet", "most", "tables", "at", "some", "longer", "table", "row", "more", "column", "span"] 65).ss (defScope (topS 54)) (defBody (topS 54))) = f_law_fillings := by kernel_rfl
theorem ok_f_law_fillings (Fa : Facts Y) : FnX Y 3 2 "_law_fillings" f_law_fillings := fnX Fa.F_f_law_fillings sc_f_law_fillings (fun _ _ _ _ _ _ us hl => match us, hl with | [_, _], _ => rfl) (gok (Γ := G_f_law_fillings) ⟨⟨rfl, Fa.z_range⟩, ⟨(blt_len Fa.z_len), ⟨((ok_f_law_row_tables Fa).mono (by decide)), ⟨⟨rfl, Fa.z_zip⟩, ⟨((ok_f_law_turned Fa).mono (by decide)), ⟨(blt_sum Fa.z_sum), ⟨((ok_f_law_wrong Fa).mono (by decide)), trivial⟩⟩⟩⟩⟩⟩⟩ trivial trivial trivial (kok0 Fa _ rfl rfl rfl rfl)) 65 run_f_law_fillings
noncomputable def G_f_shape_of : Gam := { call := [("len", .blt bLen)], attr := [("lows", ["Sheet"])], kit := kitT, nf := nfN }
theorem sc_f_shape_of : FnScope ["sheet"] ["sheet"] (defScope (topS 17)) := ⟨rfl, rfl, rfl, by decide +kernel, rfl, by decide +kernel, by decide +kernel⟩
theorem run_f_shape_of : runDef (["sheet"] : List Str).length ((cp G_f_shape_of ["sheet"] 63).ss (defScope (topS 17)) (defBody (topS 17))) = f_shape_of := by kernel_rfl
theorem ok_f_shape_of (Fa : Facts Y) : FnX Y 1 1 "shape_of" f_shape_of := fnX Fa.F_f_shape_of sc_f_shape_of (fun _ _ _ _ _ _ us hl => match us, hl with | [_], _ => rfl) (gok (Γ := G_f_shape_of) ⟨(blt_len Fa.z_len), trivial⟩ trivial trivial ⟨(at_lows Fa), trivial⟩ (kok0 Fa _ rfl rfl rfl rfl)) 63 run_f_shape_of
noncomputable def G_f_lines_many : Gam := { call := [("shape_of", .fn 1 f_shape_of)], kit := kitT, nf := nfN }
theorem sc_f_lines_many : FnScope ["sheet", "word"] ["sheet", "word"] (defScope (topS 18)) := ⟨rfl, rfl, rfl, by decide +kernel, rfl, by decide +kernel, by decide +kernel⟩
theorem run_f_lines_many : runDef (["sheet", "word"] : List Str).length ((cp G_f_lines_many ["sheet", "word"] 61).ss (defScope (topS 18)) (defBody (topS 18))) = f_lines_many := by kernel_rfl
theorem ok_f_lines_many (Fa : Facts Y) : FnX Y 2 2 "lines_many" f_lines_many := fnX Fa.F_f_lines_many sc_f_lines_many (fun _ _ _ _ _ _ us hl => match us, hl with | [_, _], _ => rfl) (gok (Γ := G_f_lines_many) ⟨((ok_f_shape_of Fa).mono (by decide)), trivial⟩ trivial trivial trivial (kok0 Fa _ rfl rfl rfl rfl)) 61 run_f_lines_many
noncomputable def G_f_line_cells : Gam := { call := [("shape_of", .fn 1 f_shape_of), ("range", .rng)], kit := kitT, nf := nfN }
theorem sc_f_line_cells : FnScope ["sheet", "word", "at", "height", "width", "column", "row"] ["sheet", "word", "at"] (defScope (topS 19)) := ⟨rfl, rfl, rfl, by decide +kernel, rfl, by decide +kernel, by decide +kernel⟩
theorem run_f_line_cells : runDef (["sheet", "word", "at", "height", "width", "column", "row"] : List Str).length ((cp G_f_line_cells ["sheet", "word", "at", "height", "width", "column", "row"] 65).ss (defScope (topS 19)) (defBody (topS 19))) = f_line_cells := by kernel_rfl
theorem ok_f_line_cells (Fa : Facts Y) : FnX Y 2 3 "line_cells" f_line_cells := fnX Fa.F_f_line_cells sc_f_line_cells (fun _ _ _ _ _ _ us hl => match us, hl with | [_, _, _], _ => rfl) (gok (Γ := G_f_line_cells) ⟨((ok_f_shape_of Fa).mono (by decide)), ⟨⟨rfl, Fa.z_range⟩, trivial⟩⟩ trivial trivial trivial (kok0 Fa _ rfl rfl rfl rfl)) 65 run_f_line_cells
noncomputable def G_f_all_steps : Gam := { call := [("range", .rng), ("lines_many", .fn 2 f_lines_many), ("len", .blt bLen), ("line_cells", .fn 3 f_line_cells)], val := [("ENDS", (.tup [.str "high", .str "low"])), ("SUM", (.int (-1))), ("WORDS", (.tup [.str "column", .str "row"]))], kit := kitT, nf := nfN, bx := [⟨83, 12, 83, 14⟩] }
theorem sc_f_all_steps : FnScope ["sheet", "found", "word", "at", "place", "end"] ["sheet"] (defScope (topS 27)) := ⟨rfl, rfl, rfl, by decide +kernel, rfl, by decide +kernel, by decide +kernel⟩
theorem run_f_all_steps : runDef (["sheet", "found", "word", "at", "place", "end"] : List Str).length ((cp G_f_all_steps ["sheet", "found", "word", "at", "place", "end"] 67).ss (defScope (topS 27)) (defBody (topS 27))) = f_all_steps := by kernel_rfl
theorem ok_f_all_steps (Fa : Facts Y) : FnX Y 3 1 "all_steps" f_all_steps := fnX Fa.F_f_all_steps sc_f_all_steps (fun _ _ _ _ _ _ us hl => match us, hl with | [_], _ => rfl) (gok (Γ := G_f_all_steps) ⟨⟨rfl, Fa.z_range⟩, ⟨((ok_f_lines_many Fa).mono (by decide)), ⟨(blt_len Fa.z_len), ⟨((ok_f_line_cells Fa).mono (by decide)), trivial⟩⟩⟩⟩ ⟨Fa.V_ENDS, ⟨Fa.V_SUM, ⟨Fa.V_WORDS, trivial⟩⟩⟩ trivial trivial (kok0 Fa _ rfl rfl rfl rfl)) 67 run_f_all_steps
noncomputable def G_f_span_by : Gam := { attr := [("columns", ["Sheet"]), ("rows", ["Sheet"])], kit := kitT, nf := nfN }
theorem sc_f_span_by : FnScope ["sheet", "word", "at"] ["sheet", "word", "at"] (defScope (topS 20)) := ⟨rfl, rfl, rfl, by decide +kernel, rfl, by decide +kernel, by decide +kernel⟩
theorem run_f_span_by : runDef (["sheet", "word", "at"] : List Str).length ((cp G_f_span_by ["sheet", "word", "at"] 61).ss (defScope (topS 20)) (defBody (topS 20))) = f_span_by := by kernel_rfl
theorem ok_f_span_by (Fa : Facts Y) : FnX Y 1 3 "span_by" f_span_by := fnX Fa.F_f_span_by sc_f_span_by (fun _ _ _ _ _ _ us hl => match us, hl with | [_, _, _], _ => rfl) (gok (Γ := G_f_span_by) trivial trivial trivial ⟨(at_columns Fa), ⟨(at_rows Fa), trivial⟩⟩ (kok0 Fa _ rfl rfl rfl rfl)) 61 run_f_span_by
noncomputable def G_f_bounds_by : Gam := { call := [("span_by", .fn 3 f_span_by), ("line_cells", .fn 3 f_line_cells)], val := [("SUM", (.int (-1)))], attr := [("highs", ["Sheet"]), ("lows", ["Sheet"])], kit := kitT, nf := nfN }
theorem sc_f_bounds_by : FnScope ["sheet", "step", "word", "at", "place", "row", "column"] ["sheet", "step"] (defScope (topS 31)) := ⟨rfl, rfl, rfl, by decide +kernel, rfl, by decide +kernel, by decide +kernel⟩
theorem run_f_bounds_by : runDef (["sheet", "step", "word", "at", "place", "row", "column"] : List Str).length ((cp G_f_bounds_by ["sheet", "step", "word", "at", "place", "row", "column"] 67).ss (defScope (topS 31)) (defBody (topS 31))) = f_bounds_by := by kernel_rfl
theorem ok_f_bounds_by (Fa : Facts Y) : FnX Y 3 2 "bounds_by" f_bounds_by := fnX Fa.F_f_bounds_by sc_f_bounds_by (fun _ _ _ _ _ _ us hl => match us, hl with | [_, _], _ => rfl) (gok (Γ := G_f_bounds_by) ⟨((ok_f_span_by Fa).mono (by decide)), ⟨((ok_f_line_cells Fa).mono (by decide)), trivial⟩⟩ ⟨Fa.V_SUM, trivial⟩ trivial ⟨(at_highs Fa), ⟨(at_lows Fa), trivial⟩⟩ (kok0 Fa _ rfl rfl rfl rfl)) 67 run_f_bounds_by
noncomputable def G_f_sum_or_none : Gam := { call := [("any", .blt bAny), ("sum", .blt bSum)], kit := kitT, nf := nfN }
theorem sc_f_sum_or_none : FnScope ["numbers", "one"] ["numbers"] (defScope (topS 28)) := ⟨rfl, rfl, rfl, by decide +kernel, rfl, by decide +kernel, by decide +kernel⟩
theorem run_f_sum_or_none : runDef (["numbers", "one"] : List Str).length ((cp G_f_sum_or_none ["numbers", "one"] 61).ss (defScope (topS 28)) (defBody (topS 28))) = f_sum_or_none := by kernel_rfl
theorem ok_f_sum_or_none (Fa : Facts Y) : FnX Y 1 1 "sum_or_none" f_sum_or_none := fnX Fa.F_f_sum_or_none sc_f_sum_or_none (fun _ _ _ _ _ _ us hl => match us, hl with | [_], _ => rfl) (gok (Γ := G_f_sum_or_none) ⟨(blt_any Fa.z_any), ⟨(blt_sum Fa.z_sum), trivial⟩⟩ trivial trivial trivial (kok0 Fa _ rfl rfl rfl rfl)) 61 run_f_sum_or_none
noncomputable def G_f_others_by : Gam := { call := [("line_cells", .fn 3 f_line_cells), ("enumerate", .enm)], kit := kitT, nf := nfN }
theorem sc_f_others_by : FnScope ["sheet", "step", "rows", "word", "at", "place", "cells", "number", "row", "column"] ["sheet", "step", "rows"] (defScope (topS 29)) := ⟨rfl, rfl, rfl, by decide +kernel, rfl, by decide +kernel, by decide +kernel⟩
theorem run_f_others_by : runDef (["sheet", "step", "rows", "word", "at", "place", "cells", "number", "row", "column"] : List Str).length ((cp G_f_others_by ["sheet", "step", "rows", "word", "at", "place", "cells", "number", "row", "column"] 66).ss (defScope (topS 29)) (defBody (topS 29))) = f_others_by := by kernel_rfl
theorem ok_f_others_by (Fa : Facts Y) : FnX Y 3 3 "others_by" f_others_by := fnX Fa.F_f_others_by sc_f_others_by (fun _ _ _ _ _ _ us hl => match us, hl with | [_, _, _], _ => rfl) (gok (Γ := G_f_others_by) ⟨((ok_f_line_cells Fa).mono (by decide)), ⟨⟨rfl, Fa.z_enumerate⟩, trivial⟩⟩ trivial trivial trivial (kok0 Fa _ rfl rfl rfl rfl)) 66 run_f_others_by
noncomputable def G_f_number_by : Gam := { call := [("span_by", .fn 3 f_span_by), ("sum_or_none", .fn 1 f_sum_or_none), ("others_by", .fn 3 f_others_by), ("sum", .blt bSum)], val := [("SUM", (.int (-1)))], attr := [("highs", ["Sheet"]), ("lows", ["Sheet"])], kit := kitT, nf := nfN }
theorem sc_f_number_by : FnScope ["sheet", "step", "word", "at", "place", "end", "low", "high", "most"] ["sheet", "step"] (defScope (topS 30)) := ⟨rfl, rfl, rfl, by decide +kernel, rfl, by decide +kernel, by decide +kernel⟩
theorem run_f_number_by : runDef (["sheet", "step", "word", "at", "place", "end", "low", "high", "most"] : List Str).length ((cp G_f_number_by ["sheet", "step", "word", "at", "place", "end", "low", "high", "most"] 70).ss (defScope (topS 30)) (defBody (topS 30))) = f_number_by := by kernel_rfl
theorem ok_f_number_by (Fa : Facts Y) : FnX Y 4 2 "number_by" f_number_by := fnX Fa.F_f_number_by sc_f_number_by (fun _ _ _ _ _ _ us hl => match us, hl with | [_, _], _ => rfl) (gok (Γ := G_f_number_by) ⟨((ok_f_span_by Fa).mono (by decide)), ⟨((ok_f_sum_or_none Fa).mono (by decide)), ⟨((ok_f_others_by Fa).mono (by decide)), ⟨(blt_sum Fa.z_sum), trivial⟩⟩⟩⟩ ⟨Fa.V_SUM, trivial⟩ trivial ⟨(at_highs Fa), ⟨(at_lows Fa), trivial⟩⟩ (kok0 Fa _ rfl rfl rfl rfl)) 70 run_f_number_by
noncomputable def G_f_takes_by : Gam := { call := [("bounds_by", .fn 2 f_bounds_by), ("number_by", .fn 2 f_number_by)], kit := kitT, nf := nfN }
theorem sc_f_takes_by : FnScope ["sheet", "step", "number", "low", "high"] ["sheet", "step"] (defScope (topS 32)) := ⟨rfl, rfl, rfl, by decide +kernel, rfl, by decide +kernel, by decide +kernel⟩
theorem run_f_takes_by : runDef (["sheet", "step", "number", "low", "high"] : List Str).length ((cp G_f_takes_by ["sheet", "step", "number", "low", "high"] 65).ss (defScope (topS 32)) (defBody (topS 32))) = f_takes_by := by kernel_rfl
theorem ok_f_takes_by (Fa : Facts Y) : FnX Y 5 2 "takes_by" f_takes_by := fnX Fa.F_f_takes_by sc_f_takes_by (fun _ _ _ _ _ _ us hl => match us, hl with | [_, _], _ => rfl) (gok (Γ := G_f_takes_by) ⟨((ok_f_bounds_by Fa).mono (by decide)), ⟨((ok_f_number_by Fa).mono (by decide)), trivial⟩⟩ trivial trivial trivial (kok0 Fa _ rfl rfl rfl rfl)) 65 run_f_takes_by
noncomputable def G_f_taking : Gam := { call := [("all_steps", .fn 1 f_all_steps), ("takes_by", .fn 2 f_takes_by)], kit := kitT, nf := nfN }
theorem sc_f_taking : FnScope ["sheet", "step"] ["sheet"] (defScope (topS 36)) := ⟨rfl, rfl, rfl, by decide +kernel, rfl, by decide +kernel, by decide +kernel⟩
theorem run_f_taking : runDef (["sheet", "step"] : List Str).length ((cp G_f_taking ["sheet", "step"] 61).ss (defScope (topS 36)) (defBody (topS 36))) = f_taking := by kernel_rfl
theorem ok_f_taking (Fa : Facts Y) : FnX Y 6 1 "taking" f_taking := fnX Fa.F_f_taking sc_f_taking (fun _ _ _ _ _ _ us hl => match us, hl with | [_], _ => rfl) (gok (Γ := G_f_taking) ⟨((ok_f_all_steps Fa).mono (by decide)), ⟨((ok_f_takes_by Fa).mono (by decide)), trivial⟩⟩ trivial trivial trivial (kok0 Fa _ rfl rfl rfl rfl)) 61 run_f_taking
noncomputable def G_f_bounds_behind : Gam := { call := [("bounds_by", .fn 2 f_bounds_by), ("number_by", .fn 2 f_number_by)], kit := kitT, nf := nfN }
theorem sc_f_bounds_behind : FnScope ["sheet", "step", "number", "low", "high"] ["sheet", "step"] (defScope (topS 33)) := ⟨rfl, rfl, rfl, by decide +kernel, rfl, by decide +kernel, by decide +kernel⟩
theorem run_f_bounds_behind : runDef (["sheet", "step", "number", "low", "high"] : List Str).length ((cp G_f_bounds_behind ["sheet", "step", "number", "low", "high"] 64).ss (defScope (topS 33)) (defBody (topS 33))) = f_bounds_behind := by kernel_rfl
theorem ok_f_bounds_behind (Fa : Facts Y) : FnX Y 5 2 "bounds_behind" f_bounds_behind := fnX Fa.F_f_bounds_behind sc_f_bounds_behind (fun _ _ _ _ _ _ us hl => match us, hl with | [_, _], _ => rfl) (gok (Γ := G_f_bounds_behind) ⟨((ok_f_bounds_by Fa).mono (by decide)), ⟨((ok_f_number_by Fa).mono (by decide)), trivial⟩⟩ trivial trivial trivial (kok0 Fa _ rfl rfl rfl rfl)) 64 run_f_bounds_behind
noncomputable def G_f_breaks_by : Gam := { call := [("bounds_behind", .fn 2 f_bounds_behind)], kit := kitT, nf := nfN }
theorem sc_f_breaks_by : FnScope ["sheet", "step", "low", "high"] ["sheet", "step"] (defScope (topS 34)) := ⟨rfl, rfl, rfl, by decide +kernel, rfl, by decide +kernel, by decide +kernel⟩
theorem run_f_breaks_by : runDef (["sheet", "step", "low", "high"] : List Str).length ((cp G_f_breaks_by ["sheet", "step", "low", "high"] 64).ss (defScope (topS 34)) (defBody (topS 34))) = f_breaks_by := by kernel_rfl
theorem ok_f_breaks_by (Fa : Facts Y) : FnX Y 6 2 "breaks_by" f_breaks_by := fnX Fa.F_f_breaks_by sc_f_breaks_by (fun _ _ _ _ _ _ us hl => match us, hl with | [_, _], _ => rfl) (gok (Γ := G_f_breaks_by) ⟨((ok_f_bounds_behind Fa).mono (by decide)), trivial⟩ trivial trivial trivial (kok0 Fa _ rfl rfl rfl rfl)) 64 run_f_breaks_by
noncomputable def G_f_is_whole : Gam := { call := [("isinstance", .isi)], ty := [("bool", .b "bool"), ("int", .b "int")], kit := kitT, nf := nfN }
theorem sc_f_is_whole : FnScope ["value"] ["value"] (defScope (topS 4)) := ⟨rfl, rfl, rfl, by decide +kernel, rfl, by decide +kernel, by decide +kernel⟩
theorem run_f_is_whole : runDef (["value"] : List Str).length ((cp G_f_is_whole ["value"] 61).ss (defScope (topS 4)) (defBody (topS 4))) = f_is_whole := by kernel_rfl
theorem ok_f_is_whole (Fa : Facts Y) : FnX Y 1 1 "is_whole" f_is_whole := fnX Fa.F_f_is_whole sc_f_is_whole (fun _ _ _ _ _ _ us hl => match us, hl with | [_], _ => rfl) (gok (Γ := G_f_is_whole) ⟨⟨rfl, Fa.z_isinstance⟩, trivial⟩ trivial ⟨(tyOk_b Fa.z_bool rfl), ⟨(tyOk_b Fa.z_int rfl), trivial⟩⟩ trivial (kok0 Fa _ rfl rfl rfl rfl)) 61 run_f_is_whole
noncomputable def G_f_is_number : Gam := { call := [("is_whole", .fn 1 f_is_whole)], kit := kitT, nf := nfN }
theorem sc_f_is_number : FnScope ["value"] ["value"] (defScope (topS 5)) := ⟨rfl, rfl, rfl, by decide +kernel, rfl, by decide +kernel, by decide +kernel⟩
theorem run_f_is_number : runDef (["value"] : List Str).length ((cp G_f_is_number ["value"] 61).ss (defScope (topS 5)) (defBody (topS 5))) = f_is_number := by kernel_rfl
theorem ok_f_is_number (Fa : Facts Y) : FnX Y 2 1 "is_number" f_is_number := fnX Fa.F_f_is_number sc_f_is_number (fun _ _ _ _ _ _ us hl => match us, hl with | [_], _ => rfl) (gok (Γ := G_f_is_number) ⟨((ok_f_is_whole Fa).mono (by decide)), trivial⟩ trivial trivial trivial (kok0 Fa _ rfl rfl rfl rfl)) 61 run_f_is_number
noncomputable def G_f_are_numbers : Gam := { call := [("all", .blt bAll), ("is_number", .fn 1 f_is_number), ("len", .blt bLen), ("isinstance", .isi)], ty := [("tuple", .b "tuple")], kit := kitT, nf := nfN }
theorem sc_f_are_numbers : FnScope ["value", "many", "one"] ["value", "many"] (defScope (topS 10)) := ⟨rfl, rfl, rfl, by decide +kernel, rfl, by decide +kernel, by decide +kernel⟩
theorem run_f_are_numbers : runDef (["value", "many", "one"] : List Str).length ((cp G_f_are_numbers ["value", "many", "one"] 61).ss (defScope (topS 10)) (defBody (topS 10))) = f_are_numbers := by kernel_rfl
theorem ok_f_are_numbers (Fa : Facts Y) : FnX Y 3 2 "are_numbers" f_are_numbers := fnX Fa.F_f_are_numbers sc_f_are_numbers (fun _ _ _ _ _ _ us hl => match us, hl with | [_, _], _ => rfl) (gok (Γ := G_f_are_numbers) ⟨(blt_all Fa.z_all), ⟨((ok_f_is_number Fa).mono (by decide)), ⟨(blt_len Fa.z_len), ⟨⟨rfl, Fa.z_isinstance⟩, trivial⟩⟩⟩⟩ trivial ⟨(tyOk_b Fa.z_tuple rfl), trivial⟩ trivial (kok0 Fa _ rfl rfl rfl rfl)) 61 run_f_are_numbers
noncomputable def G_f_need_lows : Gam := { call := [("len", .blt bLen), ("isinstance", .isi), ("all", .blt bAll), ("are_numbers", .fn 2 f_are_numbers)], val := [("MOST_LINES", (.int 6))], ty := [("list", .b "list"), ("tuple", .b "tuple")], kit := kitT, nf := nfN }
theorem sc_f_need_lows : FnScope ["lows", "row"] ["lows"] (defScope (topS 11)) := ⟨rfl, rfl, rfl, by decide +kernel, rfl, by decide +kernel, by decide +kernel⟩
theorem run_f_need_lows : runDef (["lows", "row"] : List Str).length ((cp G_f_need_lows ["lows", "row"] 65).ss (defScope (topS 11)) (defBody (topS 11))) = f_need_lows := by kernel_rfl
theorem ok_f_need_lows (Fa : Facts Y) : FnX Y 4 1 "need_lows" f_need_lows := fnX Fa.F_f_need_lows sc_f_need_lows (fun _ _ _ _ _ _ us hl => match us, hl with | [_], _ => rfl) (gok (Γ := G_f_need_lows) ⟨(blt_len Fa.z_len), ⟨⟨rfl, Fa.z_isinstance⟩, ⟨(blt_all Fa.z_all), ⟨((ok_f_are_numbers Fa).mono (by decide)), trivial⟩⟩⟩⟩ ⟨Fa.V_MOST_LINES, trivial⟩ ⟨(tyOk_b Fa.z_list rfl), ⟨(tyOk_b Fa.z_tuple rfl), trivial⟩⟩ trivial (kok0 Fa _ rfl rfl rfl rfl)) 65 run_f_need_lows
noncomputable def G_f_is_high : Gam := { call := [("is_number", .fn 1 f_is_number)], kit := kitT, nf := nfN }
theorem sc_f_is_high : FnScope ["low", "value"] ["low", "value"] (defScope (topS 12)) := ⟨rfl, rfl, rfl, by decide +kernel, rfl, by decide +kernel, by decide +kernel⟩
theorem run_f_is_high : runDef (["low", "value"] : List Str).length ((cp G_f_is_high ["low", "value"] 61).ss (defScope (topS 12)) (defBody (topS 12))) = f_is_high := by kernel_rfl
theorem ok_f_is_high (Fa : Facts Y) : FnX Y 3 2 "is_high" f_is_high := fnX Fa.F_f_is_high sc_f_is_high (fun _ _ _ _ _ _ us hl => match us, hl with | [_, _], _ => rfl) (gok (Γ := G_f_is_high) ⟨((ok_f_is_number Fa).mono (by decide)), trivial⟩ trivial trivial trivial (kok0 Fa _ rfl rfl rfl rfl)) 61 run_f_is_high
noncomputable def G_f_are_highs : Gam := { call := [("len", .blt bLen), ("isinstance", .isi), ("all", .blt bAll), ("zip", .zip), ("is_high", .fn 2 f_is_high)], ty := [("tuple", .b "tuple")], kit := kitT, nf := nfN }
theorem sc_f_are_highs : FnScope ["lows", "value", "low", "high"] ["lows", "value"] (defScope (topS 13)) := ⟨rfl, rfl, rfl, by decide +kernel, rfl, by decide +kernel, by decide +kernel⟩
theorem run_f_are_highs : runDef (["lows", "value", "low", "high"] : List Str).length ((cp G_f_are_highs ["lows", "value", "low", "high"] 64).ss (defScope (topS 13)) (defBody (topS 13))) = f_are_highs := by kernel_rfl
theorem ok_f_are_highs (Fa : Facts Y) : FnX Y 4 2 "are_highs" f_are_highs := fnX Fa.F_f_are_highs sc_f_are_highs (fun _ _ _ _ _ _ us hl => match us, hl with | [_, _], _ => rfl) (gok (Γ := G_f_are_highs) ⟨(blt_len Fa.z_len), ⟨⟨rfl, Fa.z_isinstance⟩, ⟨(blt_all Fa.z_all), ⟨⟨rfl, Fa.z_zip⟩, ⟨((ok_f_is_high Fa).mono (by decide)), trivial⟩⟩⟩⟩⟩ trivial ⟨(tyOk_b Fa.z_tuple rfl), trivial⟩ trivial (kok0 Fa _ rfl rfl rfl rfl)) 64 run_f_are_highs
noncomputable def G_f_need_highs : Gam := { call := [("len", .blt bLen), ("isinstance", .isi), ("all", .blt bAll), ("zip", .zip), ("are_highs", .fn 2 f_are_highs)], ty := [("list", .b "list"), ("tuple", .b "tuple")], kit := kitT, nf := nfN }
theorem sc_f_need_highs : FnScope ["lows", "highs", "row", "some"] ["lows", "highs"] (defScope (topS 14)) := ⟨rfl, rfl, rfl, by decide +kernel, rfl, by decide +kernel, by decide +kernel⟩
theorem run_f_need_highs : runDef (["lows", "highs", "row", "some"] : List Str).length ((cp G_f_need_highs ["lows", "highs", "row", "some"] 64).ss (defScope (topS 14)) (defBody (topS 14))) = f_need_highs := by kernel_rfl
theorem ok_f_need_highs (Fa : Facts Y) : FnX Y 5 2 "need_highs" f_need_highs := fnX Fa.F_f_need_highs sc_f_need_highs (fun _ _ _ _ _ _ us hl => match us, hl with | [_, _], _ => rfl) (gok (Γ := G_f_need_highs) ⟨(blt_len Fa.z_len), ⟨⟨rfl, Fa.z_isinstance⟩, ⟨(blt_all Fa.z_all), ⟨⟨rfl, Fa.z_zip⟩, ⟨((ok_f_are_highs Fa).mono (by decide)), trivial⟩⟩⟩⟩⟩ trivial ⟨(tyOk_b Fa.z_list rfl), ⟨(tyOk_b Fa.z_tuple rfl), trivial⟩⟩ trivial (kok0 Fa _ rfl rfl rfl rfl)) 64 run_f_need_highs
noncomputable def G_f_is_span : Gam := { call := [("are_numbers", .fn 2 f_are_numbers)], kit := kitT, nf := nfN }
theorem sc_f_is_span : FnScope ["value"] ["value"] (defScope (topS 15)) := ⟨rfl, rfl, rfl, by decide +kernel, rfl, by decide +kernel, by decide +kernel⟩
theorem run_f_is_span : runDef (["value"] : List Str).length ((cp G_f_is_span ["value"] 61).ss (defScope (topS 15)) (defBody (topS 15))) = f_is_span := by kernel_rfl
theorem ok_f_is_span (Fa : Facts Y) : FnX Y 4 1 "is_span" f_is_span := fnX Fa.F_f_is_span sc_f_is_span (fun _ _ _ _ _ _ us hl => match us, hl with | [_], _ => rfl) (gok (Γ := G_f_is_span) ⟨((ok_f_are_numbers Fa).mono (by decide)), trivial⟩ trivial trivial trivial (kok0 Fa _ rfl rfl rfl rfl)) 61 run_f_is_span
noncomputable def G_f_need_spans : Gam := { call := [("all", .blt bAll), ("is_span", .fn 1 f_is_span), ("len", .blt bLen), ("isinstance", .isi)], ty := [("list", .b "list"), ("tuple", .b "tuple")], kit := kitT, nf := nfN }
theorem sc_f_need_spans : FnScope ["what", "spans", "many", "one"] ["what", "spans", "many"] (defScope (topS 16)) := ⟨rfl, rfl, rfl, by decide +kernel, rfl, by decide +kernel, by decide +kernel⟩
theorem run_f_need_spans : runDef (["what", "spans", "many", "one"] : List Str).length ((cp G_f_need_spans ["what", "spans", "many", "one"] 63).ss (defScope (topS 16)) (defBody (topS 16))) = f_need_spans := by kernel_rfl
theorem ok_f_need_spans (Fa : Facts Y) : FnX Y 5 3 "need_spans" f_need_spans := fnX Fa.F_f_need_spans sc_f_need_spans (fun _ _ _ _ _ _ us hl => match us, hl with | [_, _, _], _ => rfl) (gok (Γ := G_f_need_spans) ⟨(blt_all Fa.z_all), ⟨((ok_f_is_span Fa).mono (by decide)), ⟨(blt_len Fa.z_len), ⟨⟨rfl, Fa.z_isinstance⟩, trivial⟩⟩⟩⟩ trivial ⟨(tyOk_b Fa.z_list rfl), ⟨(tyOk_b Fa.z_tuple rfl), trivial⟩⟩ trivial (kok0 Fa _ rfl rfl rfl rfl)) 63 run_f_need_spans
noncomputable def G_m_Sheet_init : Gam := { call := [("need_lows", .fn 1 f_need_lows), ("need_highs", .fn 2 f_need_highs), ("need_spans", .fn 3 f_need_spans), ("len", .blt bLen), ("tuple", .blt bTuple)], attr := [("columns", ["Sheet"]), ("highs", ["Sheet"]), ("lows", ["Sheet"]), ("rows", ["Sheet"])], kit := kitT, nf := nfN }
theorem sc_m_Sheet_init : FnScope ["self", "lows", "highs", "rows", "columns"] ["self", "lows", "highs", "rows", "columns"] (defScope (inS 8 0)) := ⟨rfl, rfl, rfl, by decide +kernel, rfl, by decide +kernel, by decide +kernel⟩
theorem run_m_Sheet_init : runDef (["self", "lows", "highs", "rows", "columns"] : List Str).length ((cp G_m_Sheet_init ["self", "lows", "highs", "rows", "columns"] 68).ss (defScope (inS 8 0)) (defBody (inS 8 0))) = m_Sheet_init := by kernel_rfl
theorem ok_m_Sheet_init (Fa : Facts Y) : MeX Y 6 5 "Sheet" "__init__" m_Sheet_init := meX Fa.F_m_Sheet_init sc_m_Sheet_init (fun _ _ _ _ _ _ us hl => match us, hl with | [_, _, _, _, _], _ => rfl) (gok (Γ := G_m_Sheet_init) ⟨((ok_f_need_lows Fa).mono (by decide)), ⟨((ok_f_need_highs Fa).mono (by decide)), ⟨((ok_f_need_spans Fa).mono (by decide)), ⟨(blt_len Fa.z_len), ⟨(blt_tuple Fa.z_tuple), trivial⟩⟩⟩⟩⟩ trivial trivial ⟨(at_columns Fa), ⟨(at_highs Fa), ⟨(at_lows Fa), ⟨(at_rows Fa), trivial⟩⟩⟩⟩ (kok0 Fa _ rfl rfl rfl rfl)) 68 run_m_Sheet_init
noncomputable def G_f_with_item : Gam := { kit := kitT, nf := nfN }
theorem sc_f_with_item : FnScope ["rows", "at", "item"] ["rows", "at", "item"] (defScope (topS 21)) := ⟨rfl, rfl, rfl, by decide +kernel, rfl, by decide +kernel, by decide +kernel⟩
theorem run_f_with_item : runDef (["rows", "at", "item"] : List Str).length ((cp G_f_with_item ["rows", "at", "item"] 64).ss (defScope (topS 21)) (defBody (topS 21))) = f_with_item := by kernel_rfl
theorem ok_f_with_item (Fa : Facts Y) : FnX Y 1 3 "with_item" f_with_item := fnX Fa.F_f_with_item sc_f_with_item (fun _ _ _ _ _ _ us hl => match us, hl with | [_, _, _], _ => rfl) (gok (Γ := G_f_with_item) trivial trivial trivial trivial (kok0 Fa _ rfl rfl rfl rfl)) 64 run_f_with_item
noncomputable def G_f_with_span : Gam := { call := [("Sheet", .mk 4 m_Sheet_init), ("with_item", .fn 3 f_with_item)], attr := [("columns", ["Sheet"]), ("highs", ["Sheet"]), ("lows", ["Sheet"]), ("rows", ["Sheet"])], kit := kitT, nf := nfN }
theorem sc_f_with_span : FnScope ["sheet", "word", "at", "span"] ["sheet", "word", "at", "span"] (defScope (topS 22)) := ⟨rfl, rfl, rfl, by decide +kernel, rfl, by decide +kernel, by decide +kernel⟩
theorem run_f_with_span : runDef (["sheet", "word", "at", "span"] : List Str).length ((cp G_f_with_span ["sheet", "word", "at", "span"] 62).ss (defScope (topS 22)) (defBody (topS 22))) = f_with_span := by kernel_rfl
theorem ok_f_with_span (Fa : Facts Y) : FnX Y 8 4 "with_span" f_with_span := fnX Fa.F_f_with_span sc_f_with_span (fun _ _ _ _ _ _ us hl => match us, hl with | [_, _, _, _], _ => rfl) (gok (Γ := G_f_with_span) ⟨(mkX Fa.C_Sheet (ok_m_Sheet_init Fa) (by decide)), ⟨((ok_f_with_item Fa).mono (by decide)), trivial⟩⟩ trivial trivial ⟨(at_columns Fa), ⟨(at_highs Fa), ⟨(at_lows Fa), ⟨(at_rows Fa), trivial⟩⟩⟩⟩ (kok0 Fa _ rfl rfl rfl rfl)) 62 run_f_with_span
noncomputable def G_f_behind_by : Gam := { call := [("bounds_behind", .fn 2 f_bounds_behind), ("with_span", .fn 4 f_with_span), ("line_cells", .fn 3 f_line_cells), ("with_item", .fn 3 f_with_item), ("Sheet", .mk 4 m_Sheet_init)], val := [("SUM", (.int (-1)))], attr := [("columns", ["Sheet"]), ("highs", ["Sheet"]), ("lows", ["Sheet"]), ("rows", ["Sheet"])], kit := kitT, nf := nfN }
theorem sc_f_behind_by : FnScope ["sheet", "step", "word", "at", "place", "low", "high", "row", "column", "lows", "highs"] ["sheet", "step"] (defScope (topS 35)) := ⟨rfl, rfl, rfl, by decide +kernel, rfl, by decide +kernel, by decide +kernel⟩
theorem run_f_behind_by : runDef (["sheet", "step", "word", "at", "place", "low", "high", "row", "column", "lows", "highs"] : List Str).length ((cp G_f_behind_by ["sheet", "step", "word", "at", "place", "low", "high", "row", "column", "lows", "highs"] 70).ss (defScope (topS 35)) (defBody (topS 35))) = f_behind_by := by kernel_rfl
theorem ok_f_behind_by (Fa : Facts Y) : FnX Y 9 2 "behind_by" f_behind_by := fnX Fa.F_f_behind_by sc_f_behind_by (fun _ _ _ _ _ _ us hl => match us, hl with | [_, _], _ => rfl) (gok (Γ := G_f_behind_by) ⟨((ok_f_bounds_behind Fa).mono (by decide)), ⟨((ok_f_with_span Fa).mono (by decide)), ⟨((ok_f_line_cells Fa).mono (by decide)), ⟨((ok_f_with_item Fa).mono (by decide)), ⟨(mkX Fa.C_Sheet (ok_m_Sheet_init Fa) (by decide)), trivial⟩⟩⟩⟩⟩ ⟨Fa.V_SUM, trivial⟩ trivial ⟨(at_columns Fa), ⟨(at_highs Fa), ⟨(at_lows Fa), ⟨(at_rows Fa), trivial⟩⟩⟩⟩ (kok0 Fa _ rfl rfl rfl rfl)) 70 run_f_behind_by
noncomputable def G_f_tightened : Gam := { call := [("taking", .fn 1 f_taking), ("breaks_by", .fn 2 f_breaks_by), ("behind_by", .fn 2 f_behind_by)], kit := kitT, nf := nfN, bx := [⟨133, 19, 133, 21⟩] }
theorem sc_f_tightened : FnScope ["sheet", "steps", "here", "some"] ["sheet"] (defScope (topS 37)) := ⟨rfl, rfl, rfl, by decide +kernel, rfl, by decide +kernel, by decide +kernel⟩
theorem run_f_tightened : runDef (["sheet", "steps", "here", "some"] : List Str).length ((cp G_f_tightened ["sheet", "steps", "here", "some"] 66).ss (defScope (topS 37)) (defBody (topS 37))) = f_tightened := by kernel_rfl
theorem ok_f_tightened (Fa : Facts Y) : FnX Y 10 1 "tightened" f_tightened := fnX Fa.F_f_tightened sc_f_tightened (fun _ _ _ _ _ _ us hl => match us, hl with | [_], _ => rfl) (gok (Γ := G_f_tightened) ⟨((ok_f_taking Fa).mono (by decide)), ⟨((ok_f_breaks_by Fa).mono (by decide)), ⟨((ok_f_behind_by Fa).mono (by decide)), trivial⟩⟩⟩ trivial trivial trivial (kok0 Fa _ rfl rfl rfl rfl)) 66 run_f_tightened
noncomputable def G_f_tight_sheet : Gam := { call := [("tightened", .fn 1 f_tightened)], kit := kitT, nf := nfN }
theorem sc_f_tight_sheet : FnScope ["sheet"] ["sheet"] (defScope (topS 38)) := ⟨rfl, rfl, rfl, by decide +kernel, rfl, by decide +kernel, by decide +kernel⟩
theorem run_f_tight_sheet : runDef (["sheet"] : List Str).length ((cp G_f_tight_sheet ["sheet"] 61).ss (defScope (topS 38)) (defBody (topS 38))) = f_tight_sheet := by kernel_rfl
theorem ok_f_tight_sheet (Fa : Facts Y) : FnX Y 11 1 "tight_sheet" f_tight_sheet := fnX Fa.F_f_tight_sheet sc_f_tight_sheet (fun _ _ _ _ _ _ us hl => match us, hl with | [_], _ => rfl) (gok (Γ := G_f_tight_sheet) ⟨((ok_f_tightened Fa).mono (by decide)), trivial⟩ trivial trivial trivial (kok0 Fa _ rfl rfl rfl rfl)) 61 run_f_tight_sheet
noncomputable def G_f_law_made : Gam := { call := [("Sheet", .mk 4 m_Sheet_init)], kit := kitT, nf := nfN }
theorem sc_f_law_made : FnScope ["sheet"] ["sheet"] (defScope (topS 49)) := ⟨rfl, rfl, rfl, by decide +kernel, rfl, by decide +kernel, by decide +kernel⟩
theorem run_f_law_made : runDef (["sheet"] : List Str).length ((cp G_f_law_made ["sheet"] 61).ss (defScope (topS 49)) (defBody (topS 49))) = f_law_made := by kernel_rfl
theorem ok_f_law_made (Fa : Facts Y) : FnX Y 8 1 "_law_made" f_law_made := fnX Fa.F_f_law_made sc_f_law_made (fun _ _ _ _ _ _ us hl => match us, hl with | [_], _ => rfl) (gok (Γ := G_f_law_made) ⟨(mkX Fa.C_Sheet (ok_m_Sheet_init Fa) (by decide)), trivial⟩ trivial trivial trivial (kok0 Fa _ rfl rfl rfl rfl)) 61 run_f_law_made
noncomputable def G_f_law_is (n : Nat) : Gam := { call := [("isinstance", .isi), ("len", .blt bLen), ("range", .rng), ("_law_is", .fn 2 (f_law_is n))], ty := [("bool", .b "bool"), ("int", .b "int"), ("str", .b "str"), ("tuple", .b "tuple")], kit := kitT, nf := nfN }
theorem sc_f_law_is : FnScope ["told", "due", "at"] ["told", "due"] (defScope (topS 43)) := ⟨rfl, rfl, rfl, by decide +kernel, rfl, by decide +kernel, by decide +kernel⟩
theorem run_f_law_is (n : Nat) : runDef (["told", "due", "at"] : List Str).length ((cp (G_f_law_is n) ["told", "due", "at"] 66).ss (defScope (topS 43)) (defBody (topS 43))) = f_law_is (n + 1) := by kernel_rfl
theorem ok_f_law_is (Fa : Facts Y) : ∀ n, FnX Y (1 + n) 2 "_law_is" (f_law_is n)
  | 0 => fnX0 (ps := ["told", "due"]) Fa.F_f_law_is (fun _ _ _ _ _ _ us hl => match us, hl with | [_, _], _ => rfl)
  | n + 1 => by
    have h := ok_f_law_is Fa n
    exact fnX Fa.F_f_law_is sc_f_law_is (fun _ _ _ _ _ _ us hl => match us, hl with | [_, _], _ => rfl) (gok (Γ := (G_f_law_is n)) ⟨⟨rfl, Fa.z_isinstance⟩, ⟨(blt_len Fa.z_len), ⟨⟨rfl, Fa.z_range⟩, ⟨h, trivial⟩⟩⟩⟩ trivial ⟨(tyOk_b Fa.z_bool rfl), ⟨(tyOk_b Fa.z_int rfl), ⟨(tyOk_b Fa.z_str rfl), ⟨(tyOk_b Fa.z_tuple rfl), trivial⟩⟩⟩⟩ trivial (kok0 Fa _ rfl rfl rfl rfl)) 66 (run_f_law_is n)
noncomputable def G_f_law_drawn_shape : Gam := { call := [("_law_draw", .fn 2 f_law_draw)], kit := kitT, nf := nfN }
theorem sc_f_law_drawn_shape : FnScope ["pen", "most"] ["pen", "most"] (defScope (topS 45)) := ⟨rfl, rfl, rfl, by decide +kernel, rfl, by decide +kernel, by decide +kernel⟩
theorem run_f_law_drawn_shape : runDef (["pen", "most"] : List Str).length ((cp G_f_law_drawn_shape ["pen", "most"] 63).ss (defScope (topS 45)) (defBody (topS 45))) = f_law_drawn_shape := by kernel_rfl
theorem ok_f_law_drawn_shape (Fa : Facts Y) : FnX Y 2 2 "_law_drawn_shape" f_law_drawn_shape := fnX Fa.F_f_law_drawn_shape sc_f_law_drawn_shape (fun _ _ _ _ _ _ us hl => match us, hl with | [_, _], _ => rfl) (gok (Γ := G_f_law_drawn_shape) ⟨((ok_f_law_draw Fa).mono (by decide)), trivial⟩ trivial trivial trivial (kok0 Fa _ rfl rfl rfl rfl)) 63 run_f_law_drawn_shape
noncomputable def G_f_law_pick : Gam := { call := [("_law_draw", .fn 2 f_law_draw), ("len", .blt bLen)], kit := kitT, nf := nfN }
theorem sc_f_law_pick : FnScope ["pen", "some"] ["pen", "some"] (defScope (topS 42)) := ⟨rfl, rfl, rfl, by decide +kernel, rfl, by decide +kernel, by decide +kernel⟩
theorem run_f_law_pick : runDef (["pen", "some"] : List Str).length ((cp G_f_law_pick ["pen", "some"] 61).ss (defScope (topS 42)) (defBody (topS 42))) = f_law_pick := by kernel_rfl
theorem ok_f_law_pick (Fa : Facts Y) : FnX Y 2 2 "_law_pick" f_law_pick := fnX Fa.F_f_law_pick sc_f_law_pick (fun _ _ _ _ _ _ us hl => match us, hl with | [_, _], _ => rfl) (gok (Γ := G_f_law_pick) ⟨((ok_f_law_draw Fa).mono (by decide)), ⟨(blt_len Fa.z_len), trivial⟩⟩ trivial trivial trivial (kok0 Fa _ rfl rfl rfl rfl)) 61 run_f_law_pick
noncomputable def G_f_law_drawn_table : Gam := { call := [("tuple", .blt bTuple), ("range", .rng), ("_law_draw", .fn 2 f_law_draw)], kit := kitT, nf := nfN }
theorem sc_f_law_drawn_table : FnScope ["pen", "height", "width", "most", "row", "column"] ["pen", "height", "width", "most"] (defScope (topS 46)) := ⟨rfl, rfl, rfl, by decide +kernel, rfl, by decide +kernel, by decide +kernel⟩
theorem run_f_law_drawn_table : runDef (["pen", "height", "width", "most", "row", "column"] : List Str).length ((cp G_f_law_drawn_table ["pen", "height", "width", "most", "row", "column"] 61).ss (defScope (topS 46)) (defBody (topS 46))) = f_law_drawn_table := by kernel_rfl
theorem ok_f_law_drawn_table (Fa : Facts Y) : FnX Y 2 4 "_law_drawn_table" f_law_drawn_table := fnX Fa.F_f_law_drawn_table sc_f_law_drawn_table (fun _ _ _ _ _ _ us hl => match us, hl with | [_, _, _, _], _ => rfl) (gok (Γ := G_f_law_drawn_table) ⟨(blt_tuple Fa.z_tuple), ⟨⟨rfl, Fa.z_range⟩, ⟨((ok_f_law_draw Fa).mono (by decide)), trivial⟩⟩⟩ trivial trivial trivial (kok0 Fa _ rfl rfl rfl rfl)) 61 run_f_law_drawn_table
noncomputable def G_f_law_drawn_sheet : Gam := { call := [("_law_drawn_shape", .fn 2 f_law_drawn_shape), ("_law_pick", .fn 2 f_law_pick), ("_law_drawn_table", .fn 4 f_law_drawn_table), ("tuple", .blt bTuple), ("max", .blt bMax), ("_law_draw", .fn 2 f_law_draw), ("_law_about", .fn 3 f_law_about), ("sum", .blt bSum), ("_law_turned", .fn 1 f_law_turned)], kit := kitT, nf := nfN, bx := [⟨197, 11, 197, 61⟩] }
theorem sc_f_law_drawn_sheet : FnScope ["pen", "most", "numbers", "height", "width", "table", "wide", "none", "lows", "row", "number", "highs", "rows", "columns", "at", "move"] ["pen", "most", "numbers"] (defScope (topS 48)) := ⟨rfl, rfl, rfl, by decide +kernel, rfl, by decide +kernel, by decide +kernel⟩
theorem run_f_law_drawn_sheet : runDef (["pen", "most", "numbers", "height", "width", "table", "wide", "none", "lows", "row", "number", "highs", "rows", "columns", "at", "move"] : List Str).length ((cp G_f_law_drawn_sheet ["pen", "most", "numbers", "height", "width", "table", "wide", "none", "lows", "row", "number", "highs", "rows", "columns", "at", "move"] 73).ss (defScope (topS 48)) (defBody (topS 48))) = f_law_drawn_sheet := by kernel_rfl
theorem ok_f_law_drawn_sheet (Fa : Facts Y) : FnX Y 3 3 "_law_drawn_sheet" f_law_drawn_sheet := fnX Fa.F_f_law_drawn_sheet sc_f_law_drawn_sheet (fun _ _ _ _ _ _ us hl => match us, hl with | [_, _, _], _ => rfl) (gok (Γ := G_f_law_drawn_sheet) ⟨((ok_f_law_drawn_shape Fa).mono (by decide)), ⟨((ok_f_law_pick Fa).mono (by decide)), ⟨((ok_f_law_drawn_table Fa).mono (by decide)), ⟨(blt_tuple Fa.z_tuple), ⟨(blt_max Fa.z_max), ⟨((ok_f_law_draw Fa).mono (by decide)), ⟨((ok_f_law_about Fa).mono (by decide)), ⟨(blt_sum Fa.z_sum), ⟨((ok_f_law_turned Fa).mono (by decide)), trivial⟩⟩⟩⟩⟩⟩⟩⟩⟩ trivial trivial trivial (kok0 Fa _ rfl rfl rfl rfl)) 73 run_f_law_drawn_sheet
noncomputable def G_f_law_plain : Gam := { call := [("isinstance", .isi)], ty := [("Sheet", .c "Sheet")], attr := [("columns", ["Sheet"]), ("highs", ["Sheet"]), ("lows", ["Sheet"]), ("rows", ["Sheet"])], kit := kitT, nf := nfN }
theorem sc_f_law_plain : FnScope ["told"] ["told"] (defScope (topS 50)) := ⟨rfl, rfl, rfl, by decide +kernel, rfl, by decide +kernel, by decide +kernel⟩
theorem run_f_law_plain : runDef (["told"] : List Str).length ((cp G_f_law_plain ["told"] 65).ss (defScope (topS 50)) (defBody (topS 50))) = f_law_plain := by kernel_rfl
theorem ok_f_law_plain (Fa : Facts Y) : FnX Y 1 1 "_law_plain" f_law_plain := fnX Fa.F_f_law_plain sc_f_law_plain (fun _ _ _ _ _ _ us hl => match us, hl with | [_], _ => rfl) (gok (Γ := G_f_law_plain) ⟨⟨rfl, Fa.z_isinstance⟩, trivial⟩ trivial ⟨(tyOk_c Fa.C_Sheet), trivial⟩ ⟨(at_columns Fa), ⟨(at_highs Fa), ⟨(at_lows Fa), ⟨(at_rows Fa), trivial⟩⟩⟩⟩ (kok0 Fa _ rfl rfl rfl rfl)) 65 run_f_law_plain
noncomputable def G_f_law : Gam := { call := [("_law_pen", .fn 1 f_law_pen), ("range", .rng), ("_law_draw", .fn 2 f_law_draw), ("_law_single", .fn 3 f_law_single), ("_law_fillings", .fn 2 f_law_fillings), ("tight_sheet", .fn 1 f_tight_sheet), ("_law_made", .fn 1 f_law_made), ("len", .blt bLen), ("_law_is", .fn 2 (f_law_is 10)), ("max", .blt bMax), ("min", .blt bMin), ("sum", .blt bSum), ("_law_drawn_sheet", .fn 3 f_law_drawn_sheet), ("_law_wrong", .fn 2 f_law_wrong), ("_law_plain", .fn 1 f_law_plain)], attr := [("columns", ["Sheet"]), ("highs", ["Sheet"]), ("lows", ["Sheet"]), ("rows", ["Sheet"])], kit := kitT, nf := nfN }
theorem sc_f_law : FnScope ["script", "pen", "lap", "is_turned", "sheet", "told", "whole", "row", "column", "numbers", "table", "sums"] ["script"] (defScope (topS 56)) := ⟨rfl, rfl, rfl, by decide +kernel, rfl, by decide +kernel, by decide +kernel⟩
theorem run_f_law : runDef (["script", "pen", "lap", "is_turned", "sheet", "told", "whole", "row", "column", "numbers", "table", "sums"] : List Str).length ((cp G_f_law ["script", "pen", "lap", "is_turned", "sheet", "told", "whole", "row", "column", "numbers", "table", "sums"] 68).ss (defScope (topS 56)) (defBody (topS 56))) = f_law := by kernel_rfl
theorem okF_law {f : Addr} {fd : FuncData} (F : Fun Y.K "law" "law" (topS 56) f fd) (Fa : Facts Y) : FnOk Y.P Y.w Y.K Y.mg Y.base (L2.CX Y.P Y.w) 12 f fd ["script"] (LSp Y.K Y.mg 1 f_law) := by
  have := fn_ok (n := 0) (k := 11) F sc_f_law (gok (Γ := G_f_law) ⟨((ok_f_law_pen Fa).mono (by decide)), ⟨⟨rfl, Fa.z_range⟩, ⟨((ok_f_law_draw Fa).mono (by decide)), ⟨((ok_f_law_single Fa).mono (by decide)), ⟨((ok_f_law_fillings Fa).mono (by decide)), ⟨((ok_f_tight_sheet Fa).mono (by decide)), ⟨((ok_f_law_made Fa).mono (by decide)), ⟨(blt_len Fa.z_len), ⟨((ok_f_law_is Fa 10).mono (by decide)), ⟨(blt_max Fa.z_max), ⟨(blt_min Fa.z_min), ⟨(blt_sum Fa.z_sum), ⟨((ok_f_law_drawn_sheet Fa).mono (by decide)), ⟨((ok_f_law_wrong Fa).mono (by decide)), ⟨((ok_f_law_plain Fa).mono (by decide)), trivial⟩⟩⟩⟩⟩⟩⟩⟩⟩⟩⟩⟩⟩⟩⟩ trivial trivial ⟨(at_columns Fa), ⟨(at_highs Fa), ⟨(at_lows Fa), ⟨(at_rows Fa), trivial⟩⟩⟩⟩ (kok0 Fa _ rfl rfl rfl rfl)) 68
  rw [run_f_law] at this
  exact this
end
theorem law_end {P : Program} {w : World} {K : PySem.W.Frag} {mg : Str → Option Value} {fa : Addr} (lm : LawHolds f_law) (hfa : mg "law" = some (.ref fa)) (F : FunX K mg "law" (topS 56)) (h : ∀ base, Facts ⟨P, w, K, mg, base⟩) :
    ∃ fd : FuncData, (∀ (s : Shared) (u : Value), BindsTo s fd ⟨[u], []⟩ [("script", u)]) ∧ ∀ base : Heap, K.In base → base.Ns mainGlobals mg → FnOk P w K mg base (L2.CX P w) 12 fa fd ["script"] (spLaw K) := by
  obtain ⟨f, fd, e, F⟩ := F
  obtain rfl : fa = f := by rw [e] at hfa; cases hfa; rfl
  refine ⟨fd, fun s u => ?_, fun base _ _ => (okF_law F (h base)).imp (law_sp lm)⟩
  obtain ⟨oc, od, kV, doc, pm, an, cdv, ct, osl, rfl, _, _⟩ := F.ex
  exact .of_eq rfl
end VL
end
section
set_option linter.all false
set_option maxRecDepth 100000
set_option maxHeartbeats 2000000
namespace VL
open PySem L2
structure Pen where
  cells : List Int
  at_ : Int
  digits : Int
  count : Int
  fold : Int
def penL (p : Pen) : List (Key × D) := [(.inr "cells", .lst (p.cells.map D.int)), (.inr "at", .int p.at_), (.inr "digits", .int p.digits), (.inr "count", .int p.count), (.inr "fold", .int p.fold)]
def penO (p : Pen) : MO := .dct (penL p)
theorem pen_cells (p : Pen) : lookK (penL p) (.inr "cells") = some (.lst (p.cells.map D.int)) := by kernel_rfl
theorem pen_at (p : Pen) : lookK (penL p) (.inr "at") = some (.int p.at_) := by kernel_rfl
theorem pen_digits (p : Pen) : lookK (penL p) (.inr "digits") = some (.int p.digits) := by kernel_rfl
theorem pen_count (p : Pen) : lookK (penL p) (.inr "count") = some (.int p.count) := by kernel_rfl
theorem pen_fold (p : Pen) : lookK (penL p) (.inr "fold") = some (.int p.fold) := by kernel_rfl
theorem put_at (p : Pen) (v : Int) : putKD (penL p) (.inr "at") (.int v) = penL { p with at_ := v } := by kernel_rfl
theorem put_digits (p : Pen) (v : Int) : putKD (penL p) (.inr "digits") (.int v) = penL { p with digits := v } := by kernel_rfl
theorem put_count (p : Pen) (v : Int) : putKD (penL p) (.inr "count") (.int v) = penL { p with count := v } := by kernel_rfl
theorem put_fold (p : Pen) (v : Int) : putKD (penL p) (.inr "fold") (.int v) = penL { p with fold := v } := by kernel_rfl
section
variable {p : Pen} {rest : Mu} {P : D → Mu → Prop}
theorem pen_dct : dctOf (penO p :: rest) (.ref 0) = some (penL p) := rfl
@[simp] theorem get_cells : Wp (opIx (.ref 0) (.str "cells") (penO p :: rest)) P ↔ P (.lst (p.cells.map D.int)) (penO p :: rest) := by rw [wp_ixK pen_dct, pen_cells, ex_some]
@[simp] theorem get_at : Wp (opIx (.ref 0) (.str "at") (penO p :: rest)) P ↔ P (.int p.at_) (penO p :: rest) := by rw [wp_ixK pen_dct, pen_at, ex_some]
@[simp] theorem get_digits : Wp (opIx (.ref 0) (.str "digits") (penO p :: rest)) P ↔ P (.int p.digits) (penO p :: rest) := by rw [wp_ixK pen_dct, pen_digits, ex_some]
@[simp] theorem get_count : Wp (opIx (.ref 0) (.str "count") (penO p :: rest)) P ↔ P (.int p.count) (penO p :: rest) := by rw [wp_ixK pen_dct, pen_count, ex_some]
@[simp] theorem get_fold : Wp (opIx (.ref 0) (.str "fold") (penO p :: rest)) P ↔ P (.int p.fold) (penO p :: rest) := by rw [wp_ixK pen_dct, pen_fold, ex_some]
theorem set_pen {s : Str} {v : Int} {p' : Pen} (h : putKD (penL p) (.inr s) (.int v) = penL p') : setAt (.ref 0) (.str s) (.int v) (penO p :: rest) = some (penO p' :: rest) := by
  show (if (penL p).length < 16777216 then some ((penO p :: rest).set 0 (.dct (putKD (penL p) (.inr s) (.int v)))) else none) = _
  rw [h]; rfl
@[simp] theorem set_at {v : Int} : setAt (.ref 0) (.str "at") (.int v) (penO p :: rest) = some (penO { p with at_ := v } :: rest) := set_pen (put_at p v)
@[simp] theorem set_digits {v : Int} : setAt (.ref 0) (.str "digits") (.int v) (penO p :: rest) = some (penO { p with digits := v } :: rest) := set_pen (put_digits p v)
@[simp] theorem set_count {v : Int} : setAt (.ref 0) (.str "count") (.int v) (penO p :: rest) = some (penO { p with count := v } :: rest) := set_pen (put_count p v)
@[simp] theorem set_fold {v : Int} : setAt (.ref 0) (.str "fold") (.int v) (penO p :: rest) = some (penO { p with fold := v } :: rest) := set_pen (put_fold p v)
end
theorem und_ints (n : Nat) (ns : List Int) : undAll n (ns.map D.int) = true := by
  induction ns with
  | nil => rfl
  | cons x xs ih => show ((D.int x).und n && undAll n (xs.map D.int)) = true; rw [ih]; rfl
theorem pen_und (p : Pen) (n : Nat) : (penO p).und n = true := by
  show undAll n [.lst (p.cells.map D.int), .int p.at_, .int p.digits, .int p.count, .int p.fold] = true
  simp only [undAll, D.und, und_ints, Bool.and_true]
theorem keeps_pen {p p' : Pen} {rest more : Mu} : Keeps (penO p :: rest) (penO p' :: (rest ++ more)) := fun i o hi ho => by
  cases i with
  | zero => simp only [List.getElem?_cons_zero, Option.some.injEq] at ho; subst ho; exact .inr (pen_und _ _)
  | succ i =>
    simp only [List.getElem?_cons_succ] at ho ⊢
    rw [List.getElem?_append_left (by simpa using hi)] at ho
    exact .inl ho
theorem keeps_pen0 {p p' : Pen} {rest : Mu} : Keeps (penO p :: rest) (penO p' :: rest) := by
  have := keeps_pen (p := p) (p' := p') (rest := rest) (more := [])
  rwa [List.append_nil] at this
/-- a call that turns the pen alone -/
theorem wcl_pen {p p' : Pen} {rest : Mu} {d : D} {P : D → Mu → Prop} (hu : d.und (rest.length + 1) = true) (q : P d (penO p' :: rest)) : Wcl (penO p :: rest) d (penO p' :: rest) P :=
  wcl_und keeps_pen0 (by simp) (by simpa using hu) (by
    have : (penO p' :: rest).take (penO p :: rest).length = penO p' :: rest := List.take_of_length_le (by simp)
    rw [this]; exact q)
def Pen.ok (p : Pen) : Prop := 0 ≤ p.at_ ∧ 0 ≤ p.digits
theorem atI_pos {α : Type} {xs : List α} {i : Int} (h0 : 0 ≤ i) (h1 : i < xs.length) : ∃ d, atI xs i = some d ∧ xs[i.toNat]? = some d := by
  have hn : i.toNat < xs.length := by omega
  refine ⟨xs[i.toNat], ?_, List.getElem?_eq_getElem hn⟩
  unfold atI ixN
  rw [if_pos h0, if_pos h1]
  show xs[i.toNat]? = _
  exact List.getElem?_eq_getElem hn
theorem atI_nat' {α : Type} {xs : List α} {n : Nat} {d : α} (h : xs[n]? = some d) : atI xs (n : Int) = some d := by
  have hn := (List.getElem?_eq_some_iff.mp h).1
  obtain ⟨e, h1, h2⟩ := atI_pos (xs := xs) (i := n) (by omega) (by omega)
  rw [h1, ← h2, ← h]; rfl
theorem fmod_pos {x m : Int} (h : 0 < m) : 0 ≤ x.fmod m ∧ x.fmod m < m := ⟨Int.fmod_nonneg_of_pos x h, Int.fmod_lt_of_pos x h⟩
theorem fdiv_pos {x m : Int} (h : 0 ≤ x) (hm : 0 < m) : 0 ≤ x.fdiv m := Int.fdiv_nonneg h (Int.le_of_lt hm)
/-- a draw: some number below many; the pen goes on -/
theorem draw_w {p : Pen} {rest : Mu} {m : Int} {P : D → Mu → Prop} (hp : p.ok) (h1 : 1 ≤ m) (h2 : m < 1000000) (q : ∀ r p', p'.ok → 0 ≤ r → r < m → P (.int r) (penO p' :: rest)) : Wf f_law_draw [.ref 0, .int m] (penO p :: rest) P := by
  have W : ∀ (x : Int) (p' : Pen), p'.ok → Wcl (penO p :: rest) (.int (x.fmod m)) (penO p' :: rest) P := fun x p' h => wcl_pen rfl (q _ p' h (fmod_pos (by omega)).1 (fmod_pos (by omega)).2)
  have B : ∀ x : Int, -18446744073709551616 < x.fmod 2147483647 ∧ x.fmod 2147483647 < 18446744073709551616 := fun x => by
    have := fmod_pos (x := x) (m := 2147483647) (by decide); omega
  have hm : ¬ m = 0 := by omega
  have hm2 : m.natAbs < 1073741824 := by omega
  obtain ⟨ha0, hd0⟩ := hp
  unfold f_law_draw
  rw [wf_def]
  simp
  by_cases d0 : p.digits = 0
  · right
    refine ⟨d0, ?_⟩
    by_cases ha : p.at_ < p.cells.length
    · right
      refine ⟨ha, ?_⟩
      obtain ⟨c, hc1, hc2⟩ := atI_pos (xs := p.cells.map D.int) ha0 (by simpa using ha)
      obtain ⟨c0, hc3⟩ : ∃ c0, c = .int c0 := by
        rw [List.getElem?_map] at hc2
        cases hq : p.cells[p.at_.toNat]? with
        | none => rw [hq] at hc2; cases hc2
        | some z => rw [hq] at hc2; cases hc2; exact ⟨z, rfl⟩
      subst hc3
      refine ⟨_, hc1, ?_⟩
      simp [d0, hm, hm2, B]
      by_cases hb : c0 < 1000000000000000000
      · left
        exact ⟨hb, W _ _ ⟨by show 0 ≤ p.at_ + 1; omega, by show (0 : Int) ≤ 0; omega⟩⟩
      · right
        refine ⟨by omega, ?_⟩
        by_cases hz : c0 - 1000000000000000000 ≤ 0
        · left
          exact ⟨by omega, W _ _ ⟨by show 0 ≤ p.at_ + 1; omega, by show 0 ≤ c0 - 1000000000000000000; omega⟩⟩
        · right
          exact ⟨by omega, W _ _ ⟨by show 0 ≤ p.at_ + 1; omega, fdiv_pos (by omega) (by omega)⟩⟩
    · left
      refine ⟨by omega, ?_⟩
      left
      exact ⟨by omega, B _, hm, W _ _ ⟨by show 0 ≤ p.at_; omega, by show 0 ≤ p.digits; omega⟩⟩
  · left
    refine ⟨d0, .inr ⟨by omega, hm, ⟨hm, hm2⟩, W _ _ ⟨ha0, fdiv_pos (by omega) (by omega)⟩⟩⟩
/-- some item of a list that is at hand -/
theorem pick_w {p : Pen} {rest : Mu} {d : D} {xs : List D} {P : D → Mu → Prop} (hp : p.ok) (hd : ∀ p' : Pen, seqOf (penO p' :: rest) d = some xs) (h1 : xs ≠ []) (h2 : xs.length < 1000000) (hu : ∀ x ∈ xs, x.und (rest.length + 1) = true) (q : ∀ x ∈ xs, ∀ p', p'.ok → P x (penO p' :: rest)) : Wf f_law_pick [.ref 0, d] (penO p :: rest) P := by
  unfold f_law_pick
  rw [wf_def]
  have hl : 0 < xs.length := List.length_pos_iff.mpr h1
  simp [wp_len (hd p)]
  refine draw_w hp (by omega) (by omega) fun r p' hp' h3 h4 => ?_
  rw [wp_ix (hd p')]
  obtain ⟨x, e1, e2⟩ := atI_pos h3 h4
  have hx := List.mem_of_getElem? e2
  exact ⟨x, e1, wcl_pen (hu x hx) (q x hx p' hp')⟩
theorem pen_w {ns : List Int} {P : D → Mu → Prop} (q : ∀ p : Pen, p.ok → P (.ref 0) [penO p]) : Wf f_law_pen [.scr (ns.map D.int)] [] P := by
  unfold f_law_pen
  rw [wf_def]
  simp
  refine ⟨_, rfl, ?_⟩
  refine for_inv (fun xs ρ μ => (∃ k : List Int, xs = k.map D.int) ∧ μ = [] ∧ ∃ (f : Int) (c : Option D), ρ = [some (.scr (ns.map D.int)), some (.int f), c]) ?_ ?_ _ _ _ ⟨⟨ns, rfl⟩, rfl, 0, none, rfl⟩
  · rintro x xs ρ μ ⟨⟨k, hk⟩, rfl, f, c, rfl⟩
    refine ⟨fun _ h => (by cases h), ?_⟩
    cases k with
    | nil => cases hk
    | cons n k =>
      simp only [List.map_cons, List.cons.injEq] at hk
      obtain ⟨rfl, rfl⟩ := hk
      simp
      exact ⟨k, rfl⟩
  · rintro ρ μ ⟨_, rfl, f, c, rfl⟩
    refine ⟨fun _ h => (by cases h), ?_⟩
    simp [wp_list (show seqOf [] (.scr (ns.map D.int)) = some (ns.map D.int) from rfl)]
    refine ⟨by decide, ?_⟩
    exact wcl_hand (μ := []) (fun xs h => by cases h) (fun i o h => absurd h (Nat.not_lt_zero _)) (Nat.le_refl _) rfl (pen_und ⟨ns, 0, 0, 0, f⟩ 0) (q ⟨ns, 0, 0, 0, f⟩ ⟨Int.le_refl _, Int.le_refl _⟩)
end VL
end
section
set_option linter.all false
set_option maxRecDepth 100000
set_option maxHeartbeats 2000000
namespace VL
open PySem L2
theorem comp_pen {g : VG} {t : VT} {e : VE} {ρ : Ro} {vs : List Nat} {rest : Mu} {xs : List D} {S : Nat → D → Prop} {w : Wk} (hw : ∀ μ, w.holds μ) {p : Pen} (hp : p.ok)
    (h : ∀ i x, xs[i]? = some x → ∀ p : Pen, p.ok → ∀ Q : D → Mu → Prop, (∀ d p', p'.ok → S i d → Q d (penO p' :: rest)) → Wg g x (wipe ρ vs) (penO p :: rest) fun ρ1 μ1 => Wt t ρ1 μ1 fun k μ2 => k = true ∧ We e ρ1 μ2 Q)
    {Q : List D → Mu → Prop} (q : ∀ ds p', p'.ok → ds.length = xs.length → (∀ i d, ds[i]? = some d → S i d) → Q ds (penO p' :: rest)) : Wl (compL w g t e ρ vs xs [] (penO p :: rest)) Q := by
  refine comp_inv (fun rem acc μ => ∃ p', p'.ok ∧ μ = penO p' :: rest ∧ acc.length + rem.length = xs.length ∧ xs.drop acc.length = rem ∧ ∀ i d, acc[i]? = some d → S i d) ?_ ?_ xs [] _ ⟨p, hp, rfl, by simp, by simp, fun i d h => by simp at h⟩
  · rintro x rem acc μ ⟨p', hp', rfl, hl, hd, hs⟩
    refine ⟨hw _, ?_⟩
    have hx : xs[acc.length]? = some x := by
      have := List.getElem?_drop (xs := xs) (i := acc.length) (j := 0)
      rw [hd] at this; simpa using this.symm
    obtain ⟨ρ1, μ1, h1, k, μ2, h2, rfl, h3⟩ := h _ _ hx p' hp' (fun d μ3 => ∃ p', p'.ok ∧ μ3 = penO p' :: rest ∧ (acc ++ [d]).length + rem.length = xs.length ∧ xs.drop (acc ++ [d]).length = rem ∧ ∀ i d', (acc ++ [d])[i]? = some d' → S i d') fun d p'' hp'' hS => by
      refine ⟨p'', hp'', rfl, by simp at hl ⊢; omega, ?_, fun i d' hi => ?_⟩
      · rw [List.length_append, List.length_singleton, ← List.drop_drop, hd]; rfl
      · by_cases hi2 : i < acc.length
        · rw [List.getElem?_append_left hi2] at hi
          exact hs i d' hi
        · have hlt := (List.getElem?_eq_some_iff.mp hi).1
          have : i = acc.length := by simp at hlt; omega
          subst this
          rw [List.getElem?_concat_length] at hi
          cases hi; exact hS
    exact ⟨ρ1, μ1, h1, true, μ2, h2, h3⟩
  · rintro acc μ ⟨p', hp', rfl, hl, hd, hs⟩
    exact ⟨hw _, q acc p' hp' (by simpa using hl) hs⟩
theorem choose_map {α : Type} {f : α → D} : ∀ {ds : List D} {T : Nat → α → Prop}, (∀ i d, ds[i]? = some d → ∃ a, d = f a ∧ T i a) → ∃ as : List α, ds = as.map f ∧ as.length = ds.length ∧ ∀ i a, as[i]? = some a → T i a
  | [], _, _ => ⟨[], rfl, rfl, fun i a h => by simp at h⟩
  | d :: ds, T, h => by
    obtain ⟨a, e, ha⟩ := h 0 d (by simp)
    obtain ⟨as, e2, e3, e4⟩ := choose_map (ds := ds) (T := fun i => T (i + 1)) fun i d' hi => h (i + 1) d' (by simpa using hi)
    refine ⟨a :: as, by rw [e, e2]; simp, by simp [e3], fun i b hb => ?_⟩
    cases i with
    | zero => simp at hb; subst hb; exact ha
    | succ i => exact e4 i b (by simpa using hb)
def rowD (r : List Int) : D := .tup (r.map D.int)
def tabD (t : List (List Int)) : D := .tup (t.map rowD)
def optD : Option Int → D
  | none => .non
  | some i => .int i
def spanD (s : Int × Int) : D := .tup [.int s.1, .int s.2]
theorem row_und (n : Nat) (r : List Int) : (rowD r).und n = true := by unfold rowD D.und; exact und_ints n r
theorem map_und {α : Type} {f : α → D} {n : Nat} (h : ∀ a, (f a).und n = true) : ∀ as : List α, undAll n (as.map f) = true
  | [] => rfl
  | a :: as => by simp only [List.map_cons, undAll, h a, map_und h as, Bool.and_true]
theorem tab_und (n : Nat) (t : List (List Int)) : (tabD t).und n = true := by unfold tabD D.und; exact map_und (row_und n) t
theorem opt_und (n : Nat) (o : Option Int) : (optD o).und n = true := by cases o <;> rfl
theorem span_und (n : Nat) (s : Int × Int) : (spanD s).und n = true := rfl
theorem rng_get' {n i : Nat} {d : D} (h : (rng 0 n)[i]? = some d) : i < n ∧ d = .int (i : Int) := by
  obtain ⟨h1, h2⟩ := rng_get h
  exact ⟨h1, by rw [h2]; simp⟩
section
variable {p : Pen} {rest : Mu} {P : D → Mu → Prop}
theorem shape_w {m : Int} (hp : p.ok) (h1 : 1 ≤ m) (h2 : m < 1000000) (q : ∀ a b : Int, ∀ p', p'.ok → 1 ≤ a → a ≤ m → 1 ≤ b → b ≤ m → P (.tup [.int a, .int b]) (penO p' :: rest)) : Wf f_law_drawn_shape [.ref 0, .int m] (penO p :: rest) P := by
  unfold f_law_drawn_shape
  rw [wf_def]
  simp
  refine draw_w hp h1 h2 fun a p1 hp1 a0 a1 => ?_
  simp
  refine draw_w hp1 h1 h2 fun b p2 hp2 b0 b1 => ?_
  simp
  exact wcl_pen rfl (q _ _ _ hp2 (by omega) (by omega) (by omega) (by omega))
theorem about_w {n m : Int} (hp : p.ok) (h1 : 1 ≤ m) (h2 : m < 1000000) (q : ∀ a b : Int, ∀ p', p'.ok → 0 ≤ a → n ≤ b → P (spanD (a, b)) (penO p' :: rest)) : Wf f_law_about [.ref 0, .int n, .int m] (penO p :: rest) P := by
  unfold f_law_about
  rw [wf_def]
  simp
  refine draw_w hp h1 h2 fun a p1 hp1 a0 a1 => ?_
  simp
  refine draw_w hp1 h1 h2 fun b p2 hp2 b0 b1 => ?_
  simp
  exact wcl_pen rfl (q _ _ _ hp2 (by omega) (by omega))
theorem about_w' {n m : Int} (hp : p.ok) (h1 : 1 ≤ m) (h2 : m < 1000000) (hn : 0 ≤ n) (q : ∀ a b : Int, ∀ p', p'.ok → 0 ≤ a → a ≤ b → b ≤ a + 2 * m → b ≤ n + m → P (spanD (a, b)) (penO p' :: rest)) : Wf f_law_about [.ref 0, .int n, .int m] (penO p :: rest) P := by
  unfold f_law_about
  rw [wf_def]
  simp
  refine draw_w hp h1 h2 fun a p1 hp1 a0 a1 => ?_
  simp
  refine draw_w hp1 h1 h2 fun b p2 hp2 b0 b1 => ?_
  simp
  exact wcl_pen rfl (q _ _ _ hp2 (by omega) (by omega) (by omega) (by omega))
/-- a table: h rows of w numbers -/
def IsT (h w : Nat) (t : List (List Int)) : Prop := t.length = h ∧ ∀ r ∈ t, r.length = w
theorem table_w {h w : Nat} {m : Int} (hp : p.ok) (hh : h ≤ 1000) (hw : w ≤ 1000) (h1 : 0 ≤ m) (h2 : m < 900000) (q : ∀ t p', p'.ok → IsT h w t → (∀ r ∈ t, ∀ n ∈ r, 0 ≤ n ∧ n ≤ m) → P (tabD t) (penO p' :: rest)) :
    Wf f_law_drawn_table [.ref 0, .int h, .int w, .int m] (penO p :: rest) P := by
  unfold f_law_drawn_table
  rw [wf_def]
  simp
  refine ⟨by omega, ?_⟩
  refine comp_pen (S := fun _ d => ∃ r : List Int, d = rowD r ∧ r.length = w ∧ ∀ n ∈ r, 0 ≤ n ∧ n ≤ m) (fun _ => holds_nil) hp (fun i x hx p1 hp1 Q hQ => ?_) fun ds p' hp' hl hS => ?_
  · simp [wipe]
    refine ⟨by omega, ?_⟩
    refine comp_pen (S := fun _ d => ∃ n : Int, d = .int n ∧ 0 ≤ n ∧ n ≤ m) (fun _ => holds_nil) hp1 (fun j y hy p2 hp2 Q2 hQ2 => ?_) fun ds p3 hp3 hl hS => ?_
    · simp [wipe]
      exact draw_w hp2 (by omega) (by omega) fun r p4 hp4 r0 r1 => hQ2 _ _ hp4 ⟨r, rfl, r0, by omega⟩
    · obtain ⟨ns, e1, e2, e3⟩ := choose_map (T := fun _ n => 0 ≤ n ∧ n ≤ m) hS
      subst e1
      refine hQ _ _ hp3 ⟨ns, rfl, by rw [e2, hl, rng_length], fun n hn => ?_⟩
      obtain ⟨k, hk⟩ := List.getElem?_of_mem hn
      exact e3 k n hk
  · obtain ⟨t, e1, e2, e3⟩ := choose_map (f := rowD) (T := fun _ r => r.length = w ∧ ∀ n ∈ r, 0 ≤ n ∧ n ≤ m) hS
    subst e1
    refine wcl_pen (tab_und _ t) (q t p' hp' ⟨by rw [e2, hl, rng_length], fun r hr => ?_⟩ fun r hr => ?_)
    · obtain ⟨k, hk⟩ := List.getElem?_of_mem hr; exact (e3 k r hk).1
    · obtain ⟨k, hk⟩ := List.getElem?_of_mem hr; exact (e3 k r hk).2
end
/-- the columns of a table as rows -/
def at0 (r : List Int) (j : Nat) : Int := r.getD j 0
def turn (w : Nat) (t : List (List Int)) : List (List Int) := (List.range w).map fun j => t.map fun r => at0 r j
theorem turn_isT {h w : Nat} {t : List (List Int)} (ht : IsT h w t) : IsT w h (turn w t) := ⟨by simp [turn], fun r hr => by
  unfold turn at hr
  obtain ⟨j, _, rfl⟩ := List.mem_map.mp hr
  rw [List.length_map]; exact ht.1⟩
theorem atI_row {r : List Int} {j : Nat} (h : j < r.length) : atI (r.map D.int) (j : Int) = some (.int (at0 r j)) := by
  refine atI_nat' ?_
  unfold at0
  rw [List.getElem?_map, List.getElem?_eq_getElem h, List.getD_eq_getElem?_getD, List.getElem?_eq_getElem h]; rfl
theorem comp_mapA {α : Type} {w : Wk} {g : VG} {t : VT} {e : VE} {ρ : Ro} {vs : List Nat} {μ : Mu} {Q : List D → Mu → Prop} {ι : α → D} (f : α → D) (hw : w.holds μ) {as : List α} {acc : List D}
    (h : ∀ a ∈ as, Wg g (ι a) (wipe ρ vs) μ fun ρ1 μ1 => Wt t ρ1 μ1 fun k μ2 => k = true ∧ We e ρ1 μ2 fun d μ3 => d = f a ∧ μ3 = μ) (q : Q (acc ++ as.map f) μ) : Wl (compL w g t e ρ vs (as.map ι) acc μ) Q := by
  induction as generalizing acc with
  | nil => exact compL_nil.mpr ⟨hw, by simpa using q⟩
  | cons x xs ih =>
    refine compL_cons.mpr ⟨hw, ?_⟩
    obtain ⟨ρ1, μ1, h2, k, μ2, h3, rfl, d, μ3, h5, rfl, rfl⟩ := h x (by simp)
    exact ⟨ρ1, μ1, h2, true, μ2, h3, f x, μ3, h5, ih (fun y hy => h y (by simp [hy])) (by simpa using q)⟩
theorem turned_w {h w : Nat} {t : List (List Int)} {μ : Mu} {P : D → Mu → Prop} (ht : IsT h w t) (h0 : 0 < h) (hh : w ≤ 1000) (q : P (tabD (turn w t)) μ) : Wf f_law_turned [tabD t] μ P := by
  unfold f_law_turned
  rw [wf_def]
  obtain ⟨r0, hr0⟩ : ∃ r0, t[0]? = some r0 := ⟨t[0]'(by rw [ht.1]; exact h0), List.getElem?_eq_getElem _⟩
  have hw0 : r0.length = w := ht.2 r0 (List.mem_of_getElem? hr0)
  have hat : atI (t.map rowD) 0 = some (rowD r0) := atI_nat' (n := 0) (by rw [List.getElem?_map, hr0]; rfl)
  have hl : ∀ μ (P : D → Mu → Prop), Wp (bLen [rowD r0] μ) P ↔ P (.int w) μ := fun μ P => by unfold rowD; rw [wp_lenT, List.length_map, hw0]
  simp [tabD, hat, hl]
  refine ⟨by omega, ?_⟩
  unfold rng
  refine comp_mapA (fun j => rowD (t.map fun r => at0 r j)) holds_nil (fun j hj => ?_) ?_
  · have hj := List.mem_range.mp hj
    simp [wipe, seqOf, srcOf]
    refine comp_mapA (fun r => .int (at0 r j)) holds_nil (fun r hr => ?_) ?_
    · have hlr := ht.2 r hr
      have := atI_row (r := r) (j := j) (by omega)
      simp [wipe, rowD, this]
    · simp [rowD]
  · have e : D.tup ((List.range w).map fun j => rowD (t.map fun r => at0 r j)) = tabD (turn w t) := by simp [tabD, turn]
    simp [e]
    exact wcl_same (tab_und _ _) q
end VL
end
section
set_option linter.all false
set_option maxRecDepth 100000
set_option maxHeartbeats 2000000
namespace VL
open PySem L2
structure Raw where
  lows : List (List Int)
  highs : List (List (Option Int))
  rows : List (Int × Int)
  cols : List (Int × Int)
def rowO (r : List (Option Int)) : D := .tup (r.map optD)
def tabO (t : List (List (Option Int))) : D := .tup (t.map rowO)
def spansD (s : List (Int × Int)) : D := .tup (s.map spanD)
def rawD (s : Raw) : D := .tup [tabD s.lows, tabO s.highs, spansD s.rows, spansD s.cols]
def SpOk (s : List (Int × Int)) : Prop := ∀ a ∈ s, 0 ≤ a.1 ∧ a.1 ≤ a.2 ∧ a.2 ≤ a.1 + 1000
structure Raw.Ok (s : Raw) (h w : Nat) : Prop where
  h1 : 1 ≤ h
  w1 : 1 ≤ w
  lows : IsT h w s.lows
  pos : ∀ r ∈ s.lows, ∀ n ∈ r, 0 ≤ n
  hl : s.highs.length = h
  hw : ∀ r ∈ s.highs, r.length = w
  high : ∀ (i j : Nat) (r : List Int) (q : List (Option Int)) (n m : Int), s.lows[i]? = some r → s.highs[i]? = some q → r[j]? = some n → q[j]? = some (some m) → n ≤ m
  rl : s.rows.length = h
  ro : SpOk s.rows
  cl : s.cols.length = w
  co : SpOk s.cols
theorem rowO_und (n : Nat) (r : List (Option Int)) : (rowO r).und n = true := by unfold rowO D.und; exact map_und (opt_und n) r
theorem tabO_und (n : Nat) (t : List (List (Option Int))) : (tabO t).und n = true := by unfold tabO D.und; exact map_und (rowO_und n) t
theorem spans_und (n : Nat) (t : List (Int × Int)) : (spansD t).und n = true := by unfold spansD D.und; exact map_und (span_und n) t
theorem raw_und (n : Nat) (s : Raw) : (rawD s).und n = true := by
  unfold rawD D.und
  simp only [undAll, tab_und, tabO_und, spans_und, Bool.and_true]
theorem row_seq {μ : Mu} (r : List Int) : seqOf μ (rowD r) = some (r.map D.int) := rfl
theorem row_src (r : List Int) (xs : List D) : srcOf (rowD r) xs = [] := rfl
theorem tab_seq {μ : Mu} (t : List (List Int)) : seqOf μ (tabD t) = some (t.map rowD) := rfl
theorem tab_src (t : List (List Int)) (xs : List D) : srcOf (tabD t) xs = [] := rfl
theorem row_sum {μ : Mu} {P : D → Mu → Prop} (r : List Int) : Wp (bSum [rowD r] μ) P ↔ P (.int r.sum) μ := wp_sum (row_seq r) (intsOf_map r)
theorem get_map {α β : Type} {f : α → β} {as : List α} {i : Nat} {b : β} (h : (as.map f)[i]? = some b) : ∃ a, as[i]? = some a ∧ b = f a := by
  rw [List.getElem?_map] at h
  cases q : as[i]? with
  | none => rw [q] at h; cases h
  | some a => rw [q] at h; exact ⟨a, rfl, (Option.some.inj h).symm⟩
theorem sum_nonneg : ∀ {r : List Int}, (∀ n ∈ r, 0 ≤ n) → 0 ≤ r.sum
  | [], _ => by simp
  | n :: r, h => by
    have := sum_nonneg (r := r) fun m hm => h m (by simp [hm])
    have := h n (by simp)
    simp; omega
structure Raw.Bd (s : Raw) (B : Int) : Prop where
  low : ∀ r ∈ s.lows, ∀ n ∈ r, n ≤ B
  high : ∀ r ∈ s.highs, ∀ n, some n ∈ r → n ≤ B
  row : ∀ a ∈ s.rows, a.2 ≤ B
  col : ∀ a ∈ s.cols, a.2 ≤ B
theorem sum_le_mul {B : Int} (h0 : 0 ≤ B) : ∀ {r : List Int} {k : Nat}, (∀ n ∈ r, n ≤ B) → r.length ≤ k → r.sum ≤ k * B
  | [], k, _, _ => by simp; exact Int.mul_nonneg (by omega) h0
  | n :: r, 0, _, hl => by simp at hl
  | n :: r, k + 1, h, hl => by
    have h1 := sum_le_mul h0 (r := r) (k := k) (fun m hm => h m (by simp [hm])) (by simpa using hl)
    have h2 := h n (by simp)
    rw [List.sum_cons]
    have : ((k + 1 : Nat) : Int) * B = k * B + B := by rw [Int.natCast_add, Int.add_mul]; simp
    omega
def LowOf (r0 r : List Int) : Prop := r.length = r0.length ∧ ∀ (j : Nat) (n m : Int), r[j]? = some n → r0[j]? = some m → 0 ≤ n ∧ n ≤ m
def HighOf (r0 : List Int) (r : List (Option Int)) : Prop := r.length = r0.length ∧ ∀ (j : Nat) (n m : Int), r[j]? = some (some n) → r0[j]? = some m → m ≤ n ∧ n ≤ m + 4
theorem live_get {p : Pen} {rest : Mu} {o : MO} : (penO p :: (rest ++ [o]))[rest.length + 1]? = some o := by simp
theorem live_lstOf {p : Pen} {rest : Mu} {xs : List D} : lstOf (penO p :: (rest ++ [.lst xs])) (.ref (rest.length + 1)) = some xs := by
  show (match (penO p :: (rest ++ [MO.lst xs]))[rest.length + 1]? with
    | some (.lst xs) => some xs
    | _ => none) = some xs
  rw [live_get]
theorem live_seq {p : Pen} {rest : Mu} {xs : List D} : seqOf (penO p :: (rest ++ [.lst xs])) (.ref (rest.length + 1)) = some xs := live_lstOf
theorem live_set {p : Pen} {rest : Mu} {xs : List D} {i : Int} {d : D} : setAt (.ref (rest.length + 1)) (.int i) d (penO p :: (rest ++ [.lst xs])) = (ixN xs.length i).map fun j => penO p :: (rest ++ [.lst (xs.set j d)]) := by
  unfold setAt
  simp only []
  rw [live_get]
  simp only []
  refine congrArg (fun f => Option.map f (ixN xs.length i)) (funext fun j => ?_)
  simp
theorem ixN_pos {n : Nat} {i : Int} (h0 : 0 ≤ i) (h1 : i < n) : ixN n i = some i.toNat := by unfold ixN; rw [if_pos h0, if_pos h1]
section
variable {p : Pen} {rest : Mu} {P : D → Mu → Prop}
/-- spans about the sums of some rows, as a list -/
theorem abouts_w {t : List (List Int)} {wide : Int} {ρ : Ro} {v k : Nat} (hp : p.ok) (h1 : 1 ≤ wide) (h2 : wide ≤ 400) (hpos : ∀ r ∈ t, ∀ n ∈ r, 0 ≤ n) {B : Int} (hB : ∀ r ∈ t, r.sum ≤ B) {Q : List D → Mu → Prop} (hv : ∀ d, ((VL.wipe ρ [v]).set v d)[v]? = some d) (h0 : ∀ d, ((VL.wipe ρ [v]).set v d)[0]? = some (some (.ref 0))) (hk : ∀ d, ((VL.wipe ρ [v]).set v d)[k]? = some (some (.int wide)))
    (q : ∀ (s : List (Int × Int)) p', p'.ok → s.length = t.length → SpOk s → (∀ a ∈ s, a.2 ≤ B + wide) → Q (s.map spanD) (penO p' :: rest)) : Wl (compL ⟨[], t.map rowD⟩ (VL.gName v) VL.tYes (vCall f_law_about (aCons (vVar 0) (aCons (vBlt bSum (aCons (vVar v) aNil)) (aCons (vVar k) aNil)))) ρ [v] (t.map rowD) [] (penO p :: rest)) Q := by
  refine comp_pen (S := fun _ d => ∃ s : Int × Int, d = spanD s ∧ 0 ≤ s.1 ∧ s.1 ≤ s.2 ∧ s.2 ≤ s.1 + 1000 ∧ s.2 ≤ B + wide) (fun _ => holds_nil) hp (fun i x hx p1 hp1 Q1 hQ => ?_) fun ds p' hp' hl hS => ?_
  · obtain ⟨r, hr, rfl⟩ := get_map hx
    have hm := List.mem_of_getElem? hr
    simp [hv, h0, hk, row_sum]
    exact about_w' hp1 h1 (by omega) (sum_nonneg (hpos r hm)) fun a b p2 hp2 ha hb hab hbn => hQ _ _ hp2 ⟨(a, b), rfl, ha, hb, by have := hB r hm; simp only; omega⟩
  · obtain ⟨s, e1, e2, e3⟩ := choose_map (f := spanD) (T := fun _ s => 0 ≤ s.1 ∧ s.1 ≤ s.2 ∧ s.2 ≤ s.1 + 1000 ∧ s.2 ≤ B + wide) hS
    subst e1
    refine q s p' hp' (by rw [e2, hl, List.length_map]) (fun a ha => ?_) fun a ha => ?_
    · obtain ⟨j, hj⟩ := List.getElem?_of_mem ha
      have := e3 j a hj
      exact ⟨this.1, this.2.1, this.2.2.1⟩
    · obtain ⟨j, hj⟩ := List.getElem?_of_mem ha
      exact (e3 j a hj).2.2.2
theorem sheet_wt {most numbers : Int} (hp : p.ok) (h1 : 1 ≤ most) (h2 : most ≤ 20) (h3 : 0 ≤ numbers) (h4 : numbers < 100000) (q : ∀ (s : Raw) (h w : Nat) p', p'.ok → s.Ok h w → s.Bd (most * numbers + 6) → h ≤ most → w ≤ most → P (rawD s) (penO p' :: rest)) : Wf f_law_drawn_sheet [.ref 0, .int most, .int numbers] (penO p :: rest) P := by
  have hM : numbers ≤ most * numbers := by have := Int.mul_le_mul_of_nonneg_right h1 h3; omega
  have hK : ∀ k : Nat, (k : Int) ≤ most → (k : Int) * numbers ≤ most * numbers := fun k hk => Int.mul_le_mul_of_nonneg_right hk h3
  generalize hMM : most * numbers = M at hM hK q
  unfold f_law_drawn_sheet
  rw [wf_def]
  simp
  refine shape_w hp h1 (by omega) fun a b p1 hp1 a1 a2 b1 b2 => ?_
  obtain ⟨h, rfl⟩ : ∃ h : Nat, a = h := ⟨a.toNat, by omega⟩
  obtain ⟨w, rfl⟩ : ∃ w : Nat, b = w := ⟨b.toNat, by omega⟩
  simp
  refine table_w hp1 (by omega) (by omega) h3 (by omega) fun t p2 hp2 ht htr => ?_
  try simp
  refine pick_w (xs := [.int 1, .int 2, .int 3, .int 4]) hp2 (fun _ => rfl) (by simp) (by simp) (by simp [D.und]) fun x hx p3 hp3 => ?_
  obtain ⟨wide, rfl, w1, w4⟩ : ∃ wide : Int, x = .int wide ∧ 1 ≤ wide ∧ wide ≤ 4 := by
    simp at hx
    rcases hx with rfl | rfl | rfl | rfl <;> exact ⟨_, rfl, by decide, by decide⟩
  try simp
  refine pick_w (xs := [.int 1, .int 4, .int 9]) hp3 (fun _ => rfl) (by simp) (by simp) (by simp [D.und]) fun x hx p4 hp4 => ?_
  obtain ⟨none_, rfl, n1, n9⟩ : ∃ wide : Int, x = .int wide ∧ 1 ≤ wide ∧ wide ≤ 9 := by
    simp at hx
    rcases hx with rfl | rfl | rfl <;> exact ⟨_, rfl, by decide, by decide⟩
  simp [tab_seq, tab_src]
  refine comp_pen (S := fun i d => ∃ r : List Int, d = rowD r ∧ ∃ r0, t[i]? = some r0 ∧ LowOf r0 r) (fun _ => holds_nil) hp4 (fun i x hx p5 hp5 Q hQ => ?_) fun dl p5 hp5 hll hlS => ?_
  · obtain ⟨r0, hr0, rfl⟩ := get_map hx
    simp [wipe, row_seq, row_src]
    refine comp_pen (S := fun j d => ∃ n : Int, d = .int n ∧ ∃ m, r0[j]? = some m ∧ 0 ≤ n ∧ n ≤ m) (fun _ => holds_nil) hp5 (fun j y hy p6 hp6 Q2 hQ2 => ?_) fun ds p6 hp6 hl hS => ?_
    · obtain ⟨n0, hn0, rfl⟩ := get_map hy
      have hn00 := (htr r0 (List.mem_of_getElem? hr0) n0 (List.mem_of_getElem? hn0)).1
      simp [wipe]
      refine draw_w hp6 (by omega) (by omega) fun d p7 hp7 d0 d1 => ?_
      simp
      exact hQ2 _ _ hp7 ⟨_, rfl, n0, hn0, by omega, by omega⟩
    · obtain ⟨ns, e1, e2, e3⟩ := choose_map (f := D.int) (T := fun j n => ∃ m, r0[j]? = some m ∧ 0 ≤ n ∧ n ≤ m) hS
      subst e1
      refine hQ _ _ hp6 ⟨ns, rfl, r0, hr0, by rw [e2, hl, List.length_map], fun j n m hj hm => ?_⟩
      obtain ⟨m', hm', z⟩ := e3 j n hj
      rw [hm] at hm'; cases hm'; exact z
  obtain ⟨lows, e1, e2, e3⟩ := choose_map (f := rowD) (T := fun i r => ∃ r0, t[i]? = some r0 ∧ LowOf r0 r) hlS
  subst e1
  have hll' : lows.length = h := by rw [List.length_map, List.length_map] at hll; rw [hll, ht.1]
  refine comp_pen (S := fun i d => ∃ r : List (Option Int), d = rowO r ∧ ∃ r0, t[i]? = some r0 ∧ HighOf r0 r) (fun _ => holds_nil) hp5 (fun i x hx p5 hp5 Q hQ => ?_) fun dl p6 hp6 hhl hhS => ?_
  · obtain ⟨r0, hr0, rfl⟩ := get_map hx
    simp [wipe, row_seq, row_src]
    refine comp_pen (S := fun j d => ∃ n : Option Int, d = optD n ∧ ∃ m, r0[j]? = some m ∧ ∀ k, n = some k → m ≤ k ∧ k ≤ m + 4) (fun _ => holds_nil) hp5 (fun j y hy p6 hp6 Q2 hQ2 => ?_) fun ds p6 hp6 hl hS => ?_
    · obtain ⟨n0, hn0, rfl⟩ := get_map hy
      simp [wipe]
      refine draw_w hp6 (by omega) (by omega) fun d p7 hp7 d0 d1 => ?_
      simp
      by_cases hd : d = 0
      · right
        exact ⟨hd, hQ2 _ _ hp7 ⟨none, rfl, n0, hn0, fun k hk => by cases hk⟩⟩
      · left
        refine ⟨hd, ?_⟩
        refine draw_w hp7 (by omega) (by omega) fun d p8 hp8 d0 d1 => ?_
        simp
        exact hQ2 _ _ hp8 ⟨some (n0 + d), rfl, n0, hn0, fun k hk => by cases hk; omega⟩
    · obtain ⟨ns, e1, e2, e3⟩ := choose_map (f := optD) (T := fun j n => ∃ m, r0[j]? = some m ∧ ∀ k, n = some k → m ≤ k ∧ k ≤ m + 4) hS
      subst e1
      refine hQ _ _ hp6 ⟨ns, rfl, r0, hr0, by rw [e2, hl, List.length_map], fun j n m hj hm => ?_⟩
      obtain ⟨m', hm', z⟩ := e3 j _ hj
      rw [hm] at hm'; cases hm'; exact z n rfl
  obtain ⟨highs, f1, f2, f3⟩ := choose_map (f := rowO) (T := fun i r => ∃ r0, t[i]? = some r0 ∧ HighOf r0 r) hhS
  subst f1
  have hhl' : highs.length = h := by rw [List.length_map, List.length_map] at hhl; rw [hhl, ht.1]
  refine abouts_w (v := 9) (k := 6) (B := M) hp6 w1 (by omega) (fun r hr n hn => (htr r hr n hn).1) (fun r hr => Int.le_trans (sum_le_mul (k := w) h3 (fun n hn => (htr r hr n hn).2) (by rw [ht.2 r hr]; exact Nat.le_refl _)) (hK w b2)) (fun _ => rfl) (fun _ => rfl) (fun _ => rfl) fun rows p7 hp7 rl ro rB => ?_
  refine turned_w ht (by omega) (by omega) ?_
  simp [tab_seq, tab_src]
  have htt := turn_isT ht
  refine abouts_w (rest := rest ++ [.lst (rows.map spanD)]) (v := 9) (k := 6) (B := M) hp7 w1 (by omega) ?_ ?_ ?_ ?_ ?_ ?_
  · intro r hr n hn
    obtain ⟨j, hj, rfl⟩ := List.mem_map.mp hr
    obtain ⟨r0, hr0, rfl⟩ := List.mem_map.mp hn
    unfold at0
    rw [List.getD_eq_getElem?_getD]
    cases hg : r0[j]? with
    | none => exact Int.le_refl _
    | some z => exact (htr r0 hr0 z (List.mem_of_getElem? hg)).1
  · intro r hr
    refine Int.le_trans (sum_le_mul (k := h) h3 (fun n hn => ?_) (by rw [htt.2 r hr]; exact Nat.le_refl _)) (hK h a2)
    obtain ⟨j, hj, rfl⟩ := List.mem_map.mp hr
    obtain ⟨r0, hr0, rfl⟩ := List.mem_map.mp hn
    unfold at0
    rw [List.getD_eq_getElem?_getD]
    cases hg : r0[j]? with
    | none => exact h3
    | some z => exact (htr r0 hr0 z (List.mem_of_getElem? hg)).2
  · exact fun _ => rfl
  · exact fun _ => rfl
  · exact fun _ => rfl
  intro cols p8 hp8 cl co cB
  have hrl : rows.length = h := rl.trans ht.1
  have hcl : cols.length = w := cl.trans htt.1
  have fin : ∀ (rows' : List (Int × Int)) (p9 : Pen), p9.ok → rows'.length = h → SpOk rows' → (∀ a ∈ rows', a.2 ≤ M + 6) → Wcl (penO p :: rest) (.tup [.tup (lows.map rowD), .tup (highs.map rowO), .tup (rows'.map spanD), .tup (cols.map spanD)]) (penO p9 :: (rest ++ [.lst (rows'.map spanD)])) P := fun rows' p9 hp9 hr1 hr2 hr3 => by
    refine wcl_und keeps_pen (by simp) (by
      have := raw_und (penO p :: rest).length ⟨lows, highs, rows', cols⟩
      exact this) ?_
    have : (penO p9 :: (rest ++ [.lst (rows'.map spanD)])).take (penO p :: rest).length = penO p9 :: rest := by simp
    rw [this]
    refine q ⟨lows, highs, rows', cols⟩ h w p9 hp9 ⟨by omega, by omega, ⟨hll', fun r hr => ?_⟩, fun r hr n hn => ?_, hhl', fun r hr => ?_, fun i j r q' n m' hr hq hn hm => ?_, hr1, hr2, hcl, co⟩ ⟨fun r hr n hn => ?_, fun r hr n hn => ?_, hr3, fun a ha => by have := cB a ha; omega⟩ a2 b2
    · obtain ⟨i, hi⟩ := List.getElem?_of_mem hr
      obtain ⟨r0, h0, hl0⟩ := e3 i r hi
      rw [hl0.1]; exact ht.2 r0 (List.mem_of_getElem? h0)
    · obtain ⟨i, hi⟩ := List.getElem?_of_mem hr
      obtain ⟨r0, h0, hl0⟩ := e3 i r hi
      obtain ⟨j, hj⟩ := List.getElem?_of_mem hn
      have hjl := (List.getElem?_eq_some_iff.mp hj).1
      rw [hl0.1] at hjl
      exact (hl0.2 j n _ hj (List.getElem?_eq_getElem hjl)).1
    · obtain ⟨i, hi⟩ := List.getElem?_of_mem hr
      obtain ⟨r0, h0, hl0⟩ := f3 i r hi
      rw [hl0.1]; exact ht.2 r0 (List.mem_of_getElem? h0)
    · obtain ⟨r0, h0, hl0⟩ := e3 i r hr
      obtain ⟨r1, h1', hl1⟩ := f3 i q' hq
      rw [h0] at h1'; cases h1'
      have hjl := (List.getElem?_eq_some_iff.mp hn).1
      rw [hl0.1] at hjl
      have z1 := (hl0.2 j n _ hn (List.getElem?_eq_getElem hjl)).2
      have z2 := hl1.2 j m' _ hm (List.getElem?_eq_getElem hjl)
      omega
    · obtain ⟨i, hi⟩ := List.getElem?_of_mem hr
      obtain ⟨r0, h0, hl0⟩ := e3 i r hi
      obtain ⟨j, hj⟩ := List.getElem?_of_mem hn
      have hjl := (List.getElem?_eq_some_iff.mp hj).1
      rw [hl0.1] at hjl
      have z1 := (hl0.2 j n _ hj (List.getElem?_eq_getElem hjl)).2
      have z2 := (htr r0 (List.mem_of_getElem? h0) _ (List.getElem_mem hjl)).2
      omega
    · obtain ⟨i, hi⟩ := List.getElem?_of_mem hr
      obtain ⟨r0, h0, hl0⟩ := f3 i r hi
      obtain ⟨j, hj⟩ := List.getElem?_of_mem hn
      have hjl := (List.getElem?_eq_some_iff.mp hj).1
      rw [hl0.1] at hjl
      have z1 := (hl0.2 j n _ hj (List.getElem?_eq_getElem hjl)).2
      have z2 := (htr r0 (List.mem_of_getElem? h0) _ (List.getElem_mem hjl)).2
      omega
  refine draw_w hp8 (by omega) (by omega) fun d p9 hp9 d0 d1 => ?_
  simp
  by_cases hd : d = 0
  · right
    refine ⟨hd, ?_⟩
    refine draw_w hp9 (by omega) (by omega) fun at' p10 hp10 c0 c1 => ?_
    refine draw_w hp10 (by omega) (by omega) fun mv p11 hp11 m0 m1 => ?_
    have hlt : at'.toNat < rows.length := by omega
    have e1 : atI (rows.map spanD) at' = some (spanD rows[at'.toNat]) := by
      have := atI_nat' (xs := rows.map spanD) (n := at'.toNat) (d := spanD rows[at'.toNat]) (by rw [List.getElem?_map, List.getElem?_eq_getElem hlt]; rfl)
      rwa [show ((at'.toNat : Nat) : Int) = at' by omega] at this
    have hsp := ro _ (List.getElem_mem hlt)
    have hspB := rB _ (List.getElem_mem hlt)
    generalize hs : rows[at'.toNat] = sp at e1 hsp hspB
    obtain ⟨x, y⟩ := sp
    rw [wp_ix live_seq]
    refine ⟨_, e1, ?_⟩
    simp [spanD, atI, ixN]
    rw [wp_ix live_seq]
    refine ⟨_, e1, ?_⟩
    simp [spanD, atI, ixN]
    rw [live_set, ixN_pos c0 (by rw [List.length_map]; omega)]
    refine ⟨_, rfl, ?_⟩
    have hset : (rows.map spanD).set at'.toNat (.tup [.int (max 0 (x + mv - 2)), .int (max 0 (y + mv - 2))]) = (rows.set at'.toNat (max 0 (x + mv - 2), max 0 (y + mv - 2))).map spanD := by rw [List.map_set]; rfl
    simp only []
    rw [hset, wp_tuple live_seq]
    refine fin _ p11 hp11 (by rw [List.length_set]; exact hrl) (fun a ha => ?_) fun a ha => ?_
    · rcases List.mem_or_eq_of_mem_set ha with ha | rfl
      · exact ro a ha
      · simp only at hsp ⊢
        omega
    · rcases List.mem_or_eq_of_mem_set ha with ha | rfl
      · have := rB a ha
        omega
      · simp only at hspB hsp ⊢
        omega
  · left
    refine ⟨hd, ?_⟩
    rw [wp_tuple live_seq]
    exact fin rows p9 hp9 hrl ro fun a ha => by have := rB a ha; omega
theorem Raw.Bd.mono {s : Raw} {A B : Int} (h : s.Bd A) (hl : A ≤ B) : s.Bd B := ⟨fun r hr n hn => Int.le_trans (h.low r hr n hn) hl, fun r hr n hn => Int.le_trans (h.high r hr n hn) hl, fun a ha => Int.le_trans (h.row a ha) hl, fun a ha => Int.le_trans (h.col a ha) hl⟩
theorem sheet_w {most numbers : Int} (hp : p.ok) (h1 : 1 ≤ most) (h2 : most ≤ 20) (h3 : 0 ≤ numbers) (h4 : numbers < 100000) (q : ∀ (s : Raw) (h w : Nat) p', p'.ok → s.Ok h w → s.Bd (20 * numbers + 1000) → h ≤ most → w ≤ most → P (rawD s) (penO p' :: rest)) : Wf f_law_drawn_sheet [.ref 0, .int most, .int numbers] (penO p :: rest) P :=
  sheet_wt hp h1 h2 h3 h4 fun s h w p' hp' ok bd => q s h w p' hp' ok (bd.mono (by have := Int.mul_le_mul_of_nonneg_right h2 h3; omega))
end
end VL
end
section
set_option linter.all false
set_option maxRecDepth 100000
set_option maxHeartbeats 2000000
namespace VL
open PySem L2
/-- a frozen value with a kind -/
def D.kd : D → Bool
  | .non => true | .bl _ => true | .int _ => true | .str _ => true | .tup _ => true | .lst _ => true
  | .obj c _ => decide (c ∈ lawCls)
  | _ => false
def D.isI : D → Bool
  | .int _ => true | .bl _ => true
  | _ => false
def D.isB : D → Bool
  | .bl _ => true
  | _ => false
def D.isT : D → Bool
  | .tup _ => true
  | _ => false
def D.isL : D → Bool
  | .lst _ => true
  | _ => false
def D.isS : D → Bool
  | .str _ => true
  | _ => false
section
variable {μ : Mu} {P : D → Mu → Prop} {d : D}
theorem ty_of (h : d.kd = true) : ∃ t, tyD μ d = some t := by
  cases d <;> first | exact ⟨_, rfl⟩ | (simp [D.kd] at h)
theorem kit_obj {c : Str} (h : c ∈ lawCls) (T : String) (hT : T ∈ known) : anyK kitT (.c c) [.b T] = some false := by
  unfold anyK kitT kitL
  simp only []
  rw [if_pos ⟨h, hT⟩]; rfl
theorem kit_own {c x : Str} (h : c ∈ lawCls) (hx : x ∈ lawCls) : anyK kitT (.c c) [.c x] = some (decide (c = x)) := by
  unfold anyK kitT kitL
  simp only []
  rw [if_pos ⟨h, hx⟩]
  by_cases e : c = x <;> simp [e, anyK]
theorem kit_bc {T : String} {x : Str} (h : T ∈ known) (hx : x ∈ lawCls) : anyK kitT (.b T) [.c x] = some false := by
  unfold anyK kitT kitL
  simp only []
  rw [if_pos ⟨h, hx⟩]; rfl
theorem isi_int (h : d.kd = true) (μ : Mu) : isiB kitT μ d [.b "int"] = some d.isI := by
  cases d <;> first
    | rfl
    | exact kit_obj (by simpa [D.kd] using h) _ (by decide)
    | (simp [D.kd] at h)
theorem isi_bool (h : d.kd = true) (μ : Mu) : isiB kitT μ d [.b "bool"] = some d.isB := by
  cases d <;> first
    | rfl
    | exact kit_obj (by simpa [D.kd] using h) _ (by decide)
    | (simp [D.kd] at h)
theorem isi_tuple (h : d.kd = true) (μ : Mu) : isiB kitT μ d [.b "tuple"] = some d.isT := by
  cases d <;> first
    | rfl
    | exact kit_obj (by simpa [D.kd] using h) _ (by decide)
    | (simp [D.kd] at h)
theorem isi_str (h : d.kd = true) (μ : Mu) : isiB kitT μ d [.b "str"] = some d.isS := by
  cases d <;> first
    | rfl
    | exact kit_obj (by simpa [D.kd] using h) _ (by decide)
    | (simp [D.kd] at h)
theorem isi_list (h : d.kd = true) (μ : Mu) : isiB kitT μ d [.b "list"] = some d.isL := by
  cases d <;> first
    | rfl
    | exact kit_obj (by simpa [D.kd] using h) _ (by decide)
    | (simp [D.kd] at h)
theorem kit_obj2 {c : Str} (h : c ∈ lawCls) : anyK kitT (.c c) [.b "list", .b "tuple"] = some false := by
  unfold anyK
  rw [show kitT (.c c) (.b "list") = some false from if_pos ⟨h, by decide⟩]
  exact kit_obj h _ (by decide)
theorem isi_lt (h : d.kd = true) (μ : Mu) : isiB kitT μ d [.b "list", .b "tuple"] = some (d.isL || d.isT) := by
  cases d <;> first
    | rfl
    | exact kit_obj2 (by simpa [D.kd] using h)
    | (simp [D.kd] at h)
def D.isC (x : Str) : D → Bool
  | .obj c _ => decide (c = x)
  | _ => false
theorem isi_own {x : Str} (hx : x ∈ lawCls) (h : d.kd = true) (μ : Mu) : isiB kitT μ d [.c x] = some (d.isC x) := by
  cases d <;> first
    | exact kit_bc (by decide) hx
    | exact kit_own (by simpa [D.kd] using h) hx
    | (simp [D.kd] at h)
def wholeD : D → Bool
  | .int _ => true
  | _ => false
def numD : D → Bool
  | .int n => decide (0 ≤ n)
  | _ => false
theorem whole_w (h : d.kd = true) (q : P (.bl (wholeD d)) μ) : Wf f_is_whole [d] μ P := by
  unfold f_is_whole
  rw [wf_def]
  simp [isi_int h, isi_bool h]
  cases d <;> simp [D.isI, D.isB] <;> exact wcl_same rfl q
theorem number_w (h : d.kd = true) (q : P (.bl (numD d)) μ) : Wf f_is_number [d] μ P := by
  unfold f_is_number
  rw [wf_def]
  simp
  refine whole_w h ?_
  cases d <;> simp [wholeD] <;> exact wcl_same rfl q
end
end VL
end
section
set_option linter.all false
set_option maxRecDepth 100000
set_option maxHeartbeats 2000000
namespace VL
open PySem L2
mutual
/-- frozen all through -/
def D.kdd : D → Bool
  | .non => true | .bl _ => true | .int _ => true | .str _ => true
  | .tup xs => kddAll xs
  | .lst xs => kddAll xs
  | .obj c fs => decide (c ∈ lawCls) && kddF fs
  | _ => false
def kddAll : List D → Bool
  | [] => true
  | d :: ds => d.kdd && kddAll ds
def kddF : List (Str × D) → Bool
  | [] => true
  | (_, d) :: ds => d.kdd && kddF ds
end
theorem kdd_kd {d : D} (h : d.kdd = true) : d.kd = true := by
  cases d <;> first | rfl | (simp [D.kdd] at h; done) | (simp [D.kdd] at h; simp [D.kd, h])
theorem kddAll_mem : ∀ {xs : List D}, kddAll xs = true → ∀ x ∈ xs, x.kdd = true
  | [], _, _, h => by cases h
  | d :: ds, h, x, hx => by
    simp only [kddAll, Bool.and_eq_true] at h
    rcases List.mem_cons.mp hx with rfl | hx
    · exact h.1
    · exact kddAll_mem h.2 x hx
theorem kddAll_of : ∀ {xs : List D}, (∀ x ∈ xs, x.kdd = true) → kddAll xs = true
  | [], _ => rfl
  | d :: ds, h => by
    have h1 := h d (by simp)
    have h2 : kddAll ds = true := kddAll_of fun x hx => h x (List.mem_cons_of_mem _ hx)
    simp only [kddAll, h1, h2, Bool.and_true]
mutual
theorem kdd_und (n : Nat) : ∀ d : D, d.kdd = true → d.und n = true
  | .non, _ => rfl
  | .bl _, _ => rfl
  | .int _, _ => rfl
  | .str _, _ => rfl
  | .tup xs, h => by unfold D.kdd at h; unfold D.und; exact kddAll_und n xs h
  | .lst xs, h => by unfold D.kdd at h; unfold D.und; exact kddAll_und n xs h
  | .obj c fs, h => by unfold D.kdd at h; rw [Bool.and_eq_true] at h; unfold D.und; exact kddF_und n fs h.2
  | .scr _, h => by simp [D.kdd] at h
  | .ty _, h => by simp [D.kdd] at h
  | .ref _, h => by simp [D.kdd] at h
  | .glob _, h => by simp [D.kdd] at h
theorem kddAll_und (n : Nat) : ∀ ds : List D, kddAll ds = true → undAll n ds = true
  | [], _ => rfl
  | d :: ds, h => by
    simp only [kddAll, Bool.and_eq_true] at h
    simp only [undAll, kdd_und n d h.1, kddAll_und n ds h.2, Bool.and_true]
theorem kddF_und (n : Nat) : ∀ ds : List (Str × D), kddF ds = true → undF n ds = true
  | [], _ => rfl
  | (_, d) :: ds, h => by
    simp only [kddF, Bool.and_eq_true] at h
    simp only [undF, kdd_und n d h.1, kddF_und n ds h.2, Bool.and_true]
end
theorem row_kdd (r : List Int) : (rowD r).kdd = true := by
  unfold rowD D.kdd
  exact kddAll_of fun x hx => by obtain ⟨n, _, rfl⟩ := List.mem_map.mp hx; rfl
theorem tab_kdd (t : List (List Int)) : (tabD t).kdd = true := by
  unfold tabD D.kdd
  exact kddAll_of fun x hx => by obtain ⟨n, _, rfl⟩ := List.mem_map.mp hx; exact row_kdd n
theorem rowO_kdd (r : List (Option Int)) : (rowO r).kdd = true := by
  unfold rowO D.kdd
  exact kddAll_of fun x hx => by obtain ⟨n, _, rfl⟩ := List.mem_map.mp hx; cases n <;> rfl
theorem tabO_kdd (t : List (List (Option Int))) : (tabO t).kdd = true := by
  unfold tabO D.kdd
  exact kddAll_of fun x hx => by obtain ⟨n, _, rfl⟩ := List.mem_map.mp hx; exact rowO_kdd n
theorem spans_kdd (t : List (Int × Int)) : (spansD t).kdd = true := by
  unfold spansD D.kdd
  exact kddAll_of fun x hx => by obtain ⟨n, _, rfl⟩ := List.mem_map.mp hx; rfl
section
variable {μ : Mu} {P : D → Mu → Prop}
theorem wp_allF {α : Type} {as : List α} {f : α → Bool} : Wp (bAll [.lst (as.map fun x => .bl (f x))] μ) P ↔ P (.bl (as.all f)) μ := by
  rw [wp_all rfl (boolsOf_map' f as)]
  simp
def numsD (m : Int) : D → Bool
  | .tup xs => decide ((xs.length : Int) = m) && xs.all numD
  | _ => false
theorem numbers_w {d : D} {m : Int} (h : d.kdd = true) (q : P (.bl (numsD m d)) μ) : Wf f_are_numbers [d, .int m] μ P := by
  unfold f_are_numbers
  rw [wf_def]
  simp [isi_tuple (kdd_kd h)]
  cases d <;> simp [D.isT] <;> first | exact wcl_same rfl q | skip
  rename_i xs
  by_cases hl : (xs.length : Int) = m
  · simp [hl, seqOf, srcOf]
    refine comp_map (fun x => .bl (numD x)) holds_nil (fun x hx => ?_) ?_
    · simp [wipe]
      exact number_w (kdd_kd (kddAll_mem (by simpa [D.kdd] using h) x hx)) ⟨rfl, rfl⟩
    · rw [List.nil_append, wp_allF]
      exact wcl_same rfl (by simpa [numsD, hl] using q)
  · simp [hl]
    exact wcl_same rfl (by simpa [numsD, hl] using q)
end
end VL
end
section
set_option linter.all false
set_option maxRecDepth 100000
set_option maxHeartbeats 2000000
namespace VL
open PySem L2
section
variable {μ : Mu} {P : D → Mu → Prop}
theorem all_true {α : Type} (as : List α) : (as.all fun _ => true) = true := by simp
theorem at_first {α : Type} {f : α → D} {as : List α} {a : α} (h : as[0]? = some a) : atI (as.map f) 0 = some (f a) := atI_nat' (n := 0) (by rw [List.getElem?_map, h]; rfl)
theorem numsD_row {r : List Int} {m : Int} (h : (r.length : Int) = m) (hp : ∀ n ∈ r, 0 ≤ n) : numsD m (rowD r) = true := by
  simp only [numsD, rowD, List.length_map, h, decide_true, Bool.true_and, List.all_map, List.all_eq_true]
  intro n hn
  exact decide_eq_true (hp n hn)
theorem need_lows_w {h w : Nat} {t : List (List Int)} (ht : IsT h w t) (h1 : 1 ≤ h) (h6 : h ≤ 6) (w1 : 1 ≤ w) (w6 : w ≤ 6) (hp : ∀ r ∈ t, ∀ n ∈ r, 0 ≤ n) (q : P .non μ) : Wf f_need_lows [tabD t] μ P := by
  obtain ⟨r0, hr0⟩ : ∃ r0, t[0]? = some r0 := ⟨t[0]'(by rw [ht.1]; omega), List.getElem?_eq_getElem _⟩
  have hw0 : r0.length = w := ht.2 r0 (List.mem_of_getElem? hr0)
  have a0 := at_first (f := rowD) hr0
  unfold f_need_lows
  rw [wf_def]
  have k1 := isi_lt (d := tabD t) rfl
  have k2 := isi_tuple (d := rowD r0) rfl
  have l2 : ∀ μ (P : D → Mu → Prop), Wp (bLen [rowD r0] μ) P ↔ P (.int w) μ := fun μ P => by unfold rowD; rw [wp_lenT, List.length_map, hw0]
  have l1 : ∀ μ (P : D → Mu → Prop), Wp (bLen [tabD t] μ) P ↔ P (.int h) μ := fun μ P => by unfold tabD; rw [wp_lenT, List.length_map, ht.1]
  have i1 : ∀ μ (P : D → Mu → Prop), Wp (opIx (tabD t) (.int 0) μ) P ↔ P (rowD r0) μ := fun μ P => by rw [wp_ix (tab_seq t), a0, ex_some]
  simp [k1, k2, l1, l2, i1, tab_seq, tab_src]
  refine ⟨.inr rfl, by omega, by omega, rfl, by omega, by omega, ?_⟩
  refine comp_mapA (fun r => .bl true) holds_nil (fun r hr => ?_) ?_
  · simp [wipe, i1, l2]
    exact numbers_w (row_kdd r) (by rw [numsD_row (by rw [ht.2 r hr]) (hp r hr)]; exact ⟨rfl, rfl⟩)
  · rw [List.nil_append, wp_allF (f := fun _ => true)]
    rw [all_true]
    first
      | exact wcl_same rfl q
      | (simp; exact wcl_same rfl q)
      | trace_state
theorem is_high_w {lo : Int} {hi : Option Int} (h0 : 0 ≤ lo) (h : ∀ v, hi = some v → lo ≤ v) (q : P (.bl true) μ) : Wf f_is_high [.int lo, optD hi] μ P := by
  unfold f_is_high
  rw [wf_def]
  cases hi with
  | none => simp [optD]; exact wcl_same rfl q
  | some v =>
    have := h v rfl
    simp [optD]
    refine number_w rfl ?_
    have hn : numD (.int v) = true := decide_eq_true (by omega)
    simp [hn]
    rw [show decide (lo ≤ v) = true from decide_eq_true this]
    exact wcl_same rfl q
theorem are_highs_w {r : List Int} {o : List (Option Int)} (hl : o.length = r.length) (h0 : ∀ n ∈ r, 0 ≤ n) (h : ∀ (j : Nat) (n m : Int), r[j]? = some n → o[j]? = some (some m) → n ≤ m) (q : P (.bl true) μ) : Wf f_are_highs [rowD r, rowO o] μ P := by
  unfold f_are_highs
  rw [wf_def]
  have k1 := isi_tuple (d := rowO o) rfl
  have l1 : ∀ μ (P : D → Mu → Prop), Wp (bLen [rowD r] μ) P ↔ P (.int r.length) μ := fun μ P => by unfold rowD; rw [wp_lenT, List.length_map]
  have l2 : ∀ μ (P : D → Mu → Prop), Wp (bLen [rowO o] μ) P ↔ P (.int r.length) μ := fun μ P => by unfold rowO; rw [wp_lenT, List.length_map, hl]
  have s2 : ∀ μ : Mu, seqOf μ (rowO o) = some (o.map optD) := fun _ => rfl
  have e2 : ∀ xs, srcOf (rowO o) xs = [] := fun _ => rfl
  simp [k1, l1, l2, row_seq, s2, row_src, e2]
  refine .inr ⟨rfl, ?_⟩
  rw [List.zip_map, List.map_map]
  refine comp_mapA (fun r => .bl true) holds_nil (fun x hx => ?_) ?_
  · obtain ⟨j, hj⟩ := List.getElem?_of_mem hx
    obtain ⟨z1, z2⟩ := List.getElem?_zip_eq_some.mp hj
    simp [wipe]
    exact is_high_w (h0 _ (List.mem_of_getElem? z1)) (fun v hv => h j _ _ z1 (by rw [z2, hv])) ⟨rfl, rfl⟩
  · rw [List.nil_append, wp_allF (f := fun _ => true)]
    rw [all_true]
    first
      | exact wcl_same rfl q
      | (simp; exact wcl_same rfl q)
      | trace_state
theorem need_highs_w {t : List (List Int)} {o : List (List (Option Int))} (hl : o.length = t.length) (h0 : ∀ r ∈ t, ∀ n ∈ r, 0 ≤ n) (hs : ∀ (i : Nat) (r : List Int) (x : List (Option Int)), t[i]? = some r → o[i]? = some x → x.length = r.length) (h : ∀ (i j : Nat) (r : List Int) (x : List (Option Int)) (n m : Int), t[i]? = some r → o[i]? = some x → r[j]? = some n → x[j]? = some (some m) → n ≤ m) (q : P .non μ) : Wf f_need_highs [tabD t, tabO o] μ P := by
  unfold f_need_highs
  rw [wf_def]
  have k1 := isi_lt (d := tabO o) rfl
  have l1 : ∀ μ (P : D → Mu → Prop), Wp (bLen [tabD t] μ) P ↔ P (.int t.length) μ := fun μ P => by unfold tabD; rw [wp_lenT, List.length_map]
  have l2 : ∀ μ (P : D → Mu → Prop), Wp (bLen [tabO o] μ) P ↔ P (.int t.length) μ := fun μ P => by unfold tabO; rw [wp_lenT, List.length_map, hl]
  have s2 : ∀ μ : Mu, seqOf μ (tabO o) = some (o.map rowO) := fun _ => rfl
  have e2 : ∀ xs, srcOf (tabO o) xs = [] := fun _ => rfl
  simp [k1, l1, l2, tab_seq, s2, tab_src, e2]
  refine ⟨.inr rfl, ?_⟩
  rw [List.zip_map, List.map_map]
  refine comp_mapA (fun r => .bl true) holds_nil (fun x hx => ?_) ?_
  · obtain ⟨j, hj⟩ := List.getElem?_of_mem hx
    obtain ⟨z1, z2⟩ := List.getElem?_zip_eq_some.mp hj
    simp [wipe]
    exact are_highs_w (hs j _ _ z1 z2) (h0 _ (List.mem_of_getElem? z1)) (fun k n m h1 h2 => h j k _ _ n m z1 z2 h1 h2) ⟨rfl, rfl⟩
  · rw [List.nil_append, wp_allF (f := fun _ => true)]
    rw [all_true]
    first
      | exact wcl_same rfl q
      | (simp; exact wcl_same rfl q)
      | trace_state
theorem is_span_w {s : Int × Int} (h : 0 ≤ s.1 ∧ s.1 ≤ s.2) (q : P (.bl true) μ) : Wf f_is_span [spanD s] μ P := by
  unfold f_is_span
  rw [wf_def]
  simp
  refine numbers_w rfl ?_
  have hn : numsD 2 (spanD s) = true := by
    simp [numsD, spanD, numD]; omega
  rw [hn]
  simp [spanD, atI, ixN]
  rw [show decide (s.1 ≤ s.2) = true from decide_eq_true h.2]
  exact wcl_same rfl q
theorem need_spans_w {x : Str} {s : List (Int × Int)} {n : Nat} (hl : s.length = n) (h : SpOk s) (q : P .non μ) : Wf f_need_spans [.str x, spansD s, .int n] μ P := by
  unfold f_need_spans
  rw [wf_def]
  have k1 := isi_lt (d := spansD s) rfl
  have l1 : ∀ μ (P : D → Mu → Prop), Wp (bLen [spansD s] μ) P ↔ P (.int n) μ := fun μ P => by unfold spansD; rw [wp_lenT, List.length_map, hl]
  have s2 : ∀ μ : Mu, seqOf μ (spansD s) = some (s.map spanD) := fun _ => rfl
  have e2 : ∀ xs, srcOf (spansD s) xs = [] := fun _ => rfl
  simp [k1, l1, s2, e2]
  refine ⟨.inr rfl, ?_⟩
  refine comp_mapA (fun r => .bl true) holds_nil (fun a ha => ?_) ?_
  · simp [wipe]
    exact is_span_w ⟨(h a ha).1, (h a ha).2.1⟩ ⟨rfl, rfl⟩
  · rw [List.nil_append, wp_allF (f := fun _ => true)]
    rw [all_true]
    first
      | exact wcl_same rfl q
      | (simp; exact wcl_same rfl q)
      | trace_state
end
end VL
end
section
set_option linter.all false
set_option maxRecDepth 100000
set_option maxHeartbeats 2000000
namespace VL
open PySem L2
theorem map_toNat_inj : ∀ {a b : List Char}, a.map Char.toNat = b.map Char.toNat → a = b
  | [], [], _ => rfl
  | [], _ :: _, h => by cases h
  | _ :: _, [], h => by cases h
  | x :: a, y :: b, h => by
    simp only [List.map_cons, List.cons.injEq] at h
    rw [map_toNat_inj h.2, Char.toNat_inj.mp h.1]
@[simp] theorem ofS_inj {a b : String} : Str.ofString a = Str.ofString b ↔ a = b := ⟨fun h => by
  rw [Str.ofString_eq_toList, Str.ofString_eq_toList] at h
  injection h with h
  exact String.toList_injective (map_toNat_inj (by have := congrArg Array.toList h; simpa using this)), fun h => by rw [h]⟩
section
variable {μ : Mu} {P : D → Mu → Prop}
theorem undF_mono' {m n : Nat} (h : m ≤ n) {fs : List (Str × D)} (q : undF m fs = true) : undF n fs = true := undF_mono h fs q
theorem undF_snd {n : Nat} : ∀ {fs : List (Str × D)}, undF n fs = true → undAll n (fs.map fun x => x.2) = true
  | [], _ => rfl
  | (_, d) :: fs, h => by
    simp only [undF, Bool.and_eq_true] at h
    simp only [List.map_cons, undAll, h.1, undF_snd h.2, Bool.and_true]
theorem keeps_ins {c : Str} {fs gs : List (Str × D)} (hu : undF μ.length gs = true) : Keeps (μ ++ [.ins c fs]) (μ ++ [.ins c gs]) := fun n o h e => by
  by_cases hn : n < μ.length
  · rw [List.getElem?_append_left hn] at e ⊢
    exact .inl e
  · have : n = μ.length := by simp at h; omega
    subst this
    rw [List.getElem?_concat_length] at e
    cases e
    right
    exact undF_snd <| undF_mono' (m := μ.length) (n := (μ ++ [MO.ins c fs]).length) (by rw [List.length_append]; omega) hu
theorem make_w {c : Str} {g : VF} {xs : List D} {fs : List (Str × D)} (hu : undF μ.length fs = true) (h : Wf g (.ref μ.length :: xs) (μ ++ [.ins c []]) fun d μ2 => d = .non ∧ μ2 = μ ++ [.ins c fs]) (q : P (.obj c fs) μ) : Wf (makeD c g) xs μ P := by
  obtain ⟨d, μ2, e, rfl, rfl⟩ := h
  refine ⟨.obj c fs, μ, ?_, q⟩
  unfold makeD
  rw [e]
  simp only []
  rw [List.getElem?_concat_length]
  simp only []
  rw [if_pos ⟨fun n o h e => by
    rw [List.getElem?_append_left h] at e
    exact .inl e, hu⟩, List.take_left]
theorem wcl_init {c : Str} {fs gs : List (Str × D)} (hu : undF μ.length gs = true) (q : P .non (μ ++ [.ins c gs])) : Wcl (μ ++ [.ins c fs]) .non (μ ++ [.ins c gs]) P := by
  refine wcl_und (keeps_ins hu) (by simp) rfl ?_
  rw [show (μ ++ [MO.ins c fs]).length = (μ ++ [MO.ins c gs]).length by simp, List.take_length]
  exact q
theorem set_ins {cs : List Str} {f c : Str} {fs : List (Str × D)} {d : D} (h : c ∈ cs) (hl : fs.length < 1000) : setAttr cs f (.ref μ.length) d (μ ++ [.ins c fs]) = some (μ ++ [.ins c (putFD f d fs)]) := by
  unfold setAttr
  simp only []
  rw [List.getElem?_concat_length]
  simp only []
  rw [if_pos ⟨h, hl⟩]
  simp
end
def sheetO (s : Raw) : D := .obj "Sheet" [("lows", tabD s.lows), ("highs", tabO s.highs), ("rows", spansD s.rows), ("columns", spansD s.cols)]
section
variable {μ : Mu} {P : D → Mu → Prop}
theorem made_w {s : Raw} {h w : Nat} (ok : s.Ok h w) (h6 : h ≤ 6) (w6 : w ≤ 6) (q : P (sheetO s) μ) : Wf f_law_made [rawD s] μ P := by
  unfold f_law_made
  rw [wf_def]
  simp [rawD, atI, ixN]
  refine make_w (fs := [("lows", tabD s.lows), ("highs", tabO s.highs), ("rows", spansD s.rows), ("columns", spansD s.cols)]) (by simp [undF, tab_und, tabO_und, spans_und]) ?_ (wcl_same (by simp [D.und, undF, tab_und, tabO_und, spans_und]) q)
  unfold m_Sheet_init
  rw [wf_def]
  have hr0 : s.lows[0]? = some (s.lows[0]'(by rw [ok.lows.1]; exact ok.h1)) := List.getElem?_eq_getElem _
  generalize s.lows[0]'(by rw [ok.lows.1]; exact ok.h1) = r0 at hr0
  have hw0 : r0.length = w := ok.lows.2 r0 (List.mem_of_getElem? hr0)
  have a0 := at_first (f := rowD) hr0
  have i1 : ∀ μ (P : D → Mu → Prop), Wp (opIx (tabD s.lows) (.int 0) μ) P ↔ P (rowD r0) μ := fun μ P => by rw [wp_ix (tab_seq _), a0, ex_some]
  have l2 : ∀ μ (P : D → Mu → Prop), Wp (bLen [rowD r0] μ) P ↔ P (.int w) μ := fun μ P => by unfold rowD; rw [wp_lenT, List.length_map, hw0]
  have l1 : ∀ μ (P : D → Mu → Prop), Wp (bLen [tabD s.lows] μ) P ↔ P (.int h) μ := fun μ P => by unfold tabD; rw [wp_lenT, List.length_map, ok.lows.1]
  simp [i1, l1, l2]
  refine need_lows_w ok.lows ok.h1 h6 ok.w1 w6 ok.pos ?_
  try simp [i1, l1, l2]
  refine need_highs_w (by rw [ok.hl, ok.lows.1]) ok.pos (fun i r x h1 h2 => by rw [ok.hw x (List.mem_of_getElem? h2), ok.lows.2 r (List.mem_of_getElem? h1)]) ok.high ?_
  try simp [i1, l1, l2]
  refine need_spans_w ok.rl ok.ro ?_
  try simp [i1, l1, l2]
  refine need_spans_w ok.cl ok.co ?_
  have t1 : ∀ μ (P : D → Mu → Prop), Wp (bTuple [tabD s.lows] μ) P ↔ P (tabD s.lows) μ := fun μ P => wp_tupleT
  have t2 : ∀ μ (P : D → Mu → Prop), Wp (bTuple [tabO s.highs] μ) P ↔ P (tabO s.highs) μ := fun μ P => wp_tupleT
  have t3 : ∀ x μ (P : D → Mu → Prop), Wp (bTuple [spansD x] μ) P ↔ P (spansD x) μ := fun x μ P => wp_tupleT
  simp [t1, t2, t3, set_ins, putFD]
  exact wcl_init (by simp [undF, tab_und, tabO_und, spans_und]) ⟨rfl, rfl⟩
end
end VL
end
section
set_option linter.all false
set_option maxRecDepth 100000
set_option maxHeartbeats 2000000
namespace VL
open PySem L2
def Raw.Free (s : Raw) : Prop := s.highs = s.lows.map fun r => r.map fun _ => none
theorem sIx_none {n d : Nat} : HT.sIx n d none = d := rfl
theorem sIx_some {n d : Nat} {i : Int} (h : 0 ≤ i) : HT.sIx n d (some i) = min i.toNat n := by
  unfold HT.sIx
  simp only []
  try (split <;> omega)
theorem cut_to {xs : List D} {i : Int} (h : 0 ≤ i) : cutD xs none (some i) = xs.take i.toNat := by
  unfold cutD
  rw [sIx_none, sIx_some h, List.drop_zero, Nat.sub_zero, List.take_eq_take_iff]; omega
theorem cut_from {xs : List D} {i : Int} (h : 0 ≤ i) : cutD xs (some i) none = xs.drop i.toNat := by
  unfold cutD
  rw [sIx_none, sIx_some h]
  by_cases hl : i.toNat ≤ xs.length
  · rw [Nat.min_eq_left hl, List.take_of_length_le (by rw [List.length_drop]; exact Nat.le_refl _)]
  · rw [Nat.min_eq_right (by omega), List.drop_eq_nil_of_le (Nat.le_refl _), List.drop_eq_nil_of_le (by omega)]; simp
theorem repD_one {d : D} {n : Nat} : repD [d] (n : Int) = List.replicate n d := by
  unfold repD
  rw [Int.toNat_natCast]
  induction n with
  | zero => rfl
  | succ n ih => rw [List.replicate_succ, List.flatten_cons, ih, List.replicate_succ]; rfl
theorem SpOk.put {s : List (Int × Int)} (h : SpOk s) {i : Nat} {a : Int × Int} (ha : 0 ≤ a.1 ∧ a.1 ≤ a.2 ∧ a.2 ≤ a.1 + 1000) : SpOk (s.take i ++ [a] ++ s.drop (i + 1)) := fun b hb => by
  simp only [List.mem_append, List.mem_singleton] at hb
  rcases hb with (hb | rfl) | hb
  · exact h b (List.mem_of_mem_take hb)
  · exact ha
  · exact h b (List.mem_of_mem_drop hb)
theorem put_len {α : Type} {s : List α} {i : Nat} {a : α} (h : i < s.length) : (s.take i ++ [a] ++ s.drop (i + 1)).length = s.length := by simp; omega
section
variable {p : Pen} {rest : Mu} {P : D → Mu → Prop}
end
end VL
end
section
set_option linter.all false
set_option maxRecDepth 100000
set_option maxHeartbeats 2000000
namespace VL
open PySem L2
section
variable {μ : Mu} {P : D → Mu → Prop} {s : Raw}
theorem wp_attr {cs : List Str} {f c : Str} {fs : List (Str × D)} {v : D} (h : c ∈ cs) (hv : fs.lookup f = some v) : Wp (opAttr cs f (.obj c fs) μ) P ↔ P v μ := by
  unfold opAttr
  simp only []
  rw [if_pos h, hv]
  exact wp_some
@[simp] theorem strOk_of (a : String) : PyData.strOk (Str.ofString a) = true := by
  unfold PyData.strOk
  rw [Str.ofString_eq_toList]
  simp
  intro c _
  have := c.valid
  unfold UInt32.isValidChar Nat.isValidChar at this
  show c.val.toNat < _
  omega
@[simp] theorem wp_eqS {a b : Str} (ha : PyData.strOk a = true) (hb : PyData.strOk b = true) : Wp (opEq (.str a) (.str b) μ) P ↔ P (.bl (decide (a = b))) μ := by
  rw [wp_eq (d := .str a) (e := .str b) (by simp [D.plain, ha]) (by simp [D.plain, hb]) (by simp [D.dep]) (by simp [D.dep])]
  rfl
@[simp] theorem wp_neS {a b : Str} (ha : PyData.strOk a = true) (hb : PyData.strOk b = true) : Wp (opNe (.str a) (.str b) μ) P ↔ P (.bl (!decide (a = b))) μ := by
  rw [wp_ne (d := .str a) (e := .str b) (by simp [D.plain, ha]) (by simp [D.plain, hb]) (by simp [D.dep]) (by simp [D.dep])]
  rfl
theorem lk_hd {f : Str} {v : D} {fs : List (Str × D)} : ((f, v) :: fs).lookup f = some v := by simp [List.lookup]
theorem lk_tl {f g : Str} {v : D} {fs : List (Str × D)} (h : (f == g) = false) : ((g, v) :: fs).lookup f = fs.lookup f := by simp [List.lookup, h]
@[simp] theorem rd_lows : Wp (opAttr [Str.ofString "Sheet"] (Str.ofString "lows") (sheetO s) μ) P ↔ P (tabD s.lows) μ := wp_attr (by simp) lk_hd
@[simp] theorem rd_highs : Wp (opAttr [Str.ofString "Sheet"] (Str.ofString "highs") (sheetO s) μ) P ↔ P (tabO s.highs) μ := wp_attr (by simp) (by rw [lk_tl (by simp), lk_hd])
@[simp] theorem rd_rows : Wp (opAttr [Str.ofString "Sheet"] (Str.ofString "rows") (sheetO s) μ) P ↔ P (spansD s.rows) μ := wp_attr (by simp) (by rw [lk_tl (by simp), lk_tl (by simp), lk_hd])
@[simp] theorem rd_cols : Wp (opAttr [Str.ofString "Sheet"] (Str.ofString "columns") (sheetO s) μ) P ↔ P (spansD s.cols) μ := wp_attr (by simp) (by rw [lk_tl (by simp), lk_tl (by simp), lk_tl (by simp), lk_hd])
theorem sheet_und (n : Nat) : (sheetO s).und n = true := by simp [sheetO, D.und, undF, tab_und, tabO_und, spans_und]
@[simp] theorem tab_len {t : List (List Int)} : Wp (bLen [tabD t] μ) P ↔ P (.int t.length) μ := by unfold tabD; rw [wp_lenT, List.length_map]
@[simp] theorem row_len {t : List Int} : Wp (bLen [rowD t] μ) P ↔ P (.int t.length) μ := by unfold rowD; rw [wp_lenT, List.length_map]
@[simp] theorem tabO_len {t : List (List (Option Int))} : Wp (bLen [tabO t] μ) P ↔ P (.int t.length) μ := by unfold tabO; rw [wp_lenT, List.length_map]
@[simp] theorem spans_len {t : List (Int × Int)} : Wp (bLen [spansD t] μ) P ↔ P (.int t.length) μ := by unfold spansD; rw [wp_lenT, List.length_map]
theorem nth_w {α : Type} {f : α → D} {d : D} {as : List α} {a : α} {i : Nat} (hs : seqOf μ d = some (as.map f)) (h : as[i]? = some a) : Wp (opIx d (.int i) μ) P ↔ P (f a) μ := by
  rw [wp_ix hs, atI_nat' (n := i) (d := f a) (by rw [List.getElem?_map, h]; rfl), ex_some]
theorem tab_nth {t : List (List Int)} {i : Nat} {r : List Int} (h : t[i]? = some r) : Wp (opIx (tabD t) (.int i) μ) P ↔ P (rowD r) μ := nth_w rfl h
theorem tabO_nth {t : List (List (Option Int))} {i : Nat} {r : List (Option Int)} (h : t[i]? = some r) : Wp (opIx (tabO t) (.int i) μ) P ↔ P (rowO r) μ := nth_w rfl h
theorem row_nth {t : List Int} {i : Nat} {r : Int} (h : t[i]? = some r) : Wp (opIx (rowD t) (.int i) μ) P ↔ P (.int r) μ := nth_w rfl h
theorem rowO_nth {t : List (Option Int)} {i : Nat} {r : Option Int} (h : t[i]? = some r) : Wp (opIx (rowO t) (.int i) μ) P ↔ P (optD r) μ := nth_w rfl h
theorem spans_nth {t : List (Int × Int)} {i : Nat} {r : Int × Int} (h : t[i]? = some r) : Wp (opIx (spansD t) (.int i) μ) P ↔ P (spanD r) μ := nth_w rfl h
@[simp] theorem span_0 {a : Int × Int} : Wp (opIx (spanD a) (.int 0) μ) P ↔ P (.int a.1) μ := by
  unfold spanD; rw [wp_ixT, show atI [D.int a.1, D.int a.2] 0 = some (.int a.1) from rfl, ex_some]
@[simp] theorem span_1 {a : Int × Int} : Wp (opIx (spanD a) (.int 1) μ) P ↔ P (.int a.2) μ := by
  unfold spanD; rw [wp_ixT, show atI [D.int a.1, D.int a.2] 1 = some (.int a.2) from rfl, ex_some]
theorem Raw.Ok.first {h w : Nat} (ok : s.Ok h w) : ∃ r, s.lows[0]? = some r ∧ r.length = w := by
  have : 0 < s.lows.length := by rw [ok.lows.1]; exact ok.h1
  exact ⟨s.lows[0], List.getElem?_eq_getElem this, ok.lows.2 _ (List.getElem_mem this)⟩
theorem shape_of_w {h w : Nat} (ok : s.Ok h w) (q : P (.tup [.int h, .int w]) μ) : Wf f_shape_of [sheetO s] μ P := by
  obtain ⟨r0, hr, hl⟩ := ok.first
  unfold f_shape_of
  rw [wf_def]
  have i0 : ∀ μ (P : D → Mu → Prop), Wp (opIx (tabD s.lows) (.int 0) μ) P ↔ P (rowD r0) μ := fun μ P => tab_nth (i := 0) hr
  simp [i0, hl, ok.lows.1]
  exact wcl_same rfl q
theorem lines_many_w {h w : Nat} (ok : s.Ok h w) {b : Bool} (q : P (.int (if b then h else w)) μ) : Wf f_lines_many [sheetO s, .str (if b then "row" else "column")] μ P := by
  unfold f_lines_many
  rw [wf_def]
  simp
  refine shape_of_w ok ?_
  have u0 : atI [D.int h, D.int w] 0 = some (.int h) := rfl
  have u1 : atI [D.int h, D.int w] 1 = some (.int w) := rfl
  cases b <;> simp [u0, u1]
  · exact wcl_same rfl q
  · exact wcl_same rfl q
end
end VL
end
section
set_option linter.all false
set_option maxRecDepth 100000
set_option maxHeartbeats 2000000
namespace VL
open PySem L2
def many (h w : Nat) (b : Bool) : Nat := if b then h else w
def wordS (b : Bool) : Str := if b then "row" else "column"
def lineS (s : Raw) (w : Nat) (b : Bool) : List (List Int) := if b then s.lows else turn w s.lows
def spanS (s : Raw) (b : Bool) : List (Int × Int) := if b then s.rows else s.cols
def spanAt (s : Raw) (b : Bool) (i : Nat) : Int × Int := (spanS s b).getD i (0, 0)
def lowAt (s : Raw) (w : Nat) (b : Bool) (i : Nat) : Int := ((lineS s w b).getD i []).sum
def needAt (s : Raw) (w : Nat) (b : Bool) (i : Nat) : Int := max 0 ((spanAt s b i).1 - lowAt s w b i)
def roomAt (s : Raw) (w : Nat) (b : Bool) (i : Nat) : Int := (spanAt s b i).2 - lowAt s w b i
theorem getD_some {α : Type} {as : List α} {i : Nat} {d : α} (h : i < as.length) : as[i]? = some (as.getD i d) := by
  rw [List.getD_eq_getElem?_getD, List.getElem?_eq_getElem h]; rfl
theorem map_range {α β : Type} {as : List α} {d : α} (f : α → β) : as.map f = (List.range as.length).map fun i => f (as.getD i d) := by
  refine List.ext_getElem? fun i => ?_
  rw [List.getElem?_map, List.getElem?_map]
  by_cases h : i < as.length
  · rw [List.getElem?_range h, getD_some (d := d) h]; rfl
  · rw [List.getElem?_eq_none (by omega), List.getElem?_eq_none (by rw [List.length_range]; omega)]; rfl
section
variable {μ : Mu} {P : D → Mu → Prop} {s : Raw} {h w : Nat} {b : Bool}
theorem Raw.Ok.lines (ok : s.Ok h w) : (lineS s w b).length = many h w b := by
  cases b
  · simp [lineS, many, turn]
  · exact ok.lows.1
theorem Raw.Ok.spans (ok : s.Ok h w) : (spanS s b).length = many h w b := by
  cases b
  · exact ok.cl
  · exact ok.rl
theorem span_by_w (ok : s.Ok h w) {i : Nat} (hi : i < many h w b) (q : P (spanD (spanAt s b i)) μ) : Wf f_span_by [sheetO s, .str (wordS b), .int i] μ P := by
  unfold f_span_by
  rw [wf_def]
  have ha : PyData.strOk (wordS b) = true := by cases b <;> exact strOk_of _
  simp [ha]
  have hg := getD_some (d := (0, 0)) (as := spanS s b) (i := i) (by rw [ok.spans]; exact hi)
  cases b
  · refine .inl ⟨by simp [wordS], (spans_nth hg).mpr (wcl_same (span_und _ _) q)⟩
  · refine .inr ⟨rfl, (spans_nth hg).mpr (wcl_same (span_und _ _) q)⟩
theorem enum_range {ns : List Int} {n : Nat} (hl : ns.length = n) : (ns.map D.int).zipIdx.map (fun p => D.tup [.int (p.2 : Nat), p.1]) = (List.range n).map fun i => D.tup [.int (i : Nat), .int (ns.getD i 0)] := by
  refine List.ext_getElem? fun i => ?_
  rw [List.getElem?_map, List.getElem?_map, List.getElem?_zipIdx]
  by_cases h : i < n
  · rw [List.getElem?_range h, List.getElem?_map, getD_some (d := 0) (by omega : i < ns.length)]
    simp
  · rw [List.getElem?_eq_none (by rw [List.length_map]; omega), List.getElem?_eq_none (by rw [List.length_range]; omega)]; rfl
theorem lines_enum (ok : s.Ok h w) : ((lineS s w b).map fun r => D.int r.sum).zipIdx.map (fun p => D.tup [.int (p.2 : Nat), p.1]) = (List.range (many h w b)).map fun i => D.tup [.int (i : Nat), .int (lowAt s w b i)] := by
  have := enum_range (ns := (lineS s w b).map List.sum) (n := many h w b) (by rw [List.length_map, ok.lines])
  rw [List.map_map] at this
  rw [show (fun r : List Int => D.int r.sum) = D.int ∘ List.sum from rfl, this]
  refine List.map_congr_left fun i hi => ?_
  have hi := List.mem_range.mp hi
  unfold lowAt
  rw [List.getD_eq_getElem?_getD, List.getElem?_map, getD_some (d := []) (by rw [ok.lines]; exact hi)]
  rfl
end
end VL
end
section
set_option linter.all false
set_option maxRecDepth 100000
set_option maxHeartbeats 2000000
namespace VL
open PySem L2
/-- frozen data -/
structure D.Dat (d : D) : Prop where
  kdd : d.kdd = true
  plain : d.plain = true
  dep : d.dep ≤ 50
def sameD : D → D → Bool
  | .str x, .str y => decide (x = y)
  | .int i, .int j => decide (i = j)
  | _, _ => false
def D.simple : D → Bool
  | .str x => PyData.strOk x
  | .int _ => true
  | _ => false
section
variable {μ : Mu} {P : D → Mu → Prop}
theorem law_is_bl {n : Nat} {a b : Bool} (q : P (.bl (a == b)) μ) : Wf (f_law_is (n + 1)) [.bl a, .bl b] μ P := by
  unfold f_law_is
  rw [wf_def]
  have k2 := isi_tuple (d := .bl b) rfl
  simp [k2, D.isT]
  cases a <;> cases b <;> simp <;> exact wcl_same rfl q
theorem law_is_simple {n : Nat} {t d : D} (ht : t.simple = true) (hd : d.Dat) (q : P (.bl (sameD t d)) μ) : Wf (f_law_is (n + 1)) [t, d] μ P := by
  unfold f_law_is
  rw [wf_def]
  have hk := kdd_kd hd.kdd
  have tk : t.kd = true := by cases t <;> first | rfl | (simp [D.simple] at ht)
  have tp : t.plain = true := by cases t <;> first | rfl | exact ht | (simp [D.simple] at ht)
  have td : t.dep ≤ 60 := by cases t <;> first | exact Nat.zero_le _ | (simp [D.simple] at ht)
  simp [isi_tuple hk, isi_str hk, isi_str tk, isi_int tk, isi_bool tk, isi_tuple tk]
  have he : ∀ (μ : Mu) (P : D → Mu → Prop), Wp (opEq t d μ) P ↔ P (.bl (eqD t d)) μ := fun _ _ => wp_eq tp hd.plain td (by have := hd.dep; omega)
  have hp := hd.plain
  have W : ∀ b, P (.bl b) μ → Wcl μ (.bl b) μ P := fun b q => wcl_same rfl q
  cases t with
  | str x =>
    cases d with
    | str y => simp [D.isT, D.isS, he, eqD]; exact W _ q
    | obj c fs => simp [D.plain] at hp
    | scr _ => simp [D.plain] at hp
    | ref _ => simp [D.plain] at hp
    | ty _ => simp [D.plain] at hp
    | glob _ => simp [D.plain] at hp
    | bl b => cases b <;> (simp [D.isT, D.isS, D.isI, D.isB]; exact W _ q)
    | _ => simp [D.isT, D.isS, D.isI, D.isB]; exact W _ q
  | int x =>
    cases d with
    | int y => simp [D.isT, D.isS, D.isI, D.isB, he, eqD]; exact W _ q
    | lst y => simp [D.isT, D.isS, D.isI, D.isB, he, eqD]; exact W _ q
    | obj c fs => simp [D.plain] at hp
    | scr _ => simp [D.plain] at hp
    | ref _ => simp [D.plain] at hp
    | ty _ => simp [D.plain] at hp
    | glob _ => simp [D.plain] at hp
    | bl b => cases b <;> (simp [D.isT, D.isS, D.isI, D.isB]; exact W _ q)
    | _ => simp [D.isT, D.isS, D.isI, D.isB]; exact W _ q
  | _ => simp [D.simple] at ht
end
end VL
end
section
set_option linter.all false
set_option maxRecDepth 100000
set_option maxHeartbeats 2000000
namespace VL
open PySem L2
theorem comp_filterA {α : Type} {w : Wk} {g : VG} {t : VT} {e : VE} {ρ : Ro} {vs : List Nat} {μ : Mu} {Q : List D → Mu → Prop} {ι : α → D} (p : α → Bool) (f : α → D) (hw : w.holds μ) {as : List α} {acc : List D}
    (h : ∀ a ∈ as, Wg g (ι a) (wipe ρ vs) μ fun ρ1 μ1 => Wt t ρ1 μ1 fun k μ2 => k = p a ∧ μ2 = μ ∧ (p a = true → We e ρ1 μ2 fun d μ3 => d = f a ∧ μ3 = μ)) (q : Q (acc ++ (as.filter p).map f) μ) : Wl (compL w g t e ρ vs (as.map ι) acc μ) Q := by
  induction as generalizing acc with
  | nil => exact compL_nil.mpr ⟨hw, by simpa using q⟩
  | cons x xs ih =>
    refine compL_cons.mpr ⟨hw, ?_⟩
    obtain ⟨ρ1, μ1, h2, k, μ2, h3, rfl, rfl, h4⟩ := h x (by simp)
    refine ⟨ρ1, μ1, h2, p x, μ2, h3, ?_⟩
    cases hp : p x with
    | false =>
      simp only [Bool.false_eq_true, if_false]
      exact ih (fun y hy => h y (by simp [hy])) (by simpa [hp] using q)
    | true =>
      simp only [if_true]
      obtain ⟨d, μ3, h5, rfl, rfl⟩ := h4 hp
      exact ⟨f x, _, h5, ih (fun y hy => h y (by simp [hy])) (by simpa [hp] using q)⟩
theorem rng0 (n : Nat) : rng 0 n = (List.range n).map fun i => D.int (i : Nat) := by
  unfold rng
  exact List.map_congr_left fun i _ => by simp
theorem plainAll_mem : ∀ {xs : List D}, plainAll xs = true → ∀ x ∈ xs, x.plain = true
  | [], _, _, h => by cases h
  | d :: ds, h, x, hx => by
    simp only [plainAll, Bool.and_eq_true] at h
    rcases List.mem_cons.mp hx with rfl | hx
    · exact h.1
    · exact plainAll_mem h.2 x hx
theorem plainAll_of : ∀ {xs : List D}, (∀ x ∈ xs, x.plain = true) → plainAll xs = true
  | [], _ => rfl
  | d :: ds, h => by
    have h1 := h d (by simp)
    have h2 : plainAll ds = true := plainAll_of fun x hx => h x (List.mem_cons_of_mem _ hx)
    simp only [plainAll, h1, h2, Bool.and_true]
theorem depAll_mem : ∀ {xs : List D} {x : D}, x ∈ xs → x.dep ≤ depAll xs
  | [], _, h => by cases h
  | d :: ds, x, h => by
    simp only [depAll]
    rcases List.mem_cons.mp h with rfl | h
    · omega
    · have := depAll_mem h; omega
theorem depAll_of {n : Nat} : ∀ {xs : List D}, (∀ x ∈ xs, x.dep ≤ n) → depAll xs ≤ n
  | [], _ => Nat.zero_le _
  | d :: ds, h => by
    have h1 := h d (by simp)
    have h2 : depAll ds ≤ n := depAll_of fun x hx => h x (List.mem_cons_of_mem _ hx)
    simp only [depAll]; omega
theorem D.Dat.mem {xs : List D} (h : (D.tup xs).Dat) {x : D} (hx : x ∈ xs) : x.Dat :=
  ⟨kddAll_mem (by simpa [D.kdd] using h.kdd) x hx, plainAll_mem (by simpa [D.plain] using h.plain) x hx, by have := h.dep; simp only [D.dep] at this; have := depAll_mem hx; omega⟩
theorem D.Dat.tup {xs : List D} (h : ∀ x ∈ xs, x.Dat) (hd : depAll xs ≤ 49) : (D.tup xs).Dat :=
  ⟨by unfold D.kdd; exact kddAll_of fun x hx => (h x hx).kdd, by unfold D.plain; exact plainAll_of fun x hx => (h x hx).plain, by simp only [D.dep]; omega⟩
def sameT (ts : List D) : D → Bool
  | .tup ds => decide (ts.length = ds.length) && (List.range ds.length).all fun i => sameD (ts.getD i .non) (ds.getD i .non)
  | _ => false
section
variable {μ : Mu} {P : D → Mu → Prop}
theorem eq_nil {xs : List D} (hp : plainAll xs = true) (hd : depAll xs ≤ 49) : Wp (opEq (.lst xs) (.lst []) μ) P ↔ P (.bl xs.isEmpty) μ := by
  rw [wp_eq (by simpa [D.plain] using hp) (by simp [D.plain, plainAll]) (by simp only [D.dep]; omega) (by simp [D.dep, depAll])]
  cases xs <;> rfl
theorem ne_nil {xs : List D} (hp : plainAll xs = true) (hd : depAll xs ≤ 49) : Wp (opNe (.lst xs) (.lst []) μ) P ↔ P (.bl !xs.isEmpty) μ := by
  rw [wp_ne (by simpa [D.plain] using hp) (by simp [D.plain, plainAll]) (by simp only [D.dep]; omega) (by simp [D.dep, depAll])]
  cases xs <;> rfl
theorem law_is_tup {n : Nat} {ts : List D} {d : D} (ht : ∀ t ∈ ts, t.simple = true) (hd : d.Dat) (hl : ∀ ds, d = .tup ds → ds.length ≤ 1000) (q : P (.bl (sameT ts d)) μ) : Wf (f_law_is (n + 2)) [.tup ts, d] μ P := by
  unfold f_law_is
  rw [wf_def]
  have hk := kdd_kd hd.kdd
  have tk : (D.tup ts).kd = true := rfl
  have hp := hd.plain
  have W : ∀ b, P (.bl b) μ → Wcl μ (.bl b) μ P := fun b q => wcl_same rfl q
  simp [isi_tuple hk, isi_str hk, isi_str tk, isi_int tk, isi_bool tk, isi_tuple tk]
  cases d with
  | tup ds =>
    have hds := hl ds rfl
    simp [D.isT]
    by_cases hlen : ts.length = ds.length
    · refine .inl ⟨by omega, by omega, ?_⟩
      rw [rng0]
      refine comp_filterA (fun i => !sameD (ts.getD i .non) (ds.getD i .non)) (fun i => .int (i : Nat)) holds_nil (fun i hi => ?_) ?_
      · have hi := List.mem_range.mp hi
        have a1 := atI_nat' (n := i) (getD_some (d := D.non) (as := ts) (by omega : i < ts.length))
        have a2 := atI_nat' (n := i) (getD_some (d := D.non) (as := ds) hi)
        have m1 := ht _ (List.mem_of_getElem? (getD_some (d := D.non) (as := ts) (by omega : i < ts.length)))
        have m2 := hd.mem (List.mem_of_getElem? (getD_some (d := D.non) (as := ds) hi))
        generalize ts.getD i .non = x at a1 m1
        generalize ds.getD i .non = y at a2 m2
        simp [wipe, a1, a2]
        refine law_is_simple m1 m2 ?_
        cases sameD x y <;> simp
      · rw [List.nil_append, eq_nil (plainAll_of fun x hx => by obtain ⟨i, _, rfl⟩ := List.mem_map.mp hx; rfl) (Nat.le_trans (depAll_of (n := 0) fun x hx => by obtain ⟨i, _, rfl⟩ := List.mem_map.mp hx; exact Nat.le_refl _) (by omega))]
        refine W _ ?_
        have e : ((List.filter (fun i => !sameD (ts.getD i .non) (ds.getD i .non)) (List.range ds.length)).map fun i => D.int (i : Nat)).isEmpty = sameT ts (.tup ds) := by
          simp only [sameT]
          rw [decide_eq_true hlen, Bool.true_and, Bool.eq_iff_iff, List.isEmpty_iff, List.map_eq_nil_iff, List.filter_eq_nil_iff, List.all_eq_true]
          simp
        rw [e]; exact q
    · refine .inr ⟨by omega, W _ ?_⟩
      have : sameT ts (.tup ds) = false := by simp only [sameT]; rw [decide_eq_false hlen]; rfl
      rw [← this]; exact q
  | obj c fs => simp [D.plain] at hp
  | scr _ => simp [D.plain] at hp
  | ref _ => simp [D.plain] at hp
  | ty _ => simp [D.plain] at hp
  | glob _ => simp [D.plain] at hp
  | bl b => cases b <;> (simp [D.isT, D.isS, D.isI, D.isB]; exact W _ q)
  | _ => simp [D.isT, D.isS, D.isI, D.isB]; exact W _ q
end
end VL
end
section
set_option linter.all false
set_option maxRecDepth 100000
set_option maxHeartbeats 2000000
namespace VL
open PySem L2
def needSum (s : Raw) (h w : Nat) (b : Bool) : Int := ((List.range (many h w b)).map (needAt s w b)).sum
def roomSum (s : Raw) (h w : Nat) (b : Bool) : Int := ((List.range (many h w b)).map (roomAt s w b)).sum
def lineB (s : Raw) (h w : Nat) (b : Bool) (i : Int) : Bool := decide (0 ≤ i ∧ i < many h w b) && decide (roomAt s w b i.toNat < 0)
def reasB (s : Raw) (h w : Nat) : D → Bool
  | .tup [.str x, .int i] => if x = wordS true then lineB s h w true i else if x = wordS false then lineB s h w false i else false
  | .tup [.str x] => if x = "rows" then decide (needSum s h w true > roomSum s h w false) else if x = "columns" then decide (needSum s h w false > roomSum s h w true) else false
  | _ => false
section
variable {μ : Mu} {P : D → Mu → Prop} {s : Raw} {h w : Nat}
theorem is_whole_w {d : D} (hd : d.kd = true) (q : P (.bl (wholeD d)) μ) : Wf f_is_whole [d] μ P := whole_w hd q
theorem lines_many_w' (ok : s.Ok h w) {b : Bool} (q : P (.int (many h w b : Nat)) μ) : Wf f_lines_many [sheetO s, .str (wordS b)] μ P := by
  cases b
  · exact lines_many_w (b := false) ok q
  · exact lines_many_w (b := true) ok q
theorem wordS_inj {b c : Bool} : wordS b = wordS c ↔ b = c := by cases b <;> cases c <;> simp [wordS]
theorem reasB_line {b : Bool} {i : Int} : reasB s h w (.tup [.str (wordS b), .int i]) = lineB s h w b i := by
  simp only [reasB]
  cases b
  · rw [if_neg (by simp [wordS]), if_pos rfl]
  · rw [if_pos rfl]
theorem reasB_line' {b : Bool} {c : D} (hc : ∀ i, c ≠ .int i) : reasB s h w (.tup [.str (wordS b), c]) = false := by
  cases c <;> first | rfl | exact absurd rfl (hc _)
end
end VL
end
section
set_option linter.all false
set_option maxRecDepth 100000
set_option maxHeartbeats 2000000
namespace VL
open PySem L2
/-- the sum of the first n -/
def SU (f : Nat → Int) : Nat → Int
  | 0 => 0
  | n + 1 => SU f n + f n
theorem su_list (f : Nat → Int) (n : Nat) : ((List.range n).map f).sum = SU f n := by
  induction n with
  | zero => rfl
  | succ n ih => rw [List.range_succ, List.map_append, List.sum_append, ih]; simp [SU]
theorem su_congr {f g : Nat → Int} {n : Nat} (h : ∀ i, i < n → f i = g i) : SU f n = SU g n := by
  induction n with
  | zero => rfl
  | succ n ih => simp only [SU]; rw [ih fun i hi => h i (by omega), h n (by omega)]
theorem su_add {f g : Nat → Int} {n : Nat} : SU (fun i => f i + g i) n = SU f n + SU g n := by
  induction n with
  | zero => rfl
  | succ n ih => simp only [SU]; rw [ih]; omega
theorem su_sub {f g : Nat → Int} {n : Nat} : SU (fun i => f i - g i) n = SU f n - SU g n := by
  induction n with
  | zero => rfl
  | succ n ih => simp only [SU]; rw [ih]; omega
theorem su_zero {n : Nat} : SU (fun _ => 0) n = 0 := by
  induction n with
  | zero => rfl
  | succ n ih => simp only [SU]; rw [ih]; rfl
theorem su_mono {f g : Nat → Int} {n : Nat} (h : ∀ i, i < n → f i ≤ g i) : SU f n ≤ SU g n := by
  induction n with
  | zero => exact Int.le_refl _
  | succ n ih => simp only [SU]; have := ih fun i hi => h i (by omega); have := h n (by omega); omega
theorem su_pos {f : Nat → Int} {n : Nat} (h : ∀ i, i < n → 0 ≤ f i) : 0 ≤ SU f n := by
  have := su_mono (f := fun _ => 0) (g := f) h
  rwa [su_zero] at this
theorem su_le {f : Nat → Int} {m n : Nat} (hm : m ≤ n) (h : ∀ i, i < n → 0 ≤ f i) : SU f m ≤ SU f n := by
  induction n with
  | zero => have : m = 0 := by omega
            subst this; exact Int.le_refl _
  | succ n ih =>
    by_cases e : m = n + 1
    · subst e; exact Int.le_refl _
    · have := ih (by omega) fun i hi => h i (by omega)
      have := h n (by omega)
      simp only [SU]; omega
theorem su_swap {f : Nat → Nat → Int} {m n : Nat} : SU (fun i => SU (f i) n) m = SU (fun j => SU (fun i => f i j) m) n := by
  induction m with
  | zero => simp only [SU]; rw [su_zero]
  | succ m ih => simp only [SU]; rw [ih, ← su_add]
/-- telescoping -/
theorem su_tel {f : Nat → Int} {n : Nat} : SU (fun i => f (i + 1) - f i) n = f n - f 0 := by
  induction n with
  | zero => simp only [SU]; omega
  | succ n ih => simp only [SU]; rw [ih]; omega
/-- what a line is given above its need, so that m is given in all -/
def amtF (nd rm : Nat → Int) (m : Int) (k : Nat) : Int := nd k + (min m (SU (fun i => rm i - nd i) (k + 1)) - min m (SU (fun i => rm i - nd i) k))
theorem amtF_sum {nd rm : Nat → Int} {m : Int} {n : Nat} (h0 : 0 ≤ m) : SU (amtF nd rm m) n = SU nd n + min m (SU (fun i => rm i - nd i) n) := by
  unfold amtF
  rw [su_add, su_tel (f := fun k => min m (SU (fun i => rm i - nd i) k))]
  have : min m (SU (fun i => rm i - nd i) 0) = 0 := by simp only [SU]; omega
  rw [this]; omega
theorem amtF_le {nd rm : Nat → Int} {m : Int} {k : Nat} (h : nd k ≤ rm k) : nd k ≤ amtF nd rm m k ∧ amtF nd rm m k ≤ rm k := by
  unfold amtF
  simp only [SU]
  constructor <;> omega
theorem amtF_congr {nd rm nd' rm' : Nat → Int} {m : Int} {k : Nat} (h1 : ∀ i, i ≤ k → nd i = nd' i) (h2 : ∀ i, i ≤ k → rm i = rm' i) : amtF nd rm m k = amtF nd' rm' m k := by
  unfold amtF
  rw [h1 k (Nat.le_refl _), su_congr (n := k) (g := fun i => rm' i - nd' i) fun i hi => by rw [h1 i (by omega), h2 i (by omega)], su_congr (n := k + 1) (g := fun i => rm' i - nd' i) fun i hi => by rw [h1 i (by omega), h2 i (by omega)]]
def clp (b a0 a1 : Int) : Int := max a0 (min a1 b)
/-- the table that is filled from the corner: how far two intervals go together -/
def xF (R C : Nat → Int) (i j : Nat) : Int := clp (SU C (j + 1)) (SU R i) (SU R (i + 1)) - clp (SU C j) (SU R i) (SU R (i + 1))
theorem xF_turn {R C : Nat → Int} {i j : Nat} (hr : 0 ≤ R i) (hc : 0 ≤ C j) : xF R C i j = xF C R j i := by
  unfold xF clp
  simp only [SU]
  omega
theorem xF_pos {R C : Nat → Int} {i j : Nat} (hr : 0 ≤ R i) (hc : 0 ≤ C j) : 0 ≤ xF R C i j := by
  unfold xF clp
  simp only [SU]
  omega
theorem xF_row {R C : Nat → Int} {i w : Nat} (hr : 0 ≤ R i) (h0 : 0 ≤ SU R i) (h1 : SU R (i + 1) ≤ SU C w) : SU (xF R C i) w = R i := by
  unfold xF
  rw [su_tel (f := fun j => clp (SU C j) (SU R i) (SU R (i + 1)))]
  unfold clp
  simp only [SU] at h1 ⊢
  omega
theorem xF_min {R C : Nat → Int} {i j : Nat} (hr : 0 ≤ R i) (hc : 0 ≤ C j) : min (SU R (i + 1) - clp (SU C j) (SU R i) (SU R (i + 1))) (SU C (j + 1) - clp (SU R i) (SU C j) (SU C (j + 1))) = xF R C i j := by
  unfold xF clp
  simp only [SU]
  omega
theorem xF_congr {R C R' C' : Nat → Int} {i j : Nat} (h1 : ∀ k, k ≤ i → R k = R' k) (h2 : ∀ k, k ≤ j → C k = C' k) : xF R C i j = xF R' C' i j := by
  unfold xF
  rw [su_congr (f := R) (g := R') (n := i) fun k hk => h1 k (by omega), su_congr (f := R) (g := R') (n := i + 1) fun k hk => h1 k (by omega), su_congr (f := C) (g := C') (n := j) fun k hk => h2 k (by omega), su_congr (f := C) (g := C') (n := j + 1) fun k hk => h2 k (by omega)]
theorem set_range {α : Type} {f : Nat → α} {n i : Nat} {v : α} : ((List.range n).map f).set i v = (List.range n).map fun k => if k = i then v else f k := by
  refine List.ext_getElem? fun k => ?_
  rw [List.getElem?_set, List.getElem?_map, List.getElem?_map, List.length_map, List.length_range]
  by_cases hk : k < n
  · rw [List.getElem?_range hk]
    by_cases e : i = k
    · subst e; simp [hk]
    · have : ¬ k = i := fun h => e h.symm
      simp [e, this]
  · rw [List.getElem?_eq_none (by rw [List.length_range]; omega)]
    by_cases e : i = k
    · subst e; simp [hk]
    · simp [e]
end VL
end
section
set_option linter.all false
set_option maxRecDepth 100000
set_option maxHeartbeats 2000000
namespace VL
open PySem L2
def reasL (h w : Nat) : List D := (List.range w).map (fun i => .tup [.str (wordS false), .int (i : Nat)]) ++ [.tup [.str "columns"]] ++ (List.range h).map (fun i => .tup [.str (wordS true), .int (i : Nat)]) ++ [.tup [.str "rows"]]
theorem undAll_app {n : Nat} {xs ys : List D} (hx : undAll n xs = true) (hy : undAll n ys = true) : undAll n (xs ++ ys) = true := by
  induction xs with
  | nil => exact hy
  | cons x xs ih =>
    simp only [undAll, Bool.and_eq_true] at hx
    simp only [List.cons_append, undAll, hx.1, ih hx.2, Bool.and_true]
theorem reasL_und {n h w : Nat} : undAll n (reasL h w) = true := undAll_app (undAll_app (undAll_app (map_und (fun _ => rfl) _) rfl) (map_und (fun _ => rfl) _)) rfl
section
variable {μ : Mu} {P : D → Mu → Prop} {s : Raw} {h w : Nat}
theorem raw_0 : Wp (opIx (rawD s) (.int 0) μ) P ↔ P (tabD s.lows) μ := by
  unfold rawD; rw [wp_ixT, show atI [tabD s.lows, tabO s.highs, spansD s.rows, spansD s.cols] 0 = some (tabD s.lows) from atI_nat' (n := 0) rfl, ex_some]
theorem raw_1 : Wp (opIx (rawD s) (.int 1) μ) P ↔ P (tabO s.highs) μ := by
  unfold rawD; rw [wp_ixT, show atI [tabD s.lows, tabO s.highs, spansD s.rows, spansD s.cols] 1 = some (tabO s.highs) from atI_nat' (n := 1) rfl, ex_some]
theorem raw_2 : Wp (opIx (rawD s) (.int 2) μ) P ↔ P (spansD s.rows) μ := by
  unfold rawD; rw [wp_ixT, show atI [tabD s.lows, tabO s.highs, spansD s.rows, spansD s.cols] 2 = some (spansD s.rows) from atI_nat' (n := 2) rfl, ex_some]
theorem raw_3 : Wp (opIx (rawD s) (.int 3) μ) P ↔ P (spansD s.cols) μ := by
  unfold rawD; rw [wp_ixT, show atI [tabD s.lows, tabO s.highs, spansD s.rows, spansD s.cols] 3 = some (spansD s.cols) from atI_nat' (n := 3) rfl, ex_some]
def needD (s : Raw) (w : Nat) (b : Bool) (i : Nat) : D := .tup [.int (needAt s w b i), .int (roomAt s w b i)]
theorem zip_range {h w : Nat} (ok : s.Ok h w) {b : Bool} : ((lineS s w b).map rowD).zip ((spanS s b).map spanD) = (List.range (many h w b)).map fun i => (rowD ((lineS s w b).getD i []), spanD (spanAt s b i)) := by
  refine List.ext_getElem? fun i => ?_
  rw [List.getElem?_map]
  by_cases hi : i < many h w b
  · rw [List.getElem?_range hi]
    rw [(List.getElem?_zip_eq_some (z := (rowD ((lineS s w b).getD i []), spanD (spanAt s b i)))).mpr ⟨by rw [List.getElem?_map, getD_some (d := []) (by rw [ok.lines]; exact hi)]; rfl, by rw [List.getElem?_map, getD_some (d := (0, 0)) (by rw [ok.spans]; exact hi)]; rfl⟩]
    rfl
  · rw [List.getElem?_eq_none (by simp [List.length_zip, ok.lines, ok.spans]; omega), List.getElem?_eq_none (by rw [List.length_range]; omega)]; rfl
end
end VL
end
section
set_option linter.all false
set_option maxRecDepth 100000
set_option maxHeartbeats 2000000
namespace VL
open PySem L2
theorem sameD_eq {t d : D} (ht : t.simple = true) : sameD t d = true ↔ d = t := by
  cases t <;> first | (simp [D.simple] at ht; done) | (cases d <;> simp [sameD, eq_comm])
theorem sameT_eq {ts : List D} {d : D} (ht : ∀ t ∈ ts, t.simple = true) : sameT ts d = true ↔ d = .tup ts := by
  constructor
  · intro h
    cases d with
    | tup ds =>
      simp only [sameT, Bool.and_eq_true, decide_eq_true_eq, List.all_eq_true, List.mem_range] at h
      refine congrArg D.tup (List.ext_getElem h.1.symm fun i h1 h2 => ?_)
      have := h.2 i h1
      rw [List.getD_eq_getElem?_getD, List.getD_eq_getElem?_getD, List.getElem?_eq_getElem h1, List.getElem?_eq_getElem h2] at this
      exact (sameD_eq (ht _ (List.getElem_mem h2))).mp this
    | _ => cases h
  · rintro rfl
    simp only [sameT, Bool.and_eq_true, decide_eq_true_eq, List.all_eq_true, List.mem_range, true_and]
    intro i hi
    rw [List.getD_eq_getElem?_getD, List.getElem?_eq_getElem hi]
    exact (sameD_eq (ht _ (List.getElem_mem hi))).mpr rfl
def isR (d : D) : D → Bool
  | .tup ts => sameT ts d
  | _ => false
theorem reasL_cases {h w : Nat} {r : D} (hr : r ∈ reasL h w) : (∃ b i, i < many h w b ∧ r = .tup [.str (wordS b), .int (i : Nat)]) ∨ r = .tup [.str "columns"] ∨ r = .tup [.str "rows"] := by
  unfold reasL at hr
  simp only [List.mem_append, List.mem_map, List.mem_range, List.mem_singleton] at hr
  rcases hr with ((⟨i, hi, rfl⟩ | rfl) | ⟨i, hi, rfl⟩) | rfl
  · exact .inl ⟨false, i, hi, rfl⟩
  · exact .inr (.inl rfl)
  · exact .inl ⟨true, i, hi, rfl⟩
  · exact .inr (.inr rfl)
theorem reasL_line {h w : Nat} {b : Bool} {i : Nat} (hi : i < many h w b) : (D.tup [.str (wordS b), .int (i : Nat)]) ∈ reasL h w := by
  unfold reasL
  simp only [List.mem_append, List.mem_map, List.mem_range, List.mem_singleton]
  cases b
  · exact .inl (.inl (.inl ⟨i, hi, rfl⟩))
  · exact .inl (.inr ⟨i, hi, rfl⟩)
theorem reasL_simple {h w : Nat} {r : D} (hr : r ∈ reasL h w) : ∃ ts, r = .tup ts ∧ ts.length ≤ 2 ∧ ∀ t ∈ ts, t.simple = true := by
  rcases reasL_cases hr with ⟨b, i, _, rfl⟩ | rfl | rfl
  · exact ⟨_, rfl, by simp, fun t ht => by
      simp at ht
      rcases ht with rfl | rfl
      · cases b <;> exact strOk_of _
      · rfl⟩
  · exact ⟨_, rfl, by simp, fun t ht => by simp at ht; subst ht; exact strOk_of _⟩
  · exact ⟨_, rfl, by simp, fun t ht => by simp at ht; subst ht; exact strOk_of _⟩
theorem reasL_dat {h w : Nat} {r : D} (hr : r ∈ reasL h w) : r.Dat ∧ r.dep ≤ 1 := by
  obtain ⟨ts, rfl, _, hs⟩ := reasL_simple hr
  have h0 : ∀ t ∈ ts, t.dep ≤ 0 := fun t ht => by have := hs t ht; cases t <;> first | exact Nat.le_refl _ | (simp [D.simple] at this)
  have h1 := depAll_of h0
  refine ⟨D.Dat.tup (fun t ht => ⟨?_, ?_, ?_⟩) (by omega), by simp only [D.dep]; omega⟩
  · have := hs t ht; cases t <;> first | rfl | (simp [D.simple] at this)
  · have := hs t ht; cases t <;> first | rfl | exact this | (simp [D.simple] at this)
  · have := h0 t ht; omega
theorem reasB_mem {s : Raw} {h w : Nat} {d : D} (hb : reasB s h w d = true) : d ∈ reasL h w := by
  unfold reasB at hb
  split at hb
  · rename_i x i
    split at hb
    · rename_i e
      subst e
      simp only [lineB, Bool.and_eq_true, decide_eq_true_eq] at hb
      have := reasL_line (h := h) (w := w) (b := true) (i := i.toNat) (by omega)
      rwa [show ((i.toNat : Nat) : Int) = i by omega] at this
    · split at hb
      · rename_i e
        subst e
        simp only [lineB, Bool.and_eq_true, decide_eq_true_eq] at hb
        have := reasL_line (h := h) (w := w) (b := false) (i := i.toNat) (by omega)
        rwa [show ((i.toNat : Nat) : Int) = i by omega] at this
      · cases hb
  · split at hb
    · rename_i e; subst e; simp [reasL]
    · split at hb
      · rename_i e; subst e; simp [reasL]
      · cases hb
  · cases hb
section
variable {μ : Mu} {P : D → Mu → Prop} {s : Raw} {h w : Nat}
end
end VL
end
section
set_option linter.all false
set_option maxRecDepth 100000
set_option maxHeartbeats 2000000
namespace VL
open PySem L2
mutual
def tupD : D → D
  | .tup xs => .tup (tupAll xs)
  | .lst xs => .tup (tupAll xs)
  | d => d
def tupAll : List D → List D
  | [] => []
  | d :: ds => tupD d :: tupAll ds
end
theorem tupAll_map : ∀ xs : List D, tupAll xs = xs.map tupD
  | [] => rfl
  | d :: ds => by rw [tupAll, tupAll_map ds]; rfl
mutual
theorem tupD_kdd : ∀ d : D, d.kdd = true → (tupD d).kdd = true
  | .non, _ => rfl
  | .bl _, _ => rfl
  | .int _, _ => rfl
  | .str _, _ => rfl
  | .tup xs, h => by unfold tupD D.kdd; exact tupAll_kdd xs (by simpa [D.kdd] using h)
  | .lst xs, h => by unfold tupD D.kdd; exact tupAll_kdd xs (by simpa [D.kdd] using h)
  | .obj c fs, h => by unfold tupD; exact h
  | .scr _, h => by simp [D.kdd] at h
  | .ty _, h => by simp [D.kdd] at h
  | .ref _, h => by simp [D.kdd] at h
  | .glob _, h => by simp [D.kdd] at h
theorem tupAll_kdd : ∀ ds : List D, kddAll ds = true → kddAll (tupAll ds) = true
  | [], _ => rfl
  | d :: ds, h => by
    simp only [kddAll, Bool.and_eq_true] at h
    simp only [tupAll, kddAll, tupD_kdd d h.1, tupAll_kdd ds h.2, Bool.and_true]
end
mutual
theorem tupD_plain : ∀ d : D, d.plain = true → (tupD d).plain = true
  | .non, _ => rfl
  | .bl _, _ => rfl
  | .int _, _ => rfl
  | .str _, h => h
  | .tup xs, h => by unfold tupD D.plain; exact tupAll_plain xs (by simpa [D.plain] using h)
  | .lst xs, h => by unfold tupD D.plain; exact tupAll_plain xs (by simpa [D.plain] using h)
  | .obj c fs, h => by simp [D.plain] at h
  | .scr _, h => by simp [D.plain] at h
  | .ty _, h => by simp [D.plain] at h
  | .ref _, h => by simp [D.plain] at h
  | .glob _, h => by simp [D.plain] at h
theorem tupAll_plain : ∀ ds : List D, plainAll ds = true → plainAll (tupAll ds) = true
  | [], _ => rfl
  | d :: ds, h => by
    simp only [plainAll, Bool.and_eq_true] at h
    simp only [tupAll, plainAll, tupD_plain d h.1, tupAll_plain ds h.2, Bool.and_true]
end
mutual
theorem tupD_dep : ∀ d : D, (tupD d).dep = d.dep
  | .non => rfl
  | .bl _ => rfl
  | .int _ => rfl
  | .str _ => rfl
  | .tup xs => by simp only [tupD, D.dep, tupAll_dep xs]
  | .lst xs => by simp only [tupD, D.dep, tupAll_dep xs]
  | .obj c fs => rfl
  | .scr _ => rfl
  | .ty _ => rfl
  | .ref _ => rfl
  | .glob _ => rfl
theorem tupAll_dep : ∀ ds : List D, depAll (tupAll ds) = depAll ds
  | [] => rfl
  | d :: ds => by simp only [tupAll, depAll, tupD_dep d, tupAll_dep ds]
end
theorem D.Dat.tupd {d : D} (h : d.Dat) : (tupD d).Dat := ⟨tupD_kdd d h.kdd, tupD_plain d h.plain, by rw [tupD_dep]; exact h.dep⟩
section
variable {μ : Mu} {P : D → Mu → Prop}
def cornerO (d : D) : D := .obj "Corner" [("table", d)]
def unevenO (d : D) : D := .obj "Uneven" [("reason", d)]
end
end VL
end
section
set_option linter.all false
set_option maxRecDepth 100000
set_option maxHeartbeats 2000000
namespace VL
open PySem L2
def cellD (c : Nat × Nat) : D := .tup [.int (c.1 : Nat), .int (c.2 : Nat)]
def cells (h w : Nat) : List (Nat × Nat) := (List.range h).flatMap fun i => (List.range w).map fun j => (i, j)
theorem cells_succ (h w : Nat) : cells (h + 1) w = cells h w ++ (List.range w).map fun j => (h, j) := by
  unfold cells; rw [List.range_succ, List.flatMap_append]; simp
theorem cells_len (h w : Nat) : (cells h w).length = h * w := by
  induction h with
  | zero => simp [cells]
  | succ h ih => rw [cells_succ, List.length_append, ih, List.length_map, List.length_range, Nat.succ_mul]
theorem cells_mem {h w : Nat} {c : Nat × Nat} (hc : c ∈ cells h w) : c.1 < h ∧ c.2 < w := by
  unfold cells at hc
  simp only [List.mem_flatMap, List.mem_map, List.mem_range] at hc
  obtain ⟨i, hi, j, hj, rfl⟩ := hc
  exact ⟨hi, hj⟩
section
variable {μ : Mu} {P : D → Mu → Prop} {s : Raw} {h w : Nat}
theorem end_lst {xs : List D} : lstOf (μ ++ [.lst xs]) (.ref μ.length) = some xs := by
  show (match (μ ++ [MO.lst xs])[μ.length]? with
    | some (.lst xs) => some xs
    | _ => none) = some xs
  rw [List.getElem?_concat_length]
theorem end_extend {xs ys : List D} : Wp (mExtend (.ref μ.length) (.lst ys) (μ ++ [.lst xs])) P ↔ xs.length + ys.length ≤ 16777216 ∧ P .non (μ ++ [.lst (xs ++ ys)]) := by
  unfold mExtend
  simp only []
  rw [List.getElem?_concat_length]
  simp only [lstOf]
  rw [wp_ite]
  simp
theorem keeps_end {o : MO} : Keeps μ (μ ++ [o]) := fun n x h e => .inl (by rwa [List.getElem?_append_left h] at e)
end
end VL
end
section
set_option linter.all false
set_option maxRecDepth 100000
set_option maxHeartbeats 2000000
namespace VL
open PySem L2
section
variable {μ : Mu} {P : D → Mu → Prop} {s : Raw} {h w : Nat}
end
end VL
end
section
set_option linter.all false
set_option maxRecDepth 100000
set_option maxHeartbeats 2000000
namespace VL
open PySem L2
def WclB (μ : Mu) (d : D) (μ' : Mu) (P : D → Mu → Prop) : Prop := ∃ e μ2, closeB μ d μ' = some (.ok e μ2) ∧ P e μ2
theorem closeX_no {μ μ' : Mu} {e : Ex} {P : D → Mu → Prop} : ¬∃ y μ1, closeX μ e μ' = some (.ok y μ1) ∧ P y μ1 := by
  rintro ⟨y, μ1, h, _⟩
  unfold closeX at h
  split at h
  · split at h <;> cases h
  · cases h
theorem wf_defB {n : Nat} {b : VS} {ds : List D} {μ : Mu} {P : D → Mu → Prop} : Wf (runDefB n b) ds μ P ↔ Ws b (ds.map some ++ List.replicate (n - ds.length) none) μ ⟨fun _ _ => False, fun d μ' => WclB μ d μ' P, fun _ _ => False, fun _ _ => False⟩ := by
  unfold Wf runDefB Ws
  cases h : b (ds.map some ++ List.replicate (n - ds.length) none) μ with
  | none => simp [Wfl]
  | some f =>
    cases f with
    | nx ρ μ' => simp [Wfl]
    | rt d μ' => exact Iff.rfl
    | bk ρ μ' => simp [Wfl]
    | ct ρ μ' => simp [Wfl]
    | er ρ e μ' => exact ⟨fun h => closeX_no h, fun h => h.elim⟩
section
variable {μ : Mu} {P : D → Mu → Prop} {s : Raw} {h w : Nat}
theorem wclB_end {o : MO} (hu : o.und μ.length = true) (q : P (.ref μ.length) (μ ++ [o])) : WclB μ (.ref μ.length) (μ ++ [o]) P := by
  refine ⟨_, _, ?_, q⟩
  unfold closeB
  rw [if_pos ⟨keeps_end, by simp⟩]
  unfold handOn
  simp only []
  rw [if_pos (Nat.le_refl _), List.getElem?_concat_length]
  simp only []
  rw [if_pos hu, List.take_left]
end
end VL
end
section
set_option linter.all false
set_option maxRecDepth 100000
set_option maxHeartbeats 2000000
namespace VL
open PySem L2
theorem for_search {α : Type} {w : Wk} {g : VG} {s : VS} {E : Ed} {μ : Mu} {ι : α → D} (bad : α → Bool) (J : Ro → Prop) (hw : w.holds μ) {as : List α}
    (step : ∀ a ∈ as, ∀ ρ, J ρ → Wg g (ι a) ρ μ fun ρ1 μ1 => Ws s ρ1 μ1 ⟨fun ρ2 μ2 => bad a = false ∧ J ρ2 ∧ μ2 = μ, E.rt, fun _ _ => False, fun ρ2 μ2 => bad a = false ∧ J ρ2 ∧ μ2 = μ⟩)
    (fin : (∀ a ∈ as, bad a = false) → ∀ ρ, J ρ → E.nx ρ μ) {ρ : Ro} (h0 : J ρ) : Ws (forL w g s (as.map ι)) ρ μ E := by
  refine for_inv (fun rem ρ μ' => ∃ k, rem = (as.drop k).map ι ∧ k ≤ as.length ∧ J ρ ∧ μ' = μ ∧ ∀ a ∈ as.take k, bad a = false) ?_ ?_ _ _ _ ⟨0, by simp, by simp, h0, rfl, by simp⟩
  · rintro x rem ρ μ' ⟨k, hr, hk, hJ, rfl, hb⟩
    refine ⟨hw, ?_⟩
    have hkl : k < as.length := by
      by_cases h : k < as.length
      · exact h
      · rw [List.drop_eq_nil_of_le (by omega)] at hr; cases hr
    rw [List.drop_eq_getElem_cons hkl, List.map_cons] at hr
    injection hr with e1 e2
    subst e1
    obtain ⟨ρ1, μ1, h1, h2⟩ := step _ (List.getElem_mem hkl) ρ hJ
    refine ⟨ρ1, μ1, h1, ?_⟩
    have nxt : ∀ ρ2 μ2, (bad as[k] = false ∧ J ρ2 ∧ μ2 = μ') → ∃ k, rem = (as.drop k).map ι ∧ k ≤ as.length ∧ J ρ2 ∧ μ2 = μ' ∧ ∀ a ∈ as.take k, bad a = false := fun ρ2 μ2 ⟨b1, b2, b3⟩ => ⟨k + 1, e2, hkl, b2, b3, fun a ha => by
      rw [List.take_succ_eq_append_getElem hkl, List.mem_append, List.mem_singleton] at ha
      rcases ha with ha | rfl
      · exact hb a ha
      · exact b1⟩
    show Ws s ρ1 μ1 _
    unfold Ws at h2 ⊢
    cases hs : s ρ1 μ1 with
    | none => rw [hs] at h2; exact h2.elim
    | some f =>
      rw [hs] at h2
      cases f with
      | nx ρ2 μ2 => exact nxt _ _ h2
      | rt d μ2 => exact h2
      | bk ρ2 μ2 => exact h2.elim
      | ct ρ2 μ2 => exact nxt _ _ h2
      | er _ _ _ => exact h2.elim
  · rintro ρ μ' ⟨k, hr, hk, hJ, rfl, hb⟩
    have : as.length ≤ k := by
      by_cases h : k < as.length
      · rw [List.drop_eq_getElem_cons h] at hr; cases hr
      · omega
    rw [List.take_of_length_le this] at hb
    exact ⟨hw, fin hb ρ hJ⟩
def cellV (t : List (List Int)) (c : Nat × Nat) : Int := (t.getD c.1 []).getD c.2 0
def highV (s : Raw) (c : Nat × Nat) : Option Int := (s.highs.getD c.1 []).getD c.2 none
def inHigh (x : Int) : Option Int → Bool
  | none => true
  | some m => decide (x ≤ m)
def withinB (s : Raw) (t : List (List Int)) (c : Nat × Nat) : Bool := decide (cellV s.lows c ≤ cellV t c) && inHigh (cellV t c) (highV s c)
def inSpanB (n : Int) (a : Int × Int) : Bool := decide (a.1 ≤ n) && decide (n ≤ a.2)
def linesOf (w : Nat) (t : List (List Int)) (b : Bool) : List (List Int) := if b then t else turn w t
def lineAt (w : Nat) (t : List (List Int)) (b : Bool) (i : Nat) : Int := ((linesOf w t b).getD i []).sum
def linesB (s : Raw) (h w : Nat) (t : List (List Int)) (b : Bool) : Bool := (List.range (many h w b)).all fun i => inSpanB (lineAt w t b i) (spanAt s b i)
def fillB (s : Raw) (h w : Nat) (t : List (List Int)) : Bool := (cells h w).all (withinB s t) && (linesB s h w t true && linesB s h w t false)
theorem enum_sums {L : List (List Int)} {n : Nat} (hl : L.length = n) : (L.map fun r => D.int r.sum).zipIdx.map (fun p => D.tup [.int (p.2 : Nat), p.1]) = (List.range n).map fun i => D.tup [.int (i : Nat), .int (L.getD i []).sum] := by
  have := enum_range (ns := L.map List.sum) (n := n) (by rw [List.length_map, hl])
  rw [List.map_map] at this
  rw [show (fun r : List Int => D.int r.sum) = D.int ∘ List.sum from rfl, this]
  refine List.map_congr_left fun i hi => ?_
  have hi := List.mem_range.mp hi
  rw [List.getD_eq_getElem?_getD, List.getElem?_map, getD_some (d := []) (as := L) (by omega)]
  rfl
theorem linesOf_len {h w : Nat} {t : List (List Int)} (ht : IsT h w t) {b : Bool} : (linesOf w t b).length = many h w b := by
  cases b
  · simp [linesOf, many, turn]
  · exact ht.1
section
variable {μ : Mu} {P : D → Mu → Prop} {s : Raw} {h w : Nat} {t : List (List Int)}
theorem cell_row (ht : IsT h w t) {c : Nat × Nat} (hc : c.1 < h ∧ c.2 < w) : ∃ r, t[c.1]? = some r ∧ r[c.2]? = some (cellV t c) := by
  have h1 := getD_some (d := []) (as := t) (i := c.1) (by rw [ht.1]; exact hc.1)
  refine ⟨_, h1, ?_⟩
  exact getD_some (d := 0) (by rw [ht.2 _ (List.mem_of_getElem? h1)]; exact hc.2)
theorem high_row (ok : s.Ok h w) {c : Nat × Nat} (hc : c.1 < h ∧ c.2 < w) : ∃ r, s.highs[c.1]? = some r ∧ r[c.2]? = some (highV s c) := by
  have h1 := getD_some (d := []) (as := s.highs) (i := c.1) (by rw [ok.hl]; exact hc.1)
  refine ⟨_, h1, ?_⟩
  exact getD_some (d := none) (by rw [ok.hw _ (List.mem_of_getElem? h1)]; exact hc.2)
theorem law_in_w {x lo : Int} {hi : Option Int} (q : P (.bl (decide (lo ≤ x) && inHigh x hi)) μ) : Wf f_law_in [.int x, .int lo, optD hi] μ P := by
  unfold f_law_in
  rw [wf_def]
  by_cases h1 : lo ≤ x
  · cases hi with
    | none => simp [h1, optD, inHigh] at q ⊢; exact wcl_same rfl q
    | some m => simp [h1, optD, inHigh] at q ⊢; exact wcl_same rfl q
  · simp [h1] at q ⊢; exact wcl_same rfl q
end
end VL
end
section
set_option linter.all false
set_option maxRecDepth 100000
set_option maxHeartbeats 2000000
namespace VL
open PySem L2
def isTabB (h w : Nat) : D → Bool
  | .tup rows => decide (rows.length = h) && rows.all (numsD w)
  | _ => false
def intOf : D → Int
  | .int n => n
  | _ => 0
def rowOf : D → List Int
  | .tup xs => xs.map intOf
  | _ => []
def tabOf : D → List (List Int)
  | .tup xs => xs.map rowOf
  | _ => []
theorem nums_ex : ∀ {xs : List D}, xs.all numD = true → xs = (xs.map intOf).map D.int ∧ ∀ n ∈ xs.map intOf, 0 ≤ n
  | [], _ => ⟨rfl, by simp⟩
  | x :: xs, h => by
    simp only [List.all_cons, Bool.and_eq_true] at h
    obtain ⟨e, p⟩ := nums_ex h.2
    cases x with
    | int n =>
      refine ⟨?_, ?_⟩
      · simp only [List.map_cons, intOf]; rw [← e]
      · intro m hm
        simp only [List.map_cons, List.mem_cons, intOf] at hm
        rcases hm with rfl | hm
        · simpa [numD] using h.1
        · exact p m hm
    | _ => simp [numD] at h
theorem nums_row {w : Nat} {d : D} (h : numsD w d = true) : d = rowD (rowOf d) ∧ (rowOf d).length = w ∧ ∀ n ∈ rowOf d, 0 ≤ n := by
  cases d with
  | tup xs =>
    simp only [numsD, Bool.and_eq_true, decide_eq_true_eq] at h
    obtain ⟨e, p⟩ := nums_ex h.2
    exact ⟨by unfold rowD rowOf; rw [← e], by simp only [rowOf, List.length_map]; omega, p⟩
  | _ => simp [numsD] at h
theorem isTab_ex {h w : Nat} {d : D} (hd : isTabB h w d = true) : d = tabD (tabOf d) ∧ IsT h w (tabOf d) ∧ ∀ r ∈ tabOf d, ∀ n ∈ r, 0 ≤ n := by
  cases d with
  | tup xs =>
    simp only [isTabB, Bool.and_eq_true, decide_eq_true_eq, List.all_eq_true] at hd
    refine ⟨?_, ⟨by simp only [tabOf, List.length_map]; exact hd.1, fun r hr => ?_⟩, fun r hr => ?_⟩
    · unfold tabD tabOf
      rw [List.map_map]
      conv => lhs; rw [← List.map_id xs]
      refine congrArg D.tup (List.map_congr_left fun x hx => ?_)
      exact (nums_row (hd.2 x hx)).1
    · simp only [tabOf, List.mem_map] at hr
      obtain ⟨x, hx, rfl⟩ := hr
      exact (nums_row (hd.2 x hx)).2.1
    · simp only [tabOf, List.mem_map] at hr
      obtain ⟨x, hx, rfl⟩ := hr
      exact (nums_row (hd.2 x hx)).2.2
  | _ => simp [isTabB] at hd
section
variable {μ : Mu} {P : D → Mu → Prop} {s : Raw} {h w : Nat} {t : List (List Int)}
theorem filt_all {xs : List D} : (xs.filter fun x => !numD x).isEmpty = xs.all numD := by
  rw [Bool.eq_iff_iff, List.isEmpty_iff, List.filter_eq_nil_iff, List.all_eq_true]; simp
theorem for_searchD {w : Wk} {g : VG} {s : VS} {E : Ed} {μ : Mu} {xs : List D} (bad : D → Bool) (J : Ro → Prop) (hw : w.holds μ)
    (step : ∀ a ∈ xs, ∀ ρ, J ρ → Wg g a ρ μ fun ρ1 μ1 => Ws s ρ1 μ1 ⟨fun ρ2 μ2 => bad a = false ∧ J ρ2 ∧ μ2 = μ, E.rt, fun _ _ => False, fun ρ2 μ2 => bad a = false ∧ J ρ2 ∧ μ2 = μ⟩)
    (fin : (∀ a ∈ xs, bad a = false) → ∀ ρ, J ρ → E.nx ρ μ) {ρ : Ro} (h0 : J ρ) : Ws (forL w g s xs) ρ μ E := by
  have := for_search (ι := id) (as := xs) bad J hw step fin h0
  rwa [List.map_id] at this
end
end VL
end
section
set_option linter.all false
set_option maxRecDepth 100000
set_option maxHeartbeats 2000000
namespace VL
open PySem L2
theorem lookT {β : Type} {f g : Str} {v : β} {fs : List (Str × β)} (h : (f == g) = false) : ((g, v) :: fs).lookup f = fs.lookup f := by simp [List.lookup, h]
theorem lookH {β : Type} {f : Str} {v : β} {fs : List (Str × β)} : ((f, v) :: fs).lookup f = some v := by simp [List.lookup]
section
variable {μ : Mu} {P : D → Mu → Prop}
theorem own_obj {tab : List (Str × VF)} {nf : Str → Ty → Bool} {g : D → D → Mu → Option (D × Mu)} {c : Str} {fs : List (Str × D)} {e : D} {f : VF} {t : Ty} (h1 : tab.lookup c = some f) (h2 : tyD μ e = some t) (h3 : nf c t = true)
    (q : Wf f [.obj c fs, e] μ fun d μ' => ∃ b, d = .bl b ∧ P (.bl b) μ') : Wp (opOwn tab nf g (.obj c fs) e μ) P := by
  obtain ⟨d, μ', e1, b, rfl, q⟩ := q
  refine ⟨.bl b, μ', ?_, q⟩
  unfold opOwn
  simp only [h1, h2, h3, e1, if_true]
theorem obj_kd {c : Str} {fs : List (Str × D)} (h : c ∈ lawCls) : (D.obj c fs).kd = true := by simp [D.kd, h]
theorem nf_cls {c x : Str} (h1 : c ∈ lawCls) (h2 : x ∈ lawCls) : nfT c (.c x) = true := by
  unfold nfT nfL; simp [h1, h2]
end
end VL
end
section
set_option linter.all false
set_option maxRecDepth 100000
set_option maxHeartbeats 2000000
namespace VL
open PySem L2
section
variable {μ : Mu} {P : D → Mu → Prop} {s : Raw} {h w : Nat}
theorem end_set {xs : List D} {i : Int} {d : D} : setAt (.ref μ.length) (.int i) d (μ ++ [.lst xs]) = (ixN xs.length i).map fun j => μ ++ [.lst (xs.set j d)] := by
  unfold setAt
  simp only []
  rw [List.getElem?_concat_length]
  simp only []
  refine congrArg (fun f => Option.map f (ixN xs.length i)) (funext fun j => ?_)
  simp
theorem end_seq {xs : List D} : seqOf (μ ++ [.lst xs]) (.ref μ.length) = some xs := end_lst
end
end VL
end
section
set_option linter.all false
set_option maxRecDepth 100000
set_option maxHeartbeats 2000000
namespace VL
open PySem L2
def rowL (r : List Int) : MO := .lst (r.map D.int)
def refs (n h : Nat) : List D := (List.range h).map fun i => D.ref (n + i)
/-- a live table of live rows, laid behind μ -/
def Gr (μ : Mu) (t : List (List Int)) : Mu := μ ++ (t.map rowL ++ [.lst (refs μ.length t.length)])
theorem refs_succ (n h : Nat) : refs n (h + 1) = refs n h ++ [.ref (n + h)] := by unfold refs; rw [List.range_succ, List.map_append]; rfl
theorem gr_at {μ : Mu} {t : List (List Int)} {i : Nat} {r : List Int} (h : t[i]? = some r) : (Gr μ t)[μ.length + i]? = some (rowL r) := by
  have hi := (List.getElem?_eq_some_iff.mp h).1
  unfold Gr
  rw [List.getElem?_append_right (by omega), Nat.add_sub_cancel_left, List.getElem?_append_left (by rw [List.length_map]; exact hi), List.getElem?_map, h]; rfl
theorem gr_head {μ : Mu} {t : List (List Int)} : (Gr μ t)[μ.length + t.length]? = some (.lst (refs μ.length t.length)) := by
  unfold Gr
  rw [List.getElem?_append_right (by omega), Nat.add_sub_cancel_left, List.getElem?_append_right (by rw [List.length_map]; exact Nat.le_refl _), List.length_map, Nat.sub_self]; rfl
theorem gr_old {μ : Mu} {t : List (List Int)} {k : Nat} (h : k < μ.length) : (Gr μ t)[k]? = μ[k]? := by
  unfold Gr; rw [List.getElem?_append_left h]
theorem gr_len {μ : Mu} {t : List (List Int)} : (Gr μ t).length = μ.length + t.length + 1 := by
  unfold Gr; simp; omega
theorem gr_take {μ : Mu} {t : List (List Int)} : (Gr μ t).take μ.length = μ := by unfold Gr; rw [List.take_left]
theorem gr_keeps {μ : Mu} {t : List (List Int)} : Keeps μ (Gr μ t) := fun i o h e => .inl (by rwa [gr_old h] at e)
theorem set_old {μ : Mu} {k : Nat} {o : MO} {tl : Mu} (h : k < μ.length) : (μ ++ tl).set k o = μ.set k o ++ tl := by
  rw [List.set_append, if_pos h]
theorem gr_set_old {μ : Mu} {t : List (List Int)} {k : Nat} {o : MO} (h : k < μ.length) : (Gr μ t).set k o = Gr (μ.set k o) t := by
  unfold Gr; rw [set_old h, List.length_set]
theorem gr_set_row {μ : Mu} {t : List (List Int)} {i : Nat} {r : List Int} (h : i < t.length) : (Gr μ t).set (μ.length + i) (rowL r) = Gr μ (t.set i r) := by
  unfold Gr
  rw [List.set_append, if_neg (by omega), Nat.add_sub_cancel_left, List.set_append, if_pos (by rw [List.length_map]; exact h), List.length_set, List.map_set]
theorem lstOf_at {μ : Mu} {k : Nat} {xs : List D} (h : μ[k]? = some (.lst xs)) : lstOf μ (.ref k) = some xs := by simp only [lstOf, h]
theorem seqOf_at {μ : Mu} {k : Nat} {xs : List D} (h : μ[k]? = some (.lst xs)) : seqOf μ (.ref k) = some xs := by show lstOf μ (.ref k) = _; exact lstOf_at h
theorem setAt_at {μ : Mu} {k : Nat} {xs : List D} {i : Int} {d : D} (h : μ[k]? = some (.lst xs)) : setAt (.ref k) (.int i) d μ = (ixN xs.length i).map fun j => μ.set k (.lst (xs.set j d)) := by
  simp only [setAt, h]
section
variable {μ : Mu} {P : D → Mu → Prop} {t : List (List Int)}
theorem gr_ix {i : Nat} (h : i < t.length) : Wp (opIx (.ref (μ.length + t.length)) (.int (i : Int)) (Gr μ t)) P ↔ P (.ref (μ.length + i)) (Gr μ t) := by
  rw [wp_ix (seqOf_at gr_head), atI_nat' (n := i) (d := .ref (μ.length + i)) (by unfold refs; rw [List.getElem?_map, List.getElem?_range h]; rfl), ex_some]
theorem gr_cell {i j : Nat} {r : List Int} {v : Int} (h : t[i]? = some r) (hv : r[j]? = some v) : Wp (opIx (.ref (μ.length + i)) (.int (j : Int)) (Gr μ t)) P ↔ P (.int v) (Gr μ t) := by
  rw [wp_ix (seqOf_at (gr_at h)), atI_nat' (n := j) (d := .int v) (by rw [List.getElem?_map, hv]; rfl), ex_some]
theorem gr_put {i j : Nat} {r : List Int} {v : Int} (h : t[i]? = some r) (hj : j < r.length) : setAt (.ref (μ.length + i)) (.int (j : Int)) (.int v) (Gr μ t) = some (Gr μ (t.set i (r.set j v))) := by
  rw [setAt_at (gr_at h), ixN_pos (by omega) (by rw [List.length_map]; omega), Option.map_some, Int.toNat_natCast]
  have : MO.lst ((r.map D.int).set j (.int v)) = rowL (r.set j v) := by unfold rowL; rw [List.map_set]
  rw [this, gr_set_row (List.getElem?_eq_some_iff.mp h).1]
/-- the rows of a table are laid live -/
theorem grid_new {g : VG} {tt : VT} {e : VE} {ρ : Ro} {vs : List Nat} {w : Wk} {Q : List D → Mu → Prop} (hw : ∀ μ, w.holds μ)
    (h : ∀ r ∈ t, ∀ (μ' : Mu) (Q : D → Mu → Prop), Q (.ref μ'.length) (μ' ++ [rowL r]) → Wg g (rowD r) (wipe ρ vs) μ' fun ρ1 μ1 => Wt tt ρ1 μ1 fun b μ2 => b = true ∧ We e ρ1 μ2 Q)
    (q : Q (refs μ.length t.length) (μ ++ t.map rowL)) : Wl (compL w g tt e ρ vs (t.map rowD) [] μ) Q := by
  refine comp_inv (fun rem acc μ' => ∃ j, j + rem.length = t.length ∧ rem = (t.drop j).map rowD ∧ acc = refs μ.length j ∧ μ' = μ ++ (t.take j).map rowL) ?_ ?_ _ [] μ ⟨0, by simp, by simp, rfl, by simp⟩
  · rintro x rem acc μ' ⟨j, hj, hr, rfl, rfl⟩
    refine ⟨hw _, ?_⟩
    have hjt : j < t.length := by simp at hj; omega
    rw [List.drop_eq_getElem_cons hjt, List.map_cons] at hr
    injection hr with e1 e2
    subst e1
    obtain ⟨ρ1, μ1, h1, b, μ2, h2, rfl, h3⟩ := h t[j] (List.getElem_mem hjt) (μ ++ (t.take j).map rowL) (fun d μ3 => ∃ k, k + rem.length = t.length ∧ rem = (t.drop k).map rowD ∧ refs μ.length j ++ [d] = refs μ.length k ∧ μ3 = μ ++ (t.take k).map rowL) ⟨j + 1, by simp at hj; omega, e2, by
      rw [refs_succ, List.length_append, List.length_map, List.length_take, Nat.min_eq_left (Nat.le_of_lt hjt)], by
      rw [List.take_succ_eq_append_getElem hjt, List.map_append, List.append_assoc]; rfl⟩
    exact ⟨ρ1, μ1, h1, true, μ2, h2, h3⟩
  · rintro acc μ' ⟨j, hj, hr, rfl, rfl⟩
    have : j = t.length := by simpa using hj
    subst this
    rw [List.take_length]
    exact ⟨hw _, q⟩
/-- the rows are read off -/
theorem grid_end {g : VG} {tt : VT} {e : VE} {ρ : Ro} {vs : List Nat} {Q : List D → Mu → Prop}
    (h : ∀ i r, t[i]? = some r → Wg g (.ref (μ.length + i)) (wipe ρ vs) (Gr μ t) fun ρ1 μ1 => Wt tt ρ1 μ1 fun b μ2 => b = true ∧ We e ρ1 μ2 fun d μ3 => d = rowD r ∧ μ3 = Gr μ t)
    (q : Q (t.map rowD) (Gr μ t)) : Wl (compL ⟨[(μ.length + t.length, refs μ.length t.length)], refs μ.length t.length⟩ g tt e ρ vs (refs μ.length t.length) [] (Gr μ t)) Q := by
  unfold refs
  refine comp_mapA (fun i => rowD (t.getD i [])) ?_ (fun i hi => ?_) ?_
  · intro p hp
    simp only [List.mem_singleton] at hp
    subst hp
    exact gr_head
  · have hi := List.mem_range.mp hi
    exact h i _ (getD_some (d := []) hi)
  · rw [List.nil_append, ← map_range (d := []) rowD]; exact q
end
end VL
end
section
set_option linter.all false
set_option maxRecDepth 100000
set_option maxHeartbeats 2000000
namespace VL
open PySem L2
structure NoReas (s : Raw) (h w : Nat) : Prop where
  room : ∀ b i, i < many h w b → 0 ≤ roomAt s w b i
  sum : ∀ b, needSum s h w b ≤ roomSum s h w (!b)
def reasV (s : Raw) (h w : Nat) : D := ((reasL h w).filter (reasB s h w)).headD .non
def totF (s : Raw) (h w : Nat) : Int := max (needSum s h w true) (needSum s h w false)
def amF (s : Raw) (h w : Nat) (b : Bool) : Nat → Int := amtF (needAt s w b) (roomAt s w b) (totF s h w - needSum s h w b)
theorem needSum_su {s : Raw} {h w : Nat} {b : Bool} : needSum s h w b = SU (needAt s w b) (many h w b) := su_list _ _
theorem roomSum_su {s : Raw} {h w : Nat} {b : Bool} : roomSum s h w b = SU (roomAt s w b) (many h w b) := su_list _ _
section
variable {s : Raw} {h w : Nat}
theorem spanAt_ok (ok : s.Ok h w) {b : Bool} {i : Nat} (hi : i < many h w b) : 0 ≤ (spanAt s b i).1 ∧ (spanAt s b i).1 ≤ (spanAt s b i).2 ∧ (spanAt s b i).2 ≤ (spanAt s b i).1 + 1000 := by
  have hg := getD_some (d := (0, 0)) (as := spanS s b) (i := i) (by rw [ok.spans]; exact hi)
  have hm := List.mem_of_getElem? hg
  cases b
  · exact ok.co _ hm
  · exact ok.ro _ hm
theorem need_room (ok : s.Ok h w) (n : NoReas s h w) {b : Bool} {i : Nat} (hi : i < many h w b) : 0 ≤ needAt s w b i ∧ needAt s w b i ≤ roomAt s w b i := by
  have h1 := spanAt_ok ok hi
  have h2 := n.room b i hi
  unfold needAt roomAt at *
  omega
theorem tot_le (ok : s.Ok h w) (n : NoReas s h w) (b : Bool) : needSum s h w b ≤ totF s h w ∧ totF s h w ≤ roomSum s h w b := by
  have h1 : ∀ b, needSum s h w b ≤ roomSum s h w b := fun b => by
    rw [needSum_su, roomSum_su]
    exact su_mono fun i hi => (need_room ok n hi).2
  have h2 := n.sum (!b)
  rw [Bool.not_not] at h2
  have h3 := h1 b
  unfold totF
  cases b <;> (simp only [Bool.not_false, Bool.not_true] at h2; omega)
theorem am_sum (ok : s.Ok h w) (n : NoReas s h w) (b : Bool) : SU (amF s h w b) (many h w b) = totF s h w := by
  obtain ⟨h1, h2⟩ := tot_le ok n b
  unfold amF
  rw [amtF_sum (by omega), ← needSum_su, su_sub, ← needSum_su, ← roomSum_su]
  omega
theorem am_le (ok : s.Ok h w) (n : NoReas s h w) {b : Bool} {i : Nat} (hi : i < many h w b) : needAt s w b i ≤ amF s h w b i ∧ amF s h w b i ≤ roomAt s w b i := amtF_le (need_room ok n hi).2
theorem am_pos (ok : s.Ok h w) (n : NoReas s h w) {b : Bool} {i : Nat} (hi : i < many h w b) : 0 ≤ amF s h w b i := by
  have := am_le ok n hi
  have := need_room ok n hi
  omega
theorem reasB_row {b : Bool} : reasB s h w (.tup [.str (if b then "rows" else "columns")]) = decide (needSum s h w b > roomSum s h w (!b)) := by
  cases b <;> simp [reasB]
theorem reasV_cases : (reasV s h w = .non ∧ ∀ r ∈ reasL h w, reasB s h w r = false) ∨ (reasV s h w ∈ reasL h w ∧ reasB s h w (reasV s h w) = true) := by
  unfold reasV
  cases hf : List.filter (reasB s h w) (reasL h w) with
  | nil =>
    left
    refine ⟨rfl, fun r hr => ?_⟩
    have := List.filter_eq_nil_iff.mp hf r hr
    simpa using this
  | cons r rs =>
    right
    have hm : r ∈ List.filter (reasB s h w) (reasL h w) := by rw [hf]; simp
    exact List.mem_filter.mp hm
theorem noReas_of (hv : ∀ r ∈ reasL h w, reasB s h w r = false) : NoReas s h w := by
  constructor
  · intro b i hi
    have := hv _ (reasL_line hi)
    rw [reasB_line] at this
    unfold lineB at this
    rw [decide_eq_true (show 0 ≤ (i : Int) ∧ (i : Int) < many h w b by omega), Bool.true_and, Int.toNat_natCast] at this
    have := of_decide_eq_false this
    omega
  · intro b
    have hm : D.tup [.str (if b then "rows" else "columns")] ∈ reasL h w := by
      unfold reasL
      cases b <;> simp
    have := hv _ hm
    rw [reasB_row] at this
    have := of_decide_eq_false this
    omega
theorem reas_of (n : NoReas s h w) : ∀ r ∈ reasL h w, reasB s h w r = false := by
  intro r hr
  rcases reasL_cases hr with ⟨b, i, hi, rfl⟩ | rfl | rfl
  · rw [reasB_line]
    unfold lineB
    have := n.room b i hi
    rw [decide_eq_false (p := roomAt s w b (i : Int).toNat < 0) (by rw [Int.toNat_natCast]; omega), Bool.and_false]
  · have := n.sum false
    rw [show (D.tup [.str "columns"] : D) = .tup [.str (if false then "rows" else "columns")] from rfl, reasB_row]
    exact decide_eq_false (by omega)
  · have := n.sum true
    rw [show (D.tup [.str "rows"] : D) = .tup [.str (if true then "rows" else "columns")] from rfl, reasB_row]
    exact decide_eq_false (by omega)
theorem reasV_non (n : NoReas s h w) : reasV s h w = .non := by
  rcases reasV_cases (s := s) (h := h) (w := w) with ⟨e, _⟩ | ⟨h1, h2⟩
  · exact e
  · rw [reas_of n _ h1] at h2; cases h2
theorem reasV_some (n : ¬NoReas s h w) : reasV s h w ∈ reasL h w := by
  rcases reasV_cases (s := s) (h := h) (w := w) with ⟨_, e⟩ | ⟨h1, h2⟩
  · exact absurd (noReas_of e) n
  · exact h1
end
section
variable {μ : Mu} {P : D → Mu → Prop} {s : Raw} {h w : Nat}
end
end VL
end
section
set_option linter.all false
set_option maxRecDepth 100000
set_option maxHeartbeats 2000000
namespace VL
open PySem L2
def tabF (f : Nat → Nat → Int) (h w : Nat) : List (List Int) := (List.range h).map fun i => (List.range w).map (f i)
theorem tabF_isT {f : Nat → Nat → Int} {h w : Nat} : IsT h w (tabF f h w) := ⟨by simp [tabF], fun r hr => by
  obtain ⟨i, _, rfl⟩ := List.mem_map.mp hr
  simp⟩
theorem tabF_get {f : Nat → Nat → Int} {h w i : Nat} (hi : i < h) : (tabF f h w)[i]? = some ((List.range w).map (f i)) := by
  unfold tabF; rw [List.getElem?_map, List.getElem?_range hi]; rfl
theorem tabF_cell {f : Nat → Nat → Int} {h w i j : Nat} (hi : i < h) (hj : j < w) : cellV (tabF f h w) (i, j) = f i j := by
  show ((tabF f h w).getD i []).getD j 0 = f i j
  rw [show (tabF f h w).getD i [] = (List.range w).map (f i) by rw [List.getD_eq_getElem?_getD, tabF_get hi]; rfl, List.getD_eq_getElem?_getD, List.getElem?_map, List.getElem?_range hj]; rfl
theorem tabF_congr {f g : Nat → Nat → Int} {h w : Nat} (e : ∀ i j, i < h → j < w → f i j = g i j) : tabF f h w = tabF g h w := List.map_congr_left fun i hi => List.map_congr_left fun j hj => e i j (List.mem_range.mp hi) (List.mem_range.mp hj)
theorem range_eq {α : Type} {as : List α} {d : α} {n : Nat} (h : as.length = n) : as = (List.range n).map fun i => as.getD i d := by
  have := map_range (as := as) (d := d) id
  rw [List.map_id, h] at this
  exact this
theorem IsT.eq {h w : Nat} {t : List (List Int)} (ht : IsT h w t) : t = tabF (fun i j => cellV t (i, j)) h w := by
  conv => lhs; rw [range_eq (as := t) (d := []) ht.1]
  refine List.map_congr_left fun i hi => ?_
  have hi := List.mem_range.mp hi
  have hg := getD_some (d := []) (as := t) (i := i) (by rw [ht.1]; exact hi)
  exact range_eq (d := 0) (ht.2 _ (List.mem_of_getElem? hg))
theorem tabF_set {f : Nat → Nat → Int} {h w i j : Nat} {v : Int} (hi : i < h) : (tabF f h w).set i (((List.range w).map (f i)).set j v) = tabF (fun i' j' => if i' = i ∧ j' = j then v else f i' j') h w := by
  rw [set_range]
  unfold tabF
  rw [set_range]
  refine List.map_congr_left fun i' _ => ?_
  by_cases e : i' = i
  · subst e; simp
  · simp [e]
theorem cells_get {h w i j : Nat} (hi : i < h) (hj : j < w) : (cells h w)[i * w + j]? = some (i, j) := by
  induction h with
  | zero => omega
  | succ h ih =>
    rw [cells_succ]
    by_cases e : i < h
    · have hlt : i * w + j < h * w := by
        have : (i + 1) * w ≤ h * w := Nat.mul_le_mul_right w (by omega)
        rw [Nat.add_mul, Nat.one_mul] at this
        omega
      rw [List.getElem?_append_left (by rw [cells_len]; exact hlt), ih e]
    · have : i = h := by omega
      subst this
      rw [List.getElem?_append_right (by rw [cells_len]; omega), cells_len, Nat.add_sub_cancel_left, List.getElem?_map, List.getElem?_range hj]; rfl
def KR (w i j i' : Nat) : Nat := if i' < i then w else if i' = i then j else 0
def KC (i j j' : Nat) : Nat := if j' < j then i + 1 else i
def PR (i j i' j' : Nat) : Prop := i' < i ∨ i' = i ∧ j' < j
instance (i j i' j' : Nat) : Decidable (PR i j i' j') := by unfold PR; exact inferInstance
def nxI (w i j : Nat) : Nat := if j + 1 < w then i else i + 1
def nxJ (w j : Nat) : Nat := if j + 1 < w then j + 1 else 0
theorem KR_next {w i j i' : Nat} (hj : j < w) : KR w (nxI w i j) (nxJ w j) i' = if i' = i then j + 1 else KR w i j i' := by
  unfold KR nxI nxJ
  by_cases h : j + 1 < w
  · simp only [if_pos h]
    by_cases e : i' = i
    · simp [e]
    · simp [e]
  · simp only [if_neg h]
    by_cases e : i' = i
    · subst e; simp; omega
    · by_cases l : i' < i
      · simp [e, l, show i' < i + 1 by omega]
      · simp [e, l, show ¬ i' < i + 1 by omega]
theorem KC_next {w i j j' : Nat} (hj : j < w) (hj' : j' < w) : KC (nxI w i j) (nxJ w j) j' = if j' = j then i + 1 else KC i j j' := by
  unfold KC nxI nxJ
  by_cases h : j + 1 < w
  · simp only [if_pos h]
    by_cases e : j' = j
    · simp [e]
    · by_cases l : j' < j
      · simp [e, l, show j' < j + 1 by omega]
      · simp [e, l, show ¬ j' < j + 1 by omega]
  · simp only [if_neg h]
    by_cases e : j' = j
    · simp [e]
    · simp [e, show j' < j by omega]
theorem PR_next {w i j i' j' : Nat} (hj : j < w) (hj' : j' < w) : PR (nxI w i j) (nxJ w j) i' j' ↔ PR i j i' j' ∨ (i' = i ∧ j' = j) := by
  unfold PR nxI nxJ
  by_cases h : j + 1 < w
  · simp only [if_pos h]; omega
  · simp only [if_neg h]; omega
def ctF (s : Raw) (h w : Nat) (i j : Nat) : Int := cellV s.lows (i, j) + xF (amF s h w true) (amF s h w false) i j
def ctab (s : Raw) (h w : Nat) : List (List Int) := tabF (ctF s h w) h w
def Ba (μ : Mu) (rs cs : List Int) : Mu := μ ++ [rowL rs, rowL cs]
theorem ba_len {μ : Mu} {rs cs : List Int} : (Ba μ rs cs).length = μ.length + 2 := by unfold Ba; simp
section
variable {μ : Mu} {P : D → Mu → Prop} {s : Raw} {h w : Nat} {t : List (List Int)} {rs cs : List Int}
theorem ba_rows : (Gr (Ba μ rs cs) t)[μ.length]? = some (rowL rs) := by
  rw [gr_old (by rw [ba_len]; omega)]; unfold Ba
  rw [List.getElem?_append_right (Nat.le_refl _), Nat.sub_self]; rfl
theorem ba_cols : (Gr (Ba μ rs cs) t)[μ.length + 1]? = some (rowL cs) := by
  rw [gr_old (by rw [ba_len]; omega)]; unfold Ba
  rw [List.getElem?_append_right (by omega), Nat.add_sub_cancel_left]; rfl
theorem ba_ix {i : Nat} {v : Int} (h : rs[i]? = some v) : Wp (opIx (.ref μ.length) (.int (i : Int)) (Gr (Ba μ rs cs) t)) P ↔ P (.int v) (Gr (Ba μ rs cs) t) := by
  rw [wp_ix (seqOf_at ba_rows), atI_nat' (n := i) (d := .int v) (by rw [List.getElem?_map, h]; rfl), ex_some]
theorem ba_ix2 {i : Nat} {v : Int} (h : cs[i]? = some v) : Wp (opIx (.ref (μ.length + 1)) (.int (i : Int)) (Gr (Ba μ rs cs) t)) P ↔ P (.int v) (Gr (Ba μ rs cs) t) := by
  rw [wp_ix (seqOf_at ba_cols), atI_nat' (n := i) (d := .int v) (by rw [List.getElem?_map, h]; rfl), ex_some]
theorem ba_put {i : Nat} {v : Int} (hi : i < rs.length) : setAt (.ref μ.length) (.int (i : Int)) (.int v) (Gr (Ba μ rs cs) t) = some (Gr (Ba μ (rs.set i v) cs) t) := by
  rw [setAt_at ba_rows, ixN_pos (by omega) (by rw [List.length_map]; omega), Option.map_some, Int.toNat_natCast]
  have : MO.lst ((rs.map D.int).set i (.int v)) = rowL (rs.set i v) := by unfold rowL; rw [List.map_set]
  rw [this, gr_set_old (by rw [ba_len]; omega)]
  unfold Ba
  rw [List.set_append, if_neg (by omega), Nat.sub_self]; rfl
theorem ba_put2 {i : Nat} {v : Int} (hi : i < cs.length) : setAt (.ref (μ.length + 1)) (.int (i : Int)) (.int v) (Gr (Ba μ rs cs) t) = some (Gr (Ba μ rs (cs.set i v)) t) := by
  rw [setAt_at ba_cols, ixN_pos (by omega) (by rw [List.length_map]; omega), Option.map_some, Int.toNat_natCast]
  have : MO.lst ((cs.map D.int).set i (.int v)) = rowL (cs.set i v) := by unfold rowL; rw [List.map_set]
  rw [this, gr_set_old (by rw [ba_len]; omega)]
  unfold Ba
  rw [List.set_append, if_neg (by omega), Nat.add_sub_cancel_left]; rfl
end
end VL
end
section
set_option linter.all false
set_option maxRecDepth 100000
set_option maxHeartbeats 2000000
namespace VL
open PySem L2
def TL (d : D) (xs : List D) : Prop := d = .tup xs ∨ d = .lst xs
section
variable {d : D} {xs : List D}
theorem TL.seq (h : TL d xs) (μ : Mu) : seqOf μ d = some xs := by rcases h with rfl | rfl <;> rfl
theorem TL.src (h : TL d xs) (ys : List D) : srcOf d ys = [] := by rcases h with rfl | rfl <;> rfl
theorem TL.lt (h : TL d xs) (μ : Mu) : isiB kitT μ d [.b "list", .b "tuple"] = some true := by
  rcases h with rfl | rfl
  · exact isi_lt (d := .tup xs) rfl μ
  · exact isi_lt (d := .lst xs) rfl μ
theorem TL.tuple (h : TL d xs) {μ : Mu} {P : D → Mu → Prop} : Wp (bTuple [d] μ) P ↔ P (.tup xs) μ := wp_tuple (h.seq μ)
theorem TL.len (h : TL d xs) {μ : Mu} {P : D → Mu → Prop} : Wp (bLen [d] μ) P ↔ P (.int xs.length) μ := wp_len (h.seq μ)
theorem TL.ix (h : TL d xs) {i : Nat} {x : D} (hx : xs[i]? = some x) {μ : Mu} {P : D → Mu → Prop} : Wp (opIx d (.int i) μ) P ↔ P x μ := by
  rw [wp_ix (h.seq μ), atI_nat' hx, ex_some]
theorem tlT {xs : List D} : TL (.tup xs) xs := .inl rfl
theorem tlL {xs : List D} : TL (.lst xs) xs := .inr rfl
end
section
variable {μ : Mu} {P : D → Mu → Prop}
theorem need_lows_w2 {h w : Nat} {t : List (List Int)} {d : D} (hd : TL d (t.map rowD)) (ht : IsT h w t) (h1 : 1 ≤ h) (h6 : h ≤ 6) (w1 : 1 ≤ w) (w6 : w ≤ 6) (hp : ∀ r ∈ t, ∀ n ∈ r, 0 ≤ n) (q : P .non μ) : Wf f_need_lows [d] μ P := by
  obtain ⟨r0, hr0⟩ : ∃ r0, t[0]? = some r0 := ⟨t[0]'(by rw [ht.1]; omega), List.getElem?_eq_getElem _⟩
  have hw0 : r0.length = w := ht.2 r0 (List.mem_of_getElem? hr0)
  unfold f_need_lows
  rw [wf_def]
  have k2 := isi_tuple (d := rowD r0) rfl
  have i1 : ∀ μ (P : D → Mu → Prop), Wp (opIx d (.int 0) μ) P ↔ P (rowD r0) μ := fun μ P => hd.ix (i := 0) (by rw [List.getElem?_map, hr0]; rfl)
  simp [hd.lt, k2, hd.len, i1, hd.seq, hd.src, ht.1, hw0]
  refine ⟨by omega, by omega, rfl, by omega, by omega, ?_⟩
  refine comp_mapA (fun r => .bl true) holds_nil (fun r hr => ?_) ?_
  · simp [wipe, i1, hw0]
    exact numbers_w (row_kdd r) (by rw [numsD_row (by rw [ht.2 r hr]) (hp r hr)]; exact ⟨rfl, rfl⟩)
  · rw [List.nil_append, wp_allF (f := fun _ => true), all_true]
    first
      | exact wcl_same rfl q
      | (simp; exact wcl_same rfl q)
theorem need_highs_w2 {t : List (List Int)} {o : List (List (Option Int))} {d e : D} (hd : TL d (t.map rowD)) (he : TL e (o.map rowO)) (hl : o.length = t.length) (h0 : ∀ r ∈ t, ∀ n ∈ r, 0 ≤ n) (hs : ∀ (i : Nat) (r : List Int) (x : List (Option Int)), t[i]? = some r → o[i]? = some x → x.length = r.length) (h : ∀ (i j : Nat) (r : List Int) (x : List (Option Int)) (n m : Int), t[i]? = some r → o[i]? = some x → r[j]? = some n → x[j]? = some (some m) → n ≤ m) (q : P .non μ) : Wf f_need_highs [d, e] μ P := by
  unfold f_need_highs
  rw [wf_def]
  simp [he.lt, he.len, hd.len, hd.seq, he.seq, hd.src, he.src, hl]
  rw [List.zip_map, List.map_map]
  refine comp_mapA (fun r => .bl true) holds_nil (fun x hx => ?_) ?_
  · obtain ⟨j, hj⟩ := List.getElem?_of_mem hx
    obtain ⟨z1, z2⟩ := List.getElem?_zip_eq_some.mp hj
    simp [wipe]
    exact are_highs_w (hs j _ _ z1 z2) (h0 _ (List.mem_of_getElem? z1)) (fun k n m h1 h2 => h j k _ _ n m z1 z2 h1 h2) ⟨rfl, rfl⟩
  · rw [List.nil_append, wp_allF (f := fun _ => true), all_true]
    first
      | exact wcl_same rfl q
      | (simp; exact wcl_same rfl q)
theorem need_spans_w2 {x : Str} {s : List (Int × Int)} {n : Nat} {d : D} (hd : TL d (s.map spanD)) (hl : s.length = n) (h : SpOk s) (q : P .non μ) : Wf f_need_spans [.str x, d, .int n] μ P := by
  unfold f_need_spans
  rw [wf_def]
  simp [hd.lt, hd.len, hd.seq, hd.src, hl]
  refine comp_mapA (fun r => .bl true) holds_nil (fun a ha => ?_) ?_
  · simp [wipe]
    exact is_span_w ⟨(h a ha).1, (h a ha).2.1⟩ ⟨rfl, rfl⟩
  · rw [List.nil_append, wp_allF (f := fun _ => true), all_true]
    first
      | exact wcl_same rfl q
      | (simp; exact wcl_same rfl q)
theorem sheet_make_w {s : Raw} {h w : Nat} (ok : s.Ok h w) (h6 : h ≤ 6) (w6 : w ≤ 6) {dl dh dr dc : D} (hl : TL dl (s.lows.map rowD)) (hh : TL dh (s.highs.map rowO)) (hr : TL dr (s.rows.map spanD)) (hc : TL dc (s.cols.map spanD)) (q : P (sheetO s) μ) : Wf (makeD "Sheet" m_Sheet_init) [dl, dh, dr, dc] μ P := by
  refine make_w (fs := [("lows", tabD s.lows), ("highs", tabO s.highs), ("rows", spansD s.rows), ("columns", spansD s.cols)]) (by simp [undF, tab_und, tabO_und, spans_und]) ?_ q
  unfold m_Sheet_init
  rw [wf_def]
  have hr0 : s.lows[0]? = some (s.lows[0]'(by rw [ok.lows.1]; exact ok.h1)) := List.getElem?_eq_getElem _
  generalize s.lows[0]'(by rw [ok.lows.1]; exact ok.h1) = r0 at hr0
  have hw0 : r0.length = w := ok.lows.2 r0 (List.mem_of_getElem? hr0)
  have i1 : ∀ μ (P : D → Mu → Prop), Wp (opIx dl (.int 0) μ) P ↔ P (rowD r0) μ := fun μ P => hl.ix (i := 0) (by rw [List.getElem?_map, hr0]; rfl)
  simp [i1, hl.len, ok.lows.1, hw0]
  refine need_lows_w2 hl ok.lows ok.h1 h6 ok.w1 w6 ok.pos ?_
  refine need_highs_w2 hl hh (by rw [ok.hl, ok.lows.1]) ok.pos (fun i r x h1 h2 => by rw [ok.hw x (List.mem_of_getElem? h2), ok.lows.2 r (List.mem_of_getElem? h1)]) ok.high ?_
  refine need_spans_w2 hr ok.rl ok.ro ?_
  refine need_spans_w2 hc ok.cl ok.co ?_
  have u1 : ∀ μ (P : D → Mu → Prop), Wp (bTuple [dl] μ) P ↔ P (tabD s.lows) μ := fun μ P => hl.tuple
  have u2 : ∀ μ (P : D → Mu → Prop), Wp (bTuple [dh] μ) P ↔ P (tabO s.highs) μ := fun μ P => hh.tuple
  have u3 : ∀ μ (P : D → Mu → Prop), Wp (bTuple [dr] μ) P ↔ P (spansD s.rows) μ := fun μ P => hr.tuple
  have u4 : ∀ μ (P : D → Mu → Prop), Wp (bTuple [dc] μ) P ↔ P (spansD s.cols) μ := fun μ P => hc.tuple
  simp [u1, u2, u3, u4, set_ins, putFD]
  exact wcl_init (by simp [undF, tab_und, tabO_und, spans_und]) ⟨rfl, rfl⟩
end
/-- a sheet without highs -/
def mkF (lows : List (List Int)) (rows cols : List (Int × Int)) : Raw := ⟨lows, lows.map fun r => r.map fun _ => none, rows, cols⟩
theorem mkF_free {l : List (List Int)} {r c : List (Int × Int)} : (mkF l r c).Free := rfl
theorem free_mkF {s : Raw} (hf : s.Free) : s = mkF s.lows s.rows s.cols := by
  cases s with
  | mk l hi r c =>
    have e : hi = l.map fun r => r.map fun _ => none := hf
    subst e; rfl
theorem mkF_ok {l : List (List Int)} {r c : List (Int × Int)} {h w : Nat} (h1 : 1 ≤ h) (w1 : 1 ≤ w) (hl : IsT h w l) (hp : ∀ x ∈ l, ∀ n ∈ x, 0 ≤ n) (rl : r.length = h) (ro : SpOk r) (cl : c.length = w) (co : SpOk c) : (mkF l r c).Ok h w :=
  ⟨h1, w1, hl, hp, by simp [mkF, hl.1], fun x hx => (by
    obtain ⟨r0, h0, rfl⟩ := List.mem_map.mp hx
    rw [List.length_map]; exact hl.2 r0 h0), fun i j x q n m hr hq hn hm => (by
    obtain ⟨r0, h0, rfl⟩ := get_map hq
    obtain ⟨_, _, z⟩ := get_map hm
    cases z), rl, ro, cl, co⟩
end VL
end
section
set_option linter.all false
set_option maxRecDepth 100000
set_option maxHeartbeats 2000000
namespace VL
open PySem L2
theorem row_su {h w i : Nat} {t : List (List Int)} (ht : IsT h w t) (hi : i < h) : lineAt w t true i = SU (fun j => cellV t (i, j)) w := by
  have hg := getD_some (d := []) (as := t) (i := i) (by rw [ht.1]; exact hi)
  have hw := ht.2 _ (List.mem_of_getElem? hg)
  show (t.getD i []).sum = _
  rw [← su_list]
  conv => lhs; rw [range_eq (as := t.getD i []) (d := 0) hw]
  rfl
theorem col_su {h w j : Nat} {t : List (List Int)} (ht : IsT h w t) (hj : j < w) : lineAt w t false j = SU (fun i => cellV t (i, j)) h := by
  show ((turn w t).getD j []).sum = _
  have e : (turn w t).getD j [] = t.map fun r => at0 r j := by
    unfold turn
    rw [List.getD_eq_getElem?_getD, List.getElem?_map, List.getElem?_range hj]; rfl
  rw [e, ← su_list, map_range (d := []) (fun r : List Int => at0 r j), ht.1]; rfl
theorem turn_tabF {f : Nat → Nat → Int} {h w : Nat} : turn w (tabF f h w) = tabF (fun j i => f i j) w h := by
  unfold turn
  refine List.map_congr_left fun j hj => ?_
  have hj := List.mem_range.mp hj
  unfold tabF
  rw [List.map_map]
  refine List.map_congr_left fun i _ => ?_
  show ((List.range w).map (f i)).getD j 0 = f i j
  rw [List.getD_eq_getElem?_getD, List.getElem?_map, List.getElem?_range hj]; rfl
theorem row_tabF {f : Nat → Nat → Int} {h w i : Nat} (hi : i < h) : lineAt w (tabF f h w) true i = SU (f i) w := by
  rw [row_su tabF_isT hi]
  exact su_congr fun j hj => tabF_cell hi hj
theorem col_tabF {f : Nat → Nat → Int} {h w j : Nat} (hj : j < w) : lineAt w (tabF f h w) false j = SU (fun i => f i j) h := by
  rw [col_su tabF_isT hj]
  exact su_congr fun i hi => tabF_cell hi hj
def fS (f : Nat → Nat → Int) (a c : Nat → Int × Int) (h w : Nat) : Raw := mkF (tabF f h w) ((List.range h).map a) ((List.range w).map c)
def lnF (f : Nat → Nat → Int) (h w : Nat) (b : Bool) (i : Nat) : Int := if b then SU (f i) w else SU (fun k => f k i) h
section
variable {f : Nat → Nat → Int} {a c : Nat → Int × Int} {h w : Nat}
theorem fS_span {b : Bool} {i : Nat} (hi : i < many h w b) : spanAt (fS f a c h w) b i = if b then a i else c i := by
  unfold spanAt spanS fS mkF
  cases b
  · simp only [Bool.false_eq_true, if_false]
    rw [List.getD_eq_getElem?_getD, List.getElem?_map, List.getElem?_range (show i < w from hi)]; rfl
  · simp only [if_true]
    rw [List.getD_eq_getElem?_getD, List.getElem?_map, List.getElem?_range (show i < h from hi)]; rfl
theorem fS_low {b : Bool} {i : Nat} (hi : i < many h w b) : lowAt (fS f a c h w) w b i = lnF f h w b i := by
  cases b
  · exact col_tabF hi
  · exact row_tabF hi
theorem fS_need {b : Bool} {i : Nat} (hi : i < many h w b) : needAt (fS f a c h w) w b i = max 0 ((if b then a i else c i).1 - lnF f h w b i) := by
  unfold needAt; rw [fS_span hi, fS_low hi]
theorem fS_room {b : Bool} {i : Nat} (hi : i < many h w b) : roomAt (fS f a c h w) w b i = (if b then a i else c i).2 - lnF f h w b i := by
  unfold roomAt; rw [fS_span hi, fS_low hi]
theorem fS_free : (fS f a c h w).Free := rfl
def SpO (a : Int × Int) : Prop := 0 ≤ a.1 ∧ a.1 ≤ a.2 ∧ a.2 ≤ a.1 + 1000
theorem fS_ok (h1 : 1 ≤ h) (w1 : 1 ≤ w) (hp : ∀ i j, i < h → j < w → 0 ≤ f i j) (ha : ∀ i, i < h → SpO (a i)) (hc : ∀ i, i < w → SpO (c i)) : (fS f a c h w).Ok h w :=
  mkF_ok h1 w1 tabF_isT (fun x hx n hn => by
    obtain ⟨i, hi, rfl⟩ := List.mem_map.mp hx
    obtain ⟨j, hj, rfl⟩ := List.mem_map.mp hn
    exact hp i j (List.mem_range.mp hi) (List.mem_range.mp hj)) (by simp) (fun x hx => by
    obtain ⟨i, hi, rfl⟩ := List.mem_map.mp hx
    exact ha i (List.mem_range.mp hi)) (by simp) (fun x hx => by
    obtain ⟨i, hi, rfl⟩ := List.mem_map.mp hx
    exact hc i (List.mem_range.mp hi))
end
section
variable {s : Raw} {h w : Nat}
theorem cell_pos (ok : s.Ok h w) {i j : Nat} (hi : i < h) (hj : j < w) : 0 ≤ cellV s.lows (i, j) := by
  obtain ⟨r, z1, z2⟩ := cell_row ok.lows (c := (i, j)) ⟨hi, hj⟩
  exact ok.pos r (List.mem_of_getElem? z1) _ (List.mem_of_getElem? z2)
theorem free_fS (ok : s.Ok h w) (hf : s.Free) : s = fS (fun i j => cellV s.lows (i, j)) (spanAt s true) (spanAt s false) h w := by
  have e1 := free_mkF hf
  have e2 := ok.lows.eq
  have e3 : s.rows = (List.range h).map (spanAt s true) := range_eq (as := s.rows) (d := (0, 0)) ok.rl
  have e4 : s.cols = (List.range w).map (spanAt s false) := range_eq (as := s.cols) (d := (0, 0)) ok.cl
  unfold fS
  rw [← e2, ← e3, ← e4]
  exact e1
theorem low_ln (ok : s.Ok h w) {b : Bool} {i : Nat} (hi : i < many h w b) : lowAt s w b i = lnF (fun i j => cellV s.lows (i, j)) h w b i := by
  cases b
  · exact col_su ok.lows hi
  · exact row_su ok.lows hi
end
def baseF (s : Raw) (h w : Nat) : Int := SU (lowAt s w true) h
def mstF (s : Raw) (h w : Nat) : Int := min (roomSum s h w true) (roomSum s h w false)
/-- the same needs and rooms -/
def SameNR (s s' : Raw) (h w : Nat) : Prop := ∀ b i, i < many h w b → needAt s w b i = needAt s' w b i ∧ roomAt s w b i = roomAt s' w b i
section
variable {s s' : Raw} {h w : Nat}
theorem SameNR.need (e : SameNR s s' h w) (b : Bool) : needSum s h w b = needSum s' h w b := by
  rw [needSum_su, needSum_su]; exact su_congr fun i hi => (e b i hi).1
theorem SameNR.room (e : SameNR s s' h w) (b : Bool) : roomSum s h w b = roomSum s' h w b := by
  rw [roomSum_su, roomSum_su]; exact su_congr fun i hi => (e b i hi).2
theorem SameNR.tot (e : SameNR s s' h w) : totF s h w = totF s' h w := by unfold totF; rw [e.need, e.need]
theorem SameNR.mst (e : SameNR s s' h w) : mstF s h w = mstF s' h w := by unfold mstF; rw [e.room, e.room]
theorem SameNR.am (e : SameNR s s' h w) {b : Bool} {i : Nat} (hi : i < many h w b) : amF s h w b i = amF s' h w b i := by
  unfold amF
  rw [e.tot, e.need]
  exact amtF_congr (fun k hk => (e b k (by omega)).1) (fun k hk => (e b k (by omega)).2)
theorem SameNR.nr (e : SameNR s s' h w) (n : NoReas s h w) : NoReas s' h w := ⟨fun b i hi => by rw [← (e b i hi).2]; exact n.room b i hi, fun b => by rw [← e.need, ← e.room]; exact n.sum b⟩
theorem SameNR.symm (e : SameNR s s' h w) : SameNR s' s h w := fun b i hi => ⟨(e b i hi).1.symm, (e b i hi).2.symm⟩
theorem SameNR.reasB (e : SameNR s s' h w) {r : D} (hr : r ∈ reasL h w) : VL.reasB s h w r = VL.reasB s' h w r := by
  rcases reasL_cases hr with ⟨b, i, hi, rfl⟩ | rfl | rfl
  · rw [reasB_line, reasB_line]
    unfold lineB
    rw [Int.toNat_natCast, (e b i hi).2]
  · have := @reasB_row s h w false
    have h2 := @reasB_row s' h w false
    rw [e.need, e.room] at this
    exact this.trans h2.symm
  · have := @reasB_row s h w true
    have h2 := @reasB_row s' h w true
    rw [e.need, e.room] at this
    exact this.trans h2.symm
theorem SameNR.reasV (e : SameNR s s' h w) : VL.reasV s h w = VL.reasV s' h w := by
  unfold VL.reasV
  rw [List.filter_congr fun r hr => e.reasB hr]
end
end VL
end
section
set_option linter.all false
set_option maxRecDepth 100000
set_option maxHeartbeats 2000000
namespace VL
open PySem L2
def aboveB (s : Raw) (t : List (List Int)) (c : Nat × Nat) : Bool := decide (cellV s.lows c < cellV t c)
def aboveN (s : Raw) (h w : Nat) (t : List (List Int)) : Nat := ((cells h w).filter (aboveB s t)).length
def rightX (s : Raw) (h w : Nat) (x : D) : Bool := isTabB h w x && (fillB s h w (tabOf x) && decide (aboveN s h w (tabOf x) < h + w))
section
variable {μ : Mu} {P : D → Mu → Prop} {s : Raw} {h w : Nat} {t : List (List Int)}
def aboveR (s : Raw) (w : Nat) (t : List (List Int)) (i : Nat) : Nat := ((List.range w).filter fun j => aboveB s t (i, j)).length
theorem above_sum : ∀ k, aboveN s k w t = ((List.range k).map (aboveR s w t)).sum
  | 0 => rfl
  | k + 1 => by
    unfold aboveN
    rw [cells_succ, List.filter_append, List.length_append, List.range_succ, List.map_append, List.sum_append]
    have := above_sum k
    unfold aboveN at this
    rw [this]
    simp only [List.map_cons, List.map_nil, List.sum_cons, List.sum_nil, Nat.add_zero, aboveR]
    rw [List.filter_map, List.length_map]; rfl
theorem zip_rows {α β : Type} {f : α → D} {g : β → D} {as : List α} {bs : List β} {n : Nat} {da : α} {db : β} (ha : as.length = n) (hb : bs.length = n) : ((as.map f).zip (bs.map g)).map (fun p => D.tup [p.1, p.2]) = (List.range n).map fun i => D.tup [f (as.getD i da), g (bs.getD i db)] := by
  refine List.ext_getElem? fun i => ?_
  rw [List.getElem?_map, List.getElem?_map]
  by_cases hi : i < n
  · rw [List.getElem?_range hi]
    rw [(List.getElem?_zip_eq_some (z := (f (as.getD i da), g (bs.getD i db)))).mpr ⟨by rw [List.getElem?_map, getD_some (d := da) (by omega)]; rfl, by rw [List.getElem?_map, getD_some (d := db) (by omega)]; rfl⟩]
    rfl
  · rw [List.getElem?_eq_none (by simp [List.length_zip, ha, hb]; omega), List.getElem?_eq_none (by rw [List.length_range]; omega)]; rfl
end
end VL
end
section
set_option linter.all false
set_option maxRecDepth 100000
set_option maxHeartbeats 2000000
namespace VL
open PySem L2
theorem tupD_row (r : List Int) : tupD (rowD r) = rowD r := by
  unfold rowD
  rw [tupD, tupAll_map, List.map_map]; rfl
theorem tupD_tab (t : List (List Int)) : tupD (tabD t) = tabD t := by
  unfold tabD
  rw [tupD, tupAll_map, List.map_map]
  exact congrArg D.tup (List.map_congr_left fun r _ => tupD_row r)
theorem tupD_reas {h w : Nat} {r : D} (hr : r ∈ reasL h w) : tupD r = r := by
  rcases reasL_cases hr with ⟨b, i, _, rfl⟩ | rfl | rfl <;> rfl
theorem row_dep (r : List Int) : (rowD r).dep ≤ 1 := by
  unfold rowD
  simp only [D.dep]
  have := depAll_of (n := 0) (xs := r.map D.int) fun x hx => by obtain ⟨n, _, rfl⟩ := List.mem_map.mp hx; exact Nat.le_refl _
  omega
theorem tab_dep (t : List (List Int)) : (tabD t).dep ≤ 2 := by
  unfold tabD
  simp only [D.dep]
  have := depAll_of (n := 1) (xs := t.map rowD) fun x hx => by obtain ⟨n, _, rfl⟩ := List.mem_map.mp hx; exact row_dep n
  omega
theorem row_plain (r : List Int) : (rowD r).plain = true := by
  unfold rowD D.plain
  exact plainAll_of fun x hx => by obtain ⟨n, _, rfl⟩ := List.mem_map.mp hx; rfl
theorem tab_plain (t : List (List Int)) : (tabD t).plain = true := by
  unfold tabD D.plain
  exact plainAll_of fun x hx => by obtain ⟨n, _, rfl⟩ := List.mem_map.mp hx; exact row_plain n
theorem base_sum {s : Raw} {h w : Nat} (ok : s.Ok h w) : (s.lows.map List.sum).sum = baseF s h w := by
  unfold baseF
  rw [← su_list, map_range (d := []) List.sum, ok.lows.1]; rfl
section
variable {μ : Mu} {P : D → Mu → Prop} {s : Raw} {h w : Nat}
end
def nrS (s : Raw) (w : Nat) (b : Bool) (i : Nat) : Int × Int := (needAt s w b i, roomAt s w b i)
def freedR (s : Raw) (h w : Nat) : Raw := fS (fun _ _ => 0) (nrS s w true) (nrS s w false) h w
theorem rep_row {n : Nat} : D.tup (repD [D.int 0] (n : Int)) = rowD ((List.range n).map fun _ => 0) := by
  rw [repD_one]
  unfold rowD
  rw [List.map_map, show (D.int ∘ fun _ : Nat => (0 : Int)) = fun _ => D.int 0 from rfl, List.map_const', List.length_range]
theorem rep_rowO {n : Nat} : D.tup (repD [D.non] (n : Int)) = rowO ((List.range n).map fun _ => none) := by
  rw [repD_one]
  unfold rowO
  rw [List.map_map, show (optD ∘ fun _ : Nat => (none : Option Int)) = fun _ => D.non from rfl, List.map_const', List.length_range]
def RoomOk (s : Raw) (h w : Nat) : Prop := ∀ b i, i < many h w b → 0 ≤ roomAt s w b i
section
variable {μ : Mu} {P : D → Mu → Prop} {s : Raw} {h w : Nat}
theorem nrS_ok (ok : s.Ok h w) (hr : RoomOk s h w) {b : Bool} {i : Nat} (hi : i < many h w b) : SpO (nrS s w b i) := by
  have h1 := spanAt_ok ok hi
  have h2 := hr b i hi
  unfold SpO nrS needAt roomAt at *
  simp only
  omega
theorem freedR_ok (ok : s.Ok h w) (hr : RoomOk s h w) : (freedR s h w).Ok h w := fS_ok ok.h1 ok.w1 (fun _ _ _ _ => Int.le_refl _) (fun i hi => nrS_ok ok hr (b := true) hi) (fun i hi => nrS_ok ok hr (b := false) hi)
theorem lnF_zero {b : Bool} {i : Nat} : lnF (fun _ _ => 0) h w b i = 0 := by cases b <;> exact su_zero
theorem freedR_same (ok : s.Ok h w) (hr : RoomOk s h w) : SameNR s (freedR s h w) h w := fun b i hi => by
  unfold freedR
  rw [fS_need hi, fS_room hi, lnF_zero]
  have h1 := spanAt_ok ok hi
  have h2 := hr b i hi
  cases b <;> (simp [nrS]; unfold needAt; omega)
theorem free_row (ok : s.Ok h w) (hf : s.Free) {i : Nat} (hi : i < h) : s.highs.getD i [] = (List.range w).map fun _ => none := by
  have g1 := getD_some (d := []) (as := s.lows) (i := i) (by rw [ok.lows.1]; exact hi)
  have hw := ok.lows.2 _ (List.mem_of_getElem? g1)
  rw [hf, List.getD_eq_getElem?_getD, List.getElem?_map, g1]
  simp only [Option.map_some, Option.getD_some]
  rw [List.map_const', List.map_const', hw, List.length_range]
end
end VL
end
section
set_option linter.all false
set_option maxRecDepth 100000
set_option maxHeartbeats 2000000
namespace VL
open PySem L2
theorem isTab_of {h w : Nat} {t : List (List Int)} (ht : IsT h w t) (hp : ∀ r ∈ t, ∀ n ∈ r, 0 ≤ n) : isTabB h w (tabD t) = true := by
  show (decide ((t.map rowD).length = h) && (t.map rowD).all (numsD w)) = true
  rw [decide_eq_true (by rw [List.length_map]; exact ht.1), Bool.true_and, List.all_eq_true]
  intro x hx
  obtain ⟨r, hr, rfl⟩ := List.mem_map.mp hx
  exact numsD_row (by rw [ht.2 r hr]) (hp r hr)
theorem tabF_pos {f : Nat → Nat → Int} {h w : Nat} (hp : ∀ i j, i < h → j < w → 0 ≤ f i j) : ∀ r ∈ tabF f h w, ∀ n ∈ r, 0 ≤ n := fun x hx n hn => by
  obtain ⟨i, hi, rfl⟩ := List.mem_map.mp hx
  obtain ⟨j, hj, rfl⟩ := List.mem_map.mp hn
  exact hp i j (List.mem_range.mp hi) (List.mem_range.mp hj)
section
variable {μ : Mu} {P : D → Mu → Prop} {s : Raw} {h w : Nat} {t : List (List Int)}
end
def IsO (h w : Nat) (t : List (List (Option Int))) : Prop := t.length = h ∧ ∀ r ∈ t, r.length = w
def turnO (w : Nat) (t : List (List (Option Int))) : List (List (Option Int)) := (List.range w).map fun j => t.map fun r => r.getD j none
section
variable {μ : Mu} {P : D → Mu → Prop} {s : Raw} {h w : Nat}
def turnR (s : Raw) (w : Nat) : Raw := ⟨turn w s.lows, turnO w s.highs, s.cols, s.rows⟩
theorem take_set {α : Type} {as : List α} {i : Nat} {a : α} (h : i < as.length) : as.take i ++ (a :: as.drop (i + 1)) = as.set i a := by
  refine List.ext_getElem? fun k => ?_
  rw [List.getElem?_set]
  by_cases e : i = k
  · subst e
    rw [if_pos rfl, if_pos h, List.getElem?_append_right (by rw [List.length_take]; omega), List.length_take, Nat.min_eq_left (by omega), Nat.sub_self]; rfl
  · rw [if_neg e]
    by_cases l : k < i
    · rw [List.getElem?_append_left (by rw [List.length_take]; omega), List.getElem?_take_of_lt l]
    · rw [List.getElem?_append_right (by rw [List.length_take]; omega), List.length_take, Nat.min_eq_left (by omega)]
      obtain ⟨m, rfl⟩ : ∃ m, k = i + (m + 1) := ⟨k - i - 1, by omega⟩
      rw [Nat.add_sub_cancel_left, List.getElem?_cons_succ, List.getElem?_drop]
      congr 1; omega
theorem with_item_w {xs : List D} {i : Nat} {a : D} (hi : i < xs.length) (hl : xs.length ≤ 16777216) (hu : (D.tup (xs.set i a)).und μ.length = true) (q : P (.tup (xs.set i a)) μ) : Wf f_with_item [.tup xs, .int (i : Nat), a] μ P := by
  unfold f_with_item
  rw [wf_def]
  have hti : ((i : Int) + 1).toNat = i + 1 := by omega
  simp [seqOf, cut_to, cut_from (show 0 ≤ (i : Int) + 1 by omega), hti]
  refine ⟨by omega, ?_⟩
  rw [take_set hi]
  exact wcl_same hu q
def rowR (s : Raw) (i : Nat) (a : Int × Int) : Raw := ⟨s.lows, s.highs, s.rows.set i a, s.cols⟩
end
end VL
end
section
set_option linter.all false
set_option maxRecDepth 100000
set_option maxHeartbeats 2000000
namespace VL
open PySem L2
section
variable {s : Raw} {h w : Nat}
theorem su_am (ok : s.Ok h w) (n : NoReas s h w) {i : Nat} (b : Bool) (hi : i < many h w b) : 0 ≤ SU (amF s h w b) i ∧ SU (amF s h w b) (i + 1) ≤ totF s h w := by
  refine ⟨su_pos fun k hk => am_pos ok n (by omega), ?_⟩
  rw [← am_sum ok n b]
  exact su_le (by omega) fun k hk => am_pos ok n hk
theorem ct_row (ok : s.Ok h w) (n : NoReas s h w) {i : Nat} (hi : i < h) : SU (ctF s h w i) w = lowAt s w true i + amF s h w true i := by
  unfold ctF
  rw [su_add, low_ln ok (b := true) hi, xF_row (am_pos ok n (b := true) hi) (su_am ok n true hi).1 (by
    have := (su_am ok n true hi).2
    have h2 := am_sum ok n false
    rw [show many h w false = w from rfl] at h2
    omega)]; rfl
theorem ct_col (ok : s.Ok h w) (n : NoReas s h w) {j : Nat} (hj : j < w) : SU (fun i => ctF s h w i j) h = lowAt s w false j + amF s h w false j := by
  unfold ctF
  rw [su_add, low_ln ok (b := false) hj, su_congr (n := h) (f := fun i => xF (amF s h w true) (amF s h w false) i j) (g := xF (amF s h w false) (amF s h w true) j) (fun i hi => xF_turn (am_pos ok n (b := true) hi) (am_pos ok n (b := false) hj)),
    xF_row (am_pos ok n (b := false) hj) (su_am ok n false hj).1 (by
    have := (su_am ok n false hj).2
    have h2 := am_sum ok n true
    rw [show many h w true = h from rfl] at h2
    omega)]; rfl
theorem ct_isT : IsT h w (ctab s h w) := tabF_isT
theorem ct_ge (ok : s.Ok h w) (n : NoReas s h w) {i j : Nat} (hi : i < h) (hj : j < w) : cellV s.lows (i, j) ≤ ctF s h w i j := by
  have := xF_pos (am_pos ok n (b := true) hi) (am_pos ok n (b := false) hj)
  unfold ctF
  omega
theorem ct_pos (ok : s.Ok h w) (n : NoReas s h w) : ∀ r ∈ ctab s h w, ∀ x ∈ r, 0 ≤ x := tabF_pos fun i j hi hj => by
  have := cell_pos ok hi hj
  have := ct_ge ok n hi hj
  omega
theorem ct_sums (ok : s.Ok h w) (n : NoReas s h w) : (ctab s h w).map List.sum = (List.range h).map fun i => lowAt s w true i + amF s h w true i := by
  unfold ctab tabF
  rw [List.map_map]
  refine List.map_congr_left fun i hi => ?_
  show ((List.range w).map (ctF s h w i)).sum = _
  rw [su_list, ct_row ok n (List.mem_range.mp hi)]
theorem ct_total (ok : s.Ok h w) (n : NoReas s h w) : ((ctab s h w).map List.sum).sum = baseF s h w + totF s h w := by
  rw [ct_sums ok n, su_list, su_add, ← am_sum ok n true]; rfl
theorem high_none (ok : s.Ok h w) (hf : s.Free) {c : Nat × Nat} (hc : c.1 < h) : highV s c = none := by
  unfold highV
  rw [free_row ok hf hc, List.getD_eq_getElem?_getD, List.getElem?_map]
  cases (List.range w)[c.2]? <;> rfl
theorem ct_fill (ok : s.Ok h w) (hf : s.Free) (n : NoReas s h w) : fillB s h w (ctab s h w) = true := by
  have hl : ∀ b, linesB s h w (ctab s h w) b = true := fun b => List.all_eq_true.mpr fun i hi => by
    have hi := List.mem_range.mp hi
    have e : lineAt w (ctab s h w) b i = lowAt s w b i + amF s h w b i := by
      cases b
      · exact (col_tabF hi).trans (ct_col ok n hi)
      · exact (row_tabF hi).trans (ct_row ok n hi)
    rw [e]
    have h1 := am_le ok n hi
    unfold needAt roomAt at h1
    unfold inSpanB
    rw [Bool.and_eq_true, decide_eq_true_eq, decide_eq_true_eq]
    omega
  unfold fillB
  rw [hl, hl, Bool.and_true, Bool.and_true, List.all_eq_true]
  intro c hc
  obtain ⟨c1, c2⟩ := cells_mem hc
  unfold withinB
  rw [high_none ok hf c1]
  have := ct_ge ok n c1 c2
  have e : cellV (ctab s h w) c = ctF s h w c.1 c.2 := tabF_cell c1 c2
  rw [e, decide_eq_true this]; rfl
theorem tot_mst (ok : s.Ok h w) (n : NoReas s h w) : totF s h w ≤ mstF s h w := by
  have h1 := (tot_le ok n true).2
  have h2 := (tot_le ok n false).2
  unfold mstF
  omega
theorem freed_lift (ok : s.Ok h w) (n : NoReas s h w) : tabF (fun i j => cellV s.lows (i, j) + cellV (ctab (freedR s h w) h w) (i, j)) h w = ctab s h w := tabF_congr fun i j hi hj => by
  have e := freedR_same ok n.room
  rw [show cellV (ctab (freedR s h w) h w) (i, j) = ctF (freedR s h w) h w i j from tabF_cell hi hj]
  unfold ctF
  rw [show cellV (freedR s h w).lows (i, j) = 0 from tabF_cell (f := fun _ _ => 0) hi hj, xF_congr (R := amF s h w true) (R' := amF (freedR s h w) h w true) (C := amF s h w false) (C' := amF (freedR s h w) h w false) (fun k hk => e.am (b := true) (by show k < h; omega)) (fun k hk => e.am (b := false) (by show k < w; omega))]
  omega
theorem freed_base : baseF (freedR s h w) h w = 0 := by
  unfold baseF
  exact (su_congr (f := lowAt (freedR s h w) w true) (g := fun _ => 0) fun i hi => (fS_low (b := true) hi).trans lnF_zero).trans su_zero
theorem turnR_fS (ok : s.Ok h w) (hf : s.Free) : turnR s w = fS (fun j i => cellV s.lows (i, j)) (spanAt s false) (spanAt s true) w h := by
  have e2 := ok.lows.eq
  have e3 : s.rows = (List.range h).map (spanAt s true) := range_eq (as := s.rows) (d := (0, 0)) ok.rl
  have e4 : s.cols = (List.range w).map (spanAt s false) := range_eq (as := s.cols) (d := (0, 0)) ok.cl
  have e5 : turn w s.lows = tabF (fun j i => cellV s.lows (i, j)) w h := by
    conv => lhs; rw [e2]
    exact turn_tabF
  unfold turnR fS mkF
  rw [← e3, ← e4, ← e5]
  refine congrArg (fun x => Raw.mk (turn w s.lows) x s.cols s.rows) ?_
  unfold turnO turn
  rw [List.map_map]
  refine List.map_congr_left fun j hj => ?_
  have hj := List.mem_range.mp hj
  show s.highs.map _ = (s.lows.map fun r => at0 r j).map fun _ => none
  rw [hf, List.map_map, List.map_map]
  refine List.map_congr_left fun r hr => ?_
  have hl := ok.lows.2 r hr
  show (r.map fun _ => (none : Option Int)).getD j none = none
  rw [List.getD_eq_getElem?_getD, List.getElem?_map]
  cases r[j]? <;> rfl
theorem turnR_ok (ok : s.Ok h w) (hf : s.Free) : (turnR s w).Ok w h := by
  rw [turnR_fS ok hf]
  exact fS_ok ok.w1 ok.h1 (fun j i hj hi => cell_pos ok hi hj) (fun i hi => spanAt_ok ok (b := false) hi) (fun i hi => spanAt_ok ok (b := true) hi)
theorem turnR_free (ok : s.Ok h w) (hf : s.Free) : (turnR s w).Free := by rw [turnR_fS ok hf]; exact fS_free
theorem many_not {b : Bool} : many w h b = many h w (!b) := by cases b <;> rfl
theorem turn_low (ok : s.Ok h w) (hf : s.Free) {b : Bool} {i : Nat} (hi : i < many w h b) : lowAt (turnR s w) h b i = lowAt s w (!b) i := by
  rw [turnR_fS ok hf, fS_low hi, low_ln ok (b := !b) (by rw [← many_not]; exact hi)]
  cases b <;> rfl
theorem turn_span {b : Bool} {i : Nat} : spanAt (turnR s w) b i = spanAt s (!b) i := by cases b <;> rfl
theorem turn_need (ok : s.Ok h w) (hf : s.Free) {b : Bool} {i : Nat} (hi : i < many w h b) : needAt (turnR s w) h b i = needAt s w (!b) i := by
  unfold needAt; rw [turn_low ok hf hi, turn_span]
theorem turn_room (ok : s.Ok h w) (hf : s.Free) {b : Bool} {i : Nat} (hi : i < many w h b) : roomAt (turnR s w) h b i = roomAt s w (!b) i := by
  unfold roomAt; rw [turn_low ok hf hi, turn_span]
theorem turn_needS (ok : s.Ok h w) (hf : s.Free) {b : Bool} : needSum (turnR s w) w h b = needSum s h w (!b) := by
  rw [needSum_su, needSum_su, ← many_not]; exact su_congr fun i hi => turn_need ok hf hi
theorem turn_roomS (ok : s.Ok h w) (hf : s.Free) {b : Bool} : roomSum (turnR s w) w h b = roomSum s h w (!b) := by
  rw [roomSum_su, roomSum_su, ← many_not]; exact su_congr fun i hi => turn_room ok hf hi
theorem turn_nr (ok : s.Ok h w) (hf : s.Free) (n : NoReas s h w) : NoReas (turnR s w) w h := ⟨fun b i hi => by
  rw [turn_room ok hf hi]
  exact n.room (!b) i (by rw [← many_not]; exact hi), fun b => by
  rw [turn_needS ok hf, turn_roomS ok hf]; exact n.sum (!b)⟩
theorem turn_tot (ok : s.Ok h w) (hf : s.Free) : totF (turnR s w) w h = totF s h w := by
  unfold totF
  rw [turn_needS ok hf, turn_needS ok hf, Bool.not_true, Bool.not_false]
  omega
theorem turn_mst (ok : s.Ok h w) (hf : s.Free) : mstF (turnR s w) w h = mstF s h w := by
  unfold mstF
  rw [turn_roomS ok hf, turn_roomS ok hf, Bool.not_true, Bool.not_false]
  omega
theorem turn_base (ok : s.Ok h w) (hf : s.Free) : baseF (turnR s w) w h = baseF s h w := by
  unfold baseF
  rw [su_congr (n := w) fun i hi => (turn_low ok hf (b := true) hi).trans (low_ln ok (b := false) hi), su_congr (n := h) fun i hi => low_ln ok (b := true) hi]
  exact su_swap.symm
theorem turn_am (ok : s.Ok h w) (hf : s.Free) {b : Bool} {i : Nat} (hi : i < many w h b) : amF (turnR s w) w h b i = amF s h w (!b) i := by
  unfold amF
  rw [turn_tot ok hf, turn_needS ok hf]
  exact amtF_congr (fun k hk => turn_need ok hf (by omega)) (fun k hk => turn_room ok hf (by omega))
theorem turn_ctab (ok : s.Ok h w) (hf : s.Free) (n : NoReas s h w) : ctab (turnR s w) w h = turn w (ctab s h w) := by
  unfold ctab
  rw [turn_tabF]
  refine tabF_congr fun j i hj hi => ?_
  unfold ctF
  have e : cellV (turnR s w).lows (j, i) = cellV s.lows (i, j) := by
    rw [turnR_fS ok hf]
    exact tabF_cell (f := fun j i => cellV s.lows (i, j)) hj hi
  rw [e, xF_congr (R := amF (turnR s w) w h true) (R' := amF s h w false) (C := amF (turnR s w) w h false) (C' := amF s h w true) (fun k hk => turn_am ok hf (b := true) (by show k < w; omega)) (fun k hk => turn_am ok hf (b := false) (by show k < h; omega)),
    xF_turn (am_pos ok n (b := false) hj) (am_pos ok n (b := true) hi)]
end
end VL
end
section
set_option linter.all false
set_option maxRecDepth 100000
set_option maxHeartbeats 2000000
namespace VL
open PySem L2
def wideR (s : Raw) (w : Nat) : Raw := ⟨s.lows ++ [(List.range w).map fun _ => 0], s.highs ++ [(List.range w).map fun _ => none], s.rows ++ [(0, 0)], s.cols⟩
section
variable {s : Raw} {h w : Nat}
theorem range_more {α : Type} {f : Nat → α} {as : List α} {a : α} {n : Nat} (h : as = (List.range n).map f) : as ++ [a] = (List.range (n + 1)).map fun i => if i < n then f i else a := by
  rw [List.range_succ, List.map_append, h]
  congr 1
  · exact List.map_congr_left fun i hi => by rw [if_pos (List.mem_range.mp hi)]
  · simp
theorem wideR_fS (ok : s.Ok h w) (hf : s.Free) : wideR s w = fS (fun i j => if i < h then cellV s.lows (i, j) else 0) (fun i => if i < h then spanAt s true i else (0, 0)) (spanAt s false) (h + 1) w := by
  have e2 := ok.lows.eq
  have e3 : s.rows = (List.range h).map (spanAt s true) := range_eq (as := s.rows) (d := (0, 0)) ok.rl
  have e4 : s.cols = (List.range w).map (spanAt s false) := range_eq (as := s.cols) (d := (0, 0)) ok.cl
  have e5 : s.lows ++ [(List.range w).map fun _ => 0] = tabF (fun i j => if i < h then cellV s.lows (i, j) else 0) (h + 1) w := by
    rw [range_more e2]
    refine List.map_congr_left fun i _ => ?_
    by_cases hi : i < h
    · simp [hi]
    · simp [hi]
  have e6 := range_more (a := ((0 : Int), (0 : Int))) e3
  unfold wideR fS mkF
  rw [← e4, ← e5, ← e6]
  refine congrArg (fun x => Raw.mk (s.lows ++ [(List.range w).map fun _ => 0]) x (s.rows ++ [(0, 0)]) s.cols) ?_
  rw [List.map_append, ← show s.highs = _ from hf]
  simp
theorem wideR_ok (ok : s.Ok h w) (hf : s.Free) : (wideR s w).Ok (h + 1) w := by
  rw [wideR_fS ok hf]
  refine fS_ok (by omega) ok.w1 (fun i j hi hj => ?_) (fun i hi => ?_) (fun i hi => spanAt_ok ok (b := false) hi)
  · by_cases l : i < h
    · rw [if_pos l]; exact cell_pos ok l hj
    · rw [if_neg l]; exact Int.le_refl _
  · by_cases l : i < h
    · rw [if_pos l]; exact spanAt_ok ok (b := true) l
    · rw [if_neg l]; unfold SpO; decide
theorem wideR_free (ok : s.Ok h w) (hf : s.Free) : (wideR s w).Free := by rw [wideR_fS ok hf]; exact fS_free
theorem wide_row (ok : s.Ok h w) (hf : s.Free) {i : Nat} (hi : i < h) : lowAt (wideR s w) w true i = lowAt s w true i ∧ needAt (wideR s w) w true i = needAt s w true i ∧ roomAt (wideR s w) w true i = roomAt s w true i := by
  have hi1 : i < many (h + 1) w true := by show i < h + 1; omega
  have e1 : lowAt (wideR s w) w true i = lowAt s w true i := by
    rw [wideR_fS ok hf, fS_low hi1, low_ln ok (b := true) hi]
    exact su_congr fun j _ => if_pos hi
  have e2 : spanAt (wideR s w) true i = spanAt s true i := by
    rw [wideR_fS ok hf, fS_span hi1, if_pos rfl, if_pos hi]
  exact ⟨e1, by unfold needAt; rw [e1, e2], by unfold roomAt; rw [e1, e2]⟩
theorem wide_last (ok : s.Ok h w) (hf : s.Free) : lowAt (wideR s w) w true h = 0 ∧ needAt (wideR s w) w true h = 0 ∧ roomAt (wideR s w) w true h = 0 := by
  have hi1 : h < many (h + 1) w true := by show h < h + 1; omega
  have e1 : lowAt (wideR s w) w true h = 0 := by
    rw [wideR_fS ok hf, fS_low hi1]
    show SU _ w = 0
    exact (su_congr (g := fun _ => 0) fun j _ => if_neg (Nat.lt_irrefl _)).trans su_zero
  have e2 : spanAt (wideR s w) true h = (0, 0) := by
    rw [wideR_fS ok hf, fS_span hi1, if_pos rfl, if_neg (Nat.lt_irrefl _)]
  exact ⟨e1, by unfold needAt; rw [e1, e2]; rfl, by unfold roomAt; rw [e1, e2]; rfl⟩
theorem wide_col (ok : s.Ok h w) (hf : s.Free) {i : Nat} (hi : i < w) : needAt (wideR s w) w false i = needAt s w false i ∧ roomAt (wideR s w) w false i = roomAt s w false i := by
  have hi1 : i < many (h + 1) w false := hi
  have e1 : lowAt (wideR s w) w false i = lowAt s w false i := by
    rw [wideR_fS ok hf, fS_low hi1, low_ln ok (b := false) hi]
    show SU _ (h + 1) = SU _ h
    simp only [SU]
    rw [if_neg (Nat.lt_irrefl _), Int.add_zero]
    exact su_congr fun j hj => if_pos hj
  have e2 : spanAt (wideR s w) false i = spanAt s false i := rfl
  exact ⟨by unfold needAt; rw [e1, e2], by unfold roomAt; rw [e1, e2]⟩
theorem wide_needS (ok : s.Ok h w) (hf : s.Free) {b : Bool} : needSum (wideR s w) (h + 1) w b = needSum s h w b := by
  rw [needSum_su, needSum_su]
  cases b
  · exact su_congr fun i hi => (wide_col ok hf hi).1
  · show SU _ (h + 1) = SU _ h
    simp only [SU]
    rw [(wide_last ok hf).2.1, Int.add_zero]
    exact su_congr fun i hi => (wide_row ok hf hi).2.1
theorem wide_roomS (ok : s.Ok h w) (hf : s.Free) {b : Bool} : roomSum (wideR s w) (h + 1) w b = roomSum s h w b := by
  rw [roomSum_su, roomSum_su]
  cases b
  · exact su_congr fun i hi => (wide_col ok hf hi).2
  · show SU _ (h + 1) = SU _ h
    simp only [SU]
    rw [(wide_last ok hf).2.2, Int.add_zero]
    exact su_congr fun i hi => (wide_row ok hf hi).2.2
theorem wide_nr (ok : s.Ok h w) (hf : s.Free) (n : NoReas s h w) : NoReas (wideR s w) (h + 1) w := ⟨fun b i hi => by
  cases b
  · rw [(wide_col ok hf hi).2]; exact n.room false i hi
  · by_cases l : i < h
    · rw [(wide_row ok hf l).2.2]; exact n.room true i l
    · have hi : i < h + 1 := hi
      have : i = h := by omega
      subst this
      rw [(wide_last ok hf).2.2]; exact Int.le_refl _, fun b => by rw [wide_needS ok hf, wide_roomS ok hf]; exact n.sum b⟩
theorem wide_tot (ok : s.Ok h w) (hf : s.Free) : totF (wideR s w) (h + 1) w = totF s h w := by unfold totF; rw [wide_needS ok hf, wide_needS ok hf]
theorem wide_mst (ok : s.Ok h w) (hf : s.Free) : mstF (wideR s w) (h + 1) w = mstF s h w := by unfold mstF; rw [wide_roomS ok hf, wide_roomS ok hf]
theorem wide_base (ok : s.Ok h w) (hf : s.Free) : baseF (wideR s w) (h + 1) w = baseF s h w := by
  unfold baseF
  simp only [SU]
  rw [(wide_last ok hf).1, Int.add_zero]
  exact su_congr fun i hi => (wide_row ok hf hi).1
theorem wide_ctab (ok : s.Ok h w) (hf : s.Free) : ctab (wideR s w) (h + 1) w = ctab s h w ++ [(List.range w).map fun _ => 0] := by
  have ec : ∀ j, j < w → amF (wideR s w) (h + 1) w false j = amF s h w false j := fun j hj => by
    unfold amF
    rw [wide_tot ok hf, wide_needS ok hf]
    exact amtF_congr (fun k hk => (wide_col ok hf (by omega)).1) (fun k hk => (wide_col ok hf (by omega)).2)
  have er : ∀ i, i < h → amF (wideR s w) (h + 1) w true i = amF s h w true i := fun i hi => by
    unfold amF
    rw [wide_tot ok hf, wide_needS ok hf]
    exact amtF_congr (fun k hk => (wide_row ok hf (by omega)).2.1) (fun k hk => (wide_row ok hf (by omega)).2.2)
  have el : amF (wideR s w) (h + 1) w true h = 0 := by
    unfold amF amtF
    simp only [SU]
    rw [(wide_last ok hf).2.1, (wide_last ok hf).2.2]
    omega
  have hm := range_more (a := (List.range w).map fun _ => (0 : Int)) (f := fun i => (List.range w).map (ctF s h w i)) (n := h) rfl
  unfold ctab tabF
  rw [hm]
  refine List.map_congr_left fun i hi => ?_
  have hi := List.mem_range.mp hi
  by_cases l : i < h
  · rw [if_pos l]
    refine List.map_congr_left fun j hj => ?_
    have hj := List.mem_range.mp hj
    unfold ctF
    rw [xF_congr (R := amF (wideR s w) (h + 1) w true) (R' := amF s h w true) (C := amF (wideR s w) (h + 1) w false) (C' := amF s h w false) (fun k hk => er k (by omega)) (fun k hk => ec k (by omega))]
    have : cellV (wideR s w).lows (i, j) = cellV s.lows (i, j) := by
      rw [wideR_fS ok hf]
      refine (tabF_cell (f := fun i j => if i < h then cellV s.lows (i, j) else 0) hi hj).trans ?_
      rw [if_pos l]
    rw [this]
  · have : i = h := by omega
    subst this
    rw [if_neg l]
    refine List.map_congr_left fun j hj => ?_
    have hj := List.mem_range.mp hj
    unfold ctF
    have : cellV (wideR s w).lows (i, j) = 0 := by
      rw [wideR_fS ok hf]
      refine (tabF_cell (f := fun k j => if k < i then cellV s.lows (k, j) else 0) hi hj).trans ?_
      rw [if_neg l]
    rw [this]
    unfold xF clp
    simp only [SU]
    rw [el]
    omega
theorem rowR_ok (ok : s.Ok h w) {i : Nat} {a : Int × Int} (ha : SpO a) : (rowR s i a).Ok h w :=
  ⟨ok.h1, ok.w1, ok.lows, ok.pos, ok.hl, ok.hw, ok.high, by show (s.rows.set i a).length = h; rw [List.length_set]; exact ok.rl, fun x hx => (by
    rcases List.mem_or_eq_of_mem_set hx with hx | rfl
    · exact ok.ro x hx
    · exact ha), ok.cl, ok.co⟩
theorem rowR_span (ok : s.Ok h w) {i k : Nat} {a : Int × Int} (hi : i < h) : spanAt (rowR s i a) true k = if k = i then a else spanAt s true k := by
  show (s.rows.set i a).getD k (0, 0) = _
  rw [List.getD_eq_getElem?_getD, List.getElem?_set]
  by_cases e : i = k
  · subst e
    rw [if_pos rfl, if_pos rfl, if_pos (by rw [ok.rl]; exact hi)]; rfl
  · rw [if_neg e, if_neg (fun z => e z.symm), ← List.getD_eq_getElem?_getD]; rfl
theorem rowR_need (ok : s.Ok h w) {i k : Nat} {lo : Int} (hi : i < h) (hl : (spanAt s true i).1 ≤ lo) (b : Bool) : needAt s w b k ≤ needAt (rowR s i (lo, (spanAt s true i).2)) w b k ∧ roomAt (rowR s i (lo, (spanAt s true i).2)) w b k = roomAt s w b k := by
  have el : lowAt (rowR s i (lo, (spanAt s true i).2)) w b k = lowAt s w b k := rfl
  unfold needAt roomAt
  rw [el]
  cases b
  · exact ⟨Int.le_refl _, rfl⟩
  · rw [rowR_span ok hi]
    by_cases e : k = i
    · subst e
      rw [if_pos rfl]
      refine ⟨?_, rfl⟩
      show max 0 ((spanAt s true k).1 - lowAt s w true k) ≤ max 0 (lo - lowAt s w true k)
      omega
    · rw [if_neg e]; exact ⟨Int.le_refl _, rfl⟩
theorem rowR_tot (ok : s.Ok h w) {i : Nat} {lo : Int} (hi : i < h) (hl : (spanAt s true i).1 ≤ lo) : totF s h w ≤ totF (rowR s i (lo, (spanAt s true i).2)) h w ∧ mstF (rowR s i (lo, (spanAt s true i).2)) h w = mstF s h w := by
  have e1 : ∀ b, needSum s h w b ≤ needSum (rowR s i (lo, (spanAt s true i).2)) h w b := fun b => by
    rw [needSum_su, needSum_su]; exact su_mono fun k _ => (rowR_need ok hi hl b).1
  have e2 : ∀ b, roomSum (rowR s i (lo, (spanAt s true i).2)) h w b = roomSum s h w b := fun b => by
    rw [roomSum_su, roomSum_su]; exact su_congr fun k _ => (rowR_need ok hi hl b).2
  have h1 := e1 true
  have h2 := e1 false
  unfold totF mstF
  rw [e2, e2]
  exact ⟨by omega, rfl⟩
def exactR (s : Raw) (h w : Nat) : Raw := ⟨s.lows, s.highs, (List.range h).map fun i => (lowAt s w true i + amF s h w true i, lowAt s w true i + amF s h w true i), s.cols⟩
theorem low_pos (ok : s.Ok h w) {b : Bool} {i : Nat} (hi : i < many h w b) : 0 ≤ lowAt s w b i := by
  rw [low_ln ok hi]
  cases b
  · exact su_pos fun k hk => cell_pos ok hk hi
  · exact su_pos fun k hk => cell_pos ok hi hk
theorem exactR_ok (ok : s.Ok h w) (n : NoReas s h w) : (exactR s h w).Ok h w :=
  ⟨ok.h1, ok.w1, ok.lows, ok.pos, ok.hl, ok.hw, ok.high, by simp [exactR], fun x hx => (by
    obtain ⟨i, hi, rfl⟩ := List.mem_map.mp hx
    have hi := List.mem_range.mp hi
    have := low_pos ok (b := true) hi
    have := am_pos ok n (b := true) hi
    simp only
    omega), ok.cl, ok.co⟩
theorem exact_need (ok : s.Ok h w) (n : NoReas s h w) {i : Nat} (hi : i < h) : needAt (exactR s h w) w true i = amF s h w true i ∧ roomAt (exactR s h w) w true i = amF s h w true i := by
  have e : spanAt (exactR s h w) true i = (lowAt s w true i + amF s h w true i, lowAt s w true i + amF s h w true i) := by
    show ((List.range h).map _).getD i (0, 0) = _
    rw [List.getD_eq_getElem?_getD, List.getElem?_map, List.getElem?_range hi]; rfl
  have el : lowAt (exactR s h w) w true i = lowAt s w true i := rfl
  have := am_pos ok n (b := true) hi
  unfold needAt roomAt
  rw [e, el]
  simp only
  omega
theorem exact_sums (ok : s.Ok h w) (n : NoReas s h w) : needSum (exactR s h w) h w true = totF s h w ∧ roomSum (exactR s h w) h w true = totF s h w := by
  rw [needSum_su, roomSum_su, ← am_sum ok n true]
  exact ⟨su_congr fun i hi => (exact_need ok n hi).1, su_congr fun i hi => (exact_need ok n hi).2⟩
theorem exact_nr (ok : s.Ok h w) (n : NoReas s h w) : NoReas (exactR s h w) h w := ⟨fun b i hi => by
  cases b
  · exact n.room false i hi
  · rw [(exact_need ok n hi).2]; exact am_pos ok n hi, fun b => by
  obtain ⟨e1, e2⟩ := exact_sums ok n
  cases b
  · rw [Bool.not_false, e2]; exact (tot_le ok n false).1
  · rw [Bool.not_true, e1]; exact (tot_le ok n false).2⟩
theorem exact_tot (ok : s.Ok h w) (n : NoReas s h w) : totF (exactR s h w) h w = totF s h w ∧ mstF (exactR s h w) h w = totF s h w := by
  obtain ⟨e1, e2⟩ := exact_sums ok n
  have h1 := tot_le ok n false
  have e3 : needSum (exactR s h w) h w false = needSum s h w false := rfl
  have e4 : roomSum (exactR s h w) h w false = roomSum s h w false := rfl
  refine ⟨?_, ?_⟩
  · show max (needSum (exactR s h w) h w true) (needSum (exactR s h w) h w false) = _
    rw [e1, e3]; omega
  · unfold mstF
    rw [e2, e4]; omega
end
end VL
end
section
set_option linter.all false
set_option maxRecDepth 100000
set_option maxHeartbeats 2000000
namespace VL
open PySem L2
def D.len : D → Nat
  | .tup xs => xs.length
  | .lst xs => xs.length
  | _ => 0
/-- small data -/
structure Sm (n : Nat) (d : D) : Prop where
  kdd : d.kdd = true
  plain : d.plain = true
  dep : d.dep ≤ n
theorem Sm.mono {n m : Nat} {d : D} (h : Sm n d) (hm : n ≤ m) : Sm m d := ⟨h.kdd, h.plain, by have := h.dep; omega⟩
theorem Sm.tup {n : Nat} {ds : List D} (h : ∀ d ∈ ds, Sm n d) : Sm (n + 1) (.tup ds) := ⟨by unfold D.kdd; exact kddAll_of fun x hx => (h x hx).kdd, by unfold D.plain; exact plainAll_of fun x hx => (h x hx).plain, by have := depAll_of fun x hx => (h x hx).dep; simp only [D.dep]; omega⟩
theorem Sm.lst {n : Nat} {ds : List D} (h : ∀ d ∈ ds, Sm n d) : Sm (n + 1) (.lst ds) := ⟨by unfold D.kdd; exact kddAll_of fun x hx => (h x hx).kdd, by unfold D.plain; exact plainAll_of fun x hx => (h x hx).plain, by have := depAll_of fun x hx => (h x hx).dep; simp only [D.dep]; omega⟩
theorem Sm.mem {n : Nat} {ds : List D} (h : Sm (n + 1) (.tup ds)) : ∀ d ∈ ds, Sm n d := fun d hd => ⟨kddAll_mem (by simpa [D.kdd] using h.kdd) d hd, plainAll_mem (by simpa [D.plain] using h.plain) d hd, by have := h.dep; simp only [D.dep] at this; have := depAll_mem hd; omega⟩
theorem Sm.int {n : Nat} {i : Int} : Sm n (.int i) := ⟨rfl, rfl, Nat.zero_le _⟩
theorem Sm.non {n : Nat} : Sm n .non := ⟨rfl, rfl, Nat.zero_le _⟩
theorem Sm.bl {n : Nat} {b : Bool} : Sm n (.bl b) := ⟨rfl, rfl, Nat.zero_le _⟩
theorem Sm.str {n : Nat} {s : String} : Sm n (.str (Str.ofString s)) := ⟨rfl, by simp [D.plain], Nat.zero_le _⟩
theorem Sm.row {r : List Int} : Sm 1 (rowD r) := Sm.tup fun d hd => by obtain ⟨n, _, rfl⟩ := List.mem_map.mp hd; exact Sm.int
theorem Sm.tab {t : List (List Int)} : Sm 2 (tabD t) := Sm.tup fun d hd => by obtain ⟨n, _, rfl⟩ := List.mem_map.mp hd; exact Sm.row
theorem Sm.dat {n : Nat} {d : D} (h : Sm n d) (hn : n ≤ 50) : d.Dat := ⟨h.kdd, h.plain, by have := h.dep; omega⟩
theorem tupD_len : ∀ d : D, (tupD d).len = d.len
  | .tup xs => by simp only [tupD, D.len, tupAll_map, List.length_map]
  | .lst xs => by simp only [tupD, D.len, tupAll_map, List.length_map]
  | .non => rfl
  | .bl _ => rfl
  | .int _ => rfl
  | .str _ => rfl
  | .obj _ _ => rfl
  | .scr _ => rfl
  | .ty _ => rfl
  | .ref _ => rfl
  | .glob _ => rfl
/-- what a bent value may be -/
inductive BVal : D → Prop
  | cor (x : D) : x.Dat → BVal (cornerO x)
  | une (x : D) : x.Dat → x.len ≤ 1000 → BVal (unevenO x)
  | dat (d : D) : d.Dat → BVal d
/-- what is told -/
inductive Told (h w : Nat) : D → Prop
  | cor (t : List (List Int)) : IsT h w t → Told h w (cornerO (tabD t))
  | une (r : D) : r ∈ reasL h w → Told h w (unevenO r)
theorem dat_noC {d : D} (h : d.plain = true) (c : Str) : d.isC c = false := by
  cases d <;> first | rfl | (simp [D.plain] at h)
section
variable {μ : Mu} {P : D → Mu → Prop} {s : Raw} {h w : Nat}
end
end VL
end
section
set_option linter.all false
set_option maxRecDepth 100000
set_option maxHeartbeats 2000000
namespace VL
open PySem L2
structure St where
  b : Bool
  i : Nat
  k : Option Nat
  lo : Bool
def plI : Option Nat → Int
  | none => -1
  | some k => k
def endS (lo : Bool) : Str := if lo then "low" else "high"
def stD (t : St) : D := .tup [.str (wordS t.b), .int (t.i : Nat), .int (plI t.k), .str (endS t.lo)]
/-- how long a line is -/
def len (h w : Nat) (b : Bool) : Nat := many h w (!b)
def cellAt (b : Bool) (i k : Nat) : Nat × Nat := if b then (i, k) else (k, i)
structure OkSt (h w : Nat) (t : St) : Prop where
  i : t.i < many h w t.b
  k : ∀ k, t.k = some k → k < len h w t.b
def places (n : Nat) : List (Option Nat) := none :: (List.range n).map some
def stepsAt (h w : Nat) (b : Bool) (i : Nat) (k : Option Nat) : List St := [⟨b, i, k, false⟩, ⟨b, i, k, true⟩]
def stepsLn (h w : Nat) (b : Bool) (i : Nat) : List St := (places (len h w b)).flatMap (stepsAt h w b i)
def stepsW (h w : Nat) (b : Bool) : List St := (List.range (many h w b)).flatMap (stepsLn h w b)
def steps (h w : Nat) : List St := [false, true].flatMap (stepsW h w)
theorem places_mem {n : Nat} {k : Option Nat} : k ∈ places n ↔ ∀ m, k = some m → m < n := by
  unfold places
  cases k with
  | none => simp
  | some m => simp
theorem steps_mem {h w : Nat} {t : St} : t ∈ steps h w ↔ OkSt h w t := by
  unfold steps stepsW stepsLn stepsAt
  simp only [List.mem_flatMap, List.mem_cons, List.not_mem_nil, or_false, List.mem_range]
  constructor
  · rintro ⟨b, _, i, hi, k, hk, rfl | rfl⟩ <;> exact ⟨hi, places_mem.mp hk⟩
  · rintro ⟨hi, hk⟩
    obtain ⟨b, i, k, lo⟩ := t
    refine ⟨b, by cases b <;> simp, i, hi, k, places_mem.mpr hk, ?_⟩
    cases lo
    · exact .inl rfl
    · exact .inr rfl
theorem rng_places (n : Nat) : rng (-1) (n + 1) = (places n).map fun k => .int (plI k) := by
  unfold rng places
  rw [List.range_succ_eq_map, List.map_cons, List.map_cons, List.map_map, List.map_map]
  refine congr (congrArg List.cons rfl) (List.map_congr_left fun i _ => ?_)
  simp [plI]
  omega
theorem sum_const {n c : Nat} : ((List.range n).map fun _ => c).sum = n * c := by
  rw [List.map_const', List.sum_replicate_nat, List.length_range]
theorem stepsLn_len {h w : Nat} {b : Bool} {i : Nat} : (stepsLn h w b i).length = 2 * (len h w b + 1) := by
  unfold stepsLn places stepsAt
  rw [List.length_flatMap]
  have e : (List.map ((fun a => 2) ∘ some) (List.range (len h w b))).sum = len h w b * 2 := sum_const
  simp [e]
  omega
theorem stepsW_len {h w : Nat} {b : Bool} : (stepsW h w b).length = many h w b * (2 * (len h w b + 1)) := by
  unfold stepsW
  rw [List.length_flatMap, List.map_congr_left (g := fun _ => 2 * (len h w b + 1)) fun i _ => stepsLn_len, sum_const]
theorem for_ext {α : Type} {w : Wk} {g : VG} {s : VS} {E : Ed} {ι : α → D} {as : List α} {μ : Mu} (f : α → List D) (J : Ro → Prop) (hw : ∀ μ, w.holds μ) {acc0 : List D}
    (step : ∀ a ∈ as, ∀ acc ρ, acc.length + (f a).length ≤ acc0.length + (as.flatMap f).length → J ρ → Wg g (ι a) ρ (μ ++ [.lst acc]) fun ρ1 μ1 => Ws s ρ1 μ1 ⟨fun ρ2 μ2 => J ρ2 ∧ μ2 = μ ++ [.lst (acc ++ f a)], E.rt, fun _ _ => False, fun ρ2 μ2 => J ρ2 ∧ μ2 = μ ++ [.lst (acc ++ f a)]⟩)
    (fin : ∀ ρ, J ρ → E.nx ρ (μ ++ [.lst (acc0 ++ as.flatMap f)])) {ρ : Ro} (h0 : J ρ) : Ws (forL w g s (as.map ι)) ρ (μ ++ [.lst acc0]) E := by
  refine for_inv (fun rem ρ μ' => ∃ k, k ≤ as.length ∧ rem = (as.drop k).map ι ∧ J ρ ∧ μ' = μ ++ [.lst (acc0 ++ (as.take k).flatMap f)]) ?_ ?_ _ _ _ ⟨0, by simp, by simp, h0, by simp⟩
  · rintro x rem ρ μ' ⟨k, hk, hr, hJ, rfl⟩
    refine ⟨hw _, ?_⟩
    have hkl : k < as.length := by
      by_cases h : k < as.length
      · exact h
      · rw [List.drop_eq_nil_of_le (by omega)] at hr; cases hr
    have hdr := List.drop_eq_getElem_cons hkl
    rw [hdr, List.map_cons] at hr
    injection hr with e1 e2
    subst e1
    have hlen : (acc0 ++ (as.take k).flatMap f).length + (f as[k]).length ≤ acc0.length + (as.flatMap f).length := by
      have : as.flatMap f = (as.take k).flatMap f ++ (f as[k] ++ (as.drop (k + 1)).flatMap f) := by
        rw [← List.flatMap_cons, ← hdr, ← List.flatMap_append, List.take_append_drop]
      rw [this]
      simp only [List.length_append]
      omega
    obtain ⟨ρ1, μ1, h1, h2⟩ := step _ (List.getElem_mem hkl) _ ρ hlen hJ
    refine ⟨ρ1, μ1, h1, ?_⟩
    have nxt : ∀ ρ2 μ2, (J ρ2 ∧ μ2 = μ ++ [.lst (acc0 ++ (as.take k).flatMap f ++ f as[k])]) → ∃ k, k ≤ as.length ∧ rem = (as.drop k).map ι ∧ J ρ2 ∧ μ2 = μ ++ [.lst (acc0 ++ (as.take k).flatMap f)] := fun ρ2 μ2 ⟨b1, b2⟩ => ⟨k + 1, hkl, e2, b1, by
      rw [b2, List.take_succ_eq_append_getElem hkl, List.flatMap_append, List.flatMap_cons, List.flatMap_nil, List.append_nil, List.append_assoc]⟩
    show Ws s ρ1 μ1 _
    unfold Ws at h2 ⊢
    cases hs : s ρ1 μ1 with
    | none => rw [hs] at h2; exact h2.elim
    | some f =>
      rw [hs] at h2
      cases f with
      | nx ρ2 μ2 => exact nxt _ _ h2
      | rt d μ2 => exact h2
      | bk ρ2 μ2 => exact h2.elim
      | ct ρ2 μ2 => exact nxt _ _ h2
      | er _ _ _ => exact h2.elim
  · rintro ρ μ' ⟨k, hk, hr, hJ, rfl⟩
    have : as.length ≤ k := by
      by_cases h : k < as.length
      · rw [List.drop_eq_getElem_cons h] at hr; cases hr
      · omega
    rw [List.take_of_length_le this]
    exact ⟨hw _, fin ρ hJ⟩
theorem ws_while_m {t : VT} {s : VS} {E : Ed} (J : Nat → Ro → Mu → Prop)
    (step : ∀ n ρ μ, J n ρ μ → Wt t ρ μ fun k μ1 => if k = true then Ws s ρ μ1 ⟨fun ρ2 μ2 => ∃ n', n' < n ∧ J n' ρ2 μ2, E.rt, E.nx, fun ρ2 μ2 => ∃ n', n' < n ∧ J n' ρ2 μ2⟩ else E.nx ρ μ1) : ∀ (n : Nat) (ρ : Ro) (μ : Mu), J n ρ μ → Ws (sWhile t s) ρ μ E := by
  have key : ∀ (n : Nat) (ρ : Ro) (μ : Mu), J n ρ μ → ∃ m r, whileN t s m ρ μ = some r ∧ Wfl (some r) E := by
    intro n
    induction n using Nat.strongRecOn with
    | _ n ih =>
      intro ρ μ h
      obtain ⟨k, μ1, e1, h1⟩ := step n ρ μ h
      cases k with
      | false => exact ⟨1, .nx ρ μ1, by unfold whileN; rw [e1]; rfl, h1⟩
      | true =>
        simp only [if_true] at h1
        unfold Ws at h1
        cases hs : s ρ μ1 with
        | none => rw [hs] at h1; exact h1.elim
        | some f =>
          rw [hs] at h1
          cases f with
          | nx ρ2 μ2 =>
            obtain ⟨n', hn, hJ⟩ := h1
            obtain ⟨m, r, e, q⟩ := ih n' hn ρ2 μ2 hJ
            exact ⟨m + 1, r, by unfold whileN; rw [e1]; simp only [bs_ok, if_true, hs]; exact e, q⟩
          | ct ρ2 μ2 =>
            obtain ⟨n', hn, hJ⟩ := h1
            obtain ⟨m, r, e, q⟩ := ih n' hn ρ2 μ2 hJ
            exact ⟨m + 1, r, by unfold whileN; rw [e1]; simp only [bs_ok, if_true, hs]; exact e, q⟩
          | rt d μ2 => exact ⟨1, .rt d μ2, by unfold whileN; rw [e1]; simp only [bs_ok, if_true, hs], h1⟩
          | bk ρ2 μ2 => exact ⟨1, .nx ρ2 μ2, by unfold whileN; rw [e1]; simp only [bs_ok, if_true, hs], h1⟩
          | er _ _ _ => exact h1.elim
  intro n ρ μ h
  obtain ⟨m, r, e, q⟩ := key n ρ μ h
  unfold Ws
  rw [sWhile_eq e]
  exact q
section
variable {μ : Mu} {P : D → Mu → Prop} {s : Raw} {h w : Nat}
theorem endS_ok (lo : Bool) : PyData.strOk (endS lo) = true := by cases lo <;> exact strOk_of _
theorem wordS_ok (b : Bool) : PyData.strOk (wordS b) = true := by cases b <;> exact strOk_of _
theorem line_cells_w (ok : s.Ok h w) (hh : h ≤ 1000) (hw : w ≤ 1000) {b : Bool} {i : Nat} (q : P (.lst ((List.range (len h w b)).map fun j => cellD (cellAt b i j))) μ) : Wf f_line_cells [sheetO s, .str (wordS b), .int (i : Nat)] μ P := by
  unfold f_line_cells
  rw [wf_def]
  simp
  refine shape_of_w ok ?_
  have ha := wordS_ok b
  simp [ha]
  have hu : ∀ n, (D.lst ((List.range (len h w b)).map fun j => cellD (cellAt b i j))).und n = true := fun n => by unfold D.und; exact map_und (fun _ => rfl) _
  cases b
  · refine .inl ⟨by simp [wordS], by omega, ?_⟩
    rw [rng0]
    refine comp_mapA (fun j => cellD (cellAt false i j)) holds_nil (fun j _ => by simp [wipe, cellD, cellAt]) ?_
    exact wcl_same (hu _) q
  · refine .inr ⟨rfl, by omega, ?_⟩
    rw [rng0]
    refine comp_mapA (fun j => cellD (cellAt true i j)) holds_nil (fun j _ => by simp [wipe, cellD, cellAt]) ?_
    exact wcl_same (hu _) q
theorem all_steps_w (ok : s.Ok h w) (hh : h ≤ 100) (hw : w ≤ 100) (q : P (.lst ((steps h w).map stD)) μ) : Wf f_all_steps [sheetO s] μ P := by
  unfold f_all_steps
  rw [wf_def]
  simp
  refine ⟨[false, true].map fun b => .str (wordS b), rfl, ?_⟩
  have hbnd : ∀ b, (stepsW h w b).length ≤ 100 * (2 * 101) := fun b => by
    rw [stepsW_len]
    refine Nat.mul_le_mul ?_ (Nat.mul_le_mul_left 2 ?_)
    · cases b <;> simp [many] <;> omega
    · cases b <;> simp [len, many] <;> omega
  have hL : ∀ b, (((stepsW h w b).map stD).length) ≤ 20200 := fun b => by rw [List.length_map]; exact hbnd b
  have hT : ([false, true].flatMap fun b => (stepsW h w b).map stD).length ≤ 40400 := by
    have h1 := hL false
    have h2 := hL true
    rw [List.flatMap_cons, List.flatMap_cons, List.flatMap_nil, List.append_nil, List.length_append]
    omega
  refine for_ext (fun b => (stepsW h w b).map stD) (fun ρ => ∃ a b c d, ρ = [some (sheetO s), some (.ref μ.length), a, b, c, d]) (fun _ => holds_nil) (fun b hb acc ρ hl hJ => ?_) (fun ρ hJ => ?_) ⟨_, _, _, _, rfl⟩
  · obtain ⟨a1, a2, a3, a4, rfl⟩ := hJ
    simp
    refine lines_many_w' ok ?_
    refine ⟨_, rfl, by have : many h w b ≤ 100 := by (cases b <;> simp [many] <;> omega)
                       refine ⟨?_, ?_, ?_⟩ <;> omega, ?_⟩
    simp only [Int.toNat_natCast]
    rw [rng0]
    have e1 : (stepsW h w b).map stD = (List.range (many h w b)).flatMap fun i => (stepsLn h w b i).map stD := by
      unfold stepsW; rw [List.map_flatMap]
    rw [e1] at hl ⊢
    have htot := hL b
    rw [e1] at htot
    refine for_ext (fun i => (stepsLn h w b i).map stD) (fun ρ => ∃ b' c d, ρ = [some (sheetO s), some (.ref μ.length), some (.str (wordS b)), b', c, d]) (fun _ => holds_nil) (fun i hi acc2 ρ hl2 hJ => ?_) (fun ρ hJ => ?_) ⟨_, _, _, rfl⟩
    · obtain ⟨a1, a2, a3, rfl⟩ := hJ
      simp
      refine line_cells_w ok (by omega) (by omega) ?_
      simp
      have hlen : len h w b ≤ 100 := by (cases b <;> simp [len, many] <;> omega)
      refine ⟨by omega, ?_⟩
      rw [rng_places]
      have e2 : (stepsLn h w b i).map stD = (places (len h w b)).flatMap fun k => (stepsAt h w b i k).map stD := by
        unfold stepsLn; rw [List.map_flatMap]
      rw [e2] at hl2 ⊢
      refine for_ext (fun k => (stepsAt h w b i k).map stD) (fun ρ => ∃ c d, ρ = [some (sheetO s), some (.ref μ.length), some (.str (wordS b)), some (.int (i : Nat)), c, d]) (fun _ => holds_nil) (fun k hk acc3 ρ hl3 hJ => ?_) (fun ρ hJ => ?_) ⟨_, _, rfl⟩
      · obtain ⟨a1, a2, rfl⟩ := hJ
        simp [end_lst]
        refine ⟨[false, true].map fun lo => .str (endS lo), rfl, ?_⟩
        refine comp_mapA (fun lo => stD ⟨b, i, k, lo⟩) holds_nil (fun lo _ => by simp [wipe, stD]) ?_
        rw [List.nil_append, end_extend]
        refine ⟨?_, by simp [stepsAt]⟩
        have : ((stepsAt h w b i k).map stD).length = 2 := rfl
        rw [this] at hl3
        show acc3.length + 2 ≤ 16777216
        simp only [List.length_nil] at hl
        omega
      · obtain ⟨a1, a2, rfl⟩ := hJ
        exact ⟨⟨_, _, _, rfl⟩, rfl⟩
    · obtain ⟨a1, a2, a3, rfl⟩ := hJ
      exact ⟨⟨_, _, _, _, rfl⟩, rfl⟩
  · obtain ⟨a1, a2, a3, a4, rfl⟩ := hJ
    simp
    have e : (stepsW h w false).map stD ++ (stepsW h w true).map stD = (steps h w).map stD := by
      unfold steps
      rw [List.flatMap_cons, List.flatMap_cons, List.flatMap_nil, List.append_nil, List.map_append]
    rw [e]
    refine wcl_own keeps_end (Nat.le_refl _) (List.getElem?_concat_length ..) (map_und (fun _ => rfl) _) ?_
    rw [List.take_left]; exact q
end
end VL
end
section
set_option linter.all false
set_option maxRecDepth 100000
set_option maxHeartbeats 2000000
namespace VL
open PySem L2
def oAt (t : List (List (Option Int))) (c : Nat × Nat) : Option Int := (t.getD c.1 []).getD c.2 none
def othI (n : Nat) (k : Option Nat) : List Nat := (List.range n).filter fun j => decide (some j ≠ k)
def othL (t : List (List Int)) (n : Nat) (b : Bool) (i : Nat) (k : Option Nat) : List Int := (othI n k).map fun j => cellV t (cellAt b i j)
def othO (t : List (List (Option Int))) (n : Nat) (b : Bool) (i : Nat) (k : Option Nat) : List (Option Int) := (othI n k).map fun j => oAt t (cellAt b i j)
def sumO (xs : List (Option Int)) : Option Int := if xs.any Option.isNone then none else some (xs.map fun o => o.getD 0).sum
/-- what a step tells -/
def numO (s : Raw) (h w : Nat) (t : St) : Option Int :=
  let n := len h w t.b
  match t.k with
  | none => if t.lo then some (othL s.lows n t.b t.i none).sum else sumO (othO s.highs n t.b t.i none)
  | some k => if t.lo then (sumO (othO s.highs n t.b t.i (some k))).map fun m => (spanAt s t.b t.i).1 - m else some ((spanAt s t.b t.i).2 - (othL s.lows n t.b t.i (some k)).sum)
/-- what it is about -/
def bndO (s : Raw) (t : St) : Int × Option Int := match t.k with
  | none => ((spanAt s t.b t.i).1, some (spanAt s t.b t.i).2)
  | some k => (cellV s.lows (cellAt t.b t.i k), oAt s.highs (cellAt t.b t.i k))
def bD (a : Int × Option Int) : D := .tup [.int a.1, optD a.2]
def takesB (s : Raw) (h w : Nat) (t : St) : Bool := match numO s h w t with
  | none => false
  | some n => if t.lo then decide ((bndO s t).1 < n) else match (bndO s t).2 with
    | none => true
    | some m => decide (n < m)
def behO (s : Raw) (h w : Nat) (t : St) : Option Int × Option Int := if t.lo then (numO s h w t, (bndO s t).2) else (some (bndO s t).1, numO s h w t)
def breaksB (s : Raw) (h w : Nat) (t : St) : Bool := match behO s h w t with
  | (some a, some m) => decide (m < a)
  | _ => false
theorem plI_eq {j : Nat} {k : Option Nat} : ((j : Int) = plI k) ↔ some j = k := by
  cases k with
  | none => simp [plI]
  | some m => simp [plI]; omega
theorem plI_none {k : Option Nat} : (plI k = -1) ↔ k = none := by
  cases k with
  | none => simp [plI]
  | some m => simp [plI]
theorem endS_low {lo : Bool} : (endS lo = Str.ofString "low") ↔ lo = true := by cases lo <;> simp [endS]
theorem endS_high {lo : Bool} : (endS lo = Str.ofString "high") ↔ lo = false := by cases lo <;> simp [endS]
theorem enum_map {n : Nat} {f : Nat → D} : ((List.range n).map f).zipIdx.map (fun p => D.tup [.int (p.2 : Nat), p.1]) = (List.range n).map fun j => .tup [.int (j : Nat), f j] := by
  refine List.ext_getElem? fun i => ?_
  rw [List.getElem?_map, List.getElem?_map, List.getElem?_zipIdx, List.getElem?_map]
  by_cases h : i < n
  · rw [List.getElem?_range h]; simp
  · rw [List.getElem?_eq_none (by rw [List.length_range]; omega)]; rfl
theorem cell_in {h w i j : Nat} {b : Bool} (hi : i < many h w b) (hj : j < len h w b) : (cellAt b i j).1 < h ∧ (cellAt b i j).2 < w := by
  cases b
  · exact ⟨hj, hi⟩
  · exact ⟨hi, hj⟩
section
variable {μ : Mu} {P : D → Mu → Prop} {s : Raw} {h w : Nat} {b lo : Bool} {i : Nat} {k : Option Nat}
theorem high_o (ok : s.Ok h w) {c : Nat × Nat} (hc : c.1 < h ∧ c.2 < w) : ∃ r, s.highs[c.1]? = some r ∧ r[c.2]? = some (oAt s.highs c) := high_row ok hc
theorem othI_lt {n j : Nat} (hj : j ∈ othI n k) : j < n := List.mem_range.mp (List.mem_filter.mp hj).1
theorem others_lows_w (ok : s.Ok h w) (hh : h ≤ 100) (hw : w ≤ 100) (hi : i < many h w b) (q : P (.lst ((othL s.lows (len h w b) b i k).map D.int)) μ) : Wf f_others_by [sheetO s, stD ⟨b, i, k, lo⟩, tabD s.lows] μ P := by
  unfold f_others_by
  rw [wf_def]
  unfold stD
  simp [cut_to]
  refine line_cells_w ok (by omega) (by omega) ?_
  refine ⟨_, rfl, ?_⟩
  rw [enum_map]
  refine comp_filterA (fun j => decide (some j ≠ k)) (fun j => .int (cellV s.lows (cellAt b i j))) holds_nil (fun j hj => ?_) ?_
  · obtain ⟨r, z1, z2⟩ := cell_row ok.lows (cell_in hi (List.mem_range.mp hj))
    have hp := plI_eq (j := j) (k := k)
    have y1 := fun μ (P : D → Mu → Prop) => tab_nth (μ := μ) (P := P) z1
    have y2 := fun μ (P : D → Mu → Prop) => row_nth (μ := μ) (P := P) z2
    simp [wipe, cellD, hp, y1, y2]
    exact Classical.em _
  · rw [List.nil_append]
    have e : ((List.range (len h w b)).filter fun j => decide (some j ≠ k)).map (fun j => D.int (cellV s.lows (cellAt b i j))) = (othL s.lows (len h w b) b i k).map D.int := by
      unfold othL othI; rw [List.map_map]; rfl
    rw [e]
    exact wcl_same (by unfold D.und; exact und_ints _ _) q
theorem others_highs_w (ok : s.Ok h w) (hh : h ≤ 100) (hw : w ≤ 100) (hi : i < many h w b) (q : P (.lst ((othO s.highs (len h w b) b i k).map optD)) μ) : Wf f_others_by [sheetO s, stD ⟨b, i, k, lo⟩, tabO s.highs] μ P := by
  unfold f_others_by
  rw [wf_def]
  unfold stD
  simp [cut_to]
  refine line_cells_w ok (by omega) (by omega) ?_
  refine ⟨_, rfl, ?_⟩
  rw [enum_map]
  refine comp_filterA (fun j => decide (some j ≠ k)) (fun j => optD (oAt s.highs (cellAt b i j))) holds_nil (fun j hj => ?_) ?_
  · obtain ⟨r, z1, z2⟩ := high_o ok (cell_in hi (List.mem_range.mp hj))
    have hp := plI_eq (j := j) (k := k)
    have y1 := fun μ (P : D → Mu → Prop) => tabO_nth (μ := μ) (P := P) z1
    have y2 := fun μ (P : D → Mu → Prop) => rowO_nth (μ := μ) (P := P) z2
    simp [wipe, cellD, hp, y1, y2]
    exact Classical.em _
  · rw [List.nil_append]
    have e : ((List.range (len h w b)).filter fun j => decide (some j ≠ k)).map (fun j => optD (oAt s.highs (cellAt b i j))) = (othO s.highs (len h w b) b i k).map optD := by
      unfold othO othI; rw [List.map_map]; rfl
    rw [e]
    exact wcl_same (by unfold D.und; exact map_und (opt_und _) _) q
theorem any_none : ∀ xs : List (Option Int), (xs.map fun o => (match optD o with | .non => true | _ => false)).any id = xs.any Option.isNone
  | [] => rfl
  | o :: xs => by
    rw [List.map_cons, List.any_cons, List.any_cons, any_none xs]
    cases o <;> rfl
theorem ints_opt : ∀ xs : List (Option Int), xs.any Option.isNone = false → xs.map optD = (xs.map fun o => o.getD 0).map D.int
  | [], _ => rfl
  | o :: xs, h => by
    rw [List.any_cons, Bool.or_eq_false_iff] at h
    rw [List.map_cons, List.map_cons, List.map_cons, ints_opt xs h.2]
    cases o with
    | none => cases h.1
    | some n => rfl
theorem sum_or_none_w {xs : List (Option Int)} (q : P (optD (sumO xs)) μ) : Wf f_sum_or_none [.lst (xs.map optD)] μ P := by
  unfold f_sum_or_none
  rw [wf_def]
  simp
  refine ⟨_, rfl, ?_⟩
  refine comp_mapA (fun o => .bl (match optD o with | .non => true | _ => false)) holds_nil (fun o _ => by cases o <;> simp [wipe, optD]) ?_
  rw [List.nil_append, wp_any rfl (boolsOf_map' (fun o : Option Int => (match optD o with | .non => true | _ => false)) xs), any_none]
  unfold sumO at q
  cases hb : xs.any Option.isNone
  · rw [hb] at q
    simp at q ⊢
    rw [ints_opt xs hb, wp_sum rfl (intsOf_map _)]
    exact wcl_same rfl q
  · rw [hb] at q
    simp at q ⊢
    exact wcl_same rfl q
theorem sum_ints_w {xs : List Int} (q : P (.int xs.sum) μ) : Wf f_sum_or_none [.lst (xs.map D.int)] μ P := by
  have e : xs.map D.int = (xs.map some).map optD := by rw [List.map_map]; rfl
  rw [e]
  refine sum_or_none_w ?_
  have e2 : sumO (xs.map some) = some xs.sum := by
    unfold sumO
    have : (xs.map some).any Option.isNone = false := by
      rw [List.any_eq_false]
      intro x hx
      obtain ⟨n, _, rfl⟩ := List.mem_map.mp hx
      simp
    rw [this, List.map_map]
    simp [Function.comp_def]
  rw [e2]; exact q
theorem number_by_w (ok : s.Ok h w) (hh : h ≤ 100) (hw : w ≤ 100) (hi : i < many h w b) (q : P (optD (numO s h w ⟨b, i, k, lo⟩)) μ) : Wf f_number_by [sheetO s, stD ⟨b, i, k, lo⟩] μ P := by
  unfold f_number_by
  rw [wf_def]
  have hst : stD ⟨b, i, k, lo⟩ = .tup [.str (wordS b), .int (i : Nat), .int (plI k), .str (endS lo)] := rfl
  generalize hS : stD ⟨b, i, k, lo⟩ = S at hst
  rw [hst]
  simp
  refine span_by_w ok hi ?_
  have hsp : spanD (spanAt s b i) = .tup [.int (spanAt s b i).1, .int (spanAt s b i).2] := rfl
  rw [hsp]
  have hlo := endS_ok lo
  simp [hlo, plI_none, endS_low, endS_high]
  rw [← hst, ← hS]
  unfold numO at q
  cases k with
  | none =>
    refine .inr ⟨rfl, ?_⟩
    cases lo
    · refine .inl ⟨rfl, ?_⟩
      exact others_highs_w ok hh hw hi (sum_or_none_w (wcl_same (opt_und _ _) q))
    · refine .inr ⟨rfl, ?_⟩
      exact others_lows_w ok hh hw hi (sum_ints_w (wcl_same rfl q))
  | some k =>
    refine .inl ⟨by simp, ?_⟩
    cases lo
    · refine .inr ⟨rfl, ?_⟩
      refine others_lows_w ok hh hw hi ?_
      rw [wp_sum rfl (intsOf_map _)]
      simp
      exact wcl_same rfl q
    · refine .inl ⟨rfl, ?_⟩
      refine others_highs_w ok hh hw hi (sum_or_none_w ?_)
      simp only [if_true] at q
      cases hs : sumO (othO s.highs (len h w b) b i (some k)) with
      | none => rw [hs] at q; exact .inr ⟨rfl, wcl_same rfl q⟩
      | some m =>
        rw [hs] at q
        refine .inl ⟨rfl, ?_⟩
        simp [optD]
        exact wcl_same rfl q
theorem bounds_by_w (ok : s.Ok h w) (hh : h ≤ 100) (hw : w ≤ 100) (ht : OkSt h w ⟨b, i, k, lo⟩) (q : P (bD (bndO s ⟨b, i, k, lo⟩)) μ) : Wf f_bounds_by [sheetO s, stD ⟨b, i, k, lo⟩] μ P := by
  unfold f_bounds_by
  rw [wf_def]
  unfold stD
  simp [cut_to, plI_none]
  have hi := ht.i
  cases k with
  | none =>
    refine .inr ⟨rfl, ?_⟩
    exact span_by_w ok hi (wcl_same rfl q)
  | some k =>
    refine .inl ⟨by simp, ?_⟩
    refine line_cells_w ok (by omega) (by omega) ?_
    have hk := ht.k k rfl
    simp only [plI]
    rw [wp_ixL, atI_nat' (n := k) (d := cellD (cellAt b i k)) (by rw [List.getElem?_map, List.getElem?_range hk]; rfl), ex_some]
    obtain ⟨r1, z1, z2⟩ := cell_row ok.lows (cell_in hi hk)
    obtain ⟨r2, z3, z4⟩ := high_o ok (cell_in hi hk)
    have y1 := fun μ (P : D → Mu → Prop) => tab_nth (μ := μ) (P := P) z1
    have y2 := fun μ (P : D → Mu → Prop) => row_nth (μ := μ) (P := P) z2
    have y3 := fun μ (P : D → Mu → Prop) => tabO_nth (μ := μ) (P := P) z3
    have y4 := fun μ (P : D → Mu → Prop) => rowO_nth (μ := μ) (P := P) z4
    simp [cellD, y1, y2, y3, y4]
    refine wcl_same ?_ q
    simp [D.und, undAll, opt_und]
theorem bD_und {n : Nat} {a : Int × Option Int} : (bD a).und n = true := by simp [bD, D.und, undAll, opt_und]
theorem takes_by_w (ok : s.Ok h w) (hh : h ≤ 100) (hw : w ≤ 100) (ht : OkSt h w ⟨b, i, k, lo⟩) (q : P (.bl (takesB s h w ⟨b, i, k, lo⟩)) μ) : Wf f_takes_by [sheetO s, stD ⟨b, i, k, lo⟩] μ P := by
  unfold f_takes_by
  rw [wf_def]
  simp
  refine number_by_w ok hh hw ht.i ?_
  refine bounds_by_w ok hh hw ht ?_
  unfold takesB at q
  have hb3 : ∀ μ (P : D → Mu → Prop), Wp (opIx (stD ⟨b, i, k, lo⟩) (.int 3) μ) P ↔ P (.str (endS lo)) μ := fun μ P => by
    unfold stD
    rw [wp_ixT, show atI [D.str (wordS b), .int (i : Nat), .int (plI k), .str (endS lo)] 3 = some (.str (endS lo)) from rfl, ex_some]
  have hlo := endS_ok lo
  generalize bndO s ⟨b, i, k, lo⟩ = a at q
  obtain ⟨a1, a2⟩ := a
  unfold bD
  simp [hb3, hlo, endS_low]
  cases hn : numO s h w ⟨b, i, k, lo⟩ with
  | none => rw [hn] at q; exact .inr ⟨rfl, wcl_same rfl q⟩
  | some n =>
    rw [hn] at q
    refine .inl ⟨rfl, ?_⟩
    cases lo
    · refine .inl ⟨rfl, ?_⟩
      cases a2 with
      | none => simp [optD]; exact wcl_same rfl q
      | some m => simp [optD]; exact wcl_same rfl q
    · refine .inr ⟨rfl, ?_⟩
      simp [optD]
      exact wcl_same rfl q
theorem bounds_behind_w (ok : s.Ok h w) (hh : h ≤ 100) (hw : w ≤ 100) (ht : OkSt h w ⟨b, i, k, lo⟩) (q : P (.tup [optD (behO s h w ⟨b, i, k, lo⟩).1, optD (behO s h w ⟨b, i, k, lo⟩).2]) μ) : Wf f_bounds_behind [sheetO s, stD ⟨b, i, k, lo⟩] μ P := by
  unfold f_bounds_behind
  rw [wf_def]
  simp
  refine number_by_w ok hh hw ht.i ?_
  refine bounds_by_w ok hh hw ht ?_
  unfold behO at q
  have hb3 : ∀ μ (P : D → Mu → Prop), Wp (opIx (stD ⟨b, i, k, lo⟩) (.int 3) μ) P ↔ P (.str (endS lo)) μ := fun μ P => by
    unfold stD
    rw [wp_ixT, show atI [D.str (wordS b), .int (i : Nat), .int (plI k), .str (endS lo)] 3 = some (.str (endS lo)) from rfl, ex_some]
  have hlo := endS_ok lo
  generalize bndO s ⟨b, i, k, lo⟩ = a at q
  generalize numO s h w ⟨b, i, k, lo⟩ = n at q
  obtain ⟨a1, a2⟩ := a
  unfold bD
  simp [hb3, hlo, endS_low]
  cases lo
  · refine .inl ⟨rfl, wcl_same ?_ q⟩
    simp [D.und, undAll, opt_und]
  · refine .inr ⟨rfl, wcl_same ?_ q⟩
    simp [D.und, undAll, opt_und]
theorem breaks_by_w (ok : s.Ok h w) (hh : h ≤ 100) (hw : w ≤ 100) (ht : OkSt h w ⟨b, i, k, lo⟩) (htk : takesB s h w ⟨b, i, k, lo⟩ = true) (q : P (.bl (breaksB s h w ⟨b, i, k, lo⟩)) μ) : Wf f_breaks_by [sheetO s, stD ⟨b, i, k, lo⟩] μ P := by
  unfold f_breaks_by
  rw [wf_def]
  simp
  refine bounds_behind_w ok hh hw ht ?_
  have h1 : ∃ a, (behO s h w ⟨b, i, k, lo⟩).1 = some a := by
    unfold takesB at htk
    unfold behO
    cases lo
    · exact ⟨_, rfl⟩
    · cases hn : numO s h w ⟨b, i, k, true⟩ with
      | none => rw [hn] at htk; cases htk
      | some n => exact ⟨n, rfl⟩
  obtain ⟨a, ha⟩ := h1
  unfold breaksB at q
  generalize behO s h w ⟨b, i, k, lo⟩ = p at ha q
  obtain ⟨p1, p2⟩ := p
  simp only at ha
  subst ha
  cases p2 with
  | none => simp [optD]; exact wcl_same rfl q
  | some m => simp [optD]; exact wcl_same rfl q
theorem taking_w (ok : s.Ok h w) (hh : h ≤ 100) (hw : w ≤ 100) (q : P (.lst (((steps h w).filter (takesB s h w)).map stD)) μ) : Wf f_taking [sheetO s] μ P := by
  unfold f_taking
  rw [wf_def]
  simp
  refine all_steps_w ok hh hw ?_
  refine ⟨_, rfl, ?_⟩
  refine comp_filterA (takesB s h w) stD holds_nil (fun t ht => ?_) ?_
  · have ht := steps_mem.mp ht
    obtain ⟨b, i, k, lo⟩ := t
    simp [wipe]
    refine takes_by_w ok hh hw ht ?_
    cases takesB s h w ⟨b, i, k, lo⟩ <;> simp
  · rw [List.nil_append]
    exact wcl_same (by unfold D.und; exact map_und (fun _ => rfl) _) q
end
end VL
end
section
set_option linter.all false
set_option maxRecDepth 100000
set_option maxHeartbeats 2000000
namespace VL
open PySem L2
def cellSet (s : Raw) (c : Nat × Nat) (a : Int) (m : Option Int) : Raw := ⟨s.lows.set c.1 ((s.lows.getD c.1 []).set c.2 a), s.highs.set c.1 ((s.highs.getD c.1 []).set c.2 m), s.rows, s.cols⟩
def spanSet (s : Raw) (b : Bool) (i : Nat) (a : Int × Int) : Raw := if b then ⟨s.lows, s.highs, s.rows.set i a, s.cols⟩ else ⟨s.lows, s.highs, s.rows, s.cols.set i a⟩
def behS (s : Raw) (h w : Nat) (t : St) : Raw := match t.k with
  | none => spanSet s t.b t.i ((behO s h w t).1.getD 0, (behO s h w t).2.getD 0)
  | some k => cellSet s (cellAt t.b t.i k) ((behO s h w t).1.getD 0) (behO s h w t).2
def goodB (s : Raw) (h w : Nat) (t : St) : Bool := takesB s h w t && !breaksB s h w t
theorem IsT_set {h w i j : Nat} {r : List Int} {v : Int} {t : List (List Int)} (ht : IsT h w t) (hr : r.length = w) : IsT h w (t.set i (r.set j v)) := ⟨by rw [List.length_set]; exact ht.1, fun r' hr' => by
  rcases List.mem_or_eq_of_mem_set hr' with hr' | rfl
  · exact ht.2 r' hr'
  · rw [List.length_set]; exact hr⟩
theorem get2_set {α : Type} {t : List (List α)} {d : α} {i j i' j' : Nat} {v : α} (hi : i < t.length) (hj : j < (t.getD i []).length) : ((t.set i ((t.getD i []).set j v)).getD i' []).getD j' d = if i' = i ∧ j' = j then v else (t.getD i' []).getD j' d := by
  rw [List.getD_eq_getElem?_getD (l := t.set i _), List.getElem?_set]
  by_cases e : i = i'
  · subst e
    rw [if_pos rfl, if_pos hi]
    simp only [Option.getD_some, true_and]
    rw [List.getD_eq_getElem?_getD (l := List.set _ _ _), List.getElem?_set]
    by_cases e2 : j = j'
    · subst e2
      rw [if_pos rfl, if_pos hj, if_pos rfl]; rfl
    · rw [if_neg e2, if_neg (fun z => e2 z.symm), ← List.getD_eq_getElem?_getD]
  · rw [if_neg e, if_neg (fun z => e z.1.symm), ← List.getD_eq_getElem?_getD]
section
variable {s : Raw} {h w : Nat} {c : Nat × Nat} {a : Int} {m : Option Int}
theorem row_len_at (ok : s.Ok h w) {i : Nat} (hi : i < h) : (s.lows.getD i []).length = w := ok.lows.2 _ (List.mem_of_getElem? (getD_some (d := []) (by rw [ok.lows.1]; exact hi)))
theorem high_len_at (ok : s.Ok h w) {i : Nat} (hi : i < h) : (s.highs.getD i []).length = w := ok.hw _ (List.mem_of_getElem? (getD_some (d := []) (by rw [ok.hl]; exact hi)))
theorem cellSet_low (ok : s.Ok h w) (hc : c.1 < h ∧ c.2 < w) {c' : Nat × Nat} : cellV (cellSet s c a m).lows c' = if c'.1 = c.1 ∧ c'.2 = c.2 then a else cellV s.lows c' :=
  get2_set (by rw [ok.lows.1]; exact hc.1) (by rw [row_len_at ok hc.1]; exact hc.2)
theorem cellSet_high (ok : s.Ok h w) (hc : c.1 < h ∧ c.2 < w) {c' : Nat × Nat} : oAt (cellSet s c a m).highs c' = if c'.1 = c.1 ∧ c'.2 = c.2 then m else oAt s.highs c' :=
  get2_set (by rw [ok.hl]; exact hc.1) (by rw [high_len_at ok hc.1]; exact hc.2)
/-- bounds of cells, by cells -/
theorem ok_high (ok : s.Ok h w) {c : Nat × Nat} (hc : c.1 < h ∧ c.2 < w) {n : Int} (hn : oAt s.highs c = some n) : cellV s.lows c ≤ n := by
  obtain ⟨r1, z1, z2⟩ := cell_row ok.lows hc
  obtain ⟨r2, z3, z4⟩ := high_o ok hc
  rw [hn] at z4
  exact ok.high c.1 c.2 r1 r2 _ _ z1 z3 z2 z4
theorem cellSet_ok (ok : s.Ok h w) (hc : c.1 < h ∧ c.2 < w) (ha : 0 ≤ a) (hm : ∀ n, m = some n → a ≤ n) : (cellSet s c a m).Ok h w := by
  have hl : IsT h w (cellSet s c a m).lows := IsT_set ok.lows (row_len_at ok hc.1)
  have hhl : (cellSet s c a m).highs.length = h := by show (List.set _ _ _).length = h; rw [List.length_set]; exact ok.hl
  have hhw : ∀ r ∈ (cellSet s c a m).highs, r.length = w := fun r hr => by
    rcases List.mem_or_eq_of_mem_set hr with hr | rfl
    · exact ok.hw r hr
    · rw [List.length_set]; exact high_len_at ok hc.1
  have hget : ∀ (i j : Nat) (r : List Int) (n : Int), (cellSet s c a m).lows[i]? = some r → r[j]? = some n → cellV (cellSet s c a m).lows (i, j) = n ∧ i < h ∧ j < w := fun i j r n h1 h2 => by
    have hi := (List.getElem?_eq_some_iff.mp h1).1
    have hj := (List.getElem?_eq_some_iff.mp h2).1
    rw [hl.1] at hi
    rw [hl.2 r (List.mem_of_getElem? h1)] at hj
    refine ⟨?_, hi, hj⟩
    show ((cellSet s c a m).lows.getD i []).getD j 0 = n
    rw [show (cellSet s c a m).lows.getD i [] = r by rw [List.getD_eq_getElem?_getD, h1]; rfl, List.getD_eq_getElem?_getD, h2]; rfl
  have hgetO : ∀ (i j : Nat) (r : List (Option Int)) (n : Option Int), (cellSet s c a m).highs[i]? = some r → r[j]? = some n → oAt (cellSet s c a m).highs (i, j) = n := fun i j r n h1 h2 => by
    show ((cellSet s c a m).highs.getD i []).getD j none = n
    rw [show (cellSet s c a m).highs.getD i [] = r by rw [List.getD_eq_getElem?_getD, h1]; rfl, List.getD_eq_getElem?_getD, h2]; rfl
  refine ⟨ok.h1, ok.w1, hl, fun r hr n hn => ?_, hhl, hhw, fun i j r q n m' hr hq hn hm' => ?_, ok.rl, ok.ro, ok.cl, ok.co⟩
  · obtain ⟨i, hi⟩ := List.getElem?_of_mem hr
    obtain ⟨j, hj⟩ := List.getElem?_of_mem hn
    obtain ⟨e, i1, j1⟩ := hget i j r n hi hj
    rw [cellSet_low ok hc] at e
    by_cases z : (i, j).1 = c.1 ∧ (i, j).2 = c.2
    · rw [if_pos z] at e; omega
    · rw [if_neg z] at e
      obtain ⟨r1, z1, z2⟩ := cell_row ok.lows (c := (i, j)) ⟨i1, j1⟩
      have := ok.pos r1 (List.mem_of_getElem? z1) _ (List.mem_of_getElem? z2)
      omega
  · obtain ⟨e, i1, j1⟩ := hget i j r n hr hn
    have e2 := hgetO i j q _ hq hm'
    rw [cellSet_low ok hc] at e
    rw [cellSet_high ok hc] at e2
    by_cases z : (i, j).1 = c.1 ∧ (i, j).2 = c.2
    · rw [if_pos z] at e e2
      have := hm _ e2
      omega
    · rw [if_neg z] at e e2
      have := ok_high ok (c := (i, j)) ⟨i1, j1⟩ e2
      omega
theorem spanSet_ok (ok : s.Ok h w) {b : Bool} {i : Nat} {x : Int × Int} (hx : 0 ≤ x.1 ∧ x.1 ≤ x.2 ∧ x.2 ≤ x.1 + 1000) : (spanSet s b i x).Ok h w := by
  unfold spanSet
  cases b
  · exact ⟨ok.h1, ok.w1, ok.lows, ok.pos, ok.hl, ok.hw, ok.high, ok.rl, ok.ro, by show (s.cols.set i x).length = w; rw [List.length_set]; exact ok.cl, fun y hy => by
      rcases List.mem_or_eq_of_mem_set hy with hy | rfl
      · exact ok.co y hy
      · exact hx⟩
  · exact ⟨ok.h1, ok.w1, ok.lows, ok.pos, ok.hl, ok.hw, ok.high, by show (s.rows.set i x).length = h; rw [List.length_set]; exact ok.rl, fun y hy => (by
      rcases List.mem_or_eq_of_mem_set hy with hy | rfl
      · exact ok.ro y hy
      · exact hx), ok.cl, ok.co⟩
theorem spanSet_span (ok : s.Ok h w) {b b' : Bool} {i i' : Nat} {x : Int × Int} (hi : i < many h w b) : spanAt (spanSet s b i x) b' i' = if b' = b ∧ i' = i then x else spanAt s b' i' := by
  have hs : ∀ (as : List (Int × Int)), i < as.length → (as.set i x).getD i' (0, 0) = if i' = i then x else as.getD i' (0, 0) := fun as hl => by
    rw [List.getD_eq_getElem?_getD, List.getElem?_set]
    by_cases e : i = i'
    · subst e; rw [if_pos rfl, if_pos hl, if_pos rfl]; rfl
    · rw [if_neg e, if_neg (fun z => e z.symm), ← List.getD_eq_getElem?_getD]
  cases b <;> cases b'
  · refine (hs s.cols (by rw [ok.cl]; exact hi)).trans ?_
    simp [spanAt, spanS]
  · simp [spanAt, spanS, spanSet]
  · simp [spanAt, spanS, spanSet]
  · refine (hs s.rows (by rw [ok.rl]; exact hi)).trans ?_
    simp [spanAt, spanS]
theorem spanAt_ok' (ok : s.Ok h w) {b : Bool} {i : Nat} (hi : i < many h w b) : 0 ≤ (spanAt s b i).1 ∧ (spanAt s b i).1 ≤ (spanAt s b i).2 ∧ (spanAt s b i).2 ≤ (spanAt s b i).1 + 1000 := by
  have hg := getD_some (d := (0, 0)) (as := spanS s b) (i := i) (by rw [ok.spans]; exact hi)
  have hm := List.mem_of_getElem? hg
  cases b
  · exact ok.co _ hm
  · exact ok.ro _ hm
variable {b lo : Bool} {i : Nat} {k : Option Nat} {n : Int}
/-- what a good step has -/
theorem good_facts (g : goodB s h w ⟨b, i, k, lo⟩ = true) : ∃ n, numO s h w ⟨b, i, k, lo⟩ = some n ∧ (if lo then (bndO s ⟨b, i, k, lo⟩).1 < n ∧ ∀ m, (bndO s ⟨b, i, k, lo⟩).2 = some m → n ≤ m else (bndO s ⟨b, i, k, lo⟩).1 ≤ n ∧ ∀ m, (bndO s ⟨b, i, k, lo⟩).2 = some m → n < m) := by
  unfold goodB at g
  rw [Bool.and_eq_true, Bool.not_eq_true'] at g
  obtain ⟨g1, g2⟩ := g
  unfold takesB at g1
  unfold breaksB behO at g2
  cases hn : numO s h w ⟨b, i, k, lo⟩ with
  | none => rw [hn] at g1; cases g1
  | some n =>
    rw [hn] at g1 g2
    refine ⟨n, rfl, ?_⟩
    generalize bndO s ⟨b, i, k, lo⟩ = p at g1 g2
    obtain ⟨p1, p2⟩ := p
    cases lo
    · simp at g1 g2 ⊢
      refine ⟨g2, fun m hm => ?_⟩
      subst hm
      simpa using g1
    · simp at g1 g2 ⊢
      refine ⟨g1, fun m hm => ?_⟩
      subst hm
      simpa using g2
theorem beh_eq (g : numO s h w ⟨b, i, k, lo⟩ = some n) : behO s h w ⟨b, i, k, lo⟩ = if lo then (some n, (bndO s ⟨b, i, k, lo⟩).2) else (some (bndO s ⟨b, i, k, lo⟩).1, some n) := by
  unfold behO
  cases lo <;> simp [g]
theorem cellSet_at (ok : s.Ok h w) (hc : c.1 < h ∧ c.2 < w) : 0 ≤ cellV s.lows c := by
  obtain ⟨r1, z1, z2⟩ := cell_row ok.lows hc
  exact ok.pos r1 (List.mem_of_getElem? z1) _ (List.mem_of_getElem? z2)
theorem behS_ok (ok : s.Ok h w) (ht : OkSt h w ⟨b, i, k, lo⟩) (g : goodB s h w ⟨b, i, k, lo⟩ = true) : (behS s h w ⟨b, i, k, lo⟩).Ok h w := by
  obtain ⟨n, hn, gg⟩ := good_facts g
  have be := beh_eq hn
  unfold behS
  cases k with
  | none =>
    simp only
    rw [be]
    refine spanSet_ok ok ?_
    have hi : i < many h w b := ht.i
    have hsp := spanAt_ok' ok hi
    have hb : bndO s ⟨b, i, none, lo⟩ = ((spanAt s b i).1, some (spanAt s b i).2) := rfl
    rw [hb] at gg ⊢
    cases lo
    · simp at gg ⊢; omega
    · simp at gg ⊢; omega
  | some k =>
    simp only
    rw [be]
    have hc : (cellAt b i k).1 < h ∧ (cellAt b i k).2 < w := cell_in (show i < many h w b from ht.i) (show k < len h w b from ht.k k rfl)
    have h0 := cellSet_at ok hc
    have hb : bndO s ⟨b, i, some k, lo⟩ = (cellV s.lows (cellAt b i k), oAt s.highs (cellAt b i k)) := rfl
    rw [hb] at gg ⊢
    cases lo
    · simp at gg ⊢
      exact cellSet_ok ok hc h0 fun m hm => by cases hm; exact gg.1
    · simp at gg ⊢
      exact cellSet_ok ok hc (by omega) fun m hm => gg.2 m hm
end
end VL
end
section
set_option linter.all false
set_option maxRecDepth 100000
set_option maxHeartbeats 2000000
namespace VL
open PySem L2
theorem su_upd {f : Nat → Int} {n k : Nat} {v : Int} (hk : k < n) : SU (fun i => if i = k then v else f i) n = SU f n + (v - f k) := by
  induction n with
  | zero => omega
  | succ n ih =>
    simp only [SU]
    by_cases e : k = n
    · subst e
      rw [if_pos rfl, su_congr (g := f) fun i hi => if_neg (by omega)]
      omega
    · rw [ih (by omega), if_neg (fun z => e z.symm)]
      omega
theorem su_upd2 {f : Nat → Nat → Int} {h w i0 j0 : Nat} {v : Int} (hi : i0 < h) (hj : j0 < w) : SU (fun i => SU (fun j => if i = i0 ∧ j = j0 then v else f i j) w) h = SU (fun i => SU (f i) w) h + (v - f i0 j0) := by
  have e : SU (fun i => SU (fun j => if i = i0 ∧ j = j0 then v else f i j) w) h = SU (fun i => if i = i0 then SU (f i0) w + (v - f i0 j0) else SU (f i) w) h := by
    refine su_congr fun i _ => ?_
    by_cases e : i = i0
    · subst e
      rw [if_pos rfl, ← su_upd hj]
      exact su_congr fun j _ => by simp
    · rw [if_neg e]
      exact su_congr fun j _ => if_neg fun z => e z.1
  rw [e, su_upd hi]
  omega
def hvO (B : Int) : Option Int → Int
  | none => B + 1
  | some m => m
def mesC (s : Raw) (B : Int) (i j : Nat) : Int := hvO B (oAt s.highs (i, j)) - cellV s.lows (i, j)
def mesL (s : Raw) (b : Bool) (i : Nat) : Int := (spanAt s b i).2 - (spanAt s b i).1
def mes (s : Raw) (h w : Nat) (B : Int) : Int := SU (fun i => SU (mesC s B i) w) h + SU (mesL s true) h + SU (mesL s false) w
/-- bounds, by cells -/
structure Bc (s : Raw) (h w : Nat) (B : Int) : Prop where
  low : ∀ c : Nat × Nat, c.1 < h ∧ c.2 < w → cellV s.lows c ≤ B
  high : ∀ (c : Nat × Nat) n, c.1 < h ∧ c.2 < w → oAt s.highs c = some n → n ≤ B
  span : ∀ b i, i < many h w b → (spanAt s b i).2 ≤ B
section
variable {s : Raw} {h w : Nat} {b lo : Bool} {i : Nat} {k : Option Nat} {B : Int}
theorem Bc.of (ok : s.Ok h w) (bd : s.Bd B) : Bc s h w B := ⟨fun c hc => by
  obtain ⟨r1, z1, z2⟩ := cell_row ok.lows hc
  exact bd.low r1 (List.mem_of_getElem? z1) _ (List.mem_of_getElem? z2), fun c n hc hn => by
  obtain ⟨r1, z1, z2⟩ := high_o ok hc
  rw [hn] at z2
  exact bd.high r1 (List.mem_of_getElem? z1) _ (List.mem_of_getElem? z2), fun b i hi => by
  have hm := List.mem_of_getElem? (getD_some (d := (0, 0)) (as := spanS s b) (i := i) (by rw [ok.spans]; exact hi))
  cases b
  · exact bd.col _ hm
  · exact bd.row _ hm⟩
theorem mes_pos (ok : s.Ok h w) (bc : Bc s h w B) : 0 ≤ mes s h w B := by
  have h1 : 0 ≤ SU (fun i => SU (mesC s B i) w) h := su_pos fun i hi => su_pos fun j hj => by
    have hc : (i, j).1 < h ∧ (i, j).2 < w := ⟨hi, hj⟩
    unfold mesC
    cases hn : oAt s.highs (i, j) with
    | none => have := bc.low (i, j) hc; simp only [hvO]; omega
    | some n => have := ok_high ok hc hn; simp only [hvO]; omega
  have h2 : ∀ b, 0 ≤ SU (mesL s b) (many h w b) := fun b => su_pos fun i hi => by
    have := spanAt_ok' ok hi
    unfold mesL; omega
  have := h2 true
  have := h2 false
  simp only [many] at *
  simp at *
  unfold mes
  omega
theorem sum_pos : ∀ {xs : List Int}, (∀ n ∈ xs, 0 ≤ n) → 0 ≤ xs.sum := fun h => sum_nonneg h
theorem othL_pos (ok : s.Ok h w) (hi : i < many h w b) : 0 ≤ (othL s.lows (len h w b) b i k).sum := sum_nonneg fun n hn => by
  obtain ⟨j, hj, rfl⟩ := List.mem_map.mp hn
  exact cellSet_at ok (cell_in hi (othI_lt hj))
theorem sumO_pos (ok : s.Ok h w) (hi : i < many h w b) {m : Int} (hm : sumO (othO s.highs (len h w b) b i k) = some m) : 0 ≤ m := by
  unfold sumO at hm
  split at hm
  · cases hm
  · cases hm
    refine sum_nonneg fun n hn => ?_
    obtain ⟨o, ho, rfl⟩ := List.mem_map.mp hn
    obtain ⟨j, hj, rfl⟩ := List.mem_map.mp ho
    have hc := cell_in hi (othI_lt hj)
    cases hn : oAt s.highs (cellAt b i j) with
    | none => exact Int.le_refl _
    | some n =>
      have := ok_high ok hc hn
      have := cellSet_at ok hc
      simp only [Option.getD_some]
      omega
/-- a step tells no more than its span's end -/
theorem num_le (ok : s.Ok h w) {k : Nat} {n : Int} (hi : i < many h w b) (hn : numO s h w ⟨b, i, some k, lo⟩ = some n) : n ≤ (spanAt s b i).2 := by
  have hsp := spanAt_ok' ok hi
  unfold numO at hn
  cases lo
  · simp at hn
    have := othL_pos (k := some k) ok hi
    omega
  · simp at hn
    obtain ⟨m, hm, rfl⟩ := hn
    have := sumO_pos ok hi hm
    omega
theorem beh_facts (ok : s.Ok h w) (bc : Bc s h w B) (ht : OkSt h w ⟨b, i, k, lo⟩) (g : goodB s h w ⟨b, i, k, lo⟩ = true) : Bc (behS s h w ⟨b, i, k, lo⟩) h w B ∧ mes (behS s h w ⟨b, i, k, lo⟩) h w B < mes s h w B := by
  obtain ⟨n, hn, gg⟩ := good_facts g
  have be := beh_eq hn
  have hi : i < many h w b := ht.i
  unfold behS
  cases k with
  | none =>
    simp only
    rw [be]
    have hsp := spanAt_ok' ok hi
    have hsB := bc.span b i hi
    have hb : bndO s ⟨b, i, none, lo⟩ = ((spanAt s b i).1, some (spanAt s b i).2) := rfl
    rw [hb] at gg ⊢
    have key : ∀ x : Int × Int, x.2 ≤ B → x.2 - x.1 < mesL s b i → Bc (spanSet s b i x) h w B ∧ mes (spanSet s b i x) h w B < mes s h w B := fun x hx hx2 => by
      have e1 : ∀ b' i', spanAt (spanSet s b i x) b' i' = if b' = b ∧ i' = i then x else spanAt s b' i' := fun b' i' => spanSet_span ok hi
      have el : (spanSet s b i x).lows = s.lows := by unfold spanSet; cases b <;> rfl
      have eh : (spanSet s b i x).highs = s.highs := by unfold spanSet; cases b <;> rfl
      refine ⟨⟨fun c hc => by rw [el]; exact bc.low c hc, fun c n hc hn => bc.high c n hc (by rw [← eh]; exact hn), fun b' i' hi' => ?_⟩, ?_⟩
      · rw [e1]
        by_cases z : b' = b ∧ i' = i
        · rw [if_pos z]; exact hx
        · rw [if_neg z]; exact bc.span b' i' hi'
      · have ec : SU (fun i' => SU (mesC (spanSet s b i x) B i') w) h = SU (fun i' => SU (mesC s B i') w) h := su_congr fun i' _ => su_congr fun j' _ => by unfold mesC; rw [el, eh]
        have es : SU (mesL (spanSet s b i x) b) (many h w b) = SU (mesL s b) (many h w b) + (x.2 - x.1 - mesL s b i) := by
          rw [← su_upd hi]
          refine su_congr fun i' _ => ?_
          unfold mesL
          rw [e1]
          by_cases z : i' = i
          · simp [z]
          · simp [z]
        have eo : SU (mesL (spanSet s b i x) (!b)) (many h w (!b)) = SU (mesL s (!b)) (many h w (!b)) := su_congr fun i' _ => by
          unfold mesL
          rw [e1, if_neg (fun z => by cases b <;> cases z.1)]
        unfold mes
        rw [ec]
        cases b
        · have eo : SU (mesL (spanSet s false i x) true) h = SU (mesL s true) h := eo
          have es : SU (mesL (spanSet s false i x) false) w = SU (mesL s false) w + (x.2 - x.1 - mesL s false i) := es
          omega
        · have eo : SU (mesL (spanSet s true i x) false) w = SU (mesL s false) w := eo
          have es : SU (mesL (spanSet s true i x) true) h = SU (mesL s true) h + (x.2 - x.1 - mesL s true i) := es
          omega
    cases lo
    · simp at gg ⊢
      exact key _ (by simp only; omega) (by unfold mesL; simp only; omega)
    · simp at gg ⊢
      exact key _ (by simp only; omega) (by unfold mesL; simp only; omega)
  | some k =>
    simp only
    rw [be]
    have hc : (cellAt b i k).1 < h ∧ (cellAt b i k).2 < w := cell_in hi (show k < len h w b from ht.k k rfl)
    have hnl := num_le ok hi hn
    have hsB := bc.span b i hi
    have hlB := bc.low _ hc
    have hb : bndO s ⟨b, i, some k, lo⟩ = (cellV s.lows (cellAt b i k), oAt s.highs (cellAt b i k)) := rfl
    rw [hb] at gg ⊢
    generalize cellAt b i k = c at hc gg hlB
    have key : ∀ (a : Int) (m : Option Int), a ≤ B → (∀ x, m = some x → x ≤ B) → hvO B m - a < mesC s B c.1 c.2 → Bc (cellSet s c a m) h w B ∧ mes (cellSet s c a m) h w B < mes s h w B := fun a m ha hm hx => by
      have el : ∀ c', cellV (cellSet s c a m).lows c' = if c'.1 = c.1 ∧ c'.2 = c.2 then a else cellV s.lows c' := fun c' => cellSet_low ok hc
      have eh : ∀ c', oAt (cellSet s c a m).highs c' = if c'.1 = c.1 ∧ c'.2 = c.2 then m else oAt s.highs c' := fun c' => cellSet_high ok hc
      refine ⟨⟨fun c' hc' => ?_, fun c' n hc' hn => ?_, fun b' i' hi' => bc.span b' i' hi'⟩, ?_⟩
      · rw [el]
        by_cases z : c'.1 = c.1 ∧ c'.2 = c.2
        · rw [if_pos z]; exact ha
        · rw [if_neg z]; exact bc.low c' hc'
      · rw [eh] at hn
        by_cases z : c'.1 = c.1 ∧ c'.2 = c.2
        · rw [if_pos z] at hn; exact hm n hn
        · rw [if_neg z] at hn; exact bc.high c' n hc' hn
      · have ec : SU (fun i' => SU (mesC (cellSet s c a m) B i') w) h = SU (fun i' => SU (mesC s B i') w) h + (hvO B m - a - mesC s B c.1 c.2) := by
          rw [← su_upd2 hc.1 hc.2]
          refine su_congr fun i' _ => su_congr fun j' _ => ?_
          unfold mesC
          rw [el, eh]
          by_cases z : i' = c.1 ∧ j' = c.2
          · simp only [if_pos z]
          · simp only [if_neg z]
        have e1 : SU (mesL (cellSet s c a m) true) h = SU (mesL s true) h := rfl
        have e2 : SU (mesL (cellSet s c a m) false) w = SU (mesL s false) w := rfl
        unfold mes
        omega
    cases lo
    · simp at gg ⊢
      refine key _ _ (by omega) (fun x hx => by cases hx; omega) ?_
      unfold mesC
      show hvO B (some n) - cellV s.lows c < hvO B (oAt s.highs c) - cellV s.lows c
      cases ho : oAt s.highs c with
      | none => simp only [hvO]; omega
      | some m => have := gg.2 m ho; simp only [hvO]; omega
    · simp at gg ⊢
      refine key _ _ (by omega) (fun x hx => bc.high _ _ hc hx) ?_
      unfold mesC
      show hvO B (oAt s.highs c) - n < hvO B (oAt s.highs c) - cellV s.lows c
      omega
end
section
variable {μ : Mu} {P : D → Mu → Prop} {s : Raw} {h w : Nat} {b lo : Bool} {i : Nat} {k : Option Nat}
theorem take_set' {α : Type} {as : List α} {i : Nat} {a : α} (h : i < as.length) : as.take i ++ (a :: as.drop (i + 1)) = as.set i a := by
  refine List.ext_getElem? fun k => ?_
  rw [List.getElem?_set]
  by_cases e : i = k
  · subst e
    rw [if_pos rfl, if_pos h, List.getElem?_append_right (by rw [List.length_take]; omega), List.length_take, Nat.min_eq_left (by omega), Nat.sub_self]; rfl
  · rw [if_neg e]
    by_cases l : k < i
    · rw [List.getElem?_append_left (by rw [List.length_take]; omega), List.getElem?_take_of_lt l]
    · rw [List.getElem?_append_right (by rw [List.length_take]; omega), List.length_take, Nat.min_eq_left (by omega)]
      obtain ⟨m, rfl⟩ : ∃ m, k = i + (m + 1) := ⟨k - i - 1, by omega⟩
      rw [Nat.add_sub_cancel_left, List.getElem?_cons_succ, List.getElem?_drop]
      congr 1; omega
theorem with_item_t {xs : List D} {i : Nat} {a : D} (hi : i < xs.length) (hl : xs.length ≤ 16777216) (hu : (D.tup (xs.set i a)).und μ.length = true) (q : P (.tup (xs.set i a)) μ) : Wf f_with_item [.tup xs, .int (i : Nat), a] μ P := by
  unfold f_with_item
  rw [wf_def]
  have hti : ((i : Int) + 1).toNat = i + 1 := by omega
  simp [seqOf, cut_to, cut_from (show 0 ≤ (i : Int) + 1 by omega), hti]
  refine ⟨by omega, ?_⟩
  rw [take_set' hi]
  exact wcl_same hu q
/-- an item of a mapped tuple -/
theorem with_map_w {α : Type} {f : α → D} {xs : List α} {i : Nat} {a : α} (hf : ∀ n a, (f a).und n = true) (hi : i < xs.length) (hl : xs.length ≤ 16777216) (q : P (.tup ((xs.set i a).map f)) μ) : Wf f_with_item [.tup (xs.map f), .int (i : Nat), f a] μ P := by
  have e : (xs.map f).set i (f a) = (xs.set i a).map f := by rw [List.map_set]
  refine with_item_t (by rw [List.length_map]; exact hi) (by rw [List.length_map]; exact hl) ?_ ?_
  · rw [e]; unfold D.und; exact map_und (hf _) _
  · rw [e]; exact q
theorem behind_by_w (ok : s.Ok h w) (hh : h ≤ 6) (hw : w ≤ 6) (ht : OkSt h w ⟨b, i, k, lo⟩) (g : goodB s h w ⟨b, i, k, lo⟩ = true) (q : P (sheetO (behS s h w ⟨b, i, k, lo⟩)) μ) : Wf f_behind_by [sheetO s, stD ⟨b, i, k, lo⟩] μ P := by
  have okB := behS_ok ok ht g
  obtain ⟨n, hn, gg⟩ := good_facts g
  have be := beh_eq hn
  have hi : i < many h w b := ht.i
  unfold behS at q okB
  unfold f_behind_by
  rw [wf_def]
  have hst : stD ⟨b, i, k, lo⟩ = .tup [.str (wordS b), .int (i : Nat), .int (plI k), .str (endS lo)] := rfl
  generalize hS : stD ⟨b, i, k, lo⟩ = S at hst
  have hsl : ∀ μ (P : D → Mu → Prop), Wp (opSl S none (some 3) μ) P ↔ P (.tup [.str (wordS b), .int (i : Nat), .int (plI k)]) μ := fun μ P => by
    rw [hst, wp_slT, cut_to (by decide)]; rfl
  simp [hsl]
  rw [← hS]
  refine bounds_behind_w ok (by omega) (by omega) ht ?_
  generalize hp : behO s h w ⟨b, i, k, lo⟩ = p at q okB be
  obtain ⟨p1, p2⟩ := p
  have hp1 : ∃ a, p1 = some a := by cases lo <;> simp at be <;> exact ⟨_, be.1⟩
  obtain ⟨a, rfl⟩ := hp1
  simp [plI_none]
  cases k with
  | none =>
    refine .inr ⟨rfl, ?_⟩
    have hp2 : ∃ m, p2 = some m := by
      cases lo
      · simp at be; exact ⟨_, be.2⟩
      · simp at be; exact ⟨_, be.2⟩
    obtain ⟨m, rfl⟩ := hp2
    simp only [Option.getD_some] at q okB
    unfold f_with_span
    rw [wf_def]
    have hwo := wordS_ok b
    simp [hwo, optD]
    cases b
    · refine .inl ⟨by simp [wordS], ?_⟩
      refine with_map_w (f := spanD) (xs := s.cols) (a := (a, m)) span_und (by rw [ok.cl]; exact hi) (by rw [ok.cl]; omega) ?_
      exact sheet_make_w okB hh hw (.inl rfl) (.inl rfl) (.inl rfl) (.inl rfl) (wcl_same (sheet_und _) (wcl_same (sheet_und _) q))
    · refine .inr ⟨rfl, ?_⟩
      refine with_map_w (f := spanD) (xs := s.rows) (a := (a, m)) span_und (by rw [ok.rl]; exact hi) (by rw [ok.rl]; omega) ?_
      exact sheet_make_w okB hh hw (.inl rfl) (.inl rfl) (.inl rfl) (.inl rfl) (wcl_same (sheet_und _) (wcl_same (sheet_und _) q))
  | some k =>
    refine .inl ⟨by simp, ?_⟩
    simp only [Option.getD_some] at q okB
    refine line_cells_w ok (by omega) (by omega) ?_
    have hk : k < len h w b := ht.k k rfl
    simp only [plI]
    rw [wp_ixL, atI_nat' (n := k) (d := cellD (cellAt b i k)) (by rw [List.getElem?_map, List.getElem?_range hk]; rfl), ex_some]
    have hc := cell_in hi hk
    generalize cellAt b i k = c at hc q okB
    have z1 := getD_some (d := []) (as := s.lows) (i := c.1) (by rw [ok.lows.1]; exact hc.1)
    have z3 := getD_some (d := []) (as := s.highs) (i := c.1) (by rw [ok.hl]; exact hc.1)
    have w1 := row_len_at ok hc.1
    have w3 := high_len_at ok hc.1
    unfold cellSet at q okB
    generalize s.lows.getD c.1 [] = r1 at z1 w1 q okB
    generalize s.highs.getD c.1 [] = r3 at z3 w3 q okB
    have y1 := fun μ (P : D → Mu → Prop) => tab_nth (μ := μ) (P := P) z1
    have y3 := fun μ (P : D → Mu → Prop) => tabO_nth (μ := μ) (P := P) z3
    simp [cellD, y1, y3]
    refine with_map_w (f := D.int) (xs := r1) (a := a) (fun _ _ => rfl) (by rw [w1]; exact hc.2) (by omega) ?_
    refine with_map_w (f := rowD) (xs := s.lows) (a := r1.set c.2 a) row_und (by rw [ok.lows.1]; exact hc.1) (by rw [ok.lows.1]; omega) ?_
    refine with_map_w (f := optD) (xs := r3) (a := p2) opt_und (by rw [w3]; exact hc.2) (by omega) ?_
    refine with_map_w (f := rowO) (xs := s.highs) (a := r3.set c.2 p2) rowO_und (by rw [ok.hl]; exact hc.1) (by rw [ok.hl]; omega) ?_
    exact sheet_make_w okB hh hw (.inl rfl) (.inl rfl) (.inl rfl) (.inl rfl) (wcl_same (sheet_und _) q)
end
end VL
end
section
set_option linter.all false
set_option maxRecDepth 100000
set_option maxHeartbeats 2000000
namespace VL
open PySem L2
def okW (x : Str) : Prop := x = wordS true ∨ x = wordS false
def okE (x : Str) : Prop := x = endS true ∨ x = endS false
instance (x : Str) : Decidable (okW x) := by unfold okW; exact inferInstance
instance (x : Str) : Decidable (okE x) := by unfold okE; exact inferInstance
def decSt (h w : Nat) : D → Option St
  | .tup [.str x, .int a, .int p, .str y] =>
    if okW x ∧ okE y ∧ (0 ≤ a ∧ a < many h w (decide (x = wordS true))) ∧ (-1 ≤ p ∧ p < len h w (decide (x = wordS true))) then some ⟨decide (x = wordS true), a.toNat, if p = -1 then none else some p.toNat, decide (y = endS true)⟩ else none
  | _ => none
theorem okW_eq {x : Str} (hx : okW x) : x = wordS (decide (x = wordS true)) := by
  rcases hx with rfl | rfl
  · simp
  · simp [wordS]
theorem okE_eq {x : Str} (hx : okE x) : x = endS (decide (x = endS true)) := by
  rcases hx with rfl | rfl
  · simp
  · simp [endS]
theorem decSt_some {h w : Nat} {d : D} {t : St} (e : decSt h w d = some t) : d = stD t ∧ OkSt h w t := by
  unfold decSt at e
  split at e
  · rename_i x a p y
    split at e
    · rename_i hc
      cases e
      obtain ⟨c1, c2, c3, c4⟩ := hc
      refine ⟨?_, ⟨by (have q1 := c3.1; have q2 := c3.2; show a.toNat < many h w (decide (x = wordS true)); omega), fun k hk => ?_⟩⟩
      · unfold stD
        rw [← okW_eq c1, ← okE_eq c2]
        have e1 : ((a.toNat : Nat) : Int) = a := by omega
        have e2 : plI (if p = -1 then none else some p.toNat) = p := by
          by_cases z : p = -1
          · rw [if_pos z, z]; rfl
          · rw [if_neg z]; show ((p.toNat : Nat) : Int) = p; omega
        show _ = D.tup [.str x, .int ((a.toNat : Nat) : Int), .int (plI (if p = -1 then none else some p.toNat)), .str y]
        rw [e1, e2]
      · simp only at hk
        by_cases z : p = -1
        · rw [if_pos z] at hk; cases hk
        · rw [if_neg z] at hk
          cases hk
          show p.toNat < len h w (decide (x = wordS true))
          omega
    · cases e
  · cases e
theorem decSt_stD {h w : Nat} {t : St} (ht : OkSt h w t) : decSt h w (stD t) = some t := by
  obtain ⟨b, i, k, lo⟩ := t
  have hb : decide (wordS b = wordS true) = b := by cases b <;> simp [wordS]
  have hl : decide (endS lo = endS true) = lo := by cases lo <;> simp [endS]
  have h1 : i < many h w b := ht.i
  have h2 : ∀ m, k = some m → m < len h w b := ht.k
  unfold stD decSt
  simp only [hb, hl]
  have hk : -1 ≤ plI k ∧ plI k < len h w b := by
    cases k with
    | none => simp [plI]; omega
    | some m => have := h2 m rfl; simp [plI]; omega
  rw [if_pos ⟨by unfold okW; cases b <;> simp, by unfold okE; cases lo <;> simp, ⟨by omega, by omega⟩, hk⟩]
  have : (if plI k = -1 then none else some (plI k).toNat) = k := by
    cases k with
    | none => simp [plI]
    | some m => simp [plI]
  rw [this, Int.toNat_natCast]
section
variable {μ : Mu} {P : D → Mu → Prop} {s : Raw} {h w : Nat}
theorem in2_w {neg : Bool} {x a b : Str} : Wp (opIn neg (.str x) (.tup [.str a, .str b]) μ) P ↔ P (.bl (xor neg (decide (x = a ∨ x = b)))) μ := by
  unfold opIn
  simp only [seqOf]
  rw [if_pos ⟨by simp [flatD], by simp [flatD]⟩, wp_some]
  have e : inD (.str x) [.str a, .str b] = decide (x = a ∨ x = b) := by
    simp only [inD, List.any_cons, List.any_nil, Bool.or_false, eqF]
    rw [Bool.eq_iff_iff, Bool.or_eq_true, beq_iff_eq, beq_iff_eq, decide_eq_true_eq]
    exact or_congr eq_comm eq_comm
  rw [e]
  cases neg <;> cases decide (x = a ∨ x = b) <;> rfl
end
end VL
end
section
set_option linter.all false
set_option maxRecDepth 100000
set_option maxHeartbeats 2000000
namespace VL
open PySem L2
def walkS (h w : Nat) : Raw → List D → Option Raw
  | s, [] => some s
  | s, d :: ds => match decSt h w d with
    | none => none
    | some t => if goodB s h w t then walkS h w (behS s h w t) ds else none
def takL (s : Raw) (h w : Nat) : List St := (steps h w).filter (takesB s h w)
def rawM : Option Raw → D
  | none => .non
  | some s => sheetO s
theorem walkS_ok {h w : Nat} : ∀ {ds : List D} {s s' : Raw}, s.Ok h w → walkS h w s ds = some s' → s'.Ok h w
  | [], s, s', ok, e => by cases e; exact ok
  | d :: ds, s, s', ok, e => by
    unfold walkS at e
    cases hd : decSt h w d with
    | none => rw [hd] at e; cases e
    | some t =>
      rw [hd] at e
      simp only at e
      cases hg : goodB s h w t with
      | false => rw [hg] at e; simp at e
      | true =>
        rw [hg] at e
        simp at e
        obtain ⟨b, i, k, lo⟩ := t
        exact walkS_ok (behS_ok ok (decSt_some hd).2 hg) e
section
variable {μ : Mu} {P : D → Mu → Prop} {s : Raw} {h w : Nat}
theorem rawM_und {n : Nat} {o : Option Raw} : (rawM o).und n = true := by cases o <;> first | rfl | exact sheet_und _
theorem wcl_frz {μ μ' : Mu} {P : D → Mu → Prop} {d d' : D} (hk : Keeps μ μ') (hl : μ.length ≤ μ'.length) (hf : frz (lkOf μ' μ.length) d = some d') (q : P d' (μ'.take μ.length)) : Wcl μ d μ' P := by
  refine ⟨d', μ'.take μ.length, ?_, q⟩
  unfold close
  rw [if_pos ⟨hk, hl⟩, hf]
theorem frz_own {μ μ' : Mu} {n : Nat} {xs : List D} (hn : μ.length ≤ n) (he : μ'[n]? = some (.lst xs)) (hu : undAll μ.length xs = true) : frz (lkOf μ' μ.length) (.ref n) = some (.lst xs) := by
  unfold frz lkOf
  show lkS μ' μ.length _ n = _
  unfold lkS
  rw [if_neg (by omega), he]
  show (frzAll _ xs).map D.lst = _
  rw [frzAll_und (n := μ.length) (fun k h => by rw [if_pos h]) xs hu]
  rfl
/-- a pair of a list of the call's own and a frozen value -/
theorem wcl_pair {μ : Mu} {P : D → Mu → Prop} {xs : List D} {d : D} (hu : undAll μ.length xs = true) (hd : d.und μ.length = true) (q : P (.tup [.lst xs, d]) μ) : Wcl μ (.tup [.ref μ.length, d]) (μ ++ [.lst xs]) P := by
  refine wcl_frz (d' := .tup [.lst xs, d]) keeps_end (by simp) ?_ (by rw [List.take_left]; exact q)
  have h1 := frz_own (μ := μ) (μ' := μ ++ [.lst xs]) (Nat.le_refl _) (List.getElem?_concat_length ..) hu
  have h2 : frz (lkOf (μ ++ [.lst xs]) μ.length) d = some d := frz_und (fun k h => lkOf_low h) d hd
  unfold frz
  simp only [frzAll, h1, h2]
  rfl
theorem st_append {xs : List D} {d : D} : Wp (mAppend (.ref μ.length) d (μ ++ [.lst xs])) P ↔ xs.length < 16777216 ∧ P .non (μ ++ [.lst (xs ++ [d])]) := by
  unfold mAppend
  simp only []
  rw [List.getElem?_concat_length]
  simp only []
  rw [wp_ite]
  simp
theorem tightened_w (ok : s.Ok h w) (hh : h ≤ 6) (hw : w ≤ 6) {B : Int} (bc : Bc s h w B) (hB : mes s h w B ≤ 100000) (q : ∀ (acc : List St) (o : Option Raw), acc.length ≤ 100001 → P (.tup [.lst (acc.map stD), rawM o]) μ) : Wf f_tightened [sheetO s] μ P := by
  unfold f_tightened
  rw [wf_def]
  simp
  refine taking_w ok (by omega) (by omega) ?_
  have hs : (mes s h w B).toNat = (mes s h w B).toNat := rfl
  refine ws_while_m (fun n ρ μ' => ∃ (s' : Raw) (acc : List St), s'.Ok h w ∧ Bc s' h w B ∧ mes s' h w B = n ∧ acc.length + n ≤ 100000 ∧ μ' = μ ++ [.lst (acc.map stD)] ∧ ρ = [some (sheetO s), some (.ref μ.length), some (sheetO s'), some (.lst ((takL s' h w).map stD))]) ?_ (mes s h w B).toNat _ _ ⟨s, [], ok, bc, by have := mes_pos ok bc; omega, by simp; omega, by simp, rfl⟩
  rintro n ρ μ' ⟨s', acc, ok', bc', hn, hl, rfl, rfl⟩
  simp
  cases ht : takL s' h w with
  | nil =>
    refine .inl ⟨rfl, ?_⟩
    exact wcl_pair (map_und (fun _ => rfl) _) (sheet_und _) (q acc (some s') (by omega))
  | cons t ts =>
    have hm : t ∈ takL s' h w := by rw [ht]; simp
    obtain ⟨m1, m2⟩ := List.mem_filter.mp hm
    have hok := steps_mem.mp m1
    refine .inr ⟨rfl, by rw [end_lst]; rfl, ?_⟩
    have e0 : atI ((t :: ts).map stD) 0 = some (stD t) := atI_nat' (n := 0) rfl
    refine ⟨_, e0, ?_⟩
    rw [st_append]
    refine ⟨by rw [List.length_map]; omega, ?_⟩
    obtain ⟨b, i, k, lo⟩ := t
    refine ⟨_, e0, ?_⟩
    refine breaks_by_w ok' (by omega) (by omega) hok m2 ?_
    have ea : acc.map stD ++ [stD ⟨b, i, k, lo⟩] = (acc ++ [(⟨b, i, k, lo⟩ : St)]).map stD := by simp
    rw [ea]
    cases hbr : breaksB s' h w ⟨b, i, k, lo⟩ with
    | true =>
      refine .inr ⟨rfl, ?_⟩
      exact wcl_pair (map_und (fun _ => rfl) _) rfl (q (acc ++ [⟨b, i, k, lo⟩]) none (by simp; omega))
    | false =>
      have g : goodB s' h w ⟨b, i, k, lo⟩ = true := by unfold goodB; rw [m2, hbr]; rfl
      refine .inl ⟨rfl, ?_⟩
      refine ⟨_, e0, ?_⟩
      refine behind_by_w ok' hh hw hok g ?_
      have okB := behS_ok ok' hok g
      obtain ⟨bcB, hlt⟩ := beh_facts ok' bc' hok g
      have hp := mes_pos okB bcB
      refine taking_w okB (by omega) (by omega) ?_
      refine ⟨(mes (behS s' h w ⟨b, i, k, lo⟩) h w B).toNat, by omega, behS s' h w ⟨b, i, k, lo⟩, okB, bcB, by omega, acc ++ [(⟨b, i, k, lo⟩ : St)], by simp; omega, ?_⟩
      exact ⟨rfl, rfl, rfl⟩
end
end VL
end
section
set_option linter.all false
set_option maxRecDepth 100000
set_option maxHeartbeats 2000000
namespace VL
open PySem L2
def lnL (s : Raw) (h w : Nat) (b : Bool) (i : Nat) : List Int := (List.range (len h w b)).map fun j => cellV s.lows (cellAt b i j)
def lnH (s : Raw) (h w : Nat) (b : Bool) (i : Nat) : List (Option Int) := (List.range (len h w b)).map fun j => oAt s.highs (cellAt b i j)
theorem rangeE {α : Type} {as : List α} {d : α} {n : Nat} (h : as.length = n) : as = (List.range n).map fun i => as.getD i d := by
  have := map_range (as := as) (d := d) id
  rw [List.map_id, h] at this
  exact this
def turnO' (w : Nat) (t : List (List (Option Int))) : List (List (Option Int)) := (List.range w).map fun j => t.map fun r => r.getD j none
section
variable {μ : Mu} {P : D → Mu → Prop} {s : Raw} {h w : Nat} {b lo : Bool} {i : Nat} {k : Option Nat}
theorem law_turnedO_w {t : List (List (Option Int))} (hl : t.length = h) (hr : ∀ r ∈ t, r.length = w) (h0 : 0 < h) (hw : w ≤ 1000) (q : P (tabO (turnO' w t)) μ) : Wf f_law_turned [tabO t] μ P := by
  unfold f_law_turned
  rw [wf_def]
  have hl0 : 0 < t.length := by omega
  have hr0 := getD_some (d := []) hl0
  generalize t.getD 0 [] = r0 at hr0
  have i0 : ∀ μ (P : D → Mu → Prop), Wp (opIx (tabO t) (.int 0) μ) P ↔ P (rowO r0) μ := fun μ P => tabO_nth (i := 0) hr0
  have hw0 := hr _ (List.mem_of_getElem? hr0)
  have l0 : ∀ μ (P : D → Mu → Prop), Wp (bLen [rowO r0] μ) P ↔ P (.int w) μ := fun μ P => by unfold rowO; rw [wp_lenT, List.length_map, hw0]
  simp [i0, l0]
  refine ⟨by omega, ?_⟩
  unfold rng
  refine comp_mapA (fun j => rowO (t.map fun r => r.getD j none)) holds_nil (fun j hj => ?_) ?_
  · have hj := List.mem_range.mp hj
    simp [wipe]
    refine ⟨t.map rowO, rfl, ?_⟩
    refine comp_mapA (fun r => optD (r.getD j none)) holds_nil (fun r hrm => ?_) ?_
    · have hlr := hr r hrm
      have := rowO_nth (μ := μ) (P := fun d μ3 => d = optD (r.getD j none) ∧ μ3 = μ) (t := r) (i := j) (getD_some (d := none) (by omega))
      simp [wipe]
      simp at this
      exact this
    · rw [List.nil_append]
      have e : D.tup (t.map fun r => optD (r.getD j none)) = rowO (t.map fun r => r.getD j none) := by unfold rowO; rw [List.map_map]; rfl
      rw [e]
      simp
  · rw [List.nil_append]
    have e : D.tup ((List.range w).map fun j => rowO (t.map fun r => r.getD j none)) = tabO (turnO' w t) := by unfold tabO turnO'; rw [List.map_map]; rfl
    rw [e]
    exact wcl_same (tabO_und _ _) q
theorem in_none_w {os : List (Option Int)} : Wp (opIn false .non (.lst (os.map optD)) μ) P ↔ P (.bl (os.any Option.isNone)) μ := by
  have hf : (os.map optD).all flatD = true := by
    rw [List.all_eq_true]
    intro x hx
    obtain ⟨o, _, rfl⟩ := List.mem_map.mp hx
    cases o <;> rfl
  have hi : ∀ os : List (Option Int), inD .non (os.map optD) = os.any Option.isNone := fun os => by
    unfold inD
    rw [List.any_map]
    refine congrArg (fun f => os.any f) (funext fun o => ?_)
    cases o <;> rfl
  unfold opIn
  simp only [seqOf, lstOf]
  rw [if_pos ⟨rfl, hf⟩, wp_some, hi]
  simp
theorem stD_0 : Wp (opIx (stD ⟨b, i, k, lo⟩) (.int 0) μ) P ↔ P (.str (wordS b)) μ := by
  unfold stD; rw [wp_ixT, show atI [D.str (wordS b), .int (i : Nat), .int (plI k), .str (endS lo)] 0 = some (.str (wordS b)) from rfl, ex_some]
theorem stD_1 : Wp (opIx (stD ⟨b, i, k, lo⟩) (.int 1) μ) P ↔ P (.int (i : Nat)) μ := by
  unfold stD; rw [wp_ixT, show atI [D.str (wordS b), .int (i : Nat), .int (plI k), .str (endS lo)] 1 = some (.int (i : Nat)) from rfl, ex_some]
theorem stD_2 : Wp (opIx (stD ⟨b, i, k, lo⟩) (.int 2) μ) P ↔ P (.int (plI k)) μ := by
  unfold stD; rw [wp_ixT, show atI [D.str (wordS b), .int (i : Nat), .int (plI k), .str (endS lo)] 2 = some (.int (plI k)) from rfl, ex_some]
theorem stD_3 : Wp (opIx (stD ⟨b, i, k, lo⟩) (.int 3) μ) P ↔ P (.str (endS lo)) μ := by
  unfold stD; rw [wp_ixT, show atI [D.str (wordS b), .int (i : Nat), .int (plI k), .str (endS lo)] 3 = some (.str (endS lo)) from rfl, ex_some]
theorem bD_0 {a : Int × Option Int} : Wp (opIx (bD a) (.int 0) μ) P ↔ P (.int a.1) μ := by
  unfold bD; rw [wp_ixT, show atI [D.int a.1, optD a.2] 0 = some (.int a.1) from rfl, ex_some]
theorem bD_1 {a : Int × Option Int} : Wp (opIx (bD a) (.int 1) μ) P ↔ P (optD a.2) μ := by
  unfold bD; rw [wp_ixT, show atI [D.int a.1, optD a.2] 1 = some (optD a.2) from rfl, ex_some]
end
end VL
end
section
set_option linter.all false
set_option maxRecDepth 100000
set_option maxHeartbeats 2000000
namespace VL
open PySem L2
def rawN : Option Raw → D
  | none => .non
  | some s => rawD s
theorem ws_hide {a b : VS} {ρ : Ro} {μ : Mu} {E : Ed} (h : ∀ T, T = b → Ws (sSeq a T) ρ μ E) : Ws (sSeq a b) ρ μ E := h b rfl
theorem stD_simple (t : St) : stD t = .tup [.str (wordS t.b), .int (t.i : Nat), .int (plI t.k), .str (endS t.lo)] := rfl
def gtO (a : Int) : Option Int → Bool
  | none => false
  | some m => decide (m < a)
theorem breaksB_eq {s : Raw} {h w : Nat} {t : St} {a : Int} {m : Option Int} (e : behO s h w t = (some a, m)) : breaksB s h w t = gtO a m := by
  unfold breaksB
  rw [e]
  cases m <;> rfl
section
variable {μ : Mu} {P : D → Mu → Prop} {s : Raw} {h w : Nat} {b lo : Bool} {i : Nat} {k : Option Nat}
theorem rawN_und {n : Nat} {o : Option Raw} : (rawN o).und n = true := by cases o <;> first | rfl | exact raw_und _ _
theorem sts_simple (t : St) : ∀ x ∈ [D.str (wordS t.b), .int (t.i : Nat), .int (plI t.k), .str (endS t.lo)], x.simple = true := by
  intro x hx
  simp only [List.mem_cons, List.not_mem_nil, or_false] at hx
  rcases hx with rfl | rfl | rfl | rfl
  · exact wordS_ok _
  · rfl
  · rfl
  · exact endS_ok _
end
end VL
end
section
set_option linter.all false
set_option maxRecDepth 100000
set_option maxHeartbeats 2000000
namespace VL
open PySem L2
theorem for_each {α : Type} {w : Wk} {g : VG} {s : VS} {E : Ed} {ι : α → D} {as : List α} (J : Ro → Mu → Prop) (hw : ∀ μ, w.holds μ)
    (step : ∀ a ∈ as, ∀ ρ μ, J ρ μ → Wg g (ι a) ρ μ fun ρ1 μ1 => Ws s ρ1 μ1 ⟨J, E.rt, E.nx, J⟩)
    (fin : ∀ ρ μ, J ρ μ → E.nx ρ μ) {ρ : Ro} {μ : Mu} (h0 : J ρ μ) : Ws (forL w g s (as.map ι)) ρ μ E := by
  refine for_inv (fun rem ρ μ' => ∃ k, rem = (as.drop k).map ι ∧ J ρ μ') ?_ ?_ _ _ _ ⟨0, by simp, h0⟩
  · rintro x rem ρ μ' ⟨k, hr, hJ⟩
    refine ⟨hw _, ?_⟩
    have hkl : k < as.length := by
      by_cases h : k < as.length
      · exact h
      · rw [List.drop_eq_nil_of_le (by omega)] at hr; cases hr
    rw [List.drop_eq_getElem_cons hkl, List.map_cons] at hr
    injection hr with e1 e2
    subst e1
    obtain ⟨ρ1, μ1, h1, h2⟩ := step _ (List.getElem_mem hkl) ρ μ' hJ
    refine ⟨ρ1, μ1, h1, ?_⟩
    show Ws s ρ1 μ1 _
    unfold Ws at h2 ⊢
    cases hs : s ρ1 μ1 with
    | none => rw [hs] at h2; exact h2.elim
    | some f =>
      rw [hs] at h2
      cases f with
      | nx ρ2 μ2 => exact ⟨k + 1, e2, h2⟩
      | rt d μ2 => exact h2
      | bk ρ2 μ2 => exact h2
      | ct ρ2 μ2 => exact ⟨k + 1, e2, h2⟩
      | er _ _ _ => exact h2.elim
  · rintro ρ μ' ⟨k, hr, hJ⟩
    exact ⟨hw _, fin ρ _ hJ⟩
/-- a call that turns the pen, and lays objects of its own -/
theorem wcl_pen2 {p p' : Pen} {rest more : Mu} {d : D} {P : D → Mu → Prop} (hu : d.und (rest.length + 1) = true) (q : P d (penO p' :: rest)) : Wcl (penO p :: rest) d (penO p' :: (rest ++ more)) P :=
  wcl_und keeps_pen (by simp) (by simpa using hu) (by
    have : (penO p' :: (rest ++ more)).take (penO p :: rest).length = penO p' :: rest := by simp
    rw [this]; exact q)
end VL
end
section
set_option linter.all false
set_option maxRecDepth 100000
set_option maxHeartbeats 2000000
namespace VL
open PySem L2
def loF (s : Raw) (b : Bool) (i j : Nat) : Int := cellV s.lows (cellAt b i j)
def hiF (s : Raw) (b : Bool) (i j : Nat) : Int := (oAt s.highs (cellAt b i j)).getD 0
theorem sum_filt {f : Nat → Int} {k : Option Nat} {n : Nat} : ((othI n k).map f).sum = SU (fun j => if some j = k then 0 else f j) n := by
  unfold othI
  induction n with
  | zero => rfl
  | succ n ih =>
    rw [List.range_succ, List.filter_append, List.map_append, List.sum_append, ih]
    by_cases e : some n = k
    · simp [SU, e]
    · simp [SU, e]
theorem othL_su {t : List (List Int)} {n : Nat} {b : Bool} {i : Nat} {k : Option Nat} : (othL t n b i k).sum = SU (fun j => if some j = k then 0 else cellV t (cellAt b i j)) n := sum_filt
theorem sumO_some {t : List (List (Option Int))} {n : Nat} {b : Bool} {i : Nat} {k : Option Nat} {m : Int} : sumO (othO t n b i k) = some m ↔ (∀ j, j < n → some j ≠ k → ∃ v, oAt t (cellAt b i j) = some v) ∧ m = SU (fun j => if some j = k then 0 else (oAt t (cellAt b i j)).getD 0) n := by
  unfold sumO
  have e : ((othO t n b i k).map fun o => o.getD 0).sum = SU (fun j => if some j = k then 0 else (oAt t (cellAt b i j)).getD 0) n := by
    unfold othO
    rw [List.map_map]
    exact sum_filt
  have hm : ∀ j, j ∈ othI n k ↔ j < n ∧ some j ≠ k := fun j => by unfold othI; rw [List.mem_filter, List.mem_range]; simp
  cases ha : (othO t n b i k).any Option.isNone with
  | true =>
    simp only [if_true]
    constructor
    · intro h; cases h
    · rintro ⟨h1, -⟩
      obtain ⟨o, ho, hn⟩ := List.any_eq_true.mp ha
      obtain ⟨j, hj, rfl⟩ := List.mem_map.mp ho
      obtain ⟨v, hv⟩ := h1 j ((hm j).mp hj).1 ((hm j).mp hj).2
      rw [hv] at hn; cases hn
  | false =>
    simp only [Bool.false_eq_true, if_false]
    rw [e]
    constructor
    · intro h
      cases h
      refine ⟨fun j hj hk => ?_, rfl⟩
      have h1 := List.any_eq_false.mp ha _ (List.mem_map.mpr ⟨j, (hm j).mpr ⟨hj, hk⟩, rfl⟩)
      cases ho : oAt t (cellAt b i j) with
      | none => rw [ho] at h1; exact absurd rfl h1
      | some v => exact ⟨v, rfl⟩
    · rintro ⟨-, rfl⟩; rfl
theorem su_but {f : Nat → Int} {n k : Nat} (hk : k < n) : SU (fun j => if some j = some k then 0 else f j) n = SU f n - f k := by
  have := su_upd (f := f) (v := 0) hk
  have e : SU (fun j => if some j = some k then 0 else f j) n = SU (fun i => if i = k then 0 else f i) n := su_congr fun j _ => by simp
  rw [e, this]; omega
theorem su_none {f : Nat → Int} {n : Nat} : SU (fun j => if some j = (none : Option Nat) then 0 else f j) n = SU f n := su_congr fun j _ => if_neg (fun h => by cases h)
section
variable {s T : Raw} {h w : Nat} {b : Bool} {i : Nat} {k : Nat} {m : Int}
theorem num_sl : numO s h w ⟨b, i, none, true⟩ = some (SU (loF s b i) (len h w b)) := by
  show some (othL s.lows (len h w b) b i none).sum = _
  rw [othL_su, su_none]; rfl
theorem num_sh : numO s h w ⟨b, i, none, false⟩ = some m ↔ (∀ j, j < len h w b → ∃ v, oAt s.highs (cellAt b i j) = some v) ∧ m = SU (hiF s b i) (len h w b) := by
  show sumO (othO s.highs (len h w b) b i none) = some m ↔ _
  rw [sumO_some, su_none]
  exact ⟨fun ⟨h1, h2⟩ => ⟨fun j hj => h1 j hj (fun z => by cases z), h2⟩, fun ⟨h1, h2⟩ => ⟨fun j hj _ => h1 j hj, h2⟩⟩
theorem num_ch (hk : k < len h w b) : numO s h w ⟨b, i, some k, false⟩ = some ((spanAt s b i).2 - (SU (loF s b i) (len h w b) - loF s b i k)) := by
  show some ((spanAt s b i).2 - (othL s.lows (len h w b) b i (some k)).sum) = _
  rw [othL_su, su_but hk]; rfl
theorem num_cl (hk : k < len h w b) : numO s h w ⟨b, i, some k, true⟩ = some m ↔ (∀ j, j < len h w b → j ≠ k → ∃ v, oAt s.highs (cellAt b i j) = some v) ∧ m = (spanAt s b i).1 - (SU (hiF s b i) (len h w b) - hiF s b i k) := by
  show (sumO (othO s.highs (len h w b) b i (some k))).map (fun m => (spanAt s b i).1 - m) = some m ↔ _
  rw [Option.map_eq_some_iff]
  constructor
  · rintro ⟨a, ha, rfl⟩
    obtain ⟨h1, rfl⟩ := sumO_some.mp ha
    rw [su_but hk]
    exact ⟨fun j hj hn => h1 j hj (fun z => hn (by cases z; rfl)), rfl⟩
  · rintro ⟨h1, rfl⟩
    refine ⟨_, sumO_some.mpr ⟨fun j hj hn => h1 j hj (fun z => hn (by rw [z])), rfl⟩, ?_⟩
    rw [su_but hk]; rfl
structure Le (T s : Raw) (h w : Nat) : Prop where
  lo : ∀ c : Nat × Nat, c.1 < h ∧ c.2 < w → cellV s.lows c ≤ cellV T.lows c
  hi : ∀ c : Nat × Nat, c.1 < h ∧ c.2 < w → ∀ n, oAt s.highs c = some n → ∃ m, oAt T.highs c = some m ∧ m ≤ n
  sp : ∀ b i, i < many h w b → (spanAt s b i).1 ≤ (spanAt T b i).1 ∧ (spanAt T b i).2 ≤ (spanAt s b i).2
/-- no step takes -/
structure Clo (T : Raw) (h w : Nat) : Prop where
  hs : ∀ c : Nat × Nat, c.1 < h ∧ c.2 < w → ∃ m, oAt T.highs c = some m
  a : ∀ b i, i < many h w b → SU (loF T b i) (len h w b) ≤ (spanAt T b i).1
  b : ∀ b i, i < many h w b → (spanAt T b i).2 ≤ SU (hiF T b i) (len h w b)
  c : ∀ b i k, i < many h w b → k < len h w b → hiF T b i k ≤ (spanAt T b i).2 - (SU (loF T b i) (len h w b) - loF T b i k)
  d : ∀ b i k, i < many h w b → k < len h w b → (spanAt T b i).1 - (SU (hiF T b i) (len h w b) - hiF T b i k) ≤ loF T b i k
theorem cell_back {c : Nat × Nat} (hc : c.1 < h ∧ c.2 < w) (b : Bool) : ∃ i j, i < many h w b ∧ j < len h w b ∧ cellAt b i j = c := by
  cases b
  · exact ⟨c.2, c.1, hc.2, hc.1, rfl⟩
  · exact ⟨c.1, c.2, hc.1, hc.2, rfl⟩
theorem takes_lo {s : Raw} {h w : Nat} {b : Bool} {i : Nat} {k : Option Nat} {n : Int} (hn : numO s h w ⟨b, i, k, true⟩ = some n) : takesB s h w ⟨b, i, k, true⟩ = decide ((bndO s ⟨b, i, k, true⟩).1 < n) := by
  unfold takesB; rw [hn]; simp
theorem takes_hi {s : Raw} {h w : Nat} {b : Bool} {i : Nat} {k : Option Nat} {n : Int} (hn : numO s h w ⟨b, i, k, false⟩ = some n) : takesB s h w ⟨b, i, k, false⟩ = (match (bndO s ⟨b, i, k, false⟩).2 with | none => true | some m => decide (n < m)) := by
  unfold takesB; rw [hn]
  cases ho : (bndO s ⟨b, i, k, false⟩).2 <;> simp [ho]
theorem Clo.of (ht : ∀ t, OkSt h w t → takesB T h w t = false) : Clo T h w := by
  have hc : ∀ b i k, i < many h w b → k < len h w b → ∃ m, oAt T.highs (cellAt b i k) = some m ∧ m ≤ (spanAt T b i).2 - (SU (loF T b i) (len h w b) - loF T b i k) := fun b i k hi hk => by
    have h1 := ht ⟨b, i, some k, false⟩ ⟨hi, fun k' e => by cases e; exact hk⟩
    rw [takes_hi (num_ch hk)] at h1
    have e : (bndO T ⟨b, i, some k, false⟩).2 = oAt T.highs (cellAt b i k) := rfl
    rw [e] at h1
    cases ho : oAt T.highs (cellAt b i k) with
    | none => rw [ho] at h1; cases h1
    | some m => rw [ho] at h1; exact ⟨m, rfl, by have := of_decide_eq_false h1; omega⟩
  have hs : ∀ c : Nat × Nat, c.1 < h ∧ c.2 < w → ∃ m, oAt T.highs c = some m := fun c hcc => by
    obtain ⟨i, j, hi, hj, rfl⟩ := cell_back hcc true
    obtain ⟨m, hm, _⟩ := hc true i j hi hj
    exact ⟨m, hm⟩
  refine ⟨hs, fun b i hi => ?_, fun b i hi => ?_, fun b i k hi hk => ?_, fun b i k hi hk => ?_⟩
  · have h1 := ht ⟨b, i, none, true⟩ ⟨hi, fun k' e => by cases e⟩
    rw [takes_lo num_sl] at h1
    have := of_decide_eq_false h1
    have e : (bndO T ⟨b, i, none, true⟩).1 = (spanAt T b i).1 := rfl
    omega
  · have h1 := ht ⟨b, i, none, false⟩ ⟨hi, fun k' e => by cases e⟩
    rw [takes_hi (num_sh.mpr ⟨fun j hj => hs _ (cell_in hi hj), rfl⟩)] at h1
    have e : (bndO T ⟨b, i, none, false⟩).2 = some (spanAt T b i).2 := rfl
    rw [e] at h1
    have := of_decide_eq_false h1
    omega
  · obtain ⟨m, hm, h1⟩ := hc b i k hi hk
    unfold hiF
    rw [hm]
    exact h1
  · have h1 := ht ⟨b, i, some k, true⟩ ⟨hi, fun k' e => by cases e; exact hk⟩
    rw [takes_lo ((num_cl hk).mpr ⟨fun j hj _ => hs _ (cell_in hi hj), rfl⟩)] at h1
    have := of_decide_eq_false h1
    have e : (bndO T ⟨b, i, some k, true⟩).1 = loF T b i k := rfl
    omega
theorem Clo.no (cl : Clo T h w) {t : St} (ht : OkSt h w t) : takesB T h w t = false := by
  obtain ⟨b, i, k, lo⟩ := t
  have hi := ht.i
  simp only at hi
  cases k with
  | none =>
    cases lo
    · rw [takes_hi (num_sh.mpr ⟨fun j hj => cl.hs _ (cell_in hi hj), rfl⟩)]
      have e : (bndO T ⟨b, i, none, false⟩).2 = some (spanAt T b i).2 := rfl
      rw [e]
      have := cl.b b i hi
      exact decide_eq_false (by omega)
    · rw [takes_lo num_sl]
      have := cl.a b i hi
      exact decide_eq_false (by show ¬ (spanAt T b i).1 < _; omega)
  | some k =>
    have hk := ht.k k rfl
    simp only at hk
    cases lo
    · rw [takes_hi (num_ch hk)]
      obtain ⟨m, hm⟩ := cl.hs _ (cell_in hi hk)
      have e : (bndO T ⟨b, i, some k, false⟩).2 = some m := hm
      rw [e]
      have := cl.c b i k hi hk
      unfold hiF at this
      rw [hm] at this
      simp only [Option.getD_some] at this
      exact decide_eq_false (by omega)
    · rw [takes_lo ((num_cl hk).mpr ⟨fun j hj _ => cl.hs _ (cell_in hi hj), rfl⟩)]
      have := cl.d b i k hi hk
      exact decide_eq_false (by show ¬ loF T b i k < _; omega)
theorem Clo.tak (cl : Clo T h w) : takL T h w = [] := List.filter_eq_nil_iff.mpr fun t ht => by rw [cl.no (steps_mem.mp ht)]; exact Bool.false_ne_true
theorem Clo.of_tak (ht : takL T h w = []) : Clo T h w := Clo.of fun t hok => by
  have := List.filter_eq_nil_iff.mp ht t (steps_mem.mpr hok)
  simpa using this
theorem Le.refl : Le s s h w := ⟨fun _ _ => Int.le_refl _, fun _ _ n hn => ⟨n, hn, Int.le_refl _⟩, fun _ _ _ => ⟨Int.le_refl _, Int.le_refl _⟩⟩
theorem Le.trans {a b c : Raw} (h1 : Le a b h w) (h2 : Le b c h w) : Le a c h w := ⟨fun x hx => Int.le_trans (h2.lo x hx) (h1.lo x hx), fun x hx n hn => by
  obtain ⟨m, hm, h3⟩ := h2.hi x hx n hn
  obtain ⟨m', hm', h4⟩ := h1.hi x hx m hm
  exact ⟨m', hm', Int.le_trans h4 h3⟩, fun b i hi => ⟨Int.le_trans (h2.sp b i hi).1 (h1.sp b i hi).1, Int.le_trans (h1.sp b i hi).2 (h2.sp b i hi).2⟩⟩
theorem Le.loF (le : Le T s h w) {b : Bool} {i j : Nat} (hi : i < many h w b) (hj : j < len h w b) : loF s b i j ≤ loF T b i j := le.lo _ (cell_in hi hj)
theorem Le.hiF (le : Le T s h w) {b : Bool} {i j : Nat} (hi : i < many h w b) (hj : j < len h w b) {v : Int} (hv : oAt s.highs (cellAt b i j) = some v) : hiF T b i j ≤ hiF s b i j := by
  obtain ⟨m, hm, h1⟩ := le.hi _ (cell_in hi hj) v hv
  unfold VL.hiF
  rw [hm, hv]
  exact h1
theorem su_mono1 {f g : Nat → Int} {n k : Nat} (hk : k < n) (h : ∀ i, i < n → i ≠ k → f i ≤ g i) : SU f n - f k ≤ SU g n - g k := by
  have h1 := su_upd (f := f) (v := 0) hk
  have h2 := su_upd (f := g) (v := 0) hk
  have h3 : SU (fun i => if i = k then 0 else f i) n ≤ SU (fun i => if i = k then 0 else g i) n := su_mono fun i hi => by
    by_cases e : i = k
    · simp [e]
    · simp only [if_neg e]; exact h i hi e
  omega
/-- what a step tells of s is no narrower than what holds in a closed sheet within s -/
theorem num_clo (cl : Clo T h w) (le : Le T s h w) {lo : Bool} {k : Option Nat} (ht : OkSt h w ⟨b, i, k, lo⟩) (hn : numO s h w ⟨b, i, k, lo⟩ = some m) : if lo then m ≤ (bndO T ⟨b, i, k, lo⟩).1 else ∃ n, (bndO T ⟨b, i, k, lo⟩).2 = some n ∧ n ≤ m := by
  have hi : i < many h w b := ht.i
  cases k with
  | none =>
    cases lo
    · simp only [Bool.false_eq_true, if_false]
      obtain ⟨h1, rfl⟩ := num_sh.mp hn
      refine ⟨_, rfl, ?_⟩
      have h2 := cl.b b i hi
      have h3 : SU (hiF T b i) (len h w b) ≤ SU (hiF s b i) (len h w b) := su_mono fun j hj => by
        obtain ⟨v, hv⟩ := h1 j hj
        exact le.hiF hi hj hv
      show (spanAt T b i).2 ≤ _
      omega
    · simp only [if_true]
      rw [num_sl] at hn
      cases hn
      have h2 := cl.a b i hi
      have h3 : SU (loF s b i) (len h w b) ≤ SU (loF T b i) (len h w b) := su_mono fun j hj => le.loF hi hj
      show _ ≤ (spanAt T b i).1
      omega
  | some k =>
    have hk : k < len h w b := ht.k k rfl
    cases lo
    · simp only [Bool.false_eq_true, if_false]
      rw [num_ch hk] at hn
      cases hn
      obtain ⟨n, hn⟩ := cl.hs _ (cell_in hi hk)
      refine ⟨n, hn, ?_⟩
      have h2 := cl.c b i k hi hk
      have h3 := su_mono1 hk (f := loF s b i) (g := loF T b i) fun j hj _ => le.loF hi hj
      have h4 := (le.sp b i hi).2
      have h5 : hiF T b i k = n := by unfold hiF; rw [hn]; rfl
      omega
    · simp only [if_true]
      obtain ⟨h1, rfl⟩ := (num_cl hk).mp hn
      have h2 := cl.d b i k hi hk
      have h3 := su_mono1 hk (f := hiF T b i) (g := hiF s b i) fun j hj hne => by
        obtain ⟨v, hv⟩ := h1 j hj hne
        exact le.hiF hi hj hv
      have h4 := (le.sp b i hi).1
      show _ ≤ loF T b i k
      omega
theorem bnd_ok (ok : T.Ok h w) {lo : Bool} {k : Option Nat} (ht : OkSt h w ⟨b, i, k, lo⟩) (hm : (bndO T ⟨b, i, k, lo⟩).2 = some m) : (bndO T ⟨b, i, k, lo⟩).1 ≤ m := by
  have hi : i < many h w b := ht.i
  cases k with
  | none => cases hm; exact (spanAt_ok' ok hi).2.1
  | some k => exact ok_high ok (cell_in hi (ht.k k rfl)) hm
theorem bnd_le (le : Le T s h w) {lo : Bool} {k : Option Nat} (ht : OkSt h w ⟨b, i, k, lo⟩) : (bndO s ⟨b, i, k, lo⟩).1 ≤ (bndO T ⟨b, i, k, lo⟩).1 ∧ ∀ n, (bndO s ⟨b, i, k, lo⟩).2 = some n → ∃ m, (bndO T ⟨b, i, k, lo⟩).2 = some m ∧ m ≤ n := by
  have hi : i < many h w b := ht.i
  cases k with
  | none => exact ⟨(le.sp b i hi).1, fun n hn => by cases hn; exact ⟨_, rfl, (le.sp b i hi).2⟩⟩
  | some k => exact ⟨le.lo _ (cell_in hi (ht.k k rfl)), fun n hn => le.hi _ (cell_in hi (ht.k k rfl)) n hn⟩
theorem beh_clo (oks : s.Ok h w) (okT : T.Ok h w) (cl : Clo T h w) (le : Le T s h w) {lo : Bool} {k : Option Nat} (ht : OkSt h w ⟨b, i, k, lo⟩) (htk : takesB s h w ⟨b, i, k, lo⟩ = true) : breaksB s h w ⟨b, i, k, lo⟩ = false ∧ Le T (behS s h w ⟨b, i, k, lo⟩) h w := by
  have hi : i < many h w b := ht.i
  cases hn : numO s h w ⟨b, i, k, lo⟩ with
  | none => unfold takesB at htk; rw [hn] at htk; cases htk
  | some n =>
    have h1 := num_clo cl le ht hn
    have h2 := bnd_le le ht
    have be := beh_eq hn
    -- the new bounds hold in T
    have key : ∃ a o, behO s h w ⟨b, i, k, lo⟩ = (some a, o) ∧ a ≤ (bndO T ⟨b, i, k, lo⟩).1 ∧ ∀ x, o = some x → ∃ m, (bndO T ⟨b, i, k, lo⟩).2 = some m ∧ m ≤ x := by
      rw [be]
      cases lo
      · simp only [Bool.false_eq_true, if_false] at h1 ⊢
        exact ⟨_, _, rfl, h2.1, fun x hx => by cases hx; exact h1⟩
      · simp only [if_true] at h1 ⊢
        exact ⟨_, _, rfl, h1, h2.2⟩
    obtain ⟨a, o, e, k1, k2⟩ := key
    refine ⟨?_, ?_⟩
    · unfold breaksB
      rw [e]
      cases o with
      | none => rfl
      | some x =>
        obtain ⟨m, hm, h3⟩ := k2 x rfl
        have := bnd_ok okT ht hm
        exact decide_eq_false (by omega)
    · unfold behS
      rw [e]
      cases k with
      | none =>
        simp only [Option.getD_some]
        have ho : ∃ x, o = some x := by
          rw [be] at e
          cases lo
          · simp at e; exact ⟨_, e.2.symm⟩
          · simp at e; exact ⟨_, e.2.symm⟩
        obtain ⟨x, rfl⟩ := ho
        obtain ⟨m, hm, h3⟩ := k2 x rfl
        have hm' : (spanAt T b i).2 = m := by cases hm; rfl
        have el : (spanSet s b i (a, x)).lows = s.lows := by unfold spanSet; cases b <;> rfl
        have eh : (spanSet s b i (a, x)).highs = s.highs := by unfold spanSet; cases b <;> rfl
        refine ⟨fun c hc => by rw [Option.getD_some, el]; exact le.lo c hc, fun c hc => by rw [Option.getD_some, eh]; exact le.hi c hc, fun b' i' hi' => ?_⟩
        rw [Option.getD_some, spanSet_span oks hi]
        by_cases z : b' = b ∧ i' = i
        · rw [if_pos z]
          obtain ⟨rfl, rfl⟩ := z
          exact ⟨k1, by show _ ≤ x; omega⟩
        · rw [if_neg z]; exact le.sp b' i' hi'
      | some k =>
        simp only [Option.getD_some]
        have hc : (cellAt b i k).1 < h ∧ (cellAt b i k).2 < w := cell_in hi (show k < len h w b from ht.k k rfl)
        have k1 : a ≤ cellV T.lows (cellAt b i k) := k1
        have k2 : ∀ x, o = some x → ∃ m, oAt T.highs (cellAt b i k) = some m ∧ m ≤ x := k2
        generalize cellAt b i k = cc at hc k1 k2
        refine ⟨fun c hcc => ?_, fun c hcc n hn => ?_, fun b' i' hi' => le.sp b' i' hi'⟩
        · rw [cellSet_low oks hc]
          by_cases z : c.1 = cc.1 ∧ c.2 = cc.2
          · rw [if_pos z]
            have : c = cc := Prod.ext z.1 z.2
            rw [this]; exact k1
          · rw [if_neg z]; exact le.lo c hcc
        · rw [cellSet_high oks hc] at hn
          by_cases z : c.1 = cc.1 ∧ c.2 = cc.2
          · rw [if_pos z] at hn
            have : c = cc := Prod.ext z.1 z.2
            rw [this]; exact k2 n hn
          · rw [if_neg z] at hn; exact le.hi c hcc n hn
/-- a step that takes narrows -/
theorem beh_le (oks : s.Ok h w) {lo : Bool} {k : Option Nat} (ht : OkSt h w ⟨b, i, k, lo⟩) (g : goodB s h w ⟨b, i, k, lo⟩ = true) : Le (behS s h w ⟨b, i, k, lo⟩) s h w := by
  obtain ⟨n, hn, gg⟩ := good_facts g
  have be := beh_eq hn
  have hi : i < many h w b := ht.i
  have key : ∃ a o, behO s h w ⟨b, i, k, lo⟩ = (some a, o) ∧ (bndO s ⟨b, i, k, lo⟩).1 ≤ a ∧ ∀ x, (bndO s ⟨b, i, k, lo⟩).2 = some x → ∃ m, o = some m ∧ m ≤ x := by
    rw [be]
    cases lo
    · simp only [Bool.false_eq_true, if_false] at gg ⊢
      exact ⟨_, _, rfl, Int.le_refl _, fun x hx => ⟨n, rfl, by have := gg.2 x hx; omega⟩⟩
    · simp only [if_true] at gg ⊢
      exact ⟨_, _, rfl, by omega, fun x hx => ⟨x, hx, Int.le_refl _⟩⟩
  obtain ⟨a, o, e, k1, k2⟩ := key
  unfold behS
  rw [e]
  cases k with
  | none =>
    obtain ⟨x, rfl, hx⟩ := k2 _ rfl
    have k1 : (spanAt s b i).1 ≤ a := k1
    have el : (spanSet s b i (a, x)).lows = s.lows := by unfold spanSet; cases b <;> rfl
    have eh : (spanSet s b i (a, x)).highs = s.highs := by unfold spanSet; cases b <;> rfl
    simp only [Option.getD_some]
    refine ⟨fun c hc => by rw [el]; exact Int.le_refl _, fun c hc n hn => ⟨n, by rw [eh]; exact hn, Int.le_refl _⟩, fun b' i' hi' => ?_⟩
    rw [spanSet_span oks hi]
    by_cases z : b' = b ∧ i' = i
    · rw [if_pos z]
      obtain ⟨rfl, rfl⟩ := z
      exact ⟨k1, hx⟩
    · rw [if_neg z]; exact ⟨Int.le_refl _, Int.le_refl _⟩
  | some k =>
    simp only [Option.getD_some]
    have hc : (cellAt b i k).1 < h ∧ (cellAt b i k).2 < w := cell_in hi (show k < len h w b from ht.k k rfl)
    have k1 : cellV s.lows (cellAt b i k) ≤ a := k1
    have k2 : ∀ x, oAt s.highs (cellAt b i k) = some x → ∃ m, o = some m ∧ m ≤ x := k2
    generalize cellAt b i k = cc at hc k1 k2
    refine ⟨fun c hcc => ?_, fun c hcc n hn => ?_, fun b' i' hi' => ⟨Int.le_refl _, Int.le_refl _⟩⟩
    · rw [cellSet_low oks hc]
      by_cases z : c.1 = cc.1 ∧ c.2 = cc.2
      · rw [if_pos z]
        have : c = cc := Prod.ext z.1 z.2
        rw [this]; exact k1
      · rw [if_neg z]; exact Int.le_refl _
    · rw [cellSet_high oks hc]
      by_cases z : c.1 = cc.1 ∧ c.2 = cc.2
      · rw [if_pos z]
        have : c = cc := Prod.ext z.1 z.2
        rw [this] at hn; exact k2 n hn
      · rw [if_neg z]; exact ⟨n, hn, Int.le_refl _⟩
/-- the least steps one by one -/
inductive Run (h w : Nat) : Raw → List St → Option Raw → Prop
  | done {s : Raw} : takL s h w = [] → Run h w s [] (some s)
  | brk {s : Raw} {t : St} {ts : List St} : takL s h w = t :: ts → breaksB s h w t = true → Run h w s [t] none
  | step {s : Raw} {t : St} {ts acc : List St} {o : Option Raw} : takL s h w = t :: ts → breaksB s h w t = false → Run h w (behS s h w t) acc o → Run h w s (t :: acc) o
theorem tak_mem {t : St} {ts : List St} (e : takL s h w = t :: ts) : OkSt h w t ∧ takesB s h w t = true := by
  have hm : t ∈ takL s h w := by rw [e]; simp
  obtain ⟨m1, m2⟩ := List.mem_filter.mp hm
  exact ⟨steps_mem.mp m1, m2⟩
theorem good_of {t : St} (h1 : takesB s h w t = true) (h2 : breaksB s h w t = false) : goodB s h w t = true := by unfold goodB; rw [h1, h2]; rfl
theorem run_is {B : Int} : ∀ (n : Nat) (s : Raw), s.Ok h w → Bc s h w B → mes s h w B ≤ n → ∃ acc o, Run h w s acc o ∧ acc.length ≤ n + 1 := by
  intro n
  induction n with
  | zero =>
    intro s ok bc hm
    cases ht : takL s h w with
    | nil => exact ⟨[], some s, .done ht, by simp⟩
    | cons t ts =>
      obtain ⟨hok, htk⟩ := tak_mem ht
      cases hb : breaksB s h w t with
      | true => exact ⟨[t], none, .brk ht hb, by simp⟩
      | false =>
        obtain ⟨b, i, k, lo⟩ := t
        have g := good_of htk hb
        have h1 := beh_facts ok bc hok g
        have := mes_pos (behS_ok ok hok g) h1.1
        omega
  | succ n ih =>
    intro s ok bc hm
    cases ht : takL s h w with
    | nil => exact ⟨[], some s, .done ht, by simp⟩
    | cons t ts =>
      obtain ⟨hok, htk⟩ := tak_mem ht
      cases hb : breaksB s h w t with
      | true => exact ⟨[t], none, .brk ht hb, by simp⟩
      | false =>
        obtain ⟨b, i, k, lo⟩ := t
        have g := good_of htk hb
        have h1 := beh_facts ok bc hok g
        obtain ⟨acc, o, hr, hl⟩ := ih _ (behS_ok ok hok g) h1.1 (by omega)
        exact ⟨_ :: acc, o, .step ht hb hr, by simp; omega⟩
theorem run_ok {acc : List St} {o : Option Raw} (r : Run h w s acc o) : s.Ok h w → ∀ S, o = some S → S.Ok h w ∧ Clo S h w ∧ Le S s h w := by
  induction r with
  | done ht => intro ok S e; cases e; exact ⟨ok, Clo.of_tak ht, Le.refl⟩
  | brk ht hb => intro ok S e; cases e
  | @step s t ts acc o ht hb hr ih =>
    intro ok S e
    obtain ⟨hok, htk⟩ := tak_mem ht
    obtain ⟨b, i, k, lo⟩ := t
    have g := good_of htk hb
    obtain ⟨h1, h2, h3⟩ := ih (behS_ok ok hok g) S e
    exact ⟨h1, h2, h3.trans (beh_le ok hok g)⟩
theorem run_clo {acc : List St} {o : Option Raw} (r : Run h w s acc o) (okT : T.Ok h w) (cl : Clo T h w) : s.Ok h w → Le T s h w → ∃ S, o = some S ∧ Le T S h w := by
  induction r with
  | done ht => intro ok le; exact ⟨_, rfl, le⟩
  | @brk s t ts ht hb =>
    intro ok le
    obtain ⟨hok, htk⟩ := tak_mem ht
    obtain ⟨b, i, k, lo⟩ := t
    rw [(beh_clo ok okT cl le hok htk).1] at hb
    cases hb
  | @step s t ts acc o ht hb hr ih =>
    intro ok le
    obtain ⟨hok, htk⟩ := tak_mem ht
    obtain ⟨b, i, k, lo⟩ := t
    exact ih (behS_ok ok hok (good_of htk hb)) (beh_clo ok okT cl le hok htk).2
/-- sheets that are alike by cells are alike -/
theorem raw_ext (okT : T.Ok h w) (oks : s.Ok h w) (h1 : ∀ i j, i < h → j < w → cellV T.lows (i, j) = cellV s.lows (i, j)) (h2 : ∀ i j, i < h → j < w → oAt T.highs (i, j) = oAt s.highs (i, j)) (h3 : ∀ b i, i < many h w b → spanAt T b i = spanAt s b i) : T = s := by
  have ext2 : ∀ {α : Type} {d : α} {x y : List (List α)}, x.length = h → y.length = h → (∀ r ∈ x, r.length = w) → (∀ r ∈ y, r.length = w) → (∀ i j, i < h → j < w → (x.getD i []).getD j d = (y.getD i []).getD j d) → x = y := fun {α d x y} a1 a2 a3 a4 a5 => by
    refine List.ext_getElem (by omega) fun i p1 p2 => ?_
    have g1 : x.getD i [] = x[i] := by rw [List.getD_eq_getElem?_getD, List.getElem?_eq_getElem p1]; rfl
    have g2 : y.getD i [] = y[i] := by rw [List.getD_eq_getElem?_getD, List.getElem?_eq_getElem p2]; rfl
    have l1 := a3 _ (List.getElem_mem p1)
    have l2 := a4 _ (List.getElem_mem p2)
    refine List.ext_getElem (by omega) fun j q1 q2 => ?_
    have := a5 i j (by omega) (by omega)
    rw [g1, g2, List.getD_eq_getElem?_getD, List.getElem?_eq_getElem q1, List.getD_eq_getElem?_getD, List.getElem?_eq_getElem q2] at this
    exact this
  have ext1 : ∀ {n : Nat} {d : Int × Int} {x y : List (Int × Int)}, x.length = n → y.length = n → (∀ i, i < n → x.getD i d = y.getD i d) → x = y := fun {n d x y} a1 a2 a5 => by
    refine List.ext_getElem (by omega) fun i p1 p2 => ?_
    have := a5 i (by omega)
    rw [List.getD_eq_getElem?_getD, List.getElem?_eq_getElem p1, List.getD_eq_getElem?_getD, List.getElem?_eq_getElem p2] at this
    exact this
  have e1 : T.lows = s.lows := ext2 (d := 0) okT.lows.1 oks.lows.1 okT.lows.2 oks.lows.2 h1
  have e2 : T.highs = s.highs := ext2 (d := none) okT.hl oks.hl okT.hw oks.hw h2
  have e3 : T.rows = s.rows := ext1 okT.rl oks.rl fun i hi => h3 true i hi
  have e4 : T.cols = s.cols := ext1 okT.cl oks.cl fun i hi => h3 false i hi
  cases T; cases s
  simp only at e1 e2 e3 e4
  rw [e1, e2, e3, e4]
theorem le_antisymm (okT : T.Ok h w) (oks : s.Ok h w) (h1 : Le T s h w) (h2 : Le s T h w) : T = s := raw_ext okT oks
  (fun i j hi hj => Int.le_antisymm (h2.lo (i, j) ⟨hi, hj⟩) (h1.lo (i, j) ⟨hi, hj⟩))
  (fun i j hi hj => by
    cases ho : oAt s.highs (i, j) with
    | some n =>
      obtain ⟨m, hm, l1⟩ := h1.hi (i, j) ⟨hi, hj⟩ n ho
      obtain ⟨m', hm', l2⟩ := h2.hi (i, j) ⟨hi, hj⟩ m hm
      rw [ho] at hm'
      cases hm'
      rw [hm, show m = n by omega]
    | none =>
      cases hT : oAt T.highs (i, j) with
      | none => rfl
      | some n =>
        obtain ⟨m, hm, l1⟩ := h2.hi (i, j) ⟨hi, hj⟩ n hT
        rw [ho] at hm; cases hm)
  (fun b i hi => Prod.ext (Int.le_antisymm (h2.sp b i hi).1 (h1.sp b i hi).1) (Int.le_antisymm (h1.sp b i hi).2 (h2.sp b i hi).2))
end
end VL
end
section
set_option linter.all false
set_option maxRecDepth 100000
set_option maxHeartbeats 2000000
namespace VL
open PySem L2
section
variable {μ : Mu} {ρ : Ro} {r : VA} {W : Wk → Mu → Prop}
@[simp] theorem wi_zp3 : Wi (iZp3 r) ρ μ W ↔ Wa r ρ μ fun xs μ1 => ∃ x y z us vs ws, xs = [x, y, z] ∧ seqOf μ1 x = some us ∧ seqOf μ1 y = some vs ∧ seqOf μ1 z = some ws ∧ W ⟨srcOf x us ++ srcOf y vs ++ srcOf z ws, (us.zip (vs.zip ws)).map fun p => .tup [p.1, p.2.1, p.2.2]⟩ μ1 := by
  unfold Wi Wa iZp3; rw [bdW]
  refine exists_congr fun x => exists_congr fun μ1 => and_congr_right fun _ => ?_
  split
  · rename_i x y z _
    constructor
    · rintro ⟨d, μ', h, q⟩
      split at h
      · rename_i us vs ws h1 h2 h3; cases h; exact ⟨x, y, z, us, vs, ws, rfl, h1, h2, h3, q⟩
      · cases h
    · rintro ⟨x', y', z', us, vs, ws, h, h1, h2, h3, q⟩
      simp only [List.cons.injEq, and_true] at h; obtain ⟨rfl, rfl, rfl⟩ := h
      exact ⟨_, _, by rw [h1, h2, h3], q⟩
  · rename_i hx
    constructor
    · rintro ⟨d, μ', h, q⟩; cases h
    · rintro ⟨x', y', z', us, vs, ws, h, -, -, -, -⟩; exact absurd h (hx _ _ _)
end
inductive LI : Nat → D → Prop
  | int {n : Nat} (i : Int) : LI n (.int i)
  | str {n : Nat} (x : Str) : PyData.strOk x = true → LI n (.str x)
  | non {n : Nat} : LI n .non
  | bl {n : Nat} (b : Bool) : LI n (.bl b)
  | tup {n : Nat} (ds : List D) : ds.length ≤ 1000 → (∀ x ∈ ds, LI n x) → LI (n + 1) (.tup ds)
mutual
theorem eqD_refl : ∀ d : D, d.plain = true → eqD d d = true
  | .non, _ => rfl
  | .bl b, _ => by cases b <;> rfl
  | .int i, _ => by simp [eqD]
  | .str x, _ => by simp [eqD]
  | .tup xs, h => by rw [eqD]; exact eqAll_refl xs (by simpa [D.plain] using h)
  | .lst xs, h => by rw [eqD]; exact eqAll_refl xs (by simpa [D.plain] using h)
  | .ty _, h => by simp [D.plain] at h
  | .scr _, h => by simp [D.plain] at h
  | .obj _ _, h => by simp [D.plain] at h
  | .ref _, h => by simp [D.plain] at h
  | .glob _, h => by simp [D.plain] at h
theorem eqAll_refl : ∀ ds : List D, plainAll ds = true → eqAll ds ds = true
  | [], _ => rfl
  | x :: xs, h => by
    simp only [plainAll, Bool.and_eq_true] at h
    simp only [eqAll, eqD_refl x h.1, eqAll_refl xs h.2, Bool.and_true]
end
section
variable {μ : Mu} {P : D → Mu → Prop}
theorem law_is_refl {n m : Nat} {d : D} (h : LI n d) (q : P (.bl true) μ) : Wf (f_law_is (n + 1 + m)) [d, d] μ P := by
  induction h generalizing μ P with
  | @int n i =>
    rw [show n + 1 + m = (n + m) + 1 by omega]
    refine law_is_simple (t := .int i) rfl (Sm.int.dat (n := 0) (by omega)) ?_
    have : sameD (.int i) (.int i) = true := by simp [sameD]
    rw [this]; exact q
  | @str n x hx =>
    rw [show n + 1 + m = (n + m) + 1 by omega]
    unfold f_law_is
    rw [wf_def]
    have tk : (D.str x).kd = true := rfl
    simp [isi_str tk, isi_tuple tk, D.isS, D.isT, hx]
    exact wcl_same rfl q
  | @non n =>
    rw [show n + 1 + m = (n + m) + 1 by omega]
    unfold f_law_is
    rw [wf_def]
    have tk : (D.non).kd = true := rfl
    simp [isi_tuple tk, D.isT]
    exact wcl_same rfl q
  | @bl n b =>
    rw [show n + 1 + m = (n + m) + 1 by omega]
    refine law_is_bl ?_
    rw [beq_self_eq_true]; exact q
  | @tup n ds hl h ih =>
    rw [show n + 1 + 1 + m = (n + 1 + m) + 1 by omega]
    unfold f_law_is
    rw [wf_def]
    have hk : (D.tup ds).kd = true := rfl
    simp [isi_tuple hk, D.isT]
    refine ⟨by omega, ?_⟩
    rw [rng0]
    refine comp_filterA (fun _ => false) (fun i => .int (i : Nat)) holds_nil (fun i hi => ?_) ?_
    · have hi := List.mem_range.mp hi
      have hg := getD_some (d := D.non) (as := ds) hi
      have hm := List.mem_of_getElem? hg
      have a1 := atI_nat' (n := i) hg
      generalize ds.getD i .non = x at hm a1
      simp [wipe, a1]
      refine ih x hm ?_
      simp
    · rw [List.nil_append, eq_nil (plainAll_of fun x hx => by obtain ⟨i, _, rfl⟩ := List.mem_map.mp hx; rfl) (Nat.le_trans (depAll_of (n := 0) fun x hx => by obtain ⟨i, _, rfl⟩ := List.mem_map.mp hx; exact Nat.le_refl _) (by omega))]
      have e : (List.map (fun i => D.int (i : Nat)) (List.filter (fun _ => false) (List.range ds.length))).isEmpty = true := by
        rw [List.isEmpty_iff, List.map_eq_nil_iff, List.filter_eq_nil_iff]; simp
      rw [e]
      exact wcl_same rfl q
theorem ne_refl {d : D} (hp : d.plain = true) (hd : d.dep ≤ 60) (q : P (.bl false) μ) : Wp (opNe d d μ) P := by
  rw [wp_ne hp hp hd hd, eqD_refl d hp]; exact q
theorem eq_refl {d : D} (hp : d.plain = true) (hd : d.dep ≤ 60) (q : P (.bl true) μ) : Wp (opEq d d μ) P := by
  rw [wp_eq hp hp hd hd, eqD_refl d hp]; exact q
theorem LI.plain {n : Nat} {d : D} (h : LI n d) : d.plain = true := by
  induction h with
  | int i => rfl
  | str x hx => simpa [D.plain] using hx
  | non => rfl
  | bl b => rfl
  | tup ds hl h ih => unfold D.plain; exact plainAll_of ih
theorem LI.dep {n : Nat} {d : D} (h : LI n d) : d.dep ≤ n := by
  induction h with
  | int i => exact Nat.zero_le _
  | str x hx => exact Nat.zero_le _
  | non => exact Nat.zero_le _
  | bl b => exact Nat.zero_le _
  | tup ds hl h ih =>
    simp only [D.dep]
    have := depAll_of ih
    omega
theorem LI.row {r : List Int} (h : r.length ≤ 1000) {n : Nat} : LI (n + 1) (rowD r) := .tup _ (by rw [List.length_map]; exact h) fun x hx => by obtain ⟨i, _, rfl⟩ := List.mem_map.mp hx; exact .int i
theorem LI.rowO {r : List (Option Int)} (h : r.length ≤ 1000) {n : Nat} : LI (n + 1) (rowO r) := .tup _ (by rw [List.length_map]; exact h) fun x hx => by
  obtain ⟨o, _, rfl⟩ := List.mem_map.mp hx
  cases o
  · exact .non
  · exact .int _
theorem LI.spans {r : List (Int × Int)} (h : r.length ≤ 1000) {n : Nat} : LI (n + 2) (spansD r) := .tup _ (by rw [List.length_map]; exact h) fun x hx => by
  obtain ⟨a, _, rfl⟩ := List.mem_map.mp hx
  exact .tup _ (by simp) fun y hy => by
    simp only [List.mem_cons, List.not_mem_nil, or_false] at hy
    rcases hy with rfl | rfl
    · exact .int _
    · exact .int _
theorem LI.tab {t : List (List Int)} (h : t.length ≤ 1000) (hr : ∀ r ∈ t, r.length ≤ 1000) {n : Nat} : LI (n + 2) (tabD t) := .tup _ (by rw [List.length_map]; exact h) fun x hx => by obtain ⟨r, hr1, rfl⟩ := List.mem_map.mp hx; exact .row (hr r hr1)
theorem LI.tabO {t : List (List (Option Int))} (h : t.length ≤ 1000) (hr : ∀ r ∈ t, r.length ≤ 1000) {n : Nat} : LI (n + 2) (tabO t) := .tup _ (by rw [List.length_map]; exact h) fun x hx => by obtain ⟨r, hr1, rfl⟩ := List.mem_map.mp hx; exact .rowO (hr r hr1)
theorem LI.raw {s : Raw} {h w : Nat} (ok : s.Ok h w) (hh : h ≤ 1000) (hw : w ≤ 1000) {n : Nat} : LI (n + 3) (rawD s) := .tup _ (by simp) fun x hx => by
  simp only [List.mem_cons, List.not_mem_nil, or_false] at hx
  rcases hx with rfl | rfl | rfl | rfl
  · exact .tab (by rw [ok.lows.1]; exact hh) fun r hr => by rw [ok.lows.2 r hr]; exact hw
  · exact .tabO (by rw [ok.hl]; exact hh) fun r hr => by rw [ok.hw r hr]; exact hw
  · exact .spans (by rw [ok.rl]; exact hh)
  · exact .spans (by rw [ok.cl]; exact hw)
end
end VL
end
section
set_option linter.all false
set_option maxRecDepth 100000
set_option maxHeartbeats 2000000
namespace VL
open PySem L2
theorem stD_plain' (t : St) : (stD t).plain = true := by simp [stD, D.plain, plainAll, wordS_ok, endS_ok]
theorem stD_dep' (t : St) : (stD t).dep = 1 := by simp [stD, D.dep, depAll]
section
variable {μ : Mu} {P : D → Mu → Prop} {s : Raw} {h w : Nat}
theorem tightened_r (ok : s.Ok h w) (hh : h ≤ 6) (hw : w ≤ 6) {acc : List St} {o : Option Raw} (r : Run h w s acc o) (hl : acc.length ≤ 1000000) (q : P (.tup [.lst (acc.map stD), rawM o]) μ) : Wf f_tightened [sheetO s] μ P := by
  unfold f_tightened
  rw [wf_def]
  simp
  refine taking_w ok (by omega) (by omega) ?_
  refine ws_while_m (fun n ρ μ' => ∃ (s' : Raw) (done rest : List St), s'.Ok h w ∧ Run h w s' rest o ∧ rest.length = n ∧ done ++ rest = acc ∧ μ' = μ ++ [.lst (done.map stD)] ∧ ρ = [some (sheetO s), some (.ref μ.length), some (sheetO s'), some (.lst ((takL s' h w).map stD))]) ?_ acc.length _ _ ⟨s, [], acc, ok, r, rfl, rfl, by simp, rfl⟩
  rintro n ρ μ' ⟨s', done, rest, ok', r', hn, he, rfl, rfl⟩
  have hdl : done.length ≤ 1000000 := by rw [← he, List.length_append] at hl; omega
  simp
  cases r' with
  | done ht =>
    rw [ht]
    refine .inl ⟨rfl, ?_⟩
    rw [List.append_nil] at he
    subst he
    exact wcl_pair (map_und (fun _ => rfl) _) (sheet_und _) q
  | @brk _ t ts ht hb =>
    obtain ⟨hok, htk⟩ := tak_mem ht
    rw [ht]
    refine .inr ⟨rfl, by rw [end_lst]; rfl, ?_⟩
    have e0 : atI ((t :: ts).map stD) 0 = some (stD t) := atI_nat' (n := 0) rfl
    refine ⟨_, e0, ?_⟩
    rw [st_append]
    refine ⟨by rw [List.length_map]; omega, ?_⟩
    obtain ⟨b, i, k, lo⟩ := t
    refine ⟨_, e0, ?_⟩
    refine breaks_by_w ok' (by omega) (by omega) hok htk ?_
    have ea : done.map stD ++ [stD ⟨b, i, k, lo⟩] = (done ++ [(⟨b, i, k, lo⟩ : St)]).map stD := by simp
    rw [ea, hb, he]
    exact .inr ⟨rfl, wcl_pair (map_und (fun _ => rfl) _) rfl q⟩
  | @step _ t ts acc' _ ht hb hr =>
    obtain ⟨hok, htk⟩ := tak_mem ht
    rw [ht]
    refine .inr ⟨rfl, by rw [end_lst]; rfl, ?_⟩
    have e0 : atI ((t :: ts).map stD) 0 = some (stD t) := atI_nat' (n := 0) rfl
    refine ⟨_, e0, ?_⟩
    rw [st_append]
    refine ⟨by rw [List.length_map]; omega, ?_⟩
    obtain ⟨b, i, k, lo⟩ := t
    refine ⟨_, e0, ?_⟩
    refine breaks_by_w ok' (by omega) (by omega) hok htk ?_
    have ea : done.map stD ++ [stD ⟨b, i, k, lo⟩] = (done ++ [(⟨b, i, k, lo⟩ : St)]).map stD := by simp
    rw [ea, hb]
    refine .inl ⟨rfl, ?_⟩
    refine ⟨_, e0, ?_⟩
    have g := good_of htk hb
    refine behind_by_w ok' hh hw hok g ?_
    have okB := behS_ok ok' hok g
    refine taking_w okB (by omega) (by omega) ?_
    exact ⟨acc'.length, by simp at hn; omega, behS s' h w ⟨b, i, k, lo⟩, okB, done ++ [(⟨b, i, k, lo⟩ : St)], acc', hr, rfl, by rw [List.append_assoc]; exact he, rfl, rfl, rfl⟩
theorem tight_sheet_w (ok : s.Ok h w) (hh : h ≤ 6) (hw : w ≤ 6) {acc : List St} {o : Option Raw} (r : Run h w s acc o) (hl : acc.length ≤ 1000000) (q : P (rawM o) μ) : Wf f_tight_sheet [sheetO s] μ P := by
  unfold f_tight_sheet
  rw [wf_def]
  simp
  refine tightened_r ok hh hw r hl ?_
  simp
  exact ⟨_, rfl, wcl_same rawM_und q⟩
end
end VL
end
section
set_option linter.all false
set_option maxRecDepth 100000
set_option maxHeartbeats 2000000
namespace VL
open PySem L2
theorem su_top {f : Nat → Int} {n : Nat} {B : Int} (h : ∀ i, i < n → f i ≤ B) : SU f n ≤ n * B := by
  induction n with
  | zero => simp [SU]
  | succ n ih =>
    have h1 := ih fun i hi => h i (by omega)
    have h2 := h n (by omega)
    show SU f n + f n ≤ ((n + 1 : Nat) : Int) * B
    have e : ((n + 1 : Nat) : Int) * B = n * B + B := by push_cast; rw [Int.add_mul, Int.one_mul]
    omega
theorem mes_top {s : Raw} {h w : Nat} {B : Int} (ok : s.Ok h w) (bc : Bc s h w B) (h0 : 0 ≤ B) : mes s h w B ≤ h * (w * (B + 1)) + h * B + w * B := by
  have e1 : SU (fun i => SU (mesC s B i) w) h ≤ h * (w * (B + 1)) := su_top fun i hi => su_top fun j hj => by
    have hc : (i, j).1 < h ∧ (i, j).2 < w := ⟨hi, hj⟩
    have := cellSet_at ok hc
    unfold mesC
    cases hn : oAt s.highs (i, j) with
    | none => simp only [hvO]; omega
    | some n => have := bc.high (i, j) n hc hn; simp only [hvO]; omega
  have e2 : ∀ b i, i < many h w b → mesL s b i ≤ B := fun b i hi => by
    have := bc.span b i hi
    have := spanAt_ok' ok hi
    unfold mesL
    omega
  have e3 : SU (mesL s true) h ≤ h * B := su_top fun i hi => e2 true i (by simpa [many] using hi)
  have e4 : SU (mesL s false) w ≤ w * B := su_top fun i hi => e2 false i (by simpa [many] using hi)
  unfold mes
  omega
/-- small sheets have their run -/
theorem run_small {s : Raw} {h w : Nat} {B : Int} (ok : s.Ok h w) (bc : Bc s h w B) (h0 : 0 ≤ B) (hB : B ≤ 10000) (hh : h ≤ 6) (hw : w ≤ 6) : ∃ acc o, Run h w s acc o ∧ acc.length ≤ 1000000 := by
  have h1 := mes_top ok bc h0
  have h2 : ((h : Int) * ((w : Int) * (B + 1))) ≤ 36 * 10001 := by
    have a1 : (w : Int) * (B + 1) ≤ 6 * 10001 := Int.mul_le_mul (by omega) (by omega) (by omega) (by omega)
    have a2 : (h : Int) * ((w : Int) * (B + 1)) ≤ 6 * (6 * 10001) := Int.mul_le_mul (by omega) a1 (Int.mul_nonneg (by omega) (by omega)) (by omega)
    omega
  have h3 : (h : Int) * B ≤ 6 * 10000 := Int.mul_le_mul (by omega) (by omega) h0 (by omega)
  have h4 : (w : Int) * B ≤ 6 * 10000 := Int.mul_le_mul (by omega) (by omega) h0 (by omega)
  obtain ⟨acc, o, hr, hl⟩ := run_is (B := B) (mes s h w B).toNat s ok bc (by omega)
  exact ⟨acc, o, hr, by omega⟩
def gS (lo : Nat → Nat → Int) (hi : Nat → Nat → Option Int) (sp : Bool → Nat → Int × Int) (h w : Nat) : Raw := ⟨tabF lo h w, (List.range h).map fun i => (List.range w).map (hi i), (List.range h).map (sp true), (List.range w).map (sp false)⟩
section
variable {lo : Nat → Nat → Int} {hi : Nat → Nat → Option Int} {sp : Bool → Nat → Int × Int} {h w : Nat}
theorem gS_lo {i j : Nat} (i1 : i < h) (j1 : j < w) : cellV (gS lo hi sp h w).lows (i, j) = lo i j := tabF_cell i1 j1
theorem gS_hi {i j : Nat} (i1 : i < h) (j1 : j < w) : oAt (gS lo hi sp h w).highs (i, j) = hi i j := by
  show (((List.range h).map fun i => (List.range w).map (hi i)).getD i []).getD j none = _
  rw [List.getD_eq_getElem?_getD (l := List.map _ (List.range h)), List.getElem?_map, List.getElem?_range i1]
  simp only [Option.map_some, Option.getD_some]
  rw [List.getD_eq_getElem?_getD, List.getElem?_map, List.getElem?_range j1]; rfl
theorem gS_sp {b : Bool} {i : Nat} (i1 : i < many h w b) : spanAt (gS lo hi sp h w) b i = sp b i := by
  unfold spanAt spanS gS
  cases b
  · simp only [Bool.false_eq_true, if_false]
    rw [List.getD_eq_getElem?_getD, List.getElem?_map, List.getElem?_range (show i < w from i1)]; rfl
  · simp only [if_true]
    rw [List.getD_eq_getElem?_getD, List.getElem?_map, List.getElem?_range (show i < h from i1)]; rfl
theorem gS_ok (h1 : 1 ≤ h) (w1 : 1 ≤ w) (hp : ∀ i j, i < h → j < w → 0 ≤ lo i j) (hl : ∀ i j n, i < h → j < w → hi i j = some n → lo i j ≤ n) (hs : ∀ b i, i < many h w b → SpO (sp b i)) : (gS lo hi sp h w).Ok h w := by
  refine ⟨h1, w1, tabF_isT, fun x hx n hn => ?_, by simp [gS], fun r hr => ?_, fun i j r q n m hr hq hn hm => ?_, by simp [gS], fun a ha => ?_, by simp [gS], fun a ha => ?_⟩
  · obtain ⟨i, hi, rfl⟩ := List.mem_map.mp hx
    obtain ⟨j, hj, rfl⟩ := List.mem_map.mp hn
    exact hp i j (List.mem_range.mp hi) (List.mem_range.mp hj)
  · obtain ⟨i, hi, rfl⟩ := List.mem_map.mp hr
    simp
  · have hi' := (List.getElem?_eq_some_iff.mp hr).1
    have hi' : i < h := by simpa [gS, tabF] using hi'
    have er : r = (List.range w).map (lo i) := by
      have : (tabF lo h w)[i]? = some ((List.range w).map (lo i)) := by unfold tabF; rw [List.getElem?_map, List.getElem?_range hi']; rfl
      have h2 : (tabF lo h w)[i]? = some r := hr
      rw [this] at h2; cases h2; rfl
    have eq' : q = (List.range w).map (hi i) := by
      have h2 : ((List.range h).map fun i => (List.range w).map (hi i))[i]? = some q := hq
      rw [List.getElem?_map, List.getElem?_range hi'] at h2; cases h2; rfl
    subst er eq'
    have hj := (List.getElem?_eq_some_iff.mp hn).1
    have hj : j < w := by simpa using hj
    rw [List.getElem?_map, List.getElem?_range hj] at hn hm
    cases hn
    have hm : hi i j = some m := by simpa using hm
    exact hl i j m hi' hj hm
  · obtain ⟨i, hi, rfl⟩ := List.mem_map.mp ha
    exact hs true i (List.mem_range.mp hi)
  · obtain ⟨i, hi, rfl⟩ := List.mem_map.mp ha
    exact hs false i (List.mem_range.mp hi)
end
def cA (A : Nat → Nat → Int) (b : Bool) (i j : Nat) : Int := A (cellAt b i j).1 (cellAt b i j).2
def lnA (A : Nat → Nat → Int) (h w : Nat) (b : Bool) (i : Nat) : Int := SU (cA A b i) (len h w b)
def shS (A : Nat → Nat → Int) (T : Raw) (h w : Nat) : Raw := gS (fun i j => cellV T.lows (i, j) + A i j) (fun i j => (oAt T.highs (i, j)).map fun n => n + A i j) (fun b i => ((spanAt T b i).1 + lnA A h w b i, (spanAt T b i).2 + lnA A h w b i)) h w
section
variable {s T F : Raw} {h w : Nat} {A : Nat → Nat → Int}
theorem shS_lo {i j : Nat} (i1 : i < h) (j1 : j < w) : cellV (shS A T h w).lows (i, j) = cellV T.lows (i, j) + A i j := gS_lo i1 j1
theorem shS_hi {i j : Nat} (i1 : i < h) (j1 : j < w) : oAt (shS A T h w).highs (i, j) = (oAt T.highs (i, j)).map fun n => n + A i j := gS_hi i1 j1
theorem shS_sp {b : Bool} {i : Nat} (i1 : i < many h w b) : spanAt (shS A T h w) b i = ((spanAt T b i).1 + lnA A h w b i, (spanAt T b i).2 + lnA A h w b i) := gS_sp i1
theorem shS_ok (ok : T.Ok h w) (h1 : ∀ i j, i < h → j < w → 0 ≤ cellV T.lows (i, j) + A i j) (h2 : ∀ b i, i < many h w b → 0 ≤ (spanAt T b i).1 + lnA A h w b i) : (shS A T h w).Ok h w := gS_ok ok.h1 ok.w1 h1 (fun i j n i1 j1 hn => by
  obtain ⟨m, hm, rfl⟩ := Option.map_eq_some_iff.mp hn
  have := ok_high ok (c := (i, j)) ⟨i1, j1⟩ hm
  omega) (fun b i hi => by
  have a1 := h2 b i hi
  have a2 := spanAt_ok' ok hi
  unfold SpO
  simp only
  omega)
theorem shS_loF {b : Bool} {i j : Nat} (hi : i < many h w b) (hj : j < len h w b) : loF (shS A T h w) b i j = loF T b i j + cA A b i j := by
  have hc := cell_in hi hj
  exact shS_lo hc.1 hc.2
theorem shS_hiF (hs : ∀ c : Nat × Nat, c.1 < h ∧ c.2 < w → ∃ m, oAt T.highs c = some m) {b : Bool} {i j : Nat} (hi : i < many h w b) (hj : j < len h w b) : hiF (shS A T h w) b i j = hiF T b i j + cA A b i j := by
  have hc := cell_in hi hj
  have e : oAt (shS A T h w).highs (cellAt b i j) = (oAt T.highs (cellAt b i j)).map fun n => n + cA A b i j := shS_hi hc.1 hc.2
  obtain ⟨m, hm⟩ := hs _ hc
  unfold hiF
  rw [e, hm]; rfl
theorem shS_clo (cl : Clo T h w) : Clo (shS A T h w) h w := by
  have el : ∀ b i, i < many h w b → SU (loF (shS A T h w) b i) (len h w b) = SU (loF T b i) (len h w b) + lnA A h w b i := fun b i hi => by
    unfold lnA
    rw [← su_add]
    exact su_congr fun j hj => shS_loF hi hj
  have eh : ∀ b i, i < many h w b → SU (hiF (shS A T h w) b i) (len h w b) = SU (hiF T b i) (len h w b) + lnA A h w b i := fun b i hi => by
    unfold lnA
    rw [← su_add]
    exact su_congr fun j hj => shS_hiF cl.hs hi hj
  refine ⟨fun c hc => ?_, fun b i hi => ?_, fun b i hi => ?_, fun b i k hi hk => ?_, fun b i k hi hk => ?_⟩
  · obtain ⟨m, hm⟩ := cl.hs c hc
    exact ⟨m + A c.1 c.2, by rw [show c = (c.1, c.2) from rfl, shS_hi hc.1 hc.2]; rw [show (c.1, c.2) = c from rfl, hm]; rfl⟩
  · rw [el b i hi, shS_sp hi]
    have := cl.a b i hi
    simp only; omega
  · rw [eh b i hi, shS_sp hi]
    have := cl.b b i hi
    simp only; omega
  · rw [el b i hi, shS_sp hi, shS_loF hi hk, shS_hiF cl.hs hi hk]
    have := cl.c b i k hi hk
    simp only; omega
  · rw [eh b i hi, shS_sp hi, shS_loF hi hk, shS_hiF cl.hs hi hk]
    have := cl.d b i k hi hk
    simp only; omega
theorem low_su (ok : s.Ok h w) {b : Bool} {i : Nat} (hi : i < many h w b) : lowAt s w b i = SU (loF s b i) (len h w b) := by
  cases b
  · exact col_su ok.lows hi
  · exact row_su ok.lows hi
def freedG (s : Raw) (h w : Nat) : Raw := gS (fun _ _ => 0) (fun i j => (oAt s.highs (i, j)).map fun n => n - cellV s.lows (i, j)) (nrS s w) h w
theorem freedG_ok (ok : s.Ok h w) (hr : RoomOk s h w) : (freedG s h w).Ok h w := gS_ok ok.h1 ok.w1 (fun _ _ _ _ => Int.le_refl _) (fun i j n i1 j1 hn => by
  obtain ⟨m, hm, rfl⟩ := Option.map_eq_some_iff.mp hn
  have := ok_high ok (c := (i, j)) ⟨i1, j1⟩ hm
  omega) (fun b i hi => nrS_ok ok hr hi)
theorem freedG_bc {B : Int} (ok : s.Ok h w) (bc : Bc s h w B) (h0 : 0 ≤ B) : Bc (freedG s h w) h w B := ⟨fun c hc => by
  rw [show c = (c.1, c.2) from rfl]
  unfold freedG
  rw [gS_lo hc.1 hc.2]; exact h0, fun c n hc hn => by
  rw [show c = (c.1, c.2) from rfl] at hn
  unfold freedG at hn
  rw [gS_hi hc.1 hc.2] at hn
  obtain ⟨m, hm, rfl⟩ := Option.map_eq_some_iff.mp hn
  have h1 := bc.high c m hc hm
  have h2 := cellSet_at ok hc
  show m - cellV s.lows c ≤ B
  omega, fun b i hi => by
  unfold freedG
  rw [gS_sp hi]
  have h1 := bc.span b i hi
  have h2 : 0 ≤ lowAt s w b i := by rw [low_su ok hi]; exact su_pos fun j hj => cellSet_at ok (cell_in hi hj)
  show roomAt s w b i ≤ B
  unfold roomAt
  omega⟩
def cL (s : Raw) (i j : Nat) : Int := cellV s.lows (i, j)
def nL (s : Raw) (i j : Nat) : Int := - cellV s.lows (i, j)
theorem lnA_cL (ok : s.Ok h w) {b : Bool} {i : Nat} (hi : i < many h w b) : lnA (cL s) h w b i = lowAt s w b i := by
  rw [low_su ok hi]; rfl
theorem su_neg {f : Nat → Int} {n : Nat} : SU (fun i => - f i) n = - SU f n := by
  have := su_sub (f := fun _ => 0) (g := f) (n := n)
  rw [su_zero] at this
  have e : SU (fun i => - f i) n = SU (fun i => 0 - f i) n := su_congr fun i _ => by omega
  rw [e, this]; omega
theorem lnA_nL (ok : s.Ok h w) {b : Bool} {i : Nat} (hi : i < many h w b) : lnA (nL s) h w b i = - lowAt s w b i := by
  rw [low_su ok hi, ← su_neg]; rfl
/-- closed sheets within a sheet, freed -/
theorem clo_down (ok : s.Ok h w) (okT : T.Ok h w) (cl : Clo T h w) (le : Le T s h w) : RoomOk s h w ∧ (shS (nL s) T h w).Ok h w ∧ Le (shS (nL s) T h w) (freedG s h w) h w := by
  have low : ∀ b i, i < many h w b → lowAt s w b i ≤ (spanAt T b i).1 := fun b i hi => by
    rw [low_su ok hi]
    have h1 := cl.a b i hi
    have h2 : SU (loF s b i) (len h w b) ≤ SU (loF T b i) (len h w b) := su_mono fun j hj => le.loF hi hj
    omega
  refine ⟨fun b i hi => ?_, ?_, ?_⟩
  · have h1 := low b i hi
    have h2 := (le.sp b i hi).2
    have h3 := spanAt_ok' okT hi
    unfold roomAt
    omega
  · refine shS_ok okT (fun i j i1 j1 => ?_) fun b i hi => ?_
    · have := le.lo (i, j) ⟨i1, j1⟩
      unfold nL; omega
    · rw [lnA_nL ok hi]
      have := low b i hi
      omega
  · refine ⟨fun c hc => ?_, fun c hc n hn => ?_, fun b i hi => ?_⟩
    · have h1 := le.lo c hc
      have e1 : cellV (shS (nL s) T h w).lows c = cellV T.lows c + nL s c.1 c.2 := shS_lo hc.1 hc.2
      have e2 : cellV (freedG s h w).lows c = 0 := gS_lo hc.1 hc.2
      have e3 : nL s c.1 c.2 = - cellV s.lows c := rfl
      omega
    · have e1 : oAt (shS (nL s) T h w).highs c = (oAt T.highs c).map fun n => n + nL s c.1 c.2 := shS_hi hc.1 hc.2
      have e2 : oAt (freedG s h w).highs c = (oAt s.highs c).map fun n => n - cellV s.lows c := gS_hi hc.1 hc.2
      rw [e2] at hn
      obtain ⟨m, hm, rfl⟩ := Option.map_eq_some_iff.mp hn
      obtain ⟨m', hm', h1⟩ := le.hi c hc m hm
      refine ⟨_, by rw [e1, hm']; rfl, ?_⟩
      have e3 : nL s c.1 c.2 = - cellV s.lows c := rfl
      show m' + nL s c.1 c.2 ≤ m - cellV s.lows c
      omega
    · have h1 := le.sp b i hi
      have h2 := low b i hi
      unfold freedG
      rw [gS_sp hi, shS_sp hi, lnA_nL ok hi]
      unfold nrS needAt roomAt
      simp only
      omega
theorem clo_up (ok : s.Ok h w) (okF : F.Ok h w) (le : Le F (freedG s h w) h w) : (shS (cL s) F h w).Ok h w ∧ Le (shS (cL s) F h w) s h w := by
  have pos : ∀ b i, i < many h w b → 0 ≤ lowAt s w b i := fun b i hi => by rw [low_su ok hi]; exact su_pos fun j hj => cellSet_at ok (cell_in hi hj)
  refine ⟨?_, ?_⟩
  · refine shS_ok okF (fun i j i1 j1 => ?_) fun b i hi => ?_
    · have h1 := cellSet_at okF (c := (i, j)) ⟨i1, j1⟩
      have h2 := cellSet_at ok (c := (i, j)) ⟨i1, j1⟩
      unfold cL; omega
    · rw [lnA_cL ok hi]
      have h1 := spanAt_ok' okF hi
      have := pos b i hi
      omega
  · refine ⟨fun c hc => ?_, fun c hc n hn => ?_, fun b i hi => ?_⟩
    · have e1 : cellV (shS (cL s) F h w).lows c = cellV F.lows c + cL s c.1 c.2 := shS_lo hc.1 hc.2
      have h1 := cellSet_at okF hc
      have e3 : cL s c.1 c.2 = cellV s.lows c := rfl
      omega
    · have e1 : oAt (shS (cL s) F h w).highs c = (oAt F.highs c).map fun n => n + cL s c.1 c.2 := shS_hi hc.1 hc.2
      have e2 : oAt (freedG s h w).highs c = (oAt s.highs c).map fun n => n - cellV s.lows c := gS_hi hc.1 hc.2
      obtain ⟨m, hm, h1⟩ := le.hi c hc (n - cellV s.lows c) (by rw [e2, hn]; rfl)
      refine ⟨_, by rw [e1, hm]; rfl, ?_⟩
      have e3 : cL s c.1 c.2 = cellV s.lows c := rfl
      show m + cL s c.1 c.2 ≤ n
      omega
    · have h1 := le.sp b i hi
      unfold freedG at h1
      rw [gS_sp hi] at h1
      rw [shS_sp hi, lnA_cL ok hi]
      unfold nrS needAt roomAt at h1
      simp only at h1 ⊢
      omega
/-- steps tell of the freed sheet just what they tell of the sheet -/
theorem freed_tight (ok : s.Ok h w) {acc : List St} {o : Option Raw} (r : Run h w s acc o) : (¬RoomOk s h w → o = none) ∧ (RoomOk s h w → ∀ acc' o', Run h w (freedG s h w) acc' o' → (o = none ∧ o' = none) ∨ ∃ F, o' = some F ∧ o = some (shS (cL s) F h w) ∧ F.Ok h w ∧ Clo F h w) := by
  refine ⟨fun hn => ?_, fun hr acc' o' r' => ?_⟩
  · cases o with
    | none => rfl
    | some S =>
      obtain ⟨okS, clS, leS⟩ := run_ok r ok S rfl
      exact absurd (clo_down ok okS clS leS).1 hn
  · have okf := freedG_ok ok hr
    cases o with
    | none =>
      left
      refine ⟨rfl, ?_⟩
      cases o' with
      | none => rfl
      | some F =>
        obtain ⟨okF, clF, leF⟩ := run_ok r' okf F rfl
        obtain ⟨okU, leU⟩ := clo_up ok okF leF
        obtain ⟨S, e, _⟩ := run_clo r okU (shS_clo clF) ok leU
        cases e
    | some S =>
      right
      obtain ⟨okS, clS, leS⟩ := run_ok r ok S rfl
      obtain ⟨_, okD, leD⟩ := clo_down ok okS clS leS
      obtain ⟨F, rfl, leF⟩ := run_clo r' okD (shS_clo clS) okf leD
      obtain ⟨okF, clF, leF2⟩ := run_ok r' okf F rfl
      obtain ⟨okU, leU⟩ := clo_up ok okF leF2
      obtain ⟨S', e, leS2⟩ := run_clo r okU (shS_clo clF) ok leU
      cases e
      refine ⟨F, rfl, congrArg some ?_, okF, clF⟩
      -- S is within F shifted up
      refine le_antisymm okS okU ⟨fun c hc => ?_, fun c hc n hn => ?_, fun b i hi => ?_⟩ leS2
      · have e1 : cellV (shS (cL s) F h w).lows c = cellV F.lows c + cL s c.1 c.2 := shS_lo hc.1 hc.2
        have e2 : cellV (shS (nL s) S h w).lows c = cellV S.lows c + nL s c.1 c.2 := shS_lo hc.1 hc.2
        have e3 : cL s c.1 c.2 = cellV s.lows c := rfl
        have e4 : nL s c.1 c.2 = - cellV s.lows c := rfl
        have := leF.lo c hc
        omega
      · have e1 : oAt (shS (cL s) F h w).highs c = (oAt F.highs c).map fun n => n + cL s c.1 c.2 := shS_hi hc.1 hc.2
        have e2 : oAt (shS (nL s) S h w).highs c = (oAt S.highs c).map fun n => n + nL s c.1 c.2 := shS_hi hc.1 hc.2
        rw [e1] at hn
        obtain ⟨m, hm, rfl⟩ := Option.map_eq_some_iff.mp hn
        obtain ⟨m', hm', h1⟩ := leF.hi c hc m hm
        rw [e2] at hm'
        obtain ⟨m2, hm2, rfl⟩ := Option.map_eq_some_iff.mp hm'
        have e3 : cL s c.1 c.2 = cellV s.lows c := rfl
        have e4 : nL s c.1 c.2 = - cellV s.lows c := rfl
        exact ⟨m2, hm2, by show m2 ≤ m + cL s c.1 c.2; have h1 : m2 + nL s c.1 c.2 ≤ m := h1; omega⟩
      · have h1 := leF.sp b i hi
        rw [shS_sp hi, lnA_nL ok hi] at h1
        rw [shS_sp hi, lnA_cL ok hi]
        simp only at h1 ⊢
        omega
end
end VL
end
section
set_option linter.all false
set_option maxRecDepth 100000
set_option maxHeartbeats 2000000
namespace VL
open PySem L2
def ptS (t : List (List Int)) (h w : Nat) : Raw := gS (fun i j => cellV t (i, j)) (fun i j => some (cellV t (i, j))) (fun b i => (lineAt w t b i, lineAt w t b i)) h w
def totT (t : List (List Int)) (h w : Nat) : Int := SU (lineAt w t true) h
section
variable {s S : Raw} {h w : Nat} {t : List (List Int)}
theorem line_su (ht : IsT h w t) {b : Bool} {i : Nat} (hi : i < many h w b) : lineAt w t b i = SU (fun j => cellV t (cellAt b i j)) (len h w b) := by
  cases b
  · exact col_su ht hi
  · exact row_su ht hi
theorem pt_lo {b : Bool} {i j : Nat} (hi : i < many h w b) (hj : j < len h w b) : loF (ptS t h w) b i j = cellV t (cellAt b i j) := by
  have hc := cell_in hi hj
  exact gS_lo hc.1 hc.2
theorem pt_hi {b : Bool} {i j : Nat} (hi : i < many h w b) (hj : j < len h w b) : hiF (ptS t h w) b i j = cellV t (cellAt b i j) := by
  have hc := cell_in hi hj
  have e : oAt (ptS t h w).highs (cellAt b i j) = some (cellV t (cellAt b i j)) := gS_hi hc.1 hc.2
  unfold hiF
  rw [e]; rfl
theorem pt_sp {b : Bool} {i : Nat} (hi : i < many h w b) : spanAt (ptS t h w) b i = (lineAt w t b i, lineAt w t b i) := gS_sp hi
theorem pt_clo (ht : IsT h w t) : Clo (ptS t h w) h w := by
  have el : ∀ b i, i < many h w b → SU (loF (ptS t h w) b i) (len h w b) = lineAt w t b i := fun b i hi => by
    rw [line_su ht hi]; exact su_congr fun j hj => pt_lo hi hj
  have eh : ∀ b i, i < many h w b → SU (hiF (ptS t h w) b i) (len h w b) = lineAt w t b i := fun b i hi => by
    rw [line_su ht hi]; exact su_congr fun j hj => pt_hi hi hj
  refine ⟨fun c hc => ⟨_, gS_hi hc.1 hc.2⟩, fun b i hi => ?_, fun b i hi => ?_, fun b i k hi hk => ?_, fun b i k hi hk => ?_⟩
  · rw [el b i hi, pt_sp hi]; exact Int.le_refl _
  · rw [eh b i hi, pt_sp hi]; exact Int.le_refl _
  · rw [el b i hi, pt_sp hi, pt_lo hi hk, pt_hi hi hk]; simp only; omega
  · rw [eh b i hi, pt_sp hi, pt_lo hi hk, pt_hi hi hk]; simp only; omega
theorem line_pos (ht : IsT h w t) (hp : ∀ i j, i < h → j < w → 0 ≤ cellV t (i, j)) {b : Bool} {i : Nat} (hi : i < many h w b) : 0 ≤ lineAt w t b i := by
  rw [line_su ht hi]
  exact su_pos fun j hj => by
    have hc := cell_in hi hj
    exact hp _ _ hc.1 hc.2
theorem pt_ok (h1 : 1 ≤ h) (w1 : 1 ≤ w) (ht : IsT h w t) (hp : ∀ i j, i < h → j < w → 0 ≤ cellV t (i, j)) : (ptS t h w).Ok h w := gS_ok h1 w1 hp (fun i j n _ _ e => by cases e; exact Int.le_refl _) fun b i hi => by
  have := line_pos ht hp hi
  unfold SpO
  simp only
  omega
theorem cells_all {c : Nat × Nat} (hc : c.1 < h ∧ c.2 < w) : c ∈ cells h w := List.mem_of_getElem? (cells_get hc.1 hc.2)
theorem fill_iff : fillB s h w t = true ↔ (∀ c : Nat × Nat, c.1 < h ∧ c.2 < w → cellV s.lows c ≤ cellV t c ∧ ∀ m, oAt s.highs c = some m → cellV t c ≤ m) ∧ ∀ b i, i < many h w b → (spanAt s b i).1 ≤ lineAt w t b i ∧ lineAt w t b i ≤ (spanAt s b i).2 := by
  have hw : ∀ c, withinB s t c = true ↔ (cellV s.lows c ≤ cellV t c ∧ ∀ m, oAt s.highs c = some m → cellV t c ≤ m) := fun c => by
    unfold withinB
    rw [Bool.and_eq_true, decide_eq_true_eq]
    have e : highV s c = oAt s.highs c := rfl
    rw [e]
    refine and_congr_right fun _ => ?_
    cases oAt s.highs c with
    | none => exact ⟨fun _ m e => (by cases e), fun _ => rfl⟩
    | some m => exact ⟨fun h m' e => by cases e; exact of_decide_eq_true h, fun h => decide_eq_true (h m rfl)⟩
  have hl : ∀ b, linesB s h w t b = true ↔ ∀ i, i < many h w b → (spanAt s b i).1 ≤ lineAt w t b i ∧ lineAt w t b i ≤ (spanAt s b i).2 := fun b => by
    unfold linesB
    rw [List.all_eq_true]
    constructor
    · intro h i hi
      have := h i (List.mem_range.mpr hi)
      unfold inSpanB at this
      rw [Bool.and_eq_true, decide_eq_true_eq, decide_eq_true_eq] at this
      exact this
    · intro h i hi
      have := h i (List.mem_range.mp hi)
      unfold inSpanB
      rw [Bool.and_eq_true, decide_eq_true_eq, decide_eq_true_eq]
      exact this
  unfold fillB
  rw [Bool.and_eq_true, Bool.and_eq_true, hl, hl, List.all_eq_true]
  constructor
  · rintro ⟨h1, h2, h3⟩
    refine ⟨fun c hc => (hw c).mp (h1 c (cells_all hc)), fun b => ?_⟩
    cases b
    · exact h3
    · exact h2
  · rintro ⟨h1, h2⟩
    exact ⟨fun c hc => (hw c).mpr (h1 c (cells_mem hc)), h2 true, h2 false⟩
theorem pt_le (hf : fillB s h w t = true) : Le (ptS t h w) s h w := by
  obtain ⟨h1, h2⟩ := fill_iff.mp hf
  refine ⟨fun c hc => ?_, fun c hc n hn => ⟨cellV t c, gS_hi hc.1 hc.2, (h1 c hc).2 n hn⟩, fun b i hi => ?_⟩
  · have e : cellV (ptS t h w).lows c = cellV t c := gS_lo hc.1 hc.2
    rw [e]; exact (h1 c hc).1
  · rw [pt_sp hi]; exact h2 b i hi
theorem le_pt (le : Le (ptS t h w) S h w) : fillB S h w t = true := fill_iff.mpr ⟨fun c hc => by
  have e : cellV (ptS t h w).lows c = cellV t c := gS_lo hc.1 hc.2
  have h1 := le.lo c hc
  rw [e] at h1
  refine ⟨h1, fun m hm => ?_⟩
  obtain ⟨m', hm', h2⟩ := le.hi c hc m hm
  have e2 : oAt (ptS t h w).highs c = some (cellV t c) := gS_hi hc.1 hc.2
  rw [e2] at hm'
  cases hm'; exact h2, fun b i hi => by
  have h1 := le.sp b i hi
  rw [pt_sp hi] at h1
  exact h1⟩
theorem tot_both (ht : IsT h w t) (b : Bool) : SU (lineAt w t b) (many h w b) = totT t h w := by
  cases b
  · have e1 : SU (lineAt w t false) (many h w false) = SU (fun j => SU (fun i => cellV t (i, j)) h) w := su_congr fun j hj => col_su ht hj
    have e2 : totT t h w = SU (fun i => SU (fun j => cellV t (i, j)) w) h := su_congr fun i hi => row_su ht hi
    rw [e1, e2, su_swap]
  · rfl
theorem le_tot (ht : IsT h w t) (hf : fillB S h w t = true) (b : Bool) : SU (fun i => (spanAt S b i).1) (many h w b) ≤ totT t h w ∧ totT t h w ≤ SU (fun i => (spanAt S b i).2) (many h w b) := by
  obtain ⟨_, h2⟩ := fill_iff.mp hf
  rw [← tot_both ht b]
  exact ⟨su_mono fun i hi => (h2 b i hi).1, su_mono fun i hi => (h2 b i hi).2⟩
/-- amounts for a total between the least and the greatest -/
def aM (s : Raw) (h w : Nat) (m : Int) (b : Bool) : Nat → Int := amtF (needAt s w b) (roomAt s w b) (m - needSum s h w b)
theorem aM_sum {m : Int} {b : Bool} (h1 : needSum s h w b ≤ m) (h2 : m ≤ roomSum s h w b) : SU (aM s h w m b) (many h w b) = m := by
  unfold aM
  rw [amtF_sum (by omega), ← needSum_su, su_sub, ← needSum_su, ← roomSum_su]
  omega
theorem fill_m (ok : s.Ok h w) (hf : s.Free) (n : NoReas s h w) {m : Int} (h1 : totF s h w ≤ m) (h2 : m ≤ mstF s h w) : ∃ t, IsT h w t ∧ (∀ i j, i < h → j < w → 0 ≤ cellV t (i, j)) ∧ fillB s h w t = true ∧ totT t h w = baseF s h w + m := by
  have hs : ∀ b, SU (aM s h w m b) (many h w b) = m := fun b => by
    have g1 := (tot_le ok n b).1
    refine aM_sum (by omega) ?_
    unfold mstF at h2
    cases b <;> omega
  have hle : ∀ b i, i < many h w b → needAt s w b i ≤ aM s h w m b i ∧ aM s h w m b i ≤ roomAt s w b i := fun b i hi => amtF_le (need_room ok n hi).2
  have hpos : ∀ b i, i < many h w b → 0 ≤ aM s h w m b i := fun b i hi => by
    have := hle b i hi
    have := need_room ok n hi
    omega
  have hsu : ∀ b i, i < many h w b → 0 ≤ SU (aM s h w m b) i ∧ SU (aM s h w m b) (i + 1) ≤ m := fun b i hi => by
    refine ⟨su_pos fun k hk => hpos b k (by omega), ?_⟩
    have := su_le (f := aM s h w m b) (m := i + 1) (n := many h w b) (by omega) fun k hk => hpos b k hk
    rwa [hs b] at this
  let f : Nat → Nat → Int := fun i j => cellV s.lows (i, j) + xF (aM s h w m true) (aM s h w m false) i j
  have er : ∀ i, i < h → SU (f i) w = lowAt s w true i + aM s h w m true i := fun i hi => by
    show SU (fun j => cellV s.lows (i, j) + xF (aM s h w m true) (aM s h w m false) i j) w = _
    rw [su_add, low_su ok (b := true) hi, xF_row (hpos true i hi) (hsu true i hi).1 (by
      have := (hsu true i hi).2
      have h3 := hs false
      rw [show many h w false = w from rfl] at h3
      omega)]; rfl
  have ec : ∀ j, j < w → SU (fun i => f i j) h = lowAt s w false j + aM s h w m false j := fun j hj => by
    show SU (fun i => cellV s.lows (i, j) + xF (aM s h w m true) (aM s h w m false) i j) h = _
    rw [su_add, low_su ok (b := false) hj, su_congr (n := h) (f := fun i => xF (aM s h w m true) (aM s h w m false) i j) (g := xF (aM s h w m false) (aM s h w m true) j) (fun i hi => xF_turn (hpos true i hi) (hpos false j hj)),
      xF_row (hpos false j hj) (hsu false j hj).1 (by
      have := (hsu false j hj).2
      have h3 := hs true
      rw [show many h w true = h from rfl] at h3
      omega)]; rfl
  have el : ∀ b i, i < many h w b → lineAt w (tabF f h w) b i = lowAt s w b i + aM s h w m b i := fun b i hi => by
    cases b
    · exact (col_tabF hi).trans (ec i hi)
    · exact (row_tabF hi).trans (er i hi)
  have ge : ∀ i j, i < h → j < w → cellV s.lows (i, j) ≤ f i j := fun i j hi hj => by
    have := xF_pos (hpos true i hi) (hpos false j hj)
    show _ ≤ cellV s.lows (i, j) + _
    omega
  refine ⟨tabF f h w, tabF_isT, fun i j hi hj => ?_, fill_iff.mpr ⟨fun c hc => ?_, fun b i hi => ?_⟩, ?_⟩
  · rw [tabF_cell hi hj]
    have := cellSet_at ok (c := (i, j)) ⟨hi, hj⟩
    have := ge i j hi hj
    omega
  · have e : cellV (tabF f h w) c = f c.1 c.2 := tabF_cell hc.1 hc.2
    rw [e]
    refine ⟨ge _ _ hc.1 hc.2, fun m hm => ?_⟩
    have := high_none ok hf hc.1
    have e2 : highV s c = oAt s.highs c := rfl
    rw [e2, hm] at this
    cases this
  · rw [el b i hi]
    have := hle b i hi
    unfold needAt roomAt at this
    omega
  · have e : totT (tabF f h w) h w = SU (fun i => lowAt s w true i + aM s h w m true i) h := su_congr fun i hi => el true i hi
    rw [e, su_add]
    have h3 := hs true
    rw [show many h w true = h from rfl] at h3
    rw [h3]; rfl
/-- where a Corner is told, the tight sheet holds it, and its totals -/
theorem tight_corner (ok : s.Ok h w) (hf : s.Free) (n : NoReas s h w) {acc : List St} {o : Option Raw} (r : Run h w s acc o) : ∃ S, o = some S ∧ fillB S h w (ctab s h w) = true ∧ ∀ b, SU (fun i => (spanAt S b i).1) (many h w b) ≤ baseF s h w + totF s h w ∧ baseF s h w + mstF s h w ≤ SU (fun i => (spanAt S b i).2) (many h w b) := by
  have fits : ∀ t, IsT h w t → (∀ i j, i < h → j < w → 0 ≤ cellV t (i, j)) → fillB s h w t = true → ∃ S, o = some S ∧ fillB S h w t = true := fun t ht hp hfl => by
    obtain ⟨S, e, le⟩ := run_clo r (pt_ok ok.h1 ok.w1 ht hp) (pt_clo ht) ok (pt_le hfl)
    exact ⟨S, e, le_pt le⟩
  have cp : ∀ i j, i < h → j < w → 0 ≤ cellV (ctab s h w) (i, j) := fun i j hi hj => by
    have e : cellV (ctab s h w) (i, j) = ctF s h w i j := tabF_cell hi hj
    have := ct_ge ok n hi hj
    have := cellSet_at ok (c := (i, j)) ⟨hi, hj⟩
    omega
  obtain ⟨S, rfl, hS⟩ := fits _ ct_isT cp (ct_fill ok hf n)
  obtain ⟨t2, ht2, hp2, hf2, e2⟩ := fill_m ok hf n (tot_mst ok n) (Int.le_refl _)
  obtain ⟨S', e, hS2⟩ := fits t2 ht2 hp2 hf2
  cases e
  have hct : totT (ctab s h w) h w = baseF s h w + totF s h w := by
    have e : totT (ctab s h w) h w = SU (fun i => lowAt s w true i + amF s h w true i) h := su_congr fun i hi => (row_tabF hi).trans (ct_row ok n hi)
    rw [e, su_add]
    have h3 := am_sum ok n true
    rw [show many h w true = h from rfl] at h3
    rw [h3]; rfl
  refine ⟨S, rfl, hS, fun b => ⟨?_, ?_⟩⟩
  · have := (le_tot ct_isT hS b).1
    omega
  · have := (le_tot ht2 hS2 b).2
    omega
/-- a wider span of a column -/
theorem wideC_tot {i : Nat} {x : Int × Int} (ok : s.Ok h w) (hi : i < w) (h1 : x.1 ≤ (spanAt s false i).1) (h2 : (spanAt s false i).2 ≤ x.2) (n : NoReas s h w) : NoReas (spanSet s false i x) h w ∧ totF (spanSet s false i x) h w ≤ totF s h w ∧ mstF s h w ≤ mstF (spanSet s false i x) h w ∧ baseF (spanSet s false i x) h w = baseF s h w := by
  have el : ∀ b k, lowAt (spanSet s false i x) w b k = lowAt s w b k := fun _ _ => rfl
  have hsp : ∀ b k, spanAt (spanSet s false i x) b k = if b = false ∧ k = i then x else spanAt s b k := fun b k => spanSet_span ok (b := false) hi
  have hn : ∀ b k, needAt (spanSet s false i x) w b k ≤ needAt s w b k ∧ roomAt s w b k ≤ roomAt (spanSet s false i x) w b k := fun b k => by
    unfold needAt roomAt
    rw [el, hsp]
    by_cases z : b = false ∧ k = i
    · rw [if_pos z]
      obtain ⟨rfl, rfl⟩ := z
      omega
    · rw [if_neg z]; exact ⟨Int.le_refl _, Int.le_refl _⟩
  have e1 : ∀ b, needSum (spanSet s false i x) h w b ≤ needSum s h w b := fun b => by rw [needSum_su, needSum_su]; exact su_mono fun k _ => (hn b k).1
  have e2 : ∀ b, roomSum s h w b ≤ roomSum (spanSet s false i x) h w b := fun b => by rw [roomSum_su, roomSum_su]; exact su_mono fun k _ => (hn b k).2
  have g1 := e1 true
  have g2 := e1 false
  have g3 := e2 true
  have g4 := e2 false
  refine ⟨⟨fun b k hk => ?_, fun b => ?_⟩, ?_, ?_, rfl⟩
  · have := n.room b k hk
    have := (hn b k).2
    omega
  · have := n.sum b
    have := e1 b
    have := e2 (!b)
    omega
  · unfold totF; omega
  · unfold mstF; omega
end
end VL
end
section
set_option linter.all false
set_option maxRecDepth 100000
set_option maxHeartbeats 2000000
namespace VL
open PySem L2
section
variable {μ : Mu} {P : D → Mu → Prop} {s : Raw} {h w : Nat} {t : List (List Int)}
theorem turn_nth {j : Nat} (hj : j < w) : ∃ r, (turn w t)[j]? = some r := ⟨_, getD_some (d := []) (by simp [turn]; exact hj)⟩
theorem linesD (w : Nat) (t : List (List Int)) (b : Bool) : tabD (linesOf w t b) = if b then tabD t else tabD (turn w t) := by cases b <;> rfl
theorem law_wrong_w (ok : s.Ok h w) (hh : h ≤ 100) (hw : w ≤ 100) (ht : IsT h w t) (q0 : fillB s h w t = true → P .non μ) (q1 : fillB s h w t = false → ∀ ds, P (.tup ds) μ) : Wf f_law_wrong [rawD s, tabD t] μ P := by
  unfold f_law_wrong
  rw [wf_def]
  have h0 : t[0]? = some (t[0]'(by rw [ht.1]; exact ok.h1)) := List.getElem?_eq_getElem _
  generalize t[0]'(by rw [ht.1]; exact ok.h1) = r0 at h0
  have hl0 : r0.length = w := ht.2 _ (List.mem_of_getElem? h0)
  have i0 : ∀ μ (P : D → Mu → Prop), Wp (opIx (tabD t) (.int 0) μ) P ↔ P (rowD r0) μ := fun μ P => tab_nth (i := 0) h0
  simp [ht.1]
  refine ⟨by omega, ?_⟩
  rw [rng0]
  refine for_search (fun i => !(List.range w).all fun j => withinB s t (i, j)) (fun ρ => ∃ a b c d e f, ρ = [some (rawD s), some (tabD t), a, b, c, d, e, f]) holds_nil (fun i hi ρ hJ => ?_) (fun hb ρ hJ => ?_) ⟨_, _, _, _, _, _, rfl⟩
  · obtain ⟨a, b, c, d, e, f, rfl⟩ := hJ
    have hi' := List.mem_range.mp hi
    simp [i0, hl0]
    refine ⟨by omega, ?_⟩
    rw [rng0]
    refine for_search (fun j => !withinB s t (i, j)) (fun ρ => ∃ b c d e f, ρ = [some (rawD s), some (tabD t), some (.int (i : Nat)), b, c, d, e, f]) holds_nil (fun j hj ρ hJ => ?_) (fun hb ρ hJ => ?_) ⟨_, _, _, _, _, rfl⟩
    · obtain ⟨b, c, d, e, f, rfl⟩ := hJ
      have hj' := List.mem_range.mp hj
      obtain ⟨r1, z1, z2⟩ := cell_row ht (c := (i, j)) ⟨hi', hj'⟩
      obtain ⟨r2, z3, z4⟩ := cell_row ok.lows (c := (i, j)) ⟨hi', hj'⟩
      obtain ⟨r3, z5, z6⟩ := high_row ok (c := (i, j)) ⟨hi', hj'⟩
      have y1 := fun μ (P : D → Mu → Prop) => tab_nth (μ := μ) (P := P) z1
      have y2 := fun μ (P : D → Mu → Prop) => row_nth (μ := μ) (P := P) z2
      have y3 := fun μ (P : D → Mu → Prop) => tab_nth (μ := μ) (P := P) z3
      have y4 := fun μ (P : D → Mu → Prop) => row_nth (μ := μ) (P := P) z4
      have y5 := fun μ (P : D → Mu → Prop) => tabO_nth (μ := μ) (P := P) z5
      have y6 := fun μ (P : D → Mu → Prop) => rowO_nth (μ := μ) (P := P) z6
      simp [y1, y2, y3, y4, y5, y6, raw_0, raw_1]
      refine law_in_w ?_
      rw [show (decide (cellV s.lows (i, j) ≤ cellV t (i, j)) && inHigh (cellV t (i, j)) (highV s (i, j))) = withinB s t (i, j) from rfl]
      cases hwb : withinB s t (i, j)
      · simp
        refine wcl_same rfl (q1 ?_ _)
        unfold fillB
        rw [List.all_eq_false.mpr ⟨(i, j), by unfold cells; simp [hi', hj'], by simp [hwb]⟩]; rfl
      · simp
    · obtain ⟨b, c, d, e, f, rfl⟩ := hJ
      exact ⟨by simpa using hb, ⟨_, _, _, _, _, _, rfl⟩, rfl⟩
  · obtain ⟨a, b, c, d, e, f, rfl⟩ := hJ
    have e1 : (cells h w).all (withinB s t) = true := List.all_eq_true.mpr fun c hc => by
      obtain ⟨c1, c2⟩ := cells_mem hc
      have := hb c.1 (by simpa using c1)
      simp at this
      exact this c.2 c2
    simp [raw_2, raw_3]
    refine turned_w ht ok.h1 (by omega) ?_
    refine ⟨[true, false].map fun b => D.tup [.str (wordS b), tabD (linesOf w t b), spansD (spanS s b)], rfl, ?_⟩
    refine for_search (fun b => !linesB s h w t b) (fun ρ => ∃ a b c d e f, ρ = [some (rawD s), some (tabD t), a, b, c, d, e, f]) holds_nil (fun b hb' ρ hJ => ?_) (fun hb ρ hJ => ?_) ⟨_, _, _, _, _, _, rfl⟩
    · obtain ⟨a, b', c, d, e, f, rfl⟩ := hJ
      simp [linesOf_len ht]
      refine ⟨by cases b <;> simp [many] <;> omega, ?_⟩
      rw [rng0]
      refine for_search (fun i => !inSpanB (lineAt w t b i) (spanAt s b i)) (fun ρ => ∃ c d f, ρ = [some (rawD s), some (tabD t), c, d, some (.str (wordS b)), some (tabD (linesOf w t b)), some (spansD (spanS s b)), f]) holds_nil (fun i hi ρ hJ => ?_) (fun hb ρ hJ => ?_) ⟨_, _, _, rfl⟩
      · obtain ⟨c, d, f, rfl⟩ := hJ
        have hi' := List.mem_range.mp hi
        have hg := getD_some (d := (0, 0)) (as := spanS s b) (i := i) (by rw [ok.spans]; exact hi')
        have hgl := getD_some (d := []) (as := linesOf w t b) (i := i) (by rw [linesOf_len ht]; exact hi')
        have hgs : (spanS s b).getD i (0, 0) = spanAt s b i := rfl
        rw [hgs] at hg
        have hls : ((linesOf w t b).getD i []).sum = lineAt w t b i := rfl
        generalize (linesOf w t b).getD i [] = r at hgl hls
        have y1 := fun μ (P : D → Mu → Prop) => tab_nth (μ := μ) (P := P) hgl
        have y2 := fun μ (P : D → Mu → Prop) => spans_nth (μ := μ) (P := P) hg
        cases hwb : inSpanB (lineAt w t b i) (spanAt s b i)
        · have hno : ¬((spanAt s b i).1 ≤ lineAt w t b i ∧ lineAt w t b i ≤ (spanAt s b i).2) := by
            intro hno; simp [inSpanB, hno] at hwb
          have fin : Wcl μ (.tup [.str (wordS b), .int (i : Nat)]) μ P := by
            refine wcl_same rfl (q1 ?_ _)
            have : linesB s h w t b = false := List.all_eq_false.mpr ⟨i, hi, by simp [hwb]⟩
            unfold fillB
            cases b <;> simp [this]
          simp [y1, y2, row_sum, hls]
          by_cases h1 : (spanAt s b i).1 ≤ lineAt w t b i
          · have h2 : ¬ lineAt w t b i ≤ (spanAt s b i).2 := fun h2 => hno ⟨h1, h2⟩
            simp [h1, h2]
            first | exact fin | exact ⟨by omega, fin⟩ | exact Or.inl ⟨by omega, fin⟩ | exact Or.inr ⟨by omega, fin⟩
          · simp [h1]
            first | exact fin | exact ⟨by omega, fin⟩ | exact Or.inl ⟨by omega, fin⟩ | exact Or.inr ⟨by omega, fin⟩
        · have hyes : (spanAt s b i).1 ≤ lineAt w t b i ∧ lineAt w t b i ≤ (spanAt s b i).2 := by
            simpa [inSpanB] using hwb
          simp [y1, y2, row_sum, hls, hyes.1, hyes.2]
      · obtain ⟨c, d, f, rfl⟩ := hJ
        refine ⟨?_, ⟨_, _, _, _, _, _, rfl⟩, rfl⟩
        have : linesB s h w t b = true := List.all_eq_true.mpr fun i hi => by simpa using hb i hi
        simp [this]
    · obtain ⟨a, b', c, d, e, f, rfl⟩ := hJ
      have e2 := hb true (by simp)
      have e3 := hb false (by simp)
      simp at e2 e3
      simp
      exact wcl_same rfl (q0 (by unfold fillB; rw [e1, e2, e3]; rfl))
end
end VL
end
section
set_option linter.all false
set_option maxRecDepth 100000
set_option maxHeartbeats 2000000
namespace VL
open PySem L2
/-- rows, each with one more number -/
def lastN (hi : Int) (top : Option Int) (r : List Int) : Int := match top with
  | none => hi - r.sum
  | some m => min m (hi - r.sum)
def cntN (hi low : Int) (top : Option Int) (r : List Int) : Nat := (lastN hi top r + 1 - low).toNat
def extR (hi low : Int) (top : Option Int) (r : List Int) : List (List Int) := (List.range (cntN hi low top r)).map fun k => r ++ [low + (k : Nat)]
def rowK (s : Raw) (i : Nat) : Nat → List (List Int)
  | 0 => [[]]
  | k + 1 => (rowK s i k).flatMap (extR (spanAt s true i).2 (cellV s.lows (i, k)) (oAt s.highs (i, k)))
def rowT (s : Raw) (w i : Nat) : List (List Int) := (rowK s i w).filter fun r => decide ((spanAt s true i).1 ≤ r.sum)
def colsOk (s : Raw) (w : Nat) (t : List (List Int)) : Bool := (List.range w).all fun j => decide ((t.map fun r => at0 r j).sum ≤ (spanAt s false j).2)
def longT (s : Raw) (w : Nat) (ts : List (List (List Int))) (rows : List (List Int)) : List (List (List Int)) := ts.flatMap fun t => rows.flatMap fun r => if colsOk s w (t ++ [r]) then [t ++ [r]] else []
def fillsK (s : Raw) (w most : Nat) : Nat → Option (List (List (List Int)))
  | 0 => some [[]]
  | k + 1 => match fillsK s w most k with
    | none => none
    | some ts => if (longT s w ts (rowT s w k)).length > most then none else some (longT s w ts (rowT s w k))
def fillsO (s : Raw) (h w most : Nat) : Option (List (List (List Int))) := (fillsK s w most h).map fun ts => ts.filter (fillB s h w)
section
variable {s : Raw} {h w : Nat}
theorem extR_mem {hi low : Int} {top : Option Int} {r r' : List Int} : r' ∈ extR hi low top r ↔ ∃ n, r' = r ++ [n] ∧ low ≤ n ∧ n ≤ lastN hi top r := by
  unfold extR cntN
  rw [List.mem_map]
  constructor
  · rintro ⟨k, hk, rfl⟩
    have := List.mem_range.mp hk
    exact ⟨_, rfl, by omega, by omega⟩
  · rintro ⟨n, rfl, h1, h2⟩
    refine ⟨(n - low).toNat, List.mem_range.mpr (by omega), ?_⟩
    rw [show low + (((n - low).toNat : Nat) : Int) = n by omega]
theorem lastN_le {hi : Int} {top : Option Int} {r : List Int} {n : Int} : n ≤ lastN hi top r ↔ r.sum + n ≤ hi ∧ ∀ m, top = some m → n ≤ m := by
  cases top with
  | none =>
    show n ≤ hi - r.sum ↔ _
    exact ⟨fun h => ⟨by omega, fun m e => (by cases e)⟩, fun h => by omega⟩
  | some m =>
    show n ≤ min m (hi - r.sum) ↔ _
    exact ⟨fun h => ⟨by omega, fun m' e => by cases e; omega⟩, fun ⟨h1, h2⟩ => by have := h2 m rfl; omega⟩
/-- the bounds of a row's first cells -/
def InRow (s : Raw) (i k : Nat) (r : List Int) : Prop := r.length = k ∧ (∀ j, j < k → cellV s.lows (i, j) ≤ r.getD j 0 ∧ ∀ m, oAt s.highs (i, j) = some m → r.getD j 0 ≤ m) ∧ r.sum ≤ (spanAt s true i).2
theorem getD_last {r : List Int} {n : Int} : (r ++ [n]).getD r.length 0 = n := by rw [List.getD_eq_getElem?_getD, List.getElem?_concat_length]; rfl
theorem getD_init {r : List Int} {n : Int} {j : Nat} (hj : j < r.length) : (r ++ [n]).getD j 0 = r.getD j 0 := by rw [List.getD_eq_getElem?_getD, List.getElem?_append_left hj, ← List.getD_eq_getElem?_getD]
theorem rowK_mem (ok : s.Ok h w) {i : Nat} (hi : i < h) : ∀ {k : Nat} {r : List Int}, k ≤ w → (r ∈ rowK s i k ↔ InRow s i k r)
  | 0, r, _ => by
    have hsp := spanAt_ok' ok (b := true) hi
    unfold rowK InRow
    rw [List.mem_singleton]
    constructor
    · rintro rfl; exact ⟨rfl, fun j hj => absurd hj (Nat.not_lt_zero _), by simp; omega⟩
    · rintro ⟨h1, _⟩; exact List.eq_nil_of_length_eq_zero h1
  | k + 1, r, hk => by
    unfold rowK
    rw [List.mem_flatMap]
    constructor
    · rintro ⟨r0, h0, h1⟩
      obtain ⟨n, rfl, h2, h3⟩ := extR_mem.mp h1
      obtain ⟨l0, b0, s0⟩ := (rowK_mem ok hi (by omega)).mp h0
      obtain ⟨s1, m1⟩ := lastN_le.mp h3
      refine ⟨by simp [l0], fun j hj => ?_, by simp; omega⟩
      by_cases e : j = k
      · subst e
        rw [← l0, getD_last, l0]
        exact ⟨h2, m1⟩
      · rw [getD_init (by omega)]
        exact b0 j (by omega)
    · rintro ⟨h1, h2, h3⟩
      have hne : r ≠ [] := fun e => by rw [e] at h1; cases h1
      obtain ⟨r0, n, rfl⟩ : ∃ r0 n, r = r0 ++ [n] := ⟨r.dropLast, r.getLast hne, (List.dropLast_concat_getLast hne).symm⟩
      have l0 : r0.length = k := by simpa using h1
      have hn := h2 k (by omega)
      rw [← l0, getD_last, l0] at hn
      have hp := cellSet_at ok (c := (i, k)) ⟨hi, by omega⟩
      have hs : r0.sum + n ≤ (spanAt s true i).2 := by simpa using h3
      refine ⟨r0, (rowK_mem ok hi (by omega)).mpr ⟨l0, fun j hj => ?_, by omega⟩, extR_mem.mpr ⟨n, rfl, hn.1, lastN_le.mpr ⟨hs, hn.2⟩⟩⟩
      have := h2 j (by omega)
      rw [getD_init (by omega)] at this
      exact this
theorem inRow_pos (ok : s.Ok h w) {i k : Nat} {r : List Int} (hi : i < h) (hk : k ≤ w) (hr : InRow s i k r) : ∀ n ∈ r, 0 ≤ n := fun n hn => by
  obtain ⟨j, hj⟩ := List.getElem?_of_mem hn
  have hjl := (List.getElem?_eq_some_iff.mp hj).1
  have h1 := (hr.2.1 j (by rw [← hr.1]; exact hjl)).1
  rw [List.getD_eq_getElem?_getD, hj] at h1
  have h2 := cellSet_at ok (c := (i, j)) ⟨hi, by rw [hr.1] at hjl; omega⟩
  simp only [Option.getD_some] at h1
  omega
theorem flat_le {α β : Type} {f : α → List β} {n : Nat} : ∀ {xs : List α}, (∀ x ∈ xs, (f x).length ≤ n) → (xs.flatMap f).length ≤ xs.length * n
  | [], _ => by simp
  | x :: xs, h => by
    rw [List.flatMap_cons, List.length_append, List.length_cons, Nat.add_mul, Nat.one_mul]
    have h1 := h x (by simp)
    have h2 := flat_le (f := f) (n := n) (xs := xs) fun y hy => h y (by simp [hy])
    omega
theorem rowK_len (ok : s.Ok h w) {i : Nat} (hi : i < h) {H : Nat} (hH : (spanAt s true i).2 ≤ H) : ∀ {k : Nat}, k ≤ w → (rowK s i k).length ≤ (H + 1) ^ k
  | 0, _ => by simp [rowK]
  | k + 1, hk => by
    unfold rowK
    refine Nat.le_trans (flat_le (n := H + 1) fun r hr => ?_) ?_
    · unfold extR
      rw [List.length_map, List.length_range]
      have hin := (rowK_mem ok hi (by omega)).mp hr
      have hp := sum_nonneg (inRow_pos ok hi (by omega) hin)
      have hc := cellSet_at ok (c := (i, k)) ⟨hi, by omega⟩
      have hl : lastN (spanAt s true i).2 (oAt s.highs (i, k)) r ≤ (spanAt s true i).2 - r.sum := by
        have := (lastN_le (hi := (spanAt s true i).2) (top := oAt s.highs (i, k)) (r := r)).mp (Int.le_refl _)
        omega
      unfold cntN
      omega
    · rw [Nat.pow_succ]
      exact Nat.mul_le_mul_right _ (rowK_len ok hi hH (by omega))
theorem rowT_mem (ok : s.Ok h w) {i : Nat} (hi : i < h) {r : List Int} : r ∈ rowT s w i ↔ InRow s i w r ∧ (spanAt s true i).1 ≤ r.sum := by
  unfold rowT
  rw [List.mem_filter, rowK_mem ok hi (Nat.le_refl _), decide_eq_true_eq]
theorem longT_len {ts : List (List (List Int))} {rows : List (List Int)} : (longT s w ts rows).length ≤ ts.length * rows.length := by
  unfold longT
  refine flat_le fun t _ => ?_
  have := flat_le (f := fun r => if colsOk s w (t ++ [r]) = true then [t ++ [r]] else []) (n := 1) (xs := rows) fun r _ => by
    split <;> simp
  omega
theorem longT_mem {ts : List (List (List Int))} {rows : List (List Int)} {t : List (List Int)} : t ∈ longT s w ts rows ↔ ∃ t0 r, t0 ∈ ts ∧ r ∈ rows ∧ t = t0 ++ [r] ∧ colsOk s w t = true := by
  unfold longT
  simp only [List.mem_flatMap]
  constructor
  · rintro ⟨t0, h0, r, hr, hm⟩
    by_cases hc : colsOk s w (t0 ++ [r]) = true
    · rw [if_pos hc, List.mem_singleton] at hm
      exact ⟨t0, r, h0, hr, hm, by rw [hm]; exact hc⟩
    · rw [if_neg hc] at hm; cases hm
  · rintro ⟨t0, r, h0, hr, rfl, hc⟩
    exact ⟨t0, h0, r, hr, by rw [if_pos hc]; simp⟩
theorem fillsK_is (ok : s.Ok h w) {most : Nat} : ∀ {k : Nat} {ts : List (List (List Int))}, k ≤ h → fillsK s w most k = some ts → ∀ t ∈ ts, IsT k w t ∧ ∀ r ∈ t, ∀ n ∈ r, 0 ≤ n
  | 0, ts, _, e => by
    cases e
    intro t ht
    rw [List.mem_singleton] at ht
    subst ht
    exact ⟨⟨rfl, fun r hr => by cases hr⟩, fun r hr => by cases hr⟩
  | k + 1, ts, hk, e => by
    unfold fillsK at e
    cases h0 : fillsK s w most k with
    | none => rw [h0] at e; cases e
    | some ts0 =>
      rw [h0] at e
      simp only at e
      split at e
      · cases e
      · cases e
        intro t ht
        obtain ⟨t0, r, m0, mr, rfl, _⟩ := longT_mem.mp ht
        obtain ⟨⟨l0, w0⟩, p0⟩ := fillsK_is ok (by omega) h0 t0 m0
        obtain ⟨hin, _⟩ := (rowT_mem ok (by omega)).mp mr
        refine ⟨⟨by simp [l0], fun r' hr' => ?_⟩, fun r' hr' => ?_⟩
        · rw [List.mem_append, List.mem_singleton] at hr'
          rcases hr' with hr' | rfl
          · exact w0 r' hr'
          · exact hin.1
        · rw [List.mem_append, List.mem_singleton] at hr'
          rcases hr' with hr' | rfl
          · exact p0 r' hr'
          · exact inRow_pos ok (by omega) (Nat.le_refl _) hin
theorem fillsK_len {most : Nat} (hm : 1 ≤ most) : ∀ {k : Nat} {ts : List (List (List Int))}, fillsK s w most k = some ts → ts.length ≤ most
  | 0, ts, e => by cases e; exact hm
  | k + 1, ts, e => by
    unfold fillsK at e
    cases h0 : fillsK s w most k with
    | none => rw [h0] at e; cases e
    | some ts0 =>
      rw [h0] at e
      simp only at e
      split at e
      · cases e
      · cases e; omega
/-- the first rows of a filling are among the tables of so many rows -/
theorem fillsK_all (ok : s.Ok h w) {most : Nat} {t : List (List Int)} (ht : IsT h w t) (hf : fillB s h w t = true) : ∀ {k : Nat} {ts : List (List (List Int))}, k ≤ h → fillsK s w most k = some ts → t.take k ∈ ts
  | 0, ts, _, e => by cases e; simp
  | k + 1, ts, hk, e => by
    obtain ⟨f1, f2⟩ := fill_iff.mp hf
    unfold fillsK at e
    cases h0 : fillsK s w most k with
    | none => rw [h0] at e; cases e
    | some ts0 =>
      rw [h0] at e
      simp only at e
      split at e
      · cases e
      · cases e
        have hkl : k < t.length := by rw [ht.1]; omega
        have hg := getD_some (d := []) (as := t) (i := k) hkl
        have hwr := ht.2 _ (List.mem_of_getElem? hg)
        have etk : t.take (k + 1) = t.take k ++ [t.getD k []] := by
          rw [List.take_add_one, hg]; rfl
        refine longT_mem.mpr ⟨t.take k, t.getD k [], fillsK_all ok ht hf (by omega) h0, (rowT_mem ok (by omega)).mpr ⟨⟨hwr, fun j hj => ?_, ?_⟩, ?_⟩, etk, ?_⟩
        · have := f1 (k, j) ⟨by omega, hj⟩
          exact this
        · exact (f2 true k (by show k < h; omega)).2
        · exact (f2 true k (by show k < h; omega)).1
        · unfold colsOk
          rw [List.all_eq_true]
          intro j hj
          have hj := List.mem_range.mp hj
          refine decide_eq_true ?_
          have h1 := (f2 false j hj).2
          have h2 : lineAt w t false j = (t.map fun r => at0 r j).sum := by
            show ((turn w t).getD j []).sum = _
            have : (turn w t).getD j [] = t.map fun r => at0 r j := by
              unfold turn
              rw [List.getD_eq_getElem?_getD, List.getElem?_map, List.getElem?_range hj]; rfl
            rw [this]
          have hpos : ∀ n ∈ (t.drop (k + 1)).map fun r => at0 r j, 0 ≤ n := fun n hn => by
            obtain ⟨r, hr, rfl⟩ := List.mem_map.mp hn
            obtain ⟨i, hi⟩ := List.getElem?_of_mem (List.mem_of_mem_drop hr)
            have hil := (List.getElem?_eq_some_iff.mp hi).1
            rw [ht.1] at hil
            have h3 := (f1 (i, j) ⟨hil, hj⟩).1
            have h4 := cellSet_at ok (c := (i, j)) ⟨hil, hj⟩
            have h5 : cellV t (i, j) = at0 r j := by
              show (t.getD i []).getD j 0 = _
              rw [List.getD_eq_getElem?_getD (l := t), hi]; rfl
            omega
          have hsum := sum_nonneg hpos
          have e2 : (t.map fun r => at0 r j).sum = ((t.take (k + 1)).map fun r => at0 r j).sum + ((t.drop (k + 1)).map fun r => at0 r j).sum := by
            rw [← List.sum_append, ← List.map_append, List.take_append_drop]
          omega
theorem fills_sound (ok : s.Ok h w) {most : Nat} {L : List (List (List Int))} (e : fillsO s h w most = some L) : ∀ t ∈ L, IsT h w t ∧ (∀ r ∈ t, ∀ n ∈ r, 0 ≤ n) ∧ fillB s h w t = true := by
  unfold fillsO at e
  obtain ⟨ts, h0, rfl⟩ := Option.map_eq_some_iff.mp e
  intro t ht
  obtain ⟨h1, h2⟩ := List.mem_filter.mp ht
  obtain ⟨h3, h4⟩ := fillsK_is ok (Nat.le_refl _) h0 t h1
  exact ⟨h3, h4, h2⟩
theorem fills_all (ok : s.Ok h w) {most : Nat} {L : List (List (List Int))} (e : fillsO s h w most = some L) {t : List (List Int)} (ht : IsT h w t) (hf : fillB s h w t = true) : t ∈ L := by
  unfold fillsO at e
  obtain ⟨ts, h0, rfl⟩ := Option.map_eq_some_iff.mp e
  refine List.mem_filter.mpr ⟨?_, hf⟩
  have := fillsK_all ok ht hf (Nat.le_refl _) h0
  rwa [List.take_of_length_le (by rw [ht.1]; exact Nat.le_refl _)] at this
end
end VL
end
section
set_option linter.all false
set_option maxRecDepth 100000
set_option maxHeartbeats 2000000
namespace VL
open PySem L2
theorem for_ext2 {α : Type} {w : Wk} {g : VG} {s : VS} {E : Ed} {ι : α → D} {as : List α} {μ : Mu} (f : α → List D) (J : Ro → Prop) (hw : ∀ acc, w.holds (μ ++ [.lst acc])) {acc0 : List D}
    (step : ∀ a ∈ as, ∀ acc ρ, acc.length + (f a).length ≤ acc0.length + (as.flatMap f).length → J ρ → Wg g (ι a) ρ (μ ++ [.lst acc]) fun ρ1 μ1 => Ws s ρ1 μ1 ⟨fun ρ2 μ2 => J ρ2 ∧ μ2 = μ ++ [.lst (acc ++ f a)], E.rt, fun _ _ => False, fun ρ2 μ2 => J ρ2 ∧ μ2 = μ ++ [.lst (acc ++ f a)]⟩)
    (fin : ∀ ρ, J ρ → E.nx ρ (μ ++ [.lst (acc0 ++ as.flatMap f)])) {ρ : Ro} (h0 : J ρ) : Ws (forL w g s (as.map ι)) ρ (μ ++ [.lst acc0]) E := by
  refine for_inv (fun rem ρ μ' => ∃ k, k ≤ as.length ∧ rem = (as.drop k).map ι ∧ J ρ ∧ μ' = μ ++ [.lst (acc0 ++ (as.take k).flatMap f)]) ?_ ?_ _ _ _ ⟨0, by simp, by simp, h0, by simp⟩
  · rintro x rem ρ μ' ⟨k, hk, hr, hJ, rfl⟩
    refine ⟨hw _, ?_⟩
    have hkl : k < as.length := by
      by_cases h : k < as.length
      · exact h
      · rw [List.drop_eq_nil_of_le (by omega)] at hr; cases hr
    have hdr := List.drop_eq_getElem_cons hkl
    rw [hdr, List.map_cons] at hr
    injection hr with e1 e2
    subst e1
    have hlen : (acc0 ++ (as.take k).flatMap f).length + (f as[k]).length ≤ acc0.length + (as.flatMap f).length := by
      have : as.flatMap f = (as.take k).flatMap f ++ (f as[k] ++ (as.drop (k + 1)).flatMap f) := by
        rw [← List.flatMap_cons, ← hdr, ← List.flatMap_append, List.take_append_drop]
      rw [this]
      simp only [List.length_append]
      omega
    obtain ⟨ρ1, μ1, h1, h2⟩ := step _ (List.getElem_mem hkl) _ ρ hlen hJ
    refine ⟨ρ1, μ1, h1, ?_⟩
    have nxt : ∀ ρ2 μ2, (J ρ2 ∧ μ2 = μ ++ [.lst (acc0 ++ (as.take k).flatMap f ++ f as[k])]) → ∃ k, k ≤ as.length ∧ rem = (as.drop k).map ι ∧ J ρ2 ∧ μ2 = μ ++ [.lst (acc0 ++ (as.take k).flatMap f)] := fun ρ2 μ2 ⟨b1, b2⟩ => ⟨k + 1, hkl, e2, b1, by
      rw [b2, List.take_succ_eq_append_getElem hkl, List.flatMap_append, List.flatMap_cons, List.flatMap_nil, List.append_nil, List.append_assoc]⟩
    show Ws s ρ1 μ1 _
    unfold Ws at h2 ⊢
    cases hs : s ρ1 μ1 with
    | none => rw [hs] at h2; exact h2.elim
    | some f =>
      rw [hs] at h2
      cases f with
      | nx ρ2 μ2 => exact nxt _ _ h2
      | rt d μ2 => exact h2
      | bk ρ2 μ2 => exact h2.elim
      | ct ρ2 μ2 => exact nxt _ _ h2
      | er _ _ _ => exact h2.elim
  · rintro ρ μ' ⟨k, hk, hr, hJ, rfl⟩
    have : as.length ≤ k := by
      by_cases h : k < as.length
      · rw [List.drop_eq_getElem_cons h] at hr; cases hr
      · omega
    rw [List.take_of_length_le this]
    exact ⟨hw _, fin ρ hJ⟩
theorem keeps_app {μ more : Mu} : Keeps μ (μ ++ more) := fun n x h e => .inl (by rwa [List.getElem?_append_left h] at e)
/-- a value that is a list, frozen or live -/
def IsSeq (μ : Mu) (v : D) (xs : List D) : Prop := v = .lst xs ∨ ∃ n, v = .ref n ∧ μ[n]? = some (.lst xs)
theorem IsSeq.seq {μ : Mu} {v : D} {xs : List D} (h : IsSeq μ v xs) (more : Mu) : seqOf (μ ++ more) v = some xs := by
  rcases h with rfl | ⟨n, rfl, hn⟩
  · rfl
  · have hl := (List.getElem?_eq_some_iff.mp hn).1
    exact seqOf_at (by rw [List.getElem?_append_left hl]; exact hn)
theorem IsSeq.holds {μ : Mu} {v : D} {xs items : List D} (h : IsSeq μ v xs) (more : Mu) : Wk.holds ⟨srcOf v xs, items⟩ (μ ++ more) := by
  rcases h with rfl | ⟨n, rfl, hn⟩
  · exact holds_nil
  · have hl := (List.getElem?_eq_some_iff.mp hn).1
    intro p hp
    simp only [srcOf, List.mem_singleton] at hp
    subst hp
    show (μ ++ more)[n]? = _
    rw [List.getElem?_append_left hl]; exact hn
theorem IsSeq.live {μ : Mu} {xs : List D} : IsSeq (μ ++ [.lst xs]) (.ref μ.length) xs := .inr ⟨_, rfl, List.getElem?_concat_length ..⟩
section
variable {μ : Mu} {P : D → Mu → Prop} {s : Raw} {h w : Nat}
theorem law_row_tables_w (ok : s.Ok h w) (hw : w ≤ 100) {i : Nat} (hi : i < h) {most : D} {R : Nat} (hR : ∀ k, k ≤ w → (rowK s i k).length ≤ R) (hR2 : R ≤ 16777216) (hs : (spanAt s true i).2 ≤ 1000000) (hL : ∀ j, j < w → cellV s.lows (i, j) ≤ 1000000) (q : P (.lst ((rowT s w i).map rowD)) μ) : Wf f_law_row_tables [rawD s, .int (i : Nat), most] μ P := by
  unfold f_law_row_tables
  rw [wf_def]
  have g1 := getD_some (d := []) (as := s.lows) (i := i) (by rw [ok.lows.1]; exact hi)
  have g2 := getD_some (d := []) (as := s.highs) (i := i) (by rw [ok.hl]; exact hi)
  have g3 : s.rows[i]? = some (spanAt s true i) := getD_some (d := (0, 0)) (as := s.rows) (i := i) (by rw [ok.rl]; exact hi)
  have y1 := fun μ (P : D → Mu → Prop) => tab_nth (μ := μ) (P := P) g1
  have y2 := fun μ (P : D → Mu → Prop) => tabO_nth (μ := μ) (P := P) g2
  have y3 : ∀ μ (P : D → Mu → Prop), Wp (opIx (spansD s.rows) (.int (i : Nat)) μ) P ↔ P (spanD (spanAt s true i)) μ := fun μ P => by
    unfold spansD
    rw [wp_ixT, atI_nat' (n := i) (d := spanD (spanAt s true i)) (by rw [List.getElem?_map, g3]; rfl), ex_some]
  have y4 : ∀ a μ (P : D → Mu → Prop), Wp (opIx (spanD a) (.int 1) μ) P ↔ P (.int a.2) μ := fun a μ P => by
    unfold spanD; rw [wp_ixT, show atI [D.int a.1, D.int a.2] 1 = some (.int a.2) from rfl, ex_some]
  have y5 : ∀ a μ (P : D → Mu → Prop), Wp (opIx (spanD a) (.int 0) μ) P ↔ P (.int a.1) μ := fun a μ P => by
    unfold spanD; rw [wp_ixT, show atI [D.int a.1, D.int a.2] 0 = some (.int a.1) from rfl, ex_some]
  simp [raw_0, raw_1, raw_2, y1, y2, y3, y4]
  rw [← List.getD_eq_getElem?_getD, ← List.getD_eq_getElem?_getD]
  refine ⟨_, row_seq _, _, rfl, ?_⟩
  rw [zip_rows (da := 0) (db := none) (row_len_at ok hi) (high_len_at ok hi)]
  refine for_inv (fun rem ρ μ' => ∃ (k : Nat) (more : Mu) (v : D), k + rem.length = w ∧ rem = ((List.range w).drop k).map (fun j => D.tup [.int (cellV s.lows (i, j)), optD (oAt s.highs (i, j))]) ∧ IsSeq (μ ++ more) v ((rowK s i k).map rowD) ∧ μ' = μ ++ more ∧ ∃ a b c d e f, ρ = [some (rawD s), some (.int (i : Nat)), some most, some v, some (.int (spanAt s true i).2), a, b, c, d, e, f]) ?_ ?_ _ _ _ ⟨0, [], .lst [.tup []], by simp, by simp [cellV, oAt], .inl rfl, by simp, _, _, _, _, _, _, rfl⟩
  · rintro x rem ρ μ' ⟨k, more, v, hk, hr, hv, rfl, a, b, c, d, e, f, rfl⟩
    have hkw : k < w := by simp at hk; omega
    have hdr : (List.range w).drop k = k :: (List.range w).drop (k + 1) := by
      rw [List.drop_eq_getElem_cons (by simpa using hkw), List.getElem_range]
    rw [hdr, List.map_cons] at hr
    injection hr with e1 e2
    subst e1
    refine ⟨holds_nil, ?_⟩
    generalize hμ : μ ++ more = μ1 at hv
    simp
    refine ⟨_, hv.seq [.lst []], ?_⟩
    refine for_ext2 (acc0 := []) (fun r => (extR (spanAt s true i).2 (cellV s.lows (i, k)) (oAt s.highs (i, k)) r).map rowD) (fun ρ => ∃ d e f, ρ = [some (rawD s), some (.int (i : Nat)), some most, some v, some (.int (spanAt s true i).2), some (.int (cellV s.lows (i, k))), some (optD (oAt s.highs (i, k))), some (.ref μ1.length), d, e, f]) (fun acc => hv.holds _) (fun r hr acc ρ hl hJ => ?_) (fun ρ hJ => ?_) ⟨_, _, _, rfl⟩
    · obtain ⟨d, e, f, rfl⟩ := hJ
      obtain ⟨l0, b0, s0⟩ := (rowK_mem ok hi (by omega)).mp hr
      have hrp := sum_nonneg (inRow_pos ok hi (by omega) (⟨l0, b0, s0⟩ : InRow s i k r))
      have hlow := hL k hkw
      have hlp := cellSet_at ok (c := (i, k)) ⟨hi, hkw⟩
      have hR1 := hR (k + 1) (by omega)
      have etot : (rowK s i (k + 1)) = (rowK s i k).flatMap (extR (spanAt s true i).2 (cellV s.lows (i, k)) (oAt s.highs (i, k))) := rfl
      have hfl : ((rowK s i k).flatMap fun r => (extR (spanAt s true i).2 (cellV s.lows (i, k)) (oAt s.highs (i, k)) r).map rowD).length ≤ R := by
        rw [← List.map_flatMap, List.length_map, ← etot]; exact hR1
      simp only [List.length_nil] at hl
      have hhi : ∀ n, oAt s.highs (i, k) = some n → cellV s.lows (i, k) ≤ n := fun n hm => ok_high ok (c := (i, k)) ⟨hi, hkw⟩ hm
      have hlast : lastN (spanAt s true i).2 (oAt s.highs (i, k)) r ≤ 1000000 := by
        have := (lastN_le (hi := (spanAt s true i).2) (top := oAt s.highs (i, k)) (r := r)).mp (Int.le_refl _)
        omega
      have hlast0 : 0 ≤ lastN (spanAt s true i).2 (oAt s.highs (i, k)) r := lastN_le.mpr ⟨by omega, fun m hm => by have := hhi m hm; omega⟩
      have key : ∀ (L : Int) (f : Option D), L = lastN (spanAt s true i).2 (oAt s.highs (i, k)) r → (lstOf (μ1 ++ [MO.lst acc]) (D.ref μ1.length)).isSome = true ∧ (-4611686018427387904 ≤ cellV s.lows (i, k) ∧ cellV s.lows (i, k) < 4611686018427387904 ∧ -4611686018427387904 ≤ L + 1 ∧ L + 1 < 4611686018427387904 ∧ L + 1 - cellV s.lows (i, k) ≤ 16777216) ∧
          Wl (compL { src := [], items := rng (cellV s.lows (i, k)) (L + 1 - cellV s.lows (i, k)).toNat } (gName 10) tYes (vOp opAdd (vVar 8) (vTup (aCons (vVar 10) aNil)))
              [some (rawD s), some (D.int (i : Nat)), some most, some v, some (D.int (spanAt s true i).snd), some (D.int (cellV s.lows (i, k))), some (optD (oAt s.highs (i, k))), some (D.ref μ1.length), some (rowD r), some (D.int L), f]
              [10] (rng (cellV s.lows (i, k)) (L + 1 - cellV s.lows (i, k)).toNat) [] (μ1 ++ [MO.lst acc])) fun ds μ2 =>
            Wp (mExtend (D.ref μ1.length) (D.lst ds) μ2) fun x μ1_1 => μ1_1 = μ1 ++ [MO.lst (acc ++ List.map rowD (extR (spanAt s true i).snd (cellV s.lows (i, k)) (oAt s.highs (i, k)) r))] := fun L f eL => by
        rw [end_lst]
        refine ⟨rfl, by rw [eL]; refine ⟨?_, ?_, ?_, ?_, ?_⟩ <;> omega, ?_⟩
        unfold rng
        refine comp_mapA (fun n => rowD (r ++ [cellV s.lows (i, k) + (n : Nat)])) holds_nil (fun n hn => ?_) ?_
        · simp [wipe]
          unfold rowD
          rw [wp_addT]
          refine ⟨by rw [List.length_map]; simp; omega, ?_⟩
          rw [List.map_append]
          exact ⟨rfl, rfl⟩
        · rw [List.nil_append, end_extend]
          have e1 : (List.range (L + 1 - cellV s.lows (i, k)).toNat).map (fun n => rowD (r ++ [cellV s.lows (i, k) + (n : Nat)])) = (extR (spanAt s true i).2 (cellV s.lows (i, k)) (oAt s.highs (i, k)) r).map rowD := by
            unfold extR cntN
            rw [eL, List.map_map]; rfl
          rw [e1]
          exact ⟨by omega, rfl⟩
      simp [row_sum]
      cases ho : oAt s.highs (i, k) with
      | none =>
        rw [ho] at key
        exact .inr ⟨rfl, key _ _ rfl⟩
      | some m =>
        rw [ho] at key
        refine .inl ⟨rfl, ?_⟩
        simp [optD]
        exact key _ _ rfl
    · obtain ⟨d, e, f, rfl⟩ := hJ
      simp
      have e3 : (rowK s i k).flatMap (fun r => (extR (spanAt s true i).2 (cellV s.lows (i, k)) (oAt s.highs (i, k)) r).map rowD) = (rowK s i (k + 1)).map rowD := by
        show _ = ((rowK s i k).flatMap _).map rowD
        rw [List.map_flatMap]
      rw [e3]
      refine ⟨k + 1, by simp at hk; omega, by rw [e2, List.map_drop], more ++ [.lst ((rowK s i (k + 1)).map rowD)], ?_, by rw [← List.append_assoc, hμ]⟩
      rw [← List.append_assoc, hμ]
      exact IsSeq.live
  · rintro ρ μ' ⟨k, more, v, hk, hr, hv, rfl, a, b, c, d, e, f, rfl⟩
    refine ⟨holds_nil, ?_⟩
    have hkw : k = w := by simpa using hk
    subst hkw
    simp
    refine ⟨_, (by simpa using hv.seq []), ?_⟩
    refine comp_filterA (fun r => decide ((spanAt s true i).1 ≤ r.sum)) rowD (by simpa using hv.holds []) (fun r hr => ?_) ?_
    · simp [wipe, raw_2, y3, y5, row_sum]
      omega
    · rw [List.nil_append]
      exact wcl_und keeps_app (by simp) (by unfold D.und; exact map_und (row_und _) _) (by rw [List.take_left]; exact q)
end
end VL
end
section
set_option linter.all false
set_option maxRecDepth 100000
set_option maxHeartbeats 2000000
namespace VL
open PySem L2
theorem fillsK_stay {s : Raw} {w most : Nat} : ∀ {n k : Nat}, k ≤ n → fillsK s w most k = none → fillsK s w most n = none
  | 0, k, h, e => by
    have : k = 0 := by omega
    subst this; exact e
  | n + 1, k, h, e => by
    by_cases hk : k = n + 1
    · subst hk; exact e
    · have := fillsK_stay (n := n) (by omega) e
      unfold fillsK
      rw [this]
theorem turn_sum {w j : Nat} {t : List (List Int)} (hj : j < w) : ((turn w t).getD j []).sum = (t.map fun r => at0 r j).sum := by
  unfold turn
  rw [List.getD_eq_getElem?_getD, List.getElem?_map, List.getElem?_range hj]; rfl
theorem colsOk_nil {s : Raw} {w : Nat} {t : List (List Int)} : (((List.range w).filter fun j => decide ((spanAt s false j).2 < ((turn w t).getD j []).sum)).map fun _ => D.int 1).isEmpty = colsOk s w t := by
  unfold colsOk
  rw [Bool.eq_iff_iff, List.isEmpty_iff, List.map_eq_nil_iff, List.filter_eq_nil_iff, List.all_eq_true]
  refine forall_congr' fun j => forall_congr' fun hj => ?_
  have hj := List.mem_range.mp hj
  rw [turn_sum hj, decide_eq_true_eq, decide_eq_true_eq]
  omega
def filM : Option (List (List (List Int))) → D
  | none => .non
  | some L => .lst (L.map tabD)
section
variable {μ : Mu} {P : D → Mu → Prop} {s : Raw} {h w : Nat}
theorem law_fillings_g (ok : s.Ok h w) (hh : h ≤ 100) (hw : w ≤ 100) {most : Nat} {R : Nat} (hm : 1 ≤ most) (hR : ∀ i k, i < h → k ≤ w → (rowK s i k).length ≤ R) (hR2 : R ≤ 16000000) (hM : 2 ≤ h → most * R ≤ 16000000) (hs : ∀ i, i < h → (spanAt s true i).2 ≤ 1000000) (hL : ∀ i j, i < h → j < w → cellV s.lows (i, j) ≤ 1000000) (q : P (filM (fillsO s h w most)) μ) : Wf f_law_fillings [rawD s, .int (most : Nat)] μ P := by
  unfold f_law_fillings
  rw [wf_def]
  simp [raw_0, ok.lows.1]
  refine ⟨by omega, ?_⟩
  rw [rng0]
  refine for_inv (fun rem ρ μ' => ∃ (k : Nat) (more : Mu) (v : D) (ts : List (List (List Int))), k + rem.length = h ∧ rem = ((List.range h).drop k).map (fun j => D.int (j : Nat)) ∧ fillsK s w most k = some ts ∧ IsSeq (μ ++ more) v (ts.map tabD) ∧ μ' = μ ++ more ∧ ∃ a b c d e f g i, ρ = [some (rawD s), some (.int (most : Nat)), some v, a, b, c, d, e, f, g, i]) ?_ ?_ _ _ _ ⟨0, [], .lst [.tup []], [[]], by simp, by simp, rfl, .inl rfl, by simp, _, _, _, _, _, _, _, _, rfl⟩
  · rintro x rem ρ μ' ⟨k, more, v, ts, hk, hr, hts, hv, rfl, a, b, c, d, e, f, g, i, rfl⟩
    have hkh : k < h := by simp at hk; omega
    have hdr : (List.range h).drop k = k :: (List.range h).drop (k + 1) := by
      rw [List.drop_eq_getElem_cons (by simpa using hkh), List.getElem_range]
    rw [hdr, List.map_cons] at hr
    injection hr with e1 e2
    subst e1
    refine ⟨holds_nil, ?_⟩
    generalize hμ : μ ++ more = μ1 at hv
    simp
    refine law_row_tables_w ok hw hkh (R := R) (fun k' hk' => hR k k' hkh hk') (by omega) (hs k hkh) (fun j hj => hL k j hkh hj) ?_
    have htl := fillsK_len hm hts
    have hrl : (rowT s w k).length ≤ R := Nat.le_trans (List.length_filter_le _ _) (hR k w hkh (Nat.le_refl _))
    have htot : (longT s w ts (rowT s w k)).length ≤ 16000000 := by
      refine Nat.le_trans longT_len ?_
      by_cases hk0 : k = 0
      · subst hk0
        cases hts
        have : [([] : List (List Int))].length * (rowT s w 0).length = (rowT s w 0).length := by simp
        omega
      · exact Nat.le_trans (Nat.mul_le_mul htl hrl) (hM (by omega))
    have hist := fillsK_is ok (by omega) hts
    refine ⟨_, hv.seq [.lst []], ?_⟩
    have eL : ts.flatMap (fun t => (rowT s w k).flatMap fun r => if colsOk s w (t ++ [r]) = true then [tabD (t ++ [r])] else []) = (longT s w ts (rowT s w k)).map tabD := by
      unfold longT
      rw [List.map_flatMap]
      refine congrArg List.flatten (List.map_congr_left fun t _ => ?_)
      rw [List.map_flatMap]
      refine congrArg List.flatten (List.map_congr_left fun r _ => ?_)
      split <;> rfl
    have htot2 : (ts.flatMap fun t => (rowT s w k).flatMap fun r => if colsOk s w (t ++ [r]) = true then [tabD (t ++ [r])] else []).length ≤ 16000000 := by rw [eL, List.length_map]; exact htot
    refine for_ext2 (acc0 := []) (fun t => (rowT s w k).flatMap fun r => if colsOk s w (t ++ [r]) = true then [tabD (t ++ [r])] else []) (fun ρ => ∃ d e f g i, ρ = [some (rawD s), some (.int (most : Nat)), some v, some (.int (k : Nat)), some (.lst ((rowT s w k).map rowD)), some (.ref μ1.length), d, e, f, g, i]) (fun acc => hv.holds _) (fun t ht acc ρ hl hJ => ?_) (fun ρ hJ => ?_) ⟨_, _, _, _, _, rfl⟩
    · obtain ⟨d, e, f, g, i, rfl⟩ := hJ
      simp only [List.length_nil] at hl
      obtain ⟨hist1, hist2⟩ := hist t ht
      simp
      refine ⟨_, rfl, ?_⟩
      refine for_ext2 (fun r => if colsOk s w (t ++ [r]) = true then [tabD (t ++ [r])] else []) (fun ρ => ∃ e f g i, ρ = [some (rawD s), some (.int (most : Nat)), some v, some (.int (k : Nat)), some (.lst ((rowT s w k).map rowD)), some (.ref μ1.length), some (tabD t), e, f, g, i]) (fun acc => holds_nil) (fun r hr acc2 ρ hl2 hJ => ?_) (fun ρ hJ => ?_) ⟨_, _, _, _, rfl⟩
      · obtain ⟨e, f, g, i, rfl⟩ := hJ
        obtain ⟨hin, _⟩ := (rowT_mem ok hkh).mp hr
        have hmore : IsT (k + 1) w (t ++ [r]) := ⟨by rw [List.length_append, hist1.1]; rfl, fun r' hr' => by
          rw [List.mem_append, List.mem_singleton] at hr'
          rcases hr' with hr' | rfl
          · exact hist1.2 r' hr'
          · exact hin.1⟩
        have ad : ∀ μ (P : D → Mu → Prop), P (tabD (t ++ [r])) μ → Wp (opAdd (tabD t) (.tup [rowD r]) μ) P := fun μ P q => by
          unfold tabD
          refine wp_addT.mpr ⟨by rw [List.length_map, hist1.1]; simp; omega, ?_⟩
          have : t.map rowD ++ [rowD r] = (t ++ [r]).map rowD := by simp
          rw [this]; exact q
        simp
        refine ad _ _ ?_
        refine turned_w hmore (by omega) (by omega) ?_
        rw [raw_3]
        refine ⟨_, tab_seq _, _, rfl, ?_⟩
        rw [zip_rows (da := []) (db := (0, 0)) (n := w) (by simp [turn]) ok.cl]
        refine comp_filterA (fun j => decide ((spanAt s false j).2 < ((turn w (t ++ [r])).getD j []).sum)) (fun _ => .int 1) holds_nil (fun j hj => ?_) ?_
        · have y4 : ∀ a μ (P : D → Mu → Prop), Wp (opIx (spanD a) (.int 1) μ) P ↔ P (.int a.2) μ := fun a μ P => by
            unfold spanD; rw [wp_ixT, show atI [D.int a.1, D.int a.2] 1 = some (.int a.2) from rfl, ex_some]
          have e5 : s.cols.getD j (0, 0) = spanAt s false j := rfl
          rw [e5]
          generalize (turn w (t ++ [r])).getD j [] = cj
          simp [wipe, row_sum, y4]
          omega
        · rw [List.nil_append, eq_nil (plainAll_of fun x hx => by obtain ⟨i, _, rfl⟩ := List.mem_map.mp hx; rfl) (Nat.le_trans (depAll_of (n := 0) fun x hx => by obtain ⟨i, _, rfl⟩ := List.mem_map.mp hx; exact Nat.le_refl _) (by omega)), colsOk_nil]
          have hl3 : acc2.length ≤ 16000000 := by omega
          cases hc : colsOk s w (t ++ [r]) with
          | false => exact .inl ⟨rfl, by simp⟩
          | true =>
            refine .inr ⟨rfl, ?_⟩
            rw [end_lst]
            refine ⟨rfl, ?_⟩
            rw [st_append]
            exact ⟨by omega, by simp⟩
      · obtain ⟨e, f, g, i, rfl⟩ := hJ
        exact ⟨⟨_, _, _, _, _, rfl⟩, rfl⟩
    · obtain ⟨d, e, f, g, i, rfl⟩ := hJ
      rw [List.nil_append, eL]
      simp
      rw [wp_len (seqOf_at (List.getElem?_concat_length ..)), List.length_map, wp_gt]
      by_cases hgt : (longT s w ts (rowT s w k)).length > most
      · refine .inr ⟨congrArg D.bl (decide_eq_true (by omega)), ?_⟩
        have e : fillsO s h w most = none := by
          unfold fillsO
          rw [fillsK_stay (k := k + 1) (by omega) (by unfold fillsK; rw [hts]; simp only; rw [if_pos hgt])]; rfl
        rw [e] at q
        rw [← hμ, List.append_assoc]
        exact wcl_und keeps_app (by simp) rfl (by rw [List.take_left]; exact q)
      · refine .inl ⟨congrArg D.bl (decide_eq_false (by omega)), ?_⟩
        refine ⟨k + 1, by simp at hk; omega, by rw [e2, List.map_drop], more ++ [.lst ((longT s w ts (rowT s w k)).map tabD)], _, longT s w ts (rowT s w k), by unfold fillsK; rw [hts]; simp only; rw [if_neg hgt], ?_, by rw [← List.append_assoc, hμ], rfl⟩
        rw [← List.append_assoc, hμ]
        exact IsSeq.live
  · rintro ρ μ' ⟨k, more, v, ts, hk, hr, hts, hv, rfl, a, b, c, d, e, f, g, i, rfl⟩
    refine ⟨holds_nil, ?_⟩
    have hkh : k = h := by simpa using hk
    subst hkh
    simp
    refine ⟨_, (by simpa using hv.seq []), ?_⟩
    have hist := fillsK_is ok (Nat.le_refl _) hts
    refine comp_filterA (fun t => fillB s k w t) tabD (by simpa using hv.holds []) (fun t ht => ?_) ?_
    · simp [wipe]
      refine law_wrong_w ok (by omega) hw (hist t ht).1 (fun hb => ?_) fun hb ds => ?_
      · rw [hb]; simp
      · rw [hb]; simp
    · rw [List.nil_append]
      have e : fillsO s k w most = some (ts.filter fun t => fillB s k w t) := by unfold fillsO; rw [hts]; rfl
      rw [e] at q
      exact wcl_und keeps_app (by simp) (by unfold D.und; exact map_und (tab_und _) _) (by rw [List.take_left]; exact q)
theorem law_fillings_w (ok : s.Ok h w) (hh : h ≤ 100) (hw : w ≤ 100) {most : Nat} {R : Nat} (hm : 1 ≤ most) (hR : ∀ i k, i < h → k ≤ w → (rowK s i k).length ≤ R) (hM : most * R ≤ 16000000) (hs : ∀ i, i < h → (spanAt s true i).2 ≤ 1000000) (hL : ∀ i j, i < h → j < w → cellV s.lows (i, j) ≤ 1000000) (q : P (filM (fillsO s h w most)) μ) : Wf f_law_fillings [rawD s, .int (most : Nat)] μ P :=
  law_fillings_g ok hh hw hm hR (by have := Nat.mul_le_mul_right R hm; omega) (fun _ => hM) hs hL q
end
end VL
end
section
set_option linter.all false
set_option maxRecDepth 100000
set_option maxHeartbeats 2000000
namespace VL
open PySem L2
theorem su_mul {c : Int} {f : Nat → Int} {n : Nat} : SU (fun i => c * f i) n = c * SU f n := by
  induction n with
  | zero => simp [SU]
  | succ n ih => simp only [SU]; rw [ih, Int.mul_add]
theorem mul_min' {c a b : Int} (hc : 0 ≤ c) : min (c * a) (c * b) = c * min a b := by
  by_cases h : a ≤ b
  · rw [Int.min_eq_left h, Int.min_eq_left (Int.mul_le_mul_of_nonneg_left h hc)]
  · have h : b ≤ a := by omega
    rw [Int.min_eq_right h, Int.min_eq_right (Int.mul_le_mul_of_nonneg_left h hc)]
theorem mul_max' {c a b : Int} (hc : 0 ≤ c) : max (c * a) (c * b) = c * max a b := by
  by_cases h : a ≤ b
  · rw [Int.max_eq_right h, Int.max_eq_right (Int.mul_le_mul_of_nonneg_left h hc)]
  · have h : b ≤ a := by omega
    rw [Int.max_eq_left h, Int.max_eq_left (Int.mul_le_mul_of_nonneg_left h hc)]
theorem mul_lt' {c a b : Int} (hc : 1 ≤ c) : c * a < c * b ↔ a < b := ⟨fun h => by
  by_cases z : b ≤ a
  · have := Int.mul_le_mul_of_nonneg_left z (by omega : 0 ≤ c); omega
  · omega, fun h => Int.mul_lt_mul_of_pos_left h (by omega)⟩
theorem mul_le' {c a b : Int} (hc : 1 ≤ c) : c * a ≤ c * b ↔ a ≤ b := ⟨fun h => by
  by_cases z : b < a
  · have := (mul_lt' hc).mpr z; omega
  · omega, fun h => Int.mul_le_mul_of_nonneg_left h (by omega)⟩
def timesR (c : Int) (s : Raw) (h w : Nat) : Raw := gS (fun i j => c * cellV s.lows (i, j)) (fun i j => (oAt s.highs (i, j)).map fun n => c * n) (fun b i => (c * (spanAt s b i).1, c * (spanAt s b i).2)) h w
section
variable {s : Raw} {h w : Nat} {c : Int} {B : Int} {b : Bool} {i : Nat} {m : Int}
theorem ti_lo {x : Nat × Nat} (hx : x.1 < h ∧ x.2 < w) : cellV (timesR c s h w).lows x = c * cellV s.lows x := gS_lo hx.1 hx.2
theorem ti_hi {x : Nat × Nat} (hx : x.1 < h ∧ x.2 < w) : oAt (timesR c s h w).highs x = (oAt s.highs x).map fun n => c * n := gS_hi hx.1 hx.2
theorem ti_sp (hi : i < many h w b) : spanAt (timesR c s h w) b i = (c * (spanAt s b i).1, c * (spanAt s b i).2) := gS_sp hi
theorem ti_ok (ok : s.Ok h w) (bc : Bc s h w B) (hc : 1 ≤ c) (hB : c * B ≤ 1000) : (timesR c s h w).Ok h w := gS_ok ok.h1 ok.w1 (fun i j hi hj => Int.mul_nonneg (by omega) (cellSet_at ok (c := (i, j)) ⟨hi, hj⟩)) (fun i j n hi hj e => by
  obtain ⟨m, hm, rfl⟩ := Option.map_eq_some_iff.mp e
  exact (mul_le' hc).mpr (ok_high ok (c := (i, j)) ⟨hi, hj⟩ hm)) fun b i hi => by
  have h1 := spanAt_ok' ok hi
  have h2 := bc.span b i hi
  have h3 : c * (spanAt s b i).2 ≤ c * B := (mul_le' hc).mpr h2
  have h4 : 0 ≤ c * (spanAt s b i).1 := Int.mul_nonneg (by omega) h1.1
  have h5 : c * (spanAt s b i).1 ≤ c * (spanAt s b i).2 := (mul_le' hc).mpr h1.2.1
  unfold SpO
  simp only
  omega
theorem ti_bc (ok : s.Ok h w) (bc : Bc s h w B) (hc : 1 ≤ c) : Bc (timesR c s h w) h w (c * B) := ⟨fun x hx => by
  rw [ti_lo hx]; exact (mul_le' hc).mpr (bc.low x hx), fun x n hx hn => by
  rw [ti_hi hx] at hn
  obtain ⟨m, hm, rfl⟩ := Option.map_eq_some_iff.mp hn
  exact (mul_le' hc).mpr (bc.high x m hx hm), fun b i hi => by
  rw [ti_sp hi]; exact (mul_le' hc).mpr (bc.span b i hi)⟩
theorem ti_loF {j : Nat} (hi : i < many h w b) (hj : j < len h w b) : loF (timesR c s h w) b i j = c * loF s b i j := ti_lo (cell_in hi hj)
theorem ti_hiF {j : Nat} (hi : i < many h w b) (hj : j < len h w b) : hiF (timesR c s h w) b i j = c * hiF s b i j := by
  unfold hiF
  rw [ti_hi (cell_in hi hj)]
  cases oAt s.highs (cellAt b i j) with
  | none => simp
  | some n => rfl
theorem ti_sl (hi : i < many h w b) : SU (loF (timesR c s h w) b i) (len h w b) = c * SU (loF s b i) (len h w b) := by
  rw [← su_mul]; exact su_congr fun j hj => ti_loF hi hj
theorem ti_sh (hi : i < many h w b) : SU (hiF (timesR c s h w) b i) (len h w b) = c * SU (hiF s b i) (len h w b) := by
  rw [← su_mul]; exact su_congr fun j hj => ti_hiF hi hj
theorem ti_ex {j : Nat} (hi : i < many h w b) (hj : j < len h w b) : (∃ v, oAt (timesR c s h w).highs (cellAt b i j) = some v) ↔ ∃ v, oAt s.highs (cellAt b i j) = some v := by
  rw [ti_hi (cell_in hi hj)]
  cases oAt s.highs (cellAt b i j) <;> simp
theorem ti_num {lo : Bool} {k : Option Nat} (ht : OkSt h w ⟨b, i, k, lo⟩) : numO (timesR c s h w) h w ⟨b, i, k, lo⟩ = (numO s h w ⟨b, i, k, lo⟩).map fun n => c * n := by
  have hi : i < many h w b := ht.i
  have opt : ∀ {x y : Option Int}, (∀ m, x = some m → ∃ n, y = some n ∧ m = c * n) → (∀ n, y = some n → x = some (c * n)) → x = y.map fun n => c * n := fun {x y} h1 h2 => by
    cases y with
    | some n => rw [h2 n rfl]; rfl
    | none =>
      cases x with
      | none => rfl
      | some m => obtain ⟨n, e, _⟩ := h1 m rfl; cases e
  cases k with
  | none =>
    cases lo
    · refine opt (fun m hm => ?_) fun n hn => ?_
      · obtain ⟨h1, rfl⟩ := num_sh.mp hm
        exact ⟨_, num_sh.mpr ⟨fun j hj => (ti_ex hi hj).mp (h1 j hj), rfl⟩, ti_sh hi⟩
      · obtain ⟨h1, rfl⟩ := num_sh.mp hn
        exact num_sh.mpr ⟨fun j hj => (ti_ex hi hj).mpr (h1 j hj), (ti_sh hi).symm⟩
    · rw [num_sl, num_sl, ti_sl hi]; rfl
  | some k =>
    have hk : k < len h w b := ht.k k rfl
    cases lo
    · rw [num_ch hk, num_ch hk, ti_sl hi, ti_loF hi hk, ti_sp hi]
      simp only [Option.map_some]
      rw [Int.mul_sub, Int.mul_sub]
    · refine opt (fun m hm => ?_) fun n hn => ?_
      · obtain ⟨h1, rfl⟩ := (num_cl hk).mp hm
        refine ⟨_, (num_cl hk).mpr ⟨fun j hj hne => (ti_ex hi hj).mp (h1 j hj hne), rfl⟩, ?_⟩
        rw [ti_sh hi, ti_hiF hi hk, ti_sp hi, Int.mul_sub, Int.mul_sub]
      · obtain ⟨h1, rfl⟩ := (num_cl hk).mp hn
        refine (num_cl hk).mpr ⟨fun j hj hne => (ti_ex hi hj).mpr (h1 j hj hne), ?_⟩
        rw [ti_sh hi, ti_hiF hi hk, ti_sp hi, Int.mul_sub, Int.mul_sub]
theorem ti_bnd {lo : Bool} {k : Option Nat} (ht : OkSt h w ⟨b, i, k, lo⟩) : bndO (timesR c s h w) ⟨b, i, k, lo⟩ = (c * (bndO s ⟨b, i, k, lo⟩).1, (bndO s ⟨b, i, k, lo⟩).2.map fun n => c * n) := by
  have hi : i < many h w b := ht.i
  cases k with
  | none => show ((spanAt (timesR c s h w) b i).1, some (spanAt (timesR c s h w) b i).2) = _; rw [ti_sp hi]; rfl
  | some k =>
    have hk : k < len h w b := ht.k k rfl
    show (cellV (timesR c s h w).lows (cellAt b i k), oAt (timesR c s h w).highs (cellAt b i k)) = _
    rw [ti_lo (cell_in hi hk), ti_hi (cell_in hi hk)]; rfl
theorem ti_takes (hc : 1 ≤ c) {t : St} (ht : OkSt h w t) : takesB (timesR c s h w) h w t = takesB s h w t := by
  obtain ⟨b, i, k, lo⟩ := t
  unfold takesB
  rw [ti_num ht, ti_bnd ht]
  cases numO s h w ⟨b, i, k, lo⟩ with
  | none => rfl
  | some n =>
    simp only [Option.map_some]
    cases lo
    · simp only [Bool.false_eq_true, if_false]
      cases (bndO s ⟨b, i, k, false⟩).2 with
      | none => rfl
      | some m => simp only [Option.map_some]; rw [decide_eq_decide]; exact mul_lt' hc
    · simp only [if_true]
      rw [decide_eq_decide]; exact mul_lt' hc
theorem ti_beh {t : St} (ht : OkSt h w t) : behO (timesR c s h w) h w t = ((behO s h w t).1.map fun n => c * n, (behO s h w t).2.map fun n => c * n) := by
  obtain ⟨b, i, k, lo⟩ := t
  unfold behO
  rw [ti_num ht, ti_bnd ht]
  cases lo <;> rfl
theorem ti_breaks (hc : 1 ≤ c) {t : St} (ht : OkSt h w t) : breaksB (timesR c s h w) h w t = breaksB s h w t := by
  unfold breaksB
  rw [ti_beh ht]
  generalize behO s h w t = p
  obtain ⟨a, m⟩ := p
  cases a with
  | none => rfl
  | some a =>
    cases m with
    | none => rfl
    | some m => show decide (c * m < c * a) = decide (m < a); rw [decide_eq_decide]; exact mul_lt' hc
theorem ti_tak (hc : 1 ≤ c) : takL (timesR c s h w) h w = takL s h w := List.filter_congr fun t ht => ti_takes hc (steps_mem.mp ht)
theorem ti_behS (ok : s.Ok h w) (bc : Bc s h w B) (hc : 1 ≤ c) (hB : c * B ≤ 1000) {t : St} (ht : OkSt h w t) (g : goodB s h w t = true) : behS (timesR c s h w) h w t = timesR c (behS s h w t) h w := by
  obtain ⟨b, i, k, lo⟩ := t
  have okT := ti_ok ok bc hc hB
  have gT : goodB (timesR c s h w) h w ⟨b, i, k, lo⟩ = true := by
    unfold goodB at g ⊢
    rw [ti_takes hc ht, ti_breaks hc ht]; exact g
  have ok1 := behS_ok okT ht gT
  have okS := behS_ok ok ht g
  have bcS := (beh_facts ok bc ht g).1
  have ok2 := ti_ok okS bcS hc hB
  have hi : i < many h w b := ht.i
  obtain ⟨n, hn, _⟩ := good_facts g
  have be := beh_eq hn
  refine raw_ext ok1 ok2 (fun i' j' hi' hj' => ?_) (fun i' j' hi' hj' => ?_) fun b' i' hi' => ?_
  · rw [ti_lo (x := (i', j')) ⟨hi', hj'⟩]
    unfold behS
    rw [ti_beh ht]
    cases k with
    | none =>
      simp only
      have e : ∀ (s : Raw) x, (spanSet s b i x).lows = s.lows := fun s x => by unfold spanSet; cases b <;> rfl
      rw [e, e, ti_lo (x := (i', j')) ⟨hi', hj'⟩]
    | some k =>
      simp only
      have hcc := cell_in hi (show k < len h w b from ht.k k rfl)
      rw [cellSet_low okT hcc, cellSet_low ok hcc]
      by_cases z : (i', j').1 = (cellAt b i k).1 ∧ (i', j').2 = (cellAt b i k).2
      · rw [if_pos z, if_pos z, be]
        cases lo <;> rfl
      · rw [if_neg z, if_neg z, ti_lo (x := (i', j')) ⟨hi', hj'⟩]
  · rw [ti_hi (x := (i', j')) ⟨hi', hj'⟩]
    unfold behS
    rw [ti_beh ht]
    cases k with
    | none =>
      simp only
      have e : ∀ (s : Raw) x, (spanSet s b i x).highs = s.highs := fun s x => by unfold spanSet; cases b <;> rfl
      rw [e, e, ti_hi (x := (i', j')) ⟨hi', hj'⟩]
    | some k =>
      simp only
      have hcc := cell_in hi (show k < len h w b from ht.k k rfl)
      rw [cellSet_high okT hcc, cellSet_high ok hcc]
      by_cases z : (i', j').1 = (cellAt b i k).1 ∧ (i', j').2 = (cellAt b i k).2
      · rw [if_pos z, if_pos z]
      · rw [if_neg z, if_neg z, ti_hi (x := (i', j')) ⟨hi', hj'⟩]
  · rw [ti_sp hi']
    unfold behS
    rw [ti_beh ht]
    cases k with
    | none =>
      simp only
      rw [spanSet_span okT hi, spanSet_span ok hi]
      by_cases z : b' = b ∧ i' = i
      · rw [if_pos z, if_pos z, be]
        cases lo <;> rfl
      · rw [if_neg z, if_neg z, ti_sp hi']
    | some k => simp only; exact ti_sp hi'
theorem ti_run (hc : 1 ≤ c) (hB : c * B ≤ 1000) {acc : List St} {o : Option Raw} (r : Run h w s acc o) : s.Ok h w → Bc s h w B → Run h w (timesR c s h w) acc (o.map fun S => timesR c S h w) := by
  induction r with
  | done ht => intro ok bc; exact .done (by rw [ti_tak hc]; exact ht)
  | brk ht hb =>
    intro ok bc
    obtain ⟨hok, htk⟩ := tak_mem ht
    exact .brk (by rw [ti_tak hc]; exact ht) (by rw [ti_breaks hc hok]; exact hb)
  | @step s t ts acc o ht hb hr ih =>
    intro ok bc
    obtain ⟨hok, htk⟩ := tak_mem ht
    obtain ⟨b, i, k, lo⟩ := t
    have g := good_of htk hb
    refine .step (by rw [ti_tak hc]; exact ht) (by rw [ti_breaks hc hok]; exact hb) ?_
    rw [ti_behS ok bc hc hB hok g]
    exact ih (behS_ok ok hok g) (beh_facts ok bc hok g).1
theorem ti_low (ok : s.Ok h w) (okT : (timesR c s h w).Ok h w) (hi : i < many h w b) : lowAt (timesR c s h w) w b i = c * lowAt s w b i := by
  rw [low_su okT hi, low_su ok hi, ti_sl hi]
theorem ti_nr (ok : s.Ok h w) (okT : (timesR c s h w).Ok h w) (hc : 1 ≤ c) (hi : i < many h w b) : needAt (timesR c s h w) w b i = c * needAt s w b i ∧ roomAt (timesR c s h w) w b i = c * roomAt s w b i := by
  unfold needAt roomAt
  rw [ti_low ok okT hi, ti_sp hi]
  simp only
  rw [← Int.mul_sub, ← Int.mul_sub]
  refine ⟨?_, rfl⟩
  have := mul_max' (c := c) (a := 0) (b := (spanAt s b i).1 - lowAt s w b i) (by omega)
  rw [Int.mul_zero] at this
  exact this
theorem ti_sums (ok : s.Ok h w) (okT : (timesR c s h w).Ok h w) (hc : 1 ≤ c) (b : Bool) : needSum (timesR c s h w) h w b = c * needSum s h w b ∧ roomSum (timesR c s h w) h w b = c * roomSum s h w b := by
  rw [needSum_su, roomSum_su, needSum_su, roomSum_su, ← su_mul, ← su_mul]
  exact ⟨su_congr fun i hi => (ti_nr ok okT hc hi).1, su_congr fun i hi => (ti_nr ok okT hc hi).2⟩
theorem ti_tot (ok : s.Ok h w) (okT : (timesR c s h w).Ok h w) (hc : 1 ≤ c) : totF (timesR c s h w) h w = c * totF s h w ∧ mstF (timesR c s h w) h w = c * mstF s h w ∧ baseF (timesR c s h w) h w = c * baseF s h w := by
  have h1 := ti_sums ok okT hc true
  have h2 := ti_sums ok okT hc false
  refine ⟨?_, ?_, ?_⟩
  · unfold totF; rw [h1.1, h2.1, mul_max' (by omega)]
  · unfold mstF; rw [h1.2, h2.2, mul_min' (by omega)]
  · unfold baseF; rw [← su_mul]; exact su_congr fun i hi => ti_low ok okT (b := true) hi
theorem mul_neg' {c a : Int} (hc : 1 ≤ c) : c * a < 0 ↔ a < 0 := by
  have := mul_lt' (a := a) (b := 0) hc
  rw [Int.mul_zero] at this
  exact this
theorem ti_noreas (ok : s.Ok h w) (okT : (timesR c s h w).Ok h w) (hc : 1 ≤ c) : NoReas (timesR c s h w) h w ↔ NoReas s h w := by
  constructor
  · intro n
    refine ⟨fun b i hi => ?_, fun b => ?_⟩
    · have := n.room b i hi
      rw [(ti_nr ok okT hc hi).2] at this
      have h2 := mul_neg' (a := roomAt s w b i) hc
      omega
    · have := n.sum b
      rw [(ti_sums ok okT hc b).1, (ti_sums ok okT hc (!b)).2] at this
      exact (mul_le' hc).mp this
  · intro n
    refine ⟨fun b i hi => ?_, fun b => ?_⟩
    · have := n.room b i hi
      rw [(ti_nr ok okT hc hi).2]
      exact Int.mul_nonneg (by omega) this
    · rw [(ti_sums ok okT hc b).1, (ti_sums ok okT hc (!b)).2]
      exact (mul_le' hc).mpr (n.sum b)
theorem ti_reasB (ok : s.Ok h w) (okT : (timesR c s h w).Ok h w) (hc : 1 ≤ c) {r : D} (hr : r ∈ reasL h w) : reasB (timesR c s h w) h w r = reasB s h w r := by
  rcases reasL_cases hr with ⟨b, i, hi, rfl⟩ | rfl | rfl
  · rw [reasB_line, reasB_line]
    unfold lineB
    rw [Int.toNat_natCast, (ti_nr ok okT hc hi).2]
    congr 1
    rw [decide_eq_decide]; exact mul_neg' hc
  · rw [show (D.tup [.str "columns"] : D) = .tup [.str (if false then "rows" else "columns")] from rfl, reasB_row, reasB_row, (ti_sums ok okT hc false).1, (ti_sums ok okT hc (!false)).2, decide_eq_decide]
    exact mul_lt' hc
  · rw [show (D.tup [.str "rows"] : D) = .tup [.str (if true then "rows" else "columns")] from rfl, reasB_row, reasB_row, (ti_sums ok okT hc true).1, (ti_sums ok okT hc (!true)).2, decide_eq_decide]
    exact mul_lt' hc
theorem ti_reasV (ok : s.Ok h w) (okT : (timesR c s h w).Ok h w) (hc : 1 ≤ c) : reasV (timesR c s h w) h w = reasV s h w := by
  unfold reasV
  rw [List.filter_congr fun r hr => ti_reasB ok okT hc hr]
theorem ti_amtF {nd rm nd' rm' : Nat → Int} {m : Int} {k : Nat} (hc : 1 ≤ c) (h1 : ∀ i, i ≤ k → nd' i = c * nd i) (h2 : ∀ i, i ≤ k → rm' i = c * rm i) : amtF nd' rm' (c * m) k = c * amtF nd rm m k := by
  rw [amtF_congr h1 h2]
  unfold amtF
  have e : ∀ n, SU (fun i => c * rm i - c * nd i) n = c * SU (fun i => rm i - nd i) n := fun n => by
    rw [← su_mul]; exact su_congr fun i _ => by rw [Int.mul_sub]
  rw [e, e, mul_min' (by omega), mul_min' (by omega), ← Int.mul_sub, ← Int.mul_add]
theorem ti_am (ok : s.Ok h w) (okT : (timesR c s h w).Ok h w) (hc : 1 ≤ c) (hi : i < many h w b) : amF (timesR c s h w) h w b i = c * amF s h w b i := by
  unfold amF
  rw [(ti_tot ok okT hc).1, (ti_sums ok okT hc b).1, ← Int.mul_sub]
  exact ti_amtF hc (fun k hk => (ti_nr ok okT hc (by omega)).1) fun k hk => (ti_nr ok okT hc (by omega)).2
theorem ti_xF {R C R' C' : Nat → Int} {j : Nat} (hc : 1 ≤ c) (h1 : ∀ k, k ≤ i → R' k = c * R k) (h2 : ∀ k, k ≤ j → C' k = c * C k) : xF R' C' i j = c * xF R C i j := by
  rw [xF_congr h1 h2]
  unfold xF clp
  rw [su_mul, su_mul, su_mul, su_mul, mul_min' (by omega), mul_min' (by omega), mul_max' (by omega), mul_max' (by omega), ← Int.mul_sub]
theorem ti_ct (ok : s.Ok h w) (okT : (timesR c s h w).Ok h w) (hc : 1 ≤ c) {j : Nat} (hi : i < h) (hj : j < w) : ctF (timesR c s h w) h w i j = c * ctF s h w i j := by
  unfold ctF
  rw [ti_lo (x := (i, j)) ⟨hi, hj⟩, ti_xF hc (fun k hk => ti_am ok okT hc (b := true) (show k < h by omega)) (fun k hk => ti_am ok okT hc (b := false) (show k < w by omega)), ← Int.mul_add]
theorem ti_ctab (ok : s.Ok h w) (okT : (timesR c s h w).Ok h w) (hc : 1 ≤ c) : ctab (timesR c s h w) h w = tabF (fun i j => c * ctF s h w i j) h w := tabF_congr fun i j hi hj => ti_ct ok okT hc hi hj
theorem ti_free (ok : s.Ok h w) (hf : s.Free) : (timesR c s h w).Free := by
  show (List.range h).map (fun i => (List.range w).map fun j => (oAt s.highs (i, j)).map fun n => c * n) = ((List.range h).map fun i => (List.range w).map fun j => c * cellV s.lows (i, j)).map fun r => r.map fun _ => none
  rw [List.map_map]
  refine List.map_congr_left fun i hi => ?_
  have hi := List.mem_range.mp hi
  show _ = ((List.range w).map fun j => c * cellV s.lows (i, j)).map fun _ => none
  rw [List.map_map]
  refine List.map_congr_left fun j hj => ?_
  have e : oAt s.highs (i, j) = none := high_none ok hf (c := (i, j)) hi
  rw [e]; rfl
theorem ti_fill {t : List (List Int)} (hc : 1 ≤ c) (ht : IsT h w t) (hf : fillB s h w t = true) : fillB (timesR c s h w) h w (tabF (fun i j => c * cellV t (i, j)) h w) = true := by
  obtain ⟨h1, h2⟩ := fill_iff.mp hf
  have el : ∀ b i, i < many h w b → lineAt w (tabF (fun i j => c * cellV t (i, j)) h w) b i = c * lineAt w t b i := fun b i hi => by
    rw [line_su tabF_isT hi, line_su ht hi, ← su_mul]
    refine su_congr fun j hj => ?_
    have hcc := cell_in hi hj
    exact tabF_cell hcc.1 hcc.2
  refine fill_iff.mpr ⟨fun x hx => ?_, fun b i hi => ?_⟩
  · have e : cellV (tabF (fun i j => c * cellV t (i, j)) h w) x = c * cellV t x := tabF_cell hx.1 hx.2
    rw [e, ti_lo hx, ti_hi hx]
    refine ⟨(mul_le' hc).mpr (h1 x hx).1, fun m hm => ?_⟩
    obtain ⟨m', hm', rfl⟩ := Option.map_eq_some_iff.mp hm
    exact (mul_le' hc).mpr ((h1 x hx).2 m' hm')
  · rw [el b i hi, ti_sp hi]
    exact ⟨(mul_le' hc).mpr (h2 b i hi).1, (mul_le' hc).mpr (h2 b i hi).2⟩
end
def addO : Option Int → Option Int → Option Int
  | some a, some b => some (a + b)
  | _, _ => none
def plusR (s t : Raw) (h w : Nat) : Raw := gS (fun i j => cellV s.lows (i, j) + cellV t.lows (i, j)) (fun i j => addO (oAt s.highs (i, j)) (oAt t.highs (i, j))) (fun b i => ((spanAt s b i).1 + (spanAt t b i).1, (spanAt s b i).2 + (spanAt t b i).2)) h w
section
variable {s s' : Raw} {h w : Nat} {B : Int}
theorem addO_some {a b : Option Int} {n : Int} (e : addO a b = some n) : ∃ x y, a = some x ∧ b = some y ∧ n = x + y := by
  cases a with
  | none => cases e
  | some x =>
    cases b with
    | none => cases e
    | some y => cases e; exact ⟨x, y, rfl, rfl, rfl⟩
theorem plus_ok (ok : s.Ok h w) (ok' : s'.Ok h w) (bc : Bc s h w B) (bc' : Bc s' h w B) (hB : 2 * B ≤ 1000) : (plusR s s' h w).Ok h w := gS_ok ok.h1 ok.w1 (fun i j hi hj => by
  have h1 := cellSet_at ok (c := (i, j)) ⟨hi, hj⟩
  have h2 := cellSet_at ok' (c := (i, j)) ⟨hi, hj⟩
  omega) (fun i j n hi hj e => by
  obtain ⟨x, y, e1, e2, rfl⟩ := addO_some e
  have h1 := ok_high ok (c := (i, j)) ⟨hi, hj⟩ e1
  have h2 := ok_high ok' (c := (i, j)) ⟨hi, hj⟩ e2
  omega) fun b i hi => by
  have h1 := spanAt_ok' ok hi
  have h2 := spanAt_ok' ok' hi
  have h3 := bc.span b i hi
  have h4 := bc'.span b i hi
  unfold SpO
  simp only
  omega
theorem plus_fill {t t' : List (List Int)} (ht : IsT h w t) (ht' : IsT h w t') (hf : fillB s h w t = true) (hf' : fillB s' h w t' = true) : fillB (plusR s s' h w) h w (tabF (fun i j => cellV t (i, j) + cellV t' (i, j)) h w) = true := by
  obtain ⟨h1, h2⟩ := fill_iff.mp hf
  obtain ⟨h1', h2'⟩ := fill_iff.mp hf'
  have el : ∀ b i, i < many h w b → lineAt w (tabF (fun i j => cellV t (i, j) + cellV t' (i, j)) h w) b i = lineAt w t b i + lineAt w t' b i := fun b i hi => by
    rw [line_su tabF_isT hi, line_su ht hi, line_su ht' hi, ← su_add]
    refine su_congr fun j hj => ?_
    have hcc := cell_in hi hj
    exact tabF_cell hcc.1 hcc.2
  refine fill_iff.mpr ⟨fun x hx => ?_, fun b i hi => ?_⟩
  · have e : cellV (tabF (fun i j => cellV t (i, j) + cellV t' (i, j)) h w) x = cellV t x + cellV t' x := tabF_cell hx.1 hx.2
    have e1 : cellV (plusR s s' h w).lows x = cellV s.lows x + cellV s'.lows x := gS_lo hx.1 hx.2
    have e2 : oAt (plusR s s' h w).highs x = addO (oAt s.highs x) (oAt s'.highs x) := gS_hi hx.1 hx.2
    rw [e, e1, e2]
    have g1 := h1 x hx
    have g2 := h1' x hx
    refine ⟨by omega, fun m hm => ?_⟩
    obtain ⟨a, b, ea, eb, rfl⟩ := addO_some hm
    have := g1.2 a ea
    have := g2.2 b eb
    omega
  · have e : spanAt (plusR s s' h w) b i = ((spanAt s b i).1 + (spanAt s' b i).1, (spanAt s b i).2 + (spanAt s' b i).2) := gS_sp hi
    rw [el b i hi, e]
    have g1 := h2 b i hi
    have g2 := h2' b i hi
    simp only
    omega
/-- rows in the other order -/
def revR (s : Raw) : Raw := ⟨s.lows.reverse, s.highs.reverse, s.rows.reverse, s.cols⟩
theorem rev_get {α : Type} {xs : List α} {i : Nat} {a : α} (h : xs.reverse[i]? = some a) : ∃ k, k < xs.length ∧ i < xs.length ∧ k = xs.length - 1 - i ∧ xs[k]? = some a := by
  have hl := (List.getElem?_eq_some_iff.mp h).1
  rw [List.length_reverse] at hl
  refine ⟨xs.length - 1 - i, by omega, hl, rfl, ?_⟩
  rw [List.getElem?_reverse hl] at h
  exact h
theorem rev_ok (ok : s.Ok h w) : (revR s).Ok h w := by
  refine ⟨ok.h1, ok.w1, ⟨by show s.lows.reverse.length = h; rw [List.length_reverse]; exact ok.lows.1, fun r hr => ok.lows.2 r (List.mem_reverse.mp hr)⟩, fun r hr => ok.pos r (List.mem_reverse.mp hr), by show s.highs.reverse.length = h; rw [List.length_reverse]; exact ok.hl, fun r hr => ok.hw r (List.mem_reverse.mp hr), fun i j r q n m hr hq hn hm => ?_, by show s.rows.reverse.length = h; rw [List.length_reverse]; exact ok.rl, fun a ha => ok.ro a (List.mem_reverse.mp ha), ok.cl, ok.co⟩
  obtain ⟨k, hk, hi, ek, g1⟩ := rev_get hr
  obtain ⟨k', hk', hi', ek', g2⟩ := rev_get hq
  have : k = k' := by rw [ek, ek', ok.lows.1, ok.hl]
  subst this
  exact ok.high k j r q n m g1 g2 hn hm
theorem rev_bd (bd : s.Bd B) : (revR s).Bd B := ⟨fun r hr => bd.low r (List.mem_reverse.mp hr), fun r hr => bd.high r (List.mem_reverse.mp hr), fun a ha => bd.row a (List.mem_reverse.mp ha), bd.col⟩
end
end VL
end
section
set_option linter.all false
set_option maxRecDepth 100000
set_option maxHeartbeats 2000000
namespace VL
open PySem L2
def settledL (S : Raw) (h w : Nat) : List (Nat × Nat) := (List.range h).flatMap fun i => ((List.range w).filter fun j => decide (cellV S.lows (i, j) = (oAt S.highs (i, j)).getD 0)).map fun j => (i, j)
section
variable {μ : Mu} {P : D → Mu → Prop} {s : Raw} {h w : Nat}
theorem law_plain_w {o : Option Raw} (q : P (rawN o) μ) : Wf f_law_plain [rawM o] μ P := by
  unfold f_law_plain
  rw [wf_def]
  cases o with
  | none =>
    simp [rawM]
    exact .inl ⟨by rw [isi_own (by decide) rfl]; rfl, wcl_same rfl q⟩
  | some s =>
    have hc : (sheetO s).isC (Str.ofString "Sheet") = true := by simp [sheetO, D.isC]
    simp [rawM, isi_own (d := sheetO s) (x := Str.ofString "Sheet") (by decide) (obj_kd (by decide)), hc]
    exact wcl_same (raw_und _ s) q
end
end VL
end
section
set_option linter.all false
set_option maxRecDepth 100000
set_option maxHeartbeats 2000000
namespace VL
open PySem L2
theorem ws_hideE {s : VS} {ρ : Ro} {μ : Mu} {E : Ed} (h : ∀ E', E' = E → Ws s ρ μ E') : Ws s ρ μ E := h E rfl
theorem fils_pos {h w : Nat} {t : List (List Int)} (ht : IsT h w t) (hp : ∀ r ∈ t, ∀ n ∈ r, 0 ≤ n) {i j : Nat} (hi : i < h) (hj : j < w) : 0 ≤ cellV t (i, j) := by
  obtain ⟨r, z1, z2⟩ := cell_row ht (c := (i, j)) ⟨hi, hj⟩
  exact hp r (List.mem_of_getElem? z1) _ (List.mem_of_getElem? z2)
theorem fil_tru {μ : Mu} : ∀ o : Option (List (List (List Int))), tru μ (filM o) = some false ∨ ∃ L, o = some L ∧ L ≠ [] ∧ tru μ (filM o) = some true
  | none => .inl rfl
  | some [] => .inl rfl
  | some (t :: ts) => .inr ⟨_, rfl, (fun e => by cases e), rfl⟩
theorem fills_len {s : Raw} {h w most : Nat} {L : List (List (List Int))} (hm : 1 ≤ most) (e : fillsO s h w most = some L) : L.length ≤ most := by
  unfold fillsO at e
  obtain ⟨ts, h0, rfl⟩ := Option.map_eq_some_iff.mp e
  exact Nat.le_trans (List.length_filter_le _ _) (fillsK_len hm h0)
theorem tab_rows {h w : Nat} {t : List (List Int)} (ht : IsT h w t) : t.map rowD = (List.range h).map fun i => rowD (t.getD i []) := by rw [map_range (d := []) rowD, ht.1]
theorem row_ints {h w : Nat} {t : List (List Int)} (ht : IsT h w t) {i : Nat} (hi : i < h) : (t.getD i []).map D.int = (List.range w).map fun j => D.int (cellV t (i, j)) := by
  rw [map_range (d := 0) D.int, ht.2 _ (List.mem_of_getElem? (getD_some (d := []) (by rw [ht.1]; exact hi)))]; rfl
theorem tabF_D {f : Nat → Nat → Int} {h w : Nat} : tabD (tabF f h w) = .tup ((List.range h).map fun i => .tup ((List.range w).map fun j => .int (f i j))) := by
  unfold tabD tabF
  rw [List.map_map]
  refine congrArg D.tup (List.map_congr_left fun i _ => ?_)
  show rowD ((List.range w).map (f i)) = _
  unfold rowD; rw [List.map_map]; rfl
theorem split_T {T A R : VS} (h : T = sSeq A R) : ∃ T2, T2 = R ∧ T = sSeq A T2 := ⟨R, rfl, h⟩
theorem low_ints {s : Raw} {h w i : Nat} (ok : s.Ok h w) (hi : i < h) : (s.lows.getD i []).map D.int = (List.range w).map fun j => D.int (cellV s.lows (i, j)) := by
  rw [map_range (d := 0) D.int, row_len_at ok hi]; rfl
theorem high_opts {s : Raw} {h w i : Nat} (ok : s.Ok h w) (hi : i < h) : (s.highs.getD i []).map optD = (List.range w).map fun j => optD (oAt s.highs (i, j)) := by
  rw [map_range (d := none) optD, high_len_at ok hi]; rfl
theorem low_tabs {s : Raw} {h w : Nat} (ok : s.Ok h w) : s.lows.map rowD = (List.range h).map fun i => rowD (s.lows.getD i []) := by rw [map_range (d := []) rowD, ok.lows.1]
theorem high_tabs {s : Raw} {h w : Nat} (ok : s.Ok h w) : s.highs.map rowO = (List.range h).map fun i => rowO (s.highs.getD i []) := by rw [map_range (d := []) rowO, ok.hl]
theorem span_list {s : Raw} {h w : Nat} (ok : s.Ok h w) (b : Bool) : (spanS s b).map spanD = (List.range (many h w b)).map fun i => spanD (spanAt s b i) := by rw [map_range (d := (0, 0)) spanD, ok.spans]; rfl
theorem zip2m {α : Type} {f g : α → D} : ∀ as : List α, ((as.map f).zip (as.map g)).map (fun p => D.tup [p.1, p.2]) = as.map fun i => D.tup [f i, g i]
  | [] => rfl
  | a :: as => by simp only [List.map_cons, List.zip_cons_cons]; rw [zip2m as]
theorem gS_D {lo : Nat → Nat → Int} {hi : Nat → Nat → Option Int} {sp : Bool → Nat → Int × Int} {h w : Nat} : rawD (gS lo hi sp h w) = .tup [.tup ((List.range h).map fun i => .tup ((List.range w).map fun j => .int (lo i j))), .tup ((List.range h).map fun i => .tup ((List.range w).map fun j => optD (hi i j))), .tup ((List.range h).map fun i => spanD (sp true i)), .tup ((List.range w).map fun i => spanD (sp false i))] := by
  unfold rawD gS tabD tabO spansD tabF
  simp only [List.map_map]
  congr 1
  congr 1
  · congr 1
    refine List.map_congr_left fun i _ => ?_
    show rowD ((List.range w).map (lo i)) = _
    unfold rowD; rw [List.map_map]; rfl
  congr 1
  · congr 1
    refine List.map_congr_left fun i _ => ?_
    show rowO ((List.range w).map (hi i)) = _
    unfold rowO; rw [List.map_map]; rfl
end VL
end
section
set_option linter.all false
set_option maxRecDepth 100000
set_option maxHeartbeats 2000000
namespace VL
open PySem L2
/-- numbers between bounds, of a sum between their sums -/
theorem between {l u : Nat → Int} {n : Nat} {m : Int} (h : ∀ i, i < n → l i ≤ u i) (h1 : SU l n ≤ m) (h2 : m ≤ SU u n) : ∃ x : Nat → Int, (∀ i, i < n → l i ≤ x i ∧ x i ≤ u i) ∧ SU x n = m := by
  refine ⟨amtF l u (m - SU l n), fun i hi => amtF_le (h i hi), ?_⟩
  rw [amtF_sum (by omega), su_sub]
  omega
section
variable {T : Raw} {h w : Nat} {b : Bool}
/-- the table of one line -/
def lineT (x : Nat → Int) (b : Bool) (h w : Nat) : List (List Int) := tabF (fun i j => x (if b then j else i)) h w
theorem lineT_cell {x : Nat → Int} {j : Nat} (h1 : many h w b = 1) (hj : j < len h w b) : cellV (lineT x b h w) (cellAt b 0 j) = x j := by
  have hc := cell_in (i := 0) (b := b) (by omega) hj
  have e : cellV (lineT x b h w) (cellAt b 0 j) = (fun i j => x (if b then j else i)) (cellAt b 0 j).1 (cellAt b 0 j).2 := tabF_cell hc.1 hc.2
  rw [e]
  cases b <;> rfl
theorem single_cell {c : Nat × Nat} (h1 : many h w b = 1) (hc : c.1 < h ∧ c.2 < w) : ∃ j, j < len h w b ∧ c = cellAt b 0 j := by
  obtain ⟨i, j, hi, hj, rfl⟩ := cell_back hc b
  exact ⟨j, hj, by rw [show i = 0 by omega]⟩
theorem cross_cell {k : Nat} : cellAt (!b) k 0 = cellAt b 0 k := by cases b <;> rfl
theorem cross_many : many h w (!b) = len h w b := rfl
theorem cross_len (h1 : many h w b = 1) : len h w (!b) = 1 := by
  show many h w (!(!b)) = 1
  rw [Bool.not_not]; exact h1
/-- a crossing line tells just what its cell does -/
theorem cross_clo (cl : Clo T h w) (h1 : many h w b = 1) {k : Nat} (hk : k < len h w b) : (spanAt T (!b) k).1 = loF T b 0 k ∧ (spanAt T (!b) k).2 = hiF T b 0 k := by
  have hl := cross_len h1
  have hi : k < many h w (!b) := hk
  have e1 : ∀ f : Nat → Int, SU f (len h w (!b)) = f 0 := fun f => by rw [hl]; simp [SU]
  have a := cl.a (!b) k hi
  have bb := cl.b (!b) k hi
  have c := cl.c (!b) k 0 hi (by omega)
  have d := cl.d (!b) k 0 hi (by omega)
  rw [e1] at a bb c d
  have el : loF T (!b) k 0 = loF T b 0 k := by unfold loF; rw [cross_cell]
  have eh : hiF T (!b) k 0 = hiF T b 0 k := by unfold hiF; rw [cross_cell]
  rw [el] at a c d
  rw [eh] at bb c d
  omega
theorem single_fill (ok : T.Ok h w) (cl : Clo T h w) (h1 : many h w b = 1) {x : Nat → Int} (hx : ∀ j, j < len h w b → loF T b 0 j ≤ x j ∧ x j ≤ hiF T b 0 j) (hm : (spanAt T b 0).1 ≤ SU x (len h w b) ∧ SU x (len h w b) ≤ (spanAt T b 0).2) : IsT h w (lineT x b h w) ∧ fillB T h w (lineT x b h w) = true := by
  have ht : IsT h w (lineT x b h w) := tabF_isT
  refine ⟨ht, fill_iff.mpr ⟨fun c hc => ?_, fun b' i hi => ?_⟩⟩
  · obtain ⟨j, hj, rfl⟩ := single_cell h1 hc
    rw [lineT_cell h1 hj]
    have := hx j hj
    refine ⟨this.1, fun m hm => ?_⟩
    have e : hiF T b 0 j = m := by unfold hiF; rw [hm]; rfl
    omega
  · rw [line_su ht hi]
    by_cases e : b' = b
    · subst e
      have : i = 0 := by omega
      subst this
      rw [su_congr fun j hj => lineT_cell h1 hj]
      exact hm
    · have e : b' = !b := by cases b <;> cases b' <;> simp at e ⊢
      subst e
      obtain ⟨c1, c2⟩ := cross_clo cl h1 (k := i) hi
      rw [cross_len h1]
      have e2 : SU (fun j => cellV (lineT x b h w) (cellAt (!b) i j)) 1 = x i := by
        simp only [SU]
        rw [cross_cell, lineT_cell h1 hi]; omega
      rw [e2, c1, c2]
      exact hx i hi
theorem clo_lh (ok : T.Ok h w) (cl : Clo T h w) {i j : Nat} (hi : i < many h w b) (hj : j < len h w b) : loF T b i j ≤ hiF T b i j := by
  obtain ⟨m, hm⟩ := cl.hs _ (cell_in hi hj)
  have := ok_high ok (cell_in hi hj) hm
  have e : hiF T b i j = m := by unfold hiF; rw [hm]; rfl
  unfold loF
  omega
/-- each total of the line's span -/
theorem single_total (ok : T.Ok h w) (cl : Clo T h w) (h1 : many h w b = 1) {m : Int} (m1 : (spanAt T b 0).1 ≤ m) (m2 : m ≤ (spanAt T b 0).2) : ∃ t, IsT h w t ∧ fillB T h w t = true ∧ lineAt w t b 0 = m := by
  have h0 : 0 < many h w b := by omega
  have a := cl.a b 0 h0
  have bb := cl.b b 0 h0
  obtain ⟨x, hx, hs⟩ := between (l := loF T b 0) (u := hiF T b 0) (n := len h w b) (m := m) (fun j hj => clo_lh ok cl h0 hj) (by omega) (by omega)
  obtain ⟨ht, hf⟩ := single_fill ok cl h1 hx (by omega)
  refine ⟨_, ht, hf, ?_⟩
  rw [line_su ht h0, su_congr fun j hj => lineT_cell h1 hj, hs]
/-- each bound of a cell -/
theorem single_bound (ok : T.Ok h w) (cl : Clo T h w) (h1 : many h w b = 1) {k : Nat} (hk : k < len h w b) {v : Int} (hv : v = loF T b 0 k ∨ v = hiF T b 0 k) : ∃ t, IsT h w t ∧ fillB T h w t = true ∧ cellV t (cellAt b 0 k) = v := by
  have h0 : 0 < many h w b := by omega
  have a := cl.a b 0 h0
  have bb := cl.b b 0 h0
  have c := cl.c b 0 k h0 hk
  have d := cl.d b 0 k h0 hk
  have hsp := spanAt_ok' ok h0
  have hlh := clo_lh ok cl h0 hk
  have el := su_upd (f := loF T b 0) (v := v) hk
  have eu := su_upd (f := hiF T b 0) (v := v) hk
  have hle : ∀ j, j < len h w b → (fun j => if j = k then v else loF T b 0 j) j ≤ (fun j => if j = k then v else hiF T b 0 j) j := fun j hj => by
    by_cases e : j = k
    · simp [e]
    · simp only [if_neg e]; exact clo_lh ok cl h0 hj
  have hmono := su_mono hle
  obtain ⟨x, hx, hs⟩ := between (l := fun j => if j = k then v else loF T b 0 j) (u := fun j => if j = k then v else hiF T b 0 j) (n := len h w b) (m := max (spanAt T b 0).1 (SU (fun j => if j = k then v else loF T b 0 j) (len h w b))) hle (by omega) (by rcases hv with rfl | rfl <;> omega)
  have hxk : x k = v := by
    have := hx k hk
    simp at this
    omega
  have hx2 : ∀ j, j < len h w b → loF T b 0 j ≤ x j ∧ x j ≤ hiF T b 0 j := fun j hj => by
    by_cases e : j = k
    · subst e
      rw [hxk]
      rcases hv with rfl | rfl <;> omega
    · have := hx j hj
      simp only [if_neg e] at this
      exact this
  obtain ⟨ht, hf⟩ := single_fill ok cl h1 hx2 (by rcases hv with rfl | rfl <;> omega)
  exact ⟨_, ht, hf, by rw [lineT_cell h1 hk, hxk]⟩
end
theorem fold_min {f : Option Int → Int → Option Int} (hf : ∀ k n, f (some k) n = some (if n < k then n else k)) {m : Int} : ∀ (ns : List Int) (k : Int), (∀ n ∈ ns, m ≤ n) → m ≤ k → (m ∈ ns ∨ m = k) → ns.foldl f (some k) = some m
  | [], k, _, _, h => by
    rcases h with h | h
    · cases h
    · rw [h]; rfl
  | a :: as, k, hn, hk, hm => by
    have ha := hn a (by simp)
    rw [List.foldl_cons, hf]
    refine fold_min hf as _ (fun n hn' => hn n (by simp [hn'])) (by split <;> omega) ?_
    rcases hm with hm | rfl
    · rcases List.mem_cons.mp hm with rfl | hm
      · right; split <;> omega
      · exact .inl hm
    · right; split <;> omega
theorem fold_max {f : Option Int → Int → Option Int} (hf : ∀ k n, f (some k) n = some (if n > k then n else k)) {m : Int} : ∀ (ns : List Int) (k : Int), (∀ n ∈ ns, n ≤ m) → k ≤ m → (m ∈ ns ∨ m = k) → ns.foldl f (some k) = some m
  | [], k, _, _, h => by
    rcases h with h | h
    · cases h
    · rw [h]; rfl
  | a :: as, k, hn, hk, hm => by
    have ha := hn a (by simp)
    rw [List.foldl_cons, hf]
    refine fold_max hf as _ (fun n hn' => hn n (by simp [hn'])) (by split <;> omega) ?_
    rcases hm with hm | rfl
    · rcases List.mem_cons.mp hm with rfl | hm
      · right; split <;> omega
      · exact .inl hm
    · right; split <;> omega
theorem minOf_is {ns : List Int} {m : Int} (h1 : m ∈ ns) (h2 : ∀ n ∈ ns, m ≤ n) : minOf ns = some m := by
  cases ns with
  | nil => cases h1
  | cons a as => exact fold_min (fun _ _ => rfl) as a (fun n hn => h2 n (by simp [hn])) (h2 a (by simp)) (by
      rcases List.mem_cons.mp h1 with rfl | h
      · exact .inr rfl
      · exact .inl h)
theorem maxOf_is {ns : List Int} {m : Int} (h1 : m ∈ ns) (h2 : ∀ n ∈ ns, n ≤ m) : maxOf ns = some m := by
  cases ns with
  | nil => cases h1
  | cons a as => exact fold_max (fun _ _ => rfl) as a (fun n hn => h2 n (by simp [hn])) (h2 a (by simp)) (by
      rcases List.mem_cons.mp h1 with rfl | h
      · exact .inr rfl
      · exact .inl h)
end VL
end
section
set_option linter.all false
set_option maxRecDepth 100000
set_option maxHeartbeats 2000000
namespace VL
open PySem L2
section
variable {p : Pen} {rest : Mu} {P : D → Mu → Prop}
/-- a drawn sheet of one row, or of one column -/
theorem single_w {n : Nat} (hp : p.ok) (h1 : 1 ≤ n) (h2 : n ≤ 4) {tn : Bool} (q : ∀ (s : Raw) (h w : Nat) p', p'.ok → s.Ok h w → Bc s h w 31 → many h w (!tn) = 1 → len h w (!tn) = n → P (rawD s) (penO p' :: rest)) : Wf f_law_single [.ref 0, .int n, .bl tn] (penO p :: rest) P := by
  unfold f_law_single
  rw [wf_def]
  simp
  refine ⟨by omega, ?_⟩
  rw [rng0]
  refine comp_pen (S := fun _ d => ∃ k : Int, d = .int k ∧ 0 ≤ k ∧ k ≤ 6) (fun _ => holds_nil) hp (fun i x hx p1 hp1 Q hQ => ?_) fun ds p1 hp1 hl hS => ?_
  · obtain ⟨k, _, rfl⟩ := get_map hx
    simp [wipe]
    exact draw_w hp1 (by omega) (by omega) fun d p2 hp2 d0 d1 => hQ _ _ hp2 ⟨d, rfl, by omega, by omega⟩
  obtain ⟨t, e1, tl, tS⟩ := choose_map (f := D.int) (T := fun _ k => 0 ≤ k ∧ k ≤ 6) hS
  subst e1
  have tl : t.length = n := by rw [tl, hl, List.length_map, List.length_range]
  have hts : t.sum ≤ 24 := by
    have := sum_le_mul (B := 6) (by omega) (r := t) (k := 4) (fun n hn => by obtain ⟨j, hj⟩ := List.getElem?_of_mem hn; exact (tS j n hj).2) (by omega)
    omega
  have hts0 : 0 ≤ t.sum := sum_nonneg fun n hn => by obtain ⟨j, hj⟩ := List.getElem?_of_mem hn; exact (tS j n hj).1
  refine ⟨_, rfl, ?_⟩
  refine comp_pen (S := fun i d => ∃ k : Int, d = .int k ∧ ∃ m, t[i]? = some m ∧ 0 ≤ k ∧ k ≤ m) (fun _ => holds_nil) hp1 (fun i x hx p2 hp2 Q hQ => ?_) fun dl p2 hp2 hll hlS => ?_
  · obtain ⟨k, hk, rfl⟩ := get_map hx
    have := tS i k hk
    simp [wipe]
    refine draw_w hp2 (by omega) (by omega) fun d p3 hp3 d0 d1 => ?_
    simp
    exact hQ _ _ hp3 ⟨_, rfl, k, hk, by omega, by omega⟩
  obtain ⟨l, e1, ll, lS⟩ := choose_map (f := D.int) (T := fun i k => ∃ m, t[i]? = some m ∧ 0 ≤ k ∧ k ≤ m) hlS
  subst e1
  have ll : l.length = n := by rw [ll, hll, List.length_map, tl]
  refine ⟨_, rfl, ?_⟩
  refine comp_pen (S := fun i d => ∃ k : Option Int, d = optD k ∧ ∃ m, t[i]? = some m ∧ ∀ v, k = some v → m ≤ v ∧ v ≤ m + 3) (fun _ => holds_nil) hp2 (fun i x hx p3 hp3 Q hQ => ?_) fun dl p3 hp3 hol hoS => ?_
  · obtain ⟨k, hk, rfl⟩ := get_map hx
    have := tS i k hk
    simp [wipe]
    refine draw_w hp3 (by omega) (by omega) fun d p4 hp4 d0 d1 => ?_
    simp
    by_cases hd : d = 0
    · refine .inr ⟨hd, hQ _ _ hp4 ⟨none, rfl, k, hk, fun v e => by cases e⟩⟩
    · refine .inl ⟨hd, ?_⟩
      refine draw_w hp4 (by omega) (by omega) fun d p5 hp5 d0 d1 => ?_
      simp
      exact hQ _ _ hp5 ⟨some (k + d), rfl, k, hk, fun v e => by cases e; omega⟩
  obtain ⟨o, e1, ol, oS⟩ := choose_map (f := optD) (T := fun i k => ∃ m, t[i]? = some m ∧ ∀ v, k = some v → m ≤ v ∧ v ≤ m + 3) hoS
  subst e1
  have ol : o.length = n := by rw [ol, hol, List.length_map, tl]
  rw [show D.tup (t.map D.int) = rowD t from rfl, row_sum]
  refine draw_w hp3 (by omega) (by omega) fun d p4 hp4 d0 d1 => ?_
  simp
  refine about_w' hp4 (by omega) (by omega) (by omega) fun x y p5 hp5 x0 xy yx yn => ?_
  refine ⟨_, row_seq t, ?_⟩
  refine comp_pen (S := fun i d => ∃ a : Int × Int, d = spanD a ∧ 0 ≤ a.1 ∧ a.1 ≤ a.2 ∧ a.2 ≤ a.1 + 8 ∧ a.2 ≤ 10) (fun _ => holds_nil) hp5 (fun i x hx p6 hp6 Q hQ => ?_) fun dl p6 hp6 hcl hcS => ?_
  · obtain ⟨k, hk, rfl⟩ := get_map hx
    have := tS i k hk
    simp [wipe]
    exact about_w' hp6 (by omega) (by omega) (by omega) fun a b p7 hp7 a0 ab ba bn => hQ _ _ hp7 ⟨(a, b), rfl, a0, ab, by simp only; omega, by simp only; omega⟩
  obtain ⟨cs, e1, cl, cS⟩ := choose_map (f := spanD) (T := fun _ a => 0 ≤ a.1 ∧ a.1 ≤ a.2 ∧ a.2 ≤ a.1 + 8 ∧ a.2 ≤ 10) hcS
  subst e1
  have cl : cs.length = n := by rw [cl, hcl, List.length_map, tl]
  have gl : ∀ j, j < n → l[j]? = some (l.getD j 0) := fun j hj => getD_some (by omega)
  have go : ∀ j, j < n → o[j]? = some (o.getD j none) := fun j hj => getD_some (by omega)
  have gc : ∀ j, j < n → cs[j]? = some (cs.getD j (0, 0)) := fun j hj => getD_some (by omega)
  have hlf : ∀ j, j < n → 0 ≤ l.getD j 0 ∧ l.getD j 0 ≤ 6 ∧ ∀ v, o.getD j none = some v → l.getD j 0 ≤ v ∧ v ≤ 9 := fun j hj => by
    obtain ⟨m, hm, l0, l1⟩ := lS j _ (gl j hj)
    obtain ⟨m', hm', h3⟩ := oS j _ (go j hj)
    rw [hm] at hm'
    cases hm'
    have := tS j m hm
    exact ⟨l0, by omega, fun v hv => by have := h3 v hv; omega⟩
  have hcf : ∀ j, j < n → 0 ≤ (cs.getD j (0, 0)).1 ∧ (cs.getD j (0, 0)).1 ≤ (cs.getD j (0, 0)).2 ∧ (cs.getD j (0, 0)).2 ≤ (cs.getD j (0, 0)).1 + 8 ∧ (cs.getD j (0, 0)).2 ≤ 10 := fun j hj => cS j _ (gc j hj)
  cases tn with
  | false =>
    refine .inl ⟨rfl, ?_⟩
    have e : D.tup [.tup [.tup (l.map D.int)], .tup [.tup (o.map optD)], .tup [spanD (x, y)], .tup (cs.map spanD)] = rawD (gS (fun _ j => l.getD j 0) (fun _ j => o.getD j none) (fun b i => if b then (x, y) else cs.getD i (0, 0)) 1 n) := by
      rw [gS_D, map_range (as := l) (d := 0) D.int, map_range (as := o) (d := none) optD, map_range (as := cs) (d := (0, 0)) spanD, ll, ol, cl]; rfl
    rw [e]
    refine wcl_pen (raw_und _ _) (q _ 1 n p6 hp6 (gS_ok (by omega) h1 (fun i j _ hj => (hlf j hj).1) (fun i j v _ hj hv => ((hlf j hj).2.2 v hv).1) fun b i hi => ?_) ⟨fun c hc => ?_, fun c v hc hv => ?_, fun b i hi => ?_⟩ rfl rfl)
    · cases b
      · have := hcf i hi
        exact ⟨this.1, this.2.1, by show (cs.getD i (0, 0)).2 ≤ (cs.getD i (0, 0)).1 + 1000; omega⟩
      · exact ⟨x0, xy, by show y ≤ x + 1000; omega⟩
    · have e2 : cellV (gS (fun _ j => l.getD j 0) (fun _ j => o.getD j none) (fun b i => if b then (x, y) else cs.getD i (0, 0)) 1 n).lows c = l.getD c.2 0 := gS_lo hc.1 hc.2
      have := hlf c.2 hc.2
      omega
    · have e2 : oAt (gS (fun _ j => l.getD j 0) (fun _ j => o.getD j none) (fun b i => if b then (x, y) else cs.getD i (0, 0)) 1 n).highs c = o.getD c.2 none := gS_hi hc.1 hc.2
      rw [e2] at hv
      have := (hlf c.2 hc.2).2.2 v hv
      omega
    · rw [gS_sp hi]
      cases b
      · have := hcf i hi
        show (cs.getD i (0, 0)).2 ≤ 31
        omega
      · show y ≤ 31
        omega
  | true =>
    refine .inr ⟨rfl, ?_⟩
    rw [show D.tup [.tup (l.map D.int)] = tabD [l] from rfl, show D.tup [.tup (o.map optD)] = tabO [o] from rfl]
    refine turned_w (h := 1) (w := n) ⟨rfl, fun r hr => by rw [List.mem_singleton] at hr; rw [hr]; exact ll⟩ (by omega) (by omega) ?_
    refine law_turnedO_w (h := 1) (w := n) rfl (fun r hr => by rw [List.mem_singleton] at hr; rw [hr]; exact ol) (by omega) (by omega) ?_
    have e : D.tup [tabD (turn n [l]), tabO (turnO' n [o]), .tup (cs.map spanD), .tup [spanD (x, y)]] = rawD (gS (fun i _ => l.getD i 0) (fun i _ => o.getD i none) (fun b i => if b then cs.getD i (0, 0) else (x, y)) n 1) := by
      rw [gS_D, map_range (as := cs) (d := (0, 0)) spanD, cl]
      unfold tabD tabO turn turnO'
      rw [List.map_map, List.map_map]
      rfl
    rw [e]
    refine wcl_pen (raw_und _ _) (q _ n 1 p6 hp6 (gS_ok h1 (by omega) (fun i j hi _ => (hlf i hi).1) (fun i j v hi _ hv => ((hlf i hi).2.2 v hv).1) fun b i hi => ?_) ⟨fun c hc => ?_, fun c v hc hv => ?_, fun b i hi => ?_⟩ rfl rfl)
    · cases b
      · exact ⟨x0, xy, by show y ≤ x + 1000; omega⟩
      · have := hcf i hi
        exact ⟨this.1, this.2.1, by show (cs.getD i (0, 0)).2 ≤ (cs.getD i (0, 0)).1 + 1000; omega⟩
    · have e2 : cellV (gS (fun i _ => l.getD i 0) (fun i _ => o.getD i none) (fun b i => if b then cs.getD i (0, 0) else (x, y)) n 1).lows c = l.getD c.1 0 := gS_lo hc.1 hc.2
      have := hlf c.1 hc.1
      omega
    · have e2 : oAt (gS (fun i _ => l.getD i 0) (fun i _ => o.getD i none) (fun b i => if b then cs.getD i (0, 0) else (x, y)) n 1).highs c = o.getD c.1 none := gS_hi hc.1 hc.2
      rw [e2] at hv
      have := (hlf c.1 hc.1).2.2 v hv
      omega
    · rw [gS_sp hi]
      cases b
      · show y ≤ 31
        omega
      · have := hcf i hi
        show (cs.getD i (0, 0)).2 ≤ 31
        omega
end
theorem is_pair {n : Nat} {a b : Int} {μ : Mu} {P : D → Mu → Prop} (q : P (.bl true) μ) : Wf (f_law_is (n + 2)) [.tup [.int a, .int b], .tup [.int a, .int b]] μ P := by
  rw [show n + 2 = 1 + 1 + n by omega]
  exact law_is_refl (.tup _ (by simp) fun x hx => by
    simp only [List.mem_cons, List.not_mem_nil, or_false] at hx
    rcases hx with rfl | rfl
    · exact .int _
    · exact .int _) q
theorem wp_minL {ns : List Int} {μ : Mu} {P : D → Mu → Prop} {m : Int} (h : minOf ns = some m) (q : P (.int m) μ) : Wp (bMin [.lst (ns.map D.int)] μ) P := by
  unfold bMin
  simp only [lstOf, intsOf_map, h]
  exact wp_some.mpr q
theorem wp_maxL {ns : List Int} {μ : Mu} {P : D → Mu → Prop} {m : Int} (h : maxOf ns = some m) (q : P (.int m) μ) : Wp (bMax [.lst (ns.map D.int)] μ) P := by
  unfold bMax
  simp only [lstOf, intsOf_map, h]
  exact wp_some.mpr q
/-- the sum of a whole table, by its one line -/
theorem one_tot {h w : Nat} {b : Bool} {t : List (List Int)} (h1 : many h w b = 1) (ht : IsT h w t) : (t.map List.sum).sum = lineAt w t b 0 := by
  have e : (t.map List.sum).sum = totT t h w := by
    rw [map_range (d := []) List.sum, su_list, ht.1]; rfl
  rw [e, ← tot_both ht b, h1]
  simp [SU]
section
variable {s S : Raw} {h w : Nat} {b : Bool} {acc : List St}
theorem fill_in (ok : s.Ok h w) (r : Run h w s acc (some S)) {t : List (List Int)} (ht : IsT h w t) (hp : ∀ i j, i < h → j < w → 0 ≤ cellV t (i, j)) (hf : fillB s h w t = true) : fillB S h w t = true := by
  obtain ⟨S2, e, le⟩ := run_clo r (pt_ok ok.h1 ok.w1 ht hp) (pt_clo ht) ok (pt_le hf)
  cases e
  exact le_pt le
theorem fill_out (ok : s.Ok h w) (r : Run h w s acc (some S)) {t : List (List Int)} (hf : fillB S h w t = true) : fillB s h w t = true := by
  obtain ⟨okS, clS, le⟩ := run_ok r ok S rfl
  obtain ⟨f1, f2⟩ := fill_iff.mp hf
  refine fill_iff.mpr ⟨fun c hc => ?_, fun b i hi => ?_⟩
  · have a := f1 c hc
    have b := le.lo c hc
    refine ⟨by omega, fun m hm => ?_⟩
    obtain ⟨m', hm', hl⟩ := le.hi c hc m hm
    have := a.2 m' hm'
    omega
  · have := f2 b i hi
    have := le.sp b i hi
    omega
theorem isT_pos (ok : s.Ok h w) {t : List (List Int)} (hf : fillB s h w t = true) : ∀ i j, i < h → j < w → 0 ≤ cellV t (i, j) := fun i j hi hj => by
  have := (fill_iff.mp hf).1 (i, j) ⟨hi, hj⟩
  have := cell_pos ok hi hj
  omega
theorem single_bounds (ok : s.Ok h w) (h1 : many h w b = 1) (r : Run h w s acc (some S)) {L : List (List (List Int))} {most : Nat} (e : fillsO s h w most = some L) {i j : Nat} (hi : i < h) (hj : j < w) : minOf (L.map fun t => cellV t (i, j)) = some (cellV S.lows (i, j)) ∧ maxOf (L.map fun t => cellV t (i, j)) = some ((oAt S.highs (i, j)).getD 0) := by
  obtain ⟨okS, clS, leS⟩ := run_ok r ok S rfl
  obtain ⟨k, hk, hc⟩ := single_cell (c := (i, j)) h1 ⟨hi, hj⟩
  have gl : ∀ v, v = loF S b 0 k ∨ v = hiF S b 0 k → v ∈ L.map fun t => cellV t (i, j) := fun v hv => by
    obtain ⟨t, ht, hf, hv⟩ := single_bound okS clS h1 hk hv
    refine List.mem_map.mpr ⟨t, fills_all ok e ht (fill_out ok r hf), ?_⟩
    rw [hc]; exact hv
  have gb : ∀ v ∈ L.map fun t => cellV t (i, j), loF S b 0 k ≤ v ∧ v ≤ hiF S b 0 k := fun v hv => by
    obtain ⟨t, hm, rfl⟩ := List.mem_map.mp hv
    obtain ⟨a1, a2, a3⟩ := fills_sound ok e t hm
    have f := (fill_iff.mp (fill_in ok r a1 (isT_pos ok a3) a3)).1 (i, j) ⟨hi, hj⟩
    unfold loF hiF
    rw [← hc]
    obtain ⟨m, hm⟩ := clS.hs (i, j) ⟨hi, hj⟩
    have := f.2 m hm
    rw [hm]
    exact ⟨f.1, this⟩
  have e1 : loF S b 0 k = cellV S.lows (i, j) := by unfold loF; rw [← hc]
  have e2 : hiF S b 0 k = (oAt S.highs (i, j)).getD 0 := by unfold hiF; rw [← hc]
  rw [← e1, ← e2]
  exact ⟨minOf_is (gl _ (.inl rfl)) fun n hn => (gb n hn).1, maxOf_is (gl _ (.inr rfl)) fun n hn => (gb n hn).2⟩
theorem single_sums (ok : s.Ok h w) (h1 : many h w b = 1) (r : Run h w s acc (some S)) {L : List (List (List Int))} {most : Nat} (e : fillsO s h w most = some L) : minOf (L.map fun t => (t.map List.sum).sum) = some (spanAt S b 0).1 ∧ maxOf (L.map fun t => (t.map List.sum).sum) = some (spanAt S b 0).2 := by
  obtain ⟨okS, clS, leS⟩ := run_ok r ok S rfl
  have h0 : 0 < many h w b := by omega
  have hsp := spanAt_ok' okS h0
  have gl : ∀ v, (spanAt S b 0).1 ≤ v → v ≤ (spanAt S b 0).2 → v ∈ L.map fun t => (t.map List.sum).sum := fun v v1 v2 => by
    obtain ⟨t, ht, hf, hv⟩ := single_total okS clS h1 v1 v2
    exact List.mem_map.mpr ⟨t, fills_all ok e ht (fill_out ok r hf), by rw [one_tot h1 ht]; exact hv⟩
  have gb : ∀ v ∈ L.map fun t => (t.map List.sum).sum, (spanAt S b 0).1 ≤ v ∧ v ≤ (spanAt S b 0).2 := fun v hv => by
    obtain ⟨t, hm, rfl⟩ := List.mem_map.mp hv
    obtain ⟨a1, a2, a3⟩ := fills_sound ok e t hm
    have f := (fill_iff.mp (fill_in ok r a1 (isT_pos ok a3) a3)).2 b 0 h0
    rw [one_tot h1 a1]
    exact f
  exact ⟨minOf_is (gl _ (by omega) (by omega)) fun n hn => (gb n hn).1, maxOf_is (gl _ (by omega) (by omega)) fun n hn => (gb n hn).2⟩
/-- there is a filling just if steps do not break -/
theorem single_none (ok : s.Ok h w) (h1 : many h w b = 1) {o : Option Raw} (r : Run h w s acc o) {L : List (List (List Int))} {most : Nat} (e : fillsO s h w most = some L) : (o = none ↔ L = []) := by
  constructor
  · rintro rfl
    cases L with
    | nil => rfl
    | cons t ts =>
      obtain ⟨a1, a2, a3⟩ := fills_sound ok e t (by simp)
      obtain ⟨S2, e2, _⟩ := run_clo r (pt_ok ok.h1 ok.w1 a1 (isT_pos ok a3)) (pt_clo a1) ok (pt_le a3)
      cases e2
  · rintro rfl
    cases o with
    | none => rfl
    | some S =>
      have := (single_sums ok h1 r e).1
      cases this
end
theorem law_w (ns : List Int) : Wf f_law [.scr (ns.map D.int)] [] fun d _ => d = .bl true := by
  unfold f_law
  rw [wf_def]
  simp
  refine pen_w fun p hp => ?_
  rw [rng0]
  refine for_each (fun ρ μ => ∃ p', p'.ok ∧ μ = [penO p'] ∧ ∃ c2 c3 c4 c5 c6 c7 c8 c9 c10 c11, ρ = [some (.scr (ns.map D.int)), some (.ref 0), c2, c3, c4, c5, c6, c7, c8, c9, c10, c11]) (fun _ => holds_nil) ?_ ?_ ⟨p, hp, rfl, _, _, _, _, _, _, _, _, _, _, rfl⟩
  · rintro lap _ ρ μ ⟨p1, hp1, rfl, c2, c3, c4, c5, c6, c7, c8, c9, c10, c11, rfl⟩
    refine ⟨_, _, rfl, ?_⟩
    refine ws_hideE fun E hE => ?_
    have hnx : ∀ p' : Pen, p'.ok → ∀ c2 c3 c4 c5 c6 c7 c8 c9 c10 c11, E.nx [some (.scr (ns.map D.int)), some (.ref 0), c2, c3, c4, c5, c6, c7, c8, c9, c10, c11] [penO p'] ∧ E.ct [some (.scr (ns.map D.int)), some (.ref 0), c2, c3, c4, c5, c6, c7, c8, c9, c10, c11] [penO p'] := fun p' hp' c2 c3 c4 c5 c6 c7 c8 c9 c10 c11 => by
      subst hE
      exact ⟨⟨p', hp', rfl, _, _, _, _, _, _, _, _, _, _, rfl⟩, ⟨p', hp', rfl, _, _, _, _, _, _, _, _, _, _, rfl⟩⟩
    clear hE
    refine ws_hide fun T hT => ?_
    simp
    refine draw_w hp1 (by omega) (by omega) fun d p2 hp2 d0 d1 => ?_
    rw [own_int, wp_eqI]
    generalize decide (d = 0) = tn
    subst hT
    refine ws_hide fun T hT => ?_
    simp
    refine draw_w hp2 (by omega) (by omega) fun e p3 hp3 e0 e1 => ?_
    rw [wp_add]
    obtain ⟨n, hn⟩ : ∃ n : Nat, 1 + e = n := ⟨(1 + e).toNat, by omega⟩
    rw [hn]
    refine single_w hp3 (by omega) (by omega) fun s h w p4 hp4 ok bc hm hlen => ?_
    have h1 := ok.h1
    have w1 := ok.w1
    have hh : h ≤ 4 ∧ w ≤ 4 ∧ (h = 1 ∨ w = 1) := by
      cases tn
      · have a : h = 1 := hm
        have b : w = n := hlen
        omega
      · have a : w = 1 := hm
        have b : h = n := hlen
        omega
    obtain ⟨acc, o, r, hl⟩ := run_small ok bc (by omega) (by omega) (by omega) (by omega)
    subst hT
    refine ws_hide fun T hT => ?_
    simp
    refine made_w ok (by omega) (by omega) ?_
    refine tight_sheet_w ok (by omega) (by omega) r hl ?_
    have hRs : ∀ i k, i < h → k ≤ w → (rowK s i k).length ≤ 32 ^ w := fun i k hi hk => by
      refine Nat.le_trans (rowK_len ok hi (H := 31) (by have := bc.span true i hi; omega) hk) ?_
      exact Nat.pow_le_pow_right (by omega) hk
    have hR2 : (32 : Nat) ^ w ≤ 16000000 := Nat.le_trans (Nat.pow_le_pow_right (by omega) (show w ≤ 4 by omega)) (by decide)
    refine law_fillings_g ok (by omega) (by omega) (most := 20000) (R := 32 ^ w) (by omega) hRs hR2 (fun h2 => ?_) (fun i hi => by have := bc.span true i hi; omega) (fun i j hi hj => by have := bc.low (i, j) ⟨hi, hj⟩; omega) ?_
    · have : w = 1 := by omega
      subst this
      decide
    have hS := fun L e => single_none (b := !tn) (L := L) (most := 20000) ok hm r e
    have hB := fun S L (eo : o = some S) e i j (hi : i < h) (hj : j < w) => single_bounds (b := !tn) (L := L) (most := 20000) ok hm (eo ▸ r : Run h w s acc (some S)) e hi hj
    have hT2 := fun S L (eo : o = some S) e => single_sums (b := !tn) (L := L) (most := 20000) ok hm (eo ▸ r : Run h w s acc (some S)) e
    have hSo := fun L e => fills_sound ok (most := 20000) (L := L) e
    generalize fillsO s h w 20000 = whole at hS hB hT2 hSo
    subst hT
    refine ws_hide fun T hT => ?_
    simp
    cases whole with
    | none => exact .inr ⟨rfl, (hnx p4 hp4 _ _ _ _ _ _ _ _ _ _).2⟩
    | some L =>
    refine .inl ⟨rfl, ?_⟩
    have hS := hS L rfl
    have hSo := hSo L rfl
    have hB := fun S eo => hB S L eo rfl
    have hT2 := fun S eo => hT2 S L eo rfl
    subst hT
    refine ws_hide fun T hT => ?_
    have pn : plainAll (L.map tabD) = true := plainAll_of fun x hx => by obtain ⟨t, _, rfl⟩ := List.mem_map.mp hx; exact tab_plain t
    have dn : depAll (L.map tabD) ≤ 49 := by
      have := depAll_of (n := 2) (xs := L.map tabD) fun x hx => (by obtain ⟨t, _, rfl⟩ := List.mem_map.mp hx; exact tab_dep t)
      omega
    simp [filM]
    rw [eq_nil pn dn]
    have eb : (match rawM o with | D.non => true | x => false) = (L.map tabD).isEmpty := by
      cases o with
      | none => rw [hS.mp rfl]; rfl
      | some S =>
        cases L with
        | nil => cases hS.mpr rfl
        | cons t ts => rfl
    rw [← eb]
    refine ne_refl rfl (Nat.zero_le _) (.inl ⟨rfl, ?_⟩)
    subst hT
    refine ws_hide fun T hT => ?_
    simp
    cases o with
    | none => exact .inr ⟨rfl, (hnx p4 hp4 _ _ _ _ _ _ _ _ _ _).2⟩
    | some S =>
    obtain ⟨okS, clS, leS⟩ := run_ok r ok S rfl
    have hB := hB S rfl
    have hT2 := hT2 S rfl
    refine .inl ⟨rfl, ?_⟩
    subst hT
    rw [ws_seq]
    generalize hT : sSeq (sAsg (vComp (iSeq (vVar 6)) (gName 10) tYes (vBlt bSum (aCons (vComp (iSeq (vVar 10)) (gName 7) tYes (vBlt bSum (aCons (vVar 7) aNil)) [7]) aNil)) [10]) (gName 11)) _ = T
    simp
    rw [raw_0, tab_len, ok.lows.1]
    simp
    refine ⟨by omega, ?_⟩
    rw [rng0]
    refine for_each (fun ρ μ => μ = [penO p4] ∧ ∃ c7 c8 c9 c10 c11, ρ = [some (.scr (ns.map D.int)), some (.ref 0), some (.int (lap : Nat)), some (.bl tn), some (rawD s), some (sheetO S), some (.lst (L.map tabD)), c7, c8, c9, c10, c11]) (fun _ => holds_nil) ?_ ?_ ⟨rfl, _, _, _, _, _, rfl⟩
    · rintro i hi ρ μ ⟨rfl, c7, c8, c9, c10, c11, rfl⟩
      have hi := List.mem_range.mp hi
      obtain ⟨r0, hr0, hl0⟩ := ok.first
      simp
      rw [raw_0]
      refine (tab_nth (i := 0) hr0).mpr ?_
      rw [row_len, hl0]
      simp
      refine ⟨by omega, ?_⟩
      rw [rng0]
      refine for_each (fun ρ μ => μ = [penO p4] ∧ ∃ c8 c9 c10, ρ = [some (.scr (ns.map D.int)), some (.ref 0), some (.int (lap : Nat)), some (.bl tn), some (rawD s), some (sheetO S), some (.lst (L.map tabD)), some (.int (i : Nat)), c8, c9, c10, c11]) (fun _ => holds_nil) ?_ ?_ ⟨rfl, _, _, _, rfl⟩
      · rintro j hj ρ μ ⟨rfl, c8, c9, c10, rfl⟩
        have hj := List.mem_range.mp hj
        simp
        refine ⟨_, rfl, ?_⟩
        refine comp_mapA (fun t => .int (cellV t (i, j))) holds_nil (fun t ht => ?_) ?_
        · obtain ⟨a1, a2, a3⟩ := hSo t ht
          obtain ⟨rr, z1, z2⟩ := cell_row a1 (c := (i, j)) ⟨hi, hj⟩
          simp [wipe]
          rw [tab_nth z1, row_nth z2]
          exact ⟨rfl, rfl⟩
        rw [List.nil_append]
        obtain ⟨b1, b2⟩ := hB i j hi hj
        obtain ⟨rl, y1, y2⟩ := cell_row okS.lows (c := (i, j)) ⟨hi, hj⟩
        obtain ⟨ro, x1, x2⟩ := high_o okS (c := (i, j)) ⟨hi, hj⟩
        obtain ⟨m, hm'⟩ := clS.hs (i, j) ⟨hi, hj⟩
        have em : (L.map fun t => D.int (cellV t (i, j))) = (L.map fun t => cellV t (i, j)).map D.int := by rw [List.map_map]; rfl
        rw [em]
        rw [hm'] at b2 x2
        rw [tab_nth y1, row_nth y2, tabO_nth x1, rowO_nth x2]
        refine wp_minL b1 (wp_maxL b2 ?_)
        exact is_pair (n := 8) (.inr ⟨rfl, rfl⟩)
      · rintro ρ μ ⟨rfl, c8, c9, c10, rfl⟩
        exact ⟨rfl, _, _, _, _, _, rfl⟩
    · rintro ρ μ ⟨rfl, c7, c8, c9, c10, c11, rfl⟩
      subst hT
      simp
      refine ⟨_, rfl, ?_⟩
      refine comp_mapA (fun t => .int (t.map List.sum).sum) holds_nil (fun t ht => ?_) ?_
      · simp [wipe]
        refine ⟨_, tab_seq t, ?_⟩
        refine comp_mapA (fun r => .int r.sum) holds_nil (fun r hr => by simp [wipe, row_sum]) ?_
        rw [List.nil_append, wp_sum rfl (intsOf_map' _ _)]
        exact ⟨rfl, rfl⟩
      rw [List.nil_append]
      have em : (L.map fun t => D.int (t.map List.sum).sum) = (L.map fun t => (t.map List.sum).sum).map D.int := by rw [List.map_map]; rfl
      rw [em]
      obtain ⟨b1, b2⟩ := hT2
      have fin : ∀ (P : D → Mu → Prop), P (.bl true) [penO p4] → Wf (f_law_is 10) [spanD (spanAt S (!tn) 0), .tup [.int (spanAt S (!tn) 0).1, .int (spanAt S (!tn) 0).2]] [penO p4] P := fun P q => is_pair (n := 8) q
      have sp0 : (spanS S (!tn))[0]? = some (spanAt S (!tn) 0) := getD_some (by rw [okS.spans]; omega)
      cases tn with
      | false =>
        refine .inl ⟨rfl, ?_⟩
        refine (spans_nth (i := 0) sp0).mpr ?_
        refine wp_minL b1 (wp_maxL b2 ?_)
        exact fin _ (.inr ⟨rfl, (hnx p4 hp4 _ _ _ _ _ _ _ _ _ _).1⟩)
      | true =>
        refine .inr ⟨rfl, ?_⟩
        refine (spans_nth (i := 0) sp0).mpr ?_
        refine wp_minL b1 (wp_maxL b2 ?_)
        exact fin _ (.inr ⟨rfl, (hnx p4 hp4 _ _ _ _ _ _ _ _ _ _).1⟩)
  · rintro ρ μ ⟨p1, hp1, rfl, c2, c3, c4, c5, c6, c7, c8, c9, c10, c11, rfl⟩
    simp
    refine sheet_wt hp1 (by omega) (by omega) (by omega) (by omega) fun s h w p2 hp2 ok bd h3 w3 => ?_
    have bc := Bc.of ok bd
    have hh : h ≤ 2 := by omega
    have hw : w ≤ 2 := by omega
    obtain ⟨acc, o, r, hl⟩ := run_small ok bc (by omega) (by omega) (by omega) (by omega)
    refine made_w ok (by omega) (by omega) ?_
    refine tight_sheet_w ok (by omega) (by omega) r hl ?_
    have hRs : ∀ i k, i < h → k ≤ w → (rowK s i k).length ≤ 289 := fun i k hi hk => by
      refine Nat.le_trans (rowK_len ok hi (H := 16) (by have := bc.span true i hi; omega) hk) ?_
      exact Nat.le_trans (Nat.pow_le_pow_right (by omega) (show k ≤ 2 by omega)) (by decide)
    refine law_fillings_w ok (by omega) (by omega) (most := 5000) (R := 289) (by omega) hRs (by omega) (fun i hi => by have := bc.span true i hi; omega) (fun i j hi hj => by have := bc.low (i, j) ⟨hi, hj⟩; omega) ?_
    have hSo := fun L e => fills_sound ok (most := 5000) (L := L) e
    generalize fillsO s h w 5000 = whole at hSo
    have hEnd : Wcl [] (.bl true) [penO p2] fun d _ => d = .bl true := wcl_und (fun i o h => absurd h (Nat.not_lt_zero _)) (Nat.zero_le _) rfl rfl
    have key : ∀ (L : List (List (List Int))), (∀ t ∈ L, IsT h w t ∧ (∀ r ∈ t, ∀ n ∈ r, 0 ≤ n) ∧ fillB s h w t = true) → ∀ (E : Ed) (ρ0 : Option D → Ro), (∀ c, E.nx (ρ0 c) [penO p2]) → (∀ c x, (ρ0 c).set 10 (some x) = ρ0 (some x)) → (∀ c, (ρ0 c)[5]? = some (some (rawM o))) → (∀ x, (ρ0 (some x))[10]? = some (some x)) → ∀ c, Ws (forL ⟨[], L.map tabD⟩ (VL.gName 10) (sIf (VL.tOr (tVal (vOp opIs (vVar 5) (vC .non))) (tVal (vOp opIsNot (vCall f_law_wrong (aCons (vCall f_law_plain (aCons (vVar 5) aNil)) (aCons (vVar 10) aNil))) (vC .non)))) (sRet (vC (.bl false))) sPass) (L.map tabD)) (ρ0 c) [penO p2] E := fun L hL E ρ0 hE hs h5 h10 c => by
      refine for_each (fun ρ μ => μ = [penO p2] ∧ ∃ c, ρ = ρ0 c) (fun _ => holds_nil) ?_ ?_ ⟨rfl, c, rfl⟩
      · rintro t ht ρ μ ⟨rfl, c, rfl⟩
        obtain ⟨a1, a2, a3⟩ := hL t ht
        rw [wg_name, hs]
        obtain ⟨S, rfl, _⟩ := run_clo r (pt_ok ok.h1 ok.w1 a1 (isT_pos ok a3)) (pt_clo a1) ok (pt_le a3)
        obtain ⟨okS, clS, leS⟩ := run_ok r ok S rfl
        have h5' := h5 (some (tabD t))
        have h10' := h10 (tabD t)
        have hE' := fun c => hE c
        generalize hρ : ρ0 (some (tabD t)) = ρ1 at h5' h10' ⊢
        simp
        refine ⟨_, h5', ?_⟩
        refine .inl ⟨rfl, _, h5', ?_⟩
        refine law_plain_w (o := some S) ?_
        refine ⟨_, h10', ?_⟩
        refine law_wrong_w okS (by omega) (by omega) a1 (fun _ => ?_) fun hn => ?_
        · exact .inl ⟨rfl, rfl, _, hρ.symm⟩
        · rw [fill_in ok r a1 (isT_pos ok a3) a3] at hn; cases hn
      · rintro ρ μ ⟨rfl, c, rfl⟩
        exact hE c
    cases whole with
    | none =>
      refine .inl ⟨rfl, ?_⟩
      refine ⟨_, rfl, ?_⟩
      exact key [] (fun t ht => by cases ht) _ (fun c => [some (.scr (ns.map D.int)), some (.ref 0), c2, c3, some (rawD s), some (rawM o), some .non, c7, c8, c9, c, c11]) (fun c => hEnd) (fun _ _ => rfl) (fun _ => rfl) (fun _ => rfl) _
    | some L =>
      refine .inr ⟨rfl, ?_⟩
      refine ⟨_, rfl, ?_⟩
      exact key L (hSo L rfl) _ (fun c => [some (.scr (ns.map D.int)), some (.ref 0), c2, c3, some (rawD s), some (rawM o), some (filM (some L)), c7, c8, c9, c, c11]) (fun c => hEnd) (fun _ _ => rfl) (fun _ => rfl) (fun _ => rfl) _
theorem law_math : LawHolds f_law := fun ns _ => by
  obtain ⟨d, μ, e, rfl⟩ := law_w ns
  exact ⟨μ, e⟩
end VL
end
set_option maxRecDepth 100000
set_option maxHeartbeats 0
open PySem PySem.W PyProof.Rows VL
theorem PySem.Challenge.cw_sumtables_k11_whole_tight_single_lines_holds : PySem.Challenge.rw_sumtables_k11_whole_tight_single_lines.Holds := by
  w_on; o_law; k_head; (case hw => w_witness2)
  k_fill
  refine L2.walk_of (l := PySem.Challenge.rw_sumtables_k11_whole_tight_single_lines) (n := 63) (k := 12) (x := "script") (CX := fun w => L2.CX PySem.Challenge.rw_sumtables_k11_whole_tight_single_lines.prog w) (sp := fun w => VL.spLaw _) rfl (by decide) rfl ⟨rfl, by decide, by decide⟩ (fun w h Y => PySem.W.kIn_of Y) ?F (fun _ H a ns hl hO hS => ⟨a, ns, rfl, hS, hO, hl, rfl⟩) (fun _ _ _ _ _ h => by obtain ⟨_, _, _, _, _, _, _, _, _, _, _, _, z⟩ := h; exact z)
  case F =>
    intro w mg fa h KX G hmg
    have F_f_law_pen : FunXo KX mg "_law_pen" (topS 40) := by
      refine' funX KX G ?a ?l ?c ?k
      (case a => k_is); (case l => k_is); (case c => k_is); (case k => k_is)
    have F_f_law_draw : FunXo KX mg "_law_draw" (topS 41) := by
      refine' funX KX G ?a ?l ?c ?k
      (case a => k_is); (case l => k_is); (case c => k_is); (case k => k_is)
    have F_f_law_about : FunXo KX mg "_law_about" (topS 47) := by
      refine' funX KX G ?a ?l ?c ?k
      (case a => k_is); (case l => k_is); (case c => k_is); (case k => k_is)
    have F_f_law_turned : FunXo KX mg "_law_turned" (topS 44) := by
      refine' funX KX G ?a ?l ?c ?k
      (case a => k_is); (case l => k_is); (case c => k_is); (case k => k_is)
    have F_f_law_single : FunXo KX mg "_law_single" (topS 55) := by
      refine' funX KX G ?a ?l ?c ?k
      (case a => k_is); (case l => k_is); (case c => k_is); (case k => k_is)
    have F_f_law_row_tables : FunXo KX mg "_law_row_tables" (topS 53) := by
      refine' funX KX G ?a ?l ?c ?k
      (case a => k_is); (case l => k_is); (case c => k_is); (case k => k_is)
    have F_f_law_in : FunXo KX mg "_law_in" (topS 51) := by
      refine' funX KX G ?a ?l ?c ?k
      (case a => k_is); (case l => k_is); (case c => k_is); (case k => k_is)
    have F_f_law_wrong : FunXo KX mg "_law_wrong" (topS 52) := by
      refine' funX KX G ?a ?l ?c ?k
      (case a => k_is); (case l => k_is); (case c => k_is); (case k => k_is)
    have F_f_law_fillings : FunXo KX mg "_law_fillings" (topS 54) := by
      refine' funX KX G ?a ?l ?c ?k
      (case a => k_is); (case l => k_is); (case c => k_is); (case k => k_is)
    have F_f_shape_of : FunXo KX mg "shape_of" (topS 17) := by
      refine' funX KX G ?a ?l ?c ?k
      (case a => k_is); (case l => k_is); (case c => k_is); (case k => k_is)
    have F_f_lines_many : FunXo KX mg "lines_many" (topS 18) := by
      refine' funX KX G ?a ?l ?c ?k
      (case a => k_is); (case l => k_is); (case c => k_is); (case k => k_is)
    have F_f_line_cells : FunXo KX mg "line_cells" (topS 19) := by
      refine' funX KX G ?a ?l ?c ?k
      (case a => k_is); (case l => k_is); (case c => k_is); (case k => k_is)
    have F_f_all_steps : FunXo KX mg "all_steps" (topS 27) := by
      refine' funX KX G ?a ?l ?c ?k
      (case a => k_is); (case l => k_is); (case c => k_is); (case k => k_is)
    have F_f_span_by : FunXo KX mg "span_by" (topS 20) := by
      refine' funX KX G ?a ?l ?c ?k
      (case a => k_is); (case l => k_is); (case c => k_is); (case k => k_is)
    have F_f_bounds_by : FunXo KX mg "bounds_by" (topS 31) := by
      refine' funX KX G ?a ?l ?c ?k
      (case a => k_is); (case l => k_is); (case c => k_is); (case k => k_is)
    have F_f_sum_or_none : FunXo KX mg "sum_or_none" (topS 28) := by
      refine' funX KX G ?a ?l ?c ?k
      (case a => k_is); (case l => k_is); (case c => k_is); (case k => k_is)
    have F_f_others_by : FunXo KX mg "others_by" (topS 29) := by
      refine' funX KX G ?a ?l ?c ?k
      (case a => k_is); (case l => k_is); (case c => k_is); (case k => k_is)
    have F_f_number_by : FunXo KX mg "number_by" (topS 30) := by
      refine' funX KX G ?a ?l ?c ?k
      (case a => k_is); (case l => k_is); (case c => k_is); (case k => k_is)
    have F_f_takes_by : FunXo KX mg "takes_by" (topS 32) := by
      refine' funX KX G ?a ?l ?c ?k
      (case a => k_is); (case l => k_is); (case c => k_is); (case k => k_is)
    have F_f_taking : FunXo KX mg "taking" (topS 36) := by
      refine' funX KX G ?a ?l ?c ?k
      (case a => k_is); (case l => k_is); (case c => k_is); (case k => k_is)
    have F_f_bounds_behind : FunXo KX mg "bounds_behind" (topS 33) := by
      refine' funX KX G ?a ?l ?c ?k
      (case a => k_is); (case l => k_is); (case c => k_is); (case k => k_is)
    have F_f_breaks_by : FunXo KX mg "breaks_by" (topS 34) := by
      refine' funX KX G ?a ?l ?c ?k
      (case a => k_is); (case l => k_is); (case c => k_is); (case k => k_is)
    have F_f_is_whole : FunXo KX mg "is_whole" (topS 4) := by
      refine' funX KX G ?a ?l ?c ?k
      (case a => k_is); (case l => k_is); (case c => k_is); (case k => k_is)
    have F_f_is_number : FunXo KX mg "is_number" (topS 5) := by
      refine' funX KX G ?a ?l ?c ?k
      (case a => k_is); (case l => k_is); (case c => k_is); (case k => k_is)
    have F_f_are_numbers : FunXo KX mg "are_numbers" (topS 10) := by
      refine' funX KX G ?a ?l ?c ?k
      (case a => k_is); (case l => k_is); (case c => k_is); (case k => k_is)
    have F_f_need_lows : FunXo KX mg "need_lows" (topS 11) := by
      refine' funX KX G ?a ?l ?c ?k
      (case a => k_is); (case l => k_is); (case c => k_is); (case k => k_is)
    have F_f_is_high : FunXo KX mg "is_high" (topS 12) := by
      refine' funX KX G ?a ?l ?c ?k
      (case a => k_is); (case l => k_is); (case c => k_is); (case k => k_is)
    have F_f_are_highs : FunXo KX mg "are_highs" (topS 13) := by
      refine' funX KX G ?a ?l ?c ?k
      (case a => k_is); (case l => k_is); (case c => k_is); (case k => k_is)
    have F_f_need_highs : FunXo KX mg "need_highs" (topS 14) := by
      refine' funX KX G ?a ?l ?c ?k
      (case a => k_is); (case l => k_is); (case c => k_is); (case k => k_is)
    have F_f_is_span : FunXo KX mg "is_span" (topS 15) := by
      refine' funX KX G ?a ?l ?c ?k
      (case a => k_is); (case l => k_is); (case c => k_is); (case k => k_is)
    have F_f_need_spans : FunXo KX mg "need_spans" (topS 16) := by
      refine' funX KX G ?a ?l ?c ?k
      (case a => k_is); (case l => k_is); (case c => k_is); (case k => k_is)
    have F_m_Sheet_init : MethXo KX mg "Sheet" "__init__" "Sheet.__init__" (inS 8 0) := by
      refine' methX KX G ?a ?i ?t ?l ?c ?k
      (case a => k_is); (case i => k_is); (case t => k_is); (case l => k_is); (case c => k_is); (case k => k_is)
    have F_f_with_item : FunXo KX mg "with_item" (topS 21) := by
      refine' funX KX G ?a ?l ?c ?k
      (case a => k_is); (case l => k_is); (case c => k_is); (case k => k_is)
    have F_f_with_span : FunXo KX mg "with_span" (topS 22) := by
      refine' funX KX G ?a ?l ?c ?k
      (case a => k_is); (case l => k_is); (case c => k_is); (case k => k_is)
    have F_f_behind_by : FunXo KX mg "behind_by" (topS 35) := by
      refine' funX KX G ?a ?l ?c ?k
      (case a => k_is); (case l => k_is); (case c => k_is); (case k => k_is)
    have F_f_tightened : FunXo KX mg "tightened" (topS 37) := by
      refine' funX KX G ?a ?l ?c ?k
      (case a => k_is); (case l => k_is); (case c => k_is); (case k => k_is)
    have F_f_tight_sheet : FunXo KX mg "tight_sheet" (topS 38) := by
      refine' funX KX G ?a ?l ?c ?k
      (case a => k_is); (case l => k_is); (case c => k_is); (case k => k_is)
    have F_f_law_made : FunXo KX mg "_law_made" (topS 49) := by
      refine' funX KX G ?a ?l ?c ?k
      (case a => k_is); (case l => k_is); (case c => k_is); (case k => k_is)
    have F_f_law_is : FunXo KX mg "_law_is" (topS 43) := by
      refine' funX KX G ?a ?l ?c ?k
      (case a => k_is); (case l => k_is); (case c => k_is); (case k => k_is)
    have F_f_law_drawn_shape : FunXo KX mg "_law_drawn_shape" (topS 45) := by
      refine' funX KX G ?a ?l ?c ?k
      (case a => k_is); (case l => k_is); (case c => k_is); (case k => k_is)
    have F_f_law_pick : FunXo KX mg "_law_pick" (topS 42) := by
      refine' funX KX G ?a ?l ?c ?k
      (case a => k_is); (case l => k_is); (case c => k_is); (case k => k_is)
    have F_f_law_drawn_table : FunXo KX mg "_law_drawn_table" (topS 46) := by
      refine' funX KX G ?a ?l ?c ?k
      (case a => k_is); (case l => k_is); (case c => k_is); (case k => k_is)
    have F_f_law_drawn_sheet : FunXo KX mg "_law_drawn_sheet" (topS 48) := by
      refine' funX KX G ?a ?l ?c ?k
      (case a => k_is); (case l => k_is); (case c => k_is); (case k => k_is)
    have F_f_law_plain : FunXo KX mg "_law_plain" (topS 50) := by
      refine' funX KX G ?a ?l ?c ?k
      (case a => k_is); (case l => k_is); (case c => k_is); (case k => k_is)
    have F_f_law : FunXo KX mg "law" (topS 56) := by
      refine' funX KX G ?a ?l ?c ?k
      (case a => k_is); (case l => k_is); (case c => k_is); (case k => k_is)
    have z_all : mg "all" = none := PySem.W.mg_none_of KX G (by k_is)
    have z_any : mg "any" = none := PySem.W.mg_none_of KX G (by k_is)
    have z_bool : mg "bool" = none := PySem.W.mg_none_of KX G (by k_is)
    have z_enumerate : mg "enumerate" = none := PySem.W.mg_none_of KX G (by k_is)
    have z_int : mg "int" = none := PySem.W.mg_none_of KX G (by k_is)
    have z_isinstance : mg "isinstance" = none := PySem.W.mg_none_of KX G (by k_is)
    have z_len : mg "len" = none := PySem.W.mg_none_of KX G (by k_is)
    have z_list : mg "list" = none := PySem.W.mg_none_of KX G (by k_is)
    have z_max : mg "max" = none := PySem.W.mg_none_of KX G (by k_is)
    have z_min : mg "min" = none := PySem.W.mg_none_of KX G (by k_is)
    have z_range : mg "range" = none := PySem.W.mg_none_of KX G (by k_is)
    have z_str : mg "str" = none := PySem.W.mg_none_of KX G (by k_is)
    have z_sum : mg "sum" = none := PySem.W.mg_none_of KX G (by k_is)
    have z_tuple : mg "tuple" = none := PySem.W.mg_none_of KX G (by k_is)
    have z_zip : mg "zip" = none := PySem.W.mg_none_of KX G (by k_is)
    have C_Sheet : ClsXo KX mg "Sheet" := by
      refine' clsX KX G ?a ?mk ?kp ?pg ?hd ?po ?sa ?ha ?hn ?htk ?hm
      (case a => k_is); (case mk => k_is); (case kp => k_is); (case pg => k_is); (case hd => k_is); (case po => k_is); (case sa => k_is); (case ha => k_is); (case hn => k_is); (case htk => k_is); (case hm => k_is)
    have K_Sheet : KnXo KX mg "Sheet" := by
      refine' knX KX G ?a ?ic ?ty ?s1 ?s2 ?s3 ?s4 ?s5 ?s6 ?s7 ?t1 ?t2 ?t3 ?t4 ?t5 ?t6 ?t7
      (case a => k_is); (case ic => k_is); (case ty => k_is); (case s1 => k_is); (case s2 => k_is); (case s3 => k_is); (case s4 => k_is); (case s5 => k_is); (case s6 => k_is); (case s7 => k_is); (case t1 => k_is); (case t2 => k_is); (case t3 => k_is); (case t4 => k_is); (case t5 => k_is); (case t6 => k_is); (case t7 => k_is)
    have N_Sheet_columns : NoXo KX mg "Sheet" "columns" := by
      refine' noX KX G ?a ?n
      (case a => k_is); (case n => k_is)
    have N_Sheet_highs : NoXo KX mg "Sheet" "highs" := by
      refine' noX KX G ?a ?n
      (case a => k_is); (case n => k_is)
    have N_Sheet_lows : NoXo KX mg "Sheet" "lows" := by
      refine' noX KX G ?a ?n
      (case a => k_is); (case n => k_is)
    have N_Sheet_rows : NoXo KX mg "Sheet" "rows" := by
      refine' noX KX G ?a ?n
      (case a => k_is); (case n => k_is)
    have V_ENDS : ValXo KX mg "ENDS" (.tup [.str "high", .str "low"]) := by
      refine' valX_tup KX G ?a ?l ?d ?z
      (case a => k_is); (case l => k_is); (case d => rfl); (case z => decide)
    have V_MOST_LINES : ValXo KX mg "MOST_LINES" (.int 6) := by
      refine' valX_int KX G ?a
      (case a => k_is)
    have V_SUM : ValXo KX mg "SUM" (.int (-1)) := by
      refine' valX_int KX G ?a
      (case a => k_is)
    have V_WORDS : ValXo KX mg "WORDS" (.tup [.str "column", .str "row"]) := by
      refine' valX_tup KX G ?a ?l ?d ?z
      (case a => k_is); (case l => k_is); (case d => rfl); (case z => decide)
    exact VL.law_end VL.law_math hmg F_f_law fun base => ⟨F_f_law_pen, F_f_law_draw, F_f_law_about, F_f_law_turned, F_f_law_single, F_f_law_row_tables, F_f_law_in, F_f_law_wrong, F_f_law_fillings, F_f_shape_of, F_f_lines_many, F_f_line_cells, F_f_all_steps, F_f_span_by, F_f_bounds_by, F_f_sum_or_none, F_f_others_by, F_f_number_by, F_f_takes_by, F_f_taking, F_f_bounds_behind, F_f_breaks_by, F_f_is_whole, F_f_is_number, F_f_are_numbers, F_f_need_lows, F_f_is_high, F_f_are_highs, F_f_need_highs, F_f_is_span, F_f_need_spans, F_m_Sheet_init, F_f_with_item, F_f_with_span, F_f_behind_by, F_f_tightened, F_f_tight_sheet, F_f_law_made, F_f_law_is, F_f_law_drawn_shape, F_f_law_pick, F_f_law_drawn_table, F_f_law_drawn_sheet, F_f_law_plain, F_f_law, z_all, z_any, z_bool, z_enumerate, z_int, z_isinstance, z_len, z_list, z_max, z_min, z_range, z_str, z_sum, z_tuple, z_zip, C_Sheet, K_Sheet, N_Sheet_columns, N_Sheet_highs, N_Sheet_lows, N_Sheet_rows, V_ENDS, V_MOST_LINES, V_SUM, V_WORDS⟩
