import PyProof.Rows.All
import Wide.All
import OpenK.AllK
import Wide.FinOn
import HandS.ForMost
import HandS.ForExc
import HandS.CallSlots
import HandS.TryMany
import HandS.Wide
import HandS.ExcInit
import HandS.ExcOwn
import HandS.ExcField
import HandS.ExcValue
import KE.KExcIs
import HandS.Deep
import HandS.TupLen
import HandS.Defaults
import HandS.Rev
import HandS.More
import HandS.Small
import KE.DataMinMax
import KE.SortData
import HandS.IsInst
import HandS.Text
import HandS.WordsDict
import KE.IntTextLaws
import HandS.ExcIs
import HandS.Head0
import HandS.Head1
import HandS.Head2
import HandS.HeadEnd
import HandS.Ends
import HandS.EndBits
import HandS.HeadHook1
import HandS.HeadHook2
import HandS.HeadHook3
import HandS.HeadHook4
import PySem.Challenge.RW_knotwise_k06_refusals_made
import KE.KStateDown
set_option Elab.async false
set_option linter.all false
set_option maxRecDepth 100000
set_option maxHeartbeats 0
/-! VCore: plain data, owned data, environments, results: a value semantics of the subset of Python that the program uses. No model of Python in sight. -/
namespace Vc

/-- a text: its code points -/
abbrev Tx := List Nat
def S (s : String) : Tx := s.toList.map Char.toNat
/-- the longest list, tuple, dict, text -/
def sz : Nat := 16777216
/-- a key: an int or a text -/
abbrev Ky := Sum Int Tx

inductive D where
  | non | bl (b : Bool) | int (i : Int) | str (s : Tx) | tup (l : List D) | lst (l : List D) | scr (l : List Int) | ktp (l : List D)
  | dk (l : List (Ky × D)) | dt (l : List (List Ky × D)) | obj (c : Nat) (l : List D) | fn (f : Nat) (l : List D) | xo (c : Nat) (l : List D)
  deriving Inhabited

/-- data with its ownership: frozen, or owned at the top (plain items within), or owned deeper -/
inductive O where
  | frz (d : D) | lst (l : List D) | dk (l : List (Ky × D)) | dt (l : List (List Ky × D)) | nl (l : List O) | nt (l : List O) | ndk (l : List (Ky × O)) | ob (c : Nat) (l : List O)
  deriving Inhabited
mutual
def O.toD : O → D
  | .frz d => d
  | .lst l => .lst l
  | .dk l => .dk l
  | .dt l => .dt l
  | .nl l => .lst (O.toDs l)
  | .nt l => .tup (O.toDs l)
  | .ndk l => .dk (O.toDk l)
  | .ob c l => .obj c (O.toDs l)
def O.toDs : List O → List D
  | [] => []
  | o :: r => O.toD o :: O.toDs r
def O.toDk : List (Ky × O) → List (Ky × D)
  | [] => []
  | o :: r => (o.1, O.toD o.2) :: O.toDk r
end

/-- an exception: its class, its own fields -/
structure Xc where
  c : Nat
  fs : List D

/-- slots, and names that stand for a child of a list in a slot: (name's slot, the list's slot, the place) -/
structure Env where
  s : List (Option O)
  al : List (Nat × Nat × Nat)

def Env.get (ρ : Env) (i : Nat) : Option O :=
  match ρ.s[i]? with
  | some (some o) => some o
  | _ => match ρ.al.lookup i with
    | some (j, k) => match ρ.s[j]? with
      | some (some (.nl l)) => l[k]?
      | _ => none
    | none => none
def Env.kill (al : List (Nat × Nat × Nat)) (i : Nat) : List (Nat × Nat × Nat) := al.filter fun p => p.1 != i && p.2.1 != i
def Env.put (ρ : Env) (i : Nat) (o : Option O) : Env := ⟨ρ.s.set i o, Env.kill ρ.al i⟩
def Env.wipe (ρ : Env) : List Nat → Env
  | [] => ρ
  | i :: r => (Env.wipe ρ r).put i none

inductive R (α : Type) where
  | ok (a : α) | ex (x : Xc) | bad
def R.bind {α β : Type} : R α → (α → R β) → R β
  | .ok a, f => f a
  | .ex x, _ => .ex x
  | .bad, _ => .bad
@[simp] theorem R.bind_ok {α β : Type} (a : α) (f : α → R β) : (R.ok a).bind f = f a := rfl
@[simp] theorem R.bind_ex {α β : Type} (x : Xc) (f : α → R β) : (R.ex x : R α).bind f = .ex x := rfl
@[simp] theorem R.bind_bad {α β : Type} (f : α → R β) : (R.bad : R α).bind f = .bad := rfl
def R.ofO {α : Type} : Option α → R α
  | some a => .ok a
  | none => .bad

/-- an expression, a test, a list of expressions -/
abbrev E := Env → R O
abbrev T := Env → R Bool
abbrev Es := Env → R (List O)

inductive SR where
  | nx (ρ : Env) | ret (o : O) (ρ : Env) | brk (ρ : Env) | ct (ρ : Env) | ex (x : Xc) (ρ : Env) | bad
abbrev Sm := Env → SR
/-- what a walked thing yields -/
abbrev It := Env → R (List D)
abbrev Tg := D → Env → Option Env

/-! ### expressions -/
def eVar (i : Nat) : E := fun ρ => R.ofO (ρ.get i)
/-- a name whose value is frozen -/
def eVarF (i : Nat) : E := fun ρ => match ρ.get i with
  | some (.frz d) => .ok (.frz d)
  | _ => .bad
def eC (d : D) : E := fun _ => .ok (.frz d)
def eUn (g : O → Option O) (a : E) : E := fun ρ => (a ρ).bind fun x => R.ofO (g x)
def eBin (g : O → O → Option O) (a b : E) : E := fun ρ => (a ρ).bind fun x => (b ρ).bind fun y => R.ofO (g x y)
def eIf (t : T) (a b : E) : E := fun ρ => (t ρ).bind fun c => if c then a ρ else b ρ
def esNil : Es := fun _ => .ok []
def esCons (a : E) (r : Es) : Es := fun ρ => (a ρ).bind fun x => (r ρ).bind fun xs => .ok (x :: xs)

/-! ### tests -/
def truO : O → Option Bool
  | .frz (.bl b) => some b
  | .frz (.int i) => some (i != 0)
  | .frz (.str s) => some (!s.isEmpty)
  | .frz (.lst l) => some (!l.isEmpty)
  | .frz (.scr l) => some (!l.isEmpty)
  | .frz (.tup l) => some (!l.isEmpty)
  | .frz (.dk l) => some (!l.isEmpty)
  | .frz .non => some false
  | .lst l => some (!l.isEmpty)
  | .nl l => some (!l.isEmpty)
  | .dk l => some (!l.isEmpty)
  | _ => none
def tOf (a : E) : T := fun ρ => (a ρ).bind fun x => R.ofO (truO x)
/-- a test by a value that is a truth -/
def tBl (a : E) : T := fun ρ => (a ρ).bind fun x => match x with
  | .frz (.bl b) => .ok b
  | _ => .bad
def eAnd (a b : E) : E := fun ρ => (a ρ).bind fun x => match x with
  | .frz (.bl true) => b ρ
  | .frz (.bl false) => .ok (.frz (.bl false))
  | _ => .bad
def eOr (a b : E) : E := fun ρ => (a ρ).bind fun x => match x with
  | .frz (.bl false) => b ρ
  | .frz (.bl true) => .ok (.frz (.bl true))
  | _ => .bad
def eNot (a : E) : E := fun ρ => (a ρ).bind fun x => match x with
  | .frz (.bl b) => .ok (.frz (.bl (!b)))
  | _ => .bad
def tNot (t : T) : T := fun ρ => (t ρ).bind fun c => .ok (!c)
def tAnd (a b : T) : T := fun ρ => (a ρ).bind fun c => if c then b ρ else .ok false
def tOr (a b : T) : T := fun ρ => (a ρ).bind fun c => if c then .ok true else b ρ
/-- a test as a value -/
def eB (t : T) : E := fun ρ => (t ρ).bind fun c => .ok (.frz (.bl c))

/-! ### statements -/
def sNil : Sm := fun ρ => .nx ρ
def sSeq (a b : Sm) : Sm := fun ρ => match a ρ with
  | .nx ρ' => b ρ'
  | .ret o ρ' => .ret o ρ'
  | .brk ρ' => .brk ρ'
  | .ct ρ' => .ct ρ'
  | .ex x ρ' => .ex x ρ'
  | .bad => .bad
def R.st {α : Type} (r : R α) (ρ : Env) (f : α → SR) : SR := match r with
  | .ok a => f a
  | .ex x => .ex x ρ
  | .bad => .bad
@[simp] theorem R.st_ok {α : Type} (a : α) (ρ : Env) (f : α → SR) : (R.ok a).st ρ f = f a := rfl
@[simp] theorem R.st_ex {α : Type} (x : Xc) (ρ : Env) (f : α → SR) : (R.ex x : R α).st ρ f = .ex x ρ := rfl
@[simp] theorem R.st_bad {α : Type} (ρ : Env) (f : α → SR) : (R.bad : R α).st ρ f = .bad := rfl
def sIf (t : T) (a b : Sm) : Sm := fun ρ => (t ρ).st ρ fun c => if c then a ρ else b ρ
def sSet (i : Nat) (a : E) : Sm := fun ρ => (a ρ).st ρ fun o => .nx (ρ.put i (some o))
def sExpr (a : E) : Sm := fun ρ => (a ρ).st ρ fun _ => .nx ρ
def sRet (a : E) : Sm := fun ρ => (a ρ).st ρ fun o => .ret o ρ
/-- return of a name's own value: it moves -/
def sRetV (i : Nat) : Sm := fun ρ => match ρ.s[i]? with
  | some (some o) => .ret o (ρ.put i none)
  | _ => .bad
def sRetN : Sm := fun ρ => .ret (.frz .non) ρ
def sBrk : Sm := fun ρ => .brk ρ
def sCt : Sm := fun ρ => .ct ρ
/-- ghost: what a name holds is owned no more -/
def sFrz (i : Nat) : Sm := fun ρ => match ρ.s[i]? with
  | some (some o) => .nx (ρ.put i (some (.frz o.toD)))
  | _ => .bad
/-- x = y, the value moves -/
def sMove (i j : Nat) : Sm := fun ρ => match ρ.s[j]? with
  | some (some o) => .nx ((ρ.put j none).put i (some o))
  | _ => .bad
def gVar (i : Nat) : Tg := fun d ρ => some (ρ.put i (some (.frz d)))
def gVars : List Nat → List D → Env → Option Env
  | [], [], ρ => some ρ
  | i :: r, d :: ds, ρ => gVars r ds (ρ.put i (some (.frz d)))
  | _, _, _ => none
def gTup (is : List Nat) : Tg := fun d ρ => match d with
  | .tup l => gVars is l ρ
  | _ => none
def sSetT (g : Tg) (a : E) : Sm := fun ρ => (a ρ).st ρ fun o => match o with
  | .frz d => match g d ρ with
    | some ρ' => .nx ρ'
    | none => .bad
  | _ => .bad
def loop (g : Tg) (b : Sm) : List D → Env → SR
  | [], ρ => .nx ρ
  | d :: ds, ρ => match g d ρ with
    | none => .bad
    | some ρ1 => match b ρ1 with
      | .nx ρ2 => loop g b ds ρ2
      | .ct ρ2 => loop g b ds ρ2
      | .brk ρ2 => .nx ρ2
      | .ret o ρ2 => .ret o ρ2
      | .ex x ρ2 => .ex x ρ2
      | .bad => .bad
def sFor (it : It) (g : Tg) (b : Sm) : Sm := fun ρ => (it ρ).st ρ fun ds => loop g b ds ρ
def wloop (t : T) (b : Sm) : Nat → Sm
  | 0 => fun _ => .bad
  | n + 1 => fun ρ => (t ρ).st ρ fun c => if c then
      match b ρ with
      | .nx ρ2 => wloop t b n ρ2
      | .ct ρ2 => wloop t b n ρ2
      | .brk ρ2 => .nx ρ2
      | .ret o ρ2 => .ret o ρ2
      | .ex x ρ2 => .ex x ρ2
      | .bad => .bad
    else .nx ρ
def sWhile (n : Nat) (t : T) (b : Sm) : Sm := wloop t b n

/-! ### what is walked -/
/-- a list, a tuple, a text -/
def seqD : D → Option (List D)
  | .lst l => some l
  | .tup l => some l
  | .ktp l => some l
  | .scr l => some (l.map .int)
  | .str s => some (s.map fun c => .str [c])
  | _ => none
def itSeq (e : E) : It := fun ρ => (e ρ).bind fun o => R.ofO (seqD o.toD)
def itRange1 (e : E) : It := fun ρ => (e ρ).bind fun o => match o with
  | .frz (.int j) => if decide (-(2 ^ 62) ≤ j) && decide (j < 2 ^ 62) then .ok ((List.range j.toNat).map fun (k : Nat) => .int (k : Int)) else .bad
  | _ => .bad
def itRange2 (a b : E) : It := fun ρ => (a ρ).bind fun x => (b ρ).bind fun y => match x, y with
  | .frz (.int i), .frz (.int j) => if decide (-(2 ^ 62) ≤ i) && decide (i < 2 ^ 62) && decide (-(2 ^ 62) ≤ j) && decide (j < 2 ^ 62) then .ok ((List.range (j - i).toNat).map fun (k : Nat) => .int (i + (k : Int))) else .bad
  | _, _ => .bad
def enumD : Nat → List D → List D
  | _, [] => []
  | n, d :: r => .tup [.int n, d] :: enumD (n + 1) r
def itEnum (e : E) : It := fun ρ => (e ρ).bind fun o => match o.toD with
  | .lst l => .ok (enumD 0 l)
  | _ => .bad
def zipD : List D → List D → List D
  | a :: r, b :: s => .tup [a, b] :: zipD r s
  | _, _ => []
def itZip (a b : E) : It := fun ρ => (a ρ).bind fun x => (b ρ).bind fun y => match x.toD, y.toD with
  | .lst l, .lst m => .ok (zipD l m)
  | _, _ => .bad
def itRev (e : E) : It := fun ρ => (e ρ).bind fun o => match o.toD with
  | .lst l => .ok l.reverse
  | .tup l => .ok l.reverse
  | _ => .bad

/-! ### calls -/
inductive FR where
  | ok (o : O) | ex (x : Xc) | bad
def FR.toR : FR → R O
  | .ok o => .ok o
  | .ex x => .ex x
  | .bad => .bad
/-- a def's worth: its body at its arguments; n names in all -/
def run (n : Nat) (b : Sm) (ds : List D) : FR := match b ⟨ds.map (fun d => some (.frz d)) ++ List.replicate (n - ds.length) none, []⟩ with
  | .nx _ => .ok (.frz .non)
  | .ret o _ => .ok o
  | .ex x _ => .ex x
  | _ => .bad
/-- nothing within but plain values -/
def D.flat : D → Bool
  | .non => true
  | .bl _ => true
  | .int _ => true
  | .str _ => true
  | _ => false
def frzs : List O → Option (List D)
  | [] => some []
  | .frz d :: r => (frzs r).map (d :: ·)
  | _ :: _ => none
/-- a call whose arguments are all frozen -/
def eCall (m : List D → FR) (as : Es) : E := fun ρ => (as ρ).bind fun os => match frzs os with
  | some ds => (m ds).toR
  | none => .bad
def O.flat : O → Bool
  | .frz d => d.flat
  | .lst l => l.all D.flat
  | .dk l => l.all fun p => p.2.flat
  | .dt l => l.all fun p => p.2.flat
  | _ => false
/-- a call whose arguments are only read, and whose answer holds nothing of them -/
def eCallB (m : List D → FR) (as : Es) : E := fun ρ => (as ρ).bind fun os => match m (O.toDs os) with
  | .ok o => if o.flat then .ok o else .bad
  | .ex x => if x.fs.all D.flat then .ex x else .bad
  | .bad => .bad

/-! ### displays, comprehensions -/
/-- a tuple: frozen at once -/
def eTup (as : Es) : E := fun ρ => (as ρ).bind fun os => match frzs os with
  | some ds => .ok (.frz (.tup ds))
  | none => .bad
def eLst (as : Es) : E := fun ρ => (as ρ).bind fun os => match frzs os with
  | some ds => .ok (.lst ds)
  | none => .bad
/-- a list of owned things -/
def eLstN (as : Es) : E := fun ρ => (as ρ).bind fun os => .ok (.nl os)
def eDk : E := fun _ => .ok (.dk [])
def eDt : E := fun _ => .ok (.dt [])
/-- frozen at once -/
def eF (a : E) : E := fun ρ => (a ρ).bind fun o => .ok (.frz o.toD)
def lcT (g : Tg) (t : T) (e : E) : List D → Env → R (List O)
  | [], _ => .ok []
  | d :: ds, ρ => match g d ρ with
    | none => .bad
    | some ρ1 => match t ρ1 with
      | .ok true => match e ρ1 with
        | .ok o => (lcT g t e ds ρ).bind fun os => .ok (o :: os)
        | _ => .bad
      | .ok false => lcT g t e ds ρ
      | _ => .bad
def tYes : T := fun _ => .ok true
/-! ### places: a slot and a way down from it -/
inductive Pk where
  | ix (k : Nat) | ky (k : Ky) | fd (j : Nat)
def look {κ α : Type} [DecidableEq κ] (kvs : List (κ × α)) (k : κ) : Option α := (kvs.find? fun kv => decide (kv.1 = k)).map (·.2)
def place {κ α : Type} [DecidableEq κ] : List (κ × α) → κ → Option Nat
  | [], _ => none
  | p :: r, k => if p.1 = k then some 0 else (place r k).map (· + 1)
def getP : List Pk → O → Option O
  | [], o => some o
  | .ix k :: π, o => match o with
    | .nl l => (l[k]?).bind (getP π)
    | .nt l => (l[k]?).bind (getP π)
    | _ => none
  | .fd j :: π, o => match o with
    | .ob _ l => (l[j]?).bind (getP π)
    | _ => none
  | .ky k :: π, o => match o with
    | .ndk l => (place l k).bind fun n => (l[n]?).bind fun p => getP π p.2
    | _ => none
def setP : List Pk → O → O → Option O
  | [], _, n => some n
  | .ix k :: π, o, n => match o with
    | .nl l => (l[k]?).bind fun c => (setP π c n).map fun c' => .nl (l.set k c')
    | .nt l => (l[k]?).bind fun c => (setP π c n).map fun c' => .nt (l.set k c')
    | _ => none
  | .fd j :: π, o, n => match o with
    | .ob c l => (l[j]?).bind fun x => (setP π x n).map fun x' => .ob c (l.set j x')
    | _ => none
  | .ky k :: π, o, n => match o with
    | .ndk l => (place l k).bind fun j => (l[j]?).bind fun p => (setP π p.2 n).map fun c' => .ndk (l.set j (p.1, c'))
    | _ => none
abbrev Pl := Env → R (Nat × List Pk)
def O.owned : O → Bool
  | .frz _ => false
  | _ => true
def plVar (i : Nat) : Pl := fun ρ => match ρ.s[i]? with
  | some (some o) => if o.owned then .ok (i, []) else .bad
  | _ => match ρ.al.lookup i with
    | some (j, k) => .ok (j, [.ix k])
    | none => .bad
def ixN (n : Nat) (i : Int) : Option Nat := if 0 ≤ i then (if i < n then some i.toNat else none) else if -(n : Int) ≤ i then some (i + n).toNat else none
def toKy : D → Option Ky
  | .int i => some (.inl i)
  | .str s => some (.inr s)
  | _ => none
def toKys : List D → Option (List Ky)
  | [] => some []
  | d :: r => match toKy d, toKys r with
    | some k, some ks => some (k :: ks)
    | _, _ => none
def store {κ α : Type} [DecidableEq κ] (kvs : List (κ × α)) (k : κ) (v : α) : List (κ × α) :=
  if kvs.any (fun kv => decide (kv.1 = k)) then kvs.map fun kv => if kv.1 = k then (kv.1, v) else kv else kvs ++ [(k, v)]
def Env.at (ρ : Env) (p : Nat × List Pk) : Option O := match ρ.s[p.1]? with
  | some (some o) => getP p.2 o
  | _ => none
/-- the thing at a place becomes another one -/
def Env.upd (ρ : Env) (p : Nat × List Pk) (n : O) : Option Env := match ρ.s[p.1]? with
  | some (some o) => (setP p.2 o n).map fun m => match p.2 with
    | [] => ρ.put p.1 (some m)
    | _ => ⟨ρ.s.set p.1 (some m), ρ.al⟩
  | _ => none

def plIx (pl : Pl) (e : E) : Pl := fun ρ => (pl ρ).bind fun p => (e ρ).bind fun x => match ρ.at p, x with
  | some (.nl l), .frz (.int i) => match ixN l.length i with
    | some k => .ok (p.1, p.2 ++ [.ix k])
    | none => .bad
  | some (.ndk l), .frz d => match toKy d with
    | some k => if (place l k).isSome then .ok (p.1, p.2 ++ [.ky k]) else .bad
    | none => .bad
  | _, _ => .bad

/-! ### changes in place -/
/-- the thing at a place is changed: g makes of it and of the arguments the new thing -/
def O.isL : O → Bool
  | .lst _ => true
  | .nl _ => true
  | _ => false
def upS (ρ : Env) (p : Nat × List Pk) : Option O → SR
  | some o' => if o'.owned then (match ρ.upd p o' with
    | some ρ' => .nx ρ'
    | none => .bad) else .bad
  | none => .bad
def sMut (pl : Pl) (g : O → List O → Option O) (as : Es) : Sm := fun ρ => (pl ρ).st ρ fun p => match ρ.at p with
  | some o => if o.isL then (as ρ).st ρ fun os => upS ρ p (g o os) else .bad
  | none => .bad
/-- a method without arguments -/
def sMut0 (pl : Pl) (g : O → List O → Option O) : Sm := fun ρ => (pl ρ).st ρ fun p => match ρ.at p with
  | some o => if o.isL then upS ρ p (g o []) else .bad
  | none => .bad
/-- x stands for an item of a list that a name holds -/
def sAl (i : Nat) (pl : Pl) : Sm := fun ρ => (pl ρ).st ρ fun p => match p with
  | (j, [.ix k]) => if j = i then .bad else match (ρ.put i none).s[j]? with
    | some (some (.nl l)) => match l[k]? with
      | some _ => .nx ⟨(ρ.put i none).s, (i, j, k) :: (ρ.put i none).al⟩
      | none => .bad
    | _ => .bad
  | _ => .bad
def muAppend : O → List O → Option O
  | .lst l, [.frz d] => if l.length < sz then some (.lst (l ++ [d])) else none
  | _, _ => none
/-- an owned thing goes into an owned list -/
def muAppendN : O → List O → Option O
  | .nl l, [o] => if l.length < sz then some (.nl (l ++ [o])) else none
  | _, _ => none
def muExtend : O → List O → Option O
  | .lst l, [.frz (.lst m)] => if l.length + m.length ≤ sz then some (.lst (l ++ m)) else none
  | .lst l, [.lst m] => if l.length + m.length ≤ sz then some (.lst (l ++ m)) else none
  | _, _ => none
/-- an item is stored: the key, the value -/
def muPut : O → List O → Option O
  | .lst l, [.frz (.int i), .frz d] => (ixN l.length i).map fun j => .lst (l.set j d)
  | .dk l, [.frz k, .frz d] => if l.length < sz then (toKy k).map fun k => .dk (store l k d) else none
  | .dt l, [.frz (.tup ks), .frz d] => if l.length < sz then (toKys ks).map fun k => .dt (store l k d) else none
  | _, _ => none
/-- P[k] = e: the value first -/
def sPut (pl : Pl) (k a : E) : Sm := fun ρ => (a ρ).st ρ fun x => (pl ρ).st ρ fun p => (k ρ).st ρ fun y => match ρ.at p with
  | some o => upS ρ p (muPut o [y, x])
  | none => .bad
def muReverse : O → List O → Option O
  | .lst l, [] => some (.lst l.reverse)
  | _, _ => none
def muInsert : O → List O → Option O
  | .lst l, [.frz (.int i), .frz d] => if decide (l.length < sz) && decide (0 ≤ i) && decide (i < 2 ^ 63) then some (.lst (l.take i.toNat ++ [d] ++ l.drop i.toNat)) else none
  | _, _ => none

/-! ### comprehensions -/
/-- the block's own names hold nothing that is owned -/
def calmAt (ρ : Env) (own : List Nat) : Bool := own.all fun i => (match ρ.s[i]? with
  | some none => true
  | some (some o) => !o.owned
  | none => false) && ρ.al.all fun e => e.1 != i
/-- a list comprehension, its items frozen at once -/
def eLc (it : It) (own : List Nat) (g : Tg) (t : T) (e : E) : E := fun ρ => (it ρ).bind fun ds => if calmAt ρ own then (lcT g t e ds (ρ.wipe own)).bind fun os => if os.length ≤ sz then .ok (.lst (O.toDs os)) else .bad else .bad
def eLcN (it : It) (own : List Nat) (g : Tg) (t : T) (e : E) : E := fun ρ => (it ρ).bind fun ds => if calmAt ρ own then (lcT g t e ds (ρ.wipe own)).bind fun os => if os.length ≤ sz then .ok (.nl os) else .bad else .bad
def opNeg : O → Option O := fun x => match x with | .frz (.int i) => some (.frz (.int (-i))) | _ => none
/-- the same where the item is frozen -/
def eFz (a : E) : E := fun ρ => (a ρ).bind fun o => match o with
  | .frz d => .ok (.frz d)
  | _ => .bad
end Vc


/-! VTry: try with any number of clauses, each with or without a name; the caught exception is a tracked thing, so that it can be held behind the suite. -/
namespace Vs
open PySem PySem.Spec PyProof.Rows L2

/-- an exception as a thing of the heap: its class, its dict -/
def xoH (cls : Value) (d : Option Addr) (a : Addr) : HO := .ext fun h => ∃ oe vs, h.get? a = some oe ∧ Zc cls d oe ∧ oe.data = .fields vs
theorem xoH_ok {P : Program} {w : World} {H : Hp} {h : Heap} {a : Addr} {cls : Value} {d : Option Addr} {oe : Obj} {vs : Array Value} (e : h.get? a = some oe) (z : Zc cls d oe) (q : oe.data = .fields vs) : ObjOk P w H h a (xoH cls d a) :=
  ⟨⟨oe, vs, e, z, q⟩, ⟨oe, e⟩, fun h1 h2 ⟨o, us, e1, z1, q1⟩ k => ⟨o, us, k o e1, z1, q1⟩⟩
theorem xoH_at {P : Program} {w : World} {H : Hp} {h : Heap} {a : Addr} {cls : Value} {d : Option Addr} (x : HOk P w H h) (e : H a = some (xoH cls d a)) : ∃ oe vs, h.get? a = some oe ∧ Zc cls d oe ∧ oe.data = .fields vs :=
  (show ObjOk P w H h a (xoH cls d a) from x a _ e).1

section
variable {X : Cx} {pins : List (Addr × Obj)} {σ : L2.St} {H : Hp} {s : Shared}
/-- an object of the heap that is not in sight comes in sight -/
theorem Inv.sight {a : Addr} {oe : Obj} {vs : Array Value} {cls : Value} {d : Option Addr} (I : Inv X pins σ H s) (e : s.heap.get? a = some oe) (z : Zc cls d oe) (q : oe.data = .fields vs) (na : H a = none) (nL : a ≠ X.env.locals) (n0 : X.s_0.heap.get? a = none)
    (np : ∀ p ∈ X.pn ++ pins, p.1 ≠ a) : Inv X pins σ (upd H a (xoH cls d a)) s where
  ok := I.ok
  os := I.os
  bare := I.bare
  base := ⟨I.base.keep, I.base.slot, fun b o e0 n hx => by rw [upd_ne (fun y => by rw [y, n0] at e0; cases e0)]; exact I.base.free b o e0 n hx, I.base.there,
    fun b xs y => by rw [upd_ne (ne_of_none (I.base.tups b xs y) na)]; exact I.base.tups b xs y,
    fun b o u y => by rw [upd_ne (ne_of_none (I.base.frzs b o u y) na)]; exact I.base.frzs b o u y,
    fun b ps y => by
      obtain ⟨more, y2⟩ := I.base.tbls b ps y
      exact ⟨more, by rw [upd_ne (ne_of_none y2 na)]; exact y2⟩⟩
  loc := I.loc
  cell := I.cell
  free := by rw [upd_ne (Ne.symm nL)]; exact I.free
  freeC := fun x c ec => by
    obtain ⟨v, o, e1, e2⟩ := I.cell x c ec
    have : c ≠ a := fun y => by
      rw [y, e] at e1
      have e3 := Option.some.inj e1
      rw [← e3, q] at e2
      cases e2
    rw [upd_ne this]
    exact I.freeC x c ec
  pin := fun p hp => by
    obtain ⟨p1, p2, p3⟩ := I.pin p hp
    exact ⟨p1, by rw [upd_ne (np p hp)]; exact p2, p3⟩
  hok := fun b o y => by
    by_cases hb : b = a
    · rw [hb, upd_same] at y
      cases y
      rw [hb]
      exact xoH_ok e z q
    · rw [upd_ne hb] at y
      exact (I.hok b o y).stay (fun c v _ k => k) (fun c k => by rw [upd_ne (ne_of_none k na)]; exact k) fun c xs k => by rw [upd_ne (ne_of_none k na)]; exact k
  len := I.len
end

/-! ### the rule -/
/-- one clause: the class, the name's slot, what the suite does with the exception at an address -/
structure Cl where
  c : Value
  i : Option Nat
  t : Addr → TS
def endAt (D : Ends) : Option Nat → Ends
  | none => D
  | some i => { nx := fun σ H => D.nx (σ.set i none) H, rt := D.rt, bk := fun σ H => D.bk (σ.set i none) H, ct := fun σ H => D.ct (σ.set i none) H }
def putAt (σ : L2.St) (a : Addr) : Option Nat → L2.St
  | none => σ
  | some i => σ.set i (some (.ref a))
def wCl (K : PySem.W.Frag) (Wo : WX) (D : Ends) : List Cl → WX
  | [] => Wo
  | k :: r => fun cls d σ H => ∃ b, PySem.W.exmOne K cls k.c = some b ∧ (b = true → ∀ a, H a = none → k.t a (endAt D k.i) (putAt σ a k.i) (upd H a (xoH cls d a))) ∧ (b = false → wCl K Wo D r cls d σ H)
inductive ClsOk (X : Cx) : List ExceptHandler → List Cl → Prop
  | nil : ClsOk X [] []
  | bare {x : Str} {c : Value} {t : Addr → TS} {b₀ : Stmt} {su : List Stmt} {np q : Pos} {hs : List ExceptHandler} {l : List Cl} (hc : Names X x c) (h : ∀ (a : Addr) (pn : List (Addr × Obj)), PSs (X.suite a pn) (b₀ :: su) (t a)) (r : ClsOk X hs l) :
      ClsOk X (.ExceptHandler (some (.Name x np)) none (b₀ :: su) q :: hs) (⟨c, none, t⟩ :: l)
  | as {x n : Str} {i : Nat} {c : Value} {t : Addr → TS} {b₀ : Stmt} {su : List Stmt} {np q : Pos} {hs : List ExceptHandler} {l : List Cl} (hc : Names X x c) (hi : X.N[i]? = some n) (hln : X.env.kindOf n = some .local) (h : ∀ (a : Addr) (pn : List (Addr × Obj)), PSs (X.suite a pn) (b₀ :: su) (t a)) (r : ClsOk X hs l) :
      ClsOk X (.ExceptHandler (some (.Name x np)) (some n) (b₀ :: su) q :: hs) (⟨c, some i, t⟩ :: l)
theorem in_suite {X : Cx} {pins : List (Addr × Obj)} {σ : L2.St} {H : Hp} {s : Shared} (I : Inv X pins σ H s) (a : Addr) : Inv (X.suite a (X.pn ++ pins)) [] σ H s :=
  ⟨I.ok.suite _ _, I.os, I.bare, I.base, I.loc, I.cell, I.free, I.freeC, fun p hp => I.pin p (by rw [List.append_nil] at hp; exact hp), I.hok, I.len⟩
theorem of_suite {X : Cx} {pins pq : List (Addr × Obj)} {σ : L2.St} {H : Hp} {s : Shared} {a : Addr} (I : Inv (X.suite a (X.pn ++ pins)) pq σ H s) (ok : X.Ok) : Inv X pins σ H s :=
  ⟨ok, I.os, I.bare, I.base, I.loc, I.cell, I.free, I.freeC, fun p hp => I.pin p (List.mem_append_left _ hp), I.hok, I.len⟩
section
variable {X : Cx} {body : List Stmt} {k₀ : ExceptHandler} {ks : List ExceptHandler} {l : List Cl} {pos : Pos} {tb : WX → TS} {Wo : WX}
theorem ps_tryT (hs : X.stack = X.env :: X.outer) (hf : X.env.frame = some X.env.locals) (hx : X.ex = []) (hN : X.N.Nodup) (tk : Takes X Wo)
    (hb : ∀ (W : WX) (pn : List (Addr × Obj)) (xe : Value → Shared → Prop), Takes (X.tr pn xe) W → PassesOwn (model X.prog X.w) X.A X.env xe → PSs (X.tr pn xe) body (tb W))
    (hk : ClsOk X (k₀ :: ks) l) : PS X (.Try body (k₀ :: ks) [] [] pos) (fun D σ H => tb (wCl X.K Wo D l) D σ H) := ⟨fun pins s σ H D I red => by
  have okX := I.ok
  have frX : X.A.frames = some (X.env :: X.outer) := okX.frames.trans (congrArg some hs)
  refine wpAny_Try_except (wpAny_mono ((hb _ (X.pn ++ pins) (fun u z => wpAny (model X.prog X.w) X.A (noteFrame u X.env) (fun _ z1 => wpAny (model X.prog X.w) X.A (setFlight u none)
    (fun _ z2 => wpAny (model X.prog X.w) X.A (handleBy u X.env (k₀ :: ks)) (SP X pins D) X.xe z2) X.xe z1) X.xe z) (fun u z air => ?_) PassesOwn.looking).run [] s σ H D (I.toTry _) red) (fun fl z out => ?_) fun u z air => air)
  · obtain ⟨a, B, sB, pins0, σ0, H0, cls, d, eu, I0, gr, slo, sk, na, eos, bare, wish⟩ := air
    subst eu
    have IB : Inv X pins σ0 H0 sB := I0.ofTry okX
    rw [hs] at sk
    show wpAny (model X.prog X.w) X.A (noteFrame (.ref a) X.env) _ _ _
    refine Sky.land Zc.steady frX hf sk fun hA flA slA => ?_
    have IA : Inv X pins σ0 H0 { z with heap := hA } := IB.landed gr flA.1 (slo.trans slA) eos bare
    obtain ⟨oA, vA, getA, zcA, datA⟩ := flA.there
    have offFrames : a ∉ frs (X.env :: X.outer) := fun hm => by
      obtain ⟨_, oF, getF, ndF⟩ := flA.2.2.1.mem hm
      rw [getA] at getF
      cases getF
      exact ndF _ datA
    have offL : a ≠ X.env.locals := fun y => offFrames (List.mem_filterMap.mpr ⟨X.env, List.mem_cons_self, hf.trans (congrArg some y.symm)⟩)
    have offF : a ∉ X.fs := fun hm => by
      obtain ⟨v, hv, ev⟩ := List.mem_filterMap.mp hm
      exact offFrames (List.mem_filterMap.mpr ⟨v, List.mem_cons_of_mem _ hv, ev⟩)
    have newB : sB.heap.get? a = none := by
      cases g : sB.heap.get? a with
      | none => rfl
      | some o =>
        have := gr a o g (by rw [hs]; exact offFrames)
        rw [flA.2.1] at this
        cases this
    have new0 : X.s_0.heap.get? a = none := by
      cases g : X.s_0.heap.get? a with
      | none => rfl
      | some o =>
        obtain ⟨o', g'⟩ := IB.base.there a o g (by rw [hx]; exact List.not_mem_nil)
        rw [newB] at g'
        cases g'
    have offP : ∀ p ∈ X.pn ++ pins, p.1 ≠ a := fun p hp y => by
      have g := (IB.pin p hp).1
      rw [y, newB] at g
      cases g
    have types : PySem.W.Looks (model X.prog X.w) hA (typeOf (.ref a)) cls := fun _ _ _ _ kp q => wpAny_typeOf_ref (kp _ _ getA) (by rw [zcA.1]; exact q)
    have SA := IA.suite getA datA na offL offF
    have all : ∀ {hs' : List ExceptHandler} {l' : List Cl}, ClsOk X hs' l' → wCl X.K Wo D l' cls d σ0 H0 → wpAny (model X.prog X.w) X.A (handleBy (.ref a) X.env hs') (SP X pins D) X.xe { z with heap := hA } := by
      intro hs' l' ok'
      have look : ∀ {x : Str} {c : Value} {np : Pos} {Q : Value → Shared → Prop} {E : Value → Shared → Prop}, Names X x c → Q c { z with heap := hA } → wpAny (model X.prog X.w) (X.A.mark (some (.ref a))) (eval (.Name x np) X.env) Q E { z with heap := hA } := fun hc q => by
        obtain ⟨g1, g2, g3⟩ := hc
        rcases g3 with g3 | ⟨g3, g4, g5⟩
        · exact ld_glob (X := X.suite a ((a, oA) :: (X.pn ++ pins))) SA g1 g3 q g2
        · exact ld_blt (X := X.suite a ((a, oA) :: (X.pn ++ pins))) SA g1 g3 g4 q g5 g2
      induction ok' with
      | nil =>
        intro w
        refine wpAny_handleBy_nil ?_
        obtain ⟨_, _, _, oe, vs, T, _, _, g1, _, g3, g4, _⟩ := id flA
        have out : wpAny (model X.prog X.w) X.A (setFlight (.ref a) X.env.frame) (fun _ z2 => wpAny (model X.prog X.w) X.A (throw (.ref a) : Sem Flow) (SP X pins D) X.xe z2) X.xe { z with heap := hA } := by
          rw [hf]
          exact HandSPX.setFlight_upZ flA fun hC flC slC => wpAny_throw (tk _ _ ⟨a, B, sB, pins, σ0, H0, cls, d, rfl, IB, gr, (slo.trans slA).trans slC, .inr (.inr (by rw [hs]; exact flC)), na, eos, bare, w⟩)
        unfold PySem.passOn
        refine wpAny_bind (wpAny_field g1 g3 g4 ?_)
        have hT : ¬ ((Value.ref T == Value.none) = true) := by simp
        rw [if_neg hT]
        first
          | exact wpAny_bind (wpAny_pure (wpAny_bind out))
          | exact wpAny_bind out
      | @bare x c t b₀ su np q hs2 l2 hc hsu r ih =>
        intro w
        obtain ⟨b, yes, w1, w2⟩ := w
        have lm := PySem.W.exm_one (M := model X.prog X.w) IA.kIn types yes
        refine wpAny_handleBy_cons (codeAny_handlers_test (look hc (lm.here ?_))) (fun y => by cases y)
        cases b with
        | false =>
          show wpAny _ X.A (handleBy (.ref a) X.env hs2) _ _ _
          exact ih (w2 rfl)
        | true =>
          refine codeAny_handlers_suite (HandSPX.lands_againZ flA fun hC flC slC => ?_)
          have IC : Inv X pins σ0 H0 { z with heap := hC } := IB.landed gr flC.1 ((slo.trans slA).trans slC) eos bare
          obtain ⟨oC, vC, getC, zcC, datC⟩ := flC.there
          have TC := in_suite (Inv.sight IC getC zcC datC na offL new0 offP) a
          refine wpAny_mono ((hsu a (X.pn ++ pins)).run [] _ _ _ _ TC (w1 rfl a na)) (fun fl z3 res => ?_) fun _ _ y => y.elim
          cases fl with
          | ret u =>
            obtain ⟨v, σ3, H3, I3, rv, q3⟩ := res
            exact ⟨v, σ3, H3, of_suite I3 okX, rv, q3⟩
          | next =>
            obtain ⟨σ3, H3, I3, q3⟩ := res
            exact ⟨σ3, H3, of_suite I3 okX, q3⟩
          | brk =>
            obtain ⟨σ3, H3, I3, q3⟩ := res
            exact ⟨σ3, H3, of_suite I3 okX, q3⟩
          | cont =>
            obtain ⟨σ3, H3, I3, q3⟩ := res
            exact ⟨σ3, H3, of_suite I3 okX, q3⟩
      | @as x n i c t b₀ su np q hs2 l2 hc hi hln hsu r ih =>
        intro w
        obtain ⟨b, yes, w1, w2⟩ := w
        have lm := PySem.W.exm_one (M := model X.prog X.w) IA.kIn types yes
        refine wpAny_handleBy_cons (codeAny_handlers_test (look hc (lm.here ?_))) (fun y => by cases y)
        cases b with
        | false =>
          show wpAny _ X.A (handleBy (.ref a) X.env hs2) _ _ _
          exact ih (w2 rfl)
        | true =>
          refine codeAny_handlers_suite_as (HandSPX.lands_againZ flA fun hC flC slC => ?_)
          have IC : Inv X pins σ0 H0 { z with heap := hC } := IB.landed gr flC.1 ((slo.trans slA).trans slC) eos bare
          obtain ⟨oC, vC, getC, zcC, datC⟩ := flC.there
          have TC := in_suite (Inv.sight IC getC zcC datC na offL new0 offP) a
          refine store_ok (X := X.suite a (X.pn ++ pins)) (v := .ref a) TC hN hi (.inl hln) rfl (fun zD ID => ?_) (.inr hln)
          have away : ∀ {σ3 : L2.St} {H3 : Hp} {z3 : Shared} {Q : Shared → Prop}, Inv (X.suite a (X.pn ++ pins)) [] σ3 H3 z3 → (∀ z4, Inv X pins (σ3.set i none) H3 z4 → Q z4) →
              wpAny (model X.prog X.w) X.A (do bindName X.env n .none; unbindBehindTheSuite X.env n q) (fun _ z4 => Q z4) X.xe z3 := fun I3 k => gone_ok (of_suite I3 okX) hN hi hln k
          refine wpAny_mono ((hsu a (X.pn ++ pins)).run [] zD _ _ _ ID (w1 rfl a na)) (fun fl z3 res => ?_) fun _ _ y => y.elim
          cases fl with
          | ret u =>
            obtain ⟨v, σ3, H3, I3, rv, q3⟩ := res
            exact away I3 fun z4 I4 => ⟨v, _, H3, I4, rv, q3⟩
          | next =>
            obtain ⟨σ3, H3, I3, q3⟩ := res
            exact away I3 fun z4 I4 => ⟨_, H3, I4, q3⟩
          | brk =>
            obtain ⟨σ3, H3, I3, q3⟩ := res
            exact away I3 fun z4 I4 => ⟨_, H3, I4, q3⟩
          | cont =>
            obtain ⟨σ3, H3, I3, q3⟩ := res
            exact away I3 fun z4 I4 => ⟨_, H3, I4, q3⟩
    exact all hk wish
  · cases fl with
    | ret u =>
      obtain ⟨v, σ1, H1, I1, rv, q1⟩ := out
      exact ⟨v, σ1, H1, I1.ofTry okX, rv, q1⟩
    | next =>
      obtain ⟨σ1, H1, I1, q1⟩ := out
      exact wpAny_execs_nil ⟨σ1, H1, I1.ofTry okX, q1⟩
    | brk =>
      obtain ⟨σ1, H1, I1, q1⟩ := out
      exact ⟨σ1, H1, I1.ofTry okX, q1⟩
    | cont =>
      obtain ⟨σ1, H1, I1, q1⟩ := out
      exact ⟨σ1, H1, I1.ofTry okX, q1⟩⟩
end

/-! ### exceptions as values -/
/-- what makes an exception gives it back as a thing in sight -/
def tKeep (t : L2.St → Hp → XK → Prop) : TE := fun σ H Q => t σ H fun cls d H1 => ∀ a, H1 a = none → Q (.ref a) (upd H1 a (xoH cls d a))
theorem pe_keep {X : Cx} {e : Expr} {t : L2.St → Hp → XK → Prop} (h : PMk X e t) : PE X e (tKeep t) := ⟨fun pins s σ H Q I q => by
  refine wpAny_mono (h pins s σ H _ I q) (fun u s1 m => ?_) fun _ _ x => x
  obtain ⟨a, oe, vs, sI, H1, cls, d, rfl, J, kp, n1, g, z, dt, _, na, eo, bare, _, q1⟩ := m
  have k := J.call (ch := []) (h' := s1.heap) (g' := s1.gens) (t' := s1.toks) (d' := s1.drawn) (H' := upd H1 a (xoH cls d a)) (Un.laidN kp n1 na) (J.hok.laidN kp na (xoH_ok g z dt)) bare (fun _ y => nomatch y)
  have es : s1 = { sI with heap := s1.heap, gens := s1.gens, drawn := s1.drawn, toks := s1.toks } := by
    cases s1
    cases sI
    cases eo
    rfl
  rw [es]
  exact ⟨.ref a, _, k, rfl, q1 a na⟩⟩
end Vs


/-! VBase: what plain data stand for in the hand layer's heap; the state relation; the judgements. -/
namespace Vs
open PySem PySem.Spec PyProof.Rows L2 Vc

def mk (s : Tx) : Str := ⟨s.toArray⟩
def kyK : Ky → Key
  | .inl i => .inl i
  | .inr s => .inr (mk s)
/-- where classes and defs stand, the fields of a class -/
structure Gx where
  K : PySem.W.Frag
  cA : Nat → Addr
  cF : Nat → List Str
  fA : Nat → Addr

mutual
def Rep (G : Gx) (F : Hp) : D → V → Prop
  | .non, v => v = .non
  | .bl b, v => v = .bl b
  | .int i, v => v = .int i
  | .str s, v => v = .str (mk s) ∧ s.length ≤ sz
  | .tup l, v => ∃ a vs, v = .ref a ∧ F a = some (.tup vs) ∧ Reps G F l vs
  | .ktp l, v => ∃ a vs, v = .ref a ∧ SqT G.K F a vs ∧ Reps G F l vs
  | .lst l, v => ∃ a vs, v = .ref a ∧ F a = some (.lst vs) ∧ Reps G F l vs
  | .scr l, v => ∃ a, v = .ref a ∧ SqL G.K F a (l.map V.int)
  | .dk l, v => ∃ a kvs, v = .ref a ∧ Rd F a (.dK kvs) ∧ RepK G F l kvs
  | .dt l, v => ∃ a kvs, v = .ref a ∧ Rd F a (.dT kvs) ∧ RepT G F l kvs
  | .obj c l, v => ∃ a dx vs, v = .ref a ∧ F a = some (.ins (G.cA c) dx ((G.cF c).zip vs)) ∧ vs.length = (G.cF c).length ∧ Reps G F l vs
  | .fn f l, v => l.length = 0 ∧ v = .ref (G.fA f)
  | .xo c l, v => ∃ a d, v = .ref a ∧ F a = some (xoH (.ref (G.cA c)) d a) ∧ (l = [] → d = none) ∧ (l ≠ [] → ∃ dd vs, d = some dd ∧ F dd = some (.xd ((G.cF c).zip vs)) ∧ vs.length = (G.cF c).length ∧ Reps G F l vs)
def Reps (G : Gx) (F : Hp) : List D → List V → Prop
  | [], vs => vs = []
  | d :: r, vs => ∃ v ws, vs = v :: ws ∧ Rep G F d v ∧ Reps G F r ws
def RepK (G : Gx) (F : Hp) : List (Ky × D) → List (Key × V) → Prop
  | [], vs => vs = []
  | p :: r, vs => ∃ v ws, vs = (kyK p.1, v) :: ws ∧ Rep G F p.2 v ∧ RepK G F r ws
def RepT (G : Gx) (F : Hp) : List (List Ky × D) → List (List Key × V) → Prop
  | [], vs => vs = []
  | p :: r, vs => ∃ v ws, vs = (p.1.map kyK, v) :: ws ∧ Rep G F p.2 v ∧ RepT G F r ws
end

theorem Rd.keep {F F' : Hp} (h : Same F F') {a : Addr} {u : HO} (r : Rd F a u) : Rd F' a u := by
  rcases r with r | ⟨o, r⟩
  · exact .inl (h _ _ r)
  · exact .inr ⟨o, h _ _ r⟩
theorem SqT.keep {K : PySem.W.Frag} {F F' : Hp} (h : Same F F') {a : Addr} {vs : List V} (r : SqT K F a vs) : SqT K F' a vs := by
  rcases r with r | r
  · exact .inl (Rd.keep h r)
  · exact .inr r
theorem SqL.keep {K : PySem.W.Frag} {F F' : Hp} (h : Same F F') {a : Addr} {vs : List V} (r : SqL K F a vs) : SqL K F' a vs := by
  rcases r with r | r
  · exact .inl (Rd.keep h r)
  · exact .inr r

section
variable {G : Gx} {F F' : Hp} (h : Same F F')
include h
mutual
theorem Rep.keep : ∀ (d : D) (v : V), Rep G F d v → Rep G F' d v
  | .non, v, r => by simpa [Rep] using r
  | .bl b, v, r => by simpa [Rep] using r
  | .int i, v, r => by simpa [Rep] using r
  | .str s, v, r => by simpa [Rep] using r
  | .tup l, v, r => by
    obtain ⟨a, vs, e, q, t⟩ := (by simpa only [Rep] using r)
    simp only [Rep]
    exact ⟨a, vs, e, h _ _ q, Reps.keep l vs t⟩
  | .ktp l, v, r => by
    obtain ⟨a, vs, e, q, t⟩ := (by simpa only [Rep] using r)
    simp only [Rep]
    exact ⟨a, vs, e, SqT.keep h q, Reps.keep l vs t⟩
  | .lst l, v, r => by
    obtain ⟨a, vs, e, q, t⟩ := (by simpa only [Rep] using r)
    simp only [Rep]
    exact ⟨a, vs, e, h _ _ q, Reps.keep l vs t⟩
  | .scr l, v, r => by
    obtain ⟨a, e, q⟩ := (by simpa only [Rep] using r)
    simp only [Rep]
    exact ⟨a, e, SqL.keep h q⟩
  | .dk l, v, r => by
    obtain ⟨a, vs, e, q, t⟩ := (by simpa only [Rep] using r)
    simp only [Rep]
    exact ⟨a, vs, e, Rd.keep h q, RepK.keep l vs t⟩
  | .dt l, v, r => by
    obtain ⟨a, vs, e, q, t⟩ := (by simpa only [Rep] using r)
    simp only [Rep]
    exact ⟨a, vs, e, Rd.keep h q, RepT.keep l vs t⟩
  | .obj c l, v, r => by
    obtain ⟨a, dx, vs, e, q, z, t⟩ := (by simpa only [Rep] using r)
    simp only [Rep]
    exact ⟨a, dx, vs, e, h _ _ q, z, Reps.keep l vs t⟩
  | .fn f l, v, r => by simpa [Rep] using r
  | .xo c l, v, r => by
    obtain ⟨a, d, e, q, z, t⟩ := (by simpa only [Rep] using r)
    simp only [Rep]
    refine ⟨a, d, e, h _ _ q, z, fun n => ?_⟩
    obtain ⟨dd, vs, e1, e2, e3, e4⟩ := t n
    exact ⟨dd, vs, e1, h _ _ e2, e3, Reps.keep l vs e4⟩
theorem Reps.keep : ∀ (d : List D) (v : List V), Reps G F d v → Reps G F' d v
  | [], v, r => by simpa [Reps] using r
  | d :: l, v, r => by
    obtain ⟨x, ws, e, q, t⟩ := (by simpa only [Reps] using r)
    simp only [Reps]
    exact ⟨x, ws, e, Rep.keep d x q, Reps.keep l ws t⟩
theorem RepK.keep : ∀ (d : List (Ky × D)) (v : List (Key × V)), RepK G F d v → RepK G F' d v
  | [], v, r => by simpa [RepK] using r
  | (k, d) :: l, v, r => by
    obtain ⟨x, ws, e, q, t⟩ := (by simpa only [RepK] using r)
    simp only [RepK]
    exact ⟨x, ws, e, Rep.keep d x q, RepK.keep l ws t⟩
theorem RepT.keep : ∀ (d : List (List Ky × D)) (v : List (List Key × V)), RepT G F d v → RepT G F' d v
  | [], v, r => by simpa [RepT] using r
  | (k, d) :: l, v, r => by
    obtain ⟨x, ws, e, q, t⟩ := (by simpa only [RepT] using r)
    simp only [RepT]
    exact ⟨x, ws, e, Rep.keep d x q, RepT.keep l ws t⟩
end
end

/-! ### owned data. own: who owns an address: a slot (inl) or a temporary (inr), and by which way down -/
abbrev Ow := (Nat ⊕ Nat) × List Nat
abbrev Own := Addr → Option Ow
mutual
def RepO (G : Gx) (F H : Hp) (own : Own) : O → V → Ow → Prop
  | .frz d, v, _ => Rep G F d v
  | .lst l, v, w => ∃ a vs, v = .ref a ∧ own a = some w ∧ H a = some (.lst vs) ∧ Reps G F l vs
  | .dk l, v, w => ∃ a vs, v = .ref a ∧ own a = some w ∧ H a = some (.dK vs) ∧ RepK G F l vs
  | .dt l, v, w => ∃ a vs, v = .ref a ∧ own a = some w ∧ H a = some (.dT vs) ∧ RepT G F l vs
  | .nl l, v, w => ∃ a vs, v = .ref a ∧ own a = some w ∧ H a = some (.lst vs) ∧ RepOs G F H own l vs w 0
  | .nt l, v, w => ∃ a vs, v = .ref a ∧ own a = some w ∧ H a = some (.tup vs) ∧ RepOs G F H own l vs w 0
  | .ndk l, v, w => ∃ a vs, v = .ref a ∧ own a = some w ∧ H a = some (.dK vs) ∧ RepOk G F H own l vs w 0
  | .ob c l, v, w => ∃ a dx vs, v = .ref a ∧ own a = some w ∧ H a = some (.ins (G.cA c) dx ((G.cF c).zip vs)) ∧ vs.length = (G.cF c).length ∧ RepOs G F H own l vs w 0
def RepOs (G : Gx) (F H : Hp) (own : Own) : List O → List V → Ow → Nat → Prop
  | [], vs, _, _ => vs = []
  | o :: r, vs, w, k => ∃ v ws, vs = v :: ws ∧ RepO G F H own o v (w.1, k :: w.2) ∧ RepOs G F H own r ws w (k + 1)
def RepOk (G : Gx) (F H : Hp) (own : Own) : List (Ky × O) → List (Key × V) → Ow → Nat → Prop
  | [], vs, _, _ => vs = []
  | p :: r, vs, w, k => ∃ v ws, vs = (kyK p.1, v) :: ws ∧ RepO G F H own p.2 v (w.1, k :: w.2) ∧ RepOk G F H own r ws w (k + 1)
end
section
variable {G : Gx} {F F' H H' : Hp} {own own' : Own} (h : Same F F')
include h
mutual
/-- what is owned below a way stays as it is, perhaps under another owner -/
theorem RepO.mono : ∀ (o : O) (v : V) (w w' : Ow), (∀ a τ x, own a = some (w.1, τ ++ w.2) → H a = some x → own' a = some (w'.1, τ ++ w'.2) ∧ H' a = some x) → RepO G F H own o v w → RepO G F' H' own' o v w'
  | .frz d, v, w, w', m, r => by simp only [RepO] at r ⊢; exact Rep.keep h d v r
  | .lst l, v, w, w', m, r => by
    simp only [RepO] at r ⊢
    obtain ⟨a, vs, e, q, z, t⟩ := r
    obtain ⟨m1, m2⟩ := m a [] _ q z
    exact ⟨a, vs, e, m1, m2, Reps.keep h l vs t⟩
  | .dk l, v, w, w', m, r => by
    simp only [RepO] at r ⊢
    obtain ⟨a, vs, e, q, z, t⟩ := r
    obtain ⟨m1, m2⟩ := m a [] _ q z
    exact ⟨a, vs, e, m1, m2, RepK.keep h l vs t⟩
  | .dt l, v, w, w', m, r => by
    simp only [RepO] at r ⊢
    obtain ⟨a, vs, e, q, z, t⟩ := r
    obtain ⟨m1, m2⟩ := m a [] _ q z
    exact ⟨a, vs, e, m1, m2, RepT.keep h l vs t⟩
  | .nl l, v, w, w', m, r => by
    simp only [RepO] at r ⊢
    obtain ⟨a, vs, e, q, z, t⟩ := r
    obtain ⟨m1, m2⟩ := m a [] _ q z
    exact ⟨a, vs, e, m1, m2, RepOs.mono l vs w w' 0 m t⟩
  | .nt l, v, w, w', m, r => by
    simp only [RepO] at r ⊢
    obtain ⟨a, vs, e, q, z, t⟩ := r
    obtain ⟨m1, m2⟩ := m a [] _ q z
    exact ⟨a, vs, e, m1, m2, RepOs.mono l vs w w' 0 m t⟩
  | .ndk l, v, w, w', m, r => by
    simp only [RepO] at r ⊢
    obtain ⟨a, vs, e, q, z, t⟩ := r
    obtain ⟨m1, m2⟩ := m a [] _ q z
    exact ⟨a, vs, e, m1, m2, RepOk.mono l vs w w' 0 m t⟩
  | .ob c l, v, w, w', m, r => by
    simp only [RepO] at r ⊢
    obtain ⟨a, dx, vs, e, q, z, n, t⟩ := r
    obtain ⟨m1, m2⟩ := m a [] _ q z
    exact ⟨a, dx, vs, e, m1, m2, n, RepOs.mono l vs w w' 0 m t⟩
theorem RepOs.mono : ∀ (o : List O) (v : List V) (w w' : Ow) (k : Nat), (∀ a τ x, own a = some (w.1, τ ++ w.2) → H a = some x → own' a = some (w'.1, τ ++ w'.2) ∧ H' a = some x) → RepOs G F H own o v w k → RepOs G F' H' own' o v w' k
  | [], v, w, w', k, m, r => by simpa only [RepOs] using r
  | o :: l, v, w, w', k, m, r => by
    simp only [RepOs] at r ⊢
    obtain ⟨x, ws, e, q, t⟩ := r
    refine ⟨x, ws, e, RepO.mono o x (w.1, k :: w.2) (w'.1, k :: w'.2) (fun a τ y e1 e2 => ?_) q, RepOs.mono l ws w w' (k + 1) m t⟩
    obtain ⟨m1, m2⟩ := m a (τ ++ [k]) y (by simpa using e1) e2
    exact ⟨by simpa using m1, m2⟩
theorem RepOk.mono : ∀ (o : List (Ky × O)) (v : List (Key × V)) (w w' : Ow) (k : Nat), (∀ a τ x, own a = some (w.1, τ ++ w.2) → H a = some x → own' a = some (w'.1, τ ++ w'.2) ∧ H' a = some x) → RepOk G F H own o v w k → RepOk G F' H' own' o v w' k
  | [], v, w, w', k, m, r => by simpa only [RepOk] using r
  | (_, o) :: l, v, w, w', k, m, r => by
    simp only [RepOk] at r ⊢
    obtain ⟨x, ws, e, q, t⟩ := r
    refine ⟨x, ws, e, RepO.mono o x (w.1, k :: w.2) (w'.1, k :: w'.2) (fun a τ y e1 e2 => ?_) q, RepOk.mono l ws w w' (k + 1) m t⟩
    obtain ⟨m1, m2⟩ := m a (τ ++ [k]) y (by simpa using e1) e2
    exact ⟨by simpa using m1, m2⟩
end
end
/-! what is owned, read as plain data of the whole heap -/
section
variable {G : Gx} {F H : Hp} {own : Own} (h : Same F H)
include h
mutual
theorem RepO.all : ∀ (o : O) (v : V) (w : Ow), RepO G F H own o v w → Rep G H o.toD v
  | .frz d, v, w, r => by simp only [RepO] at r; simp only [O.toD]; exact Rep.keep h d v r
  | .lst l, v, w, r => by
    simp only [RepO] at r; simp only [O.toD, Rep]
    obtain ⟨a, vs, e, q, z, t⟩ := r
    exact ⟨a, vs, e, z, Reps.keep h l vs t⟩
  | .dk l, v, w, r => by
    simp only [RepO] at r; simp only [O.toD, Rep]
    obtain ⟨a, vs, e, q, z, t⟩ := r
    exact ⟨a, vs, e, .inl z, RepK.keep h l vs t⟩
  | .dt l, v, w, r => by
    simp only [RepO] at r; simp only [O.toD, Rep]
    obtain ⟨a, vs, e, q, z, t⟩ := r
    exact ⟨a, vs, e, .inl z, RepT.keep h l vs t⟩
  | .nl l, v, w, r => by
    simp only [RepO] at r; simp only [O.toD, Rep]
    obtain ⟨a, vs, e, q, z, t⟩ := r
    exact ⟨a, vs, e, z, RepOs.all l vs w 0 t⟩
  | .nt l, v, w, r => by
    simp only [RepO] at r; simp only [O.toD, Rep]
    obtain ⟨a, vs, e, q, z, t⟩ := r
    exact ⟨a, vs, e, z, RepOs.all l vs w 0 t⟩
  | .ndk l, v, w, r => by
    simp only [RepO] at r; simp only [O.toD, Rep]
    obtain ⟨a, vs, e, q, z, t⟩ := r
    exact ⟨a, vs, e, .inl z, RepOk.all l vs w 0 t⟩
  | .ob c l, v, w, r => by
    simp only [RepO] at r; simp only [O.toD, Rep]
    obtain ⟨a, dx, vs, e, q, z, n, t⟩ := r
    exact ⟨a, dx, vs, e, z, n, RepOs.all l vs w 0 t⟩
theorem RepOs.all : ∀ (o : List O) (v : List V) (w : Ow) (k : Nat), RepOs G F H own o v w k → Reps G H (O.toDs o) v
  | [], v, w, k, r => by simpa only [RepOs, O.toDs, Reps] using r
  | o :: l, v, w, k, r => by
    simp only [RepOs] at r; simp only [O.toDs, Reps]
    obtain ⟨x, ws, e, q, t⟩ := r
    exact ⟨x, ws, e, RepO.all o x _ q, RepOs.all l ws w _ t⟩
theorem RepOk.all : ∀ (o : List (Ky × O)) (v : List (Key × V)) (w : Ow) (k : Nat), RepOk G F H own o v w k → RepK G H (O.toDk o) v
  | [], v, w, k, r => by simpa only [RepOk, O.toDk, RepK] using r
  | (_, o) :: l, v, w, k, r => by
    simp only [RepOk] at r; simp only [O.toDk, RepK]
    obtain ⟨x, ws, e, q, t⟩ := r
    exact ⟨x, ws, e, RepO.all o x _ q, RepOk.all l ws w _ t⟩
end
end

/-- the way down, on values -/
def PathAt (H : Hp) : List Pk → V → V → Prop
  | [], v, v' => v' = v
  | .ix k :: π, v, v' => ∃ a vs x, v = .ref a ∧ (H a = some (.lst vs) ∨ H a = some (.tup vs)) ∧ vs[k]? = some x ∧ PathAt H π x v'
  | .fd j :: π, v, v' => ∃ a C dx fs x, v = .ref a ∧ H a = some (.ins C dx fs) ∧ fs[j]? = some x ∧ PathAt H π x.2 v'
  | .ky k :: π, v, v' => ∃ a kvs x, v = .ref a ∧ H a = some (.dK kvs) ∧ valV kvs (kyK k) = some x ∧ PathAt H π x v'
theorem PathAt.keep {H H' : Hp} (h : Same H H') : ∀ {π : List Pk} {v v' : V}, PathAt H π v v' → PathAt H' π v v'
  | [], v, v', r => r
  | .ix k :: π, v, v', ⟨a, vs, x, e, q, t, r⟩ => ⟨a, vs, x, e, q.imp (h _ _) (h _ _), t, r.keep h⟩
  | .fd j :: π, v, v', ⟨a, C, dx, fs, x, e, q, t, r⟩ => ⟨a, C, dx, fs, x, e, h _ _ q, t, r.keep h⟩
  | .ky k :: π, v, v', ⟨a, kvs, x, e, q, t, r⟩ => ⟨a, kvs, x, e, h _ _ q, t, r.keep h⟩
/-- the value at a place -/
def AtPl (H : Hp) (σ : L2.St) (p : Nat × List Pk) (v : V) : Prop := ∃ v0, σ[p.1]? = some (some v0) ∧ PathAt H p.2 v0 v
theorem AtPl.keep {H H' : Hp} (h : Same H H') {σ : L2.St} {p : Nat × List Pk} {v : V} : AtPl H σ p v → AtPl H' σ p v := fun ⟨v0, e, q⟩ => ⟨v0, e, q.keep h⟩

/-! ### the state -/
/-- what stays through a body: the entry's heaps, what may change of it; names whose values stay; frozen things that are held, temporaries, things that are only looked at -/
structure Gh where
  H0 : Hp
  F0 : Hp
  A0 : Addr → Prop
  pins : List (Nat × V)
  hd : List (D × V)
  tm : List (O × V)
  wk : List (O × V)
  n : Nat
  lk : List (Addr × HO)
  pl : List ((Nat × List Pk) × V)
/-- the heap without the locks -/
def unl (lk : List (Addr × HO)) (H : Hp) : Hp := fun a => match lk.lookup a with
  | some u => some u
  | none => H a
def Gh.pushT (γ : Gh) (o : O) (v : V) : Gh := { γ with tm := γ.tm ++ [(o, v)] }
def Gh.pushW (γ : Gh) (o : O) (v : V) : Gh := { γ with wk := (o, v) :: γ.wk }
def Gh.pushP (γ : Gh) (p : Nat × List Pk) (v : V) : Gh := { γ with pl := (p, v) :: γ.pl }
def Gh.pushH (γ : Gh) (d : D) (v : V) : Gh := { γ with hd := (d, v) :: γ.hd }

structure Sta (G : Gx) (γ : Gh) (F H : Hp) (own : Own) (ρ : Vc.Env) (σ : L2.St) : Prop where
  fh : Same F H
  nf : ∀ a w, own a = some w → F a = none ∧ ∃ o, H a = some o
  sl : ∀ i o, ρ.s[i]? = some (some o) → ∃ v, σ[i]? = some (some v) ∧ RepO G F H own o v (.inl i, [])
  al : ∀ i j k, (i, j, k) ∈ ρ.al → ∃ a vs v l, σ[j]? = some (some (.ref a)) ∧ H a = some (.lst vs) ∧ vs[k]? = some v ∧ σ[i]? = some (some v) ∧ ρ.s[j]? = some (some (.nl l))
  ln : σ.length = ρ.s.length
  rn : ρ.s.length = γ.n
  pn : ∀ p ∈ γ.pins, σ[p.1]? = some (some p.2) ∧ ∃ o, ρ.s[p.1]? = some (some o) ∧ o.owned = true
  hd : ∀ p ∈ γ.hd, Rep G F p.1 p.2
  tm : ∀ k o v, γ.tm[k]? = some (o, v) → RepO G F H own o v (.inr k, [])
  wk : ∀ p ∈ γ.wk, ∃ w, RepO G F H own p.1 p.2 w ∧ ∃ j, w.1 = .inl j
  pl : ∀ p ∈ γ.pl, AtPl H σ p.1 p.2 ∧ ∃ o, ρ.s[p.1.1]? = some (some o) ∧ o.owned = true ∧ ∃ c, getP p.1.2 o = some c
  lk : ∀ a u, γ.lk.lookup a = some u → ∃ o, H a = some (.frz o u) ∧ F a = some (.frz o u)
  xd : ∀ a fs, H a = some (.xd fs) → F a = some (.xd fs)
  b1 : Same γ.F0 (unl γ.lk F)
  b2 : ∀ a o, γ.H0 a = some o → ¬ γ.A0 a → unl γ.lk H a = some o
  b3 : ∀ a w, own a = some w → γ.A0 a ∨ γ.H0 a = none
  b4 : ∀ a o, F a = some o → (∃ u, γ.F0 a = some u) ∨ γ.A0 a ∨ γ.H0 a = none

/-- the static context of a body -/
structure Ctx where
  P : Program
  w : World
  G : Gx
  mg : Str → Option Value
  base : Heap
  N : List Str
  sc : Scope
  k : Nat
  pin : List Nat
  top : Bool
  hot : Bool
  lc : Str → Bool
structure CxOk (C : Ctx) (X : Cx) : Prop where
  p : X.prog = C.P
  w : X.w = C.w
  K : X.K = C.G.K
  mg : X.mg = C.mg
  base : X.base = C.base
  N : X.N = C.N
  sc : X.env.scope = C.sc
  calm : C.hot = false → X.calm = true
  room : C.hot = false → Room C.k X.A
  un : X.A.units + 200 < cLine
  nd : C.N.Nodup
  fn : ∀ x, C.lc x = true → X.env.scope.names.lookup x = some .cell → X.fn x = true
  po : PassesOwn (model X.prog X.w) X.A X.env X.xe
  top : C.top = true → X.stack = X.env :: X.outer ∧ X.env.frame = some X.env.locals ∧ X.ex = []

/-- an exception -/
def RepX (G : Gx) (F H : Hp) (x : Xc) (cls : Value) (d : Option Addr) : Prop := cls = .ref (G.cA x.c) ∧ (x.fs = [] → d = none) ∧ (x.fs ≠ [] → ∃ dd vs, d = some dd ∧ F dd = some (.xd ((G.cF x.c).zip vs)) ∧ vs.length = (G.cF x.c).length ∧ Reps G F x.fs vs)

/-- of an expression's outcome; T: what is told of its value -/
def OutE (G : Gx) (γ : Gh) (ρ : Vc.Env) (σ : L2.St) (W : WX) (Q : VK) (push : Gh → O → V → Gh) : R O → Prop
  | .ok o => ∀ v F H own, Sta G (push γ o v) F H own ρ σ → Q v H
  | .ex x => ∀ cls d F H own, Sta G γ F H own ρ σ → RepX G F H x cls d → W cls d σ H
  | .bad => False
def OutT (G : Gx) (γ : Gh) (ρ : Vc.Env) (σ : L2.St) (W : WX) (Q : Bool → Hp → Prop) : R Bool → Prop
  | .ok b => ∀ F H own, Sta G γ F H own ρ σ → Q b H
  | .ex x => ∀ cls d F H own, Sta G γ F H own ρ σ → RepX G F H x cls d → W cls d σ H
  | .bad => False
def Gh.pushTs (γ : Gh) (os : List O) (vs : List V) : Gh := { γ with tm := γ.tm ++ os.zip vs }
def Gh.pushWs (γ : Gh) (os : List O) (vs : List V) : Gh := { γ with wk := os.zip vs ++ γ.wk }
def OutA (G : Gx) (γ : Gh) (ρ : Vc.Env) (σ : L2.St) (W : WX) (Q : List V → Hp → Prop) (push : Gh → List O → List V → Gh) : R (List O) → Prop
  | .ok os => ∀ vs F H own, os.length = vs.length → Sta G (push γ os vs) F H own ρ σ → Q vs H
  | .ex x => ∀ cls d F H own, Sta G γ F H own ρ σ → RepX G F H x cls d → W cls d σ H
  | .bad => False

/-- its value is handed over -/
def VE (C : Ctx) (e : Expr) (f : E) : Prop := ∀ X, CxOk C X → ∀ W, Takes X W → ∃ t, PE X e t ∧ ∀ γ F H own ρ σ Q, Sta C.G γ F H own ρ σ → OutE C.G γ ρ σ W Q Gh.pushT (f ρ) → t σ H Q
/-- its value is looked at -/
def VP (C : Ctx) (e : Expr) (f : E) : Prop := ∀ X, CxOk C X → ∀ W, Takes X W → ∃ t, PE X e t ∧ ∀ γ F H own ρ σ Q, Sta C.G γ F H own ρ σ → OutE C.G γ ρ σ W Q Gh.pushW (f ρ) → t σ H Q
def VT (C : Ctx) (e : Expr) (f : T) : Prop := ∀ X, CxOk C X → ∀ W, Takes X W → ∃ t, PT X e t ∧ ∀ γ F H own ρ σ Q, Sta C.G γ F H own ρ σ → OutT C.G γ ρ σ W Q (f ρ) → t σ H Q
def VA (C : Ctx) (es : List Expr) (f : Es) : Prop := ∀ X, CxOk C X → ∀ W, Takes X W → ∃ t, PA X es t ∧ ∀ γ F H own ρ σ Q, Sta C.G γ F H own ρ σ → OutA C.G γ ρ σ W Q Gh.pushTs (f ρ) → t σ H Q
def VAP (C : Ctx) (es : List Expr) (f : Es) : Prop := ∀ X, CxOk C X → ∀ W, Takes X W → ∃ t, PA X es t ∧ ∀ γ F H own ρ σ Q, Sta C.G γ F H own ρ σ → OutA C.G γ ρ σ W Q Gh.pushWs (f ρ) → t σ H Q

def OutS (G : Gx) (γ : Gh) (W : WX) (D : Ends) : SR → Prop
  | .nx ρ => ∀ F H own σ, Sta G γ F H own ρ σ → D.nx σ H
  | .ret o ρ => ∀ v F H own σ, Sta G (γ.pushT o v) F H own ρ σ → D.rt v H
  | .brk ρ => ∀ F H own σ, Sta G γ F H own ρ σ → D.bk σ H
  | .ct ρ => ∀ F H own σ, Sta G γ F H own ρ σ → D.ct σ H
  | .ex x ρ => ∀ cls d F H own σ, Sta G γ F H own ρ σ → RepX G F H x cls d → W cls d σ H
  | .bad => False
structure GhOk (C : Ctx) (γ : Gh) : Prop where
  tm : γ.tm = []
  wk : γ.wk = []
  pn : γ.pins.map (·.1) = C.pin
  n : γ.n = C.N.length
  pl : γ.pl = []
/-- a statement; none is looked at, no temporaries stand -/
def VS (C : Ctx) (s : Stmt) (f : Sm) : Prop := ∀ X, CxOk C X → ∀ W, Takes X W → ∃ t, PS X s t ∧ ∀ γ F H own ρ σ D, GhOk C γ → Sta C.G γ F H own ρ σ → OutS C.G γ W D (f ρ) → t D σ H
def VB (C : Ctx) (ss : List Stmt) (f : Sm) : Prop := ∀ X, CxOk C X → ∀ W, Takes X W → ∃ t, PSs X ss t ∧ ∀ γ F H own ρ σ D, GhOk C γ → Sta C.G γ F H own ρ σ → OutS C.G γ W D (f ρ) → t D σ H
end Vs


/-! VState: the state relation grows, gets things pushed, gives values. -/
namespace Vs
open PySem PySem.Spec PyProof.Rows L2 Vc

theorem mem_lk {α : Type} {i : Nat} {c : α} : ∀ {l : List (Nat × α)}, l.lookup i = some c → (i, c) ∈ l
  | [], h => by simp at h
  | (j, d) :: r, h => by
    rw [List.lookup_cons] at h
    by_cases e : i = j
    · subst e
      simp at h
      subst h
      exact List.mem_cons_self
    · have q : (i == j) = false := by simpa using e
      rw [q] at h
      exact List.mem_cons_of_mem _ (mem_lk h)
theorem sz_line : sz = sizeLine := by rw [sizeLine_eq]; rfl

/-- the heap grows by new objects; some of these are frozen, some owned -/
structure Ext (F H : Hp) (own : Own) (F' H' : Hp) (own' : Own) : Prop where
  ff : Same F F'
  hh : Same H H'
  fh : Same F' H'
  oo : ∀ a w, own a = some w → own' a = some w
  on : ∀ a w, own' a = some w → own a = some w ∨ (H a = none ∧ F' a = none ∧ ∃ o, H' a = some o)
  fn : ∀ a o, F' a = some o → F a = some o ∨ H a = none
  xd : ∀ a fs, H' a = some (.xd fs) → F' a = some (.xd fs) ∨ H a = some (.xd fs)
theorem Ext.refl {F H : Hp} {own : Own} (h : Same F H) : Ext F H own F H own := ⟨.refl _, .refl _, h, fun _ _ e => e, fun _ _ e => .inl e, fun _ _ e => .inl e, fun _ _ e => .inr e⟩
theorem none_of_same {H H' : Hp} (h : Same H H') {a : Addr} (e : H' a = none) : H a = none := by
  cases q : H a with
  | none => rfl
  | some o => rw [h a o q] at e; cases e
theorem Ext.trans {F H F1 H1 F2 H2 : Hp} {own own1 own2 : Own} (x : Ext F H own F1 H1 own1) (y : Ext F1 H1 own1 F2 H2 own2) (nf : ∀ a w, own a = some w → F a = none ∧ ∃ o, H a = some o) : Ext F H own F2 H2 own2 where
  ff := x.ff.trans y.ff
  hh := x.hh.trans y.hh
  fh := y.fh
  oo := fun a w e => y.oo a w (x.oo a w e)
  on := fun a w e => by
    rcases y.on a w e with e1 | ⟨e1, e2, e3⟩
    · rcases x.on a w e1 with e4 | ⟨e4, e5, e6⟩
      · exact .inl e4
      · refine .inr ⟨e4, ?_, ?_⟩
        · cases q : F2 a with
          | none => rfl
          | some o =>
            rcases y.fn a o q with z | z
            · rw [z] at e5; cases e5
            · obtain ⟨u, hu⟩ := e6
              rw [z] at hu; cases hu
        · obtain ⟨u, hu⟩ := e6
          exact ⟨u, y.hh a u hu⟩
    · exact .inr ⟨none_of_same x.hh e1, e2, e3⟩
  fn := fun a o e => by
    rcases y.fn a o e with z | z
    · exact x.fn a o z
    · exact .inr (none_of_same x.hh z)
  xd := fun a fs e => by
    rcases y.xd a fs e with z | z
    · exact .inl z
    · rcases x.xd a fs z with z | z
      · exact .inl (y.ff _ _ z)
      · exact .inr z

section
variable {G : Gx} {γ : Gh} {F H F' H' : Hp} {own own' : Own} {ρ : Vc.Env} {σ : L2.St}

theorem RepO.ext (x : Ext F H own F' H' own') {o : O} {v : V} {w : Ow} (r : RepO G F H own o v w) : RepO G F' H' own' o v w :=
  RepO.mono x.ff o v w w (fun a τ y e1 e2 => ⟨x.oo _ _ e1, x.hh _ _ e2⟩) r
theorem unl_same {lk : List (Addr × HO)} {H H' : Hp} (h : Same H H') : Same (unl lk H) (unl lk H') := fun a o e => by
  unfold unl at e ⊢
  split
  · rename_i u q; rw [q] at e; exact e
  · rename_i q; rw [q] at e; exact h a o e
theorem unl_some {lk : List (Addr × HO)} {H : Hp} (h : ∀ a u, lk.lookup a = some u → ∃ o, H a = some (.frz o u)) {a : Addr} {o : HO} (e : unl lk H a = some o) : ∃ u, H a = some u := by
  unfold unl at e
  split at e
  · rename_i u q; obtain ⟨o', h1⟩ := h a u q; exact ⟨_, h1⟩
  · exact ⟨o, e⟩
theorem Sta.old (S : Sta G γ F H own ρ σ) {a : Addr} (e : H a = none) : γ.A0 a ∨ γ.H0 a = none := by
  rcases Classical.em (γ.A0 a) with h | h
  · exact .inl h
  · refine .inr ?_
    cases q : γ.H0 a with
    | none => rfl
    | some o =>
      obtain ⟨u, hu⟩ := unl_some (fun a u z => let ⟨o, h1, _⟩ := S.lk a u z; ⟨o, h1⟩) (S.b2 a o q h)
      rw [hu] at e; cases e
theorem Sta.grow (S : Sta G γ F H own ρ σ) (x : Ext F H own F' H' own') : Sta G γ F' H' own' ρ σ where
  fh := x.fh
  nf := fun a w e => by
    rcases x.on a w e with e1 | ⟨e1, e2, e3⟩
    · obtain ⟨n, o, ho⟩ := S.nf a w e1
      refine ⟨?_, o, x.hh _ _ ho⟩
      cases q : F' a with
      | none => rfl
      | some u =>
        rcases x.fn a u q with z | z
        · rw [n] at z; cases z
        · rw [ho] at z; cases z
    · exact ⟨e2, e3⟩
  sl := fun i o e => by
    obtain ⟨v, e1, r⟩ := S.sl i o e
    exact ⟨v, e1, r.ext x⟩
  al := fun i j k e => by
    obtain ⟨a, vs, v, l, e1, e2, e3, e4, e5⟩ := S.al i j k e
    exact ⟨a, vs, v, l, e1, x.hh _ _ e2, e3, e4, e5⟩
  ln := S.ln
  rn := S.rn
  pn := S.pn
  hd := fun p hp => Rep.keep x.ff _ _ (S.hd p hp)
  tm := fun k o v e => (S.tm k o v e).ext x
  wk := fun p hp => by
    obtain ⟨w, r, j⟩ := S.wk p hp
    exact ⟨w, r.ext x, j⟩
  pl := fun p hp => let ⟨a, b⟩ := S.pl p hp; ⟨a.keep x.hh, b⟩
  lk := fun a u e => let ⟨o, h1, h2⟩ := S.lk a u e; ⟨o, x.hh _ _ h1, x.ff _ _ h2⟩
  xd := fun a fs e => by
    rcases x.xd a fs e with z | z
    · exact z
    · exact x.ff _ _ (S.xd a fs z)
  b1 := S.b1.trans (unl_same x.ff)
  b2 := fun a o e n => unl_same x.hh _ _ (S.b2 a o e n)
  b3 := fun a w e => by
    rcases x.on a w e with e1 | ⟨e1, _, _⟩
    · exact S.b3 a w e1
    · exact S.old e1
  b4 := fun a o e => by
    rcases x.fn a o e with e1 | e1
    · exact S.b4 a o e1
    · exact .inr (S.old e1)
theorem Sta.pushT (S : Sta G γ F H own ρ σ) {o : O} {v : V} (r : RepO G F H own o v (.inr γ.tm.length, [])) : Sta G (γ.pushT o v) F H own ρ σ where
  fh := S.fh
  nf := S.nf
  sl := S.sl
  al := S.al
  ln := S.ln
  rn := S.rn
  pn := S.pn
  hd := S.hd
  tm := fun k o' v' e => by
    have e : (γ.tm ++ [(o, v)])[k]? = some (o', v') := e
    rw [List.getElem?_append] at e
    split at e
    · exact S.tm k o' v' e
    · rename_i h
      have hk : k - γ.tm.length = 0 := by
        cases q : k - γ.tm.length with
        | zero => rfl
        | succ n => rw [q] at e; simp at e
      have hk' : k = γ.tm.length := by omega
      rw [hk] at e
      simp at e
      obtain ⟨rfl, rfl⟩ := e
      rw [hk']
      exact r
  wk := S.wk
  pl := S.pl
  lk := S.lk
  xd := S.xd
  b1 := S.b1
  b2 := S.b2
  b3 := S.b3
  b4 := S.b4
theorem Sta.pushW (S : Sta G γ F H own ρ σ) {o : O} {v : V} {w : Ow} (r : RepO G F H own o v w) (hj : ∃ j, w.1 = .inl j) : Sta G (γ.pushW o v) F H own ρ σ where
  fh := S.fh
  nf := S.nf
  sl := S.sl
  al := S.al
  ln := S.ln
  rn := S.rn
  pn := S.pn
  hd := S.hd
  tm := S.tm
  wk := fun p hp => by
    rcases List.mem_cons.mp hp with rfl | hp
    · exact ⟨w, r, hj⟩
    · exact S.wk p hp
  pl := S.pl
  lk := S.lk
  xd := S.xd
  b1 := S.b1
  b2 := S.b2
  b3 := S.b3
  b4 := S.b4
theorem Sta.frzT (S : Sta G γ F H own ρ σ) {d : D} {v : V} (r : Rep G F d v) : Sta G (γ.pushT (.frz d) v) F H own ρ σ := S.pushT (by simpa only [RepO] using r)
theorem Sta.frzW (S : Sta G γ F H own ρ σ) {d : D} {v : V} (r : Rep G F d v) : Sta G (γ.pushW (.frz d) v) F H own ρ σ := S.pushW (w := (.inl 0, [])) (by simpa only [RepO] using r) ⟨0, rfl⟩
/-- fewer temporaries at the end, fewer looked at, fewer held -/
theorem Sta.less (S : Sta G γ F H own ρ σ) {γ' : Gh} (e0 : γ'.H0 = γ.H0) (e1 : γ'.F0 = γ.F0) (e2 : γ'.A0 = γ.A0) (e3 : ∀ p ∈ γ'.pins, p ∈ γ.pins) (e4 : ∀ p ∈ γ'.hd, p ∈ γ.hd) (e5 : ∀ (k : Nat) p, γ'.tm[k]? = some p → γ.tm[k]? = some p) (e6 : ∀ p ∈ γ'.wk, p ∈ γ.wk) (e7 : γ'.n = γ.n := by rfl) (e8 : γ'.lk = γ.lk := by rfl) (e9 : ∀ p ∈ γ'.pl, p ∈ γ.pl := by exact fun _ h => h) : Sta G γ' F H own ρ σ where
  fh := S.fh
  nf := S.nf
  sl := S.sl
  al := S.al
  ln := S.ln
  rn := by rw [e7]; exact S.rn
  pn := fun p hp => S.pn p (e3 p hp)
  hd := fun p hp => S.hd p (e4 p hp)
  tm := fun k o v e => S.tm k o v (e5 k _ e)
  wk := fun p hp => S.wk p (e6 p hp)
  pl := fun p hp => S.pl p (e9 p hp)
  lk := by rw [e8]; exact S.lk
  xd := S.xd
  b1 := by rw [e1, e8]; exact S.b1
  b2 := by rw [e0, e2, e8]; exact S.b2
  b3 := by rw [e0, e2]; exact S.b3
  b4 := by rw [e0, e1, e2]; exact S.b4
theorem Sta.popT {o : O} {v : V} (S : Sta G (γ.pushT o v) F H own ρ σ) : Sta G γ F H own ρ σ :=
  S.less rfl rfl rfl (fun _ h => h) (fun _ h => h) (fun k p e => by
    show (γ.tm ++ [(o, v)])[k]? = some p
    rw [List.getElem?_append_left ((List.getElem?_eq_some_iff.mp e).1)]
    exact e) (fun _ h => h)
theorem Sta.popW {o : O} {v : V} (S : Sta G (γ.pushW o v) F H own ρ σ) : Sta G γ F H own ρ σ :=
  S.less rfl rfl rfl (fun _ h => h) (fun _ h => h) (fun _ _ e => e) (fun p h => List.mem_cons_of_mem _ h)
theorem Sta.pushP (S : Sta G γ F H own ρ σ) {p : Nat × List Pk} {v : V} (r : AtPl H σ p v) (ow : ∃ o, ρ.s[p.1]? = some (some o) ∧ o.owned = true ∧ ∃ c, getP p.2 o = some c) : Sta G (γ.pushP p v) F H own ρ σ where
  fh := S.fh
  nf := S.nf
  sl := S.sl
  al := S.al
  ln := S.ln
  rn := S.rn
  pn := S.pn
  hd := S.hd
  tm := S.tm
  wk := S.wk
  pl := fun q hq => by
    rcases List.mem_cons.mp hq with rfl | hq
    · exact ⟨r, ow⟩
    · exact S.pl q hq
  lk := S.lk
  xd := S.xd
  b1 := S.b1
  b2 := S.b2
  b3 := S.b3
  b4 := S.b4
theorem Sta.topT {o : O} {v : V} (S : Sta G (γ.pushT o v) F H own ρ σ) : RepO G F H own o v (.inr γ.tm.length, []) :=
  S.tm _ o v (by show (γ.tm ++ [(o, v)])[γ.tm.length]? = _; simp)
theorem Sta.wkR (S : Sta G γ F H own ρ σ) (p : O × V) (h : p ∈ γ.wk) : ∃ w, RepO G F H own p.1 p.2 w := let ⟨w, r, _⟩ := S.wk p h; ⟨w, r⟩
theorem Sta.topW {o : O} {v : V} (S : Sta G (γ.pushW o v) F H own ρ σ) : ∃ w, RepO G F H own o v w := S.wkR (o, v) List.mem_cons_self
/-- a temporary that is only looked at from here on -/
def ownG (own : Own) (k n : Nat) : Own := fun a => match own a with
  | some (.inr j, τ) => if j = k then some (.inl n, τ) else some (.inr j, τ)
  | x => x
theorem ownG_some {k n : Nat} {a : Addr} {w : Ow} (h : ownG own k n a = some w) : ∃ w', own a = some w' := by
  unfold ownG at h
  split at h
  · rename_i e; exact ⟨_, e⟩
  · exact ⟨_, h⟩
theorem Sta.T2W {o : O} {v : V} (S : Sta G (γ.pushT o v) F H own ρ σ) : Sta G (γ.pushW o v) F H (ownG own γ.tm.length γ.n) ρ σ := by
  have S0 := S.popT
  have r := S.topT
  refine Sta.pushW (w := (.inl γ.n, [])) ?_ (RepO.mono (.refl _) o v _ _ (fun a τ y e1 e2 => ⟨by unfold ownG; rw [e1]; simp, e2⟩) r) ⟨_, rfl⟩
  exact {
    fh := S0.fh
    nf := fun a w e => let ⟨w', h⟩ := ownG_some e; S0.nf a w' h
    sl := fun j z e => by
      obtain ⟨u, e1, r⟩ := S0.sl j z e
      exact ⟨u, e1, RepO.mono (.refl _) z u _ _ (fun a τ y e1 e2 => ⟨by unfold ownG; rw [e1], e2⟩) r⟩
    al := S0.al
    ln := S0.ln
    rn := S0.rn
    pn := S0.pn
    hd := S0.hd
    tm := fun k o' v' e => by
      have hk := (List.getElem?_eq_some_iff.mp e).1
      exact RepO.mono (.refl _) o' v' _ _ (fun a τ y e1 e2 => ⟨by unfold ownG; rw [e1]; simp; omega, e2⟩) (S0.tm k o' v' e)
    wk := fun p hp => by
      obtain ⟨w, r, j, hj⟩ := S0.wk p hp
      refine ⟨w, RepO.mono (.refl _) p.1 p.2 _ _ (fun a τ y e1 e2 => ⟨by unfold ownG; rw [e1, hj], e2⟩) r, j, hj⟩
    pl := S0.pl
    lk := S0.lk
    xd := S0.xd
    b1 := S0.b1
    b2 := S0.b2
    b3 := fun a w e => let ⟨w', h⟩ := ownG_some e; S0.b3 a w' h
    b4 := S0.b4 }
theorem Sta.slot (S : Sta G γ F H own ρ σ) {i : Nat} {o : O} (e : ρ.get i = some o) : ∃ v, σ[i]? = some (some v) ∧ ∃ w, RepO G F H own o v w ∧ ∃ j, w.1 = .inl j := by
  unfold Env.get at e
  split at e
  · rename_i o' h
    cases e
    obtain ⟨v, e1, r⟩ := S.sl i _ h
    exact ⟨v, e1, _, r, _, rfl⟩
  · split at e
    · rename_i j k hl
      split at e
      · rename_i l hj
        have hm : (i, j, k) ∈ ρ.al := by
          exact mem_lk hl
        obtain ⟨a, vs, v, l', e1, e2, e3, e4, _⟩ := S.al i j k hm
        obtain ⟨v', e5, r⟩ := S.sl j _ hj
        rw [e1] at e5; cases e5
        simp only [RepO] at r
        obtain ⟨a', vs', e6, _, e7, t⟩ := r
        cases e6
        rw [e2] at e7; cases e7
        refine ⟨v, e4, ?_⟩
        have gen : ∀ (l : List O) (vs : List V) (w : Ow) (n k : Nat) (o : O) (v : V), RepOs G F H own l vs w n → l[k]? = some o → vs[k]? = some v → ∃ w', RepO G F H own o v w' ∧ w'.1 = w.1 := by
          intro l
          induction l with
          | nil => intro vs w n k o v r e _; simp at e
          | cons x l ih =>
            intro vs w n k o v r e1 e2
            simp only [RepOs] at r
            obtain ⟨y, ws, rfl, q, t⟩ := r
            cases k with
            | zero => simp at e1 e2; subst e1; subst e2; exact ⟨_, q, rfl⟩
            | succ k => exact ih ws w (n + 1) k o v t (by simpa using e1) (by simpa using e2)
        obtain ⟨w', r1, r2⟩ := gen _ _ _ _ _ _ _ t e e3
        exact ⟨w', r1, _, r2⟩
      · cases e
    · cases e
theorem RepO.frz_iff {d : D} {v : V} {w : Ow} : RepO G F H own (.frz d) v w ↔ Rep G F d v := by simp only [RepO]
end

/-! ### from one judgement to another -/
theorem VE.toP {C : Ctx} {e : Expr} {f : E} (h : VE C e f) : VP C e f := fun X hX W tk => by
  obtain ⟨t, ht, q⟩ := h X hX W tk
  refine ⟨t, ht, fun γ F H own ρ σ Q S o => q γ F H own ρ σ Q S ?_⟩
  unfold OutE at o ⊢
  split
  · rename_i o' e
    rw [e] at o
    exact fun v F H own S' => o v F H _ S'.T2W
  · rename_i x e
    rw [e] at o
    exact o
  · rename_i e
    rw [e] at o
    exact o
/-- it yields frozen data -/
def Fz (f : E) : Prop := ∀ ρ o, f ρ = .ok o → ∃ d, o = .frz d
theorem VP.toE {C : Ctx} {e : Expr} {f : E} (h : VP C e f) (z : Fz f) : VE C e f := fun X hX W tk => by
  obtain ⟨t, ht, q⟩ := h X hX W tk
  refine ⟨t, ht, fun γ F H own ρ σ Q S o => q γ F H own ρ σ Q S ?_⟩
  unfold OutE at o ⊢
  split
  · rename_i o' e
    rw [e] at o
    intro v F H own S'
    obtain ⟨d, rfl⟩ := z ρ _ e
    obtain ⟨w, r⟩ := S'.topW
    exact o v F H own (S'.popW.frzT (RepO.frz_iff.mp r))
  · rename_i x e
    rw [e] at o
    exact o
  · rename_i e
    rw [e] at o
    exact o
end Vs


/-! VExpr: names, constants, operators, tests, argument lists, calls of built-ins. -/
namespace Vs
open PySem PySem.Spec PyProof.Rows L2 Vc

theorem RepO.flatAny {G : Gx} {F H : Hp} {own : Own} {d : D} {v : V} {w : Ow} (r : Rep G F d v) : RepO G F H own (.frz d) v w := by simpa only [RepO] using r

/-! ### out of an outcome -/
section
variable {G : Gx} {γ : Gh} {ρ : Vc.Env} {σ : L2.St} {W : WX}
theorem OutE.ex_popW {x : Xc} {o : O} {v : V} (h : ∀ cls d F H own, Sta G γ F H own ρ σ → RepX G F H x cls d → W cls d σ H) : ∀ cls d F H own, Sta G (γ.pushW o v) F H own ρ σ → RepX G F H x cls d → W cls d σ H :=
  fun cls d F H own S r => h cls d F H own S.popW r
theorem OutE.ex_popT {x : Xc} {o : O} {v : V} (h : ∀ cls d F H own, Sta G γ F H own ρ σ → RepX G F H x cls d → W cls d σ H) : ∀ cls d F H own, Sta G (γ.pushT o v) F H own ρ σ → RepX G F H x cls d → W cls d σ H :=
  fun cls d F H own S r => h cls d F H own S.popT r
end

/-! ### names and constants -/
section
variable {C : Ctx}
theorem ve_frz {e : Expr} {d : D} {v : V} (h : ∀ X, CxOk C X → PE X e (tC v)) (r : ∀ F, Rep C.G F d v) : VE C e (eC d) := fun X hX W tk =>
  ⟨_, h X hX, fun γ F H own ρ σ Q S o => o v F H own (S.frzT (r F))⟩
theorem ve_int {i : Int} {j pos} : VE C (.Constant (.int i) j pos) (eC (.int i)) := ve_frz (v := .int i) (fun _ _ => pe_int) fun F => by simp [Rep]
theorem ve_bl {b : Bool} {j pos} : VE C (.Constant (.bool b) j pos) (eC (.bl b)) := ve_frz (v := .bl b) (fun _ _ => pe_bl) fun F => by simp [Rep]
theorem ve_non {j pos} : VE C (.Constant .none j pos) (eC .non) := ve_frz (v := .non) (fun _ _ => pe_non) fun F => by simp [Rep]
theorem ve_str {x : Str} {s : Tx} {j pos} (h : x = mk s) (hz : s.length ≤ sz := by decide) : VE C (.Constant (.str x) j pos) (eC (.str s)) := ve_frz (v := .str (mk s)) (fun _ _ => by subst h; exact pe_str) fun F => by simp [Rep, hz]
theorem vis_of {X : Cx} (hX : CxOk C X) {x : Str} (h : Vis C.sc x) : Vis X.env.scope x := by rw [hX.sc]; exact h
theorem vp_var {i : Nat} {x : Str} {pos : Pos} (hN : C.N[i]? = some x := by rfl) (hv : Vis C.sc x := by first | exact Or.inl rfl | exact Or.inr (Or.inl rfl) | exact Or.inr (Or.inr rfl)) (hd : (x == ("__debug__" : Str)) = false := by decide)
    (hcd : (x == ("__classdict__" : Str)) = false := by decide) : VP C (.Name x pos) (eVar i) := fun X hX W tk => by
  refine ⟨_, pe_var (i := i) (by rw [hX.N]; exact hN) (vis_of hX hv) hd hcd, fun γ F H own ρ σ Q S o => ?_⟩
  unfold eVar at o
  cases e : ρ.get i with
  | none => rw [e] at o; exact False.elim o
  | some x =>
    rw [e] at o
    obtain ⟨v, e1, w, r, j⟩ := S.slot e
    exact ⟨v, e1, o v F H own (S.pushW r j)⟩
theorem ve_var {i : Nat} {x : Str} {pos : Pos} (hN : C.N[i]? = some x := by rfl) (hv : Vis C.sc x := by first | exact Or.inl rfl | exact Or.inr (Or.inl rfl) | exact Or.inr (Or.inr rfl)) (hd : (x == ("__debug__" : Str)) = false := by decide)
    (hcd : (x == ("__classdict__" : Str)) = false := by decide) : VE C (.Name x pos) (eVarF i) := fun X hX W tk => by
  refine ⟨_, pe_var (i := i) (by rw [hX.N]; exact hN) (vis_of hX hv) hd hcd, fun γ F H own ρ σ Q S o => ?_⟩
  unfold eVarF at o
  cases e : ρ.get i with
  | none => rw [e] at o; exact False.elim o
  | some x =>
    rw [e] at o
    obtain ⟨v, e1, w, r, _⟩ := S.slot e
    cases x with
    | frz d => exact ⟨v, e1, o v F H own (S.frzT (RepO.frz_iff.mp r))⟩
    | _ => exact False.elim o
/-- a module's constant -/
theorem gl_of {X : Cx} (hX : CxOk C X) {x : Str} (h : C.sc.names.lookup x = some .globalImplicit) : Gl X x := by
  show X.env.scope.names.lookup x = _
  rw [hX.sc]; exact h
theorem ve_glob {x : Str} {d : D} {v : V} {u : Value} {pos : Pos} (hm : C.mg x = some u) (hr : RelV v u) (r : ∀ F, Rep C.G F d v) (hg : C.sc.names.lookup x = some .globalImplicit := by rfl) (hd : (x == ("__debug__" : Str)) = false := by decide) : VE C (.Name x pos) (eC d) :=
  ve_frz (v := v) (fun X hX => pe_glob (gl_of hX hg) (by rw [hX.mg]; exact hm) hr hd) r

/-! ### operators by their rules on values -/
abbrev NF (F H : Hp) (own : Own) : Prop := ∀ a w, own a = some w → F a = none ∧ ∃ o, H a = some o
/-- the rule r says that g is reckoned -/
def OSp (C : Ctx) (r : Cx → R2) (g : O → O → Option O) : Prop :=
  ∀ X, CxOk C X → ∀ (k : Nat) F H own x y v u w1 w2 z Q, Same F H → NF F H own → RepO C.G F H own x v w1 → RepO C.G F H own y u w2 → g x y = some z →
    (∀ v' F' H' own', Ext F H own F' H' own' → RepO C.G F' H' own' z v' (.inr k, []) → Q v' H') → r X v u H Q
theorem bin_core {ta tb : TE} {X : Cx} (hX : CxOk C X) {W : WX} {fa fb : E} {r : Cx → R2} {g : O → O → Option O} (hs : OSp C r g)
    (qa : ∀ γ F H own ρ σ Q, Sta C.G γ F H own ρ σ → OutE C.G γ ρ σ W Q Gh.pushW (fa ρ) → ta σ H Q) (qb : ∀ γ F H own ρ σ Q, Sta C.G γ F H own ρ σ → OutE C.G γ ρ σ W Q Gh.pushW (fb ρ) → tb σ H Q) :
    ∀ γ F H own ρ σ Q, Sta C.G γ F H own ρ σ → OutE C.G γ ρ σ W Q Gh.pushT (eBin g fa fb ρ) → tOp (r X) ta tb σ H Q := fun γ F H own ρ σ Q S o => by
  refine qa γ F H own ρ σ _ S ?_
  unfold eBin at o
  cases e1 : fa ρ with
  | bad => rw [e1] at o; exact False.elim o
  | ex x => rw [e1] at o; exact o
  | ok x =>
    rw [e1] at o
    intro v F1 H1 own1 S1
    refine qb (γ.pushW x v) F1 H1 own1 ρ σ _ S1 ?_
    cases e2 : fb ρ with
    | bad => simp only [R.bind_ok, e2] at o; exact False.elim o
    | ex y => simp only [R.bind_ok, e2] at o; exact OutE.ex_popW o
    | ok y =>
      simp only [R.bind_ok, e2] at o
      intro u F2 H2 own2 S2
      cases e3 : g x y with
      | none => rw [e3] at o; exact False.elim o
      | some z =>
        rw [e3] at o
        obtain ⟨w1, r1⟩ := S2.wkR (x, v) (List.mem_cons_of_mem _ List.mem_cons_self)
        obtain ⟨w2, r2⟩ := S2.topW
        exact hs X hX γ.tm.length F2 H2 own2 x y v u w1 w2 z Q S2.fh S2.nf r1 r2 e3 fun v' F' H' own' x' r' => o v' F' H' own' ((S2.popW.popW.grow x').pushT r')
theorem ve_bin {op : Operator} {a b : Expr} {pos : Pos} {fa fb : E} {r : Cx → R2} {g : O → O → Option O} (ho : ∀ X, CxOk C X → OpR X (binaryOp op) (r X)) (hs : OSp C r g) (ha : VP C a fa) (hb : VP C b fb) : VE C (.BinOp a op b pos) (eBin g fa fb) := fun X hX W tk => by
  obtain ⟨ta, pa, qa⟩ := ha X hX W tk
  obtain ⟨tb, pb, qb⟩ := hb X hX W tk
  exact ⟨_, pe_op (ho X hX) pa pb, bin_core hX hs qa qb⟩
theorem ve_cmp {op : CmpOp} {a b : Expr} {pos : Pos} {fa fb : E} {r : Cx → R2} {g : O → O → Option O} (ho : ∀ X, CxOk C X → OpR X (compareOp op) (r X)) (hs : OSp C r g) (ha : VP C a fa) (hb : VP C b fb) (hm : behindInMarks op b = false) : VE C (.Compare a [op] [b] pos) (eBin g fa fb) := fun X hX W tk => by
  obtain ⟨ta, pa, qa⟩ := ha X hX W tk
  obtain ⟨tb, pb, qb⟩ := hb X hX W tk
  exact ⟨_, pe_cmpR (ho X hX) pa pb hm, bin_core hX hs qa qb⟩
theorem rep_bl {G : Gx} {F : Hp} {b : Bool} {v : V} : Rep G F (.bl b) v ↔ v = .bl b := by simp only [Rep]
theorem vt_cmp {op : CmpOp} {a b : Expr} {pos : Pos} {fa fb : E} {r : Cx → R2} {g : O → O → Option O} (ho : ∀ X, CxOk C X → OpR X (compareOp op) (r X)) (hs : OSp C r g) (ha : VP C a fa) (hb : VP C b fb) (hm : behindInMarks op b = false) : VT C (.Compare a [op] [b] pos) (tBl (eBin g fa fb)) := fun X hX W tk => by
  obtain ⟨ta, pa, qa⟩ := ha X hX W tk
  obtain ⟨tb, pb, qb⟩ := hb X hX W tk
  refine ⟨_, pt_cmpR (ho X hX) pa pb hm, fun γ F H own ρ σ Q S o => bin_core hX hs qa qb γ F H own ρ σ _ S ?_⟩
  unfold tBl at o
  cases e1 : eBin g fa fb ρ with
  | bad => rw [e1] at o; exact False.elim o
  | ex x => rw [e1] at o; exact o
  | ok x =>
    rw [e1] at o
    intro v F1 H1 own1 S1
    simp only [R.bind_ok] at o
    split at o
    · rename_i b
      exact ⟨b, rep_bl.mp (RepO.frz_iff.mp S1.topT), o F1 H1 own1 S1.popT⟩
    · exact False.elim o
/-- a value that is a truth, as a test -/
theorem vt_val {e : Expr} {f : E} (h : VP C e f) (he : ∀ env whole, isTrue e env whole = (do let v ← whole; standAt e.pos; holding [v] (truthy v)) := by intro _ _; rfl) : VT C e (tBl f) := fun X hX W tk => by
  obtain ⟨ta, pa, qa⟩ := h X hX W tk
  refine ⟨_, pt_val pa (he _), fun γ F H own ρ σ Q S o => qa γ F H own ρ σ _ S ?_⟩
  unfold tBl at o
  cases e1 : f ρ with
  | bad => rw [e1] at o; exact False.elim o
  | ex x => rw [e1] at o; exact o
  | ok x =>
    rw [e1] at o
    intro v F1 H1 own1 S1
    simp only [R.bind_ok] at o
    split at o
    · rename_i b
      obtain ⟨w, r⟩ := S1.topW
      exact ⟨b, rep_bl.mp (RepO.frz_iff.mp r), o F1 H1 own1 S1.popW⟩
    · exact False.elim o
theorem reps_isEmpty {G : Gx} {F : Hp} : ∀ {l : List D} {vs : List V}, Reps G F l vs → vs.isEmpty = l.isEmpty
  | [], vs, r => by simp only [Reps] at r; subst r; rfl
  | d :: l, vs, r => by simp only [Reps] at r; obtain ⟨v, ws, rfl, _⟩ := r; rfl
theorem repK_isEmpty {G : Gx} {F : Hp} : ∀ {l : List (Ky × D)} {vs : List (Key × V)}, RepK G F l vs → vs.isEmpty = l.isEmpty
  | [], vs, r => by simp only [RepK] at r; subst r; rfl
  | d :: l, vs, r => by simp only [RepK] at r; obtain ⟨v, ws, rfl, _⟩ := r; rfl
theorem repOs_isEmpty {G : Gx} {F H : Hp} {own : Own} {w : Ow} {k : Nat} : ∀ {l : List O} {vs : List V}, RepOs G F H own l vs w k → vs.isEmpty = l.isEmpty
  | [], vs, r => by simp only [RepOs] at r; subst r; rfl
  | d :: l, vs, r => by simp only [RepOs] at r; obtain ⟨v, ws, rfl, _⟩ := r; rfl
theorem len_mk (s : Tx) : (mk s).length = s.length := by simp [mk, Str.length]
/-- truth, of a locked dict too -/
def TruV2 (K : PySem.W.Frag) (x : V) (H : Hp) (k : Bool) : Prop := TruV K x H k ∨ ∃ p kvs, x = .ref p ∧ Rd H p (.dK kvs) ∧ k = !kvs.isEmpty
theorem tru_ok2 {X : Cx} : TruR X (fun x H Q => ∃ k, TruV2 X.K x H k ∧ Q k H) := by
  intro pins s σ H x v Q I rx h
  obtain ⟨k, e, q⟩ := h
  rcases e with e | ⟨p, kvs, rfl, e, rfl⟩
  · exact tru_ok pins s σ H x v Q I rx ⟨k, e, q⟩
  · cases rx
    exact d_truth I e fun s' I' => ⟨H, I', q⟩
theorem pt_truth2 {X : Cx} {a : Expr} {ta : TE} (ha : PE X a ta) (he : ∀ whole, isTrue a X.env whole = (do let v ← whole; standAt a.pos; holding [v] (truthy v))) :
    PT X a (fun σ H Q => ta σ H fun x H' => ∃ k, TruV2 X.K x H' k ∧ Q k H') := by
  refine ⟨fun pins s σ H Q I h => ?_⟩
  exact isTrue_plain (thn (ha.run pins s σ H _ I h) fun v s1 ⟨x, H1, I1, r1, q1⟩ => tru_ok2 pins s1 σ H1 x v Q I1 r1 q1) (he _)
theorem truV_of {K : PySem.W.Frag} {G : Gx} (hK : K = G.K) {F H : Hp} {own : Own} (fh : Same F H) {x : O} {v : V} {w : Ow} {k : Bool} (r : RepO G F H own x v w) (h : truO x = some k) : TruV2 K v H k := by
  subst hK
  cases x with
  | frz d =>
    simp only [RepO] at r
    cases d with
    | non => simp only [Rep] at r; subst r; simp only [truO, Option.some.injEq] at h; exact .inl h.symm
    | bl b => simp only [Rep] at r; subst r; simp only [truO, Option.some.injEq] at h; exact .inl h.symm
    | int b => simp only [Rep] at r; subst r; simp only [truO, Option.some.injEq] at h; exact .inl h.symm
    | str s =>
      simp only [Rep] at r
      obtain ⟨rfl, hz⟩ := r
      simp only [truO, Option.some.injEq] at h
      refine .inl ⟨by rw [len_mk, ← sz_line]; exact hz, ?_⟩
      rw [len_mk, ← h]
      cases s <;> simp
      omega
    | tup l =>
      simp only [Rep] at r
      obtain ⟨a, vs, rfl, q, t⟩ := r
      simp only [truO, Option.some.injEq] at h
      exact .inl (.inr (.inl ⟨vs, SqT.of (fh _ _ q), by rw [reps_isEmpty t]; exact h.symm⟩))
    | lst l =>
      simp only [Rep] at r
      obtain ⟨a, vs, rfl, q, t⟩ := r
      simp only [truO, Option.some.injEq] at h
      exact .inl (.inl ⟨vs, SqL.of (fh _ _ q), by rw [reps_isEmpty t]; exact h.symm⟩)
    | scr l =>
      simp only [Rep] at r
      obtain ⟨a, rfl, q⟩ := r
      simp only [truO, Option.some.injEq] at h
      refine .inl (.inl ⟨_, SqL.keep fh q, ?_⟩)
      rw [← h]
      cases l <;> rfl
    | dk l =>
      simp only [Rep] at r
      obtain ⟨a, vs, rfl, q, t⟩ := r
      simp only [truO, Option.some.injEq] at h
      exact .inr ⟨a, vs, rfl, Rd.keep fh q, by rw [repK_isEmpty t]; exact h.symm⟩
    | _ => simp [truO] at h
  | lst l =>
    simp only [RepO] at r
    obtain ⟨a, vs, rfl, _, q, t⟩ := r
    simp only [truO, Option.some.injEq] at h
    exact .inl (.inl ⟨vs, SqL.of q, by rw [reps_isEmpty t]; exact h.symm⟩)
  | nl l =>
    simp only [RepO] at r
    obtain ⟨a, vs, rfl, _, q, t⟩ := r
    simp only [truO, Option.some.injEq] at h
    exact .inl (.inl ⟨vs, SqL.of q, by rw [repOs_isEmpty t]; exact h.symm⟩)
  | dk l =>
    simp only [RepO] at r
    obtain ⟨a, vs, rfl, _, q, t⟩ := r
    simp only [truO, Option.some.injEq] at h
    exact .inl (.inr (.inr ⟨vs, q, by rw [repK_isEmpty t]; exact h.symm⟩))
  | _ => simp [truO] at h
/-- any value, by its truth -/
theorem vt_truth {e : Expr} {f : E} (h : VP C e f) (he : ∀ env whole, isTrue e env whole = (do let v ← whole; standAt e.pos; holding [v] (truthy v)) := by intro _ _; rfl) : VT C e (tOf f) := fun X hX W tk => by
  obtain ⟨ta, pa, qa⟩ := h X hX W tk
  refine ⟨_, pt_truth2 pa (he _), fun γ F H own ρ σ Q S o => qa γ F H own ρ σ _ S ?_⟩
  unfold tOf at o
  cases e1 : f ρ with
  | bad => rw [e1] at o; exact False.elim o
  | ex x => rw [e1] at o; exact o
  | ok x =>
    rw [e1] at o
    intro v F1 H1 own1 S1
    simp only [R.bind_ok] at o
    cases e2 : truO x with
    | none => rw [e2] at o; exact False.elim o
    | some k =>
      rw [e2] at o
      obtain ⟨w, r⟩ := S1.topW
      exact ⟨k, truV_of hX.K S1.fh r e2, o F1 H1 own1 S1.popW⟩

/-! ### not, and, or, if -/
theorem vt_not {a : Expr} {f : T} {pos : Pos} (h : VT C a f) : VT C (.UnaryOp .Not a pos) (tNot f) := fun X hX W tk => by
  obtain ⟨ta, pa, qa⟩ := h X hX W tk
  refine ⟨_, pt_not pa, fun γ F H own ρ σ Q S o => qa γ F H own ρ σ _ S ?_⟩
  unfold Vc.tNot at o
  cases e1 : f ρ <;> rw [e1] at o <;> exact o
/-- a test, whatever its whole is -/
def VW (C : Ctx) (e : Expr) (f : T) : Prop := ∀ X, CxOk C X → ∀ W, Takes X W → ∃ t, PW X e t ∧ ∀ γ F H own ρ σ Q, Sta C.G γ F H own ρ σ → OutT C.G γ ρ σ W Q (f ρ) → t σ H Q
theorem VW.pt {e : Expr} {f : T} (h : VW C e f) : VT C e f := fun X hX W tk => by
  obtain ⟨t, p, q⟩ := h X hX W tk
  exact ⟨t, p.pt, q⟩
theorem vw_and1 {a : Expr} {f : T} {pos : Pos} (h : VT C a f) : VW C (.BoolOp .And [a] pos) f := fun X hX W tk => by
  obtain ⟨t, p, q⟩ := h X hX W tk
  exact ⟨t, pw_and1 p, q⟩
theorem vw_or1 {a : Expr} {f : T} {pos : Pos} (h : VT C a f) : VW C (.BoolOp .Or [a] pos) f := fun X hX W tk => by
  obtain ⟨t, p, q⟩ := h X hX W tk
  exact ⟨t, pw_or1 p, q⟩
theorem vw_and {a b : Expr} {r : List Expr} {f g : T} {pos : Pos} (h : VT C a f) (h2 : VW C (.BoolOp .And (b :: r) pos) g) : VW C (.BoolOp .And (a :: b :: r) pos) (tAnd f g) := fun X hX W tk => by
  obtain ⟨t, p, q⟩ := h X hX W tk
  obtain ⟨t2, p2, q2⟩ := h2 X hX W tk
  refine ⟨_, pw_and p p2, fun γ F H own ρ σ Q S o => q γ F H own ρ σ _ S ?_⟩
  unfold Vc.tAnd at o
  cases e1 : f ρ with
  | bad => rw [e1] at o; exact False.elim o
  | ex x => rw [e1] at o; exact o
  | ok c =>
    rw [e1] at o
    simp only [R.bind_ok] at o
    intro F1 H1 own1 S1
    cases c with
    | true => exact q2 γ F1 H1 own1 ρ σ Q S1 (by simpa using o)
    | false => exact (show OutT C.G γ ρ σ W Q (.ok false) by simpa using o) F1 H1 own1 S1
theorem vw_or {a b : Expr} {r : List Expr} {f g : T} {pos : Pos} (h : VT C a f) (h2 : VW C (.BoolOp .Or (b :: r) pos) g) : VW C (.BoolOp .Or (a :: b :: r) pos) (tOr f g) := fun X hX W tk => by
  obtain ⟨t, p, q⟩ := h X hX W tk
  obtain ⟨t2, p2, q2⟩ := h2 X hX W tk
  refine ⟨_, pw_or p p2, fun γ F H own ρ σ Q S o => q γ F H own ρ σ _ S ?_⟩
  unfold Vc.tOr at o
  cases e1 : f ρ with
  | bad => rw [e1] at o; exact False.elim o
  | ex x => rw [e1] at o; exact o
  | ok c =>
    rw [e1] at o
    simp only [R.bind_ok] at o
    intro F1 H1 own1 S1
    cases c with
    | false => exact q2 γ F1 H1 own1 ρ σ Q S1 (by simpa using o)
    | true => exact (show OutT C.G γ ρ σ W Q (.ok true) by simpa using o) F1 H1 own1 S1
theorem ve_one {a : Expr} {f : E} {op} {pos : Pos} (h : VE C a f) : VE C (.BoolOp op [a] pos) f := fun X hX W tk => by
  obtain ⟨t, p, q⟩ := h X hX W tk
  exact ⟨t, pe_one p, q⟩
theorem ve_and {a b : Expr} {r : List Expr} {f g : E} {pos : Pos} (h : VP C a f) (h2 : VE C (.BoolOp .And (b :: r) pos) g) : VE C (.BoolOp .And (a :: b :: r) pos) (eAnd f g) := fun X hX W tk => by
  obtain ⟨t, p, q⟩ := h X hX W tk
  obtain ⟨t2, p2, q2⟩ := h2 X hX W tk
  refine ⟨_, pe_and p p2, fun γ F H own ρ σ Q S o => q γ F H own ρ σ _ S ?_⟩
  unfold eAnd at o
  cases e1 : f ρ with
  | bad => rw [e1] at o; exact False.elim o
  | ex x => rw [e1] at o; exact o
  | ok x =>
    rw [e1] at o
    simp only [R.bind_ok] at o
    intro v F1 H1 own1 S1
    obtain ⟨w, rv⟩ := S1.topW
    split at o
    · exact ⟨true, rep_bl.mp (RepO.frz_iff.mp rv), iteT (q2 γ F1 H1 own1 ρ σ Q S1.popW o)⟩
    · exact ⟨false, rep_bl.mp (RepO.frz_iff.mp rv), iteF (o (.bl false) F1 H1 own1 (S1.popW.frzT (rep_bl.mpr rfl)))⟩
    · exact False.elim o
theorem ve_or {a b : Expr} {r : List Expr} {f g : E} {pos : Pos} (h : VP C a f) (h2 : VE C (.BoolOp .Or (b :: r) pos) g) : VE C (.BoolOp .Or (a :: b :: r) pos) (eOr f g) := fun X hX W tk => by
  obtain ⟨t, p, q⟩ := h X hX W tk
  obtain ⟨t2, p2, q2⟩ := h2 X hX W tk
  refine ⟨_, pe_or p p2, fun γ F H own ρ σ Q S o => q γ F H own ρ σ _ S ?_⟩
  unfold eOr at o
  cases e1 : f ρ with
  | bad => rw [e1] at o; exact False.elim o
  | ex x => rw [e1] at o; exact o
  | ok x =>
    rw [e1] at o
    simp only [R.bind_ok] at o
    intro v F1 H1 own1 S1
    obtain ⟨w, rv⟩ := S1.topW
    split at o
    · exact ⟨false, rep_bl.mp (RepO.frz_iff.mp rv), iteF (q2 γ F1 H1 own1 ρ σ Q S1.popW o)⟩
    · exact ⟨true, rep_bl.mp (RepO.frz_iff.mp rv), iteT (o (.bl true) F1 H1 own1 (S1.popW.frzT (rep_bl.mpr rfl)))⟩
    · exact False.elim o
theorem ve_not {a : Expr} {f : E} {pos : Pos} (h : VP C a f) : VE C (.UnaryOp .Not a pos) (eNot f) := fun X hX W tk => by
  obtain ⟨t, p, q⟩ := h X hX W tk
  refine ⟨_, pe_not p, fun γ F H own ρ σ Q S o => q γ F H own ρ σ _ S ?_⟩
  unfold eNot at o
  cases e1 : f ρ with
  | bad => rw [e1] at o; exact False.elim o
  | ex x => rw [e1] at o; exact o
  | ok x =>
    rw [e1] at o
    simp only [R.bind_ok] at o
    intro v F1 H1 own1 S1
    obtain ⟨w, rv⟩ := S1.topW
    split at o
    · rename_i b
      exact ⟨b, rep_bl.mp (RepO.frz_iff.mp rv), o (.bl (!b)) F1 H1 own1 (S1.popW.frzT (rep_bl.mpr rfl))⟩
    · exact False.elim o
theorem ve_if {c a b : Expr} {t : T} {f g : E} {pos : Pos} (hc : VT C c t) (ha : VE C a f) (hb : VE C b g) : VE C (.IfExp c a b pos) (eIf t f g) := fun X hX W tk => by
  obtain ⟨tc, pc, qc⟩ := hc X hX W tk
  obtain ⟨ta, pa, qa⟩ := ha X hX W tk
  obtain ⟨tb, pb, qb⟩ := hb X hX W tk
  refine ⟨_, pe_ifExp pc pa pb, fun γ F H own ρ σ Q S o => qc γ F H own ρ σ _ S ?_⟩
  unfold eIf at o
  cases e1 : t ρ with
  | bad => rw [e1] at o; exact False.elim o
  | ex x => rw [e1] at o; exact o
  | ok c =>
    rw [e1] at o
    simp only [R.bind_ok] at o
    intro F1 H1 own1 S1
    cases c with
    | true => exact iteT (qa γ F1 H1 own1 ρ σ Q S1 (by simpa using o))
    | false => exact iteF (qb γ F1 H1 own1 ρ σ Q S1 (by simpa using o))
theorem ve_neg {a : Expr} {f : E} {pos : Pos} (h : VP C a f) : VE C (.UnaryOp .USub a pos) (eUn opNeg f) := fun X hX W tk => by
  obtain ⟨t, p, q⟩ := h X hX W tk
  refine ⟨_, pe_un un_neg p, fun γ F H own ρ σ Q S o => q γ F H own ρ σ _ S ?_⟩
  unfold eUn at o
  cases e1 : f ρ with
  | bad => rw [e1] at o; exact False.elim o
  | ex x => rw [e1] at o; exact o
  | ok x =>
    rw [e1] at o
    simp only [R.bind_ok] at o
    intro v F1 H1 own1 S1
    obtain ⟨w, rv⟩ := S1.topW
    cases e2 : opNeg x with
    | none => rw [e2] at o; exact False.elim o
    | some z =>
      rw [e2] at o
      unfold opNeg at e2
      split at e2
      · rename_i i
        cases e2
        have e3 := RepO.frz_iff.mp rv
        simp only [Rep] at e3
        exact ⟨i, e3, o _ F1 H1 own1 (S1.popW.frzT (by simp [Rep]))⟩
      · cases e2

/-! ### argument lists -/
theorem va_nil : VA C [] esNil := fun X hX W tk => ⟨_, pa_nil, fun γ F H own ρ σ Q S o => o [] F H own rfl (S.less rfl rfl rfl (fun _ h => h) (fun _ h => h) (fun k p e => by simpa [Gh.pushTs] using e) (fun _ h => h))⟩
theorem va_cons {e : Expr} {es : List Expr} {f : E} {g : Es} (h : VE C e f) (h2 : VA C es g) (hs : ∀ env, starEach (e :: es) env = (false, eval e env) :: starEach es env := by intro _; rfl) : VA C (e :: es) (esCons f g) := fun X hX W tk => by
  obtain ⟨t, p, q⟩ := h X hX W tk
  obtain ⟨t2, p2, q2⟩ := h2 X hX W tk
  refine ⟨_, pa_cons p p2 (hs _), fun γ F H own ρ σ Q S o => q γ F H own ρ σ _ S ?_⟩
  unfold esCons at o
  cases e1 : f ρ with
  | bad => rw [e1] at o; exact False.elim o
  | ex x => rw [e1] at o; exact o
  | ok x =>
    rw [e1] at o
    simp only [R.bind_ok] at o
    intro v F1 H1 own1 S1
    refine q2 (γ.pushT x v) F1 H1 own1 ρ σ _ S1 ?_
    cases e2 : g ρ with
    | bad => simp only [e2] at o; exact False.elim o
    | ex y => simp only [e2] at o; exact OutE.ex_popT o
    | ok xs =>
      simp only [R.bind_ok, e2] at o
      intro vs F2 H2 own2 hl S2
      refine o (v :: vs) F2 H2 own2 (by simp [hl]) (S2.less rfl rfl rfl (fun _ h => h) (fun _ h => h) (fun k p e => ?_) (fun _ h => h))
      simpa [Gh.pushTs, Gh.pushT, List.append_assoc] using e
theorem vap_nil : VAP C [] esNil := fun X hX W tk => ⟨_, pa_nil, fun γ F H own ρ σ Q S o => o [] F H own rfl (S.less rfl rfl rfl (fun _ h => h) (fun _ h => h) (fun k p e => e) (fun p h => by simpa [Gh.pushWs] using h))⟩
theorem vap_cons {e : Expr} {es : List Expr} {f : E} {g : Es} (h : VP C e f) (h2 : VAP C es g) (hs : ∀ env, starEach (e :: es) env = (false, eval e env) :: starEach es env := by intro _; rfl) : VAP C (e :: es) (esCons f g) := fun X hX W tk => by
  obtain ⟨t, p, q⟩ := h X hX W tk
  obtain ⟨t2, p2, q2⟩ := h2 X hX W tk
  refine ⟨_, pa_cons p p2 (hs _), fun γ F H own ρ σ Q S o => q γ F H own ρ σ _ S ?_⟩
  unfold esCons at o
  cases e1 : f ρ with
  | bad => rw [e1] at o; exact False.elim o
  | ex x => rw [e1] at o; exact o
  | ok x =>
    rw [e1] at o
    simp only [R.bind_ok] at o
    intro v F1 H1 own1 S1
    refine q2 (γ.pushW x v) F1 H1 own1 ρ σ _ S1 ?_
    cases e2 : g ρ with
    | bad => simp only [e2] at o; exact False.elim o
    | ex y => simp only [e2] at o; exact OutE.ex_popW o
    | ok xs =>
      simp only [R.bind_ok, e2] at o
      intro vs F2 H2 own2 hl S2
      refine o (v :: vs) F2 H2 own2 (by simp [hl]) (S2.less rfl rfl rfl (fun _ h => h) (fun _ h => h) (fun k p e => e) (fun p h => ?_))
      simp only [Gh.pushWs, Gh.pushW, List.zip_cons_cons, List.cons_append, List.mem_cons, List.mem_append] at h ⊢
      rcases h with h | h | h
      · exact .inr (.inl h)
      · exact .inl h
      · exact .inr (.inr h)
end
end Vs


/-! VOp: what the operators and built-ins reckon, on plain data. -/
namespace Vc

def O.its : O → Option (List D)
  | .frz (.lst l) => some l
  | .lst l => some l
  | _ => none
def bigI (i : Int) : Bool := decide (-(2 ^ 64) < i) && decide (i < 2 ^ 64)
def opAdd : O → O → Option O
  | .frz (.int i), .frz (.int j) => some (.frz (.int (i + j)))
  | .frz (.str a), .frz (.str b) => if a.length + b.length ≤ sz then some (.frz (.str (a ++ b))) else none
  | .frz (.tup a), .frz (.tup b) => if !a.isEmpty && !b.isEmpty && decide (a.length + b.length ≤ sz) then some (.frz (.tup (a ++ b))) else none
  | .frz (.lst a), .frz (.lst b) => if a.length + b.length ≤ sz then some (.lst (a ++ b)) else none
  | .lst a, .frz (.lst b) => if a.length + b.length ≤ sz then some (.lst (a ++ b)) else none
  | .frz (.lst a), .lst b => if a.length + b.length ≤ sz then some (.lst (a ++ b)) else none
  | .lst a, .lst b => if a.length + b.length ≤ sz then some (.lst (a ++ b)) else none
  | _, _ => none
def opSub : O → O → Option O
  | .frz (.int i), .frz (.int j) => some (.frz (.int (i - j)))
  | _, _ => none
def opMul : O → O → Option O
  | .frz (.int i), .frz (.int j) => if bigI i || bigI j then some (.frz (.int (i * j))) else none
  | .lst a, .frz (.int k) => if decide (-(2 ^ 63) ≤ k) && decide (k < 2 ^ 63) && decide (a.length * k.toNat ≤ sz) then some (.lst (List.replicate k.toNat a).flatten) else none
  | _, _ => none
def opDiv : O → O → Option O
  | .frz (.int i), .frz (.int j) => if 0 < j && j < 1073741824 then some (.frz (.int (i / j))) else none
  | _, _ => none
def opMod : O → O → Option O
  | .frz (.int i), .frz (.int j) => if 0 < j then some (.frz (.int (i % j))) else none
  | _, _ => none
def opPow : O → O → Option O
  | .frz (.int i), .frz (.int j) => if decide (0 ≤ j) && decide (j ≤ 1000000) && decide (i.natAbs < 2 ^ 64) then some (.frz (.int (i ^ j.toNat))) else none
  | _, _ => none
def cmpI (p : Int → Int → Bool) : O → O → Option O
  | .frz (.int i), .frz (.int j) => some (.frz (.bl (p i j)))
  | _, _ => none
def opLe : O → O → Option O := cmpI fun i j => decide (i ≤ j)
def opGt : O → O → Option O := cmpI fun i j => decide (j < i)
def opGe : O → O → Option O := cmpI fun i j => decide (j ≤ i)

/-! ### == -/
mutual
def eqD : D → D → Bool
  | .non, d => match d with | .non => true | _ => false
  | .bl a, d => match d with | .bl b => a == b | .int j => (if a then 1 else 0) == j | _ => false
  | .int i, d => match d with | .int j => i == j | .bl b => i == (if b then 1 else 0) | _ => false
  | .str s, d => match d with | .str t => s == t | _ => false
  | .tup l, d => match d with | .tup m => eqDs l m | _ => false
  | .lst l, d => match d with | .lst m => eqDs l m | _ => false
  | _, _ => false
def eqDs : List D → List D → Bool
  | [], m => match m with | [] => true | _ :: _ => false
  | x :: xs, m => match m with | [] => false | y :: ys => eqD x y && eqDs xs ys
end
mutual
/-- data that == takes, not too deep -/
def okE : Nat → D → Bool
  | _, .non => true
  | _, .bl _ => true
  | _, .int _ => true
  | _, .str s => s.all (· < 1114112)
  | n + 1, .tup l => okEs n l
  | n + 1, .lst l => okEs n l
  | _, _ => false
def okEs : Nat → List D → Bool
  | _, [] => true
  | n, d :: r => okE n d && okEs n r
end
def eqO (x y : O) : Option Bool := match x, y with
  | .frz (.str a), .frz (.str b) => some (a == b)
  | x, y => if okE 12 x.toD && okE 12 y.toD then some (eqD x.toD y.toD) else none
def opEq (x y : O) : Option O := (eqO x y).map fun b => .frz (.bl b)
def opNe (x y : O) : Option O := (eqO x y).map fun b => .frz (.bl (!b))
def opIsN (x y : O) : Option O := match y, x with
  | .frz .non, .frz .non => some (.frz (.bl true))
  | .frz .non, _ => some (.frz (.bl false))
  | _, _ => none
def opNotN (x y : O) : Option O := match y, x with
  | .frz .non, .frz .non => some (.frz (.bl false))
  | .frz .non, _ => some (.frz (.bl true))
  | _, _ => none

/-! ### dicts -/
def dgetO (x y : O) : Option (Option D) := match x, y with
  | .frz (.dk l), .frz d => (toKy d).map (look l)
  | .dk l, .frz d => (toKy d).map (look l)
  | .frz (.dt l), .frz (.tup ds) => (toKys ds).map (look l)
  | .dt l, .frz (.tup ds) => (toKys ds).map (look l)
  | _, _ => none

/-! ### in -/
def flatD : D → Bool
  | .non => true
  | .bl _ => true
  | .int _ => true
  | .str _ => true
  | _ => false
def inO (x y : O) : Option Bool := match x, y with
  | .frz (.str [c]), .frz (.str z) => some (decide (c ∈ z))
  | .frz d, .frz (.tup l) => if flatD d && l.all flatD then some (l.any fun z => eqD z d) else none
  | .frz d, .frz (.ktp l) => if flatD d && l.all flatD then some (l.any fun z => eqD z d) else none
  | .frz d, .frz (.lst l) => if okE 12 d && okE 12 (.lst l) then some (l.any fun z => eqD z d) else none
  | .frz d, .lst l => if okE 12 d && okE 12 (.lst l) then some (l.any fun z => eqD z d) else none
  | .frz d, .frz (.dk l) => (toKy d).map fun k => (look l k).isSome
  | .frz d, .dk l => (toKy d).map fun k => (look l k).isSome
  | .frz d, .ndk l => (toKy d).map fun k => (look l k).isSome
  | .frz (.tup ds), .frz (.dt l) => (toKys ds).map fun k => (look l k).isSome
  | .frz (.tup ds), .dt l => (toKys ds).map fun k => (look l k).isSome
  | _, _ => none
def opIn (x y : O) : Option O := (inO x y).map fun b => .frz (.bl b)
def opNotIn (x y : O) : Option O := (inO x y).map fun b => .frz (.bl (!b))

/-! ### items, slices -/
def atI {α : Type} (xs : List α) (i : Int) : Option α := (ixN xs.length i).bind fun j => xs[j]?
def opIx (x y : O) : Option O := match x, y with
  | .frz (.lst l), .frz (.int i) => (atI l i).map .frz
  | .lst l, .frz (.int i) => (atI l i).map .frz
  | .frz (.tup l), .frz (.int i) => (atI l i).map .frz
  | .frz (.scr l), .frz (.int i) => (atI l i).map fun n => .frz (.int n)
  | .frz (.str l), .frz (.int i) => (atI l i).map fun c => .frz (.str [c])
  | .nl l, .frz (.int i) => atI l i
  | x, y => (dgetO x y).bind fun o => o.map .frz
def sIx (n d : Nat) : Option Int → Nat
  | none => d
  | some v => if v < 0 then (v + (n : Int)).toNat else min v.toNat n
def cut {α : Type} (xs : List α) (lo hi : Option Int) : List α := (xs.drop (sIx xs.length 0 lo)).take (sIx xs.length xs.length hi - sIx xs.length 0 lo)
def opSl (x : O) (lo hi : Option Int) : Option O := match x with
  | .frz (.lst l) => some (.lst (cut l lo hi))
  | .lst l => some (.lst (cut l lo hi))
  | .frz (.scr l) => some (.lst ((cut l lo hi).map .int))
  | .frz (.tup l) => if sIx l.length 0 lo = 0 ∧ sIx l.length l.length hi = l.length then none else some (.frz (.tup (cut l lo hi)))
  | .frz (.str l) => some (.frz (.str (cut l lo hi)))
  | _ => none
/-- a part of a slice -/
abbrev Pt := Env → R (Option Int)
def ptNo : Pt := fun _ => .ok none
def ptAt (a : E) : Pt := fun ρ => (a ρ).bind fun x => match x with
  | .frz (.int i) => .ok (some i)
  | _ => .bad
def eSl (a : E) (lo hi : Pt) : E := fun ρ => (a ρ).bind fun x => (lo ρ).bind fun l => (hi ρ).bind fun h => R.ofO (opSl x l h)

/-! ### built-ins -/
/-- a built-in by its values -/
def eBi (g : List O → Option O) (as : Es) : E := fun ρ => (as ρ).bind fun os => R.ofO (g os)
def biLen : List O → Option O
  | [.frz (.lst l)] => some (.frz (.int l.length))
  | [.lst l] => some (.frz (.int l.length))
  | [.nl l] => some (.frz (.int l.length))
  | [.frz (.tup l)] => some (.frz (.int l.length))
  | [.frz (.scr l)] => some (.frz (.int l.length))
  | [.frz (.str l)] => some (.frz (.int l.length))
  | [.frz (.dk l)] => some (.frz (.int l.length))
  | [.dk l] => some (.frz (.int l.length))
  | [.frz (.dt l)] => some (.frz (.int l.length))
  | [.dt l] => some (.frz (.int l.length))
  | _ => none
def biAbs : List O → Option O
  | [.frz (.int i)] => some (.frz (.int (if i < 0 then -i else i)))
  | _ => none
def biMax : List O → Option O
  | [.frz (.int i), .frz (.int j)] => some (.frz (.int (if j > i then j else i)))
  | _ => none
def biMin : List O → Option O
  | [.frz (.int i), .frz (.int j)] => some (.frz (.int (if j < i then j else i)))
  | _ => none
/-- a text of figures alone, as a number -/
def digs (s : Tx) : Option Int := if !s.isEmpty && s.all (fun c => decide (48 ≤ c) && decide (c ≤ 57)) then some (s.foldl (fun (a : Int) (c : Nat) => a * 10 + ((c : Int) - 48)) 0) else none
def biInt : List O → Option O
  | [.frz (.int i)] => some (.frz (.int i))
  | [.frz (.bl b)] => some (.frz (.int (if b then 1 else 0)))
  | [.frz (.str s)] => if s.length ≤ 640 then (digs s).map fun n => .frz (.int n) else none
  | _ => none
/-- a number's figures -/
def numT (n : Nat) : Tx := (Nat.toDigits 10 n).map Char.toNat
def biStr : List O → Option O
  | [.frz (.int i)] => if decide (0 ≤ i) && decide (i < 1000000000000) then some (.frz (.str (numT i.toNat))) else none
  | _ => none
def biList : List O → Option O
  | [.frz (.lst l)] => some (.lst l)
  | [.lst l] => some (.lst l)
  | [.frz (.tup l)] => some (.lst l)
  | [.frz (.scr l)] => some (.lst (l.map .int))
  | _ => none
def biTuple : List O → Option O
  | [.frz (.lst l)] => some (.frz (.tup l))
  | [.lst l] => some (.frz (.tup l))
  | [.frz (.tup l)] => some (.frz (.tup l))
  | _ => none
def intsOf : List D → Option (List Int)
  | [] => some []
  | .int i :: r => (intsOf r).map (i :: ·)
  | _ :: _ => none
def bls : List D → Option (List Bool)
  | [] => some []
  | .bl i :: r => (bls r).map (i :: ·)
  | _ :: _ => none
def biSum : List O → Option O
  | [o] => (o.its.bind intsOf).map fun ns => .frz (.int ns.sum)
  | _ => none
def biAll : List O → Option O
  | [o] => (o.its.bind bls).map fun ns => .frz (.bl (ns.all id))
  | _ => none

/-! ### < on data -/
mutual
/-- of one kind, place by place -/
def alk : D → D → Bool
  | .non, d => match d with | .non => true | _ => false
  | .bl _, d => match d with | .bl _ => true | _ => false
  | .int _, d => match d with | .int _ => true | _ => false
  | .str _, d => match d with | .str _ => true | _ => false
  | .tup l, d => match d with | .tup m => alks l m | _ => false
  | .lst l, d => match d with | .lst m => alks l m | _ => false
  | _, _ => false
def alks : List D → List D → Bool
  | [], _ => true
  | x :: xs, m => match m with | [] => true | y :: ys => alk x y && alks xs ys
end
mutual
def ltD : D → D → Bool
  | .bl a, d => match d with | .bl b => !a && b | _ => false
  | .int i, d => match d with | .int j => decide (i < j) | _ => false
  | .str s, d => match d with | .str t => decide (s < t) | _ => false
  | .tup l, d => match d with | .tup m => ltDs l m | _ => false
  | .lst l, d => match d with | .lst m => ltDs l m | _ => false
  | _, _ => false
def ltDs : List D → List D → Bool
  | [], m => !m.isEmpty
  | x :: xs, m => match m with | [] => false | y :: ys => if eqD x y then ltDs xs ys else ltD x y
end
def D.isNon : D → Bool
  | .non => true
  | _ => false
def opLt : O → O → Option O
  | .frz (.int i), .frz (.int j) => some (.frz (.bl (decide (i < j))))
  | x, y => if okE 12 x.toD && okE 12 y.toD && alk x.toD y.toD && !x.toD.isNon then some (.frz (.bl (ltD x.toD y.toD))) else none
def minDs (x : D) (xs : List D) : D := xs.foldl (fun a y => if ltD y a then y else a) x
def alkAll (l : List D) : Bool := l.all fun x => l.all fun y => alk x y
/-- min of a list of data -/
def biMinL : List O → Option O
  | [o] => match o.its with
    | some (x :: xs) => if okEs 11 (x :: xs) && alkAll (x :: xs) && !x.isNon then some (.frz (minDs x xs)) else none
    | _ => none
  | _ => none
def D.tup1 : D → Bool
  | .tup (_ :: _) => true
  | _ => false
def D.noTup : D → Bool
  | .tup _ => false
  | .non => false
  | _ => true
def srt (l : List D) : List D := l.mergeSort fun a b => !ltD b a
def biSorted : List O → Option O
  | [o] => match o.its with
    | some l => if okEs 11 l && alkAll l && (l.all D.tup1 || l.all D.noTup) && decide (l.length ≤ sz) then some (.lst (srt l)) else none
    | none => none
  | _ => none
end Vc
namespace Vc
/-! ### exceptions -/
/-- the exception of the class c that is made with such arguments: its fields -/
abbrev Mk := Env → R (List D)
/-- a class without __init__ of its own -/
def mkOwn (as : Es) : Mk := fun ρ => (as ρ).bind fun _ => .ok []
/-- a class whose __init__ sets two fields -/
def mk2 (a b : E) : Mk := fun ρ => (a ρ).bind fun x => (b ρ).bind fun y => match x, y with
  | .frz d, .frz e => .ok [e, d]
  | _, _ => .bad
def eMk (c : Nat) (m : Mk) : E := fun ρ => (m ρ).bind fun l => .ok (.frz (.xo c l))
def sRaise (c : Nat) (m : Mk) : Sm := fun ρ => (m ρ).st ρ fun l => .ex ⟨c, l⟩ ρ
/-- the own exception classes: how many, which is over which, their fields -/
structure Xs where
  n : Nat
  sub : Nat → Nat → Bool
  fs : Nat → List Tx
/-- a field of an exception -/
def opXf (X : Xs) (nm : Tx) : O → Option O := fun x => match x with
  | .frz (.xo c l) => if c < X.n then (((X.fs c).zip l).lookup nm).map .frz else none
  | _ => none
/-! ### isinstance -/
def tyN : O → Option String
  | .frz .non => some "NoneType"
  | .frz (.bl _) => some "bool"
  | .frz (.int _) => some "int"
  | .frz (.str _) => some "str"
  | .frz (.tup _) => some "tuple"
  | .frz (.lst _) => some "list"
  | .frz (.scr _) => some "list"
  | .frz (.dk _) => some "dict"
  | .lst _ => some "list"
  | .nl _ => some "list"
  | .dk _ => some "dict"
  | .dt _ => some "dict"
  | _ => none
def isTy (a b : String) : Bool := a == b || (a == "bool" && b == "int")
/-- isinstance(x, T), a built-in type -/
def opIsT (X : Xs) (T : String) : O → Option O := fun x => match x with
  | .frz (.xo c _) => if c < X.n && T == "ValueError" then some (.frz (.bl true)) else none
  | x => (tyN x).map fun a => .frz (.bl (isTy a T))
/-- isinstance(x, C), an own class -/
def opIsC (X : Xs) (c : Nat) : O → Option O := fun x => match x with
  | .frz (.xo b _) => if b < X.n then some (.frz (.bl (X.sub b c))) else none
  | x => (tyN x).map fun _ => .frz (.bl false)
/-! ### try -/
structure Hd where
  c : Nat
  i : Option Nat
  s : Sm
def SR.mapE (f : Env → Env) : SR → SR
  | .nx ρ => .nx (f ρ)
  | .ret o ρ => .ret o (f ρ)
  | .brk ρ => .brk (f ρ)
  | .ct ρ => .ct (f ρ)
  | .ex _ _ => .bad
  | .bad => .bad
def hdl (X : Xs) (x : Xc) (ρ : Env) : List Hd → SR
  | [] => .ex x ρ
  | h :: r => if X.sub x.c h.c then (match h.i with
      | none => SR.mapE id (h.s ρ)
      | some i => SR.mapE (fun ρ => ρ.put i none) (h.s (ρ.put i (some (.frz (.xo x.c x.fs))))))
    else hdl X x ρ r
def sTry (X : Xs) (b : Sm) (hs : List Hd) : Sm := fun ρ => match b ρ with
  | .ex x ρ' => if x.c < X.n then hdl X x ρ' hs else .bad
  | r => r
end Vc


/-! VOps: the operators keep to VOp. -/
namespace Vs
open PySem PySem.Spec PyProof.Rows L2 Vc

section
variable {G : Gx} {F H : Hp} {own : Own} {v : V} {w : Ow}
theorem repO_int {i : Int} : RepO G F H own (.frz (.int i)) v w ↔ v = .int i := by simp only [RepO, Rep]
theorem repO_str {s : Tx} : RepO G F H own (.frz (.str s)) v w ↔ v = .str (mk s) ∧ s.length ≤ sz := by simp only [RepO, Rep]
theorem repO_bl {b : Bool} : RepO G F H own (.frz (.bl b)) v w ↔ v = .bl b := by simp only [RepO, Rep]
theorem repO_non : RepO G F H own (.frz .non) v w ↔ v = .non := by simp only [RepO, Rep]
theorem Reps.append : ∀ {a b : List D} {xs ys : List V}, Reps G F a xs → Reps G F b ys → Reps G F (a ++ b) (xs ++ ys)
  | [], b, xs, ys, r, s => by simp only [Reps] at r; subst r; exact s
  | d :: a, b, xs, ys, r, s => by
    simp only [Reps] at r
    obtain ⟨x, ws, rfl, q, t⟩ := r
    simp only [List.cons_append, Reps]
    exact ⟨x, _, rfl, q, Reps.append t s⟩
theorem Reps.length : ∀ {a : List D} {xs : List V}, Reps G F a xs → xs.length = a.length
  | [], xs, r => by simp only [Reps] at r; subst r; rfl
  | d :: a, xs, r => by
    simp only [Reps] at r
    obtain ⟨x, ws, rfl, q, t⟩ := r
    simp [Reps.length t]
theorem Reps.get : ∀ {a : List D} {xs : List V} {i : Nat} {d : D}, Reps G F a xs → a[i]? = some d → ∃ x, xs[i]? = some x ∧ Rep G F d x
  | [], xs, i, d, r, e => by simp at e
  | y :: a, xs, i, d, r, e => by
    simp only [Reps] at r
    obtain ⟨x, ws, rfl, q, t⟩ := r
    cases i with
    | zero => simp at e; subst e; exact ⟨x, rfl, q⟩
    | succ i => simpa using Reps.get t (by simpa using e)
theorem Reps.take : ∀ {a : List D} {xs : List V} (n : Nat), Reps G F a xs → Reps G F (a.take n) (xs.take n)
  | a, xs, 0, r => by simp [Reps]
  | [], xs, n + 1, r => by simp only [Reps] at r; subst r; simp [Reps]
  | d :: a, xs, n + 1, r => by
    simp only [Reps] at r
    obtain ⟨x, ws, rfl, q, t⟩ := r
    simp only [List.take_succ_cons, Reps]
    exact ⟨x, _, rfl, q, Reps.take n t⟩
theorem Reps.drop : ∀ {a : List D} {xs : List V} (n : Nat), Reps G F a xs → Reps G F (a.drop n) (xs.drop n)
  | a, xs, 0, r => by simpa using r
  | [], xs, n + 1, r => by simp only [Reps] at r; subst r; simp [Reps]
  | d :: a, xs, n + 1, r => by
    simp only [Reps] at r
    obtain ⟨x, ws, rfl, q, t⟩ := r
    simpa using Reps.drop n t
end

/-! ### new objects -/
section
variable {G : Gx} {F H : Hp} {own : Own}
theorem Ext.frz (fh : Same F H) {p : Addr} (hp : H p = none) (o : HO) : Ext F H own (upd F p o) (upd H p o) own := by
  have fp : F p = none := none_of_same fh hp
  refine ⟨fun a u e => ?_, fun a u e => ?_, fun a u e => ?_, fun _ _ e => e, fun _ _ e => .inl e, fun a u e => ?_, fun a fs e => ?_⟩
  · rw [upd_ne (ne_of_none e fp)]; exact e
  · rw [upd_ne (ne_of_none e hp)]; exact e
  · by_cases h : a = p
    · subst h; rw [upd_same] at e ⊢; exact e
    · rw [upd_ne h] at e ⊢; exact fh _ _ e
  · by_cases h : a = p
    · subst h; exact .inr hp
    · rw [upd_ne h] at e; exact .inl e
  · by_cases h : a = p
    · subst h; rw [upd_same] at e ⊢; exact .inl e
    · rw [upd_ne h] at e; exact .inr e
def ownN (own : Own) (p : Addr) (w : Ow) : Own := fun a => if a = p then some w else own a
theorem Ext.new (fh : Same F H) (nf : NF F H own) {p : Addr} (hp : H p = none) (o : HO) (w : Ow) (ho : ∀ fs, o ≠ .xd fs := by intro _ h; cases h) : Ext F H own F (upd H p o) (ownN own p w) := by
  have fp : F p = none := none_of_same fh hp
  refine ⟨fun a u e => e, fun a u e => ?_, fun a u e => ?_, fun a u e => ?_, fun a u e => ?_, fun a u e => .inl e, fun a fs e => ?_⟩
  · rw [upd_ne (ne_of_none e hp)]; exact e
  · have e' := fh a u e
    rw [upd_ne (ne_of_none e' hp)]; exact e'
  · unfold ownN
    have : a ≠ p := by
      rintro rfl
      obtain ⟨_, o, ho⟩ := nf _ _ e
      rw [hp] at ho; cases ho
    rw [if_neg this]; exact e
  · unfold ownN at e
    split at e
    · rename_i h
      subst h
      exact .inr ⟨hp, fp, _, upd_same⟩
    · exact .inl e
  · by_cases h : a = p
    · subst h; rw [upd_same] at e; exact absurd (Option.some.inj e) (ho fs)
    · rw [upd_ne h] at e; exact .inr e
theorem rep_lst_new {l : List D} {vs : List V} {p : Addr} {H' : Hp} {w : Ow} {own' : Own} (ho : own' p = some w) (e : H' p = some (.lst vs)) (r : Reps G F l vs) : RepO G F H' own' (.lst l) (.ref p) w := by
  simp only [RepO]
  exact ⟨p, vs, rfl, ho, e, r⟩
theorem new_lst (fh : Same F H) (nf : NF F H own) {l : List D} {vs : List V} (r : Reps G F l vs) {k : Nat} {Q : VK}
    (h : ∀ v' F' H' own', Ext F H own F' H' own' → RepO G F' H' own' (.lst l) v' (.inr k, []) → Q v' H') : ∀ p, H p = none → Q (.ref p) (upd H p (.lst vs)) := fun p hp =>
  h _ _ _ _ (Ext.new fh nf hp _ (.inr k, [])) (rep_lst_new (by simp [ownN]) upd_same r)
theorem new_frz (fh : Same F H) {d : D} {o : HO} {k : Nat} {Q : VK} (r : ∀ p, H p = none → Rep G (upd F p o) d (.ref p))
    (h : ∀ v' F' H' own', Ext F H own F' H' own' → RepO G F' H' own' (.frz d) v' (.inr k, []) → Q v' H') : ∀ p, H p = none → Q (.ref p) (upd H p o) := fun p hp =>
  h _ _ _ _ (Ext.frz fh hp _) (RepO.frz_iff.mpr (r p hp))
end

/-! ### ints -/
section
variable {C : Ctx}
theorem osp_I {P : Int → Int → Prop} {g : Int → Int → V} {op : O → O → Option O} (h : ∀ x y z, op x y = some z → ∃ i j d, x = .frz (.int i) ∧ y = .frz (.int j) ∧ P i j ∧ z = .frz d ∧ ∀ F, Rep C.G F d (g i j)) : OSp C (fun _ => rI P g) op :=
  fun X hX k F H own x y v u w1 w2 z Q fh nf r1 r2 e hq => by
    obtain ⟨i, j, d, rfl, rfl, p, rfl, rd⟩ := h x y z e
    exact ⟨i, j, repO_int.mp r1, repO_int.mp r2, p, hq _ F H own (Ext.refl fh) (RepO.flatAny (rd F))⟩
theorem osp_I0 {g : Int → Int → V} {op : O → O → Option O} (h : ∀ x y z, op x y = some z → ∃ i j d, x = .frz (.int i) ∧ y = .frz (.int j) ∧ z = .frz d ∧ ∀ F, Rep C.G F d (g i j)) : OSp C (fun _ => rI0 g) op :=
  fun X hX k F H own x y v u w1 w2 z Q fh nf r1 r2 e hq => by
    obtain ⟨i, j, d, rfl, rfl, rfl, rd⟩ := h x y z e
    exact ⟨i, j, repO_int.mp r1, repO_int.mp r2, hq _ F H own (Ext.refl fh) (RepO.flatAny (rd F))⟩
theorem sub_sp : OSp C (fun _ => rI0 fun i j => .int (i - j)) opSub := osp_I0 fun x y z e => by
  unfold opSub at e
  split at e
  · cases e; exact ⟨_, _, _, rfl, rfl, rfl, fun F => by simp [Rep]⟩
  · cases e
theorem ve_sub {a b : Expr} {pos : Pos} {fa fb : E} (ha : VP C a fa) (hb : VP C b fb) : VE C (.BinOp a .Sub b pos) (eBin opSub fa fb) := ve_bin (fun _ _ => op_sub) sub_sp ha hb
theorem div_sp : OSp C (fun _ => rI CDiv fun i j => .int (i / j)) opDiv := osp_I fun x y z e => by
  unfold opDiv at e
  split at e
  · split at e
    · rename_i i j h
      cases e
      simp only [Bool.and_eq_true, decide_eq_true_eq] at h
      exact ⟨i, j, _, rfl, rfl, ⟨h.1, h.2⟩, rfl, fun F => by simp [Rep]⟩
    · cases e
  · cases e
theorem ve_div {a b : Expr} {pos : Pos} {fa fb : E} (ha : VP C a fa) (hb : VP C b fb) : VE C (.BinOp a .FloorDiv b pos) (eBin opDiv fa fb) := ve_bin (fun _ _ => op_fdiv) div_sp ha hb
theorem mod_sp : OSp C (fun _ => rI (fun _ j => 0 < j) fun i j => .int (i % j)) opMod := osp_I fun x y z e => by
  unfold opMod at e
  split at e
  · split at e
    · rename_i i j h
      cases e
      exact ⟨i, j, _, rfl, rfl, h, rfl, fun F => by simp [Rep]⟩
    · cases e
  · cases e
theorem ve_mod {a b : Expr} {pos : Pos} {fa fb : E} (ha : VP C a fa) (hb : VP C b fb) : VE C (.BinOp a .Mod b pos) (eBin opMod fa fb) := ve_bin (fun _ _ => op_mod) mod_sp ha hb
theorem pow_sp : OSp C (fun _ => rI CPow fun i j => .int (i ^ j.toNat)) opPow := osp_I fun x y z e => by
  unfold opPow at e
  split at e
  · split at e
    · rename_i i j h
      cases e
      simp only [Bool.and_eq_true, decide_eq_true_eq] at h
      exact ⟨i, j, _, rfl, rfl, ⟨h.1.1, h.1.2, h.2⟩, rfl, fun F => by simp [Rep]⟩
    · cases e
  · cases e
theorem ve_pow {a b : Expr} {pos : Pos} {fa fb : E} (ha : VP C a fa) (hb : VP C b fb) : VE C (.BinOp a .Pow b pos) (eBin opPow fa fb) := ve_bin (fun _ _ => op_pow) pow_sp ha hb
theorem cmpI_sp {p : Int → Int → Bool} : OSp C (fun _ => rI0 fun i j => .bl (p i j)) (cmpI p) := osp_I0 fun x y z e => by
  unfold cmpI at e
  split at e
  · cases e; exact ⟨_, _, _, rfl, rfl, rfl, fun F => by simp [Rep]⟩
  · cases e
theorem ve_le {a b : Expr} {pos : Pos} {fa fb : E} (ha : VP C a fa) (hb : VP C b fb) : VE C (.Compare a [.LtE] [b] pos) (eBin opLe fa fb) := ve_cmp (fun _ _ => op_le) cmpI_sp ha hb (nomark _)
theorem ve_gt {a b : Expr} {pos : Pos} {fa fb : E} (ha : VP C a fa) (hb : VP C b fb) : VE C (.Compare a [.Gt] [b] pos) (eBin opGt fa fb) := ve_cmp (fun _ _ => op_gt) cmpI_sp ha hb (nomark _)
theorem ve_ge {a b : Expr} {pos : Pos} {fa fb : E} (ha : VP C a fa) (hb : VP C b fb) : VE C (.Compare a [.GtE] [b] pos) (eBin opGe fa fb) := ve_cmp (fun _ _ => op_ge) cmpI_sp ha hb (nomark _)
theorem vt_le {a b : Expr} {pos : Pos} {fa fb : E} (ha : VP C a fa) (hb : VP C b fb) : VT C (.Compare a [.LtE] [b] pos) (tBl (eBin opLe fa fb)) := vt_cmp (fun _ _ => op_le) cmpI_sp ha hb (nomark _)
theorem vt_gt {a b : Expr} {pos : Pos} {fa fb : E} (ha : VP C a fa) (hb : VP C b fb) : VT C (.Compare a [.Gt] [b] pos) (tBl (eBin opGt fa fb)) := vt_cmp (fun _ _ => op_gt) cmpI_sp ha hb (nomark _)
theorem vt_ge {a b : Expr} {pos : Pos} {fa fb : E} (ha : VP C a fa) (hb : VP C b fb) : VT C (.Compare a [.GtE] [b] pos) (tBl (eBin opGe fa fb)) := vt_cmp (fun _ _ => op_ge) cmpI_sp ha hb (nomark _)

/-! ### + and * -/
theorem mk_append (a b : Tx) : mk a ++ mk b = mk (a ++ b) := by
  apply TL.ext_tl
  rw [TL.tl_append]
  simp [TL.tl, mk]
def rAddAll (K : PySem.W.Frag) : R2 := fun x y H Q => rI0 (fun i j => .int (i + j)) x y H Q ∨ (∃ i j, x = .str i ∧ y = .str j ∧ i.length + j.length ≤ sizeLine ∧ Q (.str (i ++ j)) H) ∨ rCatT K x y H Q ∨ rCat x y H Q
theorem op_addAll {X : Cx} : OpR X (binaryOp .Add) (rAddAll X.K) := OpR.or op_add (OpR.or op_add_str (OpR.or op_catT op_cat))
theorem its_rep {G : Gx} {F H : Hp} {own : Own} {x : O} {l : List D} {v : V} {w : Ow} (fh : Same F H) (r : RepO G F H own x v w) (h : x.its = some l) : ∃ p vs, v = .ref p ∧ H p = some (.lst vs) ∧ Reps G F l vs := by
  unfold O.its at h
  split at h
  · cases h
    simp only [RepO, Rep] at r
    obtain ⟨a, vs, rfl, e, t⟩ := r
    exact ⟨a, vs, rfl, fh _ _ e, t⟩
  · cases h
    simp only [RepO] at r
    obtain ⟨a, vs, rfl, _, e, t⟩ := r
    exact ⟨a, vs, rfl, e, t⟩
  · cases h
theorem add_sp : OSp C (fun X => rAddAll X.K) opAdd := fun X hX k F H own x y v u w1 w2 z Q fh nf r1 r2 e hq => by
  have cat : ∀ a b, x.its = some a → y.its = some b → (if a.length + b.length ≤ sz then some (O.lst (a ++ b)) else none) = some z → rAddAll X.K v u H Q := fun a b hx hy e => by
    split at e
    · rename_i hl
      cases e
      obtain ⟨p, xs, rfl, e1, t1⟩ := its_rep fh r1 hx
      obtain ⟨q, ys, rfl, e2, t2⟩ := its_rep fh r2 hy
      refine .inr (.inr (.inr ⟨p, q, xs, ys, rfl, rfl, e1, e2, by rw [t1.length, t2.length, ← sz_line]; exact hl, ?_⟩))
      exact new_lst fh nf (t1.append t2) hq
    · cases e
  unfold opAdd at e
  split at e
  · rename_i i j
    cases e
    exact .inl ⟨i, j, repO_int.mp r1, repO_int.mp r2, hq _ F H own (Ext.refl fh) (repO_int.mpr rfl)⟩
  · rename_i a b
    split at e
    · rename_i hl
      cases e
      obtain ⟨rfl, _⟩ := repO_str.mp r1
      obtain ⟨rfl, _⟩ := repO_str.mp r2
      refine .inr (.inl ⟨_, _, rfl, rfl, by rw [len_mk, len_mk, ← sz_line]; exact hl, ?_⟩)
      rw [mk_append]
      exact hq _ F H own (Ext.refl fh) (repO_str.mpr ⟨rfl, by simpa using hl⟩)
    · cases e
  · rename_i a b
    split at e
    · rename_i hl
      cases e
      simp only [Bool.and_eq_true, decide_eq_true_eq, Bool.not_eq_true', List.isEmpty_eq_false_iff] at hl
      obtain ⟨⟨na, nb⟩, hl⟩ := hl
      simp only [RepO, Rep] at r1 r2
      obtain ⟨p, xs, rfl, e1, t1⟩ := r1
      obtain ⟨q, ys, rfl, e2, t2⟩ := r2
      have l1 := t1.length
      have l2 := t2.length
      have nx : xs ≠ [] := fun z => na (List.length_eq_zero_iff.mp (by rw [← l1, z]; rfl))
      have ny : ys ≠ [] := fun z => nb (List.length_eq_zero_iff.mp (by rw [← l2, z]; rfl))
      refine .inr (.inr (.inl ⟨p, q, xs, ys, rfl, rfl, SqT.of (fh _ _ e1), SqT.of (fh _ _ e2), nx, by rw [l1, l2, ← sz_line]; exact hl, ?_⟩))
      refine ⟨fun z => absurd z ny, fun _ => ?_⟩
      refine new_frz fh (fun p' hp' => ?_) hq
      simp only [Rep]
      refine ⟨p', xs ++ ys, rfl, upd_same, ?_⟩
      exact Reps.keep (Ext.frz (own := own) fh hp' _).ff _ _ (t1.append t2)
    · cases e
  · exact cat _ _ rfl rfl e
  · exact cat _ _ rfl rfl e
  · exact cat _ _ rfl rfl e
  · exact cat _ _ rfl rfl e
  · cases e
theorem ve_add {a b : Expr} {pos : Pos} {fa fb : E} (ha : VP C a fa) (hb : VP C b fb) : VE C (.BinOp a .Add b pos) (eBin opAdd fa fb) := ve_bin (fun _ _ => op_addAll) add_sp ha hb
theorem Reps.rep {G : Gx} {F : Hp} {a : List D} {xs : List V} (r : Reps G F a xs) : ∀ k : Nat, Reps G F (List.replicate k a).flatten (List.replicate k xs).flatten
  | 0 => by simp [Reps]
  | k + 1 => by
    simp only [List.replicate_succ, List.flatten_cons]
    exact r.append (Reps.rep r k)
def rMulAll : R2 := fun x y H Q => rI CMul (fun i j => .int (i * j)) x y H Q ∨ rRep x y H Q
theorem mul_sp : OSp C (fun _ => rMulAll) opMul := fun X hX k F H own x y v u w1 w2 z Q fh nf r1 r2 e hq => by
  unfold opMul at e
  split at e
  · rename_i i j
    split at e
    · rename_i h
      cases e
      refine .inl ⟨i, j, repO_int.mp r1, repO_int.mp r2, ?_, hq _ F H own (Ext.refl fh) (repO_int.mpr rfl)⟩
      simp only [bigI, Bool.or_eq_true, Bool.and_eq_true, decide_eq_true_eq] at h
      exact h
    · cases e
  · rename_i a j
    split at e
    · rename_i h
      cases e
      simp only [Bool.and_eq_true, decide_eq_true_eq] at h
      simp only [RepO] at r1
      obtain ⟨p, vs, rfl, _, e1, t⟩ := r1
      exact .inr ⟨p, j, vs, rfl, repO_int.mp r2, e1, h.1.1, h.1.2, by rw [t.length, ← sz_line]; exact h.2, new_lst fh nf (t.rep j.toNat) hq⟩
    · cases e
  · cases e
theorem ve_mul {a b : Expr} {pos : Pos} {fa fb : E} (ha : VP C a fa) (hb : VP C b fb) : VE C (.BinOp a .Mult b pos) (eBin opMul fa fb) := ve_bin (fun _ _ => OpR.or op_mul op_rep) mul_sp ha hb
end
end Vs


/-! VOps2: ==, in, is None, items, slices. -/
namespace Vs
open PySem PySem.Spec PyProof.Rows L2 Vc

/-! ### == -/
mutual
def py : D → PyData
  | .non => .none
  | .bl b => .bool b
  | .int i => .int i
  | .str s => .str (mk s)
  | .tup l => .tuple (pys l)
  | .lst l => .list (pys l)
  | _ => .dict []
def pys : List D → List PyData
  | [] => []
  | d :: r => py d :: pys r
end
section
variable {K : PySem.W.Frag} {G : Gx} {F : Hp}
mutual
theorem dp_of : ∀ (n : Nat) (d : D) (v : V), okE n d = true → Rep G F d v → Dp K F v (py d)
  | n, .non, v, h, r => by simp only [Rep] at r; subst r; simp only [py]; exact .non
  | n, .bl b, v, h, r => by simp only [Rep] at r; subst r; simp only [py]; exact .bl b
  | n, .int b, v, h, r => by simp only [Rep] at r; subst r; simp only [py]; exact .int b
  | n, .str b, v, h, r => by simp only [Rep] at r; obtain ⟨rfl, _⟩ := r; simp only [py]; exact .str _
  | 0, .tup l, v, h, r => by simp [okE] at h
  | n + 1, .tup l, v, h, r => by
    simp only [Rep] at r; simp only [okE] at h
    obtain ⟨a, vs, rfl, q, t⟩ := r
    simp only [py]
    exact .tup (SqT.of q) (dps_of n l vs h t)
  | 0, .lst l, v, h, r => by simp [okE] at h
  | n + 1, .lst l, v, h, r => by
    simp only [Rep] at r; simp only [okE] at h
    obtain ⟨a, vs, rfl, q, t⟩ := r
    simp only [py]
    exact .lst (SqL.of q) (dps_of n l vs h t)
  | n, .scr l, v, h, r => by cases n <;> simp [okE] at h
  | n, .ktp l, v, h, r => by cases n <;> simp [okE] at h
  | n, .dk l, v, h, r => by cases n <;> simp [okE] at h
  | n, .dt l, v, h, r => by cases n <;> simp [okE] at h
  | n, .obj c l, v, h, r => by cases n <;> simp [okE] at h
  | n, .fn c l, v, h, r => by cases n <;> simp [okE] at h
  | n, .xo c l, v, h, r => by cases n <;> simp [okE] at h
theorem dps_of : ∀ (n : Nat) (d : List D) (v : List V), okEs n d = true → Reps G F d v → DpAll K F v (pys d)
  | n, [], v, h, r => by simp only [Reps] at r; subst r; simp only [pys]; exact .nil
  | n, d :: l, v, h, r => by
    simp only [Reps] at r; simp only [okEs, Bool.and_eq_true] at h
    obtain ⟨x, ws, rfl, q, t⟩ := r
    simp only [pys]
    exact .cons (dp_of n d x h.1 q) (dps_of n l ws h.2 t)
end
end
mutual
theorem lay_of : ∀ (n : Nat) (d : D), okE n d = true → (py d).canLay0 = true ∧ (py d).depth ≤ n
  | n, .non, h => by simp [py, PyData.canLay0, PyData.depth]
  | n, .bl b, h => by simp [py, PyData.canLay0, PyData.depth]
  | n, .int b, h => by simp [py, PyData.canLay0, PyData.depth]
  | n, .str b, h => by
    have h' : b.all (fun c => decide (c < 1114112)) = true := by cases n <;> simpa only [okE] using h
    simp only [py, PyData.canLay0, PyData.depth, Nat.zero_le, and_true]
    show (b.toArray).all (fun c => decide (c < 1114112)) = true
    simpa using h'
  | 0, .tup l, h => by simp [okE] at h
  | n + 1, .tup l, h => by
    simp only [okE] at h
    obtain ⟨h1, h2⟩ := lays_of n l h
    simp only [py, PyData.canLay0, PyData.depth]
    exact ⟨h1, by omega⟩
  | 0, .lst l, h => by simp [okE] at h
  | n + 1, .lst l, h => by
    simp only [okE] at h
    obtain ⟨h1, h2⟩ := lays_of n l h
    simp only [py, PyData.canLay0, PyData.depth]
    exact ⟨h1, by omega⟩
  | n, .scr l, h => by cases n <;> simp [okE] at h
  | n, .ktp l, h => by cases n <;> simp [okE] at h
  | n, .dk l, h => by cases n <;> simp [okE] at h
  | n, .dt l, h => by cases n <;> simp [okE] at h
  | n, .obj c l, h => by cases n <;> simp [okE] at h
  | n, .fn c l, h => by cases n <;> simp [okE] at h
  | n, .xo c l, h => by cases n <;> simp [okE] at h
theorem lays_of : ∀ (n : Nat) (d : List D), okEs n d = true → PyData.canLayAll0 (pys d) = true ∧ PyData.depthAll (pys d) ≤ n
  | n, [], h => by simp [pys, PyData.canLayAll0, PyData.depthAll]
  | n, d :: l, h => by
    simp only [okEs, Bool.and_eq_true] at h
    obtain ⟨h1, h2⟩ := lay_of n d h.1
    obtain ⟨h3, h4⟩ := lays_of n l h.2
    simp only [pys, PyData.canLayAll0, PyData.depthAll, h1, h3, Bool.and_self, true_and]
    omega
end
theorem shaped_of {d : D} (h : okE 12 d = true) : SeqAt.shaped (py d) = true := by
  obtain ⟨h1, h2⟩ := lay_of 12 d h
  unfold SeqAt.shaped
  rw [h1, decide_eq_true (by omega)]
  rfl
theorem mk_inj {a b : Tx} (h : mk a = mk b) : a = b := by
  have := congrArg TL.tl h
  simpa [TL.tl, mk] using this
theorem mk_beq (a b : Tx) : (mk a == mk b) = (a == b) := by
  rw [Bool.eq_iff_iff]
  simp only [beq_iff_eq]
  exact ⟨mk_inj, fun h => by rw [h]⟩
mutual
theorem eqv_of : ∀ (n m : Nat) (d e : D), okE n d = true → okE m e = true → PyData.eqv (py d) (py e) = eqD d e
  | n, m, .non, e, h1, h2 => by cases e <;> first | (simp only [py, eqD, PyData.eqv]) | (cases m <;> simp [okE] at h2)
  | n, m, .bl a, e, h1, h2 => by cases e <;> first | (simp only [py, eqD, PyData.eqv]) | (cases m <;> simp [okE] at h2)
  | n, m, .int a, e, h1, h2 => by cases e <;> first | (simp only [py, eqD, PyData.eqv]) | (cases m <;> simp [okE] at h2)
  | n, m, .str a, e, h1, h2 => by cases e <;> first | (simp only [py, eqD, PyData.eqv, mk_beq]) | (cases m <;> simp [okE] at h2)
  | 0, m, .tup l, e, h1, h2 => by simp [okE] at h1
  | n + 1, m, .tup l, e, h1, h2 => by
    cases e with
    | tup l2 =>
      cases m with
      | zero => simp [okE] at h2
      | succ m =>
        simp only [okE] at h1 h2
        simp only [py, eqD, PyData.eqv]
        exact eqvs_of n m l l2 h1 h2
    | _ => first | (simp only [py, eqD, PyData.eqv]) | (cases m <;> simp [okE] at h2)
  | 0, m, .lst l, e, h1, h2 => by simp [okE] at h1
  | n + 1, m, .lst l, e, h1, h2 => by
    cases e with
    | lst l2 =>
      cases m with
      | zero => simp [okE] at h2
      | succ m =>
        simp only [okE] at h1 h2
        simp only [py, eqD, PyData.eqv]
        exact eqvs_of n m l l2 h1 h2
    | _ => first | (simp only [py, eqD, PyData.eqv]) | (cases m <;> simp [okE] at h2)
  | n, m, .scr l, e, h1, h2 => by cases n <;> simp [okE] at h1
  | n, m, .ktp l, e, h1, h2 => by cases n <;> simp [okE] at h1
  | n, m, .dk l, e, h1, h2 => by cases n <;> simp [okE] at h1
  | n, m, .dt l, e, h1, h2 => by cases n <;> simp [okE] at h1
  | n, m, .obj c l, e, h1, h2 => by cases n <;> simp [okE] at h1
  | n, m, .fn c l, e, h1, h2 => by cases n <;> simp [okE] at h1
  | n, m, .xo c l, e, h1, h2 => by cases n <;> simp [okE] at h1
theorem eqvs_of : ∀ (n m : Nat) (d e : List D), okEs n d = true → okEs m e = true → PyData.eqvAll (pys d) (pys e) = eqDs d e
  | n, m, [], e, h1, h2 => by cases e <;> simp only [pys, eqDs, PyData.eqvAll]
  | n, m, x :: l, [], h1, h2 => by simp only [pys, eqDs, PyData.eqvAll]
  | n, m, x :: l, y :: r, h1, h2 => by
    simp only [okEs, Bool.and_eq_true] at h1 h2
    simp only [pys, eqDs, PyData.eqvAll]
    rw [eqv_of n m x y h1.1 h2.1, eqvs_of n m l r h1.2 h2.2]
end

section
variable {C : Ctx}
theorem hu64 {X : Cx} (hX : CxOk C X) : X.A.units + 65 < cLine := by have := hX.un; omega
theorem eq_core {G : Gx} {K : PySem.W.Frag} {F H : Hp} {own : Own} {x y : O} {v u : V} {w1 w2 : Ow} {b : Bool} (fh : Same F H) (r1 : RepO G F H own x v w1) (r2 : RepO G F H own y u w2) (h : eqO x y = some b) :
    (∃ i j, v = .str i ∧ u = .str j ∧ decide (V.str i = V.str j) = b) ∨ ∃ d e, Dp K H v d ∧ Dp K H u e ∧ SeqAt.shaped d = true ∧ SeqAt.shaped e = true ∧ PyData.eqv d e = b := by
  unfold eqO at h
  split at h
  · cases h
    obtain ⟨rfl, _⟩ := repO_str.mp r1
    obtain ⟨rfl, _⟩ := repO_str.mp r2
    refine .inl ⟨_, _, rfl, rfl, ?_⟩
    rw [dec_str, mk_beq]
  · split at h
    · rename_i ok
      cases h
      simp only [Bool.and_eq_true] at ok
      exact .inr ⟨py x.toD, py y.toD, dp_of 12 _ _ ok.1 (RepO.all fh _ _ _ r1), dp_of 12 _ _ ok.2 (RepO.all fh _ _ _ r2), shaped_of ok.1, shaped_of ok.2, eqv_of 12 12 _ _ ok.1 ok.2⟩
    · cases h
theorem eq_sp : OSp C (fun X x y H Q => rEq x y H Q ∨ rEqD X.K x y H Q) opEq := fun X hX k F H own x y v u w1 w2 z Q fh nf r1 r2 e hq => by
  unfold opEq at e
  obtain ⟨b, hb, rfl⟩ := Option.map_eq_some_iff.mp e
  have fin : Q (.bl b) H := hq _ F H own (Ext.refl fh) (repO_bl.mpr rfl)
  rcases eq_core (K := X.K) fh r1 r2 hb with ⟨i, j, rfl, rfl, e1⟩ | ⟨d, e1, h1, h2, h3, h4, h5⟩
  · exact .inl ⟨rfl, by rw [e1]; exact fin⟩
  · exact .inr ⟨d, e1, h1, h2, h3, h4, by rw [h5]; exact fin⟩
theorem ne_sp : OSp C (fun X x y H Q => rNe x y H Q ∨ rNeD X.K x y H Q) opNe := fun X hX k F H own x y v u w1 w2 z Q fh nf r1 r2 e hq => by
  unfold opNe at e
  obtain ⟨b, hb, rfl⟩ := Option.map_eq_some_iff.mp e
  have fin : Q (.bl (!b)) H := hq _ F H own (Ext.refl fh) (repO_bl.mpr rfl)
  rcases eq_core (K := X.K) fh r1 r2 hb with ⟨i, j, rfl, rfl, e1⟩ | ⟨d, e1, h1, h2, h3, h4, h5⟩
  · exact .inl ⟨rfl, by rw [e1]; exact fin⟩
  · exact .inr ⟨d, e1, h1, h2, h3, h4, by rw [h5]; exact fin⟩
theorem op_eqA {X : Cx} (hX : CxOk C X) : OpR X (compareOp .Eq) (fun x y H Q => rEq x y H Q ∨ rEqD X.K x y H Q) := OpR.or op_eq (op_eqD (by have := hu64 hX; omega))
theorem op_neA {X : Cx} (hX : CxOk C X) : OpR X (compareOp .NotEq) (fun x y H Q => rNe x y H Q ∨ rNeD X.K x y H Q) := OpR.or op_ne (op_neD (by have := hu64 hX; omega))
theorem ve_eq {a b : Expr} {pos : Pos} {fa fb : E} (ha : VP C a fa) (hb : VP C b fb) : VE C (.Compare a [.Eq] [b] pos) (eBin opEq fa fb) := ve_cmp (fun _ h => op_eqA h) eq_sp ha hb (nomark _)
theorem ve_ne {a b : Expr} {pos : Pos} {fa fb : E} (ha : VP C a fa) (hb : VP C b fb) : VE C (.Compare a [.NotEq] [b] pos) (eBin opNe fa fb) := ve_cmp (fun _ h => op_neA h) ne_sp ha hb (nomark _)
theorem vt_eq {a b : Expr} {pos : Pos} {fa fb : E} (ha : VP C a fa) (hb : VP C b fb) : VT C (.Compare a [.Eq] [b] pos) (tBl (eBin opEq fa fb)) := vt_cmp (fun _ h => op_eqA h) eq_sp ha hb (nomark _)
theorem vt_ne {a b : Expr} {pos : Pos} {fa fb : E} (ha : VP C a fa) (hb : VP C b fb) : VT C (.Compare a [.NotEq] [b] pos) (tBl (eBin opNe fa fb)) := vt_cmp (fun _ h => op_neA h) ne_sp ha hb (nomark _)

/-! ### is None -/
theorem none_iff {G : Gx} {F H : Hp} {own : Own} {x : O} {v : V} {w : Ow} (r : RepO G F H own x v w) : v = .non ↔ x = .frz .non := by
  cases x with
  | frz d =>
    simp only [RepO] at r
    cases d with
    | non => simp only [Rep] at r; simp [r]
    | bl b => simp only [Rep] at r; simp [r]
    | int b => simp only [Rep] at r; simp [r]
    | str b => simp only [Rep] at r; simp [r.1]
    | tup l => simp only [Rep] at r; obtain ⟨_, _, rfl, _⟩ := r; simp
    | lst l => simp only [Rep] at r; obtain ⟨_, _, rfl, _⟩ := r; simp
    | scr l => simp only [Rep] at r; obtain ⟨_, rfl, _⟩ := r; simp
    | ktp l => simp only [Rep] at r; obtain ⟨_, _, rfl, _⟩ := r; simp
    | dk l => simp only [Rep] at r; obtain ⟨_, _, rfl, _⟩ := r; simp
    | dt l => simp only [Rep] at r; obtain ⟨_, _, rfl, _⟩ := r; simp
    | obj c l => simp only [Rep] at r; obtain ⟨_, _, _, rfl, _⟩ := r; simp
    | fn c l => simp only [Rep] at r; simp [r.2]
    | xo c l => simp only [Rep] at r; obtain ⟨_, _, rfl, _⟩ := r; simp
  | lst l => simp only [RepO] at r; obtain ⟨_, _, rfl, _⟩ := r; simp
  | dk l => simp only [RepO] at r; obtain ⟨_, _, rfl, _⟩ := r; simp
  | dt l => simp only [RepO] at r; obtain ⟨_, _, rfl, _⟩ := r; simp
  | nl l => simp only [RepO] at r; obtain ⟨_, _, rfl, _⟩ := r; simp
  | nt l => simp only [RepO] at r; obtain ⟨_, _, rfl, _⟩ := r; simp
  | ndk l => simp only [RepO] at r; obtain ⟨_, _, rfl, _⟩ := r; simp
  | ob c l => simp only [RepO] at r; obtain ⟨_, _, _, rfl, _⟩ := r; simp
theorem isN_sp : OSp C (fun _ x y H Q => y = .non ∧ Q (.bl (decide (x = .non))) H) opIsN := fun X hX k F H own x y v u w1 w2 z Q fh nf r1 r2 e hq => by
  unfold opIsN at e
  split at e
  · cases e
    refine ⟨repO_non.mp r2, ?_⟩
    rw [repO_non.mp r1]
    exact hq _ F H own (Ext.refl fh) (repO_bl.mpr rfl)
  · rename_i hne
    cases e
    refine ⟨repO_non.mp r2, ?_⟩
    rw [decide_eq_false (fun z => hne ((none_iff r1).mp z))]
    exact hq _ F H own (Ext.refl fh) (repO_bl.mpr rfl)
  · cases e
theorem notN_sp : OSp C (fun _ x y H Q => y = .non ∧ Q (.bl (!decide (x = .non))) H) opNotN := fun X hX k F H own x y v u w1 w2 z Q fh nf r1 r2 e hq => by
  unfold opNotN at e
  split at e
  · cases e
    refine ⟨repO_non.mp r2, ?_⟩
    rw [repO_non.mp r1]
    exact hq _ F H own (Ext.refl fh) (repO_bl.mpr rfl)
  · rename_i hne
    cases e
    refine ⟨repO_non.mp r2, ?_⟩
    rw [decide_eq_false (fun z => hne ((none_iff r1).mp z))]
    exact hq _ F H own (Ext.refl fh) (repO_bl.mpr rfl)
  · cases e
theorem ve_isN {a b : Expr} {pos : Pos} {fa fb : E} (ha : VP C a fa) (hb : VP C b fb) : VE C (.Compare a [.Is] [b] pos) (eBin opIsN fa fb) := ve_cmp (fun _ h => op_isN) isN_sp ha hb (nomark _)
theorem ve_notN {a b : Expr} {pos : Pos} {fa fb : E} (ha : VP C a fa) (hb : VP C b fb) : VE C (.Compare a [.IsNot] [b] pos) (eBin opNotN fa fb) := ve_cmp (fun _ h => op_notN) notN_sp ha hb (nomark _)
theorem vt_isN {a b : Expr} {pos : Pos} {fa fb : E} (ha : VP C a fa) (hb : VP C b fb) : VT C (.Compare a [.Is] [b] pos) (tBl (eBin opIsN fa fb)) := vt_cmp (fun _ h => op_isN) isN_sp ha hb (nomark _)
theorem vt_notN {a b : Expr} {pos : Pos} {fa fb : E} (ha : VP C a fa) (hb : VP C b fb) : VT C (.Compare a [.IsNot] [b] pos) (tBl (eBin opNotN fa fb)) := vt_cmp (fun _ h => op_notN) notN_sp ha hb (nomark _)
end
end Vs


/-! VOps3: keys, in, items, slices. -/
namespace Vs
open PySem PySem.Spec PyProof.Rows L2 Vc

/-! ### keys -/
theorem kyK_inj : ∀ {a b : Ky}, kyK a = kyK b → a = b
  | .inl i, .inl j, h => by simp only [kyK, Sum.inl.injEq] at h; rw [h]
  | .inl i, .inr j, h => by simp [kyK] at h
  | .inr i, .inl j, h => by simp [kyK] at h
  | .inr i, .inr j, h => by simp only [kyK, Sum.inr.injEq] at h; rw [mk_inj h]
theorem kyKs_inj : ∀ {a b : List Ky}, a.map kyK = b.map kyK → a = b
  | [], [], _ => rfl
  | [], _ :: _, h => by simp at h
  | _ :: _, [], h => by simp at h
  | x :: xs, y :: ys, h => by
    simp only [List.map_cons, List.cons.injEq] at h
    rw [kyK_inj h.1, kyKs_inj h.2]
section
variable {G : Gx} {F H : Hp} {own : Own}
theorem toKy_v {d : D} {k : Ky} {v : V} (h : toKy d = some k) (r : Rep G F d v) : v = kV (kyK k) := by
  unfold toKy at h
  split at h
  · cases h; simp only [Rep] at r; exact r
  · cases h; simp only [Rep] at r; exact r.1
  · cases h
theorem toKys_v : ∀ {ds : List D} {ks : List Ky} {vs : List V}, toKys ds = some ks → Reps G F ds vs → vs = (ks.map kyK).map kV
  | [], ks, vs, h, r => by simp only [toKys, Option.some.injEq] at h; simp only [Reps] at r; subst h; subst r; rfl
  | d :: ds, ks, vs, h, r => by
    simp only [toKys] at h
    simp only [Reps] at r
    obtain ⟨v, ws, rfl, q, t⟩ := r
    split at h
    · rename_i k ks' e1 e2
      cases h
      rw [toKy_v e1 q, toKys_v e2 t]
      rfl
    · cases h
theorem repK_look : ∀ {l : List (Ky × D)} {kvs : List (Key × V)} (k : Ky), RepK G F l kvs → (look l k = none ∧ valV kvs (kyK k) = none) ∨ ∃ d v, look l k = some d ∧ valV kvs (kyK k) = some v ∧ Rep G F d v
  | [], kvs, k, r => by simp only [RepK] at r; subst r; exact .inl ⟨rfl, rfl⟩
  | (k', d) :: l, kvs, k, r => by
    simp only [RepK] at r
    obtain ⟨v, ws, rfl, q, t⟩ := r
    by_cases h : k' = k
    · subst h
      exact .inr ⟨d, v, by simp [look, List.find?_cons], by simp [valV, List.find?_cons], q⟩
    · have h' : ¬ kyK k' = kyK k := fun e => h (kyK_inj e)
      rcases repK_look k t with ⟨e1, e2⟩ | ⟨d', v', e1, e2, e3⟩
      · exact .inl ⟨by simpa [look, List.find?_cons, h] using e1, by simpa [valV, List.find?_cons, h'] using e2⟩
      · exact .inr ⟨d', v', by simpa [look, List.find?_cons, h] using e1, by simpa [valV, List.find?_cons, h'] using e2, e3⟩
theorem repT_look : ∀ {l : List (List Ky × D)} {kvs : List (List Key × V)} (k : List Ky), RepT G F l kvs → (look l k = none ∧ valV kvs (k.map kyK) = none) ∨ ∃ d v, look l k = some d ∧ valV kvs (k.map kyK) = some v ∧ Rep G F d v
  | [], kvs, k, r => by simp only [RepT] at r; subst r; exact .inl ⟨rfl, rfl⟩
  | (k', d) :: l, kvs, k, r => by
    simp only [RepT] at r
    obtain ⟨v, ws, rfl, q, t⟩ := r
    by_cases h : k' = k
    · subst h
      exact .inr ⟨d, v, by simp [look, List.find?_cons], by simp [valV, List.find?_cons], q⟩
    · have h' : ¬ k'.map kyK = k.map kyK := fun e => h (kyKs_inj e)
      rcases repT_look k t with ⟨e1, e2⟩ | ⟨d', v', e1, e2, e3⟩
      · exact .inl ⟨by simpa [look, List.find?_cons, h] using e1, by simpa [valV, List.find?_cons, h'] using e2⟩
      · exact .inr ⟨d', v', by simpa [look, List.find?_cons, h] using e1, by simpa [valV, List.find?_cons, h'] using e2, e3⟩
theorem repOk_look : ∀ {l : List (Ky × O)} {kvs : List (Key × V)} {w : Ow} {n : Nat} (k : Ky), RepOk G F H own l kvs w n → (look l k = none ∧ valV kvs (kyK k) = none) ∨ ∃ d v w', look l k = some d ∧ valV kvs (kyK k) = some v ∧ RepO G F H own d v w'
  | [], kvs, w, n, k, r => by simp only [RepOk] at r; subst r; exact .inl ⟨rfl, rfl⟩
  | (k', d) :: l, kvs, w, n, k, r => by
    simp only [RepOk] at r
    obtain ⟨v, ws, rfl, q, t⟩ := r
    by_cases h : k' = k
    · subst h
      exact .inr ⟨d, v, _, by simp [look, List.find?_cons], by simp [valV, List.find?_cons], q⟩
    · have h' : ¬ kyK k' = kyK k := fun e => h (kyK_inj e)
      rcases repOk_look k t with ⟨e1, e2⟩ | ⟨d', v', w', e1, e2, e3⟩
      · exact .inl ⟨by simpa [look, List.find?_cons, h] using e1, by simpa [valV, List.find?_cons, h'] using e2⟩
      · exact .inr ⟨d', v', w', by simpa [look, List.find?_cons, h] using e1, by simpa [valV, List.find?_cons, h'] using e2, e3⟩
theorem dgk {a : Addr} {kvs : List (Key × V)} {k : Key} (e : Rd H a (.dK kvs)) : DGet H a (kV k) (valV kvs k) := .inl ⟨kvs, k, e, rfl, rfl⟩
theorem dgt {a b : Addr} {kvs : List (List Key × V)} {k : List Key} (e : Rd H a (.dT kvs)) (eb : H b = some (.tup (k.map kV))) : DGet H a (.ref b) (valV kvs k) := .inr ⟨kvs, k, b, e, rfl, eb, rfl⟩
/-- what a dict holds at a key -/
theorem dget_core {x y : O} {o : Option D} {v u : V} {w1 w2 : Ow} (fh : Same F H) (r1 : RepO G F H own x v w1) (r2 : RepO G F H own y u w2) (h : dgetO x y = some o) :
    ∃ a ov, v = .ref a ∧ DGet H a u ov ∧ ov.isSome = o.isSome ∧ ∀ d, o = some d → ∃ z, ov = some z ∧ Rep G F d z := by
  have fk : ∀ (a : Addr) (l : List (Ky × D)) (kvs : List (Key × V)) (d : D), Rd H a (.dK kvs) → RepK G F l kvs → Rep G F d u → (toKy d).map (look l) = some o → ∃ a' ov, V.ref a = .ref a' ∧ DGet H a' u ov ∧ ov.isSome = o.isSome ∧ ∀ d, o = some d → ∃ z, ov = some z ∧ Rep G F d z := fun a l kvs d e t rd h => by
    obtain ⟨k, hk, rfl⟩ := Option.map_eq_some_iff.mp h
    have eu := toKy_v hk rd
    subst eu
    rcases repK_look k t with ⟨e1, e2⟩ | ⟨d', v', e1, e2, e3⟩
    · exact ⟨a, _, rfl, dgk e, by rw [e1, e2]; rfl, fun d q => by rw [e1] at q; cases q⟩
    · exact ⟨a, _, rfl, dgk e, by rw [e1, e2]; rfl, fun d q => by rw [e1] at q; cases q; exact ⟨v', e2, e3⟩⟩
  have ft : ∀ (a : Addr) (l : List (List Ky × D)) (kvs : List (List Key × V)) (ds : List D), Rd H a (.dT kvs) → RepT G F l kvs → Rep G F (.tup ds) u → (toKys ds).map (look l) = some o → ∃ a' ov, V.ref a = .ref a' ∧ DGet H a' u ov ∧ ov.isSome = o.isSome ∧ ∀ d, o = some d → ∃ z, ov = some z ∧ Rep G F d z := fun a l kvs ds e t rd h => by
    obtain ⟨k, hk, rfl⟩ := Option.map_eq_some_iff.mp h
    simp only [Rep] at rd
    obtain ⟨b, vs, rfl, eb, tb⟩ := rd
    have ev := toKys_v hk tb
    subst ev
    rcases repT_look k t with ⟨e1, e2⟩ | ⟨d', v', e1, e2, e3⟩
    · exact ⟨a, _, rfl, dgt e (fh _ _ eb), by rw [e1, e2]; rfl, fun d q => by rw [e1] at q; cases q⟩
    · exact ⟨a, _, rfl, dgt e (fh _ _ eb), by rw [e1, e2]; rfl, fun d q => by rw [e1] at q; cases q; exact ⟨v', e2, e3⟩⟩
  unfold dgetO at h
  split at h
  · simp only [RepO] at r1 r2
    simp only [Rep] at r1
    obtain ⟨a, kvs, rfl, e, t⟩ := r1
    exact fk a _ kvs _ (Rd.keep fh e) t r2 h
  · simp only [RepO] at r1 r2
    obtain ⟨a, kvs, rfl, _, e, t⟩ := r1
    exact fk a _ kvs _ (.inl e) t r2 h
  · simp only [RepO] at r1 r2
    simp only [Rep] at r1
    obtain ⟨a, kvs, rfl, e, t⟩ := r1
    exact ft a _ kvs _ (Rd.keep fh e) t r2 h
  · simp only [RepO] at r1 r2
    obtain ⟨a, kvs, rfl, _, e, t⟩ := r1
    exact ft a _ kvs _ (.inl e) t r2 h
  · cases h
end

/-! ### items -/
theorem ixN_eq (n : Nat) (i : Int) : Vc.ixN n i = L2.ixN n i := rfl
theorem atI_eq {α : Type} (xs : List α) (i : Int) : Vc.atI xs i = L2.atI xs i := rfl
theorem Reps.atI {G : Gx} {F : Hp} {l : List D} {vs : List V} {i : Int} {d : D} (t : Reps G F l vs) (h : Vc.atI l i = some d) : ∃ v, L2.atI vs i = some v ∧ Rep G F d v := by
  unfold Vc.atI at h
  obtain ⟨j, h1, h2⟩ := Option.bind_eq_some_iff.mp h
  obtain ⟨v, e1, e2⟩ := t.get h2
  refine ⟨v, ?_, e2⟩
  unfold L2.atI
  rw [t.length, ← ixN_eq, h1]
  exact e1
def rIxD : R2 := fun x y H Q => ∃ a v, x = .ref a ∧ DGet H a y (some v) ∧ Q v H
theorem ix_dict {X : Cx} (hu : X.A.units + 1 < cLine) : IxR X rIxD := by
  intro value slice pins s σ H x y v u Q I rx ry h hs
  obtain ⟨a, z, rfl, g, q⟩ := h
  cases rx
  refine (show wpAny (model X.prog X.w) X.A (subscriptTail value slice (.ref a) u) (EP X pins σ Q) X.xe s from ?_)
  have hT := dict_typeIs I g
  unfold subscriptTail
  refine wpAny_bind ?_
  rw [getitemInPython_of_ne hT.not_modules]
  refine wpAny_bind (wpAny_specialOf hT PySem.F.slot_dict_getitem.lookup ?_)
  have fin : wpAny (model X.prog X.w) X.A (subscripted slice false (.ref a) u) (fun r s₃ => wpAny (model X.prog X.w) X.A (letTemporaryGo value (.ref a) r >>= fun _ => pure r) (EP X pins σ Q) X.xe s₃) X.xe s := by
    rw [hs]
    exact wpAny_operating (wpAny_mono (d_getItem hu I g ry fun w' s3 I3 rw' => (⟨z, H, I3, rw', q⟩ : EP X pins σ Q w' s3)) (fun r s₃ h₃ => wpAny_bind (wpAny_letTemporaryGo (wpAny_pure h₃))) fun _ _ x => x)
  first
    | exact wpAny_pure (wpAny_bind fin)
    | exact wpAny_bind (wpAny_pure (wpAny_bind fin))
    | exact wpAny_bind fin
section
variable {C : Ctx}
theorem hu1 {X : Cx} (hX : CxOk C X) : X.A.units + 1 < cLine := by have := hX.un; omega
/-- the value of an item, looked at -/
def OSpW (C : Ctx) (r : Cx → R2) (g : O → O → Option O) : Prop :=
  ∀ X, CxOk C X → ∀ F H own x y v u w1 w2 z Q, Same F H → RepO C.G F H own x v w1 → RepO C.G F H own y u w2 → g x y = some z → (∀ v' w', RepO C.G F H own z v' w' → w'.1 = w1.1 → Q v' H) → r X v u H Q
theorem repOs_get {G : Gx} {F H : Hp} {own : Own} : ∀ (l : List O) (vs : List V) (w : Ow) (n k : Nat) (o : O), RepOs G F H own l vs w n → l[k]? = some o → ∃ v w', vs[k]? = some v ∧ RepO G F H own o v w' ∧ w'.1 = w.1
  | [], vs, w, n, k, o, r, e => by simp at e
  | x :: l, vs, w, n, k, o, r, e => by
    simp only [RepOs] at r
    obtain ⟨y, ws, rfl, q, t⟩ := r
    cases k with
    | zero => simp at e; subst e; exact ⟨y, _, rfl, q, rfl⟩
    | succ k =>
      obtain ⟨v, w', e1, e2, e3⟩ := repOs_get l ws w (n + 1) k o t (by simpa using e)
      exact ⟨v, w', by simpa using e1, e2, e3⟩
theorem repOs_length {G : Gx} {F H : Hp} {own : Own} : ∀ (l : List O) (vs : List V) (w : Ow) (n : Nat), RepOs G F H own l vs w n → vs.length = l.length
  | [], vs, w, n, r => by simp only [RepOs] at r; subst r; rfl
  | x :: l, vs, w, n, r => by
    simp only [RepOs] at r
    obtain ⟨y, ws, rfl, q, t⟩ := r
    simp [repOs_length l ws w (n + 1) t]
theorem ix_sp : OSpW C (fun X x y H Q => rIx X.K x y H Q ∨ rIxD x y H Q) opIx := fun X hX F H own x y v u w1 w2 z Q fh r1 r2 e hq => by
  unfold opIx at e
  split at e
  · obtain ⟨d, h, rfl⟩ := Option.map_eq_some_iff.mp e
    simp only [RepO, Rep] at r1
    obtain ⟨a, vs, rfl, e1, t⟩ := r1
    obtain ⟨z, h1, h2⟩ := t.atI h
    exact .inl (.inl ⟨a, vs, _, z, rfl, repO_int.mp r2, SqL.of (fh _ _ e1), h1, hq z (w1.1, []) (RepO.flatAny h2) rfl⟩)
  · obtain ⟨d, h, rfl⟩ := Option.map_eq_some_iff.mp e
    simp only [RepO] at r1
    obtain ⟨a, vs, rfl, _, e1, t⟩ := r1
    obtain ⟨z, h1, h2⟩ := t.atI h
    exact .inl (.inl ⟨a, vs, _, z, rfl, repO_int.mp r2, SqL.of e1, h1, hq z (w1.1, []) (RepO.flatAny h2) rfl⟩)
  · obtain ⟨d, h, rfl⟩ := Option.map_eq_some_iff.mp e
    simp only [RepO, Rep] at r1
    obtain ⟨a, vs, rfl, e1, t⟩ := r1
    obtain ⟨z, h1, h2⟩ := t.atI h
    exact .inl (.inr (.inl ⟨a, vs, _, z, rfl, repO_int.mp r2, SqT.of (fh _ _ e1), h1, hq z (w1.1, []) (RepO.flatAny h2) rfl⟩))
  · obtain ⟨d, h, rfl⟩ := Option.map_eq_some_iff.mp e
    simp only [RepO, Rep] at r1
    obtain ⟨a, rfl, e1⟩ := r1
    refine .inl (.inl ⟨a, _, _, .int d, rfl, repO_int.mp r2, by rw [hX.K]; exact SqL.keep fh e1, ?_, hq _ (w1.1, []) (repO_int.mpr rfl) rfl⟩)
    unfold L2.atI
    unfold Vc.atI at h
    obtain ⟨j, h1, h2⟩ := Option.bind_eq_some_iff.mp h
    rw [List.length_map, ← ixN_eq, h1]
    simp only [Option.bind_some, List.getElem?_map, h2, Option.map_some]
  · obtain ⟨c, h, rfl⟩ := Option.map_eq_some_iff.mp e
    obtain ⟨rfl, hz⟩ := repO_str.mp r1
    exact .inl (.inr (.inr ⟨_, _, c, rfl, repO_int.mp r2, by rw [len_mk, ← sz_line]; exact hz, h, hq _ (w1.1, []) (repO_str.mpr ⟨rfl, by simp [sz]⟩) rfl⟩))
  · rename_i l i
    simp only [RepO] at r1
    obtain ⟨a, vs, rfl, _, e1, t⟩ := r1
    unfold Vc.atI at e
    obtain ⟨j, h1, h2⟩ := Option.bind_eq_some_iff.mp e
    obtain ⟨z', w', h3, h4, h5⟩ := repOs_get _ _ _ _ _ _ t h2
    refine .inl (.inl ⟨a, vs, _, z', rfl, repO_int.mp r2, SqL.of e1, ?_, hq z' w' h4 h5⟩)
    unfold L2.atI
    rw [repOs_length _ _ _ _ t, ← ixN_eq, h1]
    exact h3
  · obtain ⟨o, h1, h2⟩ := Option.bind_eq_some_iff.mp e
    obtain ⟨d, rfl, rfl⟩ := Option.map_eq_some_iff.mp h2
    obtain ⟨a, ov, rfl, g, _, h3⟩ := dget_core fh r1 r2 h1
    obtain ⟨z', rfl, h4⟩ := h3 d rfl
    exact .inr ⟨a, z', rfl, g, hq z' (w1.1, []) (RepO.flatAny h4) rfl⟩
theorem vp_ix {a b : Expr} {pos : Pos} {fa fb : E} (ha : VP C a fa) (hb : VP C b fb) (hs : PlainIx b := by intro _ _; rfl) : VP C (.Subscript a b pos) (eBin opIx fa fb) := fun X hX W tk => by
  obtain ⟨ta, pa, qa⟩ := ha X hX W tk
  obtain ⟨tb, pb, qb⟩ := hb X hX W tk
  refine ⟨_, pe_ix (IxR.or ix_seq (ix_dict (hu1 hX))) pa pb hs, fun γ F H own ρ σ Q S o => ?_⟩
  refine qa γ F H own ρ σ _ S ?_
  unfold eBin at o
  cases e1 : fa ρ with
  | bad => rw [e1] at o; exact False.elim o
  | ex x => rw [e1] at o; exact o
  | ok x =>
    rw [e1] at o
    intro v F1 H1 own1 S1
    refine qb (γ.pushW x v) F1 H1 own1 ρ σ _ S1 ?_
    cases e2 : fb ρ with
    | bad => simp only [R.bind_ok, e2] at o; exact False.elim o
    | ex y => simp only [R.bind_ok, e2] at o; exact OutE.ex_popW o
    | ok y =>
      simp only [R.bind_ok, e2] at o
      intro u F2 H2 own2 S2
      cases e3 : opIx x y with
      | none => rw [e3] at o; exact False.elim o
      | some z =>
        rw [e3] at o
        obtain ⟨w1, r1, j1, hj⟩ := S2.wk (x, v) (List.mem_cons_of_mem _ List.mem_cons_self)
        obtain ⟨w2, r2⟩ := S2.topW
        exact ix_sp X hX F2 H2 own2 x y v u w1 w2 z Q S2.fh r1 r2 e3 fun v' w' r' hw => o v' F2 H2 own2 (S2.popW.popW.pushW r' ⟨j1, hw.trans hj⟩)
theorem VP.fz {e : Expr} {f : E} (h : VP C e f) : VE C e (eFz f) := fun X hX W tk => by
  obtain ⟨t, p, q⟩ := h X hX W tk
  refine ⟨t, p, fun γ F H own ρ σ Q S o => q γ F H own ρ σ Q S ?_⟩
  unfold eFz at o
  cases e1 : f ρ with
  | bad => rw [e1] at o; exact False.elim o
  | ex x => rw [e1] at o; exact o
  | ok x =>
    rw [e1] at o
    simp only [R.bind_ok] at o
    intro v F1 H1 own1 S1
    split at o
    · obtain ⟨w, r⟩ := S1.topW
      exact o v F1 H1 own1 (S1.popW.frzT (RepO.frz_iff.mp r))
    · exact False.elim o
theorem ve_ix {a b : Expr} {pos : Pos} {fa fb : E} (ha : VP C a fa) (hb : VP C b fb) (hs : PlainIx b := by intro _ _; rfl) : VE C (.Subscript a b pos) (eFz (eBin opIx fa fb)) := (vp_ix ha hb hs).fz

/-! ### in -/
theorem flat_v {G : Gx} {F : Hp} {d : D} {v : V} (h : flatD d = true) (r : Rep G F d v) : flatV v = true := by
  cases d <;> first | (simp [flatD] at h; done) | skip
  · simp only [Rep] at r; subst r; rfl
  · simp only [Rep] at r; subst r; rfl
  · simp only [Rep] at r; subst r; rfl
  · simp only [Rep] at r; obtain ⟨rfl, _⟩ := r; rfl
theorem eqV_flat {G : Gx} {F : Hp} {d e : D} {v u : V} (h : flatD d = true) (h2 : flatD e = true) (r : Rep G F d v) (r2 : Rep G F e u) : eqV v u = eqD d e := by
  cases d <;> first | (simp [flatD] at h; done) | skip
  all_goals (cases e <;> first | (simp [flatD] at h2; done) | skip)
  all_goals (simp only [Rep] at r r2)
  all_goals first
    | (subst r; subst r2; simp [eqV, eqD]; done)
    | (obtain ⟨rfl, _⟩ := r; obtain ⟨rfl, _⟩ := r2; simp [eqV, eqD, mk_beq]; done)
    | (obtain ⟨rfl, _⟩ := r; subst r2; simp [eqV, eqD]; done)
    | (obtain ⟨rfl, _⟩ := r2; subst r; simp [eqV, eqD]; done)
    | skip
end
end Vs


/-! VOps4: in, slices, built-ins by name. -/
namespace Vs
open PySem PySem.Spec PyProof.Rows L2 Vc

section
variable {C : Ctx}
theorem all_flatV {G : Gx} {F : Hp} : ∀ {l : List D} {vs : List V}, l.all flatD = true → Reps G F l vs → vs.all flatV = true
  | [], vs, h, r => by simp only [Reps] at r; subst r; rfl
  | d :: l, vs, h, r => by
    simp only [Reps] at r
    obtain ⟨v, ws, rfl, q, t⟩ := r
    simp only [List.all_cons, Bool.and_eq_true] at h ⊢
    exact ⟨flat_v h.1 q, all_flatV h.2 t⟩
theorem any_eqV {G : Gx} {F : Hp} {d : D} {u : V} (hd : flatD d = true) (rd : Rep G F d u) : ∀ {l : List D} {vs : List V}, l.all flatD = true → Reps G F l vs → inV u vs = l.any fun z => eqD z d
  | [], vs, h, r => by simp only [Reps] at r; subst r; rfl
  | e :: l, vs, h, r => by
    simp only [Reps] at r
    obtain ⟨v, ws, rfl, q, t⟩ := r
    simp only [List.all_cons, Bool.and_eq_true] at h
    have ih := any_eqV hd rd h.2 t
    unfold inV at ih ⊢
    simp only [List.any_cons]
    rw [ih, eqV_flat h.1 hd q rd]
theorem any_pys {d : D} (hd : okE 12 d = true) : ∀ {n : Nat} {l : List D}, okEs n l = true → ((pys l).any fun z => PyData.eqv z (py d)) = l.any fun z => eqD z d
  | n, [], h => rfl
  | n, e :: l, h => by
    simp only [okEs, Bool.and_eq_true] at h
    simp only [pys, List.any_cons]
    rw [any_pys hd h.2, eqv_of n 12 e d h.1 hd]
def rInAll (X : Cx) (neg : Bool) : R2 := fun x y H Q =>
  (∃ (c : Nat) (z : Str), x = .str ⟨#[c]⟩ ∧ y = .str z ∧ Q (.bl (if neg then !decide (c ∈ z.cps.toList) else decide (c ∈ z.cps.toList))) H) ∨ rIn X.K neg x y H Q ∨
  (∃ d ds, Dp X.K H x d ∧ Dp X.K H y (.list ds) ∧ SeqAt.shaped d = true ∧ SeqAt.shaped (.list ds) = true ∧ Q (.bl (if neg then !ds.any fun z => PyData.eqv z d else ds.any fun z => PyData.eqv z d)) H) ∨
  ∃ a o, y = .ref a ∧ DGet H a x o ∧ Q (.bl (if neg then !o.isSome else o.isSome)) H
theorem op_inAll {X : Cx} (hu : X.A.units + 65 < cLine) : OpR X (compareOp .In) (rInAll X false) := by
  intro pins s σ H x y v u Q I rx ry h
  rcases h with h | h | h | ⟨a, o, rfl, g, q⟩
  · exact op_in_sign pins s σ H x y v u Q I rx ry h
  · exact op_in_seq pins s σ H x y v u Q I rx ry h
  · exact op_inD hu pins s σ H x y v u Q I rx ry h
  · cases ry
    exact d_in (by omega) I g rx fun s' I' => ⟨.bl _, H, I', rfl, q⟩
theorem op_notInAll {X : Cx} (hu : X.A.units + 65 < cLine) : OpR X (compareOp .NotIn) (rInAll X true) := by
  intro pins s σ H x y v u Q I rx ry h
  rcases h with h | h | h | ⟨a, o, rfl, g, q⟩
  · exact op_notIn_sign pins s σ H x y v u Q I rx ry h
  · exact op_notIn_seq pins s σ H x y v u Q I rx ry h
  · exact op_notInD hu pins s σ H x y v u Q I rx ry h
  · cases ry
    exact d_notIn (by omega) I g rx fun s' I' => ⟨.bl _, H, I', rfl, q⟩
theorem in_core {X : Cx} (hK : X.K = C.G.K) {neg : Bool} {F H : Hp} {own : Own} {x y : O} {v u : V} {w1 w2 : Ow} {b : Bool} {Q : VK} (fh : Same F H) (r1 : RepO C.G F H own x v w1) (r2 : RepO C.G F H own y u w2) (h : inO x y = some b) (q : Q (.bl (if neg then !b else b)) H) : rInAll X neg v u H Q := by
  have fl : ∀ (d : D) (l : List D) (p : Addr) (vs : List V), RepO C.G F H own (.frz d) v w1 → u = .ref p → (SqL X.K H p vs ∨ SqT X.K H p vs) → Reps C.G F l vs → (if flatD d && l.all flatD then some (l.any fun z => eqD z d) else none) = some b → rInAll X neg v u H Q := fun d l p vs r eu e t h => by
    split at h
    · rename_i ok
      cases h
      simp only [Bool.and_eq_true] at ok
      have r' := RepO.frz_iff.mp r
      refine .inr (.inl ⟨p, vs, eu, e, flat_v ok.1 r', all_flatV ok.2 t, ?_⟩)
      rw [any_eqV ok.1 r' ok.2 t]
      exact q
    · cases h
  have dp : ∀ (d : D) (l : List D), RepO C.G F H own (.frz d) v w1 → Rep C.G H (.lst l) u → (if okE 12 d && okE 12 (.lst l) then some (l.any fun z => eqD z d) else none) = some b → rInAll X neg v u H Q := fun d l r t h => by
    split at h
    · rename_i ok
      cases h
      simp only [Bool.and_eq_true] at ok
      refine .inr (.inr (.inl ⟨py d, pys l, dp_of 12 _ _ ok.1 (Rep.keep fh _ _ (RepO.frz_iff.mp r)), dp_of 12 _ _ ok.2 t, shaped_of ok.1, shaped_of ok.2, ?_⟩))
      have ok2 : okEs 11 l = true := by simpa only [okE] using ok.2
      rw [any_pys ok.1 ok2]
      exact q
    · cases h
  have dk : ∀ (d : D) (l : List (Ky × D)) (a : Addr) (kvs : List (Key × V)), u = .ref a → Rep C.G F d v → Rd H a (.dK kvs) → RepK C.G F l kvs → (toKy d).map (fun k => (look l k).isSome) = some b → rInAll X neg v u H Q := fun d l a kvs eu r e t h => by
    obtain ⟨k, hk, rfl⟩ := Option.map_eq_some_iff.mp h
    have ev := toKy_v hk r
    subst ev
    refine .inr (.inr (.inr ⟨a, _, eu, dgk e, ?_⟩))
    have : (valV kvs (kyK k)).isSome = (look l k).isSome := by
      rcases repK_look k t with ⟨e1, e2⟩ | ⟨d', v', e1, e2, _⟩ <;> rw [e1, e2] <;> rfl
    rw [this]
    exact q
  have dt : ∀ (ds : List D) (l : List (List Ky × D)) (a : Addr) (kvs : List (List Key × V)), u = .ref a → Rep C.G F (.tup ds) v → Rd H a (.dT kvs) → RepT C.G F l kvs → (toKys ds).map (fun k => (look l k).isSome) = some b → rInAll X neg v u H Q := fun ds l a kvs eu r e t h => by
    obtain ⟨k, hk, rfl⟩ := Option.map_eq_some_iff.mp h
    simp only [Rep] at r
    obtain ⟨p, vs, rfl, eb, tb⟩ := r
    have ev := toKys_v hk tb
    subst ev
    refine .inr (.inr (.inr ⟨a, _, eu, dgt e (fh _ _ eb), ?_⟩))
    have : (valV kvs (k.map kyK)).isSome = (look l k).isSome := by
      rcases repT_look k t with ⟨e1, e2⟩ | ⟨d', v', e1, e2, _⟩ <;> rw [e1, e2] <;> rfl
    rw [this]
    exact q
  unfold inO at h
  split at h
  · cases h
    obtain ⟨rfl, _⟩ := repO_str.mp r1
    obtain ⟨rfl, _⟩ := repO_str.mp r2
    exact .inl ⟨_, _, rfl, rfl, q⟩
  · simp only [RepO, Rep] at r2
    obtain ⟨a, vs, eu, e1, t⟩ := r2
    exact fl _ _ a vs r1 eu (.inr (SqT.of (fh _ _ e1))) t h
  · simp only [RepO, Rep] at r2
    obtain ⟨a, vs, eu, e1, t⟩ := r2
    exact fl _ _ a vs r1 eu (.inr (SqT.keep fh (by rw [hK]; exact e1))) t h
  · exact dp _ _ r1 (RepO.all fh _ _ _ r2) h
  · exact dp _ _ r1 (RepO.all fh _ _ _ r2) h
  · simp only [RepO] at r1 r2
    simp only [Rep] at r2
    obtain ⟨a, kvs, eu, e, t⟩ := r2
    exact dk _ _ a kvs eu r1 (Rd.keep fh e) t h
  · simp only [RepO] at r1 r2
    obtain ⟨a, kvs, eu, _, e, t⟩ := r2
    exact dk _ _ a kvs eu r1 (.inl e) t h
  · rename_i l
    simp only [RepO] at r1 r2
    obtain ⟨a, kvs, eu, _, e, t⟩ := r2
    obtain ⟨k, hk, rfl⟩ := Option.map_eq_some_iff.mp h
    have ev := toKy_v hk r1
    subst ev
    refine .inr (.inr (.inr ⟨a, _, eu, DGet.k e, ?_⟩))
    have : (valV kvs (kyK k)).isSome = (look l k).isSome := by
      rcases repOk_look k t with ⟨e1, e2⟩ | ⟨d', v', w', e1, e2, _⟩ <;> rw [e1, e2] <;> rfl
    rw [this]
    exact q
  · simp only [RepO] at r1 r2
    simp only [Rep] at r2
    obtain ⟨a, kvs, eu, e, t⟩ := r2
    exact dt _ _ a kvs eu r1 (Rd.keep fh e) t h
  · simp only [RepO] at r1 r2
    obtain ⟨a, kvs, eu, _, e, t⟩ := r2
    exact dt _ _ a kvs eu r1 (.inl e) t h
  · cases h
theorem in_sp : OSp C (fun X => rInAll X false) opIn := fun X hX k F H own x y v u w1 w2 z Q fh nf r1 r2 e hq => by
  unfold opIn at e
  obtain ⟨b, hb, rfl⟩ := Option.map_eq_some_iff.mp e
  exact in_core hX.K fh r1 r2 hb (hq _ F H own (Ext.refl fh) (repO_bl.mpr rfl))
theorem notIn_sp : OSp C (fun X => rInAll X true) opNotIn := fun X hX k F H own x y v u w1 w2 z Q fh nf r1 r2 e hq => by
  unfold opNotIn at e
  obtain ⟨b, hb, rfl⟩ := Option.map_eq_some_iff.mp e
  exact in_core hX.K fh r1 r2 hb (hq _ F H own (Ext.refl fh) (repO_bl.mpr rfl))
theorem ve_in {a b : Expr} {pos : Pos} {fa fb : E} (ha : VP C a fa) (hb : VP C b fb) (hm : behindInMarks .In b = false := by rfl) : VE C (.Compare a [.In] [b] pos) (eBin opIn fa fb) := ve_cmp (fun _ h => op_inAll (hu64 h)) in_sp ha hb hm
theorem ve_notIn {a b : Expr} {pos : Pos} {fa fb : E} (ha : VP C a fa) (hb : VP C b fb) (hm : behindInMarks .NotIn b = false := by rfl) : VE C (.Compare a [.NotIn] [b] pos) (eBin opNotIn fa fb) := ve_cmp (fun _ h => op_notInAll (hu64 h)) notIn_sp ha hb hm
theorem vt_in {a b : Expr} {pos : Pos} {fa fb : E} (ha : VP C a fa) (hb : VP C b fb) (hm : behindInMarks .In b = false := by rfl) : VT C (.Compare a [.In] [b] pos) (tBl (eBin opIn fa fb)) := vt_cmp (fun _ h => op_inAll (hu64 h)) in_sp ha hb hm
theorem vt_notIn {a b : Expr} {pos : Pos} {fa fb : E} (ha : VP C a fa) (hb : VP C b fb) (hm : behindInMarks .NotIn b = false := by rfl) : VT C (.Compare a [.NotIn] [b] pos) (tBl (eBin opNotIn fa fb)) := vt_cmp (fun _ h => op_notInAll (hu64 h)) notIn_sp ha hb hm

/-! ### slices -/
theorem sIx_eq (n d : Nat) (o : Option Int) : Vc.sIx n d o = HT.sIx n d o := by cases o <;> rfl
theorem cut_eq (vs : List V) (lo hi : Option Int) : cutV vs lo hi = Vc.cut vs lo hi := by
  unfold cutV Vc.cut
  rw [sIx_eq, sIx_eq]
theorem Reps.cut {G : Gx} {F : Hp} {l : List D} {vs : List V} (r : Reps G F l vs) (lo hi : Option Int) : Reps G F (Vc.cut l lo hi) (Vc.cut vs lo hi) := by
  unfold Vc.cut
  rw [r.length]
  exact (r.drop _).take _
theorem cut_length {α : Type} (xs : List α) (lo hi : Option Int) : (Vc.cut xs lo hi).length ≤ xs.length := by
  unfold Vc.cut
  rw [List.length_take, List.length_drop]
  omega
/-- a part of a slice -/
def VPt (C : Ctx) (e : Option Expr) (f : Pt) : Prop := ∀ X, CxOk C X → ∀ W, Takes X W → ∃ t, PO X e t ∧ ∀ γ F H own ρ σ (Q : Option Int → Hp → Prop), Sta C.G γ F H own ρ σ →
  (match f ρ with | .ok o => ∀ F H own, Sta C.G γ F H own ρ σ → Q o H | .ex x => ∀ cls d F H own, Sta C.G γ F H own ρ σ → RepX C.G F H x cls d → W cls d σ H | .bad => False) → t σ H Q
theorem pt_no : VPt C none ptNo := fun X hX W tk => ⟨_, po_none, fun γ F H own ρ σ Q S o => o F H own S⟩
theorem pt_at {e : Expr} {f : E} (h : VP C e f) : VPt C (some e) (ptAt f) := fun X hX W tk => by
  obtain ⟨t, p, q⟩ := h X hX W tk
  refine ⟨_, po_some p, fun γ F H own ρ σ Q S o => q γ F H own ρ σ _ S ?_⟩
  unfold ptAt at o
  cases e1 : f ρ with
  | bad => rw [e1] at o; exact False.elim o
  | ex x => rw [e1] at o; exact o
  | ok x =>
    rw [e1] at o
    simp only [R.bind_ok] at o
    intro v F1 H1 own1 S1
    split at o
    · rename_i h1
      split at h1
      · rename_i i
        cases h1
        obtain ⟨w, r⟩ := S1.topW
        exact ⟨i, repO_int.mp r, o F1 H1 own1 S1.popW⟩
      · cases h1
    · rename_i h1
      split at h1 <;> cases h1
    · exact False.elim o
def rSlAll (K : PySem.W.Frag) : V → Option Int → Option Int → Hp → VK → Prop := fun x lo hi H Q => rSlL K x lo hi H Q ∨ rSlT K x lo hi H Q ∨ rSlS x lo hi H Q
theorem sl_all {X : Cx} : SlR X (rSlAll X.K) := SlR.or sl_list (SlR.or sl_tup sl_str)
theorem ints_reps {G : Gx} {F : Hp} : ∀ l : List Int, Reps G F (l.map D.int) (l.map V.int)
  | [] => by simp [Reps]
  | i :: l => by
    simp only [List.map_cons, Reps]
    exact ⟨_, _, rfl, by simp [Rep], ints_reps l⟩
theorem tl_cutS (s : Tx) (lo hi : Option Int) : cutS (mk s) lo hi = mk (Vc.cut s lo hi) := by
  apply TL.ext_tl
  unfold cutS Vc.cut
  simp only [sIx_eq]
  simp [TL.tl, mk, Str.length]
theorem sl_sp {X : Cx} (hX : CxOk C X) {k : Nat} {F H : Hp} {own : Own} {x z : O} {v : V} {w : Ow} {lo hi : Option Int} {Q : VK} (fh : Same F H) (nf : NF F H own) (r : RepO C.G F H own x v w) (e : opSl x lo hi = some z)
    (hq : ∀ v' F' H' own', Ext F H own F' H' own' → RepO C.G F' H' own' z v' (.inr k, []) → Q v' H') : rSlAll X.K v lo hi H Q := by
  unfold opSl at e
  split at e
  · cases e
    simp only [RepO, Rep] at r
    obtain ⟨a, vs, rfl, e1, t⟩ := r
    refine .inl ⟨a, vs, rfl, SqL.of (fh _ _ e1), ?_⟩
    rw [cut_eq]
    exact new_lst fh nf (t.cut lo hi) hq
  · cases e
    simp only [RepO] at r
    obtain ⟨a, vs, rfl, _, e1, t⟩ := r
    refine .inl ⟨a, vs, rfl, SqL.of e1, ?_⟩
    rw [cut_eq]
    exact new_lst fh nf (t.cut lo hi) hq
  · cases e
    rename_i l
    simp only [RepO, Rep] at r
    obtain ⟨a, rfl, e1⟩ := r
    refine .inl ⟨a, _, rfl, by rw [hX.K]; exact SqL.keep fh e1, ?_⟩
    rw [cut_eq]
    have : Vc.cut (l.map V.int) lo hi = (Vc.cut l lo hi).map V.int := by
      unfold Vc.cut
      rw [List.length_map, List.map_take, List.map_drop]
    rw [this]
    exact new_lst fh nf (ints_reps _) hq
  · rename_i l
    split at e
    · cases e
    · rename_i hw
      cases e
      simp only [RepO, Rep] at r
      obtain ⟨a, vs, rfl, e1, t⟩ := r
      refine .inr (.inl ⟨a, vs, rfl, SqT.of (fh _ _ e1), by rw [t.length, ← sIx_eq, ← sIx_eq]; exact hw, ?_⟩)
      rw [cut_eq]
      refine new_frz fh (fun p hp => ?_) hq
      simp only [Rep]
      exact ⟨p, _, rfl, upd_same, Reps.keep (Ext.frz (own := own) fh hp _).ff _ _ (t.cut lo hi)⟩
  · cases e
    obtain ⟨rfl, hz⟩ := repO_str.mp r
    refine .inr (.inr ⟨_, rfl, by rw [len_mk, ← sz_line]; exact hz, ?_⟩)
    rw [tl_cutS]
    exact hq _ F H own (Ext.refl fh) (repO_str.mpr ⟨rfl, Nat.le_trans (cut_length _ _ _) hz⟩)
  · cases e
theorem ve_sl {e : Expr} {lo hi : Option Expr} {pos p2 : Pos} {f : E} {g h : Pt} (he : VP C e f) (hl : VPt C lo g) (hh : VPt C hi h) : VE C (.Subscript e (.Slice lo hi none p2) pos) (eSl f g h) := fun X hX W tk => by
  obtain ⟨te, pe, qe⟩ := he X hX W tk
  obtain ⟨tl, pl, ql⟩ := hl X hX W tk
  obtain ⟨th, ph, qh⟩ := hh X hX W tk
  refine ⟨_, pe_slice sl_all pe pl ph, fun γ F H own ρ σ Q S o => qe γ F H own ρ σ _ S ?_⟩
  unfold eSl at o
  cases e1 : f ρ with
  | bad => rw [e1] at o; exact False.elim o
  | ex x => rw [e1] at o; exact o
  | ok x =>
    rw [e1] at o
    simp only [R.bind_ok] at o
    intro v F1 H1 own1 S1
    refine ql (γ.pushW x v) F1 H1 own1 ρ σ _ S1 ?_
    cases e2 : g ρ with
    | bad => rw [e2] at o; exact False.elim o
    | ex y => rw [e2] at o; exact OutE.ex_popW o
    | ok l =>
      rw [e2] at o
      simp only [R.bind_ok] at o
      intro F2 H2 own2 S2
      refine qh (γ.pushW x v) F2 H2 own2 ρ σ _ S2 ?_
      cases e3 : h ρ with
      | bad => rw [e3] at o; exact False.elim o
      | ex y => rw [e3] at o; exact OutE.ex_popW o
      | ok u =>
        rw [e3] at o
        simp only [R.bind_ok] at o
        intro F3 H3 own3 S3
        cases e4 : opSl x l u with
        | none => rw [e4] at o; exact False.elim o
        | some z =>
          rw [e4] at o
          obtain ⟨w, r⟩ := S3.topW
          exact sl_sp hX (k := γ.tm.length) S3.fh S3.nf r e4 fun v' F' H' own' x' r' => o v' F' H' own' ((S3.popW.grow x').pushT r')
end
end Vs


/-! VCall: calls of built-ins by name, of defs; a def's worth by its body. -/
namespace Vs
open PySem PySem.Spec PyProof.Rows L2 Vc

/-- things looked at, one by one -/
def RepWs (G : Gx) (F H : Hp) (own : Own) : List O → List V → Prop
  | [], vs => vs = []
  | o :: r, vs => ∃ v ws w, vs = v :: ws ∧ RepO G F H own o v w ∧ RepWs G F H own r ws
theorem repWs_of {G : Gx} {F H : Hp} {own : Own} : ∀ {os : List O} {vs : List V}, os.length = vs.length → (∀ p ∈ os.zip vs, ∃ w, RepO G F H own p.1 p.2 w) → RepWs G F H own os vs
  | [], [], _, _ => rfl
  | [], _ :: _, h, _ => by simp at h
  | _ :: _, [], h, _ => by simp at h
  | o :: os, v :: vs, h, r => by
    obtain ⟨w, q⟩ := r (o, v) (by simp)
    exact ⟨v, vs, w, rfl, q, repWs_of (by simpa using h) fun p hp => r p (by simp [hp])⟩
theorem RepWs.all {G : Gx} {F H : Hp} {own : Own} (fh : Same F H) : ∀ {os : List O} {vs : List V}, RepWs G F H own os vs → Reps G H (O.toDs os) vs
  | [], vs, r => by simpa only [RepWs, O.toDs, Reps] using r
  | o :: os, vs, r => by
    obtain ⟨v, ws, w, rfl, q, t⟩ := r
    simp only [O.toDs, Reps]
    exact ⟨v, ws, rfl, RepO.all fh _ _ _ q, RepWs.all fh t⟩
theorem RepWs.frz {G : Gx} {F H : Hp} {own : Own} : ∀ {os : List O} {vs : List V} {ds : List D}, RepWs G F H own os vs → frzs os = some ds → Reps G F ds vs
  | [], vs, ds, r, h => by
    simp only [frzs, Option.some.injEq] at h
    subst h
    simp only [RepWs] at r
    simpa only [Reps] using r
  | .frz d :: os, vs, ds, r, h => by
    simp only [frzs] at h
    obtain ⟨ds', h1, rfl⟩ := Option.map_eq_some_iff.mp h
    obtain ⟨v, ws, w, rfl, q, t⟩ := r
    simp only [Reps]
    exact ⟨v, ws, rfl, RepO.frz_iff.mp q, RepWs.frz t h1⟩
  | .lst _ :: os, vs, ds, r, h => by simp [frzs] at h
  | .dk _ :: os, vs, ds, r, h => by simp [frzs] at h
  | .dt _ :: os, vs, ds, r, h => by simp [frzs] at h
  | .nl _ :: os, vs, ds, r, h => by simp [frzs] at h
  | .nt _ :: os, vs, ds, r, h => by simp [frzs] at h
  | .ndk _ :: os, vs, ds, r, h => by simp [frzs] at h
  | .ob _ _ :: os, vs, ds, r, h => by simp [frzs] at h

/-! ### built-ins -/
section
variable {C : Ctx}
def CSp (C : Ctx) (r : Cx → List V → Hp → VK → Prop) (g : List O → Option O) : Prop :=
  ∀ X, CxOk C X → ∀ (k : Nat) F H own os vs z Q, Same F H → NF F H own → RepWs C.G F H own os vs → g os = some z →
    (∀ v' F' H' own', Ext F H own F' H' own' → RepO C.G F' H' own' z v' (.inr k, []) → Q v' H') → r X vs H Q
theorem bi_core {X : Cx} (hX : CxOk C X) {W : WX} {t : TA} {f : Es} {r : Cx → List V → Hp → VK → Prop} {g : List O → Option O} (hs : CSp C r g)
    (qa : ∀ γ F H own ρ σ Q, Sta C.G γ F H own ρ σ → OutA C.G γ ρ σ W Q Gh.pushWs (f ρ) → t σ H Q) :
    ∀ γ F H own ρ σ Q, Sta C.G γ F H own ρ σ → OutE C.G γ ρ σ W Q Gh.pushT (eBi g f ρ) → tCB (r X) t σ H Q := fun γ F H own ρ σ Q S o => by
  refine qa γ F H own ρ σ _ S ?_
  unfold eBi at o
  cases e1 : f ρ with
  | bad => rw [e1] at o; exact False.elim o
  | ex x => rw [e1] at o; exact o
  | ok os =>
    rw [e1] at o
    simp only [R.bind_ok] at o
    intro vs F1 H1 own1 hl S1
    cases e2 : g os with
    | none => rw [e2] at o; exact False.elim o
    | some z =>
      rw [e2] at o
      have S2 : Sta C.G γ F1 H1 own1 ρ σ := S1.less rfl rfl rfl (fun _ h => h) (fun _ h => h) (fun _ _ e => e) (fun p h => List.mem_append_right _ h)
      exact hs X hX γ.tm.length F1 H1 own1 os vs z Q S1.fh S1.nf (repWs_of hl fun p hp => S1.wkR p (List.mem_append_left _ hp)) e2 fun v' F' H' own' x' r' => o v' F' H' own' ((S2.grow x').pushT r')
theorem ve_bi {x : Str} {id : String} {e : Expr} {es : List Expr} {p pos : Pos} {f : Es} {r : Cx → List V → Hp → VK → Prop} {g : List O → Option O} (hc : ∀ X, CxOk C X → CallR X (.builtin id) (r X)) (hs : CSp C r g) (hm : C.mg x = none) (hv : bootBuiltins x = some (.builtin id)) (ha : VAP C (e :: es) f)
    (hg : C.sc.names.lookup x = some .globalImplicit := by rfl) (hn : x ≠ "__name__" := by decide) (hdb : (x == ("__debug__" : Str)) = false := by decide)
    (he : ∀ env, starEach (e :: es) env = (false, eval e env) :: starEach es env := by intro _; rfl) (hpl : ∀ env, (backTo pos (starEach es env)).any (·.1) = false := by intro _; rfl) : VE C (.Call (.Name x p) (e :: es) [] pos) (eBi g f) := fun X hX W tk => by
  obtain ⟨t, pa, qa⟩ := ha X hX W tk
  exact ⟨_, pe_callB (hc X hX) (gl_of hX hg) (by rw [hX.mg]; exact hm) hv pa hn hdb (he _) (hpl _), bi_core hX hs qa⟩
theorem ve_ty {x : Str} {T : String} {e : Expr} {es : List Expr} {p pos : Pos} {f : Es} {r : Cx → List V → Hp → VK → Prop} {g : List O → Option O} (hc : ∀ X, CxOk C X → CallR X (.type T) (r X)) (hs : CSp C r g) (hm : C.mg x = none) (hv : bootBuiltins x = some (.type T)) (ha : VAP C (e :: es) f)
    (hg : C.sc.names.lookup x = some .globalImplicit := by rfl) (hn : x ≠ "__name__" := by decide) (hdb : (x == ("__debug__" : Str)) = false := by decide)
    (he : ∀ env, starEach (e :: es) env = (false, eval e env) :: starEach es env := by intro _; rfl) (hpl : ∀ env, (backTo pos (starEach es env)).any (·.1) = false := by intro _; rfl) : VE C (.Call (.Name x p) (e :: es) [] pos) (eBi g f) := fun X hX W tk => by
  obtain ⟨t, pa, qa⟩ := ha X hX W tk
  exact ⟨_, pe_callTy (hc X hX) (gl_of hX hg) (by rw [hX.mg]; exact hm) hv pa hn hdb (he _) (hpl _), bi_core hX hs qa⟩

theorem repWs1 {G : Gx} {F H : Hp} {own : Own} {o : O} {vs : List V} (r : RepWs G F H own [o] vs) : ∃ v w, vs = [v] ∧ RepO G F H own o v w := by
  obtain ⟨v, ws, w, rfl, q, t⟩ := r
  cases t
  exact ⟨v, w, rfl, q⟩
theorem repWs2 {G : Gx} {F H : Hp} {own : Own} {o o' : O} {vs : List V} (r : RepWs G F H own [o, o'] vs) : ∃ v w u w', vs = [v, u] ∧ RepO G F H own o v w ∧ RepO G F H own o' u w' := by
  obtain ⟨v, ws, w, rfl, q, t⟩ := r
  obtain ⟨u, w', rfl, q'⟩ := repWs1 t
  exact ⟨v, w, u, w', rfl, q, q'⟩
/-- len of a dict, too -/
def rLenAll (K : PySem.W.Frag) : List V → Hp → VK → Prop := fun xs H Q => (∃ x n, xs = [x] ∧ LenV K x H n ∧ Q (.int n) H) ∨ (∃ p kvs, xs = [.ref p] ∧ H p = some (.dK kvs) ∧ Q (.int kvs.length) H) ∨ ∃ p kvs, xs = [.ref p] ∧ H p = some (.dT kvs) ∧ Q (.int kvs.length) H
end
end Vs


/-! VFn: calls of defs, a def's worth by its body. -/
namespace Vs
open PySem PySem.Spec PyProof.Rows L2 Vc

abbrev own0 : Own := fun _ => none
def OutF (G : Gx) (F H : Hp) (Q : VK) (E : XK) : FR → Prop
  | .ok o => ∀ v F' H' own', Ext F H own0 F' H' own' → RepO G F' H' own' o v (.inr 0, []) → Q v H'
  | .ex x => ∀ cls d F' H' own', Ext F H own0 F' H' own' → RepX G F' H' x cls d → E cls d H'
  | .bad => False
/-- what a def of n parameters promises -/
def SpF (G : Gx) (n : Nat) (m : List D → FR) : Sp := fun vs H Q E => vs.length = n ∧ ∃ ds F, Same F H ∧ (∀ a fs, H a = some (.xd fs) → F a = some (.xd fs)) ∧ Reps G F ds vs ∧ OutF G F H Q E (m ds)
/-- a def that stands -/
structure VFn (P : Program) (w : World) (G : Gx) (mg : Str → Option Value) (base : Heap) (x : Str) (k n : Nat) (m : List D → FR) : Prop where
  ex : ∃ f fd ps, mg x = some (.ref f) ∧ PySem.W.keepIn G.K (.ref f) = true ∧ Binds G.K fd ps [] ∧ FnOk P w G.K mg base (L2.CX P w) k f fd ps (SpF G n m)

section
variable {G : Gx} {F H F' H' : Hp} {own own' : Own}
/-- who owns what behind a call -/
def ownUp (own own' : Own) (k : Nat) : Own := fun a => match own a with
  | some w => some w
  | none => match own' a with
    | some (.inr 0, τ) => some (.inr k, τ)
    | some _ => some (.inr k, [0, 0, 0])
    | none => none
theorem ownUp_old {a : Addr} {w : Ow} {k : Nat} (h : own a = some w) : ownUp own own' k a = some w := by unfold ownUp; rw [h]
theorem ownUp_some {a : Addr} {w : Ow} {k : Nat} (h : ownUp own own' k a = some w) : own a = some w ∨ ∃ w', own' a = some w' := by
  unfold ownUp at h
  split at h
  · rename_i e; left; rw [e]; exact h
  · right
    split at h
    · rename_i e; exact ⟨_, e⟩
    · rename_i e; exact ⟨_, e⟩
    · cases h
theorem Ext.lift (nf : NF F H own) (x : Ext F H own0 F' H' own') (k : Nat) : Ext F H own F' H' (ownUp own own' k) where
  ff := x.ff
  hh := x.hh
  fh := x.fh
  oo := fun a w e => ownUp_old e
  on := fun a w e => by
    rcases ownUp_some e with e | ⟨w', e⟩
    · exact .inl e
    · rcases x.on a w' e with z | z
      · cases z
      · exact .inr z
  fn := x.fn
  xd := x.xd
theorem RepO.up (nf : NF F H own) (x : Ext F H own0 F' H' own') {o : O} {v : V} (k : Nat) (r : RepO G F' H' own' o v (.inr 0, [])) : RepO G F' H' (ownUp own own' k) o v (.inr k, []) :=
  RepO.mono (.refl _) o v _ _ (fun a τ y e1 e2 => by
    refine ⟨?_, e2⟩
    have hn : own a = none := by
      cases q : own a with
      | none => rfl
      | some w =>
        obtain ⟨_, u, hu⟩ := nf a w q
        rcases x.on a _ e1 with z | ⟨z, _, _⟩
        · cases z
        · rw [hu] at z; cases z
    unfold ownUp
    rw [hn, e1]
    simp) r
/-- what is flat leans on no frozen heap -/
theorem rep_flat {F2 : Hp} {d : D} {v : V} (h : d.flat = true) (r : Rep G F d v) : Rep G F2 d v := by
  cases d <;> first | (simp [D.flat] at h; done) | (simpa only [Rep] using r)
theorem reps_flat {F2 : Hp} : ∀ {l : List D} {vs : List V}, l.all D.flat = true → Reps G F l vs → Reps G F2 l vs
  | [], vs, h, r => by simpa only [Reps] using r
  | d :: l, vs, h, r => by
    simp only [List.all_cons, Bool.and_eq_true] at h
    simp only [Reps] at r ⊢
    obtain ⟨v, ws, rfl, q, t⟩ := r
    exact ⟨v, ws, rfl, rep_flat h.1 q, reps_flat h.2 t⟩
theorem repK_flat {F2 : Hp} : ∀ {l : List (Ky × D)} {vs : List (Key × V)}, (l.all fun p => p.2.flat) = true → RepK G F l vs → RepK G F2 l vs
  | [], vs, h, r => by simpa only [RepK] using r
  | d :: l, vs, h, r => by
    simp only [List.all_cons, Bool.and_eq_true] at h
    simp only [RepK] at r ⊢
    obtain ⟨v, ws, rfl, q, t⟩ := r
    exact ⟨v, ws, rfl, rep_flat h.1 q, repK_flat h.2 t⟩
theorem repT_flat {F2 : Hp} : ∀ {l : List (List Ky × D)} {vs : List (List Key × V)}, (l.all fun p => p.2.flat) = true → RepT G F l vs → RepT G F2 l vs
  | [], vs, h, r => by simpa only [RepT] using r
  | d :: l, vs, h, r => by
    simp only [List.all_cons, Bool.and_eq_true] at h
    simp only [RepT] at r ⊢
    obtain ⟨v, ws, rfl, q, t⟩ := r
    exact ⟨v, ws, rfl, rep_flat h.1 q, repT_flat h.2 t⟩
theorem repO_flat {F2 : Hp} {o : O} {v : V} {w : Ow} (h : o.flat = true) (r : RepO G F H own o v w) : RepO G F2 H own o v w := by
  cases o with
  | frz d => simp only [RepO] at r ⊢; exact rep_flat h r
  | lst l =>
    simp only [RepO] at r ⊢
    obtain ⟨a, vs, e, q, z, t⟩ := r
    exact ⟨a, vs, e, q, z, reps_flat h t⟩
  | dk l =>
    simp only [RepO] at r ⊢
    obtain ⟨a, vs, e, q, z, t⟩ := r
    exact ⟨a, vs, e, q, z, repK_flat h t⟩
  | dt l =>
    simp only [RepO] at r ⊢
    obtain ⟨a, vs, e, q, z, t⟩ := r
    exact ⟨a, vs, e, q, z, repT_flat h t⟩
  | _ => simp [O.flat] at h
/-- the lender's frozen heap behind a call that was lent all: only exceptions' dicts are new -/
def lentF (F H H' : Hp) : Hp := fun a => match H' a with
  | some (.xd fs) => match H a with
    | none => some (.xd fs)
    | some _ => F a
  | _ => F a
theorem lentF_old {a : Addr} {o : HO} (h : H a = some o) : lentF F H H' a = F a := by
  unfold lentF
  split
  · rw [h]
  · rfl
theorem Ext.lent (fh : Same F H) (x : Ext H H own0 F' H' own') : Ext F H own0 (lentF F H H') H' own' where
  ff := fun a o e => by rw [lentF_old (fh a o e)]; exact e
  hh := x.hh
  fh := fun a o e => by
    unfold lentF at e
    split at e
    · rename_i fs h
      split at e
      · cases e; exact h
      · exact x.hh _ _ (fh _ _ e)
    · exact x.hh _ _ (fh _ _ e)
  oo := fun _ _ e => by cases e
  on := fun a w e => by
    rcases x.on a w e with z | ⟨z1, z2, z3⟩
    · cases z
    · refine .inr ⟨z1, ?_, z3⟩
      unfold lentF
      split
      · rename_i fs h
        rcases x.xd a fs h with y | y
        · rw [z2] at y; cases y
        · rw [z1] at y; cases y
      · exact none_of_same fh z1
  fn := fun a o e => by
    cases h : H a with
    | none => exact .inr rfl
    | some u => rw [lentF_old h] at e; exact .inl e
  xd := fun a fs e => by
    cases h : H a with
    | none => left; unfold lentF; rw [e]; simp only [h]
    | some u =>
      right
      have := x.hh a u h
      rw [this] at e
      exact e
end

section
variable {C : Ctx}
/-- a list of expressions yields so many -/
def EsLen (n : Nat) (f : Es) : Prop := ∀ ρ os, f ρ = .ok os → os.length = n
theorem el0 : EsLen 0 esNil := fun ρ os h => by unfold esNil at h; cases h; rfl
theorem elS {n : Nat} {f : E} {g : Es} (h : EsLen n g) : EsLen (n + 1) (esCons f g) := fun ρ os e => by
  unfold esCons at e
  cases e1 : f ρ with
  | ok x =>
    rw [e1] at e
    simp only [R.bind_ok] at e
    cases e2 : g ρ with
    | ok xs => rw [e2] at e; cases e; simp [h ρ xs e2]
    | ex _ => rw [e2] at e; cases e
    | bad => rw [e2] at e; cases e
  | ex _ => rw [e1] at e; cases e
  | bad => rw [e1] at e; cases e
theorem frzs_length : ∀ {os : List O} {ds : List D}, frzs os = some ds → os.length = ds.length
  | [], ds, h => by simp only [frzs, Option.some.injEq] at h; subst h; rfl
  | o :: os, ds, h => by
    cases o <;> first | (simp [frzs] at h; done) | skip
    simp only [frzs] at h
    obtain ⟨ds', h1, rfl⟩ := Option.map_eq_some_iff.mp h
    simp [frzs_length h1]
theorem ve_call {x : Str} {k n : Nat} {m : List D → FR} {e : Expr} {es : List Expr} {p pos : Pos} {f : Es} (hF : VFn C.P C.w C.G C.mg C.base x k n m) (hk : k ≤ C.k) (ha : VA C (e :: es) f) (hn : (e :: es).length = n)
    (hg : C.sc.names.lookup x = some .globalImplicit := by rfl) (hdb : (x == ("__debug__" : Str)) = false := by decide)
    (he : ∀ env, starEach (e :: es) env = (false, eval e env) :: starEach es env := by intro _; rfl) (hpl : ∀ env, (backTo pos (starEach es env)).any (·.1) = false := by intro _; rfl)
    (hl : EsLen (e :: es).length f := by (repeat (first | exact el0 | refine elS ?_))) (hot : C.hot = false := by rfl) : VE C (.Call (.Name x p) (e :: es) [] pos) (eCall m f) := fun X hX W tk => by
  obtain ⟨t, pa, qa⟩ := ha X hX W tk
  obtain ⟨fa, fd, ps, hm, hkp, hb, ok⟩ := hF.ex
  have ok' : FnOk X.prog X.w X.K X.mg X.base (L2.CX X.prog X.w) k fa fd ps (SpF C.G n m) := by rw [hX.p, hX.w, hX.K, hX.mg, hX.base]; exact ok
  refine ⟨_, pe_callSD (E := fun σ => WE W σ) ok' ((hX.room hot).mono hk) (gl_of hX hg) (by rw [hX.mg]; exact hm) (by rw [hX.K]; exact hkp) (by rw [hX.K]; exact hb) .nil (fun σ => passAt tk σ) pa hdb (he _) (hpl _), fun γ F H own ρ σ Q S o => ?_⟩
  refine qa γ F H own ρ σ _ S ?_
  unfold eCall at o
  cases e1 : f ρ with
  | bad => rw [e1] at o; exact False.elim o
  | ex x => rw [e1] at o; exact o
  | ok os =>
    rw [e1] at o
    simp only [R.bind_ok] at o
    intro vs F1 H1 own1 hlv S1
    have hlo := hl ρ os e1
    cases e2 : frzs os with
    | none => rw [e2] at o; exact False.elim o
    | some ds =>
      rw [e2] at o
      simp only at o
      have rs : ∀ (l : List O) (us : List V) (ds : List D) (j : Nat), l.length = us.length → frzs l = some ds → (∀ (i : Nat) (o : O) (v : V), l[i]? = some o → us[i]? = some v → RepO C.G F1 H1 own1 o v (.inr (j + i), [])) → Reps C.G F1 ds us := by
        intro l
        induction l with
        | nil =>
          intro us ds j h1 h2 _
          simp only [frzs, Option.some.injEq] at h2
          subst h2
          cases us with
          | nil => simp [Reps]
          | cons _ _ => simp at h1
        | cons o l ih =>
          intro us ds j h1 h2 h3
          cases us with
          | nil => simp at h1
          | cons u us =>
            cases o with
            | frz d =>
              simp only [frzs] at h2
              obtain ⟨ds', h4, rfl⟩ := Option.map_eq_some_iff.mp h2
              simp only [Reps]
              refine ⟨u, us, rfl, RepO.frz_iff.mp (h3 0 _ _ rfl rfl), ih us ds' (j + 1) (by simpa using h1) h4 fun i o v e1 e2 => ?_⟩
              have := h3 (i + 1) o v (by simpa using e1) (by simpa using e2)
              rwa [show j + (i + 1) = j + 1 + i by omega] at this
            | _ => simp [frzs] at h2
      have S2 : Sta C.G γ F1 H1 own1 ρ σ := S1.less rfl rfl rfl (fun _ h => h) (fun _ h => h) (fun k p e => by
        show (γ.tm ++ os.zip vs)[k]? = some p
        rw [List.getElem?_append_left ((List.getElem?_eq_some_iff.mp e).1)]
        exact e) (fun p h => h)
      have R1 : Reps C.G F1 ds vs := rs os vs ds γ.tm.length hlv e2 fun i o v h1 h2 => S1.tm (γ.tm.length + i) o v (by
        show (γ.tm ++ os.zip vs)[γ.tm.length + i]? = some (o, v)
        rw [List.getElem?_append_right (by omega), Nat.add_sub_cancel_left, List.getElem?_zip_eq_some]
        exact ⟨h1, h2⟩)
      show SpF C.G n m (vs ++ []) H1 Q (WE W σ)
      rw [List.append_nil]
      refine ⟨by rw [← hlv, hlo]; exact hn, ds, F1, S2.fh, S2.xd, R1, ?_⟩
      cases e3 : m ds with
      | bad => rw [e3] at o; exact o
      | ok z =>
        rw [e3] at o
        exact fun v F' H' own' x' r' => o v F' H' _ ((S2.grow (x'.lift S2.nf γ.tm.length)).pushT (RepO.up S2.nf x' γ.tm.length r'))
      | ex xc =>
        rw [e3] at o
        exact fun cls d F' H' own' x' r' => o cls d F' H' _ (S2.grow (x'.lift S2.nf 0)) r'
/-- the arguments are lent -/
theorem ve_callB {x : Str} {k n : Nat} {m : List D → FR} {e : Expr} {es : List Expr} {p pos : Pos} {f : Es} (hF : VFn C.P C.w C.G C.mg C.base x k n m) (hk : k ≤ C.k) (ha : VAP C (e :: es) f) (hn : (e :: es).length = n)
    (hg : C.sc.names.lookup x = some .globalImplicit := by rfl) (hdb : (x == ("__debug__" : Str)) = false := by decide)
    (he : ∀ env, starEach (e :: es) env = (false, eval e env) :: starEach es env := by intro _; rfl) (hpl : ∀ env, (backTo pos (starEach es env)).any (·.1) = false := by intro _; rfl)
    (hl : EsLen (e :: es).length f := by (repeat (first | exact el0 | refine elS ?_))) (hot : C.hot = false := by rfl) : VE C (.Call (.Name x p) (e :: es) [] pos) (eCallB m f) := fun X hX W tk => by
  obtain ⟨t, pa, qa⟩ := ha X hX W tk
  obtain ⟨fa, fd, ps, hm, hkp, hb, ok⟩ := hF.ex
  have ok' : FnOk X.prog X.w X.K X.mg X.base (L2.CX X.prog X.w) k fa fd ps (SpF C.G n m) := by rw [hX.p, hX.w, hX.K, hX.mg, hX.base]; exact ok
  refine ⟨_, pe_callSD (E := fun σ => WE W σ) ok' ((hX.room hot).mono hk) (gl_of hX hg) (by rw [hX.mg]; exact hm) (by rw [hX.K]; exact hkp) (by rw [hX.K]; exact hb) .nil (fun σ => passAt tk σ) pa hdb (he _) (hpl _), fun γ F H own ρ σ Q S o => ?_⟩
  refine qa γ F H own ρ σ _ S ?_
  unfold eCallB at o
  cases e1 : f ρ with
  | bad => rw [e1] at o; exact False.elim o
  | ex x => rw [e1] at o; exact o
  | ok os =>
    rw [e1] at o
    simp only [R.bind_ok] at o
    intro vs F1 H1 own1 hlv S1
    have hlo := hl ρ os e1
    have S2 : Sta C.G γ F1 H1 own1 ρ σ := S1.less rfl rfl rfl (fun _ h => h) (fun _ h => h) (fun _ _ e => e) (fun p h => List.mem_append_right _ h)
    have R1 := (repWs_of hlv fun p hp => S1.wkR p (List.mem_append_left _ hp)).all S2.fh
    show SpF C.G n m (vs ++ []) H1 Q (WE W σ)
    rw [List.append_nil]
    refine ⟨by rw [← hlv, hlo]; exact hn, _, H1, .refl _, fun _ _ e => e, R1, ?_⟩
    cases e3 : m (O.toDs os) with
    | bad => rw [e3] at o; exact o
    | ok z =>
      rw [e3] at o
      simp only at o
      split at o
      · rename_i hz
        intro v F' H' own' x' r'
        have x2 := x'.lent S2.fh
        exact o v _ H' _ ((S2.grow (x2.lift S2.nf γ.tm.length)).pushT (RepO.up S2.nf x2 γ.tm.length (repO_flat hz r')))
      · exact False.elim o
    | ex xc =>
      rw [e3] at o
      simp only at o
      split at o
      · rename_i hz
        intro cls d F' H' own' x' r'
        have x2 := x'.lent S2.fh
        refine o cls d _ H' _ (S2.grow (x2.lift S2.nf 0)) ⟨r'.1, r'.2.1, fun ne => ?_⟩
        obtain ⟨dd, ws, h1, h2, h3, h4⟩ := r'.2.2 ne
        refine ⟨dd, ws, h1, ?_, h3, reps_flat hz h4⟩
        have hd := x'.fh _ _ h2
        cases h : H1 dd with
        | none => unfold lentF; rw [hd]; simp only [h]
        | some u =>
          rw [lentF_old h]
          have := x'.hh dd u h
          rw [hd] at this
          cases this
          exact S2.xd _ _ h
      · exact False.elim o
end

/-! ### a def by its body -/
theorem start_get {N : List Str} {vs : List V} {i : Nat} {v : V} (h : vs[i]? = some v) : (L2.start N vs)[i]? = some (some v) := by
  have hi := (List.getElem?_eq_some_iff.mp h).1
  unfold L2.start
  rw [List.getElem?_append_left (by simpa using hi), List.getElem?_map, h]
  rfl
theorem fn_ok {P : Program} {w : World} {G : Gx} {mg : Str → Option Value} {base : Heap} {x qual : Str} {params : Arguments} {body : List Stmt} {scope : Scope} {dvs : List V} {kws : List (Str × V)} {f : Addr} {fd : FuncData} {N ps : List Str} {k : Nat} {b : Sm} (F : FunD G.K x qual params body scope dvs kws f fd) (S : FnScope N ps scope)
    (hb : VB { P, w, G, mg, base, N, sc := scope, k, pin := [], top := true, hot := false, lc := fun _ => true } body b) : FnOk P w G.K mg base (L2.CX P w) (k + 1) f fd ps (SpF G ps.length (Vc.run N.length b)) := by
  refine F.ok (CX := L2.CX P w) S (fun vs H Q E h => h.1) (fun cdv A outer s H vs Q E hr hsp => ?_)
  obtain ⟨hl, ds, F, fh, xd, rs, o⟩ := hsp
  have hX : CxOk { P, w, G, mg, base, N, sc := scope, k, pin := [], top := true, hot := false, lc := fun _ => true } (cxOf (L2.CX P w) P w G.K mg base N qual scope f cdv A outer s H E) :=
    ⟨rfl, rfl, rfl, rfl, rfl, rfl, rfl, fun _ => rfl, fun _ => hr, Nat.lt_of_le_of_lt (Nat.add_le_add_right (Nat.le_add_right _ _) 200) hr.un, S.nd, fun _ _ _ => rfl, passes_of rfl, fun _ => ⟨rfl, rfl, rfl⟩⟩
  obtain ⟨t, p, q⟩ := hb _ hX _ (takes_of rfl rfl rfl rfl)
  refine ⟨t, p, q ⟨H, F, fun _ => False, [], [], [], [], N.length, [], []⟩ F H own0 ⟨ds.map (fun d => some (.frz d)) ++ List.replicate (N.length - ds.length) none, []⟩ (L2.start N vs) _ ⟨rfl, rfl, rfl, rfl, rfl⟩ ?_ ?_⟩
  · refine ⟨fh, fun _ _ e => (nomatch e), fun i o e => ?_, fun _ _ _ h => by simp at h, by
      have hle : ps.length ≤ N.length := by have := congrArg List.length S.pre; rw [List.length_take] at this; omega
      have := rs.length
      unfold L2.start
      simp only [List.length_append, List.length_map, List.length_replicate]
      omega, by
      have hle : ps.length ≤ N.length := by have := congrArg List.length S.pre; rw [List.length_take] at this; omega
      have := rs.length
      simp only [List.length_append, List.length_map, List.length_replicate]
      omega, fun _ h => by simp at h, fun _ h => by simp at h, fun _ _ _ h => by simp at h, fun _ h => by simp at h, fun _ h => by simp at h, fun _ _ h => by simp at h, xd, .refl _, fun _ _ e _ => e, fun _ _ e => (nomatch e), fun a o e => .inl ⟨o, e⟩⟩
    rw [List.getElem?_append] at e
    split at e
    · rw [List.getElem?_map] at e
      cases q : ds[i]? with
      | none => rw [q] at e; cases e
      | some d =>
        rw [q] at e
        simp at e
        subst e
        obtain ⟨v, e1, r⟩ := rs.get q
        exact ⟨v, start_get e1, RepO.flatAny r⟩
    · rw [List.getElem?_replicate] at e
      split at e <;> simp at e
  · have ext_of : ∀ {γ' : Gh} {F' H' : Hp} {own' : Own} {ρ' : Vc.Env} {σ' : L2.St}, γ'.H0 = H → γ'.F0 = F → γ'.A0 = (fun _ => False) → γ'.lk = [] → Sta G γ' F' H' own' ρ' σ' → Ext F H own0 F' H' own' := fun {γ' F' H' own' ρ' σ'} e1 e2 e3 e4 S => by
      have ul : ∀ K : Hp, unl γ'.lk K = K := fun K => by rw [e4]; rfl
      have b1 := S.b1
      have b2 := S.b2
      rw [ul] at b1 b2
      refine ⟨by rw [← e2]; exact b1, fun a o e => b2 a o (by rw [e1]; exact e) (by rw [e3]; exact fun z => z), S.fh, fun _ _ e => (nomatch e), fun a w' e => .inr ⟨?_, (S.nf a w' e).1, (S.nf a w' e).2⟩, fun a o e => ?_, fun a fs e => .inl (S.xd a fs e)⟩
      · rcases S.b3 a w' e with z | z
        · rw [e3] at z; exact z.elim
        · rw [← e1]; exact z
      · rcases S.b4 a o e with ⟨u, hu⟩ | z | z
        · rw [e2] at hu
          have := b1 a u (by rw [e2]; exact hu)
          rw [e] at this
          cases this
          exact .inl hu
        · rw [e3] at z; exact z.elim
        · rw [e1] at z; exact .inr z
    unfold Vc.run at o
    cases e : b ⟨ds.map (fun d => some (.frz d)) ++ List.replicate (N.length - ds.length) none, []⟩ with
    | nx ρ' =>
      rw [e] at o
      exact fun F' H' own' σ' S' => o .non F' H' own' (ext_of rfl rfl rfl rfl S') (repO_non.mpr rfl)
    | ret z ρ' =>
      rw [e] at o
      exact fun v F' H' own' σ' S' => o v F' H' own' (ext_of rfl rfl rfl rfl S') S'.topT
    | brk ρ' => rw [e] at o; exact o.elim
    | ct ρ' => rw [e] at o; exact o.elim
    | ex xc ρ' =>
      rw [e] at o
      exact fun cls d F' H' own' σ' S' r => o cls d F' H' own' (ext_of rfl rfl rfl rfl S') r
    | bad => rw [e] at o; exact o.elim
/-- a def stands: by its body -/
theorem vfn {P : Program} {w : World} {G : Gx} {mg : Str → Option Value} {base : Heap} {x qual : Str} {params : Arguments} {body : List Stmt} {scope : Scope} {f : Addr} {fd : FuncData} {N ps : List Str} {k n : Nat} {b : Sm} (F : FunD G.K x qual params body scope [] [] f fd) (S : FnScope N ps scope) (hm : mg x = some (.ref f)) (hn : ps.length = n)
    (hbi : ∀ (kV doc pm : Value) (an : Option Addr) (cdv ct : Value) (us : List Value), us.length = ps.length → bindArgs (PySem.W.fnOf x qual params body scope .none kV doc pm an cdv ct) ⟨us, []⟩ = pure (ps.zip us))
    (hb : VB { P, w, G, mg, base, N, sc := scope, k, pin := [], top := true, hot := false, lc := fun _ => true } body b) : VFn P w G mg base x (k + 1) n (Vc.run N.length b) := by
  subst hn
  exact ⟨f, fd, ps, hm, F.kp, F.bindsN hbi, fn_ok F S hb⟩
end Vs


/-! VStmt: assignments, blocks, if, return, loops. -/
namespace Vs
open PySem PySem.Spec PyProof.Rows L2 Vc

section
variable {G : Gx} {γ : Gh} {F H : Hp} {own : Own} {ρ : Vc.Env} {σ : L2.St}
theorem mem_kill {al : List (Nat × Nat × Nat)} {i : Nat} {p : Nat × Nat × Nat} (h : p ∈ Env.kill al i) : p ∈ al ∧ p.1 ≠ i ∧ p.2.1 ≠ i := by
  unfold Env.kill at h
  rw [List.mem_filter] at h
  obtain ⟨h1, h2⟩ := h
  simp only [Bool.and_eq_true, bne_iff_ne, ne_eq] at h2
  exact ⟨h1, h2.1, h2.2⟩
/-- a temporary goes into a slot -/
def ownA (own : Own) (i : Nat) : Own := fun a => match own a with
  | some (.inl j, τ) => if j = i then none else some (.inl j, τ)
  | some (.inr 0, τ) => some (.inl i, τ)
  | _ => none
theorem ownA_some {i : Nat} {a : Addr} {w : Ow} (h : ownA own i a = some w) : ∃ w', own a = some w' := by
  unfold ownA at h
  split at h
  · rename_i e; exact ⟨_, e⟩
  · rename_i e; exact ⟨_, e⟩
  · cases h
theorem Sta.assign {o : O} {v : V} {i : Nat} (ht : γ.tm = []) (hw : γ.wk = []) (hpl : γ.pl = []) (hp : i ∉ γ.pins.map (·.1)) (hi : i < ρ.s.length) (S : Sta G (γ.pushT o v) F H own ρ σ) : Sta G γ F H (ownA own i) (ρ.put i (some o)) (σ.set i (some v)) where
  fh := S.fh
  nf := fun a w e => let ⟨w', h⟩ := ownA_some e; S.nf a w' h
  sl := fun j z e => by
    have e : (ρ.s.set i (some o))[j]? = some (some z) := e
    by_cases hj : j = i
    · subst hj
      rw [List.getElem?_set_self hi] at e
      cases e
      refine ⟨v, List.getElem?_set_self (by rw [S.ln]; exact hi), ?_⟩
      have r := S.topT
      rw [ht] at r
      exact RepO.mono (.refl _) o v _ _ (fun a τ y e1 e2 => ⟨by unfold ownA; rw [e1]; simp, e2⟩) r
    · rw [List.getElem?_set_ne (Ne.symm hj)] at e
      obtain ⟨u, e1, r⟩ := S.sl j z e
      exact ⟨u, by rw [List.getElem?_set_ne (Ne.symm hj)]; exact e1, RepO.mono (.refl _) z u _ _ (fun a τ y e1 e2 => ⟨by unfold ownA; rw [e1]; simp [hj], e2⟩) r⟩
  al := fun x j k h => by
    obtain ⟨h1, h2, h3⟩ := mem_kill h
    obtain ⟨a, vs, u, l, e1, e2, e3, e4, e5⟩ := S.al x j k h1
    have h2 : x ≠ i := h2
    have h3 : j ≠ i := h3
    refine ⟨a, vs, u, l, ?_, e2, e3, ?_, ?_⟩
    · rw [List.getElem?_set_ne (Ne.symm h3)]; exact e1
    · rw [List.getElem?_set_ne (Ne.symm h2)]; exact e4
    · show (ρ.s.set i (some o))[j]? = _
      rw [List.getElem?_set_ne (Ne.symm h3)]; exact e5
  ln := by
    show (σ.set i (some v)).length = (ρ.s.set i (some o)).length
    rw [List.length_set, List.length_set]; exact S.ln
  rn := by show (ρ.s.set i (some o)).length = _; rw [List.length_set]; exact S.rn
  pn := fun p hp' => by
    have : p.1 ≠ i := fun z => hp (List.mem_map.mpr ⟨p, hp', z⟩)
    obtain ⟨z1, z, z2, z3⟩ := S.pn p hp'
    refine ⟨by rw [List.getElem?_set_ne (Ne.symm this)]; exact z1, z, ?_, z3⟩
    show (ρ.s.set i _)[p.1]? = _
    rw [List.getElem?_set_ne (Ne.symm this)]; exact z2
  hd := S.hd
  tm := fun k o v e => by rw [ht] at e; simp at e
  wk := fun p h => by rw [hw] at h; simp at h
  pl := fun p h => by rw [hpl] at h; simp at h
  lk := S.lk
  xd := S.xd
  b1 := S.b1
  b2 := S.b2
  b3 := fun a w e => let ⟨w', h⟩ := ownA_some e; S.b3 a w' h
  b4 := S.b4
/-- a name is forgotten -/
theorem Sta.forget {i : Nat} {x : Option V} (S : Sta G γ F H own ρ σ) (hp : i ∉ γ.pins.map (·.1)) (hpl : γ.pl = []) : Sta G γ F H own (ρ.put i none) (σ.set i x) where
  fh := S.fh
  nf := S.nf
  sl := fun j z e => by
    have e : (ρ.s.set i none)[j]? = some (some z) := e
    have hj : j ≠ i := by
      rintro rfl
      by_cases hi : j < ρ.s.length
      · rw [List.getElem?_set_self hi] at e; cases e
      · rw [List.getElem?_eq_none (by simpa using hi)] at e; cases e
    rw [List.getElem?_set_ne (Ne.symm hj)] at e
    obtain ⟨u, e1, r⟩ := S.sl j z e
    exact ⟨u, by rw [List.getElem?_set_ne (Ne.symm hj)]; exact e1, r⟩
  al := fun x' j k h => by
    obtain ⟨h1, h2, h3⟩ := mem_kill h
    obtain ⟨a, vs, u, l, e1, e2, e3, e4, e5⟩ := S.al x' j k h1
    have h2 : x' ≠ i := h2
    have h3 : j ≠ i := h3
    refine ⟨a, vs, u, l, ?_, e2, e3, ?_, ?_⟩
    · rw [List.getElem?_set_ne (Ne.symm h3)]; exact e1
    · rw [List.getElem?_set_ne (Ne.symm h2)]; exact e4
    · show (ρ.s.set i none)[j]? = _
      rw [List.getElem?_set_ne (Ne.symm h3)]; exact e5
  ln := by
    show (σ.set i x).length = (ρ.s.set i none).length
    rw [List.length_set, List.length_set]; exact S.ln
  rn := by show (ρ.s.set i none).length = _; rw [List.length_set]; exact S.rn
  pn := fun p hp' => by
    have : p.1 ≠ i := fun z => hp (List.mem_map.mpr ⟨p, hp', z⟩)
    obtain ⟨z1, z, z2, z3⟩ := S.pn p hp'
    refine ⟨by rw [List.getElem?_set_ne (Ne.symm this)]; exact z1, z, ?_, z3⟩
    show (ρ.s.set i _)[p.1]? = _
    rw [List.getElem?_set_ne (Ne.symm this)]; exact z2
  hd := S.hd
  tm := S.tm
  wk := S.wk
  pl := fun p h => by rw [hpl] at h; simp at h
  lk := S.lk
  xd := S.xd
  b1 := S.b1
  b2 := S.b2
  b3 := S.b3
  b4 := S.b4
/-- the same, the value still there -/
theorem Sta.dead {i : Nat} (S : Sta G γ F H own ρ σ) (hp : i ∉ γ.pins.map (·.1)) (hpl : γ.pl = []) : Sta G γ F H own (ρ.put i none) σ where
  fh := S.fh
  nf := S.nf
  sl := fun j z e => by
    have e : (ρ.s.set i none)[j]? = some (some z) := e
    have hj : j ≠ i := by
      rintro rfl
      by_cases hi : j < ρ.s.length
      · rw [List.getElem?_set_self hi] at e; cases e
      · rw [List.getElem?_eq_none (by simpa using hi)] at e; cases e
    rw [List.getElem?_set_ne (Ne.symm hj)] at e
    exact S.sl j z e
  al := fun x' j k h => by
    obtain ⟨h1, h2, h3⟩ := mem_kill h
    obtain ⟨a, vs, u, l, e1, e2, e3, e4, e5⟩ := S.al x' j k h1
    have h3 : j ≠ i := h3
    refine ⟨a, vs, u, l, e1, e2, e3, e4, ?_⟩
    show (ρ.s.set i none)[j]? = _
    rw [List.getElem?_set_ne (Ne.symm h3)]; exact e5
  ln := by
    show σ.length = (ρ.s.set i none).length
    rw [List.length_set]; exact S.ln
  rn := by show (ρ.s.set i none).length = _; rw [List.length_set]; exact S.rn
  pn := fun p hp' => by
    have : p.1 ≠ i := fun z => hp (List.mem_map.mpr ⟨p, hp', z⟩)
    obtain ⟨z1, z, z2, z3⟩ := S.pn p hp'
    refine ⟨z1, z, ?_, z3⟩
    show (ρ.s.set i _)[p.1]? = _
    rw [List.getElem?_set_ne (Ne.symm this)]; exact z2
  hd := S.hd
  tm := S.tm
  wk := S.wk
  pl := fun p h => by rw [hpl] at h; simp at h
  lk := S.lk
  xd := S.xd
  b1 := S.b1
  b2 := S.b2
  b3 := S.b3
  b4 := S.b4
/-- what a slot owns is frozen -/
def frzAt (F H : Hp) (own : Own) (i : Nat) : Hp := fun a => match own a with
  | some (.inl j, _) => if j = i then H a else F a
  | _ => F a
def ownF (own : Own) (i : Nat) : Own := fun a => match own a with
  | some (.inl j, τ) => if j = i then none else some (.inl j, τ)
  | x => x
theorem ownF_some {i : Nat} {a : Addr} {w : Ow} (h : ownF own i a = some w) : own a = some w := by
  unfold ownF at h
  split at h
  · rename_i e
    split at h
    · cases h
    · rw [e]; exact h
  · exact h
mutual
theorem RepO.freeze {F' : Hp} (hf : Same F F') {r : Nat ⊕ Nat} (hh : ∀ a τ x, own a = some (r, τ) → H a = some x → F' a = some x) : ∀ (o : O) (v : V) (π : List Nat), RepO G F H own o v (r, π) → Rep G F' o.toD v
  | .frz d, v, π, q => by simp only [RepO] at q; simp only [O.toD]; exact Rep.keep hf d v q
  | .lst l, v, π, q => by
    simp only [RepO] at q; simp only [O.toD, Rep]
    obtain ⟨a, vs, e, q, z, t⟩ := q
    exact ⟨a, vs, e, hh _ _ _ q z, Reps.keep hf l vs t⟩
  | .dk l, v, π, q => by
    simp only [RepO] at q; simp only [O.toD, Rep]
    obtain ⟨a, vs, e, q, z, t⟩ := q
    exact ⟨a, vs, e, .inl (hh _ _ _ q z), RepK.keep hf l vs t⟩
  | .dt l, v, π, q => by
    simp only [RepO] at q; simp only [O.toD, Rep]
    obtain ⟨a, vs, e, q, z, t⟩ := q
    exact ⟨a, vs, e, .inl (hh _ _ _ q z), RepT.keep hf l vs t⟩
  | .nl l, v, π, q => by
    simp only [RepO] at q; simp only [O.toD, Rep]
    obtain ⟨a, vs, e, q, z, t⟩ := q
    exact ⟨a, vs, e, hh _ _ _ q z, RepOs.freeze hf hh l vs π 0 t⟩
  | .nt l, v, π, q => by
    simp only [RepO] at q; simp only [O.toD, Rep]
    obtain ⟨a, vs, e, q, z, t⟩ := q
    exact ⟨a, vs, e, hh _ _ _ q z, RepOs.freeze hf hh l vs π 0 t⟩
  | .ndk l, v, π, q => by
    simp only [RepO] at q; simp only [O.toD, Rep]
    obtain ⟨a, vs, e, q, z, t⟩ := q
    exact ⟨a, vs, e, .inl (hh _ _ _ q z), RepOk.freeze hf hh l vs π 0 t⟩
  | .ob c l, v, π, q => by
    simp only [RepO] at q; simp only [O.toD, Rep]
    obtain ⟨a, dx, vs, e, q, z, n, t⟩ := q
    exact ⟨a, dx, vs, e, hh _ _ _ q z, n, RepOs.freeze hf hh l vs π 0 t⟩
theorem RepOs.freeze {F' : Hp} (hf : Same F F') {r : Nat ⊕ Nat} (hh : ∀ a τ x, own a = some (r, τ) → H a = some x → F' a = some x) : ∀ (o : List O) (v : List V) (π : List Nat) (k : Nat), RepOs G F H own o v (r, π) k → Reps G F' (O.toDs o) v
  | [], v, π, k, q => by simpa only [RepOs, O.toDs, Reps] using q
  | o :: l, v, π, k, q => by
    simp only [RepOs] at q; simp only [O.toDs, Reps]
    obtain ⟨x, ws, e, q, t⟩ := q
    exact ⟨x, ws, e, RepO.freeze hf hh o x _ q, RepOs.freeze hf hh l ws π _ t⟩
theorem RepOk.freeze {F' : Hp} (hf : Same F F') {r : Nat ⊕ Nat} (hh : ∀ a τ x, own a = some (r, τ) → H a = some x → F' a = some x) : ∀ (o : List (Ky × O)) (v : List (Key × V)) (π : List Nat) (k : Nat), RepOk G F H own o v (r, π) k → RepK G F' (O.toDk o) v
  | [], v, π, k, q => by simpa only [RepOk, O.toDk, RepK] using q
  | (_, o) :: l, v, π, k, q => by
    simp only [RepOk] at q; simp only [O.toDk, RepK]
    obtain ⟨x, ws, e, q, t⟩ := q
    exact ⟨x, ws, e, RepO.freeze hf hh o x _ q, RepOk.freeze hf hh l ws π _ t⟩
end
theorem frzAt_same (S : Sta G γ F H own ρ σ) (i : Nat) : Same F (frzAt F H own i) := fun a o e => by
  unfold frzAt
  split
  · split
    · exact S.fh a o e
    · exact e
  · exact e
theorem Sta.freeze {i : Nat} {o : O} (ht : γ.tm = []) (hw : γ.wk = []) (hpl : γ.pl = []) (hp : i ∉ γ.pins.map (·.1)) (S : Sta G γ F H own ρ σ) (ho : ρ.s[i]? = some (some o)) : Sta G γ (frzAt F H own i) H (ownF own i) (ρ.put i (some (.frz o.toD))) σ where
  fh := fun a u e => by
    unfold frzAt at e
    split at e
    · split at e
      · exact e
      · exact S.fh a u e
    · exact S.fh a u e
  nf := fun a w e => by
    have e1 := ownF_some e
    obtain ⟨n, q⟩ := S.nf a w e1
    refine ⟨?_, q⟩
    unfold frzAt
    unfold ownF at e
    rw [e1] at e ⊢
    split
    · rename_i h
      cases h
      simp only at e
      split at e
      · cases e
      · rename_i h; rw [if_neg h]; exact n
    · exact n
  sl := fun j z e => by
    have e : (ρ.s.set i (some (.frz o.toD)))[j]? = some (some z) := e
    have hf := frzAt_same S i
    by_cases hj : j = i
    · subst hj
      rw [List.getElem?_set_self (List.getElem?_eq_some_iff.mp ho).1] at e
      cases e
      obtain ⟨v, e1, r⟩ := S.sl j o ho
      exact ⟨v, e1, RepO.flatAny (RepO.freeze hf (fun a τ x q1 q2 => by unfold frzAt; rw [q1]; simp [q2]) o v [] r)⟩
    · rw [List.getElem?_set_ne (Ne.symm hj)] at e
      obtain ⟨u, e1, r⟩ := S.sl j z e
      exact ⟨u, e1, RepO.mono hf z u _ _ (fun a τ y e1 e2 => ⟨by unfold ownF; rw [e1]; simp [hj], e2⟩) r⟩
  al := fun x' j k h => by
    obtain ⟨h1, h2, h3⟩ := mem_kill h
    obtain ⟨a, vs, u, l, e1, e2, e3, e4, e5⟩ := S.al x' j k h1
    have h3 : j ≠ i := h3
    refine ⟨a, vs, u, l, e1, e2, e3, e4, ?_⟩
    show (ρ.s.set i _)[j]? = _
    rw [List.getElem?_set_ne (Ne.symm h3)]; exact e5
  ln := by
    show σ.length = (ρ.s.set i _).length
    rw [List.length_set]; exact S.ln
  rn := by show (ρ.s.set i _).length = _; rw [List.length_set]; exact S.rn
  pn := fun p hp' => by
    have : p.1 ≠ i := fun z => hp (List.mem_map.mpr ⟨p, hp', z⟩)
    obtain ⟨z1, z, z2, z3⟩ := S.pn p hp'
    refine ⟨z1, z, ?_, z3⟩
    show (ρ.s.set i _)[p.1]? = _
    rw [List.getElem?_set_ne (Ne.symm this)]; exact z2
  hd := fun p hp => Rep.keep (frzAt_same S i) _ _ (S.hd p hp)
  tm := fun k o v e => by rw [ht] at e; simp at e
  wk := fun p h => by rw [hw] at h; simp at h
  pl := fun p h => by rw [hpl] at h; simp at h
  lk := fun a u e => let ⟨o, h1, h2⟩ := S.lk a u e; ⟨o, h1, frzAt_same S i _ _ h2⟩
  xd := fun a fs e => frzAt_same S i _ _ (S.xd a fs e)
  b1 := S.b1.trans (unl_same (frzAt_same S i))
  b2 := S.b2
  b3 := fun a w e => S.b3 a w (ownF_some e)
  b4 := fun a u e => by
    unfold frzAt at e
    split at e
    · rename_i q
      split at e
      · exact .inr (S.b3 a _ q)
      · exact S.b4 a u e
    · exact S.b4 a u e
end

/-! ### statements -/
section
variable {C : Ctx}
theorem OutE.st {G : Gx} {γ : Gh} {ρ : Vc.Env} {σ : L2.St} {W : WX} {D : Ends} {Q : VK} {r : R O} {f : O → SR} {push : Gh → O → V → Gh} (o : OutS G γ W D (r.st ρ f)) (h : ∀ x, r = .ok x → OutS G γ W D (f x) → ∀ v F H own, Sta G (push γ x v) F H own ρ σ → Q v H) : OutE G γ ρ σ W Q push r := by
  cases r with
  | ok x => exact h x rfl o
  | ex x => exact fun cls d F H own S rx => o cls d F H own σ S rx
  | bad => exact o
theorem vb_nil : VB C [] sNil := fun X hX W tk => ⟨_, pss_nil, fun γ F H own ρ σ D hg S o => o F H own σ S⟩
theorem vb_cons {s : Stmt} {ss : List Stmt} {f g : Sm} (h : VS C s f) (h2 : VB C ss g) : VB C (s :: ss) (sSeq f g) := fun X hX W tk => by
  obtain ⟨t, p, q⟩ := h X hX W tk
  obtain ⟨t2, p2, q2⟩ := h2 X hX W tk
  refine ⟨_, pss_cons p p2, fun γ F H own ρ σ D hg S o => q γ F H own ρ σ _ hg S ?_⟩
  unfold sSeq at o
  cases e : f ρ with
  | nx ρ' => rw [e] at o; exact fun F' H' own' σ' S' => q2 γ F' H' own' ρ' σ' D hg S' o
  | ret z ρ' => rw [e] at o; exact o
  | brk ρ' => rw [e] at o; exact o
  | ct ρ' => rw [e] at o; exact o
  | ex x ρ' => rw [e] at o; exact o
  | bad => rw [e] at o; exact o
theorem vb_one {s : Stmt} {f : Sm} (h : VS C s f) : VB C [s] f := fun X hX W tk => by
  obtain ⟨t, p, q⟩ := h X hX W tk
  exact ⟨_, pss_one p, q⟩
/-- a ghost step ahead of a block -/
theorem vb_frz {i : Nat} {ss : List Stmt} {g : Sm} (h2 : VB C ss g) (hp : i ∉ C.pin := by first | exact List.not_mem_nil | decide) : VB C ss (sSeq (sFrz i) g) := fun X hX W tk => by
  obtain ⟨t2, p2, q2⟩ := h2 X hX W tk
  refine ⟨_, p2, fun γ F H own ρ σ D hg S o => ?_⟩
  unfold sSeq sFrz at o
  cases e : ρ.s[i]? with
  | none => rw [e] at o; exact o.elim
  | some x =>
    cases x with
    | none => rw [e] at o; exact o.elim
    | some z =>
      rw [e] at o
      exact q2 γ _ H _ _ σ D hg (S.freeze hg.tm hg.wk hg.pl (by rw [hg.pn]; exact hp) e) o
theorem vs_pass {pos} : VS C (.Pass pos) sNil := fun X hX W tk => ⟨_, ps_pass, fun γ F H own ρ σ D hg S o => o F H own σ S⟩
theorem vs_brk {pos} : VS C (.Break pos) sBrk := fun X hX W tk => ⟨_, ps_break, fun γ F H own ρ σ D hg S o => o F H own σ S⟩
theorem vs_ct {pos} : VS C (.Continue pos) sCt := fun X hX W tk => ⟨_, ps_continue, fun γ F H own ρ σ D hg S o => o F H own σ S⟩
theorem vs_expr {e : Expr} {f : E} {pos : Pos} (h : VP C e f) (hs : ∀ env, swapsWith e none pos.line env = pure false := by intro _; rfl) : VS C (.Expr e pos) (sExpr f) := fun X hX W tk => by
  obtain ⟨t, p, q⟩ := h X hX W tk
  exact ⟨_, ps_expr p (hs _), fun γ F H own ρ σ D hg S o => q γ F H own ρ σ _ S (OutE.st o fun x e o v F H own S' => o F H own σ S'.popW)⟩
theorem vs_ret {e : Expr} {f : E} {pos : Pos} (h : VE C e f) : VS C (.Return (some e) pos) (sRet f) := fun X hX W tk => by
  obtain ⟨t, p, q⟩ := h X hX W tk
  exact ⟨_, ps_ret p, fun γ F H own ρ σ D hg S o => q γ F H own ρ σ _ S (OutE.st o fun x e o v F H own S' => o v F H own σ S')⟩
theorem vs_retN {pos} : VS C (.Return none pos) sRetN := fun X hX W tk => ⟨_, ps_retN, fun γ F H own ρ σ D hg S o => o .non F H own σ (S.frzT (by simp [Rep]))⟩
/-- return of a name's own value -/
def ownR (own : Own) (i : Nat) : Own := fun a => match own a with
  | some (.inl j, τ) => if j = i then some (.inr 0, τ) else some (.inl j, τ)
  | x => none
theorem vs_retV {i : Nat} {x : Str} {pos p2 : Pos} (hN : C.N[i]? = some x := by rfl) (hp : i ∉ C.pin := by first | exact List.not_mem_nil | decide) (hv : Vis C.sc x := by first | exact Or.inl rfl | exact Or.inr (Or.inl rfl) | exact Or.inr (Or.inr rfl)) (hd : (x == ("__debug__" : Str)) = false := by decide)
    (hcd : (x == ("__classdict__" : Str)) = false := by decide) : VS C (.Return (some (.Name x pos)) p2) (sRetV i) := fun X hX W tk => by
  refine ⟨_, ps_ret (pe_var (i := i) (by rw [hX.N]; exact hN) (vis_of hX hv) hd hcd), fun γ F H own ρ σ D hg S o => ?_⟩
  unfold sRetV at o
  cases e : ρ.s[i]? with
  | none => rw [e] at o; exact o.elim
  | some y =>
    cases y with
    | none => rw [e] at o; exact o.elim
    | some z =>
      rw [e] at o
      obtain ⟨v, e1, r⟩ := S.sl i z e
      refine ⟨v, e1, o v F H (ownR own i) σ ?_⟩
      have rs : ∀ a w, ownR own i a = some w → ∃ w', own a = some w' := fun a w q => by
        unfold ownR at q
        split at q
        · rename_i e; exact ⟨_, e⟩
        · cases q
      have S1 : Sta C.G γ F H (ownR own i) (ρ.put i none) σ := by
        have S0 := S.dead (i := i) (by rw [hg.pn]; exact hp) hg.pl
        refine ⟨S0.fh, fun a w q => let ⟨w', h⟩ := rs a w q; S0.nf a w' h, fun j y q => ?_, S0.al, S0.ln, S0.rn, S0.pn, S0.hd, fun k o v q => by rw [hg.tm] at q; simp at q, fun p q => by rw [hg.wk] at q; simp at q, S0.pl, S0.lk, S0.xd, S0.b1, S0.b2, fun a w q => let ⟨w', h⟩ := rs a w q; S0.b3 a w' h, S0.b4⟩
        have hj : j ≠ i := by
          rintro rfl
          have q : (ρ.s.set j none)[j]? = some (some y) := q
          rw [List.getElem?_set_self (List.getElem?_eq_some_iff.mp e).1] at q; cases q
        obtain ⟨u, q1, q2⟩ := S0.sl j y q
        exact ⟨u, q1, RepO.mono (.refl _) y u _ _ (fun a τ y e1 e2 => ⟨by unfold ownR; rw [e1]; simp [hj], e2⟩) q2⟩
      refine S1.pushT ?_
      rw [hg.tm]
      exact RepO.mono (.refl _) z v _ _ (fun a τ y e1 e2 => ⟨by unfold ownR; rw [e1]; simp, e2⟩) r
theorem vs_if {c : Expr} {a b : List Stmt} {t : T} {f g : Sm} {pos : Pos} (hc : VT C c t) (ha : VB C a f) (hb : VB C b g) : VS C (.If c a b pos) (sIf t f g) := fun X hX W tk => by
  obtain ⟨tc, pc, qc⟩ := hc X hX W tk
  obtain ⟨ta, pa, qa⟩ := ha X hX W tk
  obtain ⟨tb, pb, qb⟩ := hb X hX W tk
  refine ⟨_, ps_if pc pa pb, fun γ F H own ρ σ D hg S o => qc γ F H own ρ σ _ S ?_⟩
  unfold sIf at o
  cases e : t ρ with
  | bad => rw [e] at o; exact o
  | ex x => rw [e] at o; exact fun cls d F H own S' r => o cls d F H own σ S' r
  | ok k =>
    rw [e] at o
    simp only [R.st_ok] at o
    intro F1 H1 own1 S1
    cases k with
    | true => exact iteT (qa γ F1 H1 own1 ρ σ D hg S1 (by simpa using o))
    | false => exact iteF (qb γ F1 H1 own1 ρ σ D hg S1 (by simpa using o))
/-- a name that is stored here -/
def LocOk (C : Ctx) (x : Str) : Prop := C.sc.names.lookup x = some .local ∨ (C.sc.names.lookup x = some .cell ∧ C.lc x = true)
theorem loc_of {X : Cx} (hX : CxOk C X) {x : Str} (h : LocOk C x) : L2.Loc X.env.scope x := by unfold L2.Loc; rw [hX.sc]; exact h.imp id And.left
theorem fn_of' {X : Cx} (hX : CxOk C X) {x : Str} (h : LocOk C x) : X.fn x = true ∨ X.env.scope.names.lookup x = some .local := by
  rcases h with h | h
  · exact .inr (by rw [hX.sc]; exact h)
  · exact .inl (hX.fn x h.2 (by rw [hX.sc]; exact h.1))
/-- name = value -/
theorem vs_set {i : Nat} {x : Str} {e : Expr} {f : E} {pos pos' : Pos} (h : VE C e f) (hN : C.N[i]? = some x := by rfl) (hx : LocOk C x := by first | exact .inl rfl | exact .inr ⟨rfl, rfl⟩) (hp : i ∉ C.pin := by first | exact List.not_mem_nil | decide)
    (hs : ∀ env : PySem.Env, env.scope = C.sc → swapsWith e (some (.Name x pos')) pos.line env = pure false := by intro _ _; rfl) : VS C (.Assign [.Name x pos'] e pos) (sSet i f) := fun X hX W tk => by
  obtain ⟨t, p, q⟩ := h X hX W tk
  refine ⟨_, ps_set (i := i) (by rw [hX.N]; exact hX.nd) (by rw [hX.N]; exact hN) (loc_of hX hx) p (hs _ hX.sc) (fn_of' hX hx), fun γ F H own ρ σ D hg S o => q γ F H own ρ σ _ S ?_⟩
  exact OutE.st o fun x e o v F H own S' => o F H _ _ (S'.assign hg.tm hg.wk hg.pl (by rw [hg.pn]; exact hp) (by rw [S.rn, hg.n]; exact (List.getElem?_eq_some_iff.mp hN).1))
end
end Vs


/-! VLoop: targets, what is walked, for, while. -/
namespace Vs
open PySem PySem.Spec PyProof.Rows L2 Vc

section
variable {G : Gx} {γ : Gh} {F H : Hp} {own : Own} {ρ : Vc.Env} {σ : L2.St}
/-- the last temporary is frozen -/
def frzTm (F H : Hp) (own : Own) (k : Nat) : Hp := fun a => match own a with
  | some (.inr j, _) => if j = k then H a else F a
  | _ => F a
def ownT (own : Own) (k : Nat) : Own := fun a => match own a with
  | some (.inr j, τ) => if j = k then none else some (.inr j, τ)
  | x => x
theorem ownT_some {i : Nat} {a : Addr} {w : Ow} (h : ownT own i a = some w) : own a = some w := by
  unfold ownT at h
  split at h
  · rename_i e
    split at h
    · cases h
    · rw [e]; exact h
  · exact h
theorem frzTm_same (S : Sta G γ F H own ρ σ) (i : Nat) : Same F (frzTm F H own i) := fun a o e => by
  unfold frzTm
  split
  · split
    · exact S.fh a o e
    · exact e
  · exact e
theorem Sta.frzTop {o : O} {v : V} (S : Sta G (γ.pushT o v) F H own ρ σ) : Sta G γ (frzTm F H own γ.tm.length) H (ownT own γ.tm.length) ρ σ ∧ Rep G (frzTm F H own γ.tm.length) o.toD v := by
  have hf := frzTm_same S γ.tm.length
  have rep : Rep G (frzTm F H own γ.tm.length) o.toD v := RepO.freeze hf (fun a τ x q1 q2 => by unfold frzTm; rw [q1]; simp [q2]) o v [] S.topT
  refine ⟨?_, rep⟩
  have S0 := S.popT
  exact {
    fh := fun a u e => by
      unfold frzTm at e
      split at e
      · split at e
        · exact e
        · exact S.fh a u e
      · exact S.fh a u e
    nf := fun a w e => by
      have e1 := ownT_some e
      obtain ⟨n, q⟩ := S.nf a w e1
      refine ⟨?_, q⟩
      unfold frzTm
      unfold ownT at e
      rw [e1] at e ⊢
      split
      · rename_i h
        cases h
        simp only at e
        split at e
        · cases e
        · rename_i h; rw [if_neg h]; exact n
      · exact n
    sl := fun j z e => by
      obtain ⟨u, e1, r⟩ := S.sl j z e
      exact ⟨u, e1, RepO.mono hf z u _ _ (fun a τ y e1 e2 => ⟨by unfold ownT; rw [e1], e2⟩) r⟩
    al := S.al
    ln := S.ln
    rn := S.rn
    pn := S.pn
    hd := fun p hp => Rep.keep hf _ _ (S.hd p hp)
    tm := fun k o' v' e => by
      have r := S0.tm k o' v' e
      have hk := (List.getElem?_eq_some_iff.mp e).1
      exact RepO.mono hf o' v' _ _ (fun a τ y e1 e2 => ⟨by unfold ownT; rw [e1]; simp; omega, e2⟩) r
    wk := fun p h => by
      obtain ⟨w, r, j, hj⟩ := S.wk p h
      exact ⟨w, RepO.mono hf p.1 p.2 _ _ (fun a τ y e1 e2 => ⟨by unfold ownT; rw [e1, hj], e2⟩) r, j, hj⟩
    pl := S.pl
    lk := fun a u e => let ⟨o, h1, h2⟩ := S.lk a u e; ⟨o, h1, hf _ _ h2⟩
    xd := fun a fs e => hf _ _ (S.xd a fs e)
    b1 := S.b1.trans (unl_same hf)
    b2 := S.b2
    b3 := fun a w e => S.b3 a w (ownT_some e)
    b4 := fun a u e => by
      unfold frzTm at e
      split at e
      · rename_i q
        split at e
        · exact .inr (S.b3 a _ q)
        · exact S.b4 a u e
      · exact S.b4 a u e }
theorem Sta.hold {d : D} {v : V} (S : Sta G γ F H own ρ σ) (r : Rep G F d v) : Sta G (γ.pushH d v) F H own ρ σ where
  fh := S.fh
  nf := S.nf
  sl := S.sl
  al := S.al
  ln := S.ln
  rn := S.rn
  pn := S.pn
  hd := fun p hp => by
    rcases List.mem_cons.mp hp with rfl | hp
    · exact r
    · exact S.hd p hp
  tm := S.tm
  wk := S.wk
  pl := S.pl
  lk := S.lk
  xd := S.xd
  b1 := S.b1
  b2 := S.b2
  b3 := S.b3
  b4 := S.b4
def Gh.holds (γ : Gh) (hd : List (D × V)) : Gh := { γ with hd := hd ++ γ.hd }
theorem Sta.unhold {hd : List (D × V)} (S : Sta G (γ.holds hd) F H own ρ σ) : Sta G γ F H own ρ σ :=
  S.less rfl rfl rfl (fun _ h => h) (fun _ h => List.mem_append_right _ h) (fun _ _ e => e) (fun _ h => h)
end

section
variable {C : Ctx}
/-! ### targets -/
def OutG (G : Gx) (γ : Gh) (Q : L2.St → Hp → Prop) : Option Vc.Env → Prop
  | some ρ => ∀ F H own σ, Sta G γ F H own ρ σ → Q σ H
  | none => False
def VG (C : Ctx) (tg : Expr) (g : Tg) : Prop := ∀ X, CxOk C X → ∃ t, PG X tg t ∧ ∀ γ F H own ρ σ d v Q, GhOk C γ → Sta C.G γ F H own ρ σ → Rep C.G F d v → OutG C.G γ Q (g d ρ) → t v σ H Q
def VGs (C : Ctx) (tgs : List Expr) (is : List Nat) : Prop := ∀ X, CxOk C X → ∃ t, PGs X tgs t ∧ ∀ γ F H own ρ σ ds vs Q, GhOk C γ → Sta C.G γ F H own ρ σ → Reps C.G F ds vs → OutG C.G γ Q (gVars is ds ρ) → t vs σ H Q
theorem vg_var {i : Nat} {x : Str} {pos : Pos} (hN : C.N[i]? = some x := by rfl) (hx : LocOk C x := by first | exact .inl rfl | exact .inr ⟨rfl, rfl⟩) (hp : i ∉ C.pin := by first | exact List.not_mem_nil | decide) : VG C (.Name x pos) (gVar i) := fun X hX =>
  ⟨_, pg_name (i := i) (by rw [hX.N]; exact hX.nd) (by rw [hX.N]; exact hN) (loc_of hX hx) (fn_of' hX hx), fun γ F H own ρ σ d v Q hg S r o =>
    o _ _ _ _ (((S.frzT r).assign hg.tm hg.wk hg.pl (by rw [hg.pn]; exact hp) (by rw [S.rn, hg.n]; exact (List.getElem?_eq_some_iff.mp hN).1)))⟩
theorem vgs_nil : VGs C [] [] := fun X hX => ⟨_, pgs_nil, fun γ F H own ρ σ ds vs Q hg S r o => by
  cases ds with
  | nil =>
    simp only [Reps] at r
    exact ⟨r, o F H own σ S⟩
  | cons d ds => exact o.elim⟩
theorem vgs_cons {i : Nat} {x : Str} {pos : Pos} {es : List Expr} {is : List Nat} (h2 : VGs C es is) (hN : C.N[i]? = some x := by rfl) (hx : LocOk C x := by first | exact .inl rfl | exact .inr ⟨rfl, rfl⟩) (hp : i ∉ C.pin := by first | exact List.not_mem_nil | decide)
    (hs : ∀ env, (assignEach (.Name x pos :: es) env).map (·.2) = assign (.Name x pos) env :: (assignEach es env).map (·.2) := by intro _; rfl) : VGs C (.Name x pos :: es) (i :: is) := fun X hX => by
  obtain ⟨t2, p2, q2⟩ := h2 X hX
  refine ⟨_, pgs_cons (pg_name (i := i) (by rw [hX.N]; exact hX.nd) (by rw [hX.N]; exact hN) (loc_of hX hx) (fn_of' hX hx)) p2 (hs _), fun γ F H own ρ σ ds vs Q hg S r o => ?_⟩
  cases ds with
  | nil => exact o.elim
  | cons d ds =>
    simp only [Reps] at r
    obtain ⟨v, ws, rfl, q, t⟩ := r
    refine ⟨v, ws, rfl, ?_⟩
    have S1 := (S.frzT q).assign hg.tm hg.wk hg.pl (i := i) (by rw [hg.pn]; exact hp) (by rw [S.rn, hg.n]; exact (List.getElem?_eq_some_iff.mp hN).1)
    exact q2 γ F H _ _ _ ds ws Q hg S1 t o
theorem vg_tup {es : List Expr} {is : List Nat} {k : Nat} {pos : Pos} (h : VGs C es is) (hot : C.hot = false := by rfl) (hn : ∀ env, (assignEach es env).length = is.length := by intro _; rfl) (hst : ∀ env, (assignEach es env).findIdx? (·.1) = none := by intro _; rfl) : VG C (.Tuple es k pos) (gTup is) := fun X hX => by
  obtain ⟨t, p, q⟩ := h X hX
  refine ⟨_, pg_tup (n := is.length) (hX.calm hot) p (hn _) (hst _), fun γ F H own ρ σ d v Q hg S r o => ?_⟩
  unfold Vc.gTup at o
  split at o
  · rename_i l
    simp only [Rep] at r
    obtain ⟨a, vs, rfl, e, t⟩ := r
    have hl : ∀ (is : List Nat) (l : List D) (ρ : Vc.Env), OutG C.G γ Q (gVars is l ρ) → l.length = is.length := by
      intro is
      induction is with
      | nil => intro l ρ o; cases l with
        | nil => rfl
        | cons _ _ => exact o.elim
      | cons i is ih => intro l ρ o; cases l with
        | nil => exact o.elim
        | cons d l => simp [ih l _ o]
    exact ⟨a, vs, rfl, SqT.of (S.fh _ _ e), by rw [t.length, hl _ _ _ o], q γ F H own ρ σ l vs Q hg S t o⟩
  · exact o.elim
/-- a, b = e -/
theorem vs_setT {tg e : Expr} {g : Tg} {f : E} {pos : Pos} (hg' : VG C tg g) (h : VE C e f) (hs : ∀ env : PySem.Env, env.scope = C.sc → swapsWithSole [tg] e pos.line env = pure false := by intro _ _; rfl) (hw : ∀ env : PySem.Env, env.scope = C.sc → swappedStores [tg] e env = pure none := by intro _ _; rfl)
    (h1 : ∀ env, (assignEach [tg] env).map (·.2) = [assign tg env] := by intro _; rfl) : VS C (.Assign [tg] e pos) (sSetT g f) := fun X hX W tk => by
  obtain ⟨t, p, q⟩ := h X hX W tk
  obtain ⟨tg', pg, qg⟩ := hg' X hX
  refine ⟨_, ps_asg p pg (hs _ hX.sc) (hw _ hX.sc) (h1 _), fun γ F H own ρ σ D hg S o => q γ F H own ρ σ _ S (OutE.st o fun x e o v F H own S' => ?_)⟩
  split at o
  · rename_i d
    have r := RepO.frz_iff.mp S'.topT
    refine qg γ F H own ρ σ d v _ hg S'.popT r ?_
    split at o
    · rename_i ρ' e; rw [e]; exact fun F H own σ S => o F H own σ S
    · exact o.elim
  · exact o.elim

/-! ### what is walked -/
/-- J gives the items ds, as long as hd is held -/
def Yld (G : Gx) (J : L2.It) (ds : List D) (hd : List (D × V)) : Prop :=
  ∀ (i : Nat) γ F H own ρ σ, (∀ p ∈ hd, p ∈ γ.hd) → Sta G γ F H own ρ σ → (ds.length ≤ i → J.stop i H) ∧ ∀ d, ds[i]? = some d → J.go i H ∧ ∀ x H', J.yld i H x H' → ∃ F' own', Ext F H own F' H' own' ∧ Rep G F' d x
def OutI (G : Gx) (γ : Gh) (ρ : Vc.Env) (σ : L2.St) (W : WX) (Q : L2.It → Hp → Prop) : R (List D) → Prop
  | .ok ds => ∀ J hd F H own, Sta G (γ.holds hd) F H own ρ σ → Yld G J ds hd → Q J H
  | .ex x => ∀ cls d F H own, Sta G γ F H own ρ σ → RepX G F H x cls d → W cls d σ H
  | .bad => False
def VI (C : Ctx) (tg iter : Expr) (f : Vc.It) : Prop := ∀ X, CxOk C X → ∀ W, Takes X W → ∃ wi, PI X tg iter wi ∧ ∀ γ F H own ρ σ Q, Sta C.G γ F H own ρ σ → OutI C.G γ ρ σ W Q (f ρ) → wi σ H Q
theorem yld_lst {G : Gx} {K : PySem.W.Frag} (hK : K = G.K) {a : Addr} {l : List D} : Yld G (Itl K a) l [(.lst l, .ref a)] := fun i γ F H own ρ σ hh S => by
  have r := S.hd _ (hh _ List.mem_cons_self)
  simp only [Rep] at r
  obtain ⟨a', vs, e, q, t⟩ := r
  cases e
  have sq : SqL K H a vs := SqL.of (S.fh _ _ q)
  refine ⟨fun h => ⟨vs, sq, by rw [t.length]; exact h⟩, fun d hd => ?_⟩
  obtain ⟨x, hx, rx⟩ := t.get hd
  exact ⟨⟨vs, x, sq, hx⟩, fun y H' ⟨e, z⟩ => by subst e; have := z vs sq; rw [hx] at this; cases this; exact ⟨F, own, Ext.refl S.fh, rx⟩⟩
theorem yld_scr {G : Gx} {K : PySem.W.Frag} (hK : K = G.K) {a : Addr} {l : List Int} : Yld G (Itl K a) (l.map .int) [(.scr l, .ref a)] := fun i γ F H own ρ σ hh S => by
  have r := S.hd _ (hh _ List.mem_cons_self)
  simp only [Rep] at r
  obtain ⟨a', e, q⟩ := r
  cases e
  have sq : SqL K H a (l.map V.int) := by rw [hK]; exact SqL.keep S.fh q
  refine ⟨fun h => ⟨_, sq, by simpa using h⟩, fun d hd => ?_⟩
  rw [List.getElem?_map] at hd
  obtain ⟨n, hn, rfl⟩ := Option.map_eq_some_iff.mp hd
  have hx : (l.map V.int)[i]? = some (.int n) := by rw [List.getElem?_map, hn]; rfl
  exact ⟨⟨_, _, sq, hx⟩, fun y H' ⟨e, z⟩ => by subst e; have := z _ sq; rw [hx] at this; cases this; exact ⟨F, own, Ext.refl S.fh, by simp [Rep]⟩⟩
theorem yld_tup {G : Gx} {K : PySem.W.Frag} {a : Addr} {l : List D} : Yld G (Itt K a) l [(.tup l, .ref a)] := fun i γ F H own ρ σ hh S => by
  have r := S.hd _ (hh _ List.mem_cons_self)
  simp only [Rep] at r
  obtain ⟨a', vs, e, q, t⟩ := r
  cases e
  have sq : SqT K H a vs := SqT.of (S.fh _ _ q)
  refine ⟨fun h => ⟨vs, sq, by rw [t.length]; exact h⟩, fun d hd => ?_⟩
  obtain ⟨x, hx, rx⟩ := t.get hd
  exact ⟨⟨vs, x, sq, hx⟩, fun y H' ⟨e, z⟩ => by subst e; have := z vs sq; rw [hx] at this; cases this; exact ⟨F, own, Ext.refl S.fh, rx⟩⟩
theorem yld_ktp {G : Gx} {K : PySem.W.Frag} (hK : K = G.K) {a : Addr} {l : List D} : Yld G (Itt K a) l [(.ktp l, .ref a)] := fun i γ F H own ρ σ hh S => by
  have r := S.hd _ (hh _ List.mem_cons_self)
  simp only [Rep] at r
  obtain ⟨a', vs, e, q, t⟩ := r
  cases e
  have sq : SqT K H a vs := by rw [hK]; exact SqT.keep S.fh q
  refine ⟨fun h => ⟨vs, sq, by rw [t.length]; exact h⟩, fun d hd => ?_⟩
  obtain ⟨x, hx, rx⟩ := t.get hd
  exact ⟨⟨vs, x, sq, hx⟩, fun y H' ⟨e, z⟩ => by subst e; have := z vs sq; rw [hx] at this; cases this; exact ⟨F, own, Ext.refl S.fh, rx⟩⟩
theorem yld_str {G : Gx} {s : Tx} : Yld G (Its (mk s)) (s.map fun c => .str [c]) [] := fun i γ F H own ρ σ hh S => by
  have hc : (mk s).cps.size = s.length := by simp [mk]
  refine ⟨fun h => ?_, fun d hd => ?_⟩
  · show (mk s).cps.size ≤ i
    rw [hc]; simpa using h
  · rw [List.getElem?_map] at hd
    obtain ⟨c, hn, rfl⟩ := Option.map_eq_some_iff.mp hd
    refine ⟨?_, fun y H' ⟨e, c', h1, h2⟩ => ?_⟩
    · show i < (mk s).cps.size
      rw [hc]; exact (List.getElem?_eq_some_iff.mp hn).1
    · subst e; subst h2
      have : c' = c := by
        have h3 : s[i]? = some c' := by simpa [mk] using h1
        rw [hn] at h3; cases h3; rfl
      subst this
      exact ⟨F, own, Ext.refl S.fh, by simp [Rep, mk, sz]⟩
theorem yld_rng {G : Gx} {lo : Int} {n : Nat} : Yld G (Itr lo n) ((List.range n).map fun (k : Nat) => .int (lo + k)) [] := fun i γ F H own ρ σ hh S => by
  refine ⟨fun h => by
    show n ≤ i
    simpa using h, fun d hd => ?_⟩
  rw [List.getElem?_map] at hd
  obtain ⟨c, hn, rfl⟩ := Option.map_eq_some_iff.mp hd
  obtain ⟨h1, h2⟩ := List.getElem?_eq_some_iff.mp hn
  simp only [List.length_range, List.getElem_range] at h1 h2
  subst h2
  exact ⟨h1, fun y H' ⟨e, z⟩ => by subst e; subst z; exact ⟨F, own, Ext.refl S.fh, by simp [Rep]⟩⟩
/-- any sequence, walked -/
def iSeq (K : PySem.W.Frag) (tl : TE) : TI := fun σ H R => tl σ H fun x H1 => (∃ a, x = .ref a ∧ (∃ xs, SqL K H1 a xs) ∧ R (Itl K a) H1) ∨ (∃ a, x = .ref a ∧ (∃ xs, SqT K H1 a xs) ∧ R (Itt K a) H1) ∨ ∃ s, x = .str s ∧ R (Its s) H1
/-- an iterator just made stands on its own -/
theorem fresh_it {X : Cx} {pins : List (Addr × Obj)} {σ : L2.St} {H : Hp} {s : Shared} (I : Inv X pins σ H s) : ∀ b ∈ [s.heap.objs.size], FpOk X pins H b := fun b hb => by
  rw [List.mem_singleton] at hb
  subst hb
  exact I.fpOk (Nat.le_refl _) (I.hok.fresh (Nat.le_refl _))
end
end Vs


/-! VLoop2: sequences walked, for, while. -/
namespace Vs
open PySem PySem.Spec PyProof.Rows L2 Vc RT

section
variable {X : Cx} {pins : List (Addr × Obj)} {σ : L2.St} {H : Hp} {s : Shared} {tg : Expr} {R : L2.It → Hp → Prop} {E : Value → Shared → Prop}
theorem it_list {a : Addr} (I : Inv X pins σ H s) (hq : ∃ xs, SqL X.K H a xs) (q : R (Itl X.K a) H) : wpAny (model X.prog X.w) X.A (pyIter (.ref a)) (PIE X pins σ tg R) E s := by
  obtain ⟨xs, hx⟩ := hq
  obtain ⟨_, _, pl, _⟩ := I.list hx
  exact wpAny_pyIter_list pl.isList (pi_one (tk := s.toks) I _ (turn_list a _) ⟨_, Heap.get?_push_size _ rfl, rfl, rfl⟩ q)
theorem it_tuple {a : Addr} (I : Inv X pins σ H s) (hq : ∃ xs, SqT X.K H a xs) (q : R (Itt X.K a) H) : wpAny (model X.prog X.w) X.A (pyIter (.ref a)) (PIE X pins σ tg R) E s := by
  obtain ⟨xs, hx⟩ := hq
  obtain ⟨its, _, pl, _⟩ := I.tuple hx
  exact wpAny_pyIter_tuple (show s.heap.IsTuple a its.toArray from pl) (pi_one (tk := s.toks) I _ (turn_tuple a _) ⟨_, Heap.get?_push_size _ rfl, rfl, rfl⟩ q)
theorem it_str {z : Str} {t : Tok} (I : Inv X pins σ H s) (q : R (Its z) H) : wpAny (model X.prog X.w) X.A (pyIter (.str z t)) (PIE X pins σ tg R) E s := by
  rcases Bool.eq_false_or_eq_true (z.cps.all (· < 128)) with h | h
  · have tr := fun it => turn_str (P := X.prog) (w := X.w) (K := X.K) (tg := tg) it z t "str_ascii_iterator" (.inl rfl)
    exact wpAny_pyIter_ascii h (pi_one (tk := s.toks) I _ (tr _) ⟨_, Heap.get?_push_size _ rfl, rfl, rfl⟩ q)
  · have tr := fun it => turn_str (P := X.prog) (w := X.w) (K := X.K) (tg := tg) it z t "str_iterator" (.inr rfl)
    exact wpAny_pyIter_wide h (pi_one (tk := s.toks) I _ (tr _) ⟨_, Heap.get?_push_size _ rfl, rfl, rfl⟩ q)
end
theorem pi_seq {X : Cx} {tg e : Expr} {te : TE} (he : PE X e te) : PI X tg e (iSeq X.K te) := by
  refine ⟨fun pins s σ H R I h => ?_⟩
  have h' : te σ H fun x H1 => (∃ a, x = .ref a ∧ (∃ xs, SqL X.K H1 a xs) ∧ R (Itl X.K a) H1) ∨ (∃ a, x = .ref a ∧ (∃ xs, SqT X.K H1 a xs) ∧ R (Itt X.K a) H1) ∨ ∃ z, x = .str z ∧ R (Its z) H1 := h
  refine thn (he.run pins s σ H _ I h') fun v s1 hv => ?_
  obtain ⟨x, H1, I1, r1, q1⟩ := hv
  rcases q1 with ⟨a, rfl, hq, q⟩ | ⟨a, rfl, hq, q⟩ | ⟨z, rfl, q⟩
  · cases r1; exact it_list I1 hq q
  · cases r1; exact it_tuple I1 hq q
  · obtain ⟨t, rfl⟩ := r1; exact it_str I1 q

section
variable {C : Ctx}
theorem Gh.holds_nil {γ : Gh} : γ.holds [] = γ := rfl
theorem Gh.holds_one {γ : Gh} {d : D} {v : V} : γ.holds [(d, v)] = γ.pushH d v := rfl
theorem vi_seq {tg e : Expr} {f : E} (h : VE C e f) : VI C tg e (itSeq f) := fun X hX W tk => by
  obtain ⟨t, p, q⟩ := h X hX W tk
  refine ⟨_, pi_seq p, fun γ F H own ρ σ Q S o => q γ F H own ρ σ _ S ?_⟩
  unfold itSeq at o
  cases e1 : f ρ with
  | bad => rw [e1] at o; exact False.elim o
  | ex x => rw [e1] at o; exact o
  | ok x =>
    rw [e1] at o
    simp only [R.bind_ok] at o
    intro v F1 H1 own1 S1
    obtain ⟨S2, r⟩ := S1.frzTop
    cases e2 : x.toD with
    | lst l =>
      rw [e2] at o r
      have r' := r
      simp only [Rep] at r'
      obtain ⟨a, vs, rfl, q1, _⟩ := r'
      exact .inl ⟨a, rfl, ⟨vs, SqL.of (S2.fh _ _ q1)⟩, o (Itl X.K a) [(.lst l, .ref a)] _ _ _ (S2.hold r) (yld_lst hX.K)⟩
    | tup l =>
      rw [e2] at o r
      have r' := r
      simp only [Rep] at r'
      obtain ⟨a, vs, rfl, q1, _⟩ := r'
      exact .inr (.inl ⟨a, rfl, ⟨vs, SqT.of (S2.fh _ _ q1)⟩, o (Itt X.K a) [(.tup l, .ref a)] _ _ _ (S2.hold r) yld_tup⟩)
    | ktp l =>
      rw [e2] at o r
      have r' := r
      simp only [Rep] at r'
      obtain ⟨a, vs, rfl, q1, _⟩ := r'
      exact .inr (.inl ⟨a, rfl, ⟨vs, by rw [hX.K]; exact SqT.keep S2.fh q1⟩, o (Itt X.K a) [(.ktp l, .ref a)] _ _ _ (S2.hold r) (yld_ktp hX.K)⟩)
    | scr l =>
      rw [e2] at o r
      have r' := r
      simp only [Rep] at r'
      obtain ⟨a, rfl, q1⟩ := r'
      exact .inl ⟨a, rfl, ⟨_, by rw [hX.K]; exact SqL.keep S2.fh q1⟩, o (Itl X.K a) [(.scr l, .ref a)] _ _ _ (S2.hold r) (yld_scr hX.K)⟩
    | str s =>
      rw [e2] at o r
      simp only [Rep] at r
      obtain ⟨rfl, _⟩ := r
      exact .inr (.inr ⟨_, rfl, o (Its (mk s)) [] _ _ _ S2 yld_str⟩)
    | _ => rw [e2] at o; exact False.elim o
theorem ints1 {G : Gx} {F H : Hp} {own : Own} {o : O} {vs : List V} {i : Int} (h : o = .frz (.int i)) {w : Ow} {v : V} (r : RepO G F H own o v w) : v = .int i := by subst h; exact repO_int.mp r
theorem vi_range1 {tg a : Expr} {g : E} {p pos : Pos} (hm : C.mg "range" = none) (ha : VAP C [a] (esCons g esNil)) (hg : C.sc.names.lookup ("range" : Str) = some .globalImplicit := by rfl) (hs : ∀ env, starEach [a] env = [(false, eval a env)] := by intro _; rfl) :
    VI C tg (.Call (.Name "range" p) [a] [] pos) (itRange1 g) := fun X hX W tk => by
  obtain ⟨t, pa, qa⟩ := ha X hX W tk
  refine ⟨_, pi_range1 (gl_of hX hg) (by rw [hX.mg]; exact hm) pa (hs _), fun γ F H own ρ σ Q S o => qa γ F H own ρ σ _ S ?_⟩
  unfold itRange1 at o
  unfold esCons
  cases e1 : g ρ with
  | bad => rw [e1] at o; exact False.elim o
  | ex x => rw [e1] at o; exact o
  | ok x =>
    rw [e1] at o
    simp only [R.bind_ok] at o
    intro vs F1 H1 own1 hl S1
    have S2 : Sta C.G γ F1 H1 own1 ρ σ := S1.less rfl rfl rfl (fun _ h => h) (fun _ h => h) (fun _ _ e => e) (fun p h => List.mem_append_right _ h)
    obtain ⟨v, w, rfl, r⟩ := repWs1 (repWs_of hl fun p hp => S1.wkR p (List.mem_append_left _ hp))
    split at o
    · rename_i j
      split at o
      · rename_i hj
        simp only [Bool.and_eq_true, decide_eq_true_eq] at hj
        refine ⟨j, by rw [repO_int.mp r], hj.1, hj.2, o (Itr 0 j.toNat) [] F1 H1 own1 S2 ?_⟩
        have := yld_rng (G := C.G) (lo := 0) (n := j.toNat)
        simpa using this
      · exact o.elim
    · exact o.elim
theorem vi_range2 {tg a b : Expr} {g h : E} {p pos : Pos} (hm : C.mg "range" = none) (ha : VAP C [a, b] (esCons g (esCons h esNil))) (hg : C.sc.names.lookup ("range" : Str) = some .globalImplicit := by rfl) (hs : ∀ env, starEach [a, b] env = [(false, eval a env), (false, eval b env)] := by intro _; rfl) (hs2 : ∀ env, starEach [b] env = [(false, eval b env)] := by intro _; rfl) :
    VI C tg (.Call (.Name "range" p) [a, b] [] pos) (itRange2 g h) := fun X hX W tk => by
  obtain ⟨t, pa, qa⟩ := ha X hX W tk
  refine ⟨_, pi_range2 (gl_of hX hg) (by rw [hX.mg]; exact hm) pa (hs _) (hs2 _), fun γ F H own ρ σ Q S o => qa γ F H own ρ σ _ S ?_⟩
  unfold itRange2 at o
  unfold esCons
  cases e1 : g ρ with
  | bad => rw [e1] at o; exact False.elim o
  | ex x => rw [e1] at o; exact o
  | ok x =>
    rw [e1] at o
    simp only [R.bind_ok] at o ⊢
    cases e2 : h ρ with
    | bad => rw [e2] at o; exact False.elim o
    | ex x => rw [e2] at o; exact o
    | ok y =>
      rw [e2] at o
      simp only [R.bind_ok] at o ⊢
      intro vs F1 H1 own1 hl S1
      have S2 : Sta C.G γ F1 H1 own1 ρ σ := S1.less rfl rfl rfl (fun _ h => h) (fun _ h => h) (fun _ _ e => e) (fun p h => List.mem_append_right _ h)
      obtain ⟨v, w, u, w', rfl, r, r2⟩ := repWs2 (repWs_of hl fun p hp => S1.wkR p (List.mem_append_left _ hp))
      split at o
      · rename_i i j
        split at o
        · rename_i hj
          simp only [Bool.and_eq_true, decide_eq_true_eq] at hj
          exact ⟨i, j, by rw [repO_int.mp r, repO_int.mp r2], ⟨hj.1.1.1, hj.1.1.2, hj.1.2, hj.2⟩, o (Itr i (j - i).toNat) [] F1 H1 own1 S2 yld_rng⟩
        · exact o.elim
      · exact o.elim
theorem enumD_get : ∀ (n i : Nat) (l : List D), (enumD n l)[i]? = (l[i]?).map fun d => .tup [.int ((n + i : Nat) : Int), d]
  | n, i, [] => by simp [enumD]
  | n, 0, d :: r => by simp [enumD]
  | n, i + 1, d :: r => by
    simp only [enumD, List.getElem?_cons_succ]
    rw [enumD_get (n + 1) i r]
    have : n + 1 + i = n + (i + 1) := by omega
    rw [this]
theorem enumD_length : ∀ (n : Nat) (l : List D), (enumD n l).length = l.length
  | n, [] => rfl
  | n, d :: r => by simp [enumD, enumD_length (n + 1) r]
theorem yld_enum {G : Gx} {K : PySem.W.Frag} {a : Addr} {l : List D} : Yld G (Ite K a) (enumD 0 l) [(.lst l, .ref a)] := fun i γ F H own ρ σ hh S => by
  have r := S.hd _ (hh _ List.mem_cons_self)
  simp only [Rep] at r
  obtain ⟨a', vs, e, q, t⟩ := r
  cases e
  have sq : SqL K H a vs := SqL.of (S.fh _ _ q)
  refine ⟨fun h => ⟨vs, sq, by rw [t.length, ← enumD_length 0 l]; exact h⟩, fun d hd => ?_⟩
  rw [enumD_get] at hd
  obtain ⟨d', hd', rfl⟩ := Option.map_eq_some_iff.mp hd
  obtain ⟨x, hx, rx⟩ := t.get hd'
  refine ⟨⟨vs, x, sq, hx⟩, fun y H' ⟨T, z, e1, hT, e2, hz⟩ => ?_⟩
  have hz' := hz vs sq
  rw [hx] at hz'
  cases hz'
  subst e1 e2
  refine ⟨_, own, Ext.frz S.fh hT _, ?_⟩
  simp only [Rep]
  refine ⟨T, _, rfl, upd_same, ?_⟩
  simp only [Reps]
  exact ⟨_, _, rfl, by simp [Rep], _, _, rfl, Rep.keep (Ext.frz (own := own) S.fh hT _).ff _ _ rx, rfl⟩
theorem vi_enum {elts : List Expr} {kk : Nat} {tpos : Pos} {e : Expr} {f : E} {p pos : Pos} (hm : C.mg "enumerate" = none) (h : VE C e f) (hg : C.sc.names.lookup ("enumerate" : Str) = some .globalImplicit := by rfl) (hs : ∀ env, starEach [e] env = [(false, eval e env)] := by intro _; rfl) :
    VI C (.Tuple elts kk tpos) (.Call (.Name "enumerate" p) [e] [] pos) (itEnum f) := fun X hX W tk => by
  obtain ⟨t, pa, qa⟩ := h X hX W tk
  refine ⟨_, pi_enum (gl_of hX hg) (by rw [hX.mg]; exact hm) (pa_cons pa pa_nil (hs _)) (hs _), fun γ F H own ρ σ Q S o => qa γ F H own ρ σ _ S ?_⟩
  unfold itEnum at o
  cases e1 : f ρ with
  | bad => rw [e1] at o; exact False.elim o
  | ex x => rw [e1] at o; exact o
  | ok x =>
    rw [e1] at o
    simp only [R.bind_ok] at o
    intro v F1 H1 own1 S1
    obtain ⟨S2, r⟩ := S1.frzTop
    cases e2 : x.toD with
    | lst l =>
      rw [e2] at o r
      have r' := r
      simp only [Rep] at r'
      obtain ⟨a, vs, rfl, q1, _⟩ := r'
      exact ⟨a, vs, rfl, SqL.of (S2.fh _ _ q1), o (Ite X.K a) [(.lst l, .ref a)] _ _ _ (S2.hold r) yld_enum⟩
    | _ => rw [e2] at o; exact False.elim o
theorem zipD_get : ∀ (i : Nat) (l m : List D), (zipD l m)[i]? = match l[i]?, m[i]? with | some a, some b => some (.tup [a, b]) | _, _ => none
  | i, [], m => by simp [zipD]
  | i, a :: l, [] => by simp [zipD]
  | 0, a :: l, b :: m => by simp [zipD]
  | i + 1, a :: l, b :: m => by simp only [zipD, List.getElem?_cons_succ]; exact zipD_get i l m
theorem zipD_length : ∀ (l m : List D), (zipD l m).length = min l.length m.length
  | [], m => by simp [zipD]
  | a :: l, [] => by simp [zipD]
  | a :: l, b :: m => by simp only [zipD, List.length_cons, zipD_length l m]; omega
theorem yld_zip {G : Gx} {K : PySem.W.Frag} {a b : Addr} {l m : List D} : Yld G (Itz K a b) (zipD l m) [(.lst l, .ref a), (.lst m, .ref b)] := fun i γ F H own ρ σ hh S => by
  have r := S.hd _ (hh _ List.mem_cons_self)
  have r2 := S.hd _ (hh _ (List.mem_cons_of_mem _ List.mem_cons_self))
  simp only [Rep] at r r2
  obtain ⟨a', vs, e, q, t⟩ := r
  cases e
  obtain ⟨b', us, e, q2, t2⟩ := r2
  cases e
  have sq : SqL K H a vs := SqL.of (S.fh _ _ q)
  have sq2 : SqL K H b us := SqL.of (S.fh _ _ q2)
  refine ⟨fun h => ⟨vs, us, sq, sq2, by rw [zipD_length] at h; rw [t.length, t2.length]; omega⟩, fun d hd => ?_⟩
  rw [zipD_get] at hd
  split at hd
  · rename_i d1 d2 h1 h2
    cases hd
    obtain ⟨x, hx, rx⟩ := t.get h1
    obtain ⟨y, hy, ry⟩ := t2.get h2
    refine ⟨⟨vs, us, x, y, sq, sq2, hx, hy⟩, fun z H' ⟨T, x', y', e1, hT, e2, hz, hz2⟩ => ?_⟩
    have hz' := hz vs sq
    rw [hx] at hz'
    cases hz'
    have hz2' := hz2 us sq2
    rw [hy] at hz2'
    cases hz2'
    subst e1 e2
    have kp := (Ext.frz (own := own) S.fh hT (.tup [x, y])).ff
    refine ⟨_, own, Ext.frz S.fh hT _, ?_⟩
    simp only [Rep]
    refine ⟨T, _, rfl, upd_same, ?_⟩
    simp only [Reps]
    exact ⟨_, _, rfl, Rep.keep kp _ _ rx, _, _, rfl, Rep.keep kp _ _ ry, rfl⟩
  · cases hd
theorem rev_get {α : Type} (l : List α) (i : Nat) (h : i < l.length) : l.reverse[i]? = l[l.length - 1 - i]? := by
  rw [List.getElem?_reverse h]
theorem yld_rev {G : Gx} {K : PySem.W.Frag} {a : Addr} {l : List D} {vs : List V} (hl : vs.length = l.length) : Yld G (Itv K a vs.length) l.reverse [(.lst l, .ref a)] := fun i γ F H own ρ σ hh S => by
  have r := S.hd _ (hh _ List.mem_cons_self)
  simp only [Rep] at r
  obtain ⟨a', vs', e, q, t⟩ := r
  cases e
  have sq : SqL K H a vs' := SqL.of (S.fh _ _ q)
  refine ⟨fun h => by
    show vs.length ≤ i
    rw [hl]; simpa using h, fun d hd => ?_⟩
  have hi : i < l.length := by have := (List.getElem?_eq_some_iff.mp hd).1; simpa using this
  rw [rev_get l i hi] at hd
  obtain ⟨x, hx, rx⟩ := t.get hd
  refine ⟨⟨by rw [hl]; exact hi, vs', x, sq, by rw [hl]; exact hx⟩, fun y H' ⟨e, z⟩ => ?_⟩
  subst e
  have := z vs' sq
  rw [hl, hx] at this
  cases this
  exact ⟨F, own, Ext.refl S.fh, rx⟩
theorem yld_revT {G : Gx} {K : PySem.W.Frag} {a : Addr} {l : List D} {vs : List V} (hl : vs.length = l.length) : Yld G (ItvT K a vs.length) l.reverse [(.tup l, .ref a)] := fun i γ F H own ρ σ hh S => by
  have r := S.hd _ (hh _ List.mem_cons_self)
  simp only [Rep] at r
  obtain ⟨a', vs', e, q, t⟩ := r
  cases e
  have sq : SqT K H a vs' := SqT.of (S.fh _ _ q)
  refine ⟨fun h => by
    show vs.length ≤ i
    rw [hl]; simpa using h, fun d hd => ?_⟩
  have hi : i < l.length := by have := (List.getElem?_eq_some_iff.mp hd).1; simpa using this
  rw [rev_get l i hi] at hd
  obtain ⟨x, hx, rx⟩ := t.get hd
  refine ⟨⟨by rw [hl]; exact hi, vs', x, sq, by rw [hl]; exact hx⟩, fun y H' ⟨e, z⟩ => ?_⟩
  subst e
  have := z vs' sq
  rw [hl, hx] at this
  cases this
  exact ⟨F, own, Ext.refl S.fh, rx⟩
theorem vi_rev {tg e : Expr} {f : E} {p pos : Pos} (hm : C.mg "reversed" = none) (h : VE C e f) (hg : C.sc.names.lookup ("reversed" : Str) = some .globalImplicit := by rfl) (hs : ∀ env, starEach [e] env = (false, eval e env) :: starEach [] env := by intro _; rfl) :
    VI C tg (.Call (.Name "reversed" p) [e] [] pos) (itRev f) := fun X hX W tk => by
  obtain ⟨t, pa, qa⟩ := h X hX W tk
  refine ⟨_, pi_revA (gl_of hX hg) (by rw [hX.mg]; exact hm) pa (hs _), fun γ F H own ρ σ Q S o => qa γ F H own ρ σ _ S ?_⟩
  unfold itRev at o
  cases e1 : f ρ with
  | bad => rw [e1] at o; exact False.elim o
  | ex x => rw [e1] at o; exact o
  | ok x =>
    rw [e1] at o
    simp only [R.bind_ok] at o
    intro v F1 H1 own1 S1
    obtain ⟨S2, r⟩ := S1.frzTop
    cases e2 : x.toD with
    | lst l =>
      rw [e2] at o r
      have r' := r
      simp only [Rep] at r'
      obtain ⟨a, vs, rfl, q1, t1⟩ := r'
      exact ⟨a, vs, rfl, .inl ⟨SqL.of (S2.fh _ _ q1), o (Itv X.K a vs.length) [(.lst l, .ref a)] _ _ _ (S2.hold r) (yld_rev t1.length)⟩⟩
    | tup l =>
      rw [e2] at o r
      have r' := r
      simp only [Rep] at r'
      obtain ⟨a, vs, rfl, q1, t1⟩ := r'
      exact ⟨a, vs, rfl, .inr ⟨SqT.of (S2.fh _ _ q1), o (ItvT X.K a vs.length) [(.tup l, .ref a)] _ _ _ (S2.hold r) (yld_revT t1.length)⟩⟩
    | _ => rw [e2] at o; exact False.elim o

/-! ### for, while -/
theorem OutS.holds {G : Gx} {γ : Gh} {hd : List (D × V)} {W : WX} {D : Ends} {r : SR} (o : OutS G γ W D r) : OutS G (γ.holds hd) W D r := by
  cases r with
  | nx ρ => exact fun F H own σ S => o F H own σ S.unhold
  | ret z ρ => exact fun v F H own σ S => o v F H own σ (S.less (γ' := γ.pushT z v) rfl rfl rfl (fun _ h => h) (fun _ h => List.mem_append_right _ h) (fun _ _ e => e) (fun _ h => h))
  | brk ρ => exact fun F H own σ S => o F H own σ S.unhold
  | ct ρ => exact fun F H own σ S => o F H own σ S.unhold
  | ex x ρ => exact fun cls d F H own σ S r => o cls d F H own σ S.unhold r
  | bad => exact o
theorem vs_for {tg iter : Expr} {body : List Stmt} {f : Vc.It} {g : Tg} {b : Sm} {pos : Pos} (hi : VI C tg iter f) (hg' : VG C tg g) (hb : VB C body b) (hs : ∀ env x, foldedSetIterable iter env x = pure x := by intro _ _; rfl) (hot : C.hot = false := by rfl) : VS C (.For tg iter body [] pos) (sFor f g b) := fun X hX W tk => by
  obtain ⟨wi, pi, qi⟩ := hi X hX W tk
  obtain ⟨t, p, q⟩ := hg' X hX
  obtain ⟨tb, pb, qb⟩ := hb X hX W tk
  refine ⟨_, ps_for hX.po (hX.calm hot) pi p pb (hs _), fun γ F H own ρ σ D hg S o => qi γ F H own ρ σ _ S ?_⟩
  unfold sFor at o
  cases e1 : f ρ with
  | bad => rw [e1] at o; exact o
  | ex x => rw [e1] at o; exact fun cls d F H own S r => o cls d F H own σ S r
  | ok ds =>
    rw [e1] at o
    simp only [R.st_ok] at o
    intro J hd F1 H1 own1 S1 Y
    have hg2 : GhOk C (γ.holds hd) := ⟨hg.tm, hg.wk, hg.pn, hg.n, hg.pl⟩
    have hin : ∀ p ∈ hd, p ∈ (γ.holds hd).hd := fun p h => List.mem_append_left _ h
    refine ⟨fun i m σ H => m = ds.length - i ∧ i ≤ ds.length ∧ ∃ ρ F own, Sta C.G (γ.holds hd) F H own ρ σ ∧ OutS C.G γ W D (loop g b (ds.drop i) ρ), ⟨ds.length, by simp, Nat.zero_le _, ρ, F1, own1, S1, by simpa using o⟩, ?_⟩
    rintro i m σ2 H2 ⟨rfl, hi, ρ2, F2, own2, S2, o2⟩
    obtain ⟨y1, y2⟩ := Y i _ _ _ _ _ _ hin S2
    by_cases hlt : i < ds.length
    · have hd' : ds.drop i = ds[i] :: ds.drop (i + 1) := List.drop_eq_getElem_cons hlt
      have hget : ds[i]? = some ds[i] := by simp [hlt]
      obtain ⟨go, yy⟩ := y2 _ hget
      refine .inr ⟨go, fun σ H => ∃ ρ F own, Sta C.G (γ.holds hd) F H own ρ σ ∧ OutS C.G γ W D (loop g b (ds.drop (i + 1)) ρ), fun σ' H' ⟨ρ', F', own', S', o'⟩ => ⟨ds.length - (i + 1), by omega, rfl, hlt, ρ', F', own', S', o'⟩, fun x H' yl => ?_⟩
      obtain ⟨F3, own3, x3, r3⟩ := yy x H' yl
      rw [hd'] at o2
      unfold loop at o2
      cases e2 : g ds[i] ρ2 with
      | none => rw [e2] at o2; exact o2.elim
      | some ρ3 =>
        rw [e2] at o2
        refine q _ F3 H' own3 ρ2 σ2 _ x _ hg2 (S2.grow x3) r3 ?_
        rw [e2]
        intro F4 H4 own4 σ4 S4
        refine qb _ F4 H4 own4 ρ3 σ4 _ hg2 S4 ?_
        cases e3 : b ρ3 with
        | nx ρ5 => simp only [e3] at o2; exact fun F5 H5 own5 σ5 S5 => ⟨ρ5, F5, own5, S5, o2⟩
        | ct ρ5 => simp only [e3] at o2; exact fun F5 H5 own5 σ5 S5 => ⟨ρ5, F5, own5, S5, o2⟩
        | brk ρ5 => simp only [e3] at o2; exact fun F5 H5 own5 σ5 S5 => o2 F5 H5 own5 σ5 S5.unhold
        | ret z ρ5 =>
          simp only [e3] at o2
          exact (OutS.holds (r := .ret z ρ5) (D := D) o2)
        | ex x ρ5 => simp only [e3] at o2; exact fun cls d F H own σ S r => o2 cls d F H own σ S.unhold r
        | bad => simp only [e3] at o2; exact o2
    · have e : i = ds.length := by omega
      subst e
      rw [List.drop_length] at o2
      exact .inl ⟨y1 (Nat.le_refl _), o2 F2 H2 own2 σ2 S2.unhold⟩
theorem vs_while {c : Expr} {body : List Stmt} {t : T} {b : Sm} {pos : Pos} (n : Nat) (hc : VT C c t) (hb : VB C body b) : VS C (.While c body [] pos) (sWhile n t b) := fun X hX W tk => by
  obtain ⟨tc, pc, qc⟩ := hc X hX W tk
  obtain ⟨tb, pb, qb⟩ := hb X hX W tk
  refine ⟨_, ps_while hX.po pc pb, fun γ F H own ρ σ D hg S o => ?_⟩
  refine ⟨fun m σ H => ∃ ρ F own, Sta C.G γ F H own ρ σ ∧ OutS C.G γ W D (wloop t b m ρ), ⟨n, ρ, F, own, S, o⟩, ?_⟩
  rintro m σ2 H2 ⟨ρ2, F2, own2, S2, o2⟩
  refine qc γ F2 H2 own2 ρ2 σ2 _ S2 ?_
  cases m with
  | zero => exact (show False from o2).elim
  | succ m =>
    unfold wloop at o2
    cases e1 : t ρ2 with
    | bad => rw [e1] at o2; exact o2
    | ex x => rw [e1] at o2; exact fun cls d F H own S r => o2 cls d F H own σ2 S r
    | ok k =>
      rw [e1] at o2
      simp only [R.st_ok] at o2
      intro F3 H3 own3 S3
      cases k with
      | false => exact iteF ((show OutS C.G γ W D (.nx ρ2) by simpa using o2) F3 H3 own3 σ2 S3)
      | true =>
        simp only [if_true] at o2
        refine iteT ⟨fun σ H => ∃ ρ F own, Sta C.G γ F H own ρ σ ∧ OutS C.G γ W D (wloop t b m ρ), fun σ' H' h' => ⟨m, Nat.lt_succ_self _, h'⟩, qb γ F3 H3 own3 ρ2 σ2 _ hg S3 ?_⟩
        cases e3 : b ρ2 with
        | nx ρ5 => rw [e3] at o2; exact fun F5 H5 own5 σ5 S5 => ⟨ρ5, F5, own5, S5, o2⟩
        | ct ρ5 => rw [e3] at o2; exact fun F5 H5 own5 σ5 S5 => ⟨ρ5, F5, own5, S5, o2⟩
        | brk ρ5 => rw [e3] at o2; exact o2
        | ret z ρ5 => rw [e3] at o2; exact o2
        | ex x ρ5 => rw [e3] at o2; exact o2
        | bad => rw [e3] at o2; exact o2
end
end Vs


/-! VPath: places, ways down into owned things. -/
namespace Vs
open PySem PySem.Spec PyProof.Rows L2 Vc

theorem suffix_ne {κ κ' τ : List Nat} {j k : Nat} (h : κ ++ (j :: τ) = κ' ++ (k :: τ)) : j = k := by
  have h1 := (List.append_inj' h rfl).2
  exact (List.cons.inj h1).1
section
variable {G : Gx} {F H : Hp} {own : Own}
theorem RepOs.focus : ∀ (l : List O) (vs : List V) (r : Nat ⊕ Nat) (τ : List Nat) (n k : Nat) (c : O), RepOs G F H own l vs (r, τ) n → l[k]? = some c →
    ∃ v, vs[k]? = some v ∧ RepO G F H own c v (r, (n + k) :: τ) ∧ ∀ (F' H' : Hp) (own' : Own) c', Same F F' → (∀ a κ j x, own a = some (r, κ ++ (j :: τ)) → j ≠ n + k → H a = some x → own' a = some (r, κ ++ (j :: τ)) ∧ H' a = some x) → RepO G F' H' own' c' v (r, (n + k) :: τ) → RepOs G F' H' own' (l.set k c') vs (r, τ) n
  | [], vs, r, τ, n, k, c, q, e => by simp at e
  | o :: l, vs, r, τ, n, 0, c, q, e => by
    simp only [RepOs] at q
    obtain ⟨x, ws, rfl, q1, q2⟩ := q
    simp at e; subst e
    refine ⟨x, rfl, by simpa using q1, fun F' H' own' c' hF h1 h2 => ?_⟩
    simp only [List.set_cons_zero, RepOs]
    refine ⟨x, ws, rfl, by simpa using h2, ?_⟩
    have gen : ∀ (l : List O) (ws : List V) (m : Nat), n < m → RepOs G F H own l ws (r, τ) m → RepOs G F' H' own' l ws (r, τ) m := by
      intro l
      induction l with
      | nil => intro ws m _ q; simpa only [RepOs] using q
      | cons o l ih =>
        intro ws m hm q
        simp only [RepOs] at q ⊢
        obtain ⟨x, us, rfl, q1, q2⟩ := q
        exact ⟨x, us, rfl, RepO.mono hF o x _ _ (fun a κ y e1 e2 => h1 a κ m y e1 (by omega) e2) q1, ih us (m + 1) (by omega) q2⟩
    exact gen l ws (n + 1) (by omega) q2
  | o :: l, vs, r, τ, n, k + 1, c, q, e => by
    simp only [RepOs] at q
    obtain ⟨x, ws, rfl, q1, q2⟩ := q
    obtain ⟨v, e1, e2, e3⟩ := RepOs.focus l ws r τ (n + 1) k c q2 (by simpa using e)
    have hn : n + 1 + k = n + (k + 1) := by omega
    rw [hn] at e2 e3
    refine ⟨v, by simpa using e1, e2, fun F' H' own' c' hF h1 h2 => ?_⟩
    simp only [List.set_cons_succ, RepOs]
    exact ⟨x, ws, rfl, RepO.mono hF o x _ _ (fun a κ y z1 z2 => h1 a κ n y z1 (by omega) z2) q1, e3 F' H' own' c' hF h1 h2⟩
theorem RepOk.focus : ∀ (l : List (Ky × O)) (vs : List (Key × V)) (r : Nat ⊕ Nat) (τ : List Nat) (n k : Nat) (p : Ky × O), RepOk G F H own l vs (r, τ) n → l[k]? = some p →
    ∃ v, vs[k]? = some (kyK p.1, v) ∧ RepO G F H own p.2 v (r, (n + k) :: τ) ∧ ∀ (F' H' : Hp) (own' : Own) c', Same F F' → (∀ a κ j x, own a = some (r, κ ++ (j :: τ)) → j ≠ n + k → H a = some x → own' a = some (r, κ ++ (j :: τ)) ∧ H' a = some x) → RepO G F' H' own' c' v (r, (n + k) :: τ) → RepOk G F' H' own' (l.set k (p.1, c')) vs (r, τ) n
  | [], vs, r, τ, n, k, c, q, e => by simp at e
  | o :: l, vs, r, τ, n, 0, c, q, e => by
    simp only [RepOk] at q
    obtain ⟨x, ws, rfl, q1, q2⟩ := q
    simp at e; subst e
    refine ⟨x, rfl, by simpa using q1, fun F' H' own' c' hF h1 h2 => ?_⟩
    simp only [List.set_cons_zero, RepOk]
    refine ⟨x, ws, rfl, by simpa using h2, ?_⟩
    have gen : ∀ (l : List (Ky × O)) (ws : List (Key × V)) (m : Nat), n < m → RepOk G F H own l ws (r, τ) m → RepOk G F' H' own' l ws (r, τ) m := by
      intro l
      induction l with
      | nil => intro ws m _ q; simpa only [RepOk] using q
      | cons o l ih =>
        intro ws m hm q
        simp only [RepOk] at q ⊢
        obtain ⟨x, us, rfl, q1, q2⟩ := q
        exact ⟨x, us, rfl, RepO.mono hF o.2 x _ _ (fun a κ y e1 e2 => h1 a κ m y e1 (by omega) e2) q1, ih us (m + 1) (by omega) q2⟩
    exact gen l ws (n + 1) (by omega) q2
  | o :: l, vs, r, τ, n, k + 1, c, q, e => by
    simp only [RepOk] at q
    obtain ⟨x, ws, rfl, q1, q2⟩ := q
    obtain ⟨v, e1, e2, e3⟩ := RepOk.focus l ws r τ (n + 1) k c q2 (by simpa using e)
    have hn : n + 1 + k = n + (k + 1) := by omega
    rw [hn] at e2 e3
    refine ⟨v, by simpa using e1, e2, fun F' H' own' c' hF h1 h2 => ?_⟩
    simp only [List.set_cons_succ, RepOk]
    exact ⟨x, ws, rfl, RepO.mono hF o.2 x _ _ (fun a κ y z1 z2 => h1 a κ n y z1 (by omega) z2) q1, e3 F' H' own' c' hF h1 h2⟩
theorem place_val {k : Ky} : ∀ {l : List (Ky × O)} {vs : List (Key × V)} {r : Ow} {n j : Nat} {v : V}, RepOk G F H own l vs r n → place l k = some j → vs[j]? = some (kyK k, v) → valV vs (kyK k) = some v
  | [], vs, r, n, j, v, q, e, z => by simp [place] at e
  | p :: l, vs, r, n, j, v, q, e, z => by
    simp only [RepOk] at q
    obtain ⟨x, ws, rfl, q1, q2⟩ := q
    unfold place at e
    split at e
    · rename_i h
      cases e
      simp at z
      simp [valV, List.find?_cons, h, z.2]
    · rename_i h
      obtain ⟨j', e', rfl⟩ := Option.map_eq_some_iff.mp e
      have h' : ¬ kyK p.1 = kyK k := fun e => h (kyK_inj e)
      have := place_val q2 e' (by simpa using z)
      simpa [valV, List.find?_cons, h'] using this
/-- a thing further down in an owned thing: it can be another one, the rest as it was -/
theorem RepO.focus : ∀ (π : List Pk) (o : O) (v : V) (r : Nat ⊕ Nat) (τ : List Nat) (o' : O), RepO G F H own o v (r, τ) → getP π o = some o' →
    ∃ v' τ', τ'.length = π.length ∧ PathAt H π v v' ∧ RepO G F H own o' v' (r, τ' ++ τ) ∧ ∀ (F' H' : Hp) (own' : Own) n m, Same F F' → (∀ a κ x, own a = some (r, κ ++ τ) → (∀ κ', κ ++ τ ≠ κ' ++ (τ' ++ τ)) → H a = some x → own' a = some (r, κ ++ τ) ∧ H' a = some x) → RepO G F' H' own' n v' (r, τ' ++ τ) → setP π o n = some m → RepO G F' H' own' m v (r, τ)
  | [], o, v, r, τ, o', q, e => by
    simp only [getP, Option.some.injEq] at e
    subst e
    exact ⟨v, [], rfl, rfl, q, fun F' H' own' n m hF h1 h2 h3 => by simp only [setP, Option.some.injEq] at h3; subst h3; exact h2⟩
  | .ix k :: π, o, v, r, τ, o', q, e => by
    simp only [getP] at e
    split at e
    · rename_i l
      obtain ⟨c, h1, h2⟩ := Option.bind_eq_some_iff.mp e
      simp only [RepO] at q
      obtain ⟨a, vs, rfl, ow, ha, t⟩ := q
      obtain ⟨x, e1, e2, e3⟩ := RepOs.focus l vs r τ 0 k c t h1
      rw [Nat.zero_add] at e2 e3
      obtain ⟨v', τ', p0, p1, p2, p3⟩ := RepO.focus π c x r (k :: τ) o' e2 h2
      refine ⟨v', τ' ++ [k], by simp [p0], ⟨a, vs, x, rfl, .inl ha, e1, p1⟩, by simpa using p2, fun F' H' own' n m hF g1 g2 g3 => ?_⟩
      simp only [setP, h1, Option.bind_some] at g3
      obtain ⟨c', g4, rfl⟩ := Option.map_eq_some_iff.mp g3
      simp only [RepO]
      have g0 := g1 a [] _ ow (fun κ' z => by have := congrArg List.length z; simp at this; omega) ha
      refine ⟨a, vs, rfl, g0.1, g0.2, e3 F' H' own' c' hF (fun b κ j y z1 z2 z3 => ?_) (p3 F' H' own' n c' hF (fun b κ y z1 z2 z3 => ?_) (by simpa using g2) g4)⟩
      · have := g1 b (κ ++ [j]) y (by simpa using z1) (fun κ' z => z2 (suffix_ne (κ := κ) (κ' := κ' ++ τ') (by simpa using z))) z3
        simpa using this
      · have := g1 b (κ ++ [k]) y (by simpa using z1) (fun κ' z => z2 κ' (by simpa using z)) z3
        simpa using this
    · rename_i l
      obtain ⟨c, h1, h2⟩ := Option.bind_eq_some_iff.mp e
      simp only [RepO] at q
      obtain ⟨a, vs, rfl, ow, ha, t⟩ := q
      obtain ⟨x, e1, e2, e3⟩ := RepOs.focus l vs r τ 0 k c t h1
      rw [Nat.zero_add] at e2 e3
      obtain ⟨v', τ', p0, p1, p2, p3⟩ := RepO.focus π c x r (k :: τ) o' e2 h2
      refine ⟨v', τ' ++ [k], by simp [p0], ⟨a, vs, x, rfl, .inr ha, e1, p1⟩, by simpa using p2, fun F' H' own' n m hF g1 g2 g3 => ?_⟩
      simp only [setP, h1, Option.bind_some] at g3
      obtain ⟨c', g4, rfl⟩ := Option.map_eq_some_iff.mp g3
      simp only [RepO]
      have g0 := g1 a [] _ ow (fun κ' z => by have := congrArg List.length z; simp at this; omega) ha
      refine ⟨a, vs, rfl, g0.1, g0.2, e3 F' H' own' c' hF (fun b κ j y z1 z2 z3 => ?_) (p3 F' H' own' n c' hF (fun b κ y z1 z2 z3 => ?_) (by simpa using g2) g4)⟩
      · have := g1 b (κ ++ [j]) y (by simpa using z1) (fun κ' z => z2 (suffix_ne (κ := κ) (κ' := κ' ++ τ') (by simpa using z))) z3
        simpa using this
      · have := g1 b (κ ++ [k]) y (by simpa using z1) (fun κ' z => z2 κ' (by simpa using z)) z3
        simpa using this
    · cases e
  | .fd k :: π, o, v, r, τ, o', q, e => by
    simp only [getP] at e
    split at e
    · rename_i cc l
      obtain ⟨c, h1, h2⟩ := Option.bind_eq_some_iff.mp e
      simp only [RepO] at q
      obtain ⟨a, dx, vs, rfl, ow, ha, hl, t⟩ := q
      obtain ⟨x, e1, e2, e3⟩ := RepOs.focus l vs r τ 0 k c t h1
      rw [Nat.zero_add] at e2 e3
      obtain ⟨v', τ', p0, p1, p2, p3⟩ := RepO.focus π c x r (k :: τ) o' e2 h2
      have hk : k < (G.cF cc).length := by rw [← hl]; exact (List.getElem?_eq_some_iff.mp e1).1
      refine ⟨v', τ' ++ [k], by simp [p0], ⟨a, _, dx, _, ((G.cF cc)[k], x), rfl, ha, ?_, p1⟩, by simpa using p2, fun F' H' own' n m hF g1 g2 g3 => ?_⟩
      · rw [List.getElem?_zip_eq_some]
        exact ⟨by simp [hk], e1⟩
      simp only [setP, h1, Option.bind_some] at g3
      obtain ⟨c', g4, rfl⟩ := Option.map_eq_some_iff.mp g3
      simp only [RepO]
      have g0 := g1 a [] _ ow (fun κ' z => by have := congrArg List.length z; simp at this; omega) ha
      refine ⟨a, dx, vs, rfl, g0.1, g0.2, hl, e3 F' H' own' c' hF (fun b κ j y z1 z2 z3 => ?_) (p3 F' H' own' n c' hF (fun b κ y z1 z2 z3 => ?_) (by simpa using g2) g4)⟩
      · have := g1 b (κ ++ [j]) y (by simpa using z1) (fun κ' z => z2 (suffix_ne (κ := κ) (κ' := κ' ++ τ') (by simpa using z))) z3
        simpa using this
      · have := g1 b (κ ++ [k]) y (by simpa using z1) (fun κ' z => z2 κ' (by simpa using z)) z3
        simpa using this
    · cases e
  | .ky k :: π, o, v, r, τ, o', q, e => by
    simp only [getP] at e
    split at e
    · rename_i l
      obtain ⟨j0, hj, h0⟩ := Option.bind_eq_some_iff.mp e
      obtain ⟨c, h1, h2⟩ := Option.bind_eq_some_iff.mp h0
      simp only [RepO] at q
      obtain ⟨a, vs, rfl, ow, ha, t⟩ := q
      obtain ⟨x, e1, e2, e3⟩ := RepOk.focus l vs r τ 0 j0 c t h1
      rw [Nat.zero_add] at e2 e3
      obtain ⟨v', τ', p0, p1, p2, p3⟩ := RepO.focus π c.2 x r (j0 :: τ) o' e2 h2
      have hck : c.1 = k := by
        have gen : ∀ (l : List (Ky × O)) (j : Nat), place l k = some j → ∀ p, l[j]? = some p → p.1 = k := by
          intro l
          induction l with
          | nil => intro j h; simp [place] at h
          | cons p l ih =>
            intro j h q hq
            unfold place at h
            split at h
            · cases h; simp at hq; subst hq; assumption
            · obtain ⟨j', h', rfl⟩ := Option.map_eq_some_iff.mp h
              exact ih j' h' q (by simpa using hq)
        exact gen l j0 hj c h1
      refine ⟨v', τ' ++ [j0], by simp [p0], ⟨a, vs, x, rfl, ha, place_val t hj (by rw [← hck]; exact e1), p1⟩, by simpa using p2, fun F' H' own' n m hF g1 g2 g3 => ?_⟩
      simp only [setP, hj, h1, Option.bind_some] at g3
      obtain ⟨c', g4, rfl⟩ := Option.map_eq_some_iff.mp g3
      simp only [RepO]
      have g0 := g1 a [] _ ow (fun κ' z => by have := congrArg List.length z; simp at this; omega) ha
      refine ⟨a, vs, rfl, g0.1, g0.2, e3 F' H' own' c' hF (fun b κ j y z1 z2 z3 => ?_) (p3 F' H' own' n c' hF (fun b κ y z1 z2 z3 => ?_) (by simpa using g2) g4)⟩
      · have := g1 b (κ ++ [j]) y (by simpa using z1) (fun κ' z => z2 (suffix_ne (κ := κ) (κ' := κ' ++ τ') (by simpa using z))) z3
        simpa using this
      · have := g1 b (κ ++ [j0]) y (by simpa using z1) (fun κ' z => z2 κ' (by simpa using z)) z3
        simpa using this
    · cases e
end
/-- a way leads to one value -/
theorem PathAt.one {H : Hp} : ∀ {π : List Pk} {v x y : V}, PathAt H π v x → PathAt H π v y → x = y
  | [], v, x, y, h1, h2 => by cases h1; cases h2; rfl
  | .ix k :: π, v, x, y, ⟨a, vs, z, e, q, t, r⟩, ⟨a', vs', z', e', q', t', r'⟩ => by
    subst e
    cases e'
    have : vs = vs' := by rcases q with q | q <;> rcases q' with q' | q' <;> rw [q] at q' <;> cases q' <;> rfl
    subst this
    rw [t] at t'; cases t'
    exact r.one r'
  | .fd j :: π, v, x, y, ⟨a, C, dx, fs, z, e, q, t, r⟩, ⟨a', C', dx', fs', z', e', q', t', r'⟩ => by
    subst e
    cases e'
    rw [q] at q'; cases q'
    rw [t] at t'; cases t'
    exact r.one r'
  | .ky k :: π, v, x, y, ⟨a, kvs, z, e, q, t, r⟩, ⟨a', kvs', z', e', q', t', r'⟩ => by
    subst e
    cases e'
    rw [q] at q'; cases q'
    rw [t] at t'; cases t'
    exact r.one r'
/-- the way down in what is owned stays where that stays -/
theorem PathAt.stay {G : Gx} {F H H' : Hp} {own : Own} : ∀ {π : List Pk} {o c : O} {v x : V} {r : Nat ⊕ Nat} {τ : List Nat}, RepO G F H own o v (r, τ) → getP π o = some c → PathAt H π v x → (∀ a κ y, own a = some (r, κ ++ τ) → H a = some y → H' a = some y) → PathAt H' π v x
  | [], o, c, v, x, r, τ, q, e, p, h => p
  | .ix k :: π, o, c, v, x, r, τ, q, e, ⟨a, vs, z, ev, ha, hz, p⟩, h => by
    subst ev
    simp only [getP] at e
    split at e
    · rename_i l
      obtain ⟨d, e1, e2⟩ := Option.bind_eq_some_iff.mp e
      simp only [RepO] at q
      obtain ⟨a', vs', ea, oa, ha', t⟩ := q
      cases ea
      have ev : vs = vs' := by rcases ha with ha | ha <;> rw [ha] at ha' <;> cases ha'; rfl
      subst ev
      obtain ⟨v', f1, f2, _⟩ := RepOs.focus l vs r τ 0 k d t e1
      rw [hz] at f1; cases f1
      rw [Nat.zero_add] at f2
      exact ⟨a, vs, z, rfl, .inl (h a [] _ oa ha'), hz, PathAt.stay f2 e2 p fun b κ y q1 q2 => h b (κ ++ [k]) y (by simpa using q1) q2⟩
    · rename_i l
      obtain ⟨d, e1, e2⟩ := Option.bind_eq_some_iff.mp e
      simp only [RepO] at q
      obtain ⟨a', vs', ea, oa, ha', t⟩ := q
      cases ea
      have ev : vs = vs' := by rcases ha with ha | ha <;> rw [ha] at ha' <;> cases ha'; rfl
      subst ev
      obtain ⟨v', f1, f2, _⟩ := RepOs.focus l vs r τ 0 k d t e1
      rw [hz] at f1; cases f1
      rw [Nat.zero_add] at f2
      exact ⟨a, vs, z, rfl, .inr (h a [] _ oa ha'), hz, PathAt.stay f2 e2 p fun b κ y q1 q2 => h b (κ ++ [k]) y (by simpa using q1) q2⟩
    · cases e
  | .fd k :: π, o, c, v, x, r, τ, q, e, ⟨a, C, dx, fs, z, ev, ha, hz, p⟩, h => by
    subst ev
    simp only [getP] at e
    split at e
    · rename_i cc l
      obtain ⟨d, e1, e2⟩ := Option.bind_eq_some_iff.mp e
      simp only [RepO] at q
      obtain ⟨a', dx', vs', ea, oa, ha', hl, t⟩ := q
      cases ea
      rw [ha] at ha'
      cases ha'
      obtain ⟨v', f1, f2, _⟩ := RepOs.focus l vs' r τ 0 k d t e1
      rw [Nat.zero_add] at f2
      have hz2 := (List.getElem?_zip_eq_some.mp hz).2
      rw [hz2] at f1; cases f1
      exact ⟨a, _, dx, _, z, rfl, h a [] _ oa ha, hz, PathAt.stay f2 e2 p fun b κ y q1 q2 => h b (κ ++ [k]) y (by simpa using q1) q2⟩
    · cases e
  | .ky k :: π, o, c, v, x, r, τ, q, e, ⟨a, kvs, z, ev, ha, hz, p⟩, h => by
    subst ev
    simp only [getP] at e
    split at e
    · rename_i l
      obtain ⟨n, hn, e0⟩ := Option.bind_eq_some_iff.mp e
      obtain ⟨d, e1, e2⟩ := Option.bind_eq_some_iff.mp e0
      simp only [RepO] at q
      obtain ⟨a', vs', ea, oa, ha', t⟩ := q
      cases ea
      rw [ha] at ha'
      cases ha'
      obtain ⟨v', f1, f2, _⟩ := RepOk.focus l kvs r τ 0 n d t e1
      rw [Nat.zero_add] at f2
      have hdk : d.1 = k := by
        have gen : ∀ (l : List (Ky × O)) (j : Nat), place l k = some j → ∀ p, l[j]? = some p → p.1 = k := by
          intro l
          induction l with
          | nil => intro j h; simp [place] at h
          | cons p l ih =>
            intro j h q hq
            unfold place at h
            split at h
            · cases h; simp at hq; subst hq; assumption
            · obtain ⟨j', h', rfl⟩ := Option.map_eq_some_iff.mp h
              exact ih j' h' q (by simpa using hq)
        exact gen l n hn d e1
      have := place_val t hn (by rw [← hdk]; exact f1)
      rw [hz] at this; cases this
      exact ⟨a, kvs, z, rfl, h a [] _ oa ha, hz, PathAt.stay f2 e2 p fun b κ y q1 q2 => h b (κ ++ [n]) y (by simpa using q1) q2⟩
    · cases e
end Vs


/-! VMut: owned things changed in place. -/
namespace Vs
open PySem PySem.Spec PyProof.Rows L2 Vc

section
variable {G : Gx} {γ : Gh} {F H : Hp} {own : Own} {ρ : Vc.Env} {σ : L2.St}
theorem upd_app_ne {H : Hp} {a b : Addr} {o x : HO} (h : b ≠ a) (e : H b = some x) : upd H a o b = some x := by rw [upd_ne h]; exact e
/-- the thing at a place, and how it is changed -/
theorem Sta.focus (ht : γ.tm = []) (hw : γ.wk = []) (hpl : γ.pl = []) (S : Sta G γ F H own ρ σ) {p : Nat × List Pk} {v : V} {o : O} (hv : AtPl H σ p v) (ho : ρ.at p = some o) :
    ∃ τ, RepO G F H own o v (.inl p.1, τ) ∧ ∀ a ho' o' ρ' own', v = .ref a → own a = some (.inl p.1, τ) → (∀ fs, ho' ≠ .xd fs) → o'.owned = true → (∀ b j κ, own b = some (.inl j, κ) → own' b = some (.inl j, κ)) → (∀ b w, own' b = some w → ∃ w', own b = some w') → RepO G F (upd H a ho') own' o' v (.inl p.1, τ) → ρ.upd p o' = some ρ' → Sta G γ F (upd H a ho') own' ρ' σ := by
  obtain ⟨s, π⟩ := p
  obtain ⟨v0, e1, pt⟩ := hv
  unfold Env.at at ho
  simp only at ho e1 pt ⊢
  split at ho
  · rename_i o0 hs
    obtain ⟨v0', e2, r0⟩ := S.sl s o0 hs
    rw [e1] at e2; cases e2
    obtain ⟨v', τ', lτ, pt', ro, reb⟩ := RepO.focus π o0 v0 (.inl s) [] o r0 ho
    cases pt.one pt'
    rw [List.append_nil] at ro
    refine ⟨τ', ro, fun a ho' o' ρ' own' ev oa k0 oo k1 k2 rn eu => ?_⟩
    subst ev
    have nodiff : ∀ b w, own b = some w → w ≠ (.inl s, τ') → b ≠ a := fun b w e ne z => by subst z; rw [oa] at e; cases e; exact ne rfl
    have hin : s < ρ.s.length := (List.getElem?_eq_some_iff.mp hs).1
    unfold Env.upd at eu
    rw [hs] at eu
    simp only at eu
    obtain ⟨m, hm, eu⟩ := Option.map_eq_some_iff.mp eu
    have rm : RepO G F (upd H a ho') own' m v0 (.inl s, []) := reb F (upd H a ho') own' o' m (.refl F) (fun b κ x q1 q2 q3 => ⟨k1 _ _ _ q1, upd_app_ne (nodiff b _ q1 fun z => by
      cases z
      exact q2 [] (by simp)) q3⟩) (by simpa using rn) hm
    have mo : m.owned = true := by
      cases π with
      | nil => simp only [setP, Option.some.injEq] at hm; subst hm; exact oo
      | cons pk π =>
        cases pk with
        | ix k' =>
          simp only [setP] at hm
          split at hm
          · obtain ⟨c, c1, c2⟩ := Option.bind_eq_some_iff.mp hm
            obtain ⟨c', _, rfl⟩ := Option.map_eq_some_iff.mp c2
            rfl
          · obtain ⟨c, c1, c2⟩ := Option.bind_eq_some_iff.mp hm
            obtain ⟨c', _, rfl⟩ := Option.map_eq_some_iff.mp c2
            rfl
          · cases hm
        | fd k' =>
          simp only [setP] at hm
          split at hm
          · obtain ⟨c, c1, c2⟩ := Option.bind_eq_some_iff.mp hm
            obtain ⟨c', _, rfl⟩ := Option.map_eq_some_iff.mp c2
            rfl
          · cases hm
        | ky k' =>
          simp only [setP] at hm
          split at hm
          · obtain ⟨c0, c01, c02⟩ := Option.bind_eq_some_iff.mp hm
            obtain ⟨c, c1, c2⟩ := Option.bind_eq_some_iff.mp c02
            obtain ⟨c', _, rfl⟩ := Option.map_eq_some_iff.mp c2
            rfl
          · cases hm
    obtain ⟨na, ua, hua⟩ := S.nf a _ oa
    have oth : ∀ j o, j ≠ s → ρ.s[j]? = some (some o) → ∃ v, σ[j]? = some (some v) ∧ RepO G F (upd H a ho') own' o v (.inl j, []) := fun j z hj e => by
      obtain ⟨u, q1, q2⟩ := S.sl j z e
      exact ⟨u, q1, RepO.mono (.refl _) z u _ _ (fun b τ y z1 z2 => ⟨k1 _ _ _ z1, upd_app_ne (nodiff b _ z1 fun q => by cases q; exact hj rfl) z2⟩) q2⟩
    have common : ∀ ρ'' : Vc.Env, ρ''.s = ρ.s.set s (some m) → (∀ x j k, (x, j, k) ∈ ρ''.al → (x, j, k) ∈ ρ.al ∧ (j ≠ s ∨ π ≠ [])) → Sta G γ F (upd H a ho') own' ρ'' σ := fun ρ'' es ea => {
      fh := fun b u e => by
        have : b ≠ a := fun z => by subst z; rw [na] at e; cases e
        exact upd_app_ne this (S.fh b u e)
      nf := fun b w e => by
        obtain ⟨w0, e⟩ := k2 b w e
        obtain ⟨n, u, hu⟩ := S.nf b w0 e
        refine ⟨n, ?_⟩
        by_cases hb : b = a
        · subst hb; exact ⟨_, upd_same⟩
        · exact ⟨u, upd_app_ne hb hu⟩
      sl := fun j z e => by
        rw [es] at e
        by_cases hj : j = s
        · subst hj
          rw [List.getElem?_set_self hin] at e
          cases e
          exact ⟨v0, e1, rm⟩
        · rw [List.getElem?_set_ne (Ne.symm hj)] at e
          exact oth j z hj e
      al := fun x j k h => by
        obtain ⟨h1, h2⟩ := ea x j k h
        obtain ⟨b, vs, u, l, q1, q2, q3, q4, q5⟩ := S.al x j k h1
        obtain ⟨u', q6, q7⟩ := S.sl j _ q5
        rw [q1] at q6; cases q6
        simp only [RepO] at q7
        obtain ⟨b', vs', q8, q9, q10, _⟩ := q7
        cases q8
        by_cases hj : j = s
        · subst hj
          rcases h2 with h2 | h2
          · exact absurd rfl h2
          · rw [hs] at q5; cases q5
            have hb : b ≠ a := nodiff b _ q9 fun z => by
              cases z
              exact h2 (List.length_eq_zero_iff.mp (by rw [← lτ]; rfl))
            have : ∃ l', m = .nl l' := by
              cases π with
              | nil => exact absurd rfl h2
              | cons pk π =>
                cases pk with
                | ix k' =>
                  simp only [setP] at hm
                  obtain ⟨c, c1, c2⟩ := Option.bind_eq_some_iff.mp hm
                  obtain ⟨c', _, rfl⟩ := Option.map_eq_some_iff.mp c2
                  exact ⟨_, rfl⟩
                | fd _ => simp only [setP] at hm; cases hm
                | ky _ => simp only [setP] at hm; cases hm
            obtain ⟨l', rfl⟩ := this
            exact ⟨b, vs, u, l', q1, upd_app_ne hb q2, q3, q4, by rw [es, List.getElem?_set_self hin]⟩
        · exact ⟨b, vs, u, l, q1, upd_app_ne (nodiff b _ q9 fun z => by cases z; exact hj rfl) q2, q3, q4, by rw [es, List.getElem?_set_ne (Ne.symm hj)]; exact q5⟩
      ln := by rw [es, List.length_set]; exact S.ln
      rn := by rw [es, List.length_set]; exact S.rn
      pn := fun q hq => by
        obtain ⟨z1, z, z2, z3⟩ := S.pn q hq
        refine ⟨z1, ?_⟩
        rw [es]
        by_cases hj : q.1 = s
        · rw [hj, List.getElem?_set_self hin]; exact ⟨m, rfl, mo⟩
        · rw [List.getElem?_set_ne (Ne.symm hj)]; exact ⟨z, z2, z3⟩
      hd := S.hd
      tm := fun k o v e => by rw [ht] at e; simp at e
      wk := fun p h => by rw [hw] at h; simp at h
      pl := fun p h => by rw [hpl] at h; simp at h
      lk := fun b u e => by
        obtain ⟨o, h1, h2⟩ := S.lk b u e
        have : b ≠ a := fun z => by subst z; rw [na] at h2; cases h2
        exact ⟨o, upd_app_ne this h1, h2⟩
      xd := fun b fs e => by
        by_cases hb : b = a
        · subst hb; rw [upd_same] at e; cases e; exact absurd rfl (k0 fs)
        · rw [upd_ne hb] at e; exact S.xd b fs e
      b1 := S.b1
      b2 := fun b u e n => by
        have hb : b ≠ a := fun z => by
          subst z
          rcases S.b3 b _ oa with q | q
          · exact n q
          · rw [q] at e; cases e
        have := S.b2 b u e n
        unfold unl at this ⊢
        split
        · rename_i q; rw [q] at this; exact this
        · rename_i q; rw [q] at this; exact upd_app_ne hb this
      b3 := fun b w e => let ⟨w', h⟩ := k2 b w e; S.b3 b w' h
      b4 := S.b4 }
    cases π with
    | nil =>
      subst eu
      exact common _ rfl fun x j k h => ⟨(mem_kill h).1, .inl (mem_kill h).2.2⟩
    | cons pk π =>
      subst eu
      exact common _ rfl fun x j k h => ⟨h, .inr (by simp)⟩
  · cases ho
end
end Vs


/-! VMut2: places, methods of lists, stores. -/
namespace Vs
open PySem PySem.Spec PyProof.Rows L2 Vc

section
variable {C : Ctx}
def OutPl (G : Gx) (γ : Gh) (ρ : Vc.Env) (σ : L2.St) (W : WX) (Q : VK) : R (Nat × List Pk) → Prop
  | .ok p => ∀ v F H own, Sta G (γ.pushP p v) F H own ρ σ → Q v H
  | .ex x => ∀ cls d F H own, Sta G γ F H own ρ σ → RepX G F H x cls d → W cls d σ H
  | .bad => False
/-- a place -/
def VPl (C : Ctx) (e : Expr) (f : Pl) : Prop := ∀ X, CxOk C X → ∀ W, Takes X W → ∃ t, PE X e t ∧ ∀ γ F H own ρ σ Q, Sta C.G γ F H own ρ σ → OutPl C.G γ ρ σ W Q (f ρ) → t σ H Q
theorem vpl_var {i : Nat} {x : Str} {pos : Pos} (hN : C.N[i]? = some x := by rfl) (hv : Vis C.sc x := by first | exact Or.inl rfl | exact Or.inr (Or.inl rfl) | exact Or.inr (Or.inr rfl)) (hd : (x == ("__debug__" : Str)) = false := by decide)
    (hcd : (x == ("__classdict__" : Str)) = false := by decide) : VPl C (.Name x pos) (plVar i) := fun X hX W tk => by
  refine ⟨_, pe_var (i := i) (by rw [hX.N]; exact hN) (vis_of hX hv) hd hcd, fun γ F H own ρ σ Q S o => ?_⟩
  unfold plVar at o
  split at o
  · rename_i z e
    split at o
    · rename_i ow
      obtain ⟨v, e1, _⟩ := S.sl i z e
      exact ⟨v, e1, o v F H own (S.pushP ⟨v, e1, rfl⟩ ⟨z, e, ow, z, rfl⟩)⟩
    · exact o.elim
  · split at o
    · rename_i j k hl
      obtain ⟨a, vs, v, l, e1, e2, e3, e4, e5⟩ := S.al i j k (mem_lk hl)
      obtain ⟨v', q1, q2⟩ := S.sl j _ e5
      rw [e1] at q1; cases q1
      simp only [RepO] at q2
      obtain ⟨a', vs', q3, _, q4, q5⟩ := q2
      cases q3
      rw [e2] at q4; cases q4
      have hk : k < l.length := by rw [← repOs_length _ _ _ _ q5]; exact (List.getElem?_eq_some_iff.mp e3).1
      exact ⟨v, e4, o v F H own (S.pushP ⟨_, e1, a, vs, v, rfl, .inl e2, e3, rfl⟩ ⟨_, e5, rfl, l[k], by simp [getP, hk]⟩)⟩
    · exact o.elim
theorem PathAt.app {H : Hp} : ∀ {π π' : List Pk} {v x y : V}, PathAt H π v x → PathAt H π' x y → PathAt H (π ++ π') v y
  | [], π', v, x, y, h1, h2 => by cases h1; exact h2
  | .ix k :: π, π', v, x, y, ⟨a, vs, z, e, q, t, r⟩, h2 => ⟨a, vs, z, e, q, t, r.app h2⟩
  | .fd j :: π, π', v, x, y, ⟨a, C, dx, fs, z, e, q, t, r⟩, h2 => ⟨a, C, dx, fs, z, e, q, t, r.app h2⟩
  | .ky k :: π, π', v, x, y, ⟨a, kvs, z, e, q, t, r⟩, h2 => ⟨a, kvs, z, e, q, t, r.app h2⟩
/-- the thing at a place is there -/
theorem Sta.atPl {G : Gx} {γ : Gh} {F H : Hp} {own : Own} {ρ : Vc.Env} {σ : L2.St} (S : Sta G γ F H own ρ σ) {p : Nat × List Pk} {v : V} {o : O} (hv : AtPl H σ p v) (ho : ρ.at p = some o) : ∃ w, RepO G F H own o v w := by
  obtain ⟨v0, e1, pt⟩ := hv
  unfold Env.at at ho
  split at ho
  · rename_i o0 hs
    obtain ⟨v0', e2, r0⟩ := S.sl _ o0 hs
    rw [e1] at e2; cases e2
    obtain ⟨v', τ', _, pt', ro, _⟩ := RepO.focus p.2 o0 v0 _ [] o r0 ho
    cases pt.one pt'
    exact ⟨_, ro⟩
  · cases ho
theorem getP_app {π : List Pk} {k : Pk} : ∀ {o c d : O}, getP π o = some c → getP [k] c = some d → getP (π ++ [k]) o = some d := by
  induction π with
  | nil => intro o c d h1 h2; simp only [getP, Option.some.injEq] at h1; subst h1; exact h2
  | cons p π ih =>
    intro o c d h1 h2
    cases p with
    | ix j =>
      simp only [List.cons_append, getP] at h1 ⊢
      split at h1
      · obtain ⟨x, e1, e2⟩ := Option.bind_eq_some_iff.mp h1
        rw [e1]; exact ih e2 h2
      · obtain ⟨x, e1, e2⟩ := Option.bind_eq_some_iff.mp h1
        rw [e1]; exact ih e2 h2
      · cases h1
    | fd j =>
      simp only [List.cons_append, getP] at h1 ⊢
      split at h1
      · obtain ⟨x, e1, e2⟩ := Option.bind_eq_some_iff.mp h1
        rw [e1]; exact ih e2 h2
      · cases h1
    | ky j =>
      simp only [List.cons_append, getP] at h1 ⊢
      split at h1
      · obtain ⟨n, e0, h1⟩ := Option.bind_eq_some_iff.mp h1
        obtain ⟨x, e1, e2⟩ := Option.bind_eq_some_iff.mp h1
        rw [e0, Option.bind_some, e1]; exact ih e2 h2
      · cases h1
theorem vpl_ix {a b : Expr} {pos : Pos} {fa : Pl} {fb : E} (ha : VPl C a fa) (hb : VP C b fb) (hs : PlainIx b := by intro _ _; rfl) : VPl C (.Subscript a b pos) (plIx fa fb) := fun X hX W tk => by
  obtain ⟨ta, pa, qa⟩ := ha X hX W tk
  obtain ⟨tb, pb, qb⟩ := hb X hX W tk
  refine ⟨_, pe_ix (IxR.or ix_seq (ix_dict (hu1 hX))) pa pb hs, fun γ F H own ρ σ Q S o => ?_⟩
  refine qa γ F H own ρ σ _ S ?_
  unfold plIx at o
  cases e1 : fa ρ with
  | bad => rw [e1] at o; exact False.elim o
  | ex x => rw [e1] at o; exact o
  | ok p =>
    rw [e1] at o
    intro v F1 H1 own1 S1
    refine qb (γ.pushP p v) F1 H1 own1 ρ σ _ S1 ?_
    simp only [R.bind_ok] at o
    cases e2 : fb ρ with
    | bad => rw [e2] at o; exact False.elim o
    | ex y => rw [e2] at o; exact fun cls d F H own S r => o cls d F H own (S.less rfl rfl rfl (fun _ h => h) (fun _ h => h) (fun _ _ e => e) (fun _ h => h) rfl rfl (fun _ h => List.mem_cons_of_mem _ h)) r
    | ok y =>
      rw [e2] at o
      simp only [R.bind_ok] at o
      intro u F2 H2 own2 S2
      obtain ⟨ap, apo⟩ := S2.pl (p, v) List.mem_cons_self
      obtain ⟨w2, r2⟩ := S2.topW
      have S3 : Sta C.G γ F2 H2 own2 ρ σ := S2.less rfl rfl rfl (fun _ h => h) (fun _ h => h) (fun _ _ e => e) (fun _ h => List.mem_cons_of_mem _ h) rfl rfl (fun _ h => List.mem_cons_of_mem _ h)
      split at o
      · rename_i l i e3
        obtain ⟨w, r⟩ := S3.atPl ap e3
        simp only [RepO] at r
        obtain ⟨b, vs, rfl, _, e4, t⟩ := r
        split at o
        · rename_i k e5
          have hl := repOs_length _ _ _ _ t
          have hk : k < vs.length := by
            rw [hl]
            unfold Vc.ixN at e5
            split at e5
            · split at e5
              · cases e5; omega
              · cases e5
            · split at e5
              · cases e5; omega
              · cases e5
          have hkl : k < l.length := by rw [← hl]; exact hk
          have apo' : ∃ z, ρ.s[p.1]? = some (some z) ∧ z.owned = true ∧ ∃ c, getP (p.2 ++ [.ix k]) z = some c := by
            obtain ⟨z, z1, z2, c, z3⟩ := apo
            refine ⟨z, z1, z2, l[k], getP_app (c := .nl l) ?_ (by simp [getP, hkl])⟩
            unfold Env.at at e3
            rw [z1] at e3
            exact e3
          refine .inl (.inl ⟨b, vs, i, vs[k], rfl, repO_int.mp r2, SqL.of e4, ?_, o _ F2 H2 own2 (S3.pushP ?_ apo')⟩)
          · unfold L2.atI
            rw [hl, ← ixN_eq, e5]
            simp [hk]
          · obtain ⟨v0, q1, q2⟩ := ap
            exact ⟨v0, q1, q2.app ⟨b, vs, vs[k], rfl, .inl e4, by simp [hk], rfl⟩⟩
        · exact o.elim
      · rename_i l d e3
        obtain ⟨w, r⟩ := S3.atPl ap e3
        simp only [RepO] at r
        obtain ⟨b, vs, rfl, _, e4, t⟩ := r
        split at o
        · rename_i k e5
          split at o
          · rename_i hp
            obtain ⟨n, hn⟩ := Option.isSome_iff_exists.mp hp
            have eu := toKy_v e5 (RepO.frz_iff.mp r2)
            subst eu
            have hlk : ∀ (l : List (Ky × O)) (n : Nat), place l k = some n → (look l k).isSome = true := by
              intro l
              induction l with
              | nil => intro n h; simp [place] at h
              | cons p l ih =>
                intro n h
                unfold place at h
                split at h
                · rename_i e; simp [look, List.find?_cons, e]
                · rename_i e
                  obtain ⟨n', h', _⟩ := Option.map_eq_some_iff.mp h
                  have := ih n' h'
                  simpa [look, List.find?_cons, e] using this
            rcases repOk_look k t with ⟨q1, _⟩ | ⟨d', x, w', q1, q2, q3⟩
            · have := hlk l n hn
              rw [q1] at this; cases this
            · have apo' : ∃ z, ρ.s[p.1]? = some (some z) ∧ z.owned = true ∧ ∃ c, getP (p.2 ++ [.ky k]) z = some c := by
                obtain ⟨z, z1, z2, c, z3⟩ := apo
                have hnl : ∀ (l : List (Ky × O)) (n : Nat), place l k = some n → ∃ q, l[n]? = some q := by
                  intro l
                  induction l with
                  | nil => intro n h; simp [place] at h
                  | cons q l ih =>
                    intro n h
                    unfold place at h
                    split at h
                    · cases h; exact ⟨q, rfl⟩
                    · obtain ⟨n', h', rfl⟩ := Option.map_eq_some_iff.mp h
                      obtain ⟨q', hq⟩ := ih n' h'
                      exact ⟨q', by simpa using hq⟩
                obtain ⟨q', hq'⟩ := hnl l n hn
                refine ⟨z, z1, z2, q'.2, getP_app (c := .ndk l) ?_ (by simp [getP, hn, hq'])⟩
                unfold Env.at at e3
                rw [z1] at e3
                exact e3
              refine .inr ⟨b, x, rfl, by rw [← q2]; exact DGet.k e4, o _ F2 H2 own2 (S3.pushP ?_ apo')⟩
              obtain ⟨v0, z1, z2⟩ := ap
              exact ⟨v0, z1, z2.app ⟨b, vs, x, rfl, e4, q2, rfl⟩⟩
          · exact o.elim
        · exact o.elim
      · exact o.elim

end
end Vs


/-! VMut3: methods of lists, stores, names for items. -/
namespace Vs
open PySem PySem.Spec PyProof.Rows L2 Vc

section
variable {C : Ctx}
/-- the rule r of a method says that g is done; items are only looked at -/
def MSp (C : Ctx) (r : V → List V → Hp → VK → Prop) (g : O → List O → Option O) : Prop :=
  ∀ X, CxOk C X → ∀ F H own o v w os vs o' Q, Same F H → NF F H own → RepO C.G F H own o v w → RepWs C.G F H own os vs → g o os = some o' →
    (∀ a ho, v = .ref a → own a = some w → (∀ fs, ho ≠ .xd fs) → RepO C.G F (upd H a ho) own o' v w → Q .non (upd H a ho)) → r v vs H Q
/-- the items are handed over -/
def MSpN (C : Ctx) (r : V → List V → Hp → VK → Prop) (g : O → List O → Option O) : Prop :=
  ∀ X, CxOk C X → ∀ F H own o v (s : Nat) τ c u o' Q, Same F H → NF F H own → RepO C.G F H own o v (.inl s, τ) → RepO C.G F H own c u (.inr 0, []) → g o [c] = some o' →
    (∀ a ho own', v = .ref a → own a = some (.inl s, τ) → (∀ fs, ho ≠ .xd fs) → (∀ b j κ, own b = some (.inl j, κ) → own' b = some (.inl j, κ)) → (∀ b w, own' b = some w → ∃ w', own b = some w') → RepO C.G F (upd H a ho) own' o' v (.inl s, τ) → Q .non (upd H a ho)) → r v [u] H Q
theorem isL_ty {G : Gx} {K : PySem.W.Frag} {F H : Hp} {own : Own} {o : O} {v : V} {w : Ow} (h : o.isL = true) (r : RepO G F H own o v w) : tyV K "list" v H := by
  cases o <;> first | (simp [O.isL] at h; done) | skip
  · simp only [RepO] at r
    obtain ⟨a, vs, rfl, _, e, _⟩ := r
    exact .inl ⟨rfl, vs, SqL.of e⟩
  · simp only [RepO] at r
    obtain ⟨a, vs, rfl, _, e, _⟩ := r
    exact .inl ⟨rfl, vs, SqL.of e⟩
theorem vs_mut {o e : Expr} {es : List Expr} {pl : Pl} {fs : Es} {name : Str} {apos cpos pos : Pos} {id : String} {r : V → List V → Hp → VK → Prop} {g : O → List O → Option O}
    (slot : Slot "list" name id) (hty : typeOf (.builtin id) = pure (.type "method_descriptor")) (hm : ∀ X, CxOk C X → MtR X id r) (hg : MSp C r g) (ho : VPl C o pl) (ha : VAP C (e :: es) fs)
    (hbase : ∀ env : PySem.Env, attributeBase o name env (eval o env) = eval o env := by intro _; rfl)
    (hfew : ∀ env : PySem.Env, ((backTo cpos (starEach (e :: es) env)).all (fun x => !x.1) && (backToKw cpos (keywordEach [] env)).all (fun x => x.1.isSome)
      && decide ((e :: es).length + ([] : List Keyword).length + (if ([] : List Keyword).isEmpty then 0 else 1) < 30)) = true := by intro _; rfl)
    (hline : (apos.endLine == cpos.line) = true := by rfl) (hs : ∀ env : PySem.Env, starEach (e :: es) env = (false, eval e env) :: starEach es env := by intro _; rfl) (hplain : ∀ env : PySem.Env, (backTo cpos (starEach es env)).any (·.1) = false := by intro _; rfl)
    (hsw : ∀ env, swapsWith (.Call (.Attribute o name apos) (e :: es) [] cpos) none pos.line env = pure false := by intro _; rfl) : VS C (.Expr (.Call (.Attribute o name apos) (e :: es) [] cpos) pos) (sMut pl g fs) := fun X hX W tk => by
  obtain ⟨to, po, qo⟩ := ho X hX W tk
  obtain ⟨ta, pa, qa⟩ := ha X hX W tk
  refine ⟨_, ps_expr (pe_bm PySem.F.plainAttrs_list slot hty (hm X hX) po pa (hbase _) (hfew _) hline (hs _) (hplain _)) (hsw _), fun γ F H own ρ σ D hgh S o => ?_⟩
  refine qo γ F H own ρ σ _ S ?_
  unfold sMut at o
  cases e1 : pl ρ with
  | bad => rw [e1] at o; exact o.elim
  | ex x => rw [e1] at o; exact fun cls d F H own S r => o cls d F H own σ S r
  | ok p =>
    rw [e1] at o
    simp only [R.st_ok] at o
    intro v F1 H1 own1 S1
    split at o
    · rename_i z hz
      split at o
      · rename_i hl
        have ap : AtPl H1 σ p v := (S1.pl (_, v) List.mem_cons_self).1
        obtain ⟨w, rz⟩ := S1.atPl ap hz
        refine ⟨isL_ty hl rz, qa (γ.pushP p v) F1 H1 own1 ρ σ _ S1 ?_⟩
        cases e2 : fs ρ with
        | bad => rw [e2] at o; exact o.elim
        | ex x =>
          rw [e2] at o
          exact fun cls d F H own S r => o cls d F H own σ (S.less rfl rfl rfl (fun _ h => h) (fun _ h => h) (fun _ _ e => e) (fun _ h => h) rfl rfl (fun _ h => List.mem_cons_of_mem _ h)) r
        | ok os =>
          rw [e2] at o
          simp only [R.st_ok] at o
          intro vs F2 H2 own2 hl2 S2
          have ap2 : AtPl H2 σ p v := (S2.pl (_, v) List.mem_cons_self).1
          have rw2 := repWs_of hl2 fun q hq => S2.wkR q (List.mem_append_left _ hq)
          have S3 : Sta C.G γ F2 H2 own2 ρ σ := S2.less rfl rfl rfl (fun _ h => h) (fun _ h => h) (fun _ _ e => e) (fun q h => List.mem_append_right _ h) rfl rfl (fun _ h => List.mem_cons_of_mem _ h)
          obtain ⟨τ, r3, reb⟩ := Sta.focus hgh.tm hgh.wk hgh.pl S3 ap2 hz
          unfold upS at o
          split at o
          · rename_i o' hgo
            split at o
            case isFalse => exact o.elim
            rename_i oo
            split at o
            · rename_i ρ' hu
              exact hg X hX F2 H2 own2 z v _ os vs o' _ S3.fh S3.nf r3 rw2 hgo fun a ho' ev oa k0 rn => o F2 _ own2 σ (reb a ho' o' ρ' own2 ev oa k0 oo (fun _ _ _ e => e) (fun _ w e => ⟨w, e⟩) rn hu)
            · exact o.elim
          · exact o.elim
      · exact o.elim
    · exact o.elim
theorem vs_mut0 {o : Expr} {pl : Pl} {name : Str} {apos cpos pos : Pos} {id : String} {r : V → List V → Hp → VK → Prop} {g : O → List O → Option O}
    (slot : Slot "list" name id) (hty : typeOf (.builtin id) = pure (.type "method_descriptor")) (hm : ∀ X, CxOk C X → MtR X id r) (hg : MSp C r g) (ho : VPl C o pl)
    (hbase : ∀ env : PySem.Env, attributeBase o name env (eval o env) = eval o env := by intro _; rfl)
    (hline : (apos.endLine == cpos.line) = true := by rfl)
    (hsw : ∀ env, swapsWith (.Call (.Attribute o name apos) [] [] cpos) none pos.line env = pure false := by intro _; rfl) : VS C (.Expr (.Call (.Attribute o name apos) [] [] cpos) pos) (sMut0 pl g) := fun X hX W tk => by
  obtain ⟨to, po, qo⟩ := ho X hX W tk
  refine ⟨_, ps_expr (pe_bm0 PySem.F.plainAttrs_list slot hty (hm X hX) po (hbase _) hline) (hsw _), fun γ F H own ρ σ D hgh S o => ?_⟩
  refine qo γ F H own ρ σ _ S ?_
  unfold sMut0 at o
  cases e1 : pl ρ with
  | bad => rw [e1] at o; exact o.elim
  | ex x => rw [e1] at o; exact fun cls d F H own S r => o cls d F H own σ S r
  | ok p =>
    rw [e1] at o
    simp only [R.st_ok] at o
    intro v F1 H1 own1 S1
    split at o
    · rename_i z hz
      split at o
      · rename_i hl
        have ap : AtPl H1 σ p v := (S1.pl (_, v) List.mem_cons_self).1
        obtain ⟨w, rz⟩ := S1.atPl ap hz
        have S3 : Sta C.G γ F1 H1 own1 ρ σ := S1.less rfl rfl rfl (fun _ h => h) (fun _ h => h) (fun _ _ e => e) (fun q h => h) rfl rfl (fun _ h => List.mem_cons_of_mem _ h)
        obtain ⟨τ, r3, reb⟩ := Sta.focus hgh.tm hgh.wk hgh.pl S3 ap hz
        refine ⟨isL_ty hl rz, ?_⟩
        unfold upS at o
        split at o
        · rename_i o' hgo
          split at o
          case isFalse => exact o.elim
          rename_i oo
          split at o
          · rename_i ρ' hu
            exact hg X hX F1 H1 own1 z v _ [] [] o' _ S3.fh S3.nf r3 rfl hgo fun a ho' ev oa k0 rn => o F1 _ own1 σ (reb a ho' o' ρ' own1 ev oa k0 oo (fun _ _ _ e => e) (fun _ w e => ⟨w, e⟩) rn hu)
          · exact o.elim
        · exact o.elim
      · exact o.elim
    · exact o.elim
/-- the one argument is handed over -/
theorem vs_mutN {o e : Expr} {pl : Pl} {f : E} {name : Str} {apos cpos pos : Pos} {id : String} {r : V → List V → Hp → VK → Prop} {g : O → List O → Option O}
    (slot : Slot "list" name id) (hty : typeOf (.builtin id) = pure (.type "method_descriptor")) (hm : ∀ X, CxOk C X → MtR X id r) (hg : MSpN C r g) (ho : VPl C o pl) (ha : VE C e f)
    (hbase : ∀ env : PySem.Env, attributeBase o name env (eval o env) = eval o env := by intro _; rfl)
    (hfew : ∀ env : PySem.Env, ((backTo cpos (starEach [e] env)).all (fun x => !x.1) && (backToKw cpos (keywordEach [] env)).all (fun x => x.1.isSome)
      && decide ([e].length + ([] : List Keyword).length + (if ([] : List Keyword).isEmpty then 0 else 1) < 30)) = true := by intro _; rfl)
    (hline : (apos.endLine == cpos.line) = true := by rfl) (hs : ∀ env : PySem.Env, starEach [e] env = (false, eval e env) :: starEach [] env := by intro _; rfl) (hplain : ∀ env : PySem.Env, (backTo cpos (starEach [] env)).any (·.1) = false := by intro _; rfl)
    (hsw : ∀ env, swapsWith (.Call (.Attribute o name apos) [e] [] cpos) none pos.line env = pure false := by intro _; rfl) : VS C (.Expr (.Call (.Attribute o name apos) [e] [] cpos) pos) (sMut pl g (esCons f esNil)) := fun X hX W tk => by
  obtain ⟨to, po, qo⟩ := ho X hX W tk
  obtain ⟨ta, pa, qa⟩ := (va_cons ha va_nil hs) X hX W tk
  refine ⟨_, ps_expr (pe_bm PySem.F.plainAttrs_list slot hty (hm X hX) po pa (hbase _) (hfew _) hline (hs _) (hplain _)) (hsw _), fun γ F H own ρ σ D hgh S o => ?_⟩
  refine qo γ F H own ρ σ _ S ?_
  unfold sMut at o
  cases e1 : pl ρ with
  | bad => rw [e1] at o; exact o.elim
  | ex x => rw [e1] at o; exact fun cls d F H own S r => o cls d F H own σ S r
  | ok p =>
    rw [e1] at o
    simp only [R.st_ok] at o
    intro v F1 H1 own1 S1
    split at o
    · rename_i z hz
      split at o
      · rename_i hl
        have ap : AtPl H1 σ p v := (S1.pl (_, v) List.mem_cons_self).1
        obtain ⟨w, rz⟩ := S1.atPl ap hz
        refine ⟨isL_ty hl rz, qa (γ.pushP p v) F1 H1 own1 ρ σ _ S1 ?_⟩
        cases e2 : (esCons f esNil) ρ with
        | bad => rw [e2] at o; exact o.elim
        | ex x =>
          rw [e2] at o
          exact fun cls d F H own S r => o cls d F H own σ (S.less rfl rfl rfl (fun _ h => h) (fun _ h => h) (fun _ _ e => e) (fun _ h => h) rfl rfl (fun _ h => List.mem_cons_of_mem _ h)) r
        | ok os =>
          rw [e2] at o
          simp only [R.st_ok] at o
          have hos : os.length = 1 := elS (n := 0) el0 ρ os e2
          match os, hos with
          | [c], _ =>
          intro vs F2 H2 own2 hl2 S2
          match vs, hl2 with
          | [u], _ =>
          have ap2 : AtPl H2 σ p v := (S2.pl (_, v) List.mem_cons_self).1
          have rc : RepO C.G F2 H2 own2 c u (.inr 0, []) := S2.tm 0 c u (by show (γ.tm ++ [(c, u)])[0]? = _; rw [hgh.tm]; rfl)
          have S3 : Sta C.G γ F2 H2 own2 ρ σ := S2.less rfl rfl rfl (fun _ h => h) (fun _ h => h) (fun _ _ e => by rw [hgh.tm] at e; simp at e) (fun q h => h) rfl rfl (fun _ h => List.mem_cons_of_mem _ h)
          obtain ⟨τ, r3, reb⟩ := Sta.focus hgh.tm hgh.wk hgh.pl S3 ap2 hz
          unfold upS at o
          split at o
          · rename_i o' hgo
            split at o
            case isFalse => exact o.elim
            rename_i oo
            split at o
            · rename_i ρ' hu
              exact hg X hX F2 H2 own2 z v p.1 τ c u o' _ S3.fh S3.nf r3 rc hgo fun a ho' own' ev oa k0 k1 k2 rn => o F2 _ own' σ (reb a ho' o' ρ' own' ev oa k0 oo k1 k2 rn hu)
            · exact o.elim
          · exact o.elim
      · exact o.elim
    · exact o.elim

/-! ### the methods -/
theorem reps_app {G : Gx} {F : Hp} : ∀ {l m : List D} {vs ws : List V}, Reps G F l vs → Reps G F m ws → Reps G F (l ++ m) (vs ++ ws)
  | [], m, vs, ws, r, q => by simp only [Reps] at r; subst r; exact q
  | d :: l, m, vs, ws, r, q => by
    simp only [Reps] at r
    obtain ⟨v, us, rfl, r1, r2⟩ := r
    simp only [List.cons_append, Reps]
    exact ⟨v, us ++ ws, rfl, r1, reps_app r2 q⟩
theorem ms_append : MSp C rAppend muAppend := fun X hX F H own o v w os vs o' Q fh nf r rs h q => by
  unfold muAppend at h
  split at h
  · rename_i l d
    split at h
    · rename_i hz
      cases h
      obtain ⟨u, w', rfl, r2⟩ := repWs1 rs
      have r2 := RepO.frz_iff.mp r2
      simp only [RepO] at r
      obtain ⟨a, xs, rfl, oa, e, t⟩ := r
      refine ⟨a, xs, u, rfl, rfl, e, by rw [t.length, ← sz_line]; exact hz, q a _ rfl oa (fun _ h => nomatch h) ?_⟩
      simp only [RepO]
      refine ⟨a, _, rfl, oa, upd_same, reps_app t ?_⟩
      simp only [Reps]
      exact ⟨u, [], rfl, r2, rfl⟩
    · cases h
  · cases h
theorem ms_extend : MSp C rExtend muExtend := fun X hX F H own o v w os vs o' Q fh nf r rs h q => by
  unfold muExtend at h
  split at h
  · rename_i l m
    split at h
    · rename_i hz
      cases h
      obtain ⟨u, w', rfl, r2⟩ := repWs1 rs
      have r2 := RepO.frz_iff.mp r2
      simp only [Rep] at r2
      obtain ⟨b, ys, rfl, eb, tb⟩ := r2
      simp only [RepO] at r
      obtain ⟨a, xs, rfl, oa, e, t⟩ := r
      refine ⟨a, b, xs, ys, rfl, rfl, e, fh _ _ eb, by rw [t.length, tb.length, ← sz_line]; exact hz, q a _ rfl oa (fun _ h => nomatch h) ?_⟩
      simp only [RepO]
      exact ⟨a, _, rfl, oa, upd_same, reps_app t tb⟩
    · cases h
  · rename_i l m
    split at h
    · rename_i hz
      cases h
      obtain ⟨u, w', rfl, r2⟩ := repWs1 rs
      simp only [RepO] at r2
      obtain ⟨b, ys, rfl, ob, eb, tb⟩ := r2
      simp only [RepO] at r
      obtain ⟨a, xs, rfl, oa, e, t⟩ := r
      refine ⟨a, b, xs, ys, rfl, rfl, e, eb, by rw [t.length, tb.length, ← sz_line]; exact hz, q a _ rfl oa (fun _ h => nomatch h) ?_⟩
      simp only [RepO]
      exact ⟨a, _, rfl, oa, upd_same, reps_app t tb⟩
    · cases h
  · cases h
theorem reps_rev {G : Gx} {F : Hp} : ∀ {l : List D} {vs : List V}, Reps G F l vs → Reps G F l.reverse vs.reverse
  | [], vs, r => by simp only [Reps] at r; subst r; simp [Reps]
  | d :: l, vs, r => by
    simp only [Reps] at r
    obtain ⟨v, us, rfl, r1, r2⟩ := r
    simp only [List.reverse_cons]
    exact reps_app (reps_rev r2) (by simp only [Reps]; exact ⟨v, [], rfl, r1, rfl⟩)
theorem ms_reverse : MSp C rReverse muReverse := fun X hX F H own o v w os vs o' Q fh nf r rs h q => by
  unfold muReverse at h
  split at h
  · rename_i l
    cases h
    simp only [RepWs] at rs
    subst rs
    simp only [RepO] at r
    obtain ⟨a, xs, rfl, oa, e, t⟩ := r
    refine ⟨a, xs, rfl, rfl, e, q a _ rfl oa (fun _ h => nomatch h) ?_⟩
    simp only [RepO]
    exact ⟨a, _, rfl, oa, upd_same, reps_rev t⟩
  · cases h
theorem reps_take {G : Gx} {F : Hp} : ∀ {l : List D} {vs : List V} (n : Nat), Reps G F l vs → Reps G F (l.take n) (vs.take n)
  | [], vs, n, r => by simp only [Reps] at r; subst r; simp [Reps]
  | d :: l, vs, 0, r => by simp [Reps]
  | d :: l, vs, n + 1, r => by
    simp only [Reps] at r
    obtain ⟨v, us, rfl, r1, r2⟩ := r
    simp only [List.take_succ_cons, Reps]
    exact ⟨v, _, rfl, r1, reps_take n r2⟩
theorem reps_drop {G : Gx} {F : Hp} : ∀ {l : List D} {vs : List V} (n : Nat), Reps G F l vs → Reps G F (l.drop n) (vs.drop n)
  | [], vs, n, r => by simp only [Reps] at r; subst r; simp [Reps]
  | d :: l, vs, 0, r => by simpa using r
  | d :: l, vs, n + 1, r => by
    simp only [Reps] at r
    obtain ⟨v, us, rfl, r1, r2⟩ := r
    simp only [List.drop_succ_cons]
    exact reps_drop n r2
abbrev rInsert : V → List V → Hp → VK → Prop := fun x vs H Q => ∃ (l : Addr) (xs : List V) (i : Int) (y : V), x = .ref l ∧ vs = [.int i, y] ∧ H l = some (.lst xs) ∧ xs.length < sizeLine ∧ 0 ≤ i ∧ i < 2 ^ 63 ∧
    Q .non (upd H l (.lst (xs.take i.toNat ++ [y] ++ xs.drop i.toNat)))
theorem ms_insert : MSp C rInsert muInsert := fun X hX F H own o v w os vs o' Q fh nf r rs h q => by
  unfold muInsert at h
  split at h
  · rename_i l i d
    split at h
    · rename_i hz
      simp only [Bool.and_eq_true, decide_eq_true_eq] at hz
      obtain ⟨⟨h1, h2⟩, h3⟩ := hz
      cases h
      obtain ⟨u, w', u2, w2, rfl, r2, r3⟩ := repWs2 rs
      have r2 := repO_int.mp r2
      have r3 := RepO.frz_iff.mp r3
      subst r2
      simp only [RepO] at r
      obtain ⟨a, xs, rfl, oa, e, t⟩ := r
      refine ⟨a, xs, i, u2, rfl, rfl, e, by rw [t.length, ← sz_line]; exact h1, h2, h3, q a _ rfl oa (fun _ h => nomatch h) ?_⟩
      simp only [RepO]
      refine ⟨a, _, rfl, oa, upd_same, reps_app (reps_app (reps_take _ t) ?_) (reps_drop _ t)⟩
      simp only [Reps]
      exact ⟨u2, [], rfl, r3, rfl⟩
    · cases h
  · cases h
theorem repOs_app {G : Gx} {F H : Hp} {own : Own} {w : Ow} : ∀ {l m : List O} {vs ws : List V} {n : Nat}, RepOs G F H own l vs w n → RepOs G F H own m ws w (n + l.length) → RepOs G F H own (l ++ m) (vs ++ ws) w n
  | [], m, vs, ws, n, r, q => by simp only [RepOs] at r; subst r; exact q
  | d :: l, m, vs, ws, n, r, q => by
    simp only [RepOs] at r
    obtain ⟨v, us, rfl, r1, r2⟩ := r
    simp only [List.cons_append, RepOs]
    refine ⟨v, us ++ ws, rfl, r1, repOs_app r2 ?_⟩
    rw [List.length_cons] at q
    rw [show n + 1 + l.length = n + (l.length + 1) by omega]
    exact q
theorem RepOs.under {G : Gx} {F F' H H' : Hp} {own own' : Own} (hF : Same F F') {r r' : Nat ⊕ Nat} {τ τ' : List Nat} : ∀ {l : List O} {vs : List V} {n : Nat}, RepOs G F H own l vs (r, τ) n → (∀ a κ j x, own a = some (r, κ ++ (j :: τ)) → H a = some x → own' a = some (r', κ ++ (j :: τ')) ∧ H' a = some x) → RepOs G F' H' own' l vs (r', τ') n
  | [], vs, n, q, h => by simpa only [RepOs] using q
  | o :: l, vs, n, q, h => by
    simp only [RepOs] at q ⊢
    obtain ⟨x, us, rfl, q1, q2⟩ := q
    exact ⟨x, us, rfl, RepO.mono hF o x _ _ (fun a κ y e1 e2 => h a κ n y e1 e2) q1, RepOs.under hF q2 h⟩
/-- a temporary becomes an item -/
def ownI (own : Own) (s : Nat) (π : List Nat) : Own := fun a => match own a with
  | some (.inr 0, τ) => some (.inl s, τ ++ π)
  | x => x
theorem ownI_some {own : Own} {s : Nat} {π : List Nat} {a : Addr} {w : Ow} (h : ownI own s π a = some w) : ∃ w', own a = some w' := by
  unfold ownI at h
  split at h
  · rename_i e; exact ⟨_, e⟩
  · exact ⟨_, h⟩
theorem ownI_old {own : Own} {s : Nat} {π : List Nat} {a : Addr} {j : Nat} {κ : List Nat} (h : own a = some (.inl j, κ)) : ownI own s π a = some (.inl j, κ) := by
  unfold ownI; rw [h]
theorem ms_appendN : MSpN C rAppend muAppendN := fun X hX F H own o v s τ c u o' Q fh nf r rc h q => by
  cases o <;> first | (simp [muAppendN] at h; done) | skip
  · rename_i l
    simp only [muAppendN] at h
    split at h
    · rename_i hz
      cases h
      simp only [RepO] at r
      obtain ⟨a, xs, rfl, oa, e, t⟩ := r
      refine ⟨a, xs, u, rfl, rfl, e, by rw [repOs_length _ _ _ _ t, ← sz_line]; exact hz, q a _ (ownI own s (l.length :: τ)) rfl oa (fun _ h => nomatch h) (fun b j κ e => ownI_old e) (fun b w e => ownI_some e) ?_⟩
      have hne : ∀ b w y, own b = some w → w ≠ (.inl s, τ) → H b = some y → upd H a (.lst (xs ++ [u])) b = some y := fun b w y e1 e2 e3 => by
        refine upd_app_ne (fun z => ?_) e3
        subst z
        rw [oa] at e1; cases e1
        exact e2 rfl
      simp only [RepO]
      refine ⟨a, _, rfl, ownI_old oa, upd_same, repOs_app (RepOs.under (.refl _) t fun b κ j y e1 e2 => ⟨ownI_old e1, hne b _ y e1 (fun z => by have := congrArg (fun w : Ow => w.2.length) z; simp at this; omega) e2⟩) ?_⟩
      rw [Nat.zero_add]
      simp only [RepOs]
      refine ⟨u, [], rfl, RepO.mono (.refl _) c u _ _ (fun b κ y (e1 : own b = some (.inr 0, κ ++ [])) e2 => ⟨?_, hne b _ y e1 (fun z => by cases z) e2⟩) rc, rfl⟩
      unfold ownI
      rw [e1]
      simp
    · cases h

/-! ### stores -/
theorem repK_length {G : Gx} {F : Hp} : ∀ {l : List (Ky × D)} {kvs : List (Key × V)}, RepK G F l kvs → kvs.length = l.length
  | [], kvs, r => by simp only [RepK] at r; subst r; rfl
  | p :: l, kvs, r => by
    simp only [RepK] at r
    obtain ⟨w, ws, rfl, q, t⟩ := r
    simp [repK_length t]
theorem repT_length {G : Gx} {F : Hp} : ∀ {l : List (List Ky × D)} {kvs : List (List Key × V)}, RepT G F l kvs → kvs.length = l.length
  | [], kvs, r => by simp only [RepT] at r; subst r; rfl
  | p :: l, kvs, r => by
    simp only [RepT] at r
    obtain ⟨w, ws, rfl, q, t⟩ := r
    simp [repT_length t]
theorem repK_put {G : Gx} {F : Hp} {k : Ky} {d : D} {v : V} (rd : Rep G F d v) : ∀ {l : List (Ky × D)} {kvs : List (Key × V)}, RepK G F l kvs → RepK G F (store l k d) (putK kvs (kyK k) v) := by
  have hany : ∀ {l : List (Ky × D)} {kvs : List (Key × V)}, RepK G F l kvs → (kvs.any fun kv => decide (kv.1 = kyK k)) = l.any fun kv => decide (kv.1 = k) := by
    intro l
    induction l with
    | nil => intro kvs r; simp only [RepK] at r; subst r; rfl
    | cons p l ih =>
      intro kvs r
      simp only [RepK] at r
      obtain ⟨w, ws, rfl, q, t⟩ := r
      simp only [List.any_cons]
      rw [ih t]
      have : decide (kyK p.1 = kyK k) = decide (p.1 = k) := decide_eq_decide.mpr ⟨kyK_inj, fun h => by rw [h]⟩
      rw [this]
  have hmap : ∀ {l : List (Ky × D)} {kvs : List (Key × V)}, RepK G F l kvs → RepK G F (l.map fun kv => if kv.1 = k then (kv.1, d) else kv) (kvs.map fun kv => if kv.1 = kyK k then (kv.1, v) else kv) := by
    intro l
    induction l with
    | nil => intro kvs r; simp only [RepK] at r; subst r; simp [RepK]
    | cons p l ih =>
      intro kvs r
      simp only [RepK] at r
      obtain ⟨w, ws, rfl, q, t⟩ := r
      simp only [List.map_cons]
      by_cases h : p.1 = k
      · rw [if_pos h, if_pos (by show kyK p.1 = kyK k; rw [h])]
        simp only [RepK]
        exact ⟨v, _, rfl, rd, ih t⟩
      · rw [if_neg h, if_neg (fun e => h (kyK_inj e))]
        simp only [RepK]
        exact ⟨w, _, rfl, q, ih t⟩
  have happ : ∀ {l m : List (Ky × D)} {kvs kws : List (Key × V)}, RepK G F l kvs → RepK G F m kws → RepK G F (l ++ m) (kvs ++ kws) := by
    intro l
    induction l with
    | nil => intro m kvs kws r q; simp only [RepK] at r; subst r; exact q
    | cons p l ih =>
      intro m kvs kws r q
      simp only [RepK] at r
      obtain ⟨w, ws, rfl, q1, t⟩ := r
      simp only [List.cons_append, RepK]
      exact ⟨w, _, rfl, q1, ih t q⟩
  intro l kvs r
  unfold store putK
  rw [hany r]
  split
  · exact hmap r
  · exact happ r (by simp only [RepK]; exact ⟨v, [], rfl, rd, rfl⟩)
theorem repT_put {G : Gx} {F : Hp} {k : List Ky} {d : D} {v : V} (rd : Rep G F d v) : ∀ {l : List (List Ky × D)} {kvs : List (List Key × V)}, RepT G F l kvs → RepT G F (store l k d) (putK kvs (k.map kyK) v) := by
  have hany : ∀ {l : List (List Ky × D)} {kvs : List (List Key × V)}, RepT G F l kvs → (kvs.any fun kv => decide (kv.1 = k.map kyK)) = l.any fun kv => decide (kv.1 = k) := by
    intro l
    induction l with
    | nil => intro kvs r; simp only [RepT] at r; subst r; rfl
    | cons p l ih =>
      intro kvs r
      simp only [RepT] at r
      obtain ⟨w, ws, rfl, q, t⟩ := r
      simp only [List.any_cons]
      rw [ih t]
      have : decide (p.1.map kyK = k.map kyK) = decide (p.1 = k) := decide_eq_decide.mpr ⟨kyKs_inj, fun h => by rw [h]⟩
      rw [this]
  have hmap : ∀ {l : List (List Ky × D)} {kvs : List (List Key × V)}, RepT G F l kvs → RepT G F (l.map fun kv => if kv.1 = k then (kv.1, d) else kv) (kvs.map fun kv => if kv.1 = k.map kyK then (kv.1, v) else kv) := by
    intro l
    induction l with
    | nil => intro kvs r; simp only [RepT] at r; subst r; simp [RepT]
    | cons p l ih =>
      intro kvs r
      simp only [RepT] at r
      obtain ⟨w, ws, rfl, q, t⟩ := r
      simp only [List.map_cons]
      by_cases h : p.1 = k
      · rw [if_pos h, if_pos (by show p.1.map kyK = k.map kyK; rw [h])]
        simp only [RepT]
        exact ⟨v, _, rfl, rd, ih t⟩
      · rw [if_neg h, if_neg (fun e => h (kyKs_inj e))]
        simp only [RepT]
        exact ⟨w, _, rfl, q, ih t⟩
  have happ : ∀ {l m : List (List Ky × D)} {kvs kws : List (List Key × V)}, RepT G F l kvs → RepT G F m kws → RepT G F (l ++ m) (kvs ++ kws) := by
    intro l
    induction l with
    | nil => intro m kvs kws r q; simp only [RepT] at r; subst r; exact q
    | cons p l ih =>
      intro m kvs kws r q
      simp only [RepT] at r
      obtain ⟨w, ws, rfl, q1, t⟩ := r
      simp only [List.cons_append, RepT]
      exact ⟨w, _, rfl, q1, ih t q⟩
  intro l kvs r
  unfold store putK
  rw [hany r]
  split
  · exact hmap r
  · exact happ r (by simp only [RepT]; exact ⟨v, [], rfl, rd, rfl⟩)
theorem reps_set {G : Gx} {F : Hp} {d : D} {v : V} (rd : Rep G F d v) : ∀ {l : List D} {vs : List V} (n : Nat), Reps G F l vs → Reps G F (l.set n d) (vs.set n v)
  | [], vs, n, r => by simp only [Reps] at r; subst r; simp [Reps]
  | e :: l, vs, 0, r => by
    simp only [Reps] at r
    obtain ⟨w, ws, rfl, q, t⟩ := r
    simp only [List.set_cons_zero, Reps]
    exact ⟨v, ws, rfl, rd, t⟩
  | e :: l, vs, n + 1, r => by
    simp only [Reps] at r
    obtain ⟨w, ws, rfl, q, t⟩ := r
    simp only [List.set_cons_succ, Reps]
    exact ⟨w, _, rfl, q, reps_set rd n t⟩
theorem PSet.or {X : Cx} {t t' : TSet} (h : PSet X t) (h' : PSet X t') : PSet X (fun o i v H Q => t o i v H Q ∨ t' o i v H Q) := fun pins s σ H o i v ov iv u Q I r1 r2 r3 q => q.elim (h pins s σ H o i v ov iv u Q I r1 r2 r3) (h' pins s σ H o i v ov iv u Q I r1 r2 r3)
theorem put_core {G : Gx} {F H : Hp} {own : Own} {o x y o' : O} {v u k : V} {w w1 w2 : Ow} {Q : Hp → Prop} (fh : Same F H) (r : RepO G F H own o v w) (rx : RepO G F H own x u w1) (ry : RepO G F H own y k w2) (h : muPut o [y, x] = some o')
    (q : ∀ a ho, v = .ref a → own a = some w → (∀ fs, ho ≠ .xd fs) → RepO G F (upd H a ho) own o' v w → Q (upd H a ho)) : rSetL v k u H Q ∨ rSetD v k u H Q := by
  unfold muPut at h
  split at h
  · rename_i l i d e
    simp only [List.cons.injEq, and_true] at e
    obtain ⟨rfl, rfl⟩ := e
    obtain ⟨j, hj, rfl⟩ := Option.map_eq_some_iff.mp h
    have ry := repO_int.mp ry
    have rx := RepO.frz_iff.mp rx
    subst ry
    simp only [RepO] at r
    obtain ⟨a, xs, rfl, oa, e, t⟩ := r
    refine .inl ⟨a, xs, i, j, rfl, rfl, e, by rw [t.length]; exact hj, q a _ rfl oa (fun _ h => nomatch h) ?_⟩
    simp only [RepO]
    exact ⟨a, _, rfl, oa, upd_same, reps_set rx j t⟩
  · rename_i l kd d e
    simp only [List.cons.injEq, and_true] at e
    obtain ⟨rfl, rfl⟩ := e
    split at h
    · rename_i hz
      obtain ⟨ky, hj, rfl⟩ := Option.map_eq_some_iff.mp h
      have ev := toKy_v hj (RepO.frz_iff.mp ry)
      have rx := RepO.frz_iff.mp rx
      subst ev
      simp only [RepO] at r
      obtain ⟨a, xs, rfl, oa, e, t⟩ := r
      refine .inr ⟨a, _, rfl, DPut.k e (by rw [repK_length t, ← sz_line]; exact hz), q a _ rfl oa (fun _ h => nomatch h) ?_⟩
      simp only [RepO]
      exact ⟨a, _, rfl, oa, upd_same, repK_put rx t⟩
    · cases h
  · rename_i l kd d e
    simp only [List.cons.injEq, and_true] at e
    obtain ⟨rfl, rfl⟩ := e
    split at h
    · rename_i hz
      obtain ⟨ky, hj, rfl⟩ := Option.map_eq_some_iff.mp h
      have ry := RepO.frz_iff.mp ry
      have rx := RepO.frz_iff.mp rx
      simp only [Rep] at ry
      obtain ⟨p, vs, rfl, eb, tb⟩ := ry
      have ev := toKys_v hj tb
      subst ev
      simp only [RepO] at r
      obtain ⟨a, xs, rfl, oa, e, t⟩ := r
      refine .inr ⟨a, _, rfl, DPut.t e (fh _ _ eb) (by rw [repT_length t, ← sz_line]; exact hz), q a _ rfl oa (fun _ h => nomatch h) ?_⟩
      simp only [RepO]
      exact ⟨a, _, rfl, oa, upd_same, repT_put rx t⟩
    · cases h
  · cases h
theorem vs_put {o i e : Expr} {pl : Pl} {fk fe : E} {pos pos' : Pos} (he : VP C e fe) (ho : VPl C o pl) (hk : VP C i fk)
    (hs : ∀ env : PySem.Env, env.scope = C.sc → swapsWithSole [.Subscript o i pos'] e pos.line env = pure false := by intro _ _; rfl) (hw : ∀ env : PySem.Env, env.scope = C.sc → swappedStores [.Subscript o i pos'] e env = pure none := by intro _ _; rfl)
    (h1 : ∀ env, (assignEach [.Subscript o i pos'] env).map (·.2) = [assign (.Subscript o i pos') env] := by intro _; rfl)
    (ha : ∀ (env : PySem.Env) v, assign (.Subscript o i pos') env v = (do
      let ov ← holding [v] (eval o env)
      let iv ← holding [v, ov] (eval i env)
      standAt pos'
      holding [v, ov, iv] (setItem ov iv v)
      release [v, ov, iv] []) := by intro _ _; rfl) : VS C (.Assign [.Subscript o i pos'] e pos) (sPut pl fk fe) := fun X hX W tk => by
  obtain ⟨te, pe, qe⟩ := he X hX W tk
  obtain ⟨to, po, qo⟩ := ho X hX W tk
  obtain ⟨ti, pi, qi⟩ := hk X hX W tk
  refine ⟨_, ps_asg pe (pg_sub po pi (PSet.or set_list (set_dict (hu1 hX))) (ha _)) (hs _ hX.sc) (hw _ hX.sc) (h1 _), fun γ F H own ρ σ D hg S o => ?_⟩
  refine qe γ F H own ρ σ _ S ?_
  unfold sPut at o
  cases e1 : fe ρ with
  | bad => rw [e1] at o; exact o.elim
  | ex x => rw [e1] at o; exact fun cls d F H own S r => o cls d F H own σ S r
  | ok x =>
    rw [e1] at o
    simp only [R.st_ok] at o
    intro u F1 H1 own1 S1
    refine qo (γ.pushW x u) F1 H1 own1 ρ σ _ S1 ?_
    cases e2 : pl ρ with
    | bad => rw [e2] at o; exact o.elim
    | ex x => rw [e2] at o; exact fun cls d F H own S r => o cls d F H own σ S.popW r
    | ok p =>
      rw [e2] at o
      simp only [R.st_ok] at o
      intro v F2 H2 own2 S2
      refine qi ((γ.pushW x u).pushP p v) F2 H2 own2 ρ σ _ S2 ?_
      have lessP : ∀ {F H own σ}, Sta C.G ((γ.pushW x u).pushP p v) F H own ρ σ → Sta C.G γ F H own ρ σ := fun S => S.less rfl rfl rfl (fun _ h => h) (fun _ h => h) (fun _ _ e => e) (fun _ h => List.mem_cons_of_mem _ h) rfl rfl (fun _ h => List.mem_cons_of_mem _ h)
      cases e3 : fk ρ with
      | bad => rw [e3] at o; exact o.elim
      | ex x => rw [e3] at o; exact fun cls d F H own S r => o cls d F H own σ (lessP S) r
      | ok y =>
        rw [e3] at o
        simp only [R.st_ok] at o
        intro k F3 H3 own3 S3
        obtain ⟨w2, ry⟩ := S3.topW
        obtain ⟨w1, rx⟩ := S3.popW.wkR (x, u) List.mem_cons_self
        have ap : AtPl H3 σ p v := (S3.pl (_, v) List.mem_cons_self).1
        have S4 := lessP S3.popW
        split at o
        · rename_i z hz
          obtain ⟨τ, r3, reb⟩ := Sta.focus hg.tm hg.wk hg.pl S4 ap hz
          unfold upS at o
          split at o
          · rename_i o' hgo
            split at o
            case isFalse => exact o.elim
            rename_i oo
            split at o
            · rename_i ρ' hu
              exact put_core S4.fh r3 rx ry hgo fun a ho' ev oa k0 rn => o F3 _ own3 σ (reb a ho' o' ρ' own3 ev oa k0 oo (fun _ _ _ e => e) (fun _ w e => ⟨w, e⟩) rn hu)
            · exact o.elim
          · exact o.elim
        · exact o.elim

/-! ### a name for an item -/
theorem vs_al {i : Nat} {x : Str} {e : Expr} {pl : Pl} {pos pos' : Pos} (h : VPl C e pl) (hN : C.N[i]? = some x := by rfl) (hx : LocOk C x := by first | exact .inl rfl | exact .inr ⟨rfl, rfl⟩) (hp : i ∉ C.pin := by first | exact List.not_mem_nil | decide)
    (hs : ∀ env : PySem.Env, env.scope = C.sc → swapsWith e (some (.Name x pos')) pos.line env = pure false := by intro _ _; rfl) : VS C (.Assign [.Name x pos'] e pos) (sAl i pl) := fun X hX W tk => by
  obtain ⟨t, p, q⟩ := h X hX W tk
  refine ⟨_, ps_set (i := i) (by rw [hX.N]; exact hX.nd) (by rw [hX.N]; exact hN) (loc_of hX hx) p (hs _ hX.sc) (fn_of' hX hx), fun γ F H own ρ σ D hg S o => q γ F H own ρ σ _ S ?_⟩
  unfold sAl at o
  cases e1 : pl ρ with
  | bad => rw [e1] at o; exact o.elim
  | ex x => rw [e1] at o; exact fun cls d F H own S r => o cls d F H own σ S r
  | ok pp =>
    rw [e1] at o
    simp only [R.st_ok] at o
    intro v F1 H1 own1 S1
    split at o
    · rename_i j k
      split at o
      · exact o.elim
      · rename_i hji
        split at o
        · rename_i l hj
          split at o
          · rename_i c hc
            have ap : AtPl H1 σ (j, [.ix k]) v := (S1.pl (_, v) List.mem_cons_self).1
            have S2 : Sta C.G γ F1 H1 own1 ρ σ := S1.less rfl rfl rfl (fun _ h => h) (fun _ h => h) (fun _ _ e => e) (fun _ h => h) rfl rfl (fun _ h => List.mem_cons_of_mem _ h)
            have S3 : Sta C.G γ F1 H1 own1 (ρ.put i none) (σ.set i (some v)) := S2.forget (by rw [hg.pn]; exact hp) hg.pl
            refine o F1 H1 own1 _ { S3 with al := fun i' j' k' hm => ?_ }
            rcases List.mem_cons.mp hm with hm | hm
            · cases hm
              obtain ⟨v0, z1, a, vs, y, rfl, z2, z3, z4⟩ := ap
              cases z4
              have hil : i < σ.length := by rw [S2.ln, S2.rn, hg.n]; exact (List.getElem?_eq_some_iff.mp hN).1
              obtain ⟨u, z5, z6⟩ := S3.sl j _ hj
              have z1' : (σ.set i (some v))[j]? = some (some (V.ref a)) := by rw [List.getElem?_set_ne (Ne.symm hji)]; exact z1
              rw [z1'] at z5; cases z5
              simp only [RepO] at z6
              obtain ⟨a', vs', z7, _, z8, _⟩ := z6
              cases z7
              have : vs = vs' := by rcases z2 with z2 | z2 <;> rw [z2] at z8 <;> cases z8; rfl
              subst this
              exact ⟨a, vs, v, l, z1', z8, z3, List.getElem?_set_self hil, hj⟩
            · exact S3.al i' j' k' hm
          · exact o.elim
        · exact o.elim
    · exact o.elim
end
end Vs


/-! VDisp: displays, things frozen at once. -/
namespace Vs
open PySem PySem.Spec PyProof.Rows L2 Vc

section
variable {C : Ctx}
theorem VE.fr {e : Expr} {f : E} (h : VE C e f) : VE C e (eF f) := fun X hX W tk => by
  obtain ⟨t, p, q⟩ := h X hX W tk
  refine ⟨t, p, fun γ F H own ρ σ Q S o => q γ F H own ρ σ Q S ?_⟩
  unfold eF at o
  cases e1 : f ρ with
  | bad => rw [e1] at o; exact False.elim o
  | ex x => rw [e1] at o; exact o
  | ok x =>
    rw [e1] at o
    simp only [R.bind_ok] at o
    intro v F1 H1 own1 S1
    obtain ⟨S2, r⟩ := S1.frzTop
    exact o v _ H1 _ (S2.frzT r)
/-- arguments that are all frozen -/
theorem Sta.frzArgs {G : Gx} {γ : Gh} {F H : Hp} {own : Own} {ρ : Vc.Env} {σ : L2.St} {os : List O} {vs : List V} {ds : List D} (S : Sta G (γ.pushTs os vs) F H own ρ σ) (hl : os.length = vs.length) (h : frzs os = some ds) :
    Sta G γ F H own ρ σ ∧ Reps G F ds vs := by
  have rs : ∀ (l : List O) (us : List V) (ds : List D) (j : Nat), l.length = us.length → frzs l = some ds → (∀ (i : Nat) (o : O) (v : V), l[i]? = some o → us[i]? = some v → RepO G F H own o v (.inr (j + i), [])) → Reps G F ds us := by
    intro l
    induction l with
    | nil =>
      intro us ds j h1 h2 _
      simp only [frzs, Option.some.injEq] at h2
      subst h2
      cases us with
      | nil => simp [Reps]
      | cons _ _ => simp at h1
    | cons o l ih =>
      intro us ds j h1 h2 h3
      cases us with
      | nil => simp at h1
      | cons u us =>
        cases o with
        | frz d =>
          simp only [frzs] at h2
          obtain ⟨ds', h4, rfl⟩ := Option.map_eq_some_iff.mp h2
          simp only [Reps]
          refine ⟨u, us, rfl, RepO.frz_iff.mp (h3 0 _ _ rfl rfl), ih us ds' (j + 1) (by simpa using h1) h4 fun i o v e1 e2 => ?_⟩
          have := h3 (i + 1) o v (by simpa using e1) (by simpa using e2)
          rwa [show j + (i + 1) = j + 1 + i by omega] at this
        | _ => simp [frzs] at h2
  refine ⟨S.less rfl rfl rfl (fun _ h => h) (fun _ h => h) (fun k p e => ?_) (fun p h => h), rs os vs ds γ.tm.length hl h fun i o v h1 h2 => S.tm (γ.tm.length + i) o v ?_⟩
  · show (γ.tm ++ os.zip vs)[k]? = some p
    rw [List.getElem?_append_left ((List.getElem?_eq_some_iff.mp e).1)]
    exact e
  · show (γ.tm ++ os.zip vs)[γ.tm.length + i]? = some (o, v)
    rw [List.getElem?_append_right (by omega), Nat.add_sub_cancel_left, List.getElem?_zip_eq_some]
    exact ⟨h1, h2⟩
theorem ve_tup {es : List Expr} {f : Es} {k : Nat} {pos : Pos} (ha : VA C es f) (hl : EsLen es.length f := by (repeat (first | exact el0 | refine elS ?_))) (hz : es.length ≤ sz := by decide) : VE C (.Tuple es k pos) (eTup f) := fun X hX W tk => by
  obtain ⟨t, pa, qa⟩ := ha X hX W tk
  refine ⟨_, pe_tup pa, fun γ F H own ρ σ Q S o => qa γ F H own ρ σ _ S ?_⟩
  unfold eTup at o
  cases e1 : f ρ with
  | bad => rw [e1] at o; exact False.elim o
  | ex x => rw [e1] at o; exact o
  | ok os =>
    rw [e1] at o
    simp only [R.bind_ok] at o
    intro vs F1 H1 own1 hlv S1
    split at o
    · rename_i ds hd
      obtain ⟨S2, r⟩ := S1.frzArgs hlv hd
      refine ⟨by rw [← hlv, hl ρ os e1, ← sz_line]; exact hz, fun p hp => o _ _ _ own1 ((S2.grow (Ext.frz S2.fh hp (.tup vs))).frzT ?_)⟩
      simp only [Rep]
      exact ⟨p, vs, rfl, upd_same, Reps.keep (Ext.frz S2.fh hp (.tup vs) (own := own1)).ff ds vs r⟩
    · exact False.elim o
theorem ve_lst {es : List Expr} {f : Es} {pos : Pos} (ha : VA C es f) (hl : EsLen es.length f := by (repeat (first | exact el0 | refine elS ?_))) (hz : es.length ≤ sz := by decide) : VE C (.List es pos) (eLst f) := fun X hX W tk => by
  obtain ⟨t, pa, qa⟩ := ha X hX W tk
  refine ⟨_, pe_lst pa, fun γ F H own ρ σ Q S o => qa γ F H own ρ σ _ S ?_⟩
  unfold eLst at o
  cases e1 : f ρ with
  | bad => rw [e1] at o; exact False.elim o
  | ex x => rw [e1] at o; exact o
  | ok os =>
    rw [e1] at o
    simp only [R.bind_ok] at o
    intro vs F1 H1 own1 hlv S1
    split at o
    · rename_i ds hd
      obtain ⟨S2, r⟩ := S1.frzArgs hlv hd
      refine ⟨by rw [← hlv, hl ρ os e1, ← sz_line]; exact hz, fun p hp => ?_⟩
      have x := Ext.new S2.fh S2.nf hp (.lst vs) (.inr γ.tm.length, [])
      exact o _ _ _ _ ((S2.grow x).pushT (rep_lst_new (by simp [ownN]) upd_same r))
    · exact False.elim o
theorem ve_dk {pos : Pos} : VE C (.Dict [] [] pos) eDk := fun X hX W tk => by
  refine ⟨_, pe_dnewK, fun γ F H own ρ σ Q S o => fun p hp => ?_⟩
  have x := Ext.new S.fh S.nf hp (.dK []) (.inr γ.tm.length, [])
  refine o _ _ _ _ ((S.grow x).pushT ?_)
  simp only [RepO]
  exact ⟨p, [], rfl, by simp [ownN], upd_same, by simp [RepK]⟩
theorem ve_dt {pos : Pos} : VE C (.Dict [] [] pos) eDt := fun X hX W tk => by
  refine ⟨_, pe_dnewT, fun γ F H own ρ σ Q S o => fun p hp => ?_⟩
  have x := Ext.new S.fh S.nf hp (.dT []) (.inr γ.tm.length, [])
  refine o _ _ _ _ ((S.grow x).pushT ?_)
  simp only [RepO]
  exact ⟨p, [], rfl, by simp [ownN], upd_same, by simp [RepT]⟩
/-- an empty list of owned things -/
theorem ve_lst0 {pos : Pos} : VE C (.List [] pos) (eLstN esNil) := fun X hX W tk => by
  refine ⟨_, pe_lst pa_nil, fun γ F H own ρ σ Q S o => ⟨Nat.zero_le _, fun p hp => ?_⟩⟩
  have x := Ext.new S.fh S.nf hp (.lst []) (.inr γ.tm.length, [])
  refine o _ _ _ _ ((S.grow x).pushT ?_)
  simp only [RepO]
  exact ⟨p, [], rfl, by simp [ownN], upd_same, by simp [RepOs]⟩
end
end Vs


/-! VLt: <, min, sorted on data. -/
namespace Vs
open PySem PySem.Spec PyProof.Rows L2 Vc

mutual
theorem alike_of : ∀ (n m : Nat) (d e : D), okE n d = true → okE m e = true → PySem.W.alike (py d) (py e) = alk d e
  | n, m, .non, e, h1, h2 => by cases e <;> first | (simp only [py, alk, PySem.W.alike]) | (cases m <;> simp [okE] at h2)
  | n, m, .bl a, e, h1, h2 => by cases e <;> first | (simp only [py, alk, PySem.W.alike]) | (cases m <;> simp [okE] at h2)
  | n, m, .int a, e, h1, h2 => by cases e <;> first | (simp only [py, alk, PySem.W.alike]) | (cases m <;> simp [okE] at h2)
  | n, m, .str a, e, h1, h2 => by cases e <;> first | (simp only [py, alk, PySem.W.alike]) | (cases m <;> simp [okE] at h2)
  | 0, m, .tup l, e, h1, h2 => by simp [okE] at h1
  | n + 1, m, .tup l, e, h1, h2 => by
    cases e with
    | tup l2 =>
      cases m with
      | zero => simp [okE] at h2
      | succ m =>
        simp only [okE] at h1 h2
        simp only [py, alk, PySem.W.alike]
        exact alikes_of n m l l2 h1 h2
    | _ => first | (simp only [py, alk, PySem.W.alike]) | (cases m <;> simp [okE] at h2)
  | 0, m, .lst l, e, h1, h2 => by simp [okE] at h1
  | n + 1, m, .lst l, e, h1, h2 => by
    cases e with
    | lst l2 =>
      cases m with
      | zero => simp [okE] at h2
      | succ m =>
        simp only [okE] at h1 h2
        simp only [py, alk, PySem.W.alike]
        exact alikes_of n m l l2 h1 h2
    | _ => first | (simp only [py, alk, PySem.W.alike]) | (cases m <;> simp [okE] at h2)
  | n, m, .scr l, e, h1, h2 => by cases n <;> simp [okE] at h1
  | n, m, .ktp l, e, h1, h2 => by cases n <;> simp [okE] at h1
  | n, m, .dk l, e, h1, h2 => by cases n <;> simp [okE] at h1
  | n, m, .dt l, e, h1, h2 => by cases n <;> simp [okE] at h1
  | n, m, .obj c l, e, h1, h2 => by cases n <;> simp [okE] at h1
  | n, m, .fn c l, e, h1, h2 => by cases n <;> simp [okE] at h1
  | n, m, .xo c l, e, h1, h2 => by cases n <;> simp [okE] at h1
theorem alikes_of : ∀ (n m : Nat) (d e : List D), okEs n d = true → okEs m e = true → PySem.W.alikeAll (pys d) (pys e) = alks d e
  | n, m, [], e, h1, h2 => by cases e <;> simp only [pys, alks, PySem.W.alikeAll]
  | n, m, x :: l, [], h1, h2 => by simp only [pys, alks, PySem.W.alikeAll]
  | n, m, x :: l, y :: r, h1, h2 => by
    simp only [okEs, Bool.and_eq_true] at h1 h2
    simp only [pys, alks, PySem.W.alikeAll]
    rw [alike_of n m x y h1.1 h2.1, alikes_of n m l r h1.2 h2.2]
end
mutual
theorem lt_of : ∀ (n m : Nat) (d e : D), okE n d = true → okE m e = true → alk d e = true → PySem.W.dataLt (py d) (py e) = ltD d e
  | n, m, .non, e, h1, h2, h => by cases e <;> first | (simp [alk] at h; done) | (simp [py, ltD, PySem.W.dataLt, PySem.W.keyToks, PyProof.Rows.lexLt])
  | n, m, .bl a, e, h1, h2, h => by
    cases e <;> first | (simp [alk] at h; done) | skip
    rename_i b
    simp only [py, ltD, PySem.W.dataLt_bool]
    cases a <;> cases b <;> rfl
  | n, m, .int a, e, h1, h2, h => by
    cases e <;> first | (simp [alk] at h; done) | skip
    simp only [py, ltD, PySem.W.dataLt_int]
  | n, m, .str a, e, h1, h2, h => by
    cases e <;> first | (simp [alk] at h; done) | skip
    simp only [py, ltD, PySem.W.dataLt_str]
    rfl
  | 0, m, .tup l, e, h1, h2, h => by simp [okE] at h1
  | n + 1, m, .tup l, e, h1, h2, h => by
    cases e <;> first | (simp [alk] at h; done) | skip
    rename_i l2
    cases m with
    | zero => simp [okE] at h2
    | succ m =>
      simp only [okE] at h1 h2
      simp only [alk] at h
      simp only [py, ltD, PySem.W.dataLt_tuple]
      exact lts_of n m l l2 h1 h2 h
  | 0, m, .lst l, e, h1, h2, h => by simp [okE] at h1
  | n + 1, m, .lst l, e, h1, h2, h => by
    cases e <;> first | (simp [alk] at h; done) | skip
    rename_i l2
    cases m with
    | zero => simp [okE] at h2
    | succ m =>
      simp only [okE] at h1 h2
      simp only [alk] at h
      simp only [py, ltD, PySem.W.dataLt_list]
      exact lts_of n m l l2 h1 h2 h
  | n, m, .scr l, e, h1, h2, h => by cases n <;> simp [okE] at h1
  | n, m, .ktp l, e, h1, h2, h => by cases n <;> simp [okE] at h1
  | n, m, .dk l, e, h1, h2, h => by cases n <;> simp [okE] at h1
  | n, m, .dt l, e, h1, h2, h => by cases n <;> simp [okE] at h1
  | n, m, .obj c l, e, h1, h2, h => by cases n <;> simp [okE] at h1
  | n, m, .fn c l, e, h1, h2, h => by cases n <;> simp [okE] at h1
  | n, m, .xo c l, e, h1, h2, h => by cases n <;> simp [okE] at h1
theorem lts_of : ∀ (n m : Nat) (d e : List D), okEs n d = true → okEs m e = true → alks d e = true → PyProof.Rows.lexLt itemOrd (PySem.W.keyToksAll (pys d)) (PySem.W.keyToksAll (pys e)) = ltDs d e
  | n, m, [], [], h1, h2, h => by simp only [pys, ltDs, PySem.W.keyToksAll]; rw [PyProof.Rows.lex_irrefl]; rfl
  | n, m, [], y :: r, h1, h2, h => by
    simp only [pys, ltDs, PySem.W.keyToksAll]
    rw [PyProof.Rows.lex_cons]
    rfl
  | n, m, x :: l, [], h1, h2, h => by
    simp only [pys, ltDs, PySem.W.keyToksAll]
    rw [PyProof.Rows.lex_cons]
    rfl
  | n, m, x :: l, y :: r, h1, h2, h => by
    simp only [okEs, Bool.and_eq_true] at h1 h2
    simp only [alks, Bool.and_eq_true] at h
    have ha : PySem.W.alike (py x) (py y) = true := by rw [alike_of n m x y h1.1 h2.1]; exact h.1
    have he := eqv_of n m x y h1.1 h2.1
    simp only [pys, ltDs]
    cases q : eqD x y with
    | true =>
      rw [q] at he
      rw [PySem.W.dataLt_all_yes ha he, if_pos rfl]
      exact lts_of n m l r h1.2 h2.2 h.2
    | false =>
      rw [q] at he
      rw [PySem.W.dataLt_all_no ha he, if_neg (by simp)]
      exact lt_of n m x y h1.1 h2.1 h.1
end
theorem py_non {d : D} {n : Nat} (h : okE n d = true) (h2 : d.isNon = false) : py d ≠ .none := by
  cases d <;> first | (simp [py]; done) | (simp [D.isNon] at h2; done) | (cases n <;> simp [okE] at h)
section
variable {C : Ctx}
def rLtD (K : PySem.W.Frag) : R2 := fun x y H Q => ∃ d e, Dp K H x d ∧ Dp K H y e ∧ PySem.W.alike d e = true ∧ d ≠ .none ∧ min d.depth e.depth < 14 ∧ Q (.bl (PySem.W.dataLt d e)) H
theorem op_ltD {X : Cx} (hu : X.A.units + 65 < cLine) : OpR X (compareOp .Lt) (rLtD X.K) := by
  intro pins s σ H x y v u Q I rx ry h
  obtain ⟨d, e, h1, h2, h3, h4, h5, q⟩ := h
  obtain ⟨as, r1⟩ := Dp.reads I d x v h1 rx
  obtain ⟨bs, r2⟩ := Dp.reads I e y u h2 ry
  exact PySem.W.lt_data r1 r2 h3 h4 (by omega) ⟨.bl _, H, I, rfl, q⟩
theorem lt_sp : OSp C (fun X => rLtD X.K) opLt := fun X hX k F H own x y v u w1 w2 z Q fh nf r1 r2 e hq => by
  have gen : ∀ b : Bool, okE 12 x.toD = true → okE 12 y.toD = true → alk x.toD y.toD = true → x.toD.isNon = false → z = .frz (.bl (ltD x.toD y.toD)) → rLtD X.K v u H Q := fun b h1 h2 h3 h4 ez => by
    subst ez
    refine ⟨_, _, dp_of 12 _ _ h1 (RepO.all fh _ _ _ r1), dp_of 12 _ _ h2 (RepO.all fh _ _ _ r2), by rw [alike_of 12 12 _ _ h1 h2]; exact h3, py_non h1 h4, ?_, ?_⟩
    · have := (lay_of 12 _ h1).2
      omega
    · rw [lt_of 12 12 _ _ h1 h2 h3]
      exact hq _ F H own (Ext.refl fh) (repO_bl.mpr rfl)
  unfold opLt at e
  split at e
  · cases e
    exact gen true (by simp [O.toD, okE]) (by simp [O.toD, okE]) (by simp [O.toD, alk]) rfl (by simp [O.toD, ltD])
  · split at e
    · rename_i h
      simp only [Bool.and_eq_true, Bool.not_eq_true'] at h
      cases e
      exact gen true h.1.1.1 h.1.1.2 h.1.2 h.2 rfl
    · cases e
theorem ve_lt {a b : Expr} {pos : Pos} {fa fb : E} (ha : VP C a fa) (hb : VP C b fb) : VE C (.Compare a [.Lt] [b] pos) (eBin opLt fa fb) := ve_cmp (fun _ h => op_ltD (hu64 h)) lt_sp ha hb (nomark _)
theorem vt_lt {a b : Expr} {pos : Pos} {fa fb : E} (ha : VP C a fa) (hb : VP C b fb) : VT C (.Compare a [.Lt] [b] pos) (tBl (eBin opLt fa fb)) := vt_cmp (fun _ h => op_ltD (hu64 h)) lt_sp ha hb (nomark _)
end
end Vs


/-! VSort: min and sorted of lists of data. -/
namespace Vs
open PySem PySem.Spec PyProof.Rows L2 Vc

mutual
theorem py_inj : ∀ (n m : Nat) (d e : D), okE n d = true → okE m e = true → py d = py e → d = e
  | n, m, .non, e, h1, h2, h => by cases e <;> first | rfl | (simp [py] at h; done) | (cases m <;> simp [okE] at h2)
  | n, m, .bl a, e, h1, h2, h => by cases e <;> first | (simp [py] at h; done) | (simp only [py, PyData.bool.injEq] at h; rw [h]) | (cases m <;> simp [okE] at h2)
  | n, m, .int a, e, h1, h2, h => by cases e <;> first | (simp [py] at h; done) | (simp only [py, PyData.int.injEq] at h; rw [h]) | (cases m <;> simp [okE] at h2)
  | n, m, .str a, e, h1, h2, h => by cases e <;> first | (simp [py] at h; done) | (simp only [py, PyData.str.injEq] at h; rw [mk_inj h]) | (cases m <;> simp [okE] at h2)
  | 0, m, .tup l, e, h1, h2, h => by simp [okE] at h1
  | n + 1, m, .tup l, e, h1, h2, h => by
    cases e with
    | tup l2 =>
      cases m with
      | zero => simp [okE] at h2
      | succ m =>
        simp only [okE] at h1 h2
        simp only [py, PyData.tuple.injEq] at h
        rw [pys_inj n m l l2 h1 h2 h]
    | _ => first | (simp [py] at h; done) | (cases m <;> simp [okE] at h2)
  | 0, m, .lst l, e, h1, h2, h => by simp [okE] at h1
  | n + 1, m, .lst l, e, h1, h2, h => by
    cases e with
    | lst l2 =>
      cases m with
      | zero => simp [okE] at h2
      | succ m =>
        simp only [okE] at h1 h2
        simp only [py, PyData.list.injEq] at h
        rw [pys_inj n m l l2 h1 h2 h]
    | _ => first | (simp [py] at h; done) | (cases m <;> simp [okE] at h2)
  | n, m, .scr l, e, h1, h2, h => by cases n <;> simp [okE] at h1
  | n, m, .ktp l, e, h1, h2, h => by cases n <;> simp [okE] at h1
  | n, m, .dk l, e, h1, h2, h => by cases n <;> simp [okE] at h1
  | n, m, .dt l, e, h1, h2, h => by cases n <;> simp [okE] at h1
  | n, m, .obj c l, e, h1, h2, h => by cases n <;> simp [okE] at h1
  | n, m, .fn c l, e, h1, h2, h => by cases n <;> simp [okE] at h1
  | n, m, .xo c l, e, h1, h2, h => by cases n <;> simp [okE] at h1
theorem pys_inj : ∀ (n m : Nat) (d e : List D), okEs n d = true → okEs m e = true → pys d = pys e → d = e
  | n, m, [], [], h1, h2, h => rfl
  | n, m, [], y :: r, h1, h2, h => by simp [pys] at h
  | n, m, x :: l, [], h1, h2, h => by simp [pys] at h
  | n, m, x :: l, y :: r, h1, h2, h => by
    simp only [okEs, Bool.and_eq_true] at h1 h2
    simp only [pys, List.cons.injEq] at h
    rw [py_inj n m x y h1.1 h2.1 h.1, pys_inj n m l r h1.2 h2.2 h.2]
end
theorem minD_mem (d : PyData) (ds : List PyData) : PySem.W.minD d ds ∈ d :: ds := by
  unfold PySem.W.minD
  have : ∀ (l : List PyData) (a : PyData), a ∈ d :: ds → (∀ y ∈ l, y ∈ d :: ds) → l.foldl (fun a y => if PySem.W.dataLt y a then y else a) a ∈ d :: ds := by
    intro l
    induction l with
    | nil => intro a ha _; exact ha
    | cons y l ih =>
      intro a ha hl
      simp only [List.foldl_cons]
      refine ih _ ?_ fun z hz => hl z (List.mem_cons_of_mem _ hz)
      split
      · exact hl y List.mem_cons_self
      · exact ha
  exact this ds d List.mem_cons_self fun y hy => List.mem_cons_of_mem _ hy
theorem dpAll_get {K : PySem.W.Frag} {H : Hp} : ∀ {vs : List V} {ds : List PyData} {i : Nat} {v : V}, DpAll K H vs ds → vs[i]? = some v → ∃ d, ds[i]? = some d ∧ Dp K H v d
  | _, _, i, v, .nil, e => by simp at e
  | _, _, 0, v, .cons h t, e => by simp at e; subst e; exact ⟨_, rfl, h⟩
  | _, _, i + 1, v, .cons h t, e => by
    obtain ⟨d, q1, q2⟩ := dpAll_get t (by simpa using e)
    exact ⟨d, by simpa using q1, q2⟩
theorem dpAll_len {K : PySem.W.Frag} {H : Hp} : ∀ {vs : List V} {ds : List PyData}, DpAll K H vs ds → vs.length = ds.length
  | _, _, .nil => rfl
  | _, _, .cons h t => by simp [dpAll_len t]
theorem vals_getR {xs : List V} {us : List Value} (r : Vals xs us) : ∀ {i : Nat} {u : Value}, us[i]? = some u → ∃ x, xs[i]? = some x ∧ RelV x u := by
  induction r with
  | nil => intro i u e; simp at e
  | cons h t ih =>
    intro i u e
    cases i with
    | zero => simp at e; subst e; exact ⟨_, rfl, h⟩
    | succ i =>
      obtain ⟨x, q1, q2⟩ := ih (by simpa using e)
      exact ⟨x, by simpa using q1, q2⟩
section
variable {C : Ctx}
def rMinD (K : PySem.W.Frag) : List V → Hp → VK → Prop := fun vs H Q => ∃ a xs d ds, vs = [.ref a] ∧ SqL K H a xs ∧ DpAll K H xs (d :: ds) ∧ PySem.W.AlikeAll (d :: ds) ∧ PyData.depthAll (d :: ds) < 14 ∧ ∀ (i : Nat) x, xs[i]? = some x → (d :: ds)[i]? = some (PySem.W.minD d ds) → Q x H
theorem cr_minD {X : Cx} (hc : X.calm = true) (hu : X.A.units + 65 < cLine) : CallR X (.builtin "min") (rMinD X.K) := by
  intro pins s σ H vs us Q I r h
  obtain ⟨a, xs, d, ds, rfl, hs, hd, hal, hdep, q⟩ := h
  obtain ⟨its, rv, hl, _⟩ := I.list hs
  rw [Vals.ref1 r]
  obtain ⟨as, hr⟩ := Dp.readsAll I (d :: ds) xs its hd rv
  refine PySem.W.min_list_data (x := d) (xs := ds) (I.ok.hd hc) hl.isList (by simpa using hr) hal (by omega) fun i v h' tk bs hi hrd hk => ?_
  obtain ⟨x, hx, rx⟩ := vals_getR rv (by simpa using hi)
  obtain ⟨di, hdi, hdp⟩ := dpAll_get hd hx
  obtain ⟨as2, r2⟩ := Dp.reads I di x v hdp rx
  have hm : di ∈ d :: ds := List.mem_of_getElem? hdi
  have he : di = PySem.W.minD d ds := PySem.W.alike_unique di _ v as2 bs (hal.1 _ hm _ (minD_mem d ds)) (PySem.W.reads_keeps hk r2) hrd
  exact ⟨x, H, I.kept hk, rx, q i x hx (by rw [hdi, he])⟩
theorem its_rep' {G : Gx} {F H : Hp} {own : Own} {o : O} {v : V} {w : Ow} {l : List D} (fh : Same F H) (r : RepO G F H own o v w) (h : o.its = some l) : ∃ p vs, v = .ref p ∧ H p = some (.lst vs) ∧ Reps G F l vs := its_rep fh r h
theorem pys_get : ∀ {l : List D} {i : Nat}, (pys l)[i]? = (l[i]?).map py
  | [], i => by simp [pys]
  | d :: l, 0 => by simp [pys]
  | d :: l, i + 1 => by simp only [pys, List.getElem?_cons_succ]; exact pys_get
theorem okEs_mem {n : Nat} : ∀ {l : List D}, okEs n l = true → ∀ d ∈ l, okE n d = true
  | [], _, d, h => by simp at h
  | e :: l, h, d, hd => by
    simp only [okEs, Bool.and_eq_true] at h
    rcases List.mem_cons.mp hd with rfl | hd
    · exact h.1
    · exact okEs_mem h.2 d hd
theorem pys_map (l : List D) : pys l = l.map py := by
  induction l with
  | nil => rfl
  | cons d l ih => simp [pys, ih]
theorem minDs_mem (d : D) (ds : List D) : minDs d ds ∈ d :: ds := by
  unfold minDs
  have : ∀ (l : List D) (a : D), a ∈ d :: ds → (∀ y ∈ l, y ∈ d :: ds) → l.foldl (fun a y => if ltD y a then y else a) a ∈ d :: ds := by
    intro l
    induction l with
    | nil => intro a ha _; exact ha
    | cons y l ih =>
      intro a ha hl
      simp only [List.foldl_cons]
      refine ih _ ?_ fun z hz => hl z (List.mem_cons_of_mem _ hz)
      split
      · exact hl y List.mem_cons_self
      · exact ha
  exact this ds d List.mem_cons_self fun y hy => List.mem_cons_of_mem _ hy
theorem alkAll_at {l : List D} (h : alkAll l = true) {x y : D} (hx : x ∈ l) (hy : y ∈ l) : alk x y = true := by
  unfold alkAll at h
  rw [List.all_eq_true] at h
  have := h x hx
  rw [List.all_eq_true] at this
  exact this y hy
theorem minD_py {x : D} {xs : List D} (ok : okEs 11 (x :: xs) = true) (al : alkAll (x :: xs) = true) : PySem.W.minD (py x) (pys xs) = py (minDs x xs) := by
  unfold PySem.W.minD minDs
  rw [pys_map]
  have : ∀ (l : List D) (a : D), a ∈ x :: xs → (∀ y ∈ l, y ∈ x :: xs) → (l.map py).foldl (fun a y => if PySem.W.dataLt y a then y else a) (py a) = py (l.foldl (fun a y => if ltD y a then y else a) a) := by
    intro l
    induction l with
    | nil => intro a _ _; rfl
    | cons y l ih =>
      intro a ha hl
      simp only [List.map_cons, List.foldl_cons]
      have hy := hl y List.mem_cons_self
      rw [lt_of 11 11 y a (okEs_mem ok _ hy) (okEs_mem ok _ ha) (alkAll_at al hy ha)]
      split
      · exact ih y hy fun z hz => hl z (List.mem_cons_of_mem _ hz)
      · exact ih a ha fun z hz => hl z (List.mem_cons_of_mem _ hz)
  exact this xs x List.mem_cons_self fun y hy => List.mem_cons_of_mem _ hy
theorem alikeAll_py {l : List D} (ok : okEs 11 l = true) (al : alkAll l = true) : ∀ d ∈ pys l, ∀ e ∈ pys l, PySem.W.alike d e = true := by
  intro d hd e he
  rw [pys_map] at hd he
  obtain ⟨x, hx, rfl⟩ := List.mem_map.mp hd
  obtain ⟨y, hy, rfl⟩ := List.mem_map.mp he
  rw [alike_of 11 11 x y (okEs_mem ok _ hx) (okEs_mem ok _ hy)]
  exact alkAll_at al hx hy
theorem minL_sp : CSp C (fun X => rMinD X.K) biMinL := fun X hX k F H own os vs z Q fh nf rs h q => by
  unfold biMinL at h
  split at h
  · rename_i o
    obtain ⟨v, w, rfl, r⟩ := repWs1 rs
    split at h
    · rename_i x xs hi
      split at h
      · rename_i hok
        simp only [Bool.and_eq_true, Bool.not_eq_true'] at hok
        obtain ⟨⟨ok, al⟩, hn⟩ := hok
        cases h
        obtain ⟨p, us, rfl, e, t⟩ := its_rep fh r hi
        refine ⟨p, us, py x, pys xs, rfl, SqL.of e, dps_of 11 (x :: xs) us ok (Reps.keep fh _ _ t), ⟨alikeAll_py ok al, ?_⟩, ?_, fun i y hy hd => ?_⟩
        · intro d hd
          rw [show py x :: pys xs = pys (x :: xs) from rfl, pys_map] at hd
          obtain ⟨e, he, rfl⟩ := List.mem_map.mp hd
          refine py_non (okEs_mem ok _ he) ?_
          have ha := alkAll_at al he List.mem_cons_self
          cases e <;> first | rfl | (cases x <;> simp [alk, D.isNon] at ha hn)
        · have := (lays_of 11 _ ok).2
          show PyData.depthAll (pys (x :: xs)) < 14
          omega
        · rw [show py x :: pys xs = pys (x :: xs) from rfl, pys_get, minD_py ok al] at hd
          obtain ⟨di, h1, h2⟩ := Option.map_eq_some_iff.mp hd
          have hm := List.mem_of_getElem? h1
          have := py_inj 11 11 _ _ (okEs_mem ok _ hm) (okEs_mem ok _ (minDs_mem x xs)) h2
          subst this
          obtain ⟨y', h3, h4⟩ := t.get h1
          rw [hy] at h3; cases h3
          exact q y F H own (Ext.refl fh) (RepO.flatAny h4)
      · cases h
    · cases h
  · cases h
def srtV (xs : List V) (ds : List PyData) : List V := ((xs.zip ds).mergeSort (PySem.W.dataLe false Prod.snd)).map Prod.fst
def rSortedD (K : PySem.W.Frag) : List V → Hp → VK → Prop := fun vs H Q => ∃ a xs ds, vs = [.ref a] ∧ SqL K H a xs ∧ DpAll K H xs ds ∧ PySem.W.AllAlike ds ∧ PySem.W.Sortable ds ∧ (∀ d ∈ ds, d.depth < 14) ∧ ∀ p, H p = none → Q (.ref p) (upd H p (.lst (srtV xs ds)))
theorem each_zip {us : List Value} {xs : List V} (r : Vals xs us) : ∀ {ds : List PyData}, xs.length = ds.length → PySem.W.EachIs (fun u (p : V × PyData) => RelV p.1 u) us (xs.zip ds) := by
  induction r with
  | nil => intro ds _; exact .nil
  | cons h t ih =>
    intro ds hl
    cases ds with
    | nil => simp at hl
    | cons d ds => exact .cons h (ih (by simpa using hl))
theorem each_reads {h : Heap} : ∀ {us : List Value} {xs : List V} {ds : List PyData} {as : List Addr}, xs.length = ds.length → ReadsAll h us ds as → PySem.W.EachIs (fun u (p : V × PyData) => ∃ as, Reads h u p.2 as) us (xs.zip ds)
  | [], xs, ds, as, hl, r => by
    cases r
    cases xs with
    | nil => exact .nil
    | cons _ _ => simp at hl
  | u :: us, xs, ds, as, hl, r => by
    cases r with
    | cons r t =>
      cases xs with
      | nil => simp at hl
      | cons x xs => exact .cons ⟨_, r⟩ (each_reads (by simpa using hl) t)
theorem vals_each {us : List Value} {bs : List (V × PyData)} (h : PySem.W.EachIs (fun u (p : V × PyData) => RelV p.1 u) us bs) : Vals (bs.map Prod.fst) us := by
  induction h with
  | nil => exact .nil
  | cons h t ih => exact .cons h ih
theorem cr_sortedD {X : Cx} (hu : X.A.units + 65 < cLine) : CallR X (.builtin "sorted") (rSortedD X.K) := by
  intro pins s σ H vs us Q I r h
  obtain ⟨a, xs, ds, rfl, hs, hd, hal, hk, hdep, q⟩ := h
  obtain ⟨its, rv, hl, hz⟩ := I.list hs
  rw [Vals.ref1 r]
  have hlen := dpAll_len hd
  have hmap : (xs.zip ds).map Prod.snd = ds := by rw [List.map_snd_zip]; omega
  obtain ⟨as, hr⟩ := Dp.readsAll I ds xs its hd rv
  refine PySem.W.sorted_data (enc := Prod.snd) (R := fun u (p : V × PyData) => RelV p.1 u) hl.isList (each_zip rv hlen) (each_reads hlen hr) (by rw [hmap]; exact hal) (by rw [hmap]; exact hk) (by rw [List.length_zip]; omega) (fun b hb => ?_) fun out h1 h2 => ?_
  · have := hdep b.2 (by have := List.mem_map_of_mem (f := Prod.snd) hb; rwa [hmap] at this)
    omega
  · obtain ⟨ep, he'⟩ := PyProof.Rows.sortedAll_at s.heap its out.toArray
    have hv : Vals (srtV xs ds) out := vals_each h2
    have hlen2 : (srtV xs ds).length ≤ sizeLine := by
      unfold srtV
      rw [List.length_map, List.length_mergeSort, List.length_zip]
      omega
    exact ⟨.ref _, upd H (s.heap.objs.size + 1) (.lst (srtV xs ds)), I.laid (t' := s.toks) (fun _ _ => PyProof.Rows.sortedAll_old) (Nat.le_succ _) ⟨hlen2, out, ep, hv, he'⟩, rfl, q _ (I.hok.fresh (Nat.le_succ _))⟩
theorem srt_reps {G : Gx} {F : Hp} {l : List D} {xs : List V} (ok : okEs 11 l = true) (al : alkAll l = true) (t : Reps G F l xs) : Reps G F (srt l) (srtV xs (pys l)) := by
  have e1 : ∀ (l : List D) (xs : List V), Reps G F l xs → PySem.W.EachIs (fun (p : V × PyData) (d : D) => Rep G F d p.1 ∧ p.2 = py d) (xs.zip (pys l)) l := by
    intro l
    induction l with
    | nil => intro xs r; simp only [Reps] at r; subst r; exact .nil
    | cons d l ih =>
      intro xs r
      simp only [Reps] at r
      obtain ⟨v, ws, rfl, q, t⟩ := r
      exact .cons ⟨q, rfl⟩ (ih ws t)
  have e2 := PySem.W.sort_each (r := PySem.W.dataLe false Prod.snd) (s := fun a b => !ltD b a) (e1 l xs t) (fun p hp q hq => by
    have hz := (e1 l xs t).zip
    have h1 := (hz p hp).2
    have h2 := (hz q hq).2
    have m1 : p.2 ∈ l := (List.of_mem_zip hp).2
    have m2 : q.2 ∈ l := (List.of_mem_zip hq).2
    rw [PySem.W.dataLe_eq]
    simp only [cond_false]
    rw [h1, h2, lt_of 11 11 q.2 p.2 (okEs_mem ok _ m2) (okEs_mem ok _ m1) (alkAll_at al m2 m1)])
  have e3 : ∀ (ps : List (V × PyData)) (l : List D), PySem.W.EachIs (fun (p : V × PyData) (d : D) => Rep G F d p.1 ∧ p.2 = py d) ps l → Reps G F l (ps.map Prod.fst) := by
    intro ps l h
    induction h with
    | nil => simp [Reps]
    | cons h t ih =>
      simp only [List.map_cons, Reps]
      exact ⟨_, _, rfl, h.1, ih⟩
  exact e3 _ _ e2
theorem sorted_sp : CSp C (fun X => rSortedD X.K) biSorted := fun X hX k F H own os vs z Q fh nf rs h q => by
  unfold biSorted at h
  split at h
  · rename_i o
    obtain ⟨v, w, rfl, r⟩ := repWs1 rs
    split at h
    · rename_i l hi
      split at h
      · rename_i hok
        simp only [Bool.and_eq_true, Bool.or_eq_true, decide_eq_true_eq] at hok
        obtain ⟨⟨⟨ok, al⟩, hs⟩, hz⟩ := hok
        cases h
        obtain ⟨p, us, rfl, e, t⟩ := its_rep fh r hi
        refine ⟨p, us, pys l, rfl, SqL.of e, dps_of 11 l us ok (Reps.keep fh _ _ t), alikeAll_py ok al, ?_, ?_, fun p' hp' => ?_⟩
        · rcases hs with hs | hs
          · refine .inl fun d hd => ?_
            rw [pys_map] at hd
            obtain ⟨x, hx, rfl⟩ := List.mem_map.mp hd
            have := List.all_eq_true.mp hs x hx
            unfold D.tup1 at this
            split at this
            · exact ⟨_, _, rfl⟩
            · cases this
          · refine .inr fun d hd => ?_
            rw [pys_map] at hd
            obtain ⟨x, hx, rfl⟩ := List.mem_map.mp hd
            have := List.all_eq_true.mp hs x hx
            refine ⟨py_non (okEs_mem ok _ hx) (by cases x <;> first | rfl | simp [D.noTup] at this), ?_⟩
            intro ys
            cases x <;> first | (simp [D.noTup] at this; done) | (simp [py])
        · intro d hd
          rw [pys_map] at hd
          obtain ⟨x, hx, rfl⟩ := List.mem_map.mp hd
          have := (lay_of 11 x (okEs_mem ok _ hx)).2
          omega
        · exact new_lst fh nf (srt_reps ok al t) q p' hp'
      · cases h
    · cases h
  · cases h
end
end Vs


/-! VBi: built-ins by name. -/
namespace Vs
open PySem PySem.Spec PyProof.Rows L2 Vc

section
variable {C : Ctx}
/-! ### len -/
def rLenA (K : PySem.W.Frag) : List V → Hp → VK → Prop := fun xs H Q => (∃ x n, xs = [x] ∧ LenV K x H n ∧ Q (.int n) H) ∨ (∃ p kvs, xs = [.ref p] ∧ Rd H p (.dK kvs) ∧ Q (.int kvs.length) H) ∨ ∃ p kvs, xs = [.ref p] ∧ Rd H p (.dT kvs) ∧ Q (.int ((kvs.length : Nat) : Int)) H
theorem cr_lenA {X : Cx} : CallR X (.builtin "len") (rLenA X.K) := by
  intro pins s σ H xs us Q I r h
  rcases h with h | h | h
  · exact call_len pins s σ H xs us Q I r h
  · obtain ⟨p, kvs, rfl, hp, q⟩ := h
    obtain ⟨u, rfl, rx⟩ := vals1 r
    obtain rfl : u = .ref p := rx
    exact d_len I hp fun t s' I' => ⟨.int kvs.length, H, I', ⟨t, rfl⟩, q⟩
  · obtain ⟨p, kvs, rfl, hp, q⟩ := h
    obtain ⟨u, rfl, rx⟩ := vals1 r
    obtain rfl : u = .ref p := rx
    obtain ⟨z, hd, ys, rel, dd⟩ := dt_rd I.hok hp
    have hl : kvs.length = ys.length := Paired.length rel
    refine call_len_dictH hd dd (by rw [← hl]; rw [sizeLine_eq] at z; omega) ?_
    rw [← hl]
    exact ⟨.int ((kvs.length : Nat) : Int), H, I.tok _, ⟨_, rfl⟩, q⟩
theorem len_sp : CSp C (fun X => rLenA X.K) biLen := fun X hX k F H own os vs z Q fh nf rs h q => by
  have fin : ∀ n : Nat, z = .frz (.int n) → Q (.int n) H := fun n e => by subst e; exact q _ F H own (Ext.refl fh) (repO_int.mpr rfl)
  unfold biLen at h
  split at h <;> first | cases h | skip
  · obtain ⟨v, w, rfl, r⟩ := repWs1 rs
    have r := RepO.frz_iff.mp r
    simp only [Rep] at r
    obtain ⟨a, xs, rfl, e, t⟩ := r
    exact .inl ⟨_, _, rfl, .inl ⟨xs, SqL.of (fh _ _ e), rfl⟩, fin _ (by rw [t.length])⟩
  · obtain ⟨v, w, rfl, r⟩ := repWs1 rs
    simp only [RepO] at r
    obtain ⟨a, xs, rfl, _, e, t⟩ := r
    exact .inl ⟨_, _, rfl, .inl ⟨xs, SqL.of e, rfl⟩, fin _ (by rw [t.length])⟩
  · obtain ⟨v, w, rfl, r⟩ := repWs1 rs
    simp only [RepO] at r
    obtain ⟨a, xs, rfl, _, e, t⟩ := r
    exact .inl ⟨_, _, rfl, .inl ⟨xs, SqL.of e, rfl⟩, fin _ (by rw [repOs_length _ _ _ _ t])⟩
  · obtain ⟨v, w, rfl, r⟩ := repWs1 rs
    have r := RepO.frz_iff.mp r
    simp only [Rep] at r
    obtain ⟨a, xs, rfl, e, t⟩ := r
    exact .inl ⟨_, _, rfl, .inr ⟨xs, SqT.of (fh _ _ e), rfl⟩, fin _ (by rw [t.length])⟩
  · obtain ⟨v, w, rfl, r⟩ := repWs1 rs
    have r := RepO.frz_iff.mp r
    simp only [Rep] at r
    obtain ⟨a, rfl, e⟩ := r
    exact .inl ⟨_, _, rfl, .inl ⟨_, by rw [hX.K]; exact SqL.keep fh e, rfl⟩, fin _ (by simp)⟩
  · obtain ⟨v, w, rfl, r⟩ := repWs1 rs
    obtain ⟨rfl, hz⟩ := repO_str.mp r
    exact .inl ⟨_, _, rfl, ⟨by rw [len_mk, ← sz_line]; exact hz, rfl⟩, fin _ (by rw [len_mk])⟩
  · obtain ⟨v, w, rfl, r⟩ := repWs1 rs
    have r := RepO.frz_iff.mp r
    simp only [Rep] at r
    obtain ⟨a, xs, rfl, e, t⟩ := r
    exact .inr (.inl ⟨_, _, rfl, Rd.keep fh e, fin _ (by rw [repK_length t])⟩)
  · obtain ⟨v, w, rfl, r⟩ := repWs1 rs
    simp only [RepO] at r
    obtain ⟨a, xs, rfl, _, e, t⟩ := r
    exact .inr (.inl ⟨_, _, rfl, .inl e, fin _ (by rw [repK_length t])⟩)
  · obtain ⟨v, w, rfl, r⟩ := repWs1 rs
    have r := RepO.frz_iff.mp r
    simp only [Rep] at r
    obtain ⟨a, xs, rfl, e, t⟩ := r
    exact .inr (.inr ⟨_, _, rfl, Rd.keep fh e, fin _ (by rw [repT_length t])⟩)
  · obtain ⟨v, w, rfl, r⟩ := repWs1 rs
    simp only [RepO] at r
    obtain ⟨a, xs, rfl, _, e, t⟩ := r
    exact .inr (.inr ⟨_, _, rfl, .inl e, fin _ (by rw [repT_length t])⟩)

/-! ### numbers -/
theorem abs_sp : CSp C (fun _ => fun xs H Q => ∃ i, xs = [.int i] ∧ Q (.int (if i < 0 then -i else i)) H) biAbs := fun X hX k F H own os vs z Q fh nf rs h q => by
  unfold biAbs at h
  split at h <;> first | cases h | skip
  obtain ⟨v, w, rfl, r⟩ := repWs1 rs
  obtain rfl := repO_int.mp r
  exact ⟨_, rfl, q _ F H own (Ext.refl fh) (repO_int.mpr rfl)⟩
theorem max_sp : CSp C (fun _ => fun xs H Q => ∃ i j, xs = [.int i, .int j] ∧ Q (.int (if j > i then j else i)) H) biMax := fun X hX k F H own os vs z Q fh nf rs h q => by
  unfold biMax at h
  split at h <;> first | cases h | skip
  obtain ⟨v, w, u, w', rfl, r, r'⟩ := repWs2 rs
  obtain rfl := repO_int.mp r
  obtain rfl := repO_int.mp r'
  exact ⟨_, _, rfl, q _ F H own (Ext.refl fh) (repO_int.mpr rfl)⟩
theorem min_sp : CSp C (fun _ => fun xs H Q => ∃ i j, xs = [.int i, .int j] ∧ Q (.int (if j < i then j else i)) H) biMin := fun X hX k F H own os vs z Q fh nf rs h q => by
  unfold biMin at h
  split at h <;> first | cases h | skip
  obtain ⟨v, w, u, w', rfl, r, r'⟩ := repWs2 rs
  obtain rfl := repO_int.mp r
  obtain rfl := repO_int.mp r'
  exact ⟨_, _, rfl, q _ F H own (Ext.refl fh) (repO_int.mpr rfl)⟩
def rIntA : List V → Hp → VK → Prop := fun xs H Q => ((∃ i, xs = [.int i] ∧ Q (.int i) H) ∨ ∃ k, xs = [.bl k] ∧ Q (.int (if k then 1 else 0)) H) ∨ ∃ a n, xs = [.str a] ∧ PySem.intText? a = some n ∧ a.length ≤ 640 ∧ Q (.int n) H
theorem digs_text {s : Tx} {n : Int} (h : digs s = some n) (hl : s.length ≤ 640) : PySem.intText? (mk s) = some n := by
  unfold digs at h
  split at h
  · rename_i c
    simp only [Bool.and_eq_true, Bool.not_eq_true', List.isEmpty_eq_false_iff] at c
    cases h
    have e : (mk s).cps.toList = s := rfl
    have hd : PySem.NumText.AllDigits (mk s).cps.toList := by
      rw [e]
      intro c' hc
      have := List.all_eq_true.mp c.2 c' hc
      simpa using this
    rw [PySem.intText_digits hd (by rw [e]; exact c.1) (by rw [len_mk]; omega), e]
    have gen : ∀ (l : Tx) (a : Nat), (∀ c ∈ l, 48 ≤ c) → ((l.foldl (fun acc c => acc * 10 + (c - 48)) a : Nat) : Int) = l.foldl (fun (a : Int) (c : Nat) => a * 10 + ((c : Int) - 48)) (a : Int) := by
      intro l
      induction l with
      | nil => intro a _; rfl
      | cons c l ih =>
        intro a hc
        have := hc c List.mem_cons_self
        simp only [List.foldl_cons]
        rw [ih _ fun c' h => hc c' (List.mem_cons_of_mem _ h)]
        congr 1
        omega
    unfold PySem.NumText.digitsVal
    rw [gen s 0 fun c hc => (hd c hc).1]
    rfl
  · cases h
theorem int_sp : CSp C (fun _ => rIntA) biInt := fun X hX k F H own os vs z Q fh nf rs h q => by
  unfold biInt at h
  split at h <;> first | cases h | skip
  · obtain ⟨v, w, rfl, r⟩ := repWs1 rs
    obtain rfl := repO_int.mp r
    exact .inl (.inl ⟨_, rfl, q _ F H own (Ext.refl fh) (repO_int.mpr rfl)⟩)
  · obtain ⟨v, w, rfl, r⟩ := repWs1 rs
    obtain rfl := repO_bl.mp r
    exact .inl (.inr ⟨_, rfl, q _ F H own (Ext.refl fh) (repO_int.mpr rfl)⟩)
  · split at h
    · rename_i hl
      obtain ⟨n, hn, rfl⟩ := Option.map_eq_some_iff.mp h
      obtain ⟨v, w, rfl, r⟩ := repWs1 rs
      obtain ⟨rfl, _⟩ := repO_str.mp r
      exact .inr ⟨_, n, rfl, digs_text hn hl, by rw [len_mk]; exact hl, q _ F H own (Ext.refl fh) (repO_int.mpr rfl)⟩
    · cases h
theorem str_num {i : Int} (h : 0 ≤ i) : (PySem.Str.ofString (toString i)) = mk (numT i.toNat) := by
  obtain ⟨n, rfl⟩ := Int.eq_ofNat_of_zero_le h
  have := TL.tl_num n
  have e : TL.tl (mk (numT ((n : Int)).toNat)) = TL.numL n := rfl
  exact TL.ext_tl (this.trans e.symm)
theorem str_sp : CSp C (fun _ => fun xs H Q => ∃ i, xs = [.int i] ∧ i.natAbs.log2 < 1920 ∧ Q (.str (toString i)) H) biStr := fun X hX k F H own os vs z Q fh nf rs h q => by
  unfold biStr at h
  split at h <;> first | cases h | skip
  split at h
  · rename_i i hi
    simp only [Bool.and_eq_true, decide_eq_true_eq] at hi
    cases h
    obtain ⟨v, w, rfl, r⟩ := repWs1 rs
    obtain rfl := repO_int.mp r
    have hb : i.natAbs.log2 < 1920 := by
      by_cases h0 : i.natAbs = 0
      · rw [h0]; decide
      · have : i.natAbs < 2 ^ 40 := by omega
        have := (Nat.log2_lt h0).mpr this
        omega
    refine ⟨i, rfl, hb, ?_⟩
    have hs : (PySem.Str.ofString (toString i)) = mk (numT i.toNat) := str_num hi.1
    have hq : Q (.str (PySem.Str.ofString (toString i))) H := by
      rw [hs]
      refine q _ F H own (Ext.refl fh) (repO_str.mpr ⟨rfl, ?_⟩)
      have := int_text_len_1921 hb
      rw [hs, len_mk] at this
      exact Nat.le_trans this (by decide)
    exact hq
  · cases h

/-! ### list, tuple -/
theorem list_sp : CSp C (fun X => fun xs H Q => ∃ p ys, xs = [.ref p] ∧ (SqL X.K H p ys ∨ SqT X.K H p ys) ∧ ∀ l, H l = none → Q (.ref l) (upd H l (.lst ys))) biList := fun X hX k F H own os vs z Q fh nf rs h q => by
  unfold biList at h
  split at h <;> first | cases h | skip
  · obtain ⟨v, w, rfl, r⟩ := repWs1 rs
    have r := RepO.frz_iff.mp r
    simp only [Rep] at r
    obtain ⟨a, xs, rfl, e, t⟩ := r
    exact ⟨a, xs, rfl, .inl (SqL.of (fh _ _ e)), new_lst fh nf t q⟩
  · obtain ⟨v, w, rfl, r⟩ := repWs1 rs
    simp only [RepO] at r
    obtain ⟨a, xs, rfl, _, e, t⟩ := r
    exact ⟨a, xs, rfl, .inl (SqL.of e), new_lst fh nf t q⟩
  · obtain ⟨v, w, rfl, r⟩ := repWs1 rs
    have r := RepO.frz_iff.mp r
    simp only [Rep] at r
    obtain ⟨a, xs, rfl, e, t⟩ := r
    exact ⟨a, xs, rfl, .inr (SqT.of (fh _ _ e)), new_lst fh nf t q⟩
  · obtain ⟨v, w, rfl, r⟩ := repWs1 rs
    have r := RepO.frz_iff.mp r
    simp only [Rep] at r
    obtain ⟨a, rfl, e⟩ := r
    exact ⟨a, _, rfl, .inl (by rw [hX.K]; exact SqL.keep fh e), new_lst fh nf (ints_reps _) q⟩
theorem tuple_sp : CSp C (fun X => fun xs H Q => ∃ p ys, xs = [.ref p] ∧ ((SqL X.K H p ys ∧ ∀ l, H l = none → Q (.ref l) (upd H l (.tup ys))) ∨ (SqT X.K H p ys ∧ Q (.ref p) H))) biTuple := fun X hX k F H own os vs z Q fh nf rs h q => by
  have new : ∀ {l : List D} {xs : List V}, Reps C.G F l xs → z = .frz (.tup l) → ∀ p, H p = none → Q (.ref p) (upd H p (.tup xs)) := fun {l xs} t e => by
    subst e
    refine new_frz fh (fun p hp => ?_) q
    simp only [Rep]
    exact ⟨p, xs, rfl, upd_same, Reps.keep (Ext.frz fh hp (.tup xs) (own := own)).ff l xs t⟩
  unfold biTuple at h
  split at h <;> first | cases h | skip
  · obtain ⟨v, w, rfl, r⟩ := repWs1 rs
    have r := RepO.frz_iff.mp r
    simp only [Rep] at r
    obtain ⟨a, xs, rfl, e, t⟩ := r
    exact ⟨a, xs, rfl, .inl ⟨SqL.of (fh _ _ e), new t rfl⟩⟩
  · obtain ⟨v, w, rfl, r⟩ := repWs1 rs
    simp only [RepO] at r
    obtain ⟨a, xs, rfl, _, e, t⟩ := r
    exact ⟨a, xs, rfl, .inl ⟨SqL.of e, new t rfl⟩⟩
  · obtain ⟨v, w, rfl, r⟩ := repWs1 rs
    have r' := RepO.frz_iff.mp r
    simp only [Rep] at r'
    obtain ⟨a, xs, rfl, e, t⟩ := r'
    refine ⟨a, xs, rfl, .inr ⟨SqT.of (fh _ _ e), q _ F H own (Ext.refl fh) (RepO.flatAny ?_)⟩⟩
    simp only [Rep]
    exact ⟨a, xs, rfl, e, t⟩

/-! ### sum, all -/
theorem vints {G : Gx} {F : Hp} : ∀ {l : List D} {ns : List Int} {vs : List V}, intsOf l = some ns → Reps G F l vs → vs = ns.map V.int
  | [], ns, vs, h, r => by simp only [intsOf, Option.some.injEq] at h; simp only [Reps] at r; subst h; subst r; rfl
  | d :: l, ns, vs, h, r => by
    simp only [Reps] at r
    obtain ⟨v, ws, rfl, q, t⟩ := r
    cases d <;> first | (simp [intsOf] at h; done) | skip
    simp only [intsOf] at h
    obtain ⟨ms, hm, rfl⟩ := Option.map_eq_some_iff.mp h
    simp only [Rep] at q
    rw [vints hm t, q]
    rfl
theorem bls_v {G : Gx} {F : Hp} : ∀ {l : List D} {ns : List Bool} {vs : List V}, bls l = some ns → Reps G F l vs → vs = ns.map V.bl
  | [], ns, vs, h, r => by simp only [bls, Option.some.injEq] at h; simp only [Reps] at r; subst h; subst r; rfl
  | d :: l, ns, vs, h, r => by
    simp only [Reps] at r
    obtain ⟨v, ws, rfl, q, t⟩ := r
    cases d <;> first | (simp [bls] at h; done) | skip
    simp only [bls] at h
    obtain ⟨ms, hm, rfl⟩ := Option.map_eq_some_iff.mp h
    simp only [Rep] at q
    rw [bls_v hm t, q]
    rfl
theorem sum_sp : CSp C (fun X => rSum X.K) biSum := fun X hX k F H own os vs z Q fh nf rs h q => by
  unfold biSum at h
  split at h <;> first | cases h | skip
  obtain ⟨ns, hn, rfl⟩ := Option.map_eq_some_iff.mp h
  obtain ⟨l, hi, hn⟩ := Option.bind_eq_some_iff.mp hn
  obtain ⟨v, w, rfl, r⟩ := repWs1 rs
  obtain ⟨p, us, rfl, e, t⟩ := its_rep fh r hi
  obtain rfl := vints hn t
  exact ⟨p, ns, rfl, SqL.of e, q _ F H own (Ext.refl fh) (repO_int.mpr rfl)⟩
theorem all_sp : CSp C (fun X => rAll X.K) biAll := fun X hX k F H own os vs z Q fh nf rs h q => by
  unfold biAll at h
  split at h <;> first | cases h | skip
  obtain ⟨ns, hn, rfl⟩ := Option.map_eq_some_iff.mp h
  obtain ⟨l, hi, hn⟩ := Option.bind_eq_some_iff.mp hn
  obtain ⟨v, w, rfl, r⟩ := repWs1 rs
  obtain ⟨p, us, rfl, e, t⟩ := its_rep fh r hi
  obtain rfl := bls_v hn t
  exact ⟨p, ns, rfl, SqL.of e, q _ F H own (Ext.refl fh) (repO_bl.mpr rfl)⟩

/-! ### the calls -/
section
variable {e : Expr} {es : List Expr} {p pos : Pos} {f : Es}
theorem boot_b (x : Str) (u : Value) (h : (bootBuiltins x == some u) = true) : bootBuiltins x = some u := by simpa using h
end
end
end Vs


/-! VExc: exceptions made, raised, held, caught. -/
namespace Vs
open PySem PySem.Spec PyProof.Rows L2 Vc

/-! ### what is told of classes -/
/-- an exception class, as isinstance and its fields ask -/
structure XkOk (K : PySem.W.Frag) (D : Addr) : Prop where
  cl : (PySem.W.clsIn K D).isSome = true
  ga : PySem.W.findIn K (.ref D) "__getattribute__" = some (some (.builtin "BaseException.__getattribute__"))
  gg : PySem.W.findIn K (.ref D) "__getattr__" = some none
  exC : PySem.W.subIn K (.ref D) (.type "BaseException") = some true
  hdC : PySem.W.hasDictIn K D = true
  ha : PySem.W.findIn K (.ref D) "__class__" = some (some (.builtin "object.__class__"))
  hn : PySem.W.specialIn K (.builtin "object.__class__") "__get__" = some (some (.builtin "getset_descriptor.__get__"))
  ht : PySem.W.takesIn K (.builtin "object.__class__") = some true
  hm : PySem.W.mroIn K D (.type "object") = some true
  ty : PySem.W.typeIn K (.ref D) = some (.type "type")
  kp : PySem.W.keepIn K (.ref D) = true
def xkB (K : PySem.W.Frag) (D : Addr) : Bool :=
  (PySem.W.clsIn K D).isSome && (decide (PySem.W.findIn K (.ref D) "__getattribute__" = some (some (.builtin "BaseException.__getattribute__"))) && (decide (PySem.W.findIn K (.ref D) "__getattr__" = some none) &&
  (decide (PySem.W.subIn K (.ref D) (.type "BaseException") = some true) && (PySem.W.hasDictIn K D && (decide (PySem.W.findIn K (.ref D) "__class__" = some (some (.builtin "object.__class__"))) &&
  (decide (PySem.W.specialIn K (.builtin "object.__class__") "__get__" = some (some (.builtin "getset_descriptor.__get__"))) && (decide (PySem.W.takesIn K (.builtin "object.__class__") = some true) &&
  (decide (PySem.W.mroIn K D (.type "object") = some true) && (decide (PySem.W.typeIn K (.ref D) = some (.type "type")) && PySem.W.keepIn K (.ref D))))))))))
theorem xk_ok {K : PySem.W.Frag} {D : Addr} (h : xkB K D = true) : XkOk K D := by
  unfold xkB at h
  simp only [Bool.and_eq_true, decide_eq_true_eq] at h
  obtain ⟨h1, h2, h3, h4, h5, h6, h7, h8, h9, h10, h11⟩ := h
  exact ⟨h1, h2, h3, h4, h5, h6, h7, h8, h9, h10, h11⟩
/-- what is told of the own exception classes is so -/
structure XsOk (G : Gx) (Z : Xs) : Prop where
  k : ∀ i, i < Z.n → XkOk G.K (G.cA i)
  sb : ∀ i j, i < Z.n → j < Z.n → PySem.W.subIn G.K (.ref (G.cA i)) (.ref (G.cA j)) = some (Z.sub i j)
  non : ∀ j, j < Z.n → ∀ T ∈ ["NoneType", "bool", "int", "str", "tuple", "list", "dict"], PySem.W.kitOne G.K (.type T) (.ref (G.cA j)) = some false
  rf : ∀ i, i < Z.n → Z.sub i i = true
  ve : ∀ i, i < Z.n → PySem.W.kitOne G.K (.ref (G.cA i)) (.type "ValueError") = some true
  cf : ∀ i, i < Z.n → G.cF i = (Z.fs i).map mk
  no : ∀ i, i < Z.n → ∀ nm ∈ Z.fs i, PySem.W.findIn G.K (.ref (G.cA i)) (mk nm) = some none

section
variable {C : Ctx}
def RepXF (G : Gx) (F : Hp) (x : Xc) (cls : Value) (d : Option Addr) : Prop := cls = .ref (G.cA x.c) ∧ (x.fs = [] → d = none) ∧ (x.fs ≠ [] → ∃ dd vs, d = some dd ∧ F dd = some (.xd ((G.cF x.c).zip vs)) ∧ vs.length = (G.cF x.c).length ∧ Reps G F x.fs vs)
theorem RepXF.x {G : Gx} {F H : Hp} {x : Xc} {cls : Value} {d : Option Addr} (fh : Same F H) (r : RepXF G F x cls d) : RepX G F H x cls d :=
  r
def OutM (G : Gx) (c : Nat) (γ : Gh) (ρ : Vc.Env) (σ : L2.St) (W : WX) (Q : XK) : R (List D) → Prop
  | .ok l => ∀ cls d F H own, Sta G γ F H own ρ σ → RepXF G F ⟨c, l⟩ cls d → Q cls d H
  | .ex x => ∀ cls d F H own, Sta G γ F H own ρ σ → RepX G F H x cls d → W cls d σ H
  | .bad => False
def VMk (C : Ctx) (e : Expr) (c : Nat) (f : Mk) : Prop := ∀ X, CxOk C X → ∀ W, Takes X W → ∃ t, PMk X e t ∧ ∀ γ F H own ρ σ Q, Sta C.G γ F H own ρ σ → OutM C.G c γ ρ σ W Q (f ρ) → t σ H Q
/-- an own exception class without __init__ of its own -/
theorem vm_own {c : Nat} {x : Str} {e : Expr} {es : List Expr} {p pos : Pos} {f : Es} (hx : PySem.W.excIn C.G.K (C.G.cA c) [.type "ValueError", .type "Exception", .type "BaseException", .type "object"] "ValueError.__new__" = true) (gC : C.mg x = some (.ref (C.G.cA c)))
    (hk : XkOk C.G.K (C.G.cA c)) (ha : VAP C (e :: es) f) (hg : C.sc.names.lookup x = some .globalImplicit := by rfl) (hdb : (x == ("__debug__" : Str)) = false := by decide)
    (he : ∀ env, starEach (e :: es) env = (false, eval e env) :: starEach es env := by intro _; rfl) (hpl : ∀ env, (backTo pos (starEach es env)).any (·.1) = false := by intro _; rfl)
    (hl : EsLen (e :: es).length f := by (repeat (first | exact el0 | refine elS ?_))) (hz : (e :: es).length ≤ sz := by decide) : VMk C (.Call (.Name x p) (e :: es) [] pos) c (mkOwn f) := fun X hX W tk => by
  obtain ⟨t, pa, qa⟩ := ha X hX W tk
  refine ⟨_, pmk_ownA (C := C.G.cA c) PySem.F.excBase_ValueError (by rw [hX.K]; exact hx) (by rw [hX.mg]; exact gC) (by rw [hX.K]; exact hk.kp) (raises_own (by rw [hX.K]; exact hk.exC) (by rw [hX.K]; exact hk.ty)) (gl_of hX hg) pa hdb (he _) (hpl _), fun γ F H own ρ σ Q S o => ?_⟩
  refine qa γ F H own ρ σ _ S ?_
  unfold mkOwn at o
  cases e1 : f ρ with
  | bad => rw [e1] at o; exact o.elim
  | ex x => rw [e1] at o; exact o
  | ok os =>
    rw [e1] at o
    intro vs F1 H1 own1 hlv S1
    have hlo := hl ρ os e1
    refine ⟨by rw [← hlv, hlo, ← sz_line]; exact hz, o _ _ F1 H1 own1 (S1.less rfl rfl rfl (fun _ h => h) (fun _ h => h) (fun _ _ e => e) (fun p h => List.mem_append_right _ h)) ⟨rfl, fun _ => rfl, fun n => absurd rfl n⟩⟩
/-- a raise -/
theorem vs_raise {e : Expr} {c : Nat} {f : Mk} {pos : Pos} (h : VMk C e c f) (hot : C.hot = false := by rfl) : VS C (.Raise (some e) none pos) (sRaise c f) := fun X hX W tk => by
  obtain ⟨t, p, q⟩ := h X hX W tk
  refine ⟨_, ps_raise (hX.calm hot) tk p, fun γ F H own ρ σ D hg S o => q γ F H own ρ σ _ S ?_⟩
  unfold sRaise at o
  cases e1 : f ρ with
  | bad => rw [e1] at o; exact o.elim
  | ex x => rw [e1] at o; exact fun cls d F H own S r => o cls d F H own σ S r
  | ok l => rw [e1] at o; exact fun cls d F H own S r => o cls d F H own σ S (r.x S.fh)
/-- an exception as a value -/
theorem ve_mk {e : Expr} {c : Nat} {f : Mk} (h : VMk C e c f) : VE C e (eMk c f) := fun X hX W tk => by
  obtain ⟨t, p, q⟩ := h X hX W tk
  refine ⟨_, pe_keep p, fun γ F H own ρ σ Q S o => q γ F H own ρ σ _ S ?_⟩
  unfold eMk at o
  cases e1 : f ρ with
  | bad => rw [e1] at o; exact o.elim
  | ex x => rw [e1] at o; exact o
  | ok l =>
    rw [e1] at o
    intro cls d F1 H1 own1 S1 r a ha
    have x := Ext.frz S1.fh ha (xoH cls d a) (own := own1)
    refine o _ _ _ _ ((S1.grow x).frzT ?_)
    obtain ⟨rfl, r2, r3⟩ := r
    simp only [Rep]
    refine ⟨a, d, rfl, upd_same, r2, fun n => ?_⟩
    obtain ⟨dd, vs, e1, e2, e3, e4⟩ := r3 n
    exact ⟨dd, vs, e1, x.ff _ _ e2, e3, Reps.keep x.ff _ _ e4⟩

/-! ### fields of an exception -/
def rXf (K : PySem.W.Frag) (n : Str) (te : TE) : TE := fun σ H Q => te σ H fun x H1 => ∃ (a D dd : Addr) (fs : List (Str × V)) (v : V), x = .ref a ∧ H1 a = some (xoH (.ref D) (some dd) a) ∧ H1 dd = some (.xd fs) ∧ XkOk K D ∧ PySem.W.findIn K (.ref D) n = some none ∧ fs.lookup n = some v ∧ Q v H1
theorem pe_xof {X : Cx} {e : Expr} {te : TE} {n : Str} {pos : Pos} (h : PE X e te) (hb : attributeBase e n X.env (eval e X.env) = eval e X.env) : PE X (.Attribute e n pos) (rXf X.K n te) := ⟨fun pins s σ H Q I red => by
  refine attr_of hb (thn (h.run pins s σ H _ I red) fun u s1 ⟨x, H1, I1, rx, a, D, dd, fs, v, ex, ea, ed, k, no, l, q⟩ => ?_)
  subst ex
  obtain rfl : u = Value.ref a := rx
  obtain ⟨oe, vs, g, z, dt⟩ := xoH_at I1.hok ea
  obtain ⟨mA, hns, hr⟩ := (show ObjOk X.prog X.w H1 s1.heap dd (.xd fs) from I1.hok dd _ ed)
  obtain ⟨od, god, look⟩ := lookIn_ns hns
  obtain ⟨w, hw, rw⟩ := RelO.some_of (v := v) (o := mA n) (by rw [← l]; exact hr n)
  have J : PySem.W.InstAt s1.heap a oe D (some od) := ⟨g, z.1, by unfold PySem.W.notCls; rw [dt] <;> rfl, by rw [z.2]; exact god⟩
  exact HandSPX.exc_get I1.kIn J k.ga k.gg k.exC (PySem.W.findObj_own k.hdC no rfl (by rw [look, hw])) (handed_of rw) ⟨v, H1, I1.tok _, rw, q⟩⟩
theorem lookup_rep {G : Gx} {F : Hp} {nm : Tx} : ∀ {ks : List Tx} {l : List D} {vs : List V} {d : D}, Reps G F l vs → (ks.zip l).lookup nm = some d → nm ∈ ks ∧ ∃ v, ((ks.map mk).zip vs).lookup (mk nm) = some v ∧ Rep G F d v
  | [], l, vs, d, r, e => by simp at e
  | k :: ks, [], vs, d, r, e => by simp at e
  | k :: ks, x :: l, vs, d, r, e => by
    simp only [Reps] at r
    obtain ⟨v, ws, rfl, q, t⟩ := r
    simp only [List.zip_cons_cons, List.lookup_cons] at e
    simp only [List.map_cons, List.zip_cons_cons, List.lookup_cons]
    rw [mk_beq]
    cases h : nm == k with
    | true =>
      rw [h] at e
      simp only [Option.some.injEq] at e
      subst e
      have : nm = k := by simpa using h
      subst this
      exact ⟨List.mem_cons_self, v, rfl, q⟩
    | false =>
      rw [h] at e
      obtain ⟨m, u, e1, e2⟩ := lookup_rep t e
      exact ⟨List.mem_cons_of_mem _ m, u, e1, e2⟩
/-- e.n, a field of an exception -/
theorem ve_xf {e : Expr} {f : E} {n : Str} {nm : Tx} {pos : Pos} {Z : Xs} (zo : XsOk C.G Z) (en : n = mk nm) (h : VP C e f) (hb : ∀ env : PySem.Env, attributeBase e n env (eval e env) = eval e env := by intro _; rfl) : VE C (.Attribute e n pos) (eUn (opXf Z nm) f) := fun X hX W tk => by
  obtain ⟨t, p, q⟩ := h X hX W tk
  refine ⟨_, pe_xof p (hb _), fun γ F H own ρ σ Q S o => q γ F H own ρ σ _ S ?_⟩
  unfold eUn at o
  cases e1 : f ρ with
  | bad => rw [e1] at o; exact o.elim
  | ex x => rw [e1] at o; exact o
  | ok x =>
    rw [e1] at o
    simp only [R.bind_ok] at o
    intro v F1 H1 own1 S1
    obtain ⟨w, r⟩ := S1.topW
    unfold opXf at o
    split at o
    · rename_i c l
      split at o
      · rename_i hcN
        have r := RepO.frz_iff.mp r
        simp only [Rep] at r
        obtain ⟨a, d, rfl, ea, z1, z2⟩ := r
        cases hl : ((Z.fs c).zip l).lookup nm with
        | none => rw [hl] at o; exact o.elim
        | some y =>
          rw [hl] at o
          have hne : l ≠ [] := fun z => by subst z; simp at hl
          obtain ⟨dd, vs, rfl, ed, hlen, rs⟩ := z2 hne
          obtain ⟨m, v, hv, rv⟩ := lookup_rep rs hl
          subst en
          refine ⟨a, C.G.cA c, dd, _, v, rfl, S1.fh _ _ ea, S1.fh _ _ ed, by rw [hX.K]; exact zo.k c hcN, by rw [hX.K]; exact zo.no c hcN nm m, ?_, o v F1 H1 own1 (S1.popW.frzT rv)⟩
          rw [zo.cf c hcN]
          exact hv
      · exact o.elim
    · exact o.elim

/-! ### isinstance -/
def rIsX (K : PySem.W.Frag) : List V → Hp → VK → Prop := fun xs H Q => ∃ (a D : Addr) (d : Option Addr) (c : V) (cv : Value) (b : Bool), xs = [.ref a, c] ∧ H a = some (xoH (.ref D) d a) ∧ (d = none ∨ ∃ dd fs, d = some dd ∧ H dd = some (.xd fs)) ∧ XkOk K D ∧ (∀ u, RelV c u → u = cv) ∧ PySem.W.kitOne K (.ref D) cv = some b ∧ Q (.bl b) H
theorem cr_isX {X : Cx} : CallR X (.builtin "isinstance") (rIsX X.K) := by
  intro pins s σ H xs us Q I r h
  obtain ⟨a, D, d, c, cv, b, rfl, ea, hd, k, hcv, ek, q⟩ := h
  obtain ⟨u1, u2, rfl, r1, r2⟩ := vals2 r
  obtain rfl : u1 = Value.ref a := r1
  obtain rfl := hcv _ r2
  obtain ⟨oe, vs, g, z, dt⟩ := xoH_at I.hok ea
  have J : ∃ od, PySem.W.InstAt s.heap a oe D od := by
    rcases hd with rfl | ⟨dd, fs, rfl, ed⟩
    · exact ⟨none, g, z.1, by unfold PySem.W.notCls; rw [dt] <;> rfl, by rw [z.2]; trivial⟩
    · obtain ⟨mA, hns, hr⟩ := (show ObjOk X.prog X.w H s.heap dd (.xd fs) from I.hok dd _ ed)
      obtain ⟨od, god, look⟩ := lookIn_ns hns
      exact ⟨some od, g, z.1, by unfold PySem.W.notCls; rw [dt] <;> rfl, by rw [z.2]; exact god⟩
  obtain ⟨od, J⟩ := J
  exact PySem.W.kia_one (PySem.W.kitx_exc k.cl k.ga k.gg k.exC k.ha k.hn k.ht k.hm) I.kIn J ek (fun y => nomatch y) fun tk => ⟨.bl b, H, I.kept (t' := tk) fun _ _ y => y, rfl, q⟩
theorem tyN_x {K : PySem.W.Frag} {G : Gx} (hK : K = G.K) {F H : Hp} {own : Own} {x : O} {v : V} {w : Ow} {T : String} (fh : Same F H) (r : RepO G F H own x v w) (h : tyN x = some T) : TyX K H v (.type T) := by
  unfold tyN at h
  split at h <;> first | cases h | skip
  · obtain rfl := repO_non.mp r; exact .base .non
  · obtain rfl := repO_bl.mp r; exact .base (.bl _)
  · obtain rfl := repO_int.mp r; exact .base (.int _)
  · obtain ⟨rfl, _⟩ := repO_str.mp r; exact .base (.str _)
  · simp only [RepO, Rep] at r; obtain ⟨a, vs, rfl, e, _⟩ := r; exact .base (.tup (fh _ _ e))
  · simp only [RepO, Rep] at r; obtain ⟨a, vs, rfl, e, _⟩ := r; exact .base (.lst (fh _ _ e))
  · simp only [RepO, Rep] at r
    obtain ⟨a, rfl, e⟩ := r
    have e := SqL.keep fh e
    rw [← hK] at e
    rcases e with (e | ⟨o, e⟩) | ⟨o, its, n, e, ec, _⟩
    · exact .base (.lst e)
    · exact .base (.frz e)
    · exact .kList e ec
  · simp only [RepO, Rep] at r
    obtain ⟨a, vs, rfl, e, _⟩ := r
    rcases Rd.keep fh e with e | ⟨o, e⟩
    · exact .base (.dK e)
    · exact .fDict e
  · simp only [RepO] at r; obtain ⟨a, vs, rfl, _, e, _⟩ := r; exact .base (.lst e)
  · simp only [RepO] at r; obtain ⟨a, vs, rfl, _, e, _⟩ := r; exact .base (.lst e)
  · simp only [RepO] at r; obtain ⟨a, vs, rfl, _, e, _⟩ := r; exact .base (.dK e)
  · simp only [RepO] at r; obtain ⟨a, vs, rfl, _, e, _⟩ := r; exact .base (.dT e)

def rIsAll (K : PySem.W.Frag) : List V → Hp → VK → Prop := fun xs H Q => rIsi K xs H Q ∨ rIsX K xs H Q
theorem cr_isAll {X : Cx} : CallR X (.builtin "isinstance") (rIsAll X.K) := CallR.or call_isi cr_isX
theorem boot_isi : bootBuiltins "isinstance" = some (.builtin "isinstance") := by decide +kernel
theorem tyN_mem {x : O} {a : String} (h : tyN x = some a) : a ∈ ["NoneType", "bool", "int", "str", "tuple", "list", "dict"] := by
  unfold tyN at h
  split at h <;> first | cases h | skip
  all_goals decide
theorem xo_isx {K : PySem.W.Frag} {G : Gx} (hK : K = G.K) {F H : Hp} {own : Own} {c : Nat} {l : List D} {v : V} {w : Ow} {Z : Xs} (so : XsOk G Z) (hc : c < Z.n) (fh : Same F H) (r : RepO G F H own (.frz (.xo c l)) v w) {k : V} {cv : Value} {b : Bool} {Q : VK}
    (h1 : ∀ u, RelV k u → u = cv) (h2 : PySem.W.kitOne K (.ref (G.cA c)) cv = some b) (q : Q (.bl b) H) : rIsX K [v, k] H Q := by
  have r := RepO.frz_iff.mp r
  simp only [Rep] at r
  obtain ⟨a, d, rfl, ea, z1, z2⟩ := r
  refine ⟨a, G.cA c, d, k, cv, b, rfl, fh _ _ ea, ?_, by rw [hK]; exact so.k c hc, h1, h2, q⟩
  by_cases hl : l = []
  · exact .inl (z1 hl)
  · obtain ⟨dd, vs, e1, e2, _⟩ := z2 hl
    exact .inr ⟨dd, _, e1, fh _ _ e2⟩
/-- isinstance(e, T), T a built-in type -/
theorem ve_isT {x : Str} {T : String} {e : Expr} {f : E} {p p2 pos : Pos} {Z : Xs} (so : XsOk C.G Z) (hT : ∀ a ∈ ["NoneType", "bool", "int", "str", "tuple", "list", "dict"], kitB a T = some (isTy a T)) (h : VP C e f)
    (hi : C.mg ("isinstance" : Str) = none) (hm : C.mg x = none) (hv : bootBuiltins x = some (.type T)) (hgi : C.sc.names.lookup ("isinstance" : Str) = some .globalImplicit := by rfl) (hg : C.sc.names.lookup x = some .globalImplicit := by rfl) (hn : x ≠ "__name__" := by decide) (hdb : (x == ("__debug__" : Str)) = false := by decide)
    (he : ∀ env, starEach [e, .Name x p2] env = (false, eval e env) :: starEach [.Name x p2] env := by intro _; rfl) (hpl : ∀ env, (backTo pos (starEach [.Name x p2] env)).any (·.1) = false := by intro _; rfl) (he2 : ∀ env, starEach [.Name x p2] env = (false, eval (.Name x p2) env) :: starEach [] env := by intro _; rfl) :
    VE C (.Call (.Name "isinstance" p) [e, .Name x p2] [] pos) (eUn (opIsT Z T) f) := fun X hX W tk => by
  obtain ⟨t, pa, qa⟩ := h X hX W tk
  refine ⟨_, pe_callB cr_isAll (gl_of hX hgi) (by rw [hX.mg]; exact hi) boot_isi (pa_cons pa (pa_cons (pe_bltn (v := .ty T) (gl_of hX hg) (by rw [hX.mg]; exact hm) hv rfl hn hdb) pa_nil (he2 _)) (he _)) (by decide) (by decide) (he _) (hpl _), fun γ F H own ρ σ Q S o => qa γ F H own ρ σ _ S ?_⟩
  unfold eUn at o
  cases e1 : f ρ with
  | bad => rw [e1] at o; exact o.elim
  | ex x => rw [e1] at o; exact o
  | ok y =>
    rw [e1] at o
    simp only [R.bind_ok] at o
    intro v F1 H1 own1 S1
    obtain ⟨w, r⟩ := S1.topW
    have hty : ∀ a, tyN y = some a → OutE C.G γ ρ σ W Q Gh.pushT (.ok (.frz (.bl (isTy a T)))) → rIsAll X.K [v, .ty T] H1 Q := fun a ha o => .inl ⟨v, .ty T, _, .type T, isTy a T, rfl, .ty T, tyN_x hX.K S1.fh r ha, kit_ty (hT a (tyN_mem ha)), o _ F1 H1 own1 (S1.popW.frzT (by simp [Rep]))⟩
    unfold opIsT at o
    split at o
    · rename_i c l
      split at o
      · rename_i hve
        simp only [Bool.and_eq_true, decide_eq_true_eq, beq_iff_eq] at hve
        obtain ⟨hc, rfl⟩ := hve
        exact .inr (xo_isx hX.K so hc S1.fh r (fun u k => k) (by rw [hX.K]; exact so.ve c hc) (o _ F1 H1 own1 (S1.popW.frzT (by simp [Rep]))))
      · exact o.elim
    · cases ha : tyN y with
      | none => rw [ha] at o; exact o.elim
      | some a => rw [ha] at o; exact hty a ha o
/-- isinstance(e, C), C an own exception class -/
theorem ve_isC {x : Str} {c : Nat} {e : Expr} {f : E} {p p2 pos : Pos} {Z : Xs} (so : XsOk C.G Z) (hc : c < Z.n) (h : VP C e f)
    (hi : C.mg ("isinstance" : Str) = none) (hm : C.mg x = some (.ref (C.G.cA c))) (hgi : C.sc.names.lookup ("isinstance" : Str) = some .globalImplicit := by rfl) (hg : C.sc.names.lookup x = some .globalImplicit := by rfl) (hdb : (x == ("__debug__" : Str)) = false := by decide)
    (he : ∀ env, starEach [e, .Name x p2] env = (false, eval e env) :: starEach [.Name x p2] env := by intro _; rfl) (hpl : ∀ env, (backTo pos (starEach [.Name x p2] env)).any (·.1) = false := by intro _; rfl) (he2 : ∀ env, starEach [.Name x p2] env = (false, eval (.Name x p2) env) :: starEach [] env := by intro _; rfl) :
    VE C (.Call (.Name "isinstance" p) [e, .Name x p2] [] pos) (eUn (opIsC Z c) f) := fun X hX W tk => by
  obtain ⟨t, pa, qa⟩ := h X hX W tk
  refine ⟨_, pe_callB cr_isAll (gl_of hX hgi) (by rw [hX.mg]; exact hi) boot_isi (pa_cons pa (pa_cons (pe_glob (v := .ref (C.G.cA c)) (gl_of hX hg) (by rw [hX.mg]; exact hm) rfl hdb) pa_nil (he2 _)) (he _)) (by decide) (by decide) (he _) (hpl _), fun γ F H own ρ σ Q S o => qa γ F H own ρ σ _ S ?_⟩
  unfold eUn at o
  cases e1 : f ρ with
  | bad => rw [e1] at o; exact o.elim
  | ex x => rw [e1] at o; exact o
  | ok y =>
    rw [e1] at o
    simp only [R.bind_ok] at o
    intro v F1 H1 own1 S1
    obtain ⟨w, r⟩ := S1.topW
    unfold opIsC at o
    split at o
    · rename_i b l
      split at o
      case isFalse => exact o.elim
      rename_i hb
      refine .inr (xo_isx (b := Z.sub b c) hX.K so hb S1.fh r (fun u k => k) ?_ (o _ F1 H1 own1 (S1.popW.frzT (by simp [Rep]))))
      rw [hX.K]
      have s1 := so.sb b c hb hc
      have kc := so.k c hc
      unfold PySem.W.kitOne
      split
      · rename_i he
        have hea : C.G.cA b = C.G.cA c := Value.ref.inj (beq_iff_eq.mp he)
        have s2 := so.sb c c hc hc
        rw [hea, s2] at s1
        have hcc : Z.sub c c = Z.sub b c := Option.some.inj s1
        rw [← hcc]
        have := so.rf c hc
        rw [this]
      · unfold PySem.W.kitCls
        simp only
        rw [if_pos (by rw [kc.cl, kc.ty]; rfl)]
        exact s1
    · cases ha : tyN y with
      | none => rw [ha] at o; exact o.elim
      | some a =>
        rw [ha] at o
        exact .inl ⟨v, .ref (C.G.cA c), _, .ref (C.G.cA c), false, rfl, .own _, tyN_x hX.K S1.fh r ha, by rw [hX.K]; exact so.non c hc a (tyN_mem ha), o _ F1 H1 own1 (S1.popW.frzT (by simp [Rep]))⟩
end
end Vs


/-! VTry2: try, and exceptions whose class sets two fields. -/
namespace Vs
open PySem PySem.Spec PyProof.Rows L2 Vc

section
variable {C : Ctx}
/-- the suite's context -/
abbrev Ctx.su (C : Ctx) : Ctx := { C with hot := true, top := false }
inductive VHs (C : Ctx) (Z : Xs) : List ExceptHandler → List Hd → Prop
  | nil : VHs C Z [] []
  | bare {c : Nat} {x : Str} {b₀ : Stmt} {su : List Stmt} {np q : Pos} {ks : List ExceptHandler} {hs : List Hd} {f : Sm} (hc : c < Z.n) (hm : C.mg x = some (.ref (C.G.cA c))) (hg : C.sc.names.lookup x = some .globalImplicit) (hd : (x == ("__debug__" : Str)) = false)
      (h : VB C.su (b₀ :: su) f) (r : VHs C Z ks hs) : VHs C Z (.ExceptHandler (some (.Name x np)) none (b₀ :: su) q :: ks) (⟨c, none, f⟩ :: hs)
  | as {c i : Nat} {x n : Str} {b₀ : Stmt} {su : List Stmt} {np q : Pos} {ks : List ExceptHandler} {hs : List Hd} {f : Sm} (hc : c < Z.n) (hm : C.mg x = some (.ref (C.G.cA c))) (hg : C.sc.names.lookup x = some .globalImplicit) (hd : (x == ("__debug__" : Str)) = false)
      (hN : C.N[i]? = some n) (hl : C.sc.names.lookup n = some .local) (hp : i ∉ C.pin) (h : VB C.su (b₀ :: su) f) (r : VHs C Z ks hs) : VHs C Z (.ExceptHandler (some (.Name x np)) (some n) (b₀ :: su) q :: ks) (⟨c, some i, f⟩ :: hs)
/-- what a block's meaning says, as a reading -/
def tOf (C : Ctx) (f : Sm) (W : WX) : TS := fun D σ H => ∃ γ F own ρ, GhOk C γ ∧ Sta C.G γ F H own ρ σ ∧ OutS C.G γ W D (f ρ)
theorem tOf_ok {X : Cx} (hX : CxOk C X) {W : WX} (tk : Takes X W) {ss : List Stmt} {f : Sm} (h : VB C ss f) : PSs X ss (tOf C f W) := by
  obtain ⟨t, p, q⟩ := h X hX W tk
  exact ⟨fun pins s σ H D I ⟨γ, F, own, ρ, hg, S, o⟩ => p.run pins s σ H D I (q γ F H own ρ σ D hg S o)⟩
theorem CxOk.tr {X : Cx} (hX : CxOk C X) (pn : List (Addr × Obj)) (xe : Value → Shared → Prop) (po : PassesOwn (model X.prog X.w) X.A X.env xe) : CxOk C (X.tr pn xe) :=
  ⟨hX.p, hX.w, hX.K, hX.mg, hX.base, hX.N, hX.sc, hX.calm, hX.room, hX.un, hX.nd, hX.fn, po, hX.top⟩
theorem CxOk.su {X : Cx} (hX : CxOk C X) (a : Addr) (pn : List (Addr × Obj)) : CxOk C.su (X.suite a pn) :=
  ⟨hX.p, hX.w, hX.K, hX.mg, hX.base, hX.N, hX.sc, (fun h => by cases h), (fun h => by cases h), hX.un, hX.nd, hX.fn, PassesOwn.never, (fun h => by cases h)⟩

/-- the clauses, for the rule -/
def cls (C : Ctx) : List Hd → List Cl
  | [] => []
  | h :: r => ⟨.ref (C.G.cA h.c), h.i, fun _ => tOf C.su h.s fun _ _ _ _ => False⟩ :: cls C r
theorem cls_ok {X : Cx} (hX : CxOk C X) {Z : Xs} : ∀ {ks : List ExceptHandler} {hs : List Hd}, VHs C Z ks hs → ClsOk X ks (cls C hs) := fun h => by
  induction h with
  | nil => exact .nil
  | bare hc hm hg hd h r ih => exact .bare ⟨gl_of hX hg, hd, .inl (by rw [hX.mg]; exact hm)⟩ (fun a pn => tOf_ok (hX.su a pn) takes_none5 h) ih
  | as hc hm hg hd hN hl hp h r ih => exact .as ⟨gl_of hX hg, hd, .inl (by rw [hX.mg]; exact hm)⟩ (by rw [hX.N]; exact hN) (by show X.env.scope.names.lookup _ = _; rw [hX.sc]; exact hl) (fun a pn => tOf_ok (hX.su a pn) takes_none5 h) ih
theorem VHs.slot {Z : Xs} : ∀ {ks : List ExceptHandler} {hs : List Hd}, VHs C Z ks hs → ∀ h ∈ hs, h.c < Z.n ∧ ∀ i, h.i = some i → i ∉ C.pin ∧ i < C.N.length := fun h => by
  induction h with
  | nil => intro h hh; simp at hh
  | bare hc hm hg hd h r ih =>
    intro h' hh
    rcases List.mem_cons.mp hh with rfl | hh
    · exact ⟨hc, fun i e => by cases e⟩
    · exact ih h' hh
  | as hc hm hg hd hN hl hp h r ih =>
    intro h' hh
    rcases List.mem_cons.mp hh with rfl | hh
    · exact ⟨hc, fun i e => by cases e; exact ⟨hp, (List.getElem?_eq_some_iff.mp hN).1⟩⟩
    · exact ih h' hh
theorem exm_sub {Z : Xs} (zo : XsOk C.G Z) {b c : Nat} (hb : b < Z.n) (hc : c < Z.n) : PySem.W.exmOne C.G.K (.ref (C.G.cA b)) (.ref (C.G.cA c)) = some (Z.sub b c) := by
  have k := zo.k c hc
  exact PySem.W.exm_ref k.exC k.hdC k.ty (zo.sb b c hb hc)
/-- the caught exception comes in sight -/
theorem Sta.xo {G : Gx} {γ : Gh} {F H : Hp} {own : Own} {ρ : Vc.Env} {σ : L2.St} {x : Xc} {cls : Value} {d : Option Addr} {a : Addr} (S : Sta G γ F H own ρ σ) (r : RepX G F H x cls d) (ha : H a = none) :
    Sta G γ (upd F a (xoH cls d a)) (upd H a (xoH cls d a)) own ρ σ ∧ Rep G (upd F a (xoH cls d a)) (.xo x.c x.fs) (.ref a) := by
  have e := Ext.frz S.fh ha (xoH cls d a) (own := own)
  refine ⟨S.grow e, ?_⟩
  obtain ⟨rfl, r2, r3⟩ := r
  simp only [Rep]
  refine ⟨a, d, rfl, upd_same, r2, fun n => ?_⟩
  obtain ⟨dd, vs, e1, e2, e3, e4⟩ := r3 n
  exact ⟨dd, vs, e1, e.ff _ _ e2, e3, Reps.keep e.ff _ _ e4⟩
theorem clean_end {G : Gx} {γ : Gh} {W : WX} {D : Ends} {r : SR} (o : OutS G γ W D (SR.mapE id r)) : OutS G γ (fun _ _ _ _ => False) D r := by
  cases r <;> first | exact o | exact o.elim
theorem put_end {G : Gx} {γ : Gh} {W : WX} {D : Ends} {i : Nat} (hp : i ∉ γ.pins.map (·.1)) (hpl : γ.pl = []) {r : SR} (o : OutS G γ W D (SR.mapE (fun ρ => ρ.put i none) r)) : OutS G γ (fun _ _ _ _ => False) (endAt D (some i)) r := by
  cases r with
  | nx ρ => exact fun F H own σ S => o F H own _ (S.forget hp hpl)
  | ret z ρ => exact fun v F H own σ S => o v F H own _ (S.forget (i := i) (x := none) hp hpl)
  | brk ρ => exact fun F H own σ S => o F H own _ (S.forget hp hpl)
  | ct ρ => exact fun F H own σ S => o F H own _ (S.forget hp hpl)
  | ex x ρ => exact o.elim
  | bad => exact o.elim
theorem vs_try {body : List Stmt} {k₀ : ExceptHandler} {ks : List ExceptHandler} {hs : List Hd} {f : Sm} {pos : Pos} {Z : Xs} (zo : XsOk C.G Z) (hb : VB C body f) (hh : VHs C Z (k₀ :: ks) hs) (hot : C.hot = false := by rfl) (top : C.top = true := by rfl) :
    VS C (.Try body (k₀ :: ks) [] [] pos) (sTry Z f hs) := fun X hX W tk => by
  obtain ⟨t1, t2, t3⟩ := hX.top top
  refine ⟨_, ps_tryT (tb := fun W => tOf C f W) t1 t2 t3 (by rw [hX.N]; exact hX.nd) tk (fun W' pn xe tk' po => tOf_ok (hX.tr pn xe po) tk' hb) (cls_ok hX hh), fun γ F H own ρ σ D hg S o => ?_⟩
  refine ⟨γ, F, own, ρ, hg, S, ?_⟩
  unfold sTry at o
  cases e : f ρ with
  | nx ρ' => rw [e] at o; exact o
  | ret z ρ' => rw [e] at o; exact o
  | brk ρ' => rw [e] at o; exact o
  | ct ρ' => rw [e] at o; exact o
  | bad => rw [e] at o; exact o
  | ex x ρ' =>
    rw [e] at o
    simp only at o
    split at o
    case isFalse => exact o.elim
    rename_i hx
    intro cl d F1 H1 own1 σ1 S1 r
    have slots := hh.slot
    have go : ∀ l : List Hd, (∀ h ∈ l, h.c < Z.n ∧ ∀ i, h.i = some i → i ∉ C.pin ∧ i < C.N.length) → OutS C.G γ W D (hdl Z x ρ' l) → wCl X.K W D (cls C l) cl d σ1 H1 := by
      intro l
      induction l with
      | nil => intro _ o; exact o cl d F1 H1 own1 σ1 S1 r
      | cons h l ih =>
        intro hl o
        obtain ⟨hc, hi⟩ := hl h List.mem_cons_self
        obtain ⟨rfl, _⟩ := id r
        refine ⟨Z.sub x.c h.c, by rw [hX.K]; exact exm_sub zo hx hc, fun hb a ha => ?_, fun hb => ?_⟩
        · unfold hdl at o
          rw [if_pos hb] at o
          obtain ⟨S2, r2⟩ := S1.xo r ha
          cases hhi : h.i with
          | none =>
            rw [hhi] at o
            exact ⟨γ, _, own1, ρ', ⟨hg.tm, hg.wk, hg.pn, hg.n, hg.pl⟩, S2, clean_end o⟩
          | some i =>
            rw [hhi] at o
            obtain ⟨hp, hn⟩ := hi i hhi
            have hp' : i ∉ γ.pins.map (·.1) := by rw [hg.pn]; exact hp
            exact ⟨γ, _, _, _, ⟨hg.tm, hg.wk, hg.pn, hg.n, hg.pl⟩, (S2.frzT r2).assign hg.tm hg.wk hg.pl hp' (by rw [S2.rn, hg.n]; exact hn), put_end hp' hg.pl o⟩
        · refine ih (fun h' m => hl h' (List.mem_cons_of_mem _ m)) ?_
          unfold hdl at o
          rw [if_neg (by rw [hb]; exact Bool.false_ne_true)] at o
          exact o
    exact go hs slots o

/-! ### a class whose __init__ sets two fields -/
def spI (K : PySem.W.Frag) (f1 f2 : Str) : Sp := fun vs H Q _ => ∃ (a D : Addr) (x y : V), vs = [.ref a, x, y] ∧ OexC K D ∧ PySem.W.findIn K (.ref D) f1 = some none ∧ PySem.W.findIn K (.ref D) f2 = some none ∧ H a = some (exo a D none) ∧
  ∀ dx, H dx = none → dx ≠ a → Q .non (upd (upd (upd H dx (exd dx [(f1, x)])) a (exo a D (some dx))) dx (exd dx [(f2, y), (f1, x)]))
theorem init2_ok {P : Program} {w : World} {K : PySem.W.Frag} {mg : Str → Option Value} {base : Heap} {x qual : Str} {params : Arguments} {body : List Stmt} {scope : Scope} {dvs : List V} {kws : List (Str × V)} {f : Addr} {fd : FuncData} {s p1 p2 f1 f2 : Str} {e1 e2 e3 e4 e5 e6 e7 e8 : Pos} (F : FunD K x qual params body scope dvs kws f fd) (S : FnScope [s, p1, p2] [s, p1, p2] scope)
    (hb : body = [.Assign [.Attribute (.Name s e1) f1 e2] (.Name p1 e3) e4, .Assign [.Attribute (.Name s e5) f2 e6] (.Name p2 e7) e8])
    (v0 : Vis (scope) s) (v1 : Vis (scope) p1) (v2 : Vis (scope) p2) (d0 : (s == ("__debug__" : Str)) = false ∧ (s == ("__classdict__" : Str)) = false) (d1 : (p1 == ("__debug__" : Str)) = false ∧ (p1 == ("__classdict__" : Str)) = false) (d2 : (p2 == ("__debug__" : Str)) = false ∧ (p2 == ("__classdict__" : Str)) = false)
    (hs1 : ∀ env : PySem.Env, env.scope = scope → swapsWith (.Name p1 e3) (some (.Attribute (.Name s e1) f1 e2)) e4.line env = pure false) (hs2 : ∀ env : PySem.Env, env.scope = scope → swapsWith (.Name p2 e7) (some (.Attribute (.Name s e5) f2 e6)) e8.line env = pure false) :
    FnOk P w K mg base (L2.CX P w) 1 f fd [s, p1, p2] (spI K f1 f2) := by
  refine F.ok (CX := L2.CX P w) S (fun vs H Q E ⟨a, D, x, y, h, _⟩ => by rw [h]; rfl) (fun cdv A outer s0 H vs Q E hr hsp => ?_)
  obtain ⟨a, D, x, y, rfl, T, n1, n2, ha, q⟩ := hsp
  rw [hb]
  refine ⟨_, pss_cons (ps_ost (pe_var (i := 0) rfl v0 d0.1 d0.2) (pe_var (i := 1) rfl v1 d1.1 d1.2) (hs1 _ rfl)) (pss_one (ps_ost (pe_var (i := 0) rfl v0 d0.1 d0.2) (pe_var (i := 2) rfl v2 d2.1 d2.2) (hs2 _ rfl))), ?_⟩
  refine ⟨x, rfl, .ref a, rfl, a, D, rfl, T, n1, .inl ⟨ha, fun dx hdx hne => ?_⟩⟩
  refine ⟨y, rfl, .ref a, rfl, a, D, rfl, T, n2, .inr ⟨dx, [(f1, x)], upd_same, by rw [upd_ne hne]; exact upd_same, by simp, q dx hdx hne⟩⟩
theorem vm_two {c : Nat} {x : Str} {e1 e2 : Expr} {p pos : Pos} {g1 g2 : E} {f1 f2 : Str} {fI : Addr} {fd : FuncData} {ps : List Str} (T : OexC C.G.K (C.G.cA c)) (n1 : PySem.W.findIn C.G.K (.ref (C.G.cA c)) f1 = some none) (n2 : PySem.W.findIn C.G.K (.ref (C.G.cA c)) f2 = some none)
    (cf : C.G.cF c = [f2, f1]) (iC : PySem.W.findIn C.G.K (.ref (C.G.cA c)) "__init__" = some (some (.ref fI))) (tI : PySem.W.typeIn C.G.K (.ref fI) = some (.type "function")) (F1 : FnOk C.P C.w C.G.K C.mg C.base (L2.CX C.P C.w) 1 fI fd ps (spI C.G.K f1 f2)) (hb : Binds C.G.K fd ps [])
    (hk : 2 ≤ C.k) (gC : C.mg x = some (.ref (C.G.cA c))) (ha : VE C e1 g1) (hb2 : VE C e2 g2) (hg : C.sc.names.lookup x = some .globalImplicit := by rfl) (hdb : (x == ("__debug__" : Str)) = false := by decide)
    (h1 : ∀ env, starEach [e1, e2] env = (false, eval e1 env) :: starEach [e2] env := by intro _; rfl) (h2 : ∀ env, starEach [e2] env = (false, eval e2 env) :: starEach [] env := by intro _; rfl) (hpl : ∀ env, (backTo pos (starEach [e2] env)).any (·.1) = false := by intro _; rfl) (hot : C.hot = false := by rfl) :
    VMk C (.Call (.Name x p) [e1, e2] [] pos) c (mk2 g1 g2) := fun X hX W tk => by
  obtain ⟨t, pa, qa⟩ := (va_cons ha (va_cons hb2 va_nil h2) h1) X hX W tk
  have F1' : FnOk X.prog X.w X.K X.mg X.base (L2.CX X.prog X.w) 1 fI fd ps (spI C.G.K f1 f2) := by rw [hX.p, hX.w, hX.K, hX.mg, hX.base]; exact F1
  refine ⟨_, pmk_oex (C := C.G.cA c) (k := 1) (dvs := []) (ds := []) (by rw [hX.K]; exact T) (by rw [hX.K]; exact iC) (by rw [hX.K]; exact tI) F1' ((hX.room hot).mono hk) (by rw [hX.K]; exact hb) .nil passL (gl_of hX hg) (by rw [hX.mg]; exact gC) pa hdb (h1 _) (hpl _), fun γ F H own ρ σ Q S o => ?_⟩
  refine qa γ F H own ρ σ _ S ?_
  unfold mk2 at o
  unfold esCons esNil
  cases q1 : g1 ρ with
  | bad => rw [q1] at o; exact o.elim
  | ex x => rw [q1] at o; exact o
  | ok y1 =>
    rw [q1] at o
    simp only [R.bind_ok] at o ⊢
    cases q2 : g2 ρ with
    | bad => rw [q2] at o; exact o.elim
    | ex x => rw [q2] at o; exact o
    | ok y2 =>
      rw [q2] at o
      simp only [R.bind_ok] at o ⊢
      intro vs F1 H1 own1 hlv S1
      split at o
      · rename_i d1 d2
        obtain ⟨S2, r⟩ := S1.frzArgs (ds := [d1, d2]) hlv rfl
        simp only [Reps] at r
        obtain ⟨v1, us, rfl, r1, v2, us2, rfl, r2, rfl⟩ := r
        refine ⟨by simp, fun a ha => ⟨a, C.G.cA c, v1, v2, rfl, T, n1, n2, upd_same, fun dx hdx hne => ⟨rfl, dx, _, ?_, upd_same, ?_, ?_⟩⟩⟩
        · rw [upd_ne (Ne.symm hne), upd_same]
        · rw [upd_ne hne] at hdx; exact hdx
        · rw [upd_ne hne] at hdx
          have eH : upd (del (upd (upd (upd (upd H1 a (exo a (C.G.cA c) none)) dx (exd dx [(f1, v1)])) a (exo a (C.G.cA c) (some dx))) dx (exd dx [(f2, v2), (f1, v1)])) a) dx (.xd [(f2, v2), (f1, v1)]) = upd H1 dx (.xd [(f2, v2), (f1, v1)]) := by
            funext b
            by_cases h1 : b = dx
            · rw [h1, upd_same, upd_same]
            · rw [upd_ne h1, upd_ne h1]
              by_cases h2 : b = a
              · rw [h2, del_same, ha]
              · rw [del_ne h2, upd_ne h1, upd_ne h2, upd_ne h1, upd_ne h2]
          rw [eH]
          have x := Ext.frz S2.fh hdx (.xd [(f2, v2), (f1, v1)]) (own := own1)
          refine o _ _ _ _ _ (S2.grow x) ⟨rfl, (fun h => by cases h), fun _ => ⟨dx, [v2, v1], rfl, ?_, by rw [cf]; rfl, ?_⟩⟩
          · rw [cf]; exact upd_same
          · simp only [Reps]
            exact ⟨v2, _, rfl, Rep.keep x.ff _ _ r2, v1, _, rfl, Rep.keep x.ff _ _ r1, rfl⟩
      · exact o.elim
end
end Vs


/-! VComp: list comprehensions. -/
namespace Vs
open PySem PySem.Spec PyProof.Rows L2 Vc

section
variable {G : Gx} {γ : Gh} {F H : Hp} {own : Own} {ρ : Vc.Env} {σ : L2.St}
/-- no slot of these is pinned or the root of a place -/
def Off (γ : Gh) (is : List Nat) : Prop := (∀ p ∈ γ.pins, p.1 ∉ is) ∧ ∀ p ∈ γ.pl, p.1.1 ∉ is
/-- a name is stored, or forgotten; what it holds then is frozen -/
theorem Sta.slotF {i : Nat} {x : Option D} {y : Option V} (S : Sta G γ F H own ρ σ) (off : (∀ p ∈ γ.pins, p.1 ≠ i) ∧ ∀ p ∈ γ.pl, p.1.1 ≠ i) (r : ∀ d, x = some d → ∃ v, y = some v ∧ Rep G F d v) :
    Sta G γ F H own (ρ.put i (x.map O.frz)) (σ.set i y) where
  fh := S.fh
  nf := S.nf
  sl := fun j z e => by
    have e : (ρ.s.set i (x.map O.frz))[j]? = some (some z) := e
    by_cases hj : j = i
    · subst hj
      have hl : j < ρ.s.length := by
        by_cases hi : j < ρ.s.length
        · exact hi
        · rw [List.getElem?_eq_none (by simpa using hi)] at e; cases e
      rw [List.getElem?_set_self hl] at e
      obtain ⟨d, hd, rfl⟩ := Option.map_eq_some_iff.mp (Option.some.inj e)
      obtain ⟨v, rfl, rv⟩ := r d hd
      exact ⟨v, List.getElem?_set_self (by rw [S.ln]; exact hl), RepO.flatAny rv⟩
    · rw [List.getElem?_set_ne (Ne.symm hj)] at e
      obtain ⟨u, e1, q⟩ := S.sl j z e
      exact ⟨u, by rw [List.getElem?_set_ne (Ne.symm hj)]; exact e1, q⟩
  al := fun x' j k h => by
    obtain ⟨h1, h2, h3⟩ := mem_kill h
    obtain ⟨a, vs, u, l, e1, e2, e3, e4, e5⟩ := S.al x' j k h1
    have h2 : x' ≠ i := h2
    have h3 : j ≠ i := h3
    refine ⟨a, vs, u, l, ?_, e2, e3, ?_, ?_⟩
    · rw [List.getElem?_set_ne (Ne.symm h3)]; exact e1
    · rw [List.getElem?_set_ne (Ne.symm h2)]; exact e4
    · show (ρ.s.set i _)[j]? = _
      rw [List.getElem?_set_ne (Ne.symm h3)]; exact e5
  ln := by
    show (σ.set i y).length = (ρ.s.set i _).length
    rw [List.length_set, List.length_set]; exact S.ln
  rn := by show (ρ.s.set i _).length = _; rw [List.length_set]; exact S.rn
  pn := fun p hp => by
    have ne := off.1 p hp
    obtain ⟨z1, z, z2, z3⟩ := S.pn p hp
    refine ⟨by rw [List.getElem?_set_ne (Ne.symm ne)]; exact z1, z, ?_, z3⟩
    show (ρ.s.set i _)[p.1]? = _
    rw [List.getElem?_set_ne (Ne.symm ne)]; exact z2
  hd := S.hd
  tm := S.tm
  wk := S.wk
  pl := fun p hp => by
    have ne := off.2 p hp
    obtain ⟨⟨v0, z0, z1⟩, z, z2, z3⟩ := S.pl p hp
    refine ⟨⟨v0, by rw [List.getElem?_set_ne (Ne.symm ne)]; exact z0, z1⟩, z, ?_, z3⟩
    show (ρ.s.set i _)[p.1.1]? = _
    rw [List.getElem?_set_ne (Ne.symm ne)]; exact z2
  lk := S.lk
  xd := S.xd
  b1 := S.b1
  b2 := S.b2
  b3 := S.b3
  b4 := S.b4

/-! ### targets within a block -/
/-- it agrees but for these slots -/
def Agr (is : List Nat) (σ σ' : L2.St) : Prop := σ'.length = σ.length ∧ ∀ j, j ∉ is → σ'[j]? = σ[j]?
theorem Agr.refl {is : List Nat} : Agr is σ σ := ⟨rfl, fun _ _ => rfl⟩
theorem Agr.trans {is : List Nat} {σ1 σ2 : L2.St} (a : Agr is σ σ1) (b : Agr is σ1 σ2) : Agr is σ σ2 := ⟨b.1.trans a.1, fun j h => (b.2 j h).trans (a.2 j h)⟩
theorem Agr.set {is : List Nat} {i : Nat} {y : Option V} (h : i ∈ is) : Agr is σ (σ.set i y) := ⟨by simp, fun j hj => List.getElem?_set_ne (fun z => hj (by rw [← z]; exact h))⟩
theorem Agr.wipe {is : List Nat} {σ' : L2.St} (a : Agr is σ σ') : L2.wipe σ' is = L2.wipe σ is := by
  refine List.ext_getElem? fun j => ?_
  by_cases h : j ∈ is
  · have gen : ∀ (is : List Nat) (τ : L2.St), j ∈ is → (L2.wipe τ is)[j]? = if j < τ.length then some none else none := by
      intro is
      induction is with
      | nil => intro τ h; simp at h
      | cons v vs ih =>
        intro τ h
        unfold L2.wipe
        by_cases hv : v = j
        · subst hv
          by_cases hl : v < τ.length
          · rw [List.getElem?_set_self (by rw [wipe_length]; exact hl), if_pos hl]
          · rw [List.getElem?_eq_none (by simp [wipe_length]; omega), if_neg hl]
        · rw [List.getElem?_set_ne hv]
          exact ih τ (by rcases List.mem_cons.mp h with h | h; exact absurd h.symm hv; exact h)
    rw [gen is σ' h, gen is σ h, a.1]
  · rw [wipe_out h, wipe_out h, a.2 j h]
end
section
variable {C : Ctx}
/-- the same for environments -/
structure AgrE (is : List Nat) (ρ ρ' : Vc.Env) : Prop where
  ln : ρ'.s.length = ρ.s.length
  at_ : ∀ j, j ∉ is → ρ'.s[j]? = ρ.s[j]?
  al : ∀ e ∈ ρ.al, e.1 ∉ is → e.2.1 ∉ is → e ∈ ρ'.al
theorem AgrE.refl {is : List Nat} {ρ : Vc.Env} : AgrE is ρ ρ := ⟨rfl, fun _ _ => rfl, fun _ h _ _ => h⟩
theorem AgrE.trans {is : List Nat} {ρ ρ1 ρ2 : Vc.Env} (a : AgrE is ρ ρ1) (b : AgrE is ρ1 ρ2) : AgrE is ρ ρ2 := ⟨b.ln.trans a.ln, fun j h => (b.at_ j h).trans (a.at_ j h), fun e h h1 h2 => b.al e (a.al e h h1 h2) h1 h2⟩
theorem AgrE.put {is : List Nat} {i : Nat} {ρ : Vc.Env} {o : Option O} (h : i ∈ is) : AgrE is ρ (ρ.put i o) where
  ln := by show (ρ.s.set i o).length = _; simp
  at_ := fun j hj => by
    show (ρ.s.set i o)[j]? = _
    exact List.getElem?_set_ne (fun z => hj (by rw [← z]; exact h))
  al := fun e he h1 h2 => by
    show e ∈ Env.kill ρ.al i
    unfold Env.kill
    rw [List.mem_filter]
    refine ⟨he, ?_⟩
    simp only [Bool.and_eq_true, bne_iff_ne, ne_eq]
    exact ⟨fun z => h1 (by rw [z]; exact h), fun z => h2 (by rw [z]; exact h)⟩
def OutC (G : Gx) (γ : Gh) (is : List Nat) (F H : Hp) (own : Own) (ρ0 : Vc.Env) (σ : L2.St) (Q : L2.St → Hp → Prop) : Option Vc.Env → Prop
  | some ρ => ∀ σ', Sta G γ F H own ρ σ' → Agr is σ σ' → AgrE is ρ0 ρ → Q σ' H
  | none => False
def VGc (C : Ctx) (is : List Nat) (tg : Expr) (g : Tg) : Prop := ∀ X, CxOk C X → ∃ t, PG X tg t ∧ ∀ γ F H own ρ σ d v Q, Off γ is → Sta C.G γ F H own ρ σ → Rep C.G F d v → OutC C.G γ is F H own ρ σ Q (g d ρ) → t v σ H Q
def VGcs (C : Ctx) (is : List Nat) (tgs : List Expr) (js : List Nat) : Prop := ∀ X, CxOk C X → ∃ t, PGs X tgs t ∧ ∀ γ F H own ρ σ ds vs Q, Off γ is → Sta C.G γ F H own ρ σ → Reps C.G F ds vs → OutC C.G γ is F H own ρ σ Q (gVars js ds ρ) → t vs σ H Q
theorem off_at {γ : Gh} {is : List Nat} {i : Nat} (o : Off γ is) (h : i ∈ is) : (∀ p ∈ γ.pins, p.1 ≠ i) ∧ ∀ p ∈ γ.pl, p.1.1 ≠ i := ⟨fun p hp z => o.1 p hp (by rw [z]; exact h), fun p hp z => o.2 p hp (by rw [z]; exact h)⟩
theorem vgc_var {is : List Nat} {i : Nat} {x : Str} {pos : Pos} (hi : i ∈ is := by decide) (hN : C.N[i]? = some x := by rfl) (hx : LocOk C x := by first | exact .inl rfl | exact .inr ⟨rfl, rfl⟩) : VGc C is (.Name x pos) (gVar i) := fun X hX =>
  ⟨_, pg_name (i := i) (by rw [hX.N]; exact hX.nd) (by rw [hX.N]; exact hN) (loc_of hX hx) (fn_of' hX hx), fun γ F H own ρ σ d v Q off S r o =>
    o _ (S.slotF (x := some d) (y := some v) (off_at off hi) fun d' e => by cases e; exact ⟨v, rfl, r⟩) (Agr.set hi) (AgrE.put hi)⟩
theorem vgcs_nil {is : List Nat} : VGcs C is [] [] := fun X hX => ⟨_, pgs_nil, fun γ F H own ρ σ ds vs Q off S r o => by
  cases ds with
  | nil =>
    simp only [Reps] at r
    exact ⟨r, o σ S Agr.refl AgrE.refl⟩
  | cons d ds => exact o.elim⟩
theorem vgcs_cons {is js : List Nat} {i : Nat} {x : Str} {pos : Pos} {es : List Expr} (h2 : VGcs C is es js) (hi : i ∈ is := by decide) (hN : C.N[i]? = some x := by rfl) (hx : LocOk C x := by first | exact .inl rfl | exact .inr ⟨rfl, rfl⟩)
    (hs : ∀ env, (assignEach (.Name x pos :: es) env).map (·.2) = assign (.Name x pos) env :: (assignEach es env).map (·.2) := by intro _; rfl) : VGcs C is (.Name x pos :: es) (i :: js) := fun X hX => by
  obtain ⟨t2, p2, q2⟩ := h2 X hX
  refine ⟨_, pgs_cons (pg_name (i := i) (by rw [hX.N]; exact hX.nd) (by rw [hX.N]; exact hN) (loc_of hX hx) (fn_of' hX hx)) p2 (hs _), fun γ F H own ρ σ ds vs Q off S r o => ?_⟩
  cases ds with
  | nil => exact o.elim
  | cons d ds =>
    simp only [Reps] at r
    obtain ⟨v, ws, rfl, q, t⟩ := r
    refine ⟨v, ws, rfl, ?_⟩
    have S1 := S.slotF (i := i) (x := some d) (y := some v) (off_at off hi) fun d' e => by cases e; exact ⟨v, rfl, q⟩
    refine q2 γ F H own _ _ ds ws Q off S1 t ?_
    have o : OutC C.G γ is F H own ρ σ Q (gVars js ds (ρ.put i (some (.frz d)))) := o
    unfold OutC at o ⊢
    split
    · rename_i ρ' e
      rw [show Option.map O.frz (some d) = some (O.frz d) from rfl] at e
      rw [e] at o
      exact fun σ' S' a b => o σ' S' ((Agr.set hi).trans a) ((AgrE.put hi).trans b)
    · rename_i e
      rw [show Option.map O.frz (some d) = some (O.frz d) from rfl] at e
      rw [e] at o
      exact o
theorem vgc_tup {is js : List Nat} {es : List Expr} {k : Nat} {pos : Pos} (h : VGcs C is es js) (hot : C.hot = false := by rfl) (hn : ∀ env, (assignEach es env).length = js.length := by intro _; rfl) (hst : ∀ env, (assignEach es env).findIdx? (·.1) = none := by intro _; rfl) : VGc C is (.Tuple es k pos) (gTup js) := fun X hX => by
  obtain ⟨t, p, q⟩ := h X hX
  refine ⟨_, pg_tup (n := js.length) (hX.calm hot) p (hn _) (hst _), fun γ F H own ρ σ d v Q off S r o => ?_⟩
  unfold Vc.gTup at o
  split at o
  · rename_i l
    simp only [Rep] at r
    obtain ⟨a, vs, rfl, e, t⟩ := r
    have hl : ∀ (is' : List Nat) (l : List D) (ρ0 ρ : Vc.Env), OutC C.G γ is F H own ρ0 σ Q (gVars is' l ρ) → l.length = is'.length := by
      intro is'
      induction is' with
      | nil => intro l ρ0 ρ o; cases l with
        | nil => rfl
        | cons _ _ => exact o.elim
      | cons i is' ih => intro l ρ0 ρ o; cases l with
        | nil => exact o.elim
        | cons d l => simp [ih l _ _ o]
    exact ⟨a, vs, rfl, SqT.of (S.fh _ _ e), by rw [t.length, hl _ _ _ _ o], q γ F H own ρ σ l vs Q off S t o⟩
  · exact o.elim
end

section
variable {G : Gx} {γ : Gh} {F H : Hp} {own : Own} {ρ : Vc.Env} {σ : L2.St}
theorem Off.sub {vs ws : List Nat} (h : ∀ i ∈ ws, i ∈ vs) (o : Off γ vs) : Off γ ws := ⟨fun p hp m => o.1 p hp (h _ m), fun p hp m => o.2 p hp (h _ m)⟩
theorem Sta.wiped (S : Sta G γ F H own ρ σ) : ∀ {vs : List Nat}, Off γ vs → Sta G γ F H own (ρ.wipe vs) (L2.wipe σ vs)
  | [], _ => S
  | v :: vs, o => (Sta.wiped S (o.sub fun i h => List.mem_cons_of_mem _ h)).slotF (x := none) (y := none) (off_at o List.mem_cons_self) fun d h => by cases h
theorem wipe_E : ∀ {vs : List Nat} {ws : List Nat}, (∀ i ∈ ws, i ∈ vs) → AgrE vs ρ (ρ.wipe ws)
  | vs, [], _ => AgrE.refl
  | vs, w :: ws, h => (wipe_E fun i hi => h i (List.mem_cons_of_mem _ hi)).trans (AgrE.put (h w List.mem_cons_self))
theorem wipe_A : ∀ {vs : List Nat} {ws : List Nat}, (∀ i ∈ ws, i ∈ vs) → Agr vs σ (L2.wipe σ ws)
  | vs, [], _ => Agr.refl
  | vs, w :: ws, h => (wipe_A fun i hi => h i (List.mem_cons_of_mem _ hi)).trans (Agr.set (h w List.mem_cons_self))
theorem wipe_none : ∀ {vs : List Nat} {j : Nat} {o : O}, j ∈ vs → (ρ.wipe vs).s[j]? ≠ some (some o)
  | [], j, o, h => by simp at h
  | v :: vs, j, o, h => by
    show ((ρ.wipe vs).s.set v none)[j]? ≠ _
    by_cases hj : v = j
    · subst hj
      by_cases hl : v < (ρ.wipe vs).s.length
      · rw [List.getElem?_set_self hl]; simp
      · rw [List.getElem?_eq_none (by simpa using hl)]; simp
    · rw [List.getElem?_set_ne hj]
      exact wipe_none (by rcases List.mem_cons.mp h with h | h; exact absurd h.symm hj; exact h)
theorem wipe_al : ∀ {vs : List Nat} {e : Nat × Nat × Nat}, e ∈ (ρ.wipe vs).al → e ∈ ρ.al ∧ e.1 ∉ vs ∧ e.2.1 ∉ vs
  | [], e, h => ⟨h, by simp, by simp⟩
  | v :: vs, e, h => by
    obtain ⟨h1, h2, h3⟩ := mem_kill (show e ∈ Env.kill (ρ.wipe vs).al v from h)
    obtain ⟨a, b, c⟩ := wipe_al h1
    exact ⟨a, by simp only [List.mem_cons, not_or]; exact ⟨h2, b⟩, by simp only [List.mem_cons, not_or]; exact ⟨h3, c⟩⟩
/-- back to an environment that agrees but for some slots, which hold only what is held -/
theorem Sta.back {vs : List Nat} {ρ0 : Vc.Env} {σ0 : L2.St} (S : Sta G γ F H own ρ σ) (off : Off γ vs) (aE : AgrE vs ρ0 ρ) (a : Agr vs σ0 σ) (h1 : ∀ j ∈ vs, ∀ o, ρ0.s[j]? = some (some o) → ∃ d v, o = .frz d ∧ σ0[j]? = some (some v) ∧ Rep G F d v)
    (h2 : ∀ e ∈ ρ0.al, e.1 ∉ vs ∧ e.2.1 ∉ vs) : Sta G γ F H own ρ0 σ0 where
  fh := S.fh
  nf := S.nf
  sl := fun j z e => by
    by_cases hj : j ∈ vs
    · obtain ⟨d, v, rfl, e1, r⟩ := h1 j hj z e
      exact ⟨v, e1, RepO.flatAny r⟩
    · obtain ⟨v, e1, r⟩ := S.sl j z (by rw [aE.at_ j hj]; exact e)
      exact ⟨v, by rw [← a.2 j hj]; exact e1, r⟩
  al := fun x j k h => by
    obtain ⟨n1, n2⟩ := h2 _ h
    obtain ⟨p, us, v, l, e1, e2, e3, e4, e5⟩ := S.al x j k (aE.al _ h n1 n2)
    exact ⟨p, us, v, l, by rw [← a.2 j n2]; exact e1, e2, e3, by rw [← a.2 x n1]; exact e4, by rw [← aE.at_ j n2]; exact e5⟩
  ln := by rw [← a.1, ← aE.ln]; exact S.ln
  rn := by rw [← aE.ln]; exact S.rn
  pn := fun p hp => by
    obtain ⟨z1, z, z2, z3⟩ := S.pn p hp
    have n := off.1 p hp
    exact ⟨by rw [← a.2 _ n]; exact z1, z, by rw [← aE.at_ _ n]; exact z2, z3⟩
  hd := S.hd
  tm := S.tm
  wk := S.wk
  pl := fun p hp => by
    obtain ⟨⟨v0, z0, z1⟩, z, z2, z3⟩ := S.pl p hp
    have n := off.2 p hp
    exact ⟨⟨v0, by rw [← a.2 _ n]; exact z0, z1⟩, z, by rw [← aE.at_ _ n]; exact z2, z3⟩
  lk := S.lk
  xd := S.xd
  b1 := S.b1
  b2 := S.b2
  b3 := S.b3
  b4 := S.b4
theorem calm_at {vs : List Nat} (h : calmAt ρ vs = true) {i : Nat} (hi : i ∈ vs) : (∀ o, ρ.s[i]? = some (some o) → ∃ d, o = .frz d) ∧ ∀ e ∈ ρ.al, e.1 ≠ i := by
  unfold calmAt at h
  have := List.all_eq_true.mp h i hi
  simp only [Bool.and_eq_true, List.all_eq_true, bne_iff_ne, ne_eq] at this
  refine ⟨fun o e => ?_, this.2⟩
  have h1 := this.1
  rw [e] at h1
  cases o <;> first | exact ⟨_, rfl⟩ | simp [O.owned] at h1
theorem Sta.off {vs : List Nat} (S : Sta G γ F H own ρ σ) (h : calmAt ρ vs = true) : Off γ vs := by
  refine ⟨fun p hp m => ?_, fun p hp m => ?_⟩
  · obtain ⟨_, o, z2, z3⟩ := S.pn p hp
    obtain ⟨d, rfl⟩ := (calm_at h m).1 o z2
    cases z3
  · obtain ⟨_, o, z2, z3, _⟩ := S.pl p hp
    obtain ⟨d, rfl⟩ := (calm_at h m).1 o z2
    cases z3
theorem Sta.alOff {vs : List Nat} (S : Sta G γ F H own ρ σ) (h : calmAt ρ vs = true) : ∀ e ∈ ρ.al, e.1 ∉ vs ∧ e.2.1 ∉ vs := fun e he => by
  refine ⟨fun m => (calm_at h m).2 e he rfl, fun m => ?_⟩
  obtain ⟨_, _, _, l, _, _, _, _, e5⟩ := S.al e.1 e.2.1 e.2.2 he
  obtain ⟨d, hd⟩ := (calm_at h m).1 _ e5
  cases hd
/-- what the block's own names hold outside -/
def heldAt (ρ : Vc.Env) (σ : L2.St) (vs : List Nat) : List (D × V) := vs.filterMap fun i => match ρ.s[i]?, σ[i]? with
  | some (some (O.frz d)), some (some v) => some (d, v)
  | _, _ => none
theorem Sta.heldS {vs : List Nat} (S : Sta G γ F H own ρ σ) : Sta G (γ.holds (heldAt ρ σ vs)) F H own ρ σ := {
  S with
  hd := fun p hp => by
    rcases List.mem_append.mp hp with hp | hp
    · unfold heldAt at hp
      obtain ⟨i, hi, e⟩ := List.mem_filterMap.mp hp
      split at e
      · rename_i d v e1 e2
        cases e
        obtain ⟨u, e3, r⟩ := S.sl i _ e1
        rw [e2] at e3; cases e3
        exact RepO.frz_iff.mp r
      · cases e
    · exact S.hd p hp }
theorem Sta.unwiped {vs : List Nat} {F0 H0 : Hp} {own0 : Own} {γ0 γ' : Gh} (S0 : Sta G γ0 F0 H0 own0 ρ σ) (h : calmAt ρ vs = true) (hh : ∀ p ∈ heldAt ρ σ vs, p ∈ γ'.hd) (off : Off γ' vs) (S : Sta G γ' F H own (ρ.wipe vs) (L2.wipe σ vs)) : Sta G γ' F H own ρ σ := by
  refine S.back off (wipe_E fun _ h => h) (wipe_A fun _ h => h) (fun j hj o e => ?_) (S0.alOff h)
  obtain ⟨d, rfl⟩ := (calm_at h hj).1 o e
  obtain ⟨v, e1, r⟩ := S0.sl j _ e
  refine ⟨d, v, rfl, e1, S.hd (d, v) (hh _ ?_)⟩
  unfold heldAt
  exact List.mem_filterMap.mpr ⟨j, hj, by rw [e, e1]⟩
/-- the list at the top is lengthened -/
theorem Sta.tmApp {l : List D} {p : Addr} {d : D} {y : V} (S : Sta G (γ.pushT (.lst l) (.ref p)) F H own ρ σ) (r : Rep G F d y) : ∃ vs, H p = some (.lst vs) ∧ vs.length = l.length ∧ Sta G (γ.pushT (.lst (l ++ [d])) (.ref p)) F (upd H p (.lst (vs ++ [y]))) own ρ σ := by
  have top := S.topT
  simp only [RepO] at top
  obtain ⟨a, vs, ea, oa, ha, t⟩ := top
  cases ea
  refine ⟨vs, ha, t.length, ?_⟩
  obtain ⟨np, u, hu⟩ := S.nf p _ oa
  have ne : ∀ b w, own b = some w → w ≠ (.inr γ.tm.length, []) → b ≠ p := fun b w e n z => by subst z; rw [oa] at e; cases e; exact n rfl
  have S0 := S.popT
  have hne : ∀ b x, b ≠ p → H b = some x → upd H p (.lst (vs ++ [y])) b = some x := fun b x n e => by rw [upd_ne n]; exact e
  have keepO : ∀ o v w, w.1 ≠ .inr γ.tm.length → RepO G F H own o v w → RepO G F (upd H p (.lst (vs ++ [y]))) own o v w := fun o v w n q => RepO.mono (.refl _) o v w w (fun b τ x e1 e2 => ⟨e1, hne b x (ne b _ e1 fun z => n (by have := congrArg Prod.fst z; exact this)) e2⟩) q
  refine Sta.pushT ?_ ?_
  · exact {
      fh := fun b x e => by
        have : b ≠ p := fun z => by subst z; rw [np] at e; cases e
        exact hne b x this (S.fh b x e)
      nf := fun b w e => by
        obtain ⟨n, x, hx⟩ := S.nf b w e
        refine ⟨n, ?_⟩
        by_cases hb : b = p
        · subst hb; exact ⟨_, upd_same⟩
        · exact ⟨x, hne b x hb hx⟩
      sl := fun j z e => by
        obtain ⟨v, e1, q⟩ := S.sl j z e
        exact ⟨v, e1, keepO z v _ (by simp) q⟩
      al := fun x j k h => by
        obtain ⟨b, us, v, l', e1, e2, e3, e4, e5⟩ := S.al x j k h
        obtain ⟨v', e6, q⟩ := S.sl j _ e5
        rw [e1] at e6; cases e6
        simp only [RepO] at q
        obtain ⟨b', us', e7, e8, _⟩ := q
        cases e7
        exact ⟨b, us, v, l', e1, hne b _ (ne b _ e8 (by simp)) e2, e3, e4, e5⟩
      ln := S.ln
      rn := S.rn
      pn := S.pn
      hd := S.hd
      tm := fun k o v e => by
        have hk := (List.getElem?_eq_some_iff.mp e).1
        exact keepO o v _ (by simp; omega) (S0.tm k o v e)
      wk := fun q hq => by
        obtain ⟨w, r, j, hj⟩ := S.wk q hq
        exact ⟨w, keepO _ _ w (by rw [hj]; simp) r, j, hj⟩
      pl := fun q hq => by
        obtain ⟨⟨v0, z0, z1⟩, o, z2, z3, c, z4⟩ := S.pl q hq
        refine ⟨⟨v0, z0, ?_⟩, o, z2, z3, c, z4⟩
        obtain ⟨v1, e1, r1⟩ := S.sl _ o z2
        rw [z0] at e1; cases e1
        exact PathAt.stay r1 z4 z1 fun b κ x q1 q2 => hne b x (ne b _ q1 (by simp)) q2
      lk := fun b x e => by
        obtain ⟨o, h1, h2⟩ := S.lk b x e
        have : b ≠ p := fun z => by subst z; rw [np] at h2; cases h2
        exact ⟨o, hne b _ this h1, h2⟩
      xd := fun b fs e => by
        by_cases hb : b = p
        · subst hb; rw [upd_same] at e; cases e
        · rw [upd_ne hb] at e; exact S.xd b fs e
      b1 := S0.b1
      b2 := fun b x e n => by
        have hb : b ≠ p := fun z => by
          subst z
          rcases S0.b3 b _ oa with q | q
          · exact n q
          · rw [q] at e; cases e
        have := S0.b2 b x e n
        unfold unl at this ⊢
        split
        · rename_i q; rw [q] at this; exact this
        · rename_i q; rw [q] at this; exact hne b x hb this
      b3 := S0.b3
      b4 := S0.b4 }
  · show RepO G F _ own (.lst (l ++ [d])) (.ref p) (.inr γ.tm.length, [])
    simp only [RepO]
    refine ⟨p, vs ++ [y], rfl, oa, upd_same, reps_app t ?_⟩
    simp only [Reps]
    exact ⟨y, [], rfl, r, rfl⟩
end

section
variable {C : Ctx}
/-- the block's context -/
abbrev Ctx.bk (C : Ctx) (scope : Scope) : Ctx := { C with sc := relS scope C.sc, top := false, lc := fun x => scope.names.lookup x == some .cell }
theorem CxOk.bk {X : Cx} (hX : CxOk C X) (scope : Scope) (s : Shared) (H : Hp) (D : Addr) (cl : List (Str × Addr)) (fp : List Addr) : CxOk (C.bk scope) (X.blk s H scope (compEnvC scope cl D X.env) fp) :=
  ⟨hX.p, hX.w, hX.K, hX.mg, hX.base, hX.N, by show relS scope X.env.scope = relS scope C.sc; rw [hX.sc], hX.calm, hX.room, hX.un, hX.nd, fun x h _ => h, PassesOwn.never, (fun h => by cases h)⟩
inductive VTs (C : Ctx) : List Expr → T → Prop
  | nil : VTs C [] tYes
  | one {c : Expr} {t : T} (h : VT C c t) : VTs C [c] t
theorem VTs.ok {ifs : List Expr} {t : T} (h : VTs C ifs t) : ∀ X, CxOk C X → ∀ W, Takes X W → ∃ tt, PTs X ifs tt ∧ ∀ γ F H own ρ σ Q, Sta C.G γ F H own ρ σ → OutT C.G γ ρ σ W Q (t ρ) → tt σ H Q := fun X hX W tk => by
  cases h with
  | nil => exact ⟨_, pts_nil, fun γ F H own ρ σ Q S o => o F H own S⟩
  | one h =>
    obtain ⟨tt, p, q⟩ := h X hX W tk
    exact ⟨tt, pts_one p, q⟩
/-- readings that say what the meaning says -/
def gOf (C : Ctx) (is : List Nat) (g : Tg) : TG := fun v σ H Q => ∃ γ F own ρ d, Off γ is ∧ Sta C.G γ F H own ρ σ ∧ Rep C.G F d v ∧ OutC C.G γ is F H own ρ σ Q (g d ρ)
def ttOf (C : Ctx) (t : T) : TT := fun σ H Q => ∃ γ F own ρ, Sta C.G γ F H own ρ σ ∧ OutT C.G γ ρ σ (fun _ _ _ _ => False) Q (t ρ)
def teOf (C : Ctx) (e : E) : TE := fun σ H Q => ∃ γ F own ρ, Sta C.G γ F H own ρ σ ∧ OutE C.G γ ρ σ (fun _ _ _ _ => False) Q Gh.pushT (e ρ)
theorem lcT_all {g : Tg} {t : T} {e : E} {ρ : Vc.Env} : ∀ {ds : List D} {os : List O}, lcT g t e ds ρ = .ok os → os.length ≤ ds.length
  | [], os, h => by simp only [lcT] at h; cases h; simp
  | d :: ds, os, h => by
    unfold lcT at h
    split at h
    · cases h
    · split at h
      · split at h
        · cases h2 : lcT g t e ds ρ with
          | ok os' => rw [h2] at h; cases h; have := lcT_all h2; simp; omega
          | ex x => rw [h2] at h; cases h
          | bad => rw [h2] at h; cases h
        · cases h
      · have := lcT_all h; simp; omega
      · cases h
theorem lcT_noex {g : Tg} {t : T} {e : E} : ∀ (ds : List D) (ρ : Vc.Env) (x : Xc), lcT g t e ds ρ ≠ .ex x
  | [], ρ, x, h => by simp [lcT] at h
  | d :: ds, ρ, x, h => by
    unfold lcT at h
    split at h
    · cases h
    · split at h
      · split at h
        · cases h2 : lcT g t e ds ρ with
          | ok os' => rw [h2] at h; cases h
          | ex y => exact lcT_noex ds ρ y h2
          | bad => rw [h2] at h; cases h
        · cases h
      · exact lcT_noex ds ρ x h
      · cases h
theorem toDs_app : ∀ {a b : List O}, O.toDs (a ++ b) = O.toDs a ++ O.toDs b
  | [], b => by simp [O.toDs]
  | x :: a, b => by simp [O.toDs, toDs_app (a := a)]
theorem toDs_len : ∀ {a : List O}, (O.toDs a).length = a.length
  | [] => rfl
  | x :: a => by simp [O.toDs, toDs_len (a := a)]
theorem lc_read {Cb : Ctx} (eG : Cb.G = C.G) {wi : TI} {fi : Vc.It} {is : List Nat} {g : Tg} {t : T} {e : E} {W : WX}
    (qi : ∀ γ F H own ρ σ Q, Sta C.G γ F H own ρ σ → OutI C.G γ ρ σ W Q (fi ρ) → wi σ H Q) :
    ∀ γ F H own ρ σ Q, Sta C.G γ F H own ρ σ → OutE C.G γ ρ σ W Q Gh.pushT (eLc fi is g t e ρ) → tLc wi (gOf Cb is g) (ttOf Cb t) (teOf Cb e) is σ H Q := fun γ F H own ρ σ Q S o => by
  refine qi γ F H own ρ σ _ S ?_
  unfold eLc at o
  cases e1 : fi ρ with
  | bad => rw [e1] at o; exact o.elim
  | ex x => rw [e1] at o; exact o
  | ok ds =>
    rw [e1] at o
    simp only [R.bind_ok] at o
    split at o
    case isFalse => exact o.elim
    rename_i calm
    intro J hd F1 H1 own1 S1 yl D hD
    have S1' : Sta C.G (γ.holds hd) F1 H1 own1 ρ σ := S1
    have hw := S1'.heldS (vs := is)
    have x := Ext.new S1.fh S1.nf hD (.lst []) (.inr γ.tm.length, [])
    have off0 : Off γ is := by
      obtain ⟨a, b⟩ := S1'.off calm
      exact ⟨a, b⟩
    cases er : lcT g t e ds (ρ.wipe is) with
    | bad => rw [er] at o; exact o.elim
    | ex y => exact absurd er (lcT_noex _ _ _)
    | ok all =>
      rw [er] at o
      simp only [R.bind_ok] at o
      split at o
      case isFalse => exact o.elim
      rename_i hsz
      let γa : Gh := (γ.holds hd).holds (heldAt ρ σ is)
      have off : Off γa is := off0
      have start : Sta C.G (γa.pushT (.lst []) (.ref D)) F1 (upd H1 D (.lst [])) (ownN own1 D (.inr γ.tm.length, [])) (ρ.wipe is) (L2.wipe σ is) := by
        refine (Sta.wiped ?_ (vs := is) off)
        exact (hw.grow x).pushT (rep_lst_new (by simp [ownN]; rfl) upd_same (by simp [Reps]))
      refine ⟨fun i m H => m = ds.length - i ∧ i ≤ ds.length ∧ ∃ os rest F own, all = os ++ rest ∧ lcT g t e (ds.drop i) (ρ.wipe is) = .ok rest ∧ Sta C.G (γa.pushT (.lst (O.toDs os)) (.ref D)) F H own (ρ.wipe is) (L2.wipe σ is), ⟨ds.length, rfl, Nat.zero_le _, [], all, _, _, rfl, by simpa using er, start⟩, ?_⟩
      rintro i m H2 ⟨rfl, hi, os, rest, F2, own2, ea, el, S2⟩
      obtain ⟨y1, y2⟩ := yl i (γa.pushT (.lst (O.toDs os)) (.ref D)) F2 H2 own2 (ρ.wipe is) (L2.wipe σ is) (fun p hp => List.mem_append_right _ (List.mem_append_left _ hp)) S2
      by_cases hlt : i < ds.length
      · refine .inr ?_
        obtain ⟨go, step⟩ := y2 ds[i] (by simp [hlt])
        refine ⟨go, fun H => i + 1 ≤ ds.length ∧ ∃ os rest F own, all = os ++ rest ∧ lcT g t e (ds.drop (i + 1)) (ρ.wipe is) = .ok rest ∧ Sta C.G (γa.pushT (.lst (O.toDs os)) (.ref D)) F H own (ρ.wipe is) (L2.wipe σ is), fun H' h' => ⟨ds.length - (i + 1), by omega, rfl, h'⟩, fun v H3 yv => ?_⟩
        obtain ⟨F3, own3, x3, r3⟩ := step v H3 yv
        have S3 := S2.grow x3
        rw [List.drop_eq_getElem_cons hlt] at el
        unfold lcT at el
        refine ⟨γa.pushT (.lst (O.toDs os)) (.ref D), F3, own3, ρ.wipe is, ds[i], ⟨off.1, off.2⟩, by rw [eG]; exact S3, by rw [eG]; exact r3, ?_⟩
        cases eg : g ds[i] (ρ.wipe is) with
        | none => rw [eg] at el; cases el
        | some ρ1 =>
          rw [eg] at el
          simp only at el
          intro σ1 S4 ag agE
          rw [eG] at S4
          have agS : Agr is σ σ1 := (wipe_A fun _ h => h).trans ag
          refine ⟨by rw [agS.wipe], ?_⟩
          have back : ∀ {F H own l}, Sta C.G (γa.pushT (.lst l) (.ref D)) F H own ρ1 σ1 → Sta C.G (γa.pushT (.lst l) (.ref D)) F H own (ρ.wipe is) (L2.wipe σ is) := fun S => S.back off agE ag (fun j hj z e => absurd e (wipe_none hj)) fun z hz => (wipe_al hz).2
          refine ⟨_, F3, own3, ρ1, by rw [eG]; exact S4, ?_⟩
          cases et : t ρ1 with
          | bad => rw [et] at el; cases el
          | ex z => rw [et] at el; cases el
          | ok b =>
            rw [et] at el
            intro F5 H5 own5 S5
            rw [eG] at S5
            cases b with
            | false =>
              rw [if_neg (by simp)]
              exact ⟨hlt, os, rest, F5, own5, ea, el, back S5⟩
            | true =>
              rw [if_pos rfl]
              simp only at el
              refine ⟨_, F5, own5, ρ1, by rw [eG]; exact S5, ?_⟩
              cases ee : e ρ1 with
              | bad => rw [ee] at el; cases el
              | ex z => rw [ee] at el; cases el
              | ok oo =>
                rw [ee] at el
                simp only at el
                intro y F6 H6 own6 S6
                rw [eG] at S6
                obtain ⟨S7, r7⟩ := S6.frzTop
                cases e2 : lcT g t e (ds.drop (i + 1)) (ρ.wipe is) with
                | bad => rw [e2] at el; cases el
                | ex z => rw [e2] at el; cases el
                | ok rest' =>
                  rw [e2] at el
                  simp only [R.bind_ok] at el
                  cases el
                  obtain ⟨acc, h1, h2, S8⟩ := S7.tmApp r7
                  have S9 := back S8
                  have ed : O.toDs (os ++ [oo]) = O.toDs os ++ [oo.toD] := by rw [toDs_app]; simp [O.toDs]
                  rw [← ed] at S9
                  refine ⟨acc, h1, ?_, hlt, os ++ [oo], rest', _, _, by rw [ea]; simp, rfl, S9⟩
                  rw [h2, toDs_len, ← sz_line]
                  have := congrArg List.length ea
                  simp only [List.length_append, List.length_cons] at this
                  omega
      · have hi' : i = ds.length := by omega
        subst hi'
        refine .inl ⟨y1 (Nat.le_refl _), ?_⟩
        rw [List.drop_length] at el
        unfold lcT at el
        cases el
        rw [List.append_nil] at ea
        subst ea
        have S3 := S1'.unwiped (γ' := γa.pushT (.lst (O.toDs all)) (.ref D)) calm (fun p hp => List.mem_append_left _ hp) off S2
        exact o _ _ _ _ (S3.less rfl rfl rfl (fun _ h => h) (fun p h => List.mem_append_right _ (List.mem_append_right _ h)) (fun _ _ h => h) (fun _ h => h))
theorem lc_parts {X : Cx} (hX : CxOk C X) {scope : Scope} {is : List Nat} {tg elt : Expr} {ifs : List Expr} {g : Tg} {t : T} {e : E} (hg : VGc (C.bk scope) is tg g) (ht : VTs (C.bk scope) ifs t) (he : VE (C.bk scope) elt e) :
    (∀ (s : Shared) (H : Hp) (D : Addr) (cl : List (Str × Addr)) (fp : List Addr), PG (X.blk s H scope (compEnvC scope cl D X.env) fp) tg (gOf (C.bk scope) is g)) ∧
    (∀ (s : Shared) (H : Hp) (D : Addr) (cl : List (Str × Addr)) (fp : List Addr), PTs (X.blk s H scope (compEnvC scope cl D X.env) fp) ifs (ttOf (C.bk scope) t)) ∧
    (∀ (s : Shared) (H : Hp) (D : Addr) (cl : List (Str × Addr)) (fp : List Addr), PE (X.blk s H scope (compEnvC scope cl D X.env) fp) elt (teOf (C.bk scope) e)) := by
  refine ⟨fun s H D cl fp => ?_, fun s H D cl fp => ?_, fun s H D cl fp => ?_⟩
  · obtain ⟨tt, p, q⟩ := hg _ (hX.bk scope s H D cl fp)
    exact ⟨fun pins s σ H v u Q I r ⟨γ, F, own, ρ, d, off, S, rd, o⟩ => p.run pins s σ H v u Q I r (q γ F H own ρ σ d v Q off S rd o)⟩
  · obtain ⟨tt, p, q⟩ := ht.ok _ (hX.bk scope s H D cl fp) _ takes_none5
    exact ⟨fun pins s σ H Q I ⟨γ, F, own, ρ, S, o⟩ => p.run pins s σ H Q I (q γ F H own ρ σ Q S o)⟩
  · obtain ⟨tt, p, q⟩ := he _ (hX.bk scope s H D cl fp) _ takes_none5
    exact ⟨fun pins s σ H Q I ⟨γ, F, own, ρ, S, o⟩ => p.run pins s σ H Q I (q γ F H own ρ σ Q S o)⟩
/-- [elt for tg in iter if ..], its items frozen at once -/
theorem ve_lc {own : List (Str × Nat)} {is : List Nat} {elt tg iter : Expr} {ifs : List Expr} {scope : Scope} {pos : Pos} {fi : Vc.It} {g : Tg} {t : T} {e : E} (hb : blkC C.N C.sc scope own = true) (his : own.map (·.2) = is) (hi : VI C tg iter fi) (hg : VGc (C.bk scope) is tg g) (ht : VTs (C.bk scope) ifs t) (he : VE (C.bk scope) elt e)
    (hs : ∀ env x, foldedSetIterable iter env x = pure x := by intro _ _; rfl) (hot : C.hot = false := by rfl) : VE C (.ListComp elt [⟨tg, iter, ifs, 0⟩] scope pos) (eLc fi is g t e) := fun X hX W tk => by
  obtain ⟨wi, pi, qi⟩ := hi X hX W tk
  obtain ⟨p1, p2, p3⟩ := lc_parts hX hg ht he
  refine ⟨_, pe_lc (hX.calm hot) (by rw [hX.N]; exact hX.nd) pi (blkOk_by (own := own) (by rw [hX.N, hX.sc]; exact hb)) p1 p2 p3 (hs _), fun γ F H own' ρ σ Q S o => ?_⟩
  rw [his]
  exact lc_read (Cb := C.bk scope) rfl qi γ F H own' ρ σ Q S o
/-- name = [..], on one line -/
theorem vs_setLc {own : List (Str × Nat)} {is : List Nat} {i : Nat} {y : Str} {py : Pos} {elt tg iter : Expr} {ifs : List Expr} {scope : Scope} {pos spos : Pos} {fi : Vc.It} {g : Tg} {t : T} {e : E} (hb : blkC C.N C.sc scope own = true) (his : own.map (·.2) = is) (hi : VI C tg iter fi) (hg : VGc (C.bk scope) is tg g) (ht : VTs (C.bk scope) ifs t) (he : VE (C.bk scope) elt e)
    (hN : C.N[i]? = some y := by rfl) (hy : C.sc.names.lookup y = some .local := by rfl) (hp : i ∉ C.pin := by first | exact List.not_mem_nil | decide) (hsw : ∀ env : PySem.Env, env.scope = C.sc → swapsWith (.ListComp elt [⟨tg, iter, ifs, 0⟩] scope pos) (some (.Name y py)) spos.line env = pure true)
    (hs : ∀ env x, foldedSetIterable iter env x = pure x := by intro _ _; rfl) (hot : C.hot = false := by rfl) : VS C (.Assign [.Name y py] (.ListComp elt [⟨tg, iter, ifs, 0⟩] scope pos) spos) (sSet i (eLc fi is g t e)) := fun X hX W tk => by
  obtain ⟨wi, pi, qi⟩ := hi X hX W tk
  obtain ⟨p1, p2, p3⟩ := lc_parts hX hg ht he
  refine ⟨_, ps_setLc (i := i) (hX.calm hot) (by rw [hX.N]; exact hX.nd) (by rw [hX.N]; exact hN) (by rw [hX.sc]; exact hy) (hsw _ hX.sc) pi (blkOk_by (own := own) (by rw [hX.N, hX.sc]; exact hb)) p1 p2 p3 (hs _), fun γ F H own' ρ σ D hgh S o => ?_⟩
  rw [his]
  refine lc_read (Cb := C.bk scope) rfl qi γ F H own' ρ σ _ S ?_
  exact OutE.st o fun x e o v F H own S' => o F H _ _ (S'.assign hgh.tm hgh.wk hgh.pl (by rw [hgh.pn]; exact hp) (by rw [S.rn, hgh.n]; exact (List.getElem?_eq_some_iff.mp hN).1))
end
end Vs


/-! VHead: what the head tells of classes, as one Bool. -/
namespace Vs
open PySem PySem.Spec PyProof.Rows L2 Vc

/-- the class at C is an exception class over ValueError whose objects are laid as usual -/
def oexB (K : PySem.W.Frag) (C : Addr) : Bool := match K.lookup C with
  | some ⟨.type t, _, .cls cd, sl⟩ => t == "type" && (match cd.mro, sl.toList with
    | .ref D :: bm, [_, _, _, _, some (.builtin n), _] => D == C && (n == "ValueError.__new__" && (!cd.hasDel && (cd.hasDict && PySem.HandSPX.refsVE bm)))
    | _, _ => false)
  | _ => false
theorem oexB_ok {K : PySem.W.Frag} {C : Addr} (h : oexB K C = true) : ∃ nm q N bs bm sn sub ab col dd k0 k1 k2 k3 k5, K.lookup C = some (excClassObj nm q C N bs bm true sn sub ab col dd k0 k1 k2 k3 k5 "ValueError.__new__") ∧ PySem.HandSPX.refsVE bm = true := by
  unfold oexB at h
  split at h
  · rename_i t dd cd sl e
    obtain ⟨ht, h⟩ := Bool.and_eq_true_iff.mp h
    split at h
    · rename_i D bm k0 k1 k2 k3 n k5 hm hs
      simp only [Bool.and_eq_true, beq_iff_eq, Bool.not_eq_true'] at h ht
      obtain ⟨rfl, rfl, hdel, hdict, hr⟩ := h
      subst ht
      obtain ⟨nm, bs, mro, ns, qn, hd, sn, sub, ab, col, del⟩ := cd
      dsimp only at hm hdel hdict
      subst hm hdel hdict
      obtain ⟨l⟩ := sl
      simp only at hs
      subst hs
      exact ⟨nm, qn, ns, bs, bm, sn, sub, ab, col, dd, k0, k1, k2, k3, k5, e, hr⟩
    · cases h
  · cases h

def tys7 : List String := ["NoneType", "bool", "int", "str", "tuple", "list", "dict"]
/-- all that is asked of the own exception classes -/
def xsB (K : PySem.W.Frag) (nm : List Str) (Z : Xs) : Bool :=
  let c := fun i => He.ga K (nm.getD i Str.empty)
  let ns := List.range Z.n
  (ns.all fun i => xkB K (c i)) && ((ns.all fun i => ns.all fun j => decide (PySem.W.subIn K (.ref (c i)) (.ref (c j)) = some (Z.sub i j))) && ((ns.all fun j => tys7.all fun T => decide (PySem.W.kitOne K (.type T) (.ref (c j)) = some false)) &&
  ((ns.all fun i => Z.sub i i) && ((ns.all fun i => decide (PySem.W.kitOne K (.ref (c i)) (.type "ValueError") = some true)) && (ns.all fun i => (Z.fs i).all fun m => decide (PySem.W.findIn K (.ref (c i)) (mk m) = some none))))))
/-- where the classes and defs stand -/
def gx (K : PySem.W.Frag) (nm fnm : List Str) (Z : Xs) : Gx := ⟨K, fun i => He.ga K (nm.getD i Str.empty), fun i => (Z.fs i).map mk, fun i => He.ga K (fnm.getD i Str.empty)⟩
theorem xsB_ok {K : PySem.W.Frag} {nm fnm : List Str} {Z : Xs} (h : xsB K nm Z = true) : XsOk (gx K nm fnm Z) Z := by
  unfold xsB at h
  simp only [Bool.and_eq_true, List.all_eq_true, List.mem_range, decide_eq_true_eq] at h
  obtain ⟨h1, h2, h3, h4, h5, h6⟩ := h
  exact ⟨fun i hi => xk_ok (h1 i hi), fun i j hi hj => h2 i hi j hj, fun j hj T hT => h3 j hj T hT, h4, h5, fun i hi => rfl, fun i hi m hm => h6 i hi m hm⟩
/-- a class whose __init__ is its own -/
def oexAll (K : PySem.W.Frag) (x : Str) : Bool := oexB K (He.ga K x) && (He.eqO (PySem.W.findIn K (.ref (He.ga K x)) "__setattr__") (some (some (.builtin "object.__setattr__"))) && (decide (PySem.W.subIn K (.ref (He.ga K x)) (.type "BaseException") = some true) &&
  (decide (PySem.W.typeIn K (.ref (He.ga K x)) = some (.type "type")) && (PySem.W.keepIn K (.ref (He.ga K x)) && (He.eqO (PySem.W.findIn K (.ref (He.ga K x)) "__init__") (some (some (.ref (He.ma K (He.ga K x) "__init__")))) && decide (PySem.W.typeIn K (.ref (He.ma K (He.ga K x) "__init__")) = some (.type "function")))))))
theorem oexAll_ok {K : PySem.W.Frag} {x : Str} (h : oexAll K x = true) : OexC K (He.ga K x) ∧ PySem.W.findIn K (.ref (He.ga K x)) "__init__" = some (some (.ref (He.ma K (He.ga K x) "__init__"))) ∧ PySem.W.typeIn K (.ref (He.ma K (He.ga K x) "__init__")) = some (.type "function") := by
  unfold oexAll at h
  simp only [Bool.and_eq_true, decide_eq_true_eq] at h
  obtain ⟨h1, h2, h3, h4, h5, h6, h7⟩ := h
  exact ⟨⟨oexB_ok h1, He.eqO_ok h2, h3, h4, h5⟩, He.eqO_ok h6, h7⟩

/-! ### the law's own def -/
theorem walkV {l : PySem.W.OpenLaw} {n k : Nat} {q : Program} {loose : List Str} {XP : (Str → Option Value) → Heap → Prop} {YP : World → Heap → Prop} {d : DefRec} {x : Str} (h1 : l.most = some n) (h2 : n ≤ sizeLine) (h3 : d.params.defaults = []) (room : Room k callerA)
    (given : ∀ (w : World) (mg : Str → Option Value) (fl : Addr) (hp : Heap), YP w hp → hp.Ns mainGlobals mg → mg d.name = some (.ref fl) → ∃ (K : PySem.W.Frag) (fd : FuncData) (sp : Sp), K.In hp ∧ (∀ (s : Shared) (u : Value), BindsTo s fd ⟨[u], []⟩ [(x, u)]) ∧
      (∀ (H : Hp) (a : Addr) (ns : List Int), ns.length ≤ n → (∀ z ∈ ns, Builtin.Int.intBits z ≤ 1048576) → SqL K H a (ns.map V.int) → sp [.ref a] H (fun v _ => v = .bl true) fun _ _ _ => False) ∧
      ∀ base : Heap, K.In base → base.Ns mainGlobals mg → FnOk l.prog w K mg base (L2.CX l.prog w) k fl fd [x] sp) :
    PySem.W.WalkO q loose XP YP l.row.toRowW d [] (fun f vs => PySem.call f vs) :=
  Att.attach_callB h1 h3 fun w s₀ s₁ mg mb fl o pm cd doc a vs ns G Y ho hd hcd hmg hobj hints hlen hbits hg => by
    obtain ⟨K, fd, sp, KX, bi, se, ok⟩ := given w mg fl _ Y G.T.g hmg
    refine law_call KX G.T.g G.T.b G.T.builtins G.T.nolimit hg hobj hints (Nat.le_trans hlen h2) room ok bi (fun H _ hS => se H a ns hlen hbits hS) fun H e s' out => ?_
    obtain ⟨_, _, _, _, _, _, _, _, _, _, _, _, bad⟩ := out
    exact bad
theorem law_sp {G : Gx} {m : List D → FR} {H : Hp} {a : Addr} {ns : List Int} (hS : SqL G.K H a (ns.map V.int)) (h : m [.scr ns] = .ok (.frz (.bl true))) : SpF G 1 m [.ref a] H (fun v _ => v = .bl true) fun _ _ _ => False := by
  refine ⟨rfl, [.scr ns], H, .refl _, fun _ _ e => e, ?_, ?_⟩
  · simp only [Reps, Rep]
    exact ⟨.ref a, [], rfl, ⟨a, rfl, hS⟩, rfl⟩
  · rw [h]
    intro v F' H' own' x r
    simpa only [RepO, Rep] using r
end Vs


namespace K06
open Vc
def Z : Xs := ⟨16, fun i j => ([[0], [0, 1], [0, 2], [0, 3], [0, 4], [0, 5], [0, 6], [0, 7], [0, 8], [0, 9], [0, 10], [0, 11], [0, 12], [0, 13], [0, 14], [0, 15]].getD i []).contains j, fun i => [[], [S "place", S "word"], [S "at", S "line"], [], [], [], [], [], [], [], [], [], [], [], [], []].getD i []⟩
def b__law_cell : Sm :=
 (sSeq (sIf (tBl (eBin opLt (eVar 1) (eBi biLen (esCons (eVar 0) esNil))))
 (sRet (eFz (eBin opIx (eVar 0) (eVar 1))))
 sNil)
 (sRet (eC (.int (0)))))
def m__law_cell : List D → FR := Vc.run 2 b__law_cell
def b__law_errors : Sm :=
 (sSeq (sSet 5 (eLst (esCons (eMk 1 (mk2 (eVarF 0) (eVarF 1))) (esCons (eMk 2 (mk2 (eVarF 2) (eVarF 3))) (esCons (eMk 3 (mkOwn (esCons (eVar 4) esNil))) (esCons (eMk 4 (mkOwn (esCons (eVar 4) esNil))) (esCons (eMk 5 (mkOwn (esCons (eVar 4) esNil))) esNil)))))))
 (sSeq (sMut (plVar 5) muExtend (esCons (eLst (esCons (eMk 6 (mkOwn (esCons (eVar 4) esNil))) (esCons (eMk 7 (mkOwn (esCons (eVar 4) esNil))) (esCons (eMk 8 (mkOwn (esCons (eVar 4) esNil))) (esCons (eMk 9 (mkOwn (esCons (eVar 4) esNil))) (esCons (eMk 10 (mkOwn (esCons (eVar 4) esNil))) esNil)))))) esNil))
 (sSeq (sMut (plVar 5) muExtend (esCons (eLst (esCons (eMk 11 (mkOwn (esCons (eVar 4) esNil))) (esCons (eMk 12 (mkOwn (esCons (eVar 4) esNil))) (esCons (eMk 13 (mkOwn (esCons (eVar 4) esNil))) (esCons (eMk 14 (mkOwn (esCons (eVar 4) esNil))) (esCons (eMk 15 (mkOwn (esCons (eVar 4) esNil))) esNil)))))) esNil))
 (sRetV 5))))
def m__law_errors : List D → FR := Vc.run 6 b__law_errors
def b__law_classes : Sm :=
 (sSeq (sSet 1 (eLst (esCons (eUn (opIsC Z 1) (eVar 0)) (esCons (eUn (opIsC Z 2) (eVar 0)) (esCons (eUn (opIsC Z 3) (eVar 0)) esNil)))))
 (sSeq (sMut (plVar 1) muExtend (esCons (eLst (esCons (eUn (opIsC Z 4) (eVar 0)) (esCons (eUn (opIsC Z 5) (eVar 0)) (esCons (eUn (opIsC Z 6) (eVar 0)) esNil)))) esNil))
 (sSeq (sMut (plVar 1) muExtend (esCons (eLst (esCons (eUn (opIsC Z 7) (eVar 0)) (esCons (eUn (opIsC Z 8) (eVar 0)) (esCons (eUn (opIsC Z 9) (eVar 0)) esNil)))) esNil))
 (sSeq (sMut (plVar 1) muExtend (esCons (eLst (esCons (eUn (opIsC Z 10) (eVar 0)) (esCons (eUn (opIsC Z 11) (eVar 0)) (esCons (eUn (opIsC Z 12) (eVar 0)) esNil)))) esNil))
 (sSeq (sMut (plVar 1) muExtend (esCons (eLst (esCons (eUn (opIsC Z 13) (eVar 0)) (esCons (eUn (opIsC Z 14) (eVar 0)) (esCons (eUn (opIsC Z 15) (eVar 0)) esNil)))) esNil))
 (sRetV 1))))))
def m__law_classes : List D → FR := Vc.run 2 b__law_classes
def b__law_whole : Sm :=
 (sRet (eAnd (eUn (opIsT Z "int") (eVar 0)) (eNot (eUn (opIsT Z "bool") (eVar 0)))))
def m__law_whole : List D → FR := Vc.run 1 b__law_whole
def b_law : Sm :=
 (sSeq (sSet 1 (eF (eLst (esCons (eC (.str (S "strings"))) (esCons (eC (.str (S "name"))) (esCons (eC (.str (S "way"))) (esCons (eC (.str (S "hand"))) (esCons (eC (.str (S "twice"))) (esCons (eC (.str (S "lone"))) (esCons (eC (.str (S "hands"))) (esCons (eC (.str (S "many"))) esNil)))))))))))
 (sSeq (sSet 2 (eFz (eBin opIx (eVar 1) (eBin opMod (eCall m__law_cell (esCons (eVarF 0) (esCons (eC (.int (0))) esNil))) (eC (.int (8)))))))
 (sSeq (sSet 3 (eBin opMod (eCall m__law_cell (esCons (eVarF 0) (esCons (eC (.int (1))) esNil))) (eBin opAdd (eBin opPow (eC (.int (10))) (eC (.int (6)))) (eC (.int (1))))))
 (sSeq (sSet 4 (eBin opMod (eCall m__law_cell (esCons (eVarF 0) (esCons (eC (.int (2))) esNil))) (eBin opAdd (eBin opPow (eC (.int (10))) (eC (.int (6)))) (eC (.int (1))))))
 (sSeq (sSet 5 (eBin opMod (eCall m__law_cell (esCons (eVarF 0) (esCons (eC (.int (3))) esNil))) (eBin opAdd (eBin opPow (eC (.int (10))) (eC (.int (6)))) (eC (.int (1))))))
 (sSeq (sSet 6 (eF (eCall m__law_errors (esCons (eVarF 2) (esCons (eVarF 3) (esCons (eVarF 4) (esCons (eVarF 5) (esCons (eF (eSl (eVar 2) (ptAt (eBin opMod (eCall m__law_cell (esCons (eVarF 0) (esCons (eC (.int (4))) esNil))) (eC (.int (4))))) ptNo)) esNil))))))))
 (sSeq (sFor (itRange1 (eC (.int (15)))) (gVar 7)
 (sSeq (sIf (tOr (tNot (tOf (eUn (opIsC Z 0) (eBin opIx (eVar 6) (eVar 7))))) (tNot (tOf (eUn (opIsT Z "ValueError") (eBin opIx (eVar 6) (eVar 7))))))
 (sRet (eC (.bl false)))
 sNil)
 (sIf (tBl (eBin opNe (eCall m__law_classes (esCons (eFz (eBin opIx (eVar 6) (eVar 7))) esNil)) (eLc (itRange1 (eC (.int (15)))) [9] (gVar 9) tYes (eBin opEq (eVar 7) (eVar 9)))))
 (sRet (eC (.bl false)))
 sNil)))
 (sSeq (sIf (tOr (tBl (eBin opNe (eUn (opXf Z (S "word")) (eBin opIx (eVar 6) (eC (.int (0))))) (eVar 2))) (tOr (tBl (eBin opNe (eUn (opXf Z (S "place")) (eBin opIx (eVar 6) (eC (.int (0))))) (eVar 3))) (tNot (tOf (eCall m__law_whole (esCons (eUn (opXf Z (S "place")) (eBin opIx (eVar 6) (eC (.int (0))))) esNil))))))
 (sRet (eC (.bl false)))
 sNil)
 (sSeq (sIf (tOr (tBl (eBin opNe (eUn (opXf Z (S "line")) (eBin opIx (eVar 6) (eC (.int (1))))) (eVar 4))) (tOr (tBl (eBin opNe (eUn (opXf Z (S "at")) (eBin opIx (eVar 6) (eC (.int (1))))) (eVar 5))) (tNot (tOf (eCall m__law_whole (esCons (eUn (opXf Z (S "line")) (eBin opIx (eVar 6) (eC (.int (1))))) esNil))))))
 (sRet (eC (.bl false)))
 sNil)
 (sSeq (sSet 8 (eMk 0 (mkOwn (esCons (eVar 2) esNil))))
 (sRet (eAnd (eUn (opIsT Z "ValueError") (eVar 8)) (eBin opEq (eCall m__law_classes (esCons (eVarF 8) esNil)) (eLc (itRange1 (eC (.int (15)))) [7] (gVar 7) tYes (eC (.bl false))))))))))))))))
def m_law : List D → FR := Vc.run 10 b_law
end K06


namespace K06
open PySem PySem.Spec PyProof.Rows L2 Vc Vs
def top (i : Nat) : Stmt := PySem.Challenge.pw_knotwise_k06_refusals_made.main.body.getD i (.Pass ⟨0, 0, 0, 0⟩)
def clsBody : Stmt → List Stmt
  | .ClassDef _ _ _ b _ _ _ _ _ _ _ => b
  | _ => []
def inner (i j : Nat) : Stmt := (clsBody (top i)).getD j (.Pass ⟨0, 0, 0, 0⟩)
abbrev s__law_cell : Stmt := top 18
abbrev s__law_errors : Stmt := top 21
abbrev s__law_classes : Stmt := top 20
abbrev s__law_whole : Stmt := top 19
abbrev s_law : Stmt := top 22
def N__law_cell : List Str := ["_law_script", "_law_k"]
def N__law_errors : List Str := ["_law_word", "_law_place", "_law_line", "_law_at", "_law_text", "_law_found"]
def N__law_classes : List Str := ["_law_error", "_law_found"]
def N__law_whole : List Str := ["_law_found"]
def N_law : List Str := ["_law_script", "_law_words", "_law_word", "_law_place", "_law_line", "_law_at", "_law_errors_here", "_law_k", "_law_base", "_law_j"]
abbrev i_NoDrawing_s : Stmt := inner 2 0
abbrev i_NoText_s : Stmt := inner 3 0
theorem sc__law_cell : FnScope N__law_cell ["_law_script", "_law_k"] (defScope s__law_cell) := ⟨rfl, rfl, rfl, by decide +kernel, rfl, by decide +kernel, by decide +kernel⟩
theorem sc__law_errors : FnScope N__law_errors ["_law_word", "_law_place", "_law_line", "_law_at", "_law_text"] (defScope s__law_errors) := ⟨rfl, rfl, rfl, by decide +kernel, rfl, by decide +kernel, by decide +kernel⟩
theorem sc__law_classes : FnScope N__law_classes ["_law_error"] (defScope s__law_classes) := ⟨rfl, rfl, rfl, by decide +kernel, rfl, by decide +kernel, by decide +kernel⟩
theorem sc__law_whole : FnScope N__law_whole ["_law_found"] (defScope s__law_whole) := ⟨rfl, rfl, rfl, by decide +kernel, rfl, by decide +kernel, by decide +kernel⟩
theorem sc_law : FnScope N_law ["_law_script"] (defScope s_law) := ⟨rfl, rfl, rfl, by decide +kernel, rfl, by decide +kernel, by decide +kernel⟩
def xnm : List Str := ["KnotError", "NoDrawing", "NoText", "NoName", "NameTaken", "NoSpot", "TooMany", "NoFit", "NoMove", "NoPrime", "NoString", "NoBraid", "NoLength", "NoMark", "NoWord", "NothingDone"]
abbrev gk (K : PySem.W.Frag) : Gx := gx K xnm [] Z
theorem kT_ValueError : ∀ a ∈ ["NoneType", "bool", "int", "str", "tuple", "list", "dict"], kitB a "ValueError" = some (isTy a "ValueError") := by decide +kernel
theorem bt_ValueError : bootBuiltins "ValueError" = some (.type "ValueError") := by decide +kernel
theorem kT_bool : ∀ a ∈ ["NoneType", "bool", "int", "str", "tuple", "list", "dict"], kitB a "bool" = some (isTy a "bool") := by decide +kernel
theorem bt_bool : bootBuiltins "bool" = some (.type "bool") := by decide +kernel
theorem kT_int : ∀ a ∈ ["NoneType", "bool", "int", "str", "tuple", "list", "dict"], kitB a "int" = some (isTy a "int") := by decide +kernel
theorem bt_int : bootBuiltins "int" = some (.type "int") := by decide +kernel
theorem b_int : bootBuiltins "int" = some (.type "int") := by decide +kernel
theorem b_len : bootBuiltins "len" = some (.builtin "len") := by decide +kernel
theorem ty_list_append : typeOf (.builtin "list.append") = pure (.type "method_descriptor") := PySem.F.type_list_append
theorem ty_list_extend : typeOf (.builtin "list.extend") = pure (.type "method_descriptor") := PySem.F.type_list_extend
theorem ty_list_insert : typeOf (.builtin "list.insert") = pure (.type "method_descriptor") := PySem.F.type_list_insert
theorem ty_list_reverse : typeOf (.builtin "list.reverse") = pure (.type "method_descriptor") := PySem.F.type_list_reverse
structure Fx (K : PySem.W.Frag) (mg : Str → Option Value) : Prop where
  zo : XsOk (gk K) Z
  f_ValueError : mg "ValueError" = none
  f_bool : mg "bool" = none
  f_int : mg "int" = none
  f_isinstance : mg "isinstance" = none
  f_len : mg "len" = none
  f_range : mg "range" = none
  g_KnotError : mg "KnotError" = some (.ref ((gk K).cA 0))
  g_NoDrawing : mg "NoDrawing" = some (.ref ((gk K).cA 1))
  g_NoText : mg "NoText" = some (.ref ((gk K).cA 2))
  g_NoName : mg "NoName" = some (.ref ((gk K).cA 3))
  g_NameTaken : mg "NameTaken" = some (.ref ((gk K).cA 4))
  g_NoSpot : mg "NoSpot" = some (.ref ((gk K).cA 5))
  g_TooMany : mg "TooMany" = some (.ref ((gk K).cA 6))
  g_NoFit : mg "NoFit" = some (.ref ((gk K).cA 7))
  g_NoMove : mg "NoMove" = some (.ref ((gk K).cA 8))
  g_NoPrime : mg "NoPrime" = some (.ref ((gk K).cA 9))
  g_NoString : mg "NoString" = some (.ref ((gk K).cA 10))
  g_NoBraid : mg "NoBraid" = some (.ref ((gk K).cA 11))
  g_NoLength : mg "NoLength" = some (.ref ((gk K).cA 12))
  g_NoMark : mg "NoMark" = some (.ref ((gk K).cA 13))
  g_NoWord : mg "NoWord" = some (.ref ((gk K).cA 14))
  g_NothingDone : mg "NothingDone" = some (.ref ((gk K).cA 15))
  e_KnotError : PySem.W.excIn K (He.ga K "KnotError") He.veBase "ValueError.__new__" = true ∧ True
  e_NoName : PySem.W.excIn K (He.ga K "NoName") He.veBase "ValueError.__new__" = true ∧ True
  e_NameTaken : PySem.W.excIn K (He.ga K "NameTaken") He.veBase "ValueError.__new__" = true ∧ True
  e_NoSpot : PySem.W.excIn K (He.ga K "NoSpot") He.veBase "ValueError.__new__" = true ∧ True
  e_TooMany : PySem.W.excIn K (He.ga K "TooMany") He.veBase "ValueError.__new__" = true ∧ True
  e_NoFit : PySem.W.excIn K (He.ga K "NoFit") He.veBase "ValueError.__new__" = true ∧ True
  e_NoMove : PySem.W.excIn K (He.ga K "NoMove") He.veBase "ValueError.__new__" = true ∧ True
  e_NoPrime : PySem.W.excIn K (He.ga K "NoPrime") He.veBase "ValueError.__new__" = true ∧ True
  e_NoString : PySem.W.excIn K (He.ga K "NoString") He.veBase "ValueError.__new__" = true ∧ True
  e_NoBraid : PySem.W.excIn K (He.ga K "NoBraid") He.veBase "ValueError.__new__" = true ∧ True
  e_NoLength : PySem.W.excIn K (He.ga K "NoLength") He.veBase "ValueError.__new__" = true ∧ True
  e_NoMark : PySem.W.excIn K (He.ga K "NoMark") He.veBase "ValueError.__new__" = true ∧ True
  e_NoWord : PySem.W.excIn K (He.ga K "NoWord") He.veBase "ValueError.__new__" = true ∧ True
  e_NothingDone : PySem.W.excIn K (He.ga K "NothingDone") He.veBase "ValueError.__new__" = true ∧ True
  o_NoDrawing : OexC K (He.ga K "NoDrawing") ∧ PySem.W.findIn K (.ref (He.ga K "NoDrawing")) "__init__" = some (some (.ref (He.ma K (He.ga K "NoDrawing") "__init__"))) ∧ PySem.W.typeIn K (.ref (He.ma K (He.ga K "NoDrawing") "__init__")) = some (.type "function")
  o_NoText : OexC K (He.ga K "NoText") ∧ PySem.W.findIn K (.ref (He.ga K "NoText")) "__init__" = some (some (.ref (He.ma K (He.ga K "NoText") "__init__"))) ∧ PySem.W.typeIn K (.ref (He.ma K (He.ga K "NoText") "__init__")) = some (.type "function")
section
variable {P : Program} {w : World} {K : PySem.W.Frag} {mg : Str → Option Value} {base : Heap}
theorem io_NoDrawing {fd : FuncData} (F : FunD K "__init__" "NoDrawing.__init__" (defArgs i_NoDrawing_s) (defBody i_NoDrawing_s) (defScope i_NoDrawing_s) [] [] (He.ma K (He.ga K "NoDrawing") "__init__") fd) : FnOk P w K mg base (L2.CX P w) 1 (He.ma K (He.ga K "NoDrawing") "__init__") fd ["self", "word", "place"] (spI K "word" "place") ∧ Binds K fd ["self", "word", "place"] [] :=
  ⟨init2_ok F ⟨rfl, rfl, rfl, by decide +kernel, rfl, by decide +kernel, by decide +kernel⟩ rfl (.inl rfl) (.inl rfl) (.inl rfl) (by decide) (by decide) (by decide) (fun _ _ => rfl) (fun _ _ => rfl), F.bindsN fun _ _ _ _ _ _ us hl => match us, hl with | [_, _, _], _ => rfl⟩
theorem io_NoText {fd : FuncData} (F : FunD K "__init__" "NoText.__init__" (defArgs i_NoText_s) (defBody i_NoText_s) (defScope i_NoText_s) [] [] (He.ma K (He.ga K "NoText") "__init__") fd) : FnOk P w K mg base (L2.CX P w) 1 (He.ma K (He.ga K "NoText") "__init__") fd ["self", "line", "at"] (spI K "line" "at") ∧ Binds K fd ["self", "line", "at"] [] :=
  ⟨init2_ok F ⟨rfl, rfl, rfl, by decide +kernel, rfl, by decide +kernel, by decide +kernel⟩ rfl (.inl rfl) (.inl rfl) (.inl rfl) (by decide) (by decide) (by decide) (fun _ _ => rfl) (fun _ _ => rfl), F.bindsN fun _ _ _ _ _ _ us hl => match us, hl with | [_, _, _], _ => rfl⟩
theorem vb__law_cell (fx : Fx K mg) : VB { P, w, G := gk K, mg, base, N := N__law_cell, sc := defScope s__law_cell, k := 0, pin := [], top := true, hot := false, lc := fun _ => true } (defBody s__law_cell) b__law_cell :=
 (vb_cons (vs_if (vt_lt (vp_var (i := 1)) (VE.toP (ve_bi (r := fun X => rLenA X.K) (fun _ _ => cr_lenA) len_sp fx.f_len b_len (vap_cons (vp_var (i := 0)) vap_nil))))
 (vb_one (vs_ret (ve_ix (vp_var (i := 0)) (vp_var (i := 1)))))
 vb_nil)
 (vb_one (vs_ret ve_int)))
theorem ok__law_cell (fx : Fx K mg) {f : Addr} {fd : FuncData} (F : FunD K "_law_cell" "_law_cell" (defArgs s__law_cell) (defBody s__law_cell) (defScope s__law_cell) [] [] f fd) (hm : mg "_law_cell" = some (.ref f)) : VFn P w (gk K) mg base "_law_cell" 1 2 m__law_cell :=
  vfn (G := gk K) (N := N__law_cell) (k := 0) (b := b__law_cell) F sc__law_cell hm rfl (fun _ _ _ _ _ _ us hl => match us, hl with | [_, _], _ => rfl) (vb__law_cell fx)
theorem vb__law_errors (fx : Fx K mg) {fd_NoDrawing : FuncData} (i_NoDrawing : FnOk P w K mg base (L2.CX P w) 1 (He.ma K (He.ga K "NoDrawing") "__init__") fd_NoDrawing ["self", "word", "place"] (spI K "word" "place") ∧ Binds K fd_NoDrawing ["self", "word", "place"] []) {fd_NoText : FuncData} (i_NoText : FnOk P w K mg base (L2.CX P w) 1 (He.ma K (He.ga K "NoText") "__init__") fd_NoText ["self", "line", "at"] (spI K "line" "at") ∧ Binds K fd_NoText ["self", "line", "at"] []) : VB { P, w, G := gk K, mg, base, N := N__law_errors, sc := defScope s__law_errors, k := 2, pin := [], top := true, hot := false, lc := fun _ => true } (defBody s__law_errors) b__law_errors :=
 (vb_cons (vs_set (i := 5) (ve_lst (va_cons (ve_mk (vm_two (c := 1) (fx.o_NoDrawing).1 (fx.zo.no 1 (by decide) _ (by decide)) (fx.zo.no 1 (by decide) _ (by decide)) rfl (fx.o_NoDrawing).2.1 (fx.o_NoDrawing).2.2 i_NoDrawing.1 i_NoDrawing.2 (Nat.le_of_ble_eq_true rfl) fx.g_NoDrawing (ve_var (i := 0)) (ve_var (i := 1)))) (va_cons (ve_mk (vm_two (c := 2) (fx.o_NoText).1 (fx.zo.no 2 (by decide) _ (by decide)) (fx.zo.no 2 (by decide) _ (by decide)) rfl (fx.o_NoText).2.1 (fx.o_NoText).2.2 i_NoText.1 i_NoText.2 (Nat.le_of_ble_eq_true rfl) fx.g_NoText (ve_var (i := 2)) (ve_var (i := 3)))) (va_cons (ve_mk (vm_own (c := 3) (fx.e_NoName).1 fx.g_NoName (fx.zo.k 3 (by decide)) (vap_cons (vp_var (i := 4)) vap_nil))) (va_cons (ve_mk (vm_own (c := 4) (fx.e_NameTaken).1 fx.g_NameTaken (fx.zo.k 4 (by decide)) (vap_cons (vp_var (i := 4)) vap_nil))) (va_cons (ve_mk (vm_own (c := 5) (fx.e_NoSpot).1 fx.g_NoSpot (fx.zo.k 5 (by decide)) (vap_cons (vp_var (i := 4)) vap_nil))) va_nil)))))))
 (vb_cons (vs_mut PySem.F.slot_list_extend ty_list_extend (fun _ _ => mt_extend) ms_extend (vpl_var (i := 5)) (vap_cons (VE.toP (ve_lst (va_cons (ve_mk (vm_own (c := 6) (fx.e_TooMany).1 fx.g_TooMany (fx.zo.k 6 (by decide)) (vap_cons (vp_var (i := 4)) vap_nil))) (va_cons (ve_mk (vm_own (c := 7) (fx.e_NoFit).1 fx.g_NoFit (fx.zo.k 7 (by decide)) (vap_cons (vp_var (i := 4)) vap_nil))) (va_cons (ve_mk (vm_own (c := 8) (fx.e_NoMove).1 fx.g_NoMove (fx.zo.k 8 (by decide)) (vap_cons (vp_var (i := 4)) vap_nil))) (va_cons (ve_mk (vm_own (c := 9) (fx.e_NoPrime).1 fx.g_NoPrime (fx.zo.k 9 (by decide)) (vap_cons (vp_var (i := 4)) vap_nil))) (va_cons (ve_mk (vm_own (c := 10) (fx.e_NoString).1 fx.g_NoString (fx.zo.k 10 (by decide)) (vap_cons (vp_var (i := 4)) vap_nil))) va_nil))))))) vap_nil))
 (vb_cons (vs_mut PySem.F.slot_list_extend ty_list_extend (fun _ _ => mt_extend) ms_extend (vpl_var (i := 5)) (vap_cons (VE.toP (ve_lst (va_cons (ve_mk (vm_own (c := 11) (fx.e_NoBraid).1 fx.g_NoBraid (fx.zo.k 11 (by decide)) (vap_cons (vp_var (i := 4)) vap_nil))) (va_cons (ve_mk (vm_own (c := 12) (fx.e_NoLength).1 fx.g_NoLength (fx.zo.k 12 (by decide)) (vap_cons (vp_var (i := 4)) vap_nil))) (va_cons (ve_mk (vm_own (c := 13) (fx.e_NoMark).1 fx.g_NoMark (fx.zo.k 13 (by decide)) (vap_cons (vp_var (i := 4)) vap_nil))) (va_cons (ve_mk (vm_own (c := 14) (fx.e_NoWord).1 fx.g_NoWord (fx.zo.k 14 (by decide)) (vap_cons (vp_var (i := 4)) vap_nil))) (va_cons (ve_mk (vm_own (c := 15) (fx.e_NothingDone).1 fx.g_NothingDone (fx.zo.k 15 (by decide)) (vap_cons (vp_var (i := 4)) vap_nil))) va_nil))))))) vap_nil))
 (vb_one (vs_retV (i := 5))))))
theorem ok__law_errors (fx : Fx K mg) {fd_NoDrawing : FuncData} (i_NoDrawing : FnOk P w K mg base (L2.CX P w) 1 (He.ma K (He.ga K "NoDrawing") "__init__") fd_NoDrawing ["self", "word", "place"] (spI K "word" "place") ∧ Binds K fd_NoDrawing ["self", "word", "place"] []) {fd_NoText : FuncData} (i_NoText : FnOk P w K mg base (L2.CX P w) 1 (He.ma K (He.ga K "NoText") "__init__") fd_NoText ["self", "line", "at"] (spI K "line" "at") ∧ Binds K fd_NoText ["self", "line", "at"] []) {f : Addr} {fd : FuncData} (F : FunD K "_law_errors" "_law_errors" (defArgs s__law_errors) (defBody s__law_errors) (defScope s__law_errors) [] [] f fd) (hm : mg "_law_errors" = some (.ref f)) : VFn P w (gk K) mg base "_law_errors" 3 5 m__law_errors :=
  vfn (G := gk K) (N := N__law_errors) (k := 2) (b := b__law_errors) F sc__law_errors hm rfl (fun _ _ _ _ _ _ us hl => match us, hl with | [_, _, _, _, _], _ => rfl) (vb__law_errors fx i_NoDrawing i_NoText)
theorem vb__law_classes (fx : Fx K mg) : VB { P, w, G := gk K, mg, base, N := N__law_classes, sc := defScope s__law_classes, k := 0, pin := [], top := true, hot := false, lc := fun _ => true } (defBody s__law_classes) b__law_classes :=
 (vb_cons (vs_set (i := 1) (ve_lst (va_cons (ve_isC (c := 1) fx.zo (by decide) (vp_var (i := 0)) fx.f_isinstance fx.g_NoDrawing) (va_cons (ve_isC (c := 2) fx.zo (by decide) (vp_var (i := 0)) fx.f_isinstance fx.g_NoText) (va_cons (ve_isC (c := 3) fx.zo (by decide) (vp_var (i := 0)) fx.f_isinstance fx.g_NoName) va_nil)))))
 (vb_cons (vs_mut PySem.F.slot_list_extend ty_list_extend (fun _ _ => mt_extend) ms_extend (vpl_var (i := 1)) (vap_cons (VE.toP (ve_lst (va_cons (ve_isC (c := 4) fx.zo (by decide) (vp_var (i := 0)) fx.f_isinstance fx.g_NameTaken) (va_cons (ve_isC (c := 5) fx.zo (by decide) (vp_var (i := 0)) fx.f_isinstance fx.g_NoSpot) (va_cons (ve_isC (c := 6) fx.zo (by decide) (vp_var (i := 0)) fx.f_isinstance fx.g_TooMany) va_nil))))) vap_nil))
 (vb_cons (vs_mut PySem.F.slot_list_extend ty_list_extend (fun _ _ => mt_extend) ms_extend (vpl_var (i := 1)) (vap_cons (VE.toP (ve_lst (va_cons (ve_isC (c := 7) fx.zo (by decide) (vp_var (i := 0)) fx.f_isinstance fx.g_NoFit) (va_cons (ve_isC (c := 8) fx.zo (by decide) (vp_var (i := 0)) fx.f_isinstance fx.g_NoMove) (va_cons (ve_isC (c := 9) fx.zo (by decide) (vp_var (i := 0)) fx.f_isinstance fx.g_NoPrime) va_nil))))) vap_nil))
 (vb_cons (vs_mut PySem.F.slot_list_extend ty_list_extend (fun _ _ => mt_extend) ms_extend (vpl_var (i := 1)) (vap_cons (VE.toP (ve_lst (va_cons (ve_isC (c := 10) fx.zo (by decide) (vp_var (i := 0)) fx.f_isinstance fx.g_NoString) (va_cons (ve_isC (c := 11) fx.zo (by decide) (vp_var (i := 0)) fx.f_isinstance fx.g_NoBraid) (va_cons (ve_isC (c := 12) fx.zo (by decide) (vp_var (i := 0)) fx.f_isinstance fx.g_NoLength) va_nil))))) vap_nil))
 (vb_cons (vs_mut PySem.F.slot_list_extend ty_list_extend (fun _ _ => mt_extend) ms_extend (vpl_var (i := 1)) (vap_cons (VE.toP (ve_lst (va_cons (ve_isC (c := 13) fx.zo (by decide) (vp_var (i := 0)) fx.f_isinstance fx.g_NoMark) (va_cons (ve_isC (c := 14) fx.zo (by decide) (vp_var (i := 0)) fx.f_isinstance fx.g_NoWord) (va_cons (ve_isC (c := 15) fx.zo (by decide) (vp_var (i := 0)) fx.f_isinstance fx.g_NothingDone) va_nil))))) vap_nil))
 (vb_one (vs_retV (i := 1))))))))
theorem ok__law_classes (fx : Fx K mg) {f : Addr} {fd : FuncData} (F : FunD K "_law_classes" "_law_classes" (defArgs s__law_classes) (defBody s__law_classes) (defScope s__law_classes) [] [] f fd) (hm : mg "_law_classes" = some (.ref f)) : VFn P w (gk K) mg base "_law_classes" 1 1 m__law_classes :=
  vfn (G := gk K) (N := N__law_classes) (k := 0) (b := b__law_classes) F sc__law_classes hm rfl (fun _ _ _ _ _ _ us hl => match us, hl with | [_], _ => rfl) (vb__law_classes fx)
theorem vb__law_whole (fx : Fx K mg) : VB { P, w, G := gk K, mg, base, N := N__law_whole, sc := defScope s__law_whole, k := 0, pin := [], top := true, hot := false, lc := fun _ => true } (defBody s__law_whole) b__law_whole :=
 (vb_one (vs_ret (ve_and (VE.toP (ve_isT (T := "int") fx.zo kT_int (vp_var (i := 0)) fx.f_isinstance fx.f_int bt_int)) (ve_one (ve_not (VE.toP (ve_isT (T := "bool") fx.zo kT_bool (vp_var (i := 0)) fx.f_isinstance fx.f_bool bt_bool)))))))
theorem ok__law_whole (fx : Fx K mg) {f : Addr} {fd : FuncData} (F : FunD K "_law_whole" "_law_whole" (defArgs s__law_whole) (defBody s__law_whole) (defScope s__law_whole) [] [] f fd) (hm : mg "_law_whole" = some (.ref f)) : VFn P w (gk K) mg base "_law_whole" 1 1 m__law_whole :=
  vfn (G := gk K) (N := N__law_whole) (k := 0) (b := b__law_whole) F sc__law_whole hm rfl (fun _ _ _ _ _ _ us hl => match us, hl with | [_], _ => rfl) (vb__law_whole fx)
theorem vb_law (fx : Fx K mg) (g__law_cell : VFn P w (gk K) mg base "_law_cell" 1 2 m__law_cell) (g__law_errors : VFn P w (gk K) mg base "_law_errors" 3 5 m__law_errors) (g__law_classes : VFn P w (gk K) mg base "_law_classes" 1 1 m__law_classes) (g__law_whole : VFn P w (gk K) mg base "_law_whole" 1 1 m__law_whole) : VB { P, w, G := gk K, mg, base, N := N_law, sc := defScope s_law, k := 3, pin := [], top := true, hot := false, lc := fun _ => true } (defBody s_law) b_law :=
 (vb_cons (vs_set (i := 1) (VE.fr (ve_lst (va_cons (ve_str (s := S "strings") (by rfl)) (va_cons (ve_str (s := S "name") (by rfl)) (va_cons (ve_str (s := S "way") (by rfl)) (va_cons (ve_str (s := S "hand") (by rfl)) (va_cons (ve_str (s := S "twice") (by rfl)) (va_cons (ve_str (s := S "lone") (by rfl)) (va_cons (ve_str (s := S "hands") (by rfl)) (va_cons (ve_str (s := S "many") (by rfl)) va_nil)))))))))))
 (vb_cons (vs_set (i := 2) (ve_ix (vp_var (i := 1)) (VE.toP (ve_mod (VE.toP (ve_call g__law_cell (Nat.le_of_ble_eq_true rfl) (va_cons (ve_var (i := 0)) (va_cons ve_int va_nil)) rfl)) (VE.toP ve_int)))))
 (vb_cons (vs_set (i := 3) (ve_mod (VE.toP (ve_call g__law_cell (Nat.le_of_ble_eq_true rfl) (va_cons (ve_var (i := 0)) (va_cons ve_int va_nil)) rfl)) (VE.toP (ve_add (VE.toP (ve_pow (VE.toP ve_int) (VE.toP ve_int))) (VE.toP ve_int)))))
 (vb_cons (vs_set (i := 4) (ve_mod (VE.toP (ve_call g__law_cell (Nat.le_of_ble_eq_true rfl) (va_cons (ve_var (i := 0)) (va_cons ve_int va_nil)) rfl)) (VE.toP (ve_add (VE.toP (ve_pow (VE.toP ve_int) (VE.toP ve_int))) (VE.toP ve_int)))))
 (vb_cons (vs_set (i := 5) (ve_mod (VE.toP (ve_call g__law_cell (Nat.le_of_ble_eq_true rfl) (va_cons (ve_var (i := 0)) (va_cons ve_int va_nil)) rfl)) (VE.toP (ve_add (VE.toP (ve_pow (VE.toP ve_int) (VE.toP ve_int))) (VE.toP ve_int)))))
 (vb_cons (vs_set (i := 6) (VE.fr (ve_call g__law_errors (Nat.le_of_ble_eq_true rfl) (va_cons (ve_var (i := 2)) (va_cons (ve_var (i := 3)) (va_cons (ve_var (i := 4)) (va_cons (ve_var (i := 5)) (va_cons (VE.fr (ve_sl (vp_var (i := 2)) (pt_at (VE.toP (ve_mod (VE.toP (ve_call g__law_cell (Nat.le_of_ble_eq_true rfl) (va_cons (ve_var (i := 0)) (va_cons ve_int va_nil)) rfl)) (VE.toP ve_int)))) pt_no)) va_nil))))) rfl)))
 (vb_cons (vs_for (vi_range1 fx.f_range (vap_cons (VE.toP ve_int) vap_nil)) (vg_var (i := 7))
 (vb_cons (vs_if (VW.pt (vw_or (vt_not (vt_truth (VE.toP (ve_isC (c := 0) fx.zo (by decide) (vp_ix (vp_var (i := 6)) (vp_var (i := 7))) fx.f_isinstance fx.g_KnotError)))) (vw_or1 (vt_not (vt_truth (VE.toP (ve_isT (T := "ValueError") fx.zo kT_ValueError (vp_ix (vp_var (i := 6)) (vp_var (i := 7))) fx.f_isinstance fx.f_ValueError bt_ValueError)))))))
 (vb_one (vs_ret ve_bl))
 vb_nil)
 (vb_one (vs_if (vt_ne (VE.toP (ve_call g__law_classes (Nat.le_of_ble_eq_true rfl) (va_cons (ve_ix (vp_var (i := 6)) (vp_var (i := 7))) va_nil) rfl)) (VE.toP (ve_lc (own := [("_law_j", 9)]) (show blkC N_law (defScope s_law) _ _ = true by decide +kernel) rfl (vi_range1 fx.f_range (vap_cons (VE.toP ve_int) vap_nil)) (vgc_var (i := 9)) .nil (ve_eq (vp_var (i := 7)) (vp_var (i := 9))))))
 (vb_one (vs_ret ve_bl))
 vb_nil))))
 (vb_cons (vs_if (VW.pt (vw_or (vt_ne (VE.toP (ve_xf fx.zo (by rfl) (vp_ix (vp_var (i := 6)) (VE.toP ve_int)))) (vp_var (i := 2))) (vw_or (vt_ne (VE.toP (ve_xf fx.zo (by rfl) (vp_ix (vp_var (i := 6)) (VE.toP ve_int)))) (vp_var (i := 3))) (vw_or1 (vt_not (vt_truth (VE.toP (ve_call g__law_whole (Nat.le_of_ble_eq_true rfl) (va_cons (ve_xf fx.zo (by rfl) (vp_ix (vp_var (i := 6)) (VE.toP ve_int))) va_nil) rfl))))))))
 (vb_one (vs_ret ve_bl))
 vb_nil)
 (vb_cons (vs_if (VW.pt (vw_or (vt_ne (VE.toP (ve_xf fx.zo (by rfl) (vp_ix (vp_var (i := 6)) (VE.toP ve_int)))) (vp_var (i := 4))) (vw_or (vt_ne (VE.toP (ve_xf fx.zo (by rfl) (vp_ix (vp_var (i := 6)) (VE.toP ve_int)))) (vp_var (i := 5))) (vw_or1 (vt_not (vt_truth (VE.toP (ve_call g__law_whole (Nat.le_of_ble_eq_true rfl) (va_cons (ve_xf fx.zo (by rfl) (vp_ix (vp_var (i := 6)) (VE.toP ve_int))) va_nil) rfl))))))))
 (vb_one (vs_ret ve_bl))
 vb_nil)
 (vb_cons (vs_set (i := 8) (ve_mk (vm_own (c := 0) (fx.e_KnotError).1 fx.g_KnotError (fx.zo.k 0 (by decide)) (vap_cons (vp_var (i := 2)) vap_nil))))
 (vb_one (vs_ret (ve_and (VE.toP (ve_isT (T := "ValueError") fx.zo kT_ValueError (vp_var (i := 8)) fx.f_isinstance fx.f_ValueError bt_ValueError)) (ve_one (ve_eq (VE.toP (ve_call g__law_classes (Nat.le_of_ble_eq_true rfl) (va_cons (ve_var (i := 8)) va_nil) rfl)) (VE.toP (ve_lc (own := [("_law_k", 7)]) (show blkC N_law (defScope s_law) _ _ = true by decide +kernel) rfl (vi_range1 fx.f_range (vap_cons (VE.toP ve_int) vap_nil)) (vgc_var (i := 7)) .nil ve_bl)))))))))))))))))
theorem ok_law (fx : Fx K mg) (g__law_cell : VFn P w (gk K) mg base "_law_cell" 1 2 m__law_cell) (g__law_errors : VFn P w (gk K) mg base "_law_errors" 3 5 m__law_errors) (g__law_classes : VFn P w (gk K) mg base "_law_classes" 1 1 m__law_classes) (g__law_whole : VFn P w (gk K) mg base "_law_whole" 1 1 m__law_whole) {f : Addr} {fd : FuncData} (F : FunD K "law" "law" (defArgs s_law) (defBody s_law) (defScope s_law) [] [] f fd) (hm : mg "law" = some (.ref f)) : VFn P w (gk K) mg base "law" 4 1 m_law :=
  vfn (G := gk K) (N := N_law) (k := 3) (b := b_law) F sc_law hm rfl (fun _ _ _ _ _ _ us hl => match us, hl with | [_], _ => rfl) (vb_law fx g__law_cell g__law_errors g__law_classes g__law_whole)
end
end K06


namespace K06
open PySem PySem.Spec PyProof.Rows L2 Vc Vs
def d_NoDrawing : He.DefD := ⟨("NoDrawing", some "__init__"), "__init__", "NoDrawing.__init__", defArgs i_NoDrawing_s, defBody i_NoDrawing_s, defScope i_NoDrawing_s, [], []⟩
def d_NoText : He.DefD := ⟨("NoText", some "__init__"), "__init__", "NoText.__init__", defArgs i_NoText_s, defBody i_NoText_s, defScope i_NoText_s, [], []⟩
def d__law_cell : He.DefD := ⟨("_law_cell", none), "_law_cell", "_law_cell", defArgs s__law_cell, defBody s__law_cell, defScope s__law_cell, [], []⟩
def d__law_errors : He.DefD := ⟨("_law_errors", none), "_law_errors", "_law_errors", defArgs s__law_errors, defBody s__law_errors, defScope s__law_errors, [], []⟩
def d__law_classes : He.DefD := ⟨("_law_classes", none), "_law_classes", "_law_classes", defArgs s__law_classes, defBody s__law_classes, defScope s__law_classes, [], []⟩
def d__law_whole : He.DefD := ⟨("_law_whole", none), "_law_whole", "_law_whole", defArgs s__law_whole, defBody s__law_whole, defScope s__law_whole, [], []⟩
def d_law : He.DefD := ⟨("law", none), "law", "law", defArgs s_law, defBody s_law, defScope s_law, [], []⟩
def dl : List He.DefD := [d_NoDrawing, d_NoText, d__law_cell, d__law_errors, d__law_classes, d__law_whole, d_law]
def fa : List He.Fa := [.glo "KnotError", .glo "NoDrawing", .glo "NoText", .glo "NoName", .glo "NameTaken", .glo "NoSpot", .glo "TooMany", .glo "NoFit", .glo "NoMove", .glo "NoPrime", .glo "NoString", .glo "NoBraid", .glo "NoLength", .glo "NoMark", .glo "NoWord", .glo "NothingDone", .free "ValueError", .free "bool", .free "int", .free "isinstance", .free "len", .free "range", .exc "KnotError", .exc "NoName", .exc "NameTaken", .exc "NoSpot", .exc "TooMany", .exc "NoFit", .exc "NoMove", .exc "NoPrime", .exc "NoString", .exc "NoBraid", .exc "NoLength", .exc "NoMark", .exc "NoWord", .exc "NothingDone", .glo "_law_cell", .glo "_law_errors", .glo "_law_classes", .glo "_law_whole", .glo "law"]
def ex (K : PySem.W.Frag) : Bool := xsB K xnm Z && oexAll K "NoDrawing" && oexAll K "NoText"
abbrev R : PySem.W.OpenRow := PySem.W.OpenLaw.row PySem.Challenge.rw_knotwise_k06_refusals_made
abbrev hk : PySem.W.Hook := He.hookX 4 fa dl [] [] ex
def ob (s : PySem.W.SharedT) : He.AlX := He.obsX 4 fa dl [] [] ex (HandSHeadRun.getT s)
theorem ob_eq (s : PySem.W.SharedT) : ob s = hk.obs s.abs := He.obsX_eq (HandSHeadRun.getT_eq s)
def loose0 : List Str := ["KnotError", "NoDrawing", "NoText", "NoName", "NameTaken", "NoSpot", "TooMany", "NoFit", "NoMove", "NoPrime", "NoString", "NoBraid", "NoLength", "NoMark", "NoWord", "NothingDone", "_law_cell", "_law_whole", "_law_classes", "_law_errors"]
def loose : List Str := loose0
theorem run (w : World) : HandSHeadRun.RunEq R (PySem.W.view R.prog [22]) hk ob 30000 loose w := by
  intro os
  kernel_rfl
theorem facts {P : Program} {w : World} {K : PySem.W.Frag} {h : Heap} {hh : Heap} {mg : Str → Option Value} {f : Addr} (X : K.In h) (G : h.Ns mainGlobals mg) (hfa : mg ("law" : Str) = some (.ref f)) (c : He.SaysX fa dl [] [] ex w hh K) :
    ∃ fd : FuncData, (∀ (s : Shared) (v : Value), BindsTo s fd ⟨[v], []⟩ [("_law_script", v)]) ∧ ∀ base : Heap, K.In base → base.Ns mainGlobals mg → FnOk P w K mg base (L2.CX P w) 4 f fd ["_law_script"] (SpF (gk K) 1 m_law) := by
  have cd := c.t.d
  have cx := c.more
  unfold ex at cx
  simp only [Bool.and_eq_true] at cx
  have fx : Fx K mg := {
    zo := xsB_ok cx.1.1
    f_ValueError := He.free_ok X G (cd.fact 16 (f := .free "ValueError") rfl)
    f_bool := He.free_ok X G (cd.fact 17 (f := .free "bool") rfl)
    f_int := He.free_ok X G (cd.fact 18 (f := .free "int") rfl)
    f_isinstance := He.free_ok X G (cd.fact 19 (f := .free "isinstance") rfl)
    f_len := He.free_ok X G (cd.fact 20 (f := .free "len") rfl)
    f_range := He.free_ok X G (cd.fact 21 (f := .free "range") rfl)
    g_KnotError := He.glo_ok X G (cd.fact 0 (f := .glo "KnotError") rfl)
    g_NoDrawing := He.glo_ok X G (cd.fact 1 (f := .glo "NoDrawing") rfl)
    g_NoText := He.glo_ok X G (cd.fact 2 (f := .glo "NoText") rfl)
    g_NoName := He.glo_ok X G (cd.fact 3 (f := .glo "NoName") rfl)
    g_NameTaken := He.glo_ok X G (cd.fact 4 (f := .glo "NameTaken") rfl)
    g_NoSpot := He.glo_ok X G (cd.fact 5 (f := .glo "NoSpot") rfl)
    g_TooMany := He.glo_ok X G (cd.fact 6 (f := .glo "TooMany") rfl)
    g_NoFit := He.glo_ok X G (cd.fact 7 (f := .glo "NoFit") rfl)
    g_NoMove := He.glo_ok X G (cd.fact 8 (f := .glo "NoMove") rfl)
    g_NoPrime := He.glo_ok X G (cd.fact 9 (f := .glo "NoPrime") rfl)
    g_NoString := He.glo_ok X G (cd.fact 10 (f := .glo "NoString") rfl)
    g_NoBraid := He.glo_ok X G (cd.fact 11 (f := .glo "NoBraid") rfl)
    g_NoLength := He.glo_ok X G (cd.fact 12 (f := .glo "NoLength") rfl)
    g_NoMark := He.glo_ok X G (cd.fact 13 (f := .glo "NoMark") rfl)
    g_NoWord := He.glo_ok X G (cd.fact 14 (f := .glo "NoWord") rfl)
    g_NothingDone := He.glo_ok X G (cd.fact 15 (f := .glo "NothingDone") rfl)
    e_KnotError := ⟨(He.exc_ok (cd.fact 22 (f := .exc "KnotError") rfl)).1, trivial⟩
    e_NoName := ⟨(He.exc_ok (cd.fact 23 (f := .exc "NoName") rfl)).1, trivial⟩
    e_NameTaken := ⟨(He.exc_ok (cd.fact 24 (f := .exc "NameTaken") rfl)).1, trivial⟩
    e_NoSpot := ⟨(He.exc_ok (cd.fact 25 (f := .exc "NoSpot") rfl)).1, trivial⟩
    e_TooMany := ⟨(He.exc_ok (cd.fact 26 (f := .exc "TooMany") rfl)).1, trivial⟩
    e_NoFit := ⟨(He.exc_ok (cd.fact 27 (f := .exc "NoFit") rfl)).1, trivial⟩
    e_NoMove := ⟨(He.exc_ok (cd.fact 28 (f := .exc "NoMove") rfl)).1, trivial⟩
    e_NoPrime := ⟨(He.exc_ok (cd.fact 29 (f := .exc "NoPrime") rfl)).1, trivial⟩
    e_NoString := ⟨(He.exc_ok (cd.fact 30 (f := .exc "NoString") rfl)).1, trivial⟩
    e_NoBraid := ⟨(He.exc_ok (cd.fact 31 (f := .exc "NoBraid") rfl)).1, trivial⟩
    e_NoLength := ⟨(He.exc_ok (cd.fact 32 (f := .exc "NoLength") rfl)).1, trivial⟩
    e_NoMark := ⟨(He.exc_ok (cd.fact 33 (f := .exc "NoMark") rfl)).1, trivial⟩
    e_NoWord := ⟨(He.exc_ok (cd.fact 34 (f := .exc "NoWord") rfl)).1, trivial⟩
    e_NothingDone := ⟨(He.exc_ok (cd.fact 35 (f := .exc "NothingDone") rfl)).1, trivial⟩
    o_NoDrawing := oexAll_ok (cx.1.2)
    o_NoText := oexAll_ok (cx.2)
  }
  obtain ⟨fd_NoDrawing, Fd_NoDrawing⟩ := cd.def_ 0 (d := d_NoDrawing) rfl
  obtain ⟨fd_NoText, Fd_NoText⟩ := cd.def_ 1 (d := d_NoText) rfl
  obtain ⟨fd__law_cell, Fd__law_cell⟩ := cd.def_ 2 (d := d__law_cell) rfl
  obtain ⟨fd__law_errors, Fd__law_errors⟩ := cd.def_ 3 (d := d__law_errors) rfl
  obtain ⟨fd__law_classes, Fd__law_classes⟩ := cd.def_ 4 (d := d__law_classes) rfl
  obtain ⟨fd__law_whole, Fd__law_whole⟩ := cd.def_ 5 (d := d__law_whole) rfl
  obtain ⟨fd_law, Fd_law⟩ := cd.def_ 6 (d := d_law) rfl
  have e := hfa.symm.trans (He.glo_ok X G (cd.fact 40 (f := .glo "law") rfl))
  cases e
  refine ⟨_, fun s v => FunD.bindsA (ps := ["_law_script"]) Fd_law (fun _ _ _ _ _ _ us hl => match us, hl with | [_], _ => rfl) s [v] rfl, fun base _ _ => ?_⟩
  have i_NoDrawing := io_NoDrawing (P := P) (w := w) (mg := mg) (base := base) Fd_NoDrawing
  have i_NoText := io_NoText (P := P) (w := w) (mg := mg) (base := base) Fd_NoText
  have g__law_cell := ok__law_cell (P := P) (w := w) (base := base) fx Fd__law_cell (He.glo_ok X G (cd.fact 36 (f := .glo "_law_cell") rfl))
  have g__law_errors := ok__law_errors (P := P) (w := w) (base := base) fx i_NoDrawing i_NoText Fd__law_errors (He.glo_ok X G (cd.fact 37 (f := .glo "_law_errors") rfl))
  have g__law_classes := ok__law_classes (P := P) (w := w) (base := base) fx Fd__law_classes (He.glo_ok X G (cd.fact 38 (f := .glo "_law_classes") rfl))
  have g__law_whole := ok__law_whole (P := P) (w := w) (base := base) fx Fd__law_whole (He.glo_ok X G (cd.fact 39 (f := .glo "_law_whole") rfl))
  exact fn_ok (G := gk K) (N := N_law) (k := 3) (b := b_law) Fd_law sc_law (vb_law fx g__law_cell g__law_errors g__law_classes g__law_whole)
end K06


namespace K06
open Vc
theorem seq_nx {a b : Sm} {ρ ρ' : Env} (h : a ρ = .nx ρ') : sSeq a b ρ = b ρ' := by unfold sSeq; rw [h]
def cell (ns : List Int) (k : Nat) : Int := (ns[k]?).getD 0
theorem m_cell (ns : List Int) (k : Nat) : m__law_cell [.scr ns, .int k] = .ok (.frz (.int (cell ns k))) := by
  unfold m__law_cell Vc.run b__law_cell
  by_cases h : k < ns.length
  · have h2 : (k : Int) < ns.length := by omega
    simp [sSeq, sIf, tBl, eBin, opLt, eVar, Env.get, eBi, biLen, esCons, esNil, R.ofO, R.st, R.bind, h2, sRet, eFz, opIx, atI, ixN, cell, h]
  · have h2 : ¬ (k : Int) < ns.length := by omega
    simp [sSeq, sIf, tBl, eBin, opLt, eVar, Env.get, eBi, biLen, esCons, esNil, R.ofO, R.st, R.bind, h2, sRet, eC, sNil, cell, h]
theorem m_classes (c : Nat) (l : List D) (h : c < 16) : m__law_classes [.xo c l] = .ok (.lst ((List.range 15).map fun j => .bl (c == j + 1))) := by
  have : c = 0 ∨ c = 1 ∨ c = 2 ∨ c = 3 ∨ c = 4 ∨ c = 5 ∨ c = 6 ∨ c = 7 ∨ c = 8 ∨ c = 9 ∨ c = 10 ∨ c = 11 ∨ c = 12 ∨ c = 13 ∨ c = 14 ∨ c = 15 := by omega
  rcases this with rfl | rfl | rfl | rfl | rfl | rfl | rfl | rfl | rfl | rfl | rfl | rfl | rfl | rfl | rfl | rfl <;> rfl
theorem m_whole (i : Int) : m__law_whole [.int i] = .ok (.frz (.bl true)) := rfl
theorem m_errors (w t : Tx) (p l a : Int) : m__law_errors [.str w, .int p, .int l, .int a, .str t] = .ok (.lst ([.xo 1 [.int p, .str w], .xo 2 [.int a, .int l]] ++ (List.range 13).map fun j => .xo (j + 3) [])) := rfl

def wordsD : List D := [.str (S "strings"), .str (S "name"), .str (S "way"), .str (S "hand"), .str (S "twice"), .str (S "lone"), .str (S "hands"), .str (S "many")]
theorem word_at (i : Int) : ∃ w : Tx, atI wordsD (i % 8) = some (.str w) := by
  have h : i % 8 = 0 ∨ i % 8 = 1 ∨ i % 8 = 2 ∨ i % 8 = 3 ∨ i % 8 = 4 ∨ i % 8 = 5 ∨ i % 8 = 6 ∨ i % 8 = 7 := by omega
  rcases h with h | h | h | h | h | h | h | h <;> rw [h] <;> exact ⟨_, rfl⟩
def errs (w : Tx) (p l a : Int) : List D := [.xo 1 [.int p, .str w], .xo 2 [.int a, .int l]] ++ (List.range 13).map fun j => .xo (j + 3) []
def r6 (ns : List Int) (w : Tx) (p l a : Int) (x y z : Option O) : Env := ⟨[some (.frz (.scr ns)), some (.frz (.lst wordsD)), some (.frz (.str w)), some (.frz (.int p)), some (.frz (.int l)), some (.frz (.int a)), some (.frz (.lst (errs w p l a))), x, y, z], []⟩
theorem c0 (ns : List Int) : m__law_cell [.scr ns, .int 0] = .ok (.frz (.int (cell ns 0))) := m_cell ns 0
theorem c1 (ns : List Int) : m__law_cell [.scr ns, .int 1] = .ok (.frz (.int (cell ns 1))) := m_cell ns 1
theorem c2 (ns : List Int) : m__law_cell [.scr ns, .int 2] = .ok (.frz (.int (cell ns 2))) := m_cell ns 2
theorem c3 (ns : List Int) : m__law_cell [.scr ns, .int 3] = .ok (.frz (.int (cell ns 3))) := m_cell ns 3
theorem c4 (ns : List Int) : m__law_cell [.scr ns, .int 4] = .ok (.frz (.int (cell ns 4))) := m_cell ns 4
theorem loop_ok (ns : List Int) (w : Tx) (p l a : Int) : (sFor (itRange1 (eC (.int (15)))) (gVar 7)
 (sSeq (sIf (tOr (tNot (tOf (eUn (opIsC Z 0) (eBin opIx (eVar 6) (eVar 7))))) (tNot (tOf (eUn (opIsT Z "ValueError") (eBin opIx (eVar 6) (eVar 7))))))
 (sRet (eC (.bl false)))
 sNil)
 (sIf (tBl (eBin opNe (eCall m__law_classes (esCons (eFz (eBin opIx (eVar 6) (eVar 7))) esNil)) (eLc (itRange1 (eC (.int (15)))) [9] (gVar 9) tYes (eBin opEq (eVar 7) (eVar 9)))))
 (sRet (eC (.bl false)))
 sNil))) (r6 ns w p l a none none none) = .nx (r6 ns w p l a (some (.frz (.int 14))) none none) := by kernel_rfl
theorem law_ok (ns : List Int) : m_law [.scr ns] = .ok (.frz (.bl true)) := by
  obtain ⟨w, hw⟩ := word_at (cell ns 0)
  have hp : ∀ i : Int, (0 : Int) < 1000001 := fun _ => by decide
  have s1 : sSet 1 (eF (eLst (esCons (eC (.str (S "strings"))) (esCons (eC (.str (S "name"))) (esCons (eC (.str (S "way"))) (esCons (eC (.str (S "hand"))) (esCons (eC (.str (S "twice"))) (esCons (eC (.str (S "lone"))) (esCons (eC (.str (S "hands"))) (esCons (eC (.str (S "many"))) esNil))))))))))
      ⟨[some (.frz (.scr ns)), none, none, none, none, none, none, none, none, none], []⟩ = .nx ⟨[some (.frz (.scr ns)), some (.frz (.lst wordsD)), none, none, none, none, none, none, none, none], []⟩ := by kernel_rfl
  have key : b_law ⟨[some (.frz (.scr ns)), none, none, none, none, none, none, none, none, none], []⟩ = .ret (.frz (.bl true)) (r6 ns w (cell ns 1 % 1000001) (cell ns 2 % 1000001) (cell ns 3 % 1000001) (some (.frz (.int 14))) (some (.frz (.xo 0 []))) none) := by
    unfold b_law
    rw [seq_nx s1]
    refine (seq_nx (ρ' := ⟨[some (.frz (.scr ns)), some (.frz (.lst wordsD)), some (.frz (.str w)), none, none, none, none, none, none, none], []⟩) ?_).trans ?_
    · simp [sSet, eFz, eBin, eCall, esCons, esNil, frzs, eVarF, eVar, eC, Env.get, c0, FR.toR, opMod, opIx, hw, R.ofO, R.bind, R.st, Env.put, Env.kill]
    refine (seq_nx (ρ' := ⟨[some (.frz (.scr ns)), some (.frz (.lst wordsD)), some (.frz (.str w)), some (.frz (.int (cell ns 1 % 1000001))), none, none, none, none, none, none], []⟩) ?_).trans ?_
    · simp [sSet, eFz, eBin, eCall, esCons, esNil, frzs, eVarF, eVar, eC, Env.get, c1, FR.toR, opMod, opPow, opAdd, R.ofO, R.bind, R.st, Env.put, Env.kill]
    refine (seq_nx (ρ' := ⟨[some (.frz (.scr ns)), some (.frz (.lst wordsD)), some (.frz (.str w)), some (.frz (.int (cell ns 1 % 1000001))), some (.frz (.int (cell ns 2 % 1000001))), none, none, none, none, none], []⟩) ?_).trans ?_
    · simp [sSet, eFz, eBin, eCall, esCons, esNil, frzs, eVarF, eVar, eC, Env.get, c2, FR.toR, opMod, opPow, opAdd, R.ofO, R.bind, R.st, Env.put, Env.kill]
    refine (seq_nx (ρ' := ⟨[some (.frz (.scr ns)), some (.frz (.lst wordsD)), some (.frz (.str w)), some (.frz (.int (cell ns 1 % 1000001))), some (.frz (.int (cell ns 2 % 1000001))), some (.frz (.int (cell ns 3 % 1000001))), none, none, none, none], []⟩) ?_).trans ?_
    · simp [sSet, eFz, eBin, eCall, esCons, esNil, frzs, eVarF, eVar, eC, Env.get, c3, FR.toR, opMod, opPow, opAdd, R.ofO, R.bind, R.st, Env.put, Env.kill]
    refine (seq_nx (ρ' := r6 ns w (cell ns 1 % 1000001) (cell ns 2 % 1000001) (cell ns 3 % 1000001) none none none) ?_).trans ?_
    · simp [sSet, eF, eFz, eBin, eCall, esCons, esNil, frzs, eVarF, eVar, eC, Env.get, c4, FR.toR, opMod, eSl, ptAt, ptNo, opSl, m_errors, O.toD, R.ofO, R.bind, R.st, Env.put, Env.kill, r6, errs]
    rw [seq_nx (loop_ok ns w _ _ _)]
    refine (seq_nx (ρ' := r6 ns w (cell ns 1 % 1000001) (cell ns 2 % 1000001) (cell ns 3 % 1000001) (some (.frz (.int 14))) none none) ?_).trans ?_
    · simp [sIf, tOr, tNot, tOf, tBl, truO, eBin, eCall, esCons, esNil, frzs, eUn, opXf, Z, eVar, eC, Env.get, opIx, atI, ixN, r6, errs, opNe, eqO, O.toD, okE, eqD, m_whole, FR.toR, R.ofO, R.bind, R.st, sNil, List.lookup, S]
    refine (seq_nx (ρ' := r6 ns w (cell ns 1 % 1000001) (cell ns 2 % 1000001) (cell ns 3 % 1000001) (some (.frz (.int 14))) none none) ?_).trans ?_
    · simp [sIf, tOr, tNot, tOf, tBl, truO, eBin, eCall, esCons, esNil, frzs, eUn, opXf, Z, eVar, eC, Env.get, opIx, atI, ixN, r6, errs, opNe, eqO, O.toD, okE, eqD, m_whole, FR.toR, R.ofO, R.bind, R.st, sNil, List.lookup, S]
    refine (seq_nx (ρ' := r6 ns w (cell ns 1 % 1000001) (cell ns 2 % 1000001) (cell ns 3 % 1000001) (some (.frz (.int 14))) (some (.frz (.xo 0 []))) none) ?_).trans ?_
    · simp [sSet, eMk, mkOwn, esCons, esNil, eVar, Env.get, R.ofO, R.bind, R.st, r6, Env.put, Env.kill]
    generalize cell ns 1 % 1000001 = p
    generalize cell ns 2 % 1000001 = l
    generalize cell ns 3 % 1000001 = a
    clear hp s1 hw
    kernel_rfl
  have e : m_law [.scr ns] = (match b_law ⟨[some (.frz (.scr ns)), none, none, none, none, none, none, none, none, none], []⟩ with
    | .nx _ => .ok (.frz .non)
    | .ret o _ => .ok o
    | .ex x _ => .ex x
    | _ => .bad) := rfl
  rw [e, key]
end K06


open PySem PySem.W PySem.Calls PyProof.Rows
theorem PySem.Challenge.cw_knotwise_k06_refusals_made_holds : PySem.Challenge.rw_knotwise_k06_refusals_made.Holds := by
  w_on; o_law
  refine HandSHeadRun.head_any (r := OpenLaw.row PySem.Challenge.rw_knotwise_k06_refusals_made) (q := view (OpenLaw.row PySem.Challenge.rw_knotwise_k06_refusals_made).prog [22]) (H := K06.hk) (ob := K06.ob) (M := 30000) (loose := K06.loose) (d := HandSHeadRun.topDef (OpenLaw.row PySem.Challenge.rw_knotwise_k06_refusals_made).prog 22) (kwd := []) K06.ob_eq
    (by kernel_rfl) (fun s => by kernel_rfl) K06.run (by kernel_rfl) (by kernel_rfl) (by kernel_rfl) (by rfl) (by first | assumption | decide +kernel) (by decide +kernel) ⟨rfl, rfl, rfl, rfl, rfl, by decide +kernel⟩ ?hw ?hc
  case hw => w_witness2
  case hc =>
    refine Vs.walkV (l := PySem.Challenge.rw_knotwise_k06_refusals_made) (n := 63) (k := 4) (x := "_law_script") rfl (by decide) (by kernel_rfl) ⟨rfl, by decide, by decide⟩ ?F
    intro w mg fl hp Y G hmg0
    obtain ⟨K, KX, c⟩ := Y
    have hmg : mg ("law" : PySem.Str) = some (.ref fl) := by
      have e : (HandSHeadRun.topDef (OpenLaw.row PySem.Challenge.rw_knotwise_k06_refusals_made).prog 22).name = ("law" : PySem.Str) := by kernel_rfl
      rw [← e]
      exact hmg0
    obtain ⟨fd, hb, hF⟩ := K06.facts (P := (PySem.Challenge.rw_knotwise_k06_refusals_made).prog) (w := w) KX G hmg c
    exact ⟨K, fd, _, KX, hb, fun H a ns hl hbits hS => Vs.law_sp hS (K06.law_ok ns), hF⟩


