import PyProof.Rows.All
import Wide.All
import OpenK.AllK
import Wide.FinOn
import OpenK.ZSim
import Lean
import PySem.Challenge.RW_xw0110_01
set_option Elab.async false
set_option autoImplicit false
set_option linter.unusedVariables false
set_option linter.unusedSimpArgs false

section
namespace Mine
open PySem PySem.W

inductive V where
  | no | nn
  | bo (b : Bool)
  | it (i : Int)
  | rf (k : Nat)
inductive O where
  | li (vs : List V)
  | tu (vs : List V)
  | ce (v : V)
  | fz (vs : List V) (ob : Obj)
structure St where
  n : Nat
  os : List O
inductive RE where
  | bad
  | ok (v : V) (σ : St)
inductive RB where
  | bad
  | ok (b : Bool) (σ : St)
inductive RL where
  | bad
  | ok (vs : List V) (σ : St)
inductive RS where
  | bad
  | nx (loc : List V) (σ : St)
  | rt (v : V) (σ : St)
abbrev EF := List V → St → RE
abbrev TF := List V → St → RB
abbrev LF := List V → St → RL
abbrev SF := List V → St → RS
abbrev FF := List V → St → RE

section force
universe u
variable {α : Type u}
noncomputable def fN (n : Nat) (k : Nat → α) : α := Nat.rec (motive := fun _ => α) (k 0) (fun m _ => k (Nat.succ m)) n
noncomputable def fI (i : Int) (k : Int → α) : α := Int.rec (motive := fun _ => α) (fun n => fN n fun n => k (Int.ofNat n)) (fun n => fN n fun n => k (Int.negSucc n)) i
noncomputable def fB (b : Bool) (k : Bool → α) : α := Bool.rec (motive := fun _ => α) (k false) (k true) b
noncomputable def fV (v : V) (k : V → α) : α :=
  V.rec (motive := fun _ => α) (k .no) (k .nn) (fun b => fB b fun b => k (.bo b)) (fun i => fI i fun i => k (.it i)) (fun n => fN n fun n => k (.rf n)) v
noncomputable def fL (l : List V) : (List V → α) → α := List.rec (motive := fun _ => (List V → α) → α) (fun k => k []) (fun v _ ih k => fV v fun v => ih fun r => k (v :: r)) l
noncomputable def fO (o : O) (k : O → α) : α := O.rec (motive := fun _ => α) (fun vs => fL vs fun vs => k (.li vs)) (fun vs => fL vs fun vs => k (.tu vs)) (fun v => fV v fun v => k (.ce v)) (fun vs ob => k (.fz vs ob)) o
end force

noncomputable def nth (l : List V) : Nat → V := List.rec (motive := fun _ => Nat → V) (fun _ => .no) (fun v _ ih n => Nat.rec (motive := fun _ => V) v (fun m _ => ih m) n) l
noncomputable def nthO (l : List O) : Nat → O := List.rec (motive := fun _ => Nat → O) (fun _ => .ce .no) (fun v _ ih n => Nat.rec (motive := fun _ => O) v (fun m _ => ih m) n) l
noncomputable def put (l : List V) : Nat → V → (List V → RS) → RS :=
  List.rec (motive := fun _ => Nat → V → (List V → RS) → RS) (fun _ _ _ => .bad) (fun x xs ih n v k => Nat.rec (motive := fun _ => RS) (k (v :: xs)) (fun m _ => ih m v fun r => k (x :: r)) n) l
noncomputable def putE (l : List V) : Nat → V → (List V → RE) → RE :=
  List.rec (motive := fun _ => Nat → V → (List V → RE) → RE) (fun _ _ _ => .bad) (fun x xs ih n v k => Nat.rec (motive := fun _ => RE) (k (v :: xs)) (fun m _ => ih m v fun r => k (x :: r)) n) l
section
universe u
variable {α : Type u}
noncomputable def putO (l : List O) : Nat → O → (List O → α) → α :=
  List.rec (motive := fun _ => Nat → O → (List O → α) → α) (fun _ _ k => k []) (fun x xs ih n v k => Nat.rec (motive := fun _ => α) (k (v :: xs)) (fun m _ => ih m v fun r => k (x :: r)) n) l
noncomputable def new (o : O) (σ : St) (k : V → St → α) : α :=
  St.rec (motive := fun _ => α) (fun n os => fO o fun o => fN n fun n => k (.rf n) ⟨Nat.succ n, o :: os⟩) σ
noncomputable def upd (i : Nat) (o : O) (σ : St) (k : St → α) : α :=
  St.rec (motive := fun _ => α) (fun n os => fO o fun o => putO os (n - 1 - i) o fun os => k ⟨n, os⟩) σ
end
noncomputable def get (σ : St) (i : Nat) : O := St.rec (motive := fun _ => O) (fun n os => nthO os (n - 1 - i)) σ
noncomputable def lenV (l : List V) : Nat := List.rec (motive := fun _ => Nat) 0 (fun _ _ ih => Nat.succ ih) l

-- expressions
noncomputable def eV (v : V) : EF := fun _ σ => .ok v σ
noncomputable def eLoc (n : Nat) : EF := fun loc σ => V.rec (motive := fun _ => RE) .bad (.ok .nn σ) (fun b => .ok (.bo b) σ) (fun i => .ok (.it i) σ) (fun k => .ok (.rf k) σ) (nth loc n)
noncomputable def okV (σ : St) (v : V) : RE := V.rec (motive := fun _ => RE) .bad (.ok .nn σ) (fun b => .ok (.bo b) σ) (fun i => .ok (.it i) σ) (fun k => .ok (.rf k) σ) v
noncomputable def eCel (n : Nat) : EF := fun loc σ => match nth loc n with
  | .rf k => (match get σ k with
    | .ce v => okV σ v
    | _ => .bad)
  | _ => .bad

inductive BO where | add | sub | mul | div | mod | shl | shr | and | or | xor | pow
def lim64 : Nat := 18446744073709551616
def lim30 : Nat := 1073741824
def nlt (a b : Nat) : Bool := Nat.ble (Nat.succ a) b
def iabs : Int → Nat
  | .ofNat n => n
  | .negSucc n => Nat.succ n
noncomputable def okI (i : Int) (σ : St) : RE := fI i fun i => .ok (.it i) σ
def intOp : BO → Int → Int → St → RE
  | .add, a, b, σ => .ok (.it (Int.add a b)) σ
  | .sub, a, b, σ => .ok (.it (Int.sub a b)) σ
  | .mul, a, b, σ => bif nlt (iabs a) lim64 then .ok (.it (Int.mul a b)) σ else bif nlt (iabs b) lim64 then .ok (.it (Int.mul a b)) σ else .bad
  | .div, a, b, σ => bif Z.eqB b (.ofNat 0) then .bad else bif nlt (iabs b) lim30 then .ok (.it (Int.fdiv a b)) σ else .bad
  | .mod, a, b, σ => bif Z.eqB b (.ofNat 0) then .bad else .ok (.it (Int.fmod a b)) σ
  | .shl, a, b, σ => match b with
    | .ofNat n => bif nlt n 1000 then bif nlt (iabs a) lim64 then .ok (.it (Int.mul a (.ofNat (Nat.pow 2 n)))) σ else .bad else .bad
    | .negSucc _ => .bad
  | .shr, a, b, σ => match b with
    | .ofNat n => .ok (.it (Int.fdiv a (.ofNat (Nat.pow 2 n)))) σ
    | .negSucc _ => .bad
  | .and, a, b, σ => match a, b with
    | .ofNat m, .ofNat n => .ok (.it (.ofNat (Nat.land m n))) σ
    | _, _ => .bad
  | .or, a, b, σ => match a, b with
    | .ofNat m, .ofNat n => .ok (.it (.ofNat (Nat.lor m n))) σ
    | _, _ => .bad
  | .xor, a, b, σ => match a, b with
    | .ofNat m, .ofNat n => .ok (.it (Int.sub (.ofNat (Nat.lor m n)) (.ofNat (Nat.land m n)))) σ
    | _, _ => .bad
  | .pow, a, b, σ => match b with
    | .ofNat n => bif nlt n 1000 then bif nlt (iabs a) lim64 then (match a with
      | .ofNat m => .ok (.it (.ofNat (Nat.pow m n))) σ
      | .negSucc _ => .bad) else .bad else .bad
    | .negSucc _ => .bad

noncomputable def addO (a b : O) (σ : St) : RE := match a, b with
  | .li xs, .li ys => bif nlt (lenV xs + lenV ys) 100000 then new (.li (xs ++ ys)) σ fun v σ => .ok v σ else .bad
  | .tu xs, .tu ys => bif nlt (lenV xs + lenV ys) 100000 then (match xs, ys with
    | _ :: _, _ :: _ => new (.tu (xs ++ ys)) σ fun v σ => .ok v σ
    | _, _ => .bad) else .bad
  | _, _ => .bad
noncomputable def rep (v : V) (n : Nat) : List V := Nat.rec (motive := fun _ => List V) [] (fun _ ih => v :: ih) n
noncomputable def mulO (a : O) (b : Int) (σ : St) : RE := match a, b with
  | .li [x], .ofNat n => bif nlt n 100000 then new (.li (rep x n)) σ fun v σ => .ok v σ else .bad
  | _, _ => .bad
noncomputable def bin (op : BO) (a b : V) (σ : St) : RE := match a, b with
  | .it a, .it b => intOp op a b σ
  | .rf i, .rf j => (match op with | .add => addO (get σ i) (get σ j) σ | _ => .bad)
  | .rf i, .it b => (match op with | .mul => mulO (get σ i) b σ | _ => .bad)
  | _, _ => .bad
noncomputable def eBin (op : BO) (f g : EF) : EF := fun loc σ => match f loc σ with
  | .bad => .bad
  | .ok a σ => (match g loc σ with
    | .bad => .bad
    | .ok b σ => bin op a b σ)
noncomputable def eNeg (f : EF) : EF := fun loc σ => match f loc σ with
  | .ok (.it i) σ => .ok (.it (Int.neg i)) σ
  | _ => .bad

-- several expressions
noncomputable def lNil : LF := fun _ σ => .ok [] σ
noncomputable def lCons (f : EF) (g : LF) : LF := fun loc σ => match f loc σ with
  | .bad => .bad
  | .ok v σ => (match g loc σ with
    | .bad => .bad
    | .ok vs σ => .ok (v :: vs) σ)
noncomputable def eList (g : LF) : EF := fun loc σ => match g loc σ with
  | .bad => .bad
  | .ok vs σ => bif nlt (lenV vs) 100000 then new (.li vs) σ fun v σ => .ok v σ else .bad
noncomputable def eTup (g : LF) : EF := fun loc σ => match g loc σ with
  | .bad => .bad
  | .ok vs σ => bif nlt (lenV vs) 100000 then new (.tu vs) σ fun v σ => .ok v σ else .bad
noncomputable def eCall (F : FF) (g : LF) : EF := fun loc σ => match g loc σ with
  | .bad => .bad
  | .ok vs σ => fL vs fun vs => F vs σ
def intsOnly : List V → Bool
  | [] => true
  | .it _ :: r => intsOnly r
  | _ :: _ => false
def scal : List V → Bool
  | [] => true
  | .it _ :: r => scal r
  | .nn :: r => scal r
  | .bo _ :: r => scal r
  | .no :: _ => false
  | .rf _ :: _ => false
noncomputable def flat (v : V) (τ σ : St) : RE := match v with
  | .rf k => (match get τ k with
    | .li vs => bif scal vs then new (.li vs) σ fun v σ => .ok v σ else .bad
    | _ => .bad)
  | v => okV σ v
-- a call with ints alone, run upon an empty store; what comes back is flat
noncomputable def eCallZ (F : FF) (g : LF) : EF := fun loc σ => match g loc σ with
  | .bad => .bad
  | .ok vs σ => bif intsOnly vs then fL vs fun vs => (match F vs ⟨0, []⟩ with
    | .bad => .bad
    | .ok v τ => flat v τ σ) else .bad
noncomputable def bi1 (k : V → St → RE) (g : LF) : EF := fun loc σ => match g loc σ with
  | .ok [v] σ => k v σ
  | _ => .bad
noncomputable def kLen (v : V) (σ : St) : RE := match v with
  | .rf i => (match get σ i with
    | .li vs => bif nlt (lenV vs) 100000 then .ok (.it (.ofNat (lenV vs))) σ else .bad
    | _ => .bad)
  | _ => .bad
def kAbs (v : V) (σ : St) : RE := match v with
  | .it i => .ok (.it (.ofNat (iabs i))) σ
  | _ => .bad
def kInt (v : V) (σ : St) : RE := match v with
  | .it i => .ok (.it i) σ
  | _ => .bad
noncomputable def kTup (v : V) (σ : St) : RE := match v with
  | .rf i => (match get σ i with
    | .li vs => bif nlt (lenV vs) 100000 then new (.tu vs) σ fun v σ => .ok v σ else .bad
    | _ => .bad)
  | _ => .bad
def intsV : List V → Option (List Int)
  | [] => some []
  | .it i :: r => (match intsV r with
    | some l => some (i :: l)
    | none => none)
  | _ :: _ => none
def insI (i : Int) : List Int → List Int
  | [] => [i]
  | j :: r => bif Z.leB i j then i :: j :: r else j :: insI i r
def sortI : List Int → List Int
  | [] => []
  | i :: r => insI i (sortI r)
def itsV : List Int → List V
  | [] => []
  | i :: r => .it i :: itsV r
noncomputable def kSort (v : V) (σ : St) : RE := match v with
  | .rf i => (match get σ i with
    | .tu vs => bif nlt (lenV vs) 64 then (match intsV vs with
      | some l => new (.li (itsV (sortI l))) σ fun v σ => .ok v σ
      | none => .bad) else .bad
    | _ => .bad)
  | _ => .bad
noncomputable def bi2 (k : V → V → St → RE) (g : LF) : EF := fun loc σ => match g loc σ with
  | .ok [v, u] σ => k v u σ
  | _ => .bad
def kMin (a b : V) (σ : St) : RE := match a, b with
  | .it a, .it b => .ok (.it (bif Z.ltB b a then b else a)) σ
  | _, _ => .bad
def nlog (n : Nat) : Nat := Nat.log2 n
def kBit (v : V) (σ : St) : RE := match v with
  | .it (.ofNat 0) => .ok (.it (.ofNat 0)) σ
  | .it (.ofNat n) => .ok (.it (.ofNat (Nat.log2 n + 1))) σ
  | _ => .bad
noncomputable def eBit (f : EF) : EF := fun loc σ => match f loc σ with
  | .bad => .bad
  | .ok v σ => kBit v σ
-- an item, a cut
def idx (i : Int) (n : Nat) : Nat := match i with
  | .ofNat k => k
  | .negSucc k => bif nlt k n then n - Nat.succ k else n
noncomputable def item (a b : V) (σ : St) : RE := match a, b with
  | .rf i, .it k => (match get σ i with
    | .li vs => bif nlt (lenV vs) 100000 then okV σ (nth vs (idx k (lenV vs))) else .bad
    | _ => .bad)
  | _, _ => .bad
noncomputable def eSub (f g : EF) : EF := fun loc σ => match f loc σ with
  | .bad => .bad
  | .ok a σ => (match g loc σ with
    | .bad => .bad
    | .ok b σ => item a b σ)
noncomputable def takeV (l : List V) : Nat → List V := List.rec (motive := fun _ => Nat → List V) (fun _ => []) (fun v _ ih n => Nat.rec (motive := fun _ => List V) [] (fun m _ => v :: ih m) n) l
def dropV : Nat → List V → List V
  | 0, l => l
  | n + 1, l => (match l with
    | [] => []
    | _ :: r => dropV n r)
noncomputable def revV (l : List V) : List V → List V := List.rec (motive := fun _ => List V → List V) (fun a => a) (fun v _ ih a => ih (v :: a)) l
-- x[:], x[::-1], x[:b], x[a:b] (0 <= a, b)
noncomputable def cutAll (r : Bool) (f : EF) : EF := fun loc σ => match f loc σ with
  | .ok (.rf i) σ => (match get σ i with
    | .li vs => bif nlt (lenV vs) 100000 then new (.li (bif r then revV vs [] else vs)) σ fun v σ => .ok v σ else .bad
    | _ => .bad)
  | _ => .bad
noncomputable def cutTo (f g : EF) : EF := fun loc σ => match f loc σ with
  | .ok (.rf i) σ => (match g loc σ with
    | .ok (.it (.ofNat b)) σ => (match get σ i with
      | .li vs => bif nlt (lenV vs) 100000 then new (.li (takeV vs b)) σ fun v σ => .ok v σ else .bad
      | .fz vs _ => bif nlt (lenV vs) 100000 then new (.li (takeV vs b)) σ fun v σ => .ok v σ else .bad
      | _ => .bad)
    | _ => .bad)
  | _ => .bad
noncomputable def cutOf (f g h : EF) : EF := fun loc σ => match f loc σ with
  | .ok (.rf i) σ => (match g loc σ with
    | .ok (.it (.ofNat a)) σ => (match h loc σ with
      | .ok (.it (.ofNat b)) σ => (match get σ i with
        | .li vs => bif Nat.ble a b then bif Nat.ble b (lenV vs) then bif nlt (lenV vs) 100000 then new (.li (takeV (dropV a vs) (b - a))) σ fun v σ => .ok v σ else .bad else .bad else .bad
        | _ => .bad)
      | _ => .bad)
    | _ => .bad)
  | _ => .bad
-- tests
inductive CO where | lt | le | gt | ge | eq | ne
def cmpI : CO → Int → Int → Bool
  | .lt, a, b => Z.ltB a b
  | .le, a, b => Z.leB a b
  | .gt, a, b => Z.ltB b a
  | .ge, a, b => Z.leB b a
  | .eq, a, b => Z.eqB a b
  | .ne, a, b => !Z.eqB a b
inductive D where
  | nn
  | it (i : Int)
  | li (ds : List D)
  | tu (ds : List D)
noncomputable def rdL (f : V → Option D) (l : List V) : Option (List D) := List.rec (motive := fun _ => Option (List D)) (some []) (fun v _ ih => match f v with
  | none => none
  | some d => (match ih with
    | none => none
    | some ds => some (d :: ds))) l
noncomputable def rd (σ : St) (n : Nat) : V → Option D := Nat.rec (motive := fun _ => V → Option D) (fun _ => none) (fun _ ih v => match v with
  | .no => none
  | .nn => some .nn
  | .bo _ => none
  | .it i => some (.it i)
  | .rf k => (match get σ k with
    | .li vs => (match rdL ih vs with
      | none => none
      | some ds => some (.li ds))
    | .tu vs => (match rdL ih vs with
      | none => none
      | some ds => some (.tu ds))
    | _ => none)) n
noncomputable def eqL (f : D → D → Bool) (l : List D) : List D → Bool := List.rec (motive := fun _ => List D → Bool) (fun l => match l with | [] => true | _ :: _ => false) (fun d _ ih l => match l with
  | [] => false
  | e :: r => bif f d e then ih r else false) l
noncomputable def eqD (n : Nat) : D → D → Bool := Nat.rec (motive := fun _ => D → D → Bool) (fun _ _ => false) (fun _ ih d e => match d, e with
  | .nn, .nn => true
  | .it i, .it j => Z.eqB i j
  | .li ds, .li es => eqL ih ds es
  | .tu ds, .tu es => eqL ih ds es
  | _, _ => false) n
noncomputable def anyD (f : D → Bool) (l : List D) : Bool := List.rec (motive := fun _ => Bool) false (fun d _ ih => bif f d then true else ih) l
noncomputable def cmpV (op : CO) (a b : V) (σ : St) : RB := match a, b with
  | .it i, .it j => .ok (cmpI op i j) σ
  | .rf i, .rf j => (match rd σ 5 (.rf i), rd σ 5 (.rf j) with
    | some d, some e => (match op with
      | .eq => .ok (eqD 5 d e) σ
      | .ne => .ok (!eqD 5 d e) σ
      | _ => .bad)
    | _, _ => .bad)
  | _, _ => .bad
noncomputable def tCmp (op : CO) (f g : EF) : TF := fun loc σ => match f loc σ with
  | .bad => .bad
  | .ok a σ => (match g loc σ with
    | .bad => .bad
    | .ok b σ => cmpV op a b σ)
noncomputable def tNotIn (f g : EF) : TF := fun loc σ => match f loc σ with
  | .bad => .bad
  | .ok a σ => (match g loc σ with
    | .ok (.rf i) σ => (match rd σ 5 a, rd σ 5 (.rf i) with
      | some d, some (.li es) => .ok (!anyD (fun e => eqD 5 e d) es) σ
      | some d, some (.tu es) => .ok (!anyD (fun e => eqD 5 e d) es) σ
      | _, _ => .bad)
    | _ => .bad)
noncomputable def tNotNone (f : EF) : TF := fun loc σ => match f loc σ with
  | .bad => .bad
  | .ok .no _ => .bad
  | .ok .nn σ => .ok false σ
  | .ok _ σ => .ok true σ
noncomputable def tAnd (f g : TF) : TF := fun loc σ => match f loc σ with
  | .bad => .bad
  | .ok true σ => g loc σ
  | .ok false σ => .ok false σ
noncomputable def tOr (f g : TF) : TF := fun loc σ => match f loc σ with
  | .bad => .bad
  | .ok true σ => .ok true σ
  | .ok false σ => g loc σ
noncomputable def eIf (t : TF) (f g : EF) : EF := fun loc σ => match t loc σ with
  | .bad => .bad
  | .ok true σ => f loc σ
  | .ok false σ => g loc σ
-- statements
noncomputable def sNil : SF := fun loc σ => .nx loc σ
noncomputable def sSeq (f g : SF) : SF := fun loc σ => match f loc σ with
  | .nx loc σ => g loc σ
  | r => r
noncomputable def sRet (f : EF) : SF := fun loc σ => match f loc σ with
  | .bad => .bad
  | .ok v σ => fV v fun v => .rt v σ
noncomputable def sDrop (f : EF) : SF := fun loc σ => match f loc σ with
  | .bad => .bad
  | .ok _ σ => .nx loc σ
def sBad : SF := fun _ _ => .bad
-- a target: false n: a local; true n: a cell
noncomputable def tgt (c : Bool) (n : Nat) (v : V) (loc : List V) (σ : St) : RS := match c with
  | false => fV v fun v => put loc n v fun loc => .nx loc σ
  | true => (match nth loc n with
    | .rf k => (match get σ k with
      | .ce _ => upd k (.ce v) σ fun σ => .nx loc σ
      | _ => .bad)
    | _ => .bad)
noncomputable def tgts (ts : List (Bool × Nat)) : List V → List V → St → RS := List.rec (motive := fun _ => List V → List V → St → RS)
  (fun vs loc σ => match vs with | [] => .nx loc σ | _ :: _ => .bad)
  (fun t _ ih vs loc σ => match vs with
    | [] => .bad
    | v :: vs => (match tgt t.1 t.2 v loc σ with
      | .nx loc σ => ih vs loc σ
      | r => r)) ts
noncomputable def sAsg (c : Bool) (n : Nat) (f : EF) : SF := fun loc σ => match f loc σ with
  | .bad => .bad
  | .ok v σ => tgt c n v loc σ
noncomputable def sUnpD (ts : List (Bool × Nat)) (g : LF) : SF := fun loc σ => match g loc σ with
  | .bad => .bad
  | .ok vs σ => fL vs fun vs => bif nlt (lenV vs) 100 then tgts ts vs loc σ else .bad
noncomputable def sUnpS (ts : List (Bool × Nat)) (g : LF) : SF := fun loc σ => match g loc σ with
  | .bad => .bad
  | .ok vs σ => fL vs fun vs => bif nlt (lenV vs) 100 then tgts ts (revV vs []) loc σ else .bad
noncomputable def sUnpC (ts : List (Bool × Nat)) (f : EF) : SF := fun loc σ => match f loc σ with
  | .ok (.rf i) σ => (match get σ i with
    | .tu vs => tgts ts vs loc σ
    | _ => .bad)
  | _ => .bad
noncomputable def ldV (c : Bool) (n : Nat) : EF := match c with
  | false => eLoc n
  | true => eCel n
noncomputable def sAug (op : BO) (n : Nat) (f : EF) : SF := fun loc σ => match eLoc n loc σ with
  | .bad => .bad
  | .ok a σ => (match f loc σ with
    | .bad => .bad
    | .ok b σ => (match a, b with
      | .it i, .it j => (match intOp op i j σ with
        | .bad => .bad
        | .ok v σ => tgt false n v loc σ)
      | _, _ => .bad))
noncomputable def sSub (o i e : EF) : SF := fun loc σ => match e loc σ with
  | .bad => .bad
  | .ok v σ => (match o loc σ with
    | .ok (.rf k) σ => (match i loc σ with
      | .ok (.it (.ofNat j)) σ => (match get σ k with
        | .li vs => fV v fun v => put vs j v fun ws => bif nlt (lenV vs) 100000 then upd k (.li ws) σ fun σ => .nx loc σ else .bad
        | _ => .bad)
      | _ => .bad)
    | _ => .bad)
noncomputable def sApp (o e : EF) : SF := fun loc σ => match o loc σ with
  | .ok (.rf k) σ => (match get σ k with
    | .li _ => (match e loc σ with
      | .bad => .bad
      | .ok v σ => (match get σ k with
        | .li vs => bif nlt (lenV vs) 100000 then upd k (.li (vs ++ [v])) σ fun σ => .nx loc σ else .bad
        | _ => .bad))
    | _ => .bad)
  | _ => .bad
noncomputable def sIf (t : TF) (f g : SF) : SF := fun loc σ => match t loc σ with
  | .bad => .bad
  | .ok true σ => f loc σ
  | .ok false σ => g loc σ
noncomputable def sWhile (fuel : Nat) (t : TF) (f : SF) : SF := Nat.rec (motive := fun _ => SF) (fun _ _ => .bad) (fun _ ih loc σ => match t loc σ with
  | .bad => .bad
  | .ok false σ => .nx loc σ
  | .ok true σ => (match f loc σ with
    | .nx loc σ => ih loc σ
    | r => r)) fuel
-- what is gone through, and how far it is
inductive It where
  | rg (i st : Int) (n : Nat)
  | ls (k i : Nat)
  | ts (k i : Nat)
inductive NX where
  | bad
  | stop
  | item (v : V) (j : It)
inductive RI where
  | bad
  | ok (j : It) (σ : St)
abbrev IF := List V → St → RI
noncomputable def fIt {α : Type} (j : It) (k : It → α) : α := It.rec (motive := fun _ => α) (fun i st n => fI i fun i => fI st fun st => fN n fun n => k (.rg i st n)) (fun a i => fN a fun a => fN i fun i => k (.ls a i)) (fun a i => fN a fun a => fN i fun i => k (.ts a i)) j
noncomputable def nextI (j : It) (σ : St) : NX := match j with
  | .rg i st n => (match n with
    | 0 => .stop
    | n + 1 => .item (.it i) (.rg (Int.add i st) st n))
  | .ls k i => (match get σ k with
    | .li vs => bif nlt i (lenV vs) then .item (nth vs i) (.ls k (Nat.succ i)) else .stop
    | _ => .bad)
  | .ts k i => (match get σ k with
    | .tu vs => bif nlt i (lenV vs) then .item (nth vs i) (.ts k (Nat.succ i)) else .stop
    | _ => .bad)
def few (i : Int) : Bool := nlt (iabs i) 1000000
-- what a range gives
def rng (vs : List V) : Option It := match vs with
  | [.it b] => bif few b then some (.rg (.ofNat 0) (.ofNat 1) (Int.toNat (Int.sub b (.ofNat 0)))) else none
  | [.it a, .it b] => bif few a then bif few b then some (.rg a (.ofNat 1) (Int.toNat (Int.sub b a))) else none else none
  | [.it a, .it b, .it (.negSucc 0)] => bif few a then bif few b then some (.rg a (.negSucc 0) (Int.toNat (Int.sub a b))) else none else none
  | [.it a, .it b, .it (.ofNat _)] => none
  | _ => none
noncomputable def srcR (g : LF) : IF := fun loc σ => match g loc σ with
  | .bad => .bad
  | .ok vs σ => (match rng vs with
    | none => .bad
    | some j => fIt j fun j => .ok j σ)
noncomputable def srcS (f : EF) : IF := fun loc σ => match f loc σ with
  | .ok (.rf k) σ => (match get σ k with
    | .li _ => .ok (.ls k 0) σ
    | .tu _ => .ok (.ts k 0) σ
    | _ => .bad)
  | _ => .bad
noncomputable def goI (c : Bool) (x : Nat) (f : SF) (fuel : Nat) : It → SF := Nat.rec (motive := fun _ => It → SF) (fun _ _ _ => .bad) (fun _ ih j loc σ => match nextI j σ with
  | .bad => .bad
  | .stop => .nx loc σ
  | .item v j => (match tgt c x v loc σ with
    | .nx loc σ => (match f loc σ with
      | .nx loc σ => fIt j fun j => ih j loc σ
      | r => r)
    | r => r)) fuel
noncomputable def sFor (c : Bool) (x : Nat) (g : IF) (f : SF) : SF := fun loc σ => match g loc σ with
  | .bad => .bad
  | .ok j σ => goI c x f 100000 j loc σ
noncomputable def goE (xi x : Nat) (k : Nat) (f : SF) (fuel : Nat) : Nat → SF := Nat.rec (motive := fun _ => Nat → SF) (fun _ _ _ => .bad) (fun _ ih i loc σ => match get σ k with
  | .li vs => bif nlt i (lenV vs) then (match tgts [(false, xi), (false, x)] [.it (.ofNat i), nth vs i] loc σ with
    | .nx loc σ => (match f loc σ with
      | .nx loc σ => ih (Nat.succ i) loc σ
      | r => r)
    | r => r) else .nx loc σ
  | _ => .bad) fuel
noncomputable def sForE (xi x : Nat) (e : EF) (f : SF) : SF := fun loc σ => match e loc σ with
  | .ok (.rf k) σ => (match get σ k with
    | .li _ => goE xi x k f 100000 0 loc σ
    | _ => .bad)
  | _ => .bad
-- comprehensions: the block's locals are the variable and what it keeps of the outer block's
noncomputable def caps (ns : List Nat) (loc : List V) : List V := List.rec (motive := fun _ => List V) [] (fun n _ ih => nth loc n :: ih) ns
noncomputable def cgI (f : EF) (cs : List V) (fuel : Nat) : It → St → RL := Nat.rec (motive := fun _ => It → St → RL) (fun _ _ => .bad) (fun _ ih j σ => match nextI j σ with
  | .bad => .bad
  | .stop => .ok [] σ
  | .item v j => fV v fun v => (match f (v :: cs) σ with
    | .bad => .bad
    | .ok v σ => fV v fun v => fIt j fun j => (match ih j σ with
      | .bad => .bad
      | .ok vs σ => .ok (v :: vs) σ))) fuel
noncomputable def eCmp (f : EF) (ns : List Nat) (g : IF) : EF := fun loc σ => match g loc σ with
  | .bad => .bad
  | .ok j σ => (match cgI f (caps ns loc) 10000 j σ with
    | .bad => .bad
    | .ok vs σ => new (.li vs) σ fun v σ => .ok v σ)
-- a def: np parameters, nl locals more; cells by place
noncomputable def mkCells (cs : List Nat) : List V → St → (List V → St → RE) → RE := List.rec (motive := fun _ => List V → St → (List V → St → RE) → RE)
  (fun loc σ k => k loc σ) (fun n _ ih loc σ k => new (.ce (nth loc n)) σ fun v σ => putE loc n v fun loc => ih loc σ k) cs
noncomputable def nos (n : Nat) : List V := Nat.rec (motive := fun _ => List V) [] (fun _ ih => .no :: ih) n
noncomputable def mkF (np nl : Nat) (cs : List Nat) (f : SF) : FF := fun vs σ => bif Nat.beq (lenV vs) np then fL (vs ++ nos nl) fun loc => mkCells cs loc σ fun loc σ => (match f loc σ with
  | .bad => .bad
  | .nx _ σ => .ok .nn σ
  | .rt v σ => .ok v σ) else .bad
end Mine
end

section
namespace Mine
open PySem PySem.W PySem.Spec PySem.Calls PyProof.Rows

-- what the evaluator's own functions are
section
universe u
variable {α : Type u}
theorem fN_eq (n : Nat) (k : Nat → α) : fN n k = k n := by cases n <;> rfl
theorem fI_eq (i : Int) (k : Int → α) : fI i k = k i := by
  cases i with
  | ofNat n => exact fN_eq n fun n => k (Int.ofNat n)
  | negSucc n => exact fN_eq n fun n => k (Int.negSucc n)
theorem fB_eq (b : Bool) (k : Bool → α) : fB b k = k b := by cases b <;> rfl
theorem fV_eq (v : V) (k : V → α) : fV v k = k v := by
  cases v with
  | no => rfl
  | nn => rfl
  | bo b => exact fB_eq b fun b => k (.bo b)
  | it i => exact fI_eq i fun i => k (.it i)
  | rf n => exact fN_eq n fun n => k (.rf n)
theorem fL_eq (l : List V) (k : List V → α) : fL l k = k l := by
  induction l generalizing k with
  | nil => rfl
  | cons v r ih =>
    show fV v (fun v => fL r fun r => k (v :: r)) = _
    rw [fV_eq, ih]
theorem fO_eq (o : O) (k : O → α) : fO o k = k o := by
  cases o with
  | li vs => exact fL_eq vs fun vs => k (.li vs)
  | tu vs => exact fL_eq vs fun vs => k (.tu vs)
  | ce v => exact fV_eq v fun v => k (.ce v)
  | fz vs ob => rfl
theorem putO_eq (l : List O) (n : Nat) (o : O) (k : List O → α) : putO l n o k = k (l.set n o) := by
  induction l generalizing n k with
  | nil => rfl
  | cons x r ih =>
    cases n with
    | zero => rfl
    | succ n => exact ih n _
theorem new_eq (o : O) (σ : St) (k : V → St → α) : new o σ k = k (.rf σ.n) ⟨σ.n + 1, o :: σ.os⟩ := by
  cases σ with
  | mk n os =>
    show fO o (fun o => fN n fun n => k (.rf n) ⟨Nat.succ n, o :: os⟩) = _
    rw [fO_eq, fN_eq]
theorem upd_eq (i : Nat) (o : O) (σ : St) (k : St → α) : upd i o σ k = k ⟨σ.n, σ.os.set (σ.n - 1 - i) o⟩ := by
  cases σ with
  | mk n os =>
    show fO o (fun o => putO os (n - 1 - i) o fun os => k ⟨n, os⟩) = _
    rw [fO_eq, putO_eq]
end
theorem nth_nil (n : Nat) : nth [] n = .no := rfl
theorem nth_zero (v : V) (l : List V) : nth (v :: l) 0 = v := rfl
theorem nth_succ (v : V) (l : List V) (n : Nat) : nth (v :: l) (n + 1) = nth l n := rfl
theorem nth_eq (l : List V) (n : Nat) : nth l n = (l[n]?).getD .no := by
  induction l generalizing n with
  | nil => simp [nth_nil]
  | cons v l ih => cases n with
    | zero => rfl
    | succ n => simp [nth_succ, ih]
theorem nthO_eq (l : List O) (n : Nat) : nthO l n = (l[n]?).getD (.ce .no) := by
  induction l generalizing n with
  | nil => rfl
  | cons v l ih => cases n with
    | zero => rfl
    | succ n => show nthO l n = _; rw [ih]; simp
theorem put_eq (l : List V) (n : Nat) (v : V) (k : List V → RS) : put l n v k = if n < l.length then k (l.set n v) else .bad := by
  induction l generalizing n k with
  | nil => rfl
  | cons x r ih =>
    cases n with
    | zero => rfl
    | succ n =>
      show put r n v (fun r => k (x :: r)) = _
      rw [ih]; simp
theorem putE_eq (l : List V) (n : Nat) (v : V) (k : List V → RE) : putE l n v k = if n < l.length then k (l.set n v) else .bad := by
  induction l generalizing n k with
  | nil => rfl
  | cons x r ih =>
    cases n with
    | zero => rfl
    | succ n =>
      show putE r n v (fun r => k (x :: r)) = _
      rw [ih]; simp
theorem lenV_eq (l : List V) : lenV l = l.length := by
  induction l with
  | nil => rfl
  | cons v l ih => show Nat.succ (lenV l) = _; rw [ih]; rfl
theorem get_eq (σ : St) (i : Nat) : get σ i = nthO σ.os (σ.n - 1 - i) := rfl
theorem nlt_iff {a b : Nat} : nlt a b = true ↔ a < b := ⟨fun h => Nat.le_of_ble_eq_true h, fun h => Nat.ble_eq_true_of_le h⟩
theorem cond_nlt {α : Type} {a b : Nat} {x y z : α} (h : (bif nlt a b then x else y) = z) (hy : y ≠ z) : a < b ∧ x = z := by
  cases q : nlt a b with
  | true => rw [q] at h; exact ⟨nlt_iff.mp q, h⟩
  | false => rw [q] at h; exact absurd h hy

-- values, objects, the store
def VR (N : Nat) (ρ : Nat → Addr) : V → Value → Prop
  | .no, _ => False
  | .nn, u => u = .none
  | .bo b, u => u = .bool b
  | .it i, u => ∃ t, u = .int i t
  | .rf k, u => k < N ∧ u = .ref (ρ k)
def VsR (N : Nat) (ρ : Nat → Addr) : List V → List Value → Prop
  | [], [] => True
  | v :: vs, u :: us => VR N ρ v u ∧ VsR N ρ vs us
  | _, _ => False
def OR (N : Nat) (ρ : Nat → Addr) : O → Obj → Prop
  | .li vs, o => ∃ us n, o = listOf (List.toArray us) n ∧ VsR N ρ vs us
  | .tu vs, o => ∃ us n, o = { cls := .type "tuple", data := .seq (List.toArray us) n } ∧ VsR N ρ vs us
  | .fz vs ob, o => o = ob ∧ ∃ us n, ob = listOf (List.toArray us) n ∧ VsR N ρ vs us
  | .ce .no, o => o.data = .cell none
  | .ce v, o => ∃ u, o.data = .cell (some u) ∧ VR N ρ v u
def SR (N : Nat) (ρ : Nat → Addr) : List O → List (Addr × Obj) → Prop
  | [], [] => True
  | o :: os, p :: ps => p.1 = ρ os.length ∧ OR N ρ o p.2 ∧ SR N ρ os ps
  | _, _ => False
structure Ext (N : Nat) (ρ : Nat → Addr) (N' : Nat) (ρ' : Nat → Addr) : Prop where
  le : N ≤ N'
  eq : ∀ i, i < N → ρ' i = ρ i
theorem Ext.rfl {N : Nat} {ρ : Nat → Addr} : Ext N ρ N ρ := ⟨Nat.le_refl _, fun _ _ => _root_.rfl⟩
theorem Ext.trans {N N' N'' : Nat} {ρ ρ' ρ'' : Nat → Addr} (a : Ext N ρ N' ρ') (b : Ext N' ρ' N'' ρ'') : Ext N ρ N'' ρ'' :=
  ⟨Nat.le_trans a.le b.le, fun i h => (b.eq i (Nat.lt_of_lt_of_le h a.le)).trans (a.eq i h)⟩
theorem VR.mono {N N' : Nat} {ρ ρ' : Nat → Addr} (e : Ext N ρ N' ρ') {v : V} {u : Value} (h : VR N ρ v u) : VR N' ρ' v u := by
  cases v with
  | no => exact h
  | nn => exact h
  | bo b => exact h
  | it i => exact h
  | rf k => exact ⟨Nat.lt_of_lt_of_le h.1 e.le, by rw [e.eq k h.1]; exact h.2⟩
theorem VsR.mono {N N' : Nat} {ρ ρ' : Nat → Addr} (e : Ext N ρ N' ρ') : ∀ {vs : List V} {us : List Value}, VsR N ρ vs us → VsR N' ρ' vs us
  | [], [], _ => trivial
  | _ :: _, _ :: _, h => ⟨h.1.mono e, h.2.mono e⟩
  | [], _ :: _, h => h.elim
  | _ :: _, [], h => h.elim
theorem VsR.len {N : Nat} {ρ : Nat → Addr} : ∀ {vs : List V} {us : List Value}, VsR N ρ vs us → vs.length = us.length
  | [], [], _ => rfl
  | _ :: _, _ :: _, h => congrArg (· + 1) h.2.len
  | [], _ :: _, h => h.elim
  | _ :: _, [], h => h.elim
theorem VsR.app {N : Nat} {ρ : Nat → Addr} : ∀ {vs ws : List V} {us ts : List Value}, VsR N ρ vs us → VsR N ρ ws ts → VsR N ρ (vs ++ ws) (us ++ ts)
  | [], _, [], _, _, h => h
  | _ :: _, _, _ :: _, _, h, h' => ⟨h.1, h.2.app h'⟩
  | [], _, _ :: _, _, h, _ => h.elim
  | _ :: _, _, [], _, h, _ => h.elim
theorem VsR.get {N : Nat} {ρ : Nat → Addr} : ∀ {vs : List V} {us : List Value} {i : Nat}, VsR N ρ vs us → i < vs.length → ∃ u, us[i]? = some u ∧ VR N ρ (nth vs i) u
  | _ :: _, u :: _, 0, h, _ => ⟨u, rfl, h.1⟩
  | _ :: _, _ :: _, i + 1, h, hi => by
    obtain ⟨u, e, r⟩ := h.2.get (i := i) (by simpa using hi)
    exact ⟨u, by simpa using e, r⟩
  | [], [], _, _, hi => absurd hi (Nat.not_lt_zero _)
  | [], _ :: _, _, h, _ => h.elim
  | _ :: _, [], _, h, _ => h.elim
theorem VsR.set {N : Nat} {ρ : Nat → Addr} {v : V} {u : Value} (hv : VR N ρ v u) : ∀ {vs : List V} {us : List Value} (i : Nat), VsR N ρ vs us → VsR N ρ (vs.set i v) (us.set i u)
  | [], [], _, _ => trivial
  | _ :: _, _ :: _, 0, h => ⟨hv, h.2⟩
  | _ :: _, _ :: _, i + 1, h => ⟨h.1, h.2.set hv i⟩
  | [], _ :: _, _, h => h.elim
  | _ :: _, [], _, h => h.elim
theorem OR.mono {N N' : Nat} {ρ ρ' : Nat → Addr} (e : Ext N ρ N' ρ') {v : O} {o : Obj} (h : OR N ρ v o) : OR N' ρ' v o := by
  cases v with
  | li vs => obtain ⟨us, n, a, b⟩ := h; exact ⟨us, n, a, b.mono e⟩
  | tu vs => obtain ⟨us, n, a, b⟩ := h; exact ⟨us, n, a, b.mono e⟩
  | fz vs ob => obtain ⟨e0, us, n, a, b⟩ := h; exact ⟨e0, us, n, a, b.mono e⟩
  | ce v => cases v with
    | no => exact h
    | nn => obtain ⟨u, a, b⟩ := h; exact ⟨u, a, b.mono e⟩
    | bo => obtain ⟨u, a, b⟩ := h; exact ⟨u, a, b.mono e⟩
    | it => obtain ⟨u, a, b⟩ := h; exact ⟨u, a, b.mono e⟩
    | rf => obtain ⟨u, a, b⟩ := h; exact ⟨u, a, b.mono e⟩
theorem SR.len {N : Nat} {ρ : Nat → Addr} : ∀ {os : List O} {ps : List (Addr × Obj)}, SR N ρ os ps → os.length = ps.length
  | [], [], _ => rfl
  | _ :: _, _ :: _, h => congrArg (· + 1) h.2.2.len
  | [], _ :: _, h => h.elim
  | _ :: _, [], h => h.elim
theorem SR.mono {N N' : Nat} {ρ ρ' : Nat → Addr} (e : Ext N ρ N' ρ') : ∀ {os : List O} {ps : List (Addr × Obj)}, os.length ≤ N → SR N ρ os ps → SR N' ρ' os ps
  | [], [], _, _ => trivial
  | o :: os, p :: ps, hl, h => ⟨h.1.trans (e.eq _ hl).symm, h.2.1.mono e, SR.mono e (Nat.le_of_succ_le hl) h.2.2⟩
  | [], _ :: _, _, h => h.elim
  | _ :: _, [], _, h => h.elim
-- the object at a place, and the ledger about it
theorem SR.at {N : Nat} {ρ : Nat → Addr} : ∀ {os : List O} {ps : List (Addr × Obj)} {k : Nat}, SR N ρ os ps → k < os.length →
    ∃ pre ob post, ps = pre ++ (ρ k, ob) :: post ∧ OR N ρ (nthO os (os.length - 1 - k)) ob ∧ ∀ o' ob', OR N ρ o' ob' → SR N ρ (os.set (os.length - 1 - k) o') (pre ++ (ρ k, ob') :: post)
  | o :: os, p :: ps, k, h, hk => by
    by_cases e : k = os.length
    · subst e
      refine ⟨[], p.2, ps, ?_, ?_, ?_⟩
      · show p :: ps = _
        obtain ⟨a, b⟩ := p
        have : a = ρ os.length := h.1
        subst this; rfl
      · have : (o :: os).length - 1 - os.length = 0 := by simp
        rw [this]; exact h.2.1
      · intro o' ob' hr
        have : (o :: os).length - 1 - os.length = 0 := by simp
        rw [this]; exact ⟨rfl, hr, h.2.2⟩
    · have hk' : k < os.length := by simp at hk; omega
      obtain ⟨pre, ob, post, hp, ho, hu⟩ := SR.at h.2.2 hk'
      have e2 : (o :: os).length - 1 - k = (os.length - 1 - k) + 1 := by simp; omega
      refine ⟨p :: pre, ob, post, by rw [hp]; rfl, ?_, ?_⟩
      · rw [e2]; exact ho
      · intro o' ob' hr
        rw [e2]
        refine ⟨?_, h.2.1, hu o' ob' hr⟩
        rw [List.length_set]; exact h.1
  | [], _, _, _, hk => absurd hk (Nat.not_lt_zero _)
  | _ :: _, [], _, h, _ => h.elim

-- names and frames
structure Sx where
  sc : Scope
  ns : List (Str × Bool)
abbrev envG (sc : Scope) (L : Addr) (cl : List (Str × Addr)) (fn : Option Addr) (cd : Value) (fm : Option Addr) (qual : Str) : Env :=
  { scope := sc, locals := L, globals := mainGlobals, cells := cl, qual := qual, func := fn, code := cd, frame := fm, builtins := builtinsNs }
def LR (cl : List (Str × Addr)) (ns : List (Str × Bool)) (N : Nat) (ρ : Nat → Addr) (loc : List V) (m : Str → Option Value) : Prop :=
  ∀ i x c, ns[i]? = some (x, c) → match c with
    | false => nth loc i = V.no ∨ ∃ u, m x = some u ∧ VR N ρ (nth loc i) u
    | true => ∃ k, nth loc i = V.rf k ∧ k < N ∧ cl.lookup x = some (ρ k)
theorem LR.mono {cl : List (Str × Addr)} {ns : List (Str × Bool)} {N N' : Nat} {ρ ρ' : Nat → Addr} {loc : List V} {m : Str → Option Value} (e : Ext N ρ N' ρ') (h : LR cl ns N ρ loc m) : LR cl ns N' ρ' loc m := by
  intro i x c hx
  have := h i x c hx
  cases c with
  | false => exact this.imp id fun ⟨u, a, b⟩ => ⟨u, a, b.mono e⟩
  | true => obtain ⟨k, a, b, d⟩ := this; exact ⟨k, a, Nat.lt_of_lt_of_le b e.le, by rw [e.eq k b]; exact d⟩
structure Inv0 (X : Sx) (cl : List (Str × Addr)) (h₀ : Heap) (L : Addr) (fr : List (Addr × Obj)) (loc : List V) (σ : St) (ρ : Nat → Addr) (h : Heap) (m : Str → Option Value) (news : List (Addr × Obj)) : Prop where
  F : Fr h₀ L h m
  N : News h₀ L h (news ++ fr)
  nd : ((news ++ fr).map (·.1)).Nodup
  S : SR σ.n ρ σ.os news
  len : σ.n = σ.os.length
  L : LR cl X.ns σ.n ρ loc m
def Inv (X : Sx) (cl : List (Str × Addr)) (h₀ : Heap) (L : Addr) (fr : List (Addr × Obj)) (loc : List V) (σ : St) (ρ : Nat → Addr) (h : Heap) : Prop :=
  ∃ m news, Inv0 X cl h₀ L fr loc σ ρ h m news
structure Cx where
  prog : Program
  w : World
  p : Program
  loose : List Str
  mean : ExcName → Option Value
  mg : Str → Option Value
  mb : Str → Option Value
structure Cx.Top (C : Cx) (h : Heap) : Prop where
  g : h.Ns mainGlobals C.mg
  b : h.Ns builtinsNs C.mb
  nolimit : h.NoLimit
  fn : ∀ d ∈ recsOf C.p, ∃ a o pm code doc, C.mg d.name = some (.ref a) ∧ h.get? a = some o ∧ o.data = .func (docDef d.name d.params d.body d.scope pm code doc) ∧ h.CodeRec code d.name
  builtins : ∀ x : Str, x ≠ "__name__" → C.mb x = bootBuiltins x
theorem Cx.Top.keeps {C : Cx} {h h' : Heap} (T : C.Top h) (hk : ∀ b o, h.get? b = some o → h'.get? b = some o) : C.Top h' :=
  ⟨T.g.keeps hk, T.b.keeps hk, T.nolimit.keeps hk, fun d hd => let ⟨a, o, pm, code, doc, h1, h2, h3, h4⟩ := T.fn d hd; ⟨a, o, pm, code, doc, h1, hk _ _ h2, h3, h4.keeps hk⟩, T.builtins⟩
theorem Cx.Top.of {C : Cx} {h : Heap} (T : PyProof.Rows.Top C.p C.loose C.mean C.mg C.mb h) : C.Top h := ⟨T.g, T.b, T.nolimit, T.fn, T.builtins⟩
structure Room (A : Around) (k : Nat) : Prop where
  hh : A.handled = none
  dp : A.depth + k < recursionLimit
  un : A.units + 8 * k + 200 < cLine
theorem Room.le {A : Around} {k j : Nat} (R : Room A k) (h : j ≤ k) : Room A j := ⟨R.hh, by have := R.dp; omega, by have := R.un; omega⟩
theorem Room.deeper {A : Around} {k : Nat} (R : Room A (k + 1)) (env : Env) : Room (A.deeper env) k :=
  ⟨R.hh, by have := R.dp; show A.depth + 1 + k < _; omega, by have := R.un; show A.units + 3 + 8 * k + 200 < _; omega⟩

-- a step of the whole: the ends
def EndE (X : Sx) (cl : List (Str × Addr)) (h₀ : Heap) (L : Addr) (fr : List (Addr × Obj)) (loc : List V) (σ : St) (ρ : Nat → Addr) (v : V) (σ' : St) (s : Shared) (Q : Value → Shared → Prop) : Prop :=
  ∀ h' tk' ρ' u, Ext σ.n ρ σ'.n ρ' → Inv X cl h₀ L fr loc σ' ρ' h' → VR σ'.n ρ' v u → Q u { s with heap := h', toks := tk' }
def EndB (X : Sx) (cl : List (Str × Addr)) (h₀ : Heap) (L : Addr) (fr : List (Addr × Obj)) (loc : List V) (σ : St) (ρ : Nat → Addr) (b : Bool) (σ' : St) (s : Shared) (Q : Bool → Shared → Prop) : Prop :=
  ∀ h' tk' ρ', Ext σ.n ρ σ'.n ρ' → Inv X cl h₀ L fr loc σ' ρ' h' → Q b { s with heap := h', toks := tk' }
def EndL (X : Sx) (cl : List (Str × Addr)) (h₀ : Heap) (L : Addr) (fr : List (Addr × Obj)) (loc : List V) (σ : St) (ρ : Nat → Addr) (vs : List V) (σ' : St) (s : Shared) (Q : List Value → Shared → Prop) : Prop :=
  ∀ h' tk' ρ' us, Ext σ.n ρ σ'.n ρ' → Inv X cl h₀ L fr loc σ' ρ' h' → VsR σ'.n ρ' vs us → Q us { s with heap := h', toks := tk' }
def Den (C : Cx) (X : Sx) (k : Nat) (e : PySem.Expr) (f : EF) : Prop :=
  ∀ ⦃A : Around⦄ ⦃Ex : Value → Shared → Prop⦄ ⦃s : Shared⦄ ⦃h₀ : Heap⦄ ⦃L : Addr⦄ ⦃cl : List (Str × Addr)⦄ ⦃fn : Option Addr⦄ ⦃cd : Value⦄ ⦃fm : Option Addr⦄ ⦃qual : Str⦄ ⦃fr : List (Addr × Obj)⦄ ⦃loc : List V⦄ ⦃σ σ' : St⦄ ⦃ρ : Nat → Addr⦄ ⦃v : V⦄ ⦃Q : Value → Shared → Prop⦄,
    f loc σ = .ok v σ' → Room A k → C.Top h₀ → Inv X cl h₀ L fr loc σ ρ s.heap → EndE X cl h₀ L fr loc σ ρ v σ' s Q →
    wpAny (model C.prog C.w) A (eval e (envG X.sc L cl fn cd fm qual)) Q Ex s
def DenT (C : Cx) (X : Sx) (k : Nat) (e : PySem.Expr) (f : TF) : Prop :=
  ∀ ⦃A : Around⦄ ⦃Ex : Value → Shared → Prop⦄ ⦃s : Shared⦄ ⦃h₀ : Heap⦄ ⦃L : Addr⦄ ⦃cl : List (Str × Addr)⦄ ⦃fn : Option Addr⦄ ⦃cd : Value⦄ ⦃fm : Option Addr⦄ ⦃qual : Str⦄ ⦃fr : List (Addr × Obj)⦄ ⦃loc : List V⦄ ⦃σ σ' : St⦄ ⦃ρ : Nat → Addr⦄ ⦃b : Bool⦄ ⦃Q : Bool → Shared → Prop⦄,
    f loc σ = .ok b σ' → Room A k → C.Top h₀ → Inv X cl h₀ L fr loc σ ρ s.heap → EndB X cl h₀ L fr loc σ ρ b σ' s Q →
    wpAny (model C.prog C.w) A (isTrue e (envG X.sc L cl fn cd fm qual) (eval e (envG X.sc L cl fn cd fm qual))) Q Ex s
def DenL (C : Cx) (X : Sx) (k : Nat) (es : List PySem.Expr) (f : LF) : Prop :=
  ∀ ⦃A : Around⦄ ⦃Ex : Value → Shared → Prop⦄ ⦃s : Shared⦄ ⦃h₀ : Heap⦄ ⦃L : Addr⦄ ⦃cl : List (Str × Addr)⦄ ⦃fn : Option Addr⦄ ⦃cd : Value⦄ ⦃fm : Option Addr⦄ ⦃qual : Str⦄ ⦃fr : List (Addr × Obj)⦄ ⦃loc : List V⦄ ⦃σ σ' : St⦄ ⦃ρ : Nat → Addr⦄ ⦃vs : List V⦄ ⦃pos : Pos⦄ ⦃Q : List Value → Shared → Prop⦄,
    f loc σ = .ok vs σ' → Room A k → C.Top h₀ → Inv X cl h₀ L fr loc σ ρ s.heap → EndL X cl h₀ L fr loc σ ρ vs σ' s Q →
    wpAny (model C.prog C.w) A (spliced (backTo pos (starEach es (envG X.sc L cl fn cd fm qual)))) Q Ex s
end Mine
end

section
namespace Mine
open PySem PySem.W PySem.Spec PySem.Calls PyProof.Rows

section
variable {X : Sx} {cl : List (Str × Addr)} {h₀ h h' : Heap} {L : Addr} {fr : List (Addr × Obj)} {loc : List V} {σ : St} {ρ : Nat → Addr} {m : Str → Option Value} {news : List (Addr × Obj)}
def rhoS (ρ : Nat → Addr) (n : Nat) (a : Addr) : Nat → Addr := fun i => if i = n then a else ρ i
theorem ext_rhoS (ρ : Nat → Addr) (n : Nat) (a : Addr) : Ext n ρ (n + 1) (rhoS ρ n a) := ⟨Nat.le_succ _, fun i hi => by show (if i = n then a else ρ i) = ρ i; rw [if_neg (Nat.ne_of_lt hi)]⟩
theorem rhoS_self (ρ : Nat → Addr) (n : Nat) (a : Addr) : rhoS ρ n a n = a := if_pos rfl
theorem not_mem_fst {h : Heap} {a : Addr} {l : List (Addr × Obj)} (N : News h₀ L h l) (ha : h.get? a = none) : a ∉ l.map (·.1) := fun q => by
  obtain ⟨p, hp, e⟩ := List.mem_map.mp q
  have := (N p hp).1
  rw [e, ha] at this; cases this
theorem get_size (h : Heap) : h.get? h.objs.size = none := by
  cases e : h.get? h.objs.size with
  | none => rfl
  | some o => exact absurd (Heap.lt_size e) (Nat.lt_irrefl _)
theorem Inv0.push {a : Addr} {o : O} {ob : Obj} (I : Inv0 X cl h₀ L fr loc σ ρ h m news) (F' : Fr h₀ L h' m) (N' : News h₀ L h' ((a, ob) :: (news ++ fr))) (ha : a ∉ (news ++ fr).map (·.1))
    (ho : OR (σ.n + 1) (rhoS ρ σ.n a) o ob) : Inv X cl h₀ L fr loc ⟨σ.n + 1, o :: σ.os⟩ (rhoS ρ σ.n a) h' := by
  refine ⟨m, (a, ob) :: news, F', N', ?_, ?_, ?_, I.L.mono (ext_rhoS ..)⟩
  · show (a :: (news ++ fr).map (·.1)).Nodup
    exact List.nodup_cons.mpr ⟨ha, I.nd⟩
  · refine ⟨?_, ho, I.S.mono (ext_rhoS ..) (Nat.le_of_eq I.len.symm)⟩
    show a = rhoS ρ σ.n a σ.os.length
    rw [← I.len, rhoS_self]
  · show σ.n + 1 = (o :: σ.os).length
    rw [I.len]; rfl
theorem Inv0.pushS {o : O} {ob : Obj} (I : Inv0 X cl h₀ L fr loc σ ρ h m news) (F' : Fr h₀ L h' m) (N' : News h₀ L h' ((h.objs.size, ob) :: (news ++ fr)))
    (ho : OR (σ.n + 1) (rhoS ρ σ.n h.objs.size) o ob) : Inv X cl h₀ L fr loc ⟨σ.n + 1, o :: σ.os⟩ (rhoS ρ σ.n h.objs.size) h' := I.push F' N' (not_mem_fst I.N (get_size h)) ho
theorem Inv0.at {k : Nat} (I : Inv0 X cl h₀ L fr loc σ ρ h m news) (hk : k < σ.n) : ∃ ob, h.get? (ρ k) = some ob ∧ ρ k ≠ L ∧ h₀.get? (ρ k) = none ∧ OR σ.n ρ (get σ k) ob ∧
    ∀ o' ob' h', Heap.SameBut (ρ k) h h' → h'.get? (ρ k) = some ob' → OR σ.n ρ o' ob' → Inv X cl h₀ L fr loc ⟨σ.n, σ.os.set (σ.n - 1 - k) o'⟩ ρ h' := by
  obtain ⟨pre, ob, post, hp, ho, hu⟩ := I.S.at (k := k) (by rw [← I.len]; exact hk)
  rw [← I.len] at ho hu
  have hm : (ρ k, ob) ∈ news ++ fr := by rw [hp]; simp
  have z := I.N _ hm
  refine ⟨ob, z.1, z.2.1, z.2.2, ho, fun o' ob' h' hs hg hr => ?_⟩
  have nd := I.nd
  have e1 : news ++ fr = pre ++ (ρ k, ob) :: (post ++ fr) := by rw [hp]; simp
  have e2 : (pre ++ (ρ k, ob') :: post) ++ fr = pre ++ (ρ k, ob') :: (post ++ fr) := by simp
  rw [e1, List.map_append, List.map_cons] at nd
  have nd' := List.nodup_append.mp nd
  have n1 : ∀ p ∈ pre, p.1 ≠ ρ k := fun p hp' e => nd'.2.2 p.1 (List.mem_map_of_mem hp') (ρ k) (List.mem_cons_self ..) e
  have n2 : ∀ p ∈ post ++ fr, p.1 ≠ ρ k := fun p hp' e => (List.nodup_cons.mp nd'.2.1).1 (by have := List.mem_map_of_mem (f := fun x : Addr × Obj => x.1) hp'; rw [e] at this; exact this)
  refine ⟨m, pre ++ (ρ k, ob') :: post, I.F.change hs z.2.1 z.2.2, ?_, ?_, hu o' ob' hr, ?_, I.L⟩
  · rw [e2]
    exact news_set (by rw [← e1]; exact I.N) n1 n2 hs hg
  · rw [e2, List.map_append, List.map_cons]; exact nd
  · show σ.n = (σ.os.set _ o').length
    rw [List.length_set]; exact I.len
theorem Inv0.inv (I : Inv0 X cl h₀ L fr loc σ ρ h m news) : Inv X cl h₀ L fr loc σ ρ h := ⟨m, news, I⟩
theorem Inv.at {k : Nat} (I : Inv X cl h₀ L fr loc σ ρ h) (hk : k < σ.n) : ∃ ob, h.get? (ρ k) = some ob ∧ ρ k ≠ L ∧ h₀.get? (ρ k) = none ∧ OR σ.n ρ (get σ k) ob ∧
    ∀ o' ob' h', Heap.SameBut (ρ k) h h' → h'.get? (ρ k) = some ob' → OR σ.n ρ o' ob' → Inv X cl h₀ L fr loc ⟨σ.n, σ.os.set (σ.n - 1 - k) o'⟩ ρ h' := by
  obtain ⟨m, news, I⟩ := I
  exact I.at hk
end

section
variable {C : Cx} {X : Sx} {k : Nat}
theorem inv_of_okV {v v' : V} {σ σ' : St} (h : okV σ v = .ok v' σ') : v' = v ∧ σ' = σ ∧ v ≠ .no := by
  cases v <;> first | (cases h; exact ⟨rfl, rfl, by intro e; cases e⟩) | cases h
theorem den_int {i : Int} {kk : Nat} {pos : Pos} : Den C X k (.Constant (.int i) kk pos) (eV (.it i)) := by
  intro A Ex s h₀ L cl fn cd fm qual fr loc σ σ' ρ v Q hf R T I H
  cases hf
  exact wpAny_Constant_int (H s.heap _ ρ _ Ext.rfl I ⟨_, rfl⟩)
theorem den_none {kk : Nat} {pos : Pos} : Den C X k (.Constant .none kk pos) (eV .nn) := by
  intro A Ex s h₀ L cl fn cd fm qual fr loc σ σ' ρ v Q hf R T I H
  cases hf
  exact wpAny_Constant_none (H s.heap s.toks ρ _ Ext.rfl I rfl)
theorem den_bool {b : Bool} {kk : Nat} {pos : Pos} : Den C X k (.Constant (.bool b) kk pos) (eV (.bo b)) := by
  intro A Ex s h₀ L cl fn cd fm qual fr loc σ σ' ρ v Q hf R T I H
  cases hf
  exact wpAny_Constant_bool (H s.heap s.toks ρ _ Ext.rfl I rfl)
theorem eLoc_eq (n : Nat) (loc : List V) (σ : St) : eLoc n loc σ = okV σ (nth loc n) := rfl
theorem den_loc {n : Nat} {x : Str} {pos : Pos} (hn : X.ns[n]? = some (x, false)) (hk : X.sc.kind = .function) (hx : X.sc.names.lookup x = some .local)
    (hd : (x == ("__debug__" : Str)) = false := by decide) : Den C X k (.Name x pos) (eLoc n) := by
  intro A Ex s h₀ L cl fn cd fm qual fr loc σ σ' ρ v Q hf R T I H
  rw [eLoc_eq] at hf
  obtain ⟨rfl, rfl, hne⟩ := inv_of_okV hf
  obtain ⟨m, news, I⟩ := I
  obtain ⟨u, hu, hr⟩ := (I.L n x false hn).resolve_left hne
  exact wpAny_Name (wpAny_loadName_local hk hx I.F.ns hu (H s.heap s.toks ρ u Ext.rfl I.inv hr)) hd
theorem inv_of_eCel {n : Nat} {loc : List V} {σ σ' : St} {v : V} (h : eCel n loc σ = .ok v σ') : ∃ k, nth loc n = V.rf k ∧ get σ k = .ce v ∧ v ≠ .no ∧ σ' = σ := by
  unfold eCel at h
  split at h
  · rename_i j e
    split at h
    · rename_i v' e'
      obtain ⟨rfl, rfl, hne⟩ := inv_of_okV h
      exact ⟨j, e, e', hne, rfl⟩
    · cases h
  · cases h
theorem OR.cell {N : Nat} {ρ : Nat → Addr} {v : V} {o : Obj} (h : OR N ρ (.ce v) o) (hne : v ≠ .no) : ∃ u, o.data = .cell (some u) ∧ VR N ρ v u := by
  cases v <;> first | exact absurd rfl hne | exact h
theorem cell_read {n : Nat} {x : Str} {cl : List (Str × Addr)} {h₀ : Heap} {L : Addr} {fr : List (Addr × Obj)} {loc : List V} {σ σ' : St} {ρ : Nat → Addr} {v : V} {h : Heap} (hf : eCel n loc σ = .ok v σ') (I : Inv X cl h₀ L fr loc σ ρ h)
    (hn : X.ns[n]? = some (x, true)) : σ' = σ ∧ ∃ c u, cl.lookup x = some c ∧ h.IsCell c (some u) ∧ VR σ.n ρ v u := by
  obtain ⟨j, e1, e2, hne, rfl⟩ := inv_of_eCel hf
  obtain ⟨m, news, I⟩ := I
  obtain ⟨j', e3, hj, hc⟩ := I.L n x true hn
  rw [e1] at e3
  cases e3
  obtain ⟨ob, ho, _, _, hor, _⟩ := I.at hj
  rw [e2] at hor
  obtain ⟨u, hu, hr⟩ := hor.cell hne
  exact ⟨rfl, _, u, hc, ⟨ob, ho, hu⟩, hr⟩
theorem den_cell {n : Nat} {x : Str} {pos : Pos} (hn : X.ns[n]? = some (x, true)) (hk : X.sc.kind = .function) (hx : X.sc.names.lookup x = some .cell)
    (hd : (x == ("__debug__" : Str)) = false := by decide) : Den C X k (.Name x pos) (eCel n) := by
  intro A Ex s h₀ L cl fn cd fm qual fr loc σ σ' ρ v Q hf R T I H
  obtain ⟨rfl, c, u, hc, hi, hr⟩ := cell_read hf I hn
  exact wpAny_Name (wpAny_loadName_cell hk hx hc hi (H s.heap s.toks ρ u Ext.rfl I hr)) hd

-- operators
def bo : Operator → Option BO
  | .Add => some .add
  | .Sub => some .sub
  | .Mult => some .mul
  | .FloorDiv => some .div
  | .Mod => some .mod
  | .LShift => some .shl
  | .RShift => some .shr
  | .BitAnd => some .and
  | .BitOr => some .or
  | .BitXor => some .xor
  | .Pow => some .pow
  | _ => none
theorem lim64_eq : lim64 = 2 ^ 64 := by decide
theorem iabs_eq (a : Int) : iabs a = a.natAbs := by cases a <;> rfl
theorem bitAnd_nat (m n : Nat) : Builtin.bitAnd (Int.ofNat m) (Int.ofNat n) = Int.ofNat (Nat.land m n) := by
  unfold Builtin.bitAnd
  have e (k : Nat) : decide (0 ≤ Int.ofNat k) = true := decide_eq_true (Int.natCast_nonneg k)
  rw [e m, e n]
  rfl
theorem bitNot_neg (m : Nat) : ¬ (0 : Int) ≤ Builtin.bitNot (Int.ofNat m) := by
  show ¬ (0 : Int) ≤ -(Int.ofNat m) - 1
  have : (0 : Int) ≤ Int.ofNat m := Int.natCast_nonneg m
  omega
theorem bitNot_not (x : Int) : Builtin.bitNot (Builtin.bitNot x) = x := by
  show -(-x - 1) - 1 = x
  omega
theorem bitOr_nat (m n : Nat) : Builtin.bitOr (Int.ofNat m) (Int.ofNat n) = Int.ofNat (Nat.lor m n) := by
  unfold Builtin.bitOr Builtin.bitAnd
  rw [decide_eq_false (bitNot_neg m), decide_eq_false (bitNot_neg n)]
  show Builtin.bitNot (Builtin.bitNot _) = _
  rw [bitNot_not, bitNot_not, bitNot_not]
  rfl
theorem shl_eq (a : Int) (n : Nat) : a * 2 ^ (Int.ofNat n).toNat = Int.mul a (.ofNat (Nat.pow 2 n)) := by
  show a * 2 ^ n = a * ((2 ^ n : Nat) : Int)
  rw [Int.natCast_pow]; rfl
theorem shr_eq (a : Int) (n : Nat) : a.fdiv (2 ^ (Int.ofNat n).toNat) = Int.fdiv a (.ofNat (Nat.pow 2 n)) := by
  show a.fdiv (2 ^ n) = a.fdiv ((2 ^ n : Nat) : Int)
  rw [Int.natCast_pow]; rfl
theorem pow_eq (m n : Nat) : (Int.ofNat m) ^ (Int.ofNat n).toNat = Int.ofNat (Nat.pow m n) := by
  show ((m : Int)) ^ n = ((m ^ n : Nat) : Int)
  rw [Int.natCast_pow]
theorem eqB_false {b : Int} (h : Z.eqB b (.ofNat 0) = false) : b ≠ 0 := fun e => by
  have : Z.eqB b (.ofNat 0) = true := (Z.eqB_iff _ _).mpr e
  rw [h] at this; cases this
theorem natAbs_lt {a : Int} (h : nlt (iabs a) lim64 = true) : a.natAbs < 2 ^ 64 := by
  have := nlt_iff.mp h
  rw [iabs_eq, lim64_eq] at this
  exact this
theorem mulOk_right {a b : Int} (h : b.natAbs < 2 ^ 64) : IntMulOk a b := by
  unfold IntMulOk
  have : ¬ (Builtin.Int.intBits b > shortFactorBits) := Nat.not_lt.mpr (intBits_le h)
  rw [decide_eq_false this]; simp
-- an operator of ints, plain or in place
theorem intOp_ok {C : Cx} {A : Around} {op : Operator} {o : BO} {a b : Int} {σ σ' : St} {v : V} (ho : bo op = some o) (h : intOp o a b σ = .ok v σ') :
    σ' = σ ∧ ∃ r, v = .it r ∧ ∀ {s : Shared} {Ex : Value → Shared → Prop} {Q : Value → Shared → Prop} {t u : Tok}, Q (.int r s.toks) { s with toks := s.toks + 1 } →
      wpAny (model C.prog C.w) A (binaryOp op (.int a t) (.int b u)) Q Ex s ∧ wpAny (model C.prog C.w) A (inplaceOp op (.int a t) (.int b u)) Q Ex s := by
  cases op <;> simp only [bo, Option.some.injEq, reduceCtorEq] at ho <;> subst ho <;> dsimp only [intOp] at h
  · cases h; exact ⟨rfl, _, rfl, fun H => ⟨add_int H, iadd_int H⟩⟩
  · cases h; exact ⟨rfl, _, rfl, fun H => ⟨sub_int H, isub_int H⟩⟩
  · cases q1 : nlt (iabs a) lim64 with
    | true =>
      rw [q1] at h
      cases h
      have ok := IntMulOk.of_left (b := b) (intBits_le (natAbs_lt q1))
      exact ⟨rfl, _, rfl, fun H => ⟨mul_int H ok, imul_int H ok⟩⟩
    | false =>
      rw [q1] at h
      cases q2 : nlt (iabs b) lim64 with
      | true =>
        rw [q2] at h
        cases h
        have ok := mulOk_right (a := a) (natAbs_lt q2)
        exact ⟨rfl, _, rfl, fun H => ⟨mul_int H ok, imul_int H ok⟩⟩
      | false => rw [q2] at h; cases h
  · cases q : Z.eqB b (.ofNat 0) with
    | true => rw [q] at h; cases h
    | false =>
      rw [q] at h
      cases h
      exact ⟨rfl, _, rfl, fun H => ⟨mod_int' (eqB_false q) H, imod_int (eqB_false q) H⟩⟩
  · cases b with
    | negSucc n => cases h
    | ofNat n =>
      cases q1 : nlt n 1000 with
      | false => simp only [q1] at h; cases h
      | true =>
        simp only [q1] at h
        cases q2 : nlt (iabs a) lim64 with
        | false => rw [q2] at h; cases h
        | true =>
          rw [q2] at h
          cases a with
          | negSucc _ => cases h
          | ofNat m =>
            cases h
            have n1 := nlt_iff.mp q1
            have l1 : (0 : Int) ≤ Int.ofNat n := Int.natCast_nonneg n
            have l2 : Int.ofNat n ≤ 1000000 := by show (n : Int) ≤ _; omega
            refine ⟨rfl, _, rfl, fun H => ?_⟩
            rw [← pow_eq] at H
            exact ⟨pow_int_small l1 l2 (natAbs_lt q2) H, ipow_int_small l1 l2 (natAbs_lt q2) H⟩
  · cases b with
    | negSucc n => cases h
    | ofNat n =>
      cases q1 : nlt n 1000 with
      | false => simp only [q1] at h; cases h
      | true =>
        simp only [q1] at h
        cases q2 : nlt (iabs a) lim64 with
        | false => rw [q2] at h; cases h
        | true =>
          rw [q2] at h
          cases h
          have n1 := nlt_iff.mp q1
          have l1 : (0 : Int) ≤ Int.ofNat n := Int.natCast_nonneg n
          have l2 : Int.ofNat n ≤ 1000000 := by show (n : Int) ≤ _; omega
          refine ⟨rfl, _, rfl, fun H => ?_⟩
          rw [← shl_eq] at H
          exact ⟨lshift_int_small l1 l2 (natAbs_lt q2) H, ilshift_int_small l1 l2 (natAbs_lt q2) H⟩
  · cases b with
    | negSucc n => cases h
    | ofNat n =>
      cases h
      have l1 : (0 : Int) ≤ Int.ofNat n := Int.natCast_nonneg n
      refine ⟨rfl, _, rfl, fun H => ?_⟩
      rw [← shr_eq] at H
      exact ⟨rshift_int l1 H, irshift_int l1 H⟩
  · cases a with
    | negSucc _ => cases h
    | ofNat m =>
      cases b with
      | negSucc _ => cases h
      | ofNat n =>
        cases h
        refine ⟨rfl, _, rfl, fun H => ?_⟩
        rw [← bitOr_nat] at H
        exact ⟨or_int H, ior_int H⟩
  · cases a with
    | negSucc _ => cases h
    | ofNat m =>
      cases b with
      | negSucc _ => cases h
      | ofNat n =>
        cases h
        refine ⟨rfl, _, rfl, fun H => ?_⟩
        have e : Int.sub (.ofNat (Nat.lor m n)) (.ofNat (Nat.land m n)) = Builtin.bitXor (.ofNat m) (.ofNat n) := by
          unfold Builtin.bitXor; rw [bitOr_nat, bitAnd_nat]; rfl
        rw [e] at H
        exact ⟨xor_int H, ixor_int H⟩
  · cases a with
    | negSucc _ => cases h
    | ofNat m =>
      cases b with
      | negSucc _ => cases h
      | ofNat n =>
        cases h
        refine ⟨rfl, _, rfl, fun H => ?_⟩
        rw [← bitAnd_nat] at H
        exact ⟨and_int H, iand_int H⟩
  · cases q : Z.eqB b (.ofNat 0) with
    | true => rw [q] at h; cases h
    | false =>
      rw [q] at h
      cases q2 : nlt (iabs b) lim30 with
      | false => rw [q2] at h; cases h
      | true =>
        rw [q2] at h
        cases h
        have hb : b.natAbs < 1073741824 := by have := nlt_iff.mp q2; rw [iabs_eq] at this; exact this
        have np := PyProof.noPylong_small (x := a) hb
        exact ⟨rfl, _, rfl, fun H => ⟨floordiv_int (eqB_false q) H (.inl np), ifloordiv_int (eqB_false q) H (.inl np)⟩⟩
end
end Mine
end

section
namespace Mine
open PySem PySem.W PySem.Spec PySem.Calls PyProof.Rows

theorem toks_eta (s : Shared) (t : Nat) : ({ s with toks := t } : Shared) = { s with heap := s.heap, toks := t } := rfl
section
variable {C : Cx} {X : Sx} {k : Nat}
theorem EndE.then {cl : List (Str × Addr)} {h₀ : Heap} {L : Addr} {fr : List (Addr × Obj)} {loc : List V} {σ σ₁ σ' : St} {ρ ρ₁ : Nat → Addr} {v : V} {s : Shared} {h₁ : Heap} {tk₁ : Nat} {Q : Value → Shared → Prop}
    (H : EndE X cl h₀ L fr loc σ ρ v σ' s Q) (e : Ext σ.n ρ σ₁.n ρ₁) : EndE X cl h₀ L fr loc σ₁ ρ₁ v σ' { s with heap := h₁, toks := tk₁ } Q :=
  fun h' tk' ρ' u e' I hr => H h' tk' ρ' u (e.trans e') I hr
theorem EndL.then {cl : List (Str × Addr)} {h₀ : Heap} {L : Addr} {fr : List (Addr × Obj)} {loc : List V} {σ σ₁ σ' : St} {ρ ρ₁ : Nat → Addr} {v : List V} {s : Shared} {h₁ : Heap} {tk₁ : Nat} {Q : List Value → Shared → Prop}
    (H : EndL X cl h₀ L fr loc σ ρ v σ' s Q) (e : Ext σ.n ρ σ₁.n ρ₁) : EndL X cl h₀ L fr loc σ₁ ρ₁ v σ' { s with heap := h₁, toks := tk₁ } Q :=
  fun h' tk' ρ' u e' I hr => H h' tk' ρ' u (e.trans e') I hr
theorem EndB.then {cl : List (Str × Addr)} {h₀ : Heap} {L : Addr} {fr : List (Addr × Obj)} {loc : List V} {σ σ₁ σ' : St} {ρ ρ₁ : Nat → Addr} {v : Bool} {s : Shared} {h₁ : Heap} {tk₁ : Nat} {Q : Bool → Shared → Prop}
    (H : EndB X cl h₀ L fr loc σ ρ v σ' s Q) (e : Ext σ.n ρ σ₁.n ρ₁) : EndB X cl h₀ L fr loc σ₁ ρ₁ v σ' { s with heap := h₁, toks := tk₁ } Q :=
  fun h' tk' ρ' e' I => H h' tk' ρ' (e.trans e') I

-- an object at hand: a list's or a tuple's items
theorem OR.list {N : Nat} {ρ : Nat → Addr} {vs : List V} {o : Obj} (h : OR N ρ (.li vs) o) : ∃ us n, o = listOf (List.toArray us) n ∧ VsR N ρ vs us := h
theorem Inv.list {cl : List (Str × Addr)} {h₀ h : Heap} {L : Addr} {fr : List (Addr × Obj)} {loc : List V} {σ : St} {ρ : Nat → Addr} {i : Nat} {vs : List V} (I : Inv X cl h₀ L fr loc σ ρ h) (hi : i < σ.n) (e : get σ i = .li vs) :
    ∃ us n, h.get? (ρ i) = some (listOf (List.toArray us) n) ∧ VsR σ.n ρ vs us := by
  obtain ⟨ob, ho, _, _, hr, _⟩ := I.at hi
  rw [e] at hr
  obtain ⟨us, n, rfl, hv⟩ := hr
  exact ⟨us, n, ho, hv⟩
theorem Inv.tup {cl : List (Str × Addr)} {h₀ h : Heap} {L : Addr} {fr : List (Addr × Obj)} {loc : List V} {σ : St} {ρ : Nat → Addr} {i : Nat} {vs : List V} (I : Inv X cl h₀ L fr loc σ ρ h) (hi : i < σ.n) (e : get σ i = .tu vs) :
    ∃ us n, h.get? (ρ i) = some { cls := .type "tuple", data := .seq (List.toArray us) n } ∧ VsR σ.n ρ vs us := by
  obtain ⟨ob, ho, _, _, hr, _⟩ := I.at hi
  rw [e] at hr
  obtain ⟨us, n, rfl, hv⟩ := hr
  exact ⟨us, n, ho, hv⟩
theorem isList_of {h : Heap} {a : Addr} {us : List Value} {n : Nat} (e : h.get? a = some (listOf (List.toArray us) n)) : h.IsList a (List.toArray us) := ⟨_, e, rfl, _, rfl⟩
theorem isTup_of {h : Heap} {a : Addr} {us : List Value} {n : Nat} (e : h.get? a = some { cls := .type "tuple", data := .seq (List.toArray us) n }) : IsTup h a (List.toArray us) := ⟨_, e, rfl, _, rfl⟩
-- a new object's end
theorem Inv.new {cl : List (Str × Addr)} {h₀ h h' : Heap} {L : Addr} {fr : List (Addr × Obj)} {loc : List V} {σ : St} {ρ : Nat → Addr} {m : Str → Option Value} {news : List (Addr × Obj)} {o : O} {ob : Obj}
    (I : Inv0 X cl h₀ L fr loc σ ρ h m news) (F' : Fr h₀ L h' m) (N' : News h₀ L h' ((h.objs.size, ob) :: (news ++ fr))) (ho : ∀ N' ρ', Ext σ.n ρ N' ρ' → OR N' ρ' o ob) :
    ∃ ρ', Ext σ.n ρ (σ.n + 1) ρ' ∧ Inv X cl h₀ L fr loc ⟨σ.n + 1, o :: σ.os⟩ ρ' h' ∧ ρ' σ.n = h.objs.size :=
  ⟨_, ext_rhoS .., I.pushS F' N' (ho _ _ (ext_rhoS ..)), rhoS_self ..⟩
theorem bigLen {n : Nat} (h : n < 100000) : n ≤ sizeLine := by unfold sizeLine; omega

theorem rep_eq (v : V) (n : Nat) : rep v n = List.replicate n v := by
  induction n with
  | zero => rfl
  | succ n ih => show v :: rep v n = _; rw [ih]; rfl
theorem VsR.rep {N : Nat} {ρ : Nat → Addr} {v : V} {u : Value} (h : VR N ρ v u) : ∀ n, VsR N ρ (List.replicate n v) (List.replicate n u)
  | 0 => trivial
  | n + 1 => ⟨h, VsR.rep h n⟩
theorem fold_rep (u : Value) (n : Nat) : List.foldl (fun x1 x2 => x1 ++ x2) (#[] : Array Value) (List.replicate n #[u]) = (List.replicate n u).toArray := by
  have key : ∀ (n : Nat) (acc : Array Value), List.foldl (fun x1 x2 => x1 ++ x2) acc (List.replicate n #[u]) = acc ++ (List.replicate n u).toArray := by
    intro n
    induction n with
    | zero => intro acc; simp
    | succ n ih =>
      intro acc
      rw [List.replicate_succ, List.foldl_cons, ih, List.replicate_succ]
      apply Array.ext'
      simp
  rw [key]; simp

theorem bin_sound {A : Around} {Ex : Value → Shared → Prop} {s : Shared} {h₀ : Heap} {L : Addr} {cl : List (Str × Addr)} {fr : List (Addr × Obj)} {loc : List V} {σ σ' : St} {ρ : Nat → Addr} {v a b : V} {ua ub : Value} {Q : Value → Shared → Prop}
    {op : Operator} {o : BO} (ho : bo op = some o) (h : bin o a b σ = .ok v σ') (I : Inv X cl h₀ L fr loc σ ρ s.heap) (ha : VR σ.n ρ a ua) (hb : VR σ.n ρ b ub) (H : EndE X cl h₀ L fr loc σ ρ v σ' s Q) :
    wpAny (model C.prog C.w) A (binaryOp op ua ub) Q Ex s := by
  unfold bin at h
  split at h
  · obtain ⟨t, rfl⟩ := ha
    obtain ⟨t', rfl⟩ := hb
    obtain ⟨rfl, r, rfl, k⟩ := intOp_ok (C := C) (A := A) ho h
    exact (k (H s.heap _ ρ _ Ext.rfl I ⟨_, rfl⟩)).1
  · rename_i i j
    obtain ⟨hi, rfl⟩ := ha
    obtain ⟨hj, rfl⟩ := hb
    split at h
    · have : op = .Add := by cases op <;> first | rfl | (simp [bo] at ho)
      subst this
      unfold addO at h
      split at h
      · rename_i xs ys e1 e2
        obtain ⟨hl, h⟩ := cond_nlt h (by intro e; cases e)
        rw [new_eq] at h
        cases h
        obtain ⟨us, n, hu, r1⟩ := I.list hi e1
        obtain ⟨ws, n', hw, r2⟩ := I.list hj e2
        obtain ⟨m, news, I⟩ := I
        rw [lenV_eq, lenV_eq] at hl
        have hl' : us.length + ws.length < 100000 := by rw [← r1.len, ← r2.len]; exact hl
        refine add_arrays (hsz := by rw [List.size_toArray, List.size_toArray]; exact bigLen hl') I.F I.N (isList_of hu) (isList_of hw) fun h' F' N' => ?_
        obtain ⟨ρ', e, I', er⟩ := Inv.new (o := .li (xs ++ ys)) I F' N' fun N' ρ' e => ⟨us ++ ws, 0, rfl, (r1.app r2).mono e⟩
        exact H h' s.toks ρ' _ e I' ⟨Nat.lt_succ_self _, by rw [er]⟩
      · rename_i xs ys e1 e2
        obtain ⟨hl, h⟩ := cond_nlt h (by intro e; cases e)
        split at h
        · rw [new_eq] at h
          cases h
          obtain ⟨us, n, hu, r1⟩ := I.tup hi e1
          obtain ⟨ws, n', hw, r2⟩ := I.tup hj e2
          obtain ⟨m, news, I⟩ := I
          rw [lenV_eq, lenV_eq] at hl
          have hl' : us.length + ws.length < 100000 := by rw [← r1.len, ← r2.len]; exact hl
          have n1 : us ≠ [] := by rintro rfl; exact r1.elim
          have n2 : ws ≠ [] := by rintro rfl; exact r2.elim
          refine add_tuples (hsz := bigLen hl') I.F I.N (isTup_of hu) (isTup_of hw) (fun e => absurd e n1) (fun _ e => absurd e n2) fun _ _ h' F' N' => ?_
          obtain ⟨ρ', e, I', er⟩ := Inv.new (o := .tu (_ ++ _)) I F' N' fun N' ρ' e => ⟨us ++ ws, 0, rfl, (r1.app r2).mono e⟩
          exact H h' s.toks ρ' _ e I' ⟨Nat.lt_succ_self _, by rw [er]⟩
        · cases h
      · cases h
    · cases h
  · rename_i i x
    obtain ⟨hi, rfl⟩ := ha
    obtain ⟨t, rfl⟩ := hb
    split at h
    · have : op = .Mult := by cases op <;> first | rfl | (simp [bo] at ho)
      subst this
      unfold mulO at h
      split at h
      · rename_i y n e1 
        obtain ⟨hl, h⟩ := cond_nlt h (by intro e; cases e)
        rw [new_eq] at h
        cases h
        obtain ⟨us, n', hu, r1⟩ := I.list hi e1
        obtain ⟨m, news, I⟩ := I
        have : ∃ u, us = [u] ∧ VR σ.n ρ y u := by
          cases us with
          | nil => exact r1.elim
          | cons u r => cases r with
            | nil => exact ⟨u, rfl, r1.1⟩
            | cons _ _ => exact r1.2.elim
        obtain ⟨u, rfl, hyu⟩ := this
        refine mul_list I.F I.N hu ?_ ?_ ?_ fun h' F' N' => ?_
        · show -(2 ^ 63 : Int) ≤ (n : Int); omega
        · show (n : Int) < 2 ^ 63; omega
        · show 1 * n ≤ 2 ^ 24; omega
        · have e0 : (if (#[u] : Array Value).isEmpty = true then 0 else (Int.ofNat n).toNat) = n := by simp
          have e3 : List.foldl (fun x1 x2 => x1 ++ x2) (#[] : Array Value) (List.replicate (if ([u].toArray).isEmpty = true then 0 else (Int.ofNat n).toNat) [u].toArray) = (List.replicate n u).toArray := by
            rw [show ([u].toArray : Array Value) = #[u] from rfl, e0]; exact fold_rep u n
          rw [e3] at N'
          obtain ⟨ρ', e, I', er⟩ := Inv.new (o := .li (rep y n)) I F' N' fun N' ρ' e => ⟨List.replicate n u, 0, rfl, by rw [rep_eq]; exact (VsR.rep hyu n).mono e⟩
          exact H h' s.toks ρ' _ e I' ⟨Nat.lt_succ_self _, by rw [er]⟩
      · cases h
    · cases h
  · cases h

theorem den_bin {l r : PySem.Expr} {pos : Pos} {op : Operator} {o : BO} {f g : EF} (ho : bo op = some o) (D1 : Den C X k l f) (D2 : Den C X k r g) : Den C X k (.BinOp l op r pos) (eBin o f g) := by
  intro A Ex s h₀ L cl fn cd fm qual fr loc σ σ' ρ v Q hf R T I H
  unfold eBin at hf
  split at hf
  · cases hf
  · rename_i a σ₁ e1
    split at hf
    · cases hf
    · rename_i b σ₂ e2
      refine wpAny_BinOp (D1 e1 R T I fun h₁ tk₁ ρ₁ ua x₁ I₁ r₁ => D2 e2 R T I₁ fun h₂ tk₂ ρ₂ ub x₂ I₂ r₂ => ?_)
      exact bin_sound (s := { s with heap := h₂, toks := tk₂ }) ho hf I₂ (r₁.mono x₂) r₂ (H.then (x₁.trans x₂))
theorem den_neg {e : PySem.Expr} {pos : Pos} {f : EF} (D1 : Den C X k e f) : Den C X k (.UnaryOp .USub e pos) (eNeg f) := by
  intro A Ex s h₀ L cl fn cd fm qual fr loc σ σ' ρ v Q hf R T I H
  unfold eNeg at hf
  split at hf
  · rename_i i σ₁ e1
    cases hf
    refine wpAny_UnaryOp (D1 e1 R T I fun h₁ tk₁ ρ₁ ua x₁ I₁ r₁ => ?_)
    obtain ⟨t, rfl⟩ := r₁
    exact neg_int (H h₁ _ ρ₁ _ x₁ I₁ ⟨_, rfl⟩)
  · cases hf
-- several
theorem denL_nil : DenL C X k [] lNil := by
  intro A Ex s h₀ L cl fn cd fm qual fr loc σ σ' ρ v pos Q hf R T I H
  cases hf
  exact wpAny_items_nil (H s.heap s.toks ρ [] Ext.rfl I trivial)
theorem denL_cons {e : PySem.Expr} {es : List PySem.Expr} {f : EF} {g : LF} (D1 : Den C X k e f) (D2 : DenL C X k es g) (hs : isStarred e = false := by rfl) : DenL C X k (e :: es) (lCons f g) := by
  intro A Ex s h₀ L cl fn cd fm qual fr loc σ σ' ρ v pos Q hf R T I H
  unfold lCons at hf
  split at hf
  · cases hf
  · rename_i a σ₁ e1
    split at hf
    · cases hf
    · rename_i b σ₂ e2
      cases hf
      refine wpAny_items_cons (D1 e1 R T I fun h₁ tk₁ ρ₁ ua x₁ I₁ r₁ => D2 e2 R T I₁ fun h₂ tk₂ ρ₂ us x₂ I₂ r₂ => ?_) (by cases e <;> first | rfl | cases hs)
      exact H h₂ tk₂ ρ₂ (ua :: us) (x₁.trans x₂) I₂ ⟨r₁.mono x₂, r₂⟩
theorem len_small {vs : List V} {us : List Value} {N : Nat} {ρ : Nat → Addr} (h : VsR N ρ vs us) (hl : vs.length < 100000) : us.length ≤ sizeLine := bigLen (h.len ▸ hl)
theorem den_list {es : List PySem.Expr} {pos : Pos} {g : LF} (D : DenL C X k es g) : Den C X k (.List es pos) (eList g) := by
  intro A Ex s h₀ L cl fn cd fm qual fr loc σ σ' ρ v Q hf R T I H
  unfold eList at hf
  split at hf
  · cases hf
  · rename_i vs σ₁ e1
    obtain ⟨hl, hf⟩ := cond_nlt hf (by intro e; cases e)
    rw [new_eq] at hf
    cases hf
    rw [lenV_eq] at hl
    refine List_ (D e1 R T I fun h₁ tk₁ ρ₁ us x₁ I₁ r₁ => ?_)
    obtain ⟨m, news, I₁⟩ := I₁
    refine newList_N (hsz := len_small r₁ hl) (s := { s with heap := h₁, toks := tk₁ }) I₁.F I₁.N fun h' F' N' => ?_
    obtain ⟨ρ', e, I', er⟩ := Inv.new (o := .li vs) I₁ F' N' fun N' ρ' e => ⟨us, 0, rfl, r₁.mono e⟩
    exact H h' tk₁ ρ' _ (x₁.trans e) I' ⟨Nat.lt_succ_self _, by rw [er]⟩
theorem den_tup {es : List PySem.Expr} {kk : Nat} {pos : Pos} {g : LF} (D : DenL C X k es g) : Den C X k (.Tuple es kk pos) (eTup g) := by
  intro A Ex s h₀ L cl fn cd fm qual fr loc σ σ' ρ v Q hf R T I H
  unfold eTup at hf
  split at hf
  · cases hf
  · rename_i vs σ₁ e1
    obtain ⟨hl, hf⟩ := cond_nlt hf (by intro e; cases e)
    rw [new_eq] at hf
    cases hf
    rw [lenV_eq] at hl
    refine Tuple_ (D e1 R T I fun h₁ tk₁ ρ₁ us x₁ I₁ r₁ => ?_)
    obtain ⟨m, news, I₁⟩ := I₁
    refine newTuple_N (hsz := len_small r₁ hl) (s := { s with heap := h₁, toks := tk₁ }) I₁.F I₁.N fun h' F' N' => ?_
    obtain ⟨ρ', e, I', er⟩ := Inv.new (o := .tu vs) I₁ F' N' fun N' ρ' e => ⟨us, 0, rfl, r₁.mono e⟩
    exact H h' tk₁ ρ' _ (x₁.trans e) I' ⟨Nat.lt_succ_self _, by rw [er]⟩
end
end Mine
end

section
namespace Mine
open PySem PySem.W PySem.Spec PySem.Calls PyProof.Rows

section
variable {C : Cx} {X : Sx} {k : Nat}
-- tests and choices
theorem den_if {t e₁ e₂ : PySem.Expr} {pos : Pos} {f : TF} {g h : EF} (D0 : DenT C X k t f) (D1 : Den C X k e₁ g) (D2 : Den C X k e₂ h) : Den C X k (.IfExp t e₁ e₂ pos) (eIf f g h) := by
  intro A Ex s h₀ L cl fn cd fm qual fr loc σ σ' ρ v Q hf R T I H
  unfold eIf at hf
  split at hf
  · cases hf
  · rename_i σ₁ e
    exact wpAny_IfExp (D0 e R T I fun h₁ tk₁ ρ₁ x₁ I₁ => D1 (s := { s with heap := h₁, toks := tk₁ }) hf R T I₁ (H.then x₁))
  · rename_i σ₁ e
    exact wpAny_IfExp (D0 e R T I fun h₁ tk₁ ρ₁ x₁ I₁ => D2 (s := { s with heap := h₁, toks := tk₁ }) hf R T I₁ (H.then x₁))
theorem denT_and {a b : PySem.Expr} {pos : Pos} {f g : TF} (D1 : DenT C X k a f) (D2 : DenT C X k b g) : DenT C X k (.BoolOp .And [a, b] pos) (tAnd f g) := by
  intro A Ex s h₀ L cl fn cd fm qual fr loc σ σ' ρ v Q hf R T I H
  unfold tAnd at hf
  refine wpAny_isTrue_BoolOp (wpAny_allTrue_And_cons ?_)
  split at hf
  · cases hf
  · rename_i σ₁ e
    refine D1 e R T I fun h₁ tk₁ ρ₁ x₁ I₁ => ?_
    refine wpAny_allTrue_And_cons (D2 (s := { s with heap := h₁, toks := tk₁ }) hf R T I₁ fun h₂ tk₂ ρ₂ x₂ I₂ => ?_)
    have z := H h₂ tk₂ ρ₂ (x₁.trans x₂) I₂
    cases v with
    | true => exact wpAny_allTrue_And_nil z
    | false => exact z
  · rename_i σ₁ e
    cases hf
    exact D1 e R T I fun h₁ tk₁ ρ₁ x₁ I₁ => H h₁ tk₁ ρ₁ x₁ I₁
theorem denT_or {a b : PySem.Expr} {pos : Pos} {f g : TF} (D1 : DenT C X k a f) (D2 : DenT C X k b g) : DenT C X k (.BoolOp .Or [a, b] pos) (tOr f g) := by
  intro A Ex s h₀ L cl fn cd fm qual fr loc σ σ' ρ v Q hf R T I H
  unfold tOr at hf
  refine wpAny_isTrue_BoolOp (wpAny_allTrue_Or_cons ?_)
  split at hf
  · cases hf
  · rename_i σ₁ e
    cases hf
    exact D1 e R T I fun h₁ tk₁ ρ₁ x₁ I₁ => H h₁ tk₁ ρ₁ x₁ I₁
  · rename_i σ₁ e
    refine D1 e R T I fun h₁ tk₁ ρ₁ x₁ I₁ => ?_
    refine wpAny_allTrue_Or_cons (D2 (s := { s with heap := h₁, toks := tk₁ }) hf R T I₁ fun h₂ tk₂ ρ₂ x₂ I₂ => ?_)
    have z := H h₂ tk₂ ρ₂ (x₁.trans x₂) I₂
    cases v with
    | true => exact z
    | false => exact wpAny_allTrue_Or_nil z
theorem denT_and3 {a b c : PySem.Expr} {pos : Pos} {f g h : TF} (D1 : DenT C X k a f) (D2 : DenT C X k b g) (D3 : DenT C X k c h) : DenT C X k (.BoolOp .And [a, b, c] pos) (tAnd f (tAnd g h)) := by
  intro A Ex s h₀ L cl fn cd fm qual fr loc σ σ' ρ v Q hf R T I H
  unfold tAnd at hf
  refine wpAny_isTrue_BoolOp (wpAny_allTrue_And_cons ?_)
  split at hf
  · cases hf
  · rename_i σ₁ e
    refine D1 e R T I fun h₁ tk₁ ρ₁ x₁ I₁ => wpAny_allTrue_And_cons ?_
    split at hf
    · cases hf
    · rename_i σ₂ e'
      refine D2 (s := { s with heap := h₁, toks := tk₁ }) e' R T I₁ fun h₂ tk₂ ρ₂ x₂ I₂ => ?_
      refine wpAny_allTrue_And_cons (D3 (s := { s with heap := h₂, toks := tk₂ }) hf R T I₂ fun h₃ tk₃ ρ₃ x₃ I₃ => ?_)
      have z := H h₃ tk₃ ρ₃ ((x₁.trans x₂).trans x₃) I₃
      cases v with
      | true => exact wpAny_allTrue_And_nil z
      | false => exact z
    · rename_i σ₂ e'
      cases hf
      exact D2 (s := { s with heap := h₁, toks := tk₁ }) e' R T I₁ fun h₂ tk₂ ρ₂ x₂ I₂ => H h₂ tk₂ ρ₂ (x₁.trans x₂) I₂
  · rename_i σ₁ e
    cases hf
    exact D1 e R T I fun h₁ tk₁ ρ₁ x₁ I₁ => H h₁ tk₁ ρ₁ x₁ I₁

-- data that a value reads as
mutual
def toP : D → PyData
  | .nn => .none
  | .it i => .int i
  | .li ds => .list (toPs ds)
  | .tu ds => .tuple (toPs ds)
def toPs : List D → List PyData
  | [] => []
  | d :: ds => toP d :: toPs ds
end
def okD : Nat → D → Prop
  | 0, _ => False
  | _ + 1, .nn => True
  | _ + 1, .it _ => True
  | n + 1, .li ds => ∀ d ∈ ds, okD n d
  | n + 1, .tu ds => ∀ d ∈ ds, okD n d
theorem rdL_nil (f : V → Option D) : rdL f [] = some [] := rfl
theorem rdL_cons (f : V → Option D) (v : V) (vs : List V) : rdL f (v :: vs) = (match f v with | none => none | some d => (match rdL f vs with | none => none | some ds => some (d :: ds))) := rfl
theorem rd_succ (σ : St) (n : Nat) (v : V) : rd σ (n + 1) v = (match v with
  | .no => none
  | .nn => some .nn
  | .bo _ => none
  | .it i => some (.it i)
  | .rf k => (match get σ k with
    | .li vs => (match rdL (rd σ n) vs with
      | none => none
      | some ds => some (.li ds))
    | .tu vs => (match rdL (rd σ n) vs with
      | none => none
      | some ds => some (.tu ds))
    | _ => none)) := rfl
theorem rdL_sound {σ : St} {ρ : Nat → Addr} {h : Heap} {n : Nat} (ih : ∀ {v : V} {u : Value} {d : D}, rd σ n v = some d → VR σ.n ρ v u → okD n d ∧ ∃ as, Reads h u (toP d) as) :
    ∀ {vs : List V} {us : List Value} {ds : List D}, rdL (rd σ n) vs = some ds → VsR σ.n ρ vs us → (∀ d ∈ ds, okD n d) ∧ ∃ as, ReadsAll h us (toPs ds) as
  | [], [], ds, e, _ => by
    rw [rdL_nil] at e; cases e
    exact ⟨(fun _ h => nomatch h), [], ReadsAll.nil⟩
  | v :: vs, u :: us, ds, e, r => by
    rw [rdL_cons] at e
    split at e
    · cases e
    · rename_i d e1
      split at e
      · cases e
      · rename_i ds' e2
        cases e
        obtain ⟨o1, as, r1⟩ := ih e1 r.1
        obtain ⟨o2, bs, r2⟩ := rdL_sound ih e2 r.2
        refine ⟨fun x hx => ?_, _, .cons r1 r2⟩
        rcases List.mem_cons.mp hx with rfl | hx
        · exact o1
        · exact o2 x hx
  | [], _ :: _, _, _, r => r.elim
  | _ :: _, [], _, _, r => r.elim
theorem rd_sound {cl : List (Str × Addr)} {h₀ h : Heap} {L : Addr} {fr : List (Addr × Obj)} {loc : List V} {σ : St} {ρ : Nat → Addr} (I : Inv X cl h₀ L fr loc σ ρ h) :
    ∀ (n : Nat) {v : V} {u : Value} {d : D}, rd σ n v = some d → VR σ.n ρ v u → okD n d ∧ ∃ as, Reads h u (toP d) as
  | 0, _, _, _, e, _ => by cases e
  | n + 1, v, u, d, e, r => by
    rw [rd_succ] at e
    cases v with
    | no => cases e
    | bo b => cases e
    | nn => cases e; cases r; exact ⟨trivial, _, .none⟩
    | it i => cases e; obtain ⟨t, rfl⟩ := r; exact ⟨trivial, _, .int i t⟩
    | rf j =>
      obtain ⟨hj, rfl⟩ := r
      simp only at e
      split at e
      · rename_i vs e1
        split at e
        · cases e
        · rename_i ds e2
          cases e
          obtain ⟨us, n', hu, hv⟩ := I.list hj e1
          obtain ⟨o, as, ra⟩ := rdL_sound (fun a b => rd_sound I n a b) e2 hv
          exact ⟨o, _, .list hu rfl rfl (by simpa using ra)⟩
      · rename_i vs e1
        split at e
        · cases e
        · rename_i ds e2
          cases e
          obtain ⟨us, n', hu, hv⟩ := I.tup hj e1
          obtain ⟨o, as, ra⟩ := rdL_sound (fun a b => rd_sound I n a b) e2 hv
          exact ⟨o, _, .tuple hu rfl rfl (by simpa using ra)⟩
      · cases e
theorem okD_up : ∀ {n : Nat} {d : D}, okD n d → okD (n + 1) d
  | 0, _, h => h.elim
  | n + 1, .nn, _ => trivial
  | n + 1, .it _, _ => trivial
  | n + 1, .li ds, h => fun d hd => okD_up (h d hd)
  | n + 1, .tu ds, h => fun d hd => okD_up (h d hd)
theorem okD_lay : ∀ (n : Nat) {d : D}, okD n d → (toP d).canLay0 = true ∧ (toP d).depth ≤ n
  | 0, _, h => h.elim
  | n + 1, d, h => by
    have key : ∀ ds : List D, (∀ d ∈ ds, okD n d) → PyData.canLayAll0 (toPs ds) = true ∧ PyData.depthAll (toPs ds) ≤ n := by
      intro ds
      induction ds with
      | nil => intro _; exact ⟨by simp [toPs, PyData.canLayAll0], by simp [toPs, PyData.depthAll]⟩
      | cons d ds ih =>
        intro hd
        have a := okD_lay n (hd d (.head _))
        have b := ih fun x hx => hd x (.tail _ hx)
        refine ⟨?_, ?_⟩
        · simp only [toPs, PyData.canLayAll0, a.1, b.1, Bool.and_self]
        · simp only [toPs, PyData.depthAll]; omega
    cases d with
    | nn => exact ⟨by simp [toP, PyData.canLay0], by simp [toP, PyData.depth]⟩
    | it i => exact ⟨by simp [toP, PyData.canLay0], by simp [toP, PyData.depth]⟩
    | li ds => have z := key ds h; exact ⟨by simp only [toP, PyData.canLay0, z.1], by simp only [toP, PyData.depth]; omega⟩
    | tu ds => have z := key ds h; exact ⟨by simp only [toP, PyData.canLay0, z.1], by simp only [toP, PyData.depth]; omega⟩
theorem eqL_nil (f : D → D → Bool) (l : List D) : eqL f [] l = (match l with | [] => true | _ :: _ => false) := rfl
theorem eqL_cons (f : D → D → Bool) (d : D) (ds l : List D) : eqL f (d :: ds) l = (match l with | [] => false | e :: r => bif f d e then eqL f ds r else false) := rfl
theorem eqB_eq (i j : Int) : Z.eqB i j = (i == j) := by
  by_cases h : i = j
  · subst h; rw [(Z.eqB_iff i i).mpr rfl]; simp
  · have : Z.eqB i j = false := by
      cases q : Z.eqB i j with
      | false => rfl
      | true => exact absurd ((Z.eqB_iff i j).mp q) h
    rw [this]; simp [h]
theorem eqD_sound : ∀ (n : Nat) {d e : D}, okD n d → okD n e → eqD n d e = PyData.eqv (toP d) (toP e)
  | 0, _, _, h, _ => h.elim
  | n + 1, d, e, hd, he => by
    have key : ∀ ds es : List D, (∀ d ∈ ds, okD n d) → (∀ d ∈ es, okD n d) → eqL (eqD n) ds es = PyData.eqvAll (toPs ds) (toPs es) := by
      intro ds
      induction ds with
      | nil => intro es _ _; cases es <;> (rw [eqL_nil]; simp [toPs, PyData.eqvAll])
      | cons d ds ih =>
        intro es h1 h2
        cases es with
        | nil => rw [eqL_cons]; simp [toPs, PyData.eqvAll]
        | cons e es =>
          rw [eqL_cons]
          simp only [toPs, PyData.eqvAll]
          rw [← eqD_sound n (h1 d (.head _)) (h2 e (.head _)), ← ih es (fun x hx => h1 x (.tail _ hx)) fun x hx => h2 x (.tail _ hx)]
          cases eqD n d e <;> rfl
    cases d <;> cases e <;> first
      | (show false = _; simp [toP, PyData.eqv]; done)
      | (show true = _; simp [toP, PyData.eqv]; done)
      | (rename_i i j; show Z.eqB i j = _; rw [eqB_eq]; simp [toP, PyData.eqv]; done)
      | (rename_i ds es; show eqL (eqD n) ds es = _; simp only [toP, PyData.eqv]; exact key ds es hd he)
theorem anyD_sound {f : D → Bool} {g : PyData → Bool} : ∀ {ds : List D}, (∀ d ∈ ds, f d = g (toP d)) → anyD f ds = (toPs ds).any g
  | [], _ => rfl
  | d :: ds, h => by
    show (bif f d then true else anyD f ds) = _
    rw [anyD_sound (ds := ds) fun x hx => h x (.tail _ hx), h d (.head _)]
    simp only [toPs, List.any_cons]
    cases g (toP d) <;> rfl
theorem shaped_of {n : Nat} (hn : n ≤ 64) {d : D} (h : okD n d) : SeqAt.shaped (toP d) = true := by
  have z := okD_lay n h
  show ((toP d).canLay0 && decide ((toP d).depth ≤ 64)) = true
  rw [z.1, decide_eq_true (by omega)]; rfl

def co : CmpOp → Option CO
  | .Lt => some .lt
  | .LtE => some .le
  | .Gt => some .gt
  | .GtE => some .ge
  | .Eq => some .eq
  | .NotEq => some .ne
  | _ => none
theorem bool_of_iff {b : Bool} {p : Prop} [Decidable p] (h : b = true ↔ p) : b = decide p := by
  cases b with
  | true => exact (decide_eq_true (h.mp rfl)).symm
  | false => exact (decide_eq_false fun q => by cases h.mpr q).symm
theorem cmp_sound {A : Around} {Ex : Value → Shared → Prop} {s : Shared} {h₀ : Heap} {L : Addr} {cl : List (Str × Addr)} {fr : List (Addr × Obj)} {loc : List V} {σ σ' : St} {ρ : Nat → Addr} {a b : V} {c : Bool} {ua ub : Value} {Q : Value → Shared → Prop}
    {op : CmpOp} {o : CO} (ho : co op = some o) (R : Room A k) (h : cmpV o a b σ = .ok c σ') (I : Inv X cl h₀ L fr loc σ ρ s.heap) (ha : VR σ.n ρ a ua) (hb : VR σ.n ρ b ub) (H : σ' = σ → Q (.bool c) s) :
    wpAny (model C.prog C.w) A (compareOp op ua ub) Q Ex s := by
  unfold cmpV at h
  have hu : A.units + 64 < cLine := by have := R.un; omega
  split at h
  · obtain ⟨t, rfl⟩ := ha
    obtain ⟨t', rfl⟩ := hb
    rename_i i j
    cases h
    have H := H rfl
    cases op <;> simp only [co, Option.some.injEq, reduceCtorEq] at ho <;> subst ho <;> dsimp only [cmpI] at H
    · exact eq_int (by rw [← eqB_eq]; exact H)
    · exact ne_int (by rw [bne, ← eqB_eq]; exact H)
    · exact lt_int (by rw [← bool_of_iff (Z.ltB_iff i j)]; exact H)
    · exact P.le_int (by rw [← bool_of_iff (Z.leB_iff i j)]; exact H)
    · exact P.gt_int (by rw [← bool_of_iff (b := Z.ltB j i) (p := i > j) (Z.ltB_iff j i)]; exact H)
    · exact P.ge_int (by rw [← bool_of_iff (b := Z.leB j i) (p := i ≥ j) (Z.leB_iff j i)]; exact H)
  · split at h
    · rename_i d e e1 e2
      obtain ⟨o1, as, r1⟩ := rd_sound I 5 e1 ha
      obtain ⟨o2, bs, r2⟩ := rd_sound I 5 e2 hb
      split at h
      · have : op = .Eq := by cases op <;> first | rfl | (simp [co] at ho)
        subst this
        cases h
        exact eq_dataH r1 r2 (shaped_of (by decide) o1) (shaped_of (by decide) o2) hu (by rw [← eqD_sound 5 o1 o2]; exact H rfl)
      · have : op = .NotEq := by cases op <;> first | rfl | (simp [co] at ho)
        subst this
        cases h
        exact ne_dataH r1 r2 (shaped_of (by decide) o1) (shaped_of (by decide) o2) hu (by rw [← eqD_sound 5 o1 o2]; exact H rfl)
      · cases h
    · cases h
  · cases h
theorem notMark {op : CmpOp} {r : PySem.Expr} (h1 : op ≠ .In) (h2 : op ≠ .NotIn) : behindInMarks op r = false := by
  cases r <;> simp [behindInMarks, h1, h2]
theorem denT_cmp {l r : PySem.Expr} {pos : Pos} {op : CmpOp} {o : CO} {f g : EF} (ho : co op = some o) (D1 : Den C X k l f) (D2 : Den C X k r g) : DenT C X k (.Compare l [op] [r] pos) (tCmp o f g) := by
  intro A Ex s h₀ L cl fn cd fm qual fr loc σ σ' ρ v Q hf R T I H
  unfold tCmp at hf
  split at hf
  · cases hf
  · rename_i a σ₁ e1
    split at hf
    · cases hf
    · rename_i b σ₂ e2
      refine wpAny_isTrue_Compare1 (D1 e1 R T I fun h₁ tk₁ ρ₁ ua x₁ I₁ r₁ => D2 e2 R T I₁ fun h₂ tk₂ ρ₂ ub x₂ I₂ r₂ => ?_) ?_
      · refine cmp_sound (s := { s with heap := h₂, toks := tk₂ }) ho R hf I₂ (r₁.mono x₂) r₂ fun e => wpAny_truthy_bool ?_
        subst e
        exact H h₂ tk₂ ρ₂ (x₁.trans x₂) I₂
      · exact notMark (by rintro rfl; cases ho) (by rintro rfl; cases ho)
end
end Mine
end

section
namespace Mine
open PySem PySem.W PySem.Spec PySem.Calls PyProof.Rows

section
variable {C : Cx} {X : Sx} {k : Nat}
theorem denT_notIn {l r : PySem.Expr} {pos : Pos} {f g : EF} (D1 : Den C X k l f) (D2 : Den C X k r g) (hm : behindInMarks .NotIn r = false) : DenT C X k (.Compare l [.NotIn] [r] pos) (tNotIn f g) := by
  intro A Ex s h₀ L cl fn cd fm qual fr loc σ σ' ρ v Q hf R T I H
  have hu := R.un
  unfold tNotIn at hf
  split at hf
  · cases hf
  · rename_i a σ₁ e1
    split at hf
    · rename_i i σ₂ e2
      refine wpAny_isTrue_Compare1 (D1 e1 R T I fun h₁ tk₁ ρ₁ ua x₁ I₁ r₁ => D2 e2 R T I₁ fun h₂ tk₂ ρ₂ ub x₂ I₂ r₂ => ?_) hm
      split at hf
      · rename_i d es e3 e4
        cases hf
        obtain ⟨o1, as, q1⟩ := rd_sound I₂ 5 e3 (r₁.mono x₂)
        obtain ⟨o2, bs, q2⟩ := rd_sound I₂ 5 e4 r₂
        have z := okD_lay 5 o2
        have z1 := okD_lay 5 o1
        simp only [toP, PyData.canLay0, PyData.depth] at z
        refine SeqAt.notIn_list_reads (s := { s with heap := h₂, toks := tk₂ }) q2 q1 z.1 z1.1 (by omega) (wpAny_truthy_bool ?_)
        rw [← anyD_sound (f := fun e => eqD 5 e d) (g := fun y => PyData.eqv y (toP d)) (ds := es) fun x hx => eqD_sound 5 (?_ : okD 5 x) o1]
        · exact H h₂ tk₂ ρ₂ (x₁.trans x₂) I₂
        · exact okD_up (o2 x hx)
      · rename_i d es e3 e4
        cases hf
        obtain ⟨o1, as, q1⟩ := rd_sound I₂ 5 e3 (r₁.mono x₂)
        obtain ⟨o2, bs, q2⟩ := rd_sound I₂ 5 e4 r₂
        have z := okD_lay 5 o2
        have z1 := okD_lay 5 o1
        simp only [toP, PyData.canLay0, PyData.depth] at z
        refine SeqAt.notIn_tuple_reads (s := { s with heap := h₂, toks := tk₂ }) q2 q1 z.1 z1.1 (by omega) (wpAny_truthy_bool ?_)
        rw [← anyD_sound (f := fun e => eqD 5 e d) (g := fun y => PyData.eqv y (toP d)) (ds := es) fun x hx => eqD_sound 5 (?_ : okD 5 x) o1]
        · exact H h₂ tk₂ ρ₂ (x₁.trans x₂) I₂
        · exact okD_up (o2 x hx)
      · cases hf
    · cases hf
theorem denT_notNone {l : PySem.Expr} {kk : Nat} {p pos : Pos} {f : EF} (D1 : Den C X k l f) : DenT C X k (.Compare l [.IsNot] [.Constant .none kk p] pos) (tNotNone f) := by
  intro A Ex s h₀ L cl fn cd fm qual fr loc σ σ' ρ v Q hf R T I H
  unfold tNotNone at hf
  have key : ∀ {a : V} {σ₁ : St} (b : Bool), f loc σ = .ok a σ₁ → σ' = σ₁ → b = v → (∀ N ρ u, VR N ρ a u → (!(u == Value.none)) = b) →
      wpAny (model C.prog C.w) A (isTrue (.Compare l [.IsNot] [.Constant .none kk p] pos) (envG X.sc L cl fn cd fm qual) (eval (.Compare l [.IsNot] [.Constant .none kk p] pos) (envG X.sc L cl fn cd fm qual))) Q Ex s := by
    intro a σ₁ b e1 e2 e3 hb
    subst e2 e3
    refine wpAny_isTrue_Compare1 (D1 e1 R T I fun h₁ tk₁ ρ₁ ua x₁ I₁ r₁ => wpAny_Constant_none (isNot_none (wpAny_truthy_bool ?_))) rfl
    rw [hb _ _ _ r₁]
    exact H h₁ tk₁ ρ₁ x₁ I₁
  split at hf
  · cases hf
  · cases hf
  · rename_i σ₁ e
    cases hf
    exact key false e rfl rfl fun N ρ u hu => by cases hu; rfl
  · rename_i a σ₁ h1 h2 e
    cases hf
    refine key true e rfl rfl fun N ρ u hu => ?_
    cases a with
    | no => exact hu.elim
    | nn => exact (h2 rfl).elim
    | bo b => cases hu; rfl
    | it i => obtain ⟨t, rfl⟩ := hu; rfl
    | rf j => obtain ⟨_, rfl⟩ := hu; rfl

-- an item
theorem subscripted_any (slice : PySem.Expr) (o i : Value) : ∃ ops, subscripted slice false o i = operate ops (getItem o i) := by
  unfold subscripted
  split
  · exact ⟨_, rfl⟩
  · rename_i h; cases h
  · exact ⟨_, rfl⟩
theorem idx_nat {j n : Nat} : idx (.ofNat j) n = j := rfl
theorem item_sound {A : Around} {Ex : Value → Shared → Prop} {s : Shared} {h₀ : Heap} {L : Addr} {cl : List (Str × Addr)} {fr : List (Addr × Obj)} {loc : List V} {σ σ' : St} {ρ : Nat → Addr} {a b v : V} {ua ub : Value} {Q : Value → Shared → Prop}
    (h : item a b σ = .ok v σ') (I : Inv X cl h₀ L fr loc σ ρ s.heap) (ha : VR σ.n ρ a ua) (hb : VR σ.n ρ b ub) (H : σ' = σ → ∀ u, VR σ.n ρ v u → Q u s) :
    (∃ T id, s.TypeIs ua T ∧ typeLookup (.type T) "__getitem__" = pure (some (.builtin id))) ∧ wpAny (model C.prog C.w) A (getItem ua ub) Q Ex s := by
  unfold item at h
  split at h
  · rename_i i j
    obtain ⟨hi, rfl⟩ := ha
    obtain ⟨t, rfl⟩ := hb
    split at h
    · rename_i vs e
      obtain ⟨hl, h⟩ := cond_nlt h (by intro e; cases e)
      obtain ⟨rfl, rfl, hne⟩ := inv_of_okV h
      rw [lenV_eq] at hl hne H
      obtain ⟨us, n, hu, hv⟩ := I.list hi e
      have il := isList_of hu
      refine ⟨⟨_, _, il.typeIs, slot_list_getitem.lookup⟩, ?_⟩
      have lt : idx j vs.length < vs.length := by
        apply Nat.lt_of_not_le
        intro q
        apply hne
        rw [nth_eq, List.getElem?_eq_none q]; rfl
      obtain ⟨u, e2, hr⟩ := hv.get lt
      have len := hv.len
      cases j with
      | ofNat j =>
        rw [idx_nat] at lt e2 hr H
        exact wpAny_getItem_list il (Int.natCast_nonneg j) (by show (j : Int) < 2 ^ 63; omega) (by simpa using e2) (H rfl u (by simpa [lenV_eq] using hr))
      | negSucc j =>
        have hj : j < vs.length := by
          apply Nat.lt_of_not_le
          intro q
          have : nlt j vs.length = false := by
            cases q2 : nlt j vs.length with
            | false => rfl
            | true => have := nlt_iff.mp q2; omega
          have e0 : idx (.negSucc j) vs.length = vs.length := by show (bif nlt j vs.length then _ else _) = _; rw [this]; rfl
          rw [e0] at lt
          exact Nat.lt_irrefl _ lt
        have e0 : idx (.negSucc j) vs.length = vs.length - (j + 1) := by show (bif nlt j vs.length then _ else _) = _; rw [nlt_iff.mpr hj]; rfl
        rw [e0] at e2 hr H
        refine wpAny_getItem_list_neg il (Int.negSucc_lt_zero j) ?_ ?_ ?_ (H rfl u (by simpa [lenV_eq] using hr))
        · rw [List.size_toArray, ← len]; omega
        · omega
        · have e3 : (Int.negSucc j + ((us.toArray.size : Nat) : Int)).toNat = vs.length - (j + 1) := by rw [List.size_toArray, ← len]; omega
          rw [e3]; simpa using e2
    · cases h
  · cases h
theorem den_sub {e i : PySem.Expr} {pos : Pos} {f g : EF} (D1 : Den C X k e f) (D2 : Den C X k i g) : Den C X k (.Subscript e i pos) (eSub f g) := by
  intro A Ex s h₀ L cl fn cd fm qual fr loc σ σ' ρ v Q hf R T I H
  unfold eSub at hf
  split at hf
  · cases hf
  · rename_i a σ₁ e1
    split at hf
    · cases hf
    · rename_i b σ₂ e2
      refine Subscript_ (D1 e1 R T I fun h₁ tk₁ ρ₁ ua x₁ I₁ r₁ => D2 e2 R T I₁ fun h₂ tk₂ ρ₂ ub x₂ I₂ r₂ => ?_)
      obtain ⟨ops, hs⟩ := subscripted_any i ua ub
      obtain ⟨⟨T', id, hT, hl⟩, w⟩ := item_sound (C := C) (A := A) (Ex := Ex) (s := { s with heap := h₂, toks := tk₂ }) (Q := Q) hf I₂ (r₁.mono x₂) r₂ fun e u hu => by subst e; exact H h₂ tk₂ ρ₂ u (x₁.trans x₂) I₂ hu
      exact tail_any hT hl w hs
-- cuts
theorem cut_sound {A : Around} {Ex : Value → Shared → Prop} {s : Shared} {h₀ : Heap} {L : Addr} {cl : List (Str × Addr)} {fr : List (Addr × Obj)} {loc : List V} {σ : St} {ρ : Nat → Addr} {i : Nat} {vs ws : List V} {vl vu vk : Value} {lo hi st : Option Int} {Q : Value → Shared → Prop} {value slice : PySem.Expr}
    (I : Inv X cl h₀ L fr loc σ ρ s.heap) (hi' : i < σ.n) (e : get σ i = .li vs ∨ ∃ ob, get σ i = .fz vs ob) (hl : vs.length < 100000) (pl : IsPart vl lo) (pu : IsPart vu hi) (pk : IsPart vk st) (h0 : st ≠ some 0)
    (hw : ∀ us, VsR σ.n ρ vs us → ∃ ts, slicePick us.toArray lo hi st = List.toArray ts ∧ VsR σ.n ρ ws ts) (H : EndE X cl h₀ L fr loc σ ρ (.rf σ.n) ⟨σ.n + 1, .li ws :: σ.os⟩ s Q) :
    wpAny (model C.prog C.w) A (subscriptTail value slice (.ref (ρ i)) (.ref s.heap.objs.size)) Q Ex { s with heap := s.heap.push { cls := .type "slice", data := .fields #[vl, vu, vk] } } := by
  have : ∃ us n, s.heap.get? (ρ i) = some (listOf (List.toArray us) n) ∧ VsR σ.n ρ vs us := by
    rcases e with e | ⟨ob, e⟩
    · exact I.list hi' e
    · obtain ⟨ob', ho, _, _, hr, _⟩ := I.at hi'
      rw [e] at hr
      obtain ⟨rfl, us, n, rfl, hv⟩ := hr
      exact ⟨us, n, ho, hv⟩
  obtain ⟨us, n, hu, hv⟩ := this
  obtain ⟨ts, et, ht⟩ := hw us hv
  obtain ⟨m, news, I⟩ := I
  have il := isList_of hu
  obtain ⟨ops, hs⟩ := subscripted_any slice (.ref (ρ i)) (.ref s.heap.objs.size)
  refine tail_any (s := { s with heap := s.heap.push { cls := .type "slice", data := .fields #[vl, vu, vk] } }) (il.push _).typeIs slot_list_getitem.lookup
    (wpAny_getItem_list_slice (il.push _) (Heap.IsSliceOf.new ..) pl pu pk h0 ?_ (by rw [List.size_toArray]; exact len_small hv hl)) hs
  rw [et]
  let h1 : Heap := s.heap.push { cls := .type "slice", data := .fields #[vl, vu, vk] }
  have F1 : Fr h₀ L h1 m := I.F.push _
  have N1 : News h₀ L h1 (news ++ fr) := fun p hp => News.push I.F I.N _ rfl p (.tail _ hp)
  have F2 := F1.push (listOf ts.toArray 0)
  have N2 := News.push F1 N1 (listOf ts.toArray 0)
  have I1 : Inv0 X cl h₀ L fr loc σ ρ h1 m news := ⟨F1, N1, I.nd, I.S, I.len, I.L⟩
  obtain ⟨ρ', x, I', er⟩ := Inv.new (o := .li ws) I1 F2 N2 fun N' ρ' e => ⟨ts, 0, rfl, ht.mono e⟩
  exact H _ s.toks ρ' _ x I' ⟨Nat.lt_succ_self _, by rw [er]⟩
theorem takeV_eq (l : List V) (n : Nat) : takeV l n = l.take n := by
  induction l generalizing n with
  | nil => cases n <;> rfl
  | cons v l ih => cases n with
    | zero => rfl
    | succ n => show v :: takeV l n = _; rw [ih]; rfl
theorem dropV_eq : ∀ (n : Nat) (l : List V), dropV n l = l.drop n
  | 0, _ => rfl
  | _ + 1, [] => rfl
  | n + 1, _ :: l => dropV_eq n l
theorem revV_eq (l a : List V) : revV l a = l.reverse ++ a := by
  induction l generalizing a with
  | nil => rfl
  | cons v l ih => show revV l (v :: a) = _; rw [ih]; simp
theorem VsR.take {N : Nat} {ρ : Nat → Addr} : ∀ {vs : List V} {us : List Value} (n : Nat), VsR N ρ vs us → VsR N ρ (vs.take n) (us.take n)
  | _, _, 0, _ => trivial
  | [], [], _ + 1, _ => trivial
  | _ :: _, _ :: _, n + 1, h => ⟨h.1, h.2.take n⟩
  | [], _ :: _, _ + 1, h => h.elim
  | _ :: _, [], _ + 1, h => h.elim
theorem VsR.drop {N : Nat} {ρ : Nat → Addr} : ∀ {vs : List V} {us : List Value} (n : Nat), VsR N ρ vs us → VsR N ρ (vs.drop n) (us.drop n)
  | _, _, 0, h => h
  | [], [], _ + 1, _ => trivial
  | _ :: _, _ :: _, n + 1, h => h.2.drop n
  | [], _ :: _, _ + 1, h => h.elim
  | _ :: _, [], _ + 1, h => h.elim
theorem VsR.rev {N : Nat} {ρ : Nat → Addr} : ∀ {vs : List V} {us : List Value}, VsR N ρ vs us → VsR N ρ vs.reverse us.reverse
  | [], [], _ => trivial
  | _ :: _, _ :: _, h => by
    rw [List.reverse_cons, List.reverse_cons]
    exact h.2.rev.app ⟨h.1, trivial⟩
  | [], _ :: _, h => h.elim
  | _ :: _, [], h => h.elim
theorem den_cutAll {e : PySem.Expr} {p pos : Pos} {f : EF} (D : Den C X k e f) : Den C X k (.Subscript e (.Slice none none none p) pos) (cutAll false f) := by
  intro A Ex s h₀ L cl fn cd fm qual fr loc σ σ' ρ v Q hf R T I H
  unfold cutAll at hf
  split at hf
  · rename_i i σ₁ e1
    split at hf
    · rename_i vs e2
      obtain ⟨hl, hf⟩ := cond_nlt hf (by intro e; cases e)
      rw [new_eq] at hf
      cases hf
      rw [lenV_eq] at hl
      refine Subscript_ (D e1 R T I fun h₁ tk₁ ρ₁ ua x₁ I₁ r₁ => wpAny_Slice ?_)
      obtain ⟨hi, rfl⟩ := r₁
      refine wpAny_pure (wpAny_pure (wpAny_pure ?_))
      exact cut_sound (s := { s with heap := h₁, toks := tk₁ }) I₁ hi (.inl e2) hl .none .none .none (by simp) (fun us hu => ⟨us, slicePick_all _, hu⟩) (H.then x₁)
    · cases hf
  · cases hf
theorem den_cutRev {e : PySem.Expr} {kk : Nat} {q q' p pos : Pos} {f : EF} (D : Den C X k e f) : Den C X k (.Subscript e (.Slice none none (some (.UnaryOp .USub (.Constant (.int 1) kk q) q')) p) pos) (cutAll true f) := by
  intro A Ex s h₀ L cl fn cd fm qual fr loc σ σ' ρ v Q hf R T I H
  unfold cutAll at hf
  split at hf
  · rename_i i σ₁ e1
    split at hf
    · rename_i vs e2
      obtain ⟨hl, hf⟩ := cond_nlt hf (by intro e; cases e)
      rw [new_eq] at hf
      cases hf
      rw [lenV_eq] at hl
      refine Subscript_ (D e1 R T I fun h₁ tk₁ ρ₁ ua x₁ I₁ r₁ => wpAny_Slice ?_)
      obtain ⟨hi, rfl⟩ := r₁
      refine wpAny_pure (wpAny_pure ?_)
      show wpAny _ A (eval (.UnaryOp .USub (.Constant (.int 1) kk q) q') _) _ _ _
      refine wpAny_UnaryOp (wpAny_Constant_int (neg_int ?_))
      refine cut_sound (C := C) (X := X) (s := { s with heap := h₁, toks := tk₁ + 1 + 1 }) (ws := revV vs []) I₁ hi (.inl e2) hl .none .none (.int (-1) _) (by decide) (fun us hu => ⟨us.reverse, ?_, ?_⟩) (H.then x₁)
      · rw [krv_pick]
      · rw [revV_eq, List.append_nil]; exact hu.rev
    · cases hf
  · cases hf
theorem den_cutTo {e b : PySem.Expr} {p pos : Pos} {f g : EF} (D : Den C X k e f) (D2 : Den C X k b g) : Den C X k (.Subscript e (.Slice none (some b) none p) pos) (cutTo f g) := by
  intro A Ex s h₀ L cl fn cd fm qual fr loc σ σ' ρ v Q hf R T I H
  unfold cutTo at hf
  split at hf
  · rename_i i σ₁ e1
    split at hf
    · rename_i b' σ₂ e2
      split at hf
      · rename_i vs e3
        obtain ⟨hl, hf⟩ := cond_nlt hf (by intro e; cases e)
        rw [new_eq] at hf
        cases hf
        rw [lenV_eq] at hl
        refine Subscript_ (D e1 R T I fun h₁ tk₁ ρ₁ ua x₁ I₁ r₁ => wpAny_Slice ?_)
        refine wpAny_pure (D2 e2 R T I₁ fun h₂ tk₂ ρ₂ ub x₂ I₂ r₂ => wpAny_pure ?_)
        obtain ⟨hi, rfl⟩ := r₁.mono x₂
        obtain ⟨t, rfl⟩ := r₂
        exact cut_sound (s := { s with heap := h₂, toks := tk₂ }) I₂ hi (.inl e3) hl .none (.int _ _) .none (by simp) (fun us hu => ⟨us.take b', by have := slicePick_upto' us.toArray b'; simpa using this, by rw [takeV_eq]; exact hu.take b'⟩) (H.then (x₁.trans x₂))
      · rename_i vs ob e3
        obtain ⟨hl, hf⟩ := cond_nlt hf (by intro e; cases e)
        rw [new_eq] at hf
        cases hf
        rw [lenV_eq] at hl
        refine Subscript_ (D e1 R T I fun h₁ tk₁ ρ₁ ua x₁ I₁ r₁ => wpAny_Slice ?_)
        refine wpAny_pure (D2 e2 R T I₁ fun h₂ tk₂ ρ₂ ub x₂ I₂ r₂ => wpAny_pure ?_)
        obtain ⟨hi, rfl⟩ := r₁.mono x₂
        obtain ⟨t, rfl⟩ := r₂
        exact cut_sound (s := { s with heap := h₂, toks := tk₂ }) I₂ hi (.inr ⟨ob, e3⟩) hl .none (.int _ _) .none (by simp) (fun us hu => ⟨us.take b', by have := slicePick_upto' us.toArray b'; simpa using this, by rw [takeV_eq]; exact hu.take b'⟩) (H.then (x₁.trans x₂))
      · cases hf
    · cases hf
  · cases hf
theorem cond_ble {α : Type} {a b : Nat} {x y z : α} (h : (bif Nat.ble a b then x else y) = z) (hy : y ≠ z) : a ≤ b ∧ x = z := by
  cases q : Nat.ble a b with
  | true => rw [q] at h; exact ⟨Nat.le_of_ble_eq_true q, h⟩
  | false => rw [q] at h; exact absurd h hy
theorem den_cutOf {e a b : PySem.Expr} {p pos : Pos} {f g g' : EF} (D : Den C X k e f) (D1 : Den C X k a g) (D2 : Den C X k b g') : Den C X k (.Subscript e (.Slice (some a) (some b) none p) pos) (cutOf f g g') := by
  intro A Ex s h₀ L cl fn cd fm qual fr loc σ σ' ρ v Q hf R T I H
  unfold cutOf at hf
  split at hf
  · rename_i i σ₁ e1
    split at hf
    · rename_i a' σ₂ e2
      split at hf
      · rename_i b' σ₃ e3
        split at hf
        · rename_i vs e4
          obtain ⟨h1, hf⟩ := cond_ble hf (by intro e; cases e)
          obtain ⟨h2, hf⟩ := cond_ble hf (by intro e; cases e)
          obtain ⟨hl, hf⟩ := cond_nlt hf (by intro e; cases e)
          rw [new_eq] at hf
          cases hf
          rw [lenV_eq] at hl h2
          refine Subscript_ (D e1 R T I fun h₁ tk₁ ρ₁ ua x₁ I₁ r₁ => wpAny_Slice ?_)
          refine D1 e2 R T I₁ fun h₂ tk₂ ρ₂ ub x₂ I₂ r₂ => D2 e3 R T I₂ fun h₃ tk₃ ρ₃ uc x₃ I₃ r₃ => wpAny_pure ?_
          obtain ⟨hi, rfl⟩ := (r₁.mono x₂).mono x₃
          obtain ⟨t, rfl⟩ := r₂
          obtain ⟨t', rfl⟩ := r₃
          refine cut_sound (s := { s with heap := h₃, toks := tk₃ }) I₃ hi (.inl e4) hl (.int _ _) (.int _ _) .none (by simp) (fun us hu => ⟨(us.drop a').take (b' - a'), ?_, by rw [takeV_eq, dropV_eq]; exact (hu.drop a').take _⟩) (H.then ((x₁.trans x₂).trans x₃))
          have := slicePick_run us.toArray a' b' (by rw [List.size_toArray, ← hu.len]; exact h2) h1
          simpa using this
        · cases hf
      · cases hf
    · cases hf
  · cases hf
end
end Mine
end

section
namespace Mine
open PySem PySem.W PySem.Spec PySem.Calls PyProof.Rows

section
variable {C : Cx} {X : Sx} {k : Nat}
theorem starEach_plain {e : PySem.Expr} {es : List PySem.Expr} {env : Env} (hs : isStarred e = false) : starEach (e :: es) env = (false, eval e env) :: starEach es env := by cases e <;> first | rfl | cases hs
theorem noStars {env : Env} {pos : Pos} : ∀ {es : List PySem.Expr}, es.any isStarred = false → (backTo pos (starEach es env)).any (·.1) = false
  | [], _ => rfl
  | e :: es, h => by
    simp only [List.any_cons, Bool.or_eq_false_iff] at h
    rw [starEach_plain h.1]
    show (false || (backTo pos (starEach es env)).any (·.1)) = false
    rw [noStars h.2]; rfl
theorem keep_machine {M : Model} {f : Value} (hf : ∀ a, f ≠ .ref a) : ∀ h : Heap, True → ∃ k, (k = Keeper.frame ∨ k = Keeper.machine ∨ k = Keeper.boundFrame) ∧ Looks M h (keeperOf f) k := fun h _ =>
  ⟨.machine, .inr (.inl rfl), by cases f <;> first | exact Looks.now | exact absurd rfl (hf _)⟩
-- a built-in of the start-up names, called
theorem den_bi {x : Str} {fv : Value} {p pos : Pos} {e : PySem.Expr} {es : List PySem.Expr} {g : LF} {KV : List V → St → RE} (hmg : C.mg x = none) (hv : bootBuiltins x = some fv) (hn : x ≠ "__name__") (hf : ∀ a, fv ≠ .ref a)
    (hk : X.sc.kind = .function) (hx : X.sc.names.lookup x = some .globalImplicit) (hd : (x == ("__debug__" : Str)) = false) (hs : (e :: es).any isStarred = false) (D : DenL C X k (e :: es) g)
    (S : ∀ {A : Around} {Ex : Value → Shared → Prop} {s : Shared} {h₀ : Heap} {L : Addr} {cl : List (Str × Addr)} {fr : List (Addr × Obj)} {loc : List V} {σ σ' : St} {ρ : Nat → Addr} {vs : List V} {us : List Value} {v : V} {Q : Value → Shared → Prop},
      KV vs σ = .ok v σ' → Room A k → Inv X cl h₀ L fr loc σ ρ s.heap → VsR σ.n ρ vs us → EndE X cl h₀ L fr loc σ ρ v σ' s Q → wpAny (model C.prog C.w) A (call fv us) Q Ex s) :
    Den C X k (.Call (.Name x p) (e :: es) [] pos) (fun loc σ => match g loc σ with | .bad => .bad | .ok vs σ => KV vs σ) := by
  intro A Ex s h₀ L cl fn cd fm qual fr loc σ σ' ρ v Q hf' R T I H
  simp only at hf'
  split at hf'
  · cases hf'
  · rename_i vs σ₁ e1
    have FK : ∀ b o, h₀.get? b = some o → s.heap.get? b = some o := by obtain ⟨m, news, I⟩ := I; exact I.F.keep
    refine Call_ (Name_function_global hk hx (loadGlobal_builtin (T.g.keeps FK) hmg (T.b.keeps FK) ((T.builtins x hn).trans hv) ?_) hd) rfl
    have hst : isStarred e = false := by simp only [List.any_cons, Bool.or_eq_false_iff] at hs; exact hs.1
    refine callWith_of (P := fun _ => True) (by rw [noStars hs]; rfl) (keep_machine hf) ?_
    have w := D (pos := pos) (cl := cl) (fn := fn) (cd := cd) (fm := fm) (qual := qual) (Q := fun vs s' => True ∧ wpAny (model C.prog C.w) A (call fv ([] ++ vs)) Q Ex s') (Ex := Ex) e1 R T I
      fun h₁ tk₁ ρ₁ us x₁ I₁ r₁ => ⟨trivial, S (s := { s with heap := h₁, toks := tk₁ }) hf' R I₁ r₁ (H.then x₁)⟩
    rw [starEach_plain hst] at w ⊢
    exact evalArgs_plain w
theorem bi1_eq (kv : V → St → RE) (g : LF) (loc : List V) (σ : St) : bi1 kv g loc σ = (match g loc σ with | .bad => .bad | .ok vs σ => (match vs with | [v] => kv v σ | _ => .bad)) := by
  unfold bi1
  cases g loc σ with
  | bad => rfl
  | ok vs σ => cases vs with
    | nil => rfl
    | cons v r => cases r <;> rfl
theorem bi2_eq (kv : V → V → St → RE) (g : LF) (loc : List V) (σ : St) : bi2 kv g loc σ = (match g loc σ with | .bad => .bad | .ok vs σ => (match vs with | [v, u] => kv v u σ | _ => .bad)) := by
  unfold bi2
  cases g loc σ with
  | bad => rfl
  | ok vs σ => cases vs with
    | nil => rfl
    | cons v r => cases r with
      | nil => rfl
      | cons w r => cases r <;> rfl
theorem Den.congr {e : PySem.Expr} {f g : EF} (D : Den C X k e f) (h : ∀ loc σ, g loc σ = f loc σ) : Den C X k e g := by
  have : g = f := funext fun loc => funext fun σ => h loc σ
  rw [this]; exact D
theorem VsR.one {N : Nat} {ρ : Nat → Addr} {v : V} {us : List Value} (h : VsR N ρ [v] us) : ∃ u, us = [u] ∧ VR N ρ v u := by
  cases us with
  | nil => exact h.elim
  | cons u r => cases r with
    | nil => exact ⟨u, rfl, h.1⟩
    | cons _ _ => exact h.2.elim
theorem VsR.two {N : Nat} {ρ : Nat → Addr} {v w : V} {us : List Value} (h : VsR N ρ [v, w] us) : ∃ u t, us = [u, t] ∧ VR N ρ v u ∧ VR N ρ w t := by
  cases us with
  | nil => exact h.elim
  | cons u r =>
    obtain ⟨t, rfl, ht⟩ := VsR.one h.2
    exact ⟨u, t, rfl, h.1, ht⟩

theorem den_len {p pos : Pos} {e : PySem.Expr} {g : LF} (hmg : C.mg ("len" : Str) = none) (hk : X.sc.kind = .function) (hx : X.sc.names.lookup ("len" : Str) = some NameKind.globalImplicit) (hs : [e].any isStarred = false) (D : DenL C X k [e] g) :
    Den C X k (.Call (.Name "len" p) [e] [] pos) (bi1 kLen g) := by
  refine Den.congr (den_bi (KV := fun vs σ => match vs with | [v] => kLen v σ | _ => .bad) hmg (by decide +kernel : bootBuiltins ("len" : Str) = some (.builtin "len")) (by decide) (by intro a e; cases e) hk hx (by decide) hs D ?_) (bi1_eq _ _)
  intro A Ex s h₀ L cl fr loc σ σ' ρ vs us v Q h R I r H
  split at h
  · obtain ⟨u, rfl, hu⟩ := r.one
    unfold kLen at h
    split at h
    · rename_i i
      obtain ⟨hi, rfl⟩ := hu
      split at h
      · rename_i ws e
        obtain ⟨hl, h⟩ := cond_nlt h (by intro e; cases e)
        cases h
        obtain ⟨ts, n, ht, hv⟩ := I.list hi e
        rw [lenV_eq] at hl H
        have len := hv.len
        refine call_len_list (isList_of ht) (by rw [List.size_toArray]; omega) ?_
        refine H s.heap _ ρ _ Ext.rfl I ⟨s.toks + 1, ?_⟩
        rw [List.size_toArray, len]; rfl
      · cases h
    · cases h
  · cases h
theorem den_abs {p pos : Pos} {e : PySem.Expr} {g : LF} (hmg : C.mg ("abs" : Str) = none) (hk : X.sc.kind = .function) (hx : X.sc.names.lookup ("abs" : Str) = some NameKind.globalImplicit) (hs : [e].any isStarred = false) (D : DenL C X k [e] g) :
    Den C X k (.Call (.Name "abs" p) [e] [] pos) (bi1 kAbs g) := by
  refine Den.congr (den_bi (KV := fun vs σ => match vs with | [v] => kAbs v σ | _ => .bad) hmg (by decide +kernel : bootBuiltins ("abs" : Str) = some (.builtin "abs")) (by decide) (by intro a e; cases e) hk hx (by decide) hs D ?_) (bi1_eq _ _)
  intro A Ex s h₀ L cl fr loc σ σ' ρ vs us v Q h R I r H
  split at h
  · obtain ⟨u, rfl, hu⟩ := r.one
    unfold kAbs at h
    split at h
    · rename_i i
      obtain ⟨t, rfl⟩ := hu
      cases h
      refine call_abs_int fun u tk => ?_
      have e : (if i < 0 then -i else i) = Int.ofNat (iabs i) := by rw [iabs_eq]; split <;> (show _ = ((i.natAbs : Nat) : Int); omega)
      rw [e]
      exact H s.heap tk ρ _ Ext.rfl I ⟨u, rfl⟩
    · cases h
  · cases h
theorem den_intc {p pos : Pos} {e : PySem.Expr} {g : LF} (hmg : C.mg ("int" : Str) = none) (hk : X.sc.kind = .function) (hx : X.sc.names.lookup ("int" : Str) = some NameKind.globalImplicit) (hs : [e].any isStarred = false) (D : DenL C X k [e] g) :
    Den C X k (.Call (.Name "int" p) [e] [] pos) (bi1 kInt g) := by
  refine Den.congr (den_bi (KV := fun vs σ => match vs with | [v] => kInt v σ | _ => .bad) hmg (by decide +kernel : bootBuiltins ("int" : Str) = some (.type "int")) (by decide) (by intro a e; cases e) hk hx (by decide) hs D ?_) (bi1_eq _ _)
  intro A Ex s h₀ L cl fr loc σ σ' ρ vs us v Q h R I r H
  split at h
  · obtain ⟨u, rfl, hu⟩ := r.one
    unfold kInt at h
    split at h
    · rename_i i
      obtain ⟨t, rfl⟩ := hu
      cases h
      exact call_int_int (H s.heap s.toks ρ _ Ext.rfl I ⟨t, rfl⟩)
    · cases h
  · cases h
theorem den_min {p pos : Pos} {e e' : PySem.Expr} {g : LF} (hmg : C.mg ("min" : Str) = none) (hk : X.sc.kind = .function) (hx : X.sc.names.lookup ("min" : Str) = some NameKind.globalImplicit) (hs : [e, e'].any isStarred = false) (D : DenL C X k [e, e'] g) :
    Den C X k (.Call (.Name "min" p) [e, e'] [] pos) (bi2 kMin g) := by
  refine Den.congr (den_bi (KV := fun vs σ => match vs with | [v, u] => kMin v u σ | _ => .bad) hmg (by decide +kernel : bootBuiltins ("min" : Str) = some (.builtin "min")) (by decide) (by intro a e; cases e) hk hx (by decide) hs D ?_) (bi2_eq _ _)
  intro A Ex s h₀ L cl fr loc σ σ' ρ vs us v Q h R I r H
  split at h
  · obtain ⟨u, t, rfl, hu, ht⟩ := r.two
    unfold kMin at h
    split at h
    · rename_i a b
      obtain ⟨t1, rfl⟩ := hu
      obtain ⟨t2, rfl⟩ := ht
      cases h
      obtain ⟨m, news, I⟩ := I
      refine min_two_N R.hh I.F I.N fun h' tk F' N' => ?_
      refine H h' tk ρ _ Ext.rfl ⟨m, news, F', N', I.nd, I.S, I.len, I.L⟩ ⟨if b < a then t2 else t1, ?_⟩
      have : (bif Z.ltB b a then b else a) = if b < a then b else a := by
        rw [bool_of_iff (Z.ltB_iff b a)]
        by_cases q : b < a <;> simp [q]
      rw [this]
    · cases h
  · cases h
theorem den_tupc {p pos : Pos} {e : PySem.Expr} {g : LF} (hmg : C.mg ("tuple" : Str) = none) (hk : X.sc.kind = .function) (hx : X.sc.names.lookup ("tuple" : Str) = some NameKind.globalImplicit) (hs : [e].any isStarred = false) (D : DenL C X k [e] g) :
    Den C X k (.Call (.Name "tuple" p) [e] [] pos) (bi1 kTup g) := by
  refine Den.congr (den_bi (KV := fun vs σ => match vs with | [v] => kTup v σ | _ => .bad) hmg (by decide +kernel : bootBuiltins ("tuple" : Str) = some (.type "tuple")) (by decide) (by intro a e; cases e) hk hx (by decide) hs D ?_) (bi1_eq _ _)
  intro A Ex s h₀ L cl fr loc σ σ' ρ vs us v Q h R I r H
  split at h
  · obtain ⟨u, rfl, hu⟩ := r.one
    unfold kTup at h
    split at h
    · rename_i i
      obtain ⟨hi, rfl⟩ := hu
      split at h
      · rename_i ws e
        obtain ⟨hl, h⟩ := cond_nlt h (by intro e; cases e)
        rw [new_eq] at h
        cases h
        rw [lenV_eq] at hl
        obtain ⟨ts, n, ht, hv⟩ := I.list hi e
        obtain ⟨m, news, I⟩ := I
        refine call_tuple_list (hsz := by rw [List.size_toArray]; exact len_small hv hl) (isList_of ht) fun h' hk => ?_
        have F1 : Fr h₀ L h' m := I.F.grownK hk
        have N1 : News h₀ L h' (news ++ fr) := I.N.grown hk
        obtain ⟨ρ', x, I', er⟩ := Inv.new (o := .tu ws) (⟨F1, N1, I.nd, I.S, I.len, I.L⟩ : Inv0 X cl h₀ L fr loc σ ρ h' m news) (F1.push { cls := .type "tuple", data := .seq ts.toArray }) (News.push F1 N1 _) fun N' ρ' e => ⟨ts, 0, rfl, hv.mono e⟩
        exact H _ s.toks ρ' _ x I' ⟨Nat.lt_succ_self _, by rw [er]⟩
      · cases h
    · cases h
  · cases h
-- bit_length
theorem den_bit {e : PySem.Expr} {apos pos : Pos} {f : EF} (D : Den C X k e f) (hb : ∀ cl L fn cd fm qual, attributeBase e "bit_length" (envG X.sc L cl fn cd fm qual) (eval e (envG X.sc L cl fn cd fm qual)) = eval e (envG X.sc L cl fn cd fm qual)) (hl : (apos.endLine == pos.line) = true) :
    Den C X k (.Call (.Attribute e "bit_length" apos) [] [] pos) (eBit f) := by
  intro A Ex s h₀ L cl fn cd fm qual fr loc σ σ' ρ v Q hf R T I H
  unfold eBit at hf
  split at hf
  · cases hf
  · rename_i a σ₁ e1
    have key : ∀ {i : Int}, a = .it i → v = .it (.ofNat (Builtin.Int.intBits i)) → σ' = σ₁ → wpAny (model C.prog C.w) A (eval (.Call (.Attribute e "bit_length" apos) [] [] pos) (envG X.sc L cl fn cd fm qual)) Q Ex s := by
      intro i e1' e2 e3
      subst e1' e2 e3
      refine wpAny_Call_method (T := "int") (id := "int.bit_length") (hb _ _ _ _ _ _) rfl hl PySem.F.plainAttrs_int PySem.F.slot_int_bit_length PySem.F.type_int_bit_length ?_
      refine D e1 R T I fun h₁ tk₁ ρ₁ ua x₁ I₁ r₁ => ?_
      obtain ⟨t, rfl⟩ := r₁
      refine ⟨rfl, (fun a q => by cases q), ?_⟩
      refine callWith_builtin rfl (evalArgs_nil3 ?_)
      exact call_int_bit_length (H h₁ _ ρ₁ _ x₁ I₁ ⟨_, rfl⟩)
    unfold kBit at hf
    split at hf
    · cases hf; exact key rfl rfl rfl
    · rename_i n hn
      cases hf
      refine key rfl ?_ rfl
      have : Builtin.Int.intBits (Int.ofNat n) = Nat.log2 n + 1 := by
        unfold Builtin.Int.intBits
        have : ((Int.ofNat n) == 0) = false := by
          cases n with
          | zero => exact (hn rfl).elim
          | succ n => rfl
        rw [this]; rfl
      rw [this]
    · cases hf
end
end Mine
end

section
namespace Mine
open PySem PySem.W PySem.Spec PySem.Calls PyProof.Rows

theorem insI_perm (i : Int) : ∀ l : List Int, (insI i l).Perm (i :: l)
  | [] => .refl _
  | j :: r => by
    show (bif Z.leB i j then i :: j :: r else j :: insI i r).Perm _
    cases Z.leB i j with
    | true => exact .refl _
    | false => exact ((insI_perm i r).cons j).trans (.swap i j r)
theorem sortI_perm : ∀ l : List Int, (sortI l).Perm l
  | [] => .refl _
  | i :: r => (insI_perm i (sortI r)).trans ((sortI_perm r).cons i)
theorem insI_sorted (i : Int) : ∀ l : List Int, l.Pairwise (· ≤ ·) → (insI i l).Pairwise (· ≤ ·)
  | [], _ => .cons (fun _ h => nomatch h) .nil
  | j :: r, h => by
    show (bif Z.leB i j then i :: j :: r else j :: insI i r).Pairwise _
    have hj := List.pairwise_cons.mp h
    cases q : Z.leB i j with
    | true =>
      have q := (Z.leB_iff i j).mp q
      refine .cons (fun x hx => ?_) h
      rcases List.mem_cons.mp hx with rfl | hx
      · exact q
      · exact Int.le_trans q (hj.1 x hx)
    | false =>
      have q : ¬ i ≤ j := fun e => by rw [(Z.leB_iff i j).mpr e] at q; cases q
      refine .cons (fun x hx => ?_) (insI_sorted i r hj.2)
      rcases List.mem_cons.mp ((insI_perm i r).mem_iff.mp hx) with rfl | hx
      · omega
      · exact hj.1 x hx
theorem sortI_sorted : ∀ l : List Int, (sortI l).Pairwise (· ≤ ·)
  | [] => .nil
  | i :: r => insI_sorted i _ (sortI_sorted r)
theorem intsAre_of {N : Nat} {ρ : Nat → Addr} : ∀ {vs : List V} {us : List Value} {l : List Int}, intsV vs = some l → VsR N ρ vs us → IntsAre us l
  | [], [], _, e, _ => by cases e; exact .nil
  | .it i :: vs, u :: us, l, e, r => by
    unfold intsV at e
    split at e
    · rename_i l' e'
      cases e
      obtain ⟨t, rfl⟩ := r.1
      exact .cons i t (intsAre_of e' r.2)
    · cases e
  | .no :: _, _ :: _, _, e, _ => by cases e
  | .nn :: _, _ :: _, _, e, _ => by cases e
  | .bo _ :: _, _ :: _, _, e, _ => by cases e
  | .rf _ :: _, _ :: _, _, e, _ => by cases e
  | [], _ :: _, _, _, r => r.elim
  | _ :: _, [], _, _, r => r.elim
theorem vsR_ints {N : Nat} {ρ : Nat → Addr} : ∀ {us : List Value} {l : List Int}, IntsAre us l → VsR N ρ (itsV l) us
  | _, _, .nil => trivial
  | _, _, .cons i t h => ⟨⟨t, rfl⟩, vsR_ints h⟩
section
variable {C : Cx} {X : Sx} {k : Nat}
theorem sorted_tup {A : Around} {Ex : Value → Shared → Prop} {s : Shared} {t : Addr} {vs : List Value} {n : Nat} {ns : List Int} {Q : Value → Shared → Prop} (ht : s.heap.get? t = some { cls := .type "tuple", data := .seq vs.toArray n }) (hI : IntsAre vs ns) (h64 : vs.length < 64)
    (h : ∀ (h' : Heap) (D : Addr) (out : List Value) (e : Nat), (∀ b o, s.heap.get? b = some o → h'.get? b = some o) → s.heap.get? D = none → h'.get? D = some (listOf out.toArray e) → IntsAre out (sortI ns) → Q (.ref D) { s with heap := h' }) :
    wpAny (model C.prog C.w) A (call (.builtin "sorted") [.ref t]) Q Ex s := by
  refine Calls.call_function_entry kind_sorted plain_sorted entry_sorted (args_sorted1 _) ?_
  unfold Builtin.«sorted»
  refine wpAny_bind (m := checkCount "sorted" 1 1 _) (wpAny_pure ?_)
  refine wpAny_bind (wpAny_collect_seq t (T := "tuple") (.inr rfl) ht rfl rfl (hsz := by rw [List.size_toArray]; unfold sizeLine; omega) fun h₁ hk => ?_)
  refine wpAny_bind (wpAny_newList ?_)
  have hoL : (h₁.push (seqObj "list" vs.toArray 0)).get? h₁.objs.size = some (seqObj "list" vs.toArray 0) := Heap.get?_push_size _ rfl
  refine wpAny_bind (wpAny_holding (wpAny_call_entry (s := { s with heap := h₁.push (seqObj "list" vs.toArray 0) }) slot_list_sort ⟨_, hoL, rfl⟩ entry_list_sort (list_sort_tree (s := { s with heap := h₁.push (seqObj "list" vs.toArray 0) }) hoL hI h64 fun out ns' a1 a2 a3 => ⟨_, rfl, ?_⟩) (args_list_sort _)))
  obtain ⟨e, he⟩ := sortedHeap_at (out := out) hoL
  have es : ns' = sortI ns := (a2.trans (sortI_perm ns).symm).eq_of_pairwise (fun x y _ _ h1 h2 => Int.le_antisymm h1 h2) a3 (sortI_sorted ns)
  subst es
  refine wpAny_pure ⟨_, rfl, h _ h₁.objs.size out.toList e (fun b o eb => ?_) ?_ he a1⟩
  · have eb' := hk b o eb
    have lt := Heap.lt_size eb'
    rw [sortedHeap_old (Nat.ne_of_lt lt) (by rw [size_push']; exact Nat.lt_succ_of_lt lt)]
    exact Heap.get?_push_of_some _ eb'
  · cases q : s.heap.get? h₁.objs.size with
    | none => rfl
    | some o => exact absurd (Heap.lt_size (hk _ _ q)) (Nat.lt_irrefl _)
theorem Inv0.newAt {cl : List (Str × Addr)} {h₀ h h' : Heap} {L : Addr} {fr : List (Addr × Obj)} {loc : List V} {σ : St} {ρ : Nat → Addr} {m : Str → Option Value} {news : List (Addr × Obj)} {o : O} {ob : Obj} {D : Addr}
    (I : Inv0 X cl h₀ L fr loc σ ρ h m news) (hk : ∀ b o, h.get? b = some o → h'.get? b = some o) (hD : h.get? D = none) (hD' : h'.get? D = some ob) (ho : ∀ N' ρ', Ext σ.n ρ N' ρ' → OR N' ρ' o ob) :
    ∃ ρ', Ext σ.n ρ (σ.n + 1) ρ' ∧ Inv X cl h₀ L fr loc ⟨σ.n + 1, o :: σ.os⟩ ρ' h' ∧ ρ' σ.n = D := by
  refine ⟨rhoS ρ σ.n D, ext_rhoS .., I.push (I.F.grownK hk) ?_ (not_mem_fst I.N hD) (ho _ _ (ext_rhoS ..)), rhoS_self ..⟩
  intro p hp
  rcases List.mem_cons.mp hp with rfl | hp
  · refine ⟨hD', ?_, ?_⟩
    · rintro rfl
      obtain ⟨oL, _, _, hL, _⟩ := I.F.ns
      rw [hD] at hL; cases hL
    · cases q : h₀.get? D with
      | none => rfl
      | some o' => have := I.F.keep _ _ q; rw [hD] at this; cases this
  · exact ⟨hk _ _ (I.N p hp).1, (I.N p hp).2⟩
theorem den_sorted {p pos : Pos} {e : PySem.Expr} {g : LF} (hmg : C.mg ("sorted" : Str) = none) (hk : X.sc.kind = .function) (hx : X.sc.names.lookup ("sorted" : Str) = some NameKind.globalImplicit) (hs : [e].any isStarred = false) (D : DenL C X k [e] g) :
    Den C X k (.Call (.Name "sorted" p) [e] [] pos) (bi1 kSort g) := by
  refine Den.congr (den_bi (KV := fun vs σ => match vs with | [v] => kSort v σ | _ => .bad) hmg (by decide +kernel : bootBuiltins ("sorted" : Str) = some (.builtin "sorted")) (by decide) (by intro a e; cases e) hk hx (by decide) hs D ?_) (bi1_eq _ _)
  intro A Ex s h₀ L cl fr loc σ σ' ρ vs us v Q h R I r H
  split at h
  · obtain ⟨u, rfl, hu⟩ := r.one
    unfold kSort at h
    split at h
    · rename_i i
      obtain ⟨hi, rfl⟩ := hu
      split at h
      · rename_i ws e
        obtain ⟨hl, h⟩ := cond_nlt h (by intro e; cases e)
        split at h
        · rename_i l el
          rw [new_eq] at h
          cases h
          rw [lenV_eq] at hl
          obtain ⟨ts, n, ht, hv⟩ := I.tup hi e
          obtain ⟨m, news, I⟩ := I
          refine sorted_tup ht (intsAre_of el hv) (hv.len ▸ hl) fun h' D out e hk hD hD' ho => ?_
          obtain ⟨ρ', x, I', er⟩ := I.newAt (o := .li (itsV (sortI l))) hk hD hD' fun N' ρ' e => ⟨out, _, rfl, vsR_ints ho⟩
          exact H _ s.toks ρ' _ x I' ⟨Nat.lt_succ_self _, by rw [er]⟩
        · cases h
      · cases h
    · cases h
  · cases h
-- the store alone, about a frame whose names are m
structure Bas (h₀ : Heap) (L : Addr) (fr : List (Addr × Obj)) (σ : St) (ρ : Nat → Addr) (h : Heap) (m : Str → Option Value) (news : List (Addr × Obj)) : Prop where
  F : Fr h₀ L h m
  N : News h₀ L h (news ++ fr)
  nd : ((news ++ fr).map (·.1)).Nodup
  S : SR σ.n ρ σ.os news
  len : σ.n = σ.os.length
theorem Inv0.bas {cl : List (Str × Addr)} {h₀ h : Heap} {L : Addr} {fr : List (Addr × Obj)} {loc : List V} {σ : St} {ρ : Nat → Addr} {m : Str → Option Value} {news : List (Addr × Obj)} (I : Inv0 X cl h₀ L fr loc σ ρ h m news) : Bas h₀ L fr σ ρ h m news := ⟨I.F, I.N, I.nd, I.S, I.len⟩
theorem Bas.inv {cl : List (Str × Addr)} {h₀ h : Heap} {L : Addr} {fr : List (Addr × Obj)} {loc : List V} {σ : St} {ρ : Nat → Addr} {m : Str → Option Value} {news : List (Addr × Obj)} (B : Bas h₀ L fr σ ρ h m news) (hl : LR cl X.ns σ.n ρ loc m) : Inv X cl h₀ L fr loc σ ρ h :=
  ⟨m, news, B.F, B.N, B.nd, B.S, B.len, hl⟩
-- a def's contract
def Con (C : Cx) (k : Nat) (nm : Str) (F : FF) : Prop :=
  ∀ ⦃A : Around⦄ ⦃Ex : Value → Shared → Prop⦄ ⦃s : Shared⦄ ⦃h₀ : Heap⦄ ⦃L : Addr⦄ ⦃fr : List (Addr × Obj)⦄ ⦃σ σ' : St⦄ ⦃ρ : Nat → Addr⦄ ⦃m : Str → Option Value⦄ ⦃news : List (Addr × Obj)⦄ ⦃vs : List V⦄ ⦃us : List Value⦄ ⦃v : V⦄ ⦃Q : Value → Shared → Prop⦄ ⦃f : Addr⦄,
    C.mg nm = some (.ref f) → F vs σ = .ok v σ' → Room A k → C.Top h₀ → Bas h₀ L fr σ ρ s.heap m news → VsR σ.n ρ vs us →
    (∀ h' tk' ρ' news' u, Ext σ.n ρ σ'.n ρ' → Bas h₀ L fr σ' ρ' h' m news' → VR σ'.n ρ' v u → Q u { s with heap := h', toks := tk' }) →
    wpAny (model C.prog C.w) A (call (.ref f) us) Q Ex s
theorem Con.le {k j : Nat} {nm : Str} {F : FF} (h : Con C k nm F) (l : k ≤ j) : Con C j nm F :=
  fun _ _ _ _ _ _ _ _ _ _ _ _ _ _ _ _ hmg e R T B r H => h hmg e (R.le l) T B r H
-- the call of a def by its name
theorem call_any {nm : Str} {p pos : Pos} {e : PySem.Expr} {es : List PySem.Expr} {g : LF} {KV : List V → St → RE} (hd : ∃ d ∈ recsOf C.p, d.name = nm)
    (hk : X.sc.kind = .function) (hx : X.sc.names.lookup nm = some .globalImplicit) (hdb : (nm == ("__debug__" : Str)) = false) (hs : (e :: es).any isStarred = false) (D : DenL C X k (e :: es) g)
    (S : ∀ {A : Around} {Ex : Value → Shared → Prop} {s : Shared} {h₀ : Heap} {L : Addr} {cl : List (Str × Addr)} {fr : List (Addr × Obj)} {loc : List V} {σ σ' : St} {ρ : Nat → Addr} {vs : List V} {us : List Value} {v : V} {Q : Value → Shared → Prop} {f : Addr},
      C.mg nm = some (.ref f) → KV vs σ = .ok v σ' → Room A k → C.Top h₀ → Inv X cl h₀ L fr loc σ ρ s.heap → VsR σ.n ρ vs us → EndE X cl h₀ L fr loc σ ρ v σ' s Q → wpAny (model C.prog C.w) A (call (.ref f) us) Q Ex s) :
    Den C X k (.Call (.Name nm p) (e :: es) [] pos) (fun loc σ => match g loc σ with | .bad => .bad | .ok vs σ => KV vs σ) := by
  intro A Ex s h₀ L cl fn cd fm qual fr loc σ σ' ρ v Q hf R T I H
  simp only at hf
  split at hf
  · cases hf
  · rename_i vs σ₁ e1
    obtain ⟨d, hm, rfl⟩ := hd
    obtain ⟨f, o, pm, code, doc, hmg, ho, hdat, hrec⟩ := T.fn d hm
    have FK : ∀ b o, h₀.get? b = some o → s.heap.get? b = some o := by obtain ⟨m, news, I⟩ := I; exact I.F.keep
    refine Call_ (Name_function_global hk hx (loadGlobal_global (T.g.keeps FK) hmg ?_) hdb) rfl
    have hst : isStarred e = false := by simp only [List.any_cons, Bool.or_eq_false_iff] at hs; exact hs.1
    refine callWith_of (P := fun h => h.get? f = some o) (by rw [noStars hs]; rfl) (fun h hh => ⟨.frame, .inl rfl, ?_⟩) ?_
    · refine (Looks.ld (part := none) hh).andThen ?_
      rw [hdat]
      exact .now
    · have w := D (pos := pos) (cl := cl) (fn := fn) (cd := cd) (fm := fm) (qual := qual) (Q := fun vs s' => s'.heap.get? f = some o ∧ wpAny (model C.prog C.w) A (call (.ref f) ([] ++ vs)) Q Ex s') (Ex := Ex) e1 R T I
        fun h₁ tk₁ ρ₁ us x₁ I₁ r₁ => ⟨by obtain ⟨m, news, I₁⟩ := I₁; exact I₁.F.keep _ _ ho, S (s := { s with heap := h₁, toks := tk₁ }) hmg hf R T I₁ r₁ (H.then x₁)⟩
      rw [starEach_plain hst] at w ⊢
      exact evalArgs_plain w
theorem den_call {nm : Str} {p pos : Pos} {e : PySem.Expr} {es : List PySem.Expr} {F : FF} {g : LF} (hF : Con C k nm F) (hd : ∃ d ∈ recsOf C.p, d.name = nm)
    (hk : X.sc.kind = .function) (hx : X.sc.names.lookup nm = some .globalImplicit) (hdb : (nm == ("__debug__" : Str)) = false) (hs : (e :: es).any isStarred = false) (D : DenL C X k (e :: es) g) :
    Den C X k (.Call (.Name nm p) (e :: es) [] pos) (eCall F g) := by
  refine Den.congr (call_any (KV := F) hd hk hx hdb hs D ?_) fun loc σ => ?_
  · intro A Ex s h₀ L cl fr loc σ σ' ρ vs us v Q f hmg h R T I r H
    obtain ⟨m, news, I⟩ := I
    exact hF hmg h R T I.bas r fun h' tk' ρ' news' u x B hr => H h' tk' ρ' u x (B.inv (I.L.mono x)) hr
  · unfold eCall
    cases g loc σ with
    | bad => rfl
    | ok vs σ => exact fL_eq _ _
theorem ints_free {N N' : Nat} {ρ ρ' : Nat → Addr} : ∀ {vs : List V} {us : List Value}, intsOnly vs = true → VsR N ρ vs us → VsR N' ρ' vs us
  | [], [], _, _ => trivial
  | .it _ :: vs, _ :: us, h, r => ⟨r.1, ints_free (by exact h) r.2⟩
  | .no :: _, _ :: _, h, _ => by cases h
  | .nn :: _, _ :: _, h, _ => by cases h
  | .bo _ :: _, _ :: _, h, _ => by cases h
  | .rf _ :: _, _ :: _, h, _ => by cases h
  | [], _ :: _, _, r => r.elim
  | _ :: _, [], _, r => r.elim
theorem scal_free {N N' : Nat} {ρ ρ' : Nat → Addr} : ∀ {vs : List V} {us : List Value}, scal vs = true → VsR N ρ vs us → VsR N' ρ' vs us
  | [], [], _, _ => trivial
  | .it _ :: vs, _ :: us, h, r => ⟨r.1, scal_free (by exact h) r.2⟩
  | .nn :: vs, _ :: us, h, r => ⟨r.1, scal_free (by exact h) r.2⟩
  | .bo _ :: vs, _ :: us, h, r => ⟨r.1, scal_free (by exact h) r.2⟩
  | .no :: _, _ :: _, h, _ => by cases h
  | .rf _ :: _, _ :: _, h, _ => by cases h
  | [], _ :: _, _, r => r.elim
  | _ :: _, [], _, r => r.elim
theorem cond_tt {α : Type} {b : Bool} {x y z : α} (h : (bif b then x else y) = z) (hy : y ≠ z) : b = true ∧ x = z := by
  cases b with
  | true => exact ⟨rfl, h⟩
  | false => exact absurd h hy
theorem SR.mem {N : Nat} {ρ : Nat → Addr} {os : List O} {ps : List (Addr × Obj)} {k : Nat} (h : SR N ρ os ps) (hk : k < os.length) : ∃ ob, (ρ k, ob) ∈ ps ∧ OR N ρ (nthO os (os.length - 1 - k)) ob := by
  obtain ⟨pre, ob, post, hp, ho, _⟩ := h.at hk
  exact ⟨ob, by rw [hp]; simp, ho⟩
theorem den_callZ {nm : Str} {p pos : Pos} {e : PySem.Expr} {es : List PySem.Expr} {F : FF} {g : LF} (hF : Con C k nm F) (hd : ∃ d ∈ recsOf C.p, d.name = nm)
    (hk : X.sc.kind = .function) (hx : X.sc.names.lookup nm = some .globalImplicit) (hdb : (nm == ("__debug__" : Str)) = false) (hs : (e :: es).any isStarred = false) (D : DenL C X k (e :: es) g) :
    Den C X k (.Call (.Name nm p) (e :: es) [] pos) (eCallZ F g) := by
  refine Den.congr (call_any (KV := fun vs σ => bif intsOnly vs then (match F vs ⟨0, []⟩ with
    | .bad => .bad
    | .ok v τ => flat v τ σ) else .bad) hd hk hx hdb hs D ?_) fun loc σ => ?_
  · intro A Ex s h₀ L cl fr loc σ σ' ρ vs us v Q f hmg h R T I r H
    obtain ⟨hi, h⟩ := cond_tt h (by intro e; cases e)
    split at h
    · cases h
    · rename_i v₁ τ e1
      obtain ⟨m, news, I⟩ := I
      have B0 : Bas h₀ L (news ++ fr) ⟨0, []⟩ ρ s.heap m [] := ⟨I.F, I.N, I.nd, trivial, rfl⟩
      refine hF hmg e1 R T B0 (ints_free hi r) fun h' tk' ρ' news' u x B hr => ?_
      have N1 : News h₀ L h' (news ++ fr) := fun p hp => B.N p (List.mem_append_right _ hp)
      have I1 : Inv0 X cl h₀ L fr loc σ ρ h' m news := ⟨B.F, N1, I.nd, I.S, I.len, I.L⟩
      unfold flat at h
      split at h
      · rename_i j
        split at h
        · rename_i ws e2
          obtain ⟨hsc, h⟩ := cond_tt h (by intro e; cases e)
          rw [new_eq] at h
          cases h
          obtain ⟨hj, rfl⟩ := hr
          obtain ⟨ob, hm, hor⟩ := B.S.mem (k := j) (by rw [← B.len]; exact hj)
          rw [← B.len] at hor
          have e3 : nthO τ.os (τ.n - 1 - j) = .li ws := e2
          rw [e3] at hor
          obtain ⟨ts, n, rfl, hv⟩ := hor
          have z := B.N _ (List.mem_append_left _ hm)
          have nd := B.nd
          rw [List.map_append] at nd
          have ha : ρ' j ∉ (news ++ fr).map (·.1) := fun q => (List.nodup_append.mp nd).2.2 (ρ' j) (List.mem_map_of_mem (f := fun x : Addr × Obj => x.1) hm) (ρ' j) q rfl
          have I2 := I1.push (a := ρ' j) (o := .li ws) (ob := listOf ts.toArray n) (h' := h') B.F (fun p hp => by
            rcases List.mem_cons.mp hp with rfl | hp
            · exact z
            · exact N1 p hp) ha ⟨ts, n, rfl, scal_free hsc hv⟩
          exact H h' tk' _ _ (ext_rhoS ..) I2 ⟨Nat.lt_succ_self _, by rw [rhoS_self]⟩
        · cases h
      · rename_i hne
        obtain ⟨rfl, rfl, hno⟩ := inv_of_okV h
        refine H h' tk' ρ u Ext.rfl I1.inv ?_
        cases v with
        | no => exact absurd rfl hno
        | nn => exact hr
        | bo b => exact hr
        | it i => exact hr
        | rf j => exact (hne j rfl).elim
  · unfold eCallZ
    cases g loc σ with
    | bad => rfl
    | ok vs σ =>
      show (bif intsOnly vs then fL vs _ else _) = _
      rw [fL_eq]
      all_goals rfl
end
end Mine
end

section
namespace Mine
open PySem PySem.W PySem.Spec PySem.Calls PyProof.Rows

def EndS (X : Sx) (cl : List (Str × Addr)) (h₀ : Heap) (L : Addr) (fr : List (Addr × Obj)) (σ : St) (ρ : Nat → Addr) (r : RS) (s : Shared) (Q : Flow → Shared → Prop) : Prop := match r with
  | .bad => False
  | .nx loc σ' => ∀ h' tk' ρ', Ext σ.n ρ σ'.n ρ' → Inv X cl h₀ L fr loc σ' ρ' h' → Q .next { s with heap := h', toks := tk' }
  | .rt v σ' => ∀ h' tk' ρ' u m' news', Ext σ.n ρ σ'.n ρ' → Bas h₀ L fr σ' ρ' h' m' news' → VR σ'.n ρ' v u → Q (.ret u) { s with heap := h', toks := tk' }
section
variable {C : Cx} {X : Sx} {k : Nat}
theorem EndS.then {cl : List (Str × Addr)} {h₀ : Heap} {L : Addr} {fr : List (Addr × Obj)} {σ σ₁ : St} {ρ ρ₁ : Nat → Addr} {r : RS} {s : Shared} {h₁ : Heap} {tk₁ : Nat} {Q : Flow → Shared → Prop}
    (H : EndS X cl h₀ L fr σ ρ r s Q) (e : Ext σ.n ρ σ₁.n ρ₁) : EndS X cl h₀ L fr σ₁ ρ₁ r { s with heap := h₁, toks := tk₁ } Q := by
  cases r with
  | bad => exact H
  | nx loc σ' => exact fun h' tk' ρ' e' I => H h' tk' ρ' (e.trans e') I
  | rt v σ' => exact fun h' tk' ρ' u m' news' e' B hr => H h' tk' ρ' u m' news' (e.trans e') B hr
def DenS (C : Cx) (X : Sx) (k : Nat) (st : PySem.Stmt) (f : SF) : Prop :=
  ∀ ⦃A : Around⦄ ⦃Ex : Value → Shared → Prop⦄ ⦃s : Shared⦄ ⦃h₀ : Heap⦄ ⦃L : Addr⦄ ⦃cl : List (Str × Addr)⦄ ⦃fn : Option Addr⦄ ⦃cd : Value⦄ ⦃fm : Option Addr⦄ ⦃qual : Str⦄ ⦃fr : List (Addr × Obj)⦄ ⦃loc : List V⦄ ⦃σ : St⦄ ⦃ρ : Nat → Addr⦄ ⦃r : RS⦄ ⦃Q : Flow → Shared → Prop⦄,
    f loc σ = r → Room A k → C.Top h₀ → Inv X cl h₀ L fr loc σ ρ s.heap → EndS X cl h₀ L fr σ ρ r s Q →
    wpAny (model C.prog C.w) A (exec st (envG X.sc L cl fn cd fm qual)) Q Ex s
def DenB (C : Cx) (X : Sx) (k : Nat) (sts : List PySem.Stmt) (f : SF) : Prop :=
  ∀ ⦃A : Around⦄ ⦃Ex : Value → Shared → Prop⦄ ⦃s : Shared⦄ ⦃h₀ : Heap⦄ ⦃L : Addr⦄ ⦃cl : List (Str × Addr)⦄ ⦃fn : Option Addr⦄ ⦃cd : Value⦄ ⦃fm : Option Addr⦄ ⦃qual : Str⦄ ⦃fr : List (Addr × Obj)⦄ ⦃loc : List V⦄ ⦃σ : St⦄ ⦃ρ : Nat → Addr⦄ ⦃r : RS⦄ ⦃Q : Flow → Shared → Prop⦄,
    f loc σ = r → Room A k → C.Top h₀ → Inv X cl h₀ L fr loc σ ρ s.heap → EndS X cl h₀ L fr σ ρ r s Q →
    wpAny (model C.prog C.w) A (execs sts (envG X.sc L cl fn cd fm qual)) Q Ex s
theorem denB_nil : DenB C X k [] sNil := by
  intro A Ex s h₀ L cl fn cd fm qual fr loc σ ρ r Q hf R T I H
  subst hf
  exact wpAny_execs_nil (H s.heap s.toks ρ Ext.rfl I)
theorem denB_cons {st : PySem.Stmt} {sts : List PySem.Stmt} {f g : SF} (D1 : DenS C X k st f) (D2 : DenB C X k sts g) : DenB C X k (st :: sts) (sSeq f g) := by
  intro A Ex s h₀ L cl fn cd fm qual fr loc σ ρ r Q hf R T I H
  refine wpAny_execs_cons (D1 rfl R T I ?_)
  unfold sSeq at hf
  cases e : f loc σ with
  | bad => rw [e] at hf; subst hf; exact H.elim
  | nx loc' σ' =>
    rw [e] at hf
    exact fun h' tk' ρ' x I' => D2 (s := { s with heap := h', toks := tk' }) hf R T I' (H.then x)
  | rt v σ' =>
    rw [e] at hf
    subst hf
    exact H
theorem denS_ret {e : PySem.Expr} {pos : Pos} {f : EF} (D : Den C X k e f) : DenS C X k (.Return (some e) pos) (sRet f) := by
  intro A Ex s h₀ L cl fn cd fm qual fr loc σ ρ r Q hf R T I H
  unfold sRet at hf
  split at hf
  · subst hf; exact H.elim
  · rename_i v σ' e
    rw [fV_eq] at hf
    subst hf
    exact wpAny_Return_some (D e R T I fun h' tk' ρ' u x I' hr => by
      obtain ⟨m', news', I'⟩ := I'
      exact H h' tk' ρ' u m' news' x I'.bas hr)
theorem denS_bad {st : PySem.Stmt} : DenS C X k st sBad := by
  intro A Ex s h₀ L cl fn cd fm qual fr loc σ ρ r Q hf R T I H
  subst hf
  exact H.elim
theorem denS_if {t : PySem.Expr} {b₁ b₂ : List PySem.Stmt} {pos : Pos} {f : TF} {g h : SF} (D0 : DenT C X k t f) (D1 : DenB C X k b₁ g) (D2 : DenB C X k b₂ h) : DenS C X k (.If t b₁ b₂ pos) (sIf f g h) := by
  intro A Ex s h₀ L cl fn cd fm qual fr loc σ ρ r Q hf R T I H
  unfold sIf at hf
  split at hf
  · subst hf; exact H.elim
  · rename_i σ₁ e
    exact wpAny_If (D0 e R T I fun h₁ tk₁ ρ₁ x₁ I₁ => D1 (s := { s with heap := h₁, toks := tk₁ }) hf R T I₁ (H.then x₁))
  · rename_i σ₁ e
    exact wpAny_If (D0 e R T I fun h₁ tk₁ ρ₁ x₁ I₁ => D2 (s := { s with heap := h₁, toks := tk₁ }) hf R T I₁ (H.then x₁))
-- stores
theorem nth_set (l : List V) (n i : Nat) (v : V) (hn : n < l.length) : nth (l.set n v) i = if i = n then v else nth l i := by
  rw [nth_eq, nth_eq]
  by_cases h : i = n
  · subst h; rw [if_pos rfl, List.getElem?_set_self hn]; rfl
  · rw [if_neg h, List.getElem?_set_ne (fun e => h e.symm)]
theorem ns_inj {ns : List (Str × Bool)} (nd : (ns.map (·.1)).Nodup) {i n : Nat} {x : Str} {c c' : Bool} (h1 : ns[i]? = some (x, c)) (h2 : ns[n]? = some (x, c')) : i = n := by
  have l1 : i < (ns.map (·.1)).length := by rw [List.length_map]; exact (List.getElem?_eq_some_iff.mp h1).1
  refine (List.getElem?_inj l1 nd).mp ?_
  rw [List.getElem?_map, List.getElem?_map, h1, h2]; rfl
structure Slot' (X : Sx) (c : Bool) (n : Nat) (x : Str) : Prop where
  at' : X.ns[n]? = some (x, c)
  kd : X.sc.names.lookup x = some (match c with | false => .local | true => .cell)
theorem tgt_sound {A : Around} {Ex : Value → Shared → Prop} {s : Shared} {h₀ : Heap} {L : Addr} {cl : List (Str × Addr)} {fn : Option Addr} {cd : Value} {fm : Option Addr} {qual : Str} {fr : List (Addr × Obj)} {loc : List V} {σ : St} {ρ : Nat → Addr} {c : Bool} {n : Nat} {x : Str} {v : V} {u : Value} {r : RS} {Q : Flow → Shared → Prop}
    (nd : (X.ns.map (·.1)).Nodup) (hk : X.sc.kind = .function) (S : Slot' X c n x) (h : tgt c n v loc σ = r) (I : Inv X cl h₀ L fr loc σ ρ s.heap) (hv : VR σ.n ρ v u) (H : EndS X cl h₀ L fr σ ρ r s Q) :
    wpAny (model C.prog C.w) A (storeName (envG X.sc L cl fn cd fm qual) x u) (fun _ => Q .next) Ex s := by
  cases c with
  | false =>
    have h : fV v (fun v => put loc n v fun loc => .nx loc σ) = r := h
    rw [fV_eq, put_eq] at h
    split at h
    · rename_i hn
      subst h
      obtain ⟨m, news, I⟩ := I
      refine wpAny_storeName_local S.kd I.F.ns (fun h' hns hs => H h' _ ρ Ext.rfl ⟨_, news, I.F.set hns hs, I.N.set hs, I.nd, I.S, I.len, ?_⟩) (by show (X.sc.kind == .class || (X.sc.kind == .module && L != mainGlobals)) = false; rw [hk]; rfl)
      intro i y c hy
      have old := I.L i y c hy
      cases c with
      | false =>
        rw [nth_set _ _ _ _ hn]
        by_cases e : i = n
        · subst e
          rw [S.at'] at hy
          cases hy
          rw [if_pos rfl]
          exact .inr ⟨u, if_pos rfl, hv⟩
        · rw [if_neg e]
          refine old.imp id fun ⟨w, e1, e2⟩ => ⟨w, ?_, e2⟩
          show (if y = x then some u else m y) = some w
          rw [if_neg (fun q => e (by subst q; exact ns_inj nd hy S.at'))]
          exact e1
      | true =>
        have e : i ≠ n := fun q => by subst q; rw [S.at'] at hy; cases hy
        rw [nth_set _ _ _ _ hn, if_neg e]
        exact old
    · subst h; exact H.elim
  | true =>
    have h : (match nth loc n with | .rf k => (match get σ k with | .ce _ => upd k (.ce v) σ fun σ => RS.nx loc σ | _ => .bad) | _ => .bad) = r := h
    split at h
    · rename_i j e
      split at h
      case h_2 => subst h; exact H.elim
      rename_i w q
      rw [upd_eq] at h
      subst h
      obtain ⟨m, news, I0⟩ := I
      obtain ⟨j', e1, hj, hc⟩ := I0.L n x true S.at'
      rw [e] at e1
      cases e1
      obtain ⟨ob, ho, hL, h0, hor, hu⟩ := I0.at hj
      have cell : ∃ v₀, ob.data = .cell v₀ := by
        rw [q] at hor
        cases w with
        | no => exact ⟨_, hor⟩
        | nn => obtain ⟨w', a, _⟩ := hor; exact ⟨_, a⟩
        | bo => obtain ⟨w', a, _⟩ := hor; exact ⟨_, a⟩
        | it => obtain ⟨w', a, _⟩ := hor; exact ⟨_, a⟩
        | rf => obtain ⟨w', a, _⟩ := hor; exact ⟨_, a⟩
      obtain ⟨v₀, hd⟩ := cell
      refine wpAny_storeName_cell hk S.kd hc ⟨ob, ho, hd⟩ fun h' hv' hs => ?_
      obtain ⟨o', ho', hd'⟩ := hv'
      refine H h' s.toks ρ Ext.rfl (hu (.ce v) o' h' hs ho' ?_)
      cases v <;> first | exact hv.elim | exact ⟨u, hd', hv⟩
    · subst h; exact H.elim
theorem denS_asg {e : PySem.Expr} {x : Str} {p pos : Pos} {c : Bool} {n : Nat} {f : EF} (nd : (X.ns.map (·.1)).Nodup) (hk : X.sc.kind = .function) (S : Slot' X c n x) (D : Den C X k e f)
    (hs : ∀ L cl fn cd fm qual, swapsWith e (some (.Name x p)) pos.line (envG X.sc L cl fn cd fm qual) = pure false) : DenS C X k (.Assign [.Name x p] e pos) (sAsg c n f) := by
  intro A Ex s h₀ L cl fn cd fm qual fr loc σ ρ r Q hf R T I H
  unfold sAsg at hf
  split at hf
  · subst hf; exact H.elim
  · rename_i v σ' e1
    exact wpAny_Assign_Name (D e1 R T I fun h₁ tk₁ ρ₁ u x₁ I₁ r₁ => tgt_sound (s := { s with heap := h₁, toks := tk₁ }) nd hk S hf I₁ r₁ (H.then x₁)) (hs _ _ _ _ _ _)
theorem eLocV {n : Nat} {loc : List V} {σ σ' : St} {v : V} (h : eLoc n loc σ = .ok v σ') : v = nth loc n ∧ σ' = σ ∧ nth loc n ≠ .no := by
  rw [eLoc_eq] at h
  exact inv_of_okV h
theorem denS_aug {e : PySem.Expr} {x : Str} {p pos : Pos} {n : Nat} {op : Operator} {o : BO} {f : EF} (ho : bo op = some o) (nd : (X.ns.map (·.1)).Nodup) (hk : X.sc.kind = .function) (S : Slot' X false n x) (D : Den C X k e f) : DenS C X k (.AugAssign (.Name x p) op e pos) (sAug o n f) := by
  intro A Ex s h₀ L cl fn cd fm qual fr loc σ ρ r Q hf R T I H
  unfold sAug at hf
  split at hf
  · subst hf; exact H.elim
  · rename_i a σ₀ e0
    obtain ⟨rfl, rfl, hne⟩ := eLocV e0
    split at hf
    · subst hf; exact H.elim
    · rename_i b σ₁ e1
      split at hf
      · rename_i i j q
        split at hf
        · subst hf; exact H.elim
        · rename_i v σ₂ e2
          obtain ⟨rfl, w, rfl, kk⟩ := intOp_ok (C := C) (A := A) ho e2
          obtain ⟨m, news, I⟩ := I
          obtain ⟨u, hu, hr⟩ := (I.L n x false S.at').resolve_left hne
          rw [q] at hr
          obtain ⟨t, rfl⟩ := hr
          refine wpAny_AugAssign_Name (wpAny_loadName_local hk S.kd I.F.ns hu (D e1 R T I.inv fun h₁ tk₁ ρ₁ u₁ x₁ I₁ r₁ => ?_))
          obtain ⟨t', rfl⟩ := r₁
          refine (kk (s := { s with heap := h₁, toks := tk₁ }) ?_).2
          exact tgt_sound (s := { s with heap := h₁, toks := tk₁ + 1 }) nd hk S hf I₁ ⟨_, rfl⟩ (H.then x₁)
      · subst hf; exact H.elim
theorem denS_sub {o i e : PySem.Expr} {p pos : Pos} {f g h : EF} (D1 : Den C X k o f) (D2 : Den C X k i g) (D3 : Den C X k e h)
    (hs : ∀ L cl fn cd fm qual, swapsWith e (some (.Subscript o i p)) pos.line (envG X.sc L cl fn cd fm qual) = pure false) : DenS C X k (.Assign [.Subscript o i p] e pos) (sSub f g h) := by
  intro A Ex s h₀ L cl fn cd fm qual fr loc σ ρ r Q hf R T I H
  unfold sSub at hf
  split at hf
  · subst hf; exact H.elim
  · rename_i v σ₁ e1
    split at hf
    · rename_i a σ₂ e2
      split at hf
      · rename_i j σ₃ e3
        split at hf
        · rename_i vs e4
          rw [fV_eq, put_eq] at hf
          split at hf
          · rename_i hj
            obtain ⟨hl, hf⟩ : vs.length < 100000 ∧ _ := by
              cases q : nlt (lenV vs) 100000 with
              | true => rw [q] at hf; exact ⟨lenV_eq vs ▸ nlt_iff.mp q, hf⟩
              | false => rw [q] at hf; subst hf; exact H.elim
            rw [cond_true, upd_eq] at hf
            subst hf
            refine wpAny_Assign_Subscript (D3 e1 R T I fun h₁ tk₁ ρ₁ u₁ x₁ I₁ r₁ => D1 e2 R T I₁ fun h₂ tk₂ ρ₂ u₂ x₂ I₂ r₂ => D2 e3 R T I₂ fun h₃ tk₃ ρ₃ u₃ x₃ I₃ r₃ => ?_) (hs _ _ _ _ _ _)
            obtain ⟨ha, rfl⟩ := r₂.mono x₃
            obtain ⟨t, rfl⟩ := r₃
            have hv := (r₁.mono x₂).mono x₃
            obtain ⟨ob, ho, hL, h0, hor, hu⟩ := I₃.at ha
            rw [e4] at hor
            obtain ⟨us, n, rfl, hus⟩ := hor
            have len := hus.len
            refine ki_setAt (s := { s with heap := h₃, toks := tk₃ }) ho (Int.natCast_nonneg j) (by show (j : Int) < 2 ^ 63; omega) (by rw [List.size_toArray, ← len]; show (j : Int) < _; omega) ?_
            refine H _ tk₃ ρ₃ ((x₁.trans x₂).trans x₃) (hu (.li (vs.set j v)) _ _ (Heap.SameBut.update ..) (Heap.get?_update_self _ ho rfl) ?_)
            have e9 : us.toArray.setIfInBounds j u₁ = (us.set j u₁).toArray := by simp
            refine ⟨us.set j u₁, (if (us.toArray.setIfInBounds j u₁).size == us.toArray.size then n else n + 1), ?_, hus.set hv j⟩
            exact congrArg (fun z => listOf z (if (us.toArray.setIfInBounds j u₁).size == us.toArray.size then n else n + 1)) e9
          · subst hf; exact H.elim
        · subst hf; exact H.elim
      · subst hf; exact H.elim
    · subst hf; exact H.elim
theorem denS_drop {e : PySem.Expr} {pos : Pos} {f : EF} (D : Den C X k e f) (hi : ∀ L cl fn cd fm qual, interactive (envG X.sc L cl fn cd fm qual) = false)
    (hs : ∀ L cl fn cd fm qual, swapsWith e none pos.line (envG X.sc L cl fn cd fm qual) = pure false) : DenS C X k (.Expr e pos) (sDrop f) := by
  intro A Ex s h₀ L cl fn cd fm qual fr loc σ ρ r Q hf R T I H
  unfold sDrop at hf
  split at hf
  · subst hf; exact H.elim
  · rename_i v σ' e1
    subst hf
    exact wpAny_Expr_any (D e1 R T I fun h' tk' ρ' u x I' _ => H h' tk' ρ' x I') (hi _ _ _ _ _ _) (hs _ _ _ _ _ _)
theorem denS_app {o e : PySem.Expr} {apos cpos pos : Pos} {f g : EF} (D1 : Den C X k o f) (D2 : Den C X k e g) (hst : isStarred e = false)
    (hb : ∀ L cl fn cd fm qual, attributeBase o "append" (envG X.sc L cl fn cd fm qual) (eval o (envG X.sc L cl fn cd fm qual)) = eval o (envG X.sc L cl fn cd fm qual)) (hl : (apos.endLine == cpos.line) = true)
    (hi : ∀ L cl fn cd fm qual, interactive (envG X.sc L cl fn cd fm qual) = false) : DenS C X k (.Expr (.Call (.Attribute o "append" apos) [e] [] cpos) pos) (sApp f g) := by
  intro A Ex s h₀ L cl fn cd fm qual fr loc σ ρ r Q hf R T I H
  unfold sApp at hf
  split at hf
  · rename_i a σ₁ e1
    split at hf
    case h_2 => subst hf; exact H.elim
    rename_i vs0 e0
    split at hf
    · subst hf; exact H.elim
    · rename_i v σ₂ e2
      split at hf
      · rename_i vs e3
        cases q : nlt (lenV vs) 100000 with
        | false => rw [q] at hf; subst hf; exact H.elim
        | true =>
          rw [q, cond_true, upd_eq] at hf
          subst hf
          have hl' : vs.length < 100000 := lenV_eq vs ▸ nlt_iff.mp q
          have se : starEach [e] (envG X.sc L cl fn cd fm qual) = [(false, eval e (envG X.sc L cl fn cd fm qual))] := starEach_plain hst
          refine wpAny_Expr_any ?_ (hi _ _ _ _ _ _) rfl
          refine wpAny_Call_method (T := "list") (id := "list.append") (hb _ _ _ _ _ _) (by rw [se]; rfl) hl PySem.F.plainAttrs_list PySem.F.slot_list_append PySem.F.type_list_append ?_
          refine D1 e1 R T I fun h₁ tk₁ ρ₁ ua x₁ I₁ r₁ => ?_
          have r₁' := r₁
          obtain ⟨ha, rfl⟩ := r₁
          obtain ⟨us0, n0, ho0, _⟩ := I₁.list ha e0
          have D2' := denL_cons D2 (denL_nil (C := C) (X := X) (k := k)) hst
          have e2' : lCons g lNil loc σ₁ = .ok [v] σ₂ := by
            unfold lCons; rw [e2]; rfl
          have w := D2' (pos := cpos) (cl := cl) (fn := fn) (cd := cd) (fm := fm) (qual := qual) (Ex := Ex) (s := { s with heap := h₁, toks := tk₁ }) (Q := fun vs s' => wpAny (model C.prog C.w) A (call (.builtin "list.append") ([.ref (ρ₁ a)] ++ vs) []) (fun _ => Q .next) Ex s') e2' R T I₁ fun h₂ tk₂ ρ₂ us x₂ I₂ r₂ => by
            obtain ⟨u, rfl, hu⟩ := r₂.one
            obtain ⟨hb2, eb2⟩ := r₁'.mono x₂
            have eqa : ρ₁ a = ρ₂ a := by injection eb2
            obtain ⟨ob, ho, hL, h0, hor, hup⟩ := I₂.at hb2
            rw [e3] at hor
            obtain ⟨ws, n, rfl, hws⟩ := hor
            rw [eqa]
            refine append_at (s := { s with heap := h₂, toks := tk₂ }) (hsz := by rw [List.size_toArray]; exact len_small hws hl') ho fun h' hs' ho' => ?_
            refine H h' tk₂ ρ₂ (x₁.trans x₂) (hup (.li (vs ++ [v])) _ h' hs' ho' ⟨ws ++ [u], n + 1, ?_, hws.app ⟨hu, trivial⟩⟩)
            show listOf (ws.toArray.push u) (n + 1) = listOf (ws ++ [u]).toArray (n + 1)
            rw [List.push_toArray]
          refine ⟨?_, ?_, ?_⟩
          · exact ⟨_, ho0, rfl⟩
          · rintro b q
            cases q
            exact ⟨_, ho0, rfl⟩
          · rw [se] at w ⊢
            exact callWith_builtin rfl (evalArgs_plain w)
      · subst hf; exact H.elim
  · subst hf; exact H.elim
end
end Mine
end

section
namespace Mine
open PySem PySem.W PySem.Spec PySem.Calls PyProof.Rows

section
variable {C : Cx} {X : Sx} {k : Nat}
-- while
theorem sWhile_zero (t : TF) (f : SF) (loc : List V) (σ : St) : sWhile 0 t f loc σ = .bad := rfl
theorem sWhile_succ (n : Nat) (t : TF) (f : SF) (loc : List V) (σ : St) : sWhile (n + 1) t f loc σ = (match t loc σ with
  | .bad => .bad
  | .ok false σ => .nx loc σ
  | .ok true σ => (match f loc σ with
    | .nx loc σ => sWhile n t f loc σ
    | r => r)) := rfl
theorem denS_while {fuel : Nat} {t : PySem.Expr} {b : List PySem.Stmt} {pos : Pos} {f : TF} {g : SF} (D0 : DenT C X k t f) (D1 : DenB C X k b g) : DenS C X k (.While t b [] pos) (sWhile fuel f g) := by
  intro A Ex s h₀ L cl fn cd fm qual fr loc σ ρ r Q hf R T I H
  refine wpAny_While ?_
  refine codeAny_whileLoop (fun n s' => ∃ h' tk' ρ' loc' σ', s' = { s with heap := h', toks := tk' } ∧ Ext σ.n ρ σ'.n ρ' ∧ Inv X cl h₀ L fr loc' σ' ρ' h' ∧ sWhile n f g loc' σ' = r) ?_ fuel ⟨s.heap, s.toks, ρ, loc, σ, rfl, Ext.rfl, I, hf⟩
  rintro n s' ⟨h₁, tk₁, ρ₁, loc₁, σ₁, rfl, x₁, I₁, hw⟩
  cases n with
  | zero => rw [sWhile_zero] at hw; subst hw; exact H.elim
  | succ n =>
    rw [sWhile_succ] at hw
    cases e : f loc₁ σ₁ with
    | bad => rw [e] at hw; subst hw; exact H.elim
    | ok b' σ₂ =>
      rw [e] at hw
      refine D0 e R T I₁ fun h₂ tk₂ ρ₂ x₂ I₂ => ?_
      cases b' with
      | false =>
        simp only at hw
        subst hw
        exact wpAny_execs_nil (H h₂ tk₂ ρ₂ (x₁.trans x₂) I₂)
      | true =>
        simp only at hw
        refine D1 (s := { s with heap := h₂, toks := tk₂ }) rfl R T I₂ ?_
        cases e2 : g loc₁ σ₂ with
        | bad => rw [e2] at hw; subst hw; exact H.elim
        | nx loc₃ σ₃ =>
          rw [e2] at hw
          intro h₃ tk₃ ρ₃ x₃ I₃
          exact ⟨n, Nat.lt_succ_self _, h₃, tk₃, ρ₃, loc₃, σ₃, rfl, (x₁.trans x₂).trans x₃, I₃, hw⟩
        | rt v σ₃ =>
          rw [e2] at hw
          simp only at hw
          subst hw
          intro h₃ tk₃ ρ₃ u m' news' x₃ B hr
          exact H h₃ tk₃ ρ₃ u m' news' ((x₁.trans x₂).trans x₃) B hr

-- the ledger's own part that no step of the text sees
theorem Inv.pushF {cl : List (Str × Addr)} {h₀ h h' : Heap} {L : Addr} {fr : List (Addr × Obj)} {loc : List V} {σ : St} {ρ : Nat → Addr} {a : Addr} {ob : Obj} (I : Inv X cl h₀ L fr loc σ ρ h) (hk : ∀ b o, h.get? b = some o → h'.get? b = some o)
    (ha : h.get? a = none) (ho : h'.get? a = some ob) : Inv X cl h₀ L ((a, ob) :: fr) loc σ ρ h' := by
  obtain ⟨m, news, I⟩ := I
  have hn := not_mem_fst I.N ha
  refine ⟨m, news, I.F.grownK hk, ?_, ?_, I.S, I.len, I.L⟩
  · intro p hp
    have : p = (a, ob) ∨ p ∈ news ++ fr := by
      rcases List.mem_append.mp hp with q | q
      · exact .inr (List.mem_append_left _ q)
      · rcases List.mem_cons.mp q with q | q
        · exact .inl q
        · exact .inr (List.mem_append_right _ q)
    rcases this with rfl | q
    · refine ⟨ho, ?_, ?_⟩
      · rintro rfl
        obtain ⟨oL, _, _, hL, _⟩ := I.F.ns
        rw [ha] at hL; cases hL
      · cases q : h₀.get? a with
        | none => rfl
        | some o' => have := I.F.keep _ _ q; rw [ha] at this; cases this
    · exact ⟨hk _ _ (I.N p q).1, (I.N p q).2⟩
  · have nd := I.nd
    rw [List.map_append] at nd ⊢
    have z := List.nodup_append.mp nd
    rw [List.map_append] at hn
    have hn1 : a ∉ news.map (·.1) := fun q => hn (List.mem_append_left _ q)
    have hn2 : a ∉ fr.map (·.1) := fun q => hn (List.mem_append_right _ q)
    rw [List.map_cons]
    refine List.nodup_append.mpr ⟨z.1, List.nodup_cons.mpr ⟨hn2, z.2.1⟩, fun x hx y hy e => ?_⟩
    rcases List.mem_cons.mp hy with rfl | hy
    · subst e; exact hn1 hx
    · exact z.2.2 x hx y hy e
theorem Inv.dropF {cl : List (Str × Addr)} {h₀ h h' : Heap} {L : Addr} {fr : List (Addr × Obj)} {loc : List V} {σ : St} {ρ : Nat → Addr} {p : Addr × Obj} (I : Inv X cl h₀ L (p :: fr) loc σ ρ h) (hs : Heap.ExtBut p.1 h h') : Inv X cl h₀ L fr loc σ ρ h' := by
  obtain ⟨m, news, I⟩ := I
  have hp := I.N p (List.mem_append_right _ (.head _))
  have nd := I.nd
  rw [List.map_append, List.map_cons] at nd
  have z := List.nodup_append.mp nd
  have ne : ∀ q ∈ news ++ fr, q.1 ≠ p.1 := fun q hq e => by
    rcases List.mem_append.mp hq with hq | hq
    · exact z.2.2 q.1 (List.mem_map_of_mem (f := fun x : Addr × Obj => x.1) hq) p.1 (List.mem_cons_self ..) e
    · exact (List.nodup_cons.mp z.2.1).1 (by have := List.mem_map_of_mem (f := fun x : Addr × Obj => x.1) hq; rw [e] at this; exact this)
  obtain ⟨oL, a1, a2, hL, a3⟩ := I.F.ns
  refine ⟨m, news, ⟨⟨oL, a1, a2, hs _ _ (Ne.symm hp.2.1) hL, a3⟩, fun b o e => hs b o (fun q => ?_) (I.F.keep b o e), I.F.above⟩, fun q hq => ?_, ?_, I.S, I.len, I.L⟩
  · rw [q, hp.2.2] at e; cases e
  · have hq' : q ∈ news ++ p :: fr := by
      rcases List.mem_append.mp hq with h | h
      · exact List.mem_append_left _ h
      · exact List.mem_append_right _ (.tail _ h)
    exact ⟨hs _ _ (ne q hq) (I.N q hq').1, (I.N q hq').2⟩
  · rw [List.map_append]
    exact List.nodup_append.mpr ⟨z.1, (List.nodup_cons.mp z.2.1).2, fun x hx y hy e => z.2.2 x hx y (.tail _ hy) e⟩
theorem Inv.turnF {cl : List (Str × Addr)} {h₀ h h' : Heap} {L : Addr} {fr : List (Addr × Obj)} {loc : List V} {σ : St} {ρ : Nat → Addr} {a : Addr} {ob ob' : Obj} (I : Inv X cl h₀ L ((a, ob) :: fr) loc σ ρ h) (hs : ∀ b o, b ≠ a → h.get? b = some o → h'.get? b = some o) (ho : h'.get? a = some ob') :
    Inv X cl h₀ L ((a, ob') :: fr) loc σ ρ h' := by
  obtain ⟨m, news, I⟩ := I
  have hp := I.N (a, ob) (List.mem_append_right _ (.head _))
  have nd := I.nd
  have nd0 := nd
  rw [List.map_append, List.map_cons] at nd
  have z := List.nodup_append.mp nd
  have ne : ∀ q ∈ news ++ fr, q.1 ≠ a := fun q hq e => by
    rcases List.mem_append.mp hq with hq | hq
    · exact z.2.2 q.1 (List.mem_map_of_mem (f := fun x : Addr × Obj => x.1) hq) a (List.mem_cons_self ..) e
    · exact (List.nodup_cons.mp z.2.1).1 (by have := List.mem_map_of_mem (f := fun x : Addr × Obj => x.1) hq; rw [e] at this; exact this)
  obtain ⟨oL, a1, a2, hL, a3⟩ := I.F.ns
  refine ⟨m, news, ⟨⟨oL, a1, a2, hs _ _ (Ne.symm hp.2.1) hL, a3⟩, fun b o e => hs b o (fun q => ?_) (I.F.keep b o e), I.F.above⟩, fun q hq => ?_, ?_, I.S, I.len, I.L⟩
  · rw [q, hp.2.2] at e; cases e
  · have : q = (a, ob') ∨ q ∈ news ++ fr := by
      rcases List.mem_append.mp hq with h | h
      · exact .inr (List.mem_append_left _ h)
      · rcases List.mem_cons.mp h with h | h
        · exact .inl h
        · exact .inr (List.mem_append_right _ h)
    rcases this with rfl | hq
    · exact ⟨ho, hp.2⟩
    · have hq' : q ∈ news ++ (a, ob) :: fr := by
        rcases List.mem_append.mp hq with h | h
        · exact List.mem_append_left _ h
        · exact List.mem_append_right _ (.tail _ h)
      exact ⟨hs _ _ (ne q hq) (I.N q hq').1, (I.N q hq').2⟩
  · rw [List.map_append, List.map_cons] at nd0 ⊢
    exact nd0
theorem Inv.getF {cl : List (Str × Addr)} {h₀ h : Heap} {L : Addr} {fr : List (Addr × Obj)} {loc : List V} {σ : St} {ρ : Nat → Addr} {p : Addr × Obj} (I : Inv X cl h₀ L fr loc σ ρ h) (hp : p ∈ fr) : h.get? p.1 = some p.2 := by
  obtain ⟨m, news, I⟩ := I
  exact (I.N p (List.mem_append_right _ hp)).1
-- iterators
def ItR (N : Nat) (ρ : Nat → Addr) : It → Obj → Prop
  | .rg i st n, o => o = { cls := .type "range_iterator", dict := none, data := .fields #[rawInt i, rawInt (n : Int), rawInt st], slots := #[] }
  | .ls j i, o => j < N ∧ o.cls = .type "list_iterator" ∧ o.data = .fields #[.ref (ρ j), .int i 0]
  | .ts j i, o => j < N ∧ o.cls = .type "tuple_iterator" ∧ o.data = .fields #[.ref (ρ j), .int i 0]
theorem ItR.mono {N N' : Nat} {ρ ρ' : Nat → Addr} (e : Ext N ρ N' ρ') {j : It} {o : Obj} (h : ItR N ρ j o) : ItR N' ρ' j o := by
  cases j with
  | rg => exact h
  | ls j i => exact ⟨Nat.lt_of_lt_of_le h.1 e.le, h.2.1, by rw [e.eq _ h.1]; exact h.2.2⟩
  | ts j i => exact ⟨Nat.lt_of_lt_of_le h.1 e.le, h.2.1, by rw [e.eq _ h.1]; exact h.2.2⟩
theorem fIt_eq {α : Type} (j : It) (k : It → α) : fIt j k = k j := by
  cases j with
  | rg i st n => show fI i (fun i => fI st fun st => fN n fun n => k (.rg i st n)) = _; rw [fI_eq, fI_eq, fN_eq]
  | ls a i => show fN a (fun a => fN i fun i => k (.ls a i)) = _; rw [fN_eq, fN_eq]
  | ts a i => show fN a (fun a => fN i fun i => k (.ts a i)) = _; rw [fN_eq, fN_eq]
theorem next_sound {A : Around} {Ex : Value → Shared → Prop} {s : Shared} {h₀ : Heap} {L : Addr} {cl : List (Str × Addr)} {fr : List (Addr × Obj)} {loc : List V} {σ : St} {ρ : Nat → Addr} {j : It} {a : Addr} {ob : Obj} {Q : Option Value → Shared → Prop}
    (R : Room A k) (I : Inv X cl h₀ L ((a, ob) :: fr) loc σ ρ s.heap) (J : ItR σ.n ρ j ob)
    (H : match nextI j σ with
      | .bad => False
      | .stop => ∀ h', Inv X cl h₀ L fr loc σ ρ h' → Q none { s with heap := h' }
      | .item v j' => ∀ h' tk' ob' u, VR σ.n ρ v u → Inv X cl h₀ L ((a, ob') :: fr) loc σ ρ h' → ItR σ.n ρ j' ob' → Q (some u) { s with heap := h', toks := tk' }) :
    wpAny (model C.prog C.w) A (pyNext (.ref a)) Q Ex s := by
  have ho : s.heap.get? a = some ob := I.getF (p := (a, ob)) (.head _)
  cases j with
  | rg i st n =>
    have J : ob = _ := J
    subst J
    cases n with
    | zero => exact wpAny_pyNext_range_end R.hh ho (Int.le_refl _) fun h' hs => H h' (I.dropF hs)
    | succ n =>
      refine wpAny_pyNext_range_item ho (by show (0 : Int) < ((n + 1 : Nat) : Int); omega) fun h' hi hs => ?_
      refine H h' _ _ _ ⟨_, rfl⟩ (I.turnF (fun b o hb e => (hs.2 b hb).trans e) hi) ?_
      show _ = _
      have : (((n + 1 : Nat) : Int) - 1) = (n : Int) := by omega
      rw [this]; rfl
  | ls j i =>
    obtain ⟨hj, hc, hd⟩ := J
    have H : match (match get σ j with | .li vs => bif nlt i (lenV vs) then NX.item (nth vs i) (.ls j (Nat.succ i)) else .stop | _ => .bad) with
      | .bad => False
      | .stop => ∀ h', Inv X cl h₀ L fr loc σ ρ h' → Q none { s with heap := h' }
      | .item v j' => ∀ h' tk' ob' u, VR σ.n ρ v u → Inv X cl h₀ L ((a, ob') :: fr) loc σ ρ h' → ItR σ.n ρ j' ob' → Q (some u) { s with heap := h', toks := tk' } := H
    cases e : get σ j with
    | tu vs => rw [e] at H; exact H.elim
    | ce v => rw [e] at H; exact H.elim
    | fz vs ob => rw [e] at H; exact H.elim
    | li vs =>
      rw [e] at H
      dsimp only at H
      obtain ⟨us, n, hu, hv⟩ := I.list hj e
      have hit : s.heap.IsListIter a (ρ j) i := ⟨ob, ho, hc, hd⟩
      cases q : nlt i (lenV vs) with
      | true =>
        rw [q] at H
        have lt : i < vs.length := lenV_eq vs ▸ nlt_iff.mp q
        obtain ⟨u, eu, hr⟩ := hv.get lt
        refine wpAny_pyNext_list_item hit (isList_of hu) (by simpa using eu) fun h' hit' hs => ?_
        obtain ⟨ob', ho', hc', hd'⟩ := hit'
        exact H h' s.toks ob' u hr (I.turnF (fun b o hb e => (hs.2 b hb).trans e) ho') ⟨hj, hc', hd'⟩
      | false =>
        rw [q] at H
        have le : us.length ≤ i := by
          rw [← hv.len, ← lenV_eq]
          apply Nat.le_of_not_lt
          intro lt
          rw [nlt_iff.mpr lt] at q; cases q
        exact wpAny_pyNext_list_end R.hh hit (isList_of hu) (by simpa using le) fun h' hs => H h' (I.dropF hs)
  | ts j i =>
    obtain ⟨hj, hc, hd⟩ := J
    have H : match (match get σ j with | .tu vs => bif nlt i (lenV vs) then NX.item (nth vs i) (.ts j (Nat.succ i)) else .stop | _ => .bad) with
      | .bad => False
      | .stop => ∀ h', Inv X cl h₀ L fr loc σ ρ h' → Q none { s with heap := h' }
      | .item v j' => ∀ h' tk' ob' u, VR σ.n ρ v u → Inv X cl h₀ L ((a, ob') :: fr) loc σ ρ h' → ItR σ.n ρ j' ob' → Q (some u) { s with heap := h', toks := tk' } := H
    cases e : get σ j with
    | li vs => rw [e] at H; exact H.elim
    | ce v => rw [e] at H; exact H.elim
    | fz vs ob => rw [e] at H; exact H.elim
    | tu vs =>
      rw [e] at H
      dsimp only at H
      obtain ⟨us, n, hu, hv⟩ := I.tup hj e
      have hit : s.heap.IsTupleIter a (ρ j) i := ⟨ob, ho, hc, hd⟩
      have itp : s.heap.IsTuple (ρ j) us.toArray := ⟨_, hu, rfl, _, rfl⟩
      cases q : nlt i (lenV vs) with
      | true =>
        rw [q] at H
        have lt : i < vs.length := lenV_eq vs ▸ nlt_iff.mp q
        obtain ⟨u, eu, hr⟩ := hv.get lt
        refine wpAny_pyNext_tuple_item hit itp (by simpa using eu) fun h' hit' hs => ?_
        obtain ⟨ob', ho', hc', hd'⟩ := hit'
        exact H h' s.toks ob' u hr (I.turnF (fun b o hb e => (hs.2 b hb).trans e) ho') ⟨hj, hc', hd'⟩
      | false =>
        rw [q] at H
        have le : us.length ≤ i := by
          rw [← hv.len, ← lenV_eq]
          apply Nat.le_of_not_lt
          intro lt
          rw [nlt_iff.mpr lt] at q; cases q
        exact wpAny_pyNext_tuple_end R.hh hit itp (by simpa using le) fun h' hs => H h' (I.dropF hs)
-- a source: what is evaluated, and the iterator on it
def EndI (X : Sx) (cl : List (Str × Addr)) (h₀ : Heap) (L : Addr) (fr : List (Addr × Obj)) (loc : List V) (σ : St) (ρ : Nat → Addr) (j : It) (σ' : St) (s : Shared) (Q : Value → Shared → Prop) : Prop :=
  ∀ h' tk' ρ' a ob, Ext σ.n ρ σ'.n ρ' → Inv X cl h₀ L ((a, ob) :: fr) loc σ' ρ' h' → ItR σ'.n ρ' j ob → Q (.ref a) { s with heap := h', toks := tk' }
def DenI (C : Cx) (X : Sx) (k : Nat) (e : PySem.Expr) (f : IF) : Prop :=
  ∀ ⦃A : Around⦄ ⦃Ex : Value → Shared → Prop⦄ ⦃s : Shared⦄ ⦃h₀ : Heap⦄ ⦃L : Addr⦄ ⦃cl : List (Str × Addr)⦄ ⦃fn : Option Addr⦄ ⦃cd : Value⦄ ⦃fm : Option Addr⦄ ⦃qual : Str⦄ ⦃fr : List (Addr × Obj)⦄ ⦃loc : List V⦄ ⦃σ σ' : St⦄ ⦃ρ : Nat → Addr⦄ ⦃j : It⦄ ⦃Q : Value → Shared → Prop⦄,
    f loc σ = .ok j σ' → Room A k → C.Top h₀ → Inv X cl h₀ L fr loc σ ρ s.heap → EndI X cl h₀ L fr loc σ ρ j σ' s Q →
    wpAny (model C.prog C.w) A (eval e (envG X.sc L cl fn cd fm qual)) (fun x s₁ => wpAny (model C.prog C.w) A (pyIter x) Q Ex s₁) Ex s
theorem denI_seq {e : PySem.Expr} {f : EF} (D : Den C X k e f) : DenI C X k e (srcS f) := by
  intro A Ex s h₀ L cl fn cd fm qual fr loc σ σ' ρ j Q hf R T I H
  unfold srcS at hf
  split at hf
  · rename_i i σ₁ e1
    split at hf
    · rename_i vs e2
      cases hf
      refine D e1 R T I fun h₁ tk₁ ρ₁ u x₁ I₁ r₁ => ?_
      obtain ⟨hi, rfl⟩ := r₁
      obtain ⟨us, n, hu, hv⟩ := I₁.list hi e2
      refine wpAny_pyIter_list (s := { s with heap := h₁, toks := tk₁ }) (isList_of hu) ?_
      exact H _ tk₁ ρ₁ _ _ x₁ (I₁.pushF (fun b o e => Heap.get?_push_of_some _ e) (get_size _) (Heap.get?_push_size _ rfl)) ⟨hi, rfl, rfl⟩
    · rename_i vs e2
      cases hf
      refine D e1 R T I fun h₁ tk₁ ρ₁ u x₁ I₁ r₁ => ?_
      obtain ⟨hi, rfl⟩ := r₁
      obtain ⟨us, n, hu, hv⟩ := I₁.tup hi e2
      refine wpAny_pyIter_tuple (s := { s with heap := h₁, toks := tk₁ }) (items := us.toArray) ⟨_, hu, rfl, _, rfl⟩ ?_
      exact H _ tk₁ ρ₁ _ _ x₁ (I₁.pushF (fun b o e => Heap.get?_push_of_some _ e) (get_size _) (Heap.get?_push_size _ rfl)) ⟨hi, rfl, rfl⟩
    · cases hf
  · cases hf
-- for
theorem goI_zero (c : Bool) (x : Nat) (f : SF) (j : It) (loc : List V) (σ : St) : goI c x f 0 j loc σ = .bad := rfl
theorem goI_succ (c : Bool) (x : Nat) (f : SF) (n : Nat) (j : It) (loc : List V) (σ : St) : goI c x f (n + 1) j loc σ = (match nextI j σ with
  | .bad => .bad
  | .stop => .nx loc σ
  | .item v j => (match tgt c x v loc σ with
    | .nx loc σ => (match f loc σ with
      | .nx loc σ => fIt j fun j => goI c x f n j loc σ
      | r => r)
    | r => r)) := rfl
theorem tgt_not_rt {c : Bool} {n : Nat} {v w : V} {loc : List V} {σ σ' : St} (h : tgt c n v loc σ = .rt w σ') : False := by
  cases c with
  | false =>
    have h : fV v (fun v => put loc n v fun loc => .nx loc σ) = .rt w σ' := h
    rw [fV_eq, put_eq] at h
    split at h <;> cases h
  | true =>
    have h : (match nth loc n with | .rf k => (match get σ k with | .ce _ => upd k (.ce v) σ fun σ => RS.nx loc σ | _ => .bad) | _ => .bad) = .rt w σ' := h
    split at h
    · split at h
      · rw [upd_eq] at h; cases h
      · cases h
    · cases h
theorem tgt_nx {A : Around} {Ex : Value → Shared → Prop} {s : Shared} {h₀ : Heap} {L : Addr} {cl : List (Str × Addr)} {fn : Option Addr} {cd : Value} {fm : Option Addr} {qual : Str} {fr : List (Addr × Obj)} {loc loc' : List V} {σ σ' : St} {ρ : Nat → Addr} {c : Bool} {n : Nat} {x : Str} {v : V} {u : Value} {Q : Unit → Shared → Prop}
    (nd : (X.ns.map (·.1)).Nodup) (hk : X.sc.kind = .function) (S : Slot' X c n x) (h : tgt c n v loc σ = .nx loc' σ') (I : Inv X cl h₀ L fr loc σ ρ s.heap) (hv : VR σ.n ρ v u)
    (H : ∀ h' tk' ρ', Ext σ.n ρ σ'.n ρ' → Inv X cl h₀ L fr loc' σ' ρ' h' → Q () { s with heap := h', toks := tk' }) :
    wpAny (model C.prog C.w) A (storeName (envG X.sc L cl fn cd fm qual) x u) Q Ex s :=
  tgt_sound (C := C) (Q := fun _ s => Q () s) nd hk S h I hv H
theorem Bas.dropF {h₀ h : Heap} {L : Addr} {fr : List (Addr × Obj)} {σ : St} {ρ : Nat → Addr} {m : Str → Option Value} {news : List (Addr × Obj)} {p : Addr × Obj} (B : Bas h₀ L (p :: fr) σ ρ h m news) : Bas h₀ L fr σ ρ h m news := by
  refine ⟨B.F, fun q hq => B.N q ?_, ?_, B.S, B.len⟩
  · rcases List.mem_append.mp hq with h | h
    · exact List.mem_append_left _ h
    · exact List.mem_append_right _ (.tail _ h)
  · have nd := B.nd
    rw [List.map_append, List.map_cons] at nd
    rw [List.map_append]
    have z := List.nodup_append.mp nd
    exact List.nodup_append.mpr ⟨z.1, (List.nodup_cons.mp z.2.1).2, fun x hx y hy e => z.2.2 x hx y (.tail _ hy) e⟩
theorem denS_for {e : PySem.Expr} {x : Str} {p pos : Pos} {b : List PySem.Stmt} {c : Bool} {n : Nat} {src : IF} {f : SF} (nd : (X.ns.map (·.1)).Nodup) (hk : X.sc.kind = .function) (S : Slot' X c n x) (D0 : DenI C X k e src) (D1 : DenB C X k b f)
    (hs : ∀ L cl fn cd fm qual x, foldedSetIterable e (envG X.sc L cl fn cd fm qual) x = pure x) : DenS C X k (.For (.Name x p) e b [] pos) (sFor c n src f) := by
  intro A Ex s h₀ L cl fn cd fm qual fr loc σ ρ r Q hf R T I H
  unfold sFor at hf
  split at hf
  · subst hf; exact H.elim
  · rename_i j σ₀ e0
    refine wpAny_For (D0 e0 R T I fun h₁ tk₁ ρ₁ a ob x₁ I₁ J₁ => ?_) (hs _ _ _ _ _ _)
    refine codeAny_forLoop (fun m s' => ∃ h' tk' ρ' loc' σ' j' ob', s' = { s with heap := h', toks := tk' } ∧ Ext σ.n ρ σ'.n ρ' ∧ Inv X cl h₀ L ((a, ob') :: fr) loc' σ' ρ' h' ∧ ItR σ'.n ρ' j' ob' ∧ goI c n f m j' loc' σ' = r) ?_ 100000 ⟨h₁, tk₁, ρ₁, loc, σ₀, j, ob, rfl, x₁, I₁, J₁, hf⟩
    rintro m s' ⟨h₂, tk₂, ρ₂, loc₂, σ₂, j₂, ob₂, rfl, x₂, I₂, J₂, hw⟩
    cases m with
    | zero => rw [goI_zero] at hw; subst hw; exact H.elim
    | succ m =>
      rw [goI_succ] at hw
      refine next_sound (k := k) (s := { s with heap := h₂, toks := tk₂ }) R I₂ J₂ ?_
      cases e1 : nextI j₂ σ₂ with
      | bad => rw [e1] at hw; subst hw; exact H.elim
      | stop =>
        rw [e1] at hw
        simp only at hw
        subst hw
        exact fun h' I' => wpAny_execs_nil (H h' tk₂ ρ₂ x₂ I')
      | item v j₃ =>
        rw [e1] at hw
        simp only at hw
        intro h₃ tk₃ ob₃ u hr I₃ J₃
        cases e2 : tgt c n v loc₂ σ₂ with
        | bad => rw [e2] at hw; subst hw; exact H.elim
        | rt w σ' => exact (tgt_not_rt e2).elim
        | nx loc₃ σ₃ =>
          rw [e2] at hw
          simp only at hw
          refine wpAny_assign_Name (tgt_nx (C := C) (s := { s with heap := h₃, toks := tk₃ }) nd hk S e2 I₃ hr fun h₄ tk₄ ρ₄ x₄ I₄ => ?_)
          refine D1 (s := { s with heap := h₄, toks := tk₄ }) rfl R T I₄ ?_
          cases e3 : f loc₃ σ₃ with
          | bad => rw [e3] at hw; subst hw; exact H.elim
          | nx loc₅ σ₅ =>
            rw [e3] at hw
            simp only at hw
            rw [fIt_eq] at hw
            intro h₅ tk₅ ρ₅ x₅ I₅
            exact ⟨m, Nat.lt_succ_self _, h₅, tk₅, ρ₅, loc₅, σ₅, j₃, ob₃, rfl, (x₂.trans x₄).trans x₅, I₅, J₃.mono (x₄.trans x₅), hw⟩
          | rt w σ₅ =>
            rw [e3] at hw
            simp only at hw
            subst hw
            intro h₅ tk₅ ρ₅ u' m' news' x₅ B hr'
            exact H h₅ tk₅ ρ₅ u' m' news' ((x₂.trans x₄).trans x₅) B.dropF hr'
end
end Mine
end

section
namespace Mine
open PySem PySem.W PySem.Spec PySem.Calls PyProof.Rows

section
variable {C : Cx} {X : Sx} {k : Nat}
-- range
theorem few_lt {i : Int} (h : few i = true) : -1000000 < i ∧ i < 1000000 := by
  have := nlt_iff.mp h
  rw [iabs_eq] at this
  omega
theorem small_up {a b : Int} (ha : few a = true) (hb : few b = true) : Builtin.Range.small a b 1 = true := by
  have h1 := few_lt ha
  have h2 := few_lt hb
  exact small_one (by omega) (by omega) (by omega) (by omega)
theorem size_up (a b : Int) : Builtin.Range.rangeSize a b 1 = ((Int.toNat (Int.sub b a) : Nat) : Int) := by
  rw [rangeSize_one]
  show _ = (((b - a).toNat : Nat) : Int)
  split <;> omega
theorem size_down (a b : Int) : Builtin.Range.rangeSize a b (-1) = ((Int.toNat (Int.sub a b) : Nat) : Int) := by
  unfold Builtin.Range.rangeSize
  show _ = (((a - b).toNat : Nat) : Int)
  simp only [show ¬ ((-1 : Int) > 0) by decide, if_false]
  have : -(-1 : Int) = 1 := by decide
  simp only [this, Int.ediv_one]
  split <;> omega
theorem small_down {a b : Int} (ha : few a = true) (hb : few b = true) : Builtin.Range.small a b (-1) = true := by
  have h1 := few_lt ha
  have h2 := few_lt hb
  unfold Builtin.Range.small
  rw [size_down]
  have e : ((Int.toNat (Int.sub a b) : Nat) : Int) ≤ 2000000 := by show (((a - b).toNat : Nat) : Int) ≤ _; omega
  have e0 : (0 : Int) ≤ ((Int.toNat (Int.sub a b) : Nat) : Int) := Int.natCast_nonneg _
  simp only [Builtin.Range.rangeFitsLong, Bool.and_eq_true, Bool.or_eq_true, decide_eq_true_eq, beq_iff_eq, show ¬ ((-1 : Int) > 0) by decide, if_false]
  omega
theorem Inv.grown {cl : List (Str × Addr)} {h₀ h h' : Heap} {L : Addr} {fr : List (Addr × Obj)} {loc : List V} {σ : St} {ρ : Nat → Addr} (I : Inv X cl h₀ L fr loc σ ρ h) (hk : ∀ b o, h.get? b = some o → h'.get? b = some o) : Inv X cl h₀ L fr loc σ ρ h' := by
  obtain ⟨m, news, I⟩ := I
  exact ⟨m, news, I.F.grownK hk, I.N.grown hk, I.nd, I.S, I.len, I.L⟩
theorem cond_few {α : Type} {b : Bool} {x z : α} (h : (bif b then some x else none) = some z) : b = true ∧ x = z := by
  cases b with
  | true => exact ⟨rfl, Option.some.inj h⟩
  | false => cases h
-- an iterator on the range just made
theorem range_it {A : Around} {Ex : Value → Shared → Prop} {s : Shared} {h₀ : Heap} {L : Addr} {cl : List (Str × Addr)} {fr : List (Addr × Obj)} {loc : List V} {σ : St} {ρ : Nat → Addr} {a b c : Int} {n : Nat} {t u v : Tok} {tk : Nat} {Q : Value → Shared → Prop}
    (I : Inv X cl h₀ L fr loc σ ρ s.heap) (hs : Builtin.Range.small a b c = true) (hn : Builtin.Range.rangeSize a b c = (n : Int)) (H : EndI X cl h₀ L fr loc σ ρ (.rg a c n) σ s Q) :
    wpAny (model C.prog C.w) A (pyIter (.ref s.heap.objs.size)) Q Ex { s with heap := s.heap.push { cls := .type "range", data := .fields #[.int a t, .int b u, .int c v] }, toks := tk } := by
  refine wpAny_pyIter_range (s := { s with heap := s.heap.push { cls := .type "range", data := .fields #[.int a t, .int b u, .int c v] }, toks := tk }) (IsRange.new _ a b c t u v) hs ?_
  have I1 := I.grown (h' := s.heap.push { cls := .type "range", data := .fields #[.int a t, .int b u, .int c v] }) fun b o e => Heap.get?_push_of_some _ e
  refine H _ tk ρ _ _ Ext.rfl (I1.pushF (fun b o e => Heap.get?_push_of_some _ e) (get_size _) (Heap.get?_push_size _ rfl)) ?_
  show _ = _
  rw [hn]
theorem denI_range {p pos : Pos} {e : PySem.Expr} {es : List PySem.Expr} {g : LF} (hmg : C.mg ("range" : Str) = none) (hk : X.sc.kind = .function) (hx : X.sc.names.lookup ("range" : Str) = some NameKind.globalImplicit) (hs : (e :: es).any isStarred = false) (D : DenL C X k (e :: es) g) :
    DenI C X k (.Call (.Name "range" p) (e :: es) [] pos) (srcR g) := by
  intro A Ex s h₀ L cl fn cd fm qual fr loc σ σ' ρ j Q hf R T I H
  unfold srcR at hf
  split at hf
  · cases hf
  · rename_i vs σ₁ e1
    split at hf
    · cases hf
    · rename_i j' e2
      rw [fIt_eq] at hf
      cases hf
      have FK : ∀ b o, h₀.get? b = some o → s.heap.get? b = some o := by obtain ⟨m, news, I⟩ := I; exact I.F.keep
      refine Call_ (Name_function_global hk hx (loadGlobal_builtin (T.g.keeps FK) hmg (T.b.keeps FK) ((T.builtins _ (by decide)).trans (by decide +kernel : bootBuiltins ("range" : Str) = some (.type "range"))) ?_) (by decide)) rfl
      have hst : isStarred e = false := by simp only [List.any_cons, Bool.or_eq_false_iff] at hs; exact hs.1
      refine callWith_of (P := fun _ => True) (by rw [noStars hs]; rfl) (keep_machine (by intro a e; cases e)) ?_
      have w := D (pos := pos) (cl := cl) (fn := fn) (cd := cd) (fm := fm) (qual := qual) (Q := fun vs s' => True ∧ wpAny (model C.prog C.w) A (call (.type "range") ([] ++ vs)) (fun x s₁ => wpAny (model C.prog C.w) A (pyIter x) Q Ex s₁) Ex s') (Ex := Ex) e1 R T I
        fun h₁ tk₁ ρ₁ us x₁ I₁ r₁ => ⟨trivial, ?_⟩
      · rw [starEach_plain hst] at w ⊢
        exact evalArgs_plain w
      · have H' : EndI X cl h₀ L fr loc σ' ρ₁ j σ' { s with heap := h₁, toks := tk₁ } Q := fun h' tk' ρ' a ob e' I' J' => H h' tk' ρ' a ob (x₁.trans e') I' J'
        unfold rng at e2
        split at e2
        · rename_i b
          obtain ⟨hb, e2⟩ := cond_few e2
          subst e2
          obtain ⟨u, rfl, t, rfl⟩ := r₁.one
          exact call_range_1 (s := { s with heap := h₁, toks := tk₁ }) (range_it (s := { s with heap := h₁, toks := tk₁ }) I₁ (small_up (by decide) hb) (size_up 0 b) H')
        · rename_i a b
          obtain ⟨ha, e2⟩ := cond_tt e2 (by intro e; cases e)
          obtain ⟨hb, e2⟩ := cond_few e2
          subst e2
          obtain ⟨u, u', rfl, ⟨t, rfl⟩, t', rfl⟩ := r₁.two
          exact call_range_2 (s := { s with heap := h₁, toks := tk₁ }) (range_it (s := { s with heap := h₁, toks := tk₁ }) I₁ (small_up ha hb) (size_up a b) H')
        · rename_i a b
          obtain ⟨ha, e2⟩ := cond_tt e2 (by intro e; cases e)
          obtain ⟨hb, e2⟩ := cond_few e2
          subst e2
          have : ∃ t1 t2 t3, us = [.int a t1, .int b t2, .int (-1) t3] := by
            match us, r₁ with
            | [], r => exact r.elim
            | [_], r => exact r.2.elim
            | [_, _], r => exact r.2.2.elim
            | [_, _, _], ⟨⟨t1, e1⟩, ⟨t2, e2⟩, ⟨t3, e3⟩, _⟩ => subst e1 e2 e3; exact ⟨t1, t2, t3, rfl⟩
            | _ :: _ :: _ :: _ :: _, r => exact r.2.2.2.elim
          obtain ⟨t1, t2, t3, rfl⟩ := this
          exact call_range_3 (s := { s with heap := h₁, toks := tk₁ }) (by decide) (hp := .inl (PyProof.noPylong_small (by decide))) (range_it (s := { s with heap := h₁, toks := tk₁ }) I₁ (small_down ha hb) (size_down a b) H')
        · cases e2
        · cases e2
end
end Mine
end

section
namespace Mine
open PySem PySem.W PySem.Spec PySem.Calls PyProof.Rows

section
variable {C : Cx} {X : Sx} {k : Nat}
def StO (C : Cx) (env : Env) (f : Value → Sem Unit) (x : Str) : Prop :=
  ∀ ⦃A : Around⦄ ⦃Ex : Value → Shared → Prop⦄ ⦃s : Shared⦄ ⦃u : Value⦄ ⦃Q : Unit → Shared → Prop⦄, wpAny (model C.prog C.w) A (storeName env x u) Q Ex s → wpAny (model C.prog C.w) A (f u) Q Ex s
theorem stO_assign {env : Env} {x : Str} {p : Pos} : StO C env (assign (.Name x p) env) x := fun _ _ _ _ _ h => wpAny_assign_Name h
theorem stO_bind {env : Env} {x : Str} : StO C env (bindName env x) x := fun _ _ _ _ _ h => wpAny_bindName h
inductive Tg (C : Cx) (X : Sx) (env : Env) : List (Bool × Nat) → List (Value → Sem Unit) → Prop
  | nil : Tg C X env [] []
  | cons {c : Bool} {n : Nat} {x : Str} {f : Value → Sem Unit} {ts : List (Bool × Nat)} {fs : List (Value → Sem Unit)} : Slot' X c n x → StO C env f x → Tg C X env ts fs → Tg C X env ((c, n) :: ts) (f :: fs)
theorem Tg.len {env : Env} {ts : List (Bool × Nat)} {fs : List (Value → Sem Unit)} (h : Tg C X env ts fs) : fs.length = ts.length := by
  induction h with
  | nil => rfl
  | cons _ _ _ ih => simp [ih]
theorem tgts_nil (vs loc : List V) (σ : St) : tgts [] vs loc σ = (match vs with | [] => .nx loc σ | _ :: _ => .bad) := rfl
theorem tgts_cons (t : Bool × Nat) (ts : List (Bool × Nat)) (vs loc : List V) (σ : St) : tgts (t :: ts) vs loc σ = (match vs with
    | [] => .bad
    | v :: vs => (match tgt t.1 t.2 v loc σ with
      | .nx loc σ => tgts ts vs loc σ
      | r => r)) := rfl
theorem tgts_len : ∀ (ts : List (Bool × Nat)) (vs loc : List V) (σ : St), vs.length = ts.length ∨ tgts ts vs loc σ = .bad
  | [], [], _, _ => .inl rfl
  | [], _ :: _, _, _ => .inr rfl
  | _ :: _, [], _, _ => .inr rfl
  | t :: ts, v :: vs, loc, σ => by
    rw [tgts_cons]
    simp only
    cases e : tgt t.1 t.2 v loc σ with
    | bad => exact .inr rfl
    | rt w σ' => exact (tgt_not_rt e).elim
    | nx loc' σ' =>
      rcases tgts_len ts vs loc' σ' with h | h
      · exact .inl (by simp [h])
      · exact .inr h
theorem tgts_sound {A : Around} {Ex : Value → Shared → Prop} {h₀ : Heap} {L : Addr} {cl : List (Str × Addr)} {fn : Option Addr} {cd : Value} {fm : Option Addr} {qual : Str} {fr : List (Addr × Obj)} {r : RS} {Q : Flow → Shared → Prop} (nd : (X.ns.map (·.1)).Nodup) (hk : X.sc.kind = .function)
    {ts : List (Bool × Nat)} {fs : List (Value → Sem Unit)} (hT : Tg C X (envG X.sc L cl fn cd fm qual) ts fs) : ∀ {s : Shared} {loc vs : List V} {us : List Value} {σ : St} {ρ : Nat → Addr}, tgts ts vs loc σ = r → Inv X cl h₀ L fr loc σ ρ s.heap → VsR σ.n ρ vs us → EndS X cl h₀ L fr σ ρ r s Q →
    wpAny (model C.prog C.w) A (assignInOrder fs us) (fun _ => Q .next) Ex s := by
  induction hT with
  | nil =>
    intro s loc vs us σ ρ h I hr H
    cases vs with
    | nil =>
      rw [tgts_nil] at h
      subst h
      cases us with
      | nil => exact wpAny_pure (H s.heap s.toks ρ Ext.rfl I)
      | cons u us => exact hr.elim
    | cons v vs => rw [tgts_nil] at h; subst h; exact H.elim
  | cons hS hf hT ih =>
    intro s loc vs us σ ρ h I hr H
    cases vs with
    | nil => rw [tgts_cons] at h; subst h; exact H.elim
    | cons v vs =>
      cases us with
      | nil => exact hr.elim
      | cons u us =>
        rw [tgts_cons] at h
        simp only at h
        rename_i c n x f ts fs
        cases e : tgt c n v loc σ with
        | bad => rw [e] at h; subst h; exact H.elim
        | rt w σ' => exact (tgt_not_rt e).elim
        | nx loc' σ' =>
          rw [e] at h
          simp only at h
          show wpAny _ A (do holding us (f u); assignInOrder fs us) _ _ _
          exact wpAny_bind (wpAny_holding (hf (tgt_nx (C := C) nd hk hS e I hr.1 fun h' tk' ρ' x' I' => ih (s := { s with heap := h', toks := tk' }) h I' (hr.2.mono x') (H.then x'))))
theorem cond_lt {α : Type} {a b : Nat} {x y r : α} (h : (bif nlt a b then x else y) = r) : (a < b ∧ x = r) ∨ y = r := by
  cases q : nlt a b with
  | true => rw [q] at h; exact .inl ⟨nlt_iff.mp q, h⟩
  | false => rw [q] at h; exact .inr h
-- x, y = e1, e2
theorem denS_unpD {ts : List (Bool × Nat)} {elts es : List PySem.Expr} {k1 k2 : Nat} {tpos p pos : Pos} {g : LF} (nd : (X.ns.map (·.1)).Nodup) (hk : X.sc.kind = .function)
    (hT : ∀ L cl fn cd fm qual, Tg C X (envG X.sc L cl fn cd fm qual) ts ((assignEach elts (envG X.sc L cl fn cd fm qual)).map (·.2))) (hst : ∀ L cl fn cd fm qual, (assignEach elts (envG X.sc L cl fn cd fm qual)).findIdx? (·.1) = none)
    (D : DenL C X k es g) (hs : ∀ L cl fn cd fm qual, swapsWithSole [.Tuple elts k1 tpos] (.Tuple es k2 p) pos.line (envG X.sc L cl fn cd fm qual) = pure false)
    (hw : ∀ L cl fn cd fm qual, swappedStores [.Tuple elts k1 tpos] (.Tuple es k2 p) (envG X.sc L cl fn cd fm qual) = pure none) : DenS C X k (.Assign [.Tuple elts k1 tpos] (.Tuple es k2 p) pos) (sUnpD ts g) := by
  intro A Ex s h₀ L cl fn cd fm qual fr loc σ ρ r Q hf R T I H
  unfold sUnpD at hf
  split at hf
  · subst hf; exact H.elim
  · rename_i vs σ₁ e1
    rw [fL_eq] at hf
    rcases cond_lt hf with ⟨hl, hf⟩ | hf
    · rw [lenV_eq] at hl
      rcases tgts_len ts vs loc σ₁ with hn | hb
      · refine Assign_Tuple (Tuple_ (D e1 R T I fun h₁ tk₁ ρ₁ us x₁ I₁ r₁ => ?_)) (hs _ _ _ _ _ _) (hw _ _ _ _ _ _)
        obtain ⟨m, news, I₁⟩ := I₁
        have len := r₁.len
        refine newTuple_N (s := { s with heap := h₁, toks := tk₁ }) (hsz := by unfold sizeLine; omega) I₁.F I₁.N fun h₂ F₂ N₂ => ?_
        have t2 := hT L cl fn cd fm qual
        have t2l := t2.len
        rw [List.length_map] at t2l
        refine unpackN_ (s := { s with heap := h₂, toks := tk₁ }) F₂ N₂ (N₂.isTup (.head _)) R.hh (by rw [List.size_toArray, t2l, ← hn, len]) (hst _ _ _ _ _ _) fun h₃ F₃ N₃ => ?_
        exact tgts_sound (s := { s with heap := h₃, toks := tk₁ }) nd hk t2 hf ⟨m, news, F₃, fun p hp => N₃ p (.tail _ hp), I₁.nd, I₁.S, I₁.len, I₁.L⟩ r₁ (H.then x₁)
      · rw [hb] at hf; subst hf; exact H.elim
    · subst hf; exact H.elim
-- x, y = f(..)
theorem denS_unpC {ts : List (Bool × Nat)} {elts : List PySem.Expr} {e : PySem.Expr} {k1 : Nat} {tpos pos : Pos} {f : EF} (nd : (X.ns.map (·.1)).Nodup) (hk : X.sc.kind = .function)
    (hT : ∀ L cl fn cd fm qual, Tg C X (envG X.sc L cl fn cd fm qual) ts ((assignEach elts (envG X.sc L cl fn cd fm qual)).map (·.2))) (hst : ∀ L cl fn cd fm qual, (assignEach elts (envG X.sc L cl fn cd fm qual)).findIdx? (·.1) = none)
    (D : Den C X k e f) (hs : ∀ L cl fn cd fm qual, swapsWithSole [.Tuple elts k1 tpos] e pos.line (envG X.sc L cl fn cd fm qual) = pure false)
    (hw : ∀ L cl fn cd fm qual, swappedStores [.Tuple elts k1 tpos] e (envG X.sc L cl fn cd fm qual) = pure none) : DenS C X k (.Assign [.Tuple elts k1 tpos] e pos) (sUnpC ts f) := by
  intro A Ex s h₀ L cl fn cd fm qual fr loc σ ρ r Q hf R T I H
  unfold sUnpC at hf
  split at hf
  · rename_i i σ₁ e1
    split at hf
    · rename_i vs e2
      rcases tgts_len ts vs loc σ₁ with hn | hb
      · refine Assign_Tuple (D e1 R T I fun h₁ tk₁ ρ₁ u x₁ I₁ r₁ => ?_) (hs _ _ _ _ _ _) (hw _ _ _ _ _ _)
        obtain ⟨hi, rfl⟩ := r₁
        obtain ⟨us, n, hu, hv⟩ := I₁.tup hi e2
        obtain ⟨m, news, I₁⟩ := I₁
        have t2 := hT L cl fn cd fm qual
        have t2l := t2.len
        rw [List.length_map] at t2l
        refine unpackN_ (s := { s with heap := h₁, toks := tk₁ }) I₁.F I₁.N (isTup_of hu) R.hh (by rw [List.size_toArray, t2l, ← hn, hv.len]) (hst _ _ _ _ _ _) fun h₃ F₃ N₃ => ?_
        exact tgts_sound (s := { s with heap := h₃, toks := tk₁ }) nd hk t2 hf ⟨m, news, F₃, N₃, I₁.nd, I₁.S, I₁.len, I₁.L⟩ hv (H.then x₁)
      · rw [hb] at hf; subst hf; exact H.elim
    · subst hf; exact H.elim
  · subst hf; exact H.elim
-- x, y = e1, e2, where the compiler keeps the values on its stack
theorem denS_unpS {ts : List (Bool × Nat)} {names : List Str} {elts es : List PySem.Expr} {k1 k2 : Nat} {tpos p pos : Pos} {g : LF} (nd : (X.ns.map (·.1)).Nodup) (hk : X.sc.kind = .function)
    (hT : ∀ L cl fn cd fm qual, Tg C X (envG X.sc L cl fn cd fm qual) ts (names.reverse.map fun n => bindName (envG X.sc L cl fn cd fm qual) n))
    (D : DenL C X k es g) (hs : ∀ L cl fn cd fm qual, swapsWithSole [.Tuple elts k1 tpos] (.Tuple es k2 p) pos.line (envG X.sc L cl fn cd fm qual) = pure false)
    (hw : ∀ L cl fn cd fm qual, swappedStores [.Tuple elts k1 tpos] (.Tuple es k2 p) (envG X.sc L cl fn cd fm qual) = pure (some names)) : DenS C X k (.Assign [.Tuple elts k1 tpos] (.Tuple es k2 p) pos) (sUnpS ts g) := by
  intro A Ex s h₀ L cl fn cd fm qual fr loc σ ρ r Q hf R T I H
  unfold sUnpS at hf
  split at hf
  · subst hf; exact H.elim
  · rename_i vs σ₁ e1
    rw [fL_eq] at hf
    rcases cond_lt hf with ⟨hl, hf⟩ | hf
    · rw [lenV_eq] at hl
      rcases tgts_len ts (revV vs []) loc σ₁ with hn | hb
      · refine Assign_Tuple_swapped (Tuple_ (D e1 R T I fun h₁ tk₁ ρ₁ us x₁ I₁ r₁ => ?_)) (hs _ _ _ _ _ _) (hw _ _ _ _ _ _)
        obtain ⟨m, news, I₁⟩ := I₁
        have len := r₁.len
        refine newTuple_N (s := { s with heap := h₁, toks := tk₁ }) (hsz := by unfold sizeLine; omega) I₁.F I₁.N fun h₂ F₂ N₂ => ?_
        have t2 := hT L cl fn cd fm qual
        have t2l := t2.len
        rw [List.length_map, List.length_reverse] at t2l
        rw [revV_eq, List.append_nil] at hn hf
        rw [List.length_reverse] at hn
        refine unpackItemsN_ (s := { s with heap := h₂, toks := tk₁ }) F₂ N₂ (N₂.isTup (.head _)) R.hh (by rw [List.size_toArray, t2l, ← hn, len]) fun h₃ F₃ N₃ => ?_
        refine tgts_sound (us := us.reverse) (s := { s with heap := h₃, toks := tk₁ }) nd hk t2 hf ⟨m, news, F₃, fun p hp => N₃ p (.tail _ hp), I₁.nd, I₁.S, I₁.len, I₁.L⟩ r₁.rev (H.then x₁)
      · rw [hb] at hf; subst hf; exact H.elim
    · subst hf; exact H.elim
end
end Mine
end

section
namespace Mine
open PySem PySem.W PySem.Spec PySem.Calls PyProof.Rows

-- the ground that a step stands on: all but what the ledger holds
structure Gnd (g h : Heap) (h₀ : Heap) (L : Addr) (fr news : List (Addr × Obj)) : Prop where
  sz : g.objs.size = h.objs.size
  sub : ∀ b o, g.get? b = some o → h.get? b = some o
  all : ∀ b o, h.get? b = some o → b ∉ news.map (·.1) → g.get? b = some o
  no : ∀ p ∈ news, g.get? p.1 = none
theorem gnd_of (h h₀ : Heap) (L : Addr) (fr news : List (Addr × Obj)) : Gnd (hideAll h (news.map (·.1))) h h₀ L fr news :=
  ⟨hideAll_size _ _, fun _ _ e => of_hideAll _ e, fun _ _ e n => hideAll_get _ e n, fun p hp => hideAll_none _ (List.mem_map_of_mem (f := fun x : Addr × Obj => x.1) hp)⟩
section
variable {C : Cx} {X : Sx} {k : Nat}
section
variable {h₀ h g h' : Heap} {L : Addr} {fr : List (Addr × Obj)} {σ σ' : St} {ρ ρ' : Nat → Addr} {m : Str → Option Value} {news news' : List (Addr × Obj)}
theorem Bas.keep (B : Bas h₀ L fr σ ρ h m news) (G : Gnd g h h₀ L fr news) : ∀ b o, h₀.get? b = some o → g.get? b = some o := fun b o e => by
  refine G.all b o (B.F.keep b o e) fun q => ?_
  obtain ⟨p, hp, rfl⟩ := List.mem_map.mp q
  rw [(B.N p (List.mem_append_left _ hp)).2.2] at e; cases e
theorem Bas.back {L' : Addr} {fr' : List (Addr × Obj)} (B : Bas h₀ L fr σ ρ h m news) (G : Gnd g h h₀ L fr news) (hk : ∀ b o, g.get? b = some o → h'.get? b = some o) (N' : News g L' h' (news' ++ fr')) (nd' : ((news' ++ fr').map (·.1)).Nodup) (S' : SR σ'.n ρ' σ'.os news') (len' : σ'.n = σ'.os.length) :
    Bas h₀ L fr σ' ρ' h' m news' := by
  obtain ⟨oL, a1, a2, hL, a3⟩ := B.F.ns
  have nd := B.nd
  rw [List.map_append] at nd
  have z := List.nodup_append.mp nd
  have gL : g.get? L = some oL := G.all _ _ hL fun q => by
    obtain ⟨p, hp, e⟩ := List.mem_map.mp q
    exact (B.N p (List.mem_append_left _ hp)).2.1 e
  have gF : ∀ p ∈ fr, g.get? p.1 = some p.2 := fun p hp => G.all _ _ (B.N p (List.mem_append_right _ hp)).1 fun q => by
    obtain ⟨r, hr, e⟩ := List.mem_map.mp q
    exact z.2.2 r.1 (List.mem_map_of_mem (f := fun x : Addr × Obj => x.1) hr) p.1 (List.mem_map_of_mem (f := fun x : Addr × Obj => x.1) hp) e
  have n' : ∀ p ∈ news', g.get? p.1 = none := fun p hp => (N' p (List.mem_append_left _ hp)).2.2
  refine ⟨⟨⟨oL, a1, a2, hk _ _ gL, a3⟩, fun b o e => hk _ _ (B.keep G b o e), B.F.above⟩, fun p hp => ?_, ?_, S', len'⟩
  · rcases List.mem_append.mp hp with q | q
    · refine ⟨(N' p (List.mem_append_left _ q)).1, fun e => ?_, ?_⟩
      · have := n' p q; rw [e, gL] at this; cases this
      · cases e : h₀.get? p.1 with
        | none => rfl
        | some o => have := B.keep G _ _ e; rw [n' p q] at this; cases this
    · have w := B.N p (List.mem_append_right _ q)
      exact ⟨hk _ _ (gF p q), w.2⟩
  · rw [List.map_append] at nd' ⊢
    have z' := List.nodup_append.mp nd'
    refine List.nodup_append.mpr ⟨z'.1, z.2.1, fun x hx y hy e => ?_⟩
    obtain ⟨p, hp, rfl⟩ := List.mem_map.mp hx
    obtain ⟨q, hq, rfl⟩ := List.mem_map.mp hy
    have a := n' p hp
    rw [e, gF q hq] at a; cases a
end
-- a def's locals at its start
theorem nos_eq (n : Nat) : nos n = List.replicate n .no := by
  induction n with
  | zero => rfl
  | succ n ih => show V.no :: nos n = _; rw [ih]; rfl
theorem nth_append_left (a b : List V) (i : Nat) (h : i < a.length) : nth (a ++ b) i = nth a i := by
  rw [nth_eq, nth_eq, List.getElem?_append_left h]
theorem nth_nos (a : List V) (n i : Nat) (h : a.length ≤ i) : nth (a ++ nos n) i = .no := by
  rw [nth_eq, List.getElem?_append_right h, nos_eq, List.getElem?_replicate]
  split <;> rfl
theorem mkF_eq (np nl : Nat) (cs : List Nat) (f : SF) (vs : List V) (σ : St) : mkF np nl cs f vs σ = (bif Nat.beq (lenV vs) np then mkCells cs (vs ++ nos nl) σ (fun loc σ => (match f loc σ with
  | .bad => .bad
  | .nx _ σ => .ok .nn σ
  | .rt v σ => .ok v σ)) else .bad) := by
  unfold mkF
  rw [fL_eq]
  all_goals rfl
theorem mkF_nil (np nl : Nat) (f : SF) (vs : List V) (σ : St) : mkF np nl [] f vs σ = (bif Nat.beq (lenV vs) np then (match f (vs ++ nos nl) σ with
  | .bad => .bad
  | .nx _ σ => .ok .nn σ
  | .rt v σ => .ok v σ) else .bad) := mkF_eq ..
theorem lookup_rev_zip {x : Str} : ∀ {ps : List Str} {us : List Value} {i : Nat} {u : Value}, ps.Nodup → ps[i]? = some x → us[i]? = some u → ps.length = us.length → (ps.zip us).reverse.lookup x = some u
  | [], _, _, _, _, h, _, _ => by simp at h
  | p :: ps, [], _, _, _, _, _, hl => by simp at hl
  | p :: ps, w :: us, 0, u, nd, h, hu, hl => by
    simp at h hu
    subst h hu
    rw [List.zip_cons_cons, List.reverse_cons, List.lookup_append]
    have : (ps.zip us).reverse.lookup p = none := by
      rw [List.lookup_eq_none_iff]
      intro q hq
      have := List.of_mem_zip (List.mem_reverse.mp hq)
      have : q.1 ≠ p := fun e => (List.nodup_cons.mp nd).1 (e ▸ this.1)
      simpa using fun e => this e.symm
    rw [this]; simp
  | p :: ps, w :: us, i + 1, u, nd, h, hu, hl => by
    rw [List.zip_cons_cons, List.reverse_cons, List.lookup_append, lookup_rev_zip (List.nodup_cons.mp nd).2 (by simpa using h) (by simpa using hu) (by simpa using hl)]
    rfl
-- a def without cells
theorem con_of {np nl : Nat} {d : DefRec} {f : SF} (hd : d ∈ recsOf C.p) (D : DenB C X k d.body f) (hX : X.sc = d.scope) (hns : X.ns = (X.ns.map (·.1)).map fun x => (x, false)) (nd : (X.ns.map (·.1)).Nodup)
    (hp : d.params.args.map (·.arg) = (X.ns.map (·.1)).take np) (hnp : (d.params.args.map (·.arg)).length = np)
    (hb : ∀ pm code doc us, us.length = np → bindArgs (docDef d.name d.params d.body d.scope pm code doc) ⟨us, []⟩ = pure ((d.params.args.map (·.arg)).zip us))
    (hk : d.scope.kind = .function) (hcell : ∀ x ∈ d.scope.names, x.2 ≠ .cell) (hloc : ∀ x ∈ d.params.args.map (·.arg), d.scope.names.lookup x = some .local) (hco : d.scope.isCoroutine = false) (hgen : d.scope.isGenerator = false) : Con C (k + 1) d.name (mkF np nl [] f) := by
  intro A Ex s h₀ L fr σ σ' ρ m news vs us v Q fa hmg hF R T B r H
  obtain ⟨a, o, pm, code, doc, hmg', ho, hdat, hrec⟩ := T.fn d hd
  rw [hmg] at hmg'
  cases hmg'
  rw [mkF_nil] at hF
  obtain ⟨hlen, hF⟩ := cond_tt hF (by intro e; cases e)
  have hlen := Nat.eq_of_beq_eq_true hlen
  rw [lenV_eq] at hlen
  have hul : us.length = np := r.len ▸ hlen
  have G := gnd_of s.heap h₀ L fr news
  have TG : C.Top (hideAll s.heap (news.map (·.1))) := T.keeps (B.keep G)
  refine wpAny_call (codeAny_call_def (fd := docDef d.name d.params d.body d.scope pm code doc) (body := d.body) (binds := (d.params.args.map (·.arg)).zip us) (by have := R.dp; omega) (B.F.keep _ _ ho) hdat (T.nolimit.keeps B.F.keep) (hrec.keeps B.F.keep) rfl (.of_eq (hb pm code doc us hul)) hcell (fun x hx => hloc x.1 (List.of_mem_zip hx).1) (fun h₁ hns₁ hk₁ => ?_) hco hgen hk)
  have I : Inv X [] (hideAll s.heap (news.map (·.1))) s.heap.objs.size [] (vs ++ nos nl) σ ρ h₁ := by
    refine ⟨_, news, ⟨hns₁, fun b o e => hk₁ b o (G.sub b o e), Nat.le_of_eq G.sz⟩, fun p hp => ?_, ?_, B.S, B.len, ?_⟩
    · rw [List.append_nil] at hp
      have w := B.N p (List.mem_append_left _ hp)
      exact ⟨hk₁ _ _ w.1, Nat.ne_of_lt (Heap.lt_size w.1), G.no p hp⟩
    · rw [List.append_nil]
      have nd := B.nd
      rw [List.map_append] at nd
      exact (List.nodup_append.mp nd).1
    · intro i x c hx
      have hx' : (X.ns.map (·.1))[i]? = some x := by rw [List.getElem?_map, hx]; rfl
      have hc : c = false := by
        rw [hns, List.getElem?_map, hx'] at hx
        simp at hx; exact hx
      subst hc
      by_cases hi : i < np
      · right
        obtain ⟨u, hu, hr⟩ := r.get (i := i) (by omega)
        refine ⟨u, ?_, by rw [nth_append_left _ _ _ (by omega)]; exact hr⟩
        refine lookup_rev_zip (i := i) ?_ ?_ hu (by omega)
        · rw [hp]; exact (List.take_sublist _ _).nodup nd
        · rw [hp, List.getElem?_take, if_pos hi]; exact hx'
      · left
        exact nth_nos _ _ _ (by omega)
  have env : callEnv (docDef d.name d.params d.body d.scope pm code doc) s.heap.objs.size fa = envG X.sc s.heap.objs.size [] (some fa) code (some s.heap.objs.size) (d.name ++ ".<locals>.") := by rw [hX]; rfl
  rw [env]
  refine D (s := { s with heap := h₁, toks := s.toks + ((d.params.args.map (·.arg)).zip us).length }) rfl (R.deeper _) TG I ?_
  cases e : f (vs ++ nos nl) σ with
  | bad => rw [e] at hF; cases hF
  | nx loc' σ₁ =>
    rw [e] at hF
    cases hF
    intro h' tk' ρ' x' I'
    obtain ⟨m', news', I'⟩ := I'
    exact H h' tk' ρ' news' .none x' (B.back G I'.F.keep I'.N I'.nd I'.S I'.len) rfl
  | rt w σ₁ =>
    rw [e] at hF
    cases hF
    intro h' tk' ρ' u m' news' x' B' hr
    exact H h' tk' ρ' news' u x' (B.back G B'.F.keep B'.N B'.nd B'.S B'.len) hr
end
end Mine
end

section
namespace Mine
open PySem PySem.W PySem.Spec PySem.Calls PyProof.Rows

section
variable {C : Cx} {X : Sx} {k : Nat}
theorem Inv.turn2 {cl : List (Str × Addr)} {h₀ h h' : Heap} {L : Addr} {fr : List (Addr × Obj)} {loc : List V} {σ : St} {ρ : Nat → Addr} {a b : Addr} {oa ob oa' ob' : Obj} (I : Inv X cl h₀ L ((a, oa) :: (b, ob) :: fr) loc σ ρ h)
    (hs : ∀ c o, c ≠ a → c ≠ b → h.get? c = some o → h'.get? c = some o) (ha : h'.get? a = some oa') (hb : h'.get? b = some ob') : Inv X cl h₀ L ((a, oa') :: (b, ob') :: fr) loc σ ρ h' := by
  obtain ⟨m, news, I⟩ := I
  have pa := I.N (a, oa) (List.mem_append_right _ (.head _))
  have pb := I.N (b, ob) (List.mem_append_right _ (.tail _ (.head _)))
  have nd := I.nd
  have nd0 := nd
  rw [List.map_append, List.map_cons, List.map_cons] at nd
  have z := List.nodup_append.mp nd
  have z1 := List.nodup_cons.mp z.2.1
  have z2 := List.nodup_cons.mp z1.2
  have na : ∀ q ∈ news ++ fr, q.1 ≠ a := fun q hq e => by
    rcases List.mem_append.mp hq with hq | hq
    · exact z.2.2 q.1 (List.mem_map_of_mem (f := fun x : Addr × Obj => x.1) hq) a (List.mem_cons_self ..) e
    · exact z1.1 (.tail _ (by have := List.mem_map_of_mem (f := fun x : Addr × Obj => x.1) hq; rw [e] at this; exact this))
  have nb : ∀ q ∈ news ++ fr, q.1 ≠ b := fun q hq e => by
    rcases List.mem_append.mp hq with hq | hq
    · exact z.2.2 q.1 (List.mem_map_of_mem (f := fun x : Addr × Obj => x.1) hq) b (.tail _ (.head _)) e
    · exact z2.1 (by have := List.mem_map_of_mem (f := fun x : Addr × Obj => x.1) hq; rw [e] at this; exact this)
  obtain ⟨oL, a1, a2, hL, a3⟩ := I.F.ns
  refine ⟨m, news, ⟨⟨oL, a1, a2, hs _ _ (Ne.symm pa.2.1) (Ne.symm pb.2.1) hL, a3⟩, fun c o e => hs c o (fun q => ?_) (fun q => ?_) (I.F.keep c o e), I.F.above⟩, fun q hq => ?_, ?_, I.S, I.len, I.L⟩
  · rw [q, pa.2.2] at e; cases e
  · rw [q, pb.2.2] at e; cases e
  · have : q = (a, oa') ∨ q = (b, ob') ∨ q ∈ news ++ fr := by
      rcases List.mem_append.mp hq with h | h
      · exact .inr (.inr (List.mem_append_left _ h))
      · rcases List.mem_cons.mp h with h | h
        · exact .inl h
        · rcases List.mem_cons.mp h with h | h
          · exact .inr (.inl h)
          · exact .inr (.inr (List.mem_append_right _ h))
    rcases this with rfl | rfl | hq
    · exact ⟨ha, pa.2⟩
    · exact ⟨hb, pb.2⟩
    · have hq' : q ∈ news ++ (a, oa) :: (b, ob) :: fr := by
        rcases List.mem_append.mp hq with h | h
        · exact List.mem_append_left _ h
        · exact List.mem_append_right _ (.tail _ (.tail _ h))
      exact ⟨hs _ _ (na q hq) (nb q hq) (I.N q hq').1, (I.N q hq').2⟩
  · rw [List.map_append, List.map_cons, List.map_cons] at nd0 ⊢
    exact nd0
theorem Inv.pushF2 {cl : List (Str × Addr)} {h₀ h h' : Heap} {L : Addr} {fr : List (Addr × Obj)} {loc : List V} {σ : St} {ρ : Nat → Addr} {a b : Addr} {oa ob : Obj} (I : Inv X cl h₀ L fr loc σ ρ h) (hk : ∀ b o, h.get? b = some o → h'.get? b = some o) (hab : a ≠ b)
    (ha : h.get? a = none) (hb : h.get? b = none) (ho : h'.get? a = some oa) (ho' : h'.get? b = some ob) : Inv X cl h₀ L ((a, oa) :: (b, ob) :: fr) loc σ ρ h' := by
  obtain ⟨m, news, I⟩ := I
  have hna := not_mem_fst I.N ha
  have hnb := not_mem_fst I.N hb
  obtain ⟨oL, a1, a2, hL, a3⟩ := I.F.ns
  have key : ∀ c oc, h.get? c = none → h'.get? c = some oc → h'.get? c = some oc ∧ c ≠ L ∧ h₀.get? c = none := fun c oc hc hc' => by
    refine ⟨hc', ?_, ?_⟩
    · rintro rfl; rw [hc] at hL; cases hL
    · cases q : h₀.get? c with
      | none => rfl
      | some o' => have := I.F.keep _ _ q; rw [hc] at this; cases this
  refine ⟨m, news, I.F.grownK hk, ?_, ?_, I.S, I.len, I.L⟩
  · intro q hq
    have : q = (a, oa) ∨ q = (b, ob) ∨ q ∈ news ++ fr := by
      rcases List.mem_append.mp hq with h | h
      · exact .inr (.inr (List.mem_append_left _ h))
      · rcases List.mem_cons.mp h with h | h
        · exact .inl h
        · rcases List.mem_cons.mp h with h | h
          · exact .inr (.inl h)
          · exact .inr (.inr (List.mem_append_right _ h))
    rcases this with rfl | rfl | hq
    · exact key a oa ha ho
    · exact key b ob hb ho'
    · exact ⟨hk _ _ (I.N q hq).1, (I.N q hq).2⟩
  · have nd := I.nd
    rw [List.map_append] at nd hna hnb ⊢
    rw [List.map_cons, List.map_cons]
    have z := List.nodup_append.mp nd
    have na1 : a ∉ news.map (·.1) := fun q => hna (List.mem_append_left _ q)
    have na2 : a ∉ fr.map (·.1) := fun q => hna (List.mem_append_right _ q)
    have nb1 : b ∉ news.map (·.1) := fun q => hnb (List.mem_append_left _ q)
    have nb2 : b ∉ fr.map (·.1) := fun q => hnb (List.mem_append_right _ q)
    refine List.nodup_append.mpr ⟨z.1, List.nodup_cons.mpr ⟨?_, List.nodup_cons.mpr ⟨nb2, z.2.1⟩⟩, fun x hx y hy e => ?_⟩
    · intro q
      rcases List.mem_cons.mp q with q | q
      · exact hab q
      · exact na2 q
    · subst e
      rcases List.mem_cons.mp hy with rfl | hy
      · exact na1 hx
      · rcases List.mem_cons.mp hy with rfl | hy
        · exact nb1 hx
        · exact z.2.2 x hx x hy rfl
theorem goE_zero (xi x j : Nat) (f : SF) (i : Nat) (loc : List V) (σ : St) : goE xi x j f 0 i loc σ = .bad := rfl
theorem goE_succ (xi x j : Nat) (f : SF) (n i : Nat) (loc : List V) (σ : St) : goE xi x j f (n + 1) i loc σ = (match get σ j with
  | .li vs => bif nlt i (lenV vs) then (match tgts [(false, xi), (false, x)] [.it (.ofNat i), nth vs i] loc σ with
    | .nx loc σ => (match f loc σ with
      | .nx loc σ => goE xi x j f n (Nat.succ i) loc σ
      | r => r)
    | r => r) else .nx loc σ
  | _ => .bad) := rfl
theorem tgts_not_rt : ∀ {ts : List (Bool × Nat)} {vs loc : List V} {σ σ' : St} {w : V}, tgts ts vs loc σ = .rt w σ' → False
  | [], [], _, _, _, _, h => by cases h
  | [], _ :: _, _, _, _, _, h => by cases h
  | _ :: _, [], _, _, _, _, h => by cases h
  | t :: ts, v :: vs, loc, σ, _, _, h => by
    rw [tgts_cons] at h
    simp only at h
    cases e : tgt t.1 t.2 v loc σ with
    | bad => rw [e] at h; cases h
    | rt w σ' => exact tgt_not_rt e
    | nx loc' σ' => rw [e] at h; exact tgts_not_rt h
theorem denS_enum {xi xv : Str} {pi pv tpos p cpos pos : Pos} {k1 ni nv : Nat} {e : PySem.Expr} {b : List PySem.Stmt} {g : EF} {f : SF} (hmg : C.mg ("enumerate" : Str) = none) (nd : (X.ns.map (·.1)).Nodup) (hk : X.sc.kind = .function) (hx : X.sc.names.lookup ("enumerate" : Str) = some NameKind.globalImplicit)
    (S1 : Slot' X false ni xi) (S2 : Slot' X false nv xv) (hst : isStarred e = false) (D0 : Den C X k e g) (D1 : DenB C X k b f) :
    DenS C X k (.For (.Tuple [.Name xi pi, .Name xv pv] k1 tpos) (.Call (.Name "enumerate" p) [e] [] cpos) b [] pos) (sForE ni nv g f) := by
  intro A Ex s h₀ L cl fn cd fm qual fr loc σ ρ r Q hf R T I H
  unfold sForE at hf
  split at hf
  case h_2 => subst hf; exact H.elim
  rename_i j σ₁ e1
  split at hf
  case h_2 => subst hf; exact H.elim
  rename_i vs e2
  have FK : ∀ b o, h₀.get? b = some o → s.heap.get? b = some o := by obtain ⟨m, news, I⟩ := I; exact I.F.keep
  refine wpAny_For (Call_ (Name_function_global hk hx (loadGlobal_builtin (T.g.keeps FK) hmg (T.b.keeps FK) ((T.builtins _ (by decide)).trans (by decide +kernel : bootBuiltins ("enumerate" : Str) = some (.type "enumerate"))) ?_) (by decide)) rfl) (by intro _; rfl)
  refine callWith_of (P := fun _ => True) (by rw [noStars (by simp [hst])]; rfl) (keep_machine (by intro a e; cases e)) ?_
  have e1' : lCons g lNil loc σ = .ok [.rf j] σ₁ := by unfold lCons; rw [e1]; rfl
  rw [starEach_plain hst]
  refine evalArgs_plain ?_
  have w := denL_cons D0 (denL_nil (C := C) (X := X) (k := k)) hst (pos := cpos) (cl := cl) (fn := fn) (cd := cd) (fm := fm) (qual := qual) (Ex := Ex) (s := s) (Q := fun vs s' => True ∧ wpAny (model C.prog C.w) A (call (.type "enumerate") ([] ++ vs)) (fun x s₁ => wpAny (model C.prog C.w) A (pyIter x) (fun it s₂ => codeAny (model C.prog C.w) A (.forLoop (.Tuple [.Name xi pi, .Name xv pv] k1 tpos) it b [] (envG X.sc L cl fn cd fm qual)) (fun r s' => match r with | .ok f => Q f s' | .error e => cameBackBy (model C.prog C.w) A (envG X.sc L cl fn cd fm qual) Ex e s') s₂) Ex s₁) Ex s') e1' R T I fun h₁ tk₁ ρ₁ us x₁ I₁ r₁ => ⟨trivial, ?_⟩
  · rw [starEach_plain hst] at w
    exact w
  obtain ⟨u, rfl, hu⟩ := r₁.one
  obtain ⟨hj, rfl⟩ := hu
  obtain ⟨ls, n, hl, hls⟩ := I₁.list hj e2
  refine call_enumerate_1 (s := { s with heap := h₁, toks := tk₁ }) hl fun h₂ he hit hz hkp => ?_
  refine wpAny_pyIter_enum (s := { s with heap := h₂, toks := tk₁ }) he ?_
  obtain ⟨itob, hito, hitc, hitd⟩ := hit
  have nE : h₁.objs.size + 1 ≠ h₁.objs.size := Nat.succ_ne_self _
  have none1 : h₁.get? (h₁.objs.size + 1) = none := by
    cases q : h₁.get? (h₁.objs.size + 1) with
    | none => rfl
    | some o => exact absurd (Heap.lt_size q) (Nat.not_lt.mpr (Nat.le_succ _))
  have I₂ := I₁.pushF2 hkp nE none1 (get_size _) he hito
  refine codeAny_forLoop_any (fun m s' => ∃ h' tk' ρ' loc' σ' i old ob', s' = { s with heap := h', toks := tk' } ∧ Ext σ.n ρ σ'.n ρ' ∧ ρ' j = ρ₁ j ∧ j < σ'.n ∧
    Inv X cl h₀ L ((h₁.objs.size + 1, { cls := .type "enumerate", dict := none, data := .fields #[.none, .bool false, .ref h₁.objs.size, rawInt ((i : Nat) : Int), .none, old], slots := #[] }) :: (h₁.objs.size, ob') :: fr) loc' σ' ρ' h' ∧
    ob'.cls = .type "list_iterator" ∧ ob'.data = .fields #[.ref (ρ₁ j), .int i 0] ∧ goE ni nv j f m i loc' σ' = r) ?_ 100000 ⟨h₂, tk₁, ρ₁, loc, σ₁, 0, .none, itob, rfl, x₁, rfl, hj, I₂, hitc, hitd, hf⟩
  rintro m s' ⟨h₃, tk₃, ρ₃, loc₃, σ₃, i, old, ob₃, rfl, x₃, ej, hj₃, I₃, hc₃, hd₃, hw⟩
  cases m with
  | zero => rw [goE_zero] at hw; subst hw; exact H.elim
  | succ m =>
    rw [goE_succ] at hw
    cases e3 : get σ₃ j with
    | tu ws => rw [e3] at hw; subst hw; exact H.elim
    | ce w => rw [e3] at hw; subst hw; exact H.elim
    | fz ws ob => rw [e3] at hw; subst hw; exact H.elim
    | li ws =>
      rw [e3] at hw
      dsimp only at hw
      obtain ⟨ms, n₃, hm, hms⟩ := I₃.list hj₃ e3
      rw [ej] at hm
      have heE : h₃.get? (h₁.objs.size + 1) = _ := I₃.getF (p := (h₁.objs.size + 1, _)) (.head _)
      have heI : h₃.get? h₁.objs.size = some ob₃ := I₃.getF (p := (h₁.objs.size, ob₃)) (.tail _ (.head _))
      have hit₃ : h₃.IsListIter h₁.objs.size (ρ₁ j) i := ⟨ob₃, heI, hc₃, hd₃⟩
      cases q : nlt i (lenV ws) with
      | false =>
        rw [q, cond_false] at hw
        subst hw
        have le : ms.length ≤ i := by
          rw [← hms.len, ← lenV_eq]
          apply Nat.le_of_not_lt
          intro lt
          rw [nlt_iff.mpr lt] at q; cases q
        refine wpAny_pyNext_enum_end (s := { s with heap := h₃, toks := tk₃ }) R.hh heE hit₃ (isList_of hm) (by simpa using le) fun h' hs => wpAny_execs_nil ?_
        exact H h' tk₃ ρ₃ x₃ ((I₃.dropF (fun _ _ _ e => e)).dropF hs)
      | true =>
        rw [q, cond_true] at hw
        have lt : i < ws.length := lenV_eq ws ▸ nlt_iff.mp q
        obtain ⟨u, eu, hr⟩ := hms.get lt
        refine wpAny_pyNext_enum_item (s := { s with heap := h₃, toks := tk₃ }) heE hit₃ (isList_of hm) (by simpa using eu) nE fun h₄ heo hit₄ ht₄ hz₄ hk₄ => ?_
        refine wpAny_letOwnedTupleGo_enum heo fun h₅ he₅ hs₅ => ?_
        obtain ⟨ob₅, ho₅, hc₅, hd₅⟩ := hit₄
        have ltE : h₁.objs.size + 1 < h₃.objs.size := Heap.lt_size heE
        have I₅ := I₃.turn2 (h' := h₅) (fun c o h1 h2 e => (hs₅.2 c h1).trans (hk₄ c o h1 h2 e)) he₅ ((hs₅.2 _ (Ne.symm nE)).trans ho₅)
        have ht₅ : IsTup h₅ h₃.objs.size #[.int i tk₃, u] := ⟨_, (hs₅.2 _ (Nat.ne_of_gt ltE)).trans ht₄, rfl, _, rfl⟩
        have t2 : Tg C X (envG X.sc L cl fn cd fm qual) [(false, ni), (false, nv)] ((assignEach [.Name xi pi, .Name xv pv] (envG X.sc L cl fn cd fm qual)).map (·.2)) := .cons S1 stO_assign (.cons S2 stO_assign .nil)
        obtain ⟨m₅, news₅, B₅⟩ := I₅
        cases e4 : tgts [(false, ni), (false, nv)] [.it (.ofNat i), nth ws i] loc₃ σ₃ with
        | bad => rw [e4] at hw; subst hw; exact H.elim
        | rt w σ' => exact (tgts_not_rt e4).elim
        | nx loc₆ σ₆ =>
          rw [e4] at hw
          dsimp only at hw
          refine unpackN_ (s := { s with heap := h₅, toks := tk₃ + 1 }) B₅.F B₅.N ht₅ R.hh rfl rfl fun h₆ F₆ N₆ => ?_
          have I₆ : Inv X cl h₀ L _ loc₃ σ₃ ρ₃ h₆ := ⟨m₅, news₅, F₆, N₆, B₅.nd, B₅.S, B₅.len, B₅.L⟩
          refine tgts_sound (Q := fun _ s₂ => wpAny (model C.prog C.w) A (execs b (envG X.sc L cl fn cd fm qual)) _ _ s₂) (s := { s with heap := h₆, toks := tk₃ + 1 }) (us := [.int i tk₃, u]) nd hk t2 e4 I₆ ⟨⟨tk₃, rfl⟩, hr, trivial⟩ fun h₇ tk₇ ρ₇ x₇ I₇ => ?_
          refine D1 (s := { s with heap := h₇, toks := tk₇ }) rfl R T I₇ ?_
          cases e5 : f loc₆ σ₆ with
          | bad => rw [e5] at hw; subst hw; exact H.elim
          | nx loc₈ σ₈ =>
            rw [e5] at hw
            dsimp only at hw
            intro h₈ tk₈ ρ₈ x₈ I₈
            have ej8 : ρ₈ j = ρ₁ j := by rw [x₈.eq j (Nat.lt_of_lt_of_le hj₃ x₇.le), x₇.eq j hj₃, ej]
            exact ⟨m, Nat.lt_succ_self _, h₈, tk₈, ρ₈, loc₈, σ₈, i + 1, _, ob₅, rfl, (x₃.trans x₇).trans x₈, ej8, Nat.lt_of_lt_of_le (Nat.lt_of_lt_of_le hj₃ x₇.le) x₈.le, I₈, hc₅, hd₅, hw⟩
          | rt w σ₈ =>
            rw [e5] at hw
            dsimp only at hw
            subst hw
            intro h₈ tk₈ ρ₈ u' m' news' x₈ B hr'
            exact H h₈ tk₈ ρ₈ u' m' news' ((x₃.trans x₇).trans x₈) B.dropF.dropF hr'
end
end Mine
end

section
namespace Mine
open PySem PySem.W PySem.Spec PySem.Calls PyProof.Rows

section
variable {C : Cx} {X X' : Sx} {k : Nat}
def relS (scope sc : Scope) : Scope :=
  { scope with names := scope.names.map fun (n, k) => if (k == .free && sc.kind == .function && sc.names.lookup n == some .cell) then (n, .cell) else (n, k) }
-- what a block closes over
theorem closure_is {env : Env} : ∀ (names : List (Str × NameKind)) (acc : List (Str × Addr)), (∀ y ∈ names, y.2 = .free → ∃ a, env.cells.lookup y.1 = some a) → (∀ n a, acc.lookup n = some a → env.cells.lookup n = some a) →
    ∃ r, (forIn names acc fun (x : Str × NameKind) (cs : List (Str × Addr)) => (if (x.2 == NameKind.free) = true then do let a ← cellOf env x.1; pure (ForInStep.yield ((x.1, a) :: cs)) else pure (ForInStep.yield cs) : Sem (ForInStep (List (Str × Addr))))) = pure r ∧
      (∀ n a, r.lookup n = some a → env.cells.lookup n = some a) ∧ (∀ n, (acc.lookup n).isSome = true → (r.lookup n).isSome = true) ∧ ∀ y ∈ names, y.2 = .free → (r.lookup y.1).isSome = true
  | [], acc, _, h => ⟨acc, rfl, h, fun _ h => h, fun _ h => nomatch h⟩
  | (n, kd) :: names, acc, hf, h => by
    rw [List.forIn_cons]
    by_cases e : kd = .free
    · subst e
      obtain ⟨a, ha⟩ := hf (n, .free) (.head _) rfl
      have e1 : cellOf env n = pure a := by unfold cellOf; rw [ha]
      obtain ⟨r, e2, h1, h2, h3⟩ := closure_is names ((n, a) :: acc) (fun y hy => hf y (.tail _ hy)) (fun n' a' hl => by
        rw [List.lookup_cons] at hl
        split at hl
        · rename_i q
          cases hl
          rw [beq_iff_eq.mp q]; exact ha
        · exact h n' a' hl)
      refine ⟨r, ?_, h1, fun n' hn => h2 n' ?_, fun y hy hk => ?_⟩
      · simp only [beq_self_eq_true, if_true, e1]
        exact e2
      · rw [List.lookup_cons]
        split
        · rfl
        · exact hn
      · rcases List.mem_cons.mp hy with rfl | hy
        · exact h2 n (by rw [List.lookup_cons_self]; rfl)
        · exact h3 y hy hk
    · have eb : (kd == NameKind.free) = false := by simpa using e
      obtain ⟨r, e2, h1, h2, h3⟩ := closure_is names acc (fun y hy => hf y (.tail _ hy)) h
      refine ⟨r, ?_, h1, h2, fun y hy hk => ?_⟩
      · simp only [eb, Bool.false_eq_true, if_false]
        exact e2
      · rcases List.mem_cons.mp hy with rfl | hy
        · exact absurd hk e
        · exact h3 y hy hk
theorem closureFor_is {env : Env} {scope : Scope} (hf : ∀ y ∈ scope.names, y.2 = .free → ∃ a, env.cells.lookup y.1 = some a) : ∃ r, closureFor scope env = pure r ∧ ∀ y ∈ scope.names, y.2 = .free → r.lookup y.1 = env.cells.lookup y.1 := by
  obtain ⟨r, e, h1, _, h3⟩ := closure_is (env := env) scope.names [] hf (fun n a h => by cases h)
  refine ⟨r, ?_, fun y hy hk => ?_⟩
  · unfold closureFor
    exact congrArg (fun t : Sem (List (Str × Addr)) => t >>= fun cs => pure cs) e
  · have := h3 y hy hk
    cases q : r.lookup y.1 with
    | none => rw [q] at this; cases this
    | some a => exact (h1 _ _ q).symm
theorem Bas.backX {h₀ h g h' : Heap} {L L' : Addr} {ex fr fr' : List (Addr × Obj)} {σ σ' : St} {ρ ρ' : Nat → Addr} {m : Str → Option Value} {news news' : List (Addr × Obj)} (B : Bas h₀ L (ex ++ fr) σ ρ h m news) (G : Gnd g h h₀ L fr (news ++ ex)) (hk : ∀ b o, g.get? b = some o → h'.get? b = some o)
    (N' : News g L' h' (news' ++ fr')) (nd' : ((news' ++ fr').map (·.1)).Nodup) (S' : SR σ'.n ρ' σ'.os news') (len' : σ'.n = σ'.os.length) : Bas h₀ L fr σ' ρ' h' m news' := by
  have N0 : News h₀ L h ((news ++ ex) ++ fr) := by rw [List.append_assoc]; exact B.N
  have nd0 : (((news ++ ex) ++ fr).map (·.1)).Nodup := by rw [List.append_assoc]; exact B.nd
  have kp : ∀ b o, h₀.get? b = some o → g.get? b = some o := fun b o e => by
    refine G.all b o (B.F.keep b o e) fun q => ?_
    obtain ⟨p, hp, rfl⟩ := List.mem_map.mp q
    rw [(N0 p (List.mem_append_left _ hp)).2.2] at e; cases e
  obtain ⟨oL, a1, a2, hL, a3⟩ := B.F.ns
  rw [List.map_append] at nd0
  have z := List.nodup_append.mp nd0
  have gL : g.get? L = some oL := G.all _ _ hL fun q => by
    obtain ⟨p, hp, e⟩ := List.mem_map.mp q
    exact (N0 p (List.mem_append_left _ hp)).2.1 e
  have gF : ∀ p ∈ fr, g.get? p.1 = some p.2 := fun p hp => G.all _ _ (N0 p (List.mem_append_right _ hp)).1 fun q => by
    obtain ⟨r, hr, e⟩ := List.mem_map.mp q
    exact z.2.2 r.1 (List.mem_map_of_mem (f := fun x : Addr × Obj => x.1) hr) p.1 (List.mem_map_of_mem (f := fun x : Addr × Obj => x.1) hp) e
  have n' : ∀ p ∈ news', g.get? p.1 = none := fun p hp => (N' p (List.mem_append_left _ hp)).2.2
  refine ⟨⟨⟨oL, a1, a2, hk _ _ gL, a3⟩, fun b o e => hk _ _ (kp b o e), B.F.above⟩, fun p hp => ?_, ?_, S', len'⟩
  · rcases List.mem_append.mp hp with q | q
    · refine ⟨(N' p (List.mem_append_left _ q)).1, fun e => ?_, ?_⟩
      · have := n' p q; rw [e, gL] at this; cases this
      · cases e : h₀.get? p.1 with
        | none => rfl
        | some o => have := kp _ _ e; rw [n' p q] at this; cases this
    · have w := N0 p (List.mem_append_right _ q)
      exact ⟨hk _ _ (gF p q), w.2⟩
  · rw [List.map_append] at nd' ⊢
    have z' := List.nodup_append.mp nd'
    refine List.nodup_append.mpr ⟨z'.1, z.2.1, fun x hx y hy e => ?_⟩
    obtain ⟨p, hp, rfl⟩ := List.mem_map.mp hx
    obtain ⟨q, hq, rfl⟩ := List.mem_map.mp hy
    have a := n' p hp
    rw [e, gF q hq] at a; cases a
theorem cgI_zero (f : EF) (cs : List V) (j : It) (σ : St) : cgI f cs 0 j σ = .bad := rfl
theorem cgI_succ (f : EF) (cs : List V) (n : Nat) (j : It) (σ : St) : cgI f cs (n + 1) j σ = (match nextI j σ with
  | .bad => .bad
  | .stop => .ok [] σ
  | .item v j => fV v fun v => (match f (v :: cs) σ with
    | .bad => .bad
    | .ok v σ => fV v fun v => fIt j fun j => (match cgI f cs n j σ with
      | .bad => .bad
      | .ok vs σ => .ok (v :: vs) σ))) := rfl
theorem cgI_len (f : EF) (cs : List V) : ∀ (n : Nat) {j : It} {σ σ' : St} {vs : List V}, cgI f cs n j σ = .ok vs σ' → vs.length < n
  | 0, _, _, _, _, h => by rw [cgI_zero] at h; cases h
  | n + 1, j, σ, σ', vs, h => by
    rw [cgI_succ] at h
    cases e : nextI j σ with
    | bad => rw [e] at h; cases h
    | stop => rw [e] at h; cases h; exact Nat.succ_pos _
    | item v j' =>
      rw [e] at h
      dsimp only at h
      rw [fV_eq] at h
      split at h
      · cases h
      · rw [fV_eq, fIt_eq] at h
        split at h
        · cases h
        · rename_i e'
          cases h
          have := cgI_len f cs n e'
          simpa using this
theorem caps_eq (ns : List Nat) (loc : List V) : caps ns loc = ns.map (nth loc) := by
  induction ns with
  | nil => rfl
  | cons n ns ih => show nth loc n :: caps ns loc = _; rw [ih]; rfl
-- the block's turns
theorem comp_turns {elt iter : PySem.Expr} {x : Str} {px pos : Pos} {scope : Scope} {f : EF} (hk' : X'.sc.kind = .function) (hx : X'.sc.names.lookup x = some .local) (nd' : (X'.ns.map (·.1)).Nodup) (hx0 : X'.ns[0]? = some (x, false)) (D : Den C X' k elt f)
    {A : Around} {s : Shared} {g : Heap} {Cn : Addr} {cl : List (Str × Addr)} {fn : Option Addr} {cd : Value} {fm : Option Addr} {qual : Str} {cs : List V} {σ σE : St} {ρ : Nat → Addr} {a Dd : Addr} {RR : Result → Shared → Prop} {vsE : List V} (R : Room A k) (T : C.Top g) (hsz : vsE.length < 100000)
    (H : ∀ h' tk' ρ' w us n, Ext σ.n ρ σE.n ρ' → Inv X' cl g Cn [(Dd, listOf (List.toArray us) n)] (w :: cs) σE ρ' h' → VsR σE.n ρ' vsE us → RR (.ok .next) { s with heap := h', toks := tk' })
    {j : It} {ob : Obj} {m : Nat} (I : Inv X' cl g Cn [(a, ob), (Dd, listOf #[] 0)] (.no :: cs) σ ρ s.heap) (J : ItR σ.n ρ j ob) (hc : cgI f cs m j σ = .ok vsE σE) :
    codeAny (model C.prog C.w) A (.compLoop (.ListComp elt [⟨.Name x px, iter, [], 0⟩] scope pos) 0 (.ref a) (.ref Dd) (envG X'.sc Cn cl fn cd fm qual)) RR s := by
  refine codeAny_compLoop_list (fun m s' => ∃ h' tk' ρ' σ' j' ob' w us n ys rest, s' = { s with heap := h', toks := tk' } ∧ Ext σ.n ρ σ'.n ρ' ∧ Inv X' cl g Cn [(a, ob'), (Dd, listOf (List.toArray us) n)] (w :: cs) σ' ρ' h' ∧ ItR σ'.n ρ' j' ob' ∧
    VsR σ'.n ρ' ys us ∧ cgI f cs m j' σ' = .ok rest σE ∧ ys ++ rest = vsE) ?_ m ⟨s.heap, s.toks, ρ, σ, j, ob, .no, [], 0, [], vsE, rfl, Ext.rfl, I, J, trivial, hc, rfl⟩
  rintro m s' ⟨h₁, tk₁, ρ₁, σ₁, j₁, ob₁, w, us, n, ys, rest, rfl, x₁, I₁, J₁, hys, hcg, happ⟩
  cases m with
  | zero => rw [cgI_zero] at hcg; cases hcg
  | succ m =>
    rw [cgI_succ] at hcg
    refine next_sound (k := k) (s := { s with heap := h₁, toks := tk₁ }) R I₁ J₁ ?_
    cases e1 : nextI j₁ σ₁ with
    | bad => rw [e1] at hcg; cases hcg
    | stop =>
      rw [e1] at hcg
      cases hcg
      intro h' I'
      rw [List.append_nil] at happ
      subst happ
      exact H h' tk₁ ρ₁ w us n x₁ I' hys
    | item v j₂ =>
      rw [e1] at hcg
      dsimp only at hcg
      rw [fV_eq] at hcg
      intro h₂ tk₂ ob₂ u hr I₂ J₂
      split at hcg
      · cases hcg
      · rename_i y σ₃ e3
        rw [fV_eq, fIt_eq] at hcg
        split at hcg
        · cases hcg
        · rename_i rest' σ₄ e4
          cases hcg
          have et : tgt false 0 v (w :: cs) σ₁ = .nx (v :: cs) σ₁ := by
            show fV v (fun v => put (w :: cs) 0 v fun loc => RS.nx loc σ₁) = _
            rw [fV_eq]; rfl
          refine wpAny_assign_Name (tgt_nx (C := C) (X := X') (s := { s with heap := h₂, toks := tk₂ }) nd' hk' (S := ⟨hx0, hx⟩) et I₂ hr fun h₃ tk₃ ρ₃ x₃ I₃ => ?_)
          refine D (s := { s with heap := h₃, toks := tk₃ }) e3 R T I₃ fun h₄ tk₄ ρ₄ u₄ x₄ I₄ r₄ => ?_
          have hD : h₄.get? Dd = some (listOf (List.toArray us) n) := I₄.getF (p := (Dd, _)) (.tail _ (.head _))
          have hys' := (hys.mono x₃).mono x₄
          have hl : us.length ≤ sizeLine := by
            have := hys.len
            have : ys.length ≤ vsE.length := by rw [← happ]; simp
            unfold sizeLine; omega
          have ha : h₄.get? a = some ob₂ := I₄.getF (p := (a, _)) (.head _)
          have hne : a ≠ Dd := by
            obtain ⟨m4, news4, B⟩ := I₄
            have nd := B.nd
            rw [List.map_append] at nd
            have := (List.nodup_append.mp nd).2.1
            intro e
            exact (List.nodup_cons.mp this).1 (by rw [e]; exact .head _)
          refine append_at (s := { s with heap := h₄, toks := tk₄ }) (hsz := by rw [List.size_toArray]; exact hl) hD fun h₅ hs₅ ho₅ => ?_
          refine ⟨m, Nat.lt_succ_self _, h₅, tk₄, ρ₄, σ₃, j₂, ob₂, v, us ++ [u₄], n + 1, ys ++ [y], rest', rfl, (x₁.trans x₃).trans x₄, ?_, (J₂.mono x₃).mono x₄, hys'.app ⟨r₄, trivial⟩, e4, by rw [List.append_assoc]; exact happ⟩
          refine I₄.turn2 (fun c o h1 h2 e => (hs₅.2 c h2).trans e) ((hs₅.2 a hne).trans ha) ?_
          rw [ho₅, List.push_toArray]
end
end Mine
end

section
namespace Mine
open PySem PySem.W PySem.Spec PySem.Calls PyProof.Rows

section
variable {C : Cx} {X X' : Sx} {k : Nat}
theorem iter_self {A : Around} {Ex : Value → Shared → Prop} {s : Shared} {N : Nat} {ρ : Nat → Addr} {j : It} {a : Addr} {ob : Obj} {Q : Value → Shared → Prop} (ho : s.heap.get? a = some ob) (J : ItR N ρ j ob) (h : Q (.ref a) s) :
    wpAny (model C.prog C.w) A (pyIter (.ref a)) Q Ex s := by
  cases j with
  | rg i st n =>
    have J : ob = _ := J
    subst J
    exact wpAny_pyIter_rangeiter ho h
  | ls j i => exact wpAny_pyIter_listiter (i := i) ⟨ob, ho, J.2.1, J.2.2⟩ h
  | ts j i => exact wpAny_pyIter_tupleiter (i := i) ⟨ob, ho, J.2.1, J.2.2⟩ h
theorem comp_core {elt iter : PySem.Expr} {x : Str} {px pos : Pos} {scope : Scope} {f : EF} {ns : List Nat} {cn : List Str} (hX' : X'.sc = relS scope X.sc) (hns : X'.ns = (x, false) :: cn.map fun y => (y, true)) (nd' : (X'.ns.map (·.1)).Nodup)
    (hcap : ∀ (i : Nat) (y : Str), cn[i]? = some y → ∃ n : Nat, ns[i]? = some n ∧ X.ns[n]? = some (y, true)) (hlen : ns.length = cn.length) (hkind : scope.kind = .function) (hcell : ∀ y ∈ scope.names, y.2 ≠ .cell) (hx : X'.sc.names.lookup x = some .local) (D : Den C X' k elt f)
    {A : Around} {Ex : Value → Shared → Prop} {s : Shared} {h₀ : Heap} {L : Addr} {cl cl' : List (Str × Addr)} {fn : Option Addr} {cd : Value} {fm : Option Addr} {qual : Str} {fr : List (Addr × Obj)} {loc : List V} {σ σE : St} {ρ : Nat → Addr} {a : Addr} {ob : Obj} {j : It} {mf : Nat} {vsE : List V} {RR : Value → Addr → Result → Shared → Prop}
    (hcl : ∀ y ∈ cn, cl'.lookup y = cl.lookup y) (R : Room A k) (T : C.Top h₀) (I : Inv X cl h₀ L ((a, ob) :: fr) loc σ ρ s.heap) (J : ItR σ.n ρ j ob) (hc : cgI f (caps ns loc) mf j σ = .ok vsE σE) (hsz : vsE.length < 100000)
    (H : ∀ h' tk' ρ' Cn oC, Ext σ.n ρ (σE.n + 1) ρ' → Inv X cl h₀ L ((Cn, oC) :: fr) loc ⟨σE.n + 1, .li vsE :: σE.os⟩ ρ' h' → (∃ mC, h'.Ns Cn mC) → RR (.ref (ρ' σE.n)) Cn (.ok .next) { s with heap := h', toks := tk' }) :
    wpAny (model C.prog C.w) A (newList []) (fun acc s₃ => wpAny (model C.prog C.w) A (newFunctionEnv scope mainGlobals cl' [] qual none .none (some (envG X.sc L cl fn cd fm qual))) (fun cenv s₄ =>
      codeAny (model C.prog C.w) A (.compStart (.ListComp elt [⟨.Name x px, iter, [], 0⟩] scope pos) 0 (.ref a) acc { cenv with scope := relabel scope (envG X.sc L cl fn cd fm qual) }) (RR acc cenv.locals) s₄) Ex s₃) Ex s := by
  refine wpAny_newObj_type (wpAny_newFunctionEnv hcell (by intro y hy; simp at hy) (fun h₂ hns₂ hsb₂ => ?_) hkind)
  dsimp only at hns₂ hsb₂ ⊢
  obtain ⟨m, news, I⟩ := I
  -- addresses
  have eC : (s.heap.push { cls := .type "list", dict := none, data := .seq ([] : List Value).toArray }).objs.size = s.heap.objs.size + 1 := Heap.size_push ..
  rw [eC] at hns₂ hsb₂ ⊢
  have old : ∀ b o, s.heap.get? b = some o → h₂.get? b = some o := fun b o e =>
    hsb₂.extBut b o (Nat.ne_of_lt (Nat.lt_succ_of_lt (Heap.lt_size e))) (Heap.get?_push_of_some _ (Heap.get?_push_of_some _ e))
  have hDa : h₂.get? s.heap.objs.size = some (listOf #[] 0) := hsb₂.extBut _ _ (Nat.ne_of_lt (Nat.lt_succ_self _)) (Heap.get?_push_of_some _ (Heap.get?_push_size _ rfl))
  -- the ground
  let ex : List (Addr × Obj) := [(a, ob)]
  have G := gnd_of s.heap h₀ L fr (news ++ ex)
  generalize hideAll s.heap ((news ++ ex).map (·.1)) = g at G
  have B : Bas h₀ L (ex ++ fr) σ ρ s.heap m news := I.bas
  have N0 : News h₀ L s.heap ((news ++ ex) ++ fr) := by rw [List.append_assoc]; exact I.N
  have nd0 : (((news ++ ex) ++ fr).map (·.1)).Nodup := by rw [List.append_assoc]; exact I.nd
  have kp : ∀ b o, h₀.get? b = some o → g.get? b = some o := fun b o e => by
    refine G.all b o (I.F.keep b o e) fun q => ?_
    obtain ⟨p, hp, rfl⟩ := List.mem_map.mp q
    rw [(N0 p (List.mem_append_left _ hp)).2.2] at e; cases e
  have Tg : C.Top g := T.keeps kp
  have fresh : ∀ b, s.heap.objs.size ≤ b → g.get? b = none := fun b hb => by
    cases q : g.get? b with
    | none => rfl
    | some o => exact absurd (Heap.lt_size (G.sub _ _ q)) (Nat.not_lt.mpr hb)
  have I₂ : Inv X' cl' g (s.heap.objs.size + 1) [(a, ob), (s.heap.objs.size, listOf #[] 0)] (.no :: caps ns loc) σ ρ h₂ := by
    refine ⟨_, news, ⟨hns₂, fun b o e => old b o (G.sub b o e), by rw [G.sz]; exact Nat.le_succ _⟩, fun p hp => ?_, ?_, I.S, I.len, ?_⟩
    · have : p ∈ news ++ ex ∨ p = (s.heap.objs.size, listOf #[] 0) := by
        rcases List.mem_append.mp hp with h | h
        · exact .inl (List.mem_append_left _ h)
        · rcases List.mem_cons.mp h with h | h
          · exact .inl (List.mem_append_right _ (by rw [h]; exact .head _))
          · rcases List.mem_cons.mp h with h | h
            · exact .inr h
            · cases h
      rcases this with q | rfl
      · have w := N0 p (List.mem_append_left _ q)
        exact ⟨old _ _ w.1, Nat.ne_of_lt (Nat.lt_succ_of_lt (Heap.lt_size w.1)), G.no p q⟩
      · exact ⟨hDa, Nat.ne_of_lt (Nat.lt_succ_self _), fresh _ (Nat.le_refl _)⟩
    · rw [List.map_append] at nd0
      have z := (List.nodup_append.mp nd0).1
      have e : news ++ [(a, ob), (s.heap.objs.size, listOf #[] 0)] = (news ++ ex) ++ [(s.heap.objs.size, listOf #[] 0)] := by simp [ex]
      rw [e, List.map_append]
      refine List.nodup_append.mpr ⟨z, List.nodup_cons.mpr ⟨(fun h => nomatch h), .nil⟩, fun x hx y hy e => ?_⟩
      rcases List.mem_cons.mp hy with rfl | hy
      · obtain ⟨p, hp, rfl⟩ := List.mem_map.mp hx
        have := Heap.lt_size (N0 p (List.mem_append_left _ hp)).1
        rw [e] at this
        exact Nat.lt_irrefl _ this
      · cases hy
    · intro i y c hy
      rw [hns] at hy
      cases i with
      | zero =>
        cases hy
        exact .inl rfl
      | succ i =>
        rw [List.getElem?_cons_succ, List.getElem?_map] at hy
        cases q : cn[i]? with
        | none => rw [q] at hy; cases hy
        | some y' =>
          rw [q] at hy
          cases hy
          obtain ⟨n, e1, e2⟩ := hcap i y q
          obtain ⟨kk, e3, e4, e5⟩ := I.L n y true e2
          refine ⟨kk, ?_, e4, by rw [hcl y (List.mem_of_getElem? q)]; exact e5⟩
          show nth (caps ns loc) i = _
          rw [caps_eq, nth_eq, List.getElem?_map, e1]
          exact e3
  have hk' : X'.sc.kind = .function := by rw [hX']; exact hkind
  have hx0 : X'.ns[0]? = some (x, false) := by rw [hns]; rfl
  have loop := fun (tk : Nat) => comp_turns (C := C) (X' := X') (k := k) (elt := elt) (iter := iter) (x := x) (px := px) (pos := pos) (scope := scope) (fn := none) (cd := cd) (fm := fm) (qual := qual) (s := { s with heap := h₂, toks := tk })
    (RR := RR (.ref s.heap.objs.size) (s.heap.objs.size + 1)) hk' hx nd' hx0 D R Tg hsz (fun h' tk' ρ' w us n x' I' hus => by
      obtain ⟨m', newsE, I'⟩ := I'
      have NE := I'.N
      have ndE := I'.nd
      rw [List.map_append] at ndE
      have zE := List.nodup_append.mp ndE
      have hDn : s.heap.objs.size ∉ newsE.map (·.1) := fun q => zE.2.2 _ q _ (.head _) rfl
      obtain ⟨oC, a1, a2, hC, a3⟩ := I'.F.ns
      have gC : g.get? (s.heap.objs.size + 1) = none := fresh _ (Nat.le_succ _)
      have xx : Ext σE.n ρ' (σE.n + 1) (rhoS ρ' σE.n s.heap.objs.size) := ext_rhoS ..
      have hl : LR cl X.ns σ.n ρ loc m := I.L
      have BB : Bas h₀ L fr ⟨σE.n + 1, .li vsE :: σE.os⟩ (rhoS ρ' σE.n s.heap.objs.size) h' m ((s.heap.objs.size, listOf (List.toArray us) n) :: newsE) := by
        refine B.backX (fr' := []) (L' := s.heap.objs.size + 1) G I'.F.keep ?_ ?_ ?_ ?_
        · rw [List.append_nil]
          intro p hp
          rcases List.mem_cons.mp hp with rfl | hp
          · exact NE _ (List.mem_append_right _ (.head _))
          · exact NE _ (List.mem_append_left _ hp)
        · rw [List.append_nil, List.map_cons]
          exact List.nodup_cons.mpr ⟨hDn, zE.1⟩
        · refine ⟨?_, ⟨us, n, rfl, hus.mono xx⟩, I'.S.mono xx (Nat.le_of_eq I'.len.symm)⟩
          show s.heap.objs.size = rhoS ρ' σE.n s.heap.objs.size σE.os.length
          rw [← I'.len, rhoS_self]
        · show σE.n + 1 = (O.li vsE :: σE.os).length
          rw [I'.len]; rfl
      have ND : s.heap.objs.size + 1 ∉ (((s.heap.objs.size, listOf (List.toArray us) n) :: newsE) ++ fr).map (·.1) := fun q => by
        obtain ⟨p, hp, e⟩ := List.mem_map.mp q
        rcases List.mem_append.mp hp with hp | hp
        · rcases List.mem_cons.mp hp with rfl | hp
          · exact absurd e (Nat.ne_of_lt (Nat.lt_succ_self _))
          · exact (NE p (List.mem_append_left _ hp)).2.1 e
        · have := Heap.lt_size (N0 p (List.mem_append_right _ hp)).1
          rw [e] at this
          exact absurd this (Nat.not_lt.mpr (Nat.le_succ _))
      have hLC : s.heap.objs.size + 1 ≠ L := by
        obtain ⟨oL, _, _, hL, _⟩ := I.F.ns
        have := Heap.lt_size hL
        intro e
        rw [← e] at this
        exact absurd this (Nat.not_lt.mpr (Nat.le_succ _))
      have IC : Inv X cl h₀ L ((s.heap.objs.size + 1, oC) :: fr) loc ⟨σE.n + 1, .li vsE :: σE.os⟩ (rhoS ρ' σE.n s.heap.objs.size) h' := by
        refine ⟨m, _, BB.F, fun p hp => ?_, ?_, BB.S, BB.len, (hl.mono x').mono xx⟩
        · rcases List.mem_append.mp hp with h | h
          · exact BB.N p (List.mem_append_left _ h)
          · rcases List.mem_cons.mp h with rfl | h
            · refine ⟨hC, hLC, ?_⟩
              cases q : h₀.get? (s.heap.objs.size + 1) with
              | none => rfl
              | some o => have := kp _ _ q; rw [gC] at this; cases this
            · exact BB.N p (List.mem_append_right _ h)
        · have nd := BB.nd
          rw [List.map_append] at nd ND ⊢
          have z := List.nodup_append.mp nd
          rw [List.map_cons (l := fr)]
          refine List.nodup_append.mpr ⟨z.1, List.nodup_cons.mpr ⟨fun q => ND (List.mem_append_right _ q), z.2.1⟩, fun x hx y hy e => ?_⟩
          rcases List.mem_cons.mp hy with rfl | hy
          · subst e; exact ND (List.mem_append_left _ hx)
          · exact z.2.2 x hx y hy e
      have := H h' tk' _ (s.heap.objs.size + 1) oC (x'.trans xx) IC ⟨_, oC, a1, a2, hC, a3⟩
      rw [rhoS_self] at this
      exact this) I₂ J hc
  have he : ({ newEnv scope (s.heap.objs.size + 1) mainGlobals cl' qual none .none (some (envG X.sc L cl fn cd fm qual)) builtinsNs with scope := relabel scope (envG X.sc L cl fn cd fm qual) } : Env) = envG X'.sc (s.heap.objs.size + 1) cl' none cd fm qual := by
    rw [hX']; rfl
  have ha : h₂.get? a = some ob := I₂.getF (p := (a, ob)) (.head _)
  rw [he]
  exact codeAny_compStart_list (loop _) (iter_self ha J (loop _))
end
end Mine
end

section
namespace Mine
open PySem PySem.W PySem.Spec PySem.Calls PyProof.Rows

section
variable {C : Cx} {X X' : Sx} {k : Nat}
structure CompOk (X X' : Sx) (scope : Scope) (x : Str) (ns : List Nat) (cn : List Str) : Prop where
  sc : X'.sc = relS scope X.sc
  ns' : X'.ns = (x, false) :: cn.map fun y => (y, true)
  nd : (X'.ns.map (·.1)).Nodup
  cap : ∀ (i : Nat) (y : Str), cn[i]? = some y → ∃ n : Nat, ns[i]? = some n ∧ X.ns[n]? = some (y, true)
  len : ns.length = cn.length
  kind : scope.kind = .function
  cell : ∀ y ∈ scope.names, y.2 ≠ .cell
  free : ∀ y ∈ scope.names, y.2 = .free → y.1 ∈ cn
  isfree : ∀ y ∈ cn, (y, NameKind.free) ∈ scope.names
  names : ∀ y ∈ scope.names, y.2 = .local → scope.names.lookup y.1 = some .local
  hx : X'.sc.names.lookup x = some .local
theorem CompOk.clos {scope : Scope} {x : Str} {ns : List Nat} {cn : List Str} (O : CompOk X X' scope x ns cn) {h₀ h : Heap} {L : Addr} {cl : List (Str × Addr)} {fn : Option Addr} {cd : Value} {fm : Option Addr} {qual : Str} {fr : List (Addr × Obj)} {loc : List V} {σ : St} {ρ : Nat → Addr} (I : Inv X cl h₀ L fr loc σ ρ h) :
    ∃ r, closureFor scope (envG X.sc L cl fn cd fm qual) = pure r ∧ ∀ y ∈ cn, r.lookup y = cl.lookup y := by
  obtain ⟨m, news, I⟩ := I
  obtain ⟨r, e, h1⟩ := closureFor_is (env := envG X.sc L cl fn cd fm qual) (scope := scope) fun y hy hk => by
    obtain ⟨i, hi⟩ := List.getElem?_of_mem (O.free y hy hk)
    obtain ⟨n, _, e2⟩ := O.cap i y.1 hi
    obtain ⟨kk, _, _, e5⟩ := I.L n y.1 true e2
    exact ⟨_, e5⟩
  exact ⟨r, e, fun y hy => h1 (y, .free) (O.isfree y hy) rfl⟩
theorem eCmp_inv {f : EF} {ns : List Nat} {src : IF} {loc : List V} {σ σ' : St} {v : V} (h : eCmp f ns src loc σ = .ok v σ') : ∃ j σ₁ vs σE, src loc σ = .ok j σ₁ ∧ cgI f (caps ns loc) 10000 j σ₁ = .ok vs σE ∧ v = .rf σE.n ∧ σ' = ⟨σE.n + 1, .li vs :: σE.os⟩ := by
  unfold eCmp at h
  split at h
  · cases h
  · rename_i j σ₁ e1
    split at h
    · cases h
    · rename_i vs σE e2
      rw [new_eq] at h
      cases h
      exact ⟨j, σ₁, vs, σE, e1, e2, rfl, rfl⟩
theorem den_comp {elt iter : PySem.Expr} {x : Str} {px pos : Pos} {scope : Scope} {f : EF} {ns : List Nat} {cn : List Str} {src : IF} (O : CompOk X X' scope x ns cn) (D0 : DenI C X k iter src) (D : Den C X' k elt f)
    (hs : ∀ L cl fn cd fm qual x, foldedSetIterable iter (envG X.sc L cl fn cd fm qual) x = pure x) : Den C X k (.ListComp elt [⟨.Name x px, iter, [], 0⟩] scope pos) (eCmp f ns src) := by
  intro A Ex s h₀ L cl fn cd fm qual fr loc σ σ' ρ v Q hf R T I H
  obtain ⟨j, σ₁, vs, σE, e1, e2, rfl, rfl⟩ := eCmp_inv hf
  obtain ⟨cl', hclos, hcl⟩ := O.clos (fn := fn) (cd := cd) (fm := fm) (qual := qual) I
  rw [eval_ListComp]
  refine wpAny_comprehension_free (use := none) rfl (hs _ _ _ _ _ _) hclos O.kind O.names (D0 e1 R T I fun h₁ tk₁ ρ₁ a ob x₁ I₁ J₁ => ?_)
  refine comp_core (RR := fun acc Cn => compPost (model C.prog C.w) A Ex none Q acc Cn) (s := { s with heap := h₁, toks := tk₁ }) O.sc O.ns' O.nd O.cap O.len O.kind O.cell O.hx D hcl R T I₁ J₁ e2 (Nat.lt_trans (cgI_len _ _ _ e2) (by decide)) fun h' tk' ρ' Cn oC x' I' hC => ?_
  obtain ⟨mC, hC⟩ := hC
  refine ⟨mC, hC, fun h'' hs'' => ?_⟩
  exact H h'' tk' ρ' _ (x₁.trans x') (I'.dropF hs''.extBut) ⟨Nat.lt_succ_self _, rfl⟩
-- y = [..]: the store comes ahead of what lets the block's variable go
theorem denS_comp {elt iter : PySem.Expr} {x y : Str} {px py pos spos : Pos} {scope : Scope} {f : EF} {ns : List Nat} {cn : List Str} {src : IF} {n : Nat} (nd : (X.ns.map (·.1)).Nodup) (hk : X.sc.kind = .function) (S : Slot' X false n y) (O : CompOk X X' scope x ns cn) (D0 : DenI C X k iter src) (D : Den C X' k elt f)
    (hsw : ∀ L cl fn cd fm qual, swapsWith (.ListComp elt [⟨.Name x px, iter, [], 0⟩] scope pos) (some (.Name y py)) spos.line (envG X.sc L cl fn cd fm qual) = pure true)
    (hs : ∀ L cl fn cd fm qual x, foldedSetIterable iter (envG X.sc L cl fn cd fm qual) x = pure x) : DenS C X k (.Assign [.Name y py] (.ListComp elt [⟨.Name x px, iter, [], 0⟩] scope pos) spos) (sAsg false n (eCmp f ns src)) := by
  intro A Ex s h₀ L cl fn cd fm qual fr loc σ ρ r Q hf R T I H
  unfold sAsg at hf
  split at hf
  · subst hf; exact H.elim
  · rename_i v σ' e0
    obtain ⟨j, σ₁, vs, σE, e1, e2, rfl, rfl⟩ := eCmp_inv e0
    obtain ⟨cl', hclos, hcl⟩ := O.clos (fn := fn) (cd := cd) (fm := fm) (qual := qual) I
    rw [exec_Assign_Name_used _ _ _ _ (hsw _ _ _ _ _ _)]
    refine wpAny_bind (wpAny_standAt (wpAny_bind ?_))
    show wpAny _ A (do let _ ← comprehension (.ListComp elt [⟨.Name x px, iter, [], 0⟩] scope pos) scope (envG X.sc L cl fn cd fm qual) _ (newList []) false (eval iter (envG X.sc L cl fn cd fm qual)) (some (assign (.Name y py) (envG X.sc L cl fn cd fm qual)))) _ _ s
    refine wpAny_bind (wpAny_mono (wpAny_comprehension_free (use := some (assign (.Name y py) (envG X.sc L cl fn cd fm qual))) (Q := fun _ s' => Q .next s') rfl (hs _ _ _ _ _ _) hclos O.kind O.names (D0 e1 R T I fun h₁ tk₁ ρ₁ a ob x₁ I₁ J₁ => ?_)) (fun _ s' hq => wpAny_pure (wpAny_pure hq)) fun _ _ e => e)
    refine comp_core (RR := fun acc Cn => compPost (model C.prog C.w) A Ex (some (assign (.Name y py) (envG X.sc L cl fn cd fm qual))) (fun _ s' => Q .next s') acc Cn) (s := { s with heap := h₁, toks := tk₁ }) O.sc O.ns' O.nd O.cap O.len O.kind O.cell O.hx D hcl R T I₁ J₁ e2 (Nat.lt_trans (cgI_len _ _ _ e2) (by decide)) fun h' tk' ρ' Cn oC x' I' hC => ?_
    obtain ⟨mC, hC⟩ := hC
    show wpAny _ A (assign (.Name y py) (envG X.sc L cl fn cd fm qual) (.ref (ρ' σE.n))) _ _ _
    cases e3 : tgt false n (.rf σE.n) loc ⟨σE.n + 1, .li vs :: σE.os⟩ with
    | bad => rw [e3] at hf; subst hf; exact H.elim
    | rt w σ' => exact (tgt_not_rt e3).elim
    | nx loc₂ σ₂ =>
      rw [e3] at hf
      subst hf
      refine wpAny_assign_Name (tgt_nx (C := C) (s := { s with heap := h', toks := tk' }) nd hk S e3 I' ⟨Nat.lt_succ_self _, rfl⟩ fun h₃ tk₃ ρ₃ x₃ I₃ => ?_)
      have a := I'.getF (p := (Cn, oC)) (.head _)
      have b := I₃.getF (p := (Cn, oC)) (.head _)
      obtain ⟨oC', a1, a2, hC', a3⟩ := hC
      have a : h'.get? Cn = some oC := a
      rw [a] at hC'
      cases hC'
      exact ⟨mC, ⟨oC, a1, a2, b, a3⟩, fun h'' hs'' => H h'' tk₃ ρ₃ ((x₁.trans x').trans x₃) (I₃.dropF hs''.extBut)⟩
end
end Mine
end

section
namespace Mine
open PySem PySem.W PySem.Spec PySem.Calls PyProof.Rows

theorem bindL_not {kd : Str → Option NameKind} {x : Str} : ∀ {bs : List (Str × Value)} {m : Str → Option Value}, x ∉ bs.map (·.1) → bindL kd bs m x = m x
  | [], _, _ => rfl
  | (n, v) :: r, m, h => by
    have h1 : x ≠ n := fun e => h (by rw [e]; exact .head _)
    have h2 : x ∉ r.map (·.1) := fun e => h (.tail _ e)
    unfold bindL
    rw [bindL_not h2]
    split
    · show (if x = n then some v else m x) = m x
      rw [if_neg h1]
    · rfl
theorem bindC_not {kd : Str → Option NameKind} {x : Str} : ∀ {bs : List (Str × Value)} {m : Str → Option Value}, x ∉ bs.map (·.1) → bindC kd bs m x = m x
  | [], _, _ => rfl
  | (n, v) :: r, m, h => by
    have h1 : x ≠ n := fun e => h (by rw [e]; exact .head _)
    have h2 : x ∉ r.map (·.1) := fun e => h (.tail _ e)
    unfold bindC
    rw [bindC_not h2]
    split
    · rfl
    · show (if x = n then some v else m x) = m x
      rw [if_neg h1]
theorem bindL_mem {kd : Str → Option NameKind} {x : Str} {u : Value} : ∀ {bs : List (Str × Value)} {m : Str → Option Value}, (bs.map (·.1)).Nodup → (x, u) ∈ bs → kd x = some .local → bindL kd bs m x = some u
  | (n, v) :: r, m, nd, h, hk => by
    have nd' := List.nodup_cons.mp nd
    unfold bindL
    rcases List.mem_cons.mp h with h | h
    · cases h
      rw [bindL_not nd'.1, if_pos hk]
      exact if_pos rfl
    · exact bindL_mem nd'.2 h hk
theorem bindC_mem {kd : Str → Option NameKind} {x : Str} {u : Value} : ∀ {bs : List (Str × Value)} {m : Str → Option Value}, (bs.map (·.1)).Nodup → (x, u) ∈ bs → kd x = some .cell → bindC kd bs m x = some u
  | (n, v) :: r, m, nd, h, hk => by
    have nd' := List.nodup_cons.mp nd
    unfold bindC
    rcases List.mem_cons.mp h with h | h
    · cases h
      rw [bindC_not nd'.1, if_neg (by rw [hk]; decide)]
      exact if_pos rfl
    · exact bindC_mem nd'.2 h hk
theorem mkCells_nil (loc : List V) (σ : St) (K : List V → St → RE) : mkCells [] loc σ K = K loc σ := rfl
theorem mkCells_cons (n : Nat) (cs : List Nat) (loc : List V) (σ : St) (K : List V → St → RE) : mkCells (n :: cs) loc σ K = if n < loc.length then mkCells cs (loc.set n (.rf σ.n)) ⟨σ.n + 1, .ce (nth loc n) :: σ.os⟩ K else .bad := by
  show new (.ce (nth loc n)) σ (fun v σ => putE loc n v fun loc => mkCells cs loc σ K) = _
  rw [new_eq, putE_eq]
section
variable {C : Cx} {X : Sx} {k : Nat}
def LRc (cl : List (Str × Addr)) (ns : List (Str × Bool)) (N : Nat) (ρ : Nat → Addr) (loc : List V) (m : Str → Option Value) (rem : List Nat) (news : List (Addr × Obj)) (h g : Heap) (L : Addr) : Prop :=
  ∀ (i : Nat) (x : Str) (c : Bool), ns[i]? = some (x, c) → match c with
    | false => nth loc i = V.no ∨ ∃ u, m x = some u ∧ VR N ρ (nth loc i) u
    | true => if i ∈ rem then ∃ (a : Addr) (co : Obj), cl.lookup x = some a ∧ a ∉ news.map (fun p : Addr × Obj => p.1) ∧ h.get? a = some co ∧ a ≠ L ∧ g.get? a = none ∧ OR N ρ (.ce (nth loc i)) co
      else ∃ k, nth loc i = V.rf k ∧ k < N ∧ cl.lookup x = some (ρ k)
theorem cells_inv {cl : List (Str × Addr)} {g h : Heap} {L : Addr} {m : Str → Option Value} (nd : (X.ns.map (·.1)).Nodup) (hF : Fr g L h m) (hcl : ∀ x y a b, cl.lookup x = some a → cl.lookup y = some b → x ≠ y → a ≠ b) {K : List V → St → RE} {v : V} {σe : St} :
    ∀ (rem : List Nat) (loc : List V) (σ : St) (ρ : Nat → Addr) (news : List (Addr × Obj)), rem.Nodup → (∀ n ∈ rem, ∃ x, X.ns[n]? = some (x, true)) → News g L h news → (news.map (·.1)).Nodup → SR σ.n ρ σ.os news → σ.n = σ.os.length →
      LRc cl X.ns σ.n ρ loc m rem news h g L → mkCells rem loc σ K = .ok v σe → ∃ loc' σ' ρ', K loc' σ' = .ok v σe ∧ Ext σ.n ρ σ'.n ρ' ∧ Inv X cl g L [] loc' σ' ρ' h
  | [], loc, σ, ρ, news, _, _, N, ndn, S, hl, LL, hm => by
    refine ⟨loc, σ, ρ, hm, Ext.rfl, m, news, hF, by rw [List.append_nil]; exact N, by rw [List.append_nil]; exact ndn, S, hl, fun i x c hx => ?_⟩
    have := LL i x c hx
    cases c with
    | false => exact this
    | true => exact this
  | n :: rem, loc, σ, ρ, news, ndr, hrem, N, ndn, S, hl, LL, hm => by
    rw [mkCells_cons] at hm
    split at hm
    · rename_i hn
      obtain ⟨x, hx⟩ := hrem n (.head _)
      have L0 := LL n x true hx
      simp only [List.mem_cons, true_or, if_true] at L0
      obtain ⟨a, co, e1, e2, e3, e4, e5, e6⟩ := L0
      have xx : Ext σ.n ρ (σ.n + 1) (rhoS ρ σ.n a) := ext_rhoS ..
      have ndr' := List.nodup_cons.mp ndr
      obtain ⟨loc', σ', ρ', r1, r2, r3⟩ := cells_inv nd hF hcl rem (loc.set n (.rf σ.n)) ⟨σ.n + 1, .ce (nth loc n) :: σ.os⟩ (rhoS ρ σ.n a) ((a, co) :: news) ndr'.2 (fun q hq => hrem q (.tail _ hq))
        (fun p hp => by
          rcases List.mem_cons.mp hp with rfl | hp
          · exact ⟨e3, e4, e5⟩
          · exact N p hp) (List.nodup_cons.mpr ⟨e2, ndn⟩) ⟨by show a = rhoS ρ σ.n a σ.os.length; rw [← hl, rhoS_self], e6.mono xx, S.mono xx (Nat.le_of_eq hl.symm)⟩ (by show σ.n + 1 = (_ :: σ.os).length; rw [hl]; rfl)
        (fun i y c hy => by
          have old := LL i y c hy
          cases c with
          | false =>
            have hne : i ≠ n := fun e => by subst e; rw [hx] at hy; cases hy
            rw [nth_set _ _ _ _ hn, if_neg hne]
            exact old.imp id fun ⟨u, b1, b2⟩ => ⟨u, b1, b2.mono xx⟩
          | true =>
            by_cases hne : i = n
            · subst hne
              rw [hx] at hy
              cases hy
              show if i ∈ rem then _ else _
              rw [if_neg ndr'.1, nth_set _ _ _ _ hn, if_pos rfl]
              exact ⟨σ.n, rfl, Nat.lt_succ_self _, by rw [rhoS_self]; exact e1⟩
            · have hxy : x ≠ y := fun e => by subst e; exact hne (ns_inj nd hy hx)
              show if i ∈ rem then _ else _
              rw [nth_set _ _ _ _ hn, if_neg hne]
              by_cases hi : i ∈ rem
              · rw [if_pos hi]
                have old : if i ∈ n :: rem then _ else _ := old
                rw [if_pos (List.mem_cons_of_mem _ hi)] at old
                obtain ⟨b, cb, b1, b2, b3, b4, b5, b6⟩ := old
                refine ⟨b, cb, b1, ?_, b3, b4, b5, b6.mono xx⟩
                intro q
                rcases List.mem_cons.mp q with q | q
                · exact hcl x y a b e1 b1 hxy q.symm
                · exact b2 q
              · rw [if_neg hi]
                have old : if i ∈ n :: rem then _ else _ := old
                rw [if_neg (fun q => by rcases List.mem_cons.mp q with q | q; exact hne q; exact hi q)] at old
                obtain ⟨kk, b1, b2, b3⟩ := old
                exact ⟨kk, b1, Nat.lt_succ_of_lt b2, by rw [xx.eq kk b2]; exact b3⟩) hm
      exact ⟨loc', σ', ρ', r1, xx.trans r2, r3⟩
    · cases hm
theorem lookup_apart {cs : List (Str × Addr)} (h : cs.Pairwise fun x y => x.2 ≠ y.2) : ∀ x y a b, cs.lookup x = some a → cs.lookup y = some b → x ≠ y → a ≠ b := by
  induction h with
  | nil => intro x y a b h; cases h
  | cons h1 _ ih =>
    rename_i p l
    intro x y a b hx hy hne e
    rw [List.lookup_cons] at hx hy
    split at hx
    · rename_i q1
      cases hx
      split at hy
      · rename_i q2
        exact hne ((beq_iff_eq.mp q1).trans (beq_iff_eq.mp q2).symm)
      · exact h1 _ (mem_of_lookup hy) e
    · split at hy
      · cases hy
        exact h1 _ (mem_of_lookup hx) e.symm
      · exact ih x y a b hx hy hne e
-- a def with cells, entered
structure CellD (X : Sx) (d : DefRec) (np : Nat) (cs : List Nat) : Prop where
  hX : X.sc = d.scope
  nd : (X.ns.map (·.1)).Nodup
  hkd : ∀ (i : Nat) (x : Str) (c : Bool), X.ns[i]? = some (x, c) → X.sc.names.lookup x = some (match c with | false => .local | true => .cell)
  hcs : cs.Nodup
  hcs1 : ∀ n ∈ cs, ∃ x, X.ns[n]? = some (x, true)
  hcs2 : ∀ (i : Nat) (x : Str), X.ns[i]? = some (x, true) → i ∈ cs
  hp : d.params.args.map (·.arg) = (X.ns.map (·.1)).take np
  hnp : (d.params.args.map (·.arg)).length = np
  hb : ∀ pm code doc us, us.length = np → bindArgs (docDef d.name d.params d.body d.scope pm code doc) ⟨us, []⟩ = pure ((d.params.args.map (·.arg)).zip us)
  hk : d.scope.kind = .function
  hco : d.scope.isCoroutine = false
  hgen : d.scope.isGenerator = false
theorem enter_cells {np nl : Nat} {cs : List Nat} {d : DefRec} {f : SF} (hd : d ∈ recsOf C.p) (D : DenB C X k d.body f) (O : CellD X d np cs) {A : Around} {s : Shared} {g h₀ : Heap} {L : Addr} {fr : List (Addr × Obj)} {σ σ' : St} {ρ : Nat → Addr} {news : List (Addr × Obj)} {vs : List V} {us : List Value} {v : V} {RR : Result → Shared → Prop} {fa : Addr}
    (hmg : C.mg d.name = some (.ref fa)) (hF : mkF np nl cs f vs σ = .ok v σ') (R : Room A (k + 1)) (T : C.Top s.heap) (TG : C.Top g) (G : Gnd g s.heap h₀ L fr news) (NN : ∀ p ∈ news, s.heap.get? p.1 = some p.2) (ndn : (news.map (·.1)).Nodup) (hS : SR σ.n ρ σ.os news) (hlen' : σ.n = σ.os.length) (r : VsR σ.n ρ vs us)
    (H : ∀ h' tk' ρ' L' u m' news', Ext σ.n ρ σ'.n ρ' → Bas g L' [] σ' ρ' h' m' news' → VR σ'.n ρ' v u → RR (.ok (.ret u)) { s with heap := h', toks := tk' }) :
    codeAny (model C.prog C.w) A (.call (.ref fa) ⟨us, []⟩) RR s := by
  obtain ⟨hX, nd, hkd, hcs, hcs1, hcs2, hp, hnp, hb, hk, hco, hgen⟩ := O
  obtain ⟨a, o, pm, code, doc, hmg', ho, hdat, hrec⟩ := T.fn d hd
  rw [hmg] at hmg'
  cases hmg'
  rw [mkF_eq] at hF
  obtain ⟨hlen, hF⟩ := cond_tt hF (by intro e; cases e)
  have hlen := Nat.eq_of_beq_eq_true hlen
  rw [lenV_eq] at hlen
  have hul : us.length = np := r.len ▸ hlen
  have kz : ∀ x ∈ (d.params.args.map (·.arg)).zip us, d.scope.names.lookup x.1 = some .local ∨ d.scope.names.lookup x.1 = some .cell := fun x hx => by
    have := (List.of_mem_zip hx).1
    rw [hp] at this
    obtain ⟨i, hi⟩ := List.getElem?_of_mem (List.mem_of_mem_take this)
    rw [List.getElem?_map] at hi
    cases q : X.ns[i]? with
    | none => rw [q] at hi; cases hi
    | some y =>
      obtain ⟨y, c⟩ := y
      rw [q] at hi
      cases hi
      have := hkd i _ c q
      rw [hX] at this
      cases c with
      | false => exact .inl this
      | true => exact .inr this
  have hpn : (((d.params.args.map (·.arg)).zip us).map (·.1)).Nodup := by
    have : ((d.params.args.map (·.arg)).zip us).map (·.1) = d.params.args.map (·.arg) := List.map_fst_zip (by omega)
    rw [this, hp]; exact (List.take_sublist _ _).nodup nd
  refine codeAny_call_cells (fd := docDef d.name d.params d.body d.scope pm code doc) (body := d.body) (binds := (d.params.args.map (·.arg)).zip us) (by have := R.dp; omega) ho hdat T.nolimit hrec rfl (hb pm code doc us hul) rfl
    (fun x hx => (kz x hx).imp id fun h => ⟨h, cellsFrom_some _ _ _ (.inl h)⟩) (fun s₁ IC => ?_) hco hgen hk
  have env : callEnvC (docDef d.name d.params d.body d.scope pm code doc) s.heap.objs.size fa = envG X.sc s.heap.objs.size (cellsFrom (s.heap.objs.size + 1) d.scope.names []) (some fa) code (some s.heap.objs.size) (d.name ++ ".<locals>.") := by rw [hX]; rfl
  rw [env] at IC ⊢
  obtain ⟨h₁, tk₁, rfl⟩ := IC.toInCall.same
  have hk₁ := IC.toInCall.keep
  have hcl := lookup_apart IC.apart
  have F1 : Fr g s.heap.objs.size h₁ _ := ⟨IC.toInCall.ns, fun b o e => hk₁ b o (G.sub b o e), Nat.le_of_eq G.sz⟩
  have nf : ∀ b, s.heap.objs.size ≤ b → g.get? b = none := fun b hb => by
    cases q : g.get? b with
    | none => rfl
    | some o => exact absurd (Heap.lt_size (G.sub _ _ q)) (Nat.not_lt.mpr hb)
  obtain ⟨loc', σ₁, ρ₁, r1, r2, I₁⟩ := cells_inv (X := X) nd F1 hcl cs (vs ++ nos nl) σ ρ news hcs hcs1 (fun p hp => ⟨hk₁ _ _ (NN p hp), Nat.ne_of_lt (Heap.lt_size (NN p hp)), G.no p hp⟩) ndn hS hlen' (fun i x c hx => by
      have hx' : (X.ns.map (·.1))[i]? = some x := by rw [List.getElem?_map, hx]; rfl
      have hkx := hkd i x c hx
      have mem : ∀ u, i < np → us[i]? = some u → (x, u) ∈ (d.params.args.map (·.arg)).zip us := fun u hi hu => by
        apply List.mem_of_getElem? (i := i)
        rw [List.getElem?_zip_eq_some]
        refine ⟨?_, hu⟩
        rw [hp, List.getElem?_take, if_pos hi]; exact hx'
      cases c with
      | false =>
        by_cases hi : i < np
        · right
          obtain ⟨u, hu, hr⟩ := r.get (i := i) (by omega)
          exact ⟨u, bindL_mem hpn (mem u hi hu) hkx, by rw [nth_append_left _ _ _ (by omega)]; exact hr⟩
        · left
          exact nth_nos _ _ _ (by omega)
      | true =>
        show if i ∈ cs then _ else _
        rw [if_pos (hcs2 i x hx)]
        have hs := cellsFrom_some d.scope.names (s.heap.objs.size + 1) [] (.inl (by rw [← hX]; exact hkx))
        obtain ⟨ca, hca⟩ := Option.isSome_iff_exists.mp hs
        obtain ⟨co, h1, h2⟩ := IC.cell x ca hca
        have ab := IC.above x ca (mem_of_lookup hca)
        have le : s.heap.objs.size ≤ ca := Nat.le_of_lt ab
        refine ⟨ca, co, hca, ?_, h1, Nat.ne_of_gt ab, nf _ le, ?_⟩
        · intro q
          obtain ⟨p, hp', e⟩ := List.mem_map.mp q
          have := Heap.lt_size (NN p hp')
          rw [e] at this
          exact absurd this (Nat.not_lt.mpr le)
        · by_cases hi : i < np
          · obtain ⟨u, hu, hr⟩ := r.get (i := i) (by omega)
            rw [bindC_mem hpn (mem u hi hu) hkx] at h2
            rw [nth_append_left _ _ _ (by omega)]
            generalize nth vs i = w at hr
            cases w <;> first | exact hr.elim | exact ⟨u, h2, hr⟩
          · rw [nth_nos _ _ _ (by omega)]
            have : x ∉ ((d.params.args.map (·.arg)).zip us).map (·.1) := fun q => by
              obtain ⟨p, hp', e⟩ := List.mem_map.mp q
              have := (List.of_mem_zip hp').1
              rw [e, hp] at this
              obtain ⟨i', hi'⟩ := List.getElem?_of_mem this
              rw [List.getElem?_take] at hi'
              split at hi'
              · rename_i lt
                have l1 : i < (X.ns.map (·.1)).length := (List.getElem?_eq_some_iff.mp hx').1
                have := (List.getElem?_inj l1 nd).mp (hx'.trans hi'.symm)
                omega
              · cases hi'
            rw [bindC_not this] at h2
            exact h2) hF
  refine D (s := { s with heap := h₁, toks := tk₁ }) rfl (R.deeper _) TG I₁ ?_
  cases e : f loc' σ₁ with
  | bad => rw [e] at r1; cases r1
  | nx loc₂ σ₂ =>
    rw [e] at r1
    cases r1
    intro h' tk' ρ' x' I'
    obtain ⟨m', news', I'⟩ := I'
    exact H h' tk' ρ' _ .none m' news' (r2.trans x') I'.bas rfl
  | rt w σ₂ =>
    rw [e] at r1
    cases r1
    intro h' tk' ρ' u m' news' x' B' hr
    exact H h' tk' ρ' _ u m' news' (r2.trans x') B' hr
theorem con_cells {np nl : Nat} {cs : List Nat} {d : DefRec} {f : SF} (hd : d ∈ recsOf C.p) (D : DenB C X k d.body f) (O : CellD X d np cs) : Con C (k + 1) d.name (mkF np nl cs f) := by
  intro A Ex s h₀ L fr σ σ' ρ m news vs us v Q fa hmg hF R T B r H
  have G := gnd_of s.heap h₀ L fr news
  refine wpAny_call (enter_cells hd D O hmg hF R (T.keeps B.F.keep) (T.keeps (B.keep G)) G (fun p hp => (B.N p (List.mem_append_left _ hp)).1) ?_ B.S B.len r fun h' tk' ρ' L' u m' news' x' B' hr => ?_)
  · have nd := B.nd
    rw [List.map_append] at nd
    exact (List.nodup_append.mp nd).1
  · exact H h' tk' ρ' news' u x' (B.back G B'.F.keep B'.N B'.nd B'.S B'.len) hr
end
end Mine
end

section
namespace Mine
open PySem PySem.W PySem.Spec PySem.Calls PyProof.Rows

section
variable {C : Cx} {X : Sx} {k : Nat}
-- names, as the printed proofs take them
structure SlotD (X : Sx) (c : Bool) (n : Nat) (x : Str) : Prop extends Slot' X c n x where
  db : (x == ("__debug__" : Str)) = false
def slotChk (X : Sx) (c : Bool) (n : Nat) (x : Str) : Bool := decide (X.ns[n]? = some (x, c)) && decide (X.sc.names.lookup x = some (match c with | false => .local | true => .cell)) && !(x == ("__debug__" : Str))
theorem slot_of {c : Bool} {n : Nat} {x : Str} (h : slotChk X c n x = true) : SlotD X c n x := by
  unfold slotChk at h
  simp only [Bool.and_eq_true, decide_eq_true_eq, Bool.not_eq_true'] at h
  cases c <;> exact ⟨⟨h.1.1, h.1.2⟩, h.2⟩
theorem den_locS {n : Nat} {x : Str} {pos : Pos} (hk : X.sc.kind = .function) (S : SlotD X false n x) : Den C X k (.Name x pos) (eLoc n) := den_loc S.at' hk S.kd S.db
theorem den_cellS {n : Nat} {x : Str} {pos : Pos} (hk : X.sc.kind = .function) (S : SlotD X true n x) : Den C X k (.Name x pos) (eCel n) := den_cell S.at' hk S.kd S.db
-- a block's names
def compX (X : Sx) (scope : Scope) (x : Str) (cn : List Str) : Sx := ⟨relS scope X.sc, (x, false) :: cn.map fun y => (y, true)⟩
def compChk (X : Sx) (scope : Scope) (x : Str) (ns : List Nat) (cn : List Str) : Bool :=
  decide (((compX X scope x cn).ns.map (·.1)).Nodup) && decide (ns.length = cn.length) && ((cn.zip ns).all fun p => decide (X.ns[p.2]? = some (p.1, true))) && decide (scope.kind = .function) &&
  (scope.names.all fun y => decide (y.2 ≠ .cell)) && (scope.names.all fun y => decide (y.2 = .free → y.1 ∈ cn)) && (cn.all fun y => decide ((y, NameKind.free) ∈ scope.names)) &&
  (scope.names.all fun y => decide (y.2 = .local → scope.names.lookup y.1 = some .local)) && decide ((relS scope X.sc).names.lookup x = some .local)
theorem compOk_of {scope : Scope} {x : Str} {ns : List Nat} {cn : List Str} (h : compChk X scope x ns cn = true) : CompOk X (compX X scope x cn) scope x ns cn := by
  unfold compChk at h
  simp only [Bool.and_eq_true, decide_eq_true_eq, List.all_eq_true] at h
  obtain ⟨⟨⟨⟨⟨⟨⟨⟨h1, h2⟩, h3⟩, h4⟩, h5⟩, h6⟩, h7⟩, h8⟩, h9⟩ := h
  refine ⟨rfl, rfl, h1, fun i y hy => ?_, h2, h4, h5, h6, h7, h8, h9⟩
  have l1 : i < cn.length := (List.getElem?_eq_some_iff.mp hy).1
  have l2 : i < ns.length := by omega
  have e2 : ns[i]? = some ns[i] := List.getElem?_eq_getElem l2
  exact ⟨ns[i], e2, h3 (y, ns[i]) (List.mem_of_getElem? (i := i) (List.getElem?_zip_eq_some.mpr ⟨hy, e2⟩))⟩
theorem den_compS {elt iter : PySem.Expr} {x : Str} {px pos : Pos} {scope : Scope} {f : EF} {ns : List Nat} (cn : List Str) {src : IF} (h : compChk X scope x ns cn = true) (D0 : DenI C X k iter src) (D : Den C (compX X scope x cn) k elt f)
    (hs : ∀ L cl fn cd fm qual x, foldedSetIterable iter (envG X.sc L cl fn cd fm qual) x = pure x) : Den C X k (.ListComp elt [⟨.Name x px, iter, [], 0⟩] scope pos) (eCmp f ns src) := den_comp (compOk_of h) D0 D hs
theorem denS_compS {elt iter : PySem.Expr} {x y : Str} {px py pos spos : Pos} {scope : Scope} {f : EF} {ns : List Nat} (cn : List Str) {src : IF} {n : Nat} (nd : (X.ns.map (·.1)).Nodup) (hk : X.sc.kind = .function) (S : SlotD X false n y) (h : compChk X scope x ns cn = true) (D0 : DenI C X k iter src) (D : Den C (compX X scope x cn) k elt f)
    (hsw : ∀ L cl fn cd fm qual, swapsWith (.ListComp elt [⟨.Name x px, iter, [], 0⟩] scope pos) (some (.Name y py)) spos.line (envG X.sc L cl fn cd fm qual) = pure true)
    (hs : ∀ L cl fn cd fm qual x, foldedSetIterable iter (envG X.sc L cl fn cd fm qual) x = pure x) : DenS C X k (.Assign [.Name y py] (.ListComp elt [⟨.Name x px, iter, [], 0⟩] scope pos) spos) (sAsg false n (eCmp f ns src)) :=
  denS_comp nd hk S.toSlot' (compOk_of h) D0 D hsw hs
-- lists of a known length
theorem un1 {P : List Value → Prop} (h : ∀ a, P [a]) : ∀ us : List Value, us.length = 1 → P us
  | [a], _ => h a
theorem un2 {P : List Value → Prop} (h : ∀ a b, P [a, b]) : ∀ us : List Value, us.length = 2 → P us
  | [a, b], _ => h a b
theorem un3 {P : List Value → Prop} (h : ∀ a b c, P [a, b, c]) : ∀ us : List Value, us.length = 3 → P us
  | [a, b, c], _ => h a b c
theorem un4 {P : List Value → Prop} (h : ∀ a b c d, P [a, b, c, d]) : ∀ us : List Value, us.length = 4 → P us
  | [a, b, c, d], _ => h a b c d
theorem un5 {P : List Value → Prop} (h : ∀ a b c d e, P [a, b, c, d, e]) : ∀ us : List Value, us.length = 5 → P us
  | [a, b, c, d, e], _ => h a b c d e
-- the defs of the text
def nthS : List PySem.Stmt → Nat → PySem.Stmt
  | [], _ => .Pass ⟨0, 0, 0, 0⟩
  | s :: _, 0 => s
  | _ :: r, n + 1 => nthS r n
def drOf : PySem.Stmt → DefRec
  | .FunctionDef name args body _ _ _ scope _ _ pos => ⟨name, args, body, scope, pos⟩
  | s => ⟨"", ⟨[], [], none, [], [], none, []⟩, [s], { kind := .module, names := [], isGenerator := false, isCoroutine := false, more := [] }, ⟨0, 0, 0, 0⟩⟩
def glb (X : Sx) (x : Str) : Bool := decide (X.sc.names.lookup x = some .globalImplicit)
theorem glb_of {x : Str} (h : glb X x = true) : X.sc.names.lookup x = some .globalImplicit := of_decide_eq_true h
-- a def's looks, in one
def defChk (d : DefRec) (X : Sx) (np : Nat) : Bool :=
  decide (X.ns = (X.ns.map (·.1)).map fun x => (x, false)) && decide ((X.ns.map (·.1)).Nodup) && decide (d.params.args.map (·.arg) = (X.ns.map (·.1)).take np) && decide ((d.params.args.map (·.arg)).length = np) && decide (d.scope.kind = .function) &&
  (d.scope.names.all fun x => decide (x.2 ≠ .cell)) && ((d.params.args.map (·.arg)).all fun x => decide (d.scope.names.lookup x = some .local)) && !d.scope.isCoroutine && !d.scope.isGenerator
theorem con_ofS {np nl : Nat} {d : DefRec} {f : SF} (hd : d ∈ recsOf C.p) (hX : X.sc = d.scope) (h : defChk d X np = true)
    (hb : ∀ pm code doc us, us.length = np → bindArgs (docDef d.name d.params d.body d.scope pm code doc) ⟨us, []⟩ = pure ((d.params.args.map (·.arg)).zip us)) (D : DenB C X k d.body f) : Con C (k + 1) d.name (mkF np nl [] f) := by
  unfold defChk at h
  simp only [Bool.and_eq_true, decide_eq_true_eq, List.all_eq_true, Bool.not_eq_true'] at h
  obtain ⟨⟨⟨⟨⟨⟨⟨⟨h1, h2⟩, h3⟩, h4⟩, h5⟩, h6⟩, h7⟩, h8⟩, h9⟩ := h
  exact con_of hd D hX h1 h2 h3 h4 hb h5 h6 h7 h8 h9
def defChkC (d : DefRec) (X : Sx) (np : Nat) (cs : List Nat) : Bool :=
  decide ((X.ns.map (·.1)).Nodup) && (X.ns.all fun p => decide (X.sc.names.lookup p.1 = some (match p.2 with | false => .local | true => .cell))) && decide cs.Nodup && (cs.all fun n => decide ((X.ns[n]?).map (·.2) = some true)) &&
  ((List.range X.ns.length).all fun i => decide ((X.ns[i]?).map (·.2) = some true → i ∈ cs)) && decide (d.params.args.map (·.arg) = (X.ns.map (·.1)).take np) && decide ((d.params.args.map (·.arg)).length = np) && decide (d.scope.kind = .function) &&
  !d.scope.isCoroutine && !d.scope.isGenerator
theorem cellD_of {np : Nat} {cs : List Nat} {d : DefRec} (hX : X.sc = d.scope) (h : defChkC d X np cs = true)
    (hb : ∀ pm code doc us, us.length = np → bindArgs (docDef d.name d.params d.body d.scope pm code doc) ⟨us, []⟩ = pure ((d.params.args.map (·.arg)).zip us)) : CellD X d np cs := by
  unfold defChkC at h
  simp only [Bool.and_eq_true, decide_eq_true_eq, List.all_eq_true, Bool.not_eq_true'] at h
  obtain ⟨⟨⟨⟨⟨⟨⟨⟨⟨h1, h2⟩, h3⟩, h4⟩, h5⟩, h6⟩, h7⟩, h8⟩, h9⟩, h10⟩ := h
  refine ⟨hX, h1, fun i x c hx => h2 (x, c) (List.mem_of_getElem? hx), h3, fun n hn => ?_, fun i x hx => ?_, h6, h7, hb, h8, h9, h10⟩
  · have := h4 n hn
    cases q : X.ns[n]? with
    | none => rw [q] at this; cases this
    | some p =>
      obtain ⟨x, c⟩ := p
      rw [q] at this
      cases this
      exact ⟨x, rfl⟩
  · exact h5 i (List.mem_range.mpr (List.getElem?_eq_some_iff.mp hx).1) (by rw [hx]; rfl)
end
end Mine
end

section
namespace Mine
-- ['a', 'end'] cells []
noncomputable def B_normal : SF := (sSeq (sAsg false 1 (bi1 kLen (lCons (eLoc 0) lNil)))
    (sSeq (sWhile 100000 (tAnd (tCmp .gt (eLoc 1) (eV (.it (.ofNat 0)))) (tCmp .eq (eSub (eLoc 0) (eBin .sub (eLoc 1) (eV (.it (.ofNat 1))))) (eV (.it (.ofNat 0))))) (sSeq (sAug .sub 1 (eV (.it (.ofNat 1))))
    sNil))
    (sSeq (sRet (cutTo (eLoc 0) (eLoc 1)))
    sNil)))
noncomputable def F_normal : FF := mkF 1 1 [] B_normal

-- ['a', 'b', 'at'] cells []
noncomputable def B_compare : SF := (sSeq (sIf (tCmp .ne (bi1 kLen (lCons (eLoc 0) lNil)) (bi1 kLen (lCons (eLoc 1) lNil))) (sSeq (sRet (eIf (tCmp .lt (bi1 kLen (lCons (eLoc 0) lNil)) (bi1 kLen (lCons (eLoc 1) lNil))) (eNeg (eV (.it (.ofNat 1)))) (eV (.it (.ofNat 1)))))
    sNil) sNil)
    (sSeq (sFor false 2 (srcR (lCons (eBin .sub (bi1 kLen (lCons (eLoc 0) lNil)) (eV (.it (.ofNat 1)))) (lCons (eNeg (eV (.it (.ofNat 1)))) (lCons (eNeg (eV (.it (.ofNat 1)))) lNil)))) (sSeq (sIf (tCmp .ne (eSub (eLoc 0) (eLoc 2)) (eSub (eLoc 1) (eLoc 2))) (sSeq (sRet (eIf (tCmp .lt (eSub (eLoc 0) (eLoc 2)) (eSub (eLoc 1) (eLoc 2))) (eNeg (eV (.it (.ofNat 1)))) (eV (.it (.ofNat 1)))))
    sNil) sNil)
    sNil))
    (sSeq (sRet (eV (.it (.ofNat 0))))
    sNil)))
noncomputable def F_compare : FF := mkF 2 1 [] B_compare

-- ['a', 'b', 'w', 'found', 'carry', 'mask', 'at'] cells []
noncomputable def B_add : SF := (sSeq (sIf (tCmp .lt (bi1 kLen (lCons (eLoc 0) lNil)) (bi1 kLen (lCons (eLoc 1) lNil))) (sSeq (sUnpS [(false, 1), (false, 0)] (lCons (eLoc 1) (lCons (eLoc 0) lNil)))
    sNil) sNil)
    (sSeq (sUnpS [(false, 5), (false, 4), (false, 3)] (lCons (eList lNil) (lCons (eV (.it (.ofNat 0))) (lCons (eBin .sub (eBin .shl (eV (.it (.ofNat 1))) (eLoc 2)) (eV (.it (.ofNat 1)))) lNil))))
    (sSeq (sFor false 6 (srcR (lCons (bi1 kLen (lCons (eLoc 1) lNil)) lNil)) (sSeq (sAug .add 4 (eBin .add (eSub (eLoc 0) (eLoc 6)) (eSub (eLoc 1) (eLoc 6))))
    (sSeq (sApp (eLoc 3) (eBin .and (eLoc 4) (eLoc 5)))
    (sSeq (sAug .shr 4 (eLoc 2))
    sNil))))
    (sSeq (sFor false 6 (srcR (lCons (bi1 kLen (lCons (eLoc 1) lNil)) (lCons (bi1 kLen (lCons (eLoc 0) lNil)) lNil))) (sSeq (sAug .add 4 (eSub (eLoc 0) (eLoc 6)))
    (sSeq (sApp (eLoc 3) (eBin .and (eLoc 4) (eLoc 5)))
    (sSeq (sAug .shr 4 (eLoc 2))
    sNil))))
    (sSeq (sIf (tCmp .gt (eLoc 4) (eV (.it (.ofNat 0)))) (sSeq (sApp (eLoc 3) (eLoc 4))
    sNil) sNil)
    (sSeq (sRet (eLoc 3))
    sNil))))))
noncomputable def F_add : FF := mkF 3 4 [] B_add

-- ['a', 'limb', 'w', 'found', 'carry', 'mask', 'one'] cells []
noncomputable def B_mul_limb : SF := (sSeq (sIf (tCmp .eq (eLoc 1) (eV (.it (.ofNat 0)))) (sSeq (sRet (eList lNil))
    sNil) sNil)
    (sSeq (sUnpS [(false, 5), (false, 4), (false, 3)] (lCons (eList lNil) (lCons (eV (.it (.ofNat 0))) (lCons (eBin .sub (eBin .shl (eV (.it (.ofNat 1))) (eLoc 2)) (eV (.it (.ofNat 1)))) lNil))))
    (sSeq (sFor false 6 (srcS (eLoc 0)) (sSeq (sAug .add 4 (eBin .mul (eLoc 6) (eLoc 1)))
    (sSeq (sApp (eLoc 3) (eBin .and (eLoc 4) (eLoc 5)))
    (sSeq (sAug .shr 4 (eLoc 2))
    sNil))))
    (sSeq (sIf (tCmp .gt (eLoc 4) (eV (.it (.ofNat 0)))) (sSeq (sApp (eLoc 3) (eLoc 4))
    sNil) sNil)
    (sSeq (sRet (eLoc 3))
    sNil)))))
noncomputable def F_mul_limb : FF := mkF 3 4 [] B_mul_limb

-- ['a', 'limb', 'w', 'found', 'rest', 'at'] cells []
noncomputable def B_divrem_limb : SF := (sSeq (sIf (tCmp .eq (eLoc 1) (eV (.it (.ofNat 0)))) (sSeq sBad
    sNil) sNil)
    (sSeq (sUnpS [(false, 4), (false, 3)] (lCons (eBin .mul (eList (lCons (eV (.it (.ofNat 0))) lNil)) (bi1 kLen (lCons (eLoc 0) lNil))) (lCons (eV (.it (.ofNat 0))) lNil)))
    (sSeq (sFor false 5 (srcR (lCons (eBin .sub (bi1 kLen (lCons (eLoc 0) lNil)) (eV (.it (.ofNat 1)))) (lCons (eNeg (eV (.it (.ofNat 1)))) (lCons (eNeg (eV (.it (.ofNat 1)))) lNil)))) (sSeq (sAsg false 4 (eBin .or (eBin .shl (eLoc 4) (eLoc 2)) (eSub (eLoc 0) (eLoc 5))))
    (sSeq (sSub (eLoc 3) (eLoc 5) (eBin .div (eLoc 4) (eLoc 1)))
    (sSeq (sAug .mod 4 (eLoc 1))
    sNil))))
    (sSeq (sRet (eTup (lCons (eCall F_normal (lCons (eLoc 3) lNil)) (lCons (eLoc 4) lNil))))
    sNil))))
noncomputable def F_divrem_limb : FF := mkF 3 3 [] B_divrem_limb

-- ['a', 'n', 'w', 'spots', 'few', 'found', 'carry', 'mask', 'one'] cells []
noncomputable def B_shift_left : SF := (sSeq (sIf (tCmp .eq (bi1 kLen (lCons (eLoc 0) lNil)) (eV (.it (.ofNat 0)))) (sSeq (sRet (eList lNil))
    sNil) sNil)
    (sSeq (sUnpS [(false, 4), (false, 3)] (lCons (eBin .div (eLoc 1) (eLoc 2)) (lCons (eBin .mod (eLoc 1) (eLoc 2)) lNil)))
    (sSeq (sUnpS [(false, 7), (false, 6), (false, 5)] (lCons (eBin .mul (eList (lCons (eV (.it (.ofNat 0))) lNil)) (eLoc 3)) (lCons (eV (.it (.ofNat 0))) (lCons (eBin .sub (eBin .shl (eV (.it (.ofNat 1))) (eLoc 2)) (eV (.it (.ofNat 1)))) lNil))))
    (sSeq (sFor false 8 (srcS (eLoc 0)) (sSeq (sAug .or 6 (eBin .shl (eLoc 8) (eLoc 4)))
    (sSeq (sApp (eLoc 5) (eBin .and (eLoc 6) (eLoc 7)))
    (sSeq (sAug .shr 6 (eLoc 2))
    sNil))))
    (sSeq (sIf (tCmp .gt (eLoc 6) (eV (.it (.ofNat 0)))) (sSeq (sApp (eLoc 5) (eLoc 6))
    sNil) sNil)
    (sSeq (sRet (eLoc 5))
    sNil))))))
noncomputable def F_shift_left : FF := mkF 3 6 [] B_shift_left

-- ['a', 'n', 'w', 'spots', 'few', 'found', 'mask', 'at', 'above'] cells []
noncomputable def B_shift_right : SF := (sSeq (sUnpS [(false, 4), (false, 3)] (lCons (eBin .div (eLoc 1) (eLoc 2)) (lCons (eBin .mod (eLoc 1) (eLoc 2)) lNil)))
    (sSeq (sUnpS [(false, 6), (false, 5)] (lCons (eList lNil) (lCons (eBin .sub (eBin .shl (eV (.it (.ofNat 1))) (eLoc 2)) (eV (.it (.ofNat 1)))) lNil)))
    (sSeq (sFor false 7 (srcR (lCons (eLoc 3) (lCons (bi1 kLen (lCons (eLoc 0) lNil)) lNil))) (sSeq (sAsg false 8 (eIf (tCmp .lt (eBin .add (eLoc 7) (eV (.it (.ofNat 1)))) (bi1 kLen (lCons (eLoc 0) lNil))) (eSub (eLoc 0) (eBin .add (eLoc 7) (eV (.it (.ofNat 1))))) (eV (.it (.ofNat 0)))))
    (sSeq (sApp (eLoc 5) (eBin .and (eBin .or (eBin .shr (eSub (eLoc 0) (eLoc 7)) (eLoc 4)) (eBin .shl (eLoc 8) (eBin .sub (eLoc 2) (eLoc 4)))) (eLoc 6)))
    sNil)))
    (sSeq (sRet (eCall F_normal (lCons (eLoc 5) lNil)))
    sNil))))
noncomputable def F_shift_right : FF := mkF 3 6 [] B_shift_right

-- ['a', 'w'] cells []
noncomputable def B_bits : SF := (sSeq (sRet (eIf (tCmp .gt (bi1 kLen (lCons (eLoc 0) lNil)) (eV (.it (.ofNat 0)))) (eBin .add (eBin .mul (eBin .sub (bi1 kLen (lCons (eLoc 0) lNil)) (eV (.it (.ofNat 1)))) (eLoc 1)) (eBit (eSub (eLoc 0) (eNeg (eV (.it (.ofNat 1))))))) (eV (.it (.ofNat 0)))))
    sNil)
noncomputable def F_bits : FF := mkF 2 0 [] B_bits

-- ['a', 'b', 'w', 'found', 'mask', 'at', 'limb', 'carry', 'spot', 'other'] cells []
noncomputable def B_mul_school : SF := (sSeq (sUnpS [(false, 4), (false, 3)] (lCons (eBin .mul (eList (lCons (eV (.it (.ofNat 0))) lNil)) (eBin .add (bi1 kLen (lCons (eLoc 0) lNil)) (bi1 kLen (lCons (eLoc 1) lNil)))) (lCons (eBin .sub (eBin .shl (eV (.it (.ofNat 1))) (eLoc 2)) (eV (.it (.ofNat 1)))) lNil)))
    (sSeq (sForE 5 6 (eLoc 0) (sSeq (sAsg false 7 (eV (.it (.ofNat 0))))
    (sSeq (sForE 8 9 (eLoc 1) (sSeq (sAug .add 7 (eBin .add (eSub (eLoc 3) (eBin .add (eLoc 5) (eLoc 8))) (eBin .mul (eLoc 6) (eLoc 9))))
    (sSeq (sSub (eLoc 3) (eBin .add (eLoc 5) (eLoc 8)) (eBin .and (eLoc 7) (eLoc 4)))
    (sSeq (sAug .shr 7 (eLoc 2))
    sNil))))
    (sSeq (sSub (eLoc 3) (eBin .add (eLoc 5) (bi1 kLen (lCons (eLoc 1) lNil))) (eLoc 7))
    sNil))))
    (sSeq (sRet (eCall F_normal (lCons (eLoc 3) lNil)))
    sNil)))
noncomputable def F_mul_school : FF := mkF 3 7 [] B_mul_school

-- ['a', 'b', 'w', 'quotient', 'rest'] cells []
noncomputable def B_divrem_small : SF := (sSeq (sUnpC [(false, 3), (false, 4)] (eCall F_divrem_limb (lCons (eLoc 0) (lCons (eSub (eLoc 1) (eV (.it (.ofNat 0)))) (lCons (eLoc 2) lNil)))))
    (sSeq (sRet (eTup (lCons (eLoc 3) (lCons (eIf (tCmp .gt (eLoc 4) (eV (.it (.ofNat 0)))) (eList (lCons (eLoc 4) lNil)) (eList lNil)) lNil))))
    sNil))
noncomputable def F_divrem_small : FF := mkF 3 2 [] B_divrem_small

-- ['top', 'first', 'second', 'w', 'high', 'base', 'limb', 'rest'] cells []
noncomputable def B_guessed_limb : SF := (sSeq (sUnpS [(false, 5), (false, 4)] (lCons (eBin .or (eBin .shl (eSub (eLoc 0) (eV (.it (.ofNat 2)))) (eLoc 3)) (eSub (eLoc 0) (eV (.it (.ofNat 1))))) (lCons (eBin .shl (eV (.it (.ofNat 1))) (eLoc 3)) lNil)))
    (sSeq (sAsg false 6 (bi2 kMin (lCons (eBin .div (eLoc 4) (eLoc 1)) (lCons (eBin .sub (eLoc 5) (eV (.it (.ofNat 1)))) lNil))))
    (sSeq (sAsg false 7 (eBin .sub (eLoc 4) (eBin .mul (eLoc 6) (eLoc 1))))
    (sSeq (sWhile 100000 (tAnd (tCmp .lt (eLoc 7) (eLoc 5)) (tCmp .gt (eBin .mul (eLoc 6) (eLoc 2)) (eBin .or (eBin .shl (eLoc 7) (eLoc 3)) (eSub (eLoc 0) (eV (.it (.ofNat 0))))))) (sSeq (sAug .sub 6 (eV (.it (.ofNat 1))))
    (sSeq (sAug .add 7 (eLoc 1))
    sNil)))
    (sSeq (sRet (eLoc 6))
    sNil)))))
noncomputable def F_guessed_limb : FF := mkF 4 4 [] B_guessed_limb

-- ['rest', 'b', 'limb', 'at', 'w', 'carry', 'base', 'spot', 'other', 'here'] cells []
noncomputable def B_take_away : SF := (sSeq (sUnpS [(false, 6), (false, 5)] (lCons (eV (.it (.ofNat 0))) (lCons (eBin .shl (eV (.it (.ofNat 1))) (eLoc 4)) lNil)))
    (sSeq (sForE 7 8 (eLoc 1) (sSeq (sAsg false 9 (eBin .sub (eSub (eLoc 0) (eBin .add (eLoc 3) (eLoc 7))) (eBin .mod (eBin .add (eBin .mul (eLoc 2) (eLoc 8)) (eLoc 5)) (eLoc 6))))
    (sSeq (sAsg false 5 (eBin .add (eBin .div (eBin .add (eBin .mul (eLoc 2) (eLoc 8)) (eLoc 5)) (eLoc 6)) (eIf (tCmp .lt (eLoc 9) (eV (.it (.ofNat 0)))) (eV (.it (.ofNat 1))) (eV (.it (.ofNat 0))))))
    (sSeq (sSub (eLoc 0) (eBin .add (eLoc 3) (eLoc 7)) (eIf (tCmp .lt (eLoc 9) (eV (.it (.ofNat 0)))) (eBin .add (eLoc 9) (eLoc 6)) (eLoc 9)))
    sNil))))
    (sSeq (sAsg false 9 (eBin .sub (eSub (eLoc 0) (eBin .add (eLoc 3) (bi1 kLen (lCons (eLoc 1) lNil)))) (eLoc 5)))
    (sSeq (sSub (eLoc 0) (eBin .add (eLoc 3) (bi1 kLen (lCons (eLoc 1) lNil))) (eIf (tCmp .lt (eLoc 9) (eV (.it (.ofNat 0)))) (eBin .add (eLoc 9) (eLoc 6)) (eLoc 9)))
    (sSeq (sRet (eIf (tCmp .lt (eLoc 9) (eV (.it (.ofNat 0)))) (eV (.it (.ofNat 1))) (eV (.it (.ofNat 0)))))
    sNil)))))
noncomputable def F_take_away : FF := mkF 5 5 [] B_take_away

-- ['rest', 'b', 'at', 'w', 'carry', 'mask', 'spot', 'other'] cells []
noncomputable def B_put_back : SF := (sSeq (sUnpS [(false, 5), (false, 4)] (lCons (eV (.it (.ofNat 0))) (lCons (eBin .sub (eBin .shl (eV (.it (.ofNat 1))) (eLoc 3)) (eV (.it (.ofNat 1)))) lNil)))
    (sSeq (sForE 6 7 (eLoc 1) (sSeq (sAug .add 4 (eBin .add (eSub (eLoc 0) (eBin .add (eLoc 2) (eLoc 6))) (eLoc 7)))
    (sSeq (sSub (eLoc 0) (eBin .add (eLoc 2) (eLoc 6)) (eBin .and (eLoc 4) (eLoc 5)))
    (sSeq (sAug .shr 4 (eLoc 3))
    sNil))))
    (sSeq (sSub (eLoc 0) (eBin .add (eLoc 2) (bi1 kLen (lCons (eLoc 1) lNil))) (eBin .and (eBin .add (eSub (eLoc 0) (eBin .add (eLoc 2) (bi1 kLen (lCons (eLoc 1) lNil)))) (eLoc 4)) (eLoc 5)))
    sNil)))
noncomputable def F_put_back : FF := mkF 4 4 [] B_put_back

-- ['rest', 'b', 'w', 'size', 'quotient', 'at', 'limb'] cells []
noncomputable def B_divide_rows : SF := (sSeq (sAsg false 3 (bi1 kLen (lCons (eLoc 1) lNil)))
    (sSeq (sAsg false 4 (eBin .mul (eList (lCons (eV (.it (.ofNat 0))) lNil)) (eBin .sub (bi1 kLen (lCons (eLoc 0) lNil)) (eLoc 3))))
    (sSeq (sFor false 5 (srcR (lCons (eBin .sub (eBin .sub (bi1 kLen (lCons (eLoc 0) lNil)) (eLoc 3)) (eV (.it (.ofNat 1)))) (lCons (eNeg (eV (.it (.ofNat 1)))) (lCons (eNeg (eV (.it (.ofNat 1)))) lNil)))) (sSeq (sAsg false 6 (eCall F_guessed_limb (lCons (cutOf (eLoc 0) (eBin .sub (eBin .add (eLoc 5) (eLoc 3)) (eV (.it (.ofNat 2)))) (eBin .add (eBin .add (eLoc 5) (eLoc 3)) (eV (.it (.ofNat 1))))) (lCons (eSub (eLoc 1) (eBin .sub (eLoc 3) (eV (.it (.ofNat 1))))) (lCons (eSub (eLoc 1) (eBin .sub (eLoc 3) (eV (.it (.ofNat 2))))) (lCons (eLoc 2) lNil))))))
    (sSeq (sIf (tCmp .eq (eCall F_take_away (lCons (eLoc 0) (lCons (eLoc 1) (lCons (eLoc 6) (lCons (eLoc 5) (lCons (eLoc 2) lNil)))))) (eV (.it (.ofNat 1)))) (sSeq (sAug .sub 6 (eV (.it (.ofNat 1))))
    (sSeq (sDrop (eCall F_put_back (lCons (eLoc 0) (lCons (eLoc 1) (lCons (eLoc 5) (lCons (eLoc 2) lNil))))))
    sNil)) sNil)
    (sSeq (sSub (eLoc 4) (eLoc 5) (eLoc 6))
    sNil))))
    (sSeq (sRet (eLoc 4))
    sNil))))
noncomputable def F_divide_rows : FF := mkF 3 4 [] B_divide_rows

-- ['a', 'b', 'w', 'shift', 'divisor', 'rest', 'quotient'] cells []
noncomputable def B_divrem_school : SF := (sSeq (sIf (tCmp .eq (bi1 kLen (lCons (eLoc 1) lNil)) (eV (.it (.ofNat 0)))) (sSeq sBad
    sNil) sNil)
    (sSeq (sIf (tCmp .lt (eCall F_compare (lCons (eLoc 0) (lCons (eLoc 1) lNil))) (eV (.it (.ofNat 0)))) (sSeq (sRet (eTup (lCons (eList lNil) (lCons (cutAll false (eLoc 0)) lNil))))
    sNil) sNil)
    (sSeq (sIf (tCmp .eq (bi1 kLen (lCons (eLoc 1) lNil)) (eV (.it (.ofNat 1)))) (sSeq (sRet (eCall F_divrem_small (lCons (eLoc 0) (lCons (eLoc 1) (lCons (eLoc 2) lNil)))))
    sNil) sNil)
    (sSeq (sAsg false 3 (eBin .sub (eLoc 2) (eCall F_bits (lCons (eList (lCons (eSub (eLoc 1) (eNeg (eV (.it (.ofNat 1))))) lNil)) (lCons (eLoc 2) lNil)))))
    (sSeq (sAsg false 4 (eCall F_shift_left (lCons (eLoc 1) (lCons (eLoc 3) (lCons (eLoc 2) lNil)))))
    (sSeq (sAsg false 5 (eCall F_shift_left (lCons (eLoc 0) (lCons (eLoc 3) (lCons (eLoc 2) lNil)))))
    (sSeq (sAsg false 5 (eBin .add (eLoc 5) (eBin .mul (eList (lCons (eV (.it (.ofNat 0))) lNil)) (eBin .sub (eBin .add (bi1 kLen (lCons (eLoc 0) lNil)) (eV (.it (.ofNat 1)))) (bi1 kLen (lCons (eLoc 5) lNil))))))
    (sSeq (sAsg false 6 (eCall F_divide_rows (lCons (eLoc 5) (lCons (eLoc 4) (lCons (eLoc 2) lNil)))))
    (sSeq (sRet (eTup (lCons (eCall F_normal (lCons (eLoc 6) lNil)) (lCons (eCall F_shift_right (lCons (eCall F_normal (lCons (eLoc 5) lNil)) (lCons (eLoc 3) (lCons (eLoc 2) lNil)))) lNil))))
    sNil)))))))))
noncomputable def F_divrem_school : FF := mkF 3 4 [] B_divrem_school

-- ['yard', 'many'] cells []
noncomputable def B_law_next : SF := (sSeq (sSub (eLoc 0) (eV (.it (.ofNat 0))) (eBin .add (eSub (eLoc 0) (eV (.it (.ofNat 0)))) (eV (.it (.ofNat 1)))))
    (sSeq (sIf (tCmp .le (eSub (eLoc 0) (eV (.it (.ofNat 0)))) (bi1 kLen (lCons (eSub (eLoc 0) (eV (.it (.ofNat 1)))) lNil))) (sSeq (sRet (eBin .mod (eSub (eSub (eLoc 0) (eV (.it (.ofNat 1)))) (eBin .sub (eSub (eLoc 0) (eV (.it (.ofNat 0)))) (eV (.it (.ofNat 1))))) (eLoc 1)))
    sNil) sNil)
    (sSeq (sRet (eBin .mod (eBin .add (eBin .add (eBin .mul (eV (.it (.ofNat 4))) (eSub (eLoc 0) (eV (.it (.ofNat 0))))) (eBin .div (eSub (eLoc 0) (eV (.it (.ofNat 0)))) (eV (.it (.ofNat 2))))) (eV (.it (.ofNat 3)))) (eLoc 1)))
    sNil)))
noncomputable def F_law_next : FF := mkF 2 0 [] B_law_next

-- ['number', 'w', 'found'] cells []
noncomputable def B_law_limbs : SF := (sSeq (sAsg false 2 (eList lNil))
    (sSeq (sWhile 100000 (tCmp .gt (eLoc 0) (eV (.it (.ofNat 0)))) (sSeq (sApp (eLoc 2) (eBin .mod (eLoc 0) (eBin .pow (eV (.it (.ofNat 2))) (eLoc 1))))
    (sSeq (sAsg false 0 (eBin .div (eLoc 0) (eBin .pow (eV (.it (.ofNat 2))) (eLoc 1))))
    sNil)))
    (sSeq (sRet (eLoc 2))
    sNil)))
noncomputable def F_law_limbs : FF := mkF 2 1 [] B_law_limbs

-- ['row', 'w', 'found', 'limb'] cells []
noncomputable def B_law_told : SF := (sSeq (sAsg false 2 (eV (.it (.ofNat 0))))
    (sSeq (sFor false 3 (srcS (cutAll true (eLoc 0))) (sSeq (sAsg false 2 (eBin .add (eBin .mul (eLoc 2) (eBin .pow (eV (.it (.ofNat 2))) (eLoc 1))) (eLoc 3)))
    sNil))
    (sSeq (sRet (eLoc 2))
    sNil)))
noncomputable def F_law_told : FF := mkF 2 2 [] B_law_told

-- ['base', 'most', 'w', 'rows', 'many', 'row', 'above', 'at', 'one', 'turn'] cells []
noncomputable def B_law_rows : SF := (sSeq (sAsg false 3 (eList (lCons (eList (lCons (eList (lCons (eV (.it (.ofNat 1))) lNil)) lNil)) lNil)))
    (sSeq (sFor false 4 (srcR (lCons (eLoc 1) lNil)) (sSeq (sUnpS [(false, 6), (false, 5)] (lCons (eList lNil) (lCons (eBin .add (eSub (eLoc 3) (eNeg (eV (.it (.ofNat 1))))) (eList (lCons (eList lNil) lNil))) lNil)))
    (sSeq (sFor false 7 (srcR (lCons (eBin .add (eLoc 4) (eV (.it (.ofNat 2)))) lNil)) (sSeq (sAsg false 8 (eSub (eLoc 6) (eLoc 7)))
    (sSeq (sFor false 9 (srcR (lCons (eLoc 7) lNil)) (sSeq (sAsg false 8 (eCall F_mul_limb (lCons (eLoc 8) (lCons (eLoc 0) (lCons (eLoc 2) lNil)))))
    sNil))
    (sSeq (sApp (eLoc 5) (eCall F_add (lCons (eLoc 8) (lCons (eIf (tCmp .gt (eLoc 7) (eV (.it (.ofNat 0)))) (eSub (eLoc 6) (eBin .sub (eLoc 7) (eV (.it (.ofNat 1))))) (eList lNil)) (lCons (eLoc 2) lNil)))))
    sNil))))
    (sSeq (sApp (eLoc 3) (eLoc 5))
    sNil))))
    (sSeq (sRet (eLoc 3))
    sNil)))
noncomputable def F_law_rows : FF := mkF 3 7 [] B_law_rows

-- ['base', 'many', 'part', 'w', 'over', 'under', 'at', 'found', 'left'] cells []
noncomputable def B_law_by_products : SF := (sSeq (sUnpS [(false, 5), (false, 4)] (lCons (eList (lCons (eV (.it (.ofNat 1))) lNil)) (lCons (eList (lCons (eV (.it (.ofNat 1))) lNil)) lNil)))
    (sSeq (sFor false 6 (srcR (lCons (eLoc 2) lNil)) (sSeq (sAsg false 4 (eCall F_mul_school (lCons (eLoc 4) (lCons (eCallZ F_law_limbs (lCons (eBin .sub (eBin .pow (eLoc 0) (eBin .sub (eLoc 1) (eLoc 6))) (eV (.it (.ofNat 1)))) (lCons (eLoc 3) lNil))) (lCons (eLoc 3) lNil)))))
    (sSeq (sAsg false 5 (eCall F_mul_school (lCons (eLoc 5) (lCons (eCallZ F_law_limbs (lCons (eBin .sub (eBin .pow (eLoc 0) (eBin .add (eLoc 6) (eV (.it (.ofNat 1))))) (eV (.it (.ofNat 1)))) (lCons (eLoc 3) lNil))) (lCons (eLoc 3) lNil)))))
    sNil)))
    (sSeq (sUnpC [(false, 7), (false, 8)] (eCall F_divrem_school (lCons (eLoc 4) (lCons (eLoc 5) (lCons (eLoc 3) lNil)))))
    (sSeq (sRet (eIf (tCmp .eq (eLoc 8) (eList lNil)) (eLoc 7) (eV .nn)))
    sNil))))
noncomputable def F_law_by_products : FF := mkF 4 5 [] B_law_by_products

-- ['base', 'most', 'rows', 'many', 'above'] cells ['above', 'base', 'many']
noncomputable def B_law_by_plain : SF := (sSeq (sAsg false 2 (eList (lCons (eList (lCons (eV (.it (.ofNat 1))) lNil)) lNil)))
    (sSeq (sFor true 3 (srcR (lCons (eV (.it (.ofNat 1))) (lCons (eBin .add (eLoc 1) (eV (.it (.ofNat 1)))) lNil))) (sSeq (sAsg true 4 (eBin .add (eSub (eLoc 2) (eNeg (eV (.it (.ofNat 1))))) (eList (lCons (eV (.it (.ofNat 0))) lNil))))
    (sSeq (sApp (eLoc 2) (eBin .add (eList (lCons (eV (.it (.ofNat 1))) lNil)) (eCmp (eBin .add (eSub (eCel 1) (eLoc 0)) (eBin .mul (eBin .pow (eCel 2) (eBin .sub (eCel 3) (eLoc 0))) (eSub (eCel 1) (eBin .sub (eLoc 0) (eV (.it (.ofNat 1))))))) [4, 0, 3] (srcR (lCons (eV (.it (.ofNat 1))) (lCons (eBin .add (eCel 3) (eV (.it (.ofNat 1)))) lNil))))))
    sNil)))
    (sSeq (sRet (eLoc 2))
    sNil)))
noncomputable def F_law_by_plain : FF := mkF 2 3 [4, 0, 3] B_law_by_plain

-- ['many', 'level', 'found', 'turn', 'later', 'space', 'one', 'more'] cells ['one']
noncomputable def B_law_spaces : SF := (sSeq (sUnpS [(false, 2), (false, 1)] (lCons (eList (lCons (eTup (lCons (eV (.it (.ofNat 0))) lNil)) lNil)) (lCons (eList lNil) lNil)))
    (sSeq (sFor false 3 (srcR (lCons (eBin .add (eLoc 0) (eV (.it (.ofNat 1)))) lNil)) (sSeq (sApp (eLoc 2) (bi1 kLen (lCons (eLoc 1) lNil)))
    (sSeq (sAsg false 4 (eList lNil))
    (sSeq (sFor false 5 (srcS (eLoc 1)) (sSeq (sFor true 6 (srcR (lCons (eV (.it (.ofNat 1))) (lCons (eBin .pow (eV (.it (.ofNat 2))) (eLoc 0)) lNil))) (sSeq (sAsg false 7 (eIf (tNotIn (eCel 6) (eLoc 5)) (bi1 kTup (lCons (bi1 kSort (lCons (eBin .add (eLoc 5) (bi1 kTup (lCons (eCmp (eBin .xor (eCel 1) (eLoc 0)) [6] (srcS (eLoc 5))) lNil))) lNil)) lNil)) (eV .nn)))
    (sSeq (sIf (tAnd (tNotNone (eLoc 7)) (tNotIn (eLoc 7) (eLoc 4))) (sSeq (sApp (eLoc 4) (eLoc 7))
    sNil) sNil)
    sNil)))
    sNil))
    (sSeq (sAsg false 1 (eLoc 4))
    sNil)))))
    (sSeq (sRet (eLoc 2))
    sNil)))
noncomputable def F_law_spaces : FF := mkF 1 7 [6] B_law_spaces

-- ['script', 'yard', 'w', 'base', 'most', 'here', 'rows', 'due', 'many', 'told', 'total', 'found', 'at'] cells ['w', 'base', 'many']
noncomputable def B_law : SF := (sSeq (sAsg false 1 (eList (lCons (eV (.it (.ofNat 0))) (lCons (eCmp (bi1 kAbs (lCons (bi1 kInt (lCons (eLoc 0) lNil)) lNil)) [] (srcS (cutTo (eLoc 0) (eV (.it (.ofNat 4)))))) lNil))))
    (sSeq (sUnpD [(true, 2), (true, 3), (false, 4)] (lCons (eBin .add (eV (.it (.ofNat 8))) (eCall F_law_next (lCons (eLoc 1) (lCons (eV (.it (.ofNat 5))) lNil)))) (lCons (eBin .add (eV (.it (.ofNat 2))) (eCall F_law_next (lCons (eLoc 1) (lCons (eV (.it (.ofNat 3))) lNil)))) (lCons (eBin .add (eV (.it (.ofNat 3))) (eCall F_law_next (lCons (eLoc 1) (lCons (eV (.it (.ofNat 3))) lNil)))) lNil))))
    (sSeq (sUnpS [(false, 7), (false, 6), (false, 5)] (lCons (eBin .add (eV (.it (.ofNat 1))) (eCall F_law_next (lCons (eLoc 1) (lCons (eV (.it (.ofNat 3))) lNil)))) (lCons (eCall F_law_rows (lCons (eCel 3) (lCons (eLoc 4) (lCons (eCel 2) lNil)))) (lCons (eCall F_law_by_plain (lCons (eCel 3) (lCons (eLoc 4) lNil))) lNil))))
    (sSeq (sFor true 8 (srcR (lCons (eBin .add (eLoc 4) (eV (.it (.ofNat 1)))) lNil)) (sSeq (sAsg false 9 (eCmp (eCall F_law_told (lCons (eLoc 0) (lCons (eCel 1) lNil))) [2] (srcS (eSub (eLoc 6) (eCel 8)))))
    (sSeq (sIf (tOr (tCmp .ne (eLoc 9) (eSub (eLoc 7) (eCel 8))) (tCmp .ne (eSub (eLoc 6) (eCel 8)) (cutAll true (eSub (eLoc 6) (eCel 8))))) (sSeq (sRet (eV (.bo false)))
    sNil) sNil)
    (sSeq (sIf (tCmp .ne (eSub (eLoc 6) (eCel 8)) (eCmp (eCallZ F_law_by_products (lCons (eCel 1) (lCons (eCel 2) (lCons (eLoc 0) (lCons (eCel 3) lNil))))) [3, 8, 2] (srcR (lCons (eBin .add (eCel 8) (eV (.it (.ofNat 1)))) lNil)))) (sSeq (sRet (eV (.bo false)))
    sNil) sNil)
    (sSeq (sIf (tAnd (tCmp .eq (eCel 3) (eV (.it (.ofNat 2)))) (tAnd (tCmp .lt (eCel 8) (eV (.it (.ofNat 4)))) (tCmp .ne (eLoc 9) (eCallZ F_law_spaces (lCons (eCel 8) lNil))))) (sSeq (sRet (eV (.bo false)))
    sNil) sNil)
    (sSeq (sUnpD [(false, 10), (false, 11)] (lCons (eV (.it (.ofNat 1))) (lCons (eV (.it (.ofNat 0))) lNil)))
    (sSeq (sFor false 12 (srcR (lCons (eCel 8) lNil)) (sSeq (sAsg false 10 (eBin .mul (eLoc 10) (eBin .add (eV (.it (.ofNat 1))) (eBin .mul (eBin .pow (eCel 3) (eLoc 12)) (eLoc 5)))))
    sNil))
    (sSeq (sFor false 12 (srcR (lCons (eBin .add (eCel 8) (eV (.it (.ofNat 1)))) lNil)) (sSeq (sAsg false 11 (eBin .add (eLoc 11) (eBin .mul (eBin .mul (eSub (eLoc 9) (eLoc 12)) (eBin .pow (eCel 3) (eBin .div (eBin .mul (eLoc 12) (eBin .sub (eLoc 12) (eV (.it (.ofNat 1))))) (eV (.it (.ofNat 2)))))) (eBin .pow (eLoc 5) (eLoc 12)))))
    sNil))
    (sSeq (sIf (tCmp .ne (eLoc 11) (eLoc 10)) (sSeq (sRet (eV (.bo false)))
    sNil) sNil)
    sNil)))))))))
    (sSeq (sRet (eV (.bo true)))
    sNil)))))
noncomputable def F_law : FF := mkF 1 12 [2, 3, 8] B_law

end Mine
end

section
set_option maxRecDepth 100000
namespace Mine
open PySem PySem.W PySem.Spec PySem.Calls PyProof.Rows
structure Hyp (C : Cx) : Prop where
  r : ∀ i ∈ [3, 4, 5, 6, 7, 8, 9, 10, 12, 13, 14, 15, 16, 17, 18, 20, 21, 22, 23, 24, 25, 26, 27], drOf (nthS PySem.Challenge.pw_xw0110_01.main.body i) ∈ recsOf C.p
  b_len : C.mg ("len" : Str) = none
  b_abs : C.mg ("abs" : Str) = none
  b_int : C.mg ("int" : Str) = none
  b_min : C.mg ("min" : Str) = none
  b_tuple : C.mg ("tuple" : Str) = none
  b_sorted : C.mg ("sorted" : Str) = none
  b_range : C.mg ("range" : Str) = none
  b_enumerate : C.mg ("enumerate" : Str) = none
def R_normal : DefRec := drOf (nthS PySem.Challenge.pw_xw0110_01.main.body 3)
def X_normal : Sx := ⟨R_normal.scope, [("a", false), ("end", false)]⟩
theorem S_normal_0 : SlotD X_normal false 0 "a" := slot_of (by decide +kernel)
theorem S_normal_1 : SlotD X_normal false 1 "end" := slot_of (by decide +kernel)
theorem G_normal_len : X_normal.sc.names.lookup ("len" : Str) = some NameKind.globalImplicit := glb_of (by decide +kernel)
theorem ND_normal : (X_normal.ns.map (·.1)).Nodup := by decide +kernel
theorem D_normal {C : Cx} (H : Hyp C) : DenB C X_normal 0 R_normal.body B_normal :=
  (denB_cons (denS_asg ND_normal rfl S_normal_1.toSlot' (den_len H.b_len rfl G_normal_len rfl (denL_cons (den_locS rfl S_normal_0) denL_nil)) (fun _ _ _ _ _ _ => rfl))
    (denB_cons (denS_while (denT_and (denT_cmp rfl (den_locS rfl S_normal_1) den_int) (denT_cmp rfl (den_sub (den_locS rfl S_normal_0) (den_bin rfl (den_locS rfl S_normal_1) den_int)) den_int)) (denB_cons (denS_aug rfl ND_normal rfl S_normal_1.toSlot' den_int)
    denB_nil))
    (denB_cons (denS_ret (den_cutTo (den_locS rfl S_normal_0) (den_locS rfl S_normal_1)))
    denB_nil)))
theorem E_normal {C : Cx} (H : Hyp C) : ∃ d ∈ recsOf C.p, d.name = ("normal" : Str) := ⟨R_normal, H.r 3 (by decide), by kernel_rfl⟩
theorem C_normal {C : Cx} (H : Hyp C) : Con C 1 ("normal" : Str) F_normal :=
  con_ofS (X := X_normal) (d := R_normal) (H.r 3 (by decide)) rfl (by decide +kernel) (fun pm code doc => un1 fun a => by kernel_rfl) (D_normal H)

def R_compare : DefRec := drOf (nthS PySem.Challenge.pw_xw0110_01.main.body 4)
def X_compare : Sx := ⟨R_compare.scope, [("a", false), ("b", false), ("at", false)]⟩
theorem S_compare_0 : SlotD X_compare false 0 "a" := slot_of (by decide +kernel)
theorem S_compare_1 : SlotD X_compare false 1 "b" := slot_of (by decide +kernel)
theorem S_compare_2 : SlotD X_compare false 2 "at" := slot_of (by decide +kernel)
theorem G_compare_len : X_compare.sc.names.lookup ("len" : Str) = some NameKind.globalImplicit := glb_of (by decide +kernel)
theorem G_compare_range : X_compare.sc.names.lookup ("range" : Str) = some NameKind.globalImplicit := glb_of (by decide +kernel)
theorem ND_compare : (X_compare.ns.map (·.1)).Nodup := by decide +kernel
theorem D_compare {C : Cx} (H : Hyp C) : DenB C X_compare 0 R_compare.body B_compare :=
  (denB_cons (denS_if (denT_cmp rfl (den_len H.b_len rfl G_compare_len rfl (denL_cons (den_locS rfl S_compare_0) denL_nil)) (den_len H.b_len rfl G_compare_len rfl (denL_cons (den_locS rfl S_compare_1) denL_nil))) (denB_cons (denS_ret (den_if (denT_cmp rfl (den_len H.b_len rfl G_compare_len rfl (denL_cons (den_locS rfl S_compare_0) denL_nil)) (den_len H.b_len rfl G_compare_len rfl (denL_cons (den_locS rfl S_compare_1) denL_nil))) (den_neg den_int) den_int))
    denB_nil) denB_nil)
    (denB_cons (denS_for ND_compare rfl S_compare_2.toSlot' (denI_range H.b_range rfl G_compare_range rfl (denL_cons (den_bin rfl (den_len H.b_len rfl G_compare_len rfl (denL_cons (den_locS rfl S_compare_0) denL_nil)) den_int) (denL_cons (den_neg den_int) (denL_cons (den_neg den_int) denL_nil)))) (denB_cons (denS_if (denT_cmp rfl (den_sub (den_locS rfl S_compare_0) (den_locS rfl S_compare_2)) (den_sub (den_locS rfl S_compare_1) (den_locS rfl S_compare_2))) (denB_cons (denS_ret (den_if (denT_cmp rfl (den_sub (den_locS rfl S_compare_0) (den_locS rfl S_compare_2)) (den_sub (den_locS rfl S_compare_1) (den_locS rfl S_compare_2))) (den_neg den_int) den_int))
    denB_nil) denB_nil)
    denB_nil) (fun _ _ _ _ _ _ _ => rfl))
    (denB_cons (denS_ret den_int)
    denB_nil)))
theorem E_compare {C : Cx} (H : Hyp C) : ∃ d ∈ recsOf C.p, d.name = ("compare" : Str) := ⟨R_compare, H.r 4 (by decide), by kernel_rfl⟩
theorem C_compare {C : Cx} (H : Hyp C) : Con C 1 ("compare" : Str) F_compare :=
  con_ofS (X := X_compare) (d := R_compare) (H.r 4 (by decide)) rfl (by decide +kernel) (fun pm code doc => un2 fun a b => by kernel_rfl) (D_compare H)

def R_add : DefRec := drOf (nthS PySem.Challenge.pw_xw0110_01.main.body 5)
def X_add : Sx := ⟨R_add.scope, [("a", false), ("b", false), ("w", false), ("found", false), ("carry", false), ("mask", false), ("at", false)]⟩
theorem S_add_0 : SlotD X_add false 0 "a" := slot_of (by decide +kernel)
theorem S_add_1 : SlotD X_add false 1 "b" := slot_of (by decide +kernel)
theorem S_add_2 : SlotD X_add false 2 "w" := slot_of (by decide +kernel)
theorem S_add_3 : SlotD X_add false 3 "found" := slot_of (by decide +kernel)
theorem S_add_4 : SlotD X_add false 4 "carry" := slot_of (by decide +kernel)
theorem S_add_5 : SlotD X_add false 5 "mask" := slot_of (by decide +kernel)
theorem S_add_6 : SlotD X_add false 6 "at" := slot_of (by decide +kernel)
theorem G_add_len : X_add.sc.names.lookup ("len" : Str) = some NameKind.globalImplicit := glb_of (by decide +kernel)
theorem G_add_range : X_add.sc.names.lookup ("range" : Str) = some NameKind.globalImplicit := glb_of (by decide +kernel)
theorem ND_add : (X_add.ns.map (·.1)).Nodup := by decide +kernel
theorem D_add {C : Cx} (H : Hyp C) : DenB C X_add 0 R_add.body B_add :=
  (denB_cons (denS_if (denT_cmp rfl (den_len H.b_len rfl G_add_len rfl (denL_cons (den_locS rfl S_add_0) denL_nil)) (den_len H.b_len rfl G_add_len rfl (denL_cons (den_locS rfl S_add_1) denL_nil))) (denB_cons (denS_unpS (names := [("a" : Str), ("b" : Str)]) ND_add rfl (fun _ _ _ _ _ _ => (.cons S_add_1.toSlot' stO_bind (.cons S_add_0.toSlot' stO_bind .nil))) (denL_cons (den_locS rfl S_add_1) (denL_cons (den_locS rfl S_add_0) denL_nil)) (fun _ _ _ _ _ _ => rfl) (fun _ _ _ _ _ _ => by kernel_rfl))
    denB_nil) denB_nil)
    (denB_cons (denS_unpS (names := [("found" : Str), ("carry" : Str), ("mask" : Str)]) ND_add rfl (fun _ _ _ _ _ _ => (.cons S_add_5.toSlot' stO_bind (.cons S_add_4.toSlot' stO_bind (.cons S_add_3.toSlot' stO_bind .nil)))) (denL_cons (den_list denL_nil) (denL_cons den_int (denL_cons (den_bin rfl (den_bin rfl den_int (den_locS rfl S_add_2)) den_int) denL_nil))) (fun _ _ _ _ _ _ => rfl) (fun _ _ _ _ _ _ => by kernel_rfl))
    (denB_cons (denS_for ND_add rfl S_add_6.toSlot' (denI_range H.b_range rfl G_add_range rfl (denL_cons (den_len H.b_len rfl G_add_len rfl (denL_cons (den_locS rfl S_add_1) denL_nil)) denL_nil)) (denB_cons (denS_aug rfl ND_add rfl S_add_4.toSlot' (den_bin rfl (den_sub (den_locS rfl S_add_0) (den_locS rfl S_add_6)) (den_sub (den_locS rfl S_add_1) (den_locS rfl S_add_6))))
    (denB_cons (denS_app (den_locS rfl S_add_3) (den_bin rfl (den_locS rfl S_add_4) (den_locS rfl S_add_5)) rfl (fun _ _ _ _ _ _ => rfl) rfl (fun _ _ _ _ _ _ => rfl))
    (denB_cons (denS_aug rfl ND_add rfl S_add_4.toSlot' (den_locS rfl S_add_2))
    denB_nil))) (fun _ _ _ _ _ _ _ => rfl))
    (denB_cons (denS_for ND_add rfl S_add_6.toSlot' (denI_range H.b_range rfl G_add_range rfl (denL_cons (den_len H.b_len rfl G_add_len rfl (denL_cons (den_locS rfl S_add_1) denL_nil)) (denL_cons (den_len H.b_len rfl G_add_len rfl (denL_cons (den_locS rfl S_add_0) denL_nil)) denL_nil))) (denB_cons (denS_aug rfl ND_add rfl S_add_4.toSlot' (den_sub (den_locS rfl S_add_0) (den_locS rfl S_add_6)))
    (denB_cons (denS_app (den_locS rfl S_add_3) (den_bin rfl (den_locS rfl S_add_4) (den_locS rfl S_add_5)) rfl (fun _ _ _ _ _ _ => rfl) rfl (fun _ _ _ _ _ _ => rfl))
    (denB_cons (denS_aug rfl ND_add rfl S_add_4.toSlot' (den_locS rfl S_add_2))
    denB_nil))) (fun _ _ _ _ _ _ _ => rfl))
    (denB_cons (denS_if (denT_cmp rfl (den_locS rfl S_add_4) den_int) (denB_cons (denS_app (den_locS rfl S_add_3) (den_locS rfl S_add_4) rfl (fun _ _ _ _ _ _ => rfl) rfl (fun _ _ _ _ _ _ => rfl))
    denB_nil) denB_nil)
    (denB_cons (denS_ret (den_locS rfl S_add_3))
    denB_nil))))))
theorem E_add {C : Cx} (H : Hyp C) : ∃ d ∈ recsOf C.p, d.name = ("add" : Str) := ⟨R_add, H.r 5 (by decide), by kernel_rfl⟩
theorem C_add {C : Cx} (H : Hyp C) : Con C 1 ("add" : Str) F_add :=
  con_ofS (X := X_add) (d := R_add) (H.r 5 (by decide)) rfl (by decide +kernel) (fun pm code doc => un3 fun a b c => by kernel_rfl) (D_add H)

def R_mul_limb : DefRec := drOf (nthS PySem.Challenge.pw_xw0110_01.main.body 6)
def X_mul_limb : Sx := ⟨R_mul_limb.scope, [("a", false), ("limb", false), ("w", false), ("found", false), ("carry", false), ("mask", false), ("one", false)]⟩
theorem S_mul_limb_0 : SlotD X_mul_limb false 0 "a" := slot_of (by decide +kernel)
theorem S_mul_limb_1 : SlotD X_mul_limb false 1 "limb" := slot_of (by decide +kernel)
theorem S_mul_limb_2 : SlotD X_mul_limb false 2 "w" := slot_of (by decide +kernel)
theorem S_mul_limb_3 : SlotD X_mul_limb false 3 "found" := slot_of (by decide +kernel)
theorem S_mul_limb_4 : SlotD X_mul_limb false 4 "carry" := slot_of (by decide +kernel)
theorem S_mul_limb_5 : SlotD X_mul_limb false 5 "mask" := slot_of (by decide +kernel)
theorem S_mul_limb_6 : SlotD X_mul_limb false 6 "one" := slot_of (by decide +kernel)
theorem ND_mul_limb : (X_mul_limb.ns.map (·.1)).Nodup := by decide +kernel
theorem D_mul_limb {C : Cx} (H : Hyp C) : DenB C X_mul_limb 0 R_mul_limb.body B_mul_limb :=
  (denB_cons (denS_if (denT_cmp rfl (den_locS rfl S_mul_limb_1) den_int) (denB_cons (denS_ret (den_list denL_nil))
    denB_nil) denB_nil)
    (denB_cons (denS_unpS (names := [("found" : Str), ("carry" : Str), ("mask" : Str)]) ND_mul_limb rfl (fun _ _ _ _ _ _ => (.cons S_mul_limb_5.toSlot' stO_bind (.cons S_mul_limb_4.toSlot' stO_bind (.cons S_mul_limb_3.toSlot' stO_bind .nil)))) (denL_cons (den_list denL_nil) (denL_cons den_int (denL_cons (den_bin rfl (den_bin rfl den_int (den_locS rfl S_mul_limb_2)) den_int) denL_nil))) (fun _ _ _ _ _ _ => rfl) (fun _ _ _ _ _ _ => by kernel_rfl))
    (denB_cons (denS_for ND_mul_limb rfl S_mul_limb_6.toSlot' (denI_seq (den_locS rfl S_mul_limb_0)) (denB_cons (denS_aug rfl ND_mul_limb rfl S_mul_limb_4.toSlot' (den_bin rfl (den_locS rfl S_mul_limb_6) (den_locS rfl S_mul_limb_1)))
    (denB_cons (denS_app (den_locS rfl S_mul_limb_3) (den_bin rfl (den_locS rfl S_mul_limb_4) (den_locS rfl S_mul_limb_5)) rfl (fun _ _ _ _ _ _ => rfl) rfl (fun _ _ _ _ _ _ => rfl))
    (denB_cons (denS_aug rfl ND_mul_limb rfl S_mul_limb_4.toSlot' (den_locS rfl S_mul_limb_2))
    denB_nil))) (fun _ _ _ _ _ _ _ => rfl))
    (denB_cons (denS_if (denT_cmp rfl (den_locS rfl S_mul_limb_4) den_int) (denB_cons (denS_app (den_locS rfl S_mul_limb_3) (den_locS rfl S_mul_limb_4) rfl (fun _ _ _ _ _ _ => rfl) rfl (fun _ _ _ _ _ _ => rfl))
    denB_nil) denB_nil)
    (denB_cons (denS_ret (den_locS rfl S_mul_limb_3))
    denB_nil)))))
theorem E_mul_limb {C : Cx} (H : Hyp C) : ∃ d ∈ recsOf C.p, d.name = ("mul_limb" : Str) := ⟨R_mul_limb, H.r 6 (by decide), by kernel_rfl⟩
theorem C_mul_limb {C : Cx} (H : Hyp C) : Con C 1 ("mul_limb" : Str) F_mul_limb :=
  con_ofS (X := X_mul_limb) (d := R_mul_limb) (H.r 6 (by decide)) rfl (by decide +kernel) (fun pm code doc => un3 fun a b c => by kernel_rfl) (D_mul_limb H)

def R_divrem_limb : DefRec := drOf (nthS PySem.Challenge.pw_xw0110_01.main.body 7)
def X_divrem_limb : Sx := ⟨R_divrem_limb.scope, [("a", false), ("limb", false), ("w", false), ("found", false), ("rest", false), ("at", false)]⟩
theorem S_divrem_limb_0 : SlotD X_divrem_limb false 0 "a" := slot_of (by decide +kernel)
theorem S_divrem_limb_1 : SlotD X_divrem_limb false 1 "limb" := slot_of (by decide +kernel)
theorem S_divrem_limb_2 : SlotD X_divrem_limb false 2 "w" := slot_of (by decide +kernel)
theorem S_divrem_limb_3 : SlotD X_divrem_limb false 3 "found" := slot_of (by decide +kernel)
theorem S_divrem_limb_4 : SlotD X_divrem_limb false 4 "rest" := slot_of (by decide +kernel)
theorem S_divrem_limb_5 : SlotD X_divrem_limb false 5 "at" := slot_of (by decide +kernel)
theorem G_divrem_limb_len : X_divrem_limb.sc.names.lookup ("len" : Str) = some NameKind.globalImplicit := glb_of (by decide +kernel)
theorem G_divrem_limb_normal : X_divrem_limb.sc.names.lookup ("normal" : Str) = some NameKind.globalImplicit := glb_of (by decide +kernel)
theorem G_divrem_limb_range : X_divrem_limb.sc.names.lookup ("range" : Str) = some NameKind.globalImplicit := glb_of (by decide +kernel)
theorem ND_divrem_limb : (X_divrem_limb.ns.map (·.1)).Nodup := by decide +kernel
theorem D_divrem_limb {C : Cx} (H : Hyp C) : DenB C X_divrem_limb 1 R_divrem_limb.body B_divrem_limb :=
  (denB_cons (denS_if (denT_cmp rfl (den_locS rfl S_divrem_limb_1) den_int) (denB_cons denS_bad
    denB_nil) denB_nil)
    (denB_cons (denS_unpS (names := [("found" : Str), ("rest" : Str)]) ND_divrem_limb rfl (fun _ _ _ _ _ _ => (.cons S_divrem_limb_4.toSlot' stO_bind (.cons S_divrem_limb_3.toSlot' stO_bind .nil))) (denL_cons (den_bin rfl (den_list (denL_cons den_int denL_nil)) (den_len H.b_len rfl G_divrem_limb_len rfl (denL_cons (den_locS rfl S_divrem_limb_0) denL_nil))) (denL_cons den_int denL_nil)) (fun _ _ _ _ _ _ => rfl) (fun _ _ _ _ _ _ => by kernel_rfl))
    (denB_cons (denS_for ND_divrem_limb rfl S_divrem_limb_5.toSlot' (denI_range H.b_range rfl G_divrem_limb_range rfl (denL_cons (den_bin rfl (den_len H.b_len rfl G_divrem_limb_len rfl (denL_cons (den_locS rfl S_divrem_limb_0) denL_nil)) den_int) (denL_cons (den_neg den_int) (denL_cons (den_neg den_int) denL_nil)))) (denB_cons (denS_asg ND_divrem_limb rfl S_divrem_limb_4.toSlot' (den_bin rfl (den_bin rfl (den_locS rfl S_divrem_limb_4) (den_locS rfl S_divrem_limb_2)) (den_sub (den_locS rfl S_divrem_limb_0) (den_locS rfl S_divrem_limb_5))) (fun _ _ _ _ _ _ => rfl))
    (denB_cons (denS_sub (den_locS rfl S_divrem_limb_3) (den_locS rfl S_divrem_limb_5) (den_bin rfl (den_locS rfl S_divrem_limb_4) (den_locS rfl S_divrem_limb_1)) (fun _ _ _ _ _ _ => rfl))
    (denB_cons (denS_aug rfl ND_divrem_limb rfl S_divrem_limb_4.toSlot' (den_locS rfl S_divrem_limb_1))
    denB_nil))) (fun _ _ _ _ _ _ _ => rfl))
    (denB_cons (denS_ret (den_tup (denL_cons (den_call ((C_normal H).le (by decide)) (E_normal H) rfl G_divrem_limb_normal rfl rfl (denL_cons (den_locS rfl S_divrem_limb_3) denL_nil)) (denL_cons (den_locS rfl S_divrem_limb_4) denL_nil))))
    denB_nil))))
theorem E_divrem_limb {C : Cx} (H : Hyp C) : ∃ d ∈ recsOf C.p, d.name = ("divrem_limb" : Str) := ⟨R_divrem_limb, H.r 7 (by decide), by kernel_rfl⟩
theorem C_divrem_limb {C : Cx} (H : Hyp C) : Con C 2 ("divrem_limb" : Str) F_divrem_limb :=
  con_ofS (X := X_divrem_limb) (d := R_divrem_limb) (H.r 7 (by decide)) rfl (by decide +kernel) (fun pm code doc => un3 fun a b c => by kernel_rfl) (D_divrem_limb H)

def R_shift_left : DefRec := drOf (nthS PySem.Challenge.pw_xw0110_01.main.body 8)
def X_shift_left : Sx := ⟨R_shift_left.scope, [("a", false), ("n", false), ("w", false), ("spots", false), ("few", false), ("found", false), ("carry", false), ("mask", false), ("one", false)]⟩
theorem S_shift_left_0 : SlotD X_shift_left false 0 "a" := slot_of (by decide +kernel)
theorem S_shift_left_1 : SlotD X_shift_left false 1 "n" := slot_of (by decide +kernel)
theorem S_shift_left_2 : SlotD X_shift_left false 2 "w" := slot_of (by decide +kernel)
theorem S_shift_left_3 : SlotD X_shift_left false 3 "spots" := slot_of (by decide +kernel)
theorem S_shift_left_4 : SlotD X_shift_left false 4 "few" := slot_of (by decide +kernel)
theorem S_shift_left_5 : SlotD X_shift_left false 5 "found" := slot_of (by decide +kernel)
theorem S_shift_left_6 : SlotD X_shift_left false 6 "carry" := slot_of (by decide +kernel)
theorem S_shift_left_7 : SlotD X_shift_left false 7 "mask" := slot_of (by decide +kernel)
theorem S_shift_left_8 : SlotD X_shift_left false 8 "one" := slot_of (by decide +kernel)
theorem G_shift_left_len : X_shift_left.sc.names.lookup ("len" : Str) = some NameKind.globalImplicit := glb_of (by decide +kernel)
theorem ND_shift_left : (X_shift_left.ns.map (·.1)).Nodup := by decide +kernel
theorem D_shift_left {C : Cx} (H : Hyp C) : DenB C X_shift_left 0 R_shift_left.body B_shift_left :=
  (denB_cons (denS_if (denT_cmp rfl (den_len H.b_len rfl G_shift_left_len rfl (denL_cons (den_locS rfl S_shift_left_0) denL_nil)) den_int) (denB_cons (denS_ret (den_list denL_nil))
    denB_nil) denB_nil)
    (denB_cons (denS_unpS (names := [("spots" : Str), ("few" : Str)]) ND_shift_left rfl (fun _ _ _ _ _ _ => (.cons S_shift_left_4.toSlot' stO_bind (.cons S_shift_left_3.toSlot' stO_bind .nil))) (denL_cons (den_bin rfl (den_locS rfl S_shift_left_1) (den_locS rfl S_shift_left_2)) (denL_cons (den_bin rfl (den_locS rfl S_shift_left_1) (den_locS rfl S_shift_left_2)) denL_nil)) (fun _ _ _ _ _ _ => rfl) (fun _ _ _ _ _ _ => by kernel_rfl))
    (denB_cons (denS_unpS (names := [("found" : Str), ("carry" : Str), ("mask" : Str)]) ND_shift_left rfl (fun _ _ _ _ _ _ => (.cons S_shift_left_7.toSlot' stO_bind (.cons S_shift_left_6.toSlot' stO_bind (.cons S_shift_left_5.toSlot' stO_bind .nil)))) (denL_cons (den_bin rfl (den_list (denL_cons den_int denL_nil)) (den_locS rfl S_shift_left_3)) (denL_cons den_int (denL_cons (den_bin rfl (den_bin rfl den_int (den_locS rfl S_shift_left_2)) den_int) denL_nil))) (fun _ _ _ _ _ _ => rfl) (fun _ _ _ _ _ _ => by kernel_rfl))
    (denB_cons (denS_for ND_shift_left rfl S_shift_left_8.toSlot' (denI_seq (den_locS rfl S_shift_left_0)) (denB_cons (denS_aug rfl ND_shift_left rfl S_shift_left_6.toSlot' (den_bin rfl (den_locS rfl S_shift_left_8) (den_locS rfl S_shift_left_4)))
    (denB_cons (denS_app (den_locS rfl S_shift_left_5) (den_bin rfl (den_locS rfl S_shift_left_6) (den_locS rfl S_shift_left_7)) rfl (fun _ _ _ _ _ _ => rfl) rfl (fun _ _ _ _ _ _ => rfl))
    (denB_cons (denS_aug rfl ND_shift_left rfl S_shift_left_6.toSlot' (den_locS rfl S_shift_left_2))
    denB_nil))) (fun _ _ _ _ _ _ _ => rfl))
    (denB_cons (denS_if (denT_cmp rfl (den_locS rfl S_shift_left_6) den_int) (denB_cons (denS_app (den_locS rfl S_shift_left_5) (den_locS rfl S_shift_left_6) rfl (fun _ _ _ _ _ _ => rfl) rfl (fun _ _ _ _ _ _ => rfl))
    denB_nil) denB_nil)
    (denB_cons (denS_ret (den_locS rfl S_shift_left_5))
    denB_nil))))))
theorem E_shift_left {C : Cx} (H : Hyp C) : ∃ d ∈ recsOf C.p, d.name = ("shift_left" : Str) := ⟨R_shift_left, H.r 8 (by decide), by kernel_rfl⟩
theorem C_shift_left {C : Cx} (H : Hyp C) : Con C 1 ("shift_left" : Str) F_shift_left :=
  con_ofS (X := X_shift_left) (d := R_shift_left) (H.r 8 (by decide)) rfl (by decide +kernel) (fun pm code doc => un3 fun a b c => by kernel_rfl) (D_shift_left H)

def R_shift_right : DefRec := drOf (nthS PySem.Challenge.pw_xw0110_01.main.body 9)
def X_shift_right : Sx := ⟨R_shift_right.scope, [("a", false), ("n", false), ("w", false), ("spots", false), ("few", false), ("found", false), ("mask", false), ("at", false), ("above", false)]⟩
theorem S_shift_right_0 : SlotD X_shift_right false 0 "a" := slot_of (by decide +kernel)
theorem S_shift_right_1 : SlotD X_shift_right false 1 "n" := slot_of (by decide +kernel)
theorem S_shift_right_2 : SlotD X_shift_right false 2 "w" := slot_of (by decide +kernel)
theorem S_shift_right_3 : SlotD X_shift_right false 3 "spots" := slot_of (by decide +kernel)
theorem S_shift_right_4 : SlotD X_shift_right false 4 "few" := slot_of (by decide +kernel)
theorem S_shift_right_5 : SlotD X_shift_right false 5 "found" := slot_of (by decide +kernel)
theorem S_shift_right_6 : SlotD X_shift_right false 6 "mask" := slot_of (by decide +kernel)
theorem S_shift_right_7 : SlotD X_shift_right false 7 "at" := slot_of (by decide +kernel)
theorem S_shift_right_8 : SlotD X_shift_right false 8 "above" := slot_of (by decide +kernel)
theorem G_shift_right_len : X_shift_right.sc.names.lookup ("len" : Str) = some NameKind.globalImplicit := glb_of (by decide +kernel)
theorem G_shift_right_normal : X_shift_right.sc.names.lookup ("normal" : Str) = some NameKind.globalImplicit := glb_of (by decide +kernel)
theorem G_shift_right_range : X_shift_right.sc.names.lookup ("range" : Str) = some NameKind.globalImplicit := glb_of (by decide +kernel)
theorem ND_shift_right : (X_shift_right.ns.map (·.1)).Nodup := by decide +kernel
theorem D_shift_right {C : Cx} (H : Hyp C) : DenB C X_shift_right 1 R_shift_right.body B_shift_right :=
  (denB_cons (denS_unpS (names := [("spots" : Str), ("few" : Str)]) ND_shift_right rfl (fun _ _ _ _ _ _ => (.cons S_shift_right_4.toSlot' stO_bind (.cons S_shift_right_3.toSlot' stO_bind .nil))) (denL_cons (den_bin rfl (den_locS rfl S_shift_right_1) (den_locS rfl S_shift_right_2)) (denL_cons (den_bin rfl (den_locS rfl S_shift_right_1) (den_locS rfl S_shift_right_2)) denL_nil)) (fun _ _ _ _ _ _ => rfl) (fun _ _ _ _ _ _ => by kernel_rfl))
    (denB_cons (denS_unpS (names := [("found" : Str), ("mask" : Str)]) ND_shift_right rfl (fun _ _ _ _ _ _ => (.cons S_shift_right_6.toSlot' stO_bind (.cons S_shift_right_5.toSlot' stO_bind .nil))) (denL_cons (den_list denL_nil) (denL_cons (den_bin rfl (den_bin rfl den_int (den_locS rfl S_shift_right_2)) den_int) denL_nil)) (fun _ _ _ _ _ _ => rfl) (fun _ _ _ _ _ _ => by kernel_rfl))
    (denB_cons (denS_for ND_shift_right rfl S_shift_right_7.toSlot' (denI_range H.b_range rfl G_shift_right_range rfl (denL_cons (den_locS rfl S_shift_right_3) (denL_cons (den_len H.b_len rfl G_shift_right_len rfl (denL_cons (den_locS rfl S_shift_right_0) denL_nil)) denL_nil))) (denB_cons (denS_asg ND_shift_right rfl S_shift_right_8.toSlot' (den_if (denT_cmp rfl (den_bin rfl (den_locS rfl S_shift_right_7) den_int) (den_len H.b_len rfl G_shift_right_len rfl (denL_cons (den_locS rfl S_shift_right_0) denL_nil))) (den_sub (den_locS rfl S_shift_right_0) (den_bin rfl (den_locS rfl S_shift_right_7) den_int)) den_int) (fun _ _ _ _ _ _ => rfl))
    (denB_cons (denS_app (den_locS rfl S_shift_right_5) (den_bin rfl (den_bin rfl (den_bin rfl (den_sub (den_locS rfl S_shift_right_0) (den_locS rfl S_shift_right_7)) (den_locS rfl S_shift_right_4)) (den_bin rfl (den_locS rfl S_shift_right_8) (den_bin rfl (den_locS rfl S_shift_right_2) (den_locS rfl S_shift_right_4)))) (den_locS rfl S_shift_right_6)) rfl (fun _ _ _ _ _ _ => rfl) rfl (fun _ _ _ _ _ _ => rfl))
    denB_nil)) (fun _ _ _ _ _ _ _ => rfl))
    (denB_cons (denS_ret (den_call ((C_normal H).le (by decide)) (E_normal H) rfl G_shift_right_normal rfl rfl (denL_cons (den_locS rfl S_shift_right_5) denL_nil)))
    denB_nil))))
theorem E_shift_right {C : Cx} (H : Hyp C) : ∃ d ∈ recsOf C.p, d.name = ("shift_right" : Str) := ⟨R_shift_right, H.r 9 (by decide), by kernel_rfl⟩
theorem C_shift_right {C : Cx} (H : Hyp C) : Con C 2 ("shift_right" : Str) F_shift_right :=
  con_ofS (X := X_shift_right) (d := R_shift_right) (H.r 9 (by decide)) rfl (by decide +kernel) (fun pm code doc => un3 fun a b c => by kernel_rfl) (D_shift_right H)

def R_bits : DefRec := drOf (nthS PySem.Challenge.pw_xw0110_01.main.body 10)
def X_bits : Sx := ⟨R_bits.scope, [("a", false), ("w", false)]⟩
theorem S_bits_0 : SlotD X_bits false 0 "a" := slot_of (by decide +kernel)
theorem S_bits_1 : SlotD X_bits false 1 "w" := slot_of (by decide +kernel)
theorem G_bits_len : X_bits.sc.names.lookup ("len" : Str) = some NameKind.globalImplicit := glb_of (by decide +kernel)
theorem ND_bits : (X_bits.ns.map (·.1)).Nodup := by decide +kernel
theorem D_bits {C : Cx} (H : Hyp C) : DenB C X_bits 0 R_bits.body B_bits :=
  (denB_cons (denS_ret (den_if (denT_cmp rfl (den_len H.b_len rfl G_bits_len rfl (denL_cons (den_locS rfl S_bits_0) denL_nil)) den_int) (den_bin rfl (den_bin rfl (den_bin rfl (den_len H.b_len rfl G_bits_len rfl (denL_cons (den_locS rfl S_bits_0) denL_nil)) den_int) (den_locS rfl S_bits_1)) (den_bit (den_sub (den_locS rfl S_bits_0) (den_neg den_int)) (fun _ _ _ _ _ _ => rfl) rfl)) den_int))
    denB_nil)
theorem E_bits {C : Cx} (H : Hyp C) : ∃ d ∈ recsOf C.p, d.name = ("bits" : Str) := ⟨R_bits, H.r 10 (by decide), by kernel_rfl⟩
theorem C_bits {C : Cx} (H : Hyp C) : Con C 1 ("bits" : Str) F_bits :=
  con_ofS (X := X_bits) (d := R_bits) (H.r 10 (by decide)) rfl (by decide +kernel) (fun pm code doc => un2 fun a b => by kernel_rfl) (D_bits H)

def R_mul_school : DefRec := drOf (nthS PySem.Challenge.pw_xw0110_01.main.body 12)
def X_mul_school : Sx := ⟨R_mul_school.scope, [("a", false), ("b", false), ("w", false), ("found", false), ("mask", false), ("at", false), ("limb", false), ("carry", false), ("spot", false), ("other", false)]⟩
theorem S_mul_school_0 : SlotD X_mul_school false 0 "a" := slot_of (by decide +kernel)
theorem S_mul_school_1 : SlotD X_mul_school false 1 "b" := slot_of (by decide +kernel)
theorem S_mul_school_2 : SlotD X_mul_school false 2 "w" := slot_of (by decide +kernel)
theorem S_mul_school_3 : SlotD X_mul_school false 3 "found" := slot_of (by decide +kernel)
theorem S_mul_school_4 : SlotD X_mul_school false 4 "mask" := slot_of (by decide +kernel)
theorem S_mul_school_5 : SlotD X_mul_school false 5 "at" := slot_of (by decide +kernel)
theorem S_mul_school_6 : SlotD X_mul_school false 6 "limb" := slot_of (by decide +kernel)
theorem S_mul_school_7 : SlotD X_mul_school false 7 "carry" := slot_of (by decide +kernel)
theorem S_mul_school_8 : SlotD X_mul_school false 8 "spot" := slot_of (by decide +kernel)
theorem S_mul_school_9 : SlotD X_mul_school false 9 "other" := slot_of (by decide +kernel)
theorem G_mul_school_enumerate : X_mul_school.sc.names.lookup ("enumerate" : Str) = some NameKind.globalImplicit := glb_of (by decide +kernel)
theorem G_mul_school_len : X_mul_school.sc.names.lookup ("len" : Str) = some NameKind.globalImplicit := glb_of (by decide +kernel)
theorem G_mul_school_normal : X_mul_school.sc.names.lookup ("normal" : Str) = some NameKind.globalImplicit := glb_of (by decide +kernel)
theorem ND_mul_school : (X_mul_school.ns.map (·.1)).Nodup := by decide +kernel
theorem D_mul_school {C : Cx} (H : Hyp C) : DenB C X_mul_school 1 R_mul_school.body B_mul_school :=
  (denB_cons (denS_unpS (names := [("found" : Str), ("mask" : Str)]) ND_mul_school rfl (fun _ _ _ _ _ _ => (.cons S_mul_school_4.toSlot' stO_bind (.cons S_mul_school_3.toSlot' stO_bind .nil))) (denL_cons (den_bin rfl (den_list (denL_cons den_int denL_nil)) (den_bin rfl (den_len H.b_len rfl G_mul_school_len rfl (denL_cons (den_locS rfl S_mul_school_0) denL_nil)) (den_len H.b_len rfl G_mul_school_len rfl (denL_cons (den_locS rfl S_mul_school_1) denL_nil)))) (denL_cons (den_bin rfl (den_bin rfl den_int (den_locS rfl S_mul_school_2)) den_int) denL_nil)) (fun _ _ _ _ _ _ => rfl) (fun _ _ _ _ _ _ => by kernel_rfl))
    (denB_cons (denS_enum H.b_enumerate ND_mul_school rfl G_mul_school_enumerate S_mul_school_5.toSlot' S_mul_school_6.toSlot' rfl (den_locS rfl S_mul_school_0) (denB_cons (denS_asg ND_mul_school rfl S_mul_school_7.toSlot' den_int (fun _ _ _ _ _ _ => rfl))
    (denB_cons (denS_enum H.b_enumerate ND_mul_school rfl G_mul_school_enumerate S_mul_school_8.toSlot' S_mul_school_9.toSlot' rfl (den_locS rfl S_mul_school_1) (denB_cons (denS_aug rfl ND_mul_school rfl S_mul_school_7.toSlot' (den_bin rfl (den_sub (den_locS rfl S_mul_school_3) (den_bin rfl (den_locS rfl S_mul_school_5) (den_locS rfl S_mul_school_8))) (den_bin rfl (den_locS rfl S_mul_school_6) (den_locS rfl S_mul_school_9))))
    (denB_cons (denS_sub (den_locS rfl S_mul_school_3) (den_bin rfl (den_locS rfl S_mul_school_5) (den_locS rfl S_mul_school_8)) (den_bin rfl (den_locS rfl S_mul_school_7) (den_locS rfl S_mul_school_4)) (fun _ _ _ _ _ _ => rfl))
    (denB_cons (denS_aug rfl ND_mul_school rfl S_mul_school_7.toSlot' (den_locS rfl S_mul_school_2))
    denB_nil))))
    (denB_cons (denS_sub (den_locS rfl S_mul_school_3) (den_bin rfl (den_locS rfl S_mul_school_5) (den_len H.b_len rfl G_mul_school_len rfl (denL_cons (den_locS rfl S_mul_school_1) denL_nil))) (den_locS rfl S_mul_school_7) (fun _ _ _ _ _ _ => rfl))
    denB_nil))))
    (denB_cons (denS_ret (den_call ((C_normal H).le (by decide)) (E_normal H) rfl G_mul_school_normal rfl rfl (denL_cons (den_locS rfl S_mul_school_3) denL_nil)))
    denB_nil)))
theorem E_mul_school {C : Cx} (H : Hyp C) : ∃ d ∈ recsOf C.p, d.name = ("mul_school" : Str) := ⟨R_mul_school, H.r 12 (by decide), by kernel_rfl⟩
theorem C_mul_school {C : Cx} (H : Hyp C) : Con C 2 ("mul_school" : Str) F_mul_school :=
  con_ofS (X := X_mul_school) (d := R_mul_school) (H.r 12 (by decide)) rfl (by decide +kernel) (fun pm code doc => un3 fun a b c => by kernel_rfl) (D_mul_school H)

def R_divrem_small : DefRec := drOf (nthS PySem.Challenge.pw_xw0110_01.main.body 13)
def X_divrem_small : Sx := ⟨R_divrem_small.scope, [("a", false), ("b", false), ("w", false), ("quotient", false), ("rest", false)]⟩
theorem S_divrem_small_0 : SlotD X_divrem_small false 0 "a" := slot_of (by decide +kernel)
theorem S_divrem_small_1 : SlotD X_divrem_small false 1 "b" := slot_of (by decide +kernel)
theorem S_divrem_small_2 : SlotD X_divrem_small false 2 "w" := slot_of (by decide +kernel)
theorem S_divrem_small_3 : SlotD X_divrem_small false 3 "quotient" := slot_of (by decide +kernel)
theorem S_divrem_small_4 : SlotD X_divrem_small false 4 "rest" := slot_of (by decide +kernel)
theorem G_divrem_small_divrem_limb : X_divrem_small.sc.names.lookup ("divrem_limb" : Str) = some NameKind.globalImplicit := glb_of (by decide +kernel)
theorem ND_divrem_small : (X_divrem_small.ns.map (·.1)).Nodup := by decide +kernel
theorem D_divrem_small {C : Cx} (H : Hyp C) : DenB C X_divrem_small 2 R_divrem_small.body B_divrem_small :=
  (denB_cons (denS_unpC ND_divrem_small rfl (fun _ _ _ _ _ _ => (.cons S_divrem_small_3.toSlot' stO_assign (.cons S_divrem_small_4.toSlot' stO_assign .nil))) (fun _ _ _ _ _ _ => rfl) (den_call ((C_divrem_limb H).le (by decide)) (E_divrem_limb H) rfl G_divrem_small_divrem_limb rfl rfl (denL_cons (den_locS rfl S_divrem_small_0) (denL_cons (den_sub (den_locS rfl S_divrem_small_1) den_int) (denL_cons (den_locS rfl S_divrem_small_2) denL_nil)))) (fun _ _ _ _ _ _ => rfl) (fun _ _ _ _ _ _ => by kernel_rfl))
    (denB_cons (denS_ret (den_tup (denL_cons (den_locS rfl S_divrem_small_3) (denL_cons (den_if (denT_cmp rfl (den_locS rfl S_divrem_small_4) den_int) (den_list (denL_cons (den_locS rfl S_divrem_small_4) denL_nil)) (den_list denL_nil)) denL_nil))))
    denB_nil))
theorem E_divrem_small {C : Cx} (H : Hyp C) : ∃ d ∈ recsOf C.p, d.name = ("divrem_small" : Str) := ⟨R_divrem_small, H.r 13 (by decide), by kernel_rfl⟩
theorem C_divrem_small {C : Cx} (H : Hyp C) : Con C 3 ("divrem_small" : Str) F_divrem_small :=
  con_ofS (X := X_divrem_small) (d := R_divrem_small) (H.r 13 (by decide)) rfl (by decide +kernel) (fun pm code doc => un3 fun a b c => by kernel_rfl) (D_divrem_small H)

def R_guessed_limb : DefRec := drOf (nthS PySem.Challenge.pw_xw0110_01.main.body 14)
def X_guessed_limb : Sx := ⟨R_guessed_limb.scope, [("top", false), ("first", false), ("second", false), ("w", false), ("high", false), ("base", false), ("limb", false), ("rest", false)]⟩
theorem S_guessed_limb_0 : SlotD X_guessed_limb false 0 "top" := slot_of (by decide +kernel)
theorem S_guessed_limb_1 : SlotD X_guessed_limb false 1 "first" := slot_of (by decide +kernel)
theorem S_guessed_limb_2 : SlotD X_guessed_limb false 2 "second" := slot_of (by decide +kernel)
theorem S_guessed_limb_3 : SlotD X_guessed_limb false 3 "w" := slot_of (by decide +kernel)
theorem S_guessed_limb_4 : SlotD X_guessed_limb false 4 "high" := slot_of (by decide +kernel)
theorem S_guessed_limb_5 : SlotD X_guessed_limb false 5 "base" := slot_of (by decide +kernel)
theorem S_guessed_limb_6 : SlotD X_guessed_limb false 6 "limb" := slot_of (by decide +kernel)
theorem S_guessed_limb_7 : SlotD X_guessed_limb false 7 "rest" := slot_of (by decide +kernel)
theorem G_guessed_limb_min : X_guessed_limb.sc.names.lookup ("min" : Str) = some NameKind.globalImplicit := glb_of (by decide +kernel)
theorem ND_guessed_limb : (X_guessed_limb.ns.map (·.1)).Nodup := by decide +kernel
theorem D_guessed_limb {C : Cx} (H : Hyp C) : DenB C X_guessed_limb 0 R_guessed_limb.body B_guessed_limb :=
  (denB_cons (denS_unpS (names := [("high" : Str), ("base" : Str)]) ND_guessed_limb rfl (fun _ _ _ _ _ _ => (.cons S_guessed_limb_5.toSlot' stO_bind (.cons S_guessed_limb_4.toSlot' stO_bind .nil))) (denL_cons (den_bin rfl (den_bin rfl (den_sub (den_locS rfl S_guessed_limb_0) den_int) (den_locS rfl S_guessed_limb_3)) (den_sub (den_locS rfl S_guessed_limb_0) den_int)) (denL_cons (den_bin rfl den_int (den_locS rfl S_guessed_limb_3)) denL_nil)) (fun _ _ _ _ _ _ => rfl) (fun _ _ _ _ _ _ => by kernel_rfl))
    (denB_cons (denS_asg ND_guessed_limb rfl S_guessed_limb_6.toSlot' (den_min H.b_min rfl G_guessed_limb_min rfl (denL_cons (den_bin rfl (den_locS rfl S_guessed_limb_4) (den_locS rfl S_guessed_limb_1)) (denL_cons (den_bin rfl (den_locS rfl S_guessed_limb_5) den_int) denL_nil))) (fun _ _ _ _ _ _ => rfl))
    (denB_cons (denS_asg ND_guessed_limb rfl S_guessed_limb_7.toSlot' (den_bin rfl (den_locS rfl S_guessed_limb_4) (den_bin rfl (den_locS rfl S_guessed_limb_6) (den_locS rfl S_guessed_limb_1))) (fun _ _ _ _ _ _ => rfl))
    (denB_cons (denS_while (denT_and (denT_cmp rfl (den_locS rfl S_guessed_limb_7) (den_locS rfl S_guessed_limb_5)) (denT_cmp rfl (den_bin rfl (den_locS rfl S_guessed_limb_6) (den_locS rfl S_guessed_limb_2)) (den_bin rfl (den_bin rfl (den_locS rfl S_guessed_limb_7) (den_locS rfl S_guessed_limb_3)) (den_sub (den_locS rfl S_guessed_limb_0) den_int)))) (denB_cons (denS_aug rfl ND_guessed_limb rfl S_guessed_limb_6.toSlot' den_int)
    (denB_cons (denS_aug rfl ND_guessed_limb rfl S_guessed_limb_7.toSlot' (den_locS rfl S_guessed_limb_1))
    denB_nil)))
    (denB_cons (denS_ret (den_locS rfl S_guessed_limb_6))
    denB_nil)))))
theorem E_guessed_limb {C : Cx} (H : Hyp C) : ∃ d ∈ recsOf C.p, d.name = ("guessed_limb" : Str) := ⟨R_guessed_limb, H.r 14 (by decide), by kernel_rfl⟩
theorem C_guessed_limb {C : Cx} (H : Hyp C) : Con C 1 ("guessed_limb" : Str) F_guessed_limb :=
  con_ofS (X := X_guessed_limb) (d := R_guessed_limb) (H.r 14 (by decide)) rfl (by decide +kernel) (fun pm code doc => un4 fun a b c d => by kernel_rfl) (D_guessed_limb H)

def R_take_away : DefRec := drOf (nthS PySem.Challenge.pw_xw0110_01.main.body 15)
def X_take_away : Sx := ⟨R_take_away.scope, [("rest", false), ("b", false), ("limb", false), ("at", false), ("w", false), ("carry", false), ("base", false), ("spot", false), ("other", false), ("here", false)]⟩
theorem S_take_away_0 : SlotD X_take_away false 0 "rest" := slot_of (by decide +kernel)
theorem S_take_away_1 : SlotD X_take_away false 1 "b" := slot_of (by decide +kernel)
theorem S_take_away_2 : SlotD X_take_away false 2 "limb" := slot_of (by decide +kernel)
theorem S_take_away_3 : SlotD X_take_away false 3 "at" := slot_of (by decide +kernel)
theorem S_take_away_4 : SlotD X_take_away false 4 "w" := slot_of (by decide +kernel)
theorem S_take_away_5 : SlotD X_take_away false 5 "carry" := slot_of (by decide +kernel)
theorem S_take_away_6 : SlotD X_take_away false 6 "base" := slot_of (by decide +kernel)
theorem S_take_away_7 : SlotD X_take_away false 7 "spot" := slot_of (by decide +kernel)
theorem S_take_away_8 : SlotD X_take_away false 8 "other" := slot_of (by decide +kernel)
theorem S_take_away_9 : SlotD X_take_away false 9 "here" := slot_of (by decide +kernel)
theorem G_take_away_enumerate : X_take_away.sc.names.lookup ("enumerate" : Str) = some NameKind.globalImplicit := glb_of (by decide +kernel)
theorem G_take_away_len : X_take_away.sc.names.lookup ("len" : Str) = some NameKind.globalImplicit := glb_of (by decide +kernel)
theorem ND_take_away : (X_take_away.ns.map (·.1)).Nodup := by decide +kernel
theorem D_take_away {C : Cx} (H : Hyp C) : DenB C X_take_away 0 R_take_away.body B_take_away :=
  (denB_cons (denS_unpS (names := [("carry" : Str), ("base" : Str)]) ND_take_away rfl (fun _ _ _ _ _ _ => (.cons S_take_away_6.toSlot' stO_bind (.cons S_take_away_5.toSlot' stO_bind .nil))) (denL_cons den_int (denL_cons (den_bin rfl den_int (den_locS rfl S_take_away_4)) denL_nil)) (fun _ _ _ _ _ _ => rfl) (fun _ _ _ _ _ _ => by kernel_rfl))
    (denB_cons (denS_enum H.b_enumerate ND_take_away rfl G_take_away_enumerate S_take_away_7.toSlot' S_take_away_8.toSlot' rfl (den_locS rfl S_take_away_1) (denB_cons (denS_asg ND_take_away rfl S_take_away_9.toSlot' (den_bin rfl (den_sub (den_locS rfl S_take_away_0) (den_bin rfl (den_locS rfl S_take_away_3) (den_locS rfl S_take_away_7))) (den_bin rfl (den_bin rfl (den_bin rfl (den_locS rfl S_take_away_2) (den_locS rfl S_take_away_8)) (den_locS rfl S_take_away_5)) (den_locS rfl S_take_away_6))) (fun _ _ _ _ _ _ => rfl))
    (denB_cons (denS_asg ND_take_away rfl S_take_away_5.toSlot' (den_bin rfl (den_bin rfl (den_bin rfl (den_bin rfl (den_locS rfl S_take_away_2) (den_locS rfl S_take_away_8)) (den_locS rfl S_take_away_5)) (den_locS rfl S_take_away_6)) (den_if (denT_cmp rfl (den_locS rfl S_take_away_9) den_int) den_int den_int)) (fun _ _ _ _ _ _ => rfl))
    (denB_cons (denS_sub (den_locS rfl S_take_away_0) (den_bin rfl (den_locS rfl S_take_away_3) (den_locS rfl S_take_away_7)) (den_if (denT_cmp rfl (den_locS rfl S_take_away_9) den_int) (den_bin rfl (den_locS rfl S_take_away_9) (den_locS rfl S_take_away_6)) (den_locS rfl S_take_away_9)) (fun _ _ _ _ _ _ => rfl))
    denB_nil))))
    (denB_cons (denS_asg ND_take_away rfl S_take_away_9.toSlot' (den_bin rfl (den_sub (den_locS rfl S_take_away_0) (den_bin rfl (den_locS rfl S_take_away_3) (den_len H.b_len rfl G_take_away_len rfl (denL_cons (den_locS rfl S_take_away_1) denL_nil)))) (den_locS rfl S_take_away_5)) (fun _ _ _ _ _ _ => rfl))
    (denB_cons (denS_sub (den_locS rfl S_take_away_0) (den_bin rfl (den_locS rfl S_take_away_3) (den_len H.b_len rfl G_take_away_len rfl (denL_cons (den_locS rfl S_take_away_1) denL_nil))) (den_if (denT_cmp rfl (den_locS rfl S_take_away_9) den_int) (den_bin rfl (den_locS rfl S_take_away_9) (den_locS rfl S_take_away_6)) (den_locS rfl S_take_away_9)) (fun _ _ _ _ _ _ => rfl))
    (denB_cons (denS_ret (den_if (denT_cmp rfl (den_locS rfl S_take_away_9) den_int) den_int den_int))
    denB_nil)))))
theorem E_take_away {C : Cx} (H : Hyp C) : ∃ d ∈ recsOf C.p, d.name = ("take_away" : Str) := ⟨R_take_away, H.r 15 (by decide), by kernel_rfl⟩
theorem C_take_away {C : Cx} (H : Hyp C) : Con C 1 ("take_away" : Str) F_take_away :=
  con_ofS (X := X_take_away) (d := R_take_away) (H.r 15 (by decide)) rfl (by decide +kernel) (fun pm code doc => un5 fun a b c d e => by kernel_rfl) (D_take_away H)

def R_put_back : DefRec := drOf (nthS PySem.Challenge.pw_xw0110_01.main.body 16)
def X_put_back : Sx := ⟨R_put_back.scope, [("rest", false), ("b", false), ("at", false), ("w", false), ("carry", false), ("mask", false), ("spot", false), ("other", false)]⟩
theorem S_put_back_0 : SlotD X_put_back false 0 "rest" := slot_of (by decide +kernel)
theorem S_put_back_1 : SlotD X_put_back false 1 "b" := slot_of (by decide +kernel)
theorem S_put_back_2 : SlotD X_put_back false 2 "at" := slot_of (by decide +kernel)
theorem S_put_back_3 : SlotD X_put_back false 3 "w" := slot_of (by decide +kernel)
theorem S_put_back_4 : SlotD X_put_back false 4 "carry" := slot_of (by decide +kernel)
theorem S_put_back_5 : SlotD X_put_back false 5 "mask" := slot_of (by decide +kernel)
theorem S_put_back_6 : SlotD X_put_back false 6 "spot" := slot_of (by decide +kernel)
theorem S_put_back_7 : SlotD X_put_back false 7 "other" := slot_of (by decide +kernel)
theorem G_put_back_enumerate : X_put_back.sc.names.lookup ("enumerate" : Str) = some NameKind.globalImplicit := glb_of (by decide +kernel)
theorem G_put_back_len : X_put_back.sc.names.lookup ("len" : Str) = some NameKind.globalImplicit := glb_of (by decide +kernel)
theorem ND_put_back : (X_put_back.ns.map (·.1)).Nodup := by decide +kernel
theorem D_put_back {C : Cx} (H : Hyp C) : DenB C X_put_back 0 R_put_back.body B_put_back :=
  (denB_cons (denS_unpS (names := [("carry" : Str), ("mask" : Str)]) ND_put_back rfl (fun _ _ _ _ _ _ => (.cons S_put_back_5.toSlot' stO_bind (.cons S_put_back_4.toSlot' stO_bind .nil))) (denL_cons den_int (denL_cons (den_bin rfl (den_bin rfl den_int (den_locS rfl S_put_back_3)) den_int) denL_nil)) (fun _ _ _ _ _ _ => rfl) (fun _ _ _ _ _ _ => by kernel_rfl))
    (denB_cons (denS_enum H.b_enumerate ND_put_back rfl G_put_back_enumerate S_put_back_6.toSlot' S_put_back_7.toSlot' rfl (den_locS rfl S_put_back_1) (denB_cons (denS_aug rfl ND_put_back rfl S_put_back_4.toSlot' (den_bin rfl (den_sub (den_locS rfl S_put_back_0) (den_bin rfl (den_locS rfl S_put_back_2) (den_locS rfl S_put_back_6))) (den_locS rfl S_put_back_7)))
    (denB_cons (denS_sub (den_locS rfl S_put_back_0) (den_bin rfl (den_locS rfl S_put_back_2) (den_locS rfl S_put_back_6)) (den_bin rfl (den_locS rfl S_put_back_4) (den_locS rfl S_put_back_5)) (fun _ _ _ _ _ _ => rfl))
    (denB_cons (denS_aug rfl ND_put_back rfl S_put_back_4.toSlot' (den_locS rfl S_put_back_3))
    denB_nil))))
    (denB_cons (denS_sub (den_locS rfl S_put_back_0) (den_bin rfl (den_locS rfl S_put_back_2) (den_len H.b_len rfl G_put_back_len rfl (denL_cons (den_locS rfl S_put_back_1) denL_nil))) (den_bin rfl (den_bin rfl (den_sub (den_locS rfl S_put_back_0) (den_bin rfl (den_locS rfl S_put_back_2) (den_len H.b_len rfl G_put_back_len rfl (denL_cons (den_locS rfl S_put_back_1) denL_nil)))) (den_locS rfl S_put_back_4)) (den_locS rfl S_put_back_5)) (fun _ _ _ _ _ _ => rfl))
    denB_nil)))
theorem E_put_back {C : Cx} (H : Hyp C) : ∃ d ∈ recsOf C.p, d.name = ("put_back" : Str) := ⟨R_put_back, H.r 16 (by decide), by kernel_rfl⟩
theorem C_put_back {C : Cx} (H : Hyp C) : Con C 1 ("put_back" : Str) F_put_back :=
  con_ofS (X := X_put_back) (d := R_put_back) (H.r 16 (by decide)) rfl (by decide +kernel) (fun pm code doc => un4 fun a b c d => by kernel_rfl) (D_put_back H)

def R_divide_rows : DefRec := drOf (nthS PySem.Challenge.pw_xw0110_01.main.body 17)
def X_divide_rows : Sx := ⟨R_divide_rows.scope, [("rest", false), ("b", false), ("w", false), ("size", false), ("quotient", false), ("at", false), ("limb", false)]⟩
theorem S_divide_rows_0 : SlotD X_divide_rows false 0 "rest" := slot_of (by decide +kernel)
theorem S_divide_rows_1 : SlotD X_divide_rows false 1 "b" := slot_of (by decide +kernel)
theorem S_divide_rows_2 : SlotD X_divide_rows false 2 "w" := slot_of (by decide +kernel)
theorem S_divide_rows_3 : SlotD X_divide_rows false 3 "size" := slot_of (by decide +kernel)
theorem S_divide_rows_4 : SlotD X_divide_rows false 4 "quotient" := slot_of (by decide +kernel)
theorem S_divide_rows_5 : SlotD X_divide_rows false 5 "at" := slot_of (by decide +kernel)
theorem S_divide_rows_6 : SlotD X_divide_rows false 6 "limb" := slot_of (by decide +kernel)
theorem G_divide_rows_guessed_limb : X_divide_rows.sc.names.lookup ("guessed_limb" : Str) = some NameKind.globalImplicit := glb_of (by decide +kernel)
theorem G_divide_rows_len : X_divide_rows.sc.names.lookup ("len" : Str) = some NameKind.globalImplicit := glb_of (by decide +kernel)
theorem G_divide_rows_put_back : X_divide_rows.sc.names.lookup ("put_back" : Str) = some NameKind.globalImplicit := glb_of (by decide +kernel)
theorem G_divide_rows_range : X_divide_rows.sc.names.lookup ("range" : Str) = some NameKind.globalImplicit := glb_of (by decide +kernel)
theorem G_divide_rows_take_away : X_divide_rows.sc.names.lookup ("take_away" : Str) = some NameKind.globalImplicit := glb_of (by decide +kernel)
theorem ND_divide_rows : (X_divide_rows.ns.map (·.1)).Nodup := by decide +kernel
theorem D_divide_rows {C : Cx} (H : Hyp C) : DenB C X_divide_rows 1 R_divide_rows.body B_divide_rows :=
  (denB_cons (denS_asg ND_divide_rows rfl S_divide_rows_3.toSlot' (den_len H.b_len rfl G_divide_rows_len rfl (denL_cons (den_locS rfl S_divide_rows_1) denL_nil)) (fun _ _ _ _ _ _ => rfl))
    (denB_cons (denS_asg ND_divide_rows rfl S_divide_rows_4.toSlot' (den_bin rfl (den_list (denL_cons den_int denL_nil)) (den_bin rfl (den_len H.b_len rfl G_divide_rows_len rfl (denL_cons (den_locS rfl S_divide_rows_0) denL_nil)) (den_locS rfl S_divide_rows_3))) (fun _ _ _ _ _ _ => rfl))
    (denB_cons (denS_for ND_divide_rows rfl S_divide_rows_5.toSlot' (denI_range H.b_range rfl G_divide_rows_range rfl (denL_cons (den_bin rfl (den_bin rfl (den_len H.b_len rfl G_divide_rows_len rfl (denL_cons (den_locS rfl S_divide_rows_0) denL_nil)) (den_locS rfl S_divide_rows_3)) den_int) (denL_cons (den_neg den_int) (denL_cons (den_neg den_int) denL_nil)))) (denB_cons (denS_asg ND_divide_rows rfl S_divide_rows_6.toSlot' (den_call ((C_guessed_limb H).le (by decide)) (E_guessed_limb H) rfl G_divide_rows_guessed_limb rfl rfl (denL_cons (den_cutOf (den_locS rfl S_divide_rows_0) (den_bin rfl (den_bin rfl (den_locS rfl S_divide_rows_5) (den_locS rfl S_divide_rows_3)) den_int) (den_bin rfl (den_bin rfl (den_locS rfl S_divide_rows_5) (den_locS rfl S_divide_rows_3)) den_int)) (denL_cons (den_sub (den_locS rfl S_divide_rows_1) (den_bin rfl (den_locS rfl S_divide_rows_3) den_int)) (denL_cons (den_sub (den_locS rfl S_divide_rows_1) (den_bin rfl (den_locS rfl S_divide_rows_3) den_int)) (denL_cons (den_locS rfl S_divide_rows_2) denL_nil))))) (fun _ _ _ _ _ _ => rfl))
    (denB_cons (denS_if (denT_cmp rfl (den_call ((C_take_away H).le (by decide)) (E_take_away H) rfl G_divide_rows_take_away rfl rfl (denL_cons (den_locS rfl S_divide_rows_0) (denL_cons (den_locS rfl S_divide_rows_1) (denL_cons (den_locS rfl S_divide_rows_6) (denL_cons (den_locS rfl S_divide_rows_5) (denL_cons (den_locS rfl S_divide_rows_2) denL_nil)))))) den_int) (denB_cons (denS_aug rfl ND_divide_rows rfl S_divide_rows_6.toSlot' den_int)
    (denB_cons (denS_drop (den_call ((C_put_back H).le (by decide)) (E_put_back H) rfl G_divide_rows_put_back rfl rfl (denL_cons (den_locS rfl S_divide_rows_0) (denL_cons (den_locS rfl S_divide_rows_1) (denL_cons (den_locS rfl S_divide_rows_5) (denL_cons (den_locS rfl S_divide_rows_2) denL_nil))))) (fun _ _ _ _ _ _ => rfl) (fun _ _ _ _ _ _ => rfl))
    denB_nil)) denB_nil)
    (denB_cons (denS_sub (den_locS rfl S_divide_rows_4) (den_locS rfl S_divide_rows_5) (den_locS rfl S_divide_rows_6) (fun _ _ _ _ _ _ => rfl))
    denB_nil))) (fun _ _ _ _ _ _ _ => rfl))
    (denB_cons (denS_ret (den_locS rfl S_divide_rows_4))
    denB_nil))))
theorem E_divide_rows {C : Cx} (H : Hyp C) : ∃ d ∈ recsOf C.p, d.name = ("divide_rows" : Str) := ⟨R_divide_rows, H.r 17 (by decide), by kernel_rfl⟩
theorem C_divide_rows {C : Cx} (H : Hyp C) : Con C 2 ("divide_rows" : Str) F_divide_rows :=
  con_ofS (X := X_divide_rows) (d := R_divide_rows) (H.r 17 (by decide)) rfl (by decide +kernel) (fun pm code doc => un3 fun a b c => by kernel_rfl) (D_divide_rows H)

def R_divrem_school : DefRec := drOf (nthS PySem.Challenge.pw_xw0110_01.main.body 18)
def X_divrem_school : Sx := ⟨R_divrem_school.scope, [("a", false), ("b", false), ("w", false), ("shift", false), ("divisor", false), ("rest", false), ("quotient", false)]⟩
theorem S_divrem_school_0 : SlotD X_divrem_school false 0 "a" := slot_of (by decide +kernel)
theorem S_divrem_school_1 : SlotD X_divrem_school false 1 "b" := slot_of (by decide +kernel)
theorem S_divrem_school_2 : SlotD X_divrem_school false 2 "w" := slot_of (by decide +kernel)
theorem S_divrem_school_3 : SlotD X_divrem_school false 3 "shift" := slot_of (by decide +kernel)
theorem S_divrem_school_4 : SlotD X_divrem_school false 4 "divisor" := slot_of (by decide +kernel)
theorem S_divrem_school_5 : SlotD X_divrem_school false 5 "rest" := slot_of (by decide +kernel)
theorem S_divrem_school_6 : SlotD X_divrem_school false 6 "quotient" := slot_of (by decide +kernel)
theorem G_divrem_school_bits : X_divrem_school.sc.names.lookup ("bits" : Str) = some NameKind.globalImplicit := glb_of (by decide +kernel)
theorem G_divrem_school_compare : X_divrem_school.sc.names.lookup ("compare" : Str) = some NameKind.globalImplicit := glb_of (by decide +kernel)
theorem G_divrem_school_divide_rows : X_divrem_school.sc.names.lookup ("divide_rows" : Str) = some NameKind.globalImplicit := glb_of (by decide +kernel)
theorem G_divrem_school_divrem_small : X_divrem_school.sc.names.lookup ("divrem_small" : Str) = some NameKind.globalImplicit := glb_of (by decide +kernel)
theorem G_divrem_school_len : X_divrem_school.sc.names.lookup ("len" : Str) = some NameKind.globalImplicit := glb_of (by decide +kernel)
theorem G_divrem_school_normal : X_divrem_school.sc.names.lookup ("normal" : Str) = some NameKind.globalImplicit := glb_of (by decide +kernel)
theorem G_divrem_school_shift_left : X_divrem_school.sc.names.lookup ("shift_left" : Str) = some NameKind.globalImplicit := glb_of (by decide +kernel)
theorem G_divrem_school_shift_right : X_divrem_school.sc.names.lookup ("shift_right" : Str) = some NameKind.globalImplicit := glb_of (by decide +kernel)
theorem ND_divrem_school : (X_divrem_school.ns.map (·.1)).Nodup := by decide +kernel
theorem D_divrem_school {C : Cx} (H : Hyp C) : DenB C X_divrem_school 3 R_divrem_school.body B_divrem_school :=
  (denB_cons (denS_if (denT_cmp rfl (den_len H.b_len rfl G_divrem_school_len rfl (denL_cons (den_locS rfl S_divrem_school_1) denL_nil)) den_int) (denB_cons denS_bad
    denB_nil) denB_nil)
    (denB_cons (denS_if (denT_cmp rfl (den_call ((C_compare H).le (by decide)) (E_compare H) rfl G_divrem_school_compare rfl rfl (denL_cons (den_locS rfl S_divrem_school_0) (denL_cons (den_locS rfl S_divrem_school_1) denL_nil))) den_int) (denB_cons (denS_ret (den_tup (denL_cons (den_list denL_nil) (denL_cons (den_cutAll (den_locS rfl S_divrem_school_0)) denL_nil))))
    denB_nil) denB_nil)
    (denB_cons (denS_if (denT_cmp rfl (den_len H.b_len rfl G_divrem_school_len rfl (denL_cons (den_locS rfl S_divrem_school_1) denL_nil)) den_int) (denB_cons (denS_ret (den_call ((C_divrem_small H).le (by decide)) (E_divrem_small H) rfl G_divrem_school_divrem_small rfl rfl (denL_cons (den_locS rfl S_divrem_school_0) (denL_cons (den_locS rfl S_divrem_school_1) (denL_cons (den_locS rfl S_divrem_school_2) denL_nil)))))
    denB_nil) denB_nil)
    (denB_cons (denS_asg ND_divrem_school rfl S_divrem_school_3.toSlot' (den_bin rfl (den_locS rfl S_divrem_school_2) (den_call ((C_bits H).le (by decide)) (E_bits H) rfl G_divrem_school_bits rfl rfl (denL_cons (den_list (denL_cons (den_sub (den_locS rfl S_divrem_school_1) (den_neg den_int)) denL_nil)) (denL_cons (den_locS rfl S_divrem_school_2) denL_nil)))) (fun _ _ _ _ _ _ => rfl))
    (denB_cons (denS_asg ND_divrem_school rfl S_divrem_school_4.toSlot' (den_call ((C_shift_left H).le (by decide)) (E_shift_left H) rfl G_divrem_school_shift_left rfl rfl (denL_cons (den_locS rfl S_divrem_school_1) (denL_cons (den_locS rfl S_divrem_school_3) (denL_cons (den_locS rfl S_divrem_school_2) denL_nil)))) (fun _ _ _ _ _ _ => rfl))
    (denB_cons (denS_asg ND_divrem_school rfl S_divrem_school_5.toSlot' (den_call ((C_shift_left H).le (by decide)) (E_shift_left H) rfl G_divrem_school_shift_left rfl rfl (denL_cons (den_locS rfl S_divrem_school_0) (denL_cons (den_locS rfl S_divrem_school_3) (denL_cons (den_locS rfl S_divrem_school_2) denL_nil)))) (fun _ _ _ _ _ _ => rfl))
    (denB_cons (denS_asg ND_divrem_school rfl S_divrem_school_5.toSlot' (den_bin rfl (den_locS rfl S_divrem_school_5) (den_bin rfl (den_list (denL_cons den_int denL_nil)) (den_bin rfl (den_bin rfl (den_len H.b_len rfl G_divrem_school_len rfl (denL_cons (den_locS rfl S_divrem_school_0) denL_nil)) den_int) (den_len H.b_len rfl G_divrem_school_len rfl (denL_cons (den_locS rfl S_divrem_school_5) denL_nil))))) (fun _ _ _ _ _ _ => rfl))
    (denB_cons (denS_asg ND_divrem_school rfl S_divrem_school_6.toSlot' (den_call ((C_divide_rows H).le (by decide)) (E_divide_rows H) rfl G_divrem_school_divide_rows rfl rfl (denL_cons (den_locS rfl S_divrem_school_5) (denL_cons (den_locS rfl S_divrem_school_4) (denL_cons (den_locS rfl S_divrem_school_2) denL_nil)))) (fun _ _ _ _ _ _ => rfl))
    (denB_cons (denS_ret (den_tup (denL_cons (den_call ((C_normal H).le (by decide)) (E_normal H) rfl G_divrem_school_normal rfl rfl (denL_cons (den_locS rfl S_divrem_school_6) denL_nil)) (denL_cons (den_call ((C_shift_right H).le (by decide)) (E_shift_right H) rfl G_divrem_school_shift_right rfl rfl (denL_cons (den_call ((C_normal H).le (by decide)) (E_normal H) rfl G_divrem_school_normal rfl rfl (denL_cons (den_locS rfl S_divrem_school_5) denL_nil)) (denL_cons (den_locS rfl S_divrem_school_3) (denL_cons (den_locS rfl S_divrem_school_2) denL_nil)))) denL_nil))))
    denB_nil)))))))))
theorem E_divrem_school {C : Cx} (H : Hyp C) : ∃ d ∈ recsOf C.p, d.name = ("divrem_school" : Str) := ⟨R_divrem_school, H.r 18 (by decide), by kernel_rfl⟩
theorem C_divrem_school {C : Cx} (H : Hyp C) : Con C 4 ("divrem_school" : Str) F_divrem_school :=
  con_ofS (X := X_divrem_school) (d := R_divrem_school) (H.r 18 (by decide)) rfl (by decide +kernel) (fun pm code doc => un3 fun a b c => by kernel_rfl) (D_divrem_school H)

def R_law_next : DefRec := drOf (nthS PySem.Challenge.pw_xw0110_01.main.body 20)
def X_law_next : Sx := ⟨R_law_next.scope, [("yard", false), ("many", false)]⟩
theorem S_law_next_0 : SlotD X_law_next false 0 "yard" := slot_of (by decide +kernel)
theorem S_law_next_1 : SlotD X_law_next false 1 "many" := slot_of (by decide +kernel)
theorem G_law_next_len : X_law_next.sc.names.lookup ("len" : Str) = some NameKind.globalImplicit := glb_of (by decide +kernel)
theorem ND_law_next : (X_law_next.ns.map (·.1)).Nodup := by decide +kernel
theorem D_law_next {C : Cx} (H : Hyp C) : DenB C X_law_next 0 R_law_next.body B_law_next :=
  (denB_cons (denS_sub (den_locS rfl S_law_next_0) den_int (den_bin rfl (den_sub (den_locS rfl S_law_next_0) den_int) den_int) (fun _ _ _ _ _ _ => rfl))
    (denB_cons (denS_if (denT_cmp rfl (den_sub (den_locS rfl S_law_next_0) den_int) (den_len H.b_len rfl G_law_next_len rfl (denL_cons (den_sub (den_locS rfl S_law_next_0) den_int) denL_nil))) (denB_cons (denS_ret (den_bin rfl (den_sub (den_sub (den_locS rfl S_law_next_0) den_int) (den_bin rfl (den_sub (den_locS rfl S_law_next_0) den_int) den_int)) (den_locS rfl S_law_next_1)))
    denB_nil) denB_nil)
    (denB_cons (denS_ret (den_bin rfl (den_bin rfl (den_bin rfl (den_bin rfl den_int (den_sub (den_locS rfl S_law_next_0) den_int)) (den_bin rfl (den_sub (den_locS rfl S_law_next_0) den_int) den_int)) den_int) (den_locS rfl S_law_next_1)))
    denB_nil)))
theorem E_law_next {C : Cx} (H : Hyp C) : ∃ d ∈ recsOf C.p, d.name = ("_law_next" : Str) := ⟨R_law_next, H.r 20 (by decide), by kernel_rfl⟩
theorem C_law_next {C : Cx} (H : Hyp C) : Con C 1 ("_law_next" : Str) F_law_next :=
  con_ofS (X := X_law_next) (d := R_law_next) (H.r 20 (by decide)) rfl (by decide +kernel) (fun pm code doc => un2 fun a b => by kernel_rfl) (D_law_next H)

def R_law_limbs : DefRec := drOf (nthS PySem.Challenge.pw_xw0110_01.main.body 21)
def X_law_limbs : Sx := ⟨R_law_limbs.scope, [("number", false), ("w", false), ("found", false)]⟩
theorem S_law_limbs_0 : SlotD X_law_limbs false 0 "number" := slot_of (by decide +kernel)
theorem S_law_limbs_1 : SlotD X_law_limbs false 1 "w" := slot_of (by decide +kernel)
theorem S_law_limbs_2 : SlotD X_law_limbs false 2 "found" := slot_of (by decide +kernel)
theorem ND_law_limbs : (X_law_limbs.ns.map (·.1)).Nodup := by decide +kernel
theorem D_law_limbs {C : Cx} (H : Hyp C) : DenB C X_law_limbs 0 R_law_limbs.body B_law_limbs :=
  (denB_cons (denS_asg ND_law_limbs rfl S_law_limbs_2.toSlot' (den_list denL_nil) (fun _ _ _ _ _ _ => rfl))
    (denB_cons (denS_while (denT_cmp rfl (den_locS rfl S_law_limbs_0) den_int) (denB_cons (denS_app (den_locS rfl S_law_limbs_2) (den_bin rfl (den_locS rfl S_law_limbs_0) (den_bin rfl den_int (den_locS rfl S_law_limbs_1))) rfl (fun _ _ _ _ _ _ => rfl) rfl (fun _ _ _ _ _ _ => rfl))
    (denB_cons (denS_asg ND_law_limbs rfl S_law_limbs_0.toSlot' (den_bin rfl (den_locS rfl S_law_limbs_0) (den_bin rfl den_int (den_locS rfl S_law_limbs_1))) (fun _ _ _ _ _ _ => rfl))
    denB_nil)))
    (denB_cons (denS_ret (den_locS rfl S_law_limbs_2))
    denB_nil)))
theorem E_law_limbs {C : Cx} (H : Hyp C) : ∃ d ∈ recsOf C.p, d.name = ("_law_limbs" : Str) := ⟨R_law_limbs, H.r 21 (by decide), by kernel_rfl⟩
theorem C_law_limbs {C : Cx} (H : Hyp C) : Con C 1 ("_law_limbs" : Str) F_law_limbs :=
  con_ofS (X := X_law_limbs) (d := R_law_limbs) (H.r 21 (by decide)) rfl (by decide +kernel) (fun pm code doc => un2 fun a b => by kernel_rfl) (D_law_limbs H)

def R_law_told : DefRec := drOf (nthS PySem.Challenge.pw_xw0110_01.main.body 22)
def X_law_told : Sx := ⟨R_law_told.scope, [("row", false), ("w", false), ("found", false), ("limb", false)]⟩
theorem S_law_told_0 : SlotD X_law_told false 0 "row" := slot_of (by decide +kernel)
theorem S_law_told_1 : SlotD X_law_told false 1 "w" := slot_of (by decide +kernel)
theorem S_law_told_2 : SlotD X_law_told false 2 "found" := slot_of (by decide +kernel)
theorem S_law_told_3 : SlotD X_law_told false 3 "limb" := slot_of (by decide +kernel)
theorem ND_law_told : (X_law_told.ns.map (·.1)).Nodup := by decide +kernel
theorem D_law_told {C : Cx} (H : Hyp C) : DenB C X_law_told 0 R_law_told.body B_law_told :=
  (denB_cons (denS_asg ND_law_told rfl S_law_told_2.toSlot' den_int (fun _ _ _ _ _ _ => rfl))
    (denB_cons (denS_for ND_law_told rfl S_law_told_3.toSlot' (denI_seq (den_cutRev (den_locS rfl S_law_told_0))) (denB_cons (denS_asg ND_law_told rfl S_law_told_2.toSlot' (den_bin rfl (den_bin rfl (den_locS rfl S_law_told_2) (den_bin rfl den_int (den_locS rfl S_law_told_1))) (den_locS rfl S_law_told_3)) (fun _ _ _ _ _ _ => rfl))
    denB_nil) (fun _ _ _ _ _ _ _ => rfl))
    (denB_cons (denS_ret (den_locS rfl S_law_told_2))
    denB_nil)))
theorem E_law_told {C : Cx} (H : Hyp C) : ∃ d ∈ recsOf C.p, d.name = ("_law_told" : Str) := ⟨R_law_told, H.r 22 (by decide), by kernel_rfl⟩
theorem C_law_told {C : Cx} (H : Hyp C) : Con C 1 ("_law_told" : Str) F_law_told :=
  con_ofS (X := X_law_told) (d := R_law_told) (H.r 22 (by decide)) rfl (by decide +kernel) (fun pm code doc => un2 fun a b => by kernel_rfl) (D_law_told H)

def R_law_rows : DefRec := drOf (nthS PySem.Challenge.pw_xw0110_01.main.body 23)
def X_law_rows : Sx := ⟨R_law_rows.scope, [("base", false), ("most", false), ("w", false), ("rows", false), ("many", false), ("row", false), ("above", false), ("at", false), ("one", false), ("turn", false)]⟩
theorem S_law_rows_0 : SlotD X_law_rows false 0 "base" := slot_of (by decide +kernel)
theorem S_law_rows_1 : SlotD X_law_rows false 1 "most" := slot_of (by decide +kernel)
theorem S_law_rows_2 : SlotD X_law_rows false 2 "w" := slot_of (by decide +kernel)
theorem S_law_rows_3 : SlotD X_law_rows false 3 "rows" := slot_of (by decide +kernel)
theorem S_law_rows_4 : SlotD X_law_rows false 4 "many" := slot_of (by decide +kernel)
theorem S_law_rows_5 : SlotD X_law_rows false 5 "row" := slot_of (by decide +kernel)
theorem S_law_rows_6 : SlotD X_law_rows false 6 "above" := slot_of (by decide +kernel)
theorem S_law_rows_7 : SlotD X_law_rows false 7 "at" := slot_of (by decide +kernel)
theorem S_law_rows_8 : SlotD X_law_rows false 8 "one" := slot_of (by decide +kernel)
theorem S_law_rows_9 : SlotD X_law_rows false 9 "turn" := slot_of (by decide +kernel)
theorem G_law_rows_add : X_law_rows.sc.names.lookup ("add" : Str) = some NameKind.globalImplicit := glb_of (by decide +kernel)
theorem G_law_rows_mul_limb : X_law_rows.sc.names.lookup ("mul_limb" : Str) = some NameKind.globalImplicit := glb_of (by decide +kernel)
theorem G_law_rows_range : X_law_rows.sc.names.lookup ("range" : Str) = some NameKind.globalImplicit := glb_of (by decide +kernel)
theorem ND_law_rows : (X_law_rows.ns.map (·.1)).Nodup := by decide +kernel
theorem D_law_rows {C : Cx} (H : Hyp C) : DenB C X_law_rows 1 R_law_rows.body B_law_rows :=
  (denB_cons (denS_asg ND_law_rows rfl S_law_rows_3.toSlot' (den_list (denL_cons (den_list (denL_cons (den_list (denL_cons den_int denL_nil)) denL_nil)) denL_nil)) (fun _ _ _ _ _ _ => rfl))
    (denB_cons (denS_for ND_law_rows rfl S_law_rows_4.toSlot' (denI_range H.b_range rfl G_law_rows_range rfl (denL_cons (den_locS rfl S_law_rows_1) denL_nil)) (denB_cons (denS_unpS (names := [("row" : Str), ("above" : Str)]) ND_law_rows rfl (fun _ _ _ _ _ _ => (.cons S_law_rows_6.toSlot' stO_bind (.cons S_law_rows_5.toSlot' stO_bind .nil))) (denL_cons (den_list denL_nil) (denL_cons (den_bin rfl (den_sub (den_locS rfl S_law_rows_3) (den_neg den_int)) (den_list (denL_cons (den_list denL_nil) denL_nil))) denL_nil)) (fun _ _ _ _ _ _ => rfl) (fun _ _ _ _ _ _ => by kernel_rfl))
    (denB_cons (denS_for ND_law_rows rfl S_law_rows_7.toSlot' (denI_range H.b_range rfl G_law_rows_range rfl (denL_cons (den_bin rfl (den_locS rfl S_law_rows_4) den_int) denL_nil)) (denB_cons (denS_asg ND_law_rows rfl S_law_rows_8.toSlot' (den_sub (den_locS rfl S_law_rows_6) (den_locS rfl S_law_rows_7)) (fun _ _ _ _ _ _ => rfl))
    (denB_cons (denS_for ND_law_rows rfl S_law_rows_9.toSlot' (denI_range H.b_range rfl G_law_rows_range rfl (denL_cons (den_locS rfl S_law_rows_7) denL_nil)) (denB_cons (denS_asg ND_law_rows rfl S_law_rows_8.toSlot' (den_call ((C_mul_limb H).le (by decide)) (E_mul_limb H) rfl G_law_rows_mul_limb rfl rfl (denL_cons (den_locS rfl S_law_rows_8) (denL_cons (den_locS rfl S_law_rows_0) (denL_cons (den_locS rfl S_law_rows_2) denL_nil)))) (fun _ _ _ _ _ _ => rfl))
    denB_nil) (fun _ _ _ _ _ _ _ => rfl))
    (denB_cons (denS_app (den_locS rfl S_law_rows_5) (den_call ((C_add H).le (by decide)) (E_add H) rfl G_law_rows_add rfl rfl (denL_cons (den_locS rfl S_law_rows_8) (denL_cons (den_if (denT_cmp rfl (den_locS rfl S_law_rows_7) den_int) (den_sub (den_locS rfl S_law_rows_6) (den_bin rfl (den_locS rfl S_law_rows_7) den_int)) (den_list denL_nil)) (denL_cons (den_locS rfl S_law_rows_2) denL_nil)))) rfl (fun _ _ _ _ _ _ => rfl) rfl (fun _ _ _ _ _ _ => rfl))
    denB_nil))) (fun _ _ _ _ _ _ _ => rfl))
    (denB_cons (denS_app (den_locS rfl S_law_rows_3) (den_locS rfl S_law_rows_5) rfl (fun _ _ _ _ _ _ => rfl) rfl (fun _ _ _ _ _ _ => rfl))
    denB_nil))) (fun _ _ _ _ _ _ _ => rfl))
    (denB_cons (denS_ret (den_locS rfl S_law_rows_3))
    denB_nil)))
theorem E_law_rows {C : Cx} (H : Hyp C) : ∃ d ∈ recsOf C.p, d.name = ("_law_rows" : Str) := ⟨R_law_rows, H.r 23 (by decide), by kernel_rfl⟩
theorem C_law_rows {C : Cx} (H : Hyp C) : Con C 2 ("_law_rows" : Str) F_law_rows :=
  con_ofS (X := X_law_rows) (d := R_law_rows) (H.r 23 (by decide)) rfl (by decide +kernel) (fun pm code doc => un3 fun a b c => by kernel_rfl) (D_law_rows H)

def R_law_by_products : DefRec := drOf (nthS PySem.Challenge.pw_xw0110_01.main.body 24)
def X_law_by_products : Sx := ⟨R_law_by_products.scope, [("base", false), ("many", false), ("part", false), ("w", false), ("over", false), ("under", false), ("at", false), ("found", false), ("left", false)]⟩
theorem S_law_by_products_0 : SlotD X_law_by_products false 0 "base" := slot_of (by decide +kernel)
theorem S_law_by_products_1 : SlotD X_law_by_products false 1 "many" := slot_of (by decide +kernel)
theorem S_law_by_products_2 : SlotD X_law_by_products false 2 "part" := slot_of (by decide +kernel)
theorem S_law_by_products_3 : SlotD X_law_by_products false 3 "w" := slot_of (by decide +kernel)
theorem S_law_by_products_4 : SlotD X_law_by_products false 4 "over" := slot_of (by decide +kernel)
theorem S_law_by_products_5 : SlotD X_law_by_products false 5 "under" := slot_of (by decide +kernel)
theorem S_law_by_products_6 : SlotD X_law_by_products false 6 "at" := slot_of (by decide +kernel)
theorem S_law_by_products_7 : SlotD X_law_by_products false 7 "found" := slot_of (by decide +kernel)
theorem S_law_by_products_8 : SlotD X_law_by_products false 8 "left" := slot_of (by decide +kernel)
theorem G_law_by_products_law_limbs : X_law_by_products.sc.names.lookup ("_law_limbs" : Str) = some NameKind.globalImplicit := glb_of (by decide +kernel)
theorem G_law_by_products_divrem_school : X_law_by_products.sc.names.lookup ("divrem_school" : Str) = some NameKind.globalImplicit := glb_of (by decide +kernel)
theorem G_law_by_products_mul_school : X_law_by_products.sc.names.lookup ("mul_school" : Str) = some NameKind.globalImplicit := glb_of (by decide +kernel)
theorem G_law_by_products_range : X_law_by_products.sc.names.lookup ("range" : Str) = some NameKind.globalImplicit := glb_of (by decide +kernel)
theorem ND_law_by_products : (X_law_by_products.ns.map (·.1)).Nodup := by decide +kernel
theorem D_law_by_products {C : Cx} (H : Hyp C) : DenB C X_law_by_products 4 R_law_by_products.body B_law_by_products :=
  (denB_cons (denS_unpS (names := [("over" : Str), ("under" : Str)]) ND_law_by_products rfl (fun _ _ _ _ _ _ => (.cons S_law_by_products_5.toSlot' stO_bind (.cons S_law_by_products_4.toSlot' stO_bind .nil))) (denL_cons (den_list (denL_cons den_int denL_nil)) (denL_cons (den_list (denL_cons den_int denL_nil)) denL_nil)) (fun _ _ _ _ _ _ => rfl) (fun _ _ _ _ _ _ => by kernel_rfl))
    (denB_cons (denS_for ND_law_by_products rfl S_law_by_products_6.toSlot' (denI_range H.b_range rfl G_law_by_products_range rfl (denL_cons (den_locS rfl S_law_by_products_2) denL_nil)) (denB_cons (denS_asg ND_law_by_products rfl S_law_by_products_4.toSlot' (den_call ((C_mul_school H).le (by decide)) (E_mul_school H) rfl G_law_by_products_mul_school rfl rfl (denL_cons (den_locS rfl S_law_by_products_4) (denL_cons (den_callZ ((C_law_limbs H).le (by decide)) (E_law_limbs H) rfl G_law_by_products_law_limbs rfl rfl (denL_cons (den_bin rfl (den_bin rfl (den_locS rfl S_law_by_products_0) (den_bin rfl (den_locS rfl S_law_by_products_1) (den_locS rfl S_law_by_products_6))) den_int) (denL_cons (den_locS rfl S_law_by_products_3) denL_nil))) (denL_cons (den_locS rfl S_law_by_products_3) denL_nil)))) (fun _ _ _ _ _ _ => rfl))
    (denB_cons (denS_asg ND_law_by_products rfl S_law_by_products_5.toSlot' (den_call ((C_mul_school H).le (by decide)) (E_mul_school H) rfl G_law_by_products_mul_school rfl rfl (denL_cons (den_locS rfl S_law_by_products_5) (denL_cons (den_callZ ((C_law_limbs H).le (by decide)) (E_law_limbs H) rfl G_law_by_products_law_limbs rfl rfl (denL_cons (den_bin rfl (den_bin rfl (den_locS rfl S_law_by_products_0) (den_bin rfl (den_locS rfl S_law_by_products_6) den_int)) den_int) (denL_cons (den_locS rfl S_law_by_products_3) denL_nil))) (denL_cons (den_locS rfl S_law_by_products_3) denL_nil)))) (fun _ _ _ _ _ _ => rfl))
    denB_nil)) (fun _ _ _ _ _ _ _ => rfl))
    (denB_cons (denS_unpC ND_law_by_products rfl (fun _ _ _ _ _ _ => (.cons S_law_by_products_7.toSlot' stO_assign (.cons S_law_by_products_8.toSlot' stO_assign .nil))) (fun _ _ _ _ _ _ => rfl) (den_call ((C_divrem_school H).le (by decide)) (E_divrem_school H) rfl G_law_by_products_divrem_school rfl rfl (denL_cons (den_locS rfl S_law_by_products_4) (denL_cons (den_locS rfl S_law_by_products_5) (denL_cons (den_locS rfl S_law_by_products_3) denL_nil)))) (fun _ _ _ _ _ _ => rfl) (fun _ _ _ _ _ _ => by kernel_rfl))
    (denB_cons (denS_ret (den_if (denT_cmp rfl (den_locS rfl S_law_by_products_8) (den_list denL_nil)) (den_locS rfl S_law_by_products_7) den_none))
    denB_nil))))
theorem E_law_by_products {C : Cx} (H : Hyp C) : ∃ d ∈ recsOf C.p, d.name = ("_law_by_products" : Str) := ⟨R_law_by_products, H.r 24 (by decide), by kernel_rfl⟩
theorem C_law_by_products {C : Cx} (H : Hyp C) : Con C 5 ("_law_by_products" : Str) F_law_by_products :=
  con_ofS (X := X_law_by_products) (d := R_law_by_products) (H.r 24 (by decide)) rfl (by decide +kernel) (fun pm code doc => un4 fun a b c d => by kernel_rfl) (D_law_by_products H)

def R_law_by_plain : DefRec := drOf (nthS PySem.Challenge.pw_xw0110_01.main.body 25)
def X_law_by_plain : Sx := ⟨R_law_by_plain.scope, [("base", true), ("most", false), ("rows", false), ("many", true), ("above", true)]⟩
theorem S_law_by_plain_0 : SlotD X_law_by_plain true 0 "base" := slot_of (by decide +kernel)
theorem S_law_by_plain_1 : SlotD X_law_by_plain false 1 "most" := slot_of (by decide +kernel)
theorem S_law_by_plain_2 : SlotD X_law_by_plain false 2 "rows" := slot_of (by decide +kernel)
theorem S_law_by_plain_3 : SlotD X_law_by_plain true 3 "many" := slot_of (by decide +kernel)
theorem S_law_by_plain_4 : SlotD X_law_by_plain true 4 "above" := slot_of (by decide +kernel)
theorem G_law_by_plain_range : X_law_by_plain.sc.names.lookup ("range" : Str) = some NameKind.globalImplicit := glb_of (by decide +kernel)
theorem ND_law_by_plain : (X_law_by_plain.ns.map (·.1)).Nodup := by decide +kernel
theorem D_law_by_plain {C : Cx} (H : Hyp C) : DenB C X_law_by_plain 0 R_law_by_plain.body B_law_by_plain :=
  (denB_cons (denS_asg ND_law_by_plain rfl S_law_by_plain_2.toSlot' (den_list (denL_cons (den_list (denL_cons den_int denL_nil)) denL_nil)) (fun _ _ _ _ _ _ => rfl))
    (denB_cons (denS_for ND_law_by_plain rfl S_law_by_plain_3.toSlot' (denI_range H.b_range rfl G_law_by_plain_range rfl (denL_cons den_int (denL_cons (den_bin rfl (den_locS rfl S_law_by_plain_1) den_int) denL_nil))) (denB_cons (denS_asg ND_law_by_plain rfl S_law_by_plain_4.toSlot' (den_bin rfl (den_sub (den_locS rfl S_law_by_plain_2) (den_neg den_int)) (den_list (denL_cons den_int denL_nil))) (fun _ _ _ _ _ _ => rfl))
    (denB_cons (denS_app (den_locS rfl S_law_by_plain_2) (den_bin rfl (den_list (denL_cons den_int denL_nil)) (den_compS ["above", "base", "many"] (by decide +kernel) (denI_range H.b_range rfl G_law_by_plain_range rfl (denL_cons den_int (denL_cons (den_bin rfl (den_cellS rfl S_law_by_plain_3) den_int) denL_nil))) (den_bin rfl (den_sub (den_cellS rfl (slot_of (by decide +kernel))) (den_locS rfl (slot_of (by decide +kernel)))) (den_bin rfl (den_bin rfl (den_cellS rfl (slot_of (by decide +kernel))) (den_bin rfl (den_cellS rfl (slot_of (by decide +kernel))) (den_locS rfl (slot_of (by decide +kernel))))) (den_sub (den_cellS rfl (slot_of (by decide +kernel))) (den_bin rfl (den_locS rfl (slot_of (by decide +kernel))) den_int)))) (fun _ _ _ _ _ _ _ => rfl))) rfl (fun _ _ _ _ _ _ => rfl) rfl (fun _ _ _ _ _ _ => rfl))
    denB_nil)) (fun _ _ _ _ _ _ _ => rfl))
    (denB_cons (denS_ret (den_locS rfl S_law_by_plain_2))
    denB_nil)))
theorem E_law_by_plain {C : Cx} (H : Hyp C) : ∃ d ∈ recsOf C.p, d.name = ("_law_by_plain" : Str) := ⟨R_law_by_plain, H.r 25 (by decide), by kernel_rfl⟩
theorem O_law_by_plain : CellD X_law_by_plain R_law_by_plain 2 [4, 0, 3] :=
  cellD_of rfl (by decide +kernel) (fun pm code doc => un2 fun a b => by kernel_rfl)
theorem C_law_by_plain {C : Cx} (H : Hyp C) : Con C 1 ("_law_by_plain" : Str) F_law_by_plain :=
  con_cells (X := X_law_by_plain) (d := R_law_by_plain) (H.r 25 (by decide)) (D_law_by_plain H) O_law_by_plain

def R_law_spaces : DefRec := drOf (nthS PySem.Challenge.pw_xw0110_01.main.body 26)
def X_law_spaces : Sx := ⟨R_law_spaces.scope, [("many", false), ("level", false), ("found", false), ("turn", false), ("later", false), ("space", false), ("one", true), ("more", false)]⟩
theorem S_law_spaces_0 : SlotD X_law_spaces false 0 "many" := slot_of (by decide +kernel)
theorem S_law_spaces_1 : SlotD X_law_spaces false 1 "level" := slot_of (by decide +kernel)
theorem S_law_spaces_2 : SlotD X_law_spaces false 2 "found" := slot_of (by decide +kernel)
theorem S_law_spaces_3 : SlotD X_law_spaces false 3 "turn" := slot_of (by decide +kernel)
theorem S_law_spaces_4 : SlotD X_law_spaces false 4 "later" := slot_of (by decide +kernel)
theorem S_law_spaces_5 : SlotD X_law_spaces false 5 "space" := slot_of (by decide +kernel)
theorem S_law_spaces_6 : SlotD X_law_spaces true 6 "one" := slot_of (by decide +kernel)
theorem S_law_spaces_7 : SlotD X_law_spaces false 7 "more" := slot_of (by decide +kernel)
theorem G_law_spaces_len : X_law_spaces.sc.names.lookup ("len" : Str) = some NameKind.globalImplicit := glb_of (by decide +kernel)
theorem G_law_spaces_range : X_law_spaces.sc.names.lookup ("range" : Str) = some NameKind.globalImplicit := glb_of (by decide +kernel)
theorem G_law_spaces_sorted : X_law_spaces.sc.names.lookup ("sorted" : Str) = some NameKind.globalImplicit := glb_of (by decide +kernel)
theorem G_law_spaces_tuple : X_law_spaces.sc.names.lookup ("tuple" : Str) = some NameKind.globalImplicit := glb_of (by decide +kernel)
theorem ND_law_spaces : (X_law_spaces.ns.map (·.1)).Nodup := by decide +kernel
theorem D_law_spaces {C : Cx} (H : Hyp C) : DenB C X_law_spaces 0 R_law_spaces.body B_law_spaces :=
  (denB_cons (denS_unpS (names := [("level" : Str), ("found" : Str)]) ND_law_spaces rfl (fun _ _ _ _ _ _ => (.cons S_law_spaces_2.toSlot' stO_bind (.cons S_law_spaces_1.toSlot' stO_bind .nil))) (denL_cons (den_list (denL_cons (den_tup (denL_cons den_int denL_nil)) denL_nil)) (denL_cons (den_list denL_nil) denL_nil)) (fun _ _ _ _ _ _ => rfl) (fun _ _ _ _ _ _ => by kernel_rfl))
    (denB_cons (denS_for ND_law_spaces rfl S_law_spaces_3.toSlot' (denI_range H.b_range rfl G_law_spaces_range rfl (denL_cons (den_bin rfl (den_locS rfl S_law_spaces_0) den_int) denL_nil)) (denB_cons (denS_app (den_locS rfl S_law_spaces_2) (den_len H.b_len rfl G_law_spaces_len rfl (denL_cons (den_locS rfl S_law_spaces_1) denL_nil)) rfl (fun _ _ _ _ _ _ => rfl) rfl (fun _ _ _ _ _ _ => rfl))
    (denB_cons (denS_asg ND_law_spaces rfl S_law_spaces_4.toSlot' (den_list denL_nil) (fun _ _ _ _ _ _ => rfl))
    (denB_cons (denS_for ND_law_spaces rfl S_law_spaces_5.toSlot' (denI_seq (den_locS rfl S_law_spaces_1)) (denB_cons (denS_for ND_law_spaces rfl S_law_spaces_6.toSlot' (denI_range H.b_range rfl G_law_spaces_range rfl (denL_cons den_int (denL_cons (den_bin rfl den_int (den_locS rfl S_law_spaces_0)) denL_nil))) (denB_cons (denS_asg ND_law_spaces rfl S_law_spaces_7.toSlot' (den_if (denT_notIn (den_cellS rfl S_law_spaces_6) (den_locS rfl S_law_spaces_5) rfl) (den_tupc H.b_tuple rfl G_law_spaces_tuple rfl (denL_cons (den_sorted H.b_sorted rfl G_law_spaces_sorted rfl (denL_cons (den_bin rfl (den_locS rfl S_law_spaces_5) (den_tupc H.b_tuple rfl G_law_spaces_tuple rfl (denL_cons (den_compS ["one"] (by decide +kernel) (denI_seq (den_locS rfl S_law_spaces_5)) (den_bin rfl (den_cellS rfl (slot_of (by decide +kernel))) (den_locS rfl (slot_of (by decide +kernel)))) (fun _ _ _ _ _ _ _ => rfl)) denL_nil))) denL_nil)) denL_nil)) den_none) (fun _ _ _ _ _ _ => rfl))
    (denB_cons (denS_if (denT_and (denT_notNone (den_locS rfl S_law_spaces_7)) (denT_notIn (den_locS rfl S_law_spaces_7) (den_locS rfl S_law_spaces_4) rfl)) (denB_cons (denS_app (den_locS rfl S_law_spaces_4) (den_locS rfl S_law_spaces_7) rfl (fun _ _ _ _ _ _ => rfl) rfl (fun _ _ _ _ _ _ => rfl))
    denB_nil) denB_nil)
    denB_nil)) (fun _ _ _ _ _ _ _ => rfl))
    denB_nil) (fun _ _ _ _ _ _ _ => rfl))
    (denB_cons (denS_asg ND_law_spaces rfl S_law_spaces_1.toSlot' (den_locS rfl S_law_spaces_4) (fun _ _ _ _ _ _ => rfl))
    denB_nil)))) (fun _ _ _ _ _ _ _ => rfl))
    (denB_cons (denS_ret (den_locS rfl S_law_spaces_2))
    denB_nil)))
theorem E_law_spaces {C : Cx} (H : Hyp C) : ∃ d ∈ recsOf C.p, d.name = ("_law_spaces" : Str) := ⟨R_law_spaces, H.r 26 (by decide), by kernel_rfl⟩
theorem O_law_spaces : CellD X_law_spaces R_law_spaces 1 [6] :=
  cellD_of rfl (by decide +kernel) (fun pm code doc => un1 fun a => by kernel_rfl)
theorem C_law_spaces {C : Cx} (H : Hyp C) : Con C 1 ("_law_spaces" : Str) F_law_spaces :=
  con_cells (X := X_law_spaces) (d := R_law_spaces) (H.r 26 (by decide)) (D_law_spaces H) O_law_spaces

def R_law : DefRec := drOf (nthS PySem.Challenge.pw_xw0110_01.main.body 27)
def X_law : Sx := ⟨R_law.scope, [("script", false), ("yard", false), ("w", true), ("base", true), ("most", false), ("here", false), ("rows", false), ("due", false), ("many", true), ("told", false), ("total", false), ("found", false), ("at", false)]⟩
theorem S_law_0 : SlotD X_law false 0 "script" := slot_of (by decide +kernel)
theorem S_law_1 : SlotD X_law false 1 "yard" := slot_of (by decide +kernel)
theorem S_law_2 : SlotD X_law true 2 "w" := slot_of (by decide +kernel)
theorem S_law_3 : SlotD X_law true 3 "base" := slot_of (by decide +kernel)
theorem S_law_4 : SlotD X_law false 4 "most" := slot_of (by decide +kernel)
theorem S_law_5 : SlotD X_law false 5 "here" := slot_of (by decide +kernel)
theorem S_law_6 : SlotD X_law false 6 "rows" := slot_of (by decide +kernel)
theorem S_law_7 : SlotD X_law false 7 "due" := slot_of (by decide +kernel)
theorem S_law_8 : SlotD X_law true 8 "many" := slot_of (by decide +kernel)
theorem S_law_9 : SlotD X_law false 9 "told" := slot_of (by decide +kernel)
theorem S_law_10 : SlotD X_law false 10 "total" := slot_of (by decide +kernel)
theorem S_law_11 : SlotD X_law false 11 "found" := slot_of (by decide +kernel)
theorem S_law_12 : SlotD X_law false 12 "at" := slot_of (by decide +kernel)
theorem G_law_law_by_plain : X_law.sc.names.lookup ("_law_by_plain" : Str) = some NameKind.globalImplicit := glb_of (by decide +kernel)
theorem G_law_law_next : X_law.sc.names.lookup ("_law_next" : Str) = some NameKind.globalImplicit := glb_of (by decide +kernel)
theorem G_law_law_rows : X_law.sc.names.lookup ("_law_rows" : Str) = some NameKind.globalImplicit := glb_of (by decide +kernel)
theorem G_law_law_spaces : X_law.sc.names.lookup ("_law_spaces" : Str) = some NameKind.globalImplicit := glb_of (by decide +kernel)
theorem G_law_range : X_law.sc.names.lookup ("range" : Str) = some NameKind.globalImplicit := glb_of (by decide +kernel)
theorem ND_law : (X_law.ns.map (·.1)).Nodup := by decide +kernel
theorem D_law {C : Cx} (H : Hyp C) : DenB C X_law 5 R_law.body B_law :=
  (denB_cons (denS_asg ND_law rfl S_law_1.toSlot' (den_list (denL_cons den_int (denL_cons (den_compS [] (by decide +kernel) (denI_seq (den_cutTo (den_locS rfl S_law_0) den_int)) (den_abs H.b_abs rfl (glb_of (by decide +kernel)) rfl (denL_cons (den_intc H.b_int rfl (glb_of (by decide +kernel)) rfl (denL_cons (den_locS rfl (slot_of (by decide +kernel))) denL_nil)) denL_nil)) (fun _ _ _ _ _ _ _ => rfl)) denL_nil))) (fun _ _ _ _ _ _ => rfl))
    (denB_cons (denS_unpD ND_law rfl (fun _ _ _ _ _ _ => (.cons S_law_2.toSlot' stO_assign (.cons S_law_3.toSlot' stO_assign (.cons S_law_4.toSlot' stO_assign .nil)))) (fun _ _ _ _ _ _ => rfl) (denL_cons (den_bin rfl den_int (den_call ((C_law_next H).le (by decide)) (E_law_next H) rfl G_law_law_next rfl rfl (denL_cons (den_locS rfl S_law_1) (denL_cons den_int denL_nil)))) (denL_cons (den_bin rfl den_int (den_call ((C_law_next H).le (by decide)) (E_law_next H) rfl G_law_law_next rfl rfl (denL_cons (den_locS rfl S_law_1) (denL_cons den_int denL_nil)))) (denL_cons (den_bin rfl den_int (den_call ((C_law_next H).le (by decide)) (E_law_next H) rfl G_law_law_next rfl rfl (denL_cons (den_locS rfl S_law_1) (denL_cons den_int denL_nil)))) denL_nil))) (fun _ _ _ _ _ _ => rfl) (fun _ _ _ _ _ _ => by kernel_rfl))
    (denB_cons (denS_unpS (names := [("here" : Str), ("rows" : Str), ("due" : Str)]) ND_law rfl (fun _ _ _ _ _ _ => (.cons S_law_7.toSlot' stO_bind (.cons S_law_6.toSlot' stO_bind (.cons S_law_5.toSlot' stO_bind .nil)))) (denL_cons (den_bin rfl den_int (den_call ((C_law_next H).le (by decide)) (E_law_next H) rfl G_law_law_next rfl rfl (denL_cons (den_locS rfl S_law_1) (denL_cons den_int denL_nil)))) (denL_cons (den_call ((C_law_rows H).le (by decide)) (E_law_rows H) rfl G_law_law_rows rfl rfl (denL_cons (den_cellS rfl S_law_3) (denL_cons (den_locS rfl S_law_4) (denL_cons (den_cellS rfl S_law_2) denL_nil)))) (denL_cons (den_call ((C_law_by_plain H).le (by decide)) (E_law_by_plain H) rfl G_law_law_by_plain rfl rfl (denL_cons (den_cellS rfl S_law_3) (denL_cons (den_locS rfl S_law_4) denL_nil))) denL_nil))) (fun _ _ _ _ _ _ => rfl) (fun _ _ _ _ _ _ => by kernel_rfl))
    (denB_cons (denS_for ND_law rfl S_law_8.toSlot' (denI_range H.b_range rfl G_law_range rfl (denL_cons (den_bin rfl (den_locS rfl S_law_4) den_int) denL_nil)) (denB_cons (denS_compS ["w"] ND_law rfl S_law_9 (by decide +kernel) (denI_seq (den_sub (den_locS rfl S_law_6) (den_cellS rfl S_law_8))) (den_call ((C_law_told H).le (by decide)) (E_law_told H) rfl (glb_of (by decide +kernel)) rfl rfl (denL_cons (den_locS rfl (slot_of (by decide +kernel))) (denL_cons (den_cellS rfl (slot_of (by decide +kernel))) denL_nil))) (fun _ _ _ _ _ _ => rfl) (fun _ _ _ _ _ _ _ => rfl))
    (denB_cons (denS_if (denT_or (denT_cmp rfl (den_locS rfl S_law_9) (den_sub (den_locS rfl S_law_7) (den_cellS rfl S_law_8))) (denT_cmp rfl (den_sub (den_locS rfl S_law_6) (den_cellS rfl S_law_8)) (den_cutRev (den_sub (den_locS rfl S_law_6) (den_cellS rfl S_law_8))))) (denB_cons (denS_ret den_bool)
    denB_nil) denB_nil)
    (denB_cons (denS_if (denT_cmp rfl (den_sub (den_locS rfl S_law_6) (den_cellS rfl S_law_8)) (den_compS ["base", "many", "w"] (by decide +kernel) (denI_range H.b_range rfl G_law_range rfl (denL_cons (den_bin rfl (den_cellS rfl S_law_8) den_int) denL_nil)) (den_callZ ((C_law_by_products H).le (by decide)) (E_law_by_products H) rfl (glb_of (by decide +kernel)) rfl rfl (denL_cons (den_cellS rfl (slot_of (by decide +kernel))) (denL_cons (den_cellS rfl (slot_of (by decide +kernel))) (denL_cons (den_locS rfl (slot_of (by decide +kernel))) (denL_cons (den_cellS rfl (slot_of (by decide +kernel))) denL_nil))))) (fun _ _ _ _ _ _ _ => rfl))) (denB_cons (denS_ret den_bool)
    denB_nil) denB_nil)
    (denB_cons (denS_if (denT_and3 (denT_cmp rfl (den_cellS rfl S_law_3) den_int) (denT_cmp rfl (den_cellS rfl S_law_8) den_int) (denT_cmp rfl (den_locS rfl S_law_9) (den_callZ ((C_law_spaces H).le (by decide)) (E_law_spaces H) rfl G_law_law_spaces rfl rfl (denL_cons (den_cellS rfl S_law_8) denL_nil)))) (denB_cons (denS_ret den_bool)
    denB_nil) denB_nil)
    (denB_cons (denS_unpD ND_law rfl (fun _ _ _ _ _ _ => (.cons S_law_10.toSlot' stO_assign (.cons S_law_11.toSlot' stO_assign .nil))) (fun _ _ _ _ _ _ => rfl) (denL_cons den_int (denL_cons den_int denL_nil)) (fun _ _ _ _ _ _ => rfl) (fun _ _ _ _ _ _ => by kernel_rfl))
    (denB_cons (denS_for ND_law rfl S_law_12.toSlot' (denI_range H.b_range rfl G_law_range rfl (denL_cons (den_cellS rfl S_law_8) denL_nil)) (denB_cons (denS_asg ND_law rfl S_law_10.toSlot' (den_bin rfl (den_locS rfl S_law_10) (den_bin rfl den_int (den_bin rfl (den_bin rfl (den_cellS rfl S_law_3) (den_locS rfl S_law_12)) (den_locS rfl S_law_5)))) (fun _ _ _ _ _ _ => rfl))
    denB_nil) (fun _ _ _ _ _ _ _ => rfl))
    (denB_cons (denS_for ND_law rfl S_law_12.toSlot' (denI_range H.b_range rfl G_law_range rfl (denL_cons (den_bin rfl (den_cellS rfl S_law_8) den_int) denL_nil)) (denB_cons (denS_asg ND_law rfl S_law_11.toSlot' (den_bin rfl (den_locS rfl S_law_11) (den_bin rfl (den_bin rfl (den_sub (den_locS rfl S_law_9) (den_locS rfl S_law_12)) (den_bin rfl (den_cellS rfl S_law_3) (den_bin rfl (den_bin rfl (den_locS rfl S_law_12) (den_bin rfl (den_locS rfl S_law_12) den_int)) den_int))) (den_bin rfl (den_locS rfl S_law_5) (den_locS rfl S_law_12)))) (fun _ _ _ _ _ _ => rfl))
    denB_nil) (fun _ _ _ _ _ _ _ => rfl))
    (denB_cons (denS_if (denT_cmp rfl (den_locS rfl S_law_11) (den_locS rfl S_law_10)) (denB_cons (denS_ret den_bool)
    denB_nil) denB_nil)
    denB_nil)))))))) (fun _ _ _ _ _ _ _ => rfl))
    (denB_cons (denS_ret den_bool)
    denB_nil)))))
theorem E_law {C : Cx} (H : Hyp C) : ∃ d ∈ recsOf C.p, d.name = ("law" : Str) := ⟨R_law, H.r 27 (by decide), by kernel_rfl⟩
theorem O_law : CellD X_law R_law 1 [2, 3, 8] :=
  cellD_of rfl (by decide +kernel) (fun pm code doc => un1 fun a => by kernel_rfl)
theorem C_law {C : Cx} (H : Hyp C) : Con C 6 ("law" : Str) F_law :=
  con_cells (X := X_law) (d := R_law) (H.r 27 (by decide)) (D_law H) O_law

end Mine
end

section
set_option maxRecDepth 100000
namespace Mine
open PySem PySem.W PySem.Spec PySem.Calls PyProof.Rows
theorem Cx.Top.hide {C : Cx} {h : Heap} {l : Addr} {its : Array Value} {n : Array Nat} {ob : Obj} (T : C.Top h) (hl : h.get? l = some ob) (hd : ∀ x, ob.data ≠ .func x) (hd2 : ∀ x y, ob.data ≠ .dict x y) (hd3 : ∀ x, ob.data ≠ .fields x) : C.Top (hideAll h [l]) := by
  have kp : ∀ b o, h.get? b = some o → b ≠ l → (hideAll h [l]).get? b = some o := fun b o e ne => hideAll_get _ e (by simpa using ne)
  have ns : ∀ a m, h.Ns a m → (hideAll h [l]).Ns a m := fun a m ⟨o, es, ep, e, d, r⟩ => ⟨o, es, ep, kp a o e (fun q => by
    subst q; rw [hl] at e; cases e; exact hd2 _ _ d), d, r⟩
  obtain ⟨g, b, ⟨mc, nl, nl2⟩, fn, bi⟩ := T
  refine ⟨ns _ _ g, ns _ _ b, ⟨mc, ns _ _ nl, nl2⟩, fun d hd' => ?_, bi⟩
  obtain ⟨a, o, pm, code, doc, h1, h2, h3, c, oc, vs, t, h4, h5, h6, h7⟩ := fn d hd'
  refine ⟨a, o, pm, code, doc, h1, kp a o h2 (fun q => by
    subst q; rw [hl] at h2; cases h2; exact hd _ h3), h3, c, oc, vs, t, h4, kp c oc h5 (fun q => by
    subst q; rw [hl] at h5; cases h5; exact hd3 _ h6), h6, h7⟩
theorem law_top {C : Cx} (H : Hyp C) {A : Around} {s : Shared} {l fa : Addr} {vs : List V} {ob : Obj} {Q : Value → Shared → Prop} {Ex : Value → Shared → Prop} {us : List Value} {n : Nat} {σ' : St} {vs' : List V}
    (R : Room A 6) (T : C.Top s.heap) (hmg : C.mg ("law" : Str) = some (.ref fa)) (hob : ob = listOf us.toArray n) (hl : s.heap.get? l = some ob) (hr : VsR 1 (fun _ => l) vs us)
    (hF : F_law [.rf 0] ⟨1, [.fz vs ob]⟩ = .ok (.bo true) σ') (hF' : get σ' 0 = .fz vs' ob)
    (hQ : ∀ h' tk', (∀ b o, s.heap.get? b = some o → h'.get? b = some o) → Q (.bool true) { s with heap := h', toks := tk' }) :
    wpAny (model C.prog C.w) A (call (.ref fa) [.ref l]) Q Ex s := by
  have G := gnd_of s.heap s.heap l [] [(l, ob)]
  have TG : C.Top (hideAll s.heap ([(l, ob)].map (·.1))) := T.hide (its := #[]) (n := #[]) hl (by subst hob; intro x e; cases e) (by subst hob; intro x y e; cases e) (by subst hob; intro x e; cases e)
  refine wpAny_call (enter_cells (d := R_law) (H.r 27 (by decide)) (D_law H) O_law hmg hF R T TG G (ρ := fun _ => l) (vs := [.rf 0]) (us := [.ref l]) (fun p hp => ?_) (by simp) ⟨rfl, ⟨hob ▸ rfl, us, n, hob, hr⟩, trivial⟩ rfl ⟨⟨Nat.zero_lt_one, rfl⟩, trivial⟩ fun h' tk' ρ' L' u m' news' x' B' hr' => ?_)
  · rw [List.mem_singleton] at hp; subst hp; exact hl
  · have : u = .bool true := hr'
    subst this
    refine hQ h' tk' fun b o hb => ?_
    by_cases e : b = l
    · subst e
      rw [hl] at hb; cases hb
      have le : 1 ≤ σ'.n := x'.le
      obtain ⟨pre, ob', post, hn, ho, _⟩ := B'.S.at (k := 0) (by rw [← B'.len]; exact le)
      rw [← B'.len] at ho
      have e2 : nthO σ'.os (σ'.n - 1 - 0) = .fz vs' ob := hF'
      rw [e2] at ho
      have e3 : ob' = ob := ho.1
      have e4 : ρ' 0 = b := x'.eq 0 Nat.zero_lt_one
      have := (B'.N (ρ' 0, ob') (by rw [hn]; simp)).1
      rw [e3, e4] at this
      exact this
    · exact B'.F.keep b o (G.all b o hb (by simpa using e))
end Mine
end

section
set_option maxRecDepth 100000
namespace Mine
open PySem PySem.W

abbrev itN (a : Nat) : V := .it (.ofNat a)
theorem fmod_nat (i : Int) (m : Nat) (hm : 0 < m) : ∃ r : Nat, r < m ∧ Int.fmod i (.ofNat m) = .ofNat r := by
  have h1 := Int.fmod_nonneg_of_pos i (b := Int.ofNat m) (by exact Int.ofNat_lt.mpr hm)
  have h2 := Int.fmod_lt_of_pos i (b := Int.ofNat m) (by exact Int.ofNat_lt.mpr hm)
  obtain ⟨r, hr⟩ := Int.eq_ofNat_of_zero_le h1
  refine ⟨r, ?_, hr⟩
  rw [hr] at h2
  exact Int.ofNat_lt.mp h2
theorem lenV_map {α : Type} (f : α → V) (l : List α) : lenV (l.map f) = l.length := by rw [lenV_eq, List.length_map]
theorem nth_map (as : List Nat) (c : Nat) (h : c < as.length) : nth (as.map itN) c = itN as[c] := by
  rw [nth_eq, List.getElem?_map, List.getElem?_eq_getElem h]; rfl
theorem nextI_ls (k i : Nat) (σ : St) : nextI (.ls k i) σ = (match get σ k with
    | .li vs => bif nlt i (lenV vs) then .item (nth vs i) (.ls k (Nat.succ i)) else .stop
    | _ => .bad) := rfl
-- the source's items, gone through
theorem cg_abs (cs : List V) (tl : List O) (f : EF) (hf : ∀ i σ, f (.it i :: cs) σ = .ok (.it (.ofNat (iabs i))) σ) (σ : St) (k : Nat) : ∀ (l pre : List Int) (fuel : Nat), l.length < fuel → get σ k = .li ((pre ++ l).map V.it) →
    cgI f cs fuel (.ls k pre.length) σ = .ok (l.map fun i => itN (iabs i)) σ
  | [], pre, fuel + 1, _, hg => by
    rw [cgI_succ]
    have : nextI (.ls k pre.length) σ = .stop := by
      rw [nextI_ls, hg]
      have : nlt pre.length (lenV ((pre ++ []).map V.it)) = false := by
        cases q : nlt pre.length (lenV ((pre ++ []).map V.it)) with
        | false => rfl
        | true => have := nlt_iff.mp q; rw [lenV_map] at this; simp at this
      simp only [this, cond_false]
    rw [this]; rfl
  | i :: l, pre, fuel + 1, hl, hg => by
    rw [cgI_succ]
    have h1 : nextI (.ls k pre.length) σ = .item (.it i) (.ls k (pre.length + 1)) := by
      rw [nextI_ls, hg]
      have : nlt pre.length (lenV ((pre ++ i :: l).map V.it)) = true := nlt_iff.mpr (by rw [lenV_map]; simp)
      simp only [this, cond_true, nth_eq]
      simp
    have ih := cg_abs cs tl f hf σ k l (pre ++ [i]) fuel (by simpa using hl) (by rw [hg]; simp)
    rw [h1]
    have e : (pre ++ [i]).length = pre.length + 1 := by simp
    rw [e] at ih
    show _ = RL.ok (itN (iabs i) :: _) σ
    dsimp only
    rw [fV_eq, hf]
    dsimp only
    rw [fV_eq, fIt_eq, ih]

section
variable {f g : EF} {loc : List V} {σ σ1 σ2 : St} {a b : V}
theorem eBin_ok {op : BO} (h1 : f loc σ = .ok a σ1) (h2 : g loc σ1 = .ok b σ2) : eBin op f g loc σ = bin op a b σ2 := by
  unfold eBin; rw [h1]; dsimp only; rw [h2]
theorem eSub_ok (h1 : f loc σ = .ok a σ1) (h2 : g loc σ1 = .ok b σ2) : eSub f g loc σ = item a b σ2 := by
  unfold eSub; rw [h1]; dsimp only; rw [h2]
theorem tCmp_ok {op : CO} (h1 : f loc σ = .ok a σ1) (h2 : g loc σ1 = .ok b σ2) : tCmp op f g loc σ = cmpV op a b σ2 := by
  unfold tCmp; rw [h1]; dsimp only; rw [h2]
theorem lCons_ok {l : LF} {vs : List V} (h1 : f loc σ = .ok a σ1) (h2 : l loc σ1 = .ok vs σ2) : lCons f l loc σ = .ok (a :: vs) σ2 := by
  unfold lCons; rw [h1]; dsimp only; rw [h2]
theorem bi1_ok {k : V → St → RE} {l : LF} (h1 : l loc σ = .ok [a] σ1) : bi1 k l loc σ = k a σ1 := by
  unfold bi1; rw [h1]
theorem item_ok {i : Nat} {k : Int} {vs : List V} (h1 : get σ i = .li vs) (h2 : vs.length < 100000) : item (.rf i) (.it k) σ = okV σ (nth vs (idx k (lenV vs))) := by
  have : nlt (lenV vs) 100000 = true := nlt_iff.mpr (by rw [lenV_eq]; exact h2)
  unfold item; dsimp only; rw [h1]; dsimp only; rw [this]; rfl
theorem kLen_ok {i : Nat} {vs : List V} (h1 : get σ i = .li vs) (h2 : vs.length < 100000) : kLen (.rf i) σ = .ok (.it (.ofNat vs.length)) σ := by
  have : nlt (lenV vs) 100000 = true := nlt_iff.mpr (by rw [lenV_eq]; exact h2)
  unfold kLen; dsimp only; rw [h1]; dsimp only; rw [this, lenV_eq]; rfl
theorem sSeq_nx {p q : SF} {loc' : List V} (h1 : p loc σ = .nx loc' σ1) : sSeq p q loc σ = q loc' σ1 := by
  unfold sSeq; rw [h1]
theorem sSeq_rt {p q : SF} (h1 : p loc σ = .rt a σ1) : sSeq p q loc σ = .rt a σ1 := by
  unfold sSeq; rw [h1]
theorem sIf_tt {t : TF} {p q : SF} (h1 : t loc σ = .ok true σ1) : sIf t p q loc σ = p loc σ1 := by
  unfold sIf; rw [h1]
theorem sIf_ff {t : TF} {p q : SF} (h1 : t loc σ = .ok false σ1) : sIf t p q loc σ = q loc σ1 := by
  unfold sIf; rw [h1]
theorem sRet_ok (h1 : f loc σ = .ok a σ1) : sRet f loc σ = .rt a σ1 := by
  unfold sRet; rw [h1]; dsimp only; rw [fV_eq]
theorem bin_mod {i : Int} {m : Nat} (hm : 0 < m) : bin .mod (.it i) (itN m) σ = .ok (.it (Int.fmod i (.ofNat m))) σ := by
  have hb : Z.eqB (.ofNat m) (.ofNat 0) = false := by
    cases m with
    | zero => cases hm
    | succ m => rfl
  show (bif Z.eqB (.ofNat m) (.ofNat 0) then RE.bad else _) = _
  rw [hb]; rfl
end
theorem next_eq (m c : Nat) (as : List Nat) (tl : List O) (hm : 0 < m) (hl : as.length < 100000) :
    ∃ r, r < m ∧ F_law_next [.rf 6, itN m] ⟨7, .li [itN c, .rf 5] :: .li (as.map itN) :: tl⟩ = .ok (itN r) ⟨7, .li [itN (c + 1), .rf 5] :: .li (as.map itN) :: tl⟩ := by
  have h1 : ∃ i : Int, B_law_next [.rf 6, itN m] ⟨7, .li [itN c, .rf 5] :: .li (as.map itN) :: tl⟩ = .rt (.it (Int.fmod i (.ofNat m))) ⟨7, .li [itN (c + 1), .rf 5] :: .li (as.map itN) :: tl⟩ := by
    unfold B_law_next
    refine Exists.imp (fun i (h : _ = _) => (sSeq_nx (loc' := [.rf 6, itN m]) (σ1 := ⟨7, .li [itN (c + 1), .rf 5] :: .li (as.map itN) :: tl⟩) ?_).trans h) ?_
    · have e : (eBin .add (eSub (eLoc 0) (eV (.it (.ofNat 0)))) (eV (.it (.ofNat 1)))) [.rf 6, itN m] ⟨7, .li [itN c, .rf 5] :: .li (as.map itN) :: tl⟩ = .ok (itN (c + 1)) ⟨7, .li [itN c, .rf 5] :: .li (as.map itN) :: tl⟩ := rfl
      unfold sSub
      rw [e]
      dsimp only
      have e2 : eLoc 0 [.rf 6, itN m] ⟨7, .li [itN c, .rf 5] :: .li (as.map itN) :: tl⟩ = .ok (.rf 6) ⟨7, .li [itN c, .rf 5] :: .li (as.map itN) :: tl⟩ := rfl
      rw [e2]
      have e3 : get ⟨7, .li [itN c, .rf 5] :: .li (as.map itN) :: tl⟩ 6 = .li [itN c, .rf 5] := rfl
      dsimp only [eV]
      rw [e3]
      dsimp only
      rw [fV_eq, put_eq, if_pos (by simp), upd_eq]
      rfl
    have g6 : get ⟨7, .li [itN (c + 1), .rf 5] :: .li (as.map itN) :: tl⟩ 6 = .li [itN (c + 1), .rf 5] := rfl
    have g5 : get ⟨7, .li [itN (c + 1), .rf 5] :: .li (as.map itN) :: tl⟩ 5 = .li (as.map itN) := rfl
    generalize (⟨7, .li [itN (c + 1), .rf 5] :: .li (as.map itN) :: tl⟩ : St) = σ at g6 g5 ⊢
    have hl' : (as.map itN).length < 100000 := by rw [List.length_map]; exact hl
    have l0 : eLoc 0 [.rf 6, itN m] σ = .ok (.rf 6) σ := rfl
    have l1 : eLoc 1 [.rf 6, itN m] σ = .ok (itN m) σ := rfl
    have ev : ∀ i, eV (.it i) [.rf 6, itN m] σ = .ok (.it i) σ := fun i => rfl
    have i0 : eSub (eLoc 0) (eV (.it (.ofNat 0))) [.rf 6, itN m] σ = .ok (itN (c + 1)) σ := (eSub_ok l0 (ev _)).trans ((item_ok g6 (by simp)).trans rfl)
    have i1 : eSub (eLoc 0) (eV (.it (.ofNat 1))) [.rf 6, itN m] σ = .ok (.rf 5) σ := (eSub_ok l0 (ev _)).trans ((item_ok g6 (by simp)).trans rfl)
    have t0 : (tCmp .le (eSub (eLoc 0) (eV (.it (.ofNat 0)))) (bi1 kLen (lCons (eSub (eLoc 0) (eV (.it (.ofNat 1)))) lNil))) [.rf 6, itN m] σ = .ok (Z.leB (.ofNat (c + 1)) (.ofNat (as.map itN).length)) σ :=
      (tCmp_ok i0 ((bi1_ok (lCons_ok i1 rfl)).trans (kLen_ok g5 hl'))).trans rfl
    cases q : Z.leB (.ofNat (c + 1)) (.ofNat (as.map itN).length) with
    | true =>
      rw [q] at t0
      have hc : c < (as.map itN).length := Nat.le_of_ble_eq_true q
      rw [List.length_map] at hc
      have i2 : (eBin .sub (eSub (eLoc 0) (eV (.it (.ofNat 0)))) (eV (.it (.ofNat 1)))) [.rf 6, itN m] σ = .ok (itN c) σ := by
        refine (eBin_ok i0 (ev _)).trans ?_
        show RE.ok (.it (Int.sub (.ofNat (c + 1)) (.ofNat 1))) σ = _
        have : Int.sub (.ofNat (c + 1)) (.ofNat 1) = .ofNat c := by
          show ((c + 1 : Nat) : Int) - 1 = c
          omega
        rw [this]
      have i3 : (eSub (eSub (eLoc 0) (eV (.it (.ofNat 1)))) (eBin .sub (eSub (eLoc 0) (eV (.it (.ofNat 0)))) (eV (.it (.ofNat 1))))) [.rf 6, itN m] σ = .ok (itN as[c]) σ := by
        refine (eSub_ok i1 i2).trans ((item_ok g5 hl').trans ?_)
        show okV σ (nth (as.map itN) c) = _
        rw [nth_map as c hc]; rfl
      exact ⟨.ofNat as[c], sSeq_rt ((sIf_tt t0).trans (sSeq_rt (sRet_ok ((eBin_ok i3 l1).trans (bin_mod hm)))))⟩
    | false =>
      rw [q] at t0
      refine ⟨Int.add (Int.add (Int.mul (.ofNat 4) (.ofNat (c + 1))) (Int.fdiv (.ofNat (c + 1)) (.ofNat 2))) (.ofNat 3), (sSeq_nx (loc' := [.rf 6, itN m]) (sIf_ff t0)).trans (sSeq_rt (sRet_ok ((eBin_ok (b := itN m) ?_ l1).trans (bin_mod hm))))⟩
      have j1 : (eBin .mul (eV (.it (.ofNat 4))) (eSub (eLoc 0) (eV (.it (.ofNat 0))))) [.rf 6, itN m] σ = .ok (.it (Int.mul (.ofNat 4) (.ofNat (c + 1)))) σ := (eBin_ok (ev _) i0).trans rfl
      have j2 : (eBin .div (eSub (eLoc 0) (eV (.it (.ofNat 0)))) (eV (.it (.ofNat 2)))) [.rf 6, itN m] σ = .ok (.it (Int.fdiv (.ofNat (c + 1)) (.ofNat 2))) σ := (eBin_ok i0 (ev _)).trans rfl
      exact (eBin_ok ((eBin_ok j1 j2).trans rfl) (ev _)).trans rfl
  obtain ⟨i, h1⟩ := h1
  obtain ⟨r, h2, h3⟩ := fmod_nat i m hm
  refine ⟨r, h2, ?_⟩
  unfold F_law_next
  rw [mkF_eq]
  have e : (bif Nat.beq (lenV [.rf 6, itN m]) 2 then mkCells [] ([.rf 6, itN m] ++ nos 0) ⟨7, .li [itN c, .rf 5] :: .li (as.map itN) :: tl⟩ (fun loc σ => (match B_law_next loc σ with
  | .bad => RE.bad
  | .nx _ σ => .ok .nn σ
  | .rt v σ => .ok v σ)) else .bad) = (match B_law_next [.rf 6, itN m] ⟨7, .li [itN c, .rf 5] :: .li (as.map itN) :: tl⟩ with
  | .bad => RE.bad
  | .nx _ σ => .ok .nn σ
  | .rt v σ => .ok v σ) := rfl
  refine e.trans ?_
  rw [h1, h3]
end Mine
end

section
set_option maxRecDepth 100000
namespace Mine
open PySem PySem.W
noncomputable def eNx (b m : Nat) : EF := eBin .add (eV (.it (.ofNat b))) (eCall F_law_next (lCons (eLoc 1) (lCons (eV (.it (.ofNat m))) lNil)))
noncomputable def S_law_a : SF := (sAsg false 1 (eList (lCons (eV (.it (.ofNat 0))) (lCons (eCmp (bi1 kAbs (lCons (bi1 kInt (lCons (eLoc 0) lNil)) lNil)) [] (srcS (cutTo (eLoc 0) (eV (.it (.ofNat 4)))))) lNil))))
noncomputable def L_law_b : LF := (lCons (eCall F_law_rows (lCons (eCel 3) (lCons (eLoc 4) (lCons (eCel 2) lNil)))) (lCons (eCall F_law_by_plain (lCons (eCel 3) (lCons (eLoc 4) lNil))) lNil))
noncomputable def R_law_b : SF :=     (sSeq (sFor true 8 (srcR (lCons (eBin .add (eLoc 4) (eV (.it (.ofNat 1)))) lNil)) (sSeq (sAsg false 9 (eCmp (eCall F_law_told (lCons (eLoc 0) (lCons (eCel 1) lNil))) [2] (srcS (eSub (eLoc 6) (eCel 8)))))
    (sSeq (sIf (tOr (tCmp .ne (eLoc 9) (eSub (eLoc 7) (eCel 8))) (tCmp .ne (eSub (eLoc 6) (eCel 8)) (cutAll true (eSub (eLoc 6) (eCel 8))))) (sSeq (sRet (eV (.bo false)))
    sNil) sNil)
    (sSeq (sIf (tCmp .ne (eSub (eLoc 6) (eCel 8)) (eCmp (eCallZ F_law_by_products (lCons (eCel 1) (lCons (eCel 2) (lCons (eLoc 0) (lCons (eCel 3) lNil))))) [3, 8, 2] (srcR (lCons (eBin .add (eCel 8) (eV (.it (.ofNat 1)))) lNil)))) (sSeq (sRet (eV (.bo false)))
    sNil) sNil)
    (sSeq (sIf (tAnd (tCmp .eq (eCel 3) (eV (.it (.ofNat 2)))) (tAnd (tCmp .lt (eCel 8) (eV (.it (.ofNat 4)))) (tCmp .ne (eLoc 9) (eCallZ F_law_spaces (lCons (eCel 8) lNil))))) (sSeq (sRet (eV (.bo false)))
    sNil) sNil)
    (sSeq (sUnpD [(false, 10), (false, 11)] (lCons (eV (.it (.ofNat 1))) (lCons (eV (.it (.ofNat 0))) lNil)))
    (sSeq (sFor false 12 (srcR (lCons (eCel 8) lNil)) (sSeq (sAsg false 10 (eBin .mul (eLoc 10) (eBin .add (eV (.it (.ofNat 1))) (eBin .mul (eBin .pow (eCel 3) (eLoc 12)) (eLoc 5)))))
    sNil))
    (sSeq (sFor false 12 (srcR (lCons (eBin .add (eCel 8) (eV (.it (.ofNat 1)))) lNil)) (sSeq (sAsg false 11 (eBin .add (eLoc 11) (eBin .mul (eBin .mul (eSub (eLoc 9) (eLoc 12)) (eBin .pow (eCel 3) (eBin .div (eBin .mul (eLoc 12) (eBin .sub (eLoc 12) (eV (.it (.ofNat 1))))) (eV (.it (.ofNat 2)))))) (eBin .pow (eLoc 5) (eLoc 12)))))
    sNil))
    (sSeq (sIf (tCmp .ne (eLoc 11) (eLoc 10)) (sSeq (sRet (eV (.bo false)))
    sNil) sNil)
    sNil)))))))))
    (sSeq (sRet (eV (.bo true)))
    sNil))
theorem B_law_eq : B_law = sSeq S_law_a (sSeq (sUnpD [(true, 2), (true, 3), (false, 4)] (lCons (eNx 8 5) (lCons (eNx 2 3) (lCons (eNx 3 3) lNil)))) (sSeq (sUnpS [(false, 7), (false, 6), (false, 5)] (lCons (eNx 1 3) L_law_b)) R_law_b)) := rfl
noncomputable def fin (r : RS) : RE := match r with
  | .bad => .bad
  | .nx _ σ => .ok .nn σ
  | .rt v σ => .ok v σ
noncomputable def locK (most : Nat) : List V := [.rf 0, .rf 6, .rf 1, .rf 2, itN most, .no, .no, .no, .rf 3, .no, .no, .no, .no]
noncomputable def K (F A U : O) (w base most here : Nat) : RE :=
  fin (sSeq (fun loc σ => match L_law_b loc σ with
    | .bad => .bad
    | .ok vs σ => fL (itN here :: vs) fun vs => bif nlt (lenV vs) 100 then tgts [(false, 7), (false, 6), (false, 5)] (revV vs []) loc σ else .bad) R_law_b
    (locK most) ⟨7, [.li [itN 4, .rf 5], A, U, .ce .no, .ce (itN base), .ce (itN w), F]⟩)
noncomputable def chk (r : RE) : Option O := match r with
  | .ok (.bo true) σ => some (get σ 0)
  | _ => none
end Mine
end

section
set_option maxRecDepth 100000
namespace Mine
open PySem PySem.W
theorem eNx_eq (b m c most : Nat) (l : List V) (as : List Nat) (tl : List O) (hm : 0 < m) (hl : as.length < 100000) :
    ∃ r, r < m ∧ eNx b m (.rf 0 :: .rf 6 :: l) ⟨7, .li [itN c, .rf 5] :: .li (as.map itN) :: tl⟩ = .ok (itN (b + r)) ⟨7, .li [itN (c + 1), .rf 5] :: .li (as.map itN) :: tl⟩ := by
  obtain ⟨r, h1, h2⟩ := next_eq m c as tl hm hl
  refine ⟨r, h1, ?_⟩
  have h3 : eCall F_law_next (lCons (eLoc 1) (lCons (eV (.it (.ofNat m))) lNil)) (.rf 0 :: .rf 6 :: l) ⟨7, .li [itN c, .rf 5] :: .li (as.map itN) :: tl⟩ = .ok (itN r) ⟨7, .li [itN (c + 1), .rf 5] :: .li (as.map itN) :: tl⟩ := by
    have : (lCons (eLoc 1) (lCons (eV (.it (.ofNat m))) lNil)) (.rf 0 :: .rf 6 :: l) ⟨7, .li [itN c, .rf 5] :: .li (as.map itN) :: tl⟩ = .ok [.rf 6, itN m] ⟨7, .li [itN c, .rf 5] :: .li (as.map itN) :: tl⟩ := rfl
    unfold eCall
    rw [this]
    dsimp only
    rw [fL_eq, h2]
  unfold eNx
  exact (eBin_ok (a := .it (.ofNat b)) rfl h3).trans rfl
theorem tgts_go (t : Bool × Nat) (ts : List (Bool × Nat)) (v : V) (vs loc : List V) (σ : St) : tgts (t :: ts) (v :: vs) loc σ = (match tgt t.1 t.2 v loc σ with
      | .nx loc σ => tgts ts vs loc σ
      | r => r) := rfl
theorem tgts_nx {t : Bool × Nat} {ts : List (Bool × Nat)} {v : V} {vs loc loc' : List V} {σ σ' : St} (h : tgt t.1 t.2 v loc σ = .nx loc' σ') : tgts (t :: ts) (v :: vs) loc σ = tgts ts vs loc' σ' := by
  rw [tgts_go, h]
theorem tgt_cel {n k : Nat} {v u : V} {loc : List V} {σ : St} (h1 : nth loc n = .rf k) (h2 : get σ k = .ce u) : tgt true n v loc σ = .nx loc ⟨σ.n, σ.os.set (σ.n - 1 - k) (.ce v)⟩ := by
  unfold tgt; dsimp only; rw [h1]; dsimp only; rw [h2]; dsimp only; rw [upd_eq]
theorem tgt_lcl {n : Nat} {v : V} {loc : List V} {σ : St} (h : n < loc.length) : tgt false n v loc σ = .nx (loc.set n v) σ := by
  unfold tgt; dsimp only; rw [fV_eq, put_eq, if_pos h]
theorem s1_ok (ns : List Int) (ob : Obj) (hn : ns.length < 100000) (r : List V) (c1 c2 c3 : O) :
    S_law_a (.rf 0 :: .no :: r) ⟨4, [c1, c2, c3, .fz (ns.map V.it) ob]⟩ = .nx (.rf 0 :: .rf 6 :: r) ⟨7, [.li [itN 0, .rf 5], .li (((ns.take 4).map iabs).map itN), .li ((ns.take 4).map V.it), c1, c2, c3, .fz (ns.map V.it) ob]⟩ := by
  have h1 : cutTo (eLoc 0) (eV (.it (.ofNat 4))) (.rf 0 :: .no :: r) ⟨4, [c1, c2, c3, .fz (ns.map V.it) ob]⟩ = .ok (.rf 4) ⟨5, [.li ((ns.take 4).map V.it), c1, c2, c3, .fz (ns.map V.it) ob]⟩ := by
    unfold cutTo
    rw [show eLoc 0 (.rf 0 :: .no :: r) ⟨4, [c1, c2, c3, .fz (ns.map V.it) ob]⟩ = .ok (.rf 0) ⟨4, [c1, c2, c3, .fz (ns.map V.it) ob]⟩ from rfl]
    dsimp only [eV]
    rw [show get ⟨4, [c1, c2, c3, .fz (ns.map V.it) ob]⟩ 0 = .fz (ns.map V.it) ob from rfl]
    dsimp only
    rw [show nlt (lenV (ns.map V.it)) 100000 = true from nlt_iff.mpr (by rw [lenV_map]; exact hn), cond_true, new_eq, takeV_eq, List.map_take]
  have h2 : srcS (cutTo (eLoc 0) (eV (.it (.ofNat 4)))) (.rf 0 :: .no :: r) ⟨4, [c1, c2, c3, .fz (ns.map V.it) ob]⟩ = .ok (.ls 4 0) ⟨5, [.li ((ns.take 4).map V.it), c1, c2, c3, .fz (ns.map V.it) ob]⟩ := by
    unfold srcS
    rw [h1]
    rfl
  have h3 : eCmp (bi1 kAbs (lCons (bi1 kInt (lCons (eLoc 0) lNil)) lNil)) [] (srcS (cutTo (eLoc 0) (eV (.it (.ofNat 4))))) (.rf 0 :: .no :: r) ⟨4, [c1, c2, c3, .fz (ns.map V.it) ob]⟩ = .ok (.rf 5) ⟨6, [.li (((ns.take 4).map iabs).map itN), .li ((ns.take 4).map V.it), c1, c2, c3, .fz (ns.map V.it) ob]⟩ := by
    unfold eCmp
    rw [h2]
    dsimp only
    have := cg_abs [] [] (bi1 kAbs (lCons (bi1 kInt (lCons (eLoc 0) lNil)) lNil)) (fun i σ => rfl) ⟨5, [.li ((ns.take 4).map V.it), c1, c2, c3, .fz (ns.map V.it) ob]⟩ 4 (ns.take 4) [] 10000 (by simp; omega) rfl
    have e : cgI (bi1 kAbs (lCons (bi1 kInt (lCons (eLoc 0) lNil)) lNil)) (caps [] (.rf 0 :: .no :: r)) 10000 (.ls 4 0) ⟨5, [.li ((ns.take 4).map V.it), c1, c2, c3, .fz (ns.map V.it) ob]⟩ = _ := this
    rw [e]
    dsimp only
    rw [new_eq]
    simp only [List.map_map, Function.comp_def]
  have h4 : (eList (lCons (eV (.it (.ofNat 0))) (lCons (eCmp (bi1 kAbs (lCons (bi1 kInt (lCons (eLoc 0) lNil)) lNil)) [] (srcS (cutTo (eLoc 0) (eV (.it (.ofNat 4)))))) lNil))) (.rf 0 :: .no :: r) ⟨4, [c1, c2, c3, .fz (ns.map V.it) ob]⟩ = .ok (.rf 6) ⟨7, [.li [itN 0, .rf 5], .li (((ns.take 4).map iabs).map itN), .li ((ns.take 4).map V.it), c1, c2, c3, .fz (ns.map V.it) ob]⟩ := by
    unfold eList
    have e : (lCons (eV (.it (.ofNat 0))) (lCons (eCmp (bi1 kAbs (lCons (bi1 kInt (lCons (eLoc 0) lNil)) lNil)) [] (srcS (cutTo (eLoc 0) (eV (.it (.ofNat 4)))))) lNil)) (.rf 0 :: .no :: r) ⟨4, [c1, c2, c3, .fz (ns.map V.it) ob]⟩ = .ok [itN 0, .rf 5] ⟨6, [.li (((ns.take 4).map iabs).map itN), .li ((ns.take 4).map V.it), c1, c2, c3, .fz (ns.map V.it) ob]⟩ := lCons_ok rfl (lCons_ok h3 rfl)
    rw [e]
    rfl
  unfold S_law_a sAsg
  rw [h4]
  dsimp only
  rw [tgt_lcl (by simp)]
  rfl
theorem law_pre (ns : List Int) (ob : Obj) (hn : ns.length < 100000) : ∃ (A U : O) (w b m h : Nat), w < 5 ∧ b < 3 ∧ m < 3 ∧ h < 3 ∧ F_law [.rf 0] ⟨1, [.fz (ns.map V.it) ob]⟩ = K (.fz (ns.map V.it) ob) A U (8 + w) (2 + b) (3 + m) (1 + h) := by
  let as := (ns.take 4).map iabs
  let U : O := .li ((ns.take 4).map V.it)
  let F : O := .fz (ns.map V.it) ob
  have hl : as.length < 100000 := by show ((ns.take 4).map iabs).length < _; simp; omega
  let tl : List O := [U, .ce .no, .ce .no, .ce .no, F]
  let loc1 : List V := [.rf 0, .rf 6, .rf 1, .rf 2, .no, .no, .no, .no, .rf 3, .no, .no, .no, .no]
  obtain ⟨w, hw, ew⟩ := eNx_eq 8 5 0 0 (loc1.drop 2) as tl (by decide) hl
  obtain ⟨b, hb, eb⟩ := eNx_eq 2 3 1 0 (loc1.drop 2) as tl (by decide) hl
  obtain ⟨m, hm, em⟩ := eNx_eq 3 3 2 0 (loc1.drop 2) as tl (by decide) hl
  obtain ⟨h, hh, eh⟩ := eNx_eq 1 3 3 0 ((locK (3 + m)).drop 2) as [U, .ce .no, .ce (itN (2 + b)), .ce (itN (8 + w)), F] (by decide) hl
  refine ⟨.li (as.map itN), U, w, b, m, h, hw, hb, hm, hh, ?_⟩
  have s1 : S_law_a [.rf 0, .no, .rf 1, .rf 2, .no, .no, .no, .no, .rf 3, .no, .no, .no, .no] ⟨4, [.ce .no, .ce .no, .ce .no, F]⟩ = .nx loc1 ⟨7, .li [itN 0, .rf 5] :: .li (as.map itN) :: tl⟩ :=
    s1_ok ns ob hn _ _ _ _
  have s2 : (sUnpD [(true, 2), (true, 3), (false, 4)] (lCons (eNx 8 5) (lCons (eNx 2 3) (lCons (eNx 3 3) lNil)))) loc1 ⟨7, .li [itN 0, .rf 5] :: .li (as.map itN) :: tl⟩ = .nx (locK (3 + m)) ⟨7, .li [itN 3, .rf 5] :: .li (as.map itN) :: [U, .ce .no, .ce (itN (2 + b)), .ce (itN (8 + w)), F]⟩ := by
    have : (lCons (eNx 8 5) (lCons (eNx 2 3) (lCons (eNx 3 3) lNil))) loc1 ⟨7, .li [itN 0, .rf 5] :: .li (as.map itN) :: tl⟩ = .ok [itN (8 + w), itN (2 + b), itN (3 + m)] ⟨7, .li [itN 3, .rf 5] :: .li (as.map itN) :: tl⟩ :=
      lCons_ok ew (lCons_ok eb (lCons_ok em rfl))
    unfold sUnpD
    rw [this]
    dsimp only
    rw [fL_eq]
    show tgts [(true, 2), (true, 3), (false, 4)] [itN (8 + w), itN (2 + b), itN (3 + m)] loc1 _ = _
    rw [tgts_nx (tgt_cel (k := 1) (u := .no) rfl rfl), tgts_nx (tgt_cel (k := 2) (u := .no) rfl rfl), tgts_nx (tgt_lcl (by decide))]
    rfl
  have s3 : (sUnpS [(false, 7), (false, 6), (false, 5)] (lCons (eNx 1 3) L_law_b)) (locK (3 + m)) ⟨7, .li [itN 3, .rf 5] :: .li (as.map itN) :: [U, .ce .no, .ce (itN (2 + b)), .ce (itN (8 + w)), F]⟩ = (fun loc σ => match L_law_b loc σ with
    | .bad => RS.bad
    | .ok vs σ => fL (itN (1 + h) :: vs) fun vs => bif nlt (lenV vs) 100 then tgts [(false, 7), (false, 6), (false, 5)] (revV vs []) loc σ else .bad) (locK (3 + m)) ⟨7, .li [itN 4, .rf 5] :: .li (as.map itN) :: [U, .ce .no, .ce (itN (2 + b)), .ce (itN (8 + w)), F]⟩ := by
    unfold sUnpS
    have : lCons (eNx 1 3) L_law_b (locK (3 + m)) ⟨7, .li [itN 3, .rf 5] :: .li (as.map itN) :: [U, .ce .no, .ce (itN (2 + b)), .ce (itN (8 + w)), F]⟩ = (match L_law_b (locK (3 + m)) ⟨7, .li [itN 4, .rf 5] :: .li (as.map itN) :: [U, .ce .no, .ce (itN (2 + b)), .ce (itN (8 + w)), F]⟩ with
      | .bad => .bad
      | .ok vs σ => .ok (itN (1 + h) :: vs) σ) := by
      unfold lCons
      rw [show eNx 1 3 (locK (3 + m)) ⟨7, .li [itN 3, .rf 5] :: .li (as.map itN) :: [U, .ce .no, .ce (itN (2 + b)), .ce (itN (8 + w)), F]⟩ = _ from eh]
      all_goals rfl
    rw [this]
    dsimp only
    generalize L_law_b (locK (3 + m)) ⟨7, .li [itN 4, .rf 5] :: .li (as.map itN) :: [U, .ce .no, .ce (itN (2 + b)), .ce (itN (8 + w)), F]⟩ = q
    cases q <;> rfl
  have s0 : F_law [.rf 0] ⟨1, [F]⟩ = fin (B_law [.rf 0, .no, .rf 1, .rf 2, .no, .no, .no, .no, .rf 3, .no, .no, .no, .no] ⟨4, [.ce .no, .ce .no, .ce .no, F]⟩) := by
    unfold F_law
    rw [mkF_eq]
    rw [show Nat.beq (lenV [.rf 0]) 1 = true from rfl, cond_true]
    rw [mkCells_cons, if_pos (by decide), mkCells_cons, if_pos (by simp only [List.length_set]; decide), mkCells_cons, if_pos (by simp only [List.length_set]; decide), mkCells_nil]
    rfl
  rw [s0, B_law_eq, sSeq_nx s1, sSeq_nx s2]
  unfold K
  congr 1
  unfold sSeq
  rw [s3]
  all_goals rfl
end Mine
end

section
set_option maxRecDepth 100000
namespace Mine
open PySem PySem.W
theorem K_8_2 (F A U : O) : chk (K F A U 8 2 3 1) = some F ∧ chk (K F A U 8 2 3 2) = some F ∧ chk (K F A U 8 2 3 3) = some F ∧ chk (K F A U 8 2 4 1) = some F ∧ chk (K F A U 8 2 4 2) = some F ∧ chk (K F A U 8 2 4 3) = some F ∧ chk (K F A U 8 2 5 1) = some F ∧ chk (K F A U 8 2 5 2) = some F ∧ chk (K F A U 8 2 5 3) = some F := by
  refine ⟨?_, ?_, ?_, ?_, ?_, ?_, ?_, ?_, ?_⟩ <;> kernel_rfl
theorem K_8_3 (F A U : O) : chk (K F A U 8 3 3 1) = some F ∧ chk (K F A U 8 3 3 2) = some F ∧ chk (K F A U 8 3 3 3) = some F ∧ chk (K F A U 8 3 4 1) = some F ∧ chk (K F A U 8 3 4 2) = some F ∧ chk (K F A U 8 3 4 3) = some F ∧ chk (K F A U 8 3 5 1) = some F ∧ chk (K F A U 8 3 5 2) = some F ∧ chk (K F A U 8 3 5 3) = some F := by
  refine ⟨?_, ?_, ?_, ?_, ?_, ?_, ?_, ?_, ?_⟩ <;> kernel_rfl
theorem K_8_4 (F A U : O) : chk (K F A U 8 4 3 1) = some F ∧ chk (K F A U 8 4 3 2) = some F ∧ chk (K F A U 8 4 3 3) = some F ∧ chk (K F A U 8 4 4 1) = some F ∧ chk (K F A U 8 4 4 2) = some F ∧ chk (K F A U 8 4 4 3) = some F ∧ chk (K F A U 8 4 5 1) = some F ∧ chk (K F A U 8 4 5 2) = some F ∧ chk (K F A U 8 4 5 3) = some F := by
  refine ⟨?_, ?_, ?_, ?_, ?_, ?_, ?_, ?_, ?_⟩ <;> kernel_rfl
theorem K_9_2 (F A U : O) : chk (K F A U 9 2 3 1) = some F ∧ chk (K F A U 9 2 3 2) = some F ∧ chk (K F A U 9 2 3 3) = some F ∧ chk (K F A U 9 2 4 1) = some F ∧ chk (K F A U 9 2 4 2) = some F ∧ chk (K F A U 9 2 4 3) = some F ∧ chk (K F A U 9 2 5 1) = some F ∧ chk (K F A U 9 2 5 2) = some F ∧ chk (K F A U 9 2 5 3) = some F := by
  refine ⟨?_, ?_, ?_, ?_, ?_, ?_, ?_, ?_, ?_⟩ <;> kernel_rfl
theorem K_9_3 (F A U : O) : chk (K F A U 9 3 3 1) = some F ∧ chk (K F A U 9 3 3 2) = some F ∧ chk (K F A U 9 3 3 3) = some F ∧ chk (K F A U 9 3 4 1) = some F ∧ chk (K F A U 9 3 4 2) = some F ∧ chk (K F A U 9 3 4 3) = some F ∧ chk (K F A U 9 3 5 1) = some F ∧ chk (K F A U 9 3 5 2) = some F ∧ chk (K F A U 9 3 5 3) = some F := by
  refine ⟨?_, ?_, ?_, ?_, ?_, ?_, ?_, ?_, ?_⟩ <;> kernel_rfl
theorem K_9_4 (F A U : O) : chk (K F A U 9 4 3 1) = some F ∧ chk (K F A U 9 4 3 2) = some F ∧ chk (K F A U 9 4 3 3) = some F ∧ chk (K F A U 9 4 4 1) = some F ∧ chk (K F A U 9 4 4 2) = some F ∧ chk (K F A U 9 4 4 3) = some F ∧ chk (K F A U 9 4 5 1) = some F ∧ chk (K F A U 9 4 5 2) = some F ∧ chk (K F A U 9 4 5 3) = some F := by
  refine ⟨?_, ?_, ?_, ?_, ?_, ?_, ?_, ?_, ?_⟩ <;> kernel_rfl
theorem K_10_2 (F A U : O) : chk (K F A U 10 2 3 1) = some F ∧ chk (K F A U 10 2 3 2) = some F ∧ chk (K F A U 10 2 3 3) = some F ∧ chk (K F A U 10 2 4 1) = some F ∧ chk (K F A U 10 2 4 2) = some F ∧ chk (K F A U 10 2 4 3) = some F ∧ chk (K F A U 10 2 5 1) = some F ∧ chk (K F A U 10 2 5 2) = some F ∧ chk (K F A U 10 2 5 3) = some F := by
  refine ⟨?_, ?_, ?_, ?_, ?_, ?_, ?_, ?_, ?_⟩ <;> kernel_rfl
theorem K_10_3 (F A U : O) : chk (K F A U 10 3 3 1) = some F ∧ chk (K F A U 10 3 3 2) = some F ∧ chk (K F A U 10 3 3 3) = some F ∧ chk (K F A U 10 3 4 1) = some F ∧ chk (K F A U 10 3 4 2) = some F ∧ chk (K F A U 10 3 4 3) = some F ∧ chk (K F A U 10 3 5 1) = some F ∧ chk (K F A U 10 3 5 2) = some F ∧ chk (K F A U 10 3 5 3) = some F := by
  refine ⟨?_, ?_, ?_, ?_, ?_, ?_, ?_, ?_, ?_⟩ <;> kernel_rfl
theorem K_10_4 (F A U : O) : chk (K F A U 10 4 3 1) = some F ∧ chk (K F A U 10 4 3 2) = some F ∧ chk (K F A U 10 4 3 3) = some F ∧ chk (K F A U 10 4 4 1) = some F ∧ chk (K F A U 10 4 4 2) = some F ∧ chk (K F A U 10 4 4 3) = some F ∧ chk (K F A U 10 4 5 1) = some F ∧ chk (K F A U 10 4 5 2) = some F ∧ chk (K F A U 10 4 5 3) = some F := by
  refine ⟨?_, ?_, ?_, ?_, ?_, ?_, ?_, ?_, ?_⟩ <;> kernel_rfl
theorem K_11_2 (F A U : O) : chk (K F A U 11 2 3 1) = some F ∧ chk (K F A U 11 2 3 2) = some F ∧ chk (K F A U 11 2 3 3) = some F ∧ chk (K F A U 11 2 4 1) = some F ∧ chk (K F A U 11 2 4 2) = some F ∧ chk (K F A U 11 2 4 3) = some F ∧ chk (K F A U 11 2 5 1) = some F ∧ chk (K F A U 11 2 5 2) = some F ∧ chk (K F A U 11 2 5 3) = some F := by
  refine ⟨?_, ?_, ?_, ?_, ?_, ?_, ?_, ?_, ?_⟩ <;> kernel_rfl
theorem K_11_3 (F A U : O) : chk (K F A U 11 3 3 1) = some F ∧ chk (K F A U 11 3 3 2) = some F ∧ chk (K F A U 11 3 3 3) = some F ∧ chk (K F A U 11 3 4 1) = some F ∧ chk (K F A U 11 3 4 2) = some F ∧ chk (K F A U 11 3 4 3) = some F ∧ chk (K F A U 11 3 5 1) = some F ∧ chk (K F A U 11 3 5 2) = some F ∧ chk (K F A U 11 3 5 3) = some F := by
  refine ⟨?_, ?_, ?_, ?_, ?_, ?_, ?_, ?_, ?_⟩ <;> kernel_rfl
theorem K_11_4 (F A U : O) : chk (K F A U 11 4 3 1) = some F ∧ chk (K F A U 11 4 3 2) = some F ∧ chk (K F A U 11 4 3 3) = some F ∧ chk (K F A U 11 4 4 1) = some F ∧ chk (K F A U 11 4 4 2) = some F ∧ chk (K F A U 11 4 4 3) = some F ∧ chk (K F A U 11 4 5 1) = some F ∧ chk (K F A U 11 4 5 2) = some F ∧ chk (K F A U 11 4 5 3) = some F := by
  refine ⟨?_, ?_, ?_, ?_, ?_, ?_, ?_, ?_, ?_⟩ <;> kernel_rfl
theorem K_12_2 (F A U : O) : chk (K F A U 12 2 3 1) = some F ∧ chk (K F A U 12 2 3 2) = some F ∧ chk (K F A U 12 2 3 3) = some F ∧ chk (K F A U 12 2 4 1) = some F ∧ chk (K F A U 12 2 4 2) = some F ∧ chk (K F A U 12 2 4 3) = some F ∧ chk (K F A U 12 2 5 1) = some F ∧ chk (K F A U 12 2 5 2) = some F ∧ chk (K F A U 12 2 5 3) = some F := by
  refine ⟨?_, ?_, ?_, ?_, ?_, ?_, ?_, ?_, ?_⟩ <;> kernel_rfl
theorem K_12_3 (F A U : O) : chk (K F A U 12 3 3 1) = some F ∧ chk (K F A U 12 3 3 2) = some F ∧ chk (K F A U 12 3 3 3) = some F ∧ chk (K F A U 12 3 4 1) = some F ∧ chk (K F A U 12 3 4 2) = some F ∧ chk (K F A U 12 3 4 3) = some F ∧ chk (K F A U 12 3 5 1) = some F ∧ chk (K F A U 12 3 5 2) = some F ∧ chk (K F A U 12 3 5 3) = some F := by
  refine ⟨?_, ?_, ?_, ?_, ?_, ?_, ?_, ?_, ?_⟩ <;> kernel_rfl
theorem K_12_4 (F A U : O) : chk (K F A U 12 4 3 1) = some F ∧ chk (K F A U 12 4 3 2) = some F ∧ chk (K F A U 12 4 3 3) = some F ∧ chk (K F A U 12 4 4 1) = some F ∧ chk (K F A U 12 4 4 2) = some F ∧ chk (K F A U 12 4 4 3) = some F ∧ chk (K F A U 12 4 5 1) = some F ∧ chk (K F A U 12 4 5 2) = some F ∧ chk (K F A U 12 4 5 3) = some F := by
  refine ⟨?_, ?_, ?_, ?_, ?_, ?_, ?_, ?_, ?_⟩ <;> kernel_rfl
theorem up5 {P : Nat → Prop} (h0 : P 0) (h1 : P 1) (h2 : P 2) (h3 : P 3) (h4 : P 4) : ∀ n, n < 5 → P n
  | 0, _ => h0
  | 1, _ => h1
  | 2, _ => h2
  | 3, _ => h3
  | 4, _ => h4
  | _ + 5, h => absurd h (Nat.not_lt.mpr (Nat.le_add_left ..))
theorem up3 {P : Nat → Prop} (h0 : P 0) (h1 : P 1) (h2 : P 2) : ∀ n, n < 3 → P n
  | 0, _ => h0
  | 1, _ => h1
  | 2, _ => h2
  | _ + 3, h => absurd h (Nat.not_lt.mpr (Nat.le_add_left ..))
theorem nine {P : Nat → Nat → Prop} (H : P 0 0 ∧ P 0 1 ∧ P 0 2 ∧ P 1 0 ∧ P 1 1 ∧ P 1 2 ∧ P 2 0 ∧ P 2 1 ∧ P 2 2) : ∀ m, m < 3 → ∀ h, h < 3 → P m h :=
  let ⟨a, b, c, d, e, f, g, h, i⟩ := H
  up3 (up3 a b c) (up3 d e f) (up3 g h i)
theorem K_law (F A U : O) : ∀ w, w < 5 → ∀ b, b < 3 → ∀ m, m < 3 → ∀ h, h < 3 → chk (K F A U (8 + w) (2 + b) (3 + m) (1 + h)) = some F :=
  up5 (P := fun w => ∀ b, b < 3 → ∀ m, m < 3 → ∀ h, h < 3 → chk (K F A U (8 + w) (2 + b) (3 + m) (1 + h)) = some F)
    (up3 (P := fun b => ∀ m, m < 3 → ∀ h, h < 3 → chk (K F A U 8 (2 + b) (3 + m) (1 + h)) = some F) (nine (P := fun m h => chk (K F A U 8 2 (3 + m) (1 + h)) = some F) (K_8_2 F A U)) (nine (P := fun m h => chk (K F A U 8 3 (3 + m) (1 + h)) = some F) (K_8_3 F A U)) (nine (P := fun m h => chk (K F A U 8 4 (3 + m) (1 + h)) = some F) (K_8_4 F A U)))
    (up3 (P := fun b => ∀ m, m < 3 → ∀ h, h < 3 → chk (K F A U 9 (2 + b) (3 + m) (1 + h)) = some F) (nine (P := fun m h => chk (K F A U 9 2 (3 + m) (1 + h)) = some F) (K_9_2 F A U)) (nine (P := fun m h => chk (K F A U 9 3 (3 + m) (1 + h)) = some F) (K_9_3 F A U)) (nine (P := fun m h => chk (K F A U 9 4 (3 + m) (1 + h)) = some F) (K_9_4 F A U)))
    (up3 (P := fun b => ∀ m, m < 3 → ∀ h, h < 3 → chk (K F A U 10 (2 + b) (3 + m) (1 + h)) = some F) (nine (P := fun m h => chk (K F A U 10 2 (3 + m) (1 + h)) = some F) (K_10_2 F A U)) (nine (P := fun m h => chk (K F A U 10 3 (3 + m) (1 + h)) = some F) (K_10_3 F A U)) (nine (P := fun m h => chk (K F A U 10 4 (3 + m) (1 + h)) = some F) (K_10_4 F A U)))
    (up3 (P := fun b => ∀ m, m < 3 → ∀ h, h < 3 → chk (K F A U 11 (2 + b) (3 + m) (1 + h)) = some F) (nine (P := fun m h => chk (K F A U 11 2 (3 + m) (1 + h)) = some F) (K_11_2 F A U)) (nine (P := fun m h => chk (K F A U 11 3 (3 + m) (1 + h)) = some F) (K_11_3 F A U)) (nine (P := fun m h => chk (K F A U 11 4 (3 + m) (1 + h)) = some F) (K_11_4 F A U)))
    (up3 (P := fun b => ∀ m, m < 3 → ∀ h, h < 3 → chk (K F A U 12 (2 + b) (3 + m) (1 + h)) = some F) (nine (P := fun m h => chk (K F A U 12 2 (3 + m) (1 + h)) = some F) (K_12_2 F A U)) (nine (P := fun m h => chk (K F A U 12 3 (3 + m) (1 + h)) = some F) (K_12_3 F A U)) (nine (P := fun m h => chk (K F A U 12 4 (3 + m) (1 + h)) = some F) (K_12_4 F A U)))
end Mine
end

section
set_option maxRecDepth 100000
namespace Mine
open PySem PySem.W PySem.Spec PySem.Calls PyProof.Rows
theorem chk_some {r : RE} {F : O} (h : chk r = some F) : ∃ σ, r = .ok (.bo true) σ ∧ get σ 0 = F := by
  unfold chk at h
  split at h
  · rename_i σ
    exact ⟨σ, rfl, Option.some.inj h⟩
  · cases h
theorem law_val (ns : List Int) (ob : Obj) (hn : ns.length < 100000) : ∃ σ', F_law [.rf 0] ⟨1, [.fz (ns.map V.it) ob]⟩ = .ok (.bo true) σ' ∧ get σ' 0 = .fz (ns.map V.it) ob := by
  obtain ⟨A, U, w, b, m, h, h1, h2, h3, h4, e⟩ := law_pre ns ob hn
  rw [e]
  exact chk_some (K_law _ A U w h1 b h2 m h3 h h4)
theorem vsR_of {N : Nat} {ρ : Nat → Addr} : ∀ {us : List Value} {l : List Int}, IntsAre us l → VsR N ρ (l.map V.it) us
  | _, _, .nil => trivial
  | _, _, .cons i t h => ⟨⟨t, rfl⟩, vsR_of h⟩
theorem law_goes {C : Cx} (H : Hyp C) {A : Around} {s : Shared} {l fa : Addr} {ns : List Int} {Q : Value → Shared → Prop} {Ex : Value → Shared → Prop} {us : List Value} {n : Nat}
    (R : Room A 6) (T : C.Top s.heap) (hmg : C.mg ("law" : Str) = some (.ref fa)) (hl : s.heap.get? l = some (listOf us.toArray n)) (hI : IntsAre us ns) (hn : ns.length < 100000)
    (hQ : ∀ h' tk', (∀ b o, s.heap.get? b = some o → h'.get? b = some o) → Q (.bool true) { s with heap := h', toks := tk' }) :
    wpAny (model C.prog C.w) A (call (.ref fa) [.ref l]) Q Ex s := by
  refine Exists.elim (law_val ns (listOf us.toArray n) hn) fun σ' h => ?_
  exact law_top H R T hmg rfl hl (vsR_of hI) h.1 h.2 hQ
end Mine
end

section
set_option maxRecDepth 100000
namespace Mine
open PySem PySem.W PySem.Spec PySem.Calls PyProof.Rows
theorem script_ob {P : Params} {h : Heap} {l : Addr} {xs : List WData} {vals : List Value} (W : Well P h (.ref l) (.list xs)) (hL : h.IsList l vals.toArray) : ∃ n, h.get? l = some (listOf vals.toArray n) := by
  obtain ⟨o, ho, hc, n, hd⟩ := hL
  cases W with
  | list h1 h2 =>
    rw [h1] at ho
    cases ho
    simp only [Data.seq.injEq] at hd
    exact ⟨_, by rw [h1, hd.1]⟩
def idxs : List Nat := [3, 4, 5, 6, 7, 8, 9, 10, 12, 13, 14, 15, 16, 17, 18, 20, 21, 22, 23, 24, 25, 26, 27]
def nms : List Str := ["len", "abs", "int", "min", "tuple", "sorted", "range", "enumerate"]
def freeChk (p : Program) (loose : List Str) : Bool := nms.all fun x => decide (x ∉ startupNames) && decide (x ∉ loose) && decide (x ∉ (recsOf p).map (·.name)) && decide (x ∉ (litsOf p).map (·.1)) && decide (x ∉ (clssOf p loose).map (·.name))
theorem hyp_of {prog p : Program} {w : World} {loose : List Str} {mean : ExcName → Option Value} {mg mb : Str → Option Value} {h : Heap} (T : Top p loose mean mg mb h) (hr : recsOf p = idxs.map fun i => drOf (nthS PySem.Challenge.pw_xw0110_01.main.body i)) (hf : freeChk p loose = true) : Hyp ⟨prog, w, p, loose, mean, mg, mb⟩ := by
  have fr : ∀ x ∈ nms, mg x = none := fun x hx => by
    have := List.all_eq_true.mp hf x hx
    simp only [Bool.and_eq_true, decide_eq_true_eq] at this
    obtain ⟨⟨⟨⟨h1, h2⟩, h3⟩, h4⟩, h5⟩ := this
    exact T.free x h1 h2 h3 h4 h5
  refine ⟨fun i hi => ?_, fr _ ?_, fr _ ?_, fr _ ?_, fr _ ?_, fr _ ?_, fr _ ?_, fr _ ?_, fr _ ?_⟩
  · show _ ∈ recsOf p
    rw [hr]
    exact List.mem_map_of_mem (f := fun i => drOf (nthS PySem.Challenge.pw_xw0110_01.main.body i)) hi
  all_goals simp [nms]
theorem law_row {prog p : Program} {w : World} {loose : List Str} {mean : ExcName → Option Value} {mg mb : Str → Option Value} {s : Shared} {l fa : Addr} {ns : List Int} {xs : List WData} {vals : List Value} {Q : Value → Shared → Prop} {Ex : Value → Shared → Prop}
    (T : Top p loose mean mg mb s.heap) (hr : recsOf p = idxs.map fun i => drOf (nthS PySem.Challenge.pw_xw0110_01.main.body i)) (hf : freeChk p loose = true) (hmg : mg ("law" : Str) = some (.ref fa))
    (W : Well w.params s.heap (.ref l) (.list xs)) (hL : s.heap.IsList l vals.toArray) (hI : IntsAre vals ns) (hn : ¬ (63 : Int) < (ns.length : Int))
    (hQ : ∀ h' tk', (∀ b o, s.heap.get? b = some o → h'.get? b = some o) → Q (.bool true) { s with heap := h', toks := tk' }) :
    wpAny (model prog w) callerA (call (.ref fa) [.ref l]) Q Ex s := by
  obtain ⟨n, ho⟩ := script_ob W hL
  exact law_goes (C := ⟨prog, w, p, loose, mean, mg, mb⟩) (hyp_of T hr hf) ⟨rfl, by decide, by decide⟩ (Cx.Top.of (C := ⟨prog, w, p, loose, mean, mg, mb⟩) T) hmg ho hI (by omega) hQ
theorem law_end {c : ClaimW} {cl : Str → Option Addr} {mean : ExcName → Option Value} {args : List WData} {s₁ : Shared} {h : Heap} {t : Nat} (hk : ∀ b o, s₁.heap.get? b = some o → h.get? b = some o) (hg : s₁.gens = #[])
    (hr : ∀ cls, c.raises args cls = false) (hp : c.post args (.bool true) args = true) :
    GoodWG c cl mean args s₁ (.ok (.ret (.bool true))) { s₁ with heap := h, toks := t } :=
  ⟨.inl ⟨_, _, [], rfl, hr, ReadsW.bool true, hp, fun _ => ⟨List.nodup_nil, fun _ hm => (nomatch hm)⟩⟩, .of_keep hk, rfl, .of_eq hg⟩
end Mine
end

open PySem PySem.W PyProof.Rows
set_option pp.deepTerms false
set_option pp.maxSteps 3000
set_option maxRecDepth 100000 in
set_option maxHeartbeats 8000000 in
theorem PySem.Challenge.cw_xw0110_01_holds : PySem.Challenge.rw_xw0110_01.Holds := by
  w_on; o_law; k_head; (case hw => w_witness2)
  w_strict (
    k_fill
    intro w s₀ s₁ mg mb G Y fa o pm cd doc dV kV ho hd hcd hD hmg hg args vals as hpre hlay hrd hwl hlo
    have KX := kIn_of Y
    refine Ground.open G ?_
    intro T B D TE TW
    clear hcd hD
    wrow_args hpre hlay hrd hwl hlo
    clear Y KX ho hd B D TE TW
    rename_i ns hs hlay0 hL1 hr1 hl2 wa wb l vals wc hL ra w1 r0 hI hr hcond hcond2
    refine Mine.law_row T (by kernel_rfl) (by kernel_rfl) hmg w1 hL hI hcond fun h' tk' hk => ?_
    refine Mine.law_end hk hg (fun cls => ?_) ?_
    · rfl
    · first
      | wrow_post
      | exact postW_of rfl rfl rfl
      | exact postW_of (by kernel_rfl) (by kernel_rfl) rfl)

