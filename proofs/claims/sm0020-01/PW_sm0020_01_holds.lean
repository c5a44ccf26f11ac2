import PyProof.Rows.All
import Wide.All
import OpenK.AllK
import Wide.FinOn
import PySem.Challenge.RW_sm0020_01
set_option Elab.async false
set_option maxRecDepth 100000
set_option maxHeartbeats 0
section
namespace Mine

inductive AV where
  | unb | non | bool (b : Bool) | int (i : Int) | ref (n : Nat)
inductive AO where
  | list (vs : List AV) | tup (vs : List AV) | inst (c : Nat) (fs : List (Nat × AV)) | dict (n : Nat) (es : List (Int × AV)) | range (a b c : Int) | cell (v : AV) | cells
inductive H where
  | nil | node (o : Option AO) (l r : H)
noncomputable def H.get1 (v : Option AO) (l r : Nat → Option AO) (i : Nat) : Option AO := match Nat.beq i 0 with
  | true => v
  | false => match Nat.beq (Nat.mod i 2) 1 with
    | true => l (Nat.div i 2)
    | false => r (Nat.pred (Nat.div i 2))
noncomputable def H.get (t : H) : Nat → Option AO := H.rec (fun _ => none) (fun v _ _ l r => H.get1 v l r) t
noncomputable def H.put1 (ih : H → Nat → AO → H) (t : H) (i : Nat) (o : AO) : H := match t with
  | .nil => match Nat.beq i 0 with
    | true => .node (some o) .nil .nil
    | false => match Nat.beq (Nat.mod i 2) 1 with
      | true => .node none (ih .nil (Nat.div i 2) o) .nil
      | false => .node none .nil (ih .nil (Nat.pred (Nat.div i 2)) o)
  | .node v l r => match Nat.beq i 0 with
    | true => .node (some o) l r
    | false => match Nat.beq (Nat.mod i 2) 1 with
      | true => .node v (ih l (Nat.div i 2) o) r
      | false => .node v l (ih r (Nat.pred (Nat.div i 2)) o)
noncomputable def H.putF (f : Nat) : H → Nat → AO → H := Nat.rec (fun t _ _ => t) (fun _ ih => H.put1 ih) f
noncomputable def H.put : H → Nat → AO → H := H.putF 12
structure St where
  h : H
  n : Nat
inductive Fl where
  | next | cont | ret (x : AV)
inductive R where
  | bad (k : Nat) | v (x : AV) (s : St) | vs (xs : List AV) (s : St) | fl (f : Fl) (r : List AV) (s : St)
inductive Op where
  | add | sub | mul | fdv | md | shl | shr | bor | bxor | band
inductive Cm where
  | eq | ne | lt | le | gt | ge
inductive TL where
  | loc (i : Nat) | cel (j k : Nat) | int (z : Int) | gint (j : Nat) (z : Int) | bool (b : Bool) | non | nil
  | cont | fail | done | ret0
inductive TU where
  | neg | inv | not | isN | isNN | attr (n : Nat) | len (j : Nat) | call (j f : Nat) | new (j c : Nat) | range (j : Nat)
  | list | tup | gitem (j k : Nat) | pick (i j : Nat)
  | asg (x : Nat) | asgC (j k : Nat) | asgT (xs : List Nat) | ex | ret | augN (x : Nat) (o : Op)
inductive TB where
  | op2 (o : Op) | cmp (o : Cm) | and | or | item | cons | dict1
  | setAttr (n : Nat) | augA (n : Nat) (o : Op) | app | for1 (x : Nat) | forT (xs : List Nat) | forC (j1 k1 j2 k2 : Nat) | while | seq
  | comp (y x w : Nat)
inductive TT where
  | ite | ifs | setItem | augI (o : Op) | compIf (y x w : Nat)
inductive T where
  | l (k : TL) | u (k : TU) (a : T) | b (k : TB) (a c : T) | t (k : TT) (a c d : T)
structure Fn where
  p : Nat
  n : Nat
  body : T

noncomputable def geti (l : List AV) : Nat → AV := List.rec (fun _ => .unb) (fun x _ ih i => Nat.rec x (fun j _ => ih j) i) l
noncomputable def seti (l : List AV) : Nat → AV → List AV := List.rec (fun _ _ => []) (fun x xs ih i v => Nat.rec (v :: xs) (fun j _ => x :: ih j v) i) l
noncomputable def unbs (n : Nat) : List AV := Nat.rec [] (fun _ ih => .unb :: ih) n
noncomputable def padTo (l : List AV) : Nat → List AV := List.rec unbs (fun x _ ih n => Nat.rec [] (fun j _ => x :: ih j) n) l
noncomputable def getf (l : List (Nat × AV)) : Nat → AV := List.rec (fun _ => .unb) (fun p _ ih n => match Nat.beq p.1 n with | true => p.2 | false => ih n) l
noncomputable def setf (l : List (Nat × AV)) : Nat → AV → List (Nat × AV) := List.rec (fun n v => [(n, v)]) (fun p r ih n v => match Nat.beq p.1 n with | true => (n, v) :: r | false => p :: ih n v) l
noncomputable def cat (l m : List AV) : List AV := List.rec m (fun x _ ih => x :: ih) l
noncomputable def lenF (l : List (Nat × AV)) : Nat := List.rec 0 (fun _ _ ih => Nat.succ ih) l
noncomputable def lenL (l : List AV) : Nat := List.rec 0 (fun _ _ ih => Nat.succ ih) l
noncomputable def ieq : Int → Int → Bool
  | .ofNat a, .ofNat b => Nat.beq a b
  | .negSucc a, .negSucc b => Nat.beq a b
  | _, _ => false
noncomputable def ile : Int → Int → Bool
  | .ofNat a, .ofNat b => Nat.ble a b
  | .negSucc _, .ofNat _ => true
  | .ofNat _, .negSucc _ => false
  | .negSucc a, .negSucc b => Nat.ble b a
noncomputable def bnot : Bool → Bool
  | true => false
  | false => true
noncomputable def getd (l : List (Int × AV)) : Int → AV := List.rec (fun _ => .unb) (fun p _ ih n => match ieq p.1 n with | true => p.2 | false => ih n) l
noncomputable def setd (l : List (Int × AV)) : Int → AV → List (Int × AV) := List.rec (fun n v => [(n, v)]) (fun p r ih n v => match ieq p.1 n with | true => (n, v) :: r | false => p :: ih n v) l
noncomputable def iand : Int → Int → Option Int
  | .ofNat a, .ofNat b => some (.ofNat (Nat.land a b))
  | .ofNat a, .negSucc b => some (.ofNat (Nat.xor a (Nat.land a b)))
  | .negSucc a, .ofNat b => some (.ofNat (Nat.xor b (Nat.land b a)))
  | .negSucc _, .negSucc _ => none
noncomputable def ior : Int → Int → Option Int
  | .ofNat a, .ofNat b => some (.ofNat (Nat.lor a b))
  | _, _ => none
noncomputable def ixor : Int → Int → Option Int
  | .ofNat a, .ofNat b => some (.ofNat (Nat.xor a b))
  | _, _ => none
noncomputable def isub : Int → Int → Int
  | .ofNat a, .ofNat b => match Nat.ble b a with | true => .ofNat (Nat.sub a b) | false => .negSucc (Nat.pred (Nat.sub b a))
  | a, b => Int.sub a b
noncomputable def iadd : Int → Int → Int
  | .ofNat a, .ofNat b => .ofNat (Nat.add a b)
  | a, b => Int.add a b
noncomputable def small : Int → Bool
  | .ofNat n => Nat.ble n 1000000000000
  | .negSucc n => Nat.ble n 1000000000000
noncomputable def imul0 : Int → Int → Int
  | .ofNat a, .ofNat b => .ofNat (Nat.mul a b)
  | a, b => Int.mul a b
noncomputable def imul (a b : Int) : Option Int := match small a with
  | true => some (imul0 a b)
  | false => none
noncomputable def ineg : Int → Int
  | .ofNat n => match n with | 0 => .ofNat 0 | m + 1 => .negSucc m
  | .negSucc n => .ofNat (Nat.succ n)
noncomputable def iinv : Int → Int
  | .ofNat n => .negSucc n
  | .negSucc n => .ofNat n
noncomputable def idiv : Int → Int → Option Int
  | .ofNat a, .ofNat b => match Nat.beq b 0 with | true => none | false => (match Nat.ble b 1000000 with | true => some (.ofNat (Nat.div a b)) | false => none)
  | _, _ => none
noncomputable def imod : Int → Int → Option Int
  | .ofNat a, .ofNat b => match Nat.beq b 0 with | true => none | false => some (.ofNat (Nat.mod a b))
  | _, _ => none
noncomputable def ishl : Int → Int → Option Int
  | .ofNat a, .ofNat b => match Nat.ble a 18446744073709551615 with | true => (match Nat.ble b 1000000 with | true => some (.ofNat (Nat.mul a (Nat.pow 2 b))) | false => none) | false => none
  | _, _ => none
noncomputable def ishr : Int → Int → Option Int
  | .ofNat a, .ofNat b => some (.ofNat (Nat.shiftRight a b))
  | _, _ => none
noncomputable def op2 : Op → Int → Int → Option Int
  | .add => fun a b => some (iadd a b)
  | .sub => fun a b => some (isub a b)
  | .mul => imul
  | .fdv => idiv
  | .md => imod
  | .shl => ishl
  | .shr => ishr
  | .bor => ior
  | .bxor => ixor
  | .band => iand
noncomputable def cmpI : Cm → Int → Int → Bool
  | .eq => ieq
  | .ne => fun a b => bnot (ieq a b)
  | .lt => fun a b => bnot (ile b a)
  | .le => ile
  | .gt => fun a b => bnot (ile a b)
  | .ge => fun a b => ile b a
noncomputable def truth : AV → Option Bool
  | .bool b => some b
  | .int i => some (bnot (ieq i 0))
  | _ => none
noncomputable def items (x : AV) (s : St) : Option (List AV) := match x with
  | .ref r => match s.h.get r with
    | some (.list vs) => some vs
    | some (.tup vs) => some vs
    | _ => none
  | _ => none
noncomputable def toNat? : Int → Option Nat
  | .ofNat n => some n
  | .negSucc _ => none
noncomputable def gI : Nat → List Int
  | 0 => [0, 1, 0, -1, 1, 1, -1, -1]
  | _ => [1, 0, -1, 0, 1, -1, -1, 1]
noncomputable def getI (l : List Int) : Nat → Option Int := List.rec (fun _ => none) (fun x _ ih i => Nat.rec (some x) (fun j _ => ih j) i) l
noncomputable def alloc (o : AO) (s : St) : R := match Nat.ble s.n 4000 with
  | true => .v (.ref s.n) ⟨s.h.put s.n o, Nat.succ s.n⟩
  | false => .bad 9
/-- an object of a class takes two places: its own and its dict's -/
noncomputable def allocI (c : Nat) (s : St) : R := match Nat.ble s.n 4000 with
  | true => .v (.ref s.n) ⟨s.h.put s.n (.inst c []), Nat.succ (Nat.succ s.n)⟩
  | false => .bad 9
noncomputable def repl (xs : List AV) (n : Nat) : List AV := Nat.rec [] (fun _ ih => cat xs ih) n
noncomputable def isNil (l : List AV) : Bool := match l with
  | [] => true
  | _ => false
noncomputable def consInt (x : AV) (r : Option (List Int)) : Option (List Int) := match x with
  | .int i => match r with
    | some l => some (i :: l)
    | none => none
  | _ => none
noncomputable def intsOf (l : List AV) : Option (List Int) := List.rec (some []) (fun x _ ih => consInt x ih) l
noncomputable def nilI (l : List Int) : Bool := match l with
  | [] => true
  | _ => false
noncomputable def eqIs (l : List Int) : List Int → Bool := List.rec nilI (fun x _ ih m => match m with
  | [] => false
  | y :: m => match ieq x y with
    | true => ih m
    | false => false) l
noncomputable def eqLs (xs ys : List AV) : Option Bool := match intsOf xs with
  | some ns => match intsOf ys with
    | some ms => some (eqIs ns ms)
    | none => none
  | none => none
noncomputable def refEq (s : St) (x y : AV) : Option Bool := match x with
  | .ref a => match y with
    | .ref b => match s.h.get a with
      | some o => match o with
        | .list xs => match s.h.get b with
          | some (.list ys) => eqLs xs ys
          | _ => none
        | .tup xs => match s.h.get b with
          | some (.tup ys) => eqLs xs ys
          | _ => none
        | _ => none
      | none => none
    | _ => none
  | _ => none
noncomputable def bindV (r : R) (k : AV → St → R) : R := match r with
  | .v x s => k x s
  | .bad n => .bad n
  | _ => .bad 90
noncomputable def bindVs (r : R) (k : List AV → St → R) : R := match r with
  | .vs x s => k x s
  | .bad n => .bad n
  | _ => .bad 91
noncomputable abbrev Ev := T → List AV → St → R

noncomputable def binop (o : Op) (x y : AV) (s : St) : R := match x with
  | .int a => match y with
    | .int b => match op2 o a b with
      | some c => .v (.int c) s
      | none => .bad 1
    | _ => .bad 2
  | .ref a => match o with
    | .mul => match s.h.get a with
      | some (.list xs) => match y with
        | .int n => match toNat? n with
          | some n => match Nat.ble n 1000 && Nat.ble (lenL xs) 1000 with
            | true => alloc (.list (repl xs n)) s
            | false => .bad 3
          | none => .bad 3
        | _ => .bad 5
      | _ => .bad 6
    | _ => .bad 8
  | _ => .bad 7
/-- the operation of an augmented assignment: ints alone -/
noncomputable def intop (o : Op) (x y : AV) (s : St) : R := match x with
  | .int a => match y with
    | .int b => match op2 o a b with
      | some c => .v (.int c) s
      | none => .bad 1
    | _ => .bad 2
  | _ => .bad 7
noncomputable def isList (x : AV) (s : St) : Bool := match x with
  | .ref r => match s.h.get r with
    | some (.list _) => true
    | _ => false
  | _ => false
noncomputable def cmpop (o : Cm) (x y : AV) (s : St) : R := match x with
  | .int a => match y with
    | .int b => .v (.bool (cmpI o a b)) s
    | _ => .bad 10
  | .ref _ => match refEq s x y with
    | some b => match o with
      | .eq => .v (.bool b) s
      | .ne => .v (.bool (bnot b)) s
      | _ => .bad 11
    | none => .bad 12
  | _ => .bad 13
noncomputable def found (x : AV) (s : St) : R := match x with
  | .unb => .bad 20
  | x => .v x s
noncomputable def atI (vs : List AV) (i : AV) (s : St) : R := match i with
  | .int k => match k with
    | .ofNat n => match Nat.ble n 1000000 with
      | true => found (geti vs n) s
      | false => .bad 23
    | .negSucc _ => .bad 23
  | _ => .bad 24
noncomputable def itemOf (x i : AV) (s : St) : R := match x with
  | .ref r => match s.h.get r with
    | some o => match o with
      | .dict _ es => match i with
        | .int k => found (getd es k) s
        | _ => .bad 21
      | .list vs => atI vs i s
      | .tup vs => atI vs i s
      | _ => .bad 25
    | none => .bad 25
  | _ => .bad 26
noncomputable def attrOf (x : AV) (n : Nat) (s : St) : R := match x with
  | .ref r => match s.h.get r with
    | some (.inst _ fs) => found (getf fs n) s
    | _ => .bad 31
  | _ => .bad 32
noncomputable def setA (x : AV) (n : Nat) (v : AV) (ρ : List AV) (s : St) : R := match x with
  | .ref r => match s.h.get r with
    | some (.inst c fs) => match Nat.ble (lenF fs) 100 with
      | true => .fl .next ρ ⟨s.h.put r (.inst c (setf fs n v)), s.n⟩
      | false => .bad 40
    | _ => .bad 40
  | _ => .bad 41
noncomputable def setI (x i v : AV) (ρ : List AV) (s : St) : R := match x with
  | .ref r => match s.h.get r with
    | some (.list vs) => match i with
      | .int k => match k with
        | .ofNat n => match Nat.blt n (lenL vs) && Nat.ble n 1000000 with
          | true => .fl .next ρ ⟨s.h.put r (.list (seti vs n v)), s.n⟩
          | false => .bad 42
        | .negSucc _ => .bad 42
      | _ => .bad 43
    | some (.dict n es) => match i with
      | .int k => match Nat.ble n 1000 with
        | true => .fl .next ρ ⟨s.h.put r (.dict (Nat.succ n) (setd es k v)), s.n⟩
        | false => .bad 42
      | _ => .bad 44
    | _ => .bad 45
  | _ => .bad 46
noncomputable def appendTo (x v : AV) (ρ : List AV) (s : St) : R := match x with
  | .ref r => match s.h.get r with
    | some (.list vs) => match Nat.ble (lenL vs) 1000 with
      | true => .fl .next ρ ⟨s.h.put r (.list (cat vs [v])), s.n⟩
      | false => .bad 49
    | _ => .bad 47
  | _ => .bad 48
noncomputable def asgs (l : List Nat) : List AV → List AV → Option (List AV) := List.rec (fun vs ρ => match isNil vs with | true => some ρ | false => none)
  (fun i _ ih vs ρ => match vs with
    | [] => none
    | v :: vs => ih vs (seti ρ i v)) l
noncomputable def rangeUp (n : Nat) : Int → List AV := Nat.rec (fun _ => []) (fun _ ih a => .int a :: ih (iadd a 1)) n
noncomputable def rangeDown (n : Nat) : Int → List AV := Nat.rec (fun _ => []) (fun _ ih a => .int a :: ih (isub a 1)) n
noncomputable def rangeL (a b c : Int) : Option (List AV) := match ieq c 1 with
  | true => (match isub b a with | .ofNat n => (match Nat.ble n 1000 with | true => some (rangeUp n a) | false => none) | .negSucc _ => some [])
  | false => match ieq c (-1) with
    | true => (match isub a b with | .ofNat n => (match Nat.ble n 1000 with | true => some (rangeDown n a) | false => none) | .negSucc _ => some [])
    | false => none
noncomputable def isTup (x : AV) (s : St) : Option (List AV) := match x with
  | .ref r => match s.h.get r with
    | some (.tup vs) => some vs
    | _ => none
  | _ => none

noncomputable def nth (l : List AV) : Nat → Option AV := List.rec (fun _ => none) (fun x _ ih i => Nat.rec (some x) (fun j _ => ih j) i) l
/-- the item at a place of a list or tuple as it stands now -/
noncomputable def srcAt (tu : Bool) (r i : Nat) (s : St) : Option (Option AV) := match s.h.get r with
  | some o => match o with
    | .list vs => match tu with
      | false => some (nth vs i)
      | true => none
    | .tup vs => match tu with
      | true => some (nth vs i)
      | false => none
    | _ => none
  | none => none
noncomputable def thenGo (r : R) (k : List AV → St → R) : R := match r with
  | .fl f ρ s => match f with
    | .ret y => .fl (.ret y) ρ s
    | _ => k ρ s
  | .bad n => .bad n
  | _ => .bad 92
noncomputable def loopL (turn : AV → List AV → St → R) (l : List AV) : List AV → St → R := List.rec (fun ρ s => .fl .next ρ s) (fun v _ ih ρ s => thenGo (turn v ρ s) ih) l
noncomputable def loopI (turn : AV → List AV → St → R) (tu : Bool) (r : Nat) (f : Nat) : Nat → List AV → St → R :=
  Nat.rec (fun _ _ _ => .bad 93) (fun _ ih i ρ s => match srcAt tu r i s with
    | some x => match x with
      | some v => thenGo (turn v ρ s) (ih (Nat.succ i))
      | none => .fl .next ρ s
    | none => .bad 94) f
/-- a for loop over what the value x is -/
noncomputable def forOver (turn : AV → List AV → St → R) (x : AV) (ρ : List AV) (s : St) : R := match x with
  | .ref r => match s.h.get r with
    | some o => match o with
      | .range a b c => match small a && small b with
        | true => match rangeL a b c with
          | some vs => loopL turn vs ρ s
          | none => .bad 95
        | false => .bad 98
      | .list _ => loopI turn false r 1000 0 ρ s
      | .tup _ => loopI turn true r 1000 0 ρ s
      | _ => .bad 99
    | none => .bad 96
  | _ => .bad 97
noncomputable def bindF (r : R) (k : List AV → St → R) : R := match r with
  | .fl f ρ s => match f with
    | .next => k ρ s
    | f => .fl f ρ s
  | .bad n => .bad n
  | _ => .bad 92
noncomputable def setC (k : Nat) (v : AV) (ρ : List AV) (s : St) : R := match s.h.get k with
  | some (.cell _) => .fl .next ρ ⟨s.h.put k (.cell v), s.n⟩
  | _ => .bad 50
noncomputable def unpack (v : AV) (s : St) (k : List AV → R) : R := match isTup v s with
  | some vs => k vs
  | none => .bad 51
noncomputable def toF (o : Option (List AV)) (s : St) : R := match o with
  | some ρ => .fl .next ρ s
  | none => .bad 52
noncomputable def asgC2 (k1 k2 : Nat) (vs ρ : List AV) (s : St) : R := match vs with
  | [a, b] => bindF (setC k1 a ρ s) fun ρ s => setC k2 b ρ s
  | _ => .bad 53
noncomputable def test (x : AV) (t f : R) : R := match truth x with
  | some b => match b with
    | true => t
    | false => f
  | none => .bad 54
/-- one turn of a comprehension: the frame of its own, the list at `acc` -/
noncomputable def compTurn (ih : Ev) (acc x : Nat) (e : T) (v : AV) (ρ : List AV) (s : St) : R :=
  bindV (ih e (seti ρ x v) s) fun y s => appendTo (.ref acc) y (seti ρ x v) s
noncomputable def compTurnIf (ih : Ev) (acc x : Nat) (e c : T) (v : AV) (ρ : List AV) (s : St) : R :=
  bindV (ih c (seti ρ x v) s) fun b s => test b (compTurn ih acc x e v ρ s) (.fl .next (seti ρ x v) s)
noncomputable def endComp (y : Nat) (acc : AV) (ρ : List AV) (r : R) : R := bindF r fun _ s => .fl .next (seti ρ y acc) s

section
variable (orc : Nat → Int → Option Int) (tbl : Nat → Fn)
noncomputable def evL : TL → List AV → St → R
  | .loc i => fun ρ s => found (geti ρ i) s
  | .cel _ k => fun _ s => match s.h.get k with
    | some (.cell v) => found v s
    | _ => .bad 60
  | .int z => fun _ s => .v (.int z) s
  | .gint _ z => fun _ s => .v (.int z) s
  | .bool b => fun _ s => .v (.bool b) s
  | .non => fun _ s => .v .non s
  | .nil => fun _ s => .vs [] s
  | .cont => fun ρ s => .fl .cont ρ s
  | .fail => fun _ _ => .bad 61
  | .done => fun ρ s => .fl .next ρ s
  | .ret0 => fun ρ s => .fl (.ret .non) ρ s
noncomputable def unI (f : Int → Int) (x : AV) (s : St) : R := match x with
  | .int i => .v (.int (f i)) s
  | _ => .bad 62
noncomputable def lenOf (x : AV) (s : St) : R := match items x s with
  | some vs => match Nat.ble (lenL vs) 1000000 with
    | true => .v (.int (.ofNat (lenL vs))) s
    | false => .bad 63
  | none => .bad 63
noncomputable def rangeOf (xs : List AV) (s : St) : R := match xs with
  | [.int b] => alloc (.range 0 b 1) s
  | [.int a, .int b] => alloc (.range a b 1) s
  | [.int a, .int b, .int c] => match ieq c (-1) with
    | true => alloc (.range a b c) s
    | false => .bad 64
  | _ => .bad 64
noncomputable def gitemOf (k : Nat) (y : AV) (s : St) : R := match y with
  | .int z => match z with
    | .ofNat n => match getI (gI k) n with
      | some z => .v (.int z) s
      | none => .bad 65
    | .negSucc _ => .bad 66
  | _ => .bad 67
noncomputable def pickOf (j : Nat) (y : AV) (s : St) : R := match y with
  | .int n => match orc j n with
    | some z => .v (.int z) s
    | none => .bad 68
  | _ => .bad 69
noncomputable def isCells (x : AV) (s : St) : Bool := match x with
  | .ref r => match s.h.get r with
    | some .cells => true
    | _ => false
  | _ => false
noncomputable def back (r : R) : R := match r with
  | .fl f _ s => match f with
    | .ret x => .v x s
    | .next => .v .non s
    | .cont => .bad 72
  | .bad n => .bad n
  | _ => .bad 73
noncomputable def enter (ih : Ev) (f : Fn) (xs : List AV) (s : St) : R := match Nat.beq (lenL xs) f.p with
  | true => ih f.body (padTo xs f.n) s
  | false => .bad 74
noncomputable def isNone : AV → Bool
  | .non => true
  | _ => false
noncomputable def evU (ih : Ev) : TU → T → List AV → St → R
  | .neg => fun a ρ s => bindV (ih a ρ s) (unI ineg)
  | .inv => fun a ρ s => bindV (ih a ρ s) (unI iinv)
  | .not => fun a ρ s => bindV (ih a ρ s) fun x s => test x (.v (.bool false) s) (.v (.bool true) s)
  | .isN => fun a ρ s => bindV (ih a ρ s) fun x s => .v (.bool (isNone x)) s
  | .isNN => fun a ρ s => bindV (ih a ρ s) fun x s => .v (.bool (bnot (isNone x))) s
  | .attr n => fun a ρ s => bindV (ih a ρ s) fun x s => attrOf x n s
  | .len _ => fun a ρ s => bindV (ih a ρ s) lenOf
  | .call _ f => fun a ρ s => bindVs (ih a ρ s) fun xs s => back (enter ih (tbl f) xs s)
  | .new _ c => fun a ρ s => bindVs (ih a ρ s) fun xs s => bindV (allocI c s) fun x s => bindV (back (enter ih (tbl c) (x :: xs) s)) fun y s => match isNone y with
    | true => .v x s
    | false => .bad 75
  | .range _ => fun a ρ s => bindVs (ih a ρ s) rangeOf
  | .list => fun a ρ s => bindVs (ih a ρ s) fun xs s => match Nat.ble (lenL xs) 1000 with | true => alloc (.list xs) s | false => .bad 80
  | .tup => fun a ρ s => bindVs (ih a ρ s) fun xs s => match Nat.ble (lenL xs) 1000 with | true => alloc (.tup xs) s | false => .bad 80
  | .gitem _ k => fun a ρ s => bindV (ih a ρ s) (gitemOf k)
  | .pick i j => fun a ρ s => match isCells (geti ρ i) s with | true => bindV (ih a ρ s) (pickOf orc j) | false => .bad 70
  | .asg x => fun a ρ s => bindV (ih a ρ s) fun v s => .fl .next (seti ρ x v) s
  | .asgC _ k => fun a ρ s => bindV (ih a ρ s) fun v s => setC k v ρ s
  | .asgT xs => fun a ρ s => bindV (ih a ρ s) fun v s => unpack v s fun vs => toF (asgs xs vs ρ) s
  | .ex => fun a ρ s => bindV (ih a ρ s) fun _ s => .fl .next ρ s
  | .ret => fun a ρ s => bindV (ih a ρ s) fun v s => .fl (.ret v) ρ s
  | .augN x o => fun a ρ s => bindV (found (geti ρ x) s) fun v s => bindV (ih a ρ s) fun w s => bindV (intop o v w s) fun r s => .fl .next (seti ρ x r) s
noncomputable def evB (ih : Ev) : TB → T → T → List AV → St → R
  | .op2 o => fun a c ρ s => bindV (ih a ρ s) fun x s => bindV (ih c ρ s) fun y s => binop o x y s
  | .cmp o => fun a c ρ s => bindV (ih a ρ s) fun x s => bindV (ih c ρ s) fun y s => cmpop o x y s
  | .and => fun a c ρ s => bindV (ih a ρ s) fun x s => test x (ih c ρ s) (.v x s)
  | .or => fun a c ρ s => bindV (ih a ρ s) fun x s => test x (.v x s) (ih c ρ s)
  | .item => fun a c ρ s => bindV (ih a ρ s) fun x s => bindV (ih c ρ s) fun y s => itemOf x y s
  | .cons => fun a c ρ s => bindV (ih a ρ s) fun x s => bindVs (ih c ρ s) fun xs s => .vs (x :: xs) s
  | .dict1 => fun a c ρ s => bindV (ih a ρ s) fun x s => bindV (ih c ρ s) fun y s => match x with
    | .int z => alloc (.dict 1 [(z, y)]) s
    | _ => .bad 76
  | .setAttr n => fun a c ρ s => bindV (ih c ρ s) fun v s => bindV (ih a ρ s) fun x s => setA x n v ρ s
  | .augA n o => fun a c ρ s => bindV (ih a ρ s) fun x s => bindV (attrOf x n s) fun v s => bindV (ih c ρ s) fun w s => bindV (intop o v w s) fun r s => setA x n r ρ s
  | .app => fun a c ρ s => bindV (ih a ρ s) fun x s => match isList x s with | true => bindV (ih c ρ s) fun v s => appendTo x v ρ s | false => .bad 81
  | .for1 x => fun a c ρ s => bindV (ih a ρ s) fun y s => forOver (fun v ρ s => ih c (seti ρ x v) s) y ρ s
  | .forT xs => fun a c ρ s => bindV (ih a ρ s) fun y s => forOver (fun v ρ s => unpack v s fun vs => bindF (toF (asgs xs vs ρ) s) (ih c)) y ρ s
  | .forC _ k1 _ k2 => fun a c ρ s => bindV (ih a ρ s) fun y s => forOver (fun v ρ s => unpack v s fun vs => bindF (asgC2 k1 k2 vs ρ s) (ih c)) y ρ s
  | .while => fun a c ρ s => bindV (ih a ρ s) fun x s => test x (thenGo (ih c ρ s) (ih (.b .while a c))) (.fl .next ρ s)
  | .seq => fun a c ρ s => bindF (ih a ρ s) (ih c)
  | .comp y x w => fun e it ρ s => bindV (ih it ρ s) fun v s => bindV (alloc (.list []) s) fun acc s => match acc with
    | .ref n => endComp y acc ρ (forOver (compTurn ih n x e) v (unbs w) s)
    | _ => .bad 77
noncomputable def evT (ih : Ev) : TT → T → T → T → List AV → St → R
  | .ite => fun c a b ρ s => bindV (ih c ρ s) fun x s => test x (ih a ρ s) (ih b ρ s)
  | .ifs => fun c a b ρ s => bindV (ih c ρ s) fun x s => test x (ih a ρ s) (ih b ρ s)
  | .setItem => fun a i e ρ s => bindV (ih e ρ s) fun v s => bindV (ih a ρ s) fun x s => bindV (ih i ρ s) fun y s => setI x y v ρ s
  | .augI o => fun a i e ρ s => bindV (ih a ρ s) fun x s => bindV (ih i ρ s) fun y s => bindV (itemOf x y s) fun v s => bindV (ih e ρ s) fun w s => bindV (intop o v w s) fun r s => setI x y r ρ s
  | .compIf y x w => fun e it c ρ s => bindV (ih it ρ s) fun v s => bindV (alloc (.list []) s) fun acc s => match acc with
    | .ref n => endComp y acc ρ (forOver (compTurnIf ih n x e c) v (unbs w) s)
    | _ => .bad 78
noncomputable def step (ih : Ev) : Ev
  | .l k => evL k
  | .u k a => evU orc tbl ih k a
  | .b k a c => evB ih k a c
  | .t k a c d => evT ih k a c d
noncomputable def ev (n : Nat) : Ev := Nat.rec (fun _ _ _ => .bad 0) (fun _ ih => step orc tbl ih) n
end
end Mine

end
section
open PySem PySem.W PyProof.Rows PySem.Calls
namespace Mine
/-! plain facts -/
theorem geti_z (x : AV) (l : List AV) : geti (x :: l) 0 = x := rfl
theorem geti_s (x : AV) (l : List AV) (i : Nat) : geti (x :: l) (i + 1) = geti l i := rfl
theorem geti_n (i : Nat) : geti [] i = .unb := rfl
theorem nth_z (x : AV) (l : List AV) : nth (x :: l) 0 = some x := rfl
theorem nth_s (x : AV) (l : List AV) (i : Nat) : nth (x :: l) (i + 1) = nth l i := rfl
theorem nth_n (i : Nat) : nth [] i = none := rfl
theorem seti_z (x v : AV) (l : List AV) : seti (x :: l) 0 v = v :: l := rfl
theorem seti_s (x v : AV) (l : List AV) (i : Nat) : seti (x :: l) (i + 1) v = x :: seti l i v := rfl
theorem seti_n (i : Nat) (v : AV) : seti [] i v = [] := rfl
theorem cat_eq : ∀ l m : List AV, cat l m = l ++ m
  | [], _ => rfl
  | x :: l, m => congrArg (x :: ·) (cat_eq l m)
theorem lenL_eq : ∀ l : List AV, lenL l = l.length
  | [] => rfl
  | _ :: l => congrArg Nat.succ (lenL_eq l)
theorem geti_seti : ∀ (l : List AV) (i j : Nat) (v : AV), geti (seti l i v) j = if j = i ∧ i < l.length then v else geti l j
  | [], _, _, _ => by simp [seti_n]
  | x :: l, 0, 0, v => by simp [seti_z, geti_z]
  | x :: l, 0, j + 1, v => by simp [seti_z, geti_s]
  | x :: l, i + 1, 0, v => by simp [seti_s, geti_z]
  | x :: l, i + 1, j + 1, v => by simp [seti_s, geti_s, geti_seti l i j v]
theorem seti_length : ∀ (l : List AV) (i : Nat) (v : AV), (seti l i v).length = l.length
  | [], _, _ => rfl
  | x :: l, 0, v => rfl
  | x :: l, i + 1, v => by rw [seti_s, List.length_cons, seti_length l i v, List.length_cons]
theorem unbs_s (n : Nat) : unbs (n + 1) = .unb :: unbs n := rfl
theorem unbs_length : ∀ n, (unbs n).length = n
  | 0 => rfl
  | n + 1 => by rw [unbs_s, List.length_cons, unbs_length n]
theorem geti_unbs : ∀ n i, geti (unbs n) i = .unb
  | 0, _ => rfl
  | n + 1, 0 => rfl
  | n + 1, i + 1 => by rw [unbs_s, geti_s, geti_unbs n i]
theorem padTo_nil (n : Nat) : padTo [] n = unbs n := rfl
theorem padTo_cs (x : AV) (l : List AV) (n : Nat) : padTo (x :: l) (n + 1) = x :: padTo l n := rfl
theorem padTo_c0 (x : AV) (l : List AV) : padTo (x :: l) 0 = [] := rfl
theorem padTo_length : ∀ (l : List AV) (n : Nat), (padTo l n).length = n
  | [], n => by rw [padTo_nil, unbs_length]
  | x :: l, 0 => rfl
  | x :: l, n + 1 => by rw [padTo_cs, List.length_cons, padTo_length l n]
theorem geti_padTo : ∀ (l : List AV) (n i : Nat), geti (padTo l n) i ≠ .unb → geti (padTo l n) i = geti l i ∧ i < l.length
  | [], n, i, h => by rw [padTo_nil, geti_unbs] at h; exact absurd rfl h
  | x :: l, 0, i, h => absurd (geti_n i) h
  | x :: l, n + 1, 0, h => ⟨rfl, Nat.succ_pos _⟩
  | x :: l, n + 1, i + 1, h => by
    rw [padTo_cs, geti_s] at h
    have := geti_padTo l n i h
    rw [padTo_cs, geti_s, geti_s]
    exact ⟨this.1, Nat.succ_lt_succ this.2⟩

theorem H.get_nil (i : Nat) : H.nil.get i = none := rfl
theorem H.get_node (v : Option AO) (l r : H) (i : Nat) : (H.node v l r).get i = if i = 0 then v else if i % 2 = 1 then l.get (i / 2) else r.get (i / 2 - 1) := by
  show H.get1 v l.get r.get i = _
  unfold H.get1
  by_cases h0 : i = 0
  · subst h0; rfl
  · have e0 : Nat.beq i 0 = false := by cases i with | zero => exact absurd rfl h0 | succ n => rfl
    rw [e0, if_neg h0]
    by_cases h1 : i % 2 = 1
    · have e1 : Nat.beq (Nat.mod i 2) 1 = true := by show Nat.beq (i % 2) 1 = true; rw [h1]; rfl
      rw [e1, if_pos h1]; rfl
    · have e1 : Nat.beq (Nat.mod i 2) 1 = false := by
        show Nat.beq (i % 2) 1 = false
        have : i % 2 = 0 := by omega
        rw [this]; rfl
      rw [e1, if_neg h1]; rfl
theorem H.putF_s (f : Nat) (t : H) (i : Nat) (o : AO) : H.putF (f + 1) t i o = H.put1 (H.putF f) t i o := rfl
theorem H.put1_eq (ih : H → Nat → AO → H) (t : H) (i : Nat) (o : AO) : H.put1 ih t i o =
    if i = 0 then (match t with | .nil => .node (some o) .nil .nil | .node _ l r => .node (some o) l r)
    else if i % 2 = 1 then (match t with | .nil => .node none (ih .nil (i / 2) o) .nil | .node v l r => .node v (ih l (i / 2) o) r)
    else (match t with | .nil => .node none .nil (ih .nil (i / 2 - 1) o) | .node v l r => .node v l (ih r (i / 2 - 1) o)) := by
  unfold H.put1
  by_cases h0 : i = 0
  · subst h0; cases t <;> rfl
  · have e0 : Nat.beq i 0 = false := by cases i with | zero => exact absurd rfl h0 | succ n => rfl
    rw [e0, if_neg h0]
    by_cases h1 : i % 2 = 1
    · have e1 : Nat.beq (Nat.mod i 2) 1 = true := by show Nat.beq (i % 2) 1 = true; rw [h1]; rfl
      rw [e1, if_pos h1]; cases t <;> rfl
    · have e1 : Nat.beq (Nat.mod i 2) 1 = false := by
        show Nat.beq (i % 2) 1 = false
        have : i % 2 = 0 := by omega
        rw [this]; rfl
      rw [e1, if_neg h1]; cases t <;> rfl
theorem H.putF_get : ∀ (f : Nat) (t : H) (i : Nat) (o : AO) (j : Nat), i + 1 < 2 ^ f → (H.putF f t i o).get j = if j = i then some o else t.get j
  | 0, t, i, o, j, h => by simp at h
  | f + 1, t, i, o, j, h => by
    rw [H.putF_s, H.put1_eq]
    have hp : 2 ^ (f + 1) = 2 * 2 ^ f := by rw [Nat.pow_succ, Nat.mul_comm]
    by_cases h0 : i = 0
    · subst h0
      rw [if_pos rfl]
      cases t with
      | nil =>
        show (H.node (some o) .nil .nil).get j = _
        rw [H.get_node]
        by_cases hj : j = 0
        · simp [hj]
        · simp [hj, H.get_nil]
      | node v l r =>
        show (H.node (some o) l r).get j = _
        rw [H.get_node, H.get_node]
        by_cases hj : j = 0 <;> simp [hj]
    · rw [if_neg h0]
      by_cases h1 : i % 2 = 1
      · rw [if_pos h1]
        have hb : i / 2 + 1 < 2 ^ f := by omega
        have key : ∀ l : H, (if j % 2 = 1 then (H.putF f l (i / 2) o).get (j / 2) else (none : Option AO)) = if j % 2 = 1 then (if j = i then some o else l.get (j / 2)) else none := by
          intro l
          by_cases hj : j % 2 = 1
          · rw [if_pos hj, if_pos hj, H.putF_get f l (i / 2) o (j / 2) hb]
            by_cases e : j = i
            · subst e; simp
            · have : j / 2 ≠ i / 2 := by omega
              simp [e, this]
          · simp [hj]
        cases t with
        | nil =>
          show (H.node none (H.putF f .nil (i / 2) o) .nil).get j = _
          rw [H.get_node]
          by_cases hj0 : j = 0
          · subst hj0; have : ¬ (0 = i) := fun e => h0 e.symm; simp [this, H.get_nil]
          · rw [if_neg hj0, H.get_nil]
            have := key .nil
            by_cases hj : j % 2 = 1
            · simp only [hj, if_true] at this ⊢; rw [this]; rfl
            · have : j ≠ i := by omega
              simp [hj, this, H.get_nil]
        | node v l r =>
          show (H.node v (H.putF f l (i / 2) o) r).get j = _
          rw [H.get_node, H.get_node]
          by_cases hj0 : j = 0
          · subst hj0; have : ¬ (0 = i) := fun e => h0 e.symm; simp [this]
          · rw [if_neg hj0, if_neg hj0]
            have := key l
            by_cases hj : j % 2 = 1
            · simp only [hj, if_true] at this ⊢; rw [this]
            · have : j ≠ i := by omega
              simp [hj, this]
      · rw [if_neg h1]
        have hb : i / 2 - 1 + 1 < 2 ^ f := by omega
        have key : ∀ l : H, j ≠ 0 → j % 2 ≠ 1 → (H.putF f l (i / 2 - 1) o).get (j / 2 - 1) = if j = i then some o else l.get (j / 2 - 1) := by
          intro l hj0 hj
          rw [H.putF_get f l (i / 2 - 1) o (j / 2 - 1) hb]
          by_cases e : j = i
          · subst e; simp
          · have : j / 2 - 1 ≠ i / 2 - 1 := by omega
            simp [e, this]
        cases t with
        | nil =>
          show (H.node none .nil (H.putF f .nil (i / 2 - 1) o)).get j = _
          rw [H.get_node]
          by_cases hj0 : j = 0
          · subst hj0; have : ¬ (0 = i) := fun e => h0 e.symm; simp [this, H.get_nil]
          · rw [if_neg hj0]
            by_cases hj : j % 2 = 1
            · have : j ≠ i := by omega
              simp [hj, this, H.get_nil]
            · rw [if_neg hj, key .nil hj0 hj, H.get_nil, H.get_nil]
        | node v l r =>
          show (H.node v l (H.putF f r (i / 2 - 1) o)).get j = _
          rw [H.get_node, H.get_node]
          by_cases hj0 : j = 0
          · subst hj0; have : ¬ (0 = i) := fun e => h0 e.symm; simp [this]
          · rw [if_neg hj0, if_neg hj0]
            by_cases hj : j % 2 = 1
            · have : j ≠ i := by omega
              simp [hj, this]
            · rw [if_neg hj, if_neg hj, key r hj0 hj]
theorem H.put_get (t : H) (i : Nat) (o : AO) (j : Nat) (h : i ≤ 4001) : (t.put i o).get j = if j = i then some o else t.get j :=
  H.putF_get 12 t i o j (by omega)

theorem ieq_iff (a b : Int) : ieq a b = decide (a = b) := by
  have nb : ∀ m n : Nat, Nat.beq m n = decide (m = n) := fun m n => by
    cases h : Nat.beq m n with
    | true => rw [Nat.eq_of_beq_eq_true h]; simp
    | false => have := Nat.ne_of_beq_eq_false h; simp [this]
  cases a with
  | ofNat m => cases b with
    | ofNat n => show Nat.beq m n = _; rw [nb]; exact decide_eq_decide.mpr ⟨fun e => congrArg Int.ofNat e, fun e => Int.ofNat.inj e⟩
    | negSucc n => simp [ieq]
  | negSucc m => cases b with
    | ofNat n => simp [ieq]
    | negSucc n => show Nat.beq m n = _; rw [nb]; simp
theorem ile_iff (a b : Int) : ile a b = decide (a ≤ b) := by
  have nb : ∀ m n : Nat, Nat.ble m n = decide (m ≤ n) := fun m n => by
    by_cases h : m ≤ n
    · rw [Nat.ble_eq_true_of_le h]; simp [h]
    · have : Nat.ble m n = false := by
        cases q : Nat.ble m n with
        | false => rfl
        | true => exact absurd (Nat.le_of_ble_eq_true q) h
      rw [this]; simp [h]
  cases a with
  | ofNat m => cases b with
    | ofNat n => show Nat.ble m n = _; rw [nb]; simp
    | negSucc n =>
      have : ¬ (Int.ofNat m ≤ Int.negSucc n) := by simp only [Int.ofNat_eq_natCast, Int.negSucc_eq]; omega
      exact (decide_eq_false this).symm
  | negSucc m => cases b with
    | ofNat n =>
      have : Int.negSucc m ≤ Int.ofNat n := by simp only [Int.ofNat_eq_natCast, Int.negSucc_eq]; omega
      exact (decide_eq_true this).symm
    | negSucc n =>
      show Nat.ble n m = _
      rw [nb]
      by_cases h : n ≤ m
      · have : Int.negSucc m ≤ Int.negSucc n := by omega
        simp [h, this]
      · have : ¬ Int.negSucc m ≤ Int.negSucc n := by omega
        simp [h, this]
theorem bnot_eq (b : Bool) : bnot b = !b := by cases b <;> rfl
theorem iadd_eq (a b : Int) : iadd a b = a + b := by cases a <;> cases b <;> rfl
theorem isub_eq (a b : Int) : isub a b = a - b := by
  cases a with
  | ofNat m => cases b with
    | ofNat n =>
      unfold isub
      dsimp only
      cases q : Nat.ble n m with
      | true =>
        have := Nat.le_of_ble_eq_true q
        show Int.ofNat (m - n) = Int.ofNat m - Int.ofNat n
        simp only [Int.ofNat_eq_natCast]; omega
      | false =>
        have : ¬ n ≤ m := fun h => by rw [Nat.ble_eq_true_of_le h] at q; cases q
        show Int.negSucc (n - m - 1) = Int.ofNat m - Int.ofNat n
        simp only [Int.ofNat_eq_natCast, Int.negSucc_eq]; omega
    | negSucc n => rfl
  | negSucc m => cases b <;> rfl
theorem ineg_eq (a : Int) : ineg a = -a := by
  cases a with
  | ofNat n => cases n <;> rfl
  | negSucc n => rfl
theorem iinv_eq (a : Int) : iinv a = Builtin.bitNot a := by
  unfold iinv Builtin.bitNot
  cases a with
  | ofNat n => show Int.negSucc n = -(Int.ofNat n) - 1; simp only [Int.ofNat_eq_natCast, Int.negSucc_eq]; omega
  | negSucc n => show Int.ofNat n = -(Int.negSucc n) - 1; simp only [Int.ofNat_eq_natCast, Int.negSucc_eq]; omega
theorem imul_is {a b r : Int} (h : imul a b = some r) : IntMulOk a b ∧ r = a * b := by
  unfold imul at h
  cases q : small a with
  | false => rw [q] at h; cases h
  | true =>
    rw [q] at h
    injection h with h
    have e : imul0 a b = a * b := by cases a <;> cases b <;> rfl
    have sm : -(2 ^ 64) < a ∧ a < 2 ^ 64 := by
      cases a with
      | ofNat n => have := Nat.le_of_ble_eq_true (show Nat.ble n 1000000000000 = true from q); simp only [Int.ofNat_eq_natCast]; omega
      | negSucc n => have := Nat.le_of_ble_eq_true (show Nat.ble n 1000000000000 = true from q); simp only [Int.negSucc_eq]; omega
    exact ⟨IntMulOk.of_left (intBits_le_64 sm.1 sm.2), by rw [← h, e]⟩
theorem idiv_is {a b r : Int} (h : idiv a b = some r) : b ≠ 0 ∧ Builtin.divisionGoesByPylong a b = false ∧ r = a.fdiv b := by
  cases a with
  | negSucc m => cases b <;> cases h
  | ofNat m => cases b with
    | negSucc n => cases h
    | ofNat n =>
      unfold idiv at h
      dsimp only at h
      cases q : Nat.beq n 0 with
      | true => rw [q] at h; cases h
      | false =>
        rw [q] at h
        dsimp only at h
        have hn := Nat.ne_of_beq_eq_false q
        cases q2 : Nat.ble n 1000000 with
        | false => rw [q2] at h; cases h
        | true =>
          rw [q2] at h
          injection h with h
          have hn2 := Nat.le_of_ble_eq_true q2
          refine ⟨by simp only [Int.ofNat_eq_natCast]; omega, PyProof.noPylong_small (by simp only [Int.ofNat_eq_natCast, Int.natAbs_natCast]; omega), ?_⟩
          rw [← h]
          show Int.ofNat (m / n) = Int.fdiv (Int.ofNat m) (Int.ofNat n)
          simp only [Int.ofNat_eq_natCast]
          rw [Int.fdiv_eq_ediv_of_nonneg _ (by omega)]
          simp
theorem imod_is {a b r : Int} (h : imod a b = some r) : b ≠ 0 ∧ r = a.fmod b := by
  cases a with
  | negSucc m => cases b <;> cases h
  | ofNat m => cases b with
    | negSucc n => cases h
    | ofNat n =>
      unfold imod at h
      dsimp only at h
      cases q : Nat.beq n 0 with
      | true => rw [q] at h; cases h
      | false =>
        rw [q] at h
        injection h with h
        have hn := Nat.ne_of_beq_eq_false q
        refine ⟨by simp only [Int.ofNat_eq_natCast]; omega, ?_⟩
        rw [← h]
        show Int.ofNat (m % n) = Int.fmod (Int.ofNat m) (Int.ofNat n)
        simp only [Int.ofNat_eq_natCast]
        rw [Int.fmod_eq_emod_of_nonneg _ (by omega)]
        simp
theorem ishl_is {a b r : Int} (h : ishl a b = some r) : 0 ≤ b ∧ b ≤ 1000000 ∧ a.natAbs < 2 ^ 64 ∧ r = a * 2 ^ b.toNat := by
  cases a with
  | negSucc m => cases b <;> cases h
  | ofNat m => cases b with
    | negSucc n => cases h
    | ofNat n =>
      unfold ishl at h
      dsimp only at h
      cases q : Nat.ble m 18446744073709551615 with
      | false => rw [q] at h; cases h
      | true =>
        rw [q] at h
        dsimp only at h
        cases q2 : Nat.ble n 1000000 with
        | false => rw [q2] at h; cases h
        | true =>
          rw [q2] at h
          injection h with h
          have h1 := Nat.le_of_ble_eq_true q
          have h2 := Nat.le_of_ble_eq_true q2
          refine ⟨by simp only [Int.ofNat_eq_natCast]; omega, by simp only [Int.ofNat_eq_natCast]; omega, by simp only [Int.ofNat_eq_natCast, Int.natAbs_natCast]; omega, ?_⟩
          rw [← h]
          show Int.ofNat (m * 2 ^ n) = Int.ofNat m * 2 ^ (Int.ofNat n).toNat
          simp only [Int.ofNat_eq_natCast, Int.toNat_natCast]
          simp
theorem ishr_is {a b r : Int} (h : ishr a b = some r) : 0 ≤ b ∧ r = a.fdiv (2 ^ b.toNat) := by
  cases a with
  | negSucc m => cases b <;> cases h
  | ofNat m => cases b with
    | negSucc n => cases h
    | ofNat n =>
      injection h with h
      refine ⟨by simp only [Int.ofNat_eq_natCast]; omega, ?_⟩
      rw [← h]
      show Int.ofNat (Nat.shiftRight m n) = _
      simp only [Int.ofNat_eq_natCast, Int.toNat_natCast]
      have e : (2 : Int) ^ n = ((2 ^ n : Nat) : Int) := by simp
      rw [e, Int.fdiv_eq_ediv_of_nonneg _ (Int.natCast_nonneg _)]
      show ((m >>> n : Nat) : Int) = _
      rw [Nat.shiftRight_eq_div_pow]
      simp
theorem xor_self_and (m n : Nat) : Nat.xor m (Nat.land m n) + (m &&& n) = m := by
  have h2 : (m ^^^ (m &&& n)) &&& (m &&& n) = 0 := by
    apply Nat.eq_of_testBit_eq; intro i
    simp only [Nat.testBit_xor, Nat.testBit_and, Nat.zero_testBit]
    cases m.testBit i <;> cases n.testBit i <;> rfl
  have h3 : (m ^^^ (m &&& n)) ||| (m &&& n) = m := by
    apply Nat.eq_of_testBit_eq; intro i
    simp only [Nat.testBit_xor, Nat.testBit_and, Nat.testBit_or]
    cases m.testBit i <;> cases n.testBit i <;> rfl
  have h := nat_or_add_and (m ^^^ (m &&& n)) (m &&& n)
  rw [h2, h3] at h
  exact h.symm
theorem xor_and_or (m n : Nat) : (m ^^^ n) + (m &&& n) = (m ||| n) := by
  have h2 : (m ^^^ n) &&& (m &&& n) = 0 := by
    apply Nat.eq_of_testBit_eq; intro i
    simp only [Nat.testBit_xor, Nat.testBit_and, Nat.zero_testBit]
    cases m.testBit i <;> cases n.testBit i <;> rfl
  have h3 : (m ^^^ n) ||| (m &&& n) = m ||| n := by
    apply Nat.eq_of_testBit_eq; intro i
    simp only [Nat.testBit_xor, Nat.testBit_and, Nat.testBit_or]
    cases m.testBit i <;> cases n.testBit i <;> rfl
  have h := nat_or_add_and (m ^^^ n) (m &&& n)
  rw [h2, h3] at h
  omega
theorem and_pp (m n : Nat) : Builtin.bitAnd (Int.ofNat m) (Int.ofNat n) = ((m &&& n : Nat) : Int) := by
  have e1 : (0 : Int) ≤ Int.ofNat m := by simp only [Int.ofNat_eq_natCast]; omega
  have e2 : (0 : Int) ≤ Int.ofNat n := by simp only [Int.ofNat_eq_natCast]; omega
  unfold Builtin.bitAnd
  simp only [e1, e2, decide_true]
  rfl
theorem iand_is {a b r : Int} (h : iand a b = some r) : r = Builtin.bitAnd a b := by
  cases a with
  | ofNat m => cases b with
    | ofNat n =>
      injection h with h
      rw [← h, and_pp]; rfl
    | negSucc n =>
      injection h with h
      rw [← h]
      unfold Builtin.bitAnd
      have e1 : (0 : Int) ≤ Int.ofNat m := by simp only [Int.ofNat_eq_natCast]; omega
      have e2 : ¬ (0 : Int) ≤ Int.negSucc n := by simp only [Int.negSucc_eq]; omega
      have e3 : (Builtin.bitNot (Int.negSucc n)).toNat = n := by unfold Builtin.bitNot; simp only [Int.negSucc_eq]; omega
      simp only [e1, e2, decide_true, decide_false]
      rw [e3]
      show ((Nat.xor m (Nat.land m n) : Nat) : Int) = (m : Int) - ((m &&& n : Nat) : Int)
      have := xor_self_and m n
      omega
  | negSucc m => cases b with
    | ofNat n =>
      injection h with h
      rw [← h]
      unfold Builtin.bitAnd
      have e1 : (0 : Int) ≤ Int.ofNat n := by simp only [Int.ofNat_eq_natCast]; omega
      have e2 : ¬ (0 : Int) ≤ Int.negSucc m := by simp only [Int.negSucc_eq]; omega
      have e3 : (Builtin.bitNot (Int.negSucc m)).toNat = m := by unfold Builtin.bitNot; simp only [Int.negSucc_eq]; omega
      simp only [e1, e2, decide_true, decide_false]
      rw [e3]
      show ((Nat.xor n (Nat.land n m) : Nat) : Int) = (n : Int) - ((n &&& m : Nat) : Int)
      have := xor_self_and n m
      omega
    | negSucc n => cases h
theorem ior_is {a b r : Int} (h : ior a b = some r) : r = Builtin.bitOr a b := by
  cases a with
  | negSucc m => cases b <;> cases h
  | ofNat m => cases b with
    | negSucc n => cases h
    | ofNat n =>
      injection h with h
      rw [← h, bitOr_and, and_pp]
      show ((m ||| n : Nat) : Int) = (m : Int) + (n : Int) - _
      have := nat_or_add_and m n
      omega
theorem ixor_is {a b r : Int} (h : ixor a b = some r) : r = Builtin.bitXor a b := by
  cases a with
  | negSucc m => cases b <;> cases h
  | ofNat m => cases b with
    | negSucc n => cases h
    | ofNat n =>
      injection h with h
      rw [← h, bitXor_and, and_pp]
      show ((m ^^^ n : Nat) : Int) = (m : Int) + (n : Int) - _
      have h1 := nat_or_add_and m n
      have h2 := xor_and_or m n
      omega
end Mine

end
section
open PySem PySem.W PyProof.Rows PySem.Calls
namespace Mine
/-! values, objects and heaps: what stands for what -/
noncomputable def VR (as : List Addr) : AV → Value → Prop
  | .unb, _ => False
  | .non, v => v = .none
  | .bool b, v => v = .bool b
  | .int i, v => ∃ t, v = .int i t
  | .ref n, v => ∃ a, as[n]? = some a ∧ v = .ref a
noncomputable def VRs (as : List Addr) : List AV → List Value → Prop
  | [], [] => True
  | x :: xs, v :: vs => VR as x v ∧ VRs as xs vs
  | _, _ => False
theorem VR.mono {as as' : List Addr} (h : as <+: as') : ∀ {x : AV} {v : Value}, VR as x v → VR as' x v
  | .unb, _, r => r.elim
  | .non, _, r => r
  | .bool _, _, r => r
  | .int _, _, r => r
  | .ref n, _, ⟨a, e, ev⟩ => ⟨a, by
      obtain ⟨t, rfl⟩ := h
      rw [List.getElem?_append_left]
      · exact e
      · exact (List.getElem?_eq_some_iff.mp e).1, ev⟩
theorem VRs.mono {as as' : List Addr} (h : as <+: as') : ∀ {xs : List AV} {vs : List Value}, VRs as xs vs → VRs as' xs vs
  | [], [], _ => trivial
  | _ :: _, _ :: _, ⟨a, b⟩ => ⟨a.mono h, b.mono h⟩
  | [], _ :: _, r => r.elim
  | _ :: _, [], r => r.elim
theorem VRs.length {as : List Addr} : ∀ {xs : List AV} {vs : List Value}, VRs as xs vs → xs.length = vs.length
  | [], [], _ => rfl
  | _ :: _, _ :: _, ⟨_, b⟩ => congrArg Nat.succ b.length
  | [], _ :: _, r => r.elim
  | _ :: _, [], r => r.elim
theorem VRs.append {as : List Addr} : ∀ {xs ys : List AV} {vs ws : List Value}, VRs as xs vs → VRs as ys ws → VRs as (xs ++ ys) (vs ++ ws)
  | [], _, [], _, _, h => h
  | _ :: _, _, _ :: _, _, ⟨a, b⟩, h => ⟨a, b.append h⟩
  | [], _, _ :: _, _, r, _ => r.elim
  | _ :: _, _, [], _, r, _ => r.elim
theorem VRs.geti {as : List Addr} : ∀ {xs : List AV} {vs : List Value} {n : Nat}, VRs as xs vs → geti xs n ≠ .unb → ∃ v, vs[n]? = some v ∧ VR as (Mine.geti xs n) v
  | [], _, n, _, h => absurd (geti_n n) h
  | x :: _, v :: _, 0, ⟨a, _⟩, _ => ⟨v, rfl, a⟩
  | _ :: xs, _ :: vs, n + 1, ⟨_, b⟩, h => by
    rw [geti_s] at h ⊢
    obtain ⟨v, e, r⟩ := b.geti h
    exact ⟨v, by simpa using e, r⟩
  | _ :: _, [], _, r, _ => r.elim
theorem VRs.nth {as : List Addr} : ∀ {xs : List AV} {vs : List Value} {n : Nat}, VRs as xs vs → match nth xs n with | some x => ∃ v, vs[n]? = some v ∧ VR as x v | none => vs[n]? = none
  | [], [], n, _ => by rw [nth_n]; simp
  | x :: _, v :: _, 0, ⟨a, _⟩ => ⟨v, rfl, a⟩
  | _ :: xs, _ :: vs, n + 1, ⟨_, b⟩ => by
    rw [nth_s]
    have := b.nth (n := n)
    simpa using this
  | _ :: _, [], _, r => r.elim
  | [], _ :: _, _, r => r.elim
theorem VRs.seti {as : List Addr} {y : AV} {w : Value} (hy : VR as y w) : ∀ {xs : List AV} {vs : List Value} {n : Nat}, VRs as xs vs → VRs as (seti xs n y) (vs.set n w)
  | [], [], _, _ => trivial
  | _ :: _, _ :: _, 0, ⟨_, b⟩ => ⟨hy, b⟩
  | _ :: _, _ :: _, _ + 1, ⟨a, b⟩ => ⟨a, b.seti hy⟩
  | [], _ :: _, _, r => r.elim
  | _ :: _, [], _, r => r.elim
theorem VRs.ints {as : List Addr} : ∀ {xs : List AV} {vs : List Value} {ns : List Int}, VRs as xs vs → intsOf xs = some ns → IntsAre vs ns
  | [], [], ns, _, e => by cases e; exact .nil
  | x :: xs, v :: vs, ns, ⟨a, b⟩, e => by
    have e' : consInt x (intsOf xs) = some ns := e
    cases x with
    | int i =>
      obtain ⟨t, rfl⟩ := a
      cases q : intsOf xs with
      | none => rw [q] at e'; cases e'
      | some l => rw [q] at e'; cases e'; exact .cons _ _ (b.ints q)
    | _ => cases e'
  | [], _ :: _, _, r, _ => r.elim
  | _ :: _, [], _, r, _ => r.elim
theorem eqIs_eq : ∀ ns ms : List Int, eqIs ns ms = decide (ns = ms)
  | [], [] => by simp; rfl
  | [], _ :: _ => by simp; rfl
  | _ :: _, [] => by simp; rfl
  | n :: ns, m :: ms => by
    show (match ieq n m with | true => eqIs ns ms | false => false) = _
    rw [ieq_iff, eqIs_eq ns ms]
    by_cases h : n = m <;> simp [h]

/-! the names of attributes -/
noncomputable def attrNames : List Str := ["text", "rights_lost", "castles", "pawn", "knight", "king", "rays", "rank_masks", "file_masks", "has_castling", "has_double", "full", "size", "ranks", "files", "history", "key", "half", "ep", "rights", "side", "sides", "kinds", "board", "zob", "geo", "pieces"]
noncomputable def codeS (x : Str) : Nat := x.cps.toList.foldl (fun a c => a * 1114112 + c + 1) 0
theorem attr_codes : (attrNames.map codeS).Nodup := by decide +kernel
theorem attrNames_nodup : attrNames.Nodup := by
  have := attr_codes
  exact (List.pairwise_map.mp this).imp fun h e => h (congrArg codeS e)
/-- the pairs of an object's dict -/
noncomputable def FRs (as : List Addr) : List (Nat × AV) → List DictEntry → Prop
  | [], [] => True
  | p :: r, e :: es => (∃ x t, attrNames[p.1]? = some x ∧ e.key = .str x t ∧ VR as p.2 e.val) ∧ FRs as r es
  | _, _ => False
theorem FRs.mono {as as' : List Addr} (h : as <+: as') : ∀ {fs : List (Nat × AV)} {es : List DictEntry}, FRs as fs es → FRs as' fs es
  | [], [], _ => trivial
  | _ :: _, _ :: _, ⟨⟨x, t, a, b, c⟩, d⟩ => ⟨⟨x, t, a, b, c.mono h⟩, d.mono h⟩
  | [], _ :: _, r => r.elim
  | _ :: _, [], r => r.elim
theorem attr_inj {i j : Nat} {x : Str} (hi : attrNames[i]? = some x) (hj : attrNames[j]? = some x) : i = j := by
  obtain ⟨h1, e1⟩ := List.getElem?_eq_some_iff.mp hi
  obtain ⟨h2, e2⟩ := List.getElem?_eq_some_iff.mp hj
  exact (List.getElem_inj attrNames_nodup).mp (e1.trans e2.symm)
theorem FRs.get {as : List Addr} {n : Nat} {x : Str} (hx : attrNames[n]? = some x) : ∀ {fs : List (Nat × AV)} {es : List DictEntry}, FRs as fs es → getf fs n ≠ .unb →
    ∃ v, getL x es = some (some v) ∧ VR as (getf fs n) v
  | [], _, _, h => absurd rfl h
  | p :: r, e :: es, ⟨⟨y, t, a, b, c⟩, d⟩, h => by
    have e1 : getf (p :: r) n = match Nat.beq p.1 n with | true => p.2 | false => getf r n := rfl
    unfold getL
    rw [List.find?_cons]
    cases q : Nat.beq p.1 n with
    | true =>
      rw [e1, q]
      have := Nat.eq_of_beq_eq_true q
      subst this
      have : y = x := Option.some.inj (a.symm.trans hx)
      subst this
      have k : e.key.isStr y = true := by rw [b]; exact beq_self_eq_true y
      rw [k]
      exact ⟨e.val, rfl, c⟩
    | false =>
      rw [e1, q] at h ⊢
      have ne := Nat.ne_of_beq_eq_false q
      have k : e.key.isStr x = false := by
        rw [b]
        show (y == x) = false
        rw [beq_eq_false_iff_ne]
        intro e2
        subst e2
        exact ne (attr_inj a hx)
      rw [k]
      dsimp only
      obtain ⟨v, g, r'⟩ := FRs.get hx d h
      refine ⟨v, ?_, r'⟩
      unfold getL at g
      cases z : List.find? (fun e => e.key.isStr x) es with
      | some e' => rw [z] at g; exact g
      | none =>
        rw [z] at g
        dsimp only at g
        split at g <;> cases g
  | _ :: _, [], r, _ => r.elim
theorem FRs.noRef {as : List Addr} : ∀ {fs : List (Nat × AV)} {es : List DictEntry}, FRs as fs es → es.any (·.refKey) = false
  | [], [], _ => rfl
  | _ :: _, e :: es, ⟨⟨x, t, _, b, _⟩, d⟩ => by rw [List.any_cons, d.noRef]; simp [DictEntry.refKey, b]
  | [], _ :: _, r => r.elim
  | _ :: _, [], r => r.elim
theorem FRs.look {as : List Addr} {fs : List (Nat × AV)} {es : List DictEntry} (h : FRs as fs es) (x : Str) : (getL x es).isSome = true := by
  unfold getL
  cases z : List.find? (fun e => e.key.isStr x) es with
  | some e' => rfl
  | none => simp only [h.noRef]; rfl
theorem FRs.put {as : List Addr} {n : Nat} {x : Str} (hx : attrNames[n]? = some x) {y : AV} {w : Value} (hy : VR as y w) (hs : Int) (tk : Tok) : ∀ {fs : List (Nat × AV)} {es : List DictEntry}, FRs as fs es → FRs as (setf fs n y) (putL x hs (.str x tk) w es)
  | [], [], _ => ⟨⟨x, tk, hx, rfl, hy⟩, trivial⟩
  | p :: r, e :: es, ⟨⟨z, t, a, b, c⟩, d⟩ => by
    have e1 : setf (p :: r) n y = match Nat.beq p.1 n with | true => (n, y) :: r | false => p :: setf r n y := rfl
    rw [e1]
    unfold putL
    cases q : Nat.beq p.1 n with
    | true =>
      have := Nat.eq_of_beq_eq_true q
      subst this
      have : z = x := Option.some.inj (a.symm.trans hx)
      subst this
      have k : e.key.isStr z = true := by rw [b]; exact beq_self_eq_true z
      rw [k, if_pos rfl]
      exact ⟨⟨z, t, a, b, hy⟩, d⟩
    | false =>
      have ne := Nat.ne_of_beq_eq_false q
      have k : e.key.isStr x = false := by
        rw [b]
        show (z == x) = false
        rw [beq_eq_false_iff_ne]
        intro e2
        subst e2
        exact ne (attr_inj a hx)
      rw [k, if_neg (by decide)]
      exact ⟨⟨z, t, a, b, c⟩, d.put hx hy hs tk⟩
  | [], _ :: _, r => r.elim
  | _ :: _, [], r => r.elim
theorem FRs.length {as : List Addr} : ∀ {fs : List (Nat × AV)} {es : List DictEntry}, FRs as fs es → fs.length = es.length
  | [], [], _ => rfl
  | _ :: _, _ :: _, ⟨_, b⟩ => congrArg Nat.succ b.length
  | [], _ :: _, r => r.elim
  | _ :: _, [], r => r.elim

noncomputable abbrev tupOf (l : List Value) : Obj := { cls := .type "tuple", data := .seq l.toArray }
section
variable (c : Nat → Int) (cls : Nat → Addr)
noncomputable def OR (as : List Addr) (h : Heap) (i : Nat) : AO → Prop
  | .list vs => ∃ a l k, as[i]? = some a ∧ h.get? a = some (listOf (List.toArray l) k) ∧ VRs as vs l
  | .tup vs => ∃ a l, as[i]? = some a ∧ h.get? a = some (tupOf l) ∧ VRs as vs l
  | .inst k fs => ∃ a d es n, as[i]? = some a ∧ as[i + 1]? = some d ∧ h.get? a = some (instObj (cls k) d) ∧ h.get? d = some (dictOf es n) ∧ FRs as fs es
  | .dict n es => ∃ a f, as[i]? = some a ∧ h.IntMap a f ∧ h.DictLe a n ∧ ∀ k, getd es k ≠ .unb → ∃ v, f k = some v ∧ VR as (getd es k) v
  | .range x y z => ∃ a t u v, as[i]? = some a ∧ IsRange h a x y z t u v
  | .cell v => ∃ a ov, as[i]? = some a ∧ h.IsCell a ov ∧ (v ≠ .unb → ∃ w, ov = some w ∧ VR as v w)
  | .cells => ∃ a l k, as[i]? = some a ∧ h.get? a = some (listOf (List.toArray l) k) ∧ ∀ j < 3, ∃ t, l[j]? = some (Value.int (c j) t)
/-- the places of an object at i -/
noncomputable def isInst : AO → Bool
  | .inst .. => true
  | _ => false
structure HR (B : Heap) (as : List Addr) (σ : St) (h : Heap) : Prop where
  len : as.length = σ.n
  nd : as.Nodup
  new : ∀ a ∈ as, B.get? a = none
  keep : ∀ b o, B.get? b = some o → h.get? b = some o
  alive : ∀ a ∈ as, ∃ o, h.get? a = some o
  bnd : ∀ i o, σ.h.get i = some o → i < σ.n
  lim : σ.n ≤ 4002
  aux : ∀ i o, σ.h.get i = some o → isInst o = true → i + 1 < σ.n ∧ σ.h.get (i + 1) = none
  obj : ∀ i o, σ.h.get i = some o → OR c cls as h i o
end
/-- from a heap to a later one: `as` grows by places that did not live; but for `as` and `X` all stands -/
structure Step (X : List Addr) (as : List Addr) (h : Heap) (as' : List Addr) (h' : Heap) : Prop where
  pre : as <+: as'
  fr : ∀ a ∈ as', a ∈ as ∨ h.get? a = none
  keep : ∀ b o, h.get? b = some o → b ∉ as → b ∉ X → h'.get? b = some o
  live : ∀ b o, h.get? b = some o → ∃ o', h'.get? b = some o'
theorem Step.refl (X as : List Addr) (h : Heap) : Step X as h as h := ⟨List.prefix_refl _, fun _ hm => .inl hm, fun _ _ e _ _ => e, fun _ o e => ⟨o, e⟩⟩
theorem Step.trans {X as as' as'' : List Addr} {h h' h'' : Heap} (x : Step X as h as' h') (y : Step X as' h' as'' h'') : Step X as h as'' h'' := by
  refine ⟨x.pre.trans y.pre, fun a hm => ?_, fun b o e hb hbL => ?_, fun b o e => ?_⟩
  · rcases y.fr a hm with h1 | h1
    · exact x.fr a h1
    · cases q : h.get? a with
      | none => exact .inr rfl
      | some o =>
        obtain ⟨o', e'⟩ := x.live a o q
        rw [e'] at h1; cases h1
  · by_cases hb' : b ∈ as'
    · rcases x.fr b hb' with h1 | h1
      · exact absurd h1 hb
      · rw [h1] at e; cases e
    · exact y.keep b o (x.keep b o e hb hbL) hb' hbL
  · obtain ⟨o', e'⟩ := x.live b o e
    exact y.live b o' e'
theorem Step.wide {X Y as as' : List Addr} {h h' : Heap} (x : Step X as h as' h') (s : ∀ a ∈ X, a ∈ Y) : Step Y as h as' h' :=
  ⟨x.pre, x.fr, fun b o e h1 h2 => x.keep b o e h1 fun m => h2 (s b m), x.live⟩
/-- what is not alive at the start need not be named -/
theorem Step.drop {X Y as as' : List Addr} {h h' : Heap} (x : Step Y as h as' h') (s : ∀ a ∈ Y, a ∈ X ∨ h.get? a = none) : Step X as h as' h' :=
  ⟨x.pre, x.fr, fun b o e h1 h2 => x.keep b o e h1 fun m => (s b m).elim h2 fun z => (by rw [z] at e; cases e), x.live⟩
theorem Step.notin {X as as' : List Addr} {h h' : Heap} {L : Addr} {o : Obj} (x : Step X as h as' h') (hL : h.get? L = some o) (hn : L ∉ as) : L ∉ as' :=
  fun m => (x.fr L m).elim hn fun z => by rw [z] at hL; cases hL
theorem Step.ofKeep {X as : List Addr} {h h' : Heap} (k : ∀ b o, h.get? b = some o → h'.get? b = some o) : Step X as h as h' :=
  ⟨List.prefix_refl _, fun _ hm => .inl hm, fun b o e _ _ => k b o e, fun b o e => ⟨o, k b o e⟩⟩
theorem fresh_none (h : Heap) : h.get? h.objs.size = none := by
  cases e : h.get? h.objs.size with
  | none => rfl
  | some o => exact absurd (Heap.lt_size e) (Nat.lt_irrefl _)
theorem Step.alloc {X as : List Addr} {h h' : Heap} {ad : Addr} (kp : ∀ b o, h.get? b = some o → h'.get? b = some o) (hnew : h.get? ad = none) : Step X as h (as ++ [ad]) h' :=
  ⟨List.prefix_append _ _, fun a hm => (List.mem_append.mp hm).elim .inl fun z => .inr (by rw [List.mem_singleton.mp z]; exact hnew), fun b o e _ _ => kp b o e, fun b o' e => ⟨o', kp b o' e⟩⟩
theorem Step.allocX {X as : List Addr} {h h' : Heap} {ad : Addr} (kp : ∀ b o, h.get? b = some o → b ∉ X → h'.get? b = some o) (hX : ∀ b ∈ X, ∃ o, h'.get? b = some o) (hnew : h.get? ad = none) : Step X as h (as ++ [ad]) h' :=
  ⟨List.prefix_append _ _, fun a hm => (List.mem_append.mp hm).elim .inl fun z => .inr (by rw [List.mem_singleton.mp z]; exact hnew), fun b o e _ h2 => kp b o e h2, fun b o' e => by
    by_cases q : b ∈ X
    · exact hX b q
    · exact ⟨o', kp b o' e q⟩⟩
theorem Step.turn {X as : List Addr} {h h' : Heap} {a : Addr} {o : Obj} (hs : ∀ b o, h.get? b = some o → b ≠ a → b ∉ X → h'.get? b = some o) (ha : a ∈ as) (hl : h'.get? a = some o) (hX : ∀ b ∈ X, ∃ o, h'.get? b = some o) : Step X as h as h' :=
  ⟨List.prefix_refl _, fun _ hm => .inl hm, fun b o' e h1 h2 => hs b o' e (fun q => h1 (q ▸ ha)) h2,
    fun b o' e => by
      by_cases q : b = a
      · subst q; exact ⟨o, hl⟩
      · by_cases q2 : b ∈ X
        · exact hX b q2
        · exact ⟨o', hs b o' e q q2⟩⟩
theorem Step.push {X as : List Addr} {h : Heap} (o : Obj) : Step X as h (as ++ [h.objs.size]) (h.push o) :=
  ⟨List.prefix_append _ _, fun a hm => (List.mem_append.mp hm).elim .inl fun z => .inr (by rw [List.mem_singleton.mp z]; exact fresh_none h),
    fun _ _ e _ _ => Heap.get?_push_of_some _ e, fun _ o' e => ⟨o', Heap.get?_push_of_some _ e⟩⟩
theorem Step.same {X as : List Addr} {h h' : Heap} {a : Addr} {o : Obj} (hs : Heap.SameBut a h h') (ha : a ∈ as ∨ a ∈ X) (hl : h'.get? a = some o) : Step X as h as h' :=
  ⟨List.prefix_refl _, fun _ hm => .inl hm, fun b o' e h1 h2 => (hs.2 b fun q => by subst q; exact ha.elim h1 h2).trans e,
    fun b o' e => by
      by_cases q : b = a
      · subst q; exact ⟨o, hl⟩
      · exact ⟨o', (hs.2 b q).trans e⟩⟩

section
variable {c : Nat → Int} {cls : Nat → Addr}
theorem get_mono {as as' : List Addr} (h : as <+: as') {n : Nat} {a : Addr} (e : as[n]? = some a) : as'[n]? = some a := by
  obtain ⟨t, rfl⟩ := h
  rw [List.getElem?_append_left (List.getElem?_eq_some_iff.mp e).1]
  exact e
/-- an object stands as long as its one or two places do -/
theorem OR.keeps {as as' : List Addr} {h h' : Heap} {i : Nat} {o : AO} (hp : as <+: as') (r : OR c cls as h i o)
    (k : ∀ j a ob, (j = i ∨ isInst o = true ∧ j = i + 1) → as[j]? = some a → h.get? a = some ob → h'.get? a = some ob) : OR c cls as' h' i o := by
  cases o with
  | list vs => obtain ⟨a, l, n, e, g, v⟩ := r; exact ⟨a, l, n, get_mono hp e, k i a _ (.inl rfl) e g, v.mono hp⟩
  | tup vs => obtain ⟨a, l, e, g, v⟩ := r; exact ⟨a, l, get_mono hp e, k i a _ (.inl rfl) e g, v.mono hp⟩
  | inst q fs => obtain ⟨a, d, es, n, e, e2, g, g2, v⟩ := r; exact ⟨a, d, es, n, get_mono hp e, get_mono hp e2, k i a _ (.inl rfl) e g, k _ d _ (.inr ⟨rfl, rfl⟩) e2 g2, v.mono hp⟩
  | dict n es =>
    obtain ⟨a, f, e, m, le, v⟩ := r
    obtain ⟨o, es', ep, ho, r2⟩ := id m
    have ho' := k i a _ (.inl rfl) e ho
    refine ⟨a, f, get_mono hp e, ⟨o, es', ep, ho', r2⟩, le.of_same ho ho', fun q hq => ?_⟩
    obtain ⟨w, h1, h2⟩ := v q hq
    exact ⟨w, h1, h2.mono hp⟩
  | range x y z => obtain ⟨a, t, u, v, e, g⟩ := r; exact ⟨a, t, u, v, get_mono hp e, k i a _ (.inl rfl) e g⟩
  | cell v =>
    obtain ⟨a, ov, e, ⟨ob, g, gd⟩, w⟩ := r
    refine ⟨a, ov, get_mono hp e, ⟨ob, k i a _ (.inl rfl) e g, gd⟩, fun hv => ?_⟩
    obtain ⟨w', h1, h2⟩ := w hv
    exact ⟨w', h1, h2.mono hp⟩
  | cells => obtain ⟨a, l, n, e, g, v⟩ := r; exact ⟨a, l, n, get_mono hp e, k i a _ (.inl rfl) e g, v⟩
theorem HR.at {B : Heap} {as : List Addr} {σ : St} {h : Heap} (R : HR c cls B as σ h) {i : Nat} (hi : i < σ.n) : ∃ a, as[i]? = some a ∧ a ∈ as := by
  have h1 : i < as.length := R.len ▸ hi
  exact ⟨as[i], List.getElem?_eq_getElem h1, List.getElem_mem h1⟩
/-- nothing of ours is touched -/
theorem HR.other {B : Heap} {as : List Addr} {σ : St} {h h' : Heap} (R : HR c cls B as σ h) (k : ∀ b o, h.get? b = some o → (b ∈ as ∨ (∃ q, B.get? b = some q)) → h'.get? b = some o) : HR c cls B as σ h' where
  len := R.len
  nd := R.nd
  new := R.new
  keep := fun b o e => k b o (R.keep b o e) (.inr ⟨o, e⟩)
  alive := fun a ha => (R.alive a ha).imp fun o e => k a o e (.inl ha)
  bnd := R.bnd
  lim := R.lim
  aux := R.aux
  obj := fun i o e => (R.obj i o e).keeps (List.prefix_refl _) fun _ a ob _ ea g => k a ob g (.inl (List.mem_of_getElem? ea))
theorem HR.keepAll {B : Heap} {as : List Addr} {σ : St} {h h' : Heap} (R : HR c cls B as σ h) (k : ∀ b o, h.get? b = some o → h'.get? b = some o) : HR c cls B as σ h' :=
  R.other fun b o e _ => k b o e
theorem HR.loc {B : Heap} {as : List Addr} {σ : St} {h h' : Heap} {L : Addr} (R : HR c cls B as σ h) (hs : Heap.SameBut L h h') (hL : L ∉ as) (hB : B.get? L = none) : HR c cls B as σ h' :=
  R.other fun b o e hb => (hs.2 b fun q => by
    subst q
    rcases hb with hb | ⟨q, hq⟩
    · exact hL hb
    · rw [hB] at hq; cases hq).trans e
/-- a new object -/
theorem HR.alloc {B : Heap} {as : List Addr} {σ : St} {h h' : Heap} {o : AO} {ad : Addr} (R : HR c cls B as σ h) (hn : σ.n ≤ 4000) (hi : isInst o = false) (kp : ∀ b o, (b ∈ as ∨ ∃ q, B.get? b = some q) → h.get? b = some o → h'.get? b = some o)
    (hnew : h.get? ad = none) (hal : ∃ ob, h'.get? ad = some ob) (hr : OR c cls (as ++ [ad]) h' σ.n o) : HR c cls B (as ++ [ad]) ⟨σ.h.put σ.n o, σ.n + 1⟩ h' := by
  have old : ∀ a ∈ as, a ≠ ad := fun a ha e => by
    obtain ⟨o', g⟩ := R.alive a ha
    rw [e, hnew] at g; cases g
  refine ⟨by rw [List.length_append, R.len]; rfl, ?_, ?_, fun b o' e => kp b o' (.inr ⟨o', e⟩) (R.keep b o' e), ?_, ?_, ?_, ?_, ?_⟩
  · rw [List.nodup_append]
    exact ⟨R.nd, by simp, fun a ha b hb => by rw [List.mem_singleton.mp hb]; exact old a ha⟩
  · intro a ha
    rcases List.mem_append.mp ha with ha | ha
    · exact R.new a ha
    · rw [List.mem_singleton.mp ha]
      cases q : B.get? ad with
      | none => rfl
      | some o' => have := R.keep _ _ q; rw [hnew] at this; cases this
  · intro a ha
    rcases List.mem_append.mp ha with ha | ha
    · exact (R.alive a ha).imp fun o' e => kp a o' (.inl ha) e
    · rw [List.mem_singleton.mp ha]; exact hal
  · intro i o' e
    rw [H.put_get _ _ _ _ (by omega)] at e
    split at e
    · rename_i h1; rw [h1]; exact Nat.lt_succ_self _
    · exact Nat.lt_succ_of_lt (R.bnd i o' e)
  · show σ.n + 1 ≤ 4002; omega
  · intro i o' e hio
    rw [H.put_get _ _ _ _ (by omega)] at e ⊢
    split at e
    · cases e; rw [hi] at hio; cases hio
    · have := R.aux i o' e hio
      refine ⟨Nat.lt_succ_of_lt this.1, ?_⟩
      have ne : i + 1 ≠ σ.n := Nat.ne_of_lt this.1
      rw [if_neg ne]; exact this.2
  · intro i o' e
    rw [H.put_get _ _ _ _ (by omega)] at e
    split at e
    · rename_i h1; cases e; rw [h1]; exact hr
    · exact (R.obj i o' e).keeps (List.prefix_append _ _) fun _ a ob' _ ea g => kp a ob' (.inl (List.mem_of_getElem? ea)) g
theorem HR.place {B : Heap} {as : List Addr} {σ : St} {h : Heap} (R : HR c cls B as σ h) (ad : Addr) : (as ++ [ad])[σ.n]? = some ad := by rw [← R.len]; simp
/-- a new object of a class: two places -/
theorem HR.allocI {B : Heap} {as : List Addr} {σ : St} {h : Heap} {k : Nat} (R : HR c cls B as σ h) (hn : σ.n ≤ 4000) :
    HR c cls B (as ++ [h.objs.size + 1, h.objs.size]) ⟨σ.h.put σ.n (.inst k []), σ.n + 2⟩ ((h.push emptyDict).push (instObj (cls k) h.objs.size)) ∧
    ∀ X, Step X as h (as ++ [h.objs.size + 1, h.objs.size]) ((h.push emptyDict).push (instObj (cls k) h.objs.size)) := by
  have kp : ∀ b o', h.get? b = some o' → ((h.push emptyDict).push (instObj (cls k) h.objs.size)).get? b = some o' := fun b o' e => Heap.get?_push_of_some _ (Heap.get?_push_of_some _ e)
  have old : ∀ a ∈ as, a < h.objs.size := fun a ha => by
    obtain ⟨o', g⟩ := R.alive a ha
    exact Heap.lt_size g
  have gd : ((h.push emptyDict).push (instObj (cls k) h.objs.size)).get? h.objs.size = some emptyDict := Heap.get?_push_of_some _ (Heap.get?_push_size _ rfl)
  have gx : ((h.push emptyDict).push (instObj (cls k) h.objs.size)).get? (h.objs.size + 1) = some (instObj (cls k) h.objs.size) := by
    have := Heap.get?_push_size (h.push emptyDict) (o := instObj (cls k) h.objs.size) rfl
    rwa [Heap.size_push] at this
  have none1 : ∀ a, h.objs.size ≤ a → h.get? a = none := fun a ha => by
    cases e : h.get? a with
    | none => rfl
    | some o => exact absurd (Heap.lt_size e) (Nat.not_lt.mpr ha)
  have noneB : ∀ a, h.objs.size ≤ a → B.get? a = none := fun a ha => by
    cases q : B.get? a with
    | none => rfl
    | some o' => have := R.keep _ _ q; rw [none1 a ha] at this; cases this
  refine ⟨⟨by rw [List.length_append, R.len]; rfl, ?_, ?_, fun b o' e => kp b o' (R.keep b o' e), ?_, ?_, ?_, ?_, ?_⟩, fun X => ⟨List.prefix_append _ _, fun a hm => (List.mem_append.mp hm).elim .inl fun z => .inr ?_, fun b o e _ _ => kp b o e, fun b o e => ⟨o, kp b o e⟩⟩⟩
  · rw [List.nodup_append]
    refine ⟨R.nd, by simp, fun a ha b hb => ?_⟩
    have h1 := old a ha
    simp only [List.mem_cons, List.not_mem_nil, or_false] at hb
    rcases hb with rfl | rfl
    · exact Nat.ne_of_lt (Nat.lt_succ_of_lt h1)
    · exact Nat.ne_of_lt h1
  · intro a ha
    rcases List.mem_append.mp ha with ha | ha
    · exact R.new a ha
    · simp only [List.mem_cons, List.not_mem_nil, or_false] at ha
      rcases ha with rfl | rfl
      · exact noneB _ (Nat.le_succ _)
      · exact noneB _ (Nat.le_refl _)
  · intro a ha
    rcases List.mem_append.mp ha with ha | ha
    · exact (R.alive a ha).imp fun o' e => kp a o' e
    · simp only [List.mem_cons, List.not_mem_nil, or_false] at ha
      rcases ha with rfl | rfl
      · exact ⟨_, gx⟩
      · exact ⟨_, gd⟩
  · intro i o' e
    rw [H.put_get _ _ _ _ (by omega)] at e
    split at e
    · rename_i h1; rw [h1]; show σ.n < σ.n + 2; omega
    · have := R.bnd i o' e; show i < σ.n + 2; omega
  · show σ.n + 2 ≤ 4002; omega
  · intro i o' e hio
    rw [H.put_get _ _ _ _ (by omega)] at e ⊢
    split at e
    · rename_i h1
      subst h1
      refine ⟨by show σ.n + 1 < σ.n + 2; omega, ?_⟩
      rw [if_neg (by omega)]
      cases q : σ.h.get (σ.n + 1) with
      | none => rfl
      | some o2 => have := R.bnd _ _ q; omega
    · have := R.aux i o' e hio
      refine ⟨by show i + 1 < σ.n + 2; omega, ?_⟩
      have ne : i + 1 ≠ σ.n := Nat.ne_of_lt this.1
      rw [if_neg ne]; exact this.2
  · intro i o' e
    rw [H.put_get _ _ _ _ (by omega)] at e
    split at e
    · rename_i h1
      cases e
      subst h1
      refine ⟨h.objs.size + 1, h.objs.size, [], 0, ?_, ?_, gx, gd, trivial⟩
      · rw [← R.len]; simp
      · rw [← R.len]; simp
    · exact (R.obj i o' e).keeps (List.prefix_append _ _) fun _ a ob' _ _ g => kp a ob' g
  · simp only [List.mem_cons, List.not_mem_nil, or_false] at z
    rcases z with rfl | rfl
    · exact none1 _ (Nat.le_succ _)
    · exact none1 _ (Nat.le_refl _)
/-- an object turned: one place (its own, or an object's second) -/
theorem HR.upd {B : Heap} {as : List Addr} {σ : St} {h h' : Heap} {i : Nat} {o o' : AO} {a : Addr} (R : HR c cls B as σ h) (ho : σ.h.get i = some o) (hk : isInst o' = isInst o)
    (j : Nat) (hj : j = i ∨ isInst o = true ∧ j = i + 1) (ha : as[j]? = some a) (hs : ∀ b o, b ≠ a → (b ∈ as ∨ ∃ q, B.get? b = some q) → h.get? b = some o → h'.get? b = some o) (hr : OR c cls as h' i o') :
    HR c cls B as ⟨σ.h.put i o', σ.n⟩ h' ∧ ∃ ob', h'.get? a = some ob' := by
  have hi := R.bnd i o ho
  have lim := R.lim
  have ham : a ∈ as := List.mem_of_getElem? ha
  have gl : ∃ ob', h'.get? a = some ob' := by
    rcases hj with rfl | ⟨h1, rfl⟩
    · cases o' with
      | list vs => obtain ⟨b, l, n, e, g, v⟩ := hr; cases ha.symm.trans e; exact ⟨_, g⟩
      | tup vs => obtain ⟨b, l, e, g, v⟩ := hr; cases ha.symm.trans e; exact ⟨_, g⟩
      | inst q fs => obtain ⟨b, d, es, n, e, e2, g, g2, v⟩ := hr; cases ha.symm.trans e; exact ⟨_, g⟩
      | dict n es => obtain ⟨b, f, e, ⟨o, _, _, g, _⟩, _⟩ := hr; cases ha.symm.trans e; exact ⟨_, g⟩
      | range x y z => obtain ⟨b, t, u, v, e, g⟩ := hr; cases ha.symm.trans e; exact ⟨_, g⟩
      | cell v => obtain ⟨b, ov, e, ⟨ob, g, _⟩, _⟩ := hr; cases ha.symm.trans e; exact ⟨_, g⟩
      | cells => obtain ⟨b, l, n, e, g, v⟩ := hr; cases ha.symm.trans e; exact ⟨_, g⟩
    · rw [← hk] at h1
      cases o' with
      | inst q fs => obtain ⟨b, d, es, n, e, e2, g, g2, v⟩ := hr; cases ha.symm.trans e2; exact ⟨_, g2⟩
      | _ => cases h1
  refine ⟨⟨R.len, R.nd, R.new, fun b o2 e => hs b o2 (fun q => ?_) (.inr ⟨o2, e⟩) (R.keep b o2 e), fun b hb => ?_, ?_, R.lim, ?_, ?_⟩, gl⟩
  · subst q; rw [R.new _ ham] at e; cases e
  · by_cases q : b = a
    · subst q; exact gl
    · obtain ⟨o2, e⟩ := R.alive b hb
      exact ⟨o2, hs b o2 q (.inl hb) e⟩
  · intro k o2 e
    rw [H.put_get _ _ _ _ (by omega)] at e
    split at e
    · rename_i h1; rw [h1]; exact hi
    · exact R.bnd k o2 e
  · intro k o2 e hio
    rw [H.put_get _ _ _ _ (by omega)] at e ⊢
    split at e
    · rename_i h1
      cases e
      subst h1
      have := R.aux _ o ho (hk ▸ hio)
      refine ⟨this.1, ?_⟩
      rw [if_neg (by omega)]; exact this.2
    · have := R.aux k o2 e hio
      refine ⟨this.1, ?_⟩
      by_cases ne : k + 1 = i
      · rw [ne, ho] at this; exact absurd this.2 (by simp)
      · rw [if_neg ne]; exact this.2
  · intro k o2 e
    rw [H.put_get _ _ _ _ (by omega)] at e
    split at e
    · rename_i h1; cases e; rw [h1]; exact hr
    · rename_i hki
      refine (R.obj k o2 e).keeps (List.prefix_refl _) fun q b ob hq eb g => hs b ob (fun ea => ?_) (.inl (List.mem_of_getElem? eb)) g
      subst ea
      have qj : q = j := by
        obtain ⟨q1, q2⟩ := List.getElem?_eq_some_iff.mp eb
        obtain ⟨j1, j2⟩ := List.getElem?_eq_some_iff.mp ha
        exact (List.getElem_inj R.nd).mp (q2.trans j2.symm)
      subst qj
      rcases hq with rfl | ⟨z1, z2⟩
      · rcases hj with h1 | ⟨h1, h2⟩
        · exact hki h1
        · have := R.aux i o ho h1
          rw [← h2, e] at this; exact absurd this.2 (by simp)
      · have ax := R.aux k o2 e z1
        rcases hj with h1 | ⟨h1, h2⟩
        · rw [← z2, h1, ho] at ax; exact absurd ax.2 (by simp)
        · omega
end
end Mine

end
section
open PySem PySem.W PyProof.Rows PySem.Calls
namespace Mine
theorem lookup_zip : ∀ {ps : List Str} {vs : List Value} {i : Nat} {x : Str} {v : Value}, ps.Nodup → ps[i]? = some x → vs[i]? = some v → (ps.zip vs).lookup x = some v
  | [], _, i, _, _, _, h, _ => by simp at h
  | _ :: _, [], i, _, _, _, _, h => by simp at h
  | p :: ps, w :: vs, 0, x, v, _, h, h' => by
    simp only [List.getElem?_cons_zero, Option.some.injEq] at h h'
    subst h; subst h'
    simp [List.zip_cons_cons, List.lookup_cons]
  | p :: ps, w :: vs, i + 1, x, v, nd, h, h' => by
    simp only [List.getElem?_cons_succ] at h h'
    have nd' := List.nodup_cons.mp nd
    have ne : x ≠ p := fun e => nd'.1 (e ▸ List.mem_of_getElem? h)
    rw [List.zip_cons_cons, List.lookup_cons]
    have : (x == p) = false := beq_eq_false_iff_ne.mpr ne
    rw [this]
    exact lookup_zip nd'.2 h h'
theorem filterMap_zip (slots : List (Str × Value)) : ∀ (ps : List Str) (vs : List Value), vs.length = ps.length → (∀ (i : Nat) (x : Str) (v : Value), ps[i]? = some x → vs[i]? = some v → slots.lookup x = some v) →
    ps.filterMap (fun n => (slots.lookup n).map (n, ·)) = ps.zip vs
  | [], _, _, _ => by simp
  | p :: ps, [], h, _ => by simp at h
  | p :: ps, v :: vs, h, k => by
    have h0 := k 0 p v rfl rfl
    rw [List.filterMap_cons, h0, List.zip_cons_cons]
    simp only [Option.map_some]
    rw [filterMap_zip slots ps vs (by simpa using h) fun i x w e1 e2 => k (i + 1) x w (by simpa using e1) (by simpa using e2)]
theorem bind_plain {fd : FuncData} {ps : List Str} {vals : List Value} (h1 : fd.params.posonlyargs = []) (h2 : fd.params.args.map (·.arg) = ps) (h3 : fd.params.vararg = none) (h4 : fd.params.kwonlyargs = [])
    (h5 : fd.params.kwarg = none) (h6 : fd.defaults = .none) (nd : ps.Nodup) (hl : vals.length = ps.length) : bindArgs fd ⟨vals, []⟩ = pure (ps.zip vals) := by
  have hs : seqItems? fd.defaults = pure none := by rw [h6]; rfl
  have key : ∀ (i : Nat) (x : Str) (v : Value), ps[i]? = some x → vals[i]? = some v → (ps.zip vals).lookup x = some v := fun i x v e1 e2 => lookup_zip nd e1 e2
  have hf := filterMap_zip (ps.zip vals) ps vals hl key
  have hm : (ps.filter fun n => ((ps.zip vals).lookup n).isNone) = [] := by
    rw [List.filter_eq_nil_iff]
    intro x hx
    obtain ⟨i, hi, e⟩ := List.getElem_of_mem hx
    have e1 : ps[i]? = some x := by rw [List.getElem?_eq_getElem hi, e]
    have hv : i < vals.length := by omega
    rw [key i x vals[i] e1 (List.getElem?_eq_getElem hv)]
    simp
  unfold bindArgs
  simp only [h1, h2, h3, h4, h5, List.map_nil, List.nil_append, hs, pure_bind, Option.getD_none, hl]
  simp [hm, hf]
theorem scope_lookup : ∀ {sc : List (Str × NameKind)} {i : Nat} {x : Str} {k : NameKind}, (sc.map (·.1)).Nodup → sc[i]? = some (x, k) → sc.lookup x = some k
  | [], i, _, _, _, h => by simp at h
  | p :: sc, 0, x, k, _, h => by
    simp only [List.getElem?_cons_zero, Option.some.injEq] at h
    subst h
    simp [List.lookup_cons]
  | p :: sc, i + 1, x, k, nd, h => by
    simp only [List.getElem?_cons_succ] at h
    rw [List.map_cons] at nd
    have nd' := List.nodup_cons.mp nd
    have hx : x ∈ sc.map (·.1) := List.mem_map.mpr ⟨(x, k), List.mem_of_getElem? h, rfl⟩
    have ne : (x == p.1) = false := beq_eq_false_iff_ne.mpr fun e => nd'.1 (e ▸ hx)
    obtain ⟨p1, p2⟩ := p
    rw [List.lookup_cons]
    rw [ne]
    exact scope_lookup nd'.2 h
end Mine

end
section
open PySem PySem.W PyProof.Rows PySem.Calls
namespace Mine
/-! which term of ours stands for which of the text's -/
noncomputable abbrev Sc := List (Str × NameKind)
noncomputable abbrev Cl := List (Str × Nat)
noncomputable def gis : List (Str × Int) := [(Str.ofString "PROMOTION", (1)), (Str.ofString "KNIGHT", (2)), (Str.ofString "NO_KIND", (0)), (Str.ofString "BISHOP", (3)), (Str.ofString "ROOK", (4)), (Str.ofString "QUEEN", (5)), (Str.ofString "PAWN", (1)), (Str.ofString "KING", (6)), (Str.ofString "NO_MATE", (-1)), (Str.ofString "OUTSIDE", (-1)), (Str.ofString "STRONG_MOVES", (0)), (Str.ofString "WHITE", (0)), (Str.ofString "WEAK_MOVES", (1)), (Str.ofString "NOT_A_PLACE", (-2)), (Str.ofString "EMPTY", (0)), (Str.ofString "BLACK", (1)), (Str.ofString "NO_WING", (1)), (Str.ofString "RIGHT_LOST", (2)), (Str.ofString "NOT_FREE", (3)), (Str.ofString "IN_CHECK", (4)), (Str.ofString "PASSES_ATTACK", (5)), (Str.ofString "GOAL_ATTACKED", (6)), (Str.ofString "MAY", (0)), (Str.ofString "CASTLING", (3)), (Str.ofString "NORMAL", (0)), (Str.ofString "CAPTURES", (0)), (Str.ofString "QUIETS", (1)), (Str.ofString "EN_PASSANT", (2)), (Str.ofString "EVASIONS", (3)), (Str.ofString "NON_EVASIONS", (2))]
noncomputable def gfun : List (Str × Nat) := [(Str.ofString "inner_squares", 12), (Str.ofString "is_growing", 10), (Str.ofString "add_masks", 11), (Str.ofString "add_rays", 13), (Str.ofString "add_pawns", 14), (Str.ofString "add_knights", 15), (Str.ofString "add_castles", 16), (Str.ofString "ray_attacks", 18), (Str.ofString "rook_attacks", 19), (Str.ofString "bishop_attacks", 20), (Str.ofString "queen_attacks", 21), (Str.ofString "slider_attacks", 22), (Str.ofString "piece_attacks", 23), (Str.ofString "index_of", 25), (Str.ofString "weak_moves", 28), (Str.ofString "strong_moves", 29), (Str.ofString "mark_places", 27), (Str.ofString "parts_of", 26), (Str.ofString "moves_at", 30), (Str.ofString "solve", 24), (Str.ofString "probe", 32), (Str.ofString "best_move", 33), (Str.ofString "highest", 36), (Str.ofString "direction", 39), (Str.ofString "line", 41), (Str.ofString "kind_of", 3), (Str.ofString "side_of", 2), (Str.ofString "lowest", 37), (Str.ofString "pawn_attackers", 52), (Str.ofString "straight_sliders", 50), (Str.ofString "slanting_sliders", 51), (Str.ofString "step_attackers", 53), (Str.ofString "line_attackers", 54), (Str.ofString "attackers_to", 55), (Str.ofString "king_square", 49), (Str.ofString "checkers_of", 57), (Str.ofString "is_attacked", 56), (Str.ofString "in_check_of", 59), (Str.ofString "snipers_of", 61), (Str.ofString "squares_of", 38), (Str.ofString "between", 40), (Str.ofString "more_than_one", 35), (Str.ofString "blockers", 62), (Str.ofString "occupied", 47), (Str.ofString "squares_within", 64), (Str.ofString "castle_refusal", 65), (Str.ofString "pack_move", 4), (Str.ofString "pieces", 48), (Str.ofString "add_goals", 67), (Str.ofString "shift_push", 73), (Str.ofString "start_mask", 71), (Str.ofString "push_step", 70), (Str.ofString "push_targets", 75), (Str.ofString "last_mask", 72), (Str.ofString "add_promotions", 76), (Str.ofString "shift_capture", 74), (Str.ofString "add_plain_pushes", 77), (Str.ofString "add_push_promotions", 78), (Str.ofString "add_pawn_captures", 79), (Str.ofString "passed_pawn_square", 83), (Str.ofString "evasion_targets", 82), (Str.ofString "checkers", 58), (Str.ofString "add_pawn_moves", 80), (Str.ofString "may_answer_en_passant", 84), (Str.ofString "add_en_passant", 81), (Str.ofString "add_piece_moves", 68), (Str.ofString "move_to", 6), (Str.ofString "move_special", 7), (Str.ofString "taken_square_legality", 86), (Str.ofString "move_from", 5), (Str.ofString "is_safe_en_passant", 87), (Str.ofString "aligned", 42), (Str.ofString "add_evasions", 85), (Str.ofString "stage_target", 69), (Str.ofString "add_castling", 66), (Str.ofString "in_check", 60), (Str.ofString "generate", 89), (Str.ofString "pinned_pieces", 63), (Str.ofString "is_legal", 88), (Str.ofString "keep_legal", 91), (Str.ofString "pseudo_moves", 90), (Str.ofString "has_legal_move", 93), (Str.ofString "moved_piece", 95), (Str.ofString "rook_step", 97), (Str.ofString "taken_square_makemove", 96), (Str.ofString "clear_ep_key", 100), (Str.ofString "take_piece", 45), (Str.ofString "put_piece", 44), (Str.ofString "make_piece", 1), (Str.ofString "move_promo", 8), (Str.ofString "shift_piece", 46), (Str.ofString "set_ep_key", 101), (Str.ofString "passed_square", 98), (Str.ofString "set_rights_key", 102), (Str.ofString "kept_rights", 99), (Str.ofString "make_geometry", 17), (Str.ofString "build_zone", 31), (Str.ofString "_law_board", 105), (Str.ofString "mate_line", 34), (Str.ofString "legal_moves", 92), (Str.ofString "do_move", 103), (Str.ofString "is_checkmate", 94)]
noncomputable def gcls : List (Str × Nat) := [(Str.ofString "Geometry", 9), (Str.ofString "Position", 43), (Str.ofString "Zobrist", 104)]
noncomputable def gtup : List Str := [Str.ofString "STEP_FILES", Str.ofString "STEP_RANKS"]

noncomputable def opOf : Op → Operator
  | .add => .Add | .sub => .Sub | .mul => .Mult | .fdv => .FloorDiv | .md => .Mod | .shl => .LShift | .shr => .RShift | .bor => .BitOr | .bxor => .BitXor | .band => .BitAnd
noncomputable def cmOf : Cm → CmpOp
  | .eq => .Eq | .ne => .NotEq | .lt => .Lt | .le => .LtE | .gt => .Gt | .ge => .GtE
noncomputable def noCall : Expr → Bool
  | .Call .. => false
  | _ => true
noncomputable def isCall : Expr → Bool
  | .Call .. => true
  | _ => false
noncomputable def noSlice : Expr → Bool
  | .Slice .. => false
  | _ => true
noncomputable def noComp : Expr → Bool
  | .ListComp .. | .SetComp .. | .DictComp .. => false
  | _ => true
noncomputable def noTup : Expr → Bool
  | .Tuple .. => false
  | _ => true
/-- not an expression that a test takes apart, nor a starred one -/
noncomputable def noSet : Expr → Bool
  | .Set .. => false
  | _ => true
noncomputable def plainTest : Expr → Bool
  | .UnaryOp .Not _ _ | .BoolOp .. | .IfExp .. | .Compare .. => false
  | _ => true
/-- a comprehension's names as they stand inside: what the def keeps in a cell is a cell there too -/
noncomputable def relab (cl : Cl) (sc : Sc) : Sc := sc.map fun n => if n.2 == .free && (cl.lookup n.1).isSome then (n.1, .cell) else n
structure CompOk (sc : Sc) (cl : Cl) (scope : Scope) : Prop where
  free : ∀ p ∈ scope.names, p.2 = .free → sc.lookup p.1 = some .cell ∧ (cl.lookup p.1).isSome = true
  kind : scope.kind = .function
  nd : (scope.names.map (·.1)).Nodup
  nodbg : ∀ p ∈ scope.names, (p.1 == ("__debug__" : Str)) = false
  nocell : ∀ p ∈ scope.names, p.2 ≠ .cell
mutual
inductive RE : Sc → Cl → Expr → T → Prop where
  | loc {sc cl x p} {i : Nat} : sc[i]? = some (x, .local) → RE sc cl (.Name x p) (.l (.loc i))
  | cel {sc cl x p} {j q k : Nat} : sc[j]? = some (x, .cell) → cl[q]? = some (x, k) → RE sc cl (.Name x p) (.l (.cel j k))
  | int {sc cl z kk p} : RE sc cl (.Constant (.int z) kk p) (.l (.int z))
  | bool {sc cl b kk p} : RE sc cl (.Constant (.bool b) kk p) (.l (.bool b))
  | non {sc cl kk p} : RE sc cl (.Constant .none kk p) (.l .non)
  | gint {sc cl x p} {j q : Nat} {z} : sc[j]? = some (x, .globalImplicit) → gis[q]? = some (x, z) → RE sc cl (.Name x p) (.l (.gint j z))
  | neg {sc cl a t p} : RE sc cl a t → RE sc cl (.UnaryOp .USub a p) (.u .neg t)
  | inv {sc cl a t p} : RE sc cl a t → RE sc cl (.UnaryOp .Invert a p) (.u .inv t)
  | not {sc cl a t p} : RE sc cl a t → RE sc cl (.UnaryOp .Not a p) (.u .not t)
  | op2 {sc cl a b s t o p} : RE sc cl a s → RE sc cl b t → RE sc cl (.BinOp a (opOf o) b p) (.b (.op2 o) s t)
  | cmp {sc cl a b s t o p} : RE sc cl a s → RE sc cl b t → RE sc cl (.Compare a [cmOf o] [b] p) (.b (.cmp o) s t)
  | isN {sc cl a s kk p p2} : RE sc cl a s → RE sc cl (.Compare a [.Is] [.Constant .none kk p2] p) (.u .isN s)
  | isNN {sc cl a s kk p p2} : RE sc cl a s → RE sc cl (.Compare a [.IsNot] [.Constant .none kk p2] p) (.u .isNN s)
  | bo {sc cl o e e2 es t p} : RO sc cl o (e :: e2 :: es) t → RE sc cl (.BoolOp o (e :: e2 :: es) p) t
  | ite {sc cl c a b tc ta tb p} : RE sc cl c tc → RE sc cl a ta → RE sc cl b tb → RE sc cl (.IfExp c a b p) (.t .ite tc ta tb)
  | item {sc cl a i s t p} : noSlice i = true → RE sc cl a s → RE sc cl i t → RE sc cl (.Subscript a i p) (.b .item s t)
  | gitem {sc cl x} {j k : Nat} {i t p p1} : noSlice i = true → sc[j]? = some (x, .globalImplicit) → gtup[k]? = some x → RE sc cl i t → RE sc cl (.Subscript (.Name x p1) i p) (.u (.gitem j k) t)
  | pick {sc cl x} {i j : Nat} {kk e t p p1 p2 p3} : sc[i]? = some (x, .local) → RE sc cl e t → RE sc cl (.BinOp (.Subscript (.Name x p1) (.Constant (.int (Int.ofNat j)) kk p2) p3) .Mod e p) (.u (.pick i j) t)
  | attr {sc cl a x} {n : Nat} {s p} : noCall a = true → attrNames[n]? = some x → RE sc cl a s → RE sc cl (.Attribute a x p) (.u (.attr n) s)
  | list {sc cl es t p} : RL sc cl es t → RE sc cl (.List es p) (.u .list t)
  | tup {sc cl es t kk p} : RL sc cl es t → RE sc cl (.Tuple es kk p) (.u .tup t)
  | dict1 {sc cl k v s t p} : RE sc cl k s → RE sc cl v t → RE sc cl (.Dict [some k] [v] p) (.b .dict1 s t)
  | len {sc cl} {j : Nat} {a s p p1} : sc[j]? = some ((Str.ofString "len"), .globalImplicit) → RE sc cl a s → RE sc cl (.Call (.Name "len" p1) [a] [] p) (.u (.len j) s)
  | range {sc cl} {j : Nat} {es t p p1} : sc[j]? = some ((Str.ofString "range"), .globalImplicit) → RL sc cl es t → RE sc cl (.Call (.Name "range" p1) es [] p) (.u (.range j) t)
  | call {sc cl x} {j q f : Nat} {es t p p1} : sc[j]? = some (x, .globalImplicit) → gfun[q]? = some (x, f) → RL sc cl es t → RE sc cl (.Call (.Name x p1) es [] p) (.u (.call j f) t)
  | new {sc cl x} {j q k : Nat} {es t p p1} : sc[j]? = some (x, .globalImplicit) → gcls[q]? = some (x, k) → RL sc cl es t → RE sc cl (.Call (.Name x p1) es [] p) (.u (.new j k) t)
inductive RL : Sc → Cl → List Expr → T → Prop where
  | nil {sc cl} : RL sc cl [] (.l .nil)
  | cons {sc cl e es s t} : RE sc cl e s → RL sc cl es t → RL sc cl (e :: es) (.b .cons s t)
inductive RO : Sc → Cl → BoolOp → List Expr → T → Prop where
  | one {sc cl o e t} : RE sc cl e t → RO sc cl o [e] t
  | and {sc cl e e2 es s t} : RE sc cl e s → RO sc cl .And (e2 :: es) t → RO sc cl .And (e :: e2 :: es) (.b .and s t)
  | or {sc cl e e2 es s t} : RE sc cl e s → RO sc cl .Or (e2 :: es) t → RO sc cl .Or (e :: e2 :: es) (.b .or s t)
end
inductive RN : Sc → List Expr → List Nat → Prop where
  | nil {sc} : RN sc [] []
  | cons {sc x p} {i : Nat} {es is} : sc[i]? = some (x, .local) → RN sc es is → RN sc (.Name x p :: es) (i :: is)
mutual
inductive RS : Sc → Cl → Stmt → T → Prop where
  | asg {sc cl x p p2} {i : Nat} {e t} : sc[i]? = some (x, .local) → noComp e = true → RE sc cl e t → RS sc cl (.Assign [.Name x p] e p2) (.u (.asg i) t)
  | asgC {sc cl x p p2} {j q k : Nat} {e t} : sc[j]? = some (x, .cell) → cl[q]? = some (x, k) → noComp e = true → RE sc cl e t → RS sc cl (.Assign [.Name x p] e p2) (.u (.asgC j k) t)
  | asgT {sc cl es is kk p p2 e t} : RN sc es is → noComp e = true → noTup e = true → RE sc cl e t → RS sc cl (.Assign [.Tuple es kk p] e p2) (.u (.asgT is) t)
  | setAttr {sc cl o s x} {n : Nat} {p p2 e t} : attrNames[n]? = some x → noComp e = true → RE sc cl o s → RE sc cl e t → RS sc cl (.Assign [.Attribute o x p] e p2) (.b (.setAttr n) s t)
  | setItem {sc cl o i s t p p2 e u} : noComp e = true → noSlice i = true → RE sc cl o s → RE sc cl i t → RE sc cl e u → RS sc cl (.Assign [.Subscript o i p] e p2) (.t .setItem s t u)
  | augN {sc cl x} {i : Nat} {o e t p p2} : sc[i]? = some (x, .local) → RE sc cl e t → RS sc cl (.AugAssign (.Name x p) (opOf o) e p2) (.u (.augN i o) t)
  | augA {sc cl a s x} {n : Nat} {o e t p p2} : attrNames[n]? = some x → RE sc cl a s → RE sc cl e t → RS sc cl (.AugAssign (.Attribute a x p) (opOf o) e p2) (.b (.augA n o) s t)
  | augI {sc cl a s i u o e t p p2} : noSlice i = true → RE sc cl a s → RE sc cl i u → RE sc cl e t → RS sc cl (.AugAssign (.Subscript a i p) (opOf o) e p2) (.t (.augI o) s u t)
  | app {sc cl a s e t ap cp p} : noCall a = true → (ap.endLine == cp.line) = true → RE sc cl a s → RE sc cl e t → RS sc cl (.Expr (.Call (.Attribute a "append" ap) [e] [] cp) p) (.b .app s t)
  | ex {sc cl e t p} : isCall e = true → RE sc cl e t → RS sc cl (.Expr e p) (.u .ex t)
  | ifs {sc cl e b o t tb to p} : RE sc cl e t → RB sc cl b tb → RB sc cl o to → RS sc cl (.If e b o p) (.t .ifs t tb to)
  | for1 {sc cl x px} {i : Nat} {it t b tb p} : sc[i]? = some (x, .local) → noSet it = true → RE sc cl it t → RB sc cl b tb → RS sc cl (.For (.Name x px) it b [] p) (.b (.for1 i) t tb)
  | forT {sc cl es is kk px it t b tb p} : RN sc es is → noSet it = true → RE sc cl it t → RB sc cl b tb → RS sc cl (.For (.Tuple es kk px) it b [] p) (.b (.forT is) t tb)
  | forC {sc cl x1 x2} {j1 j2 q1 q2 k1 k2 : Nat} {kk px p1 p2 it t b tb p} : sc[j1]? = some (x1, .cell) → sc[j2]? = some (x2, .cell) → cl[q1]? = some (x1, k1) → cl[q2]? = some (x2, k2) → noSet it = true → RE sc cl it t → RB sc cl b tb →
      RS sc cl (.For (.Tuple [.Name x1 p1, .Name x2 p2] kk px) it b [] p) (.b (.forC j1 k1 j2 k2) t tb)
  | while {sc cl e b t tb p} : RE sc cl e t → RB sc cl b tb → RS sc cl (.While e b [] p) (.b .while t tb)
  | ret {sc cl e t p} : RE sc cl e t → RS sc cl (.Return (some e) p) (.u .ret t)
  | ret0 {sc cl p} : RS sc cl (.Return none p) (.l .ret0)
  | cont {sc cl p} : RS sc cl (.Continue p) (.l .cont)
  | fail {sc cl st} : RS sc cl st (.l .fail)
inductive RB : Sc → Cl → List Stmt → T → Prop where
  | done {sc cl} : RB sc cl [] (.l .done)
  | seq {sc cl st r s t} : RS sc cl st s → RB sc cl r t → RB sc cl (st :: r) (.b .seq s t)
  | comp {sc cl y py x px} {i k : Nat} {elt te it ti scope pos p2 r t} : sc[i]? = some (y, .local) → (py.line == pos.line) = true → CompOk sc cl scope → scope.names.any (fun n => n.1 == y && (n.2 == .local || n.2 == .cell)) = false →
      scope.names[k]? = some (x, .local) → noSet it = true → RE (relab cl scope.names) cl elt te → RE sc cl it ti → RB sc cl r t →
      RB sc cl (.Assign [.Name y py] (.ListComp elt [⟨.Name x px, it, [], 0⟩] scope pos) p2 :: r) (.b .seq (.b (.comp i k scope.names.length) te ti) t)
  | compIf {sc cl y py x px} {i k : Nat} {elt te it ti cc tc scope pos p2 r t} : sc[i]? = some (y, .local) → (py.line == pos.line) = true → CompOk sc cl scope → scope.names.any (fun n => n.1 == y && (n.2 == .local || n.2 == .cell)) = false →
      scope.names[k]? = some (x, .local) → noSet it = true → RE (relab cl scope.names) cl elt te → RE sc cl it ti → RE (relab cl scope.names) cl cc tc → RB sc cl r t →
      RB sc cl (.Assign [.Name y py] (.ListComp elt [⟨.Name x px, it, [cc], 0⟩] scope pos) p2 :: r) (.b .seq (.t (.compIf i k scope.names.length) te ti tc) t)
end
end Mine

end
section
open PySem PySem.W PyProof.Rows PySem.Calls
namespace Mine
structure Cx where
  prog : Program
  w : World
  B : Heap
  K : Frag
  c : Nat → Int
  cls : Nat → Addr
  mg : Str → Option Value
  mb : Str → Option Value
  orc : Nat → Int → Option Int
  tbl : Nat → Fn
noncomputable abbrev Cx.M (X : Cx) : Model := model X.prog X.w
noncomputable abbrev Cx.HR (X : Cx) := Mine.HR X.c X.cls X.B
noncomputable abbrev Cx.OR (X : Cx) := Mine.OR X.c X.cls

structure EnvOk (as : List Addr) (env : Env) (sc : Sc) (cl : Cl) (L : Addr) : Prop where
  names : env.scope.names = sc
  kind : env.scope.kind = .function
  loc : env.locals = L
  glob : env.globals = mainGlobals
  blt : env.builtins = builtinsNs
  nd : (sc.map (·.1)).Nodup
  nodbg : ∀ p ∈ sc, (p.1 == ("__debug__" : Str)) = false
  cells : ∀ (q : Nat) (x : Str) (k j : Nat), cl[q]? = some (x, k) → sc[j]? = some (x, .cell) → ∃ a, env.cells.lookup x = some a ∧ as[k]? = some a
theorem EnvOk.mono {as as' : List Addr} {env : Env} {sc : Sc} {cl : Cl} {L : Addr} (e : EnvOk as env sc cl L) (h : as <+: as') : EnvOk as' env sc cl L :=
  { e with cells := fun q x k j hq hj => let ⟨a, h1, h2⟩ := e.cells q x k j hq hj; ⟨a, h1, get_mono h h2⟩ }
theorem EnvOk.kindOf {as : List Addr} {env : Env} {sc : Sc} {cl : Cl} {L : Addr} (e : EnvOk as env sc cl L) {i : Nat} {x : Str} {k : NameKind} (h : sc[i]? = some (x, k)) : env.kindOf x = some k := by
  show env.scope.names.lookup x = some k
  rw [e.names]; exact scope_lookup e.nd h
theorem EnvOk.dbg {as : List Addr} {env : Env} {sc : Sc} {cl : Cl} {L : Addr} (e : EnvOk as env sc cl L) {i : Nat} {x : Str} {k : NameKind} (h : sc[i]? = some (x, k)) : (x == ("__debug__" : Str)) = false :=
  e.nodbg (x, k) (List.mem_of_getElem? h)
theorem EnvOk.noClass {as : List Addr} {env : Env} {sc : Sc} {cl : Cl} {L : Addr} (e : EnvOk as env sc cl L) : (env.scope.kind == .class || (env.scope.kind == .module && env.locals != env.globals)) = false := by rw [e.kind]; rfl
/-- the frame's names hold what our places hold -/
noncomputable def LR (as : List Addr) (sc : Sc) (ρ : List AV) (m : Str → Option Value) : Prop :=
  ∀ (i : Nat) (x : Str), sc[i]? = some (x, .local) → geti ρ i ≠ .unb → ∃ v, m x = some v ∧ VR as (geti ρ i) v
theorem LR.mono {as as' : List Addr} {sc : Sc} {ρ : List AV} {m : Str → Option Value} (r : LR as sc ρ m) (h : as <+: as') : LR as' sc ρ m :=
  fun i x hi hu => let ⟨v, h1, h2⟩ := r i x hi hu; ⟨v, h1, h2.mono h⟩
theorem LR.set {as : List Addr} {sc : Sc} {ρ : List AV} {m : Str → Option Value} {i : Nat} {x : Str} {y : AV} {v : Value} (r : LR as sc ρ m) (nd : (sc.map (·.1)).Nodup) (hx : sc[i]? = some (x, .local)) (hv : VR as y v) :
    LR as sc (seti ρ i y) (fun z => if z = x then some v else m z) := by
  intro j z hj hu
  have key : z = x ↔ j = i := by
    constructor
    · intro e
      subst e
      obtain ⟨h1, e1⟩ := List.getElem?_eq_some_iff.mp hj
      obtain ⟨h2, e2⟩ := List.getElem?_eq_some_iff.mp hx
      have a1 : j < (sc.map (·.1)).length := by simpa using h1
      have a2 : i < (sc.map (·.1)).length := by simpa using h2
      exact (List.getElem_inj (h₀ := a1) (h₁ := a2) nd).mp (by simp [e1, e2])
    · intro e
      subst e
      rw [hx] at hj
      cases hj; rfl
  rw [geti_seti] at hu ⊢
  by_cases e : j = i
  · subst e
    have ez := key.mpr rfl
    subst ez
    by_cases hlt : j < ρ.length
    · rw [if_pos ⟨rfl, hlt⟩]
      exact ⟨v, by simp, hv⟩
    · rw [if_neg (fun h => hlt h.2)] at hu ⊢
      have : ∀ (l : List AV) (k : Nat), ¬ k < l.length → geti l k = .unb := by
        intro l
        induction l with
        | nil => intro k _; exact geti_n k
        | cons a l ih =>
          intro k hk
          cases k with
          | zero => exact absurd (Nat.succ_pos _) hk
          | succ k => rw [geti_s]; exact ih k fun h => hk (Nat.succ_lt_succ h)
      exact absurd (this ρ j hlt) hu
  · rw [if_neg (fun h => e h.1)] at hu ⊢
    obtain ⟨w, h1, h2⟩ := r j z hj hu
    have : z ≠ x := fun h => e (key.mp h)
    exact ⟨w, by simp [this, h1], h2⟩

/-- what is known where a term of ours is begun -/
structure Pre (X : Cx) (n : Nat) (A : Around) (env : Env) (sc : Sc) (cl : Cl) (L : Addr) (as : List Addr) (m : Str → Option Value) (ρ : List AV) (σ : St) (h : Heap) : Prop where
  env : EnvOk as env sc cl L
  hand : A.handled = none
  dep : A.depth + 2 * n < recursionLimit
  uni : A.units + 10 * n + 200 < cLine
  hr : X.HR as σ h
  ns : h.Ns L m
  nin : L ∉ as
  nB : X.B.get? L = none
  up : X.B.objs.size ≤ L
  lr : LR as sc ρ m
theorem Pre.less {X : Cx} {n n' : Nat} {A : Around} {env : Env} {sc : Sc} {cl : Cl} {L : Addr} {as : List Addr} {m : Str → Option Value} {ρ : List AV} {σ : St} {h : Heap} (p : Pre X n A env sc cl L as m ρ σ h) (hn : n' ≤ n) : Pre X n' A env sc cl L as m ρ σ h :=
  { p with dep := by have := p.dep; omega, uni := by have := p.uni; omega }
/-- what is known behind an expression -/
structure PE (X : Cx) (L : Addr) (as : List Addr) (m : Str → Option Value) (h : Heap) (as' : List Addr) (σ' : St) (h' : Heap) : Prop where
  st : Step [L] as h as' h'
  hr : X.HR as' σ' h'
  ns : h'.Ns L m
theorem PE.refl {X : Cx} {n : Nat} {A : Around} {env : Env} {sc : Sc} {cl : Cl} {L : Addr} {as : List Addr} {m : Str → Option Value} {ρ : List AV} {σ : St} {h : Heap} (p : Pre X n A env sc cl L as m ρ σ h) : PE X L as m h as σ h :=
  ⟨.refl _ _ _, p.hr, p.ns⟩
theorem PE.trans {X : Cx} {L : Addr} {as as' as'' : List Addr} {m : Str → Option Value} {h h' h'' : Heap} {σ' σ'' : St} (x : PE X L as m h as' σ' h') (y : PE X L as' m h' as'' σ'' h'') : PE X L as m h as'' σ'' h'' :=
  ⟨x.st.trans y.st, y.hr, y.ns⟩
theorem Ns_live {h : Heap} {L : Addr} {m : Str → Option Value} (n : h.Ns L m) : ∃ o, h.get? L = some o := let ⟨o, _, _, e, _⟩ := n; ⟨o, e⟩
theorem Pre.next {X : Cx} {n : Nat} {A : Around} {env : Env} {sc : Sc} {cl : Cl} {L : Addr} {as as' : List Addr} {m : Str → Option Value} {ρ : List AV} {σ σ' : St} {h h' : Heap} (p : Pre X n A env sc cl L as m ρ σ h)
    (q : PE X L as m h as' σ' h') : Pre X n A env sc cl L as' m ρ σ' h' :=
  { p with
    env := p.env.mono q.st.pre
    hr := q.hr
    ns := q.ns
    nin := by obtain ⟨o, e⟩ := Ns_live p.ns; exact q.st.notin e p.nin
    lr := p.lr.mono q.st.pre }
/-- nothing of the heap but new things and foreign ones has changed -/
theorem PE.keep {X : Cx} {n : Nat} {A : Around} {env : Env} {sc : Sc} {cl : Cl} {L : Addr} {as : List Addr} {m : Str → Option Value} {ρ : List AV} {σ : St} {h h' : Heap} (p : Pre X n A env sc cl L as m ρ σ h)
    (k : ∀ b o, h.get? b = some o → h'.get? b = some o) : PE X L as m h as σ h' := ⟨.ofKeep k, p.hr.keepAll k, p.ns.keeps k⟩
/-- a new object -/
theorem PE.alloc {X : Cx} {n : Nat} {A : Around} {env : Env} {sc : Sc} {cl : Cl} {L : Addr} {as : List Addr} {m : Str → Option Value} {ρ : List AV} {σ : St} {h h' : Heap} {o : AO} {ad : Addr} (p : Pre X n A env sc cl L as m ρ σ h)
    (hn : σ.n ≤ 4000) (hi : isInst o = false) (kp : ∀ b o, h.get? b = some o → h'.get? b = some o) (hnew : h.get? ad = none) (hal : ∃ ob, h'.get? ad = some ob) (hr : X.OR (as ++ [ad]) h' σ.n o) :
    PE X L as m h (as ++ [ad]) ⟨σ.h.put σ.n o, Nat.succ σ.n⟩ h' := ⟨.alloc kp hnew, p.hr.alloc hn hi (fun b o _ e => kp b o e) hnew hal hr, p.ns.keeps kp⟩
theorem PE.allocL {X : Cx} {n : Nat} {A : Around} {env : Env} {sc : Sc} {cl : Cl} {L : Addr} {as : List Addr} {m : Str → Option Value} {ρ : List AV} {σ : St} {h h' : Heap} {o : AO} {ad : Addr} (p : Pre X n A env sc cl L as m ρ σ h)
    (hn : σ.n ≤ 4000) (hi : isInst o = false) (kp : ∀ b o, h.get? b = some o → b ≠ L → h'.get? b = some o) (hns : h'.Ns L m) (hnew : h.get? ad = none) (hal : ∃ ob, h'.get? ad = some ob) (hr : X.OR (as ++ [ad]) h' σ.n o) :
    PE X L as m h (as ++ [ad]) ⟨σ.h.put σ.n o, Nat.succ σ.n⟩ h' :=
  ⟨.allocX (fun b o e h2 => kp b o e fun q => h2 (by simp [q])) (fun b hb => by rw [List.mem_singleton.mp hb]; exact Ns_live hns) hnew,
    p.hr.alloc hn hi (fun b o hb e => kp b o e (by
      rintro rfl
      rcases hb with hb | ⟨z, hz⟩
      · exact p.nin hb
      · rw [p.nB] at hz; cases hz)) hnew hal hr, hns⟩
theorem alloc_inv {o : AO} {s : St} {x : AV} {s' : St} (e : alloc o s = .v x s') : s.n ≤ 4000 ∧ x = .ref s.n ∧ s' = ⟨s.h.put s.n o, Nat.succ s.n⟩ := by
  unfold alloc at e
  cases q : Nat.ble s.n 4000 with
  | true => rw [q] at e; cases e; exact ⟨Nat.le_of_ble_eq_true q, rfl, rfl⟩
  | false => rw [q] at e; cases e
theorem bindV_inv {r : R} {k : AV → St → R} {x : AV} {s : St} (e : bindV r k = .v x s) : ∃ y s1, r = .v y s1 ∧ k y s1 = .v x s := by
  cases r with
  | v y s1 => exact ⟨y, s1, rfl, e⟩
  | bad n => cases e
  | vs _ _ => cases e
  | fl _ _ _ => cases e
theorem bindV_invF {r : R} {k : AV → St → R} {f : Fl} {ρ : List AV} {s : St} (e : bindV r k = .fl f ρ s) : ∃ y s1, r = .v y s1 ∧ k y s1 = .fl f ρ s := by
  cases r with
  | v y s1 => exact ⟨y, s1, rfl, e⟩
  | bad n => cases e
  | vs _ _ => cases e
  | fl _ _ _ => cases e
theorem bindVs_inv {r : R} {k : List AV → St → R} {x : AV} {s : St} (e : bindVs r k = .v x s) : ∃ y s1, r = .vs y s1 ∧ k y s1 = .v x s := by
  cases r with
  | vs y s1 => exact ⟨y, s1, rfl, e⟩
  | bad n => cases e
  | v _ _ => cases e
  | fl _ _ _ => cases e
theorem found_inv {x y : AV} {s s' : St} (e : found x s = .v y s') : x ≠ .unb ∧ y = x ∧ s' = s := by
  cases x with
  | unb => cases e
  | _ => cases e; exact ⟨by simp, rfl, rfl⟩

section
variable {X : Cx} {n : Nat} {A : Around} {env : Env} {sc : Sc} {cl : Cl} {L : Addr} {as : List Addr} {m : Str → Option Value} {ρ : List AV} {σ σ' : St} {s : Shared} {E : Value → Shared → Prop}

theorem Pre.fr {h : Heap} (p : Pre X n A env sc cl L as m ρ σ h) : Fr X.B L h m := ⟨p.ns, p.hr.keep, p.up⟩
/-- all that lives and is not the base's, as a ledger: what it is for is to lend our heap to the library's rules over a ledger -/
theorem ledger (h : Heap) (B : Heap) (L : Addr) : ∃ news, News B L h news ∧ ∀ b o, h.get? b = some o → b ≠ L → B.get? b = none → (b, o) ∈ news := by
  classical
  refine ⟨(List.range h.objs.size).filterMap fun b => match h.get? b with
    | some o => if b ≠ L ∧ B.get? b = none then some (b, o) else none
    | none => none, ?_, ?_⟩
  · intro p hp
    obtain ⟨b, _, e⟩ := List.mem_filterMap.mp hp
    cases q : h.get? b with
    | none => rw [q] at e; cases e
    | some o =>
      rw [q] at e
      dsimp only at e
      split at e
      · rename_i h1; cases e; exact ⟨q, h1.1, h1.2⟩
      · cases e
  · intro b o e h1 h2
    refine List.mem_filterMap.mpr ⟨b, List.mem_range.mpr (Heap.lt_size e), ?_⟩
    rw [e]
    dsimp only
    rw [if_pos ⟨h1, h2⟩]
theorem ledger_keeps {h h' B : Heap} {L : Addr} {news news' : List (Addr × Obj)} {m' : Str → Option Value} (k : ∀ b o, h.get? b = some o → b ≠ L → B.get? b = none → (b, o) ∈ news) (kB : ∀ b o, B.get? b = some o → h.get? b = some o)
    (F : Fr B L h' m') (N : News B L h' news') (hs : ∀ p ∈ news, p ∈ news') : ∀ b o, h.get? b = some o → b ≠ L → h'.get? b = some o := by
  intro b o e hb
  cases q : B.get? b with
  | none => exact (N _ (hs _ (k b o e hb q))).1
  | some o' =>
    have := kB b o' q
    rw [e] at this
    cases this
    exact F.keep b o q

/-! two ints -/
theorem int_op2 {o : Op} {a b r : Int} {t u : Tok} {Q : Value → Shared → Prop} (e : op2 o a b = some r) (h : ∀ t', Q (.int r t') { s with toks := s.toks + 1 }) :
    wpAny X.M A (binaryOp (opOf o) (.int a t) (.int b u)) Q E s := by
  cases o with
  | add => cases e; exact add_int (by rw [← iadd_eq]; exact h _)
  | sub => cases e; exact sub_int' (by rw [← isub_eq]; exact h _)
  | mul => obtain ⟨h1, h2⟩ := imul_is e; exact mul_int (by rw [← h2]; exact h _) h1
  | fdv => obtain ⟨h1, h2, h3⟩ := idiv_is e; exact floordiv_int h1 (by rw [← h3]; exact h _) (.inl h2)
  | md => obtain ⟨h1, h3⟩ := imod_is e; exact mod_int' h1 (by rw [← h3]; exact h _)
  | shl => obtain ⟨h1, h2, h3, h4⟩ := ishl_is e; exact lshift_int_small h1 h2 h3 (by rw [← h4]; exact h _)
  | shr => obtain ⟨h1, h3⟩ := ishr_is e; exact rshift_int h1 (by rw [← h3]; exact h _)
  | bor => have h3 := ior_is e; exact or_int (by rw [← h3]; exact h _)
  | bxor => have h3 := ixor_is e; exact xor_int (by rw [← h3]; exact h _)
  | band => have h3 := iand_is e; exact and_int (by rw [← h3]; exact h _)
theorem int_iop2 {o : Op} {a b r : Int} {t u : Tok} {Q : Value → Shared → Prop} (e : op2 o a b = some r) (h : ∀ t', Q (.int r t') { s with toks := s.toks + 1 }) :
    wpAny X.M A (inplaceOp (opOf o) (.int a t) (.int b u)) Q E s := by
  cases o with
  | add => cases e; exact PyProof.Rows.iadd_int (by rw [← iadd_eq]; exact h _)
  | sub => cases e; exact isub_int (by rw [← isub_eq]; exact h _)
  | mul => obtain ⟨h1, h2⟩ := imul_is e; exact imul_int (by rw [← h2]; exact h _) h1
  | fdv => obtain ⟨h1, h2, h3⟩ := idiv_is e; exact ifloordiv_int h1 (by rw [← h3]; exact h _) (.inl h2)
  | md => obtain ⟨h1, h3⟩ := imod_is e; exact imod_int h1 (by rw [← h3]; exact h _)
  | shl => obtain ⟨h1, h2, h3, h4⟩ := ishl_is e; exact ilshift_int_small h1 h2 h3 (by rw [← h4]; exact h _)
  | shr => obtain ⟨h1, h3⟩ := ishr_is e; exact irshift_int h1 (by rw [← h3]; exact h _)
  | bor => have h3 := ior_is e; exact ior_int (by rw [← h3]; exact h _)
  | bxor => have h3 := ixor_is e; exact ixor_int (by rw [← h3]; exact h _)
  | band => have h3 := iand_is e; exact iand_int (by rw [← h3]; exact h _)
theorem int_cmp {o : Cm} {a b : Int} {t u : Tok} {Q : Value → Shared → Prop} (h : Q (.bool (cmpI o a b)) s) : wpAny X.M A (compareOp (cmOf o) (.int a t) (.int b u)) Q E s := by
  cases o with
  | eq => refine eq_int ?_; have e : cmpI .eq a b = (a == b) := by show ieq a b = _; rw [ieq_iff]; rfl
          rw [← e]; exact h
  | ne => refine ne_int ?_; have e : cmpI .ne a b = (a != b) := by show bnot (ieq a b) = _; rw [bnot_eq, ieq_iff]; rfl
          rw [← e]; exact h
  | lt => refine lt_int ?_; have e : cmpI .lt a b = decide (a < b) := by show bnot (ile b a) = _; rw [bnot_eq, ile_iff]; by_cases q : b ≤ a <;> simp [q] <;> omega
          rw [← e]; exact h
  | le => refine le_int ?_; have e : cmpI .le a b = decide (a ≤ b) := ile_iff a b
          rw [← e]; exact h
  | gt => refine gt_int ?_; have e : cmpI .gt a b = decide (a > b) := by show bnot (ile a b) = _; rw [bnot_eq, ile_iff]; by_cases q : a ≤ b <;> simp [q] <;> omega
          rw [← e]; exact h
  | ge => refine ge_int ?_; have e : cmpI .ge a b = decide (a ≥ b) := by show ile b a = _; rw [ile_iff]
          rw [← e]; exact h
end
end Mine

end
section
open PySem PySem.W PyProof.Rows PySem.Calls
namespace Mine
/-- what is known of a class whose instances we keep -/
structure ClsOk (K : Frag) (C : Addr) : Prop where
  get : findIn K (.ref C) "__getattribute__" = some (some (.builtin "object.__getattribute__"))
  dict : hasDictIn K C = true
  attr : ∀ (n : Nat) (x : Str), attrNames[n]? = some x → findIn K (.ref C) x = some none
  set : findIn K (.ref C) "__setattr__" = some (some (.builtin "object.__setattr__"))
  over : plainOver K C = true
theorem ClsOk.taker {K : Frag} {C : Addr} (c : ClsOk K C) {n : Nat} {x : Str} (h : attrNames[n]? = some x) : takerIn K C x = some none := by
  unfold takerIn
  rw [c.attr n x h]; rfl
theorem VR.handed {as : List Addr} {x : AV} {v : Value} (h : VR as x v) : handedIn v = true := by
  cases x with
  | unb => exact h.elim
  | non => subst h; rfl
  | bool b => subst h; rfl
  | int i => obtain ⟨t, rfl⟩ := h; rfl
  | ref n => obtain ⟨a, _, rfl⟩ := h; rfl
theorem subscripted_plain {slice : Expr} {o i : Value} (h : noSlice slice = true) : subscripted slice false o i = operate [o, i] (getItem o i) := by
  cases slice <;> first | rfl | cases h
theorem putL_length (x : Str) (hs : Int) (k v : Value) : ∀ es : List DictEntry, (putL x hs k v es).length ≤ es.length + 1
  | [] => Nat.le_refl _
  | e :: r => by
    unfold putL
    split
    · exact Nat.le_succ _
    · have := putL_length x hs k v r
      simp only [List.length_cons]; omega
theorem lenF_eq : ∀ l : List (Nat × AV), lenF l = l.length
  | [] => rfl
  | _ :: l => congrArg Nat.succ (lenF_eq l)
theorem setF_fn {a : Nat} {b : Bool} {P : Prop} (h : (match b with | true => P | false => False)) : b = true ∧ P := by cases b with | true => exact ⟨rfl, h⟩ | false => exact h.elim

section
variable {X : Cx} {n : Nat} {A : Around} {env : Env} {sc : Sc} {cl : Cl} {L : Addr} {as : List Addr} {m : Str → Option Value} {ρ : List AV} {σ σ' : St} {s : Shared} {E : Value → Shared → Prop}
theorem ref_obj {h : Heap} (p : Pre X n A env sc cl L as m ρ σ h) {r : Nat} {o : AO} (e : σ.h.get r = some o) : X.OR as h r o := p.hr.obj r o e
theorem VR.addr {r : Nat} {v : Value} (h : VR as (.ref r) v) {a : Addr} (e : as[r]? = some a) : v = .ref a := by
  obtain ⟨b, e2, rfl⟩ := h
  cases e.symm.trans e2; rfl
/-- reading an item, by getItem -/
theorem do_getItem {x y z : AV} {vx vy : Value} {Q : Value → Shared → Prop} (p : Pre X n A env sc cl L as m ρ σ s.heap) (hx : VR as x vx) (hy : VR as y vy) (e : itemOf x y σ = .v z σ')
    (k : ∀ v tk, VR as z v → Q v { s with toks := tk }) : σ' = σ ∧ wpAny X.M A (getItem vx vy) Q E s ∧ ∃ T id, s.TypeIs vx T ∧ typeLookup (.type T) "__getitem__" = pure (some (.builtin id)) := by
  cases x with
  | ref r =>
    unfold itemOf at e
    dsimp only at e
    cases g : σ.h.get r with
    | none => rw [g] at e; cases e
    | some o =>
      rw [g] at e
      dsimp only at e
      have ob := ref_obj p g
      cases o with
      | list vs =>
        dsimp only at e
        obtain ⟨a, l, q, ea, ga, vl⟩ := ob
        have := hx.addr ea
        subst this
        cases y with
        | int i =>
          obtain ⟨t, rfl⟩ := hy
          cases i with
          | negSucc j => cases e
          | ofNat j =>
            unfold atI at e
            dsimp only at e
            cases b : Nat.ble j 1000000 with
            | false => rw [b] at e; cases e
            | true =>
              rw [b] at e
              have hb := Nat.le_of_ble_eq_true b
              obtain ⟨hu, rfl, rfl⟩ := found_inv e
              obtain ⟨v, hv, hr⟩ := vl.geti hu
              refine ⟨rfl, wpAny_getItem_list (x := v) ⟨_, ga, rfl, q, rfl⟩ (by simp only [Int.ofNat_eq_natCast]; omega) (by simp only [Int.ofNat_eq_natCast]; omega) (by simpa using hv) (k v s.toks hr), "list", _, ⟨_, ga, rfl⟩, slot_list_getitem.lookup⟩
        | _ => cases e
      | tup vs =>
        dsimp only at e
        obtain ⟨a, l, ea, ga, vl⟩ := ob
        have := hx.addr ea
        subst this
        cases y with
        | int i =>
          obtain ⟨t, rfl⟩ := hy
          cases i with
          | negSucc j => cases e
          | ofNat j =>
            unfold atI at e
            dsimp only at e
            cases b : Nat.ble j 1000000 with
            | false => rw [b] at e; cases e
            | true =>
              rw [b] at e
              have hb := Nat.le_of_ble_eq_true b
              obtain ⟨hu, rfl, rfl⟩ := found_inv e
              obtain ⟨v, hv, hr⟩ := vl.geti hu
              have hlt := (List.getElem?_eq_some_iff.mp hv).1
              refine ⟨rfl, PyProof.Rows.getItem_tuple (items := l.toArray) (j := j) (x := v) ⟨_, ga, rfl, 0, rfl⟩ (by simp only [Int.ofNat_eq_natCast]; omega) (by simp only [Int.ofNat_eq_natCast]; omega) ?_ (by simpa using hv) (k v s.toks hr), "tuple", _, ⟨_, ga, rfl⟩, PyProof.Rows.slot_tuple_getitem.lookup⟩
              unfold seqIndex?
              simp only [List.size_toArray, Int.ofNat_eq_natCast]
              have h1 : ¬ ((j : Int) < 0) := by omega
              simp [h1, hlt]
        | _ => cases e
      | dict q es =>
        dsimp only at e
        obtain ⟨a, f, ea, mp, _, vl⟩ := ob
        have := hx.addr ea
        subst this
        cases y with
        | int i =>
          obtain ⟨t, rfl⟩ := hy
          obtain ⟨hu, rfl, rfl⟩ := found_inv e
          obtain ⟨v, hv, hr⟩ := vl i hu
          exact ⟨rfl, wpAny_getItem_intMap mp hv (k v _ hr), "dict", _, mp.typeIs, PySem.F.slot_dict_getitem.lookup⟩
        | _ => cases e
      | inst q fs => cases e
      | range a b c => cases e
      | cell v => cases e
      | cells => cases e
  | _ => cases e
theorem do_item {x y z : AV} {vx vy : Value} {value slice : Expr} {Q : Value → Shared → Prop} (p : Pre X n A env sc cl L as m ρ σ s.heap) (hx : VR as x vx) (hy : VR as y vy) (e : itemOf x y σ = .v z σ') (hs : noSlice slice = true)
    (k : ∀ v tk, VR as z v → Q v { s with toks := tk }) : σ' = σ ∧ wpAny X.M A (subscriptTail value slice vx vy) Q E s := by
  obtain ⟨h1, h2, T, id, h3, h4⟩ := do_getItem (E := E) p hx hy e k
  exact ⟨h1, tail_any h3 h4 h2 (subscripted_plain hs)⟩
/-- reading an attribute -/
theorem do_attr {x z : AV} {vx : Value} {q : Nat} {nm : Str} {ex : Bool} {Q : Value → Shared → Prop} (hK : X.K.In X.B) (hC : ∀ k fs i, σ.h.get i = some (.inst k fs) → ClsOk X.K (X.cls k)) (p : Pre X n A env sc cl L as m ρ σ s.heap) (hx : VR as x vx)
    (hn : attrNames[q]? = some nm) (e : attrOf x q σ = .v z σ') (k : ∀ v tk, VR as z v → Q v { s with toks := tk }) : σ' = σ ∧ wpAny X.M A (getAttr vx nm ex) Q E s := by
  cases x with
  | ref r =>
    unfold attrOf at e
    dsimp only at e
    cases g : σ.h.get r with
    | none => rw [g] at e; cases e
    | some o =>
      rw [g] at e
      cases o with
      | inst ci fs =>
        dsimp only at e
        obtain ⟨hu, rfl, rfl⟩ := found_inv e
        obtain ⟨a, d, es, w, ea, ed, ga, gd, fr⟩ := ref_obj p g
        have := hx.addr ea
        subst this
        have C := hC _ _ _ g
        obtain ⟨v, hv, hr⟩ := fr.get hn hu
        refine ⟨rfl, get_value (hK.keeps p.hr.keep) (od := some (dictOf es w)) ⟨ga, rfl, rfl, gd⟩ C.get (findObj_own C.dict (C.attr q nm hn) rfl (by rw [lookIn_dict]; exact hv)) hr.handed (k v _ hr)⟩
      | _ => cases e
  | _ => cases e
/-- storing an attribute -/
theorem do_setA {x y : AV} {vx vy : Value} {q : Nat} {nm : Str} {ρ' : List AV} {f : Fl} {Q : Unit → Shared → Prop} (hK : X.K.In X.B) (hC : ∀ k fs i, σ.h.get i = some (.inst k fs) → ClsOk X.K (X.cls k)) (p : Pre X n A env sc cl L as m ρ σ s.heap) (hx : VR as x vx) (hy : VR as y vy)
    (hn : attrNames[q]? = some nm) (e : setA x q y ρ σ = .fl f ρ' σ') (k : ∀ h' tk, PE X L as m s.heap as σ' h' → Q () { s with heap := h', toks := tk }) : f = .next ∧ ρ' = ρ ∧ wpAny X.M A (setAttr vx nm vy) Q E s := by
  cases x with
  | ref r =>
    unfold setA at e
    dsimp only at e
    cases g : σ.h.get r with
    | none => rw [g] at e; cases e
    | some o =>
      rw [g] at e
      cases o with
      | inst ci fs =>
        dsimp only at e
        cases b : Nat.ble (lenF fs) 100 with
        | false => rw [b] at e; cases e
        | true =>
          rw [b] at e
          have hb := Nat.le_of_ble_eq_true b
          rw [lenF_eq] at hb
          cases e
          obtain ⟨a, d, es, w, ea, ed, ga, gd, fr⟩ := ref_obj p g
          have := hx.addr ea
          subst this
          have C := hC _ _ _ g
          refine ⟨rfl, rfl, ?_⟩
          obtain ⟨news, N, kn⟩ := ledger s.heap X.B L
          have dm : d ∈ as := List.mem_of_getElem? ed
          have dL : d ≠ L := fun q => p.nin (q ▸ dm)
          let post := news.filter fun z => z.1 != d
          have N' : News X.B L s.heap ((d, dictOf es w) :: post) := fun z hz => by
            rcases List.mem_cons.mp hz with rfl | hz
            · exact ⟨gd, dL, p.hr.new _ dm⟩
            · exact N z (List.mem_filter.mp hz).1
          have off : ∀ z ∈ post, z.1 ≠ d := fun z hz => by simpa using (List.mem_filter.mp hz).2
          refine PySem.W.set_dict p.fr hK N' ⟨ga, rfl, rfl, gd⟩ rfl C.set C.over (C.taker hn) C.dict (fr.look nm) rfl (Upd.head off) ?_ fun h' F' N2 => k h' _ ?_
          · have := putL_length nm (PyData.keyHash X.w.params nm) (.str nm (s.toks + 1)) vy es
            have := fr.length
            omega
          · have kp : ∀ b o, s.heap.get? b = some o → b ≠ d → b ≠ L → h'.get? b = some o := fun b o e1 e2 e3 => by
              cases q : X.B.get? b with
              | none => exact (N2 (b, o) (List.mem_cons_of_mem _ (List.mem_filter.mpr ⟨kn b o e1 e3 q, by simpa using e2⟩))).1
              | some o' =>
                have := p.hr.keep b o' q
                rw [e1] at this; cases this
                exact F'.keep b o q
            have gd' := (N2 _ (List.mem_cons_self ..)).1
            have axa : a ≠ d := fun q => by
              subst q
              rw [ga] at gd; cases gd
            have aL : a ≠ L := fun q => p.nin (q ▸ List.mem_of_getElem? ea)
            have U := p.hr.upd g (o' := .inst ci (setf fs q y)) rfl (r + 1) (.inr ⟨rfl, rfl⟩) ed (h' := h') (fun b o e1 e2 e3 => kp b o e3 e1 (by
                rintro rfl
                rcases e2 with e2 | ⟨z, e2⟩
                · exact p.nin e2
                · rw [p.nB] at e2; cases e2)) ⟨a, d, _, _, ea, ed, kp a _ ga axa aL, gd', fr.put hn hy _ _⟩
            exact ⟨.turn (a := d) (fun b o e1 e2 e3 => kp b o e1 e2 fun q => e3 (by simp [q])) dm gd' (fun b hb => by rw [List.mem_singleton.mp hb]; exact Ns_live F'.ns), U.1, F'.ns⟩
      | _ => cases e
  | _ => cases e
end
end Mine

end
section
open PySem PySem.W PyProof.Rows PySem.Calls
namespace Mine
theorem getd_setd (i j : Int) (z : AV) : ∀ es, getd (setd es i z) j = if j = i then z else getd es j
  | [] => by
    show (match ieq i j with | true => z | false => AV.unb) = _
    rw [ieq_iff]
    by_cases h : j = i
    · subst h; simp
    · have : ¬ i = j := fun e => h e.symm
      simp [h, this]; rfl
  | p :: r => by
    have ih := getd_setd i j z r
    have e1 : setd (p :: r) i z = match ieq p.1 i with | true => (i, z) :: r | false => p :: setd r i z := rfl
    have e2 : ∀ (p : Int × AV) r, getd (p :: r) j = match ieq p.1 j with | true => p.2 | false => getd r j := fun _ _ => rfl
    rw [e1, e2, ieq_iff, ieq_iff]
    by_cases h1 : p.1 = i
    · simp only [h1, decide_true]
      rw [e2, ieq_iff]
      by_cases h2 : j = i
      · subst h2; simp
      · have : ¬ i = j := fun e => h2 e.symm
        simp [h2, this]
    · simp only [h1, decide_false]
      rw [e2, ieq_iff, ih]
      by_cases h2 : p.1 = j
      · have : ¬ j = i := fun e => h1 (h2.trans e)
        simp [h2, this]
      · simp [h2]
section
variable {X : Cx} {n : Nat} {A : Around} {env : Env} {sc : Sc} {cl : Cl} {L : Addr} {as : List Addr} {m : Str → Option Value} {ρ : List AV} {σ σ' : St} {s : Shared} {E : Value → Shared → Prop}
/-- an own object turned in its one place -/
theorem PE.turn {h h' : Heap} {r : Nat} {a : Addr} {o o' : AO} (p : Pre X n A env sc cl L as m ρ σ h) (g : σ.h.get r = some o) (hk : isInst o' = isInst o) (ea : as[r]? = some a) (hs : Heap.SameBut a h h') (hr : X.OR as h' r o') :
    PE X L as m h as ⟨σ.h.put r o', σ.n⟩ h' := by
  have am : a ∈ as := List.mem_of_getElem? ea
  have aL : L ≠ a := fun q => p.nin (q ▸ am)
  obtain ⟨U, ob, gl⟩ := p.hr.upd g hk r (.inl rfl) ea (fun b o e1 _ e3 => (hs.2 b e1).trans e3) hr
  exact ⟨.turn (a := a) (fun b o e1 e2 _ => (hs.2 b e2).trans e1) am gl (fun b hb => by rw [List.mem_singleton.mp hb]; exact Ns_live (p.ns.sameBut hs aL)), U, p.ns.sameBut hs aL⟩
theorem do_setI {x y z : AV} {vx vy vz : Value} {ρ' : List AV} {f : Fl} {Q : Unit → Shared → Prop} (p : Pre X n A env sc cl L as m ρ σ s.heap) (hx : VR as x vx) (hy : VR as y vy) (hz : VR as z vz) {ρ0 : List AV}
    (e : setI x y z ρ0 σ = .fl f ρ' σ') (k : ∀ h' tk, PE X L as m s.heap as σ' h' → Q () { s with heap := h', toks := tk }) : f = .next ∧ ρ' = ρ0 ∧ wpAny X.M A (setItem vx vy vz) Q E s := by
  cases x with
  | ref r =>
    unfold setI at e
    dsimp only at e
    cases g : σ.h.get r with
    | none => rw [g] at e; cases e
    | some o =>
      rw [g] at e
      have ob := ref_obj p g
      cases o with
      | list vs =>
        dsimp only at e
        obtain ⟨a, l, q, ea, ga, vl⟩ := ob
        have := hx.addr ea
        subst this
        cases y with
        | int i =>
          obtain ⟨t, rfl⟩ := hy
          cases i with
          | negSucc j => cases e
          | ofNat j =>
            dsimp only at e
            cases b : (Nat.blt j (lenL vs) && Nat.ble j 1000000) with
            | false => rw [b] at e; cases e
            | true =>
              rw [b] at e
              cases e
              rw [Bool.and_eq_true] at b
              have hj : j < vs.length := by have := Nat.le_of_ble_eq_true b.1; rw [lenL_eq] at this; exact this
              have hb := Nat.le_of_ble_eq_true b.2
              have hl := vl.length
              refine ⟨rfl, rfl, ?_⟩
              refine ki_setAt (items := l.toArray) (n := q) ga (by simp only [Int.ofNat_eq_natCast]; omega) (by simp only [Int.ofNat_eq_natCast]; omega) (by simp only [Int.ofNat_eq_natCast, List.size_toArray]; omega) (k _ s.toks ?_)
              have hs := Heap.SameBut.update s.heap a (Obj.mapSeq (·.setIfInBounds (Int.ofNat j).toNat vz))
              refine PE.turn p g rfl ea hs ⟨a, l.set j vz, q, ea, ?_, vl.seti hz⟩
              rw [Heap.get?_update_self _ ga (by rfl)]
              show some (Obj.mapSeq _ _) = _
              unfold Obj.mapSeq
              simp
        | _ => cases e
      | dict q es =>
        dsimp only at e
        obtain ⟨a, w, ea, mp, le, vl⟩ := ob
        have := hx.addr ea
        subst this
        cases y with
        | int i =>
          obtain ⟨t, rfl⟩ := hy
          dsimp only at e
          cases b : Nat.ble q 1000 with
          | false => rw [b] at e; cases e
          | true =>
            rw [b] at e
            cases e
            have hb := Nat.le_of_ble_eq_true b
            refine ⟨rfl, rfl, wpAny_setItem_intMap_le mp le (by rw [sizeLine_eq]; omega) fun h' mp' le' hs => k h' _ (PE.turn p g rfl ea hs ⟨a, _, ea, mp', le', fun j hj => ?_⟩)⟩
            have key := getd_setd i j z es
            rw [key] at hj ⊢
            by_cases h1 : j = i
            · subst h1
              simp only [if_true] at hj ⊢
              exact ⟨vz, rfl, hz⟩
            · simp only [h1, if_false] at hj ⊢
              exact vl j hj
        | _ => cases e
      | tup vs => cases e
      | inst q fs => cases e
      | range a b c => cases e
      | cell v => cases e
      | cells => cases e
  | _ => cases e
/-- append, the call of it -/
theorem do_append {x z : AV} {vx vz : Value} {ρ0 ρ' : List AV} {f : Fl} {Q : Value → Shared → Prop} (p : Pre X n A env sc cl L as m ρ σ s.heap) (hx : VR as x vx) (hz : VR as z vz) (e : appendTo x z ρ0 σ = .fl f ρ' σ') :
    f = .next ∧ ρ' = ρ0 ∧ ∃ D its, vx = .ref D ∧ PlainL s.heap D its ∧ ((∀ h' tk, PE X L as m s.heap as σ' h' → Q .none { s with heap := h', toks := tk }) → wpAny X.M A (call (.builtin "list.append") [.ref D, vz]) Q E s) := by
  cases x with
  | ref r =>
    unfold appendTo at e
    dsimp only at e
    cases g : σ.h.get r with
    | none => rw [g] at e; cases e
    | some o =>
      rw [g] at e
      cases o with
      | list vs =>
        dsimp only at e
        obtain ⟨a, l, q, ea, ga, vl⟩ := ref_obj p g
        have := hx.addr ea
        subst this
        cases b : Nat.ble (lenL vs) 1000 with
        | false => rw [b] at e; cases e
        | true =>
          rw [b] at e
          cases e
          have hb := Nat.le_of_ble_eq_true b
          rw [lenL_eq] at hb
          have hl := vl.length
          refine ⟨rfl, rfl, a, l.toArray, rfl, ⟨_, q, ga, rfl, rfl, rfl⟩, fun k => ?_⟩
          refine append_at ga (fun h' hs g' => k h' s.toks (PE.turn p g rfl ea hs ⟨a, l ++ [vz], q + 1, ea, ?_, ?_⟩)) (by rw [sizeLine_eq, List.size_toArray]; omega)
          · rw [g']; simp
          · rw [cat_eq]; exact vl.append ⟨hz, trivial⟩
      | _ => cases e
  | _ => cases e
/-- a list, so often -/
theorem repl_VRs {xs : List AV} {l : List Value} (v : VRs as xs l) : ∀ n, VRs as (repl xs n) ((List.replicate n l).flatten)
  | 0 => trivial
  | n + 1 => by
    have e : repl xs (n + 1) = cat xs (repl xs n) := rfl
    rw [e, cat_eq, List.replicate_succ, List.flatten_cons]
    exact v.append (repl_VRs v n)
theorem foldl_flat (l : Array Value) : ∀ (n : Nat) (acc : Array Value), (List.foldl (fun x1 x2 => x1 ++ x2) acc (List.replicate n l)) = (acc.toList ++ (List.replicate n l.toList).flatten).toArray
  | 0, acc => by simp
  | n + 1, acc => by
    rw [List.replicate_succ, List.foldl_cons, foldl_flat l n]
    apply Array.toList_inj.mp
    simp [List.replicate_succ]
theorem flatten_length (l : List Value) : ∀ n, ((List.replicate n l).flatten).length = n * l.length
  | 0 => by simp
  | n + 1 => by rw [List.replicate_succ, List.flatten_cons, List.length_append, flatten_length l n, Nat.add_mul]; omega
/-- two values and an operation -/
theorem do_binop {o : Op} {x y z : AV} {vx vy : Value} {Q : Value → Shared → Prop} (p : Pre X n A env sc cl L as m ρ σ s.heap) (hx : VR as x vx) (hy : VR as y vy) (e : binop o x y σ = .v z σ')
    (k : ∀ v h' tk as', PE X L as m s.heap as' σ' h' → VR as' z v → Q v { s with heap := h', toks := tk }) : wpAny X.M A (binaryOp (opOf o) vx vy) Q E s := by
  cases x with
  | int a =>
    obtain ⟨t, rfl⟩ := hx
    cases y with
    | int b =>
      obtain ⟨u, rfl⟩ := hy
      unfold binop at e
      dsimp only at e
      cases q : op2 o a b with
      | none => rw [q] at e; cases e
      | some c =>
        rw [q] at e
        cases e
        exact int_op2 q fun t' => k _ s.heap _ as (.refl p) ⟨t', rfl⟩
    | _ => cases e
  | ref r =>
    cases o with
    | mul =>
      unfold binop at e
      dsimp only at e
      cases g : σ.h.get r with
      | none => rw [g] at e; cases e
      | some o =>
        rw [g] at e
        cases o with
        | list vs =>
          dsimp only at e
          obtain ⟨a, l, q, ea, ga, vl⟩ := ref_obj p g
          have := hx.addr ea
          subst this
          cases y with
          | int b =>
            obtain ⟨u, rfl⟩ := hy
            cases b with
            | negSucc j => cases e
            | ofNat j =>
              have e' : (match Nat.ble j 1000 && Nat.ble (lenL vs) 1000 with | true => alloc (.list (repl vs j)) σ | false => .bad 3) = .v z σ' := e
              cases b : (Nat.ble j 1000 && Nat.ble (lenL vs) 1000) with
              | false => rw [b] at e'; cases e'
              | true =>
                rw [b] at e'
                rw [Bool.and_eq_true] at b
                have hb := Nat.le_of_ble_eq_true b.1
                have hb2 := Nat.le_of_ble_eq_true b.2
                rw [lenL_eq] at hb2
                have hl := vl.length
                obtain ⟨h1, rfl, rfl⟩ := alloc_inv e'
                obtain ⟨news, N, kn⟩ := ledger s.heap X.B L
                have hsz : l.toArray.size * (Int.ofNat j).toNat ≤ 2 ^ 24 := by
                  simp only [List.size_toArray, Int.ofNat_eq_natCast, Int.toNat_natCast]
                  have : l.length * j ≤ 1000 * 1000 := Nat.mul_le_mul (by omega) hb
                  omega
                refine mul_list p.fr N ga (by simp only [Int.ofNat_eq_natCast]; omega) (by simp only [Int.ofNat_eq_natCast]; omega) hsz fun h' F' N' => ?_
                have kp : ∀ b o, s.heap.get? b = some o → b ≠ L → h'.get? b = some o := ledger_keeps kn p.hr.keep F' N' fun z hz => List.mem_cons_of_mem _ hz
                have gn := (N' _ (List.mem_cons_self ..)).1
                refine k _ h' s.toks (as ++ [s.heap.objs.size]) (PE.allocL p h1 rfl kp F'.ns (fresh_none _) ⟨_, gn⟩ ⟨_, (List.replicate j l).flatten, 0, p.hr.place _, ?_, (repl_VRs vl j).mono (List.prefix_append _ _)⟩) ⟨_, p.hr.place _, rfl⟩
                rw [gn, foldl_flat]
                simp only [Int.ofNat_eq_natCast, Int.toNat_natCast, List.nil_append]
                cases l with
                | nil => simp
                | cons v l => simp
          | _ => cases e
        | _ => cases e
    | _ => cases e
  | _ => cases e
end
end Mine

end
section
open PySem PySem.W PyProof.Rows PySem.Calls PySem.SeqAt
namespace Mine
theorem readsI {as : List Addr} {h : Heap} : ∀ {xs : List AV} {vs : List Value} {ns : List Int}, VRs as xs vs → intsOf xs = some ns → IntsAre vs ns := fun v e => v.ints e
theorem reads_tup {h : Heap} {a : Addr} {vs : List Value} {ns : List Int} (hl : h.get? a = some (tupOf vs)) (hi : IntsAre vs ns) : Reads h (.ref a) (.tuple (ns.map PyData.int)) [] :=
  Reads.tuple hl rfl rfl (by simpa using readsAll_of_ints hi)
theorem shaped_tup (ns : List Int) : shaped (.tuple (ns.map PyData.int)) = true := by
  have h1 := W.depthAll_ints ns
  have h2 : PyData.depth (.tuple (ns.map PyData.int)) ≤ 64 := by simp only [PyData.depth]; omega
  show (PyData.canLay0 (.tuple (ns.map PyData.int)) && decide (PyData.depth (.tuple (ns.map PyData.int)) ≤ 64)) = true
  rw [Bool.and_eq_true]
  exact ⟨by simp only [PyData.canLay0]; exact canLayAll0_ints ns, decide_eq_true h2⟩
theorem bnot_not (b : Bool) : bnot b = !b := by cases b <;> rfl
section
variable {X : Cx} {n : Nat} {A : Around} {env : Env} {sc : Sc} {cl : Cl} {L : Addr} {as : List Addr} {m : Str → Option Value} {ρ : List AV} {σ σ' : St} {s : Shared} {E : Value → Shared → Prop}
theorem do_truthy {x : AV} {v : Value} {b : Bool} {Q : Bool → Shared → Prop} (hx : VR as x v) (e : truth x = some b) (k : Q b s) : wpAny X.M A (truthy v) Q E s := by
  cases x with
  | bool c => cases e; cases hx; exact wpAny_truthy_bool k
  | int i =>
    obtain ⟨t, rfl⟩ := hx
    refine PyProof.Rows.truthy_int ?_
    have : bnot (ieq i 0) = (i != 0) := by rw [bnot_not, ieq_iff]; rfl
    cases e
    rw [← this]; exact k
  | _ => cases e
theorem do_cmpop {o : Cm} {x y z : AV} {vx vy : Value} {Q : Value → Shared → Prop} (p : Pre X n A env sc cl L as m ρ σ s.heap) (hx : VR as x vx) (hy : VR as y vy) (e : cmpop o x y σ = .v z σ')
    (k : ∀ b, z = .bool b → Q (.bool b) s) : σ' = σ ∧ (∃ b, z = .bool b) ∧ wpAny X.M A (compareOp (cmOf o) vx vy) Q E s := by
  have hu : A.units + 64 < cLine := by have := p.uni; omega
  cases x with
  | int a =>
    obtain ⟨t, rfl⟩ := hx
    cases y with
    | int b =>
      obtain ⟨u, rfl⟩ := hy
      cases e
      exact ⟨rfl, ⟨_, rfl⟩, int_cmp (k _ rfl)⟩
    | _ => cases e
  | ref r =>
    unfold cmpop at e
    dsimp only at e
    cases q : refEq σ (.ref r) y with
    | none => rw [q] at e; cases e
    | some b =>
      rw [q] at e
      have key : σ' = σ ∧ ((o = .eq ∧ z = .bool b) ∨ (o = .ne ∧ z = .bool (!b))) := by
        cases o with
        | eq => cases e; exact ⟨rfl, .inl ⟨rfl, rfl⟩⟩
        | ne => cases e; exact ⟨rfl, .inr ⟨rfl, by rw [bnot_not]⟩⟩
        | _ => cases e
      have main : ∀ (da db : PyData) (aa bb : List Addr), Reads s.heap vx da aa → Reads s.heap vy db bb → shaped da = true → shaped db = true → noMix da db = true → PySem.Spec.same da db = b →
          wpAny X.M A (compareOp (cmOf o) vx vy) Q E s := by
        intro da db aa bb h1 h2 h3 h4 h5 h6
        rcases key.2 with ⟨rfl, rfl⟩ | ⟨rfl, rfl⟩
        · exact eq_dataH_same h1 h2 h3 h4 hu h5 (by rw [h6]; exact k _ rfl)
        · exact ne_dataH_same h1 h2 h3 h4 hu h5 (by rw [h6]; exact k _ rfl)
      refine ⟨key.1, by rcases key.2 with ⟨_, h⟩ | ⟨_, h⟩ <;> exact ⟨_, h⟩, ?_⟩
      cases y with
      | ref r2 =>
        unfold refEq at q
        dsimp only at q
        cases g : σ.h.get r with
        | none => rw [g] at q; cases q
        | some ob =>
          rw [g] at q
          dsimp only at q
          cases ob with
          | list xs =>
            dsimp only at q
            cases g2 : σ.h.get r2 with
            | none => rw [g2] at q; cases q
            | some ob2 =>
              rw [g2] at q
              cases ob2 with
              | list ys =>
                dsimp only at q
                unfold eqLs at q
                cases i1 : intsOf xs with
                | none => rw [i1] at q; cases q
                | some ns =>
                  cases i2 : intsOf ys with
                  | none => rw [i1, i2] at q; cases q
                  | some ms =>
                    rw [i1, i2] at q
                    obtain ⟨a, l, w, ea, ga, vl⟩ := ref_obj p g
                    obtain ⟨a2, l2, w2, ea2, ga2, vl2⟩ := ref_obj p g2
                    have := hx.addr ea; subst this
                    have := hy.addr ea2; subst this
                    refine main _ _ _ _ (reads_of_ints ⟨_, ga, rfl, w, rfl⟩ (vl.ints i1)) (reads_of_ints ⟨_, ga2, rfl, w2, rfl⟩ (vl2.ints i2)) (shaped_ints ns) (shaped_ints ms) (by simp only [noMix]; exact noMix_ints ns ms) ?_
                    simp only [PySem.Spec.same]
                    rw [same_ints, ← eqIs_eq]
                    exact Option.some.inj q
              | _ => cases q
          | tup xs =>
            dsimp only at q
            cases g2 : σ.h.get r2 with
            | none => rw [g2] at q; cases q
            | some ob2 =>
              rw [g2] at q
              cases ob2 with
              | tup ys =>
                dsimp only at q
                unfold eqLs at q
                cases i1 : intsOf xs with
                | none => rw [i1] at q; cases q
                | some ns =>
                  cases i2 : intsOf ys with
                  | none => rw [i1, i2] at q; cases q
                  | some ms =>
                    rw [i1, i2] at q
                    obtain ⟨a, l, ea, ga, vl⟩ := ref_obj p g
                    obtain ⟨a2, l2, ea2, ga2, vl2⟩ := ref_obj p g2
                    have := hx.addr ea; subst this
                    have := hy.addr ea2; subst this
                    refine main _ _ _ _ (reads_tup ga (vl.ints i1)) (reads_tup ga2 (vl2.ints i2)) (shaped_tup ns) (shaped_tup ms) (by simp only [noMix]; exact noMix_ints ns ms) ?_
                    simp only [PySem.Spec.same]
                    rw [same_ints, ← eqIs_eq]
                    exact Option.some.inj q
              | _ => cases q
          | _ => cases q
      | _ => cases q
  | _ => cases e
theorem do_isN {x : AV} {vx : Value} {Q : Value → Shared → Prop} (hx : VR as x vx) (k : Q (.bool (isNone x)) s) : wpAny X.M A (compareOp .Is vx .none) Q E s := by
  cases x with
  | unb => exact hx.elim
  | non => cases hx; exact wpAny_is_plain (by rfl) k
  | bool b => cases hx; exact wpAny_is_plain (by rfl) k
  | int i => obtain ⟨t, rfl⟩ := hx; exact wpAny_is_plain (by rfl) k
  | ref r => obtain ⟨a, _, rfl⟩ := hx; exact wpAny_is_plain (by rfl) k
theorem do_isNN {x : AV} {vx : Value} {Q : Value → Shared → Prop} (hx : VR as x vx) (k : Q (.bool (bnot (isNone x))) s) : wpAny X.M A (compareOp .IsNot vx .none) Q E s := by
  cases x with
  | unb => exact hx.elim
  | non => cases hx; exact wpAny_isNot_plain (by rfl) k
  | bool b => cases hx; exact wpAny_isNot_plain (by rfl) k
  | int i => obtain ⟨t, rfl⟩ := hx; exact wpAny_isNot_plain (by rfl) k
  | ref r => obtain ⟨a, _, rfl⟩ := hx; exact wpAny_isNot_plain (by rfl) k
/-- sizes -/
theorem do_len {x z : AV} {vx : Value} {Q : Value → Shared → Prop} (p : Pre X n A env sc cl L as m ρ σ s.heap) (hx : VR as x vx) (e : lenOf x σ = .v z σ')
    (k : ∀ v tk, VR as z v → Q v { s with toks := tk }) : σ' = σ ∧ (wpAny X.M A (call (.builtin "len") [vx]) Q E s) := by
  unfold lenOf items at e
  cases x with
  | ref r =>
    dsimp only at e
    cases g : σ.h.get r with
    | none => rw [g] at e; cases e
    | some o =>
      rw [g] at e
      cases o with
      | list vs =>
        dsimp only at e
        cases b : Nat.ble (lenL vs) 1000000 with
        | false => rw [b] at e; cases e
        | true =>
          rw [b] at e
          cases e
          have hb := Nat.le_of_ble_eq_true b
          obtain ⟨a, l, w, ea, ga, vl⟩ := ref_obj p g
          have := hx.addr ea; subst this
          have hl := vl.length
          rw [lenL_eq] at hb
          refine ⟨rfl, call_len_list (items := l.toArray) ⟨_, ga, rfl, w, rfl⟩ (by rw [List.size_toArray]; omega) (k _ _ ⟨s.toks + 1, ?_⟩)⟩
          rw [List.size_toArray, lenL_eq, hl]; rfl
      | tup vs =>
        dsimp only at e
        cases b : Nat.ble (lenL vs) 1000000 with
        | false => rw [b] at e; cases e
        | true =>
          rw [b] at e
          cases e
          have hb := Nat.le_of_ble_eq_true b
          obtain ⟨a, l, ea, ga, vl⟩ := ref_obj p g
          have := hx.addr ea; subst this
          have hl := vl.length
          rw [lenL_eq] at hb
          refine ⟨rfl, PyProof.Rows.len_tuple (items := l.toArray) ⟨_, ga, rfl, 0, rfl⟩ (by rw [List.size_toArray]; omega) (k _ _ ⟨s.toks + 1, ?_⟩)⟩
          rw [List.size_toArray, lenL_eq, hl]; rfl
      | _ => cases e
  | _ => cases e
/-- a new object pushed at the heap's end -/
theorem PE.push {o : AO} {ob : Obj} {h : Heap} (p : Pre X n A env sc cl L as m ρ σ h) (hn : σ.n ≤ 4000) (hi : isInst o = false) (hr : X.OR (as ++ [h.objs.size]) (h.push ob) σ.n o) (hob : ∃ o', (h.push ob).get? h.objs.size = some o') :
    PE X L as m h (as ++ [h.objs.size]) ⟨σ.h.put σ.n o, Nat.succ σ.n⟩ (h.push ob) :=
  .alloc p hn hi (fun _ _ e => Heap.get?_push_of_some _ e) (fresh_none h) hob hr
theorem do_range {xs : List AV} {vs : List Value} {z : AV} {Q : Value → Shared → Prop} (p : Pre X n A env sc cl L as m ρ σ s.heap) (hx : VRs as xs vs) (e : rangeOf xs σ = .v z σ')
    (k : ∀ v h' tk as', PE X L as m s.heap as' σ' h' → VR as' z v → Q v { s with heap := h', toks := tk }) : wpAny X.M A (call (.type "range") vs) Q E s := by
  have key : ∀ (a b c : Int) (t u v : Tok), alloc (.range a b c) σ = .v z σ' → ∀ h' tk, h' = s.heap.push { cls := .type "range", data := .fields #[.int a t, .int b u, .int c v] } → Q (.ref s.heap.objs.size) { s with heap := h', toks := tk } := by
    rintro a b c t u v e h' tk rfl
    obtain ⟨h1, rfl, rfl⟩ := alloc_inv e
    have g := Heap.get?_push_size s.heap (o := { cls := Value.type "range", data := Data.fields #[Value.int a t, Value.int b u, Value.int c v] }) rfl
    exact k _ _ _ (as ++ [s.heap.objs.size]) (.push p h1 rfl ⟨_, t, u, v, p.hr.place _, g⟩ ⟨_, g⟩) ⟨_, p.hr.place _, rfl⟩
  cases xs with
  | nil => cases e
  | cons x xs =>
    cases vs with
    | nil => exact hx.elim
    | cons v vs =>
      obtain ⟨h1, hx⟩ := hx
      cases x with
      | int a =>
        obtain ⟨t, rfl⟩ := h1
        cases xs with
        | nil =>
          cases vs with
          | cons _ _ => exact hx.elim
          | nil => exact call_range_1 (key _ _ _ _ _ _ e _ _ rfl)
        | cons y xs =>
          cases vs with
          | nil => exact hx.elim
          | cons v vs =>
            obtain ⟨h2, hx⟩ := hx
            cases y with
            | int b =>
              obtain ⟨u, rfl⟩ := h2
              cases xs with
              | nil =>
                cases vs with
                | cons _ _ => exact hx.elim
                | nil => exact call_range_2 (key _ _ _ _ _ _ e _ _ rfl)
              | cons y xs =>
                cases vs with
                | nil => exact hx.elim
                | cons v vs =>
                  obtain ⟨h3, hx⟩ := hx
                  cases y with
                  | int c =>
                    obtain ⟨v, rfl⟩ := h3
                    cases xs with
                    | cons _ _ => cases e
                    | nil =>
                      cases vs with
                      | cons _ _ => exact hx.elim
                      | nil =>
                        have e' : (match ieq c (-1) with | true => alloc (.range a b c) σ | false => .bad 64) = .v z σ' := e
                        rw [ieq_iff] at e'
                        by_cases hc : c = -1
                        · subst hc
                          exact call_range_3 (by decide) (key _ _ _ _ _ _ e' _ _ rfl) (.inl (PyProof.noPylong_small (by decide)))
                        · simp only [hc, decide_false] at e'
                          cases e'
                  | _ => cases xs <;> cases e
            | _ => cases xs with
              | nil => cases e
              | cons y xs => cases xs <;> cases e
      | _ => cases xs with
        | nil => cases e
        | cons y xs => cases xs with
          | nil => cases e
          | cons z xs => cases xs <;> cases e
/-- displays -/
theorem do_list {xs : List AV} {vs : List Value} {z : AV} {Q : Value → Shared → Prop} (p : Pre X n A env sc cl L as m ρ σ s.heap) (hx : VRs as xs vs) (e : alloc (.list xs) σ = .v z σ')
    (k : ∀ v h' tk as', PE X L as m s.heap as' σ' h' → VR as' z v → Q v { s with heap := h', toks := tk }) :
    Q (.ref s.heap.objs.size) { s with heap := s.heap.push { cls := .type "list", data := .seq vs.toArray } } := by
  obtain ⟨h1, rfl, rfl⟩ := alloc_inv e
  have g := Heap.get?_push_size s.heap (o := { cls := Value.type "list", data := Data.seq vs.toArray }) rfl
  exact k _ _ s.toks (as ++ [s.heap.objs.size]) (.push p h1 rfl ⟨_, vs, 0, p.hr.place _, g, hx.mono (List.prefix_append _ _)⟩ ⟨_, g⟩) ⟨_, p.hr.place _, rfl⟩
theorem do_tup {xs : List AV} {vs : List Value} {z : AV} {Q : Value → Shared → Prop} (p : Pre X n A env sc cl L as m ρ σ s.heap) (hx : VRs as xs vs) (e : alloc (.tup xs) σ = .v z σ')
    (k : ∀ v h' tk as', PE X L as m s.heap as' σ' h' → VR as' z v → Q v { s with heap := h', toks := tk }) :
    Q (.ref s.heap.objs.size) { s with heap := s.heap.push { cls := .type "tuple", data := .seq vs.toArray } } := by
  obtain ⟨h1, rfl, rfl⟩ := alloc_inv e
  have g := Heap.get?_push_size s.heap (o := { cls := Value.type "tuple", data := Data.seq vs.toArray }) rfl
  exact k _ _ s.toks (as ++ [s.heap.objs.size]) (.push p h1 rfl ⟨_, vs, p.hr.place _, g, hx.mono (List.prefix_append _ _)⟩ ⟨_, g⟩) ⟨_, p.hr.place _, rfl⟩
end
end Mine

end
section
open PySem PySem.W PyProof.Rows PySem.Calls PySem.SeqAt
namespace Mine
section
variable {c : Nat → Int} {cls : Nat → Addr}
theorem HR.allocD {B : Heap} {as : List Addr} {σ : St} {h h' : Heap} {o : AO} {ad : Addr} (R : HR c cls B as σ h) (hn : σ.n ≤ 4000) (hi : isInst o = false) (kp : ∀ b o, b ≠ ad → (b ∈ as ∨ ∃ q, B.get? b = some q) → h.get? b = some o → h'.get? b = some o)
    (hnew : ad ∉ as) (hB : B.get? ad = none) (hal : ∃ ob, h'.get? ad = some ob) (hr : OR c cls (as ++ [ad]) h' σ.n o) : HR c cls B (as ++ [ad]) ⟨σ.h.put σ.n o, σ.n + 1⟩ h' := by
  have old : ∀ a ∈ as, a ≠ ad := fun a ha e => hnew (e ▸ ha)
  have oldB : ∀ a o, B.get? a = some o → a ≠ ad := fun a o ha e => by rw [e, hB] at ha; cases ha
  refine ⟨by rw [List.length_append, R.len]; rfl, ?_, ?_, fun b o' e => kp b o' (oldB b o' e) (.inr ⟨o', e⟩) (R.keep b o' e), ?_, ?_, ?_, ?_, ?_⟩
  · rw [List.nodup_append]
    exact ⟨R.nd, by simp, fun a ha b hb => by rw [List.mem_singleton.mp hb]; exact old a ha⟩
  · intro a ha
    rcases List.mem_append.mp ha with ha | ha
    · exact R.new a ha
    · rw [List.mem_singleton.mp ha]; exact hB
  · intro a ha
    rcases List.mem_append.mp ha with ha | ha
    · exact (R.alive a ha).imp fun o' e => kp a o' (old a ha) (.inl ha) e
    · rw [List.mem_singleton.mp ha]; exact hal
  · intro i o' e
    rw [H.put_get _ _ _ _ (by omega)] at e
    split at e
    · rename_i h1; rw [h1]; exact Nat.lt_succ_self _
    · exact Nat.lt_succ_of_lt (R.bnd i o' e)
  · show σ.n + 1 ≤ 4002; omega
  · intro i o' e hio
    rw [H.put_get _ _ _ _ (by omega)] at e ⊢
    split at e
    · cases e; rw [hi] at hio; cases hio
    · have := R.aux i o' e hio
      refine ⟨Nat.lt_succ_of_lt this.1, ?_⟩
      have ne : i + 1 ≠ σ.n := Nat.ne_of_lt this.1
      rw [if_neg ne]; exact this.2
  · intro i o' e
    rw [H.put_get _ _ _ _ (by omega)] at e
    split at e
    · rename_i h1; cases e; rw [h1]; exact hr
    · exact (R.obj i o' e).keeps (List.prefix_append _ _) fun _ a ob' _ ea g => kp a ob' (old a (List.mem_of_getElem? ea)) (.inl (List.mem_of_getElem? ea)) g
end
section
variable {X : Cx} {n : Nat} {A : Around} {env : Env} {sc : Sc} {cl : Cl} {L : Addr} {as : List Addr} {m : Str → Option Value} {ρ : List AV} {σ σ' : St} {s : Shared} {E : Value → Shared → Prop}
theorem Pre.newB {h : Heap} (p : Pre X n A env sc cl L as m ρ σ h) {ad : Addr} (e : h.get? ad = none) : X.B.get? ad = none := by
  cases q : X.B.get? ad with
  | none => rfl
  | some o => have := p.hr.keep _ _ q; rw [e] at this; cases this
theorem Pre.newIn {h : Heap} (p : Pre X n A env sc cl L as m ρ σ h) {ad : Addr} (e : h.get? ad = none) : ad ∉ as := fun hm => by
  obtain ⟨o, q⟩ := p.hr.alive ad hm
  rw [e] at q; cases q
theorem Pre.newL {h : Heap} (p : Pre X n A env sc cl L as m ρ σ h) {ad : Addr} (e : h.get? ad = none) : ad ≠ L := fun q => by
  obtain ⟨o, g⟩ := Ns_live p.ns
  rw [← q, e] at g; cases g
noncomputable abbrev emptyD : Obj := { cls := .type "dict", data := .dict #[] }
/-- a dict display with one pair -/
theorem do_dict1 {z : Int} {y : AV} {as2 : List Addr} {σ2 : St} {h2 : Heap} {kv vv : Value} {Q : Value → Shared → Prop} {w : AV} (p : Pre X n A env sc cl L as m ρ σ s.heap)
    (q : PE X L as m (s.heap.push emptyD) as2 σ2 h2) (hk : VR as2 (.int z) kv) (hv : VR as2 y vv)
    (e : alloc (.dict 1 [(z, y)]) σ2 = .v w σ') (k : ∀ v h' tk as', PE X L as m s.heap as' σ' h' → VR as' w v → Q v { s with heap := h', toks := tk }) (tk : Tok) :
    ∃ kvs, Carries (intKind X.prog X.w) [(kv, vv)] kvs ∧ h2.DictOf (intKind X.prog X.w) s.heap.objs.size [] ∧
      ∀ h', h'.DictOf (intKind X.prog X.w) s.heap.objs.size (merged [] kvs) → Heap.SameBut s.heap.objs.size h2 h' → Q (.ref s.heap.objs.size) { s with heap := h', toks := tk } := by
  obtain ⟨h1, rfl, rfl⟩ := alloc_inv e
  have fr := fresh_none s.heap
  have g0 := Heap.get?_push_size s.heap (o := emptyD) rfl
  have nin := p.newIn fr
  have g2 := q.st.keep _ _ g0 nin (by simpa using p.newL fr)
  have nin2 : s.heap.objs.size ∉ as2 := q.st.notin g0 nin
  obtain ⟨t, rfl⟩ := hk
  have d2 : h2.DictOf (intKind X.prog X.w) s.heap.objs.size [] := by
    obtain ⟨o, es, ep, ho, r⟩ := Heap.DictOf.new (knd := intKind X.prog X.w) s.heap
    rw [g0] at ho
    cases ho
    exact ⟨_, es, ep, g2, r⟩
  refine ⟨[(z, vv)], ⟨by simp [intKind, Value.isInt], rfl, trivial⟩, d2, fun h' d' hs => ?_⟩
  have kp : ∀ b o, b ≠ s.heap.objs.size → h2.get? b = some o → h'.get? b = some o := fun b o e1 e2 => (hs.2 b e1).trans e2
  have nsL : L ≠ s.heap.objs.size := (p.newL fr).symm
  refine k _ _ _ (as2 ++ [s.heap.objs.size]) ⟨⟨?_, ?_, ?_, ?_⟩, q.hr.allocD h1 rfl (fun b o e1 _ e3 => kp b o e1 e3) nin2 (p.newB fr) ?_ ?_, q.ns.sameBut hs nsL⟩ ⟨_, by rw [← q.hr.len]; simp, rfl⟩
  · exact q.st.pre.trans (List.prefix_append _ _)
  · intro a ha
    rcases List.mem_append.mp ha with ha | ha
    · rcases q.st.fr a ha with h1 | h1
      · exact .inl h1
      · right
        cases z : s.heap.get? a with
        | none => rfl
        | some o => have := Heap.get?_push_of_some emptyD z; rw [h1] at this; cases this
    · right; rw [List.mem_singleton.mp ha]; exact fr
  · intro b o e1 e2 e3
    exact kp b o (fun q => by rw [q, fr] at e1; cases e1) (q.st.keep b o (Heap.get?_push_of_some _ e1) e2 e3)
  · intro b o e1
    obtain ⟨o', e2⟩ := q.st.live b o (Heap.get?_push_of_some _ e1)
    exact ⟨o', kp b o' (fun q => by rw [q, fr] at e1; cases e1) e2⟩
  · obtain ⟨o, _, _, ho, _⟩ := d'; exact ⟨o, ho⟩
  · have mo := d'.mapOf.intMap
    refine ⟨_, _, by rw [← q.hr.len]; simp, mo, ?_, fun j hj => ?_⟩
    · intro o es ep ho hd
      obtain ⟨o', es', ep', ho', hc, hd', hk, hp, hn⟩ := d'
      rw [ho] at ho'; cases ho'
      rw [hd] at hd'; cases hd'
      have := hp.length
      have e1 : es.size = 1 := by simpa [merged, stored] using this
      omega
    · have e1 : getd [(z, y)] j = match ieq z j with | true => y | false => AV.unb := rfl
      rw [e1, ieq_iff] at hj ⊢
      by_cases h3 : z = j
      · subst h3
        simp only [decide_true]
        exact ⟨vv, by simp [merged, stored, valueAt], hv.mono (List.prefix_append _ _)⟩
      · simp [h3] at hj
end
end Mine

end
section
open PySem PySem.W PyProof.Rows PySem.Calls PySem.SeqAt
namespace Mine
/-! the facts of the program's world, and the claims -/
structure PlainFn (fd : FuncData) (ps : List Str) : Prop where
  pos : fd.params.posonlyargs = []
  args : fd.params.args.map (·.arg) = ps
  va : fd.params.vararg = none
  kwo : fd.params.kwonlyargs = []
  kwa : fd.params.kwarg = none
  dflt : fd.defaults = .none
  glob : fd.globals = mainGlobals
  blt : fd.builtins = builtinsNs
  kind : fd.scope.kind = .function
  co : fd.scope.isCoroutine = false
  gen : fd.scope.isGenerator = false
  nd : (fd.scope.names.map (·.1)).Nodup
  nodbg : ∀ p ∈ fd.scope.names, (p.1 == ("__debug__" : Str)) = false
  nocell : ∀ x ∈ fd.scope.names, x.2 ≠ .cell
  take : fd.scope.names.take ps.length = ps.map fun x => (x, .local)
structure FnOk (X : Cx) (a : Addr) (f : Nat) : Prop where
  keep : keepIn X.K (.ref a) = true
  ex : ∃ o fd ps body, X.B.get? a = some o ∧ o.data = .func fd ∧ X.B.CodeRec fd.code fd.qualname ∧ fd.body = .stmts body ∧ PlainFn fd ps ∧ (X.tbl f).p = ps.length ∧ (X.tbl f).n = fd.scope.names.length ∧
    RB fd.scope.names [] body (X.tbl f).body
structure Cx.Ok (X : Cx) : Prop where
  frag : X.K.In X.B
  ns : X.B.Ns mainGlobals X.mg
  bns : X.B.Ns builtinsNs X.mb
  lim : X.B.NoLimit
  cls : ∀ k, ClsOk X.K (X.cls k)
  gi : ∀ (q : Nat) x z, gis[q]? = some (x, z) → ∃ t, X.mg x = some (.int z t)
  gt : ∀ (k : Nat) x, gtup[k]? = some x → ∃ a l, X.mg x = some (.ref a) ∧ X.B.get? a = some (tupOf l) ∧ IntsAre l (gI k)
  fn : ∀ (q : Nat) x f, gfun[q]? = some (x, f) → ∃ a, X.mg x = some (.ref a) ∧ FnOk X a f
  cl : ∀ (q : Nat) x k, gcls[q]? = some (x, k) → X.mg x = some (.ref (X.cls k)) ∧ keepIn X.K (.ref (X.cls k)) = true ∧ makesIn X.K (X.cls k) = true ∧
    ∃ a, findIn X.K (.ref (X.cls k)) "__init__" = some (some (.ref a)) ∧ typeIn X.K (.ref a) = some (.type "function") ∧ FnOk X a k
  len : X.mg (Str.ofString "len") = none ∧ X.mb (Str.ofString "len") = some (.builtin "len")
  range : X.mg (Str.ofString "range") = none ∧ X.mb (Str.ofString "range") = some (.type "range")
  pick : ∀ j n z, X.orc j n = some z → j < 3 ∧ n ≠ 0 ∧ z = (X.c j).fmod n

noncomputable abbrev Post (X : Cx) (L : Addr) (as : List Addr) (m : Str → Option Value) (s : Shared) (x : AV) (σ' : St) (Q : Value → Shared → Prop) : Prop :=
  ∀ v h' tk as', PE X L as m s.heap as' σ' h' → VR as' x v → Q v { s with heap := h', toks := tk }
noncomputable def CE (X : Cx) (n : Nat) : Prop := ∀ {t : T} {A : Around} {env : Env} {sc : Sc} {cl : Cl} {L : Addr} {as : List Addr} {m : Str → Option Value} {ρ : List AV} {σ : St} {s : Shared} {e : Expr} {x : AV} {σ' : St} {Q : Value → Shared → Prop} {E : Value → Shared → Prop},
  RE sc cl e t → Pre X n A env sc cl L as m ρ σ s.heap → ev X.orc X.tbl n t ρ σ = .v x σ' → Post X L as m s x σ' Q → wpAny X.M A (eval e env) Q E s
noncomputable def CT (X : Cx) (n : Nat) : Prop := ∀ {t : T} {A : Around} {env : Env} {sc : Sc} {cl : Cl} {L : Addr} {as : List Addr} {m : Str → Option Value} {ρ : List AV} {σ : St} {s : Shared} {e : Expr} {x : AV} {b : Bool} {σ' : St} {Q : Bool → Shared → Prop} {E : Value → Shared → Prop},
  RE sc cl e t → Pre X n A env sc cl L as m ρ σ s.heap → ev X.orc X.tbl n t ρ σ = .v x σ' → truth x = some b → (∀ h' tk as', PE X L as m s.heap as' σ' h' → Q b { s with heap := h', toks := tk }) → wpAny X.M A (isTrue e env (eval e env)) Q E s
noncomputable def CO (X : Cx) (n : Nat) : Prop := ∀ {t : T} {A : Around} {env : Env} {sc : Sc} {cl : Cl} {L : Addr} {as : List Addr} {m : Str → Option Value} {ρ : List AV} {σ : St} {s : Shared} {o : BoolOp} {es : List Expr} {x : AV} {σ' : St} {Q : Value → Shared → Prop} {E : Value → Shared → Prop} {pos : Pos},
  RO sc cl o es t → Pre X n A env sc cl L as m ρ σ s.heap → ev X.orc X.tbl n t ρ σ = .v x σ' → Post X L as m s x σ' Q → wpAny X.M A (boolOp pos o (evalEach es env)) Q E s
noncomputable def COT (X : Cx) (n : Nat) : Prop := ∀ {t : T} {A : Around} {env : Env} {sc : Sc} {cl : Cl} {L : Addr} {as : List Addr} {m : Str → Option Value} {ρ : List AV} {σ : St} {s : Shared} {o : BoolOp} {es : List Expr} {x : AV} {b : Bool} {σ' : St} {Q : Bool → Shared → Prop} {E : Value → Shared → Prop},
  RO sc cl o es t → Pre X n A env sc cl L as m ρ σ s.heap → ev X.orc X.tbl n t ρ σ = .v x σ' → truth x = some b → (∀ h' tk as', PE X L as m s.heap as' σ' h' → Q b { s with heap := h', toks := tk }) → wpAny X.M A (allTrue o es env) Q E s
noncomputable def CL (X : Cx) (n : Nat) : Prop := ∀ {t : T} {A : Around} {env : Env} {sc : Sc} {cl : Cl} {L : Addr} {as : List Addr} {m : Str → Option Value} {ρ : List AV} {σ : St} {s : Shared} {es : List Expr} {xs : List AV} {σ' : St} {Q : List Value → Shared → Prop} {E : Value → Shared → Prop} {pos : Pos},
  RL sc cl es t → Pre X n A env sc cl L as m ρ σ s.heap → ev X.orc X.tbl n t ρ σ = .vs xs σ' → (∀ vs h' tk as', PE X L as m s.heap as' σ' h' → VRs as' xs vs → Q vs { s with heap := h', toks := tk }) → wpAny X.M A (spliced (backTo pos (starEach es env))) Q E s
/-- behind a statement -/
structure PS (X : Cx) (L : Addr) (as : List Addr) (h : Heap) (as' : List Addr) (σ' : St) (h' : Heap) (sc : Sc) (ρ' : List AV) (m' : Str → Option Value) : Prop where
  st : Step [L] as h as' h'
  hr : X.HR as' σ' h'
  ns : h'.Ns L m'
  lr : LR as' sc ρ' m'
noncomputable def FlR (as : List Addr) : Fl → Flow → Prop
  | .next, fl => fl = .next
  | .cont, fl => fl = .cont
  | .ret x, fl => ∃ v, fl = .ret v ∧ VR as x v
noncomputable abbrev PostS (X : Cx) (L : Addr) (as : List Addr) (s : Shared) (sc : Sc) (f : Fl) (ρ' : List AV) (σ' : St) (Q : Flow → Shared → Prop) : Prop :=
  ∀ fl h' tk as' m', PS X L as s.heap as' σ' h' sc ρ' m' → FlR as' f fl → Q fl { s with heap := h', toks := tk }
noncomputable def CS (X : Cx) (n : Nat) : Prop := ∀ {t : T} {A : Around} {env : Env} {sc : Sc} {cl : Cl} {L : Addr} {as : List Addr} {m : Str → Option Value} {ρ : List AV} {σ : St} {s : Shared} {st : Stmt} {f : Fl} {ρ' : List AV} {σ' : St} {Q : Flow → Shared → Prop} {E : Value → Shared → Prop},
  RS sc cl st t → Pre X n A env sc cl L as m ρ σ s.heap → ev X.orc X.tbl n t ρ σ = .fl f ρ' σ' → PostS X L as s sc f ρ' σ' Q → wpAny X.M A (exec st env) Q E s
noncomputable def CB (X : Cx) (n : Nat) : Prop := ∀ {t : T} {A : Around} {env : Env} {sc : Sc} {cl : Cl} {L : Addr} {as : List Addr} {m : Str → Option Value} {ρ : List AV} {σ : St} {s : Shared} {b : List Stmt} {f : Fl} {ρ' : List AV} {σ' : St} {Q : Flow → Shared → Prop} {E : Value → Shared → Prop},
  RB sc cl b t → Pre X n A env sc cl L as m ρ σ s.heap → ev X.orc X.tbl n t ρ σ = .fl f ρ' σ' → PostS X L as s sc f ρ' σ' Q → wpAny X.M A (execs b env) Q E s
structure All (X : Cx) (n : Nat) : Prop where
  e : CE X n
  t : CT X n
  o : CO X n
  ot : COT X n
  l : CL X n
  s : CS X n
  b : CB X n

theorem RE.star {sc : Sc} {cl : Cl} {e : Expr} {t : T} (r : RE sc cl e t) (es : List Expr) (env : Env) : starEach (e :: es) env = (false, eval e env) :: starEach es env := by
  cases r <;> rfl
theorem RL.plain {sc : Sc} {cl : Cl} (env : Env) (pos : Pos) : ∀ {es : List Expr} {t : T}, RL sc cl es t → (backTo pos (starEach es env)).any (·.1) = false
  | [], _, _ => rfl
  | _ :: es, _, .cons r rs => by rw [r.star]; exact rs.plain env pos
theorem bindVs_invV {r : R} {k : List AV → St → R} {xs : List AV} {s : St} (e : bindVs r k = .vs xs s) : ∃ y s1, r = .vs y s1 ∧ k y s1 = .vs xs s := by
  cases r with
  | vs y s1 => exact ⟨y, s1, rfl, e⟩
  | bad n => cases e
  | v _ _ => cases e
  | fl _ _ _ => cases e
theorem bindV_invV {r : R} {k : AV → St → R} {xs : List AV} {s : St} (e : bindV r k = .vs xs s) : ∃ y s1, r = .v y s1 ∧ k y s1 = .vs xs s := by
  cases r with
  | v y s1 => exact ⟨y, s1, rfl, e⟩
  | bad n => cases e
  | vs _ _ => cases e
  | fl _ _ _ => cases e
theorem test_inv {x : AV} {t f r : R} (h : ∀ k, r ≠ .bad k) (e : test x t f = r) : ∃ b, truth x = some b ∧ (if b = true then t else f) = r := by
  unfold test at e
  cases q : truth x with
  | none => rw [q] at e; exact absurd e.symm (h _)
  | some b => rw [q] at e; cases b <;> exact ⟨_, rfl, e⟩
section
variable {X : Cx} {n : Nat} {A : Around} {env : Env} {sc : Sc} {cl : Cl} {L : Addr} {as : List Addr} {m : Str → Option Value} {ρ : List AV} {σ σ' : St} {s : Shared} {E : Value → Shared → Prop}
theorem Pre.pred {h : Heap} (p : Pre X (n + 1) A env sc cl L as m ρ σ h) : Pre X n A env sc cl L as m ρ σ h := p.less (Nat.le_succ n)
theorem Pre.gnames (O : X.Ok) {h : Heap} (p : Pre X n A env sc cl L as m ρ σ h) : h.Ns env.globals X.mg := by rw [p.env.glob]; exact O.ns.keeps p.hr.keep
theorem Pre.bnames (O : X.Ok) {h : Heap} (p : Pre X n A env sc cl L as m ρ σ h) : h.Ns env.builtins X.mb := by rw [p.env.blt]; exact O.bns.keeps p.hr.keep
theorem ld_glob (O : X.Ok) (p : Pre X n A env sc cl L as m ρ σ s.heap) {j : Nat} {x : Str} {pos : Pos} {v : Value} {Q : Value → Shared → Prop} (h1 : sc[j]? = some (x, .globalImplicit)) (h2 : X.mg x = some v) (k : Q v s) :
    wpAny X.M A (eval (.Name x pos) env) Q E s :=
  Name_function_global p.env.kind (p.env.kindOf h1) (loadGlobal_global (p.gnames O) h2 k) (p.env.dbg h1)
theorem ld_bltn (O : X.Ok) (p : Pre X n A env sc cl L as m ρ σ s.heap) {j : Nat} {x : Str} {pos : Pos} {v : Value} {Q : Value → Shared → Prop} (h1 : sc[j]? = some (x, .globalImplicit)) (h2 : X.mg x = none) (h3 : X.mb x = some v) (k : Q v s) :
    wpAny X.M A (eval (.Name x pos) env) Q E s :=
  Name_function_global p.env.kind (p.env.kindOf h1) (loadGlobal_builtin (p.gnames O) h2 (p.bnames O) h3 k) (p.env.dbg h1)
theorem ld_loc {i : Nat} {x : Str} {Q : Value → Shared → Prop} (p : Pre X n A env sc cl L as m ρ σ s.heap) (h1 : sc[i]? = some (x, .local)) (hu : geti ρ i ≠ .unb) (k : ∀ v, VR as (geti ρ i) v → Q v s) :
    wpAny X.M A (loadName env x) Q E s := by
  obtain ⟨v, hv, hr⟩ := p.lr i x h1 hu
  exact wpAny_loadName_local p.env.kind (p.env.kindOf h1) (by rw [p.env.loc]; exact p.ns) hv (k v hr)
/-- arguments -/
theorem args_of (H : CL X n) {t : T} {es : List Expr} {xs : List AV} {pos : Pos} {f : Value} {Q : Args → Shared → Prop} (r : RL sc cl es t) (p : Pre X n A env sc cl L as m ρ σ s.heap) (e : ev X.orc X.tbl n t ρ σ = .vs xs σ')
    (k : ∀ vs h' tk as', PE X L as m s.heap as' σ' h' → VRs as' xs vs → Q ⟨vs, []⟩ { s with heap := h', toks := tk }) : wpAny X.M A (evalArgs f true (backTo pos (starEach es env)) []) Q E s := by
  have := H (E := E) (pos := pos) (Q := fun vs s => Q ⟨vs, []⟩ s) r p e k
  cases r with
  | nil => exact evalArgs_nil3 (by
      cases n with
      | zero => cases e
      | succ n =>
        cases e
        exact k [] s.heap s.toks as (.refl p) trivial)
  | cons r rs =>
    rw [r.star] at this ⊢
    exact evalArgs_plain this
end
end Mine

end
section
open PySem PySem.W PyProof.Rows PySem.Calls PySem.SeqAt
namespace Mine
/-! calls -/
theorem lookup_mem {x : Str} {v : Value} : ∀ {l : List (Str × Value)}, (l.map (·.1)).Nodup → (x, v) ∈ l → l.lookup x = some v
  | [], _, h => by cases h
  | p :: l, nd, h => by
    rw [List.map_cons] at nd
    have nd' := List.nodup_cons.mp nd
    obtain ⟨p1, p2⟩ := p
    rw [List.lookup_cons]
    rcases List.mem_cons.mp h with h | h
    · cases h; simp
    · have ne : (x == p1) = false := beq_eq_false_iff_ne.mpr fun e => nd'.1 (List.mem_map.mpr ⟨(x, v), h, e⟩)
      rw [ne]
      exact lookup_mem nd'.2 h
theorem zip_keys {ps : List Str} {vs : List Value} (h : vs.length = ps.length) : (ps.zip vs).map (·.1) = ps := by
  rw [List.map_fst_zip]; omega
section
variable {X : Cx} {n : Nat} {A : Around} {env : Env} {sc : Sc} {cl : Cl} {L : Addr} {as : List Addr} {m : Str → Option Value} {ρ : List AV} {σ σ' : St} {s : Shared} {E : Value → Shared → Prop}
theorem Ns_at {h h' : Heap} {a : Addr} {m : Str → Option Value} (x : h.Ns a m) (k : ∀ o, h.get? a = some o → h'.get? a = some o) : h'.Ns a m :=
  let ⟨o, es, ep, e, r⟩ := x; ⟨o, es, ep, k o e, r⟩
/-- back in the caller's frame -/
theorem PE.ofCall {h h0 h' : Heap} {as' : List Addr} {σ0 σ' : St} (p : Pre X n A env sc cl L as m ρ σ0 h) (k0 : ∀ b o, h.get? b = some o → h0.get? b = some o) (q : Step [h.objs.size] as h0 as' h') (hr : X.HR as' σ' h') :
    PE X L as m h as' σ' h' := by
  have ne : ∀ b o, h.get? b = some o → b ∉ [h.objs.size] := fun b o e => by
    have := Heap.lt_size e
    intro q; rw [List.mem_singleton.mp q] at this; exact absurd this (Nat.lt_irrefl _)
  refine ⟨⟨q.pre, fun a ha => ?_, fun b o e h1 _ => q.keep b o (k0 b o e) h1 (ne b o e), fun b o e => q.live b o (k0 b o e)⟩, hr, Ns_at p.ns fun o e => q.keep _ o (k0 _ o e) p.nin (ne _ _ e)⟩
  rcases q.fr a ha with h1 | h1
  · exact .inl h1
  · right
    cases z : h.get? a with
    | none => rfl
    | some o => rw [k0 a o z] at h1; cases h1
theorem do_callC (O : X.Ok) (H : CB X n) {a : Addr} {f : Nat} {xs : List AV} {vs : List Value} {x : AV} {R : Result → Shared → Prop} (hd : A.depth + 1 + 2 * n < recursionLimit) (hu : A.units + 3 + 10 * n + 200 < cLine) (hh : A.handled = none) (hup : X.B.objs.size ≤ s.heap.objs.size)
    (hr0 : X.HR as σ s.heap) (F : FnOk X a f) (hv : VRs as xs vs) (e : back (enter (ev X.orc X.tbl n) (X.tbl f) xs σ) = .v x σ')
    (k : ∀ v h0 h' tk as', (∀ b o, s.heap.get? b = some o → h0.get? b = some o) → Step [s.heap.objs.size] as h0 as' h' → X.HR as' σ' h' → VR as' x v → R (.ok (.ret v)) { s with heap := h', toks := tk }) :
    codeAny X.M A (.call (.ref a) ⟨vs, []⟩) R s := by
  obtain ⟨o, fd, ps, body, ho, hdat, hcr, hbody, P, hp, hn, hb⟩ := F.ex
  have hkeep := hr0.keep
  unfold enter at e
  cases q : Nat.beq (lenL xs) (X.tbl f).p with
  | false => rw [q] at e; cases e
  | true =>
    rw [q] at e
    have hlen : vs.length = ps.length := by
      have := Nat.eq_of_beq_eq_true q
      rw [lenL_eq, hv.length, hp] at this
      exact this
    have hnd : ps.Nodup := by
      have h1 : (fd.scope.names.take ps.length).map (·.1) = ps := by rw [P.take, List.map_map]; simp [Function.comp_def]
      have h2 : ((fd.scope.names.take ps.length).map (·.1)).Nodup := by
        rw [List.map_take]
        exact P.nd.sublist (List.take_sublist _ _)
      rwa [h1] at h2
    have hbind : bindArgs fd ⟨vs, []⟩ = pure (ps.zip vs) := bind_plain P.pos P.args P.va P.kwo P.kwa P.dflt hnd hlen
    have hat : ∀ (i : Nat) (y : Str), ps[i]? = some y → fd.scope.names[i]? = some (y, .local) := by
      intro i y hy
      have hi : i < ps.length := (List.getElem?_eq_some_iff.mp hy).1
      have : (fd.scope.names.take ps.length)[i]? = some (y, .local) := by rw [P.take, List.getElem?_map, hy]; rfl
      rwa [List.getElem?_take_of_lt hi] at this
    have hloc : ∀ z ∈ ps.zip vs, fd.scope.names.lookup z.1 = some .local := by
      intro z hz
      have : z.1 ∈ ps := (List.of_mem_zip (a := z.1) (b := z.2) hz).1
      obtain ⟨i, hi, he⟩ := List.getElem_of_mem this
      exact scope_lookup P.nd (hat i z.1 (by rw [List.getElem?_eq_getElem hi, he]))
    refine codeAny_call_def (by omega) (hkeep a o ho) hdat (O.lim.keeps hkeep) (hcr.keeps hkeep) hbody (.of_eq hbind) P.nocell hloc (fun h0 hns k0 => ?_) P.co P.gen P.kind
    have hL : s.heap.objs.size ∉ as := fun hm => by
      obtain ⟨o', g⟩ := hr0.alive _ hm
      exact absurd (Heap.lt_size g) (Nat.lt_irrefl _)
    have hB : X.B.get? s.heap.objs.size = none := by
      cases z : X.B.get? s.heap.objs.size with
      | none => rfl
      | some o' => exact absurd (Heap.lt_size (hkeep _ _ z)) (Nat.lt_irrefl _)
    have hpre : Pre X n (A.deeper (callEnv fd s.heap.objs.size a)) (callEnv fd s.heap.objs.size a) fd.scope.names [] s.heap.objs.size as (fun x => (ps.zip vs).reverse.lookup x) (padTo xs (X.tbl f).n) σ h0 := by
      refine ⟨⟨rfl, P.kind, rfl, P.glob, P.blt, P.nd, P.nodbg, fun q x k j h => by simp at h⟩, hh, ?_, ?_, hr0.keepAll k0, hns, hL, hB, hup, ?_⟩
      · show A.depth + 1 + 2 * n < _; exact hd
      · show A.units + 3 + 10 * n + 200 < _; exact hu
      · intro i y hy hne
        obtain ⟨h2, h1⟩ := geti_padTo _ _ _ hne
        rw [h2] at hne ⊢
        obtain ⟨v, g1, g2⟩ := hv.geti hne
        refine ⟨v, ?_, g2⟩
        have hi : i < ps.length := by rw [hv.length] at h1; omega
        have hy2 := hat i ps[i] (List.getElem?_eq_getElem hi)
        rw [hy] at hy2
        cases hy2
        have hm : (ps[i], v) ∈ ps.zip vs := by
          rw [List.mem_iff_getElem?]
          refine ⟨i, ?_⟩
          rw [List.getElem?_zip_eq_some]
          exact ⟨List.getElem?_eq_getElem hi, g1⟩
        refine lookup_mem ?_ (List.mem_reverse.mpr hm)
        rw [List.map_reverse, zip_keys hlen]
        exact (List.reverse_perm ps).nodup_iff.mpr hnd
    cases q2 : ev X.orc X.tbl n (X.tbl f).body (padTo xs (X.tbl f).n) σ with
    | fl fl r2 s2 =>
      have e' : back (.fl fl r2 s2) = .v x σ' := by rw [← q2]; exact e
      refine H (s := { s with heap := h0, toks := s.toks + (ps.zip vs).length }) hb hpre q2 fun fl' h' tk as' m' S hf => ?_
      cases fl with
      | next =>
        cases e'; cases hf
        exact k .none h0 h' tk as' k0 S.st S.hr rfl
      | cont => cases e'
      | ret y =>
        cases e'
        obtain ⟨v, rfl, hv'⟩ := hf
        exact k v h0 h' tk as' k0 S.st S.hr hv'
    | bad j => have e' : back (.bad j) = .v x σ' := by rw [← q2]; exact e
               cases e'
    | v y s2 => have e' : back (.v y s2) = .v x σ' := by rw [← q2]; exact e
                cases e'
    | vs y s2 => have e' : back (.vs y s2) = .v x σ' := by rw [← q2]; exact e
                 cases e'
theorem Pre.up1 {h : Heap} (p : Pre X n A env sc cl L as m ρ σ h) : X.B.objs.size ≤ h.objs.size := by
  obtain ⟨o, e⟩ := Ns_live p.ns
  exact Nat.le_trans p.up (Nat.le_of_lt (Heap.lt_size e))
theorem do_call (O : X.Ok) (H : CB X n) {a : Addr} {f : Nat} {xs : List AV} {vs : List Value} {x : AV} {Q : Value → Shared → Prop} (p : Pre X (n + 1) A env sc cl L as m ρ σ s.heap) (F : FnOk X a f) (hv : VRs as xs vs)
    (e : back (enter (ev X.orc X.tbl n) (X.tbl f) xs σ) = .v x σ') (k : Post X L as m s x σ' Q) : wpAny X.M A (call (.ref a) vs) Q E s := by
  have h1 := p.dep
  have h2 := p.uni
  exact wpAny_call (do_callC O H (by omega) (by omega) p.hand p.up1 p.hr F hv e fun v h0 h' tk as' k0 S hr r => k v h' tk as' (.ofCall p k0 S hr) r)
theorem allocI_inv {c : Nat} {s : St} {x : AV} {s' : St} (e : allocI c s = .v x s') : s.n ≤ 4000 ∧ x = .ref s.n ∧ s' = ⟨s.h.put s.n (.inst c []), Nat.succ (Nat.succ s.n)⟩ := by
  unfold allocI at e
  cases q : Nat.ble s.n 4000 with
  | true => rw [q] at e; cases e; exact ⟨Nat.le_of_ble_eq_true q, rfl, rfl⟩
  | false => rw [q] at e; cases e
theorem do_new (O : X.Ok) (H : CB X n) {q c : Nat} {nm : Str} {xs : List AV} {vs : List Value} {x : AV} {Q : Value → Shared → Prop} (p : Pre X (n + 1) A env sc cl L as m ρ σ s.heap) (hc : gcls[q]? = some (nm, c)) (hv : VRs as xs vs)
    (e : (bindV (allocI c σ) fun x s => bindV (back (enter (ev X.orc X.tbl n) (X.tbl c) (x :: xs) s)) fun y s => match isNone y with | true => .v x s | false => .bad 75) = .v x σ')
    (k : Post X L as m s x σ' Q) : wpAny X.M A (call (.ref (X.cls c)) vs) Q E s := by
  obtain ⟨_, h2, h3, a, h4, h5, F⟩ := O.cl q nm c hc
  have X1 := O.frag.keeps p.hr.keep
  obtain ⟨y, σ1, e1, e⟩ := bindV_inv e
  obtain ⟨g1, rfl, rfl⟩ := allocI_inv e1
  obtain ⟨y, σ2, e2, e⟩ := bindV_inv e
  cases hn : isNone y with
  | false => rw [hn] at e; cases e
  | true =>
    rw [hn] at e
    cases e
    obtain ⟨hp, gg, dd, tk, os⟩ := s
    obtain ⟨U, St⟩ := HR.allocI (k := c) p.hr g1
    have kp : ∀ b o', hp.get? b = some o' → ((hp.push emptyDict).push (instObj (X.cls c) hp.objs.size)).get? b = some o' := fun b o' e => Heap.get?_push_of_some _ (Heap.get?_push_of_some _ e)
    have w : (Code.builtin "type.__call__" ⟨.ref (X.cls c) :: vs, []⟩).weight = 1 := by kernel_rfl
    have cu : (Code.builtin "type.__call__" ⟨.ref (X.cls c) :: vs, []⟩).cUnits ≤ 4 := by
      have : (Code.builtin "type.__call__" ⟨.ref (X.cls c) :: vs, []⟩).cUnits = 1 := by kernel_rfl
      omega
    have d1 := p.dep
    have u1 := p.uni
    refine wpAny_call (make_core (makes_of X1 h3) (looks_findIn X1 h4) (fun self => bind_fn X1 self h5) (.inl rfl) ?_)
    refine do_callC (f := c) (s := ⟨(hp.push emptyDict).push (instObj (X.cls c) hp.objs.size), gg, dd, tk, os⟩) O H ?_ ?_ p.hand ?_ U F (xs := .ref σ.n :: xs) ⟨⟨hp.objs.size + 1, ?_, rfl⟩, hv.mono (List.prefix_append _ _)⟩ e2 fun v h0 h' tk as' k0 S hr r => ?_
    · show A.depth + _ + 1 + 2 * n < _; rw [w]; omega
    · show A.units + _ + 3 + 10 * n + 200 < _; omega
    · have := p.up1
      have z : ((hp.push emptyDict).push (instObj (X.cls c) hp.objs.size)).objs.size = hp.objs.size + 1 + 1 := by rw [Heap.size_push, Heap.size_push]
      show X.B.objs.size ≤ ((hp.push emptyDict).push (instObj (X.cls c) hp.objs.size)).objs.size
      rw [z]
      have : X.B.objs.size ≤ hp.objs.size := p.up1
      omega
    · rw [← p.hr.len]; simp
    · have hvn : v = .none := by
        cases y with
        | non => exact r
        | _ => cases hn
      subst hvn
      refine ⟨rfl, k _ h' tk as' ?_ ⟨hp.objs.size + 1, ?_, rfl⟩⟩
      · have p1 : PE X L as m hp (as ++ [hp.objs.size + 1, hp.objs.size]) ⟨σ.h.put σ.n (.inst c []), σ.n + 2⟩ ((hp.push emptyDict).push (instObj (X.cls c) hp.objs.size)) := ⟨St [L], U, p.ns.keeps kp⟩
        exact p1.trans (.ofCall (p.next p1) k0 S hr)
      · refine get_mono S.pre ?_
        rw [← p.hr.len]; simp
end
end Mine

end
section
open PySem PySem.W PyProof.Rows PySem.Calls PySem.SeqAt
namespace Mine
section
variable {X : Cx} {n : Nat} {A : Around} {env : Env} {sc : Sc} {cl : Cl} {L : Addr} {as : List Addr} {m : Str → Option Value} {ρ : List AV} {σ σ' : St} {s : Shared} {E : Value → Shared → Prop}
theorem Post.mk0 {x : AV} {Q : Value → Shared → Prop} (p : Pre X n A env sc cl L as m ρ σ s.heap) (k : Post X L as m s x σ Q) {v : Value} {tk : Tok} (r : VR as x v) : Q v { s with toks := tk } := k v s.heap tk as (.refl p) r
theorem Post.mk1 {x : AV} {Q : Value → Shared → Prop} (p : Pre X n A env sc cl L as m ρ σ s.heap) (k : Post X L as m s x σ Q) {v : Value} (r : VR as x v) : Q v s := k v s.heap s.toks as (.refl p) r
/-- what comes later -/
theorem Post.after {as' : List Addr} {h' : Heap} {tk : Tok} {σ1 : St} {x : AV} {Q : Value → Shared → Prop} (k : Post X L as m s x σ' Q) (q : PE X L as m s.heap as' σ1 h') : Post X L as' m { s with heap := h', toks := tk } x σ' Q :=
  fun v h2 tk2 as2 q2 r => k v h2 tk2 as2 (q.trans q2) r
theorem gitem_VR : ∀ {g : List Int} {l : List Value} {j : Nat} {z : Int}, IntsAre l g → getI g j = some z → ∃ t, l[j]? = some (Value.int z t)
  | _, _, j, z, .nil, e => by cases e
  | _, _, 0, z, .cons i t r, e => by
    cases e
    exact ⟨t, rfl⟩
  | _, _, j + 1, z, .cons i t r, e => by
    have := gitem_VR r (j := j) (z := z) e
    simpa using this
theorem getI_lt : ∀ {g : List Int} {j : Nat} {z : Int}, getI g j = some z → j < g.length
  | [], _, _, e => by cases e
  | _ :: _, 0, _, _ => Nat.succ_pos _
  | _ :: g, j + 1, z, e => Nat.succ_lt_succ (getI_lt (g := g) (j := j) (z := z) e)
theorem gI_len (k : Nat) : (gI k).length ≤ 8 := by
  unfold gI; split <;> decide
theorem noMarks (o : Cm) (r : Expr) : behindInMarks (cmOf o) r = false := by
  unfold behindInMarks
  split
  · cases o <;> simp [cmOf]
  · rfl
theorem attrEq {a : Expr} (h : noCall a = true) (x : Str) (p : Pos) (env : Env) : eval (.Attribute a x p) env = (do
    let o ← eval a env
    standAt p.atName
    let r ← holding [o] (getAttr o x true)
    letTemporaryGo a o r
    pure r) := by
  cases a <;> first | rfl | cases h
theorem callFacts (env : Env) (pos : Pos) : backToKw pos (keywordEach [] env) = [] := rfl

theorem stepL (H : All X n) : CL X (n + 1) := by
  intro t A env sc cl L as m ρ σ s es xs σ' Q E pos r p e k
  cases r with
  | nil =>
    cases e
    exact spliced_nil (k [] s.heap s.toks as (.refl p) trivial)
  | cons r rs =>
    obtain ⟨x, σ1, e1, e⟩ := bindV_invV e
    obtain ⟨ys, σ2, e2, e⟩ := bindVs_invV e
    cases e
    rw [r.star]
    refine spliced_cons (H.e r p.pred e1 fun v h1 tk1 as1 q1 r1 => H.l rs (p.next q1).pred e2 fun vs h2 tk2 as2 q2 r2 => k _ h2 tk2 as2 (q1.trans q2) ⟨r1.mono q2.st.pre, r2⟩)
theorem and_O (H : All X n) {s1 t1 : T} {e1 e2 : Expr} {es : List Expr} {x : AV} {Q : Value → Shared → Prop} {pos : Pos} (r : RE sc cl e1 s1) (rs : RO sc cl .And (e2 :: es) t1) (p : Pre X (n + 1) A env sc cl L as m ρ σ s.heap)
    (e : ev X.orc X.tbl (n + 1) (.b .and s1 t1) ρ σ = .v x σ') (k : Post X L as m s x σ' Q) : wpAny X.M A (boolOp pos .And (evalEach (e1 :: e2 :: es) env)) Q E s := by
  obtain ⟨y, σ1, h1, e⟩ := bindV_inv e
  obtain ⟨b, hb, e⟩ := test_inv (by intro k h; cases h) e
  show wpAny X.M A (do
    let v ← eval e1 env
    standAt pos
    let t ← holding [v] (truthy v)
    match BoolOp.And, t with
    | .And, false | .Or, true => pure v
    | _, _ => boolOp pos .And (evalEach (e2 :: es) env)) Q E s
  refine wpAny_bind (H.e r p.pred h1 fun v h' tk as' q r1 => wpAny_bind (wpAny_standAt (wpAny_bind (wpAny_holding (do_truthy r1 hb ?_)))))
  cases b with
  | false => cases e; exact wpAny_pure (k v h' tk as' q r1)
  | true => exact H.o rs (p.next q).pred e (k.after q)
theorem or_O (H : All X n) {s1 t1 : T} {e1 e2 : Expr} {es : List Expr} {x : AV} {Q : Value → Shared → Prop} {pos : Pos} (r : RE sc cl e1 s1) (rs : RO sc cl .Or (e2 :: es) t1) (p : Pre X (n + 1) A env sc cl L as m ρ σ s.heap)
    (e : ev X.orc X.tbl (n + 1) (.b .or s1 t1) ρ σ = .v x σ') (k : Post X L as m s x σ' Q) : wpAny X.M A (boolOp pos .Or (evalEach (e1 :: e2 :: es) env)) Q E s := by
  obtain ⟨y, σ1, h1, e⟩ := bindV_inv e
  obtain ⟨b, hb, e⟩ := test_inv (by intro k h; cases h) e
  show wpAny X.M A (do
    let v ← eval e1 env
    standAt pos
    let t ← holding [v] (truthy v)
    match BoolOp.Or, t with
    | .And, false | .Or, true => pure v
    | _, _ => boolOp pos .Or (evalEach (e2 :: es) env)) Q E s
  refine wpAny_bind (H.e r p.pred h1 fun v h' tk as' q r1 => wpAny_bind (wpAny_standAt (wpAny_bind (wpAny_holding (do_truthy r1 hb ?_)))))
  cases b with
  | true => cases e; exact wpAny_pure (k v h' tk as' q r1)
  | false => exact H.o rs (p.next q).pred e (k.after q)
theorem and_T (H : All X n) {s1 t1 : T} {e1 e2 : Expr} {es : List Expr} {x : AV} {b : Bool} {Q : Bool → Shared → Prop} (r : RE sc cl e1 s1) (rs : RO sc cl .And (e2 :: es) t1) (p : Pre X (n + 1) A env sc cl L as m ρ σ s.heap)
    (e : ev X.orc X.tbl (n + 1) (.b .and s1 t1) ρ σ = .v x σ') (ht : truth x = some b) (k : ∀ h' tk as', PE X L as m s.heap as' σ' h' → Q b { s with heap := h', toks := tk }) : wpAny X.M A (allTrue .And (e1 :: e2 :: es) env) Q E s := by
  obtain ⟨y, σ1, h1, e⟩ := bindV_inv e
  obtain ⟨c, hb, e⟩ := test_inv (by intro k h; cases h) e
  refine wpAny_allTrue_And_cons (H.t r p.pred h1 hb fun h' tk as' q => ?_)
  cases c with
  | false =>
    cases e
    rw [hb] at ht; cases ht
    exact k h' tk as' q
  | true => exact H.ot rs (p.next q).pred e ht fun h2 tk2 as2 q2 => k h2 tk2 as2 (q.trans q2)
theorem or_T (H : All X n) {s1 t1 : T} {e1 e2 : Expr} {es : List Expr} {x : AV} {b : Bool} {Q : Bool → Shared → Prop} (r : RE sc cl e1 s1) (rs : RO sc cl .Or (e2 :: es) t1) (p : Pre X (n + 1) A env sc cl L as m ρ σ s.heap)
    (e : ev X.orc X.tbl (n + 1) (.b .or s1 t1) ρ σ = .v x σ') (ht : truth x = some b) (k : ∀ h' tk as', PE X L as m s.heap as' σ' h' → Q b { s with heap := h', toks := tk }) : wpAny X.M A (allTrue .Or (e1 :: e2 :: es) env) Q E s := by
  obtain ⟨y, σ1, h1, e⟩ := bindV_inv e
  obtain ⟨c, hb, e⟩ := test_inv (by intro k h; cases h) e
  refine wpAny_allTrue_Or_cons (H.t r p.pred h1 hb fun h' tk as' q => ?_)
  cases c with
  | true =>
    cases e
    rw [hb] at ht; cases ht
    exact k h' tk as' q
  | false => exact H.ot rs (p.next q).pred e ht fun h2 tk2 as2 q2 => k h2 tk2 as2 (q.trans q2)

theorem stepE (O : X.Ok) (H : All X n) : CE X (n + 1) := by
  intro t A env sc cl L as m ρ σ s ex x σ' Q E r p e k
  cases r with
  | loc hx =>
    obtain ⟨hu, rfl, rfl⟩ := found_inv (show found (geti ρ _) σ = .v x σ' from e)
    exact wpAny_Name (ld_loc p hx hu fun v r => k.mk1 p r) (p.env.dbg hx)
  | @cel nm pp j q kk hx hq =>
    have e' : (match σ.h.get kk with | some (.cell v) => found v σ | _ => .bad 60) = .v x σ' := e
    cases g : σ.h.get kk with
    | none => rw [g] at e'; cases e'
    | some o =>
      rw [g] at e'
      cases o with
      | cell v =>
        obtain ⟨hu, rfl, rfl⟩ := found_inv e'
        obtain ⟨a, ov, ea, hc, w⟩ := ref_obj p g
        obtain ⟨w', rfl, hr⟩ := w hu
        obtain ⟨a', l1, l2⟩ := p.env.cells q nm kk j hq hx
        cases ea.symm.trans l2
        exact wpAny_Name (wpAny_loadName_cell p.env.kind (p.env.kindOf hx) l1 hc (k.mk1 p hr)) (p.env.dbg hx)
      | _ => cases e'
  | int => cases e; exact wpAny_Constant_int (k _ s.heap _ as (.refl p) ⟨_, rfl⟩)
  | bool => cases e; exact wpAny_Constant_bool (k.mk1 p rfl)
  | non => cases e; exact wpAny_Constant_none (k.mk1 p rfl)
  | gint hx hq =>
    cases e
    obtain ⟨t, ht⟩ := O.gi _ _ _ hq
    exact ld_glob O p hx ht (k.mk1 p ⟨t, rfl⟩)
  | neg r =>
    obtain ⟨y, σ1, e1, e⟩ := bindV_inv e
    refine wpAny_UnaryOp (H.e r p.pred e1 fun v h1 tk as1 q1 r1 => ?_)
    cases y with
    | int i =>
      obtain ⟨t, rfl⟩ := r1
      cases e
      exact neg_int (k _ h1 _ as1 q1 ⟨_, by rw [ineg_eq]⟩)
    | _ => cases e
  | inv r =>
    obtain ⟨y, σ1, e1, e⟩ := bindV_inv e
    refine wpAny_UnaryOp (H.e r p.pred e1 fun v h1 tk as1 q1 r1 => ?_)
    cases y with
    | int i =>
      obtain ⟨t, rfl⟩ := r1
      cases e
      exact invert_int (k _ h1 _ as1 q1 ⟨_, by rw [iinv_eq]⟩)
    | _ => cases e
  | not r =>
    obtain ⟨y, σ1, e1, e⟩ := bindV_inv e
    obtain ⟨b, hb, e⟩ := test_inv (by intro k h; cases h) e
    refine wpAny_UnaryOp (H.e r p.pred e1 fun v h1 tk as1 q1 r1 => not_value (do_truthy r1 hb ?_))
    cases b with
    | true => cases e; exact k _ h1 tk as1 q1 rfl
    | false => cases e; exact k _ h1 tk as1 q1 rfl
  | op2 r1 r2 =>
    obtain ⟨y, σ1, e1, e⟩ := bindV_inv e
    obtain ⟨z, σ2, e2, e⟩ := bindV_inv e
    exact wpAny_BinOp (H.e r1 p.pred e1 fun v h1 tk as1 q1 v1 => H.e r2 (p.next q1).pred e2 fun w h2 tk2 as2 q2 v2 => do_binop ((p.next q1).next q2) (v1.mono q2.st.pre) v2 e ((k.after q1).after q2))
  | cmp r1 r2 =>
    obtain ⟨y, σ1, e1, e⟩ := bindV_inv e
    obtain ⟨z, σ2, e2, e⟩ := bindV_inv e
    refine wpAny_Compare1 (H.e r1 p.pred e1 fun v h1 tk as1 q1 v1 => H.e r2 (p.next q1).pred e2 fun w h2 tk2 as2 q2 v2 => ?_) (noMarks _ _)
    have P := (p.next q1).next q2
    have D := fun Q hk => do_cmpop (s := { s with heap := h2, toks := tk2 }) (E := E) (Q := Q) P (v1.mono q2.st.pre) v2 e hk
    obtain ⟨rfl, ⟨b, rfl⟩, _⟩ := D (fun _ _ => True) fun _ _ => trivial
    exact (D Q fun b' hb => k _ h2 tk2 as2 (q1.trans q2) (by cases hb; rfl)).2.2
  | isN r =>
    obtain ⟨y, σ1, e1, e⟩ := bindV_inv e
    cases e
    exact wpAny_Compare1 (H.e r p.pred e1 fun v h1 tk as1 q1 v1 => wpAny_Constant_none (do_isN v1 (k _ h1 _ as1 q1 rfl))) rfl
  | isNN r =>
    obtain ⟨y, σ1, e1, e⟩ := bindV_inv e
    cases e
    exact wpAny_Compare1 (H.e r p.pred e1 fun v h1 tk as1 q1 v1 => wpAny_Constant_none (do_isNN v1 (k _ h1 _ as1 q1 rfl))) rfl
  | bo r =>
    cases r with
    | and r rs => exact and_O H r rs p e k
    | or r rs => exact or_O H r rs p e k
  | ite rc ra rb =>
    obtain ⟨y, σ1, e1, e⟩ := bindV_inv e
    obtain ⟨b, hb, e⟩ := test_inv (by intro k h; cases h) e
    refine wpAny_IfExp (H.t rc p.pred e1 hb fun h1 tk as1 q1 => ?_)
    cases b with
    | true => exact H.e ra (p.next q1).pred e (k.after q1)
    | false => exact H.e rb (p.next q1).pred e (k.after q1)
  | item hs r1 r2 =>
    obtain ⟨y, σ1, e1, e⟩ := bindV_inv e
    obtain ⟨z, σ2, e2, e⟩ := bindV_inv e
    refine Subscript_ (H.e r1 p.pred e1 fun v h1 tk as1 q1 v1 => H.e r2 (p.next q1).pred e2 fun w h2 tk2 as2 q2 v2 => ?_)
    have P := (p.next q1).next q2
    refine (do_item (s := { s with heap := h2, toks := tk2 }) P (v1.mono q2.st.pre) v2 e hs fun v tk3 r3 => ?_).2
    have := do_getItem (s := { s with heap := h2, toks := tk2 }) (E := E) (Q := fun _ _ => True) P (v1.mono q2.st.pre) v2 e fun _ _ _ => trivial
    obtain ⟨rfl, _⟩ := this
    exact k v h2 tk3 as2 (q1.trans q2) r3
  | gitem hs hx hk r =>
    obtain ⟨a, l, g1, g2, gi⟩ := O.gt _ _ hk
    obtain ⟨y, σ1, e1, e⟩ := bindV_inv e
    refine Subscript_ (ld_glob O p hx g1 (H.e r p.pred e1 fun w h2 tk2 as2 q2 v2 => ?_))
    cases y with
    | int z =>
      obtain ⟨t, rfl⟩ := v2
      cases z with
      | negSucc _ => cases e
      | ofNat j =>
        rename_i kk _ _ _ _ _
        have e' : (match getI (gI kk) j with | some z => R.v (.int z) σ1 | none => .bad 65) = .v x σ' := e
        cases q : getI (gI kk) j with
        | none => rw [q] at e'; cases e'
        | some z =>
          rw [q] at e'
          cases e'
          obtain ⟨t', hl⟩ := gitem_VR gi q
          have ga := q2.hr.keep _ _ g2
          have h8 := gI_len kk
          have hj := getI_lt q
          have hlt := (List.getElem?_eq_some_iff.mp hl).1
          refine tail_any (T := "tuple") ⟨_, ga, rfl⟩ PyProof.Rows.slot_tuple_getitem.lookup (PyProof.Rows.getItem_tuple (items := l.toArray) (j := j) (x := .int z t') ⟨_, ga, rfl, 0, rfl⟩ (by simp only [Int.ofNat_eq_natCast]; omega) (by simp only [Int.ofNat_eq_natCast]; omega) ?_ (by simpa using hl) (k _ h2 tk2 as2 q2 ⟨t', rfl⟩)) (subscripted_plain hs)
          unfold seqIndex?
          simp only [List.size_toArray, Int.ofNat_eq_natCast]
          have h1 : ¬ ((j : Int) < 0) := by omega
          simp [h1, hlt]
    | _ => cases e
  | pick hx r =>
    rename_i nm ii j kk ee tt p1 p2 p3 p4
    have e' : (match isCells (geti ρ ii) σ with | true => bindV (ev X.orc X.tbl n tt ρ σ) (pickOf X.orc j) | false => .bad 70) = .v x σ' := e
    cases hc : isCells (geti ρ ii) σ with
    | false => rw [hc] at e'; cases e'
    | true =>
      rw [hc] at e'
      obtain ⟨y, σ1, e1, e⟩ := bindV_inv e'
      cases gx : geti ρ ii with
      | ref rr =>
        rw [gx] at hc
        unfold isCells at hc
        dsimp only at hc
        cases g : σ.h.get rr with
        | none => rw [g] at hc; cases hc
        | some ob =>
          rw [g] at hc
          cases ob with
          | cells =>
            obtain ⟨a, l, w, ea, ga, hl⟩ := ref_obj p g
            cases y with
            | int d =>
              have e2 : (match X.orc j d with | some z => R.v (.int z) σ1 | none => .bad 68) = .v x σ' := e
              cases qo : X.orc j d with
              | none => rw [qo] at e2; cases e2
              | some z =>
                rw [qo] at e2
                cases e2
                obtain ⟨h3, h0, rfl⟩ := O.pick _ _ _ qo
                obtain ⟨t, hlj⟩ := hl j h3
                refine wpAny_BinOp (Subscript_ (wpAny_Name (ld_loc p hx (by rw [gx]; simp) fun v r1 => wpAny_Constant_int ?_) (p.env.dbg hx)))
                rw [gx] at r1
                have := r1.addr ea
                subst this
                refine tail_any (T := "list") ⟨_, ga, rfl⟩ slot_list_getitem.lookup (wpAny_getItem_list (x := .int (X.c j) t) ⟨_, ga, rfl, w, rfl⟩ (by simp only [Int.ofNat_eq_natCast]; omega) (by simp only [Int.ofNat_eq_natCast]; omega) (by simpa using hlj) ?_) (subscripted_plain rfl)
                refine H.e (s := { s with toks := s.toks + 1 }) r p.pred e1 fun v h1 tk as1 q1 v1 => ?_
                obtain ⟨u, rfl⟩ := v1
                exact mod_int' h0 (k _ h1 _ as1 q1 ⟨_, rfl⟩)
            | _ => cases e
          | _ => cases hc
      | _ => rw [gx] at hc; cases hc
  | attr hc hn r =>
    obtain ⟨y, σ1, e1, e⟩ := bindV_inv e
    refine Attribute_any_ (H.e r p.pred e1 fun v h1 tk as1 q1 v1 => ?_) ?_
    · skip
      have D := fun Q hk => do_attr (s := { s with heap := h1, toks := tk }) (E := E) (Q := Q) (ex := true) O.frag (fun _ _ _ _ => O.cls _) (p.next q1) v1 hn e hk
      obtain ⟨rfl, _⟩ := D (fun _ _ => True) fun _ _ _ => trivial
      exact (D Q fun v tk3 r3 => k v h1 tk3 as1 q1 r3).2
    · exact attrEq hc _ _ _
  | list r =>
    obtain ⟨xs, σ1, e1, e⟩ := bindVs_inv e
    cases b : Nat.ble (lenL xs) 1000 with
    | false => rw [b] at e; cases e
    | true =>
      rw [b] at e
      have hb := Nat.le_of_ble_eq_true b
      refine wpAny_List_spliced (H.l r p.pred e1 fun vs h1 tk as1 q1 v1 => ⟨?_, do_list (s := { s with heap := h1, toks := tk }) (p.next q1) v1 e (k.after q1)⟩)
      rw [lenL_eq, v1.length] at hb
      rw [sizeLine_eq]; omega
  | tup r =>
    obtain ⟨xs, σ1, e1, e⟩ := bindVs_inv e
    cases b : Nat.ble (lenL xs) 1000 with
    | false => rw [b] at e; cases e
    | true =>
      rw [b] at e
      have hb := Nat.le_of_ble_eq_true b
      refine wpAny_Tuple_spliced (H.l r p.pred e1 fun vs h1 tk as1 q1 v1 => ⟨?_, do_tup (s := { s with heap := h1, toks := tk }) (p.next q1) v1 e (k.after q1)⟩)
      rw [lenL_eq, v1.length] at hb
      rw [sizeLine_eq]; omega
  | dict1 r1 r2 =>
    obtain ⟨y, σ1, e1, e⟩ := bindV_inv e
    obtain ⟨z, σ2, e2, e⟩ := bindV_inv e
    cases y with
    | int i =>
      have q0 : PE X L as m s.heap as σ (s.heap.push emptyD) := .keep p fun _ _ e => Heap.get?_push_of_some _ e
      refine wpAny_Dict_walk (knd := intKind X.prog X.w) rfl rfl (by simp) (by simp) (pairTrees_cons_walk (H.e (s := { s with heap := s.heap.push emptyD }) r1 (p.next q0).pred e1 fun v h1 tk as1 q1 v1 =>
        H.e (s := { s with heap := h1, toks := tk }) r2 ((p.next q0).next q1).pred e2 fun w h2 tk2 as2 q2 v2 => pairTrees_nil_walk ?_))
      exact do_dict1 p (⟨(q1.trans q2).st, q2.hr, q2.ns⟩ : PE X L as m (s.heap.push emptyD) as2 σ2 h2) (v1.mono q2.st.pre) v2 e k _
    | _ => cases e
  | len hx r =>
    obtain ⟨y, σ1, e1, e⟩ := bindV_inv e
    refine wpAny_Call_ofName (ld_bltn O p hx O.len.1 O.len.2 (callWith_builtin (by rw [r.star]; rfl) ?_))
    rw [r.star]
    refine evalArgs_plain (spliced_cons (H.e r p.pred e1 fun v h1 tk as1 q1 v1 => spliced_nil ?_))
    have D := fun Q hk => do_len (s := { s with heap := h1, toks := tk }) (E := E) (Q := Q) (p.next q1) v1 e hk
    obtain ⟨rfl, _⟩ := D (fun _ _ => True) fun _ _ _ => trivial
    exact (D Q fun v tk3 r3 => k v h1 tk3 as1 q1 r3).2
  | range hx r =>
    obtain ⟨xs, σ1, e1, e⟩ := bindVs_inv e
    refine wpAny_Call_ofName (ld_bltn O p hx O.range.1 O.range.2 (PyProof.Rows.callWith_type (r.plain _ _) (args_of H.l r p.pred e1 fun vs h1 tk as1 q1 v1 => ?_)))
    exact do_range (s := { s with heap := h1, toks := tk }) (p.next q1) v1 e (k.after q1)
  | call hx hq r =>
    obtain ⟨xs, σ1, e1, e⟩ := bindVs_inv e
    obtain ⟨a, g1, F⟩ := O.fn _ _ _ hq
    refine wpAny_Call_ofName (ld_glob O p hx g1 (callWith_of (P := X.K.In) (by rw [r.plain]; rfl) (keeps_K F.keep) (args_of H.l r p.pred e1 fun vs h1 tk as1 q1 v1 => ⟨O.frag.keeps q1.hr.keep, ?_⟩)))
    exact do_call (s := { s with heap := h1, toks := tk }) O H.b (p.next q1) F v1 e (k.after q1)
  | new hx hq r =>
    obtain ⟨xs, σ1, e1, e⟩ := bindVs_inv e
    obtain ⟨g1, g2, _⟩ := O.cl _ _ _ hq
    refine wpAny_Call_ofName (ld_glob O p hx g1 (callWith_of (P := X.K.In) (by rw [r.plain]; rfl) (keeps_K g2) (args_of H.l r p.pred e1 fun vs h1 tk as1 q1 v1 => ⟨O.frag.keeps q1.hr.keep, ?_⟩)))
    exact do_new (s := { s with heap := h1, toks := tk }) O H.b (p.next q1) hq v1 e (k.after q1)
theorem stepO (H : All X n) (HE : CE X (n + 1)) : CO X (n + 1) := by
  intro t A env sc cl L as m ρ σ s o es x σ' Q E pos r p e k
  cases r with
  | one r => exact HE r p e k
  | and r rs => exact and_O H r rs p e k
  | or r rs => exact or_O H r rs p e k
theorem isTrue_IfExp {c a b : Expr} {pos : Pos} {whole : Sem Value} {Q : Bool → Shared → Prop} (h : wpAny X.M A (isTrue c env (eval c env)) (fun r s' => if r = true then wpAny X.M A (isTrue a env (eval a env)) Q E s' else wpAny X.M A (isTrue b env (eval b env)) Q E s') E s) :
    wpAny X.M A (isTrue (.IfExp c a b pos) env whole) Q E s := by
  show wpAny X.M A (do if ← isTrue c env (eval c env) then isTrue a env (eval a env) else isTrue b env (eval b env)) Q E s
  refine wpAny_bind (wpAny_mono h (fun r s' hr => ?_) fun _ _ x => x)
  cases r with
  | true => exact hr
  | false => exact hr
theorem stepT (H : All X n) (HE : CE X (n + 1)) : CT X (n + 1) := by
  intro t A env sc cl L as m ρ σ s ex x b σ' Q E r p e ht k
  have val : ∀ {whole : Sem Value}, whole = eval ex env → (isTrue ex env whole = (do let v ← whole; standAt ex.pos; holding [v] (truthy v))) → wpAny X.M A (isTrue ex env whole) Q E s := by
    rintro whole rfl he
    exact wpAny_isTrue_value (HE r p e fun v h' tk as' q r' => do_truthy r' ht (k h' tk as' q)) he
  cases r with
  | not r =>
    obtain ⟨y, σ1, e1, e⟩ := bindV_inv e
    obtain ⟨c, hb, e⟩ := test_inv (by intro k h; cases h) e
    refine wpAny_isTrue_Not (H.t r p.pred e1 hb fun h' tk as' q => ?_)
    cases c with
    | true => cases e; cases ht; exact k h' tk as' q
    | false => cases e; cases ht; exact k h' tk as' q
  | cmp r1 r2 =>
    obtain ⟨y, σ1, e1, e⟩ := bindV_inv e
    obtain ⟨z, σ2, e2, e⟩ := bindV_inv e
    refine wpAny_isTrue_Compare1 (H.e r1 p.pred e1 fun v h1 tk as1 q1 v1 => H.e r2 (p.next q1).pred e2 fun w h2 tk2 as2 q2 v2 => ?_) (noMarks _ _)
    have P := (p.next q1).next q2
    have D := fun Q hk => do_cmpop (s := { s with heap := h2, toks := tk2 }) (E := E) (Q := Q) P (v1.mono q2.st.pre) v2 e hk
    obtain ⟨rfl, ⟨b', rfl⟩, _⟩ := D (fun _ _ => True) fun _ _ => trivial
    cases ht
    exact (D _ fun b' hb => wpAny_truthy_bool (by cases hb; exact k h2 tk2 as2 (q1.trans q2))).2.2
  | isN r =>
    obtain ⟨y, σ1, e1, e⟩ := bindV_inv e
    cases e
    cases ht
    exact wpAny_isTrue_Compare1 (H.e r p.pred e1 fun v h1 tk as1 q1 v1 => wpAny_Constant_none (do_isN v1 (wpAny_truthy_bool (k h1 _ as1 q1)))) rfl
  | isNN r =>
    obtain ⟨y, σ1, e1, e⟩ := bindV_inv e
    cases e
    cases ht
    exact wpAny_isTrue_Compare1 (H.e r p.pred e1 fun v h1 tk as1 q1 v1 => wpAny_Constant_none (do_isNN v1 (wpAny_truthy_bool (k h1 _ as1 q1)))) rfl
  | bo r =>
    cases r with
    | and r rs => exact wpAny_isTrue_BoolOp (and_T H r rs p e ht k)
    | or r rs => exact wpAny_isTrue_BoolOp (or_T H r rs p e ht k)
  | ite rc ra rb =>
    obtain ⟨y, σ1, e1, e⟩ := bindV_inv e
    obtain ⟨c, hb, e⟩ := test_inv (by intro k h; cases h) e
    refine isTrue_IfExp (H.t rc p.pred e1 hb fun h1 tk as1 q1 => ?_)
    cases c with
    | true => exact H.t ra (p.next q1).pred e ht fun h2 tk2 as2 q2 => k h2 tk2 as2 (q1.trans q2)
    | false => exact H.t rb (p.next q1).pred e ht fun h2 tk2 as2 q2 => k h2 tk2 as2 (q1.trans q2)
  | _ => exact val rfl rfl
theorem stepOT (H : All X n) (HT : CT X (n + 1)) : COT X (n + 1) := by
  intro t A env sc cl L as m ρ σ s o es x b σ' Q E r p e ht k
  cases r with
  | one r =>
    cases o with
    | And =>
      refine wpAny_allTrue_And_cons (HT r p e ht fun h' tk as' q => ?_)
      cases b with
      | true => exact wpAny_allTrue_And_nil (k h' tk as' q)
      | false => exact k h' tk as' q
    | Or =>
      refine wpAny_allTrue_Or_cons (HT r p e ht fun h' tk as' q => ?_)
      cases b with
      | true => exact k h' tk as' q
      | false => exact wpAny_allTrue_Or_nil (k h' tk as' q)
  | and r rs => exact and_T H r rs p e ht k
  | or r rs => exact or_T H r rs p e ht k
end
end Mine

end
section
open PySem PySem.W PyProof.Rows PySem.Calls PySem.SeqAt
namespace Mine
section
variable {X : Cx} {n : Nat} {A : Around} {env : Env} {sc : Sc} {cl : Cl} {L : Addr} {as : List Addr} {m : Str → Option Value} {ρ : List AV} {σ σ' : St} {s : Shared} {E : Value → Shared → Prop}
theorem PE.ps {h h' : Heap} {as' : List Addr} (p : Pre X n A env sc cl L as m ρ σ h) (q : PE X L as m h as' σ' h') : PS X L as h as' σ' h' sc ρ m := ⟨q.st, q.hr, q.ns, p.lr.mono q.st.pre⟩
theorem PS.after {h h1 h2 : Heap} {as1 as2 : List Addr} {σ2 : St} {ρ' : List AV} {m' : Str → Option Value} (q : Step [L] as h as1 h1) (r : PS X L as1 h1 as2 σ2 h2 sc ρ' m') : PS X L as h as2 σ2 h2 sc ρ' m' := ⟨q.trans r.st, r.hr, r.ns, r.lr⟩
theorem Pre.nextS {h h' : Heap} {as' : List Addr} {ρ' : List AV} {m' : Str → Option Value} (p : Pre X n A env sc cl L as m ρ σ h) (q : PS X L as h as' σ' h' sc ρ' m') : Pre X n A env sc cl L as' m' ρ' σ' h' :=
  { p with
    env := p.env.mono q.st.pre
    hr := q.hr
    ns := q.ns
    nin := by obtain ⟨o, e⟩ := Ns_live p.ns; exact q.st.notin e p.nin
    lr := q.lr }
theorem do_storeL {i : Nat} {x : Str} {y : AV} {v : Value} {Q : Unit → Shared → Prop} (p : Pre X n A env sc cl L as m ρ σ s.heap) (hx : sc[i]? = some (x, .local)) (hv : VR as y v)
    (k : ∀ h' tk m', PS X L as s.heap as σ h' sc (seti ρ i y) m' → Q () { s with heap := h', toks := tk }) : wpAny X.M A (storeName env x v) Q E s := by
  refine wpAny_storeName_local (p.env.kindOf hx) (by rw [p.env.loc]; exact p.ns) (fun h' hns hs => k h' _ _ ⟨?_, ?_, ?_, p.lr.set p.env.nd hx hv⟩) p.env.noClass
  · rw [p.env.loc] at hs hns
    obtain ⟨o, e⟩ := Ns_live hns
    exact .same hs (.inr (List.mem_singleton.mpr rfl)) e
  · rw [p.env.loc] at hs
    exact p.hr.loc hs p.nin p.nB
  · rw [p.env.loc] at hns; exact hns
theorem do_setC {j q k : Nat} {x : Str} {y : AV} {v : Value} {ρ0 ρ' : List AV} {f : Fl} {Q : Unit → Shared → Prop} (p : Pre X n A env sc cl L as m ρ σ s.heap) (hx : sc[j]? = some (x, .cell)) (hq : cl[q]? = some (x, k)) (hv : VR as y v)
    (e : setC k y ρ0 σ = .fl f ρ' σ') (kk : ∀ h' tk, PE X L as m s.heap as σ' h' → Q () { s with heap := h', toks := tk }) : f = .next ∧ ρ' = ρ0 ∧ wpAny X.M A (storeName env x v) Q E s := by
  unfold setC at e
  cases g : σ.h.get k with
  | none => rw [g] at e; cases e
  | some o =>
    rw [g] at e
    cases o with
    | cell w =>
      cases e
      obtain ⟨a, ov, ea, hc, _⟩ := ref_obj p g
      obtain ⟨a', l1, l2⟩ := p.env.cells q x k j hq hx
      cases ea.symm.trans l2
      refine ⟨rfl, rfl, wpAny_storeName_cell p.env.kind (p.env.kindOf hx) l1 hc fun h' hc' hs => kk h' s.toks (PE.turn p g rfl ea hs ⟨a, some v, ea, hc', fun _ => ⟨v, rfl, hv⟩⟩)⟩
    | _ => cases e
theorem asgs_len : ∀ {is : List Nat} {xs ρ ρ' : List AV}, asgs is xs ρ = some ρ' → is.length = xs.length
  | [], xs, ρ, ρ', e => by
    cases xs with
    | nil => rfl
    | cons _ _ => cases e
  | i :: is, xs, ρ, ρ', e => by
    cases xs with
    | nil => cases e
    | cons x xs => exact congrArg Nat.succ (asgs_len (is := is) (xs := xs) (ρ := seti ρ i x) e)
theorem RN.len {sc : Sc} : ∀ {es : List Expr} {is : List Nat}, RN sc es is → es.length = is.length
  | _, _, .nil => rfl
  | _, _, .cons _ r => congrArg Nat.succ r.len
theorem RN.each {sc : Sc} (env : Env) : ∀ {es : List Expr} {is : List Nat}, RN sc es is → (assignEach es env).length = es.length ∧ List.findIdx? (fun x => x.fst) (assignEach es env) = none
  | _, _, .nil => ⟨rfl, rfl⟩
  | _, _, .cons (x := x) (p := p) (es := es) _ r => by
    have := r.each env
    have e : assignEach (.Name x p :: es) env = (false, assign (.Name x p) env) :: assignEach es env := rfl
    rw [e]
    exact ⟨by simp [this.1], by rw [List.findIdx?_cons]; simp [this.2]⟩
theorem do_asgs {Q : Unit → Shared → Prop} : ∀ {es : List Expr} {is : List Nat} {xs : List AV} {vs : List Value} {ρ ρ' : List AV} {m : Str → Option Value} {s : Shared}, RN sc es is → Pre X n A env sc cl L as m ρ σ s.heap → asgs is xs ρ = some ρ' → VRs as xs vs →
    (∀ h' tk m', PS X L as s.heap as σ h' sc ρ' m' → Q () { s with heap := h', toks := tk }) → wpAny X.M A (assignInOrder ((assignEach es env).map fun x => x.snd) vs) Q E s
  | _, _, [], [], ρ, ρ', m, s, .nil, p, e, _, k => by
    cases e
    exact wpAny_assignInOrder_none (k s.heap s.toks m (PE.ps p (.refl p)))
  | _, _, _ :: _, _, ρ, ρ', m, s, .nil, p, e, _, k => by cases e
  | _, _, [], _, ρ, ρ', m, s, .cons _ _, p, e, _, k => by cases e
  | _, _, _ :: _, [], ρ, ρ', m, s, _, p, e, hv, k => hv.elim
  | _, _, [], _ :: _, ρ, ρ', m, s, _, p, e, hv, k => hv.elim
  | _, _, x :: xs, v :: vs, ρ, ρ', m, s, .cons (x := nm) (p := pp) (es := es) (is := is) hx r, p, e, ⟨hv, hvs⟩, k => by
    have e1 : assignEach (.Name nm pp :: es) env = (false, assign (.Name nm pp) env) :: assignEach es env := rfl
    rw [e1, List.map_cons]
    refine wpAny_assignInOrder_more (wpAny_assign_Name (do_storeL p hx hv fun h' tk m' q => ?_))
    exact do_asgs (s := { s with heap := h', toks := tk }) r (p.nextS q) e hvs fun h2 tk2 m2 q2 => k h2 tk2 m2 ⟨q.st.trans q2.st, q2.hr, q2.ns, q2.lr⟩
theorem isTup_inv {x : AV} {s : St} {xs : List AV} (e : isTup x s = some xs) : ∃ r, x = .ref r ∧ s.h.get r = some (.tup xs) := by
  unfold isTup at e
  cases x with
  | ref r =>
    dsimp only at e
    cases g : s.h.get r with
    | none => rw [g] at e; cases e
    | some o =>
      rw [g] at e
      cases o with
      | tup vs => cases e; exact ⟨r, rfl, g⟩
      | _ => cases e
  | _ => cases e
/-- the unpacking of a tuple over names -/
theorem do_unpack {es : List Expr} {is : List Nat} {x : AV} {v : Value} {xs ρ' : List AV} {kk : Nat} {pos : Pos} {Q : Unit → Shared → Prop} (p : Pre X n A env sc cl L as m ρ σ s.heap) (r : RN sc es is) (hv : VR as x v) (e : isTup x σ = some xs) (e2 : asgs is xs ρ = some ρ')
    (k : ∀ h' tk m', PS X L as s.heap as σ h' sc ρ' m' → Q () { s with heap := h', toks := tk }) : wpAny X.M A (assign (.Tuple es kk pos) env v) Q E s := by
  obtain ⟨rr, rfl, g⟩ := isTup_inv e
  obtain ⟨a, l, ea, ga, vl⟩ := ref_obj p g
  have := hv.addr ea
  subst this
  have h1 := r.each env
  refine wpAny_assign_Tuple (items := l.toArray) p.hand ⟨_, ga, rfl, 0, rfl⟩ ?_ h1.2 fun h' hs => ?_
  · rw [h1.1, r.len, asgs_len e2, vl.length, List.size_toArray]
  · have q : PE X L as m s.heap as σ h' := .keep p fun b o e => hs b o (fun q => by rw [q, fresh_none] at e; cases e) e
    exact do_asgs (s := { s with heap := h' }) r (p.next q) e2 vl fun h2 tk2 m2 q2 => k h2 tk2 m2 ⟨q.st.trans q2.st, q2.hr, q2.ns, q2.lr⟩
/-- over two names kept in cells -/
theorem do_unpackC {x : AV} {v : Value} {xs : List AV} {ρ' : List AV} {f : Fl} {x1 x2 : Str} {j1 j2 q1 q2 k1 k2 kk : Nat} {p1 p2 pos : Pos} {Q : Unit → Shared → Prop} (p : Pre X n A env sc cl L as m ρ σ s.heap)
    (h1 : sc[j1]? = some (x1, .cell)) (h2 : sc[j2]? = some (x2, .cell)) (c1 : cl[q1]? = some (x1, k1)) (c2 : cl[q2]? = some (x2, k2)) (hv : VR as x v) (e : isTup x σ = some xs) (e2 : asgC2 k1 k2 xs ρ σ = .fl f ρ' σ')
    (k : ∀ h' tk, PE X L as m s.heap as σ' h' → Q () { s with heap := h', toks := tk }) : f = .next ∧ ρ' = ρ ∧ wpAny X.M A (assign (.Tuple [.Name x1 p1, .Name x2 p2] kk pos) env v) Q E s := by
  obtain ⟨rr, rfl, g⟩ := isTup_inv e
  obtain ⟨a, l, ea, ga, vl⟩ := ref_obj p g
  have := hv.addr ea
  subst this
  cases xs with
  | nil => cases e2
  | cons y1 xs =>
  cases xs with
  | nil => cases e2
  | cons y2 xs =>
  cases xs with
  | cons _ _ => cases e2
  | nil =>
  cases l with
  | nil => exact vl.elim
  | cons w1 l =>
  cases l with
  | nil => exact vl.2.elim
  | cons w2 l =>
  cases l with
  | cons _ _ => exact vl.2.2.elim
  | nil =>
  obtain ⟨hv1, hv2, _⟩ := vl
  have e3 : bindF (setC k1 y1 ρ σ) (fun ρ s => setC k2 y2 ρ s) = .fl f ρ' σ' := e2
  cases q : setC k1 y1 ρ σ with
  | fl f1 ρ1 σ1 =>
    rw [q] at e3
    have z := fun (h : Heap) (hp : Pre X n A env sc cl L as m ρ σ h) => (do_setC (s := { s with heap := h }) (E := fun _ _ => True) (Q := fun _ _ => True) hp h1 c1 hv1 q fun _ _ _ => trivial)
    obtain ⟨rfl, rfl, _⟩ := z s.heap p
    have e4 : setC k2 y2 ρ1 σ1 = .fl f ρ' σ' := e3
    have fin : ∀ (h : Heap) tk, PE X L as m s.heap as σ1 h → f = .next ∧ ρ' = ρ1 ∧ wpAny X.M A (storeName env x2 w2) Q E { s with heap := h, toks := tk } := fun h tk q1 =>
      do_setC (s := { s with heap := h, toks := tk }) (p.next q1) h2 c2 hv2 e4 fun h' tk2 q2 => k h' tk2 (q1.trans q2)
    have fin2 : f = .next ∧ ρ' = ρ1 := by
      unfold setC at e4
      cases g : σ1.h.get k2 with
      | none => rw [g] at e4; cases e4
      | some o =>
        rw [g] at e4
        cases o with
        | cell w => cases e4; exact ⟨rfl, rfl⟩
        | _ => cases e4
    refine ⟨fin2.1, fin2.2, ?_⟩
    refine wpAny_assign_Tuple (items := #[w1, w2]) p.hand ⟨_, ga, rfl, 0, rfl⟩ rfl rfl fun h' hs => ?_
    have q0 : PE X L as m s.heap as σ h' := .keep p fun b o e => hs b o (fun q => by rw [q, fresh_none] at e; cases e) e
    refine wpAny_assignInOrder_more (wpAny_assign_Name (do_setC (s := { s with heap := h' }) (p.next q0) h1 c1 hv1 q fun h2 tk2 q2 => ?_).2.2)
    exact wpAny_assignInOrder_more (wpAny_assign_Name (wpAny_mono (fin h2 tk2 (q0.trans q2)).2.2 (fun _ _ h => wpAny_assignInOrder_none h) fun _ _ h => h))
  | bad j => rw [q] at e3; cases e3
  | v y s2 => rw [q] at e3; cases e3
  | vs y s2 => rw [q] at e3; cases e3
theorem noSwap {e : Expr} (h : noComp e = true) (t : Option Expr) (ln : Nat) (env : Env) : swapsWith e t ln env = pure false := by
  cases e <;> first | rfl | cases h
theorem noSwapped {es : List Expr} {kk : Nat} {p : Pos} {e : Expr} (h : noTup e = true) (env : Env) : swappedStores [.Tuple es kk p] e env = pure none := by
  cases e <;> first | rfl | cases h
end
end Mine

end
section
open PySem PySem.W PyProof.Rows PySem.Calls PySem.SeqAt
namespace Mine
noncomputable def IsIt (tu : Bool) (h : Heap) (it l : Addr) (i : Nat) : Prop := match tu with
  | true => h.IsTupleIter it l i
  | false => h.IsListIter it l i
noncomputable def IsSq (tu : Bool) (h : Heap) (l : Addr) (items : Array Value) : Prop := match tu with
  | true => h.IsTuple l items
  | false => h.IsList l items
theorem IsIt.keep {tu : Bool} {h h' : Heap} {it l : Addr} {i : Nat} (x : IsIt tu h it l i) (k : ∀ o, h.get? it = some o → h'.get? it = some o) : IsIt tu h' it l i := by
  cases tu with
  | true => obtain ⟨o, e, r⟩ := x; exact ⟨o, k o e, r⟩
  | false => obtain ⟨o, e, r⟩ := x; exact ⟨o, k o e, r⟩
theorem IsIt.live {tu : Bool} {h : Heap} {it l : Addr} {i : Nat} (x : IsIt tu h it l i) : ∃ o, h.get? it = some o := by
  cases tu with
  | true => obtain ⟨o, e, r⟩ := x; exact ⟨o, e⟩
  | false => obtain ⟨o, e, r⟩ := x; exact ⟨o, e⟩
section
variable {prog : Program} {w : World} {A : Around} {E : Value → Shared → Prop} {s : Shared}
theorem next_item {tu : Bool} {it l : Addr} {i : Nat} {items : Array Value} {x : Value} {Q : Option Value → Shared → Prop} (h1 : IsIt tu s.heap it l i) (h2 : IsSq tu s.heap l items) (h3 : items[i]? = some x)
    (h : ∀ h', IsIt tu h' it l (i + 1) → Heap.SameBut it s.heap h' → Q (some x) { s with heap := h' }) : wpAny (model prog w) A (pyNext (.ref it)) Q E s := by
  cases tu with
  | true => exact wpAny_pyNext_tuple_item h1 h2 h3 h
  | false => exact wpAny_pyNext_list_item h1 h2 h3 h
theorem next_end {tu : Bool} {it l : Addr} {i : Nat} {items : Array Value} {Q : Option Value → Shared → Prop} (hh : A.handled = none) (h1 : IsIt tu s.heap it l i) (h2 : IsSq tu s.heap l items) (h3 : items[i]? = none)
    (h : ∀ h', Heap.ExtBut it s.heap h' → Q none { s with heap := h' }) : wpAny (model prog w) A (pyNext (.ref it)) Q E s := by
  cases tu with
  | true => exact wpAny_pyNext_tuple_end hh h1 h2 h3 h
  | false => exact wpAny_pyNext_list_end hh h1 h2 h3 h
theorem owned_go {target : Expr} {I : Addr} {v : Value} {o : Obj} {T : String} {Q : Unit → Shared → Prop} (ho : s.heap.get? I = some o) (hc : o.cls = .type T) (hT : T = "tuple_iterator" ∨ T = "list_iterator" ∨ T = "range_iterator") (hQ : Q () s) :
    wpAny (model prog w) A (letOwnedTupleGo target (.ref I) v) Q E s := by
  unfold letOwnedTupleGo
  have main : wpAny (model prog w) A (match ((Value.ref I, v) : Value × Value) with
    | (.ref r, .ref a) => do
      let o ← load r
      match o.cls, o.data with
      | .type n, .fields vs =>
        if ["enumerate", "zip", "dict_itemiterator", "dict_reverseitemiterator", "odict_iterator", "itertools.zip_longest", "itertools.pairwise"].contains n && vs[0]? == some (rawInt a) then
          rule "for.unpacks-the-owned-tuple"
          updateField r 0 .none
      | _, _ => pure ()
    | _ => pure ()) Q E s := by
    cases v with
    | ref a =>
      dsimp only
      refine wpAny_bind (wpAny_load ho ?_)
      rw [hc]
      split
      · rename_i n vs h1 h2
        cases h1
        rcases hT with rfl | rfl | rfl <;> exact wpAny_pure hQ
      · exact wpAny_pure hQ
    | _ => exact wpAny_pure hQ
  cases target <;> first | exact wpAny_pure hQ | exact main
end
section
variable {X : Cx} {n : Nat} {A : Around} {env : Env} {sc : Sc} {cl : Cl} {L : Addr} {as : List Addr} {m : Str → Option Value} {ρ : List AV} {σ σ' : St} {s : Shared} {E : Value → Shared → Prop}
/-- a loop's turn is sound -/
noncomputable def TurnOk (X : Cx) (n : Nat) (A : Around) (env : Env) (sc : Sc) (cl : Cl) (L : Addr) (target : Expr) (body : List Stmt) (turn : AV → List AV → St → R) : Prop :=
  ∀ {as : List Addr} {m : Str → Option Value} {ρ : List AV} {σ : St} {s : Shared} {x : AV} {v : Value} {f : Fl} {ρ' : List AV} {σ' : St} {Q : Flow → Shared → Prop} {E : Value → Shared → Prop},
    Pre X n A env sc cl L as m ρ σ s.heap → VR as x v → turn x ρ σ = .fl f ρ' σ' → PostS X L as s sc f ρ' σ' Q → wpAny X.M A (assign target env v) (fun _ s2 => wpAny X.M A (execs body env) Q E s2) E s
theorem thenGo_inv {r : R} {k : List AV → St → R} {f : Fl} {ρ' : List AV} {σ' : St} (e : thenGo r k = .fl f ρ' σ') : ∃ f1 ρ1 σ1, r = .fl f1 ρ1 σ1 ∧ ((∃ y, f1 = .ret y ∧ f = .ret y ∧ ρ1 = ρ' ∧ σ1 = σ') ∨ ((f1 = .next ∨ f1 = .cont) ∧ k ρ1 σ1 = .fl f ρ' σ')) := by
  cases r with
  | fl f1 ρ1 σ1 =>
    refine ⟨f1, ρ1, σ1, rfl, ?_⟩
    cases f1 with
    | next => exact .inr ⟨.inl rfl, e⟩
    | cont => exact .inr ⟨.inr rfl, e⟩
    | ret y => cases e; exact .inl ⟨y, rfl, rfl, rfl, rfl⟩
  | bad _ => cases e
  | v _ _ => cases e
  | vs _ _ => cases e
theorem IsIt.cls {tu : Bool} {h : Heap} {it l : Addr} {i : Nat} (x : IsIt tu h it l i) : ∃ o T, h.get? it = some o ∧ o.cls = .type T ∧ (T = "tuple_iterator" ∨ T = "list_iterator" ∨ T = "range_iterator") := by
  cases tu with
  | true => obtain ⟨o, e, c, _⟩ := x; exact ⟨o, _, e, c, .inl rfl⟩
  | false => obtain ⟨o, e, c, _⟩ := x; exact ⟨o, _, e, c, .inr (.inl rfl)⟩
noncomputable def ItemIs (as : List Addr) (items : Array Value) (i : Nat) : Option AV → Prop
  | some x => ∃ v, items[i]? = some v ∧ VR as x v
  | none => items[i]? = none
theorem nth_arr {vs : List AV} {k : List Value} {i : Nat} (vl : VRs as vs k) : ItemIs as k.toArray i (nth vs i) := by
  have := vl.nth (n := i)
  unfold ItemIs
  cases q : nth vs i with
  | none => rw [q] at this; simpa using this
  | some x => rw [q] at this; simpa using this
/-- a foreign object turned -/
theorem Pre.upd {h h' : Heap} {it : Addr} (p : Pre X n A env sc cl L as m ρ σ h) (nin : it ∉ as) (nL : it ≠ L) (nB : X.B.get? it = none) (k : ∀ b o, h.get? b = some o → b ≠ it → h'.get? b = some o) : Pre X n A env sc cl L as m ρ σ h' :=
  { p with
    hr := p.hr.other fun b o e1 e2 => k b o e1 (by
      rintro rfl
      rcases e2 with e2 | ⟨y, e2⟩
      · exact nin e2
      · rw [nB] at e2; cases e2)
    ns := Ns_at p.ns fun o e => k L o e nL.symm }
theorem Step.upd {Y as as' : List Addr} {h0 h h' : Heap} {it : Addr} (x : Step Y as h0 as' h) (h1 : h0.get? it = none) (k : ∀ b o, h.get? b = some o → b ≠ it → h'.get? b = some o) : Step Y as h0 as' h' := by
  have ne : ∀ b o, h0.get? b = some o → b ≠ it := fun b o e q => by rw [q, h1] at e; cases e
  exact ⟨x.pre, x.fr, fun b o e e1 e2 => k b o (x.keep b o e e1 e2) (ne b o e), fun b o e => let ⟨o', e'⟩ := x.live b o e; ⟨o', k b o' e' (ne b o e)⟩⟩
theorem src_sq {tu : Bool} {r i : Nat} {h : Heap} {l : Addr} {z : Option AV} (p : Pre X n A env sc cl L as m ρ σ h) (e : srcAt tu r i σ = some z) (ea : as[r]? = some l) :
    ∃ items : Array Value, IsSq tu h l items ∧ ItemIs as items i z := by
  unfold srcAt at e
  cases g : σ.h.get r with
  | none => rw [g] at e; cases e
  | some o =>
    rw [g] at e
    have ob := ref_obj p g
    cases o with
    | list vs =>
      cases tu with
      | true => cases e
      | false =>
        obtain ⟨a, k, w, ea', ga, vl⟩ := ob
        cases ea.symm.trans ea'
        cases e
        exact ⟨k.toArray, ⟨_, ga, rfl, w, rfl⟩, nth_arr vl⟩
    | tup vs =>
      cases tu with
      | false => cases e
      | true =>
        obtain ⟨a, k, ea', ga, vl⟩ := ob
        cases ea.symm.trans ea'
        cases e
        exact ⟨k.toArray, ⟨_, ga, rfl, 0, rfl⟩, nth_arr vl⟩
    | _ => cases e
theorem loop_seq {tu : Bool} {target : Expr} {body : List Stmt} {turn : AV → List AV → St → Mine.R} {it l : Addr} {r i k : Nat} {f : Fl} {ρ' : List AV} {R : Result → Shared → Prop} {as0 : List Addr} {h0 : Heap} (T : TurnOk X n A env sc cl L target body turn)
    (p : Pre X n A env sc cl L as m ρ σ s.heap) (st0 : Step [L] as0 h0 as s.heap) (new : h0.get? it = none) (nB : X.B.get? it = none) (ea : as[r]? = some l) (hit : IsIt tu s.heap it l i) (nin : it ∉ as) (nL : it ≠ L) (e : loopI turn tu r k i ρ σ = .fl f ρ' σ')
    (hR : ∀ fl h' tk as' m', PS X L as0 h0 as' σ' h' sc ρ' m' → FlR as' f fl → R (.ok fl) { s with heap := h', toks := tk }) : codeAny X.M A (.forLoop target (.ref it) body [] env) R s := by
  refine codeAny_forLoop_any (I := fun j s2 => ∃ as2 m2 ρ2 σ2 i2, s2 = { s with heap := s2.heap, toks := s2.toks } ∧ Step [L] as0 h0 as2 s2.heap ∧ Pre X n A env sc cl L as2 m2 ρ2 σ2 s2.heap ∧ IsIt tu s2.heap it l i2 ∧ it ∉ as2 ∧ as2[r]? = some l ∧ loopI turn tu r j i2 ρ2 σ2 = .fl f ρ' σ')
    ?_ k ⟨as, m, ρ, σ, i, rfl, st0, p, hit, nin, ea, e⟩
  rintro j s2 ⟨as2, m2, ρ2, σ2, i2, es, st, p2, hit2, nin2, ea2, e2⟩
  cases j with
  | zero => cases e2
  | succ j =>
    have e3 : (match srcAt tu r i2 σ2 with
      | some x => match x with
        | some v => thenGo (turn v ρ2 σ2) (loopI turn tu r j (Nat.succ i2))
        | none => Mine.R.fl .next ρ2 σ2
      | none => .bad 94) = .fl f ρ' σ' := e2
    cases q : srcAt tu r i2 σ2 with
    | none => rw [q] at e3; cases e3
    | some z =>
      rw [q] at e3
      obtain ⟨items, hsq, hz⟩ := src_sq p2 q ea2
      cases z with
      | none =>
        cases e3
        refine next_end p2.hand hit2 hsq hz fun h' hx => wpAny_execs_nil ?_
        have hL : ∀ b o, s2.heap.get? b = some o → b ≠ it → h'.get? b = some o := fun b o e1 e2 => hx b o e2 e1
        have p3 := p2.upd nin2 nL nB hL
        have := hR .next h' s2.toks as2 m2 ⟨st.upd new hL, p3.hr, p3.ns, p3.lr⟩ rfl
        rw [es]
        exact this
      | some x =>
        obtain ⟨v, hi, hv⟩ := hz
        obtain ⟨f1, ρ1, σ1, t1, t2⟩ := thenGo_inv e3
        refine next_item hit2 hsq hi fun h' hit3 hs => ?_
        have hL : ∀ b o, s2.heap.get? b = some o → b ≠ it → h'.get? b = some o := fun b o e1 e2 => (hs.2 b e2).trans e1
        have p3 := p2.upd nin2 nL nB hL
        have st3 := st.upd new hL
        obtain ⟨oi, T', g1, g2, g3⟩ := hit3.cls
        refine owned_go (s := { s2 with heap := h' }) g1 g2 g3 (T (s := { s2 with heap := h' }) p3 hv t1 fun fl h4 tk4 as4 m4 S hf => ?_)
        have p4 := p3.nextS S
        have hit4 := hit3.keep fun o e => S.st.keep it o e nin2 (by simpa using nL)
        have nin4 : it ∉ as4 := S.st.notin g1 nin2
        have es4 : ({ s2 with heap := h4, toks := tk4 } : Shared) = { s with heap := h4, toks := tk4 } := by rw [es]
        rcases t2 with ⟨y, rfl, rfl, rfl, rfl⟩ | ⟨hn, t3⟩
        · obtain ⟨v', rfl, hv'⟩ := hf
          have := hR (.ret v') h4 tk4 as4 m4 ⟨st3.trans S.st, S.hr, S.ns, S.lr⟩ ⟨v', rfl, hv'⟩
          show R (.ok (.ret v')) { s2 with heap := h4, toks := tk4 }
          rw [es4]
          exact this
        · have go : ∃ m, m < j + 1 ∧ ∃ as2 m2 ρ2 σ2 i2, ({ s2 with heap := h4, toks := tk4 } : Shared) = { s with heap := h4, toks := tk4 } ∧ Step [L] as0 h0 as2 h4 ∧ Pre X n A env sc cl L as2 m2 ρ2 σ2 h4 ∧ IsIt tu h4 it l i2 ∧ it ∉ as2 ∧ as2[r]? = some l ∧ loopI turn tu r m i2 ρ2 σ2 = .fl f ρ' σ' :=
            ⟨j, Nat.lt_succ_self _, as4, m4, ρ1, σ1, _, es4, st3.trans S.st, p4, hit4, nin4, get_mono S.st.pre ea2, t3⟩
          rcases hn with rfl | rfl <;> cases hf <;> exact go
/-- the ints of a range -/
inductive Rng (c : Int) : Int → List AV → Prop
  | nil {x} : Rng c x []
  | cons {x vs} : Rng c (x + c) vs → Rng c x (.int x :: vs)
theorem rng_up : ∀ (n : Nat) (a : Int), Rng 1 a (rangeUp n a) ∧ (rangeUp n a).length = n
  | 0, _ => ⟨.nil, rfl⟩
  | n + 1, a => by
    have := rng_up n (iadd a 1)
    have e : rangeUp (n + 1) a = .int a :: rangeUp n (iadd a 1) := rfl
    rw [e]
    rw [iadd_eq] at this ⊢
    exact ⟨.cons this.1, congrArg Nat.succ this.2⟩
theorem rng_down : ∀ (n : Nat) (a : Int), Rng (-1) a (rangeDown n a) ∧ (rangeDown n a).length = n
  | 0, _ => ⟨.nil, rfl⟩
  | n + 1, a => by
    have := rng_down n (isub a 1)
    have e : rangeDown (n + 1) a = .int a :: rangeDown n (isub a 1) := rfl
    rw [e]
    rw [isub_eq] at this ⊢
    exact ⟨.cons this.1, congrArg Nat.succ this.2⟩
theorem small_is {a : Int} (h : small a = true) : a.natAbs ≤ 1000000000001 := by
  cases a with
  | ofNat n => have := Nat.le_of_ble_eq_true h; simp only [Int.ofNat_eq_natCast, Int.natAbs_natCast]; omega
  | negSucc n => have := Nat.le_of_ble_eq_true h; simp only [Int.natAbs_negSucc]; omega
theorem rangeL_is {a b c : Int} {vs : List AV} (h1 : small a = true) (h2 : small b = true) (e : rangeL a b c = some vs) : Rng c a vs ∧ Builtin.Range.rangeSize a b c = (vs.length : Int) ∧ Builtin.Range.small a b c = true := by
  have s1 := small_is h1
  have s2 := small_is h2
  unfold rangeL at e
  rw [ieq_iff] at e
  by_cases c1 : c = 1
  · subst c1
    simp only [decide_true] at e
    have sm : Builtin.Range.small a b 1 = true := small_one (by omega) (by omega) (by omega) (by omega)
    cases q : isub b a with
    | ofNat k =>
      rw [q] at e
      rw [isub_eq] at q
      dsimp only at e
      cases q2 : Nat.ble k 1000 with
      | false => rw [q2] at e; cases e
      | true =>
        rw [q2] at e
        cases e
        have := rng_up k a
        refine ⟨this.1, ?_, sm⟩
        rw [this.2, rangeSize_nat, q]
        simp
    | negSucc k =>
      rw [q] at e
      rw [isub_eq] at q
      cases e
      refine ⟨.nil, ?_, sm⟩
      rw [rangeSize_nat, q]
      simp
  · simp only [c1, decide_false] at e
    rw [ieq_iff] at e
    by_cases c2 : c = -1
    · subst c2
      simp only [decide_true] at e
      have sz : Builtin.Range.rangeSize a b (-1) = ((a - b).toNat : Int) := by
        unfold Builtin.Range.rangeSize
        simp only [show ¬ ((-1 : Int) > 0) by decide, if_false, Int.neg_neg, Int.ediv_one]
        split <;> omega
      have sm : Builtin.Range.small a b (-1) = true := by
        unfold Builtin.Range.small
        rw [sz]
        simp only [Builtin.Range.rangeFitsLong, Bool.and_eq_true, Bool.or_eq_true, decide_eq_true_eq, beq_iff_eq, show ¬ ((-1 : Int) > 0) by decide, if_false]
        omega
      cases q : isub a b with
      | ofNat k =>
        rw [q] at e
        rw [isub_eq] at q
        dsimp only at e
        cases q2 : Nat.ble k 1000 with
        | false => rw [q2] at e; cases e
        | true =>
          rw [q2] at e
          cases e
          have := rng_down k a
          refine ⟨this.1, ?_, sm⟩
          rw [this.2, sz, q]
          simp
      | negSucc k =>
        rw [q] at e
        rw [isub_eq] at q
        cases e
        refine ⟨.nil, ?_, sm⟩
        rw [sz, q]
        simp
    · simp only [c2, decide_false] at e
      cases e
theorem loop_rng {target : Expr} {body : List Stmt} {turn : AV → List AV → St → Mine.R} {it : Addr} {x c : Int} {vs : List AV} {f : Fl} {ρ' : List AV} {R : Result → Shared → Prop} {as0 : List Addr} {h0 : Heap} (T : TurnOk X n A env sc cl L target body turn)
    (p : Pre X n A env sc cl L as m ρ σ s.heap) (st0 : Step [L] as0 h0 as s.heap) (new : h0.get? it = none) (nB : X.B.get? it = none) (hit : IsRangeIter s.heap it x vs.length c) (hv : Rng c x vs) (nin : it ∉ as) (nL : it ≠ L) (e : loopL turn vs ρ σ = .fl f ρ' σ')
    (hR : ∀ fl h' tk as' m', PS X L as0 h0 as' σ' h' sc ρ' m' → FlR as' f fl → R (.ok fl) { s with heap := h', toks := tk }) : codeAny X.M A (.forLoop target (.ref it) body [] env) R s := by
  refine codeAny_forLoop_any (I := fun j s2 => ∃ as2 m2 ρ2 σ2 x2 vs2, j = vs2.length ∧ s2 = { s with heap := s2.heap, toks := s2.toks } ∧ Step [L] as0 h0 as2 s2.heap ∧ Pre X n A env sc cl L as2 m2 ρ2 σ2 s2.heap ∧ IsRangeIter s2.heap it x2 (vs2.length : Nat) c ∧ Rng c x2 vs2 ∧ it ∉ as2 ∧ loopL turn vs2 ρ2 σ2 = .fl f ρ' σ')
    ?_ vs.length ⟨as, m, ρ, σ, x, vs, rfl, rfl, st0, p, hit, hv, nin, e⟩
  rintro j s2 ⟨as2, m2, ρ2, σ2, x2, vs2, ej, es, st, p2, hit2, hv2, nin2, e2⟩
  cases vs2 with
  | nil =>
    cases e2
    refine wpAny_pyNext_range_end p2.hand hit2 (by simp) fun h' hx => wpAny_execs_nil ?_
    have hL : ∀ b o, s2.heap.get? b = some o → b ≠ it → h'.get? b = some o := fun b o e1 e2 => hx b o e2 e1
    have p3 := p2.upd nin2 nL nB hL
    have := hR .next h' s2.toks as2 m2 ⟨st.upd new hL, p3.hr, p3.ns, p3.lr⟩ rfl
    rw [es]
    exact this
  | cons y vs2 =>
    cases hv2 with
    | cons hv3 =>
      have e3 : thenGo (turn (.int x2) ρ2 σ2) (loopL turn vs2) = .fl f ρ' σ' := e2
      obtain ⟨f1, ρ1, σ1, t1, t2⟩ := thenGo_inv e3
      refine wpAny_pyNext_range_item hit2 (by simp) fun h' hit3 hs => ?_
      have hit3' : IsRangeIter h' it (x2 + c) (vs2.length : Nat) c := by
        have : ((AV.int x2 :: vs2).length : Int) - 1 = (vs2.length : Nat) := by simp
        rwa [this] at hit3
      have hL : ∀ b o, s2.heap.get? b = some o → b ≠ it → h'.get? b = some o := fun b o e1 e2 => (hs.2 b e2).trans e1
      have p3 := p2.upd nin2 nL nB hL
      have st3 := st.upd new hL
      refine owned_go (s := { s2 with heap := h', toks := s2.toks + 1 }) hit3' rfl (.inr (.inr rfl)) (T (s := { s2 with heap := h', toks := s2.toks + 1 }) (x := .int x2) p3 ⟨s2.toks, rfl⟩ t1 fun fl h4 tk4 as4 m4 S hf => ?_)
      have p4 := p3.nextS S
      have hit4 : IsRangeIter h4 it (x2 + c) (vs2.length : Nat) c := S.st.keep it _ hit3' nin2 (by simpa using nL)
      have nin4 : it ∉ as4 := S.st.notin hit3' nin2
      have es4 : ({ s2 with heap := h4, toks := tk4 } : Shared) = { s with heap := h4, toks := tk4 } := by rw [es]
      rcases t2 with ⟨y, rfl, rfl, rfl, rfl⟩ | ⟨hn, t3⟩
      · obtain ⟨v', rfl, hv'⟩ := hf
        have := hR (.ret v') h4 tk4 as4 m4 ⟨st3.trans S.st, S.hr, S.ns, S.lr⟩ ⟨v', rfl, hv'⟩
        show R (.ok (.ret v')) { s2 with heap := h4, toks := tk4 }
        rw [es4]
        exact this
      · have go : ∃ m, m < j ∧ ∃ as2 m2 ρ2 σ2 x2 vs2, m = vs2.length ∧ ({ s2 with heap := h4, toks := tk4 } : Shared) = { s with heap := h4, toks := tk4 } ∧ Step [L] as0 h0 as2 h4 ∧ Pre X n A env sc cl L as2 m2 ρ2 σ2 h4 ∧ IsRangeIter h4 it x2 (vs2.length : Nat) c ∧ Rng c x2 vs2 ∧ it ∉ as2 ∧ loopL turn vs2 ρ2 σ2 = .fl f ρ' σ' :=
          ⟨vs2.length, by rw [ej]; exact Nat.lt_succ_self _, as4, m4, ρ1, σ1, _, vs2, rfl, es4, st3.trans S.st, p4, hit4, hv3, nin4, t3⟩
        rcases hn with rfl | rfl <;> cases hf <;> exact go
/-- a for loop -/
theorem do_for {target it : Expr} {body : List Stmt} {t0 : T} {turn : AV → List AV → St → Mine.R} {f : Fl} {ρ' : List AV} {pos : Pos} {Q : Flow → Shared → Prop} (H : CE X n) (T : TurnOk X n A env sc cl L target body turn) (hs : noSet it = true) (ri : RE sc cl it t0)
    (p : Pre X n A env sc cl L as m ρ σ s.heap) (e : bindV (ev X.orc X.tbl n t0 ρ σ) (fun y s => forOver turn y ρ s) = .fl f ρ' σ') (k : PostS X L as s sc f ρ' σ' Q) : wpAny X.M A (exec (.For target it body [] pos) env) Q E s := by
  obtain ⟨y, σ1, e1, e2⟩ := bindV_invF e
  refine wpAny_For (H ri p e1 fun v h1 tk1 as1 q1 v1 => ?_) (fun x => by cases it <;> first | rfl | cases hs)
  cases y with
  | ref r =>
    unfold forOver at e2
    dsimp only at e2
    cases g : σ1.h.get r with
    | none => rw [g] at e2; cases e2
    | some o =>
      rw [g] at e2
      have ob := ref_obj (p.next q1) g
      have p1 := p.next q1
      -- the iterator is pushed at the heap's end
      have fr := fresh_none h1
      have stp : ∀ (o : Obj), PE X L as1 m h1 as1 σ1 (h1.push o) := fun o => .keep p1 fun _ _ e => Heap.get?_push_of_some _ e
      have new0 : s.heap.get? h1.objs.size = none := by
        cases z : s.heap.get? h1.objs.size with
        | none => rfl
        | some o => obtain ⟨o', e'⟩ := q1.st.live _ o z; rw [fr] at e'; cases e'
      have seq : ∀ (tu : Bool) (l : Addr) (o : Obj) (tk : Tok), as1[r]? = some l → IsIt tu (h1.push o) h1.objs.size l 0 → loopI turn tu r 1000 0 ρ σ1 = .fl f ρ' σ' →
          codeAny X.M A (.forLoop target (.ref h1.objs.size) body [] env) (fun r s' => match r with | .ok f => Q f s' | .error e => cameBackBy X.M A env E e s') { s with heap := h1.push o, toks := tk } := by
        intro tu l o tk ea hit e3
        exact loop_seq (s := { s with heap := h1.push o, toks := tk }) T (p1.next (stp o)) (q1.st.trans (stp o).st) new0 (p1.newB fr) ea hit (p1.newIn fr) (p1.newL fr) e3 fun fl h' tk as' m' S hf => k fl h' tk as' m' S hf
      cases o with
      | range a b c =>
        dsimp only at e2
        cases sm : (small a && small b) with
        | false => rw [sm] at e2; cases e2
        | true =>
          rw [sm] at e2
          rw [Bool.and_eq_true] at sm
          cases q : rangeL a b c with
          | none => rw [q] at e2; cases e2
          | some vs =>
            rw [q] at e2
            obtain ⟨a', t, u, w, ea, ga⟩ := ob
            have := v1.addr ea
            subst this
            obtain ⟨z1, z2, z3⟩ := rangeL_is sm.1 sm.2 q
            refine wpAny_pyIter_range ga z3 ?_
            have g2 : IsRangeIter (h1.push { cls := .type "range_iterator", data := .fields #[rawInt a, rawInt (Builtin.Range.rangeSize a b c), rawInt c] }) h1.objs.size a (vs.length : Nat) c := by
              rw [z2]
              exact Heap.get?_push_size _ rfl
            exact loop_rng (s := { s with heap := h1.push _, toks := tk1 }) T (p1.next (stp _)) (q1.st.trans (stp _).st) new0 (p1.newB fr) g2 z1 (p1.newIn fr) (p1.newL fr) e2 fun fl h' tk as' m' S hf => k fl h' tk as' m' S hf
      | list vs =>
        obtain ⟨a, l, w, ea, ga, vl⟩ := ob
        have := v1.addr ea
        subst this
        refine wpAny_pyIter_list (items := l.toArray) ⟨_, ga, rfl, w, rfl⟩ (seq false a _ tk1 ea ⟨_, Heap.get?_push_size _ rfl, rfl, rfl⟩ e2)
      | tup vs =>
        obtain ⟨a, l, ea, ga, vl⟩ := ob
        have := v1.addr ea
        subst this
        refine wpAny_pyIter_tuple (items := l.toArray) ⟨_, ga, rfl, 0, rfl⟩ (seq true a _ tk1 ea ⟨_, Heap.get?_push_size _ rfl, rfl, rfl⟩ e2)
      | _ => cases e2
  | _ => cases e2
end
end Mine

end
section
open PySem PySem.W PyProof.Rows PySem.Calls PySem.SeqAt
namespace Mine
section
variable {X : Cx} {n : Nat} {A : Around} {env : Env} {sc : Sc} {cl : Cl} {L : Addr} {as : List Addr} {m : Str → Option Value} {ρ : List AV} {σ σ' : St} {s : Shared} {E : Value → Shared → Prop}
theorem do_intop {o : Op} {x y z : AV} {vx vy : Value} {Q : Value → Shared → Prop} (hx : VR as x vx) (hy : VR as y vy) (e : intop o x y σ = .v z σ') (k : ∀ v tk, VR as z v → Q v { s with toks := tk }) : σ' = σ ∧ wpAny X.M A (inplaceOp (opOf o) vx vy) Q E s := by
  unfold intop at e
  cases x with
  | int a =>
    obtain ⟨t, rfl⟩ := hx
    cases y with
    | int b =>
      obtain ⟨u, rfl⟩ := hy
      dsimp only at e
      cases q : op2 o a b with
      | none => rw [q] at e; cases e
      | some c =>
        rw [q] at e
        cases e
        exact ⟨rfl, int_iop2 q fun t' => k _ _ ⟨t', rfl⟩⟩
    | _ => cases e
  | _ => cases e
theorem Pre.noInter {h : Heap} (p : Pre X n A env sc cl L as m ρ σ h) : interactive env = false := by
  unfold interactive; rw [p.env.kind]; rfl
theorem unpack_inv {v : AV} {s : St} {k : List AV → R} {f : Fl} {ρ' : List AV} {σ' : St} (e : Mine.unpack v s k = .fl f ρ' σ') : ∃ xs, isTup v s = some xs ∧ k xs = .fl f ρ' σ' := by
  unfold Mine.unpack at e
  cases q : isTup v s with
  | none => rw [q] at e; cases e
  | some xs => rw [q] at e; exact ⟨xs, rfl, e⟩
theorem toF_inv {o : Option (List AV)} {s : St} {f : Fl} {ρ' : List AV} {σ' : St} (e : toF o s = .fl f ρ' σ') : f = .next ∧ σ' = s ∧ o = some ρ' := by
  cases o with
  | none => cases e
  | some x => cases e; exact ⟨rfl, rfl, rfl⟩
theorem bindF_inv {r : R} {k : List AV → St → R} {f : Fl} {ρ' : List AV} {σ' : St} (e : bindF r k = .fl f ρ' σ') : ∃ f1 ρ1 σ1, r = .fl f1 ρ1 σ1 ∧ ((f1 = .next ∧ k ρ1 σ1 = .fl f ρ' σ') ∨ (f1 ≠ .next ∧ f1 = f ∧ ρ1 = ρ' ∧ σ1 = σ')) := by
  cases r with
  | fl f1 ρ1 σ1 =>
    refine ⟨f1, ρ1, σ1, rfl, ?_⟩
    cases f1 with
    | next => exact .inl ⟨rfl, e⟩
    | cont => cases e; exact .inr ⟨by simp, rfl, rfl, rfl⟩
    | ret y => cases e; exact .inr ⟨by simp, rfl, rfl, rfl⟩
  | bad _ => cases e
  | v _ _ => cases e
  | vs _ _ => cases e
theorem turn1 (H : CB X n) {i : Nat} {x : Str} {px : Pos} {body : List Stmt} {tb : T} (hx : sc[i]? = some (x, .local)) (rb : RB sc cl body tb) :
    TurnOk X n A env sc cl L (.Name x px) body (fun v ρ s => ev X.orc X.tbl n tb (seti ρ i v) s) := by
  intro as m ρ σ s y v f ρ' σ' Q E p hv e k
  refine wpAny_assign_Name (do_storeL p hx hv fun h' tk m' q => ?_)
  exact H (s := { s with heap := h', toks := tk }) rb (p.nextS q) e fun fl h2 tk2 as2 m2 q2 hf => k fl h2 tk2 as2 m2 (.after q.st q2) hf
theorem turnT (H : CB X n) {es : List Expr} {is : List Nat} {kk : Nat} {px : Pos} {body : List Stmt} {tb : T} (r : RN sc es is) (rb : RB sc cl body tb) :
    TurnOk X n A env sc cl L (.Tuple es kk px) body (fun v ρ s => Mine.unpack v s fun vs => bindF (toF (asgs is vs ρ) s) (ev X.orc X.tbl n tb)) := by
  intro as m ρ σ s y v f ρ' σ' Q E p hv e k
  obtain ⟨xs, e1, e2⟩ := unpack_inv e
  obtain ⟨f1, ρ1, σ1, e3, e4⟩ := bindF_inv e2
  obtain ⟨rfl, rfl, e5⟩ := toF_inv e3
  rcases e4 with ⟨_, e4⟩ | ⟨h, _⟩
  · exact do_unpack p r hv e1 e5 fun h' tk m' q => H (s := { s with heap := h', toks := tk }) rb (p.nextS q) e4 fun fl h2 tk2 as2 m2 q2 hf => k fl h2 tk2 as2 m2 (.after q.st q2) hf
  · exact absurd rfl h
theorem turnC (H : CB X n) {x1 x2 : Str} {j1 j2 q1 q2 k1 k2 kk : Nat} {px p1 p2 : Pos} {body : List Stmt} {tb : T} (h1 : sc[j1]? = some (x1, .cell)) (h2 : sc[j2]? = some (x2, .cell)) (c1 : cl[q1]? = some (x1, k1)) (c2 : cl[q2]? = some (x2, k2)) (rb : RB sc cl body tb) :
    TurnOk X n A env sc cl L (.Tuple [.Name x1 p1, .Name x2 p2] kk px) body (fun v ρ s => Mine.unpack v s fun vs => bindF (asgC2 k1 k2 vs ρ s) (ev X.orc X.tbl n tb)) := by
  intro as m ρ σ s y v f ρ' σ' Q E p hv e k
  obtain ⟨xs, e1, e2⟩ := unpack_inv e
  obtain ⟨f1, ρ1, σ1, e3, e4⟩ := bindF_inv e2
  have D := fun Q hk => do_unpackC (E := E) (Q := Q) (p1 := p1) (p2 := p2) (kk := kk) (pos := px) p h1 h2 c1 c2 hv e1 e3 hk
  obtain ⟨rfl, rfl, _⟩ := D (fun _ _ => True) fun _ _ _ => trivial
  rcases e4 with ⟨_, e4⟩ | ⟨h, _⟩
  · exact (D _ fun h' tk q => H (s := { s with heap := h', toks := tk }) rb (p.next q) e4 fun fl h2 tk2 as2 m2 q2 hf => k fl h2 tk2 as2 m2 (.after q.st q2) hf).2.2
  · exact absurd rfl h
theorem do_while (HA : ∀ j, j ≤ n → All X j) {e : Expr} {body : List Stmt} {t tb : T} {f : Fl} {ρ' : List AV} {R : Result → Shared → Prop} (r : RE sc cl e t) (rb : RB sc cl body tb) (p : Pre X (n + 1) A env sc cl L as m ρ σ s.heap)
    (ee : ev X.orc X.tbl (n + 1) (.b .while t tb) ρ σ = .fl f ρ' σ') (hR : ∀ fl h' tk as' m', PS X L as s.heap as' σ' h' sc ρ' m' → FlR as' f fl → R (.ok fl) { s with heap := h', toks := tk }) : codeAny X.M A (.whileLoop e body [] env) R s := by
  refine codeAny_whileLoop (I := fun j s2 => ∃ as2 m2 ρ2 σ2, j ≤ n + 1 ∧ s2 = { s with heap := s2.heap, toks := s2.toks } ∧ Step [L] as s.heap as2 s2.heap ∧ Pre X (n + 1) A env sc cl L as2 m2 ρ2 σ2 s2.heap ∧ ev X.orc X.tbl j (.b .while t tb) ρ2 σ2 = .fl f ρ' σ')
    ?_ (n + 1) ⟨as, m, ρ, σ, Nat.le_refl _, rfl, .refl _ _ _, p, ee⟩
  rintro j s2 ⟨as2, m2, ρ2, σ2, hj, es, st, p2, e2⟩
  cases j with
  | zero => cases e2
  | succ j =>
    have e3 : bindV (ev X.orc X.tbl j t ρ2 σ2) (fun x s => Mine.test x (thenGo (ev X.orc X.tbl j tb ρ2 s) (ev X.orc X.tbl j (.b .while t tb))) (.fl .next ρ2 s)) = .fl f ρ' σ' := e2
    obtain ⟨x, σ1, e4, e5⟩ := bindV_invF e3
    obtain ⟨b, hb, e6⟩ := test_inv (by intro k h; cases h) e5
    have H := HA j (by omega)
    refine H.t r (p2.less (by omega)) e4 hb fun h3 tk3 as3 q3 => ?_
    have p3 := p2.next q3
    cases b with
    | false =>
      cases e6
      refine wpAny_execs_nil ?_
      have := hR .next h3 tk3 as3 m2 ⟨st.trans q3.st, q3.hr, q3.ns, p3.lr⟩ rfl
      show R (.ok .next) { s2 with heap := h3, toks := tk3 }
      rw [es]; exact this
    | true =>
      obtain ⟨f1, ρ1, σ4, t1, t2⟩ := thenGo_inv (show thenGo (ev X.orc X.tbl j tb ρ2 σ1) (ev X.orc X.tbl j (.b .while t tb)) = .fl f ρ' σ' from e6)
      refine H.b (s := { s2 with heap := h3, toks := tk3 }) rb (p3.less (by omega)) t1 fun fl h4 tk4 as4 m4 S hf => ?_
      have es4 : ({ s2 with heap := h4, toks := tk4 } : Shared) = { s with heap := h4, toks := tk4 } := by rw [es]
      rcases t2 with ⟨y, rfl, rfl, rfl, rfl⟩ | ⟨hn, t3⟩
      · obtain ⟨v', rfl, hv'⟩ := hf
        have := hR (.ret v') h4 tk4 as4 m4 ⟨(st.trans q3.st).trans S.st, S.hr, S.ns, S.lr⟩ ⟨v', rfl, hv'⟩
        show R (.ok (.ret v')) { s2 with heap := h4, toks := tk4 }
        rw [es4]
        exact this
      · have go : ∃ m, m < j + 1 ∧ ∃ as2 m2 ρ2 σ2, m ≤ n + 1 ∧ ({ s2 with heap := h4, toks := tk4 } : Shared) = { s with heap := h4, toks := tk4 } ∧ Step [L] as s.heap as2 h4 ∧ Pre X (n + 1) A env sc cl L as2 m2 ρ2 σ2 h4 ∧ ev X.orc X.tbl m (.b .while t tb) ρ2 σ2 = .fl f ρ' σ' :=
          ⟨j, Nat.lt_succ_self _, as4, m4, ρ1, σ4, by omega, es4, (st.trans q3.st).trans S.st, p3.nextS S, t3⟩
        rcases hn with rfl | rfl <;> cases hf <;> exact go
theorem noCompOfCall {e : Expr} (h : isCall e = true) : noComp e = true := by cases e <;> first | rfl | cases h
theorem baseEq {a : Expr} (h : noCall a = true) (x : Str) (env : Env) : attributeBase a x env (eval a env) = eval a env := by
  cases a <;> first | rfl | cases h
theorem augEq {i : Expr} (h : noSlice i = true) (ov iv new : Value) : augStore i ov iv new = (do
    holding [new, ov, iv] (setItem ov iv new)
    release [new, ov, iv] []
    pure .next) := by
  cases i <;> first | rfl | cases h
theorem stepS (O : X.Ok) (HA : ∀ j, j ≤ n → All X j) : CS X (n + 1) := by
  have H := HA n (Nat.le_refl _)
  intro t A env sc cl L as m ρ σ s st f ρ' σ' Q E r p e k
  cases r with
  | asg hx hc r =>
    obtain ⟨y, σ1, e1, e⟩ := bindV_invF e
    cases e
    exact wpAny_Assign_Name (H.e r p.pred e1 fun v h1 tk1 as1 q1 v1 => do_storeL (s := { s with heap := h1, toks := tk1 }) (p.next q1) hx v1 fun h' tk m' q => k .next h' tk as1 m' (.after q1.st q) rfl) (noSwap hc _ _ _)
  | asgC hx hq hc r =>
    obtain ⟨y, σ1, e1, e⟩ := bindV_invF e
    refine wpAny_Assign_Name (H.e r p.pred e1 fun v h1 tk1 as1 q1 v1 => ?_) (noSwap hc _ _ _)
    have D := fun Q hk => do_setC (s := { s with heap := h1, toks := tk1 }) (E := E) (Q := Q) (p.next q1) hx hq v1 e hk
    obtain ⟨rfl, rfl, _⟩ := D (fun _ _ => True) fun _ _ _ => trivial
    exact (D _ fun h' tk q => k .next h' tk as1 m (PE.ps p (q1.trans q)) rfl).2.2
  | asgT rn hc ht r =>
    rename_i es0 is0 kk0 pp0 p20 ex0 tt0
    obtain ⟨y, σ1, e1, e⟩ := bindV_invF e
    obtain ⟨xs, e2, e3⟩ := unpack_inv e
    obtain ⟨rfl, rfl, e4⟩ := toF_inv e3
    refine wpAny_Assign_stores (H.e r p.pred e1 fun v h1 tk1 as1 q1 v1 => ?_) (by unfold swapsWithSole; exact noSwap hc _ _ _) (noSwapped ht _)
    exact do_unpack (kk := kk0) (s := { s with heap := h1, toks := tk1 }) (p.next q1) rn v1 e2 e4 fun h' tk m' q => k .next h' tk as1 m' (.after q1.st q) rfl
  | setAttr hn hc r1 r2 =>
    obtain ⟨y, σ1, e1, e⟩ := bindV_invF e
    obtain ⟨z, σ2, e2, e⟩ := bindV_invF e
    refine plainObj_wpAny_Assign_Attribute (H.e r2 p.pred e1 fun v h1 tk1 as1 q1 v1 => H.e r1 (p.next q1).pred e2 fun w h2 tk2 as2 q2 v2 => ?_) (noSwap hc _ _ _)
    have D := fun Q hk => do_setA (s := { s with heap := h2, toks := tk2 }) (E := E) (Q := Q) O.frag (fun _ _ _ _ => O.cls _) ((p.next q1).next q2) v2 (v1.mono q2.st.pre) hn e hk
    obtain ⟨rfl, rfl, _⟩ := D (fun _ _ => True) fun _ _ _ => trivial
    exact (D _ fun h' tk q => k .next h' tk as2 m (PE.ps p ((q1.trans q2).trans q)) rfl).2.2
  | setItem hc hs r1 r2 r3 =>
    obtain ⟨y, σ1, e1, e⟩ := bindV_invF e
    obtain ⟨z, σ2, e2, e⟩ := bindV_invF e
    obtain ⟨u, σ3, e3, e⟩ := bindV_invF e
    refine wpAny_Assign_Subscript (H.e r3 p.pred e1 fun v h1 tk1 as1 q1 v1 => H.e r1 (p.next q1).pred e2 fun w h2 tk2 as2 q2 v2 => H.e r2 ((p.next q1).next q2).pred e3 fun w3 h3 tk3 as3 q3 v3 => ?_) (noSwap hc _ _ _)
    have D := fun Q hk => do_setI (s := { s with heap := h3, toks := tk3 }) (E := E) (Q := Q) (((p.next q1).next q2).next q3) (v2.mono q3.st.pre) v3 ((v1.mono q2.st.pre).mono q3.st.pre) e hk
    obtain ⟨rfl, rfl, _⟩ := D (fun _ _ => True) fun _ _ _ => trivial
    exact (D _ fun h' tk q => k .next h' tk as3 m (PE.ps p (((q1.trans q2).trans q3).trans q)) rfl).2.2
  | augN hx r =>
    obtain ⟨y, σ1, e1, g1⟩ := bindV_invF e
    obtain ⟨z, σ2, e2, g2⟩ := bindV_invF g1
    obtain ⟨u, σ3, e3, g3⟩ := bindV_invF g2
    cases g3
    obtain ⟨hu, rfl, rfl⟩ := found_inv e1
    refine wpAny_AugAssign_Name (ld_loc p hx hu fun v1 r1 => H.e r p.pred e2 fun w h2 tk2 as2 q2 v2 => ?_)
    have D := fun Q hk => do_intop (X := X) (A := A) (s := { s with heap := h2, toks := tk2 }) (E := E) (Q := Q) (r1.mono q2.st.pre) v2 e3 hk
    obtain ⟨rfl, _⟩ := D (fun _ _ => True) fun _ _ _ => trivial
    exact (D _ fun v tk3 v3 => do_storeL (s := { s with heap := h2, toks := tk3 }) (p.next q2) hx v3 fun h' tk m' q => k .next h' tk as2 m' (.after q2.st q) rfl).2
  | augA hn r1 r2 =>
    obtain ⟨y, σ1, e1, g1⟩ := bindV_invF e
    obtain ⟨z, σ2, e2, g2⟩ := bindV_invF g1
    obtain ⟨u, σ3, e3, g3⟩ := bindV_invF g2
    obtain ⟨w, σ4, e4, g4⟩ := bindV_invF g3
    refine wpAny_AugAssign_AttributeAny (H.e r1 p.pred e1 fun v h1 tk1 as1 q1 v1 => ?_)
    have D := fun Q hk => do_attr (s := { s with heap := h1, toks := tk1 }) (E := E) (Q := Q) (ex := true) O.frag (fun _ _ _ _ => O.cls _) (p.next q1) v1 hn e2 hk
    obtain ⟨rfl, _⟩ := D (fun _ _ => True) fun _ _ _ => trivial
    refine (D _ fun v2' tk2 v2 => H.e (s := { s with heap := h1, toks := tk2 }) r2 (p.next q1).pred e3 fun w3 h3 tk3 as3 q3 v3 => ?_).2
    have D := fun Q hk => do_intop (X := X) (A := A) (s := { s with heap := h3, toks := tk3 }) (E := E) (Q := Q) (v2.mono q3.st.pre) v3 e4 hk
    obtain ⟨rfl, _⟩ := D (fun _ _ => True) fun _ _ _ => trivial
    refine (D _ fun v4 tk4 r4 => ?_).2
    have D := fun Q hk => do_setA (s := { s with heap := h3, toks := tk4 }) (E := E) (Q := Q) O.frag (fun _ _ _ _ => O.cls _) ((p.next q1).next q3) (v1.mono q3.st.pre) r4 hn g4 hk
    obtain ⟨rfl, rfl, _⟩ := D (fun _ _ => True) fun _ _ _ => trivial
    exact (D _ fun h' tk q => k .next h' tk as3 m (PE.ps p ((q1.trans q3).trans q)) rfl).2.2
  | augI hs r1 r2 r3 =>
    obtain ⟨y, σ1, e1, g1⟩ := bindV_invF e
    obtain ⟨z, σ2, e2, g2⟩ := bindV_invF g1
    obtain ⟨u, σ3, e3, g3⟩ := bindV_invF g2
    obtain ⟨w, σ4, e4, g4⟩ := bindV_invF g3
    obtain ⟨w5, σ5, e5, g5⟩ := bindV_invF g4
    refine wpAny_AugAssign_SubscriptAny (H.e r1 p.pred e1 fun v h1 tk1 as1 q1 v1 => H.e r2 (p.next q1).pred e2 fun v' h2 tk2 as2 q2 v2 => ?_) (augEq hs)
    have P2 := (p.next q1).next q2
    have D := fun Q hk => do_getItem (s := { s with heap := h2, toks := tk2 }) (E := E) (Q := Q) P2 (v1.mono q2.st.pre) v2 e3 hk
    obtain ⟨rfl, _⟩ := D (fun _ _ => True) fun _ _ _ => trivial
    refine (D _ fun v3' tk3 v3 => H.e (s := { s with heap := h2, toks := tk3 }) r3 P2.pred e4 fun w4 h4 tk4 as4 q4 v4 => ?_).2.1
    have D := fun Q hk => do_intop (X := X) (A := A) (s := { s with heap := h4, toks := tk4 }) (E := E) (Q := Q) (v3.mono q4.st.pre) v4 e5 hk
    obtain ⟨rfl, _⟩ := D (fun _ _ => True) fun _ _ _ => trivial
    refine (D _ fun v5 tk5 r5 => ?_).2
    have D := fun Q hk => do_setI (s := { s with heap := h4, toks := tk5 }) (E := E) (Q := Q) (P2.next q4) ((v1.mono q2.st.pre).mono q4.st.pre) (v2.mono q4.st.pre) r5 g5 hk
    obtain ⟨rfl, rfl, _⟩ := D (fun _ _ => True) fun _ _ _ => trivial
    exact (D _ fun h' tk q => k .next h' tk as4 m (PE.ps p (((q1.trans q2).trans q4).trans q)) rfl).2.2
  | app hc hl r1 r2 =>
    obtain ⟨y, σ1, e1, g1⟩ := bindV_invF e
    cases li : isList y σ1 with
    | false => rw [li] at g1; cases g1
    | true =>
      rw [li] at g1
      obtain ⟨z, σ2, e2, g2⟩ := bindV_invF g1
      refine wpAny_Expr_any (wpAny_Call_append (baseEq hc _ _) (by rw [r2.star]; rfl) hl (by rw [r2.star]; rfl) (H.e r1 p.pred e1 fun v h1 tk1 as1 q1 v1 => ?_)) p.noInter rfl
      have P1 := p.next q1
      unfold isList at li
      cases y with
      | ref rr =>
        dsimp only at li
        cases g : σ1.h.get rr with
        | none => rw [g] at li; cases li
        | some o =>
          rw [g] at li
          cases o with
          | list vs =>
            obtain ⟨a, l, w, ea, ga, vl⟩ := ref_obj P1 g
            have := v1.addr ea
            subst this
            refine ⟨a, l.toArray, rfl, ⟨_, w, ga, rfl, rfl, rfl⟩, H.e (s := { s with heap := h1, toks := tk1 }) r2 P1.pred e2 fun w2 h2 tk2 as2 q2 v2 => ?_⟩
            have D := fun Q => do_append (s := { s with heap := h2, toks := tk2 }) (E := E) (Q := Q) (P1.next q2) (v1.mono q2.st.pre) v2 g2
            obtain ⟨rfl, rfl, _⟩ := D (fun _ _ => True)
            obtain ⟨_, _, D', its, hD, _, F⟩ := D (fun _ => Q .next)
            cases hD
            exact F fun h' tk q => k .next h' tk as2 m (PE.ps p ((q1.trans q2).trans q)) rfl
          | _ => cases li
      | _ => cases li
  | ex hc r =>
    obtain ⟨y, σ1, e1, e⟩ := bindV_invF e
    cases e
    exact wpAny_Expr_any (H.e r p.pred e1 fun v h1 tk1 as1 q1 v1 => k .next h1 tk1 as1 m (PE.ps p q1) rfl) p.noInter (noSwap (noCompOfCall hc) _ _ _)
  | ifs r rb ro =>
    obtain ⟨y, σ1, e1, e⟩ := bindV_invF e
    obtain ⟨b, hb, e⟩ := test_inv (by intro k h; cases h) e
    refine wpAny_If (H.t r p.pred e1 hb fun h1 tk1 as1 q1 => ?_)
    cases b with
    | true => exact H.b rb (p.next q1).pred e fun fl h' tk as' m' S hf => k fl h' tk as' m' (.after q1.st S) hf
    | false => exact H.b ro (p.next q1).pred e fun fl h' tk as' m' S hf => k fl h' tk as' m' (.after q1.st S) hf
  | for1 hx hs r rb => exact do_for H.e (turn1 H.b hx rb) hs r p.pred e k
  | forT rn hs r rb => exact do_for H.e (turnT H.b rn rb) hs r p.pred e k
  | forC h1 h2 c1 c2 hs r rb => exact do_for H.e (turnC H.b h1 h2 c1 c2 rb) hs r p.pred e k
  | «while» r rb => exact wpAny_While (do_while HA r rb p e fun fl h' tk as' m' S hf => k fl h' tk as' m' S hf)
  | ret r =>
    obtain ⟨y, σ1, e1, e⟩ := bindV_invF e
    cases e
    exact wpAny_Return_some (H.e r p.pred e1 fun v h1 tk1 as1 q1 v1 => k (.ret v) h1 tk1 as1 m (PE.ps p q1) ⟨v, rfl, v1⟩)
  | ret0 => cases e; exact wpAny_Return_none (k (.ret .none) s.heap s.toks as m (PE.ps p (.refl p)) ⟨.none, rfl, rfl⟩)
  | cont => cases e; exact wpAny_Continue (k .cont s.heap s.toks as m (PE.ps p (.refl p)) rfl)
  | fail => cases e
end
end Mine

end
section
open PySem PySem.W PyProof.Rows PySem.Calls PySem.SeqAt
namespace Mine
/-! comprehensions -/
theorem lookup_at {x : Str} {k : NameKind} : ∀ {sc : Sc}, sc.lookup x = some k → ∃ j : Nat, sc[j]? = some (x, k)
  | [], h => by cases h
  | (y, k') :: sc, h => by
    rw [List.lookup_cons] at h
    cases q : x == y with
    | true =>
      rw [q] at h
      have := beq_iff_eq.mp q
      subst this
      cases h
      exact ⟨0, rfl⟩
    | false =>
      rw [q] at h
      obtain ⟨j, hj⟩ := lookup_at h
      exact ⟨j + 1, by simpa using hj⟩
theorem closure_loop (env : Env) : ∀ (names : Sc) (acc : List (Str × Addr)), (names.map (·.1)).Nodup → (∀ p ∈ names, p.2 = .free → ∃ a, env.cells.lookup p.1 = some a) →
    ∃ r, (forIn names acc fun (x : Str × NameKind) (cs : List (Str × Addr)) => (if (x.2 == .free) = true then (do let a ← cellOf env x.1; pure (ForInStep.yield ((x.1, a) :: cs))) else pure (ForInStep.yield cs) : Sem (ForInStep (List (Str × Addr))))) = (pure r : Sem (List (Str × Addr))) ∧
      (∀ x, (∀ p ∈ names, p.1 ≠ x) → r.lookup x = acc.lookup x) ∧ ∀ p ∈ names, p.2 = .free → r.lookup p.1 = env.cells.lookup p.1
  | [], acc, _, _ => ⟨acc, rfl, fun _ _ => rfl, fun _ h => by cases h⟩
  | (x, k) :: names, acc, nd, hf => by
    rw [List.map_cons] at nd
    have nd' := List.nodup_cons.mp nd
    by_cases hk : k = .free
    · subst hk
      obtain ⟨a, ha⟩ := hf (x, .free) (List.mem_cons_self ..) rfl
      obtain ⟨r, e, h1, h2⟩ := closure_loop env names ((x, a) :: acc) nd'.2 fun p hp => hf p (List.mem_cons_of_mem _ hp)
      refine ⟨r, ?_, fun y hy => ?_, fun p hp hpf => ?_⟩
      · rw [List.forIn_cons]
        have : cellOf env x = pure a := by unfold cellOf; rw [ha]
        simp only [this]
        exact e
      · rw [h1 y fun p hp => hy p (List.mem_cons_of_mem _ hp), List.lookup_cons]
        have : (y == x) = false := beq_eq_false_iff_ne.mpr fun q => hy (x, .free) (List.mem_cons_self ..) q.symm
        rw [this]
      · rcases List.mem_cons.mp hp with rfl | hp
        · have : ∀ p ∈ names, p.1 ≠ x := fun p hp q => nd'.1 (List.mem_map.mpr ⟨p, hp, q⟩)
          rw [h1 x this, List.lookup_cons, ha]
          simp
        · exact h2 p hp hpf
    · obtain ⟨r, e, h1, h2⟩ := closure_loop env names acc nd'.2 fun p hp => hf p (List.mem_cons_of_mem _ hp)
      refine ⟨r, ?_, fun y hy => h1 y fun p hp => hy p (List.mem_cons_of_mem _ hp), fun p hp hpf => ?_⟩
      · rw [List.forIn_cons]
        have : (k == NameKind.free) = false := beq_eq_false_iff_ne.mpr hk
        simp only [this]
        exact e
      · rcases List.mem_cons.mp hp with rfl | hp
        · exact absurd hpf hk
        · exact h2 p hp hpf
theorem closure_is {scope : Scope} {env : Env} (nd : (scope.names.map (·.1)).Nodup) (hf : ∀ p ∈ scope.names, p.2 = .free → ∃ a, env.cells.lookup p.1 = some a) :
    ∃ r, closureFor scope env = pure r ∧ ∀ p ∈ scope.names, p.2 = .free → r.lookup p.1 = env.cells.lookup p.1 := by
  obtain ⟨r, e, _, h⟩ := closure_loop env scope.names [] nd hf
  refine ⟨r, ?_, h⟩
  unfold closureFor
  have : (forIn scope.names [] fun (x : Str × NameKind) (cs : List (Str × Addr)) => (match x with
    | (name, kind) => if (kind == .free) = true then (do let a ← cellOf env name; pure (ForInStep.yield ((name, a) :: cs))) else pure (ForInStep.yield cs) : Sem (ForInStep (List (Str × Addr))))) = (pure r : Sem (List (Str × Addr))) := e
  show (forIn scope.names [] _ >>= fun cs => pure cs) = pure r
  rw [show (forIn scope.names ([] : List (Str × Addr)) _ : Sem _) = pure r from this]
  rfl
section
variable {X : Cx} {n : Nat} {A : Around} {env : Env} {sc : Sc} {cl : Cl} {L : Addr} {as : List Addr} {m : Str → Option Value} {ρ : List AV} {σ σ' : St} {s : Shared} {E : Value → Shared → Prop}
theorem Step.thenC {Y as0 as as' : List Addr} {h0 h h' : Heap} {C : Addr} (x : Step Y as0 h0 as h) (hC : h0.get? C = none) (y : Step [C] as h as' h') : Step Y as0 h0 as' h' := by
  refine ⟨x.pre.trans y.pre, fun a ha => ?_, fun b o e h1 h2 => ?_, fun b o e => ?_⟩
  · rcases y.fr a ha with h1 | h1
    · exact x.fr a h1
    · right
      cases q : h0.get? a with
      | none => rfl
      | some o => obtain ⟨o', e'⟩ := x.live a o q; rw [h1] at e'; cases e'
  · refine y.keep b o (x.keep b o e h1 h2) (fun hb => ?_) (by
      intro q
      rw [List.mem_singleton.mp q, hC] at e; cases e)
    rcases x.fr b hb with h3 | h3
    · exact h1 h3
    · rw [h3] at e; cases e
  · obtain ⟨o', e'⟩ := x.live b o e
    exact y.live b o' e'
/-- a turn of a comprehension is sound -/
noncomputable def CTurn (X : Cx) (n : Nat) (A : Around) (env : Env) (sc : Sc) (cl : Cl) (C : Addr) (target : Expr) (ifs : List Expr) (elt : Expr) (ai : Nat) (ac : Addr) (turn : AV → List AV → St → R) : Prop :=
  ∀ {as : List Addr} {m : Str → Option Value} {ρ : List AV} {σ : St} {s : Shared} {x : AV} {v : Value} {f : Fl} {ρ' : List AV} {σ' : St} {G : Shared → Prop} {E : Value → Shared → Prop},
    Pre X n A env sc cl C as m ρ σ s.heap → as[ai]? = some ac → VR as x v → turn x ρ σ = .fl f ρ' σ' → (∀ h' tk as' m', PS X C as s.heap as' σ' h' sc ρ' m' → G { s with heap := h', toks := tk }) →
    f = .next ∧ wpAny X.M A (assign target env v) (fun _ s2 => wpAny X.M A (forIn ifs true fun c r => if r = true then do let ok ← isTrue c env (eval c env); pure (ForInStep.yield ok) else pure (ForInStep.yield r))
      (fun ok s3 => if ok = true then wpAny X.M A (eval elt env) (fun y s4 => wpAny X.M A (call (.builtin "list.append") [.ref ac, y]) (fun _ s5 => G s5) E s4) E s3 else G s3) E s2) E s
theorem append_next {x v : AV} {ρ ρ' : List AV} {s s' : St} {f : Fl} (e : appendTo x v ρ s = .fl f ρ' s') : f = .next ∧ ρ' = ρ := by
  unfold appendTo at e
  cases x with
  | ref r =>
    dsimp only at e
    cases g : s.h.get r with
    | none => rw [g] at e; cases e
    | some o =>
      rw [g] at e
      cases o with
      | list vs =>
        dsimp only at e
        cases q : Nat.ble (lenL vs) 1000 with
        | false => rw [q] at e; cases e
        | true => rw [q] at e; cases e; exact ⟨rfl, rfl⟩
      | _ => cases e
  | _ => cases e
theorem elt_append (H : CE X n) {ai : Nat} {ac : Addr} {elt : Expr} {te : T} {f : Fl} {ρ1 ρ' : List AV} {G : Shared → Prop} {E : Value → Shared → Prop} (r : RE sc cl elt te) (p : Pre X n A env sc cl L as m ρ σ s.heap) (ha : as[ai]? = some ac)
    (e : (bindV (ev X.orc X.tbl n te ρ σ) fun y s => appendTo (.ref ai) y ρ1 s) = .fl f ρ' σ') (k : ∀ h' tk as', PE X L as m s.heap as' σ' h' → G { s with heap := h', toks := tk }) :
    wpAny X.M A (eval elt env) (fun y s4 => wpAny X.M A (call (.builtin "list.append") [.ref ac, y]) (fun _ s5 => G s5) E s4) E s := by
  obtain ⟨y, σ1, e1, e2⟩ := bindV_invF e
  refine H r p e1 fun v h1 tk1 as1 q1 v1 => ?_
  have hx : VR as1 (.ref ai) (.ref ac) := ⟨ac, get_mono q1.st.pre ha, rfl⟩
  obtain ⟨_, _, D, its, hD, _, F⟩ := do_append (s := { s with heap := h1, toks := tk1 }) (E := E) (Q := fun _ s5 => G s5) (p.next q1) hx v1 e2
  cases hD
  exact F fun h' tk q => k h' tk as1 (q1.trans q)
theorem cturn (H : CE X n) {i : Nat} {x : Str} {px : Pos} {ai : Nat} {ac : Addr} {elt : Expr} {te : T} (hx : sc[i]? = some (x, .local)) (r : RE sc cl elt te) :
    CTurn X n A env sc cl L (.Name x px) [] elt ai ac (compTurn (ev X.orc X.tbl n) ai i te) := by
  intro as m ρ σ s y v f ρ' σ' G E p ha hv e k
  obtain ⟨y1, σ1, e1, e2⟩ := bindV_invF (show bindV (ev X.orc X.tbl n te (seti ρ i y) σ) (fun z s => appendTo (.ref ai) z (seti ρ i y) s) = .fl f ρ' σ' from e)
  obtain ⟨rfl, rfl⟩ := append_next e2
  refine ⟨rfl, wpAny_assign_Name (do_storeL p hx hv fun h' tk m' q => wpAny_tests_nil ?_)⟩
  show if true = true then _ else _
  rw [if_pos rfl]
  have p2 := p.nextS q
  exact elt_append (s := { s with heap := h', toks := tk }) H r p2 ha e fun h2 tk2 as2 q2 => k h2 tk2 as2 m' (.after q.st (PE.ps p2 q2))
theorem cturnIf (H : All X n) {i : Nat} {x : Str} {px : Pos} {ai : Nat} {ac : Addr} {elt c : Expr} {te tc : T} (hx : sc[i]? = some (x, .local)) (r : RE sc cl elt te) (rc : RE sc cl c tc) :
    CTurn X n A env sc cl L (.Name x px) [c] elt ai ac (compTurnIf (ev X.orc X.tbl n) ai i te tc) := by
  intro as m ρ σ s y v f ρ' σ' G E p ha hv e k
  obtain ⟨b, σ1, e1, e2⟩ := bindV_invF (show bindV (ev X.orc X.tbl n tc (seti ρ i y) σ) (fun b s => Mine.test b (compTurn (ev X.orc X.tbl n) ai i te y ρ s) (.fl .next (seti ρ i y) s)) = .fl f ρ' σ' from e)
  obtain ⟨c, hb, e3⟩ := test_inv (by intro k h; cases h) e2
  have hf : f = .next ∧ ρ' = seti ρ i y := by
    cases c with
    | true =>
      obtain ⟨y1, σ2, e4, e5⟩ := bindV_invF (show bindV (ev X.orc X.tbl n te (seti ρ i y) σ1) (fun z s => appendTo (.ref ai) z (seti ρ i y) s) = .fl f ρ' σ' from e3)
      exact append_next e5
    | false => cases e3; exact ⟨rfl, rfl⟩
  obtain ⟨rfl, rfl⟩ := hf
  refine ⟨rfl, wpAny_assign_Name (do_storeL p hx hv fun h' tk m' q => wpAny_tests_one ?_)⟩
  have p2 := p.nextS q
  refine H.t (s := { s with heap := h', toks := tk }) rc p2 e1 hb fun h3 tk3 as3 q3 => ?_
  have p3 := p2.next q3
  cases c with
  | false =>
    cases e3
    rw [if_neg (by decide)]
    exact k h3 tk3 as3 m' (.after q.st (PE.ps p2 q3))
  | true =>
    rw [if_pos rfl]
    exact elt_append (s := { s with heap := h3, toks := tk3 }) H.e r p3 (get_mono q3.st.pre ha) e3 fun h4 tk4 as4 q4 => k h4 tk4 as4 m' (.after q.st (PE.ps p2 (q3.trans q4)))
theorem comp_seq {tu : Bool} {x : Str} {px : Pos} {iter elt : Expr} {ifs : List Expr} {scope : Scope} {pos : Pos} {turn : AV → List AV → St → Mine.R} {it l ac : Addr} {r i k ai : Nat} {f : Fl} {ρ' : List AV} {R : Result → Shared → Prop} {as0 : List Addr} {h0 : Heap}
    (T : CTurn X n A env sc cl L (.Name x px) ifs elt ai ac turn)
    (p : Pre X n A env sc cl L as m ρ σ s.heap) (st0 : Step [] as0 h0 as s.heap) (newC : h0.get? L = none) (new : h0.get? it = none) (nB : X.B.get? it = none) (ea : as[r]? = some l) (ha : as[ai]? = some ac) (hit : IsIt tu s.heap it l i) (nin : it ∉ as) (nL : it ≠ L) (e : loopI turn tu r k i ρ σ = .fl f ρ' σ')
    (hR : ∀ h' tk as' m', Step [] as0 h0 as' h' → X.HR as' σ' h' → h'.Ns L m' → L ∉ as' → as <+: as' → f = .next → R (.ok .next) { s with heap := h', toks := tk }) : codeAny X.M A (.compLoop (.ListComp elt [⟨.Name x px, iter, ifs, 0⟩] scope pos) 0 (.ref it) (.ref ac) env) R s := by
  refine codeAny_compLoop_tests (I := fun j s2 => ∃ as2 m2 ρ2 σ2 i2, s2 = { s with heap := s2.heap, toks := s2.toks } ∧ as <+: as2 ∧ Step [] as0 h0 as2 s2.heap ∧ Pre X n A env sc cl L as2 m2 ρ2 σ2 s2.heap ∧ IsIt tu s2.heap it l i2 ∧ it ∉ as2 ∧ as2[r]? = some l ∧ as2[ai]? = some ac ∧ loopI turn tu r j i2 ρ2 σ2 = .fl f ρ' σ')
    ?_ k ⟨as, m, ρ, σ, i, rfl, List.prefix_refl _, st0, p, hit, nin, ea, ha, e⟩ (fun _ => rfl)
  rintro j s2 ⟨as2, m2, ρ2, σ2, i2, es, hpre, st, p2, hit2, nin2, ea2, ha2, e2⟩
  cases j with
  | zero => cases e2
  | succ j =>
    have e3 : (match srcAt tu r i2 σ2 with
      | some x => match x with
        | some v => thenGo (turn v ρ2 σ2) (loopI turn tu r j (Nat.succ i2))
        | none => Mine.R.fl .next ρ2 σ2
      | none => .bad 94) = .fl f ρ' σ' := e2
    cases q : srcAt tu r i2 σ2 with
    | none => rw [q] at e3; cases e3
    | some z =>
      rw [q] at e3
      obtain ⟨items, hsq, hz⟩ := src_sq p2 q ea2
      cases z with
      | none =>
        cases e3
        refine next_end p2.hand hit2 hsq hz fun h' hx => ?_
        have hL : ∀ b o, s2.heap.get? b = some o → b ≠ it → h'.get? b = some o := fun b o e1 e2 => hx b o e2 e1
        have p3 := p2.upd nin2 nL nB hL
        have := hR h' s2.toks as2 m2 (st.upd new hL) p3.hr p3.ns p3.nin hpre rfl
        rw [es]
        exact this
      | some y =>
        obtain ⟨v, hi, hv⟩ := hz
        obtain ⟨f1, ρ1, σ1, t1, t2⟩ := thenGo_inv e3
        refine next_item hit2 hsq hi fun h' hit3 hs => ?_
        have hL : ∀ b o, s2.heap.get? b = some o → b ≠ it → h'.get? b = some o := fun b o e1 e2 => (hs.2 b e2).trans e1
        have p3 := p2.upd nin2 nL nB hL
        have st3 := st.upd new hL
        obtain ⟨oi, T', g1, g2, g3⟩ := hit3.cls
        have TT := fun G hG => T (s := { s2 with heap := h' }) (G := G) (E := notedBy X.M A env fun e s' => R (Except.error e) s') p3 ha2 hv t1 hG
        obtain ⟨rfl, _⟩ := TT (fun _ => True) fun _ _ _ _ _ => trivial
        refine (TT _ fun h4 tk4 as4 m4 S => ?_).2
        have p4 := p3.nextS S
        have hit4 := hit3.keep fun o e => S.st.keep it o e nin2 (by simpa using nL)
        have nin4 : it ∉ as4 := S.st.notin g1 nin2
        have es4 : ({ s2 with heap := h4, toks := tk4 } : Shared) = { s with heap := h4, toks := tk4 } := by rw [es]
        rcases t2 with ⟨y, h, _⟩ | ⟨_, t3⟩
        · cases h
        · exact ⟨j, Nat.lt_succ_self _, as4, m4, ρ1, σ1, _, es4, hpre.trans S.st.pre, st3.thenC newC S.st, p4, hit4, nin4, get_mono S.st.pre ea2, get_mono S.st.pre ha2, t3⟩
theorem comp_rng {x : Str} {px : Pos} {iter elt : Expr} {ifs : List Expr} {scope : Scope} {pos : Pos} {turn : AV → List AV → St → Mine.R} {it ac : Addr} {ai : Nat} {x0 c : Int} {vs : List AV} {f : Fl} {ρ' : List AV} {R : Result → Shared → Prop} {as0 : List Addr} {h0 : Heap}
    (T : CTurn X n A env sc cl L (.Name x px) ifs elt ai ac turn)
    (p : Pre X n A env sc cl L as m ρ σ s.heap) (st0 : Step [] as0 h0 as s.heap) (newC : h0.get? L = none) (new : h0.get? it = none) (nB : X.B.get? it = none) (ha : as[ai]? = some ac) (hit : IsRangeIter s.heap it x0 vs.length c) (hv : Rng c x0 vs) (nin : it ∉ as) (nL : it ≠ L) (e : loopL turn vs ρ σ = .fl f ρ' σ')
    (hR : ∀ h' tk as' m', Step [] as0 h0 as' h' → X.HR as' σ' h' → h'.Ns L m' → L ∉ as' → as <+: as' → f = .next → R (.ok .next) { s with heap := h', toks := tk }) : codeAny X.M A (.compLoop (.ListComp elt [⟨.Name x px, iter, ifs, 0⟩] scope pos) 0 (.ref it) (.ref ac) env) R s := by
  refine codeAny_compLoop_tests (I := fun j s2 => ∃ as2 m2 ρ2 σ2 x2 vs2, j = vs2.length ∧ s2 = { s with heap := s2.heap, toks := s2.toks } ∧ as <+: as2 ∧ Step [] as0 h0 as2 s2.heap ∧ Pre X n A env sc cl L as2 m2 ρ2 σ2 s2.heap ∧ IsRangeIter s2.heap it x2 (vs2.length : Nat) c ∧ Rng c x2 vs2 ∧ it ∉ as2 ∧ as2[ai]? = some ac ∧ loopL turn vs2 ρ2 σ2 = .fl f ρ' σ')
    ?_ vs.length ⟨as, m, ρ, σ, x0, vs, rfl, rfl, List.prefix_refl _, st0, p, hit, hv, nin, ha, e⟩ (fun _ => rfl)
  rintro j s2 ⟨as2, m2, ρ2, σ2, x2, vs2, ej, es, hpre, st, p2, hit2, hv2, nin2, ha2, e2⟩
  cases vs2 with
  | nil =>
    cases e2
    refine wpAny_pyNext_range_end p2.hand hit2 (by simp) fun h' hx => ?_
    have hL : ∀ b o, s2.heap.get? b = some o → b ≠ it → h'.get? b = some o := fun b o e1 e2 => hx b o e2 e1
    have p3 := p2.upd nin2 nL nB hL
    have := hR h' s2.toks as2 m2 (st.upd new hL) p3.hr p3.ns p3.nin hpre rfl
    rw [es]
    exact this
  | cons y vs2 =>
    cases hv2 with
    | cons hv3 =>
      have e3 : thenGo (turn (.int x2) ρ2 σ2) (loopL turn vs2) = .fl f ρ' σ' := e2
      obtain ⟨f1, ρ1, σ1, t1, t2⟩ := thenGo_inv e3
      refine wpAny_pyNext_range_item hit2 (by simp) fun h' hit3 hs => ?_
      have hit3' : IsRangeIter h' it (x2 + c) (vs2.length : Nat) c := by
        have : ((AV.int x2 :: vs2).length : Int) - 1 = (vs2.length : Nat) := by simp
        rwa [this] at hit3
      have hL : ∀ b o, s2.heap.get? b = some o → b ≠ it → h'.get? b = some o := fun b o e1 e2 => (hs.2 b e2).trans e1
      have p3 := p2.upd nin2 nL nB hL
      have st3 := st.upd new hL
      have TT := fun G hG => T (s := { s2 with heap := h', toks := s2.toks + 1 }) (x := .int x2) (v := .int x2 s2.toks) (G := G) (E := notedBy X.M A env fun e s' => R (Except.error e) s') p3 ha2 ⟨s2.toks, rfl⟩ t1 hG
      obtain ⟨rfl, _⟩ := TT (fun _ => True) fun _ _ _ _ _ => trivial
      refine (TT _ fun h4 tk4 as4 m4 S => ?_).2
      have p4 := p3.nextS S
      have hit4 : IsRangeIter h4 it (x2 + c) (vs2.length : Nat) c := S.st.keep it _ hit3' nin2 (by simpa using nL)
      have nin4 : it ∉ as4 := S.st.notin hit3' nin2
      have es4 : ({ s2 with heap := h4, toks := tk4 } : Shared) = { s with heap := h4, toks := tk4 } := by rw [es]
      rcases t2 with ⟨y, h, _⟩ | ⟨_, t3⟩
      · cases h
      · exact ⟨vs2.length, by rw [ej]; exact Nat.lt_succ_self _, as4, m4, ρ1, σ1, _, vs2, rfl, es4, hpre.trans S.st.pre, st3.thenC newC S.st, p4, hit4, hv3, nin4, get_mono S.st.pre ha2, t3⟩
theorem relab_eq {scope : Scope} (p : Pre X n A env sc cl L as m ρ σ s.heap) (ok : CompOk sc cl scope) : (relabel scope env).names = relab cl scope.names := by
  show scope.names.map _ = scope.names.map _
  refine List.map_congr_left fun z hz => ?_
  obtain ⟨x, k⟩ := z
  dsimp only
  by_cases hk : k = .free
  · subst hk
    obtain ⟨h1, h2⟩ := ok.free _ hz rfl
    have : env.kindOf x = some .cell := by show env.scope.names.lookup x = _; rw [p.env.names]; exact h1
    rw [this, p.env.kind]
    dsimp only at h2
    simp [h2]
  · have : (k == NameKind.free) = false := beq_eq_false_iff_ne.mpr hk
    simp [this]
theorem relab_keys (cl : Cl) (sc : Sc) : (relab cl sc).map (·.1) = sc.map (·.1) := by
  unfold relab
  rw [List.map_map]
  refine List.map_congr_left fun z _ => ?_
  obtain ⟨x, k⟩ := z
  simp only [Function.comp]
  split <;> rfl
theorem relab_at {cl : Cl} {sc : Sc} {j : Nat} {x : Str} {k : NameKind} (h : (relab cl sc)[j]? = some (x, k)) : ∃ k', sc[j]? = some (x, k') ∧ (k' = k ∨ k' = .free) := by
  unfold relab at h
  rw [List.getElem?_map] at h
  cases q : sc[j]? with
  | none => rw [q] at h; cases h
  | some z =>
    rw [q] at h
    obtain ⟨y, k'⟩ := z
    simp only [Option.map_some, Option.some.injEq] at h
    split at h
    · rename_i hc
      cases h
      rw [Bool.and_eq_true] at hc
      exact ⟨k', rfl, .inr (beq_iff_eq.mp hc.1)⟩
    · cases h; exact ⟨_, rfl, .inl rfl⟩
theorem relab_loc {cl : Cl} {sc : Sc} {j : Nat} {x : Str} (h : sc[j]? = some (x, .local)) : (relab cl sc)[j]? = some (x, .local) := by
  unfold relab
  rw [List.getElem?_map, h]; rfl
/-- the frame of a comprehension -/
theorem comp_env {scope : Scope} {C : Addr} {clo : List (Str × Addr)} {as' : List Addr} (p : Pre X n A env sc cl L as m ρ σ s.heap) (ok : CompOk sc cl scope) (hp : as <+: as') (hc : ∀ q ∈ scope.names, q.2 = .free → clo.lookup q.1 = env.cells.lookup q.1) :
    EnvOk as' { newEnv scope C env.globals clo env.qual none .none (some env) env.builtins with scope := relabel scope env } (relab cl scope.names) cl C := by
  refine ⟨relab_eq p ok, ok.kind, rfl, p.env.glob, p.env.blt, ?_, ?_, ?_⟩
  · rw [relab_keys]; exact ok.nd
  · intro z hz
    have : z.1 ∈ (relab cl scope.names).map (·.1) := List.mem_map.mpr ⟨z, hz, rfl⟩
    rw [relab_keys] at this
    obtain ⟨y, hy, e⟩ := List.mem_map.mp this
    rw [← e]; exact ok.nodbg y hy
  · intro q x k j hq hj
    obtain ⟨k', h1, h2⟩ := relab_at hj
    have hm := List.mem_of_getElem? h1
    rcases h2 with rfl | rfl
    · exact absurd rfl (ok.nocell _ hm)
    · obtain ⟨h3, _⟩ := ok.free _ hm rfl
      obtain ⟨j', hj'⟩ := lookup_at h3
      obtain ⟨a, g1, g2⟩ := p.env.cells q x k j' hq hj'
      exact ⟨a, (hc _ hm rfl).trans g1, get_mono hp g2⟩
end
end Mine

end
section
open PySem PySem.W PyProof.Rows PySem.Calls PySem.SeqAt
namespace Mine
section
variable {X : Cx} {n : Nat} {A : Around} {env : Env} {sc : Sc} {cl : Cl} {L : Addr} {as : List Addr} {m : Str → Option Value} {ρ : List AV} {σ σ' : St} {s : Shared} {E : Value → Shared → Prop}
theorem lookup_idx {x : Str} {k : Nat} : ∀ {cl : Cl}, cl.lookup x = some k → ∃ q : Nat, cl[q]? = some (x, k)
  | [], h => by cases h
  | (y, k') :: cl, h => by
    rw [List.lookup_cons] at h
    cases q : x == y with
    | true =>
      rw [q] at h
      have := beq_iff_eq.mp q
      subst this
      cases h
      exact ⟨0, rfl⟩
    | false =>
      rw [q] at h
      obtain ⟨j, hj⟩ := lookup_idx h
      exact ⟨j + 1, by simpa using hj⟩
/-- a comprehension, stored in a name -/
theorem do_comp (H : CE X n) {it : Expr} {ti : T} {elt : Expr} {ifs : List Expr} {scope : Scope} {pos py px p2 : Pos} {y x : Str} {i k bb : Nat} {turn : Nat → AV → List AV → St → Mine.R} {f : Fl} {ρ' : List AV} {Q : Flow → Shared → Prop}
    (T : ∀ {env' : Env} {C : Addr} {ai : Nat} {ac : Addr}, CTurn X n A env' (relab cl scope.names) cl C (.Name x px) ifs elt ai ac (turn ai))
    (hy : sc[i]? = some (y, .local)) (hl : (py.line == pos.line) = true) (ok : CompOk sc cl scope) (hany : scope.names.any (fun n => n.1 == y && (n.2 == .local || n.2 == .cell)) = false) (hx : scope.names[k]? = some (x, .local))
    (hs : noSet it = true) (r : RE sc cl it ti) (p : Pre X n A env sc cl L as m ρ σ s.heap)
    (e : (bindV (ev X.orc X.tbl n ti ρ σ) fun v s => bindV (alloc (.list []) s) fun acc s => match acc with
      | .ref n => endComp i acc ρ (forOver (turn n) v (unbs scope.names.length) s)
      | _ => .bad bb) = .fl f ρ' σ') (K : PostS X L as s sc f ρ' σ' Q) :
    wpAny X.M A (exec (.Assign [.Name y py] (.ListComp elt [⟨.Name x px, it, ifs, 0⟩] scope pos) p2) env) Q E s := by
  have hsw : swapsWith (.ListComp elt [⟨.Name x px, it, ifs, 0⟩] scope pos) (some (.Name y py)) p2.line env = pure true := by
    show (pure (env.blockKind == .function && env.kindOf y == some .local && py.line == pos.line && !(scope.names.any fun (n, k) => n == y && (k == .local || k == .cell))) : Sem Bool) = pure true
    have b1 : env.blockKind = .function := by unfold Env.blockKind; rw [p.env.kind]; rfl
    rw [b1, p.env.kindOf hy, hl]
    have : (scope.names.any fun (n, k) => n == y && (k == .local || k == .cell)) = false := hany
    rw [this]; rfl
  obtain ⟨v, σ1, e1, e2⟩ := bindV_invF e
  obtain ⟨acc, σ2, e3, e4⟩ := bindV_invF e2
  obtain ⟨hn, rfl, rfl⟩ := alloc_inv e3
  dsimp only at e4
  obtain ⟨clo, hclo, hcl⟩ := closure_is (env := env) ok.nd fun q hq hf => by
    obtain ⟨h3, h4⟩ := ok.free q hq hf
    obtain ⟨j', hj'⟩ := lookup_at h3
    cases z : cl.lookup q.1 with
    | none => rw [z] at h4; cases h4
    | some kk =>
      obtain ⟨qq, hqq⟩ := lookup_idx z
      obtain ⟨a, g1, _⟩ := p.env.cells qq q.1 kk j' hqq hj'
      exact ⟨a, g1⟩
  rw [exec_Assign_Name_used _ _ _ _ hsw, arm_evalThenUse_ListComp]
  suffices main : wpAny X.M A (comprehension (.ListComp elt [⟨.Name x px, it, ifs, 0⟩] scope pos) scope env (firstIterPos [⟨.Name x px, it, ifs, 0⟩] pos) (newList []) (firstAsync [⟨.Name x px, it, ifs, 0⟩]) (firstIter [⟨.Name x px, it, ifs, 0⟩] env) (some (assign (.Name y py) env))) (fun _ s' => Q .next s') E s from
    wpAny_bind (wpAny_standAt (wpAny_bind (wpAny_bind (wpAny_mono main (fun _ _ h => wpAny_pure (wpAny_pure h)) fun _ _ h => h))))
  refine wpAny_comprehension_free (g := ⟨.Name x px, it, ifs, 0⟩) (gs := []) rfl (fun x => by cases it <;> first | rfl | cases hs) hclo ok.kind (fun z hz hl => ?_) ?_
  · obtain ⟨j, hj⟩ := List.mem_iff_getElem?.mp hz
    obtain ⟨z1, z2⟩ := z
    dsimp only at hl
    subst hl
    exact scope_lookup ok.nd hj
  refine H r p e1 fun w h1 tk1 as1 q1 v1 => ?_
  have p1 := p.next q1
  obtain ⟨f1, ρ1, σF, eL, eF⟩ := bindF_inv (show bindF (forOver (turn σ1.n) v (unbs scope.names.length) ⟨σ1.h.put σ1.n (.list []), Nat.succ σ1.n⟩) (fun _ s => .fl .next (seti ρ i (.ref σ1.n)) s) = .fl f ρ' σ' from e4)
  cases v with
  | ref rr =>
    obtain ⟨a0, ea, rfl⟩ := id v1
    have hrr : rr ≠ σ1.n := by
      have := (List.getElem?_eq_some_iff.mp ea).1
      rw [q1.hr.len] at this
      omega
    -- what is at hand once the iterator, the list and the frame are made
    have tail : ∀ (io : Obj) (tk : Tok), io.isFreed = false →
        (∀ (env' : Env) (h' : Heap) (tk' : Tok) (R : Result → Shared → Prop), Pre X n A env' (relab cl scope.names) cl (h1.objs.size + 2) (as1 ++ [h1.objs.size + 1]) (fun _ => none) (unbs scope.names.length) ⟨σ1.h.put σ1.n (.list []), Nat.succ σ1.n⟩ h' →
          Step [] as1 h1 (as1 ++ [h1.objs.size + 1]) h' → h'.get? h1.objs.size = some io → (as1 ++ [h1.objs.size + 1])[σ1.n]? = some (h1.objs.size + 1) → (as1 ++ [h1.objs.size + 1])[rr]? = some a0 →
          (∀ hF tk as' m', Step [] as1 h1 as' hF → X.HR as' σF hF → hF.Ns (h1.objs.size + 2) m' → h1.objs.size + 2 ∉ as' → f1 = .next → as1 ++ [h1.objs.size + 1] <+: as' → R (.ok .next) { s with heap := hF, toks := tk }) →
          codeAny X.M A (.compStart (.ListComp elt [⟨.Name x px, it, ifs, 0⟩] scope pos) 0 (.ref h1.objs.size) (.ref (h1.objs.size + 1)) env') R { s with heap := h', toks := tk' }) →
        wpAny X.M A (newList []) (fun acc s₃ => wpAny X.M A (newFunctionEnv scope env.globals clo [] env.qual none .none (some env)) (fun cenv s₄ =>
          codeAny X.M A (.compStart (.ListComp elt [⟨.Name x px, it, ifs, 0⟩] scope pos) 0 (.ref h1.objs.size) acc { cenv with scope := relabel scope env })
            (compPost X.M A E (some (assign (.Name y py) env)) (fun _ s' => Q .next s') acc cenv.locals) s₄) E s₃) E { s with heap := h1.push io, toks := tk } := by
      intro io tk hio go
      refine wpAny_newObj_type (hd := by size_fits) (wpAny_newFunctionEnv ok.nocell (by intro y hy; simp at hy) (fun h' hns hsb => ?_) ok.kind)
      simp only [Heap.size_push] at hns hsb ⊢
      obtain ⟨lo, hlo⟩ : ∃ lo : Obj, lo = { cls := .type "list", data := .seq #[] } := ⟨_, rfl⟩
      rw [← hlo] at hsb
      have n0 : h1.get? h1.objs.size = none := fresh_none h1
      have n1 : h1.get? (h1.objs.size + 1) = none := Heap.get?_none_of_le (Nat.le_succ _)
      have n2 : h1.get? (h1.objs.size + 2) = none := Heap.get?_none_of_le (Nat.le_add_right _ _)
      have kp3 : ∀ b o, ((h1.push io).push lo).get? b = some o → h'.get? b = some o := fun b o e => by
        have lt := Heap.lt_size e
        rw [Heap.size_push, Heap.size_push] at lt
        exact hsb.extBut b o (Nat.ne_of_lt lt) (Heap.get?_push_of_some _ e)
      have kp : ∀ b o, h1.get? b = some o → h'.get? b = some o := fun b o e => kp3 b o (Heap.get?_push_of_some _ (Heap.get?_push_of_some _ e))
      have gi : h'.get? h1.objs.size = some io := kp3 _ _ (Heap.get?_push_of_some _ (Heap.get?_push_size _ hio))
      have ga : h'.get? (h1.objs.size + 1) = some lo := kp3 _ _ (by
        have := Heap.get?_push_size (h1.push io) (o := lo) (by rw [hlo]; rfl)
        rwa [Heap.size_push] at this)
      rw [hlo] at ga
      have hxx : ∀ as2 : List Addr, as1 ++ [h1.objs.size + 1] <+: as2 → VR as2 (.ref σ1.n) (.ref (h1.objs.size + 1)) := fun as2 hp => ⟨_, get_mono hp (p1.hr.place (h1.objs.size + 1)), rfl⟩
      have pl := p1.hr.place (h1.objs.size + 1)
      have qA : PE X L as1 m h1 (as1 ++ [h1.objs.size + 1]) ⟨σ1.h.put σ1.n (.list []), Nat.succ σ1.n⟩ h' := .alloc p1 hn rfl kp n1 ⟨_, ga⟩ ⟨_, [], 0, pl, ga, trivial⟩
      have stA : Step [] as1 h1 (as1 ++ [h1.objs.size + 1]) h' := .alloc kp n1
      have CinA : h1.objs.size + 2 ∉ as1 ++ [h1.objs.size + 1] := fun hm => by
        rcases List.mem_append.mp hm with hm | hm
        · exact p1.newIn n2 hm
        · have := List.mem_singleton.mp hm; omega
      refine go _ h' _ _ ⟨comp_env (s := { s with heap := h1 }) p1 ok (List.prefix_append _ _) hcl, p1.hand, p1.dep, p1.uni, qA.hr, ?_, CinA, p1.newB n2, Nat.le_trans p1.up1 (Nat.le_add_right _ _), fun i x _ hu => ?_⟩ stA gi pl (get_mono (List.prefix_append _ _) ea) fun hF tk2 as2 m2 stF hrF nsF ninF hnext hpre => ?_
      · exact hns
      · rw [geti_unbs] at hu; exact absurd rfl hu
      · subst hnext
        rcases eF with ⟨_, eF⟩ | ⟨h, _⟩
        · cases eF
          have oL := Ns_live p1.ns
          obtain ⟨oL, gL⟩ := oL
          have stL : Step [L] as1 h1 as2 hF := ⟨stF.pre, stF.fr, fun b o e h1 _ => stF.keep b o e h1 (by simp), stF.live⟩
          have pF : PE X L as1 m h1 as2 σ' hF := ⟨stL, hrF, Ns_at p1.ns fun o e => stF.keep L o e p1.nin (by simp)⟩
          have P := p1.next pF
          show wpAny X.M A (assign (.Name y py) env (.ref (h1.objs.size + 1))) (fun _ s'' => ∃ m, s''.heap.Ns (h1.objs.size + 2) m ∧ ∀ h', Heap.SameBut (h1.objs.size + 2) s''.heap h' → Q .next { s'' with heap := h' }) E { s with heap := hF, toks := tk2 }
          refine wpAny_assign_Name (do_storeL (s := { s with heap := hF, toks := tk2 }) P hy (hxx as2 hpre) fun h4 tk4 m4 S => ?_)
          have CL : h1.objs.size + 2 ≠ L := p1.newL n2
          refine ⟨m2, Ns_at nsF fun o e => S.st.keep _ o e ninF (by simpa using CL), fun h5 hs5 => ?_⟩
          have k5 : ∀ b o, h4.get? b = some o → b ≠ h1.objs.size + 2 → h5.get? b = some o := fun b o e1 e2 => (hs5.2 b e2).trans e1
          have P4 := (P.nextS S).upd ninF CL (p1.newB n2) k5
          have nC : s.heap.get? (h1.objs.size + 2) = none := by
            cases z : s.heap.get? (h1.objs.size + 2) with
            | none => rfl
            | some o => obtain ⟨o', e'⟩ := q1.st.live _ o z; rw [n2] at e'; cases e'
          exact K .next h5 tk4 as2 m4 ⟨((q1.st.trans stL).trans S.st).upd nC k5, P4.hr, P4.ns, P4.lr⟩ rfl
        · exact absurd rfl h
    have n0 : h1.get? h1.objs.size = none := fresh_none h1
    have n2 : h1.get? (h1.objs.size + 2) = none := Heap.get?_none_of_le (Nat.le_add_right _ _)
    have itC : h1.objs.size ≠ h1.objs.size + 2 := by omega
    have itA : h1.objs.size ∉ as1 ++ [h1.objs.size + 1] := fun hm => by
      rcases List.mem_append.mp hm with hm | hm
      · exact p1.newIn n0 hm
      · have := List.mem_singleton.mp hm; omega
    unfold forOver at eL
    dsimp only at eL
    have gput : Mine.H.get (Mine.H.put σ1.h σ1.n (.list [])) rr = σ1.h.get rr := by rw [Mine.H.put_get _ _ _ _ (by omega), if_neg hrr]
    rw [gput] at eL
    cases g : σ1.h.get rr with
    | none => rw [g] at eL; cases eL
    | some o =>
      rw [g] at eL
      have ob := ref_obj p1 g
      have seq : ∀ (tu : Bool) (io : Obj) (tk : Tok), io.isFreed = false → (∀ h', h'.get? h1.objs.size = some io → IsIt tu h' h1.objs.size a0 0) → loopI (turn σ1.n) tu rr 1000 0 (unbs scope.names.length) ⟨σ1.h.put σ1.n (.list []), Nat.succ σ1.n⟩ = .fl f1 ρ1 σF →
          wpAny X.M A (newList []) (fun acc s₃ => wpAny X.M A (newFunctionEnv scope env.globals clo [] env.qual none .none (some env)) (fun cenv s₄ =>
            codeAny X.M A (.compStart (.ListComp elt [⟨.Name x px, it, ifs, 0⟩] scope pos) 0 (.ref h1.objs.size) acc { cenv with scope := relabel scope env })
              (compPost X.M A E (some (assign (.Name y py) env)) (fun _ s' => Q .next s') acc cenv.locals) s₄) E s₃) E { s with heap := h1.push io, toks := tk } := by
        intro tu io tk hfr hio eI
        refine tail io tk hfr fun env' h' tk' R P st gio pa pr hR => ?_
        have loop := comp_seq (s := { s with heap := h', toks := tk' }) (iter := it) (scope := scope) (pos := pos) (R := R) (T (env' := env')) P st n2 n0 (p1.newB n0) pr pa (hio h' gio) itA itC eI fun hF tk as' m' s1 s2 s3 s4 s6 s5 => hR hF tk as' m' s1 s2 s3 s4 s5 s6
        refine codeAny_compStart_list loop ?_
        cases tu with
        | true => exact wpAny_pyIter_tupleiter (hio h' gio) loop
        | false => exact wpAny_pyIter_listiter (hio h' gio) loop
      cases o with
      | range a b c =>
        dsimp only at eL
        cases sm : (small a && small b) with
        | false => rw [sm] at eL; cases eL
        | true =>
          rw [sm] at eL
          rw [Bool.and_eq_true] at sm
          cases q : rangeL a b c with
          | none => rw [q] at eL; cases eL
          | some vs =>
            rw [q] at eL
            obtain ⟨a', t, u, w, ea', ga⟩ := ob
            cases ea.symm.trans ea'
            obtain ⟨z1, z2, z3⟩ := rangeL_is sm.1 sm.2 q
            refine wpAny_pyIter_range ga z3 (tail { cls := .type "range_iterator", data := .fields #[rawInt a, rawInt (Builtin.Range.rangeSize a b c), rawInt c] } tk1 rfl fun env' h' tk' R P st gio pa pr hR => ?_)
            have g2 : IsRangeIter h' h1.objs.size a (vs.length : Nat) c := by
              rw [← z2]; exact gio
            have loop := comp_rng (s := { s with heap := h', toks := tk' }) (iter := it) (scope := scope) (pos := pos) (R := R) (T (env' := env')) P st n2 n0 (p1.newB n0) pa g2 z1 itA itC eL fun hF tk as' m' s1 s2 s3 s4 s6 s5 => hR hF tk as' m' s1 s2 s3 s4 s5 s6
            exact codeAny_compStart_list loop (wpAny_pyIter_rangeiter g2 loop)
      | list vs =>
        obtain ⟨a, l, w, ea', ga, vl⟩ := ob
        cases ea.symm.trans ea'
        exact wpAny_pyIter_list (items := l.toArray) ⟨_, ga, rfl, w, rfl⟩ (seq false { cls := .type "list_iterator", data := .fields #[.ref a0, .int 0 0] } tk1 rfl (fun h' hg => ⟨_, hg, rfl, rfl⟩) eL)
      | tup vs =>
        obtain ⟨a, l, ea', ga, vl⟩ := ob
        cases ea.symm.trans ea'
        exact wpAny_pyIter_tuple (items := l.toArray) ⟨_, ga, rfl, 0, rfl⟩ (seq true { cls := .type "tuple_iterator", data := .fields #[.ref a0, .int 0 0] } tk1 rfl (fun h' hg => ⟨_, hg, rfl, rfl⟩) eL)
      | _ => cases eL
  | _ => cases eL
end
end Mine

end
section
open PySem PySem.W PyProof.Rows PySem.Calls PySem.SeqAt
namespace Mine
section
variable {X : Cx} {n : Nat} {A : Around} {env : Env} {sc : Sc} {cl : Cl} {L : Addr} {as : List Addr} {m : Str → Option Value} {ρ : List AV} {σ σ' : St} {s : Shared} {E : Value → Shared → Prop}
theorem seq_rest (H : CB X n) {st : Stmt} {r : List Stmt} {t : T} {f1 f : Fl} {ρ1 ρ' : List AV} {σ1 : St} {Q : Flow → Shared → Prop} (rb : RB sc cl r t) (p : Pre X n A env sc cl L as m ρ σ s.heap)
    (e2 : (f1 = .next ∧ ev X.orc X.tbl n t ρ1 σ1 = .fl f ρ' σ') ∨ (f1 ≠ .next ∧ f1 = f ∧ ρ1 = ρ' ∧ σ1 = σ')) (k : PostS X L as s sc f ρ' σ' Q)
    (h : ∀ {Q : Flow → Shared → Prop}, PostS X L as s sc f1 ρ1 σ1 Q → wpAny X.M A (exec st env) Q E s) : wpAny X.M A (execs (st :: r) env) Q E s := by
  refine wpAny_execs_cons (h fun fl h' tk as' m' S hf => ?_)
  rcases e2 with ⟨rfl, e2⟩ | ⟨hn, rfl, rfl, rfl⟩
  · cases hf
    exact H (s := { s with heap := h', toks := tk }) rb (p.nextS S) e2 fun fl h2 tk2 as2 m2 S2 hf => k fl h2 tk2 as2 m2 (.after S.st S2) hf
  · have := k fl h' tk as' m' S hf
    cases f1 with
    | next => exact absurd rfl hn
    | cont => cases hf; exact this
    | ret y => obtain ⟨v, rfl, _⟩ := hf; exact this
theorem stepB (HA : ∀ j, j ≤ n → All X j) : CB X (n + 1) := by
  have H := HA n (Nat.le_refl _)
  intro t A env sc cl L as m ρ σ s b f ρ' σ' Q E r p e k
  cases r with
  | done => cases e; exact wpAny_execs_nil (k .next s.heap s.toks as m (PE.ps p (.refl p)) rfl)
  | seq rs rb =>
    obtain ⟨f1, ρ1, σ1, e1, e2⟩ := bindF_inv e
    exact seq_rest H.b rb p.pred e2 k fun k2 => H.s rs p.pred e1 k2
  | comp hy hl ok hany hx hs re ri rb =>
    obtain ⟨f1, ρ1, σ1, e1, e2⟩ := bindF_inv e
    cases n with
    | zero => cases e1
    | succ n =>
      have H' := HA n (Nat.le_succ n)
      exact seq_rest H.b rb p.pred e2 k fun k2 => do_comp (k := _) (turn := fun ai => compTurn (ev X.orc X.tbl n) ai _ _) H'.e (fun {_ _ _ _} => cturn H'.e (relab_loc hx) re) hy hl ok hany hx hs ri p.pred.pred e1 k2
  | compIf hy hl ok hany hx hs re ri rc rb =>
    obtain ⟨f1, ρ1, σ1, e1, e2⟩ := bindF_inv e
    cases n with
    | zero => cases e1
    | succ n =>
      have H' := HA n (Nat.le_succ n)
      exact seq_rest H.b rb p.pred e2 k fun k2 => do_comp (k := _) (turn := fun ai => compTurnIf (ev X.orc X.tbl n) ai _ _ _) H'.e (fun {_ _ _ _} => cturnIf H' (relab_loc hx) re rc) hy hl ok hany hx hs ri p.pred.pred e1 k2
theorem all_ok (O : X.Ok) : ∀ n, All X n := by
  intro n
  induction n using Nat.strongRecOn with
  | _ n ih =>
    cases n with
    | zero =>
      refine ⟨?_, ?_, ?_, ?_, ?_, ?_, ?_⟩
      · intro t A env sc cl L as m ρ σ s e x σ' Q E r p e k; cases e
      · intro t A env sc cl L as m ρ σ s e x b σ' Q E r p e ht k; cases e
      · intro t A env sc cl L as m ρ σ s o es x σ' Q E pos r p e k; cases e
      · intro t A env sc cl L as m ρ σ s o es x b σ' Q E r p e ht k; cases e
      · intro t A env sc cl L as m ρ σ s es xs σ' Q E pos r p e k; cases e
      · intro t A env sc cl L as m ρ σ s st f ρ' σ' Q E r p e k; cases e
      · intro t A env sc cl L as m ρ σ s b f ρ' σ' Q E r p e k; cases e
    | succ n =>
      have HA : ∀ j, j ≤ n → All X j := fun j hj => ih j (Nat.lt_succ_of_le hj)
      have H := HA n (Nat.le_refl _)
      have HE : CE X (n + 1) := stepE O H
      have HT : CT X (n + 1) := stepT H HE
      exact ⟨HE, HT, stepO H HE, stepOT H HT, stepL H, stepS O HA, stepB HA⟩
end
end Mine


end
section
namespace Mine
noncomputable def f0 : Fn := ⟨(nat_lit 2), (nat_lit 3), (.b .seq (.l .fail) (.b .seq (.b (.setAttr (nat_lit 0)) (.l (.loc (nat_lit 0))) (.l (.loc (nat_lit 1)))) (.l .done)))⟩
noncomputable def f1 : Fn := ⟨(nat_lit 2), (nat_lit 2), (.b .seq (.u .ret (.b (.op2 .add) (.b (.op2 .mul) (.l (.loc (nat_lit 0))) (.l (.int (.ofNat (nat_lit 8))))) (.l (.loc (nat_lit 1))))) (.l .done))⟩
noncomputable def f2 : Fn := ⟨(nat_lit 1), (nat_lit 1), (.b .seq (.u .ret (.b (.op2 .shr) (.l (.loc (nat_lit 0))) (.l (.int (.ofNat (nat_lit 3)))))) (.l .done))⟩
noncomputable def f3 : Fn := ⟨(nat_lit 1), (nat_lit 1), (.b .seq (.u .ret (.b (.op2 .band) (.l (.loc (nat_lit 0))) (.l (.int (.ofNat (nat_lit 7)))))) (.l .done))⟩
noncomputable def f4 : Fn := ⟨(nat_lit 4), (nat_lit 7), (.b .seq (.u (.asg (nat_lit 4)) (.l (.int (.ofNat (nat_lit 0))))) (.b .seq (.t .ifs (.b (.cmp .eq) (.l (.loc (nat_lit 2))) (.l (.gint (nat_lit 5) (.ofNat (nat_lit 1))))) (.b .seq (.u (.asg (nat_lit 4)) (.b (.op2 .sub) (.l (.loc (nat_lit 3))) (.l (.gint (nat_lit 6) (.ofNat (nat_lit 2)))))) (.l .done)) (.l .done)) (.b .seq (.u .ret (.b (.op2 .bor) (.b (.op2 .bor) (.b (.op2 .bor) (.l (.loc (nat_lit 1))) (.b (.op2 .shl) (.l (.loc (nat_lit 0))) (.l (.int (.ofNat (nat_lit 6)))))) (.b (.op2 .shl) (.l (.loc (nat_lit 4))) (.l (.int (.ofNat (nat_lit 12)))))) (.b (.op2 .shl) (.l (.loc (nat_lit 2))) (.l (.int (.ofNat (nat_lit 14))))))) (.l .done))))⟩
noncomputable def f5 : Fn := ⟨(nat_lit 1), (nat_lit 1), (.b .seq (.u .ret (.b (.op2 .band) (.b (.op2 .shr) (.l (.loc (nat_lit 0))) (.l (.int (.ofNat (nat_lit 6))))) (.l (.int (.ofNat (nat_lit 63)))))) (.l .done))⟩
noncomputable def f6 : Fn := ⟨(nat_lit 1), (nat_lit 1), (.b .seq (.u .ret (.b (.op2 .band) (.l (.loc (nat_lit 0))) (.l (.int (.ofNat (nat_lit 63)))))) (.l .done))⟩
noncomputable def f7 : Fn := ⟨(nat_lit 1), (nat_lit 1), (.b .seq (.u .ret (.b (.op2 .band) (.b (.op2 .shr) (.l (.loc (nat_lit 0))) (.l (.int (.ofNat (nat_lit 14))))) (.l (.int (.ofNat (nat_lit 3)))))) (.l .done))⟩
noncomputable def f8 : Fn := ⟨(nat_lit 1), (nat_lit 4), (.b .seq (.t .ifs (.b (.cmp .ne) (.b (.op2 .band) (.b (.op2 .shr) (.l (.loc (nat_lit 0))) (.l (.int (.ofNat (nat_lit 14))))) (.l (.int (.ofNat (nat_lit 3))))) (.l (.gint (nat_lit 1) (.ofNat (nat_lit 1))))) (.b .seq (.u .ret (.l (.gint (nat_lit 2) (.ofNat (nat_lit 0))))) (.l .done)) (.l .done)) (.b .seq (.u .ret (.b (.op2 .add) (.b (.op2 .band) (.b (.op2 .shr) (.l (.loc (nat_lit 0))) (.l (.int (.ofNat (nat_lit 12))))) (.l (.int (.ofNat (nat_lit 3))))) (.l (.gint (nat_lit 3) (.ofNat (nat_lit 2)))))) (.l .done)))⟩
noncomputable def f9 : Fn := ⟨(nat_lit 5), (nat_lit 5), (.b .seq (.b (.setAttr (nat_lit 14)) (.l (.loc (nat_lit 0))) (.l (.loc (nat_lit 1)))) (.b .seq (.b (.setAttr (nat_lit 13)) (.l (.loc (nat_lit 0))) (.l (.loc (nat_lit 2)))) (.b .seq (.b (.setAttr (nat_lit 12)) (.l (.loc (nat_lit 0))) (.b (.op2 .mul) (.l (.loc (nat_lit 1))) (.l (.loc (nat_lit 2))))) (.b .seq (.b (.setAttr (nat_lit 11)) (.l (.loc (nat_lit 0))) (.b (.op2 .sub) (.b (.op2 .shl) (.l (.int (.ofNat (nat_lit 1)))) (.b (.op2 .mul) (.l (.loc (nat_lit 1))) (.l (.loc (nat_lit 2))))) (.l (.int (.ofNat (nat_lit 1)))))) (.b .seq (.b (.setAttr (nat_lit 10)) (.l (.loc (nat_lit 0))) (.b .and (.l (.loc (nat_lit 3))) (.b (.cmp .ge) (.l (.loc (nat_lit 2))) (.l (.int (.ofNat (nat_lit 5))))))) (.b .seq (.b (.setAttr (nat_lit 9)) (.l (.loc (nat_lit 0))) (.l (.loc (nat_lit 4)))) (.b .seq (.b (.setAttr (nat_lit 8)) (.l (.loc (nat_lit 0))) (.u .list (.l .nil))) (.b .seq (.b (.setAttr (nat_lit 7)) (.l (.loc (nat_lit 0))) (.u .list (.l .nil))) (.b .seq (.b (.setAttr (nat_lit 6)) (.l (.loc (nat_lit 0))) (.u .list (.l .nil))) (.b .seq (.b (.setAttr (nat_lit 5)) (.l (.loc (nat_lit 0))) (.u .list (.l .nil))) (.b .seq (.b (.setAttr (nat_lit 4)) (.l (.loc (nat_lit 0))) (.u .list (.l .nil))) (.b .seq (.b (.setAttr (nat_lit 3)) (.l (.loc (nat_lit 0))) (.u .list (.b .cons (.u .list (.l .nil)) (.b .cons (.u .list (.l .nil)) (.l .nil))))) (.b .seq (.b (.setAttr (nat_lit 2)) (.l (.loc (nat_lit 0))) (.u .list (.l .nil))) (.b .seq (.b (.setAttr (nat_lit 1)) (.l (.loc (nat_lit 0))) (.u .list (.l .nil))) (.l .done)))))))))))))))⟩
noncomputable def f10 : Fn := ⟨(nat_lit 1), (nat_lit 2), (.b .seq (.u .ret (.b .or (.b (.cmp .gt) (.u (.gitem (nat_lit 1) (nat_lit 1)) (.l (.loc (nat_lit 0)))) (.l (.int (.ofNat (nat_lit 0))))) (.b (.cmp .eq) (.l (.loc (nat_lit 0))) (.l (.int (.ofNat (nat_lit 1))))))) (.l .done))⟩
noncomputable def f11 : Fn := ⟨(nat_lit 1), (nat_lit 6), (.b .seq (.u (.asg (nat_lit 1)) (.b (.op2 .sub) (.b (.op2 .shl) (.l (.int (.ofNat (nat_lit 1)))) (.u (.attr (nat_lit 14)) (.l (.loc (nat_lit 0))))) (.l (.int (.ofNat (nat_lit 1)))))) (.b .seq (.u (.asg (nat_lit 2)) (.l (.int (.ofNat (nat_lit 0))))) (.b .seq (.b (.for1 (nat_lit 3)) (.u (.range (nat_lit 5)) (.b .cons (.u (.attr (nat_lit 13)) (.l (.loc (nat_lit 0)))) (.l .nil))) (.b .seq (.b .app (.u (.attr (nat_lit 7)) (.l (.loc (nat_lit 0)))) (.b (.op2 .shl) (.l (.loc (nat_lit 1))) (.b (.op2 .mul) (.l (.loc (nat_lit 3))) (.u (.attr (nat_lit 14)) (.l (.loc (nat_lit 0))))))) (.b .seq (.u (.augN (nat_lit 2) .bor) (.b (.op2 .shl) (.l (.int (.ofNat (nat_lit 1)))) (.b (.op2 .mul) (.l (.loc (nat_lit 3))) (.u (.attr (nat_lit 14)) (.l (.loc (nat_lit 0))))))) (.l .done)))) (.b .seq (.b (.for1 (nat_lit 4)) (.u (.range (nat_lit 5)) (.b .cons (.u (.attr (nat_lit 14)) (.l (.loc (nat_lit 0)))) (.l .nil))) (.b .seq (.b .app (.u (.attr (nat_lit 8)) (.l (.loc (nat_lit 0)))) (.b (.op2 .shl) (.l (.loc (nat_lit 2))) (.l (.loc (nat_lit 4))))) (.l .done))) (.l .done)))))⟩
noncomputable def f12 : Fn := ⟨(nat_lit 2), (nat_lit 5), (.b .seq (.u (.asg (nat_lit 2)) (.l (.int (.ofNat (nat_lit 0))))) (.b .seq (.t .ifs (.b (.cmp .gt) (.u (.gitem (nat_lit 3) (nat_lit 0)) (.l (.loc (nat_lit 1)))) (.l (.int (.ofNat (nat_lit 0))))) (.b .seq (.u (.augN (nat_lit 2) .bor) (.b .item (.u (.attr (nat_lit 8)) (.l (.loc (nat_lit 0)))) (.b (.op2 .sub) (.u (.attr (nat_lit 14)) (.l (.loc (nat_lit 0)))) (.l (.int (.ofNat (nat_lit 1))))))) (.l .done)) (.l .done)) (.b .seq (.t .ifs (.b (.cmp .lt) (.u (.gitem (nat_lit 3) (nat_lit 0)) (.l (.loc (nat_lit 1)))) (.l (.int (.ofNat (nat_lit 0))))) (.b .seq (.u (.augN (nat_lit 2) .bor) (.b .item (.u (.attr (nat_lit 8)) (.l (.loc (nat_lit 0)))) (.l (.int (.ofNat (nat_lit 0)))))) (.l .done)) (.l .done)) (.b .seq (.t .ifs (.b (.cmp .gt) (.u (.gitem (nat_lit 4) (nat_lit 1)) (.l (.loc (nat_lit 1)))) (.l (.int (.ofNat (nat_lit 0))))) (.b .seq (.u (.augN (nat_lit 2) .bor) (.b .item (.u (.attr (nat_lit 7)) (.l (.loc (nat_lit 0)))) (.b (.op2 .sub) (.u (.attr (nat_lit 13)) (.l (.loc (nat_lit 0)))) (.l (.int (.ofNat (nat_lit 1))))))) (.l .done)) (.l .done)) (.b .seq (.t .ifs (.b (.cmp .lt) (.u (.gitem (nat_lit 4) (nat_lit 1)) (.l (.loc (nat_lit 1)))) (.l (.int (.ofNat (nat_lit 0))))) (.b .seq (.u (.augN (nat_lit 2) .bor) (.b .item (.u (.attr (nat_lit 7)) (.l (.loc (nat_lit 0)))) (.l (.int (.ofNat (nat_lit 0)))))) (.l .done)) (.l .done)) (.b .seq (.u .ret (.b (.op2 .band) (.u (.attr (nat_lit 11)) (.l (.loc (nat_lit 0)))) (.u .inv (.l (.loc (nat_lit 2)))))) (.l .done)))))))⟩
noncomputable def f13 : Fn := ⟨(nat_lit 1), (nat_lit 13), (.b .seq (.b (.setAttr (nat_lit 5)) (.l (.loc (nat_lit 0))) (.b (.op2 .mul) (.u .list (.b .cons (.l (.int (.ofNat (nat_lit 0)))) (.l .nil))) (.u (.attr (nat_lit 12)) (.l (.loc (nat_lit 0)))))) (.b .seq (.b (.for1 (nat_lit 1)) (.u (.range (nat_lit 8)) (.b .cons (.l (.int (.ofNat (nat_lit 8)))) (.l .nil))) (.b .seq (.u (.asg (nat_lit 2)) (.u (.call (nat_lit 9) (nat_lit 12)) (.b .cons (.l (.loc (nat_lit 0))) (.b .cons (.l (.loc (nat_lit 1))) (.l .nil))))) (.b .seq (.u (.asg (nat_lit 3)) (.b (.op2 .add) (.b (.op2 .mul) (.u (.gitem (nat_lit 10) (nat_lit 1)) (.l (.loc (nat_lit 1)))) (.u (.attr (nat_lit 14)) (.l (.loc (nat_lit 0))))) (.u (.gitem (nat_lit 11) (nat_lit 0)) (.l (.loc (nat_lit 1)))))) (.b .seq (.u (.asg (nat_lit 4)) (.b (.op2 .mul) (.u .list (.b .cons (.l (.int (.ofNat (nat_lit 0)))) (.l .nil))) (.u (.attr (nat_lit 12)) (.l (.loc (nat_lit 0)))))) (.b .seq (.u (.asg (nat_lit 5)) (.u (.range (nat_lit 8)) (.b .cons (.u (.attr (nat_lit 12)) (.l (.loc (nat_lit 0)))) (.l .nil)))) (.b .seq (.t .ifs (.u (.call (nat_lit 12) (nat_lit 10)) (.b .cons (.l (.loc (nat_lit 1))) (.l .nil))) (.b .seq (.u (.asg (nat_lit 5)) (.u (.range (nat_lit 8)) (.b .cons (.b (.op2 .sub) (.u (.attr (nat_lit 12)) (.l (.loc (nat_lit 0)))) (.l (.int (.ofNat (nat_lit 1))))) (.b .cons (.u .neg (.l (.int (.ofNat (nat_lit 1))))) (.b .cons (.u .neg (.l (.int (.ofNat (nat_lit 1))))) (.l .nil)))))) (.l .done)) (.l .done)) (.b .seq (.b (.for1 (nat_lit 6)) (.l (.loc (nat_lit 5))) (.b .seq (.t .ifs (.b (.op2 .band) (.b (.op2 .shr) (.l (.loc (nat_lit 2))) (.l (.loc (nat_lit 6)))) (.l (.int (.ofNat (nat_lit 1))))) (.b .seq (.u (.asg (nat_lit 7)) (.b (.op2 .add) (.l (.loc (nat_lit 6))) (.l (.loc (nat_lit 3))))) (.b .seq (.t .setItem (.l (.loc (nat_lit 4))) (.l (.loc (nat_lit 6))) (.b (.op2 .bor) (.b .item (.l (.loc (nat_lit 4))) (.l (.loc (nat_lit 7)))) (.b (.op2 .shl) (.l (.int (.ofNat (nat_lit 1)))) (.l (.loc (nat_lit 7)))))) (.b .seq (.t (.augI .bor) (.u (.attr (nat_lit 5)) (.l (.loc (nat_lit 0)))) (.l (.loc (nat_lit 6))) (.b (.op2 .shl) (.l (.int (.ofNat (nat_lit 1)))) (.l (.loc (nat_lit 7))))) (.l .done)))) (.l .done)) (.l .done))) (.b .seq (.b .app (.u (.attr (nat_lit 6)) (.l (.loc (nat_lit 0)))) (.l (.loc (nat_lit 4)))) (.l .done))))))))) (.l .done)))⟩
noncomputable def f14 : Fn := ⟨(nat_lit 1), (nat_lit 3), (.b .seq (.b (.for1 (nat_lit 1)) (.u (.range (nat_lit 2)) (.b .cons (.u (.attr (nat_lit 12)) (.l (.loc (nat_lit 0)))) (.l .nil))) (.b .seq (.b .app (.b .item (.u (.attr (nat_lit 3)) (.l (.loc (nat_lit 0)))) (.l (.int (.ofNat (nat_lit 0))))) (.b (.op2 .band) (.b .item (.u (.attr (nat_lit 5)) (.l (.loc (nat_lit 0)))) (.l (.loc (nat_lit 1)))) (.b (.op2 .bor) (.b .item (.b .item (.u (.attr (nat_lit 6)) (.l (.loc (nat_lit 0)))) (.l (.int (.ofNat (nat_lit 4))))) (.l (.loc (nat_lit 1)))) (.b .item (.b .item (.u (.attr (nat_lit 6)) (.l (.loc (nat_lit 0)))) (.l (.int (.ofNat (nat_lit 7))))) (.l (.loc (nat_lit 1))))))) (.b .seq (.b .app (.b .item (.u (.attr (nat_lit 3)) (.l (.loc (nat_lit 0)))) (.l (.int (.ofNat (nat_lit 1))))) (.b (.op2 .band) (.b .item (.u (.attr (nat_lit 5)) (.l (.loc (nat_lit 0)))) (.l (.loc (nat_lit 1)))) (.b (.op2 .bor) (.b .item (.b .item (.u (.attr (nat_lit 6)) (.l (.loc (nat_lit 0)))) (.l (.int (.ofNat (nat_lit 5))))) (.l (.loc (nat_lit 1)))) (.b .item (.b .item (.u (.attr (nat_lit 6)) (.l (.loc (nat_lit 0)))) (.l (.int (.ofNat (nat_lit 6))))) (.l (.loc (nat_lit 1))))))) (.l .done)))) (.l .done))⟩
noncomputable def f15 : Fn := ⟨(nat_lit 1), (nat_lit 12), (.b .seq (.u (.asg (nat_lit 1)) (.u (.attr (nat_lit 14)) (.l (.loc (nat_lit 0))))) (.b .seq (.u (.asg (nat_lit 2)) (.b (.op2 .band) (.u (.attr (nat_lit 11)) (.l (.loc (nat_lit 0)))) (.u .inv (.b .item (.u (.attr (nat_lit 8)) (.l (.loc (nat_lit 0)))) (.l (.int (.ofNat (nat_lit 0)))))))) (.b .seq (.u (.asg (nat_lit 3)) (.b (.op2 .band) (.u (.attr (nat_lit 11)) (.l (.loc (nat_lit 0)))) (.u .inv (.b .item (.u (.attr (nat_lit 8)) (.l (.loc (nat_lit 0)))) (.b (.op2 .sub) (.l (.loc (nat_lit 1))) (.l (.int (.ofNat (nat_lit 1))))))))) (.b .seq (.u (.asg (nat_lit 4)) (.b (.op2 .band) (.l (.loc (nat_lit 2))) (.u .inv (.b .item (.u (.attr (nat_lit 8)) (.l (.loc (nat_lit 0)))) (.l (.int (.ofNat (nat_lit 1)))))))) (.b .seq (.u (.asg (nat_lit 5)) (.b (.op2 .band) (.l (.loc (nat_lit 3))) (.u .inv (.b .item (.u (.attr (nat_lit 8)) (.l (.loc (nat_lit 0)))) (.b (.op2 .sub) (.l (.loc (nat_lit 1))) (.l (.int (.ofNat (nat_lit 2))))))))) (.b .seq (.b (.for1 (nat_lit 6)) (.u (.range (nat_lit 11)) (.b .cons (.u (.attr (nat_lit 12)) (.l (.loc (nat_lit 0)))) (.l .nil))) (.b .seq (.u (.asg (nat_lit 7)) (.b (.op2 .shl) (.l (.int (.ofNat (nat_lit 1)))) (.l (.loc (nat_lit 6))))) (.b .seq (.u (.asg (nat_lit 8)) (.b (.op2 .bor) (.b (.op2 .band) (.b (.op2 .shl) (.l (.loc (nat_lit 7))) (.l (.int (.ofNat (nat_lit 1))))) (.l (.loc (nat_lit 2)))) (.b (.op2 .band) (.b (.op2 .shr) (.l (.loc (nat_lit 7))) (.l (.int (.ofNat (nat_lit 1))))) (.l (.loc (nat_lit 3)))))) (.b .seq (.u (.asg (nat_lit 9)) (.b (.op2 .bor) (.b (.op2 .band) (.b (.op2 .shl) (.l (.loc (nat_lit 7))) (.l (.int (.ofNat (nat_lit 2))))) (.l (.loc (nat_lit 4)))) (.b (.op2 .band) (.b (.op2 .shr) (.l (.loc (nat_lit 7))) (.l (.int (.ofNat (nat_lit 2))))) (.l (.loc (nat_lit 5)))))) (.b .seq (.u (.asg (nat_lit 10)) (.b (.op2 .bor) (.b (.op2 .bor) (.b (.op2 .bor) (.b (.op2 .shl) (.l (.loc (nat_lit 8))) (.b (.op2 .mul) (.l (.int (.ofNat (nat_lit 2)))) (.l (.loc (nat_lit 1))))) (.b (.op2 .shr) (.l (.loc (nat_lit 8))) (.b (.op2 .mul) (.l (.int (.ofNat (nat_lit 2)))) (.l (.loc (nat_lit 1)))))) (.b (.op2 .shl) (.l (.loc (nat_lit 9))) (.l (.loc (nat_lit 1))))) (.b (.op2 .shr) (.l (.loc (nat_lit 9))) (.l (.loc (nat_lit 1)))))) (.b .seq (.b .app (.u (.attr (nat_lit 4)) (.l (.loc (nat_lit 0)))) (.b (.op2 .band) (.l (.loc (nat_lit 10))) (.u (.attr (nat_lit 11)) (.l (.loc (nat_lit 0)))))) (.l .done))))))) (.l .done)))))))⟩
noncomputable def f16 : Fn := ⟨(nat_lit 1), (nat_lit 8), (.b .seq (.b (.setAttr (nat_lit 1)) (.l (.loc (nat_lit 0))) (.b (.op2 .mul) (.u .list (.b .cons (.l (.int (.ofNat (nat_lit 0)))) (.l .nil))) (.u (.attr (nat_lit 12)) (.l (.loc (nat_lit 0)))))) (.b .seq (.u (.asg (nat_lit 1)) (.b (.op2 .fdv) (.u (.attr (nat_lit 14)) (.l (.loc (nat_lit 0)))) (.l (.int (.ofNat (nat_lit 2)))))) (.b .seq (.b (.for1 (nat_lit 2)) (.u (.range (nat_lit 7)) (.b .cons (.l (.int (.ofNat (nat_lit 4)))) (.l .nil))) (.b .seq (.u (.asg (nat_lit 3)) (.b (.op2 .mul) (.b (.op2 .mul) (.b (.op2 .shr) (.l (.loc (nat_lit 2))) (.l (.int (.ofNat (nat_lit 1))))) (.b (.op2 .sub) (.u (.attr (nat_lit 13)) (.l (.loc (nat_lit 0)))) (.l (.int (.ofNat (nat_lit 1)))))) (.u (.attr (nat_lit 14)) (.l (.loc (nat_lit 0)))))) (.b .seq (.u (.asg (nat_lit 4)) (.b (.op2 .sub) (.u (.attr (nat_lit 14)) (.l (.loc (nat_lit 0)))) (.l (.int (.ofNat (nat_lit 1)))))) (.b .seq (.u (.asg (nat_lit 5)) (.l (.int (.ofNat (nat_lit 1))))) (.b .seq (.t .ifs (.b (.op2 .band) (.l (.loc (nat_lit 2))) (.l (.int (.ofNat (nat_lit 1))))) (.b .seq (.u (.asg (nat_lit 4)) (.l (.int (.ofNat (nat_lit 0))))) (.b .seq (.u (.asg (nat_lit 5)) (.u .neg (.l (.int (.ofNat (nat_lit 1)))))) (.l .done))) (.l .done)) (.b .seq (.u (.asg (nat_lit 6)) (.b (.op2 .add) (.l (.loc (nat_lit 1))) (.b (.op2 .mul) (.l (.int (.ofNat (nat_lit 2)))) (.l (.loc (nat_lit 5)))))) (.b .seq (.t .ifs (.b .and (.u (.attr (nat_lit 9)) (.l (.loc (nat_lit 0)))) (.b (.cmp .gt) (.b (.op2 .mul) (.b (.op2 .sub) (.l (.loc (nat_lit 4))) (.l (.loc (nat_lit 6)))) (.l (.loc (nat_lit 5)))) (.l (.int (.ofNat (nat_lit 0)))))) (.b .seq (.b .app (.u (.attr (nat_lit 2)) (.l (.loc (nat_lit 0)))) (.u .tup (.b .cons (.b (.op2 .add) (.l (.loc (nat_lit 3))) (.l (.loc (nat_lit 1)))) (.b .cons (.b (.op2 .add) (.l (.loc (nat_lit 3))) (.l (.loc (nat_lit 6)))) (.b .cons (.b (.op2 .add) (.l (.loc (nat_lit 3))) (.l (.loc (nat_lit 4)))) (.b .cons (.b (.op2 .sub) (.b (.op2 .add) (.l (.loc (nat_lit 3))) (.l (.loc (nat_lit 6)))) (.l (.loc (nat_lit 5)))) (.l .nil))))))) (.b .seq (.t (.augI .bor) (.u (.attr (nat_lit 1)) (.l (.loc (nat_lit 0)))) (.b (.op2 .add) (.l (.loc (nat_lit 3))) (.l (.loc (nat_lit 1)))) (.b (.op2 .shl) (.l (.int (.ofNat (nat_lit 1)))) (.l (.loc (nat_lit 2))))) (.b .seq (.t (.augI .bor) (.u (.attr (nat_lit 1)) (.l (.loc (nat_lit 0)))) (.b (.op2 .add) (.l (.loc (nat_lit 3))) (.l (.loc (nat_lit 4)))) (.b (.op2 .shl) (.l (.int (.ofNat (nat_lit 1)))) (.l (.loc (nat_lit 2))))) (.l .done)))) (.b .seq (.b .app (.u (.attr (nat_lit 2)) (.l (.loc (nat_lit 0)))) (.l .non)) (.l .done))) (.l .done)))))))) (.l .done))))⟩
noncomputable def f17 : Fn := ⟨(nat_lit 4), (nat_lit 12), (.b .seq (.t .ifs (.b .or (.b (.cmp .lt) (.l (.loc (nat_lit 0))) (.l (.int (.ofNat (nat_lit 2))))) (.b .or (.b (.cmp .gt) (.l (.loc (nat_lit 0))) (.l (.int (.ofNat (nat_lit 8))))) (.b .or (.b (.cmp .lt) (.l (.loc (nat_lit 1))) (.l (.int (.ofNat (nat_lit 3))))) (.b (.cmp .gt) (.l (.loc (nat_lit 1))) (.l (.int (.ofNat (nat_lit 8)))))))) (.b .seq (.l .fail) (.l .done)) (.l .done)) (.b .seq (.u (.asg (nat_lit 4)) (.u (.new (nat_lit 6) (nat_lit 9)) (.b .cons (.l (.loc (nat_lit 0))) (.b .cons (.l (.loc (nat_lit 1))) (.b .cons (.l (.loc (nat_lit 2))) (.b .cons (.l (.loc (nat_lit 3))) (.l .nil))))))) (.b .seq (.u .ex (.u (.call (nat_lit 7) (nat_lit 11)) (.b .cons (.l (.loc (nat_lit 4))) (.l .nil)))) (.b .seq (.u .ex (.u (.call (nat_lit 8) (nat_lit 13)) (.b .cons (.l (.loc (nat_lit 4))) (.l .nil)))) (.b .seq (.u .ex (.u (.call (nat_lit 9) (nat_lit 14)) (.b .cons (.l (.loc (nat_lit 4))) (.l .nil)))) (.b .seq (.u .ex (.u (.call (nat_lit 10) (nat_lit 15)) (.b .cons (.l (.loc (nat_lit 4))) (.l .nil)))) (.b .seq (.u .ex (.u (.call (nat_lit 11) (nat_lit 16)) (.b .cons (.l (.loc (nat_lit 4))) (.l .nil)))) (.b .seq (.u .ret (.l (.loc (nat_lit 4)))) (.l .done)))))))))⟩
noncomputable def f18 : Fn := ⟨(nat_lit 4), (nat_lit 8), (.b .seq (.u (.asg (nat_lit 4)) (.b .item (.b .item (.u (.attr (nat_lit 6)) (.l (.loc (nat_lit 0)))) (.l (.loc (nat_lit 1)))) (.l (.loc (nat_lit 2))))) (.b .seq (.u (.asg (nat_lit 5)) (.b (.op2 .band) (.l (.loc (nat_lit 4))) (.l (.loc (nat_lit 3))))) (.b .seq (.t .ifs (.b (.cmp .eq) (.l (.loc (nat_lit 5))) (.l (.int (.ofNat (nat_lit 0))))) (.b .seq (.u .ret (.l (.loc (nat_lit 4)))) (.l .done)) (.l .done)) (.b .seq (.t .ifs (.u (.call (nat_lit 7) (nat_lit 10)) (.b .cons (.l (.loc (nat_lit 1))) (.l .nil))) (.b .seq (.u .ret (.b (.op2 .band) (.l (.loc (nat_lit 4))) (.b (.op2 .bxor) (.l (.loc (nat_lit 5))) (.b (.op2 .sub) (.l (.loc (nat_lit 5))) (.l (.int (.ofNat (nat_lit 1)))))))) (.l .done)) (.l .done)) (.b .seq (.u (.asg (nat_lit 6)) (.b (.op2 .shr) (.l (.loc (nat_lit 5))) (.l (.int (.ofNat (nat_lit 1)))))) (.b .seq (.u (.augN (nat_lit 6) .bor) (.b (.op2 .shr) (.l (.loc (nat_lit 6))) (.l (.int (.ofNat (nat_lit 1)))))) (.b .seq (.u (.augN (nat_lit 6) .bor) (.b (.op2 .shr) (.l (.loc (nat_lit 6))) (.l (.int (.ofNat (nat_lit 2)))))) (.b .seq (.u (.augN (nat_lit 6) .bor) (.b (.op2 .shr) (.l (.loc (nat_lit 6))) (.l (.int (.ofNat (nat_lit 4)))))) (.b .seq (.u (.augN (nat_lit 6) .bor) (.b (.op2 .shr) (.l (.loc (nat_lit 6))) (.l (.int (.ofNat (nat_lit 8)))))) (.b .seq (.u (.augN (nat_lit 6) .bor) (.b (.op2 .shr) (.l (.loc (nat_lit 6))) (.l (.int (.ofNat (nat_lit 16)))))) (.b .seq (.u (.augN (nat_lit 6) .bor) (.b (.op2 .shr) (.l (.loc (nat_lit 6))) (.l (.int (.ofNat (nat_lit 32)))))) (.b .seq (.u .ret (.b (.op2 .band) (.l (.loc (nat_lit 4))) (.u .inv (.l (.loc (nat_lit 6)))))) (.l .done)))))))))))))⟩
noncomputable def f19 : Fn := ⟨(nat_lit 3), (nat_lit 7), (.b .seq (.u (.asg (nat_lit 3)) (.l (.int (.ofNat (nat_lit 0))))) (.b .seq (.b (.for1 (nat_lit 4)) (.u (.range (nat_lit 5)) (.b .cons (.l (.int (.ofNat (nat_lit 4)))) (.l .nil))) (.b .seq (.u (.augN (nat_lit 3) .bor) (.u (.call (nat_lit 6) (nat_lit 18)) (.b .cons (.l (.loc (nat_lit 0))) (.b .cons (.l (.loc (nat_lit 4))) (.b .cons (.l (.loc (nat_lit 1))) (.b .cons (.l (.loc (nat_lit 2))) (.l .nil))))))) (.l .done))) (.b .seq (.u .ret (.l (.loc (nat_lit 3)))) (.l .done))))⟩
noncomputable def f20 : Fn := ⟨(nat_lit 3), (nat_lit 7), (.b .seq (.u (.asg (nat_lit 3)) (.l (.int (.ofNat (nat_lit 0))))) (.b .seq (.b (.for1 (nat_lit 4)) (.u (.range (nat_lit 5)) (.b .cons (.l (.int (.ofNat (nat_lit 4)))) (.b .cons (.l (.int (.ofNat (nat_lit 8)))) (.l .nil)))) (.b .seq (.u (.augN (nat_lit 3) .bor) (.u (.call (nat_lit 6) (nat_lit 18)) (.b .cons (.l (.loc (nat_lit 0))) (.b .cons (.l (.loc (nat_lit 4))) (.b .cons (.l (.loc (nat_lit 1))) (.b .cons (.l (.loc (nat_lit 2))) (.l .nil))))))) (.l .done))) (.b .seq (.u .ret (.l (.loc (nat_lit 3)))) (.l .done))))⟩
noncomputable def f21 : Fn := ⟨(nat_lit 3), (nat_lit 5), (.b .seq (.u .ret (.b (.op2 .bor) (.u (.call (nat_lit 3) (nat_lit 19)) (.b .cons (.l (.loc (nat_lit 0))) (.b .cons (.l (.loc (nat_lit 1))) (.b .cons (.l (.loc (nat_lit 2))) (.l .nil))))) (.u (.call (nat_lit 4) (nat_lit 20)) (.b .cons (.l (.loc (nat_lit 0))) (.b .cons (.l (.loc (nat_lit 1))) (.b .cons (.l (.loc (nat_lit 2))) (.l .nil))))))) (.l .done))⟩
noncomputable def f22 : Fn := ⟨(nat_lit 4), (nat_lit 10), (.b .seq (.t .ifs (.b (.cmp .eq) (.l (.loc (nat_lit 1))) (.l (.gint (nat_lit 4) (.ofNat (nat_lit 3))))) (.b .seq (.u .ret (.u (.call (nat_lit 5) (nat_lit 20)) (.b .cons (.l (.loc (nat_lit 0))) (.b .cons (.l (.loc (nat_lit 2))) (.b .cons (.l (.loc (nat_lit 3))) (.l .nil)))))) (.l .done)) (.l .done)) (.b .seq (.t .ifs (.b (.cmp .eq) (.l (.loc (nat_lit 1))) (.l (.gint (nat_lit 6) (.ofNat (nat_lit 4))))) (.b .seq (.u .ret (.u (.call (nat_lit 7) (nat_lit 19)) (.b .cons (.l (.loc (nat_lit 0))) (.b .cons (.l (.loc (nat_lit 2))) (.b .cons (.l (.loc (nat_lit 3))) (.l .nil)))))) (.l .done)) (.l .done)) (.b .seq (.t .ifs (.b (.cmp .eq) (.l (.loc (nat_lit 1))) (.l (.gint (nat_lit 8) (.ofNat (nat_lit 5))))) (.b .seq (.u .ret (.u (.call (nat_lit 9) (nat_lit 21)) (.b .cons (.l (.loc (nat_lit 0))) (.b .cons (.l (.loc (nat_lit 2))) (.b .cons (.l (.loc (nat_lit 3))) (.l .nil)))))) (.l .done)) (.l .done)) (.b .seq (.u .ret (.l (.int (.ofNat (nat_lit 0))))) (.l .done)))))⟩
noncomputable def f23 : Fn := ⟨(nat_lit 5), (nat_lit 9), (.b .seq (.t .ifs (.b (.cmp .eq) (.l (.loc (nat_lit 2))) (.l (.gint (nat_lit 5) (.ofNat (nat_lit 1))))) (.b .seq (.u .ret (.b .item (.b .item (.u (.attr (nat_lit 3)) (.l (.loc (nat_lit 0)))) (.l (.loc (nat_lit 1)))) (.l (.loc (nat_lit 3))))) (.l .done)) (.l .done)) (.b .seq (.t .ifs (.b (.cmp .eq) (.l (.loc (nat_lit 2))) (.l (.gint (nat_lit 6) (.ofNat (nat_lit 2))))) (.b .seq (.u .ret (.b .item (.u (.attr (nat_lit 4)) (.l (.loc (nat_lit 0)))) (.l (.loc (nat_lit 3))))) (.l .done)) (.l .done)) (.b .seq (.t .ifs (.b (.cmp .eq) (.l (.loc (nat_lit 2))) (.l (.gint (nat_lit 7) (.ofNat (nat_lit 6))))) (.b .seq (.u .ret (.b .item (.u (.attr (nat_lit 5)) (.l (.loc (nat_lit 0)))) (.l (.loc (nat_lit 3))))) (.l .done)) (.l .done)) (.b .seq (.u .ret (.u (.call (nat_lit 8) (nat_lit 22)) (.b .cons (.l (.loc (nat_lit 0))) (.b .cons (.l (.loc (nat_lit 2))) (.b .cons (.l (.loc (nat_lit 3))) (.b .cons (.l (.loc (nat_lit 4))) (.l .nil))))))) (.l .done)))))⟩
noncomputable def f24 : Fn := ⟨(nat_lit 3), (nat_lit 15), (.b .seq (.u (.asg (nat_lit 3)) (.b (.op2 .mul) (.u .list (.b .cons (.l (.gint (nat_lit 10) (.negSucc (nat_lit 0)))) (.l .nil))) (.u (.len (nat_lit 11)) (.l (.loc (nat_lit 1)))))) (.b .seq (.u (.asg (nat_lit 4)) (.u .list (.l .nil))) (.b .seq (.b (.comp (nat_lit 6) (nat_lit 1) (nat_lit 2)) (.u .list (.l .nil)) (.l (.loc (nat_lit 1)))) (.b .seq (.u (.asg (nat_lit 7)) (.u .list (.l .nil))) (.b .seq (.b (.for1 (nat_lit 5)) (.u (.range (nat_lit 12)) (.b .cons (.u (.len (nat_lit 11)) (.l (.loc (nat_lit 1)))) (.l .nil))) (.b .seq (.b .app (.l (.loc (nat_lit 4))) (.u (.len (nat_lit 11)) (.b .item (.l (.loc (nat_lit 1))) (.l (.loc (nat_lit 5)))))) (.b .seq (.b (.for1 (nat_lit 8)) (.b .item (.l (.loc (nat_lit 1))) (.l (.loc (nat_lit 5)))) (.b .seq (.t .ifs (.b (.cmp .ne) (.l (.loc (nat_lit 8))) (.l (.gint (nat_lit 13) (.negSucc (nat_lit 0))))) (.b .seq (.b .app (.b .item (.l (.loc (nat_lit 6))) (.l (.loc (nat_lit 8)))) (.l (.loc (nat_lit 5)))) (.l .done)) (.l .done)) (.l .done))) (.b .seq (.t .ifs (.b .item (.l (.loc (nat_lit 2))) (.l (.loc (nat_lit 5)))) (.b .seq (.t .setItem (.l (.loc (nat_lit 3))) (.l (.loc (nat_lit 5))) (.l (.int (.ofNat (nat_lit 0))))) (.b .seq (.b .app (.l (.loc (nat_lit 7))) (.l (.loc (nat_lit 5)))) (.l .done))) (.l .done)) (.l .done))))) (.b .seq (.u (.asg (nat_lit 9)) (.l (.int (.ofNat (nat_lit 0))))) (.b .seq (.b .while (.b (.cmp .lt) (.l (.loc (nat_lit 9))) (.u (.len (nat_lit 11)) (.l (.loc (nat_lit 7))))) (.b .seq (.u (.asg (nat_lit 8)) (.b .item (.l (.loc (nat_lit 7))) (.l (.loc (nat_lit 9))))) (.b .seq (.u (.augN (nat_lit 9) .add) (.l (.int (.ofNat (nat_lit 1))))) (.b .seq (.b (.for1 (nat_lit 5)) (.b .item (.l (.loc (nat_lit 6))) (.l (.loc (nat_lit 8)))) (.b .seq (.t (.augI .sub) (.l (.loc (nat_lit 4))) (.l (.loc (nat_lit 5))) (.l (.int (.ofNat (nat_lit 1))))) (.b .seq (.t .ifs (.b .and (.b (.cmp .eq) (.b .item (.l (.loc (nat_lit 3))) (.l (.loc (nat_lit 5)))) (.l (.gint (nat_lit 10) (.negSucc (nat_lit 0))))) (.b .or (.b (.cmp .eq) (.b .item (.l (.loc (nat_lit 0))) (.l (.loc (nat_lit 5)))) (.l (.gint (nat_lit 14) (.ofNat (nat_lit 0))))) (.b (.cmp .eq) (.b .item (.l (.loc (nat_lit 4))) (.l (.loc (nat_lit 5)))) (.l (.int (.ofNat (nat_lit 0))))))) (.b .seq (.t .setItem (.l (.loc (nat_lit 3))) (.l (.loc (nat_lit 5))) (.b (.op2 .add) (.b .item (.l (.loc (nat_lit 3))) (.l (.loc (nat_lit 8)))) (.l (.int (.ofNat (nat_lit 1)))))) (.b .seq (.b .app (.l (.loc (nat_lit 7))) (.l (.loc (nat_lit 5)))) (.l .done))) (.l .done)) (.l .done)))) (.l .done))))) (.b .seq (.u .ret (.l (.loc (nat_lit 3)))) (.l .done)))))))))⟩
noncomputable def f25 : Fn := ⟨(nat_lit 5), (nat_lit 5), (.b .seq (.u .ret (.b (.op2 .add) (.b (.op2 .mul) (.b (.op2 .add) (.b (.op2 .mul) (.b (.op2 .add) (.b (.op2 .mul) (.l (.loc (nat_lit 1))) (.l (.loc (nat_lit 0)))) (.l (.loc (nat_lit 2)))) (.l (.loc (nat_lit 0)))) (.l (.loc (nat_lit 3)))) (.l (.loc (nat_lit 0)))) (.l (.loc (nat_lit 4))))) (.l .done))⟩
noncomputable def f26 : Fn := ⟨(nat_lit 2), (nat_lit 2), (.b .seq (.u .ret (.u .tup (.b .cons (.b (.op2 .fdv) (.l (.loc (nat_lit 1))) (.b (.op2 .mul) (.b (.op2 .mul) (.l (.loc (nat_lit 0))) (.l (.loc (nat_lit 0)))) (.l (.loc (nat_lit 0))))) (.b .cons (.b (.op2 .md) (.b (.op2 .fdv) (.l (.loc (nat_lit 1))) (.b (.op2 .mul) (.l (.loc (nat_lit 0))) (.l (.loc (nat_lit 0))))) (.l (.loc (nat_lit 0)))) (.b .cons (.b (.op2 .md) (.b (.op2 .fdv) (.l (.loc (nat_lit 1))) (.l (.loc (nat_lit 0)))) (.l (.loc (nat_lit 0)))) (.b .cons (.b (.op2 .md) (.l (.loc (nat_lit 1))) (.l (.loc (nat_lit 0)))) (.l .nil))))))) (.l .done))⟩
noncomputable def f27 : Fn := ⟨(nat_lit 4), (nat_lit 19), (.b .seq (.u (.asg (nat_lit 4)) (.u (.attr (nat_lit 12)) (.l (.loc (nat_lit 0))))) (.b .seq (.u (.asg (nat_lit 5)) (.u .list (.l .nil))) (.b .seq (.b (.for1 (nat_lit 6)) (.u (.range (nat_lit 12)) (.b .cons (.l (.loc (nat_lit 4))) (.l .nil))) (.b .seq (.b (.for1 (nat_lit 7)) (.u (.range (nat_lit 12)) (.b .cons (.l (.loc (nat_lit 4))) (.l .nil))) (.b .seq (.u (.asg (nat_lit 8)) (.b (.op2 .band) (.u (.attr (nat_lit 11)) (.l (.loc (nat_lit 0)))) (.u .inv (.b (.op2 .bor) (.b (.op2 .bor) (.b .item (.u (.attr (nat_lit 5)) (.l (.loc (nat_lit 0)))) (.l (.loc (nat_lit 6)))) (.b (.op2 .shl) (.l (.int (.ofNat (nat_lit 1)))) (.l (.loc (nat_lit 6))))) (.b (.op2 .shl) (.l (.int (.ofNat (nat_lit 1)))) (.l (.loc (nat_lit 7)))))))) (.b .seq (.t .ifs (.b .or (.b (.cmp .eq) (.b (.op2 .band) (.b (.op2 .shr) (.l (.loc (nat_lit 2))) (.l (.loc (nat_lit 6)))) (.l (.int (.ofNat (nat_lit 1))))) (.l (.int (.ofNat (nat_lit 0))))) (.b .or (.b (.cmp .eq) (.l (.loc (nat_lit 7))) (.l (.loc (nat_lit 6)))) (.b (.cmp .eq) (.l (.loc (nat_lit 8))) (.l (.int (.ofNat (nat_lit 0))))))) (.b .seq (.l .cont) (.l .done)) (.l .done)) (.b .seq (.u (.asg (nat_lit 9)) (.u (.call (nat_lit 13) (nat_lit 23)) (.b .cons (.l (.loc (nat_lit 0))) (.b .cons (.l (.gint (nat_lit 14) (.ofNat (nat_lit 0)))) (.b .cons (.l (.loc (nat_lit 1))) (.b .cons (.l (.loc (nat_lit 7))) (.b .cons (.b (.op2 .shl) (.l (.int (.ofNat (nat_lit 1)))) (.l (.loc (nat_lit 6)))) (.l .nil)))))))) (.b .seq (.b (.for1 (nat_lit 10)) (.u (.range (nat_lit 12)) (.b .cons (.l (.loc (nat_lit 4))) (.l .nil))) (.b .seq (.t .ifs (.b (.op2 .band) (.b (.op2 .shr) (.l (.loc (nat_lit 8))) (.l (.loc (nat_lit 10)))) (.l (.int (.ofNat (nat_lit 1))))) (.b .seq (.b .app (.l (.loc (nat_lit 5))) (.u (.call (nat_lit 15) (nat_lit 25)) (.b .cons (.l (.loc (nat_lit 4))) (.b .cons (.l (.gint (nat_lit 16) (.ofNat (nat_lit 1)))) (.b .cons (.l (.loc (nat_lit 6))) (.b .cons (.l (.loc (nat_lit 7))) (.b .cons (.l (.loc (nat_lit 10))) (.l .nil)))))))) (.b .seq (.t .ifs (.b (.cmp .eq) (.b (.op2 .band) (.b (.op2 .shr) (.l (.loc (nat_lit 9))) (.l (.loc (nat_lit 10)))) (.l (.int (.ofNat (nat_lit 1))))) (.l (.int (.ofNat (nat_lit 0))))) (.b .seq (.b .app (.l (.loc (nat_lit 5))) (.u (.call (nat_lit 15) (nat_lit 25)) (.b .cons (.l (.loc (nat_lit 4))) (.b .cons (.l (.gint (nat_lit 17) (.ofNat (nat_lit 0)))) (.b .cons (.l (.loc (nat_lit 6))) (.b .cons (.l (.loc (nat_lit 7))) (.b .cons (.l (.loc (nat_lit 10))) (.l .nil)))))))) (.l .done)) (.l .done)) (.l .done))) (.l .done)) (.l .done))) (.l .done)))))) (.l .done))) (.b .seq (.b (.for1 (nat_lit 11)) (.l (.loc (nat_lit 5))) (.b .seq (.t .setItem (.l (.loc (nat_lit 3))) (.l (.loc (nat_lit 11))) (.l (.gint (nat_lit 18) (.negSucc (nat_lit 0))))) (.l .done))) (.b .seq (.u .ret (.l (.loc (nat_lit 5)))) (.l .done))))))⟩
noncomputable def f28 : Fn := ⟨(nat_lit 5), (nat_lit 14), (.b .seq (.u (.asg (nat_lit 5)) (.u .list (.l .nil))) (.b .seq (.u (.asg (nat_lit 6)) (.b .item (.u (.attr (nat_lit 5)) (.l (.loc (nat_lit 0)))) (.l (.loc (nat_lit 4))))) (.b .seq (.b (.for1 (nat_lit 7)) (.u (.range (nat_lit 9)) (.b .cons (.u (.attr (nat_lit 12)) (.l (.loc (nat_lit 0)))) (.l .nil))) (.b .seq (.t .ifs (.b (.cmp .eq) (.b (.op2 .band) (.b (.op2 .shr) (.l (.loc (nat_lit 6))) (.l (.loc (nat_lit 7)))) (.l (.int (.ofNat (nat_lit 1))))) (.l (.int (.ofNat (nat_lit 0))))) (.b .seq (.l .cont) (.l .done)) (.l .done)) (.b .seq (.t .ifs (.b (.cmp .eq) (.l (.loc (nat_lit 7))) (.l (.loc (nat_lit 3)))) (.b .seq (.t .ifs (.b (.cmp .eq) (.b (.op2 .band) (.b (.op2 .shr) (.b .item (.u (.attr (nat_lit 5)) (.l (.loc (nat_lit 0)))) (.l (.loc (nat_lit 2)))) (.l (.loc (nat_lit 3)))) (.l (.int (.ofNat (nat_lit 1))))) (.l (.int (.ofNat (nat_lit 0))))) (.b .seq (.b .app (.l (.loc (nat_lit 5))) (.u .tup (.b .cons (.l (.loc (nat_lit 4))) (.b .cons (.l (.loc (nat_lit 7))) (.b .cons (.l (.gint (nat_lit 10) (.negSucc (nat_lit 0)))) (.l .nil)))))) (.l .done)) (.l .done)) (.l .done)) (.b .seq (.u (.asg (nat_lit 8)) (.u (.call (nat_lit 11) (nat_lit 25)) (.b .cons (.u (.attr (nat_lit 12)) (.l (.loc (nat_lit 0)))) (.b .cons (.l (.gint (nat_lit 12) (.ofNat (nat_lit 0)))) (.b .cons (.l (.loc (nat_lit 2))) (.b .cons (.l (.loc (nat_lit 3))) (.b .cons (.l (.loc (nat_lit 7))) (.l .nil)))))))) (.b .seq (.t .ifs (.b (.cmp .ne) (.b .item (.l (.loc (nat_lit 1))) (.l (.loc (nat_lit 8)))) (.l (.gint (nat_lit 13) (.negSucc (nat_lit 1))))) (.b .seq (.b .app (.l (.loc (nat_lit 5))) (.u .tup (.b .cons (.l (.loc (nat_lit 4))) (.b .cons (.l (.loc (nat_lit 7))) (.b .cons (.l (.loc (nat_lit 8))) (.l .nil)))))) (.l .done)) (.l .done)) (.l .done)))) (.l .done)))) (.b .seq (.u .ret (.l (.loc (nat_lit 5)))) (.l .done)))))⟩
noncomputable def f29 : Fn := ⟨(nat_lit 6), (nat_lit 17), (.b .seq (.u (.asg (nat_lit 6)) (.u .list (.l .nil))) (.b .seq (.u (.asg (nat_lit 7)) (.b .item (.u (.attr (nat_lit 5)) (.l (.loc (nat_lit 0)))) (.l (.loc (nat_lit 3))))) (.b .seq (.u (.asg (nat_lit 8)) (.u (.call (nat_lit 11) (nat_lit 23)) (.b .cons (.l (.loc (nat_lit 0))) (.b .cons (.l (.gint (nat_lit 12) (.ofNat (nat_lit 0)))) (.b .cons (.l (.loc (nat_lit 2))) (.b .cons (.l (.loc (nat_lit 4))) (.b .cons (.b (.op2 .bor) (.b (.op2 .shl) (.l (.int (.ofNat (nat_lit 1)))) (.l (.loc (nat_lit 3)))) (.b (.op2 .shl) (.l (.int (.ofNat (nat_lit 1)))) (.l (.loc (nat_lit 5))))) (.l .nil)))))))) (.b .seq (.b (.for1 (nat_lit 9)) (.u (.range (nat_lit 13)) (.b .cons (.u (.attr (nat_lit 12)) (.l (.loc (nat_lit 0)))) (.l .nil))) (.b .seq (.t .ifs (.b (.op2 .band) (.b (.op2 .shr) (.l (.loc (nat_lit 7))) (.l (.loc (nat_lit 9)))) (.l (.int (.ofNat (nat_lit 1))))) (.b .seq (.u (.asg (nat_lit 10)) (.u (.call (nat_lit 14) (nat_lit 25)) (.b .cons (.u (.attr (nat_lit 12)) (.l (.loc (nat_lit 0)))) (.b .cons (.l (.gint (nat_lit 15) (.ofNat (nat_lit 1)))) (.b .cons (.l (.loc (nat_lit 9))) (.b .cons (.l (.loc (nat_lit 4))) (.b .cons (.l (.loc (nat_lit 5))) (.l .nil)))))))) (.b .seq (.t .ifs (.b (.cmp .ne) (.b .item (.l (.loc (nat_lit 1))) (.l (.loc (nat_lit 10)))) (.l (.gint (nat_lit 16) (.negSucc (nat_lit 1))))) (.b .seq (.b .app (.l (.loc (nat_lit 6))) (.u .tup (.b .cons (.l (.loc (nat_lit 3))) (.b .cons (.l (.loc (nat_lit 9))) (.b .cons (.l (.loc (nat_lit 10))) (.l .nil)))))) (.l .done)) (.l .done)) (.l .done))) (.l .done)) (.l .done))) (.b .seq (.b (.for1 (nat_lit 9)) (.u (.range (nat_lit 13)) (.b .cons (.u (.attr (nat_lit 12)) (.l (.loc (nat_lit 0)))) (.l .nil))) (.b .seq (.t .ifs (.b (.op2 .band) (.b (.op2 .shr) (.l (.loc (nat_lit 8))) (.l (.loc (nat_lit 9)))) (.l (.int (.ofNat (nat_lit 1))))) (.b .seq (.u (.asg (nat_lit 10)) (.u (.call (nat_lit 14) (nat_lit 25)) (.b .cons (.u (.attr (nat_lit 12)) (.l (.loc (nat_lit 0)))) (.b .cons (.l (.gint (nat_lit 15) (.ofNat (nat_lit 1)))) (.b .cons (.l (.loc (nat_lit 3))) (.b .cons (.l (.loc (nat_lit 9))) (.b .cons (.l (.loc (nat_lit 5))) (.l .nil)))))))) (.b .seq (.t .ifs (.b (.cmp .ne) (.b .item (.l (.loc (nat_lit 1))) (.l (.loc (nat_lit 10)))) (.l (.gint (nat_lit 16) (.negSucc (nat_lit 1))))) (.b .seq (.b .app (.l (.loc (nat_lit 6))) (.u .tup (.b .cons (.l (.loc (nat_lit 4))) (.b .cons (.l (.loc (nat_lit 9))) (.b .cons (.l (.loc (nat_lit 10))) (.l .nil)))))) (.l .done)) (.l .done)) (.l .done))) (.l .done)) (.l .done))) (.b .seq (.u .ret (.l (.loc (nat_lit 6)))) (.l .done)))))))⟩
noncomputable def f30 : Fn := ⟨(nat_lit 7), (nat_lit 10), (.b .seq (.t .ifs (.b (.cmp .eq) (.l (.loc (nat_lit 3))) (.l (.gint (nat_lit 7) (.ofNat (nat_lit 1))))) (.b .seq (.u .ret (.u (.call (nat_lit 8) (nat_lit 28)) (.b .cons (.l (.loc (nat_lit 0))) (.b .cons (.l (.loc (nat_lit 1))) (.b .cons (.l (.loc (nat_lit 4))) (.b .cons (.l (.loc (nat_lit 5))) (.b .cons (.l (.loc (nat_lit 6))) (.l .nil)))))))) (.l .done)) (.l .done)) (.b .seq (.u .ret (.u (.call (nat_lit 9) (nat_lit 29)) (.b .cons (.l (.loc (nat_lit 0))) (.b .cons (.l (.loc (nat_lit 1))) (.b .cons (.l (.loc (nat_lit 2))) (.b .cons (.l (.loc (nat_lit 4))) (.b .cons (.l (.loc (nat_lit 5))) (.b .cons (.l (.loc (nat_lit 6))) (.l .nil))))))))) (.l .done)))⟩
noncomputable def f31 : Fn := ⟨(nat_lit 3), (nat_lit 33), (.b .seq (.t .ifs (.b .or (.b (.cmp .lt) (.l (.loc (nat_lit 1))) (.l (.gint (nat_lit 21) (.ofNat (nat_lit 2))))) (.b (.cmp .gt) (.l (.loc (nat_lit 1))) (.l (.gint (nat_lit 22) (.ofNat (nat_lit 5)))))) (.b .seq (.l .fail) (.l .done)) (.l .done)) (.b .seq (.u (.asg (nat_lit 3)) (.b (.op2 .mul) (.b (.op2 .mul) (.u (.attr (nat_lit 12)) (.l (.loc (nat_lit 0)))) (.u (.attr (nat_lit 12)) (.l (.loc (nat_lit 0))))) (.u (.attr (nat_lit 12)) (.l (.loc (nat_lit 0)))))) (.b .seq (.u (.asg (nat_lit 4)) (.b (.op2 .mul) (.u .list (.b .cons (.l (.gint (nat_lit 24) (.negSucc (nat_lit 1)))) (.l .nil))) (.b (.op2 .mul) (.l (.int (.ofNat (nat_lit 2)))) (.l (.loc (nat_lit 3)))))) (.b .seq (.u (.asg (nat_lit 5)) (.u (.call (nat_lit 25) (nat_lit 27)) (.b .cons (.l (.loc (nat_lit 0))) (.b .cons (.l (.loc (nat_lit 1))) (.b .cons (.l (.loc (nat_lit 2))) (.b .cons (.l (.loc (nat_lit 4))) (.l .nil))))))) (.b .seq (.u (.asg (nat_lit 6)) (.b .dict1 (.l (.gint (nat_lit 26) (.negSucc (nat_lit 0)))) (.l (.gint (nat_lit 26) (.negSucc (nat_lit 0)))))) (.b .seq (.b (.for1 (nat_lit 7)) (.u (.range (nat_lit 27)) (.b .cons (.u (.len (nat_lit 28)) (.l (.loc (nat_lit 5)))) (.l .nil))) (.b .seq (.t .setItem (.l (.loc (nat_lit 6))) (.b .item (.l (.loc (nat_lit 5))) (.l (.loc (nat_lit 7)))) (.l (.loc (nat_lit 7)))) (.l .done))) (.b .seq (.u (.asg (nat_lit 8)) (.u .list (.l .nil))) (.b .seq (.u (.asg (nat_lit 9)) (.u .list (.l .nil))) (.b .seq (.u (.asg (nat_lit 10)) (.u .list (.l .nil))) (.b .seq (.b (.for1 (nat_lit 11)) (.l (.loc (nat_lit 5))) (.b .seq (.u (.asgT [(nat_lit 12), (nat_lit 13), (nat_lit 14), (nat_lit 15)]) (.u (.call (nat_lit 29) (nat_lit 26)) (.b .cons (.u (.attr (nat_lit 12)) (.l (.loc (nat_lit 0)))) (.b .cons (.l (.loc (nat_lit 11))) (.l .nil))))) (.b .seq (.u (.asg (nat_lit 16)) (.u .list (.l .nil))) (.b .seq (.b (.forT [(nat_lit 17), (nat_lit 18), (nat_lit 19)]) (.u (.call (nat_lit 30) (nat_lit 30)) (.b .cons (.l (.loc (nat_lit 0))) (.b .cons (.l (.loc (nat_lit 4))) (.b .cons (.l (.loc (nat_lit 1))) (.b .cons (.l (.loc (nat_lit 12))) (.b .cons (.l (.loc (nat_lit 13))) (.b .cons (.l (.loc (nat_lit 14))) (.b .cons (.l (.loc (nat_lit 15))) (.l .nil))))))))) (.b .seq (.b .app (.l (.loc (nat_lit 16))) (.b .item (.l (.loc (nat_lit 6))) (.l (.loc (nat_lit 19))))) (.l .done))) (.b .seq (.b .app (.l (.loc (nat_lit 8))) (.l (.loc (nat_lit 12)))) (.b .seq (.b .app (.l (.loc (nat_lit 9))) (.l (.loc (nat_lit 16)))) (.b .seq (.b .app (.l (.loc (nat_lit 10))) (.b .and (.b (.cmp .eq) (.l (.loc (nat_lit 12))) (.l (.gint (nat_lit 31) (.ofNat (nat_lit 1))))) (.b .and (.b (.cmp .eq) (.l (.loc (nat_lit 16))) (.u .list (.l .nil))) (.b (.cmp .eq) (.b .item (.l (.loc (nat_lit 4))) (.b (.op2 .sub) (.l (.loc (nat_lit 11))) (.l (.loc (nat_lit 3))))) (.l (.gint (nat_lit 24) (.negSucc (nat_lit 1)))))))) (.l .done)))))))) (.b .seq (.u (.asg (nat_lit 20)) (.u (.call (nat_lit 32) (nat_lit 24)) (.b .cons (.l (.loc (nat_lit 8))) (.b .cons (.l (.loc (nat_lit 9))) (.b .cons (.l (.loc (nat_lit 10))) (.l .nil)))))) (.b .seq (.b (.for1 (nat_lit 7)) (.u (.range (nat_lit 27)) (.b .cons (.u (.len (nat_lit 28)) (.l (.loc (nat_lit 5)))) (.l .nil))) (.b .seq (.t .setItem (.l (.loc (nat_lit 4))) (.b .item (.l (.loc (nat_lit 5))) (.l (.loc (nat_lit 7)))) (.b .item (.l (.loc (nat_lit 20))) (.l (.loc (nat_lit 7))))) (.l .done))) (.b .seq (.u .ret (.l (.loc (nat_lit 4)))) (.l .done))))))))))))))⟩
noncomputable def f32 : Fn := ⟨(nat_lit 7), (nat_lit 16), (.b .seq (.u (.asg (nat_lit 7)) (.u (.attr (nat_lit 12)) (.l (.loc (nat_lit 0))))) (.b .seq (.t .ifs (.b .or (.b (.cmp .lt) (.l (.loc (nat_lit 2))) (.l (.gint (nat_lit 9) (.ofNat (nat_lit 2))))) (.b (.cmp .gt) (.l (.loc (nat_lit 2))) (.l (.gint (nat_lit 10) (.ofNat (nat_lit 5)))))) (.b .seq (.l .fail) (.l .done)) (.l .done)) (.b .seq (.t .ifs (.b (.cmp .ne) (.u (.len (nat_lit 12)) (.l (.loc (nat_lit 1)))) (.b (.op2 .mul) (.b (.op2 .mul) (.b (.op2 .mul) (.l (.int (.ofNat (nat_lit 2)))) (.l (.loc (nat_lit 7)))) (.l (.loc (nat_lit 7)))) (.l (.loc (nat_lit 7))))) (.b .seq (.l .fail) (.l .done)) (.l .done)) (.b .seq (.t .ifs (.b .and (.b (.cmp .ne) (.l (.loc (nat_lit 3))) (.l (.gint (nat_lit 13) (.ofNat (nat_lit 0))))) (.b (.cmp .ne) (.l (.loc (nat_lit 3))) (.l (.gint (nat_lit 14) (.ofNat (nat_lit 1)))))) (.b .seq (.l .fail) (.l .done)) (.l .done)) (.b .seq (.b (.for1 (nat_lit 8)) (.u .tup (.b .cons (.l (.loc (nat_lit 4))) (.b .cons (.l (.loc (nat_lit 5))) (.b .cons (.l (.loc (nat_lit 6))) (.l .nil))))) (.b .seq (.t .ifs (.b .or (.b (.cmp .lt) (.l (.loc (nat_lit 8))) (.l (.int (.ofNat (nat_lit 0))))) (.b (.cmp .ge) (.l (.loc (nat_lit 8))) (.l (.loc (nat_lit 7))))) (.b .seq (.l .fail) (.l .done)) (.l .done)) (.l .done))) (.b .seq (.u .ret (.b .item (.l (.loc (nat_lit 1))) (.u (.call (nat_lit 15) (nat_lit 25)) (.b .cons (.l (.loc (nat_lit 7))) (.b .cons (.l (.loc (nat_lit 3))) (.b .cons (.l (.loc (nat_lit 4))) (.b .cons (.l (.loc (nat_lit 5))) (.b .cons (.l (.loc (nat_lit 6))) (.l .nil))))))))) (.l .done)))))))⟩
noncomputable def f33 : Fn := ⟨(nat_lit 7), (nat_lit 20), (.b .seq (.u (.asg (nat_lit 7)) (.u .tup (.b .cons (.u .neg (.l (.int (.ofNat (nat_lit 1))))) (.b .cons (.u .neg (.l (.int (.ofNat (nat_lit 1))))) (.l .nil))))) (.b .seq (.t .ifs (.b (.cmp .eq) (.u (.call (nat_lit 13) (nat_lit 32)) (.b .cons (.l (.loc (nat_lit 0))) (.b .cons (.l (.loc (nat_lit 1))) (.b .cons (.l (.loc (nat_lit 2))) (.b .cons (.l (.loc (nat_lit 3))) (.b .cons (.l (.loc (nat_lit 4))) (.b .cons (.l (.loc (nat_lit 5))) (.b .cons (.l (.loc (nat_lit 6))) (.l .nil))))))))) (.l (.gint (nat_lit 14) (.negSucc (nat_lit 1))))) (.b .seq (.u .ret (.l (.loc (nat_lit 7)))) (.l .done)) (.l .done)) (.b .seq (.u (.asg (nat_lit 8)) (.l (.int (.ofNat (nat_lit 0))))) (.b .seq (.b (.forT [(nat_lit 9), (nat_lit 10), (nat_lit 11)]) (.u (.call (nat_lit 15) (nat_lit 30)) (.b .cons (.l (.loc (nat_lit 0))) (.b .cons (.l (.loc (nat_lit 1))) (.b .cons (.l (.loc (nat_lit 2))) (.b .cons (.l (.loc (nat_lit 3))) (.b .cons (.l (.loc (nat_lit 4))) (.b .cons (.l (.loc (nat_lit 5))) (.b .cons (.l (.loc (nat_lit 6))) (.l .nil))))))))) (.b .seq (.u (.asg (nat_lit 12)) (.u (.len (nat_lit 16)) (.l (.loc (nat_lit 1))))) (.b .seq (.t .ifs (.b .and (.b (.cmp .ne) (.l (.loc (nat_lit 11))) (.l (.gint (nat_lit 17) (.negSucc (nat_lit 0))))) (.b (.cmp .ne) (.b .item (.l (.loc (nat_lit 1))) (.l (.loc (nat_lit 11)))) (.l (.gint (nat_lit 18) (.negSucc (nat_lit 0)))))) (.b .seq (.u (.asg (nat_lit 12)) (.b .item (.l (.loc (nat_lit 1))) (.l (.loc (nat_lit 11))))) (.l .done)) (.l .done)) (.b .seq (.t .ifs (.b (.cmp .eq) (.l (.loc (nat_lit 3))) (.l (.gint (nat_lit 19) (.ofNat (nat_lit 0))))) (.b .seq (.u (.asg (nat_lit 12)) (.u .neg (.l (.loc (nat_lit 12))))) (.l .done)) (.l .done)) (.b .seq (.t .ifs (.b .or (.b (.cmp .eq) (.l (.loc (nat_lit 7))) (.u .tup (.b .cons (.u .neg (.l (.int (.ofNat (nat_lit 1))))) (.b .cons (.u .neg (.l (.int (.ofNat (nat_lit 1))))) (.l .nil))))) (.b (.cmp .gt) (.l (.loc (nat_lit 12))) (.l (.loc (nat_lit 8))))) (.b .seq (.u (.asg (nat_lit 7)) (.u .tup (.b .cons (.l (.loc (nat_lit 9))) (.b .cons (.l (.loc (nat_lit 10))) (.l .nil))))) (.b .seq (.u (.asg (nat_lit 8)) (.l (.loc (nat_lit 12)))) (.l .done))) (.l .done)) (.l .done)))))) (.b .seq (.u .ret (.l (.loc (nat_lit 7)))) (.l .done))))))⟩
noncomputable def f34 : Fn := ⟨(nat_lit 7), (nat_lit 13), (.b .seq (.u (.asg (nat_lit 7)) (.u .list (.l .nil))) (.b .seq (.u (.asg (nat_lit 8)) (.u (.call (nat_lit 11) (nat_lit 32)) (.b .cons (.l (.loc (nat_lit 0))) (.b .cons (.l (.loc (nat_lit 1))) (.b .cons (.l (.loc (nat_lit 2))) (.b .cons (.l (.loc (nat_lit 3))) (.b .cons (.l (.loc (nat_lit 4))) (.b .cons (.l (.loc (nat_lit 5))) (.b .cons (.l (.loc (nat_lit 6))) (.l .nil)))))))))) (.b .seq (.b .while (.b (.cmp .gt) (.l (.loc (nat_lit 8))) (.l (.int (.ofNat (nat_lit 0))))) (.b .seq (.u (.asgT [(nat_lit 9), (nat_lit 10)]) (.u (.call (nat_lit 12) (nat_lit 33)) (.b .cons (.l (.loc (nat_lit 0))) (.b .cons (.l (.loc (nat_lit 1))) (.b .cons (.l (.loc (nat_lit 2))) (.b .cons (.l (.loc (nat_lit 3))) (.b .cons (.l (.loc (nat_lit 4))) (.b .cons (.l (.loc (nat_lit 5))) (.b .cons (.l (.loc (nat_lit 6))) (.l .nil)))))))))) (.b .seq (.b .app (.l (.loc (nat_lit 7))) (.u .tup (.b .cons (.l (.loc (nat_lit 9))) (.b .cons (.l (.loc (nat_lit 10))) (.l .nil))))) (.b .seq (.t .ifs (.b (.cmp .eq) (.l (.loc (nat_lit 9))) (.l (.loc (nat_lit 4)))) (.b .seq (.u (.asg (nat_lit 4)) (.l (.loc (nat_lit 10)))) (.l .done)) (.b .seq (.t .ifs (.b (.cmp .eq) (.l (.loc (nat_lit 9))) (.l (.loc (nat_lit 5)))) (.b .seq (.u (.asg (nat_lit 5)) (.l (.loc (nat_lit 10)))) (.l .done)) (.b .seq (.u (.asg (nat_lit 6)) (.l (.loc (nat_lit 10)))) (.l .done))) (.l .done))) (.b .seq (.u (.asg (nat_lit 3)) (.b (.op2 .sub) (.l (.int (.ofNat (nat_lit 1)))) (.l (.loc (nat_lit 3))))) (.b .seq (.u (.augN (nat_lit 8) .sub) (.l (.int (.ofNat (nat_lit 1))))) (.l .done))))))) (.b .seq (.u .ret (.l (.loc (nat_lit 7)))) (.l .done)))))⟩
noncomputable def f35 : Fn := ⟨(nat_lit 1), (nat_lit 1), (.b .seq (.u .ret (.b (.cmp .ne) (.b (.op2 .band) (.l (.loc (nat_lit 0))) (.b (.op2 .sub) (.l (.loc (nat_lit 0))) (.l (.int (.ofNat (nat_lit 1)))))) (.l (.int (.ofNat (nat_lit 0)))))) (.l .done))⟩
noncomputable def f36 : Fn := ⟨(nat_lit 1), (nat_lit 3), (.b .seq (.t .ifs (.b (.cmp .eq) (.l (.loc (nat_lit 0))) (.l (.int (.ofNat (nat_lit 0))))) (.b .seq (.u .ret (.u .neg (.l (.int (.ofNat (nat_lit 1)))))) (.l .done)) (.l .done)) (.b .seq (.u (.asg (nat_lit 1)) (.l (.int (.ofNat (nat_lit 1))))) (.b .seq (.b .while (.b (.op2 .shr) (.l (.loc (nat_lit 0))) (.l (.loc (nat_lit 1)))) (.b .seq (.u (.augN (nat_lit 1) .mul) (.l (.int (.ofNat (nat_lit 2))))) (.l .done))) (.b .seq (.u (.asg (nat_lit 2)) (.l (.int (.ofNat (nat_lit 0))))) (.b .seq (.b .while (.b (.cmp .gt) (.l (.loc (nat_lit 1))) (.l (.int (.ofNat (nat_lit 1))))) (.b .seq (.u (.augN (nat_lit 1) .fdv) (.l (.int (.ofNat (nat_lit 2))))) (.b .seq (.t .ifs (.b (.op2 .shr) (.l (.loc (nat_lit 0))) (.l (.loc (nat_lit 1)))) (.b .seq (.u (.augN (nat_lit 0) .shr) (.l (.loc (nat_lit 1)))) (.b .seq (.u (.augN (nat_lit 2) .add) (.l (.loc (nat_lit 1)))) (.l .done))) (.l .done)) (.l .done)))) (.b .seq (.u .ret (.l (.loc (nat_lit 2)))) (.l .done)))))))⟩
noncomputable def f37 : Fn := ⟨(nat_lit 1), (nat_lit 2), (.b .seq (.u .ret (.u (.call (nat_lit 1) (nat_lit 36)) (.b .cons (.b (.op2 .band) (.l (.loc (nat_lit 0))) (.u .neg (.l (.loc (nat_lit 0))))) (.l .nil)))) (.l .done))⟩
noncomputable def f38 : Fn := ⟨(nat_lit 1), (nat_lit 3), (.b .seq (.u (.asg (nat_lit 1)) (.u .list (.l .nil))) (.b .seq (.u (.asg (nat_lit 2)) (.l (.int (.ofNat (nat_lit 0))))) (.b .seq (.b .while (.l (.loc (nat_lit 0))) (.b .seq (.b .while (.u .not (.b (.op2 .band) (.l (.loc (nat_lit 0))) (.l (.int (.ofNat (nat_lit 15)))))) (.b .seq (.u (.augN (nat_lit 0) .shr) (.l (.int (.ofNat (nat_lit 4))))) (.b .seq (.u (.augN (nat_lit 2) .add) (.l (.int (.ofNat (nat_lit 4))))) (.l .done)))) (.b .seq (.t .ifs (.b (.op2 .band) (.l (.loc (nat_lit 0))) (.l (.int (.ofNat (nat_lit 1))))) (.b .seq (.b .app (.l (.loc (nat_lit 1))) (.l (.loc (nat_lit 2)))) (.l .done)) (.l .done)) (.b .seq (.u (.augN (nat_lit 0) .shr) (.l (.int (.ofNat (nat_lit 1))))) (.b .seq (.u (.augN (nat_lit 2) .add) (.l (.int (.ofNat (nat_lit 1))))) (.l .done)))))) (.b .seq (.u .ret (.l (.loc (nat_lit 1)))) (.l .done)))))⟩
noncomputable def f39 : Fn := ⟨(nat_lit 3), (nat_lit 5), (.b .seq (.b (.for1 (nat_lit 3)) (.u (.range (nat_lit 4)) (.b .cons (.l (.int (.ofNat (nat_lit 8)))) (.l .nil))) (.b .seq (.t .ifs (.b (.op2 .band) (.b (.op2 .shr) (.b .item (.b .item (.u (.attr (nat_lit 6)) (.l (.loc (nat_lit 0)))) (.l (.loc (nat_lit 3)))) (.l (.loc (nat_lit 1)))) (.l (.loc (nat_lit 2)))) (.l (.int (.ofNat (nat_lit 1))))) (.b .seq (.u .ret (.l (.loc (nat_lit 3)))) (.l .done)) (.l .done)) (.l .done))) (.b .seq (.u .ret (.u .neg (.l (.int (.ofNat (nat_lit 1)))))) (.l .done)))⟩
noncomputable def f40 : Fn := ⟨(nat_lit 3), (nat_lit 5), (.b .seq (.u (.asg (nat_lit 3)) (.u (.call (nat_lit 4) (nat_lit 39)) (.b .cons (.l (.loc (nat_lit 0))) (.b .cons (.l (.loc (nat_lit 1))) (.b .cons (.l (.loc (nat_lit 2))) (.l .nil)))))) (.b .seq (.t .ifs (.b (.cmp .lt) (.l (.loc (nat_lit 3))) (.l (.int (.ofNat (nat_lit 0))))) (.b .seq (.u .ret (.l (.int (.ofNat (nat_lit 0))))) (.l .done)) (.l .done)) (.b .seq (.u .ret (.b (.op2 .band) (.b .item (.b .item (.u (.attr (nat_lit 6)) (.l (.loc (nat_lit 0)))) (.l (.loc (nat_lit 3)))) (.l (.loc (nat_lit 1)))) (.b .item (.b .item (.u (.attr (nat_lit 6)) (.l (.loc (nat_lit 0)))) (.b (.op2 .bxor) (.l (.loc (nat_lit 3))) (.l (.int (.ofNat (nat_lit 2)))))) (.l (.loc (nat_lit 2)))))) (.l .done))))⟩
noncomputable def f41 : Fn := ⟨(nat_lit 3), (nat_lit 5), (.b .seq (.u (.asg (nat_lit 3)) (.u (.call (nat_lit 4) (nat_lit 39)) (.b .cons (.l (.loc (nat_lit 0))) (.b .cons (.l (.loc (nat_lit 1))) (.b .cons (.l (.loc (nat_lit 2))) (.l .nil)))))) (.b .seq (.t .ifs (.b (.cmp .lt) (.l (.loc (nat_lit 3))) (.l (.int (.ofNat (nat_lit 0))))) (.b .seq (.u .ret (.l (.int (.ofNat (nat_lit 0))))) (.l .done)) (.l .done)) (.b .seq (.u .ret (.b (.op2 .bor) (.b (.op2 .bor) (.b .item (.b .item (.u (.attr (nat_lit 6)) (.l (.loc (nat_lit 0)))) (.l (.loc (nat_lit 3)))) (.l (.loc (nat_lit 1)))) (.b .item (.b .item (.u (.attr (nat_lit 6)) (.l (.loc (nat_lit 0)))) (.b (.op2 .bxor) (.l (.loc (nat_lit 3))) (.l (.int (.ofNat (nat_lit 2)))))) (.l (.loc (nat_lit 1))))) (.b (.op2 .shl) (.l (.int (.ofNat (nat_lit 1)))) (.l (.loc (nat_lit 1)))))) (.l .done))))⟩
noncomputable def f42 : Fn := ⟨(nat_lit 4), (nat_lit 5), (.b .seq (.u .ret (.b (.cmp .eq) (.b (.op2 .band) (.b (.op2 .shr) (.u (.call (nat_lit 4) (nat_lit 41)) (.b .cons (.l (.loc (nat_lit 0))) (.b .cons (.l (.loc (nat_lit 1))) (.b .cons (.l (.loc (nat_lit 2))) (.l .nil))))) (.l (.loc (nat_lit 3)))) (.l (.int (.ofNat (nat_lit 1))))) (.l (.int (.ofNat (nat_lit 1)))))) (.l .done))⟩
noncomputable def f43 : Fn := ⟨(nat_lit 3), (nat_lit 5), (.b .seq (.b (.setAttr (nat_lit 25)) (.l (.loc (nat_lit 0))) (.l (.loc (nat_lit 1)))) (.b .seq (.b (.setAttr (nat_lit 24)) (.l (.loc (nat_lit 0))) (.l (.loc (nat_lit 2)))) (.b .seq (.b (.setAttr (nat_lit 23)) (.l (.loc (nat_lit 0))) (.b (.op2 .mul) (.u .list (.b .cons (.l (.gint (nat_lit 3) (.ofNat (nat_lit 0)))) (.l .nil))) (.u (.attr (nat_lit 12)) (.l (.loc (nat_lit 1)))))) (.b .seq (.b (.setAttr (nat_lit 22)) (.l (.loc (nat_lit 0))) (.b (.op2 .mul) (.u .list (.b .cons (.l (.int (.ofNat (nat_lit 0)))) (.l .nil))) (.l (.int (.ofNat (nat_lit 7)))))) (.b .seq (.b (.setAttr (nat_lit 21)) (.l (.loc (nat_lit 0))) (.u .list (.b .cons (.l (.int (.ofNat (nat_lit 0)))) (.b .cons (.l (.int (.ofNat (nat_lit 0)))) (.l .nil))))) (.b .seq (.b (.setAttr (nat_lit 20)) (.l (.loc (nat_lit 0))) (.l (.gint (nat_lit 4) (.ofNat (nat_lit 0))))) (.b .seq (.b (.setAttr (nat_lit 19)) (.l (.loc (nat_lit 0))) (.l (.int (.ofNat (nat_lit 0))))) (.b .seq (.b (.setAttr (nat_lit 18)) (.l (.loc (nat_lit 0))) (.u .neg (.l (.int (.ofNat (nat_lit 1)))))) (.b .seq (.b (.setAttr (nat_lit 17)) (.l (.loc (nat_lit 0))) (.l (.int (.ofNat (nat_lit 0))))) (.b .seq (.b (.setAttr (nat_lit 11)) (.l (.loc (nat_lit 0))) (.l (.int (.ofNat (nat_lit 1))))) (.b .seq (.b (.setAttr (nat_lit 16)) (.l (.loc (nat_lit 0))) (.l (.int (.ofNat (nat_lit 0))))) (.b .seq (.b (.setAttr (nat_lit 15)) (.l (.loc (nat_lit 0))) (.u .list (.l .nil))) (.l .done)))))))))))))⟩
noncomputable def f44 : Fn := ⟨(nat_lit 3), (nat_lit 6), (.b .seq (.u (.asg (nat_lit 3)) (.b (.op2 .shl) (.l (.int (.ofNat (nat_lit 1)))) (.l (.loc (nat_lit 2))))) (.b .seq (.t .setItem (.u (.attr (nat_lit 23)) (.l (.loc (nat_lit 0)))) (.l (.loc (nat_lit 2))) (.l (.loc (nat_lit 1)))) (.b .seq (.t (.augI .bor) (.u (.attr (nat_lit 22)) (.l (.loc (nat_lit 0)))) (.u (.call (nat_lit 4) (nat_lit 3)) (.b .cons (.l (.loc (nat_lit 1))) (.l .nil))) (.l (.loc (nat_lit 3)))) (.b .seq (.t (.augI .bor) (.u (.attr (nat_lit 21)) (.l (.loc (nat_lit 0)))) (.u (.call (nat_lit 5) (nat_lit 2)) (.b .cons (.l (.loc (nat_lit 1))) (.l .nil))) (.l (.loc (nat_lit 3)))) (.b .seq (.b (.augA (nat_lit 16) .bxor) (.l (.loc (nat_lit 0))) (.b .item (.b .item (.u (.attr (nat_lit 26)) (.u (.attr (nat_lit 24)) (.l (.loc (nat_lit 0))))) (.l (.loc (nat_lit 1)))) (.l (.loc (nat_lit 2))))) (.l .done))))))⟩
noncomputable def f45 : Fn := ⟨(nat_lit 2), (nat_lit 7), (.b .seq (.u (.asg (nat_lit 2)) (.b .item (.u (.attr (nat_lit 23)) (.l (.loc (nat_lit 0)))) (.l (.loc (nat_lit 1))))) (.b .seq (.u (.asg (nat_lit 3)) (.b (.op2 .shl) (.l (.int (.ofNat (nat_lit 1)))) (.l (.loc (nat_lit 1))))) (.b .seq (.t .setItem (.u (.attr (nat_lit 23)) (.l (.loc (nat_lit 0)))) (.l (.loc (nat_lit 1))) (.l (.gint (nat_lit 4) (.ofNat (nat_lit 0))))) (.b .seq (.t (.augI .bxor) (.u (.attr (nat_lit 22)) (.l (.loc (nat_lit 0)))) (.u (.call (nat_lit 5) (nat_lit 3)) (.b .cons (.l (.loc (nat_lit 2))) (.l .nil))) (.l (.loc (nat_lit 3)))) (.b .seq (.t (.augI .bxor) (.u (.attr (nat_lit 21)) (.l (.loc (nat_lit 0)))) (.u (.call (nat_lit 6) (nat_lit 2)) (.b .cons (.l (.loc (nat_lit 2))) (.l .nil))) (.l (.loc (nat_lit 3)))) (.b .seq (.b (.augA (nat_lit 16) .bxor) (.l (.loc (nat_lit 0))) (.b .item (.b .item (.u (.attr (nat_lit 26)) (.u (.attr (nat_lit 24)) (.l (.loc (nat_lit 0))))) (.l (.loc (nat_lit 2)))) (.l (.loc (nat_lit 1))))) (.b .seq (.u .ret (.l (.loc (nat_lit 2)))) (.l .done))))))))⟩
noncomputable def f46 : Fn := ⟨(nat_lit 3), (nat_lit 9), (.b .seq (.u (.asg (nat_lit 3)) (.b .item (.u (.attr (nat_lit 23)) (.l (.loc (nat_lit 0)))) (.l (.loc (nat_lit 1))))) (.b .seq (.u (.asg (nat_lit 4)) (.b (.op2 .bor) (.b (.op2 .shl) (.l (.int (.ofNat (nat_lit 1)))) (.l (.loc (nat_lit 1)))) (.b (.op2 .shl) (.l (.int (.ofNat (nat_lit 1)))) (.l (.loc (nat_lit 2)))))) (.b .seq (.t .setItem (.u (.attr (nat_lit 23)) (.l (.loc (nat_lit 0)))) (.l (.loc (nat_lit 1))) (.l (.gint (nat_lit 6) (.ofNat (nat_lit 0))))) (.b .seq (.t .setItem (.u (.attr (nat_lit 23)) (.l (.loc (nat_lit 0)))) (.l (.loc (nat_lit 2))) (.l (.loc (nat_lit 3)))) (.b .seq (.t (.augI .bxor) (.u (.attr (nat_lit 22)) (.l (.loc (nat_lit 0)))) (.u (.call (nat_lit 7) (nat_lit 3)) (.b .cons (.l (.loc (nat_lit 3))) (.l .nil))) (.l (.loc (nat_lit 4)))) (.b .seq (.t (.augI .bxor) (.u (.attr (nat_lit 21)) (.l (.loc (nat_lit 0)))) (.u (.call (nat_lit 8) (nat_lit 2)) (.b .cons (.l (.loc (nat_lit 3))) (.l .nil))) (.l (.loc (nat_lit 4)))) (.b .seq (.u (.asg (nat_lit 5)) (.b .item (.u (.attr (nat_lit 26)) (.u (.attr (nat_lit 24)) (.l (.loc (nat_lit 0))))) (.l (.loc (nat_lit 3))))) (.b .seq (.b (.augA (nat_lit 16) .bxor) (.l (.loc (nat_lit 0))) (.b (.op2 .bxor) (.b .item (.l (.loc (nat_lit 5))) (.l (.loc (nat_lit 1)))) (.b .item (.l (.loc (nat_lit 5))) (.l (.loc (nat_lit 2)))))) (.l .done)))))))))⟩
noncomputable def f47 : Fn := ⟨(nat_lit 1), (nat_lit 3), (.b .seq (.u .ret (.b (.op2 .bor) (.b .item (.u (.attr (nat_lit 21)) (.l (.loc (nat_lit 0)))) (.l (.gint (nat_lit 1) (.ofNat (nat_lit 0))))) (.b .item (.u (.attr (nat_lit 21)) (.l (.loc (nat_lit 0)))) (.l (.gint (nat_lit 2) (.ofNat (nat_lit 1))))))) (.l .done))⟩
noncomputable def f48 : Fn := ⟨(nat_lit 3), (nat_lit 3), (.b .seq (.u .ret (.b (.op2 .band) (.b .item (.u (.attr (nat_lit 21)) (.l (.loc (nat_lit 0)))) (.l (.loc (nat_lit 1)))) (.b .item (.u (.attr (nat_lit 22)) (.l (.loc (nat_lit 0)))) (.l (.loc (nat_lit 2)))))) (.l .done))⟩
noncomputable def f49 : Fn := ⟨(nat_lit 2), (nat_lit 4), (.b .seq (.u .ret (.u (.call (nat_lit 2) (nat_lit 37)) (.b .cons (.b (.op2 .band) (.b .item (.u (.attr (nat_lit 21)) (.l (.loc (nat_lit 0)))) (.l (.loc (nat_lit 1)))) (.b .item (.u (.attr (nat_lit 22)) (.l (.loc (nat_lit 0)))) (.l (.gint (nat_lit 3) (.ofNat (nat_lit 6)))))) (.l .nil)))) (.l .done))⟩
noncomputable def f50 : Fn := ⟨(nat_lit 1), (nat_lit 3), (.b .seq (.u .ret (.b (.op2 .bor) (.b .item (.u (.attr (nat_lit 22)) (.l (.loc (nat_lit 0)))) (.l (.gint (nat_lit 1) (.ofNat (nat_lit 4))))) (.b .item (.u (.attr (nat_lit 22)) (.l (.loc (nat_lit 0)))) (.l (.gint (nat_lit 2) (.ofNat (nat_lit 5))))))) (.l .done))⟩
noncomputable def f51 : Fn := ⟨(nat_lit 1), (nat_lit 3), (.b .seq (.u .ret (.b (.op2 .bor) (.b .item (.u (.attr (nat_lit 22)) (.l (.loc (nat_lit 0)))) (.l (.gint (nat_lit 1) (.ofNat (nat_lit 3))))) (.b .item (.u (.attr (nat_lit 22)) (.l (.loc (nat_lit 0)))) (.l (.gint (nat_lit 2) (.ofNat (nat_lit 5))))))) (.l .done))⟩
noncomputable def f52 : Fn := ⟨(nat_lit 3), (nat_lit 4), (.b .seq (.u .ret (.b (.op2 .band) (.b (.op2 .band) (.b .item (.b .item (.u (.attr (nat_lit 3)) (.u (.attr (nat_lit 25)) (.l (.loc (nat_lit 0))))) (.b (.op2 .sub) (.l (.int (.ofNat (nat_lit 1)))) (.l (.loc (nat_lit 2))))) (.l (.loc (nat_lit 1)))) (.b .item (.u (.attr (nat_lit 22)) (.l (.loc (nat_lit 0)))) (.l (.gint (nat_lit 3) (.ofNat (nat_lit 1)))))) (.b .item (.u (.attr (nat_lit 21)) (.l (.loc (nat_lit 0)))) (.l (.loc (nat_lit 2)))))) (.l .done))⟩
noncomputable def f53 : Fn := ⟨(nat_lit 3), (nat_lit 8), (.b .seq (.u (.asg (nat_lit 3)) (.u (.attr (nat_lit 25)) (.l (.loc (nat_lit 0))))) (.b .seq (.u (.asg (nat_lit 4)) (.b (.op2 .band) (.b .item (.u (.attr (nat_lit 4)) (.l (.loc (nat_lit 3)))) (.l (.loc (nat_lit 1)))) (.b .item (.u (.attr (nat_lit 22)) (.l (.loc (nat_lit 0)))) (.l (.gint (nat_lit 5) (.ofNat (nat_lit 2))))))) (.b .seq (.u (.augN (nat_lit 4) .bor) (.b (.op2 .band) (.b .item (.u (.attr (nat_lit 5)) (.l (.loc (nat_lit 3)))) (.l (.loc (nat_lit 1)))) (.b .item (.u (.attr (nat_lit 22)) (.l (.loc (nat_lit 0)))) (.l (.gint (nat_lit 6) (.ofNat (nat_lit 6))))))) (.b .seq (.u .ret (.b (.op2 .bor) (.u (.call (nat_lit 7) (nat_lit 52)) (.b .cons (.l (.loc (nat_lit 0))) (.b .cons (.l (.loc (nat_lit 1))) (.b .cons (.l (.loc (nat_lit 2))) (.l .nil))))) (.b (.op2 .band) (.l (.loc (nat_lit 4))) (.b .item (.u (.attr (nat_lit 21)) (.l (.loc (nat_lit 0)))) (.l (.loc (nat_lit 2))))))) (.l .done)))))⟩
noncomputable def f54 : Fn := ⟨(nat_lit 3), (nat_lit 10), (.b .seq (.u (.asg (nat_lit 3)) (.l (.int (.ofNat (nat_lit 0))))) (.b .seq (.u (.asg (nat_lit 4)) (.u (.call (nat_lit 6) (nat_lit 50)) (.b .cons (.l (.loc (nat_lit 0))) (.l .nil)))) (.b .seq (.t .ifs (.l (.loc (nat_lit 4))) (.b .seq (.u (.augN (nat_lit 3) .bor) (.b (.op2 .band) (.u (.call (nat_lit 7) (nat_lit 19)) (.b .cons (.u (.attr (nat_lit 25)) (.l (.loc (nat_lit 0)))) (.b .cons (.l (.loc (nat_lit 1))) (.b .cons (.l (.loc (nat_lit 2))) (.l .nil))))) (.l (.loc (nat_lit 4))))) (.l .done)) (.l .done)) (.b .seq (.u (.asg (nat_lit 5)) (.u (.call (nat_lit 8) (nat_lit 51)) (.b .cons (.l (.loc (nat_lit 0))) (.l .nil)))) (.b .seq (.t .ifs (.l (.loc (nat_lit 5))) (.b .seq (.u (.augN (nat_lit 3) .bor) (.b (.op2 .band) (.u (.call (nat_lit 9) (nat_lit 20)) (.b .cons (.u (.attr (nat_lit 25)) (.l (.loc (nat_lit 0)))) (.b .cons (.l (.loc (nat_lit 1))) (.b .cons (.l (.loc (nat_lit 2))) (.l .nil))))) (.l (.loc (nat_lit 5))))) (.l .done)) (.l .done)) (.b .seq (.u .ret (.l (.loc (nat_lit 3)))) (.l .done)))))))⟩
noncomputable def f55 : Fn := ⟨(nat_lit 3), (nat_lit 8), (.b .seq (.u (.asg (nat_lit 3)) (.b (.op2 .bor) (.u (.call (nat_lit 4) (nat_lit 53)) (.b .cons (.l (.loc (nat_lit 0))) (.b .cons (.l (.loc (nat_lit 1))) (.b .cons (.l (.gint (nat_lit 5) (.ofNat (nat_lit 0)))) (.l .nil))))) (.u (.call (nat_lit 4) (nat_lit 53)) (.b .cons (.l (.loc (nat_lit 0))) (.b .cons (.l (.loc (nat_lit 1))) (.b .cons (.l (.gint (nat_lit 6) (.ofNat (nat_lit 1)))) (.l .nil))))))) (.b .seq (.u .ret (.b (.op2 .bor) (.l (.loc (nat_lit 3))) (.u (.call (nat_lit 7) (nat_lit 54)) (.b .cons (.l (.loc (nat_lit 0))) (.b .cons (.l (.loc (nat_lit 1))) (.b .cons (.l (.loc (nat_lit 2))) (.l .nil))))))) (.l .done)))⟩
noncomputable def f56 : Fn := ⟨(nat_lit 4), (nat_lit 13), (.b .seq (.t .ifs (.u (.call (nat_lit 8) (nat_lit 53)) (.b .cons (.l (.loc (nat_lit 0))) (.b .cons (.l (.loc (nat_lit 1))) (.b .cons (.l (.loc (nat_lit 2))) (.l .nil))))) (.b .seq (.u .ret (.l (.bool true))) (.l .done)) (.l .done)) (.b .seq (.u (.asg (nat_lit 4)) (.u (.attr (nat_lit 25)) (.l (.loc (nat_lit 0))))) (.b .seq (.u (.asg (nat_lit 5)) (.b .item (.u (.attr (nat_lit 21)) (.l (.loc (nat_lit 0)))) (.l (.loc (nat_lit 2))))) (.b .seq (.u (.asg (nat_lit 6)) (.b (.op2 .band) (.u (.call (nat_lit 9) (nat_lit 50)) (.b .cons (.l (.loc (nat_lit 0))) (.l .nil))) (.l (.loc (nat_lit 5))))) (.b .seq (.t .ifs (.b .and (.l (.loc (nat_lit 6))) (.b (.op2 .band) (.u (.call (nat_lit 10) (nat_lit 19)) (.b .cons (.l (.loc (nat_lit 4))) (.b .cons (.l (.loc (nat_lit 1))) (.b .cons (.l (.loc (nat_lit 3))) (.l .nil))))) (.l (.loc (nat_lit 6))))) (.b .seq (.u .ret (.l (.bool true))) (.l .done)) (.l .done)) (.b .seq (.u (.asg (nat_lit 7)) (.b (.op2 .band) (.u (.call (nat_lit 11) (nat_lit 51)) (.b .cons (.l (.loc (nat_lit 0))) (.l .nil))) (.l (.loc (nat_lit 5))))) (.b .seq (.u .ret (.b .and (.b (.cmp .ne) (.l (.loc (nat_lit 7))) (.l (.int (.ofNat (nat_lit 0))))) (.b (.cmp .ne) (.b (.op2 .band) (.u (.call (nat_lit 12) (nat_lit 20)) (.b .cons (.l (.loc (nat_lit 4))) (.b .cons (.l (.loc (nat_lit 1))) (.b .cons (.l (.loc (nat_lit 3))) (.l .nil))))) (.l (.loc (nat_lit 7)))) (.l (.int (.ofNat (nat_lit 0))))))) (.l .done))))))))⟩
noncomputable def f57 : Fn := ⟨(nat_lit 2), (nat_lit 7), (.b .seq (.u (.asg (nat_lit 2)) (.b (.op2 .bor) (.b .item (.u (.attr (nat_lit 21)) (.l (.loc (nat_lit 0)))) (.l (.gint (nat_lit 3) (.ofNat (nat_lit 0))))) (.b .item (.u (.attr (nat_lit 21)) (.l (.loc (nat_lit 0)))) (.l (.gint (nat_lit 4) (.ofNat (nat_lit 1))))))) (.b .seq (.u .ret (.b (.op2 .band) (.u (.call (nat_lit 5) (nat_lit 55)) (.b .cons (.l (.loc (nat_lit 0))) (.b .cons (.u (.call (nat_lit 6) (nat_lit 49)) (.b .cons (.l (.loc (nat_lit 0))) (.b .cons (.l (.loc (nat_lit 1))) (.l .nil)))) (.b .cons (.l (.loc (nat_lit 2))) (.l .nil))))) (.b .item (.u (.attr (nat_lit 21)) (.l (.loc (nat_lit 0)))) (.b (.op2 .sub) (.l (.int (.ofNat (nat_lit 1)))) (.l (.loc (nat_lit 1))))))) (.l .done)))⟩
noncomputable def f58 : Fn := ⟨(nat_lit 1), (nat_lit 2), (.b .seq (.u .ret (.u (.call (nat_lit 1) (nat_lit 57)) (.b .cons (.l (.loc (nat_lit 0))) (.b .cons (.u (.attr (nat_lit 20)) (.l (.loc (nat_lit 0)))) (.l .nil))))) (.l .done))⟩
noncomputable def f59 : Fn := ⟨(nat_lit 2), (nat_lit 7), (.b .seq (.u (.asg (nat_lit 2)) (.b (.op2 .bor) (.b .item (.u (.attr (nat_lit 21)) (.l (.loc (nat_lit 0)))) (.l (.gint (nat_lit 3) (.ofNat (nat_lit 0))))) (.b .item (.u (.attr (nat_lit 21)) (.l (.loc (nat_lit 0)))) (.l (.gint (nat_lit 4) (.ofNat (nat_lit 1))))))) (.b .seq (.u .ret (.u (.call (nat_lit 5) (nat_lit 56)) (.b .cons (.l (.loc (nat_lit 0))) (.b .cons (.u (.call (nat_lit 6) (nat_lit 49)) (.b .cons (.l (.loc (nat_lit 0))) (.b .cons (.l (.loc (nat_lit 1))) (.l .nil)))) (.b .cons (.b (.op2 .sub) (.l (.int (.ofNat (nat_lit 1)))) (.l (.loc (nat_lit 1)))) (.b .cons (.l (.loc (nat_lit 2))) (.l .nil))))))) (.l .done)))⟩
noncomputable def f60 : Fn := ⟨(nat_lit 1), (nat_lit 2), (.b .seq (.u .ret (.u (.call (nat_lit 1) (nat_lit 59)) (.b .cons (.l (.loc (nat_lit 0))) (.b .cons (.u (.attr (nat_lit 20)) (.l (.loc (nat_lit 0)))) (.l .nil))))) (.l .done))⟩
noncomputable def f61 : Fn := ⟨(nat_lit 2), (nat_lit 9), (.b .seq (.u (.asg (nat_lit 2)) (.u (.call (nat_lit 4) (nat_lit 49)) (.b .cons (.l (.loc (nat_lit 0))) (.b .cons (.l (.loc (nat_lit 1))) (.l .nil))))) (.b .seq (.u (.asg (nat_lit 3)) (.b (.op2 .band) (.u (.call (nat_lit 5) (nat_lit 19)) (.b .cons (.u (.attr (nat_lit 25)) (.l (.loc (nat_lit 0)))) (.b .cons (.l (.loc (nat_lit 2))) (.b .cons (.l (.int (.ofNat (nat_lit 0)))) (.l .nil))))) (.u (.call (nat_lit 6) (nat_lit 50)) (.b .cons (.l (.loc (nat_lit 0))) (.l .nil))))) (.b .seq (.u (.augN (nat_lit 3) .bor) (.b (.op2 .band) (.u (.call (nat_lit 7) (nat_lit 20)) (.b .cons (.u (.attr (nat_lit 25)) (.l (.loc (nat_lit 0)))) (.b .cons (.l (.loc (nat_lit 2))) (.b .cons (.l (.int (.ofNat (nat_lit 0)))) (.l .nil))))) (.u (.call (nat_lit 8) (nat_lit 51)) (.b .cons (.l (.loc (nat_lit 0))) (.l .nil))))) (.b .seq (.u .ret (.b (.op2 .band) (.l (.loc (nat_lit 3))) (.b .item (.u (.attr (nat_lit 21)) (.l (.loc (nat_lit 0)))) (.b (.op2 .sub) (.l (.int (.ofNat (nat_lit 1)))) (.l (.loc (nat_lit 1))))))) (.l .done)))))⟩
noncomputable def f62 : Fn := ⟨(nat_lit 2), (nat_lit 16), (.b .seq (.u (.asg (nat_lit 2)) (.u (.call (nat_lit 9) (nat_lit 49)) (.b .cons (.l (.loc (nat_lit 0))) (.b .cons (.l (.loc (nat_lit 1))) (.l .nil))))) (.b .seq (.u (.asg (nat_lit 3)) (.u (.call (nat_lit 10) (nat_lit 61)) (.b .cons (.l (.loc (nat_lit 0))) (.b .cons (.l (.loc (nat_lit 1))) (.l .nil))))) (.b .seq (.u (.asg (nat_lit 4)) (.b (.op2 .bxor) (.b (.op2 .bor) (.b .item (.u (.attr (nat_lit 21)) (.l (.loc (nat_lit 0)))) (.l (.gint (nat_lit 11) (.ofNat (nat_lit 0))))) (.b .item (.u (.attr (nat_lit 21)) (.l (.loc (nat_lit 0)))) (.l (.gint (nat_lit 12) (.ofNat (nat_lit 1)))))) (.l (.loc (nat_lit 3))))) (.b .seq (.u (.asg (nat_lit 5)) (.l (.int (.ofNat (nat_lit 0))))) (.b .seq (.u (.asg (nat_lit 6)) (.l (.int (.ofNat (nat_lit 0))))) (.b .seq (.b (.for1 (nat_lit 7)) (.u (.call (nat_lit 13) (nat_lit 38)) (.b .cons (.l (.loc (nat_lit 3))) (.l .nil))) (.b .seq (.u (.asg (nat_lit 8)) (.b (.op2 .band) (.u (.call (nat_lit 14) (nat_lit 40)) (.b .cons (.u (.attr (nat_lit 25)) (.l (.loc (nat_lit 0)))) (.b .cons (.l (.loc (nat_lit 2))) (.b .cons (.l (.loc (nat_lit 7))) (.l .nil))))) (.l (.loc (nat_lit 4))))) (.b .seq (.t .ifs (.b .and (.l (.loc (nat_lit 8))) (.u .not (.u (.call (nat_lit 15) (nat_lit 35)) (.b .cons (.l (.loc (nat_lit 8))) (.l .nil))))) (.b .seq (.u (.augN (nat_lit 5) .bor) (.l (.loc (nat_lit 8)))) (.b .seq (.t .ifs (.b (.op2 .band) (.l (.loc (nat_lit 8))) (.b .item (.u (.attr (nat_lit 21)) (.l (.loc (nat_lit 0)))) (.l (.loc (nat_lit 1))))) (.b .seq (.u (.augN (nat_lit 6) .bor) (.b (.op2 .shl) (.l (.int (.ofNat (nat_lit 1)))) (.l (.loc (nat_lit 7))))) (.l .done)) (.l .done)) (.l .done))) (.l .done)) (.l .done)))) (.b .seq (.u .ret (.u .tup (.b .cons (.l (.loc (nat_lit 5))) (.b .cons (.l (.loc (nat_lit 6))) (.l .nil))))) (.l .done))))))))⟩
noncomputable def f63 : Fn := ⟨(nat_lit 2), (nat_lit 3), (.b .seq (.u .ret (.b (.op2 .band) (.b .item (.u (.call (nat_lit 2) (nat_lit 62)) (.b .cons (.l (.loc (nat_lit 0))) (.b .cons (.l (.loc (nat_lit 1))) (.l .nil)))) (.l (.int (.ofNat (nat_lit 0))))) (.b .item (.u (.attr (nat_lit 21)) (.l (.loc (nat_lit 0)))) (.l (.loc (nat_lit 1)))))) (.l .done))⟩
noncomputable def f64 : Fn := ⟨(nat_lit 2), (nat_lit 2), (.b .seq (.t .ifs (.b (.cmp .lt) (.l (.loc (nat_lit 0))) (.l (.loc (nat_lit 1)))) (.b .seq (.u .ret (.b (.op2 .sub) (.b (.op2 .shl) (.l (.int (.ofNat (nat_lit 1)))) (.l (.loc (nat_lit 1)))) (.b (.op2 .shl) (.l (.int (.ofNat (nat_lit 2)))) (.l (.loc (nat_lit 0)))))) (.l .done)) (.l .done)) (.b .seq (.u .ret (.b (.op2 .sub) (.b (.op2 .shl) (.l (.int (.ofNat (nat_lit 1)))) (.l (.loc (nat_lit 0)))) (.b (.op2 .shl) (.l (.int (.ofNat (nat_lit 2)))) (.l (.loc (nat_lit 1)))))) (.l .done)))⟩
noncomputable def f65 : Fn := ⟨(nat_lit 2), (nat_lit 19), (.b .seq (.u (.asg (nat_lit 2)) (.b .item (.u (.attr (nat_lit 2)) (.u (.attr (nat_lit 25)) (.l (.loc (nat_lit 0))))) (.l (.loc (nat_lit 1))))) (.b .seq (.t .ifs (.u .isN (.l (.loc (nat_lit 2)))) (.b .seq (.u .ret (.l (.gint (nat_lit 9) (.ofNat (nat_lit 1))))) (.l .done)) (.l .done)) (.b .seq (.t .ifs (.b (.cmp .eq) (.b (.op2 .band) (.u (.attr (nat_lit 19)) (.l (.loc (nat_lit 0)))) (.b (.op2 .shl) (.l (.int (.ofNat (nat_lit 1)))) (.l (.loc (nat_lit 1))))) (.l (.int (.ofNat (nat_lit 0))))) (.b .seq (.u .ret (.l (.gint (nat_lit 10) (.ofNat (nat_lit 2))))) (.l .done)) (.l .done)) (.b .seq (.u (.asgT [(nat_lit 3), (nat_lit 4), (nat_lit 5), (nat_lit 6)]) (.l (.loc (nat_lit 2)))) (.b .seq (.u (.asg (nat_lit 7)) (.u (.call (nat_lit 11) (nat_lit 47)) (.b .cons (.l (.loc (nat_lit 0))) (.l .nil)))) (.b .seq (.t .ifs (.b (.op2 .band) (.l (.loc (nat_lit 7))) (.u (.call (nat_lit 12) (nat_lit 64)) (.b .cons (.l (.loc (nat_lit 3))) (.b .cons (.l (.loc (nat_lit 5))) (.l .nil))))) (.b .seq (.u .ret (.l (.gint (nat_lit 13) (.ofNat (nat_lit 3))))) (.l .done)) (.l .done)) (.b .seq (.u (.asg (nat_lit 8)) (.b (.op2 .sub) (.l (.int (.ofNat (nat_lit 1)))) (.b (.op2 .shr) (.l (.loc (nat_lit 1))) (.l (.int (.ofNat (nat_lit 1))))))) (.b .seq (.t .ifs (.u (.call (nat_lit 14) (nat_lit 56)) (.b .cons (.l (.loc (nat_lit 0))) (.b .cons (.l (.loc (nat_lit 3))) (.b .cons (.l (.loc (nat_lit 8))) (.b .cons (.l (.loc (nat_lit 7))) (.l .nil)))))) (.b .seq (.u .ret (.l (.gint (nat_lit 15) (.ofNat (nat_lit 4))))) (.l .done)) (.l .done)) (.b .seq (.t .ifs (.u (.call (nat_lit 14) (nat_lit 56)) (.b .cons (.l (.loc (nat_lit 0))) (.b .cons (.l (.loc (nat_lit 6))) (.b .cons (.l (.loc (nat_lit 8))) (.b .cons (.l (.loc (nat_lit 7))) (.l .nil)))))) (.b .seq (.u .ret (.l (.gint (nat_lit 16) (.ofNat (nat_lit 5))))) (.l .done)) (.l .done)) (.b .seq (.t .ifs (.u (.call (nat_lit 14) (nat_lit 56)) (.b .cons (.l (.loc (nat_lit 0))) (.b .cons (.l (.loc (nat_lit 4))) (.b .cons (.l (.loc (nat_lit 8))) (.b .cons (.l (.loc (nat_lit 7))) (.l .nil)))))) (.b .seq (.u .ret (.l (.gint (nat_lit 17) (.ofNat (nat_lit 6))))) (.l .done)) (.l .done)) (.b .seq (.u .ret (.l (.gint (nat_lit 18) (.ofNat (nat_lit 0))))) (.l .done))))))))))))⟩
noncomputable def f66 : Fn := ⟨(nat_lit 2), (nat_lit 12), (.b .seq (.b (.for1 (nat_lit 2)) (.u .list (.b .cons (.b (.op2 .mul) (.l (.int (.ofNat (nat_lit 2)))) (.u (.attr (nat_lit 20)) (.l (.loc (nat_lit 0))))) (.b .cons (.b (.op2 .add) (.b (.op2 .mul) (.l (.int (.ofNat (nat_lit 2)))) (.u (.attr (nat_lit 20)) (.l (.loc (nat_lit 0))))) (.l (.int (.ofNat (nat_lit 1))))) (.l .nil)))) (.b .seq (.t .ifs (.b (.cmp .eq) (.u (.call (nat_lit 7) (nat_lit 65)) (.b .cons (.l (.loc (nat_lit 0))) (.b .cons (.l (.loc (nat_lit 2))) (.l .nil)))) (.l (.gint (nat_lit 8) (.ofNat (nat_lit 0))))) (.b .seq (.u (.asgT [(nat_lit 3), (nat_lit 4), (nat_lit 5), (nat_lit 6)]) (.b .item (.u (.attr (nat_lit 2)) (.u (.attr (nat_lit 25)) (.l (.loc (nat_lit 0))))) (.l (.loc (nat_lit 2))))) (.b .seq (.b .app (.l (.loc (nat_lit 1))) (.u (.call (nat_lit 9) (nat_lit 4)) (.b .cons (.l (.loc (nat_lit 3))) (.b .cons (.l (.loc (nat_lit 4))) (.b .cons (.l (.gint (nat_lit 10) (.ofNat (nat_lit 3)))) (.b .cons (.l (.gint (nat_lit 11) (.ofNat (nat_lit 0)))) (.l .nil))))))) (.l .done))) (.l .done)) (.l .done))) (.l .done))⟩
noncomputable def f67 : Fn := ⟨(nat_lit 3), (nat_lit 8), (.b .seq (.b (.for1 (nat_lit 3)) (.u (.call (nat_lit 4) (nat_lit 38)) (.b .cons (.l (.loc (nat_lit 1))) (.l .nil))) (.b .seq (.b .app (.l (.loc (nat_lit 2))) (.u (.call (nat_lit 5) (nat_lit 4)) (.b .cons (.l (.loc (nat_lit 0))) (.b .cons (.l (.loc (nat_lit 3))) (.b .cons (.l (.gint (nat_lit 6) (.ofNat (nat_lit 0)))) (.b .cons (.l (.gint (nat_lit 7) (.ofNat (nat_lit 0)))) (.l .nil))))))) (.l .done))) (.l .done))⟩
noncomputable def f68 : Fn := ⟨(nat_lit 4), (nat_lit 12), (.b .seq (.u (.asg (nat_lit 4)) (.u (.call (nat_lit 7) (nat_lit 47)) (.b .cons (.l (.loc (nat_lit 0))) (.l .nil)))) (.b .seq (.b (.for1 (nat_lit 5)) (.u (.call (nat_lit 8) (nat_lit 38)) (.b .cons (.u (.call (nat_lit 9) (nat_lit 48)) (.b .cons (.l (.loc (nat_lit 0))) (.b .cons (.u (.attr (nat_lit 20)) (.l (.loc (nat_lit 0)))) (.b .cons (.l (.loc (nat_lit 1))) (.l .nil))))) (.l .nil))) (.b .seq (.u (.asg (nat_lit 6)) (.u (.call (nat_lit 10) (nat_lit 23)) (.b .cons (.u (.attr (nat_lit 25)) (.l (.loc (nat_lit 0)))) (.b .cons (.u (.attr (nat_lit 20)) (.l (.loc (nat_lit 0)))) (.b .cons (.l (.loc (nat_lit 1))) (.b .cons (.l (.loc (nat_lit 5))) (.b .cons (.l (.loc (nat_lit 4))) (.l .nil)))))))) (.b .seq (.u .ex (.u (.call (nat_lit 11) (nat_lit 67)) (.b .cons (.l (.loc (nat_lit 5))) (.b .cons (.b (.op2 .band) (.l (.loc (nat_lit 6))) (.l (.loc (nat_lit 2)))) (.b .cons (.l (.loc (nat_lit 3))) (.l .nil)))))) (.l .done)))) (.l .done)))⟩
noncomputable def f69 : Fn := ⟨(nat_lit 2), (nat_lit 5), (.b .seq (.t .ifs (.b (.cmp .eq) (.l (.loc (nat_lit 1))) (.l (.gint (nat_lit 2) (.ofNat (nat_lit 0))))) (.b .seq (.u .ret (.b .item (.u (.attr (nat_lit 21)) (.l (.loc (nat_lit 0)))) (.b (.op2 .sub) (.l (.int (.ofNat (nat_lit 1)))) (.u (.attr (nat_lit 20)) (.l (.loc (nat_lit 0))))))) (.l .done)) (.l .done)) (.b .seq (.t .ifs (.b (.cmp .eq) (.l (.loc (nat_lit 1))) (.l (.gint (nat_lit 3) (.ofNat (nat_lit 1))))) (.b .seq (.u .ret (.b (.op2 .band) (.u (.attr (nat_lit 11)) (.u (.attr (nat_lit 25)) (.l (.loc (nat_lit 0))))) (.u .inv (.u (.call (nat_lit 4) (nat_lit 47)) (.b .cons (.l (.loc (nat_lit 0))) (.l .nil)))))) (.l .done)) (.l .done)) (.b .seq (.u .ret (.b (.op2 .band) (.u (.attr (nat_lit 11)) (.u (.attr (nat_lit 25)) (.l (.loc (nat_lit 0))))) (.u .inv (.b .item (.u (.attr (nat_lit 21)) (.l (.loc (nat_lit 0)))) (.u (.attr (nat_lit 20)) (.l (.loc (nat_lit 0)))))))) (.l .done))))⟩
noncomputable def f70 : Fn := ⟨(nat_lit 2), (nat_lit 3), (.b .seq (.t .ifs (.b (.cmp .eq) (.l (.loc (nat_lit 1))) (.l (.gint (nat_lit 2) (.ofNat (nat_lit 0))))) (.b .seq (.u .ret (.u (.attr (nat_lit 14)) (.l (.loc (nat_lit 0))))) (.l .done)) (.l .done)) (.b .seq (.u .ret (.u .neg (.u (.attr (nat_lit 14)) (.l (.loc (nat_lit 0)))))) (.l .done)))⟩
noncomputable def f71 : Fn := ⟨(nat_lit 2), (nat_lit 3), (.b .seq (.t .ifs (.b (.cmp .eq) (.l (.loc (nat_lit 1))) (.l (.gint (nat_lit 2) (.ofNat (nat_lit 0))))) (.b .seq (.u .ret (.b .item (.u (.attr (nat_lit 7)) (.l (.loc (nat_lit 0)))) (.l (.int (.ofNat (nat_lit 1)))))) (.l .done)) (.l .done)) (.b .seq (.u .ret (.b .item (.u (.attr (nat_lit 7)) (.l (.loc (nat_lit 0)))) (.b (.op2 .sub) (.u (.attr (nat_lit 13)) (.l (.loc (nat_lit 0)))) (.l (.int (.ofNat (nat_lit 2))))))) (.l .done)))⟩
noncomputable def f72 : Fn := ⟨(nat_lit 2), (nat_lit 3), (.b .seq (.t .ifs (.b (.cmp .eq) (.l (.loc (nat_lit 1))) (.l (.gint (nat_lit 2) (.ofNat (nat_lit 0))))) (.b .seq (.u .ret (.b .item (.u (.attr (nat_lit 7)) (.l (.loc (nat_lit 0)))) (.b (.op2 .sub) (.u (.attr (nat_lit 13)) (.l (.loc (nat_lit 0)))) (.l (.int (.ofNat (nat_lit 1))))))) (.l .done)) (.l .done)) (.b .seq (.u .ret (.b .item (.u (.attr (nat_lit 7)) (.l (.loc (nat_lit 0)))) (.l (.int (.ofNat (nat_lit 0)))))) (.l .done)))⟩
noncomputable def f73 : Fn := ⟨(nat_lit 3), (nat_lit 4), (.b .seq (.t .ifs (.b (.cmp .eq) (.l (.loc (nat_lit 2))) (.l (.gint (nat_lit 3) (.ofNat (nat_lit 0))))) (.b .seq (.u .ret (.b (.op2 .band) (.b (.op2 .shl) (.l (.loc (nat_lit 1))) (.u (.attr (nat_lit 14)) (.l (.loc (nat_lit 0))))) (.u (.attr (nat_lit 11)) (.l (.loc (nat_lit 0)))))) (.l .done)) (.l .done)) (.b .seq (.u .ret (.b (.op2 .shr) (.l (.loc (nat_lit 1))) (.u (.attr (nat_lit 14)) (.l (.loc (nat_lit 0)))))) (.l .done)))⟩
noncomputable def f74 : Fn := ⟨(nat_lit 4), (nat_lit 5), (.b .seq (.t .ifs (.b (.cmp .eq) (.l (.loc (nat_lit 3))) (.l (.int (.ofNat (nat_lit 0))))) (.b .seq (.u .ret (.b (.op2 .shl) (.u (.call (nat_lit 4) (nat_lit 73)) (.b .cons (.l (.loc (nat_lit 0))) (.b .cons (.b (.op2 .band) (.l (.loc (nat_lit 1))) (.u .inv (.b .item (.u (.attr (nat_lit 8)) (.l (.loc (nat_lit 0)))) (.b (.op2 .sub) (.u (.attr (nat_lit 14)) (.l (.loc (nat_lit 0)))) (.l (.int (.ofNat (nat_lit 1)))))))) (.b .cons (.l (.loc (nat_lit 2))) (.l .nil))))) (.l (.int (.ofNat (nat_lit 1)))))) (.l .done)) (.l .done)) (.b .seq (.u .ret (.b (.op2 .shr) (.u (.call (nat_lit 4) (nat_lit 73)) (.b .cons (.l (.loc (nat_lit 0))) (.b .cons (.b (.op2 .band) (.l (.loc (nat_lit 1))) (.u .inv (.b .item (.u (.attr (nat_lit 8)) (.l (.loc (nat_lit 0)))) (.l (.int (.ofNat (nat_lit 0))))))) (.b .cons (.l (.loc (nat_lit 2))) (.l .nil))))) (.l (.int (.ofNat (nat_lit 1)))))) (.l .done)))⟩
noncomputable def f75 : Fn := ⟨(nat_lit 2), (nat_lit 13), (.b .seq (.u (.asg (nat_lit 2)) (.u (.attr (nat_lit 25)) (.l (.loc (nat_lit 0))))) (.b .seq (.u (.asg (nat_lit 3)) (.b (.op2 .band) (.u (.attr (nat_lit 11)) (.l (.loc (nat_lit 2)))) (.u .inv (.u (.call (nat_lit 8) (nat_lit 47)) (.b .cons (.l (.loc (nat_lit 0))) (.l .nil)))))) (.b .seq (.u (.asg (nat_lit 4)) (.u (.call (nat_lit 9) (nat_lit 48)) (.b .cons (.l (.loc (nat_lit 0))) (.b .cons (.l (.loc (nat_lit 1))) (.b .cons (.l (.gint (nat_lit 10) (.ofNat (nat_lit 1)))) (.l .nil)))))) (.b .seq (.u (.asg (nat_lit 5)) (.b (.op2 .band) (.u (.call (nat_lit 11) (nat_lit 73)) (.b .cons (.l (.loc (nat_lit 2))) (.b .cons (.l (.loc (nat_lit 4))) (.b .cons (.l (.loc (nat_lit 1))) (.l .nil))))) (.l (.loc (nat_lit 3))))) (.b .seq (.u (.asg (nat_lit 6)) (.l (.int (.ofNat (nat_lit 0))))) (.b .seq (.t .ifs (.u (.attr (nat_lit 10)) (.l (.loc (nat_lit 2)))) (.b .seq (.u (.asg (nat_lit 7)) (.b (.op2 .band) (.u (.call (nat_lit 11) (nat_lit 73)) (.b .cons (.l (.loc (nat_lit 2))) (.b .cons (.b (.op2 .band) (.l (.loc (nat_lit 4))) (.u (.call (nat_lit 12) (nat_lit 71)) (.b .cons (.l (.loc (nat_lit 2))) (.b .cons (.l (.loc (nat_lit 1))) (.l .nil))))) (.b .cons (.l (.loc (nat_lit 1))) (.l .nil))))) (.l (.loc (nat_lit 3))))) (.b .seq (.u (.asg (nat_lit 6)) (.b (.op2 .band) (.u (.call (nat_lit 11) (nat_lit 73)) (.b .cons (.l (.loc (nat_lit 2))) (.b .cons (.l (.loc (nat_lit 7))) (.b .cons (.l (.loc (nat_lit 1))) (.l .nil))))) (.l (.loc (nat_lit 3))))) (.l .done))) (.l .done)) (.b .seq (.u .ret (.u .tup (.b .cons (.l (.loc (nat_lit 5))) (.b .cons (.l (.loc (nat_lit 6))) (.l .nil))))) (.l .done))))))))⟩
noncomputable def f76 : Fn := ⟨(nat_lit 5), (nat_lit 15), (.b .seq (.t .ifs (.b (.cmp .ne) (.l (.loc (nat_lit 2))) (.l (.gint (nat_lit 7) (.ofNat (nat_lit 1))))) (.b .seq (.b .app (.l (.loc (nat_lit 4))) (.u (.call (nat_lit 8) (nat_lit 4)) (.b .cons (.l (.loc (nat_lit 0))) (.b .cons (.l (.loc (nat_lit 1))) (.b .cons (.l (.gint (nat_lit 9) (.ofNat (nat_lit 1)))) (.b .cons (.l (.gint (nat_lit 10) (.ofNat (nat_lit 5)))) (.l .nil))))))) (.l .done)) (.l .done)) (.b .seq (.t .ifs (.b (.cmp .eq) (.l (.loc (nat_lit 2))) (.l (.gint (nat_lit 11) (.ofNat (nat_lit 0))))) (.b .seq (.u (.asg (nat_lit 5)) (.l (.loc (nat_lit 3)))) (.l .done)) (.b .seq (.t .ifs (.b (.cmp .eq) (.l (.loc (nat_lit 2))) (.l (.gint (nat_lit 7) (.ofNat (nat_lit 1))))) (.b .seq (.u (.asg (nat_lit 5)) (.u .not (.l (.loc (nat_lit 3))))) (.l .done)) (.b .seq (.u (.asg (nat_lit 5)) (.l (.bool true))) (.l .done))) (.l .done))) (.b .seq (.t .ifs (.l (.loc (nat_lit 5))) (.b .seq (.b (.for1 (nat_lit 6)) (.u .list (.b .cons (.l (.gint (nat_lit 12) (.ofNat (nat_lit 4)))) (.b .cons (.l (.gint (nat_lit 13) (.ofNat (nat_lit 3)))) (.b .cons (.l (.gint (nat_lit 14) (.ofNat (nat_lit 2)))) (.l .nil))))) (.b .seq (.b .app (.l (.loc (nat_lit 4))) (.u (.call (nat_lit 8) (nat_lit 4)) (.b .cons (.l (.loc (nat_lit 0))) (.b .cons (.l (.loc (nat_lit 1))) (.b .cons (.l (.gint (nat_lit 9) (.ofNat (nat_lit 1)))) (.b .cons (.l (.loc (nat_lit 6))) (.l .nil))))))) (.l .done))) (.l .done)) (.l .done)) (.l .done))))⟩
noncomputable def f77 : Fn := ⟨(nat_lit 3), (nat_lit 15), (.b .seq (.u (.asg (nat_lit 3)) (.u (.attr (nat_lit 25)) (.l (.loc (nat_lit 0))))) (.b .seq (.u (.asg (nat_lit 4)) (.u (.call (nat_lit 8) (nat_lit 70)) (.b .cons (.l (.loc (nat_lit 3))) (.b .cons (.u (.attr (nat_lit 20)) (.l (.loc (nat_lit 0)))) (.l .nil))))) (.b .seq (.u (.asgT [(nat_lit 5), (nat_lit 6)]) (.u (.call (nat_lit 9) (nat_lit 75)) (.b .cons (.l (.loc (nat_lit 0))) (.b .cons (.u (.attr (nat_lit 20)) (.l (.loc (nat_lit 0)))) (.l .nil))))) (.b .seq (.b (.for1 (nat_lit 7)) (.u (.call (nat_lit 10) (nat_lit 38)) (.b .cons (.b (.op2 .band) (.b (.op2 .band) (.l (.loc (nat_lit 5))) (.l (.loc (nat_lit 1)))) (.u .inv (.u (.call (nat_lit 11) (nat_lit 72)) (.b .cons (.l (.loc (nat_lit 3))) (.b .cons (.u (.attr (nat_lit 20)) (.l (.loc (nat_lit 0)))) (.l .nil)))))) (.l .nil))) (.b .seq (.b .app (.l (.loc (nat_lit 2))) (.u (.call (nat_lit 12) (nat_lit 4)) (.b .cons (.b (.op2 .sub) (.l (.loc (nat_lit 7))) (.l (.loc (nat_lit 4)))) (.b .cons (.l (.loc (nat_lit 7))) (.b .cons (.l (.gint (nat_lit 13) (.ofNat (nat_lit 0)))) (.b .cons (.l (.gint (nat_lit 14) (.ofNat (nat_lit 0)))) (.l .nil))))))) (.l .done))) (.b .seq (.b (.for1 (nat_lit 7)) (.u (.call (nat_lit 10) (nat_lit 38)) (.b .cons (.b (.op2 .band) (.l (.loc (nat_lit 6))) (.l (.loc (nat_lit 1)))) (.l .nil))) (.b .seq (.b .app (.l (.loc (nat_lit 2))) (.u (.call (nat_lit 12) (nat_lit 4)) (.b .cons (.b (.op2 .sub) (.l (.loc (nat_lit 7))) (.b (.op2 .mul) (.l (.int (.ofNat (nat_lit 2)))) (.l (.loc (nat_lit 4))))) (.b .cons (.l (.loc (nat_lit 7))) (.b .cons (.l (.gint (nat_lit 13) (.ofNat (nat_lit 0)))) (.b .cons (.l (.gint (nat_lit 14) (.ofNat (nat_lit 0)))) (.l .nil))))))) (.l .done))) (.l .done))))))⟩
noncomputable def f78 : Fn := ⟨(nat_lit 4), (nat_lit 13), (.b .seq (.u (.asg (nat_lit 4)) (.u (.attr (nat_lit 25)) (.l (.loc (nat_lit 0))))) (.b .seq (.u (.asg (nat_lit 5)) (.u (.call (nat_lit 8) (nat_lit 70)) (.b .cons (.l (.loc (nat_lit 4))) (.b .cons (.u (.attr (nat_lit 20)) (.l (.loc (nat_lit 0)))) (.l .nil))))) (.b .seq (.u (.asg (nat_lit 6)) (.b .item (.u (.call (nat_lit 9) (nat_lit 75)) (.b .cons (.l (.loc (nat_lit 0))) (.b .cons (.u (.attr (nat_lit 20)) (.l (.loc (nat_lit 0)))) (.l .nil)))) (.l (.int (.ofNat (nat_lit 0)))))) (.b .seq (.b (.for1 (nat_lit 7)) (.u (.call (nat_lit 10) (nat_lit 38)) (.b .cons (.b (.op2 .band) (.b (.op2 .band) (.l (.loc (nat_lit 6))) (.l (.loc (nat_lit 2)))) (.u (.call (nat_lit 11) (nat_lit 72)) (.b .cons (.l (.loc (nat_lit 4))) (.b .cons (.u (.attr (nat_lit 20)) (.l (.loc (nat_lit 0)))) (.l .nil))))) (.l .nil))) (.b .seq (.u .ex (.u (.call (nat_lit 12) (nat_lit 76)) (.b .cons (.b (.op2 .sub) (.l (.loc (nat_lit 7))) (.l (.loc (nat_lit 5)))) (.b .cons (.l (.loc (nat_lit 7))) (.b .cons (.l (.loc (nat_lit 1))) (.b .cons (.l (.bool false)) (.b .cons (.l (.loc (nat_lit 3))) (.l .nil)))))))) (.l .done))) (.l .done)))))⟩
noncomputable def f79 : Fn := ⟨(nat_lit 4), (nat_lit 22), (.b .seq (.u (.asg (nat_lit 4)) (.u (.attr (nat_lit 25)) (.l (.loc (nat_lit 0))))) (.b .seq (.u (.asg (nat_lit 5)) (.u (.attr (nat_lit 20)) (.l (.loc (nat_lit 0))))) (.b .seq (.u (.asg (nat_lit 6)) (.u (.call (nat_lit 12) (nat_lit 72)) (.b .cons (.l (.loc (nat_lit 4))) (.b .cons (.l (.loc (nat_lit 5))) (.l .nil))))) (.b .seq (.u (.asg (nat_lit 7)) (.u (.call (nat_lit 13) (nat_lit 48)) (.b .cons (.l (.loc (nat_lit 0))) (.b .cons (.l (.loc (nat_lit 5))) (.b .cons (.l (.gint (nat_lit 14) (.ofNat (nat_lit 1)))) (.l .nil)))))) (.b .seq (.u (.asg (nat_lit 8)) (.b (.op2 .band) (.l (.loc (nat_lit 2))) (.b .item (.u (.attr (nat_lit 21)) (.l (.loc (nat_lit 0)))) (.b (.op2 .sub) (.l (.int (.ofNat (nat_lit 1)))) (.l (.loc (nat_lit 5))))))) (.b .seq (.b (.for1 (nat_lit 9)) (.u .list (.b .cons (.l (.int (.ofNat (nat_lit 0)))) (.b .cons (.l (.int (.ofNat (nat_lit 1)))) (.l .nil)))) (.b .seq (.u (.asg (nat_lit 10)) (.b (.op2 .sub) (.b (.op2 .add) (.u (.call (nat_lit 15) (nat_lit 70)) (.b .cons (.l (.loc (nat_lit 4))) (.b .cons (.l (.loc (nat_lit 5))) (.l .nil)))) (.l (.int (.ofNat (nat_lit 1))))) (.b (.op2 .mul) (.l (.int (.ofNat (nat_lit 2)))) (.l (.loc (nat_lit 9)))))) (.b .seq (.b (.for1 (nat_lit 11)) (.u (.call (nat_lit 16) (nat_lit 38)) (.b .cons (.b (.op2 .band) (.u (.call (nat_lit 17) (nat_lit 74)) (.b .cons (.l (.loc (nat_lit 4))) (.b .cons (.l (.loc (nat_lit 7))) (.b .cons (.l (.loc (nat_lit 5))) (.b .cons (.l (.loc (nat_lit 9))) (.l .nil)))))) (.l (.loc (nat_lit 8)))) (.l .nil))) (.b .seq (.t .ifs (.b (.op2 .band) (.l (.loc (nat_lit 6))) (.b (.op2 .shl) (.l (.int (.ofNat (nat_lit 1)))) (.l (.loc (nat_lit 11))))) (.b .seq (.u .ex (.u (.call (nat_lit 18) (nat_lit 76)) (.b .cons (.b (.op2 .sub) (.l (.loc (nat_lit 11))) (.l (.loc (nat_lit 10)))) (.b .cons (.l (.loc (nat_lit 11))) (.b .cons (.l (.loc (nat_lit 1))) (.b .cons (.l (.bool true)) (.b .cons (.l (.loc (nat_lit 3))) (.l .nil)))))))) (.l .done)) (.b .seq (.b .app (.l (.loc (nat_lit 3))) (.u (.call (nat_lit 19) (nat_lit 4)) (.b .cons (.b (.op2 .sub) (.l (.loc (nat_lit 11))) (.l (.loc (nat_lit 10)))) (.b .cons (.l (.loc (nat_lit 11))) (.b .cons (.l (.gint (nat_lit 20) (.ofNat (nat_lit 0)))) (.b .cons (.l (.gint (nat_lit 21) (.ofNat (nat_lit 0)))) (.l .nil))))))) (.l .done))) (.l .done))) (.l .done)))) (.l .done)))))))⟩
noncomputable def f80 : Fn := ⟨(nat_lit 4), (nat_lit 9), (.b .seq (.t .ifs (.b (.cmp .ne) (.l (.loc (nat_lit 1))) (.l (.gint (nat_lit 4) (.ofNat (nat_lit 0))))) (.b .seq (.u .ex (.u (.call (nat_lit 5) (nat_lit 77)) (.b .cons (.l (.loc (nat_lit 0))) (.b .cons (.l (.loc (nat_lit 2))) (.b .cons (.l (.loc (nat_lit 3))) (.l .nil)))))) (.l .done)) (.l .done)) (.b .seq (.u .ex (.u (.call (nat_lit 6) (nat_lit 78)) (.b .cons (.l (.loc (nat_lit 0))) (.b .cons (.l (.loc (nat_lit 1))) (.b .cons (.l (.loc (nat_lit 2))) (.b .cons (.l (.loc (nat_lit 3))) (.l .nil))))))) (.b .seq (.t .ifs (.b (.cmp .ne) (.l (.loc (nat_lit 1))) (.l (.gint (nat_lit 7) (.ofNat (nat_lit 1))))) (.b .seq (.u .ex (.u (.call (nat_lit 8) (nat_lit 79)) (.b .cons (.l (.loc (nat_lit 0))) (.b .cons (.l (.loc (nat_lit 1))) (.b .cons (.l (.loc (nat_lit 2))) (.b .cons (.l (.loc (nat_lit 3))) (.l .nil))))))) (.l .done)) (.l .done)) (.l .done))))⟩
noncomputable def f81 : Fn := ⟨(nat_lit 2), (nat_lit 10), (.b .seq (.t .ifs (.b (.cmp .lt) (.u (.attr (nat_lit 18)) (.l (.loc (nat_lit 0)))) (.l (.int (.ofNat (nat_lit 0))))) (.b .seq (.l .ret0) (.l .done)) (.l .done)) (.b .seq (.u (.asg (nat_lit 2)) (.b (.op2 .band) (.b .item (.b .item (.u (.attr (nat_lit 3)) (.u (.attr (nat_lit 25)) (.l (.loc (nat_lit 0))))) (.b (.op2 .sub) (.l (.int (.ofNat (nat_lit 1)))) (.u (.attr (nat_lit 20)) (.l (.loc (nat_lit 0)))))) (.u (.attr (nat_lit 18)) (.l (.loc (nat_lit 0))))) (.u (.call (nat_lit 4) (nat_lit 48)) (.b .cons (.l (.loc (nat_lit 0))) (.b .cons (.u (.attr (nat_lit 20)) (.l (.loc (nat_lit 0)))) (.b .cons (.l (.gint (nat_lit 5) (.ofNat (nat_lit 1)))) (.l .nil))))))) (.b .seq (.b (.for1 (nat_lit 3)) (.u (.call (nat_lit 6) (nat_lit 38)) (.b .cons (.l (.loc (nat_lit 2))) (.l .nil))) (.b .seq (.b .app (.l (.loc (nat_lit 1))) (.u (.call (nat_lit 7) (nat_lit 4)) (.b .cons (.l (.loc (nat_lit 3))) (.b .cons (.u (.attr (nat_lit 18)) (.l (.loc (nat_lit 0)))) (.b .cons (.l (.gint (nat_lit 8) (.ofNat (nat_lit 2)))) (.b .cons (.l (.gint (nat_lit 9) (.ofNat (nat_lit 0)))) (.l .nil))))))) (.l .done))) (.l .done))))⟩
noncomputable def f82 : Fn := ⟨(nat_lit 2), (nat_lit 6), (.b .seq (.t .ifs (.b .or (.b (.cmp .eq) (.l (.loc (nat_lit 1))) (.l (.int (.ofNat (nat_lit 0))))) (.u (.call (nat_lit 2) (nat_lit 35)) (.b .cons (.l (.loc (nat_lit 1))) (.l .nil)))) (.b .seq (.u .ret (.l (.int (.ofNat (nat_lit 0))))) (.l .done)) (.l .done)) (.b .seq (.u .ret (.b (.op2 .bor) (.l (.loc (nat_lit 1))) (.u (.call (nat_lit 3) (nat_lit 40)) (.b .cons (.u (.attr (nat_lit 25)) (.l (.loc (nat_lit 0)))) (.b .cons (.u (.call (nat_lit 4) (nat_lit 49)) (.b .cons (.l (.loc (nat_lit 0))) (.b .cons (.u (.attr (nat_lit 20)) (.l (.loc (nat_lit 0)))) (.l .nil)))) (.b .cons (.u (.call (nat_lit 5) (nat_lit 37)) (.b .cons (.l (.loc (nat_lit 1))) (.l .nil))) (.l .nil))))))) (.l .done)))⟩
noncomputable def f83 : Fn := ⟨(nat_lit 1), (nat_lit 2), (.b .seq (.t .ifs (.b (.cmp .eq) (.u (.attr (nat_lit 20)) (.l (.loc (nat_lit 0)))) (.l (.gint (nat_lit 1) (.ofNat (nat_lit 0))))) (.b .seq (.u .ret (.b (.op2 .sub) (.u (.attr (nat_lit 18)) (.l (.loc (nat_lit 0)))) (.u (.attr (nat_lit 14)) (.u (.attr (nat_lit 25)) (.l (.loc (nat_lit 0))))))) (.l .done)) (.l .done)) (.b .seq (.u .ret (.b (.op2 .add) (.u (.attr (nat_lit 18)) (.l (.loc (nat_lit 0)))) (.u (.attr (nat_lit 14)) (.u (.attr (nat_lit 25)) (.l (.loc (nat_lit 0))))))) (.l .done)))⟩
noncomputable def f84 : Fn := ⟨(nat_lit 2), (nat_lit 3), (.b .seq (.t .ifs (.b (.cmp .lt) (.u (.attr (nat_lit 18)) (.l (.loc (nat_lit 0)))) (.l (.int (.ofNat (nat_lit 0))))) (.b .seq (.u .ret (.l (.bool false))) (.l .done)) (.l .done)) (.b .seq (.u .ret (.b (.cmp .ne) (.b (.op2 .band) (.l (.loc (nat_lit 1))) (.b (.op2 .bor) (.b (.op2 .shl) (.l (.int (.ofNat (nat_lit 1)))) (.u (.attr (nat_lit 18)) (.l (.loc (nat_lit 0))))) (.b (.op2 .shl) (.l (.int (.ofNat (nat_lit 1)))) (.u (.call (nat_lit 2) (nat_lit 83)) (.b .cons (.l (.loc (nat_lit 0))) (.l .nil)))))) (.l (.int (.ofNat (nat_lit 0)))))) (.l .done)))⟩
noncomputable def f85 : Fn := ⟨(nat_lit 2), (nat_lit 16), (.b .seq (.u (.asg (nat_lit 2)) (.u (.call (nat_lit 4) (nat_lit 82)) (.b .cons (.l (.loc (nat_lit 0))) (.b .cons (.u (.call (nat_lit 5) (nat_lit 58)) (.b .cons (.l (.loc (nat_lit 0))) (.l .nil))) (.l .nil))))) (.b .seq (.t .ifs (.l (.loc (nat_lit 2))) (.b .seq (.u .ex (.u (.call (nat_lit 6) (nat_lit 80)) (.b .cons (.l (.loc (nat_lit 0))) (.b .cons (.l (.gint (nat_lit 7) (.ofNat (nat_lit 3)))) (.b .cons (.l (.loc (nat_lit 2))) (.b .cons (.l (.loc (nat_lit 1))) (.l .nil))))))) (.b .seq (.t .ifs (.u (.call (nat_lit 8) (nat_lit 84)) (.b .cons (.l (.loc (nat_lit 0))) (.b .cons (.l (.loc (nat_lit 2))) (.l .nil)))) (.b .seq (.u .ex (.u (.call (nat_lit 9) (nat_lit 81)) (.b .cons (.l (.loc (nat_lit 0))) (.b .cons (.l (.loc (nat_lit 1))) (.l .nil))))) (.l .done)) (.l .done)) (.b .seq (.b (.for1 (nat_lit 3)) (.u .list (.b .cons (.l (.gint (nat_lit 10) (.ofNat (nat_lit 2)))) (.b .cons (.l (.gint (nat_lit 11) (.ofNat (nat_lit 3)))) (.b .cons (.l (.gint (nat_lit 12) (.ofNat (nat_lit 4)))) (.b .cons (.l (.gint (nat_lit 13) (.ofNat (nat_lit 5)))) (.l .nil)))))) (.b .seq (.u .ex (.u (.call (nat_lit 14) (nat_lit 68)) (.b .cons (.l (.loc (nat_lit 0))) (.b .cons (.l (.loc (nat_lit 3))) (.b .cons (.l (.loc (nat_lit 2))) (.b .cons (.l (.loc (nat_lit 1))) (.l .nil))))))) (.l .done))) (.l .done)))) (.l .done)) (.b .seq (.u .ex (.u (.call (nat_lit 14) (nat_lit 68)) (.b .cons (.l (.loc (nat_lit 0))) (.b .cons (.l (.gint (nat_lit 15) (.ofNat (nat_lit 6)))) (.b .cons (.b (.op2 .band) (.u (.attr (nat_lit 11)) (.u (.attr (nat_lit 25)) (.l (.loc (nat_lit 0))))) (.u .inv (.b .item (.u (.attr (nat_lit 21)) (.l (.loc (nat_lit 0)))) (.u (.attr (nat_lit 20)) (.l (.loc (nat_lit 0))))))) (.b .cons (.l (.loc (nat_lit 1))) (.l .nil))))))) (.l .done))))⟩
noncomputable def f86 : Fn := ⟨(nat_lit 2), (nat_lit 7), (.b .seq (.u (.asg (nat_lit 2)) (.u (.call (nat_lit 3) (nat_lit 6)) (.b .cons (.l (.loc (nat_lit 1))) (.l .nil)))) (.b .seq (.t .ifs (.b (.cmp .ne) (.u (.call (nat_lit 4) (nat_lit 7)) (.b .cons (.l (.loc (nat_lit 1))) (.l .nil))) (.l (.gint (nat_lit 5) (.ofNat (nat_lit 2))))) (.b .seq (.u .ret (.l (.loc (nat_lit 2)))) (.l .done)) (.l .done)) (.b .seq (.t .ifs (.b (.cmp .eq) (.u (.attr (nat_lit 20)) (.l (.loc (nat_lit 0)))) (.l (.gint (nat_lit 6) (.ofNat (nat_lit 0))))) (.b .seq (.u .ret (.b (.op2 .sub) (.l (.loc (nat_lit 2))) (.u (.attr (nat_lit 14)) (.u (.attr (nat_lit 25)) (.l (.loc (nat_lit 0))))))) (.l .done)) (.l .done)) (.b .seq (.u .ret (.b (.op2 .add) (.l (.loc (nat_lit 2))) (.u (.attr (nat_lit 14)) (.u (.attr (nat_lit 25)) (.l (.loc (nat_lit 0))))))) (.l .done)))))⟩
noncomputable def f87 : Fn := ⟨(nat_lit 2), (nat_lit 14), (.b .seq (.u (.asg (nat_lit 2)) (.b (.op2 .shl) (.l (.int (.ofNat (nat_lit 1)))) (.u (.call (nat_lit 7) (nat_lit 86)) (.b .cons (.l (.loc (nat_lit 0))) (.b .cons (.l (.loc (nat_lit 1))) (.l .nil)))))) (.b .seq (.u (.asg (nat_lit 3)) (.b (.op2 .shl) (.l (.int (.ofNat (nat_lit 1)))) (.u (.call (nat_lit 8) (nat_lit 6)) (.b .cons (.l (.loc (nat_lit 1))) (.l .nil))))) (.b .seq (.u (.asg (nat_lit 4)) (.b (.op2 .bor) (.b .item (.u (.attr (nat_lit 21)) (.l (.loc (nat_lit 0)))) (.l (.gint (nat_lit 9) (.ofNat (nat_lit 0))))) (.b .item (.u (.attr (nat_lit 21)) (.l (.loc (nat_lit 0)))) (.l (.gint (nat_lit 10) (.ofNat (nat_lit 1))))))) (.b .seq (.u (.asg (nat_lit 5)) (.b (.op2 .bor) (.b (.op2 .bxor) (.b (.op2 .bxor) (.l (.loc (nat_lit 4))) (.b (.op2 .shl) (.l (.int (.ofNat (nat_lit 1)))) (.u (.call (nat_lit 11) (nat_lit 5)) (.b .cons (.l (.loc (nat_lit 1))) (.l .nil))))) (.l (.loc (nat_lit 2)))) (.l (.loc (nat_lit 3))))) (.b .seq (.u (.asg (nat_lit 6)) (.u (.call (nat_lit 12) (nat_lit 55)) (.b .cons (.l (.loc (nat_lit 0))) (.b .cons (.u (.call (nat_lit 13) (nat_lit 49)) (.b .cons (.l (.loc (nat_lit 0))) (.b .cons (.u (.attr (nat_lit 20)) (.l (.loc (nat_lit 0)))) (.l .nil)))) (.b .cons (.l (.loc (nat_lit 5))) (.l .nil)))))) (.b .seq (.u .ret (.b (.cmp .eq) (.b (.op2 .band) (.b (.op2 .band) (.l (.loc (nat_lit 6))) (.b .item (.u (.attr (nat_lit 21)) (.l (.loc (nat_lit 0)))) (.b (.op2 .sub) (.l (.int (.ofNat (nat_lit 1)))) (.u (.attr (nat_lit 20)) (.l (.loc (nat_lit 0))))))) (.u .inv (.l (.loc (nat_lit 2))))) (.l (.int (.ofNat (nat_lit 0)))))) (.l .done)))))))⟩
noncomputable def f88 : Fn := ⟨(nat_lit 3), (nat_lit 19), (.b .seq (.u (.asg (nat_lit 3)) (.u (.call (nat_lit 8) (nat_lit 7)) (.b .cons (.l (.loc (nat_lit 1))) (.l .nil)))) (.b .seq (.t .ifs (.b (.cmp .eq) (.l (.loc (nat_lit 3))) (.l (.gint (nat_lit 9) (.ofNat (nat_lit 3))))) (.b .seq (.u .ret (.l (.bool true))) (.l .done)) (.l .done)) (.b .seq (.t .ifs (.b (.cmp .eq) (.l (.loc (nat_lit 3))) (.l (.gint (nat_lit 10) (.ofNat (nat_lit 2))))) (.b .seq (.u .ret (.u (.call (nat_lit 11) (nat_lit 87)) (.b .cons (.l (.loc (nat_lit 0))) (.b .cons (.l (.loc (nat_lit 1))) (.l .nil))))) (.l .done)) (.l .done)) (.b .seq (.u (.asg (nat_lit 4)) (.u (.call (nat_lit 12) (nat_lit 5)) (.b .cons (.l (.loc (nat_lit 1))) (.l .nil)))) (.b .seq (.u (.asg (nat_lit 5)) (.u (.call (nat_lit 13) (nat_lit 6)) (.b .cons (.l (.loc (nat_lit 1))) (.l .nil)))) (.b .seq (.u (.asg (nat_lit 6)) (.u (.call (nat_lit 14) (nat_lit 49)) (.b .cons (.l (.loc (nat_lit 0))) (.b .cons (.u (.attr (nat_lit 20)) (.l (.loc (nat_lit 0)))) (.l .nil))))) (.b .seq (.t .ifs (.b (.cmp .eq) (.l (.loc (nat_lit 4))) (.l (.loc (nat_lit 6)))) (.b .seq (.u (.asg (nat_lit 7)) (.b (.op2 .bxor) (.b (.op2 .bor) (.b .item (.u (.attr (nat_lit 21)) (.l (.loc (nat_lit 0)))) (.l (.gint (nat_lit 15) (.ofNat (nat_lit 0))))) (.b .item (.u (.attr (nat_lit 21)) (.l (.loc (nat_lit 0)))) (.l (.gint (nat_lit 16) (.ofNat (nat_lit 1)))))) (.b (.op2 .shl) (.l (.int (.ofNat (nat_lit 1)))) (.l (.loc (nat_lit 6)))))) (.b .seq (.u .ret (.u .not (.u (.call (nat_lit 17) (nat_lit 56)) (.b .cons (.l (.loc (nat_lit 0))) (.b .cons (.l (.loc (nat_lit 5))) (.b .cons (.b (.op2 .sub) (.l (.int (.ofNat (nat_lit 1)))) (.u (.attr (nat_lit 20)) (.l (.loc (nat_lit 0))))) (.b .cons (.l (.loc (nat_lit 7))) (.l .nil)))))))) (.l .done))) (.l .done)) (.b .seq (.t .ifs (.b (.cmp .eq) (.b (.op2 .band) (.b (.op2 .shr) (.l (.loc (nat_lit 2))) (.l (.loc (nat_lit 4)))) (.l (.int (.ofNat (nat_lit 1))))) (.l (.int (.ofNat (nat_lit 0))))) (.b .seq (.u .ret (.l (.bool true))) (.l .done)) (.l .done)) (.b .seq (.u .ret (.u (.call (nat_lit 18) (nat_lit 42)) (.b .cons (.u (.attr (nat_lit 25)) (.l (.loc (nat_lit 0)))) (.b .cons (.l (.loc (nat_lit 4))) (.b .cons (.l (.loc (nat_lit 5))) (.b .cons (.l (.loc (nat_lit 6))) (.l .nil))))))) (.l .done))))))))))⟩
noncomputable def f89 : Fn := ⟨(nat_lit 2), (nat_lit 19), (.b .seq (.u (.asg (nat_lit 2)) (.u .list (.l .nil))) (.b .seq (.t .ifs (.b (.cmp .eq) (.l (.loc (nat_lit 1))) (.l (.gint (nat_lit 5) (.ofNat (nat_lit 3))))) (.b .seq (.u .ex (.u (.call (nat_lit 6) (nat_lit 85)) (.b .cons (.l (.loc (nat_lit 0))) (.b .cons (.l (.loc (nat_lit 2))) (.l .nil))))) (.b .seq (.u .ret (.l (.loc (nat_lit 2)))) (.l .done))) (.l .done)) (.b .seq (.u (.asg (nat_lit 3)) (.u (.call (nat_lit 7) (nat_lit 69)) (.b .cons (.l (.loc (nat_lit 0))) (.b .cons (.l (.loc (nat_lit 1))) (.l .nil))))) (.b .seq (.u .ex (.u (.call (nat_lit 8) (nat_lit 80)) (.b .cons (.l (.loc (nat_lit 0))) (.b .cons (.l (.loc (nat_lit 1))) (.b .cons (.u (.attr (nat_lit 11)) (.u (.attr (nat_lit 25)) (.l (.loc (nat_lit 0))))) (.b .cons (.l (.loc (nat_lit 2))) (.l .nil))))))) (.b .seq (.t .ifs (.b (.cmp .ne) (.l (.loc (nat_lit 1))) (.l (.gint (nat_lit 9) (.ofNat (nat_lit 1))))) (.b .seq (.u .ex (.u (.call (nat_lit 10) (nat_lit 81)) (.b .cons (.l (.loc (nat_lit 0))) (.b .cons (.l (.loc (nat_lit 2))) (.l .nil))))) (.l .done)) (.l .done)) (.b .seq (.b (.for1 (nat_lit 4)) (.u .list (.b .cons (.l (.gint (nat_lit 11) (.ofNat (nat_lit 2)))) (.b .cons (.l (.gint (nat_lit 12) (.ofNat (nat_lit 3)))) (.b .cons (.l (.gint (nat_lit 13) (.ofNat (nat_lit 4)))) (.b .cons (.l (.gint (nat_lit 14) (.ofNat (nat_lit 5)))) (.b .cons (.l (.gint (nat_lit 15) (.ofNat (nat_lit 6)))) (.l .nil))))))) (.b .seq (.u .ex (.u (.call (nat_lit 16) (nat_lit 68)) (.b .cons (.l (.loc (nat_lit 0))) (.b .cons (.l (.loc (nat_lit 4))) (.b .cons (.l (.loc (nat_lit 3))) (.b .cons (.l (.loc (nat_lit 2))) (.l .nil))))))) (.l .done))) (.b .seq (.t .ifs (.b (.cmp .ne) (.l (.loc (nat_lit 1))) (.l (.gint (nat_lit 17) (.ofNat (nat_lit 0))))) (.b .seq (.u .ex (.u (.call (nat_lit 18) (nat_lit 66)) (.b .cons (.l (.loc (nat_lit 0))) (.b .cons (.l (.loc (nat_lit 2))) (.l .nil))))) (.l .done)) (.l .done)) (.b .seq (.u .ret (.l (.loc (nat_lit 2)))) (.l .done)))))))))⟩
noncomputable def f90 : Fn := ⟨(nat_lit 1), (nat_lit 5), (.b .seq (.t .ifs (.u (.call (nat_lit 1) (nat_lit 60)) (.b .cons (.l (.loc (nat_lit 0))) (.l .nil))) (.b .seq (.u .ret (.u (.call (nat_lit 2) (nat_lit 89)) (.b .cons (.l (.loc (nat_lit 0))) (.b .cons (.l (.gint (nat_lit 3) (.ofNat (nat_lit 3)))) (.l .nil))))) (.l .done)) (.l .done)) (.b .seq (.u .ret (.u (.call (nat_lit 2) (nat_lit 89)) (.b .cons (.l (.loc (nat_lit 0))) (.b .cons (.l (.gint (nat_lit 4) (.ofNat (nat_lit 2)))) (.l .nil))))) (.l .done)))⟩
noncomputable def f91 : Fn := ⟨(nat_lit 2), (nat_lit 7), (.b .seq (.u (.asg (nat_lit 2)) (.u (.call (nat_lit 5) (nat_lit 63)) (.b .cons (.l (.loc (nat_lit 0))) (.b .cons (.u (.attr (nat_lit 20)) (.l (.loc (nat_lit 0)))) (.l .nil))))) (.b .seq (.u (.asg (nat_lit 3)) (.u .list (.l .nil))) (.b .seq (.b (.for1 (nat_lit 4)) (.l (.loc (nat_lit 1))) (.b .seq (.t .ifs (.u (.call (nat_lit 6) (nat_lit 88)) (.b .cons (.l (.loc (nat_lit 0))) (.b .cons (.l (.loc (nat_lit 4))) (.b .cons (.l (.loc (nat_lit 2))) (.l .nil))))) (.b .seq (.b .app (.l (.loc (nat_lit 3))) (.l (.loc (nat_lit 4)))) (.l .done)) (.l .done)) (.l .done))) (.b .seq (.u .ret (.l (.loc (nat_lit 3)))) (.l .done)))))⟩
noncomputable def f92 : Fn := ⟨(nat_lit 1), (nat_lit 3), (.b .seq (.u .ret (.u (.call (nat_lit 1) (nat_lit 91)) (.b .cons (.l (.loc (nat_lit 0))) (.b .cons (.u (.call (nat_lit 2) (nat_lit 90)) (.b .cons (.l (.loc (nat_lit 0))) (.l .nil))) (.l .nil))))) (.l .done))⟩
noncomputable def f93 : Fn := ⟨(nat_lit 1), (nat_lit 12), (.b .seq (.u (.asg (nat_lit 1)) (.t .ite (.u (.call (nat_lit 5) (nat_lit 60)) (.b .cons (.l (.loc (nat_lit 0))) (.l .nil))) (.u .list (.b .cons (.l (.gint (nat_lit 6) (.ofNat (nat_lit 3)))) (.l .nil))) (.u .list (.b .cons (.l (.gint (nat_lit 7) (.ofNat (nat_lit 0)))) (.b .cons (.l (.gint (nat_lit 8) (.ofNat (nat_lit 1)))) (.l .nil)))))) (.b .seq (.u (.asg (nat_lit 2)) (.u (.call (nat_lit 9) (nat_lit 63)) (.b .cons (.l (.loc (nat_lit 0))) (.b .cons (.u (.attr (nat_lit 20)) (.l (.loc (nat_lit 0)))) (.l .nil))))) (.b .seq (.b (.for1 (nat_lit 3)) (.l (.loc (nat_lit 1))) (.b .seq (.b (.for1 (nat_lit 4)) (.u (.call (nat_lit 10) (nat_lit 89)) (.b .cons (.l (.loc (nat_lit 0))) (.b .cons (.l (.loc (nat_lit 3))) (.l .nil)))) (.b .seq (.t .ifs (.u (.call (nat_lit 11) (nat_lit 88)) (.b .cons (.l (.loc (nat_lit 0))) (.b .cons (.l (.loc (nat_lit 4))) (.b .cons (.l (.loc (nat_lit 2))) (.l .nil))))) (.b .seq (.u .ret (.l (.bool true))) (.l .done)) (.l .done)) (.l .done))) (.l .done))) (.b .seq (.u .ret (.l (.bool false))) (.l .done)))))⟩
noncomputable def f94 : Fn := ⟨(nat_lit 1), (nat_lit 3), (.b .seq (.u .ret (.b .and (.u (.call (nat_lit 1) (nat_lit 60)) (.b .cons (.l (.loc (nat_lit 0))) (.l .nil))) (.u .not (.u (.call (nat_lit 2) (nat_lit 93)) (.b .cons (.l (.loc (nat_lit 0))) (.l .nil)))))) (.l .done))⟩
noncomputable def f95 : Fn := ⟨(nat_lit 2), (nat_lit 9), (.b .seq (.u (.asg (nat_lit 2)) (.u (.call (nat_lit 4) (nat_lit 5)) (.b .cons (.l (.loc (nat_lit 1))) (.l .nil)))) (.b .seq (.t .ifs (.b .or (.b (.cmp .ge) (.l (.loc (nat_lit 2))) (.u (.attr (nat_lit 12)) (.u (.attr (nat_lit 25)) (.l (.loc (nat_lit 0)))))) (.b (.cmp .ge) (.u (.call (nat_lit 5) (nat_lit 6)) (.b .cons (.l (.loc (nat_lit 1))) (.l .nil))) (.u (.attr (nat_lit 12)) (.u (.attr (nat_lit 25)) (.l (.loc (nat_lit 0))))))) (.b .seq (.l .fail) (.l .done)) (.l .done)) (.b .seq (.u (.asg (nat_lit 3)) (.b .item (.u (.attr (nat_lit 23)) (.l (.loc (nat_lit 0)))) (.l (.loc (nat_lit 2))))) (.b .seq (.t .ifs (.b .or (.b (.cmp .eq) (.l (.loc (nat_lit 3))) (.l (.gint (nat_lit 7) (.ofNat (nat_lit 0))))) (.b (.cmp .ne) (.u (.call (nat_lit 8) (nat_lit 2)) (.b .cons (.l (.loc (nat_lit 3))) (.l .nil))) (.u (.attr (nat_lit 20)) (.l (.loc (nat_lit 0)))))) (.b .seq (.l .fail) (.l .done)) (.l .done)) (.b .seq (.u .ret (.l (.loc (nat_lit 3)))) (.l .done))))))⟩
noncomputable def f96 : Fn := ⟨(nat_lit 2), (nat_lit 7), (.b .seq (.u (.asg (nat_lit 2)) (.u (.call (nat_lit 3) (nat_lit 6)) (.b .cons (.l (.loc (nat_lit 1))) (.l .nil)))) (.b .seq (.t .ifs (.b (.cmp .ne) (.u (.call (nat_lit 4) (nat_lit 7)) (.b .cons (.l (.loc (nat_lit 1))) (.l .nil))) (.l (.gint (nat_lit 5) (.ofNat (nat_lit 2))))) (.b .seq (.u .ret (.l (.loc (nat_lit 2)))) (.l .done)) (.l .done)) (.b .seq (.t .ifs (.b (.cmp .eq) (.u (.attr (nat_lit 20)) (.l (.loc (nat_lit 0)))) (.l (.gint (nat_lit 6) (.ofNat (nat_lit 0))))) (.b .seq (.u .ret (.b (.op2 .sub) (.l (.loc (nat_lit 2))) (.u (.attr (nat_lit 14)) (.u (.attr (nat_lit 25)) (.l (.loc (nat_lit 0))))))) (.l .done)) (.l .done)) (.b .seq (.u .ret (.b (.op2 .add) (.l (.loc (nat_lit 2))) (.u (.attr (nat_lit 14)) (.u (.attr (nat_lit 25)) (.l (.loc (nat_lit 0))))))) (.l .done)))))⟩
noncomputable def f97 : Fn := ⟨(nat_lit 3), (nat_lit 6), (.b .seq (.b (.for1 (nat_lit 3)) (.u .tup (.b .cons (.b (.op2 .mul) (.l (.int (.ofNat (nat_lit 2)))) (.l (.loc (nat_lit 1)))) (.b .cons (.b (.op2 .add) (.b (.op2 .mul) (.l (.int (.ofNat (nat_lit 2)))) (.l (.loc (nat_lit 1)))) (.l (.int (.ofNat (nat_lit 1))))) (.l .nil)))) (.b .seq (.u (.asg (nat_lit 4)) (.b .item (.u (.attr (nat_lit 2)) (.l (.loc (nat_lit 0)))) (.l (.loc (nat_lit 3))))) (.b .seq (.t .ifs (.b .and (.u .isNN (.l (.loc (nat_lit 4)))) (.b (.cmp .eq) (.b .item (.l (.loc (nat_lit 4))) (.l (.int (.ofNat (nat_lit 1))))) (.l (.loc (nat_lit 2))))) (.b .seq (.u .ret (.u .tup (.b .cons (.b .item (.l (.loc (nat_lit 4))) (.l (.int (.ofNat (nat_lit 2))))) (.b .cons (.b .item (.l (.loc (nat_lit 4))) (.l (.int (.ofNat (nat_lit 3))))) (.l .nil))))) (.l .done)) (.l .done)) (.l .done)))) (.b .seq (.l .fail) (.l .done)))⟩
noncomputable def f98 : Fn := ⟨(nat_lit 4), (nat_lit 8), (.b .seq (.u (.asg (nat_lit 4)) (.u (.attr (nat_lit 14)) (.u (.attr (nat_lit 25)) (.l (.loc (nat_lit 0)))))) (.b .seq (.t .ifs (.b .and (.b (.cmp .ne) (.b (.op2 .sub) (.l (.loc (nat_lit 3))) (.l (.loc (nat_lit 2)))) (.b (.op2 .mul) (.l (.int (.ofNat (nat_lit 2)))) (.l (.loc (nat_lit 4))))) (.b (.cmp .ne) (.b (.op2 .sub) (.l (.loc (nat_lit 2))) (.l (.loc (nat_lit 3)))) (.b (.op2 .mul) (.l (.int (.ofNat (nat_lit 2)))) (.l (.loc (nat_lit 4)))))) (.b .seq (.u .ret (.u .neg (.l (.int (.ofNat (nat_lit 1)))))) (.l .done)) (.l .done)) (.b .seq (.u (.asg (nat_lit 5)) (.b (.op2 .fdv) (.b (.op2 .add) (.l (.loc (nat_lit 2))) (.l (.loc (nat_lit 3)))) (.l (.int (.ofNat (nat_lit 2)))))) (.b .seq (.u (.asg (nat_lit 6)) (.b (.op2 .band) (.b .item (.u (.attr (nat_lit 22)) (.l (.loc (nat_lit 0)))) (.l (.gint (nat_lit 7) (.ofNat (nat_lit 1))))) (.b .item (.u (.attr (nat_lit 21)) (.l (.loc (nat_lit 0)))) (.b (.op2 .sub) (.l (.int (.ofNat (nat_lit 1)))) (.l (.loc (nat_lit 1))))))) (.b .seq (.t .ifs (.b (.cmp .eq) (.b (.op2 .band) (.b .item (.b .item (.u (.attr (nat_lit 3)) (.u (.attr (nat_lit 25)) (.l (.loc (nat_lit 0))))) (.l (.loc (nat_lit 1)))) (.l (.loc (nat_lit 5)))) (.l (.loc (nat_lit 6)))) (.l (.int (.ofNat (nat_lit 0))))) (.b .seq (.u .ret (.u .neg (.l (.int (.ofNat (nat_lit 1)))))) (.l .done)) (.l .done)) (.b .seq (.u .ret (.l (.loc (nat_lit 5)))) (.l .done)))))))⟩
noncomputable def f99 : Fn := ⟨(nat_lit 3), (nat_lit 4), (.b .seq (.u (.asg (nat_lit 3)) (.b (.op2 .bor) (.b .item (.u (.attr (nat_lit 1)) (.u (.attr (nat_lit 25)) (.l (.loc (nat_lit 0))))) (.l (.loc (nat_lit 1)))) (.b .item (.u (.attr (nat_lit 1)) (.u (.attr (nat_lit 25)) (.l (.loc (nat_lit 0))))) (.l (.loc (nat_lit 2)))))) (.b .seq (.u .ret (.b (.op2 .sub) (.u (.attr (nat_lit 19)) (.l (.loc (nat_lit 0)))) (.b (.op2 .band) (.u (.attr (nat_lit 19)) (.l (.loc (nat_lit 0)))) (.l (.loc (nat_lit 3)))))) (.l .done)))⟩
noncomputable def f100 : Fn := ⟨(nat_lit 1), (nat_lit 1), (.b .seq (.t .ifs (.b (.cmp .ge) (.u (.attr (nat_lit 18)) (.l (.loc (nat_lit 0)))) (.l (.int (.ofNat (nat_lit 0))))) (.b .seq (.b (.augA (nat_lit 16) .bxor) (.l (.loc (nat_lit 0))) (.b .item (.u (.attr (nat_lit 18)) (.u (.attr (nat_lit 24)) (.l (.loc (nat_lit 0))))) (.b (.op2 .md) (.u (.attr (nat_lit 18)) (.l (.loc (nat_lit 0)))) (.u (.attr (nat_lit 14)) (.u (.attr (nat_lit 25)) (.l (.loc (nat_lit 0)))))))) (.b .seq (.b (.setAttr (nat_lit 18)) (.l (.loc (nat_lit 0))) (.u .neg (.l (.int (.ofNat (nat_lit 1)))))) (.l .done))) (.l .done)) (.l .done))⟩
noncomputable def f101 : Fn := ⟨(nat_lit 2), (nat_lit 2), (.b .seq (.t .ifs (.b (.cmp .ge) (.l (.loc (nat_lit 1))) (.l (.int (.ofNat (nat_lit 0))))) (.b .seq (.b (.augA (nat_lit 16) .bxor) (.l (.loc (nat_lit 0))) (.b .item (.u (.attr (nat_lit 18)) (.u (.attr (nat_lit 24)) (.l (.loc (nat_lit 0))))) (.b (.op2 .md) (.l (.loc (nat_lit 1))) (.u (.attr (nat_lit 14)) (.u (.attr (nat_lit 25)) (.l (.loc (nat_lit 0)))))))) (.l .done)) (.l .done)) (.b .seq (.b (.setAttr (nat_lit 18)) (.l (.loc (nat_lit 0))) (.l (.loc (nat_lit 1)))) (.l .done)))⟩
noncomputable def f102 : Fn := ⟨(nat_lit 2), (nat_lit 2), (.b .seq (.t .ifs (.b (.cmp .ne) (.l (.loc (nat_lit 1))) (.u (.attr (nat_lit 19)) (.l (.loc (nat_lit 0))))) (.b .seq (.b (.augA (nat_lit 16) .bxor) (.l (.loc (nat_lit 0))) (.b (.op2 .bxor) (.b .item (.u (.attr (nat_lit 19)) (.u (.attr (nat_lit 24)) (.l (.loc (nat_lit 0))))) (.u (.attr (nat_lit 19)) (.l (.loc (nat_lit 0))))) (.b .item (.u (.attr (nat_lit 19)) (.u (.attr (nat_lit 24)) (.l (.loc (nat_lit 0))))) (.l (.loc (nat_lit 1)))))) (.b .seq (.b (.setAttr (nat_lit 19)) (.l (.loc (nat_lit 0))) (.l (.loc (nat_lit 1)))) (.l .done))) (.l .done)) (.l .done))⟩
noncomputable def f103 : Fn := ⟨(nat_lit 2), (nat_lit 32), (.b .seq (.u (.asg (nat_lit 2)) (.u (.call (nat_lit 10) (nat_lit 95)) (.b .cons (.l (.loc (nat_lit 0))) (.b .cons (.l (.loc (nat_lit 1))) (.l .nil))))) (.b .seq (.u (.asg (nat_lit 3)) (.u (.attr (nat_lit 20)) (.l (.loc (nat_lit 0))))) (.b .seq (.u (.asg (nat_lit 4)) (.u (.call (nat_lit 11) (nat_lit 5)) (.b .cons (.l (.loc (nat_lit 1))) (.l .nil)))) (.b .seq (.u (.asg (nat_lit 5)) (.u (.call (nat_lit 12) (nat_lit 6)) (.b .cons (.l (.loc (nat_lit 1))) (.l .nil)))) (.b .seq (.u (.asg (nat_lit 6)) (.u (.call (nat_lit 13) (nat_lit 7)) (.b .cons (.l (.loc (nat_lit 1))) (.l .nil)))) (.b .seq (.u (.asg (nat_lit 7)) (.u .tup (.b .cons (.u .neg (.l (.int (.ofNat (nat_lit 1))))) (.b .cons (.u .neg (.l (.int (.ofNat (nat_lit 1))))) (.l .nil))))) (.b .seq (.t .ifs (.b (.cmp .eq) (.l (.loc (nat_lit 6))) (.l (.gint (nat_lit 14) (.ofNat (nat_lit 3))))) (.b .seq (.u (.asg (nat_lit 7)) (.u (.call (nat_lit 15) (nat_lit 97)) (.b .cons (.u (.attr (nat_lit 25)) (.l (.loc (nat_lit 0)))) (.b .cons (.l (.loc (nat_lit 3))) (.b .cons (.l (.loc (nat_lit 5))) (.l .nil)))))) (.l .done)) (.l .done)) (.b .seq (.u (.asg (nat_lit 8)) (.u (.call (nat_lit 16) (nat_lit 96)) (.b .cons (.l (.loc (nat_lit 0))) (.b .cons (.l (.loc (nat_lit 1))) (.l .nil))))) (.b .seq (.u (.asg (nat_lit 9)) (.b .item (.u (.attr (nat_lit 23)) (.l (.loc (nat_lit 0)))) (.l (.loc (nat_lit 8))))) (.b .seq (.b .app (.u (.attr (nat_lit 15)) (.l (.loc (nat_lit 0)))) (.u .tup (.b .cons (.l (.loc (nat_lit 1))) (.b .cons (.l (.loc (nat_lit 9))) (.b .cons (.u (.attr (nat_lit 19)) (.l (.loc (nat_lit 0)))) (.b .cons (.u (.attr (nat_lit 18)) (.l (.loc (nat_lit 0)))) (.b .cons (.u (.attr (nat_lit 17)) (.l (.loc (nat_lit 0)))) (.b .cons (.u (.attr (nat_lit 16)) (.l (.loc (nat_lit 0)))) (.l .nil))))))))) (.b .seq (.u .ex (.u (.call (nat_lit 17) (nat_lit 100)) (.b .cons (.l (.loc (nat_lit 0))) (.l .nil)))) (.b .seq (.b (.augA (nat_lit 17) .add) (.l (.loc (nat_lit 0))) (.l (.int (.ofNat (nat_lit 1))))) (.b .seq (.t .ifs (.b (.cmp .ne) (.l (.loc (nat_lit 9))) (.l (.gint (nat_lit 18) (.ofNat (nat_lit 0))))) (.b .seq (.u .ex (.u (.call (nat_lit 19) (nat_lit 45)) (.b .cons (.l (.loc (nat_lit 0))) (.b .cons (.l (.loc (nat_lit 8))) (.l .nil))))) (.b .seq (.b (.setAttr (nat_lit 17)) (.l (.loc (nat_lit 0))) (.l (.int (.ofNat (nat_lit 0))))) (.l .done))) (.l .done)) (.b .seq (.t .ifs (.b (.cmp .eq) (.l (.loc (nat_lit 6))) (.l (.gint (nat_lit 20) (.ofNat (nat_lit 1))))) (.b .seq (.u .ex (.u (.call (nat_lit 19) (nat_lit 45)) (.b .cons (.l (.loc (nat_lit 0))) (.b .cons (.l (.loc (nat_lit 4))) (.l .nil))))) (.b .seq (.u .ex (.u (.call (nat_lit 21) (nat_lit 44)) (.b .cons (.l (.loc (nat_lit 0))) (.b .cons (.u (.call (nat_lit 22) (nat_lit 1)) (.b .cons (.l (.loc (nat_lit 3))) (.b .cons (.u (.call (nat_lit 23) (nat_lit 8)) (.b .cons (.l (.loc (nat_lit 1))) (.l .nil))) (.l .nil)))) (.b .cons (.l (.loc (nat_lit 5))) (.l .nil)))))) (.l .done))) (.b .seq (.u .ex (.u (.call (nat_lit 24) (nat_lit 46)) (.b .cons (.l (.loc (nat_lit 0))) (.b .cons (.l (.loc (nat_lit 4))) (.b .cons (.l (.loc (nat_lit 5))) (.l .nil)))))) (.l .done))) (.b .seq (.t .ifs (.b (.cmp .eq) (.l (.loc (nat_lit 6))) (.l (.gint (nat_lit 14) (.ofNat (nat_lit 3))))) (.b .seq (.u .ex (.u (.call (nat_lit 24) (nat_lit 46)) (.b .cons (.l (.loc (nat_lit 0))) (.b .cons (.b .item (.l (.loc (nat_lit 7))) (.l (.int (.ofNat (nat_lit 0))))) (.b .cons (.b .item (.l (.loc (nat_lit 7))) (.l (.int (.ofNat (nat_lit 1))))) (.l .nil)))))) (.l .done)) (.l .done)) (.b .seq (.t .ifs (.b (.cmp .eq) (.u (.call (nat_lit 25) (nat_lit 3)) (.b .cons (.l (.loc (nat_lit 2))) (.l .nil))) (.l (.gint (nat_lit 26) (.ofNat (nat_lit 1))))) (.b .seq (.b (.setAttr (nat_lit 17)) (.l (.loc (nat_lit 0))) (.l (.int (.ofNat (nat_lit 0))))) (.b .seq (.u .ex (.u (.call (nat_lit 27) (nat_lit 101)) (.b .cons (.l (.loc (nat_lit 0))) (.b .cons (.u (.call (nat_lit 28) (nat_lit 98)) (.b .cons (.l (.loc (nat_lit 0))) (.b .cons (.l (.loc (nat_lit 3))) (.b .cons (.l (.loc (nat_lit 4))) (.b .cons (.l (.loc (nat_lit 5))) (.l .nil)))))) (.l .nil))))) (.l .done))) (.l .done)) (.b .seq (.u .ex (.u (.call (nat_lit 29) (nat_lit 102)) (.b .cons (.l (.loc (nat_lit 0))) (.b .cons (.u (.call (nat_lit 30) (nat_lit 99)) (.b .cons (.l (.loc (nat_lit 0))) (.b .cons (.l (.loc (nat_lit 4))) (.b .cons (.l (.loc (nat_lit 5))) (.l .nil))))) (.l .nil))))) (.b .seq (.t .ifs (.b (.cmp .eq) (.l (.loc (nat_lit 3))) (.l (.gint (nat_lit 31) (.ofNat (nat_lit 1))))) (.b .seq (.b (.augA (nat_lit 11) .add) (.l (.loc (nat_lit 0))) (.l (.int (.ofNat (nat_lit 1))))) (.l .done)) (.l .done)) (.b .seq (.b (.setAttr (nat_lit 20)) (.l (.loc (nat_lit 0))) (.b (.op2 .sub) (.l (.int (.ofNat (nat_lit 1)))) (.l (.loc (nat_lit 3))))) (.b .seq (.b (.augA (nat_lit 16) .bxor) (.l (.loc (nat_lit 0))) (.u (.attr (nat_lit 20)) (.u (.attr (nat_lit 24)) (.l (.loc (nat_lit 0)))))) (.l .done)))))))))))))))))))))⟩
noncomputable def f104 : Fn := ⟨(nat_lit 5), (nat_lit 5), (.b .seq (.b (.setAttr (nat_lit 26)) (.l (.loc (nat_lit 0))) (.l (.loc (nat_lit 1)))) (.b .seq (.b (.setAttr (nat_lit 18)) (.l (.loc (nat_lit 0))) (.l (.loc (nat_lit 2)))) (.b .seq (.b (.setAttr (nat_lit 19)) (.l (.loc (nat_lit 0))) (.l (.loc (nat_lit 3)))) (.b .seq (.b (.setAttr (nat_lit 20)) (.l (.loc (nat_lit 0))) (.l (.loc (nat_lit 4)))) (.l .done)))))⟩
noncomputable def f105 : Fn := ⟨(nat_lit 2), (nat_lit 16), (.b .seq (.u (.asgT [(nat_lit 2), (nat_lit 3), (nat_lit 4), (nat_lit 5)]) (.u (.call (nat_lit 9) (nat_lit 26)) (.b .cons (.l (.int (.ofNat (nat_lit 6)))) (.b .cons (.l (.loc (nat_lit 1))) (.l .nil))))) (.b .seq (.u (.asg (nat_lit 6)) (.u (.new (nat_lit 10) (nat_lit 43)) (.b .cons (.l (.loc (nat_lit 0))) (.b .cons (.u (.new (nat_lit 11) (nat_lit 104)) (.b .cons (.b (.op2 .mul) (.u .list (.b .cons (.b (.op2 .mul) (.u .list (.b .cons (.l (.int (.ofNat (nat_lit 0)))) (.l .nil))) (.l (.int (.ofNat (nat_lit 6))))) (.l .nil))) (.l (.int (.ofNat (nat_lit 15))))) (.b .cons (.b (.op2 .mul) (.u .list (.b .cons (.l (.int (.ofNat (nat_lit 0)))) (.l .nil))) (.l (.int (.ofNat (nat_lit 2))))) (.b .cons (.b (.op2 .mul) (.u .list (.b .cons (.l (.int (.ofNat (nat_lit 0)))) (.l .nil))) (.l (.int (.ofNat (nat_lit 16))))) (.b .cons (.l (.int (.ofNat (nat_lit 0)))) (.l .nil)))))) (.l .nil))))) (.b .seq (.b (.forT [(nat_lit 7), (nat_lit 8)]) (.u .tup (.b .cons (.u .tup (.b .cons (.u (.call (nat_lit 12) (nat_lit 1)) (.b .cons (.l (.int (.ofNat (nat_lit 0)))) (.b .cons (.l (.gint (nat_lit 13) (.ofNat (nat_lit 6)))) (.l .nil)))) (.b .cons (.l (.loc (nat_lit 3))) (.l .nil)))) (.b .cons (.u .tup (.b .cons (.u (.call (nat_lit 12) (nat_lit 1)) (.b .cons (.l (.int (.ofNat (nat_lit 0)))) (.b .cons (.l (.gint (nat_lit 14) (.ofNat (nat_lit 5)))) (.l .nil)))) (.b .cons (.l (.loc (nat_lit 4))) (.l .nil)))) (.b .cons (.u .tup (.b .cons (.u (.call (nat_lit 12) (nat_lit 1)) (.b .cons (.l (.int (.ofNat (nat_lit 1)))) (.b .cons (.l (.gint (nat_lit 13) (.ofNat (nat_lit 6)))) (.l .nil)))) (.b .cons (.l (.loc (nat_lit 5))) (.l .nil)))) (.l .nil))))) (.b .seq (.u .ex (.u (.call (nat_lit 15) (nat_lit 44)) (.b .cons (.l (.loc (nat_lit 6))) (.b .cons (.l (.loc (nat_lit 7))) (.b .cons (.l (.loc (nat_lit 8))) (.l .nil)))))) (.l .done))) (.b .seq (.b (.setAttr (nat_lit 20)) (.l (.loc (nat_lit 6))) (.l (.loc (nat_lit 2)))) (.b .seq (.u .ret (.l (.loc (nat_lit 6)))) (.l .done))))))⟩
noncomputable def f106 : Fn := ⟨(nat_lit 1), (nat_lit 28), (.b .seq (.u (.asg (nat_lit 2)) (.u (.call (nat_lit 16) (nat_lit 17)) (.b .cons (.l (.int (.ofNat (nat_lit 2)))) (.b .cons (.l (.int (.ofNat (nat_lit 3)))) (.b .cons (.l (.bool false)) (.b .cons (.l (.bool false)) (.l .nil))))))) (.b .seq (.u (.asgC (nat_lit 3) (nat_lit 0)) (.u (.call (nat_lit 17) (nat_lit 31)) (.b .cons (.l (.loc (nat_lit 2))) (.b .cons (.l (.gint (nat_lit 18) (.ofNat (nat_lit 5)))) (.b .cons (.b .item (.u .tup (.b .cons (.l (.int (.ofNat (nat_lit 3)))) (.b .cons (.l (.int (.ofNat (nat_lit 48)))) (.l .nil)))) (.u (.pick (nat_lit 1) (nat_lit 0)) (.l (.int (.ofNat (nat_lit 2)))))) (.l .nil)))))) (.b .seq (.t (.compIf (nat_lit 5) (nat_lit 1) (nat_lit 3)) (.l (.loc (nat_lit 1))) (.u (.range (nat_lit 19)) (.b .cons (.u (.len (nat_lit 20)) (.l (.cel (nat_lit 3) (nat_lit 0)))) (.l .nil))) (.b (.cmp .ge) (.b .item (.l (.cel (nat_lit 2) (nat_lit 0))) (.l (.loc (nat_lit 1)))) (.l (.int (.ofNat (nat_lit 0)))))) (.b .seq (.t (.compIf (nat_lit 6) (nat_lit 1) (nat_lit 4)) (.l (.loc (nat_lit 1))) (.u (.range (nat_lit 19)) (.b .cons (.u (.len (nat_lit 20)) (.l (.cel (nat_lit 3) (nat_lit 0)))) (.l .nil))) (.b (.cmp .eq) (.b .item (.l (.cel (nat_lit 3) (nat_lit 0))) (.l (.loc (nat_lit 1)))) (.l (.gint (nat_lit 2) (.negSucc (nat_lit 0)))))) (.b .seq (.u (.asg (nat_lit 4)) (.b .item (.l (.loc (nat_lit 5))) (.u (.pick (nat_lit 1) (nat_lit 1)) (.u (.len (nat_lit 20)) (.l (.loc (nat_lit 5))))))) (.b .seq (.u (.asg (nat_lit 7)) (.u (.call (nat_lit 21) (nat_lit 105)) (.b .cons (.l (.loc (nat_lit 2))) (.b .cons (.l (.loc (nat_lit 4))) (.l .nil))))) (.b .seq (.u (.asgT [(nat_lit 8), (nat_lit 9), (nat_lit 10), (nat_lit 11)]) (.u (.call (nat_lit 22) (nat_lit 26)) (.b .cons (.l (.int (.ofNat (nat_lit 6)))) (.b .cons (.l (.loc (nat_lit 4))) (.l .nil))))) (.b .seq (.u (.asg (nat_lit 12)) (.u (.call (nat_lit 23) (nat_lit 34)) (.b .cons (.l (.loc (nat_lit 2))) (.b .cons (.l (.cel (nat_lit 3) (nat_lit 0))) (.b .cons (.l (.gint (nat_lit 18) (.ofNat (nat_lit 5)))) (.b .cons (.l (.loc (nat_lit 8))) (.b .cons (.l (.loc (nat_lit 9))) (.b .cons (.l (.loc (nat_lit 10))) (.b .cons (.l (.loc (nat_lit 11))) (.l .nil)))))))))) (.b .seq (.t .ifs (.b (.cmp .ne) (.u (.len (nat_lit 20)) (.l (.loc (nat_lit 12)))) (.b .item (.l (.cel (nat_lit 3) (nat_lit 0))) (.l (.loc (nat_lit 4))))) (.b .seq (.u .ret (.l (.bool false))) (.l .done)) (.l .done)) (.b .seq (.b (.forC (nat_lit 13) (nat_lit 1) (nat_lit 14) (nat_lit 2)) (.l (.loc (nat_lit 12))) (.b .seq (.t (.compIf (nat_lit 15) (nat_lit 1) (nat_lit 6)) (.l (.loc (nat_lit 1))) (.u (.call (nat_lit 24) (nat_lit 92)) (.b .cons (.l (.loc (nat_lit 7))) (.l .nil))) (.b (.cmp .eq) (.u .tup (.b .cons (.u (.call (nat_lit 2) (nat_lit 5)) (.b .cons (.l (.loc (nat_lit 1))) (.l .nil))) (.b .cons (.u (.call (nat_lit 3) (nat_lit 6)) (.b .cons (.l (.loc (nat_lit 1))) (.l .nil))) (.l .nil)))) (.u .tup (.b .cons (.l (.cel (nat_lit 5) (nat_lit 1))) (.b .cons (.l (.cel (nat_lit 4) (nat_lit 2))) (.l .nil)))))) (.b .seq (.t .ifs (.b (.cmp .ne) (.u (.len (nat_lit 20)) (.l (.loc (nat_lit 15)))) (.l (.int (.ofNat (nat_lit 1))))) (.b .seq (.u .ret (.l (.bool false))) (.l .done)) (.l .done)) (.b .seq (.u .ex (.u (.call (nat_lit 25) (nat_lit 103)) (.b .cons (.l (.loc (nat_lit 7))) (.b .cons (.b .item (.l (.loc (nat_lit 15))) (.l (.int (.ofNat (nat_lit 0))))) (.l .nil))))) (.l .done))))) (.b .seq (.t .ifs (.b .or (.b (.cmp .ne) (.u (.attr (nat_lit 20)) (.l (.loc (nat_lit 7)))) (.l (.int (.ofNat (nat_lit 1))))) (.b .or (.u .not (.u (.call (nat_lit 26) (nat_lit 60)) (.b .cons (.l (.loc (nat_lit 7))) (.l .nil)))) (.b (.cmp .ne) (.u (.call (nat_lit 24) (nat_lit 92)) (.b .cons (.l (.loc (nat_lit 7))) (.l .nil))) (.u .list (.l .nil))))) (.b .seq (.u .ret (.l (.bool false))) (.l .done)) (.l .done)) (.b .seq (.u .ret (.u .not (.u (.call (nat_lit 27) (nat_lit 94)) (.b .cons (.u (.call (nat_lit 21) (nat_lit 105)) (.b .cons (.l (.loc (nat_lit 2))) (.b .cons (.b .item (.l (.loc (nat_lit 6))) (.u (.pick (nat_lit 1) (nat_lit 2)) (.u (.len (nat_lit 20)) (.l (.loc (nat_lit 6)))))) (.l .nil)))) (.l .nil))))) (.l .done)))))))))))))⟩
noncomputable def tbl (i : Nat) : Fn := (match Nat.ble (nat_lit 53) i with | true => (match Nat.ble (nat_lit 80) i with | true => (match Nat.ble (nat_lit 93) i with | true => (match Nat.ble (nat_lit 100) i with | true => (match Nat.ble (nat_lit 103) i with | true => (match Nat.ble (nat_lit 105) i with | true => (match Nat.ble (nat_lit 106) i with | true => f106 | false => f105) | false => (match Nat.ble (nat_lit 104) i with | true => f104 | false => f103)) | false => (match Nat.ble (nat_lit 101) i with | true => (match Nat.ble (nat_lit 102) i with | true => f102 | false => f101) | false => f100)) | false => (match Nat.ble (nat_lit 96) i with | true => (match Nat.ble (nat_lit 98) i with | true => (match Nat.ble (nat_lit 99) i with | true => f99 | false => f98) | false => (match Nat.ble (nat_lit 97) i with | true => f97 | false => f96)) | false => (match Nat.ble (nat_lit 94) i with | true => (match Nat.ble (nat_lit 95) i with | true => f95 | false => f94) | false => f93))) | false => (match Nat.ble (nat_lit 86) i with | true => (match Nat.ble (nat_lit 89) i with | true => (match Nat.ble (nat_lit 91) i with | true => (match Nat.ble (nat_lit 92) i with | true => f92 | false => f91) | false => (match Nat.ble (nat_lit 90) i with | true => f90 | false => f89)) | false => (match Nat.ble (nat_lit 87) i with | true => (match Nat.ble (nat_lit 88) i with | true => f88 | false => f87) | false => f86)) | false => (match Nat.ble (nat_lit 83) i with | true => (match Nat.ble (nat_lit 84) i with | true => (match Nat.ble (nat_lit 85) i with | true => f85 | false => f84) | false => f83) | false => (match Nat.ble (nat_lit 81) i with | true => (match Nat.ble (nat_lit 82) i with | true => f82 | false => f81) | false => f80)))) | false => (match Nat.ble (nat_lit 66) i with | true => (match Nat.ble (nat_lit 73) i with | true => (match Nat.ble (nat_lit 76) i with | true => (match Nat.ble (nat_lit 78) i with | true => (match Nat.ble (nat_lit 79) i with | true => f79 | false => f78) | false => (match Nat.ble (nat_lit 77) i with | true => f77 | false => f76)) | false => (match Nat.ble (nat_lit 74) i with | true => (match Nat.ble (nat_lit 75) i with | true => f75 | false => f74) | false => f73)) | false => (match Nat.ble (nat_lit 69) i with | true => (match Nat.ble (nat_lit 71) i with | true => (match Nat.ble (nat_lit 72) i with | true => f72 | false => f71) | false => (match Nat.ble (nat_lit 70) i with | true => f70 | false => f69)) | false => (match Nat.ble (nat_lit 67) i with | true => (match Nat.ble (nat_lit 68) i with | true => f68 | false => f67) | false => f66))) | false => (match Nat.ble (nat_lit 59) i with | true => (match Nat.ble (nat_lit 62) i with | true => (match Nat.ble (nat_lit 64) i with | true => (match Nat.ble (nat_lit 65) i with | true => f65 | false => f64) | false => (match Nat.ble (nat_lit 63) i with | true => f63 | false => f62)) | false => (match Nat.ble (nat_lit 60) i with | true => (match Nat.ble (nat_lit 61) i with | true => f61 | false => f60) | false => f59)) | false => (match Nat.ble (nat_lit 56) i with | true => (match Nat.ble (nat_lit 57) i with | true => (match Nat.ble (nat_lit 58) i with | true => f58 | false => f57) | false => f56) | false => (match Nat.ble (nat_lit 54) i with | true => (match Nat.ble (nat_lit 55) i with | true => f55 | false => f54) | false => f53))))) | false => (match Nat.ble (nat_lit 26) i with | true => (match Nat.ble (nat_lit 39) i with | true => (match Nat.ble (nat_lit 46) i with | true => (match Nat.ble (nat_lit 49) i with | true => (match Nat.ble (nat_lit 51) i with | true => (match Nat.ble (nat_lit 52) i with | true => f52 | false => f51) | false => (match Nat.ble (nat_lit 50) i with | true => f50 | false => f49)) | false => (match Nat.ble (nat_lit 47) i with | true => (match Nat.ble (nat_lit 48) i with | true => f48 | false => f47) | false => f46)) | false => (match Nat.ble (nat_lit 42) i with | true => (match Nat.ble (nat_lit 44) i with | true => (match Nat.ble (nat_lit 45) i with | true => f45 | false => f44) | false => (match Nat.ble (nat_lit 43) i with | true => f43 | false => f42)) | false => (match Nat.ble (nat_lit 40) i with | true => (match Nat.ble (nat_lit 41) i with | true => f41 | false => f40) | false => f39))) | false => (match Nat.ble (nat_lit 32) i with | true => (match Nat.ble (nat_lit 35) i with | true => (match Nat.ble (nat_lit 37) i with | true => (match Nat.ble (nat_lit 38) i with | true => f38 | false => f37) | false => (match Nat.ble (nat_lit 36) i with | true => f36 | false => f35)) | false => (match Nat.ble (nat_lit 33) i with | true => (match Nat.ble (nat_lit 34) i with | true => f34 | false => f33) | false => f32)) | false => (match Nat.ble (nat_lit 29) i with | true => (match Nat.ble (nat_lit 30) i with | true => (match Nat.ble (nat_lit 31) i with | true => f31 | false => f30) | false => f29) | false => (match Nat.ble (nat_lit 27) i with | true => (match Nat.ble (nat_lit 28) i with | true => f28 | false => f27) | false => f26)))) | false => (match Nat.ble (nat_lit 13) i with | true => (match Nat.ble (nat_lit 19) i with | true => (match Nat.ble (nat_lit 22) i with | true => (match Nat.ble (nat_lit 24) i with | true => (match Nat.ble (nat_lit 25) i with | true => f25 | false => f24) | false => (match Nat.ble (nat_lit 23) i with | true => f23 | false => f22)) | false => (match Nat.ble (nat_lit 20) i with | true => (match Nat.ble (nat_lit 21) i with | true => f21 | false => f20) | false => f19)) | false => (match Nat.ble (nat_lit 16) i with | true => (match Nat.ble (nat_lit 17) i with | true => (match Nat.ble (nat_lit 18) i with | true => f18 | false => f17) | false => f16) | false => (match Nat.ble (nat_lit 14) i with | true => (match Nat.ble (nat_lit 15) i with | true => f15 | false => f14) | false => f13))) | false => (match Nat.ble (nat_lit 6) i with | true => (match Nat.ble (nat_lit 9) i with | true => (match Nat.ble (nat_lit 11) i with | true => (match Nat.ble (nat_lit 12) i with | true => f12 | false => f11) | false => (match Nat.ble (nat_lit 10) i with | true => f10 | false => f9)) | false => (match Nat.ble (nat_lit 7) i with | true => (match Nat.ble (nat_lit 8) i with | true => f8 | false => f7) | false => f6)) | false => (match Nat.ble (nat_lit 3) i with | true => (match Nat.ble (nat_lit 4) i with | true => (match Nat.ble (nat_lit 5) i with | true => f5 | false => f4) | false => f3) | false => (match Nat.ble (nat_lit 1) i with | true => (match Nat.ble (nat_lit 2) i with | true => f2 | false => f1) | false => f0))))))
end Mine

end
section
open PySem PySem.W PyProof.Rows PySem.Calls PySem.SeqAt
namespace Mine
/-! facts of the heap's written part -/
noncomputable def nodupN : List Nat → Bool
  | [] => true
  | a :: l => l.all (fun b => !(Nat.beq a b)) && nodupN l
theorem nodupN_is : ∀ {l : List Nat}, nodupN l = true → l.Nodup
  | [], _ => List.nodup_nil
  | a :: l, h => by
    unfold nodupN at h
    rw [Bool.and_eq_true] at h
    refine List.nodup_cons.mpr ⟨fun hm => ?_, nodupN_is h.2⟩
    have := List.all_eq_true.mp h.1 a hm
    simp at this
noncomputable def keysOk (names : Sc) : Bool := nodupN (names.map fun p => codeS p.1) && names.all fun p => !(Nat.beq (codeS p.1) (codeS ("__debug__" : Str)))
theorem keysOk_is {names : Sc} (h : keysOk names = true) : (names.map (·.1)).Nodup ∧ ∀ p ∈ names, (p.1 == ("__debug__" : Str)) = false := by
  unfold keysOk at h
  rw [Bool.and_eq_true] at h
  refine ⟨?_, fun p hp => ?_⟩
  · have h1 := nodupN_is h.1
    have e : (names.map fun p => codeS p.1) = (names.map (·.1)).map codeS := by rw [List.map_map]; rfl
    rw [e] at h1
    exact (List.pairwise_map.mp h1).imp fun h e => h (congrArg codeS e)
  · have := List.all_eq_true.mp h.2 p hp
    rw [beq_eq_false_iff_ne]
    intro e
    rw [e] at this
    simp at this
noncomputable def noCell (names : Sc) : Bool := names.all fun p => match p.2 with | .cell => false | _ => true
theorem noCell_is {names : Sc} (h : noCell names = true) : ∀ p ∈ names, p.2 ≠ .cell := fun p hp e => by
  have := List.all_eq_true.mp h p hp
  rw [e] at this
  cases this
noncomputable def compOkB (sc : Sc) (cl : Cl) (scope : Scope) : Bool := (match scope.kind with | .function => true | _ => false) && keysOk scope.names && noCell scope.names &&
  scope.names.all fun p => match p.2 with | .free => (match sc.lookup p.1 with | some .cell => true | _ => false) && (cl.lookup p.1).isSome | _ => true
theorem CompOk.of {sc : Sc} {cl : Cl} {scope : Scope} (h : compOkB sc cl scope = true) : CompOk sc cl scope := by
  unfold compOkB at h
  rw [Bool.and_eq_true, Bool.and_eq_true, Bool.and_eq_true] at h
  obtain ⟨⟨⟨h1, h2⟩, h3⟩, h4⟩ := h
  obtain ⟨k1, k2⟩ := keysOk_is h2
  refine ⟨fun p hp e => ?_, ?_, k1, k2, noCell_is h3⟩
  · have := List.all_eq_true.mp h4 p hp
    rw [e] at this
    dsimp only at this
    rw [Bool.and_eq_true] at this
    refine ⟨?_, this.2⟩
    split at this
    · assumption
    · exact absurd this.1 (by simp)
  · split at h1
    · assumption
    · cases h1
structure FnK (K : Frag) (a : Addr) (f : Nat) : Prop where
  keep : keepIn K (.ref a) = true
  ex : ∃ o fd ps body, K.lookup a = some o ∧ o.data = .func fd ∧ codeIn K fd.code fd.qualname = true ∧ fd.body = .stmts body ∧ PlainFn fd ps ∧ (tbl f).p = ps.length ∧ (tbl f).n = fd.scope.names.length ∧
    RB fd.scope.names [] body (tbl f).body
theorem FnK.ok {X : Cx} {a : Addr} {f : Nat} (x : FnK X.K a f) (hK : X.K.In X.B) (ht : X.tbl = tbl) : FnOk X a f := by
  obtain ⟨o, fd, ps, body, h1, h2, h3, h4, h5, h6, h7, h8⟩ := x.ex
  refine ⟨x.keep, o, fd, ps, body, hK _ _ h1, h2, codeRec_of hK h3, h4, h5, ?_, ?_, ?_⟩
  · rw [ht]; exact h6
  · rw [ht]; exact h7
  · rw [ht]; exact h8
theorem PlainFn.of {fd : FuncData} {ps : List Str} (h1 : fd.params.posonlyargs = []) (h2 : fd.params.args.map (·.arg) = ps) (h3 : fd.params.vararg = none) (h4 : fd.params.kwonlyargs = []) (h5 : fd.params.kwarg = none) (h6 : fd.defaults = .none)
    (h7 : fd.globals = mainGlobals) (h8 : fd.builtins = builtinsNs) (h9 : fd.scope.kind = .function) (h10 : fd.scope.isCoroutine = false) (h11 : fd.scope.isGenerator = false) (h12 : fd.scope.names.take ps.length = ps.map fun x => (x, .local))
    (h13 : keysOk fd.scope.names = true) (h14 : noCell fd.scope.names = true) : PlainFn fd ps :=
  ⟨h1, h2, h3, h4, h5, h6, h7, h8, h9, h10, h11, (keysOk_is h13).1, (keysOk_is h13).2, noCell_is h14, h12⟩
end Mine

end
section
namespace Mine
noncomputable def tPre : T := (.b .seq (.u (.asg (nat_lit 2)) (.u (.call (nat_lit 16) (nat_lit 17)) (.b .cons (.l (.int (.ofNat (nat_lit 2)))) (.b .cons (.l (.int (.ofNat (nat_lit 3)))) (.b .cons (.l (.bool false)) (.b .cons (.l (.bool false)) (.l .nil))))))) (.b .seq (.u (.asgC (nat_lit 3) (nat_lit 0)) (.u (.call (nat_lit 17) (nat_lit 31)) (.b .cons (.l (.loc (nat_lit 2))) (.b .cons (.l (.gint (nat_lit 18) (.ofNat (nat_lit 5)))) (.b .cons (.b .item (.u .tup (.b .cons (.l (.int (.ofNat (nat_lit 3)))) (.b .cons (.l (.int (.ofNat (nat_lit 48)))) (.l .nil)))) (.u (.pick (nat_lit 1) (nat_lit 0)) (.l (.int (.ofNat (nat_lit 2)))))) (.l .nil)))))) (.b .seq (.t (.compIf (nat_lit 5) (nat_lit 1) (nat_lit 3)) (.l (.loc (nat_lit 1))) (.u (.range (nat_lit 19)) (.b .cons (.u (.len (nat_lit 20)) (.l (.cel (nat_lit 3) (nat_lit 0)))) (.l .nil))) (.b (.cmp .ge) (.b .item (.l (.cel (nat_lit 2) (nat_lit 0))) (.l (.loc (nat_lit 1)))) (.l (.int (.ofNat (nat_lit 0)))))) (.b .seq (.t (.compIf (nat_lit 6) (nat_lit 1) (nat_lit 4)) (.l (.loc (nat_lit 1))) (.u (.range (nat_lit 19)) (.b .cons (.u (.len (nat_lit 20)) (.l (.cel (nat_lit 3) (nat_lit 0)))) (.l .nil))) (.b (.cmp .eq) (.b .item (.l (.cel (nat_lit 3) (nat_lit 0))) (.l (.loc (nat_lit 1)))) (.l (.gint (nat_lit 2) (.negSucc (nat_lit 0)))))) (.l .done)))))
noncomputable def tMid : T := (.b .seq (.u (.asg (nat_lit 4)) (.b .item (.l (.loc (nat_lit 5))) (.u (.pick (nat_lit 1) (nat_lit 1)) (.u (.len (nat_lit 20)) (.l (.loc (nat_lit 5))))))) (.b .seq (.u (.asg (nat_lit 7)) (.u (.call (nat_lit 21) (nat_lit 105)) (.b .cons (.l (.loc (nat_lit 2))) (.b .cons (.l (.loc (nat_lit 4))) (.l .nil))))) (.b .seq (.u (.asgT [(nat_lit 8), (nat_lit 9), (nat_lit 10), (nat_lit 11)]) (.u (.call (nat_lit 22) (nat_lit 26)) (.b .cons (.l (.int (.ofNat (nat_lit 6)))) (.b .cons (.l (.loc (nat_lit 4))) (.l .nil))))) (.b .seq (.u (.asg (nat_lit 12)) (.u (.call (nat_lit 23) (nat_lit 34)) (.b .cons (.l (.loc (nat_lit 2))) (.b .cons (.l (.cel (nat_lit 3) (nat_lit 0))) (.b .cons (.l (.gint (nat_lit 18) (.ofNat (nat_lit 5)))) (.b .cons (.l (.loc (nat_lit 8))) (.b .cons (.l (.loc (nat_lit 9))) (.b .cons (.l (.loc (nat_lit 10))) (.b .cons (.l (.loc (nat_lit 11))) (.l .nil)))))))))) (.b .seq (.t .ifs (.b (.cmp .ne) (.u (.len (nat_lit 20)) (.l (.loc (nat_lit 12)))) (.b .item (.l (.cel (nat_lit 3) (nat_lit 0))) (.l (.loc (nat_lit 4))))) (.b .seq (.u .ret (.l (.bool false))) (.l .done)) (.l .done)) (.b .seq (.b (.forC (nat_lit 13) (nat_lit 1) (nat_lit 14) (nat_lit 2)) (.l (.loc (nat_lit 12))) (.b .seq (.t (.compIf (nat_lit 15) (nat_lit 1) (nat_lit 6)) (.l (.loc (nat_lit 1))) (.u (.call (nat_lit 24) (nat_lit 92)) (.b .cons (.l (.loc (nat_lit 7))) (.l .nil))) (.b (.cmp .eq) (.u .tup (.b .cons (.u (.call (nat_lit 2) (nat_lit 5)) (.b .cons (.l (.loc (nat_lit 1))) (.l .nil))) (.b .cons (.u (.call (nat_lit 3) (nat_lit 6)) (.b .cons (.l (.loc (nat_lit 1))) (.l .nil))) (.l .nil)))) (.u .tup (.b .cons (.l (.cel (nat_lit 5) (nat_lit 1))) (.b .cons (.l (.cel (nat_lit 4) (nat_lit 2))) (.l .nil)))))) (.b .seq (.t .ifs (.b (.cmp .ne) (.u (.len (nat_lit 20)) (.l (.loc (nat_lit 15)))) (.l (.int (.ofNat (nat_lit 1))))) (.b .seq (.u .ret (.l (.bool false))) (.l .done)) (.l .done)) (.b .seq (.u .ex (.u (.call (nat_lit 25) (nat_lit 103)) (.b .cons (.l (.loc (nat_lit 7))) (.b .cons (.b .item (.l (.loc (nat_lit 15))) (.l (.int (.ofNat (nat_lit 0))))) (.l .nil))))) (.l .done))))) (.b .seq (.t .ifs (.b .or (.b (.cmp .ne) (.u (.attr (nat_lit 20)) (.l (.loc (nat_lit 7)))) (.l (.int (.ofNat (nat_lit 1))))) (.b .or (.u .not (.u (.call (nat_lit 26) (nat_lit 60)) (.b .cons (.l (.loc (nat_lit 7))) (.l .nil)))) (.b (.cmp .ne) (.u (.call (nat_lit 24) (nat_lit 92)) (.b .cons (.l (.loc (nat_lit 7))) (.l .nil))) (.u .list (.l .nil))))) (.b .seq (.u .ret (.l (.bool false))) (.l .done)) (.l .done)) (.l .done))))))))
noncomputable def tFin : T := (.b .seq (.u .ret (.u .not (.u (.call (nat_lit 27) (nat_lit 94)) (.b .cons (.u (.call (nat_lit 21) (nat_lit 105)) (.b .cons (.l (.loc (nat_lit 2))) (.b .cons (.b .item (.l (.loc (nat_lit 6))) (.u (.pick (nat_lit 1) (nat_lit 2)) (.u (.len (nat_lit 20)) (.l (.loc (nat_lit 6)))))) (.l .nil)))) (.l .nil))))) (.l .done))
noncomputable def orc1 (z : Nat) : Nat → Int → Option Int := fun j n => match j with
  | 0 => match ieq n 2 with | true => some (.ofNat z) | false => none
  | _ => none
noncomputable def orc2 (e : Nat) : Nat → Int → Option Int := fun j n => match j with
  | 1 => match ieq n 12 with | true => some (.ofNat e) | false => none
  | _ => none
noncomputable def orc3 (o : Nat) : Nat → Int → Option Int := fun j n => match j with
  | 2 => match ieq n 6 with | true => some (.ofNat o) | false => none
  | _ => none
noncomputable def s0 : St := ⟨(((H.nil.put 0 (.cell .unb)).put 1 (.cell .unb)).put 2 (.cell .unb)).put 3 .cells, 4⟩
noncomputable def ρ0 : List AV := [.unb, .ref 3] ++ unbs 26
noncomputable def isTrueR (r : R) : Bool := match r with
  | .fl f _ _ => match f with
    | .ret x => match x with
      | .bool b => b
      | _ => false
    | _ => false
  | _ => false
noncomputable def thenR (r : R) (k : List AV → St → Bool) : Bool := match r with
  | .fl f ρ s => match f with
    | .next => k ρ s
    | _ => false
  | _ => false
noncomputable def allB (n : Nat) (p : Nat → Bool) : Bool := Nat.rec true (fun i ih => match p i with | true => ih | false => false) n
noncomputable def rPre (z : Nat) : R := ev (orc1 z) tbl 100 tPre ρ0 s0
noncomputable def rMid (e : Nat) (ρ : List AV) (s : St) : R := ev (orc2 e) tbl 100 tMid ρ s
noncomputable def rFin (o : Nat) (ρ : List AV) (s : St) : R := ev (orc3 o) tbl 100 tFin ρ s
/-! equality and what a smaller state needs -/
noncomputable def beqV : AV → AV → Bool
  | .unb, .unb => true
  | .non, .non => true
  | .bool true, .bool true => true
  | .bool false, .bool false => true
  | .int a, .int b => ieq a b
  | .ref a, .ref b => Nat.beq a b
  | _, _ => false
noncomputable def beqVs (l : List AV) : List AV → Bool := List.rec (fun m => match m with | [] => true | _ :: _ => false) (fun x _ ih m => match m with | [] => false | y :: ys => match beqV x y with | true => ih ys | false => false) l
noncomputable def beqFs (l : List (Nat × AV)) : List (Nat × AV) → Bool := List.rec (fun m => match m with | [] => true | _ :: _ => false) (fun x _ ih m => match m with | [] => false | y :: ys => match Nat.beq x.1 y.1 with | true => (match beqV x.2 y.2 with | true => ih ys | false => false) | false => false) l
noncomputable def beqO : AO → AO → Bool
  | .list a, .list b => beqVs a b
  | .inst i a, .inst j b => match Nat.beq i j with | true => beqFs a b | false => false
  | .cell a, .cell b => beqV a b
  | .cells, .cells => true
  | _, _ => false
noncomputable def wfV (n : Nat) : AV → Bool
  | .ref k => Nat.ble (Nat.succ k) n
  | _ => true
noncomputable def wfVs (n : Nat) (l : List AV) : Bool := List.rec true (fun x _ ih => match wfV n x with | true => ih | false => false) l
noncomputable def wfFs (n : Nat) (l : List (Nat × AV)) : Bool := List.rec true (fun x _ ih => match wfV n x.2 with | true => ih | false => false) l
noncomputable def wfO (n i : Nat) : AO → Bool
  | .list vs => wfVs n vs
  | .inst _ fs => match Nat.ble (Nat.succ (Nat.succ i)) n with | true => wfFs n fs | false => false
  | .cell v => wfV n v
  | .cells => true
  | _ => false
noncomputable def keeps (n : Nat) (K : List (Nat × AO)) (h : H) : Bool := List.rec true (fun p _ ih => match h.get p.1 with
  | some o => (match beqO p.2 o with
    | true => (match Nat.ble (Nat.succ p.1) n with
      | true => (match wfO n p.1 p.2 with | true => ih | false => false)
      | false => false)
    | false => false)
  | none => false) K
noncomputable def HP (K : List (Nat × AO)) : H := List.rec .nil (fun p _ ih => ih.put p.1 p.2) K
noncomputable def tailL (l : List AV) : List AV := List.rec [] (fun _ t _ => t) l
noncomputable def isU : AV → Bool
  | .unb => true
  | _ => false
noncomputable def subR (n : Nat) (l : List AV) : List AV → Bool := List.rec (fun _ => true) (fun x _ ih ρ => match isU x with
  | true => ih (tailL ρ)
  | false => (match beqV x (geti ρ 0) with
    | true => (match wfV n x with | true => ih (tailL ρ) | false => false)
    | false => false)) l
noncomputable def okS (n : Nat) (K : List (Nat × AO)) (ρ' ρ : List AV) (s : St) : Bool := match Nat.ble n s.n with | true => (match keeps n K s.h with | true => subR n ρ' ρ | false => false) | false => false
/-! the states between the parts -/
noncomputable def nP : Nat := (nat_lit 235)
noncomputable def ρP : List AV := [.unb, .ref (nat_lit 3), .ref (nat_lit 4), .unb, .unb, .ref (nat_lit 232), .ref (nat_lit 234), .unb, .unb, .unb, .unb, .unb, .unb, .unb, .unb, .unb, .unb, .unb, .unb, .unb, .unb, .unb, .unb, .unb, .unb, .unb, .unb, .unb]
noncomputable def ρF : List AV := [.unb, .ref (nat_lit 3), .ref (nat_lit 4), .unb, .unb, .unb, .ref (nat_lit 234), .unb, .unb, .unb, .unb, .unb, .unb, .unb, .unb, .unb, .unb, .unb, .unb, .unb, .unb, .unb, .unb, .unb, .unb, .unb, .unb, .unb]
noncomputable def KP0 : List (Nat × AO) := [((nat_lit 0), .cell (.ref (nat_lit 56))), ((nat_lit 1), .cell .unb), ((nat_lit 2), .cell .unb), ((nat_lit 3), .cells), ((nat_lit 4), .inst (nat_lit 9) [((nat_lit 14), .int (.ofNat (nat_lit 2))), ((nat_lit 13), .int (.ofNat (nat_lit 3))), ((nat_lit 12), .int (.ofNat (nat_lit 6))), ((nat_lit 11), .int (.ofNat (nat_lit 63))), ((nat_lit 10), .bool false), ((nat_lit 9), .bool false), ((nat_lit 8), .ref (nat_lit 6)), ((nat_lit 7), .ref (nat_lit 7)), ((nat_lit 6), .ref (nat_lit 8)), ((nat_lit 5), .ref (nat_lit 19)), ((nat_lit 4), .ref (nat_lit 10)), ((nat_lit 3), .ref (nat_lit 13)), ((nat_lit 2), .ref (nat_lit 14)), ((nat_lit 1), .ref (nat_lit 52))]), ((nat_lit 6), .list [.int (.ofNat (nat_lit 21)), .int (.ofNat (nat_lit 42))]), ((nat_lit 7), .list [.int (.ofNat (nat_lit 3)), .int (.ofNat (nat_lit 12)), .int (.ofNat (nat_lit 48))]), ((nat_lit 8), .list [.ref (nat_lit 22), .ref (nat_lit 26), .ref (nat_lit 30), .ref (nat_lit 33), .ref (nat_lit 36), .ref (nat_lit 40), .ref (nat_lit 43), .ref (nat_lit 46)]), ((nat_lit 10), .list [.int (.ofNat (nat_lit 32)), .int (.ofNat (nat_lit 16)), .int (.ofNat (nat_lit 0)), .int (.ofNat (nat_lit 0)), .int (.ofNat (nat_lit 2)), .int (.ofNat (nat_lit 1))]), ((nat_lit 11), .list [.int (.ofNat (nat_lit 8)), .int (.ofNat (nat_lit 4)), .int (.ofNat (nat_lit 32)), .int (.ofNat (nat_lit 16)), .int (.ofNat (nat_lit 0)), .int (.ofNat (nat_lit 0))]), ((nat_lit 12), .list [.int (.ofNat (nat_lit 0)), .int (.ofNat (nat_lit 0)), .int (.ofNat (nat_lit 2)), .int (.ofNat (nat_lit 1)), .int (.ofNat (nat_lit 8)), .int (.ofNat (nat_lit 4))]), ((nat_lit 13), .list [.ref (nat_lit 11), .ref (nat_lit 12)]), ((nat_lit 14), .list [.non, .non, .non, .non]), ((nat_lit 19), .list [.int (.ofNat (nat_lit 14)), .int (.ofNat (nat_lit 13)), .int (.ofNat (nat_lit 59)), .int (.ofNat (nat_lit 55)), .int (.ofNat (nat_lit 44)), .int (.ofNat (nat_lit 28))]), ((nat_lit 22), .list [.int (.ofNat (nat_lit 20)), .int (.ofNat (nat_lit 40)), .int (.ofNat (nat_lit 16)), .int (.ofNat (nat_lit 32)), .int (.ofNat (nat_lit 0)), .int (.ofNat (nat_lit 0))]), ((nat_lit 26), .list [.int (.ofNat (nat_lit 2)), .int (.ofNat (nat_lit 0)), .int (.ofNat (nat_lit 8)), .int (.ofNat (nat_lit 0)), .int (.ofNat (nat_lit 32)), .int (.ofNat (nat_lit 0))]), ((nat_lit 30), .list [.int (.ofNat (nat_lit 0)), .int (.ofNat (nat_lit 0)), .int (.ofNat (nat_lit 1)), .int (.ofNat (nat_lit 2)), .int (.ofNat (nat_lit 5)), .int (.ofNat (nat_lit 10))]), ((nat_lit 33), .list [.int (.ofNat (nat_lit 0)), .int (.ofNat (nat_lit 1)), .int (.ofNat (nat_lit 0)), .int (.ofNat (nat_lit 4)), .int (.ofNat (nat_lit 0)), .int (.ofNat (nat_lit 16))]), ((nat_lit 36), .list [.int (.ofNat (nat_lit 8)), .int (.ofNat (nat_lit 0)), .int (.ofNat (nat_lit 32)), .int (.ofNat (nat_lit 0)), .int (.ofNat (nat_lit 0)), .int (.ofNat (nat_lit 0))]), ((nat_lit 40), .list [.int (.ofNat (nat_lit 0)), .int (.ofNat (nat_lit 0)), .int (.ofNat (nat_lit 2)), .int (.ofNat (nat_lit 0)), .int (.ofNat (nat_lit 8)), .int (.ofNat (nat_lit 0))]), ((nat_lit 43), .list [.int (.ofNat (nat_lit 0)), .int (.ofNat (nat_lit 0)), .int (.ofNat (nat_lit 0)), .int (.ofNat (nat_lit 1)), .int (.ofNat (nat_lit 0)), .int (.ofNat (nat_lit 4))]), ((nat_lit 46), .list [.int (.ofNat (nat_lit 0)), .int (.ofNat (nat_lit 4)), .int (.ofNat (nat_lit 0)), .int (.ofNat (nat_lit 16)), .int (.ofNat (nat_lit 0)), .int (.ofNat (nat_lit 0))]), ((nat_lit 52), .list [.int (.ofNat (nat_lit 0)), .int (.ofNat (nat_lit 0)), .int (.ofNat (nat_lit 0)), .int (.ofNat (nat_lit 0)), .int (.ofNat (nat_lit 0)), .int (.ofNat (nat_lit 0))]), ((nat_lit 56), .list [.int (.negSucc (nat_lit 1)), .int (.negSucc (nat_lit 1)), .int (.negSucc (nat_lit 1)), .int (.negSucc (nat_lit 1)), .int (.negSucc (nat_lit 1)), .int (.negSucc (nat_lit 1)), .int (.negSucc (nat_lit 1)), .int (.negSucc (nat_lit 1)), .int (.negSucc (nat_lit 1)), .int (.negSucc (nat_lit 1)), .int (.ofNat (nat_lit 1)), .int (.negSucc (nat_lit 1)), .int (.negSucc (nat_lit 1)), .int (.negSucc (nat_lit 1)), .int (.negSucc (nat_lit 1)), .int (.negSucc (nat_lit 1)), .int (.negSucc (nat_lit 1)), .int (.negSucc (nat_lit 1)), .int (.negSucc (nat_lit 1)), .int (.negSucc (nat_lit 1)), .int (.negSucc (nat_lit 1)), .int (.negSucc (nat_lit 1)), .int (.negSucc (nat_lit 1)), .int (.negSucc (nat_lit 1)), .int (.negSucc (nat_lit 1)), .int (.negSucc (nat_lit 1)), .int (.negSucc (nat_lit 1)), .int (.negSucc (nat_lit 1)), .int (.negSucc (nat_lit 1)), .int (.negSucc (nat_lit 1)), .int (.negSucc (nat_lit 1)), .int (.negSucc (nat_lit 1)), .int (.negSucc (nat_lit 1)), .int (.negSucc (nat_lit 1)), .int (.negSucc (nat_lit 1)), .int (.negSucc (nat_lit 1)), .int (.negSucc (nat_lit 1)), .int (.negSucc (nat_lit 1)), .int (.negSucc (nat_lit 1)), .int (.negSucc (nat_lit 1)), .int (.negSucc (nat_lit 1)), .int (.ofNat (nat_lit 1)), .int (.negSucc (nat_lit 1)), .int (.negSucc (nat_lit 1)), .int (.negSucc (nat_lit 1)), .int (.negSucc (nat_lit 1)), .int (.negSucc (nat_lit 1)), .int (.negSucc (nat_lit 1)), .int (.negSucc (nat_lit 1)), .int (.negSucc (nat_lit 1)), .int (.negSucc (nat_lit 1)), .int (.negSucc (nat_lit 1)), .int (.negSucc (nat_lit 1)), .int (.negSucc (nat_lit 1)), .int (.negSucc (nat_lit 1)), .int (.negSucc (nat_lit 1)), .int (.negSucc (nat_lit 1)), .int (.negSucc (nat_lit 1)), .int (.negSucc (nat_lit 1)), .int (.negSucc (nat_lit 1)), .int (.negSucc (nat_lit 1)), .int (.negSucc (nat_lit 1)), .int (.negSucc (nat_lit 1)), .int (.negSucc (nat_lit 1)), .int (.negSucc (nat_lit 1)), .int (.negSucc (nat_lit 1)), .int (.negSucc (nat_lit 1)), .int (.negSucc (nat_lit 1)), .int (.negSucc (nat_lit 1)), .int (.negSucc (nat_lit 1)), .int (.negSucc (nat_lit 1)), .int (.negSucc (nat_lit 1)), .int (.negSucc (nat_lit 1)), .int (.negSucc (nat_lit 1)), .int (.negSucc (nat_lit 1)), .int (.negSucc (nat_lit 1)), .int (.negSucc (nat_lit 1)), .int (.negSucc (nat_lit 1)), .int (.negSucc (nat_lit 1)), .int (.negSucc (nat_lit 1)), .int (.negSucc (nat_lit 1)), .int (.negSucc (nat_lit 1)), .int (.negSucc (nat_lit 1)), .int (.negSucc (nat_lit 1)), .int (.negSucc (nat_lit 1)), .int (.negSucc (nat_lit 1)), .int (.negSucc (nat_lit 1)), .int (.negSucc (nat_lit 1)), .int (.negSucc (nat_lit 1)), .int (.negSucc (nat_lit 1)), .int (.negSucc (nat_lit 1)), .int (.negSucc (nat_lit 1)), .int (.negSucc (nat_lit 1)), .int (.negSucc (nat_lit 1)), .int (.negSucc (nat_lit 1)), .int (.negSucc (nat_lit 1)), .int (.negSucc (nat_lit 1)), .int (.negSucc (nat_lit 1)), .int (.negSucc (nat_lit 1)), .int (.negSucc (nat_lit 1)), .int (.negSucc (nat_lit 1)), .int (.negSucc (nat_lit 1)), .int (.negSucc (nat_lit 1)), .int (.negSucc (nat_lit 1)), .int (.negSucc (nat_lit 1)), .int (.negSucc (nat_lit 1)), .int (.negSucc (nat_lit 1)), .int (.negSucc (nat_lit 1)), .int (.negSucc (nat_lit 1)), .int (.negSucc (nat_lit 1)), .int (.negSucc (nat_lit 1)), .int (.negSucc (nat_lit 1)), .int (.negSucc (nat_lit 1)), .int (.negSucc (nat_lit 1)), .int (.negSucc (nat_lit 1)), .int (.negSucc (nat_lit 1)), .int (.negSucc (nat_lit 1)), .int (.negSucc (nat_lit 1)), .int (.negSucc (nat_lit 1)), .int (.negSucc (nat_lit 1)), .int (.negSucc (nat_lit 1)), .int (.negSucc (nat_lit 1)), .int (.negSucc (nat_lit 1)), .int (.negSucc (nat_lit 1)), .int (.negSucc (nat_lit 1)), .int (.negSucc (nat_lit 1)), .int (.negSucc (nat_lit 1)), .int (.negSucc (nat_lit 1)), .int (.negSucc (nat_lit 1)), .int (.negSucc (nat_lit 1)), .int (.negSucc (nat_lit 1)), .int (.negSucc (nat_lit 1)), .int (.negSucc (nat_lit 1)), .int (.negSucc (nat_lit 1)), .int (.negSucc (nat_lit 1)), .int (.negSucc (nat_lit 1)), .int (.negSucc (nat_lit 1)), .int (.negSucc (nat_lit 1)), .int (.negSucc (nat_lit 1)), .int (.negSucc (nat_lit 1)), .int (.negSucc (nat_lit 1)), .int (.negSucc (nat_lit 1)), .int (.negSucc (nat_lit 1)), .int (.negSucc (nat_lit 1)), .int (.negSucc (nat_lit 1)), .int (.negSucc (nat_lit 1)), .int (.negSucc (nat_lit 1)), .int (.negSucc (nat_lit 1)), .int (.negSucc (nat_lit 1)), .int (.negSucc (nat_lit 1)), .int (.negSucc (nat_lit 1)), .int (.negSucc (nat_lit 1)), .int (.negSucc (nat_lit 1)), .int (.negSucc (nat_lit 1)), .int (.negSucc (nat_lit 1)), .int (.negSucc (nat_lit 1)), .int (.negSucc (nat_lit 1)), .int (.negSucc (nat_lit 1)), .int (.negSucc (nat_lit 1)), .int (.negSucc (nat_lit 1)), .int (.negSucc (nat_lit 1)), .int (.negSucc (nat_lit 1)), .int (.negSucc (nat_lit 1)), .int (.negSucc (nat_lit 1)), .int (.negSucc (nat_lit 1)), .int (.negSucc (nat_lit 1)), .int (.negSucc (nat_lit 1)), .int (.negSucc (nat_lit 1)), .int (.negSucc (nat_lit 1)), .int (.negSucc (nat_lit 1)), .int (.negSucc (nat_lit 1)), .int (.negSucc (nat_lit 1)), .int (.negSucc (nat_lit 1)), .int (.negSucc (nat_lit 1)), .int (.negSucc (nat_lit 1)), .int (.negSucc (nat_lit 1)), .int (.negSucc (nat_lit 1)), .int (.negSucc (nat_lit 1)), .int (.negSucc (nat_lit 1)), .int (.negSucc (nat_lit 1)), .int (.negSucc (nat_lit 1)), .int (.negSucc (nat_lit 1)), .int (.negSucc (nat_lit 1)), .int (.negSucc (nat_lit 1)), .int (.negSucc (nat_lit 1)), .int (.negSucc (nat_lit 1)), .int (.negSucc (nat_lit 1)), .int (.negSucc (nat_lit 1)), .int (.negSucc (nat_lit 1)), .int (.negSucc (nat_lit 1)), .int (.negSucc (nat_lit 1)), .int (.negSucc (nat_lit 1)), .int (.negSucc (nat_lit 1)), .int (.negSucc (nat_lit 1)), .int (.negSucc (nat_lit 1)), .int (.negSucc (nat_lit 1)), .int (.negSucc (nat_lit 1)), .int (.negSucc (nat_lit 1)), .int (.negSucc (nat_lit 1)), .int (.negSucc (nat_lit 1)), .int (.negSucc (nat_lit 1)), .int (.negSucc (nat_lit 1)), .int (.negSucc (nat_lit 1)), .int (.negSucc (nat_lit 1)), .int (.negSucc (nat_lit 1)), .int (.negSucc (nat_lit 1)), .int (.negSucc (nat_lit 1)), .int (.negSucc (nat_lit 1)), .int (.negSucc (nat_lit 1)), .int (.negSucc (nat_lit 1)), .int (.negSucc (nat_lit 1)), .int (.negSucc (nat_lit 1)), .int (.negSucc (nat_lit 1)), .int (.negSucc (nat_lit 1)), .int (.negSucc (nat_lit 1)), .int (.negSucc (nat_lit 1)), .int (.negSucc (nat_lit 1)), .int (.negSucc (nat_lit 1)), .int (.negSucc (nat_lit 1)), .int (.negSucc (nat_lit 1)), .int (.negSucc (nat_lit 1)), .int (.negSucc (nat_lit 1)), .int (.negSucc (nat_lit 1)), .int (.negSucc (nat_lit 1)), .int (.negSucc (nat_lit 1)), .int (.negSucc (nat_lit 1)), .int (.negSucc (nat_lit 0)), .int (.ofNat (nat_lit 2)), .int (.negSucc (nat_lit 1)), .int (.negSucc (nat_lit 1)), .int (.negSucc (nat_lit 1)), .int (.negSucc (nat_lit 1)), .int (.ofNat (nat_lit 0)), .int (.ofNat (nat_lit 0)), .int (.negSucc (nat_lit 1)), .int (.negSucc (nat_lit 1)), .int (.negSucc (nat_lit 1)), .int (.negSucc (nat_lit 1)), .int (.ofNat (nat_lit 0)), .int (.ofNat (nat_lit 0)), .int (.negSucc (nat_lit 1)), .int (.negSucc (nat_lit 1)), .int (.negSucc (nat_lit 1)), .int (.negSucc (nat_lit 1)), .int (.negSucc (nat_lit 1)), .int (.negSucc (nat_lit 0)), .int (.negSucc (nat_lit 1)), .int (.negSucc (nat_lit 1)), .int (.negSucc (nat_lit 1)), .int (.negSucc (nat_lit 1)), .int (.negSucc (nat_lit 0)), .int (.negSucc (nat_lit 1)), .int (.negSucc (nat_lit 1)), .int (.negSucc (nat_lit 1)), .int (.negSucc (nat_lit 1)), .int (.negSucc (nat_lit 1)), .int (.ofNat (nat_lit 2)), .int (.negSucc (nat_lit 0)), .int (.negSucc (nat_lit 1)), .int (.negSucc (nat_lit 1)), .int (.negSucc (nat_lit 1)), .int (.negSucc (nat_lit 1)), .int (.negSucc (nat_lit 1)), .int (.negSucc (nat_lit 1)), .int (.negSucc (nat_lit 1)), .int (.negSucc (nat_lit 1)), .int (.negSucc (nat_lit 1)), .int (.negSucc (nat_lit 1)), .int (.ofNat (nat_lit 0)), .int (.ofNat (nat_lit 0)), .int (.negSucc (nat_lit 1)), .int (.negSucc (nat_lit 1)), .int (.negSucc (nat_lit 1)), .int (.negSucc (nat_lit 1)), .int (.ofNat (nat_lit 0)), .int (.ofNat (nat_lit 0)), .int (.negSucc (nat_lit 1)), .int (.negSucc (nat_lit 1)), .int (.negSucc (nat_lit 1)), .int (.negSucc (nat_lit 1)), .int (.negSucc (nat_lit 1)), .int (.negSucc (nat_lit 0)), .int (.negSucc (nat_lit 1)), .int (.negSucc (nat_lit 1)), .int (.negSucc (nat_lit 1)), .int (.negSucc (nat_lit 1)), .int (.negSucc (nat_lit 0)), .int (.negSucc (nat_lit 1)), .int (.negSucc (nat_lit 1)), .int (.negSucc (nat_lit 1)), .int (.negSucc (nat_lit 1)), .int (.negSucc (nat_lit 1)), .int (.negSucc (nat_lit 1)), .int (.negSucc (nat_lit 1)), .int (.negSucc (nat_lit 1)), .int (.negSucc (nat_lit 1)), .int (.negSucc (nat_lit 1)), .int (.negSucc (nat_lit 1)), .int (.negSucc (nat_lit 1)), .int (.negSucc (nat_lit 1)), .int (.negSucc (nat_lit 1)), .int (.negSucc (nat_lit 1)), .int (.negSucc (nat_lit 1)), .int (.negSucc (nat_lit 1)), .int (.negSucc (nat_lit 1)), .int (.negSucc (nat_lit 1)), .int (.negSucc (nat_lit 1)), .int (.negSucc (nat_lit 1)), .int (.negSucc (nat_lit 1)), .int (.negSucc (nat_lit 1)), .int (.negSucc (nat_lit 1)), .int (.negSucc (nat_lit 1)), .int (.negSucc (nat_lit 1)), .int (.negSucc (nat_lit 1)), .int (.negSucc (nat_lit 1)), .int (.negSucc (nat_lit 1)), .int (.negSucc (nat_lit 1)), .int (.negSucc (nat_lit 1)), .int (.negSucc (nat_lit 1)), .int (.negSucc (nat_lit 1)), .int (.negSucc (nat_lit 1)), .int (.negSucc (nat_lit 1)), .int (.negSucc (nat_lit 1)), .int (.negSucc (nat_lit 1)), .int (.negSucc (nat_lit 1)), .int (.negSucc (nat_lit 1)), .int (.negSucc (nat_lit 1)), .int (.negSucc (nat_lit 1)), .int (.negSucc (nat_lit 1)), .int (.negSucc (nat_lit 1)), .int (.negSucc (nat_lit 1)), .int (.negSucc (nat_lit 1)), .int (.negSucc (nat_lit 1)), .int (.negSucc (nat_lit 1)), .int (.negSucc (nat_lit 1)), .int (.negSucc (nat_lit 1)), .int (.negSucc (nat_lit 1)), .int (.negSucc (nat_lit 1)), .int (.negSucc (nat_lit 1)), .int (.negSucc (nat_lit 1)), .int (.negSucc (nat_lit 1)), .int (.negSucc (nat_lit 1)), .int (.negSucc (nat_lit 1)), .int (.negSucc (nat_lit 1)), .int (.negSucc (nat_lit 1)), .int (.negSucc (nat_lit 1)), .int (.negSucc (nat_lit 1)), .int (.negSucc (nat_lit 1)), .int (.negSucc (nat_lit 1)), .int (.negSucc (nat_lit 1)), .int (.negSucc (nat_lit 1)), .int (.negSucc (nat_lit 1)), .int (.negSucc (nat_lit 1)), .int (.negSucc (nat_lit 1)), .int (.negSucc (nat_lit 1)), .int (.negSucc (nat_lit 1)), .int (.negSucc (nat_lit 1)), .int (.negSucc (nat_lit 1)), .int (.negSucc (nat_lit 1)), .int (.negSucc (nat_lit 1)), .int (.negSucc (nat_lit 1)), .int (.negSucc (nat_lit 1)), .int (.negSucc (nat_lit 1)), .int (.negSucc (nat_lit 1)), .int (.negSucc (nat_lit 1)), .int (.negSucc (nat_lit 1)), .int (.negSucc (nat_lit 1)), .int (.negSucc (nat_lit 1)), .int (.negSucc (nat_lit 1)), .int (.negSucc (nat_lit 1)), .int (.negSucc (nat_lit 1)), .int (.negSucc (nat_lit 1)), .int (.negSucc (nat_lit 1)), .int (.negSucc (nat_lit 1)), .int (.negSucc (nat_lit 1)), .int (.negSucc (nat_lit 1)), .int (.negSucc (nat_lit 1)), .int (.negSucc (nat_lit 1)), .int (.negSucc (nat_lit 1)), .int (.negSucc (nat_lit 1)), .int (.negSucc (nat_lit 1)), .int (.negSucc (nat_lit 1)), .int (.negSucc (nat_lit 1)), .int (.negSucc (nat_lit 1)), .int (.negSucc (nat_lit 1)), .int (.negSucc (nat_lit 1)), .int (.negSucc (nat_lit 1)), .int (.negSucc (nat_lit 1)), .int (.negSucc (nat_lit 1)), .int (.negSucc (nat_lit 1)), .int (.negSucc (nat_lit 1)), .int (.negSucc (nat_lit 1)), .int (.negSucc (nat_lit 1)), .int (.negSucc (nat_lit 1)), .int (.negSucc (nat_lit 1)), .int (.negSucc (nat_lit 1)), .int (.negSucc (nat_lit 1)), .int (.negSucc (nat_lit 1)), .int (.negSucc (nat_lit 1)), .int (.negSucc (nat_lit 1)), .int (.negSucc (nat_lit 1)), .int (.negSucc (nat_lit 1)), .int (.negSucc (nat_lit 1)), .int (.negSucc (nat_lit 1)), .int (.negSucc (nat_lit 1)), .int (.negSucc (nat_lit 1)), .int (.negSucc (nat_lit 1)), .int (.negSucc (nat_lit 1)), .int (.negSucc (nat_lit 1)), .int (.negSucc (nat_lit 1)), .int (.negSucc (nat_lit 1)), .int (.negSucc (nat_lit 1)), .int (.negSucc (nat_lit 1)), .int (.negSucc (nat_lit 1)), .int (.negSucc (nat_lit 1)), .int (.negSucc (nat_lit 1)), .int (.negSucc (nat_lit 1)), .int (.negSucc (nat_lit 1)), .int (.negSucc (nat_lit 1)), .int (.negSucc (nat_lit 1)), .int (.negSucc (nat_lit 1)), .int (.negSucc (nat_lit 1)), .int (.negSucc (nat_lit 1)), .int (.negSucc (nat_lit 1)), .int (.negSucc (nat_lit 1)), .int (.negSucc (nat_lit 1)), .int (.negSucc (nat_lit 1)), .int (.negSucc (nat_lit 1)), .int (.negSucc (nat_lit 1)), .int (.negSucc (nat_lit 1)), .int (.negSucc (nat_lit 1)), .int (.negSucc (nat_lit 1))]), ((nat_lit 232), .list [.int (.ofNat (nat_lit 10)), .int (.ofNat (nat_lit 41)), .int (.ofNat (nat_lit 227)), .int (.ofNat (nat_lit 232)), .int (.ofNat (nat_lit 233)), .int (.ofNat (nat_lit 238)), .int (.ofNat (nat_lit 239)), .int (.ofNat (nat_lit 256)), .int (.ofNat (nat_lit 268)), .int (.ofNat (nat_lit 269)), .int (.ofNat (nat_lit 274)), .int (.ofNat (nat_lit 275))]), ((nat_lit 234), .list [.int (.ofNat (nat_lit 226)), .int (.ofNat (nat_lit 245)), .int (.ofNat (nat_lit 250)), .int (.ofNat (nat_lit 257)), .int (.ofNat (nat_lit 281)), .int (.ofNat (nat_lit 286))])]
noncomputable def KF0 : List (Nat × AO) := [((nat_lit 3), .cells), ((nat_lit 4), .inst (nat_lit 9) [((nat_lit 14), .int (.ofNat (nat_lit 2))), ((nat_lit 13), .int (.ofNat (nat_lit 3))), ((nat_lit 12), .int (.ofNat (nat_lit 6))), ((nat_lit 11), .int (.ofNat (nat_lit 63))), ((nat_lit 10), .bool false), ((nat_lit 9), .bool false), ((nat_lit 8), .ref (nat_lit 6)), ((nat_lit 7), .ref (nat_lit 7)), ((nat_lit 6), .ref (nat_lit 8)), ((nat_lit 5), .ref (nat_lit 19)), ((nat_lit 4), .ref (nat_lit 10)), ((nat_lit 3), .ref (nat_lit 13)), ((nat_lit 2), .ref (nat_lit 14)), ((nat_lit 1), .ref (nat_lit 52))]), ((nat_lit 6), .list [.int (.ofNat (nat_lit 21)), .int (.ofNat (nat_lit 42))]), ((nat_lit 7), .list [.int (.ofNat (nat_lit 3)), .int (.ofNat (nat_lit 12)), .int (.ofNat (nat_lit 48))]), ((nat_lit 8), .list [.ref (nat_lit 22), .ref (nat_lit 26), .ref (nat_lit 30), .ref (nat_lit 33), .ref (nat_lit 36), .ref (nat_lit 40), .ref (nat_lit 43), .ref (nat_lit 46)]), ((nat_lit 10), .list [.int (.ofNat (nat_lit 32)), .int (.ofNat (nat_lit 16)), .int (.ofNat (nat_lit 0)), .int (.ofNat (nat_lit 0)), .int (.ofNat (nat_lit 2)), .int (.ofNat (nat_lit 1))]), ((nat_lit 11), .list [.int (.ofNat (nat_lit 8)), .int (.ofNat (nat_lit 4)), .int (.ofNat (nat_lit 32)), .int (.ofNat (nat_lit 16)), .int (.ofNat (nat_lit 0)), .int (.ofNat (nat_lit 0))]), ((nat_lit 12), .list [.int (.ofNat (nat_lit 0)), .int (.ofNat (nat_lit 0)), .int (.ofNat (nat_lit 2)), .int (.ofNat (nat_lit 1)), .int (.ofNat (nat_lit 8)), .int (.ofNat (nat_lit 4))]), ((nat_lit 13), .list [.ref (nat_lit 11), .ref (nat_lit 12)]), ((nat_lit 14), .list [.non, .non, .non, .non]), ((nat_lit 19), .list [.int (.ofNat (nat_lit 14)), .int (.ofNat (nat_lit 13)), .int (.ofNat (nat_lit 59)), .int (.ofNat (nat_lit 55)), .int (.ofNat (nat_lit 44)), .int (.ofNat (nat_lit 28))]), ((nat_lit 22), .list [.int (.ofNat (nat_lit 20)), .int (.ofNat (nat_lit 40)), .int (.ofNat (nat_lit 16)), .int (.ofNat (nat_lit 32)), .int (.ofNat (nat_lit 0)), .int (.ofNat (nat_lit 0))]), ((nat_lit 26), .list [.int (.ofNat (nat_lit 2)), .int (.ofNat (nat_lit 0)), .int (.ofNat (nat_lit 8)), .int (.ofNat (nat_lit 0)), .int (.ofNat (nat_lit 32)), .int (.ofNat (nat_lit 0))]), ((nat_lit 30), .list [.int (.ofNat (nat_lit 0)), .int (.ofNat (nat_lit 0)), .int (.ofNat (nat_lit 1)), .int (.ofNat (nat_lit 2)), .int (.ofNat (nat_lit 5)), .int (.ofNat (nat_lit 10))]), ((nat_lit 33), .list [.int (.ofNat (nat_lit 0)), .int (.ofNat (nat_lit 1)), .int (.ofNat (nat_lit 0)), .int (.ofNat (nat_lit 4)), .int (.ofNat (nat_lit 0)), .int (.ofNat (nat_lit 16))]), ((nat_lit 36), .list [.int (.ofNat (nat_lit 8)), .int (.ofNat (nat_lit 0)), .int (.ofNat (nat_lit 32)), .int (.ofNat (nat_lit 0)), .int (.ofNat (nat_lit 0)), .int (.ofNat (nat_lit 0))]), ((nat_lit 40), .list [.int (.ofNat (nat_lit 0)), .int (.ofNat (nat_lit 0)), .int (.ofNat (nat_lit 2)), .int (.ofNat (nat_lit 0)), .int (.ofNat (nat_lit 8)), .int (.ofNat (nat_lit 0))]), ((nat_lit 43), .list [.int (.ofNat (nat_lit 0)), .int (.ofNat (nat_lit 0)), .int (.ofNat (nat_lit 0)), .int (.ofNat (nat_lit 1)), .int (.ofNat (nat_lit 0)), .int (.ofNat (nat_lit 4))]), ((nat_lit 46), .list [.int (.ofNat (nat_lit 0)), .int (.ofNat (nat_lit 4)), .int (.ofNat (nat_lit 0)), .int (.ofNat (nat_lit 16)), .int (.ofNat (nat_lit 0)), .int (.ofNat (nat_lit 0))]), ((nat_lit 52), .list [.int (.ofNat (nat_lit 0)), .int (.ofNat (nat_lit 0)), .int (.ofNat (nat_lit 0)), .int (.ofNat (nat_lit 0)), .int (.ofNat (nat_lit 0)), .int (.ofNat (nat_lit 0))]), ((nat_lit 234), .list [.int (.ofNat (nat_lit 226)), .int (.ofNat (nat_lit 245)), .int (.ofNat (nat_lit 250)), .int (.ofNat (nat_lit 257)), .int (.ofNat (nat_lit 281)), .int (.ofNat (nat_lit 286))])]
noncomputable def KP1 : List (Nat × AO) := [((nat_lit 0), .cell (.ref (nat_lit 56))), ((nat_lit 1), .cell .unb), ((nat_lit 2), .cell .unb), ((nat_lit 3), .cells), ((nat_lit 4), .inst (nat_lit 9) [((nat_lit 14), .int (.ofNat (nat_lit 2))), ((nat_lit 13), .int (.ofNat (nat_lit 3))), ((nat_lit 12), .int (.ofNat (nat_lit 6))), ((nat_lit 11), .int (.ofNat (nat_lit 63))), ((nat_lit 10), .bool false), ((nat_lit 9), .bool false), ((nat_lit 8), .ref (nat_lit 6)), ((nat_lit 7), .ref (nat_lit 7)), ((nat_lit 6), .ref (nat_lit 8)), ((nat_lit 5), .ref (nat_lit 19)), ((nat_lit 4), .ref (nat_lit 10)), ((nat_lit 3), .ref (nat_lit 13)), ((nat_lit 2), .ref (nat_lit 14)), ((nat_lit 1), .ref (nat_lit 52))]), ((nat_lit 6), .list [.int (.ofNat (nat_lit 21)), .int (.ofNat (nat_lit 42))]), ((nat_lit 7), .list [.int (.ofNat (nat_lit 3)), .int (.ofNat (nat_lit 12)), .int (.ofNat (nat_lit 48))]), ((nat_lit 8), .list [.ref (nat_lit 22), .ref (nat_lit 26), .ref (nat_lit 30), .ref (nat_lit 33), .ref (nat_lit 36), .ref (nat_lit 40), .ref (nat_lit 43), .ref (nat_lit 46)]), ((nat_lit 10), .list [.int (.ofNat (nat_lit 32)), .int (.ofNat (nat_lit 16)), .int (.ofNat (nat_lit 0)), .int (.ofNat (nat_lit 0)), .int (.ofNat (nat_lit 2)), .int (.ofNat (nat_lit 1))]), ((nat_lit 11), .list [.int (.ofNat (nat_lit 8)), .int (.ofNat (nat_lit 4)), .int (.ofNat (nat_lit 32)), .int (.ofNat (nat_lit 16)), .int (.ofNat (nat_lit 0)), .int (.ofNat (nat_lit 0))]), ((nat_lit 12), .list [.int (.ofNat (nat_lit 0)), .int (.ofNat (nat_lit 0)), .int (.ofNat (nat_lit 2)), .int (.ofNat (nat_lit 1)), .int (.ofNat (nat_lit 8)), .int (.ofNat (nat_lit 4))]), ((nat_lit 13), .list [.ref (nat_lit 11), .ref (nat_lit 12)]), ((nat_lit 14), .list [.non, .non, .non, .non]), ((nat_lit 19), .list [.int (.ofNat (nat_lit 14)), .int (.ofNat (nat_lit 13)), .int (.ofNat (nat_lit 59)), .int (.ofNat (nat_lit 55)), .int (.ofNat (nat_lit 44)), .int (.ofNat (nat_lit 28))]), ((nat_lit 22), .list [.int (.ofNat (nat_lit 20)), .int (.ofNat (nat_lit 40)), .int (.ofNat (nat_lit 16)), .int (.ofNat (nat_lit 32)), .int (.ofNat (nat_lit 0)), .int (.ofNat (nat_lit 0))]), ((nat_lit 26), .list [.int (.ofNat (nat_lit 2)), .int (.ofNat (nat_lit 0)), .int (.ofNat (nat_lit 8)), .int (.ofNat (nat_lit 0)), .int (.ofNat (nat_lit 32)), .int (.ofNat (nat_lit 0))]), ((nat_lit 30), .list [.int (.ofNat (nat_lit 0)), .int (.ofNat (nat_lit 0)), .int (.ofNat (nat_lit 1)), .int (.ofNat (nat_lit 2)), .int (.ofNat (nat_lit 5)), .int (.ofNat (nat_lit 10))]), ((nat_lit 33), .list [.int (.ofNat (nat_lit 0)), .int (.ofNat (nat_lit 1)), .int (.ofNat (nat_lit 0)), .int (.ofNat (nat_lit 4)), .int (.ofNat (nat_lit 0)), .int (.ofNat (nat_lit 16))]), ((nat_lit 36), .list [.int (.ofNat (nat_lit 8)), .int (.ofNat (nat_lit 0)), .int (.ofNat (nat_lit 32)), .int (.ofNat (nat_lit 0)), .int (.ofNat (nat_lit 0)), .int (.ofNat (nat_lit 0))]), ((nat_lit 40), .list [.int (.ofNat (nat_lit 0)), .int (.ofNat (nat_lit 0)), .int (.ofNat (nat_lit 2)), .int (.ofNat (nat_lit 0)), .int (.ofNat (nat_lit 8)), .int (.ofNat (nat_lit 0))]), ((nat_lit 43), .list [.int (.ofNat (nat_lit 0)), .int (.ofNat (nat_lit 0)), .int (.ofNat (nat_lit 0)), .int (.ofNat (nat_lit 1)), .int (.ofNat (nat_lit 0)), .int (.ofNat (nat_lit 4))]), ((nat_lit 46), .list [.int (.ofNat (nat_lit 0)), .int (.ofNat (nat_lit 4)), .int (.ofNat (nat_lit 0)), .int (.ofNat (nat_lit 16)), .int (.ofNat (nat_lit 0)), .int (.ofNat (nat_lit 0))]), ((nat_lit 52), .list [.int (.ofNat (nat_lit 0)), .int (.ofNat (nat_lit 0)), .int (.ofNat (nat_lit 0)), .int (.ofNat (nat_lit 0)), .int (.ofNat (nat_lit 0)), .int (.ofNat (nat_lit 0))]), ((nat_lit 56), .list [.int (.negSucc (nat_lit 1)), .int (.negSucc (nat_lit 1)), .int (.negSucc (nat_lit 1)), .int (.negSucc (nat_lit 1)), .int (.negSucc (nat_lit 1)), .int (.negSucc (nat_lit 1)), .int (.negSucc (nat_lit 1)), .int (.negSucc (nat_lit 1)), .int (.negSucc (nat_lit 1)), .int (.negSucc (nat_lit 1)), .int (.negSucc (nat_lit 1)), .int (.negSucc (nat_lit 1)), .int (.negSucc (nat_lit 1)), .int (.negSucc (nat_lit 1)), .int (.negSucc (nat_lit 1)), .int (.negSucc (nat_lit 1)), .int (.negSucc (nat_lit 1)), .int (.negSucc (nat_lit 1)), .int (.negSucc (nat_lit 1)), .int (.negSucc (nat_lit 1)), .int (.negSucc (nat_lit 1)), .int (.negSucc (nat_lit 1)), .int (.negSucc (nat_lit 1)), .int (.negSucc (nat_lit 1)), .int (.negSucc (nat_lit 1)), .int (.negSucc (nat_lit 1)), .int (.negSucc (nat_lit 1)), .int (.negSucc (nat_lit 1)), .int (.negSucc (nat_lit 1)), .int (.negSucc (nat_lit 1)), .int (.negSucc (nat_lit 1)), .int (.negSucc (nat_lit 1)), .int (.negSucc (nat_lit 1)), .int (.negSucc (nat_lit 1)), .int (.negSucc (nat_lit 1)), .int (.negSucc (nat_lit 1)), .int (.negSucc (nat_lit 1)), .int (.negSucc (nat_lit 1)), .int (.negSucc (nat_lit 1)), .int (.negSucc (nat_lit 1)), .int (.negSucc (nat_lit 1)), .int (.negSucc (nat_lit 1)), .int (.negSucc (nat_lit 1)), .int (.negSucc (nat_lit 1)), .int (.negSucc (nat_lit 1)), .int (.negSucc (nat_lit 1)), .int (.negSucc (nat_lit 1)), .int (.negSucc (nat_lit 1)), .int (.negSucc (nat_lit 1)), .int (.negSucc (nat_lit 1)), .int (.negSucc (nat_lit 1)), .int (.negSucc (nat_lit 1)), .int (.negSucc (nat_lit 1)), .int (.negSucc (nat_lit 1)), .int (.negSucc (nat_lit 1)), .int (.negSucc (nat_lit 1)), .int (.negSucc (nat_lit 1)), .int (.negSucc (nat_lit 1)), .int (.negSucc (nat_lit 1)), .int (.negSucc (nat_lit 1)), .int (.negSucc (nat_lit 1)), .int (.negSucc (nat_lit 1)), .int (.negSucc (nat_lit 1)), .int (.negSucc (nat_lit 1)), .int (.negSucc (nat_lit 1)), .int (.negSucc (nat_lit 1)), .int (.negSucc (nat_lit 1)), .int (.negSucc (nat_lit 1)), .int (.negSucc (nat_lit 1)), .int (.negSucc (nat_lit 1)), .int (.negSucc (nat_lit 1)), .int (.negSucc (nat_lit 1)), .int (.negSucc (nat_lit 1)), .int (.negSucc (nat_lit 1)), .int (.negSucc (nat_lit 1)), .int (.negSucc (nat_lit 1)), .int (.negSucc (nat_lit 1)), .int (.negSucc (nat_lit 1)), .int (.negSucc (nat_lit 1)), .int (.negSucc (nat_lit 1)), .int (.negSucc (nat_lit 1)), .int (.negSucc (nat_lit 1)), .int (.negSucc (nat_lit 1)), .int (.negSucc (nat_lit 1)), .int (.negSucc (nat_lit 1)), .int (.negSucc (nat_lit 1)), .int (.negSucc (nat_lit 1)), .int (.negSucc (nat_lit 1)), .int (.negSucc (nat_lit 1)), .int (.negSucc (nat_lit 1)), .int (.negSucc (nat_lit 1)), .int (.negSucc (nat_lit 1)), .int (.negSucc (nat_lit 1)), .int (.negSucc (nat_lit 1)), .int (.negSucc (nat_lit 1)), .int (.negSucc (nat_lit 1)), .int (.negSucc (nat_lit 1)), .int (.negSucc (nat_lit 1)), .int (.negSucc (nat_lit 1)), .int (.negSucc (nat_lit 1)), .int (.negSucc (nat_lit 1)), .int (.negSucc (nat_lit 1)), .int (.negSucc (nat_lit 1)), .int (.negSucc (nat_lit 1)), .int (.negSucc (nat_lit 1)), .int (.negSucc (nat_lit 1)), .int (.negSucc (nat_lit 1)), .int (.negSucc (nat_lit 1)), .int (.negSucc (nat_lit 1)), .int (.negSucc (nat_lit 1)), .int (.negSucc (nat_lit 1)), .int (.negSucc (nat_lit 1)), .int (.negSucc (nat_lit 1)), .int (.negSucc (nat_lit 1)), .int (.negSucc (nat_lit 1)), .int (.negSucc (nat_lit 1)), .int (.negSucc (nat_lit 1)), .int (.negSucc (nat_lit 1)), .int (.negSucc (nat_lit 1)), .int (.negSucc (nat_lit 1)), .int (.negSucc (nat_lit 1)), .int (.negSucc (nat_lit 1)), .int (.negSucc (nat_lit 1)), .int (.negSucc (nat_lit 1)), .int (.negSucc (nat_lit 1)), .int (.negSucc (nat_lit 1)), .int (.negSucc (nat_lit 1)), .int (.negSucc (nat_lit 1)), .int (.negSucc (nat_lit 1)), .int (.negSucc (nat_lit 1)), .int (.negSucc (nat_lit 1)), .int (.negSucc (nat_lit 1)), .int (.negSucc (nat_lit 1)), .int (.negSucc (nat_lit 1)), .int (.negSucc (nat_lit 1)), .int (.negSucc (nat_lit 1)), .int (.negSucc (nat_lit 1)), .int (.negSucc (nat_lit 1)), .int (.negSucc (nat_lit 1)), .int (.negSucc (nat_lit 1)), .int (.negSucc (nat_lit 1)), .int (.negSucc (nat_lit 1)), .int (.negSucc (nat_lit 1)), .int (.negSucc (nat_lit 1)), .int (.negSucc (nat_lit 1)), .int (.negSucc (nat_lit 1)), .int (.negSucc (nat_lit 1)), .int (.negSucc (nat_lit 1)), .int (.negSucc (nat_lit 1)), .int (.negSucc (nat_lit 1)), .int (.negSucc (nat_lit 1)), .int (.negSucc (nat_lit 1)), .int (.negSucc (nat_lit 1)), .int (.negSucc (nat_lit 1)), .int (.negSucc (nat_lit 1)), .int (.negSucc (nat_lit 1)), .int (.negSucc (nat_lit 1)), .int (.negSucc (nat_lit 1)), .int (.negSucc (nat_lit 1)), .int (.negSucc (nat_lit 1)), .int (.negSucc (nat_lit 1)), .int (.negSucc (nat_lit 1)), .int (.negSucc (nat_lit 1)), .int (.negSucc (nat_lit 1)), .int (.negSucc (nat_lit 1)), .int (.negSucc (nat_lit 1)), .int (.negSucc (nat_lit 1)), .int (.negSucc (nat_lit 1)), .int (.negSucc (nat_lit 1)), .int (.negSucc (nat_lit 1)), .int (.negSucc (nat_lit 1)), .int (.negSucc (nat_lit 1)), .int (.negSucc (nat_lit 1)), .int (.negSucc (nat_lit 1)), .int (.ofNat (nat_lit 1)), .int (.negSucc (nat_lit 1)), .int (.negSucc (nat_lit 1)), .int (.negSucc (nat_lit 1)), .int (.negSucc (nat_lit 1)), .int (.negSucc (nat_lit 1)), .int (.negSucc (nat_lit 1)), .int (.negSucc (nat_lit 1)), .int (.negSucc (nat_lit 1)), .int (.negSucc (nat_lit 1)), .int (.negSucc (nat_lit 1)), .int (.negSucc (nat_lit 1)), .int (.negSucc (nat_lit 1)), .int (.negSucc (nat_lit 1)), .int (.negSucc (nat_lit 1)), .int (.negSucc (nat_lit 1)), .int (.negSucc (nat_lit 1)), .int (.negSucc (nat_lit 1)), .int (.negSucc (nat_lit 1)), .int (.negSucc (nat_lit 1)), .int (.negSucc (nat_lit 1)), .int (.negSucc (nat_lit 1)), .int (.negSucc (nat_lit 1)), .int (.negSucc (nat_lit 1)), .int (.negSucc (nat_lit 1)), .int (.negSucc (nat_lit 1)), .int (.negSucc (nat_lit 1)), .int (.negSucc (nat_lit 1)), .int (.negSucc (nat_lit 1)), .int (.negSucc (nat_lit 1)), .int (.negSucc (nat_lit 1)), .int (.ofNat (nat_lit 1)), .int (.negSucc (nat_lit 1)), .int (.negSucc (nat_lit 1)), .int (.negSucc (nat_lit 1)), .int (.negSucc (nat_lit 1)), .int (.negSucc (nat_lit 1)), .int (.negSucc (nat_lit 1)), .int (.negSucc (nat_lit 1)), .int (.negSucc (nat_lit 1)), .int (.negSucc (nat_lit 1)), .int (.negSucc (nat_lit 1)), .int (.negSucc (nat_lit 1)), .int (.negSucc (nat_lit 1)), .int (.negSucc (nat_lit 1)), .int (.negSucc (nat_lit 1)), .int (.negSucc (nat_lit 1)), .int (.negSucc (nat_lit 1)), .int (.negSucc (nat_lit 1)), .int (.negSucc (nat_lit 1)), .int (.negSucc (nat_lit 1)), .int (.negSucc (nat_lit 1)), .int (.negSucc (nat_lit 1)), .int (.negSucc (nat_lit 1)), .int (.negSucc (nat_lit 1)), .int (.negSucc (nat_lit 1)), .int (.negSucc (nat_lit 1)), .int (.negSucc (nat_lit 1)), .int (.negSucc (nat_lit 1)), .int (.negSucc (nat_lit 1)), .int (.negSucc (nat_lit 1)), .int (.negSucc (nat_lit 1)), .int (.negSucc (nat_lit 1)), .int (.negSucc (nat_lit 1)), .int (.negSucc (nat_lit 1)), .int (.negSucc (nat_lit 1)), .int (.negSucc (nat_lit 1)), .int (.negSucc (nat_lit 1)), .int (.negSucc (nat_lit 1)), .int (.negSucc (nat_lit 1)), .int (.negSucc (nat_lit 1)), .int (.negSucc (nat_lit 1)), .int (.negSucc (nat_lit 1)), .int (.negSucc (nat_lit 1)), .int (.negSucc (nat_lit 1)), .int (.negSucc (nat_lit 1)), .int (.negSucc (nat_lit 1)), .int (.negSucc (nat_lit 1)), .int (.negSucc (nat_lit 1)), .int (.negSucc (nat_lit 1)), .int (.negSucc (nat_lit 1)), .int (.negSucc (nat_lit 1)), .int (.negSucc (nat_lit 1)), .int (.negSucc (nat_lit 1)), .int (.negSucc (nat_lit 1)), .int (.negSucc (nat_lit 1)), .int (.negSucc (nat_lit 1)), .int (.negSucc (nat_lit 1)), .int (.negSucc (nat_lit 1)), .int (.negSucc (nat_lit 1)), .int (.negSucc (nat_lit 1)), .int (.negSucc (nat_lit 1)), .int (.negSucc (nat_lit 1)), .int (.negSucc (nat_lit 1)), .int (.negSucc (nat_lit 1)), .int (.negSucc (nat_lit 1)), .int (.negSucc (nat_lit 1)), .int (.negSucc (nat_lit 1)), .int (.negSucc (nat_lit 1)), .int (.negSucc (nat_lit 1)), .int (.negSucc (nat_lit 1)), .int (.negSucc (nat_lit 1)), .int (.negSucc (nat_lit 1)), .int (.negSucc (nat_lit 1)), .int (.negSucc (nat_lit 1)), .int (.negSucc (nat_lit 1)), .int (.negSucc (nat_lit 1)), .int (.negSucc (nat_lit 1)), .int (.negSucc (nat_lit 1)), .int (.negSucc (nat_lit 1)), .int (.negSucc (nat_lit 1)), .int (.negSucc (nat_lit 1)), .int (.negSucc (nat_lit 1)), .int (.negSucc (nat_lit 1)), .int (.negSucc (nat_lit 1)), .int (.negSucc (nat_lit 1)), .int (.negSucc (nat_lit 1)), .int (.negSucc (nat_lit 1)), .int (.negSucc (nat_lit 1)), .int (.negSucc (nat_lit 1)), .int (.negSucc (nat_lit 1)), .int (.negSucc (nat_lit 1)), .int (.negSucc (nat_lit 1)), .int (.negSucc (nat_lit 1)), .int (.negSucc (nat_lit 1)), .int (.negSucc (nat_lit 1)), .int (.negSucc (nat_lit 1)), .int (.negSucc (nat_lit 1)), .int (.negSucc (nat_lit 1)), .int (.negSucc (nat_lit 1)), .int (.negSucc (nat_lit 1)), .int (.negSucc (nat_lit 1)), .int (.negSucc (nat_lit 1)), .int (.negSucc (nat_lit 1)), .int (.negSucc (nat_lit 1)), .int (.negSucc (nat_lit 1)), .int (.negSucc (nat_lit 1)), .int (.negSucc (nat_lit 1)), .int (.negSucc (nat_lit 1)), .int (.negSucc (nat_lit 1)), .int (.negSucc (nat_lit 1)), .int (.negSucc (nat_lit 1)), .int (.negSucc (nat_lit 1)), .int (.negSucc (nat_lit 1)), .int (.negSucc (nat_lit 1)), .int (.negSucc (nat_lit 1)), .int (.negSucc (nat_lit 1)), .int (.negSucc (nat_lit 1)), .int (.negSucc (nat_lit 1)), .int (.negSucc (nat_lit 1)), .int (.negSucc (nat_lit 1)), .int (.negSucc (nat_lit 1)), .int (.negSucc (nat_lit 1)), .int (.negSucc (nat_lit 1)), .int (.negSucc (nat_lit 1)), .int (.negSucc (nat_lit 1)), .int (.negSucc (nat_lit 1)), .int (.negSucc (nat_lit 1)), .int (.negSucc (nat_lit 1)), .int (.negSucc (nat_lit 1)), .int (.negSucc (nat_lit 1)), .int (.negSucc (nat_lit 1)), .int (.negSucc (nat_lit 1)), .int (.negSucc (nat_lit 1)), .int (.negSucc (nat_lit 1)), .int (.negSucc (nat_lit 1)), .int (.negSucc (nat_lit 1)), .int (.negSucc (nat_lit 1)), .int (.negSucc (nat_lit 1)), .int (.negSucc (nat_lit 1)), .int (.negSucc (nat_lit 1)), .int (.negSucc (nat_lit 1)), .int (.negSucc (nat_lit 1)), .int (.negSucc (nat_lit 1)), .int (.negSucc (nat_lit 1)), .int (.negSucc (nat_lit 1)), .int (.negSucc (nat_lit 1)), .int (.negSucc (nat_lit 1)), .int (.negSucc (nat_lit 1)), .int (.negSucc (nat_lit 1)), .int (.negSucc (nat_lit 1)), .int (.negSucc (nat_lit 1)), .int (.negSucc (nat_lit 1)), .int (.negSucc (nat_lit 1)), .int (.negSucc (nat_lit 1)), .int (.negSucc (nat_lit 1)), .int (.negSucc (nat_lit 1)), .int (.negSucc (nat_lit 0)), .int (.negSucc (nat_lit 1)), .int (.negSucc (nat_lit 1)), .int (.negSucc (nat_lit 1)), .int (.negSucc (nat_lit 1)), .int (.negSucc (nat_lit 0)), .int (.negSucc (nat_lit 1)), .int (.negSucc (nat_lit 1)), .int (.negSucc (nat_lit 1)), .int (.negSucc (nat_lit 1)), .int (.negSucc (nat_lit 1)), .int (.ofNat (nat_lit 0)), .int (.ofNat (nat_lit 0)), .int (.negSucc (nat_lit 1)), .int (.negSucc (nat_lit 1)), .int (.negSucc (nat_lit 1)), .int (.negSucc (nat_lit 1)), .int (.ofNat (nat_lit 0)), .int (.ofNat (nat_lit 0)), .int (.negSucc (nat_lit 1)), .int (.negSucc (nat_lit 1)), .int (.negSucc (nat_lit 1)), .int (.negSucc (nat_lit 1)), .int (.negSucc (nat_lit 1)), .int (.negSucc (nat_lit 1)), .int (.negSucc (nat_lit 1)), .int (.negSucc (nat_lit 1)), .int (.negSucc (nat_lit 1)), .int (.negSucc (nat_lit 1)), .int (.negSucc (nat_lit 0)), .int (.ofNat (nat_lit 2)), .int (.negSucc (nat_lit 1)), .int (.negSucc (nat_lit 1)), .int (.negSucc (nat_lit 1)), .int (.negSucc (nat_lit 1)), .int (.negSucc (nat_lit 1)), .int (.negSucc (nat_lit 0)), .int (.negSucc (nat_lit 1)), .int (.negSucc (nat_lit 1)), .int (.negSucc (nat_lit 1)), .int (.negSucc (nat_lit 1)), .int (.negSucc (nat_lit 0)), .int (.negSucc (nat_lit 1)), .int (.negSucc (nat_lit 1)), .int (.negSucc (nat_lit 1)), .int (.negSucc (nat_lit 1)), .int (.negSucc (nat_lit 1)), .int (.ofNat (nat_lit 0)), .int (.ofNat (nat_lit 0)), .int (.negSucc (nat_lit 1)), .int (.negSucc (nat_lit 1)), .int (.negSucc (nat_lit 1)), .int (.negSucc (nat_lit 1)), .int (.ofNat (nat_lit 0)), .int (.ofNat (nat_lit 0)), .int (.negSucc (nat_lit 1)), .int (.negSucc (nat_lit 1)), .int (.negSucc (nat_lit 1)), .int (.negSucc (nat_lit 1)), .int (.ofNat (nat_lit 2)), .int (.negSucc (nat_lit 0)), .int (.negSucc (nat_lit 1)), .int (.negSucc (nat_lit 1)), .int (.negSucc (nat_lit 1)), .int (.negSucc (nat_lit 1)), .int (.negSucc (nat_lit 1)), .int (.negSucc (nat_lit 1)), .int (.negSucc (nat_lit 1)), .int (.negSucc (nat_lit 1)), .int (.negSucc (nat_lit 1)), .int (.negSucc (nat_lit 1))]), ((nat_lit 232), .list [.int (.ofNat (nat_lit 174)), .int (.ofNat (nat_lit 205)), .int (.ofNat (nat_lit 372)), .int (.ofNat (nat_lit 373)), .int (.ofNat (nat_lit 378)), .int (.ofNat (nat_lit 379)), .int (.ofNat (nat_lit 391)), .int (.ofNat (nat_lit 408)), .int (.ofNat (nat_lit 409)), .int (.ofNat (nat_lit 414)), .int (.ofNat (nat_lit 415)), .int (.ofNat (nat_lit 420))]), ((nat_lit 234), .list [.int (.ofNat (nat_lit 361)), .int (.ofNat (nat_lit 366)), .int (.ofNat (nat_lit 390)), .int (.ofNat (nat_lit 397)), .int (.ofNat (nat_lit 402)), .int (.ofNat (nat_lit 421))])]
noncomputable def KF1 : List (Nat × AO) := [((nat_lit 3), .cells), ((nat_lit 4), .inst (nat_lit 9) [((nat_lit 14), .int (.ofNat (nat_lit 2))), ((nat_lit 13), .int (.ofNat (nat_lit 3))), ((nat_lit 12), .int (.ofNat (nat_lit 6))), ((nat_lit 11), .int (.ofNat (nat_lit 63))), ((nat_lit 10), .bool false), ((nat_lit 9), .bool false), ((nat_lit 8), .ref (nat_lit 6)), ((nat_lit 7), .ref (nat_lit 7)), ((nat_lit 6), .ref (nat_lit 8)), ((nat_lit 5), .ref (nat_lit 19)), ((nat_lit 4), .ref (nat_lit 10)), ((nat_lit 3), .ref (nat_lit 13)), ((nat_lit 2), .ref (nat_lit 14)), ((nat_lit 1), .ref (nat_lit 52))]), ((nat_lit 6), .list [.int (.ofNat (nat_lit 21)), .int (.ofNat (nat_lit 42))]), ((nat_lit 7), .list [.int (.ofNat (nat_lit 3)), .int (.ofNat (nat_lit 12)), .int (.ofNat (nat_lit 48))]), ((nat_lit 8), .list [.ref (nat_lit 22), .ref (nat_lit 26), .ref (nat_lit 30), .ref (nat_lit 33), .ref (nat_lit 36), .ref (nat_lit 40), .ref (nat_lit 43), .ref (nat_lit 46)]), ((nat_lit 10), .list [.int (.ofNat (nat_lit 32)), .int (.ofNat (nat_lit 16)), .int (.ofNat (nat_lit 0)), .int (.ofNat (nat_lit 0)), .int (.ofNat (nat_lit 2)), .int (.ofNat (nat_lit 1))]), ((nat_lit 11), .list [.int (.ofNat (nat_lit 8)), .int (.ofNat (nat_lit 4)), .int (.ofNat (nat_lit 32)), .int (.ofNat (nat_lit 16)), .int (.ofNat (nat_lit 0)), .int (.ofNat (nat_lit 0))]), ((nat_lit 12), .list [.int (.ofNat (nat_lit 0)), .int (.ofNat (nat_lit 0)), .int (.ofNat (nat_lit 2)), .int (.ofNat (nat_lit 1)), .int (.ofNat (nat_lit 8)), .int (.ofNat (nat_lit 4))]), ((nat_lit 13), .list [.ref (nat_lit 11), .ref (nat_lit 12)]), ((nat_lit 14), .list [.non, .non, .non, .non]), ((nat_lit 19), .list [.int (.ofNat (nat_lit 14)), .int (.ofNat (nat_lit 13)), .int (.ofNat (nat_lit 59)), .int (.ofNat (nat_lit 55)), .int (.ofNat (nat_lit 44)), .int (.ofNat (nat_lit 28))]), ((nat_lit 22), .list [.int (.ofNat (nat_lit 20)), .int (.ofNat (nat_lit 40)), .int (.ofNat (nat_lit 16)), .int (.ofNat (nat_lit 32)), .int (.ofNat (nat_lit 0)), .int (.ofNat (nat_lit 0))]), ((nat_lit 26), .list [.int (.ofNat (nat_lit 2)), .int (.ofNat (nat_lit 0)), .int (.ofNat (nat_lit 8)), .int (.ofNat (nat_lit 0)), .int (.ofNat (nat_lit 32)), .int (.ofNat (nat_lit 0))]), ((nat_lit 30), .list [.int (.ofNat (nat_lit 0)), .int (.ofNat (nat_lit 0)), .int (.ofNat (nat_lit 1)), .int (.ofNat (nat_lit 2)), .int (.ofNat (nat_lit 5)), .int (.ofNat (nat_lit 10))]), ((nat_lit 33), .list [.int (.ofNat (nat_lit 0)), .int (.ofNat (nat_lit 1)), .int (.ofNat (nat_lit 0)), .int (.ofNat (nat_lit 4)), .int (.ofNat (nat_lit 0)), .int (.ofNat (nat_lit 16))]), ((nat_lit 36), .list [.int (.ofNat (nat_lit 8)), .int (.ofNat (nat_lit 0)), .int (.ofNat (nat_lit 32)), .int (.ofNat (nat_lit 0)), .int (.ofNat (nat_lit 0)), .int (.ofNat (nat_lit 0))]), ((nat_lit 40), .list [.int (.ofNat (nat_lit 0)), .int (.ofNat (nat_lit 0)), .int (.ofNat (nat_lit 2)), .int (.ofNat (nat_lit 0)), .int (.ofNat (nat_lit 8)), .int (.ofNat (nat_lit 0))]), ((nat_lit 43), .list [.int (.ofNat (nat_lit 0)), .int (.ofNat (nat_lit 0)), .int (.ofNat (nat_lit 0)), .int (.ofNat (nat_lit 1)), .int (.ofNat (nat_lit 0)), .int (.ofNat (nat_lit 4))]), ((nat_lit 46), .list [.int (.ofNat (nat_lit 0)), .int (.ofNat (nat_lit 4)), .int (.ofNat (nat_lit 0)), .int (.ofNat (nat_lit 16)), .int (.ofNat (nat_lit 0)), .int (.ofNat (nat_lit 0))]), ((nat_lit 52), .list [.int (.ofNat (nat_lit 0)), .int (.ofNat (nat_lit 0)), .int (.ofNat (nat_lit 0)), .int (.ofNat (nat_lit 0)), .int (.ofNat (nat_lit 0)), .int (.ofNat (nat_lit 0))]), ((nat_lit 234), .list [.int (.ofNat (nat_lit 361)), .int (.ofNat (nat_lit 366)), .int (.ofNat (nat_lit 390)), .int (.ofNat (nat_lit 397)), .int (.ofNat (nat_lit 402)), .int (.ofNat (nat_lit 421))])]
noncomputable def KP (z : Nat) : List (Nat × AO) := match z with | 0 => KP0 | _ => KP1
noncomputable def KF (z : Nat) : List (Nat × AO) := match z with | 0 => KF0 | _ => KF1
noncomputable def run1 (z : Nat) : Bool := thenR (rPre z) (okS nP (KP z) ρP)
noncomputable def run2 (z e : Nat) : Bool := thenR (rMid e ρP ⟨HP (KP z), nP⟩) (okS nP (KF z) ρF)
noncomputable def run3 (z o : Nat) : Bool := isTrueR (rFin o ρF ⟨HP (KF z), nP⟩)
end Mine

end
section
open PySem PySem.W PyProof.Rows PySem.Calls PySem.SeqAt
namespace Mine
/-! forgetting: a smaller state that says less of the same heap -/
theorem beqV_eq : ∀ {x y : AV}, beqV x y = true → x = y
  | .unb, .unb, _ => rfl
  | .non, .non, _ => rfl
  | .bool true, .bool true, _ => rfl
  | .bool false, .bool false, _ => rfl
  | .int a, .int b, h => by
    have h' : ieq a b = true := h
    rw [ieq_iff] at h'
    rw [of_decide_eq_true h']
  | .ref a, .ref b, h => by rw [Nat.eq_of_beq_eq_true (show Nat.beq a b = true from h)]
theorem beqVs_eq : ∀ {x y : List AV}, beqVs x y = true → x = y
  | [], [], _ => rfl
  | a :: x, b :: y, h => by
    have h' : (match beqV a b with | true => beqVs x y | false => false) = true := h
    cases q : beqV a b with
    | false => rw [q] at h'; cases h'
    | true => rw [q] at h'; rw [beqV_eq q, beqVs_eq h']
theorem beqFs_eq : ∀ {x y : List (Nat × AV)}, beqFs x y = true → x = y
  | [], [], _ => rfl
  | (i, a) :: x, (j, b) :: y, h => by
    have h' : (match Nat.beq i j with | true => (match beqV a b with | true => beqFs x y | false => false) | false => false) = true := h
    cases q1 : Nat.beq i j with
    | false => rw [q1] at h'; cases h'
    | true =>
      rw [q1] at h'
      cases q : beqV a b with
      | false => rw [q] at h'; cases h'
      | true => rw [q] at h'; rw [beqV_eq q, beqFs_eq h', Nat.eq_of_beq_eq_true q1]
theorem beqO_eq {x y : AO} (h : beqO x y = true) : x = y := by
  cases x <;> cases y <;> first | cases h; done | skip
  · rw [beqVs_eq (show beqVs _ _ = true from h)]
  · rename_i i x j y
    have h' : (match Nat.beq i j with | true => beqFs x y | false => false) = true := h
    cases q1 : Nat.beq i j with
    | false => rw [q1] at h'; cases h'
    | true => rw [q1] at h'; rw [beqFs_eq h', Nat.eq_of_beq_eq_true q1]
  · rw [beqV_eq (show beqV _ _ = true from h)]
  · rfl
section
variable {as : List Addr} {n : Nat}
theorem get_take {k : Nat} {a : Addr} (e : as[k]? = some a) (h : k < n) : (as.take n)[k]? = some a := by rw [List.getElem?_take_of_lt h]; exact e
theorem VR.take : ∀ {x : AV} {v : Value}, VR as x v → wfV n x = true → VR (as.take n) x v
  | .unb, _, r, _ => r.elim
  | .non, _, r, _ => r
  | .bool _, _, r, _ => r
  | .int _, _, r, _ => r
  | .ref _, _, ⟨a, e, ev⟩, h => ⟨a, get_take e (Nat.le_of_ble_eq_true h), ev⟩
theorem wfVs_c {x : AV} {xs : List AV} (h : wfVs n (x :: xs) = true) : wfV n x = true ∧ wfVs n xs = true := by
  have h' : (match wfV n x with | true => wfVs n xs | false => false) = true := h
  cases q : wfV n x with
  | false => rw [q] at h'; cases h'
  | true => rw [q] at h'; exact ⟨rfl, h'⟩
theorem wfFs_c {p : Nat × AV} {xs : List (Nat × AV)} (h : wfFs n (p :: xs) = true) : wfV n p.2 = true ∧ wfFs n xs = true := by
  have h' : (match wfV n p.2 with | true => wfFs n xs | false => false) = true := h
  cases q : wfV n p.2 with
  | false => rw [q] at h'; cases h'
  | true => rw [q] at h'; exact ⟨rfl, h'⟩
theorem VRs.take : ∀ {xs : List AV} {vs : List Value}, VRs as xs vs → wfVs n xs = true → VRs (as.take n) xs vs
  | [], [], _, _ => trivial
  | _ :: _, _ :: _, ⟨a, b⟩, h => ⟨a.take (wfVs_c h).1, b.take (wfVs_c h).2⟩
  | [], _ :: _, r, _ => r.elim
  | _ :: _, [], r, _ => r.elim
theorem FRs.take : ∀ {fs : List (Nat × AV)} {es : List DictEntry}, FRs as fs es → wfFs n fs = true → FRs (as.take n) fs es
  | [], [], _, _ => trivial
  | _ :: _, _ :: _, ⟨⟨x, t, a, b, c⟩, d⟩, h => ⟨⟨x, t, a, b, c.take (wfFs_c h).1⟩, d.take (wfFs_c h).2⟩
  | [], _ :: _, r, _ => r.elim
  | _ :: _, [], r, _ => r.elim
theorem OR.take {c : Nat → Int} {cls : Nat → Addr} {h : Heap} {i : Nat} {o : AO} (r : OR c cls as h i o) (hi : i < n) (w : wfO n i o = true) : OR c cls (as.take n) h i o := by
  cases o with
  | list vs => obtain ⟨a, l, k, e, g, v⟩ := r; exact ⟨a, l, k, get_take e hi, g, v.take w⟩
  | tup vs => cases w
  | inst q fs =>
    obtain ⟨a, d, es, k, e, e2, g, g2, v⟩ := r
    have w' : (match Nat.ble (Nat.succ (Nat.succ i)) n with | true => wfFs n fs | false => false) = true := w
    cases q1 : Nat.ble (Nat.succ (Nat.succ i)) n with
    | false => rw [q1] at w'; cases w'
    | true => rw [q1] at w'; exact ⟨a, d, es, k, get_take e hi, get_take e2 (Nat.le_of_ble_eq_true q1), g, g2, v.take w'⟩
  | dict _ _ => cases w
  | range _ _ _ => cases w
  | cell v =>
    obtain ⟨a, ov, e, g, f⟩ := r
    exact ⟨a, ov, get_take e hi, g, fun hv => let ⟨w1, h1, h2⟩ := f hv; ⟨w1, h1, h2.take w⟩⟩
  | cells => obtain ⟨a, l, k, e, g, f⟩ := r; exact ⟨a, l, k, get_take e hi, g, f⟩
end
theorem keeps_at {n : Nat} {h : H} : ∀ {K : List (Nat × AO)}, keeps n K h = true → ∀ p ∈ K, h.get p.1 = some p.2 ∧ p.1 < n ∧ wfO n p.1 p.2 = true
  | [], _, p, hp => by cases hp
  | q :: K, e, p, hp => by
    have e' : (match h.get q.1 with
      | some o => (match beqO q.2 o with
        | true => (match Nat.ble (Nat.succ q.1) n with
          | true => (match wfO n q.1 q.2 with | true => keeps n K h | false => false)
          | false => false)
        | false => false)
      | none => false) = true := e
    cases q0 : h.get q.1 with
    | none => rw [q0] at e'; cases e'
    | some o =>
      rw [q0] at e'
      dsimp only at e'
      cases q1 : beqO q.2 o with
      | false => rw [q1] at e'; cases e'
      | true =>
        rw [q1] at e'
        cases q2 : Nat.ble (Nat.succ q.1) n with
        | false => rw [q2] at e'; cases e'
        | true =>
          rw [q2] at e'
          cases q3 : wfO n q.1 q.2 with
          | false => rw [q3] at e'; cases e'
          | true =>
            rw [q3] at e'
            rcases List.mem_cons.mp hp with rfl | hp
            · exact ⟨by rw [q0, beqO_eq q1], Nat.le_of_ble_eq_true q2, q3⟩
            · exact keeps_at e' p hp
theorem HP_get : ∀ {K : List (Nat × AO)} {i : Nat} {o : AO}, (∀ p ∈ K, p.1 ≤ 4001) → (HP K).get i = some o → (i, o) ∈ K
  | [], i, o, _, e => by cases e
  | p :: K, i, o, hK, e => by
    have e' : ((HP K).put p.1 p.2).get i = some o := e
    rw [H.put_get _ _ _ _ (hK p (List.mem_cons_self ..))] at e'
    by_cases q : i = p.1
    · rw [if_pos q] at e'; cases e'; rw [q]; exact List.mem_cons_self ..
    · rw [if_neg q] at e'; exact List.mem_cons_of_mem _ (HP_get (fun p hp => hK p (List.mem_cons_of_mem _ hp)) e')
theorem okS_inv {n : Nat} {K : List (Nat × AO)} {ρ' ρ : List AV} {s : St} (h : okS n K ρ' ρ s = true) : n ≤ s.n ∧ keeps n K s.h = true ∧ subR n ρ' ρ = true := by
  unfold okS at h
  cases q : Nat.ble n s.n with
  | false => rw [q] at h; cases h
  | true =>
    rw [q] at h
    cases q1 : keeps n K s.h with
    | false => rw [q1] at h; cases h
    | true => rw [q1] at h; exact ⟨Nat.le_of_ble_eq_true q, rfl, h⟩
theorem HR.forget {c : Nat → Int} {cls : Nat → Addr} {B h : Heap} {as : List Addr} {σ : St} {n : Nat} {K : List (Nat × AO)} (r : HR c cls B as σ h) (hn : n ≤ σ.n) (hk : keeps n K σ.h = true) : HR c cls B (as.take n) ⟨HP K, n⟩ h := by
  have k := keeps_at hk
  have lo : ∀ p ∈ K, p.1 ≤ 4001 := fun p hp => by have := (k p hp).2.1; have := r.lim; omega
  have g : ∀ {i o}, (HP K).get i = some o → σ.h.get i = some o ∧ i < n ∧ wfO n i o = true := fun e => k _ (HP_get lo e)
  refine ⟨?_, ?_, fun a m => r.new a (List.mem_of_mem_take m), r.keep, fun a m => r.alive a (List.mem_of_mem_take m), fun i o e => (g e).2.1, Nat.le_trans hn r.lim, fun i o e hi => ?_, fun i o e => (r.obj i o (g e).1).take (g e).2.1 (g e).2.2⟩
  · rw [List.length_take, r.len]; exact Nat.min_eq_left hn
  · exact r.nd.sublist (List.take_sublist ..)
  · obtain ⟨_, h2⟩ := r.aux i o (g e).1 hi
    refine ⟨?_, ?_⟩
    · cases o with
      | inst q fs =>
        have w' : (match Nat.ble (Nat.succ (Nat.succ i)) n with | true => wfFs n fs | false => false) = true := (g e).2.2
        cases q1 : Nat.ble (Nat.succ (Nat.succ i)) n with
        | false => rw [q1] at w'; cases w'
        | true => exact Nat.le_of_ble_eq_true q1
      | _ => cases hi
    · cases z : (HP K).get (i + 1) with
      | none => rfl
      | some o' => have := (g z).1; rw [h2] at this; cases this
theorem subR_at {n : Nat} : ∀ {l ρ : List AV}, subR n l ρ = true → ∀ i, geti l i ≠ .unb → geti l i = geti ρ i ∧ wfV n (geti l i) = true
  | [], _, _, i, h => absurd (geti_n i) h
  | x :: l, ρ, e, i, h => by
    have tl : ∀ j, geti (tailL ρ) j = geti ρ (j + 1) := fun j => by
      cases ρ with
      | nil => exact (geti_n j).trans (geti_n (j + 1)).symm
      | cons y ys => exact (geti_s y ys j).symm
    have e' : (match isU x with
      | true => subR n l (tailL ρ)
      | false => (match beqV x (geti ρ 0) with
        | true => (match wfV n x with | true => subR n l (tailL ρ) | false => false)
        | false => false)) = true := e
    cases i with
    | zero =>
      rw [geti_z] at h ⊢
      cases q : isU x with
      | true => cases x <;> first | exact absurd rfl h | cases q
      | false =>
        rw [q] at e'
        dsimp only at e'
        cases q1 : beqV x (geti ρ 0) with
        | false => rw [q1] at e'; cases e'
        | true =>
          rw [q1] at e'
          cases q2 : wfV n x with
          | false => rw [q2] at e'; cases e'
          | true => exact ⟨beqV_eq q1, rfl⟩
    | succ i =>
      rw [geti_s] at h ⊢
      have e2 : subR n l (tailL ρ) = true := by
        cases q : isU x with
        | true => rw [q] at e'; exact e'
        | false =>
          rw [q] at e'
          dsimp only at e'
          cases q1 : beqV x (geti ρ 0) with
          | false => rw [q1] at e'; cases e'
          | true =>
            rw [q1] at e'
            cases q2 : wfV n x with
            | false => rw [q2] at e'; cases e'
            | true => rw [q2] at e'; exact e'
      have := subR_at e2 i h
      rw [tl] at this
      exact this
theorem LR.forget {as : List Addr} {sc : Sc} {ρ ρ' : List AV} {m : Str → Option Value} {n : Nat} (r : LR as sc ρ m) (h : subR n ρ' ρ = true) : LR (as.take n) sc ρ' m := fun i x hi hu => by
  obtain ⟨e, w⟩ := subR_at h i hu
  rw [e] at hu
  obtain ⟨v, h1, h2⟩ := r i x hi hu
  rw [e] at w ⊢
  exact ⟨v, h1, h2.take w⟩
theorem Pre.forget {X : Cx} {k : Nat} {A : Around} {env : Env} {sc : Sc} {cl : Cl} {L : Addr} {as : List Addr} {m : Str → Option Value} {ρ ρ' : List AV} {σ : St} {h : Heap} {n : Nat} {K : List (Nat × AO)}
    (p : Pre X k A env sc cl L as m ρ σ h) (e : okS n K ρ' ρ σ = true) (hc : ∀ (q : Nat) (x : Str) (j : Nat), cl[q]? = some (x, j) → j < n) : Pre X k A env sc cl L (as.take n) m ρ' ⟨HP K, n⟩ h := by
  obtain ⟨e1, e2, e3⟩ := okS_inv e
  exact { env := { p.env with cells := fun q x j i hq hj => let ⟨a, h1, h2⟩ := p.env.cells q x j i hq hj; ⟨a, h1, get_take h2 (hc q x j hq)⟩ }
          hand := p.hand, dep := p.dep, uni := p.uni, hr := HR.forget p.hr e1 e2, ns := p.ns, nin := fun m => p.nin (List.mem_of_mem_take m), nB := p.nB, up := p.up, lr := p.lr.forget e3 }
theorem Pre.orc {prog : Program} {w : World} {B : Heap} {K : Frag} {c : Nat → Int} {cls : Nat → Addr} {mg mb : Str → Option Value} {o1 o2 : Nat → Int → Option Int} {tb : Nat → Fn} {k : Nat} {A : Around} {env : Env} {sc : Sc} {cl : Cl} {L : Addr} {as : List Addr} {m : Str → Option Value} {ρ : List AV} {σ : St} {h : Heap}
    (p : Pre ⟨prog, w, B, K, c, cls, mg, mb, o1, tb⟩ k A env sc cl L as m ρ σ h) : Pre ⟨prog, w, B, K, c, cls, mg, mb, o2, tb⟩ k A env sc cl L as m ρ σ h :=
  ⟨p.env, p.hand, p.dep, p.uni, p.hr, p.ns, p.nin, p.nB, p.up, p.lr⟩
end Mine

end
section
open PySem PySem.W PyProof.Rows PySem.Calls PySem.SeqAt
namespace Mine
theorem execs_app_eq {env : Env} : ∀ (l1 l2 : List Stmt), execs (l1 ++ l2) env = (execs l1 env >>= fun f => match f with | .next => execs l2 env | f => pure f)
  | [], l2 => by
    have e : execs ([] : List Stmt) env = pure .next := rfl
    rw [e, pure_bind]; rfl
  | st :: l1, l2 => by
    rw [List.cons_append, execs_cons, execs_cons, bind_assoc]
    refine bind_congr fun f => ?_
    cases f with
    | next => exact execs_app_eq l1 l2
    | cont => rw [pure_bind]
    | brk => rw [pure_bind]
    | ret v => rw [pure_bind]
theorem execs_app {M : Model} {A : Around} {E : Value → Shared → Prop} {env : Env} {l1 l2 : List Stmt} {Q : Flow → Shared → Prop} {s : Shared}
    (h : wpAny M A (execs l1 env) (fun f s' => match f with | .next => wpAny M A (execs l2 env) Q E s' | f => Q f s') E s) : wpAny M A (execs (l1 ++ l2) env) Q E s := by
  rw [execs_app_eq]
  refine wpAny_bind (wpAny_mono h (fun f s' hf => ?_) fun _ _ x => x)
  cases f with
  | next => exact hf
  | cont => exact wpAny_pure hf
  | brk => exact wpAny_pure hf
  | ret v => exact wpAny_pure hf
noncomputable def clsA : Nat → Addr := fun k => if k = 9 then 133 else if k = 43 then 383 else 824
noncomputable def lawCl : Cl := [(Str.ofString "table", 0), (Str.ofString "origin", 1), (Str.ofString "goal", 2)]
/-- what an oracle may tell -/
noncomputable def Told (c : Nat → Int) (orc : Nat → Int → Option Int) : Prop := ∀ j n z, orc j n = some z → j < 3 ∧ n ≠ 0 ∧ z = (c j).fmod n
theorem told1 {c : Nat → Int} {z : Nat} (h : (c 0).fmod 2 = z) : Told c (orc1 z) := by
  intro j n x e
  cases j with
  | zero =>
    have e' : (match ieq n 2 with | true => some (Int.ofNat z) | false => none) = some x := e
    rw [ieq_iff] at e'
    by_cases hn : n = 2
    · subst hn
      simp only [decide_true, Option.some.injEq] at e'
      exact ⟨by decide, by decide, by rw [← e', h]; rfl⟩
    · simp [hn] at e'
  | succ j => cases e
theorem told2 {c : Nat → Int} {z : Nat} (h : (c 1).fmod 12 = z) : Told c (orc2 z) := by
  intro j n x e
  cases j with
  | zero => cases e
  | succ j =>
    cases j with
    | zero =>
      have e' : (match ieq n 12 with | true => some (Int.ofNat z) | false => none) = some x := e
      rw [ieq_iff] at e'
      by_cases hn : n = 12
      · subst hn
        simp only [decide_true, Option.some.injEq] at e'
        exact ⟨by decide, by decide, by rw [← e', h]; rfl⟩
      · simp [hn] at e'
    | succ j => cases e
theorem told3 {c : Nat → Int} {z : Nat} (h : (c 2).fmod 6 = z) : Told c (orc3 z) := by
  intro j n x e
  cases j with
  | zero => cases e
  | succ j =>
    cases j with
    | zero => cases e
    | succ j =>
      cases j with
      | zero =>
        have e' : (match ieq n 6 with | true => some (Int.ofNat z) | false => none) = some x := e
        rw [ieq_iff] at e'
        by_cases hn : n = 6
        · subst hn
          simp only [decide_true, Option.some.injEq] at e'
          exact ⟨by decide, by decide, by rw [← e', h]; rfl⟩
        · simp [hn] at e'
      | succ j => cases e
theorem thenR_inv {r : R} {k : List AV → St → Bool} (h : thenR r k = true) : ∃ ρ s, r = .fl .next ρ s ∧ k ρ s = true := by
  cases r with
  | fl f ρ s =>
    cases f with
    | next => exact ⟨ρ, s, rfl, h⟩
    | cont => cases h
    | ret _ => cases h
  | bad _ => cases h
  | v _ _ => cases h
  | vs _ _ => cases h
theorem isTrueR_inv {r : R} (h : isTrueR r = true) : ∃ ρ s, r = .fl (.ret (.bool true)) ρ s := by
  cases r with
  | fl f ρ s =>
    cases f with
    | next => cases h
    | cont => cases h
    | ret x =>
      cases x with
      | bool b => have : b = true := h
                  subst this
                  exact ⟨ρ, s, rfl⟩
      | _ => cases h
  | bad _ => cases h
  | v _ _ => cases h
  | vs _ _ => cases h
theorem lawCl_lt : ∀ (q : Nat) (x : Str) (j : Nat), lawCl[q]? = some (x, j) → j < nP := fun q x j h => by
  match q, h with
  | 0, h => cases h; exact (by decide : 0 < 235)
  | 1, h => cases h; exact (by decide : 1 < 235)
  | 2, h => cases h; exact (by decide : 2 < 235)
  | q + 3, h => cases h
theorem law_core {prog : Program} {w : World} {K : Frag} {B : Heap} {c : Nat → Int} {mg mb : Str → Option Value} (O : ∀ orc, Told c orc → (Cx.mk prog w B K c clsA mg mb orc tbl).Ok)
    {A : Around} {env : Env} {sc : Sc} {L : Addr} {as : List Addr} {m : Str → Option Value} {s : Shared} {l1 l2 l3 : List Stmt} {Q : Flow → Shared → Prop} {E : Value → Shared → Prop}
    (p : Pre (Cx.mk prog w B K c clsA mg mb (fun _ _ => none) tbl) 100 A env sc lawCl L as m ρ0 s0 s.heap) (h1 : RB sc lawCl l1 tPre) (h2 : RB sc lawCl l2 tMid) (h3 : RB sc lawCl l3 tFin)
    {z e o : Nat} (hz : (c 0).fmod 2 = z) (he : (c 1).fmod 12 = e) (ho : (c 2).fmod 6 = o) (q1 : run1 z = true) (q2 : run2 z e = true) (q3 : run3 z o = true)
    (k : ∀ h' tk m', Fr B L h' m' → Q (.ret (.bool true)) { s with heap := h', toks := tk }) : wpAny (model prog w) A (execs (l1 ++ (l2 ++ l3)) env) Q E s := by
  obtain ⟨ρ1, σ1, r1, q1⟩ := thenR_inv q1
  obtain ⟨ρ2, σ2, r2, q2⟩ := thenR_inv q2
  obtain ⟨ρ3, σ3, r3⟩ := isTrueR_inv q3
  have H1 := all_ok (O (orc1 z) (told1 hz)) 100
  have H2 := all_ok (O (orc2 e) (told2 he)) 100
  have H3 := all_ok (O (orc3 o) (told3 ho)) 100
  have p1 := p.orc (o2 := orc1 z)
  refine execs_app (H1.b h1 p1 r1 fun fl g1 t1 as1 m1 S1 f1 => ?_)
  cases f1
  have p2 := ((p1.nextS S1).forget q1 lawCl_lt).orc (o2 := orc2 e)
  refine execs_app (H2.b (s := { s with heap := g1, toks := t1 }) h2 p2 r2 fun fl g2 t2 as2 m2 S2 f2 => ?_)
  cases f2
  have p3 := ((p2.nextS S2).forget q2 lawCl_lt).orc (o2 := orc3 o)
  refine H3.b (s := { s with heap := g2, toks := t2 }) h3 p3 r3 fun fl g3 t3 as3 m3 S3 f3 => ?_
  obtain ⟨v, rfl, hv⟩ := f3
  cases hv
  exact k g3 t3 m3 ⟨S3.ns, S3.hr.keep, p.up⟩
theorem allB_at {p : Nat → Bool} : ∀ {n : Nat}, allB n p = true → ∀ i, i < n → p i = true
  | 0, _, i, hi => absurd hi (Nat.not_lt_zero i)
  | n + 1, h, i, hi => by
    have h' : (match p n with | true => allB n p | false => false) = true := h
    cases q : p n with
    | false => rw [q] at h'; cases h'
    | true =>
      rw [q] at h'
      rcases Nat.lt_succ_iff_lt_or_eq.mp hi with h1 | rfl
      · exact allB_at h' i h1
      · exact q
end Mine

end
section
open PySem PySem.W PyProof.Rows PySem.Calls PySem.SeqAt
namespace Mine
theorem boot_len1 : bootBuiltins (Str.ofString "len") = some (.builtin "len") := by decide +kernel
theorem boot_range1 : bootBuiltins (Str.ofString "range") = some (.type "range") := by decide +kernel
/-- what is asked of the heap's written part -/
noncomputable def ClsFacts (K : Frag) (C i : Addr) (k : Nat) (x : Str) : Prop :=
  ClsOk K C ∧ keepIn K (.ref C) = true ∧ makesIn K C = true ∧ findIn K (.ref C) "__init__" = some (some (.ref i)) ∧ typeIn K (.ref i) = some (.type "function") ∧ nsIn K mainGlobals x = some (some (.ref C)) ∧ FnK K i k
structure KFacts (K : Frag) : Prop where
  c9 : ClsFacts K 133 130 9 (Str.ofString "Geometry")
  c43 : ClsFacts K 383 380 43 (Str.ofString "Position")
  c104 : ClsFacts K 824 821 104 (Str.ofString "Zobrist")
  gi : ∀ p ∈ gis, ∃ t, nsIn K mainGlobals p.1 = some (some (.int p.2 t))
  gf : ∀ p ∈ gfun, ∃ a, nsIn K mainGlobals p.1 = some (some (.ref a)) ∧ FnK K a p.2
  gt0 : ∃ a l, nsIn K mainGlobals (Str.ofString "STEP_FILES") = some (some (.ref a)) ∧ K.lookup a = some (tupOf l) ∧ IntsAre l (gI 0)
  gt1 : ∃ a l, nsIn K mainGlobals (Str.ofString "STEP_RANKS") = some (some (.ref a)) ∧ K.lookup a = some (tupOf l) ∧ IntsAre l (gI 1)
  bi : nsIn K mainGlobals (Str.ofString "len") = some none ∧ nsIn K mainGlobals (Str.ofString "range") = some none
theorem ok_of {prog : Program} {w : World} {B : Heap} {c : Nat → Int} {mg mb : Str → Option Value} {K : Frag} (KF : KFacts K) (KX : K.In B) (hg : B.Ns mainGlobals mg) (hb : B.Ns builtinsNs mb) (hbi : ∀ x : Str, x ≠ "__name__" → mb x = bootBuiltins x) (lim : B.NoLimit)
    (orc : Nat → Int → Option Int) (ht : Told c orc) : (Cx.mk prog w B K c clsA mg mb orc tbl).Ok where
  frag := KX
  ns := hg
  bns := hb
  lim := lim
  cls := fun k => by
    show ClsOk K (clsA k)
    unfold clsA
    split
    · exact KF.c9.1
    · split
      · exact KF.c43.1
      · exact KF.c104.1
  gi := fun q x z h => by
    obtain ⟨t, e⟩ := KF.gi (x, z) (List.mem_of_getElem? h)
    exact ⟨t, mg_of KX hg e⟩
  gt := fun k x h => by
    match k, h with
    | 0, h =>
      cases h
      obtain ⟨a, l, e1, e2, e3⟩ := KF.gt0
      exact ⟨a, l, mg_of KX hg e1, KX _ _ e2, e3⟩
    | 1, h =>
      cases h
      obtain ⟨a, l, e1, e2, e3⟩ := KF.gt1
      exact ⟨a, l, mg_of KX hg e1, KX _ _ e2, e3⟩
    | k + 2, h => cases h
  fn := fun q x f h => by
    obtain ⟨a, e1, e2⟩ := KF.gf (x, f) (List.mem_of_getElem? h)
    exact ⟨a, mg_of KX hg e1, FnK.ok (X := Cx.mk prog w B K c clsA mg mb orc tbl) e2 KX rfl⟩
  cl := fun q x k h => by
    match q, h with
    | 0, h => cases h; obtain ⟨_, a, b, c1, d, e, f⟩ := KF.c9; exact ⟨mg_of KX hg e, a, b, _, c1, d, FnK.ok (X := Cx.mk prog w B K c clsA mg mb orc tbl) f KX rfl⟩
    | 1, h => cases h; obtain ⟨_, a, b, c1, d, e, f⟩ := KF.c43; exact ⟨mg_of KX hg e, a, b, _, c1, d, FnK.ok (X := Cx.mk prog w B K c clsA mg mb orc tbl) f KX rfl⟩
    | 2, h => cases h; obtain ⟨_, a, b, c1, d, e, f⟩ := KF.c104; exact ⟨mg_of KX hg e, a, b, _, c1, d, FnK.ok (X := Cx.mk prog w B K c clsA mg mb orc tbl) f KX rfl⟩
    | q + 3, h => cases h
  len := ⟨mg_none_of KX hg KF.bi.1, (hbi _ (by decide)).trans boot_len1⟩
  range := ⟨mg_none_of KX hg KF.bi.2, (hbi _ (by decide)).trans boot_range1⟩
  pick := ht
end Mine

end
section
namespace Mine
theorem pre_0 : run1 0 = true := by decide +kernel
theorem pre_1 : run1 1 = true := by decide +kernel
theorem mid_0_0 : run2 0 0 = true := by decide +kernel
theorem mid_0_1 : run2 0 1 = true := by decide +kernel
theorem mid_0_2 : run2 0 2 = true := by decide +kernel
theorem mid_0_3 : run2 0 3 = true := by decide +kernel
theorem mid_0_4 : run2 0 4 = true := by decide +kernel
theorem mid_0_5 : run2 0 5 = true := by decide +kernel
theorem mid_0_6 : run2 0 6 = true := by decide +kernel
theorem mid_0_7 : run2 0 7 = true := by decide +kernel
theorem mid_0_8 : run2 0 8 = true := by decide +kernel
theorem mid_0_9 : run2 0 9 = true := by decide +kernel
theorem mid_0_10 : run2 0 10 = true := by decide +kernel
theorem mid_0_11 : run2 0 11 = true := by decide +kernel
theorem mid_1_0 : run2 1 0 = true := by decide +kernel
theorem mid_1_1 : run2 1 1 = true := by decide +kernel
theorem mid_1_2 : run2 1 2 = true := by decide +kernel
theorem mid_1_3 : run2 1 3 = true := by decide +kernel
theorem mid_1_4 : run2 1 4 = true := by decide +kernel
theorem mid_1_5 : run2 1 5 = true := by decide +kernel
theorem mid_1_6 : run2 1 6 = true := by decide +kernel
theorem mid_1_7 : run2 1 7 = true := by decide +kernel
theorem mid_1_8 : run2 1 8 = true := by decide +kernel
theorem mid_1_9 : run2 1 9 = true := by decide +kernel
theorem mid_1_10 : run2 1 10 = true := by decide +kernel
theorem mid_1_11 : run2 1 11 = true := by decide +kernel
theorem fin_0_0 : run3 0 0 = true := by decide +kernel
theorem fin_0_1 : run3 0 1 = true := by decide +kernel
theorem fin_0_2 : run3 0 2 = true := by decide +kernel
theorem fin_0_3 : run3 0 3 = true := by decide +kernel
theorem fin_0_4 : run3 0 4 = true := by decide +kernel
theorem fin_0_5 : run3 0 5 = true := by decide +kernel
theorem fin_1_0 : run3 1 0 = true := by decide +kernel
theorem fin_1_1 : run3 1 1 = true := by decide +kernel
theorem fin_1_2 : run3 1 2 = true := by decide +kernel
theorem fin_1_3 : run3 1 3 = true := by decide +kernel
theorem fin_1_4 : run3 1 4 = true := by decide +kernel
theorem fin_1_5 : run3 1 5 = true := by decide +kernel
end Mine

end
section
open PySem PySem.W PyProof.Rows PySem.Calls PySem.SeqAt
namespace Mine
theorem ints_at : ∀ {ws : List Value} {ns : List Int} {j : Nat}, IntsAre ws ns → j < ns.length → ∃ t, ws[j]? = some (Value.int (ns.getD j 0) t)
  | _, _, _, .nil, h => absurd h (Nat.not_lt_zero _)
  | _, _, 0, .cons i t r, _ => ⟨t, rfl⟩
  | _, _, j + 1, .cons i t r, h => by
    obtain ⟨t', e⟩ := ints_at r (j := j) (Nat.lt_of_succ_lt_succ h)
    exact ⟨t', by simpa using e⟩
theorem s0_get (i : Nat) : s0.h.get i = if i = 3 then some .cells else if i = 2 then some (.cell .unb) else if i = 1 then some (.cell .unb) else if i = 0 then some (.cell .unb) else none := by
  show H.get (H.put (H.put (H.put (H.put H.nil 0 _) 1 _) 2 _) 3 _) i = _
  rw [H.put_get _ _ _ _ (by omega), H.put_get _ _ _ _ (by omega), H.put_get _ _ _ _ (by omega), H.put_get _ _ _ _ (by omega)]
  rfl
theorem fmod_lt {a : Int} {n : Nat} (h : 0 < n) : ∃ z : Nat, a.fmod n = z ∧ z < n := by
  have h1 := Int.fmod_nonneg_of_pos a (b := (n : Int)) (by omega)
  have h2 := Int.fmod_lt_of_pos a (b := (n : Int)) (by omega)
  refine ⟨(a.fmod n).toNat, ?_, ?_⟩ <;> omega
theorem runs1 {z : Nat} (hz : z < 2) : run1 z = true := by
  match z, hz with
  | 0, _ => exact pre_0
  | 1, _ => exact pre_1
  | z + 2, hz => exact absurd hz (by omega)
theorem runs2 {z e : Nat} (hz : z < 2) (he : e < 12) : run2 z e = true := by
  match z, hz, e, he with
  | 0, _, 0, _ => exact mid_0_0
  | 0, _, 1, _ => exact mid_0_1
  | 0, _, 2, _ => exact mid_0_2
  | 0, _, 3, _ => exact mid_0_3
  | 0, _, 4, _ => exact mid_0_4
  | 0, _, 5, _ => exact mid_0_5
  | 0, _, 6, _ => exact mid_0_6
  | 0, _, 7, _ => exact mid_0_7
  | 0, _, 8, _ => exact mid_0_8
  | 0, _, 9, _ => exact mid_0_9
  | 0, _, 10, _ => exact mid_0_10
  | 0, _, 11, _ => exact mid_0_11
  | 1, _, 0, _ => exact mid_1_0
  | 1, _, 1, _ => exact mid_1_1
  | 1, _, 2, _ => exact mid_1_2
  | 1, _, 3, _ => exact mid_1_3
  | 1, _, 4, _ => exact mid_1_4
  | 1, _, 5, _ => exact mid_1_5
  | 1, _, 6, _ => exact mid_1_6
  | 1, _, 7, _ => exact mid_1_7
  | 1, _, 8, _ => exact mid_1_8
  | 1, _, 9, _ => exact mid_1_9
  | 1, _, 10, _ => exact mid_1_10
  | 1, _, 11, _ => exact mid_1_11
  | _, _, e + 12, he => exact absurd he (by omega)
  | z + 2, hz, _, _ => exact absurd hz (by omega)
theorem runs3 {z o : Nat} (hz : z < 2) (ho : o < 6) : run3 z o = true := by
  match z, hz, o, ho with
  | 0, _, 0, _ => exact fin_0_0
  | 0, _, 1, _ => exact fin_0_1
  | 0, _, 2, _ => exact fin_0_2
  | 0, _, 3, _ => exact fin_0_3
  | 0, _, 4, _ => exact fin_0_4
  | 0, _, 5, _ => exact fin_0_5
  | 1, _, 0, _ => exact fin_1_0
  | 1, _, 1, _ => exact fin_1_1
  | 1, _, 2, _ => exact fin_1_2
  | 1, _, 3, _ => exact fin_1_3
  | 1, _, 4, _ => exact fin_1_4
  | 1, _, 5, _ => exact fin_1_5
  | _, _, e + 6, he => exact absurd he (by omega)
  | z + 2, hz, _, _ => exact absurd hz (by omega)
theorem law_fin {prog : Program} {w : World} {B : Heap} {mg mb : Str → Option Value} {Kf : Frag} (KF : KFacts Kf) (KX : Kf.In B) (hg : B.Ns mainGlobals mg) (hb : B.Ns builtinsNs mb) (hbi : ∀ x : Str, x ≠ "__name__" → mb x = bootBuiltins x) (lim : B.NoLimit)
    {h : Heap} {m : Str → Option Value} {D l' D1 : Addr} {ws : List Value} {ns : List Int} {k : Nat} {o1 o2 o3 ol oD : Obj} {c1 c2 c3 : Option Value} (hI : IntsAre ws (ns.take 3 ++ [0, 0, 0])) (F : Fr B B.objs.size h m) (hm : m (Str.ofString "cells") = some (.ref D))
    (N : News B B.objs.size h [(D, listOf ws.toArray k), (l', ol), (D1, oD), (B.objs.size + 1 + 1 + 1, o3), (B.objs.size + 1 + 1, o2), (B.objs.size + 1, o1)]) (e3 : o3.data = .cell c3) (e2 : o2.data = .cell c2) (e1 : o1.data = .cell c1)
    (lD : B.objs.size + 1 + 1 + 1 < D) {A : Around} {env : Env} {sc : Sc} {l : List Stmt} {s : Shared} {Q : Flow → Shared → Prop} {E : Value → Shared → Prop} (hs : s.heap = h)
    (hn : env.scope.names = sc) (hk : env.scope.kind = .function) (hl : env.locals = B.objs.size) (hgl : env.globals = mainGlobals) (hbl : env.builtins = builtinsNs) (keys : keysOk sc = true)
    (hc : env.cells = cellsFrom (B.objs.size + 1) sc []) (ct : ∀ L, (cellsFrom (L + 1) sc []).lookup (Str.ofString "table") = some (L + 1) ∧ (cellsFrom (L + 1) sc []).lookup (Str.ofString "origin") = some (L + 1 + 1) ∧ (cellsFrom (L + 1) sc []).lookup (Str.ofString "goal") = some (L + 1 + 1 + 1))
    (h1 : sc[1]? = some (Str.ofString "cells", .local)) (hA : A.handled = none) (hd1 : A.depth + 200 < recursionLimit) (hu : A.units + 1200 < cLine)
    (r1 : RB sc lawCl (l.take 4) tPre) (r2 : RB sc lawCl ((l.drop 4).take 7) tMid) (r3 : RB sc lawCl ((l.drop 4).drop 7) tFin)
    (K : ∀ h' tk m', Fr B B.objs.size h' m' → Q (.ret (.bool true)) { s with heap := h', toks := tk }) : wpAny (model prog w) A (execs l env) Q E s := by
  have el : l = l.take 4 ++ ((l.drop 4).take 7 ++ (l.drop 4).drop 7) := by rw [List.take_append_drop, List.take_append_drop]
  rw [el]
  let c : Nat → Int := fun j => (ns.take 3 ++ [0, 0, 0]).getD j 0
  obtain ⟨z, hz, hz2⟩ := fmod_lt (a := c 0) (n := 2) (by decide)
  obtain ⟨e, he, he2⟩ := fmod_lt (a := c 1) (n := 12) (by decide)
  obtain ⟨o, ho, ho2⟩ := fmod_lt (a := c 2) (n := 6) (by decide)
  have nD := N _ (List.mem_cons_self ..)
  have n3 := N (B.objs.size + 1 + 1 + 1, o3) (by simp)
  have n2 := N (B.objs.size + 1 + 1, o2) (by simp)
  have n1 := N (B.objs.size + 1, o1) (by simp)
  refine law_core (c := c) (fun orc ht => ok_of KF KX hg hb hbi lim orc ht) (L := B.objs.size) (as := [B.objs.size + 1, B.objs.size + 1 + 1, B.objs.size + 1 + 1 + 1, D]) (m := m) ?_ r1 r2 r3 hz he ho (runs1 hz2) (runs2 hz2 he2) (runs3 hz2 ho2) K
  obtain ⟨k1, k2⟩ := keysOk_is keys
  refine ⟨⟨hn, hk, hl, hgl, hbl, k1, k2, ?_⟩, hA, hd1, hu, ?_, ?_, ?_, fresh_none B, Nat.le_refl _, ?_⟩
  · intro q x kk j hq hj
    rw [hc]
    obtain ⟨t1, t2, t3⟩ := ct B.objs.size
    match q, hq with
    | 0, hq => cases hq; exact ⟨_, t1, rfl⟩
    | 1, hq => cases hq; exact ⟨_, t2, rfl⟩
    | 2, hq => cases hq; exact ⟨_, t3, rfl⟩
    | q + 3, hq => cases hq
  · rw [hs]
    refine ⟨rfl, ?_, ?_, F.keep, ?_, ?_, ?_, ?_, ?_⟩
    · simp only [List.nodup_cons, List.mem_cons, List.not_mem_nil, or_false, not_or, not_false_eq_true, List.nodup_nil, and_true]
      refine ⟨⟨?_, ?_, ?_⟩, ⟨?_, ?_⟩, ?_⟩ <;> intro q <;> (try rw [← q] at lD) <;> (simp only [Addr] at *; omega)
    · intro a ha
      simp only [List.mem_cons, List.not_mem_nil, or_false] at ha
      rcases ha with rfl | rfl | rfl | rfl
      · exact n1.2.2
      · exact n2.2.2
      · exact n3.2.2
      · exact nD.2.2
    · intro a ha
      simp only [List.mem_cons, List.not_mem_nil, or_false] at ha
      rcases ha with rfl | rfl | rfl | rfl
      · exact ⟨_, n1.1⟩
      · exact ⟨_, n2.1⟩
      · exact ⟨_, n3.1⟩
      · exact ⟨_, nD.1⟩
    · intro i ob hob
      rw [s0_get] at hob
      show i < 4
      (repeat' split at hob) <;> first | omega | cases hob
    · show (4 : Nat) ≤ 4002; omega
    · intro i ob hob hio
      rw [s0_get] at hob
      (repeat' split at hob) <;> cases hob <;> cases hio
    · intro i ob hob
      rw [s0_get] at hob
      (repeat' split at hob)
      · rename_i q; subst q; cases hob
        refine ⟨D, ws, k, rfl, nD.1, fun j hj => ints_at hI ?_⟩
        rw [List.length_append]; simp; omega
      · rename_i q; subst q; cases hob; exact ⟨_, c3, rfl, ⟨o3, n3.1, e3⟩, fun h => absurd rfl h⟩
      · rename_i q; subst q; cases hob; exact ⟨_, c2, rfl, ⟨o2, n2.1, e2⟩, fun h => absurd rfl h⟩
      · rename_i q; subst q; cases hob; exact ⟨_, c1, rfl, ⟨o1, n1.1, e1⟩, fun h => absurd rfl h⟩
      · cases hob
  · rw [hs]; exact F.ns
  · intro hm2
    simp only [List.mem_cons, List.not_mem_nil, or_false] at hm2
    rcases hm2 with q | q | q | q
    · exact n1.2.1 q.symm
    · exact n2.2.1 q.symm
    · exact n3.2.1 q.symm
    · exact nD.2.1 q.symm
  · intro i x hi hne
    match i with
    | 0 => exact absurd rfl hne
    | 1 =>
      rw [h1] at hi
      cases hi
      exact ⟨.ref D, hm, D, rfl, rfl⟩
    | i + 2 =>
      have : geti ρ0 (i + 2) = .unb := geti_unbs 26 i
      exact absurd this hne
end Mine

end
section
set_option Elab.async true
open PySem PySem.W PyProof.Rows PySem.Calls PySem.SeqAt
theorem Mine.main.tw10044588960856096794 : True := ⟨⟩
theorem Mine.main.tw10047389527955405517 : True := ⟨⟩
theorem Mine.main.tw10092017014551392330 : True := ⟨⟩
theorem Mine.main.tw10094358506670053839 : True := ⟨⟩
theorem Mine.main.tw10114013102757674387 : True := ⟨⟩
theorem Mine.main.tw10123989817122485451 : True := ⟨⟩
theorem Mine.main.tw10140136200207757160 : True := ⟨⟩
theorem Mine.main.tw10149618387772673413 : True := ⟨⟩
theorem Mine.main.tw10159738436595150677 : True := ⟨⟩
theorem Mine.main.tw10169072693733980587 : True := ⟨⟩
theorem Mine.main.tw10177057350305019805 : True := ⟨⟩
theorem Mine.main.tw10199874654664476236 : True := ⟨⟩
theorem Mine.main.tw10204856939554784155 : True := ⟨⟩
theorem Mine.main.tw10210597933619972095 : True := ⟨⟩
theorem Mine.main.tw1023079750867416800 : True := ⟨⟩
theorem Mine.main.tw10231336680788121439 : True := ⟨⟩
theorem Mine.main.tw10234815189450012239 : True := ⟨⟩
theorem Mine.main.tw1027651156746619712 : True := ⟨⟩
theorem Mine.main.tw10283388844273144081 : True := ⟨⟩
theorem Mine.main.tw10298723112805639129 : True := ⟨⟩
theorem Mine.main.tw10334261112615635914 : True := ⟨⟩
theorem Mine.main.tw10363585996791799541 : True := ⟨⟩
theorem Mine.main.tw10391951854915411234 : True := ⟨⟩
theorem Mine.main.tw104360540948158410 : True := ⟨⟩
theorem Mine.main.tw10450603732522932521 : True := ⟨⟩
theorem Mine.main.tw10453263994017694363 : True := ⟨⟩
theorem Mine.main.tw10455743928339290457 : True := ⟨⟩
theorem Mine.main.tw10463206416058312583 : True := ⟨⟩
theorem Mine.main.tw1054321117371714560 : True := ⟨⟩
theorem Mine.main.tw10564528347858357063 : True := ⟨⟩
theorem Mine.main.tw10609540516017602915 : True := ⟨⟩
theorem Mine.main.tw10625486282989778954 : True := ⟨⟩
theorem Mine.main.tw10642606787283503386 : True := ⟨⟩
theorem Mine.main.tw10652863235454686790 : True := ⟨⟩
theorem Mine.main.tw10665089971535097683 : True := ⟨⟩
theorem Mine.main.tw10665469846841522134 : True := ⟨⟩
theorem Mine.main.tw10669944970481658594 : True := ⟨⟩
theorem Mine.main.tw10707853282979444102 : True := ⟨⟩
theorem Mine.main.tw10750994468655217958 : True := ⟨⟩
theorem Mine.main.tw10755775206947875856 : True := ⟨⟩
theorem Mine.main.tw10813080517026676716 : True := ⟨⟩
theorem Mine.main.tw10821422270917381399 : True := ⟨⟩
theorem Mine.main.tw10825838108423173272 : True := ⟨⟩
theorem Mine.main.tw1084220662915027778 : True := ⟨⟩
theorem Mine.main.tw10864377008497418100 : True := ⟨⟩
theorem Mine.main.tw10876229203375891673 : True := ⟨⟩
theorem Mine.main.tw10876375607700338302 : True := ⟨⟩
theorem Mine.main.tw10877679251791092727 : True := ⟨⟩
theorem Mine.main.tw10896356407431480244 : True := ⟨⟩
theorem Mine.main.tw10919033858107767486 : True := ⟨⟩
theorem Mine.main.tw10924716458440934090 : True := ⟨⟩
theorem Mine.main.tw10953687544409504101 : True := ⟨⟩
theorem Mine.main.tw1098248734344127483 : True := ⟨⟩
theorem Mine.main.tw10992214633131536827 : True := ⟨⟩
theorem Mine.main.tw1099256609624015869 : True := ⟨⟩
theorem Mine.main.tw11001617756164336837 : True := ⟨⟩
theorem Mine.main.tw11003572833241299968 : True := ⟨⟩
theorem Mine.main.tw11020365191643786025 : True := ⟨⟩
theorem Mine.main.tw11049269918873537771 : True := ⟨⟩
theorem Mine.main.tw11086099901593105684 : True := ⟨⟩
theorem Mine.main.tw11092141859048813250 : True := ⟨⟩
theorem Mine.main.tw11101190512080308003 : True := ⟨⟩
theorem Mine.main.tw11120327062377616369 : True := ⟨⟩
theorem Mine.main.tw11125538497796368324 : True := ⟨⟩
theorem Mine.main.tw11135027115929721415 : True := ⟨⟩
theorem Mine.main.tw11156056980113079860 : True := ⟨⟩
theorem Mine.main.tw11221353774195762014 : True := ⟨⟩
theorem Mine.main.tw11251407683458634364 : True := ⟨⟩
theorem Mine.main.tw11261727412033496967 : True := ⟨⟩
theorem Mine.main.tw11273777480241942364 : True := ⟨⟩
theorem Mine.main.tw1130211791997205004 : True := ⟨⟩
theorem Mine.main.tw11311155076762098589 : True := ⟨⟩
theorem Mine.main.tw11349898740250378076 : True := ⟨⟩
theorem Mine.main.tw11374851513655246148 : True := ⟨⟩
theorem Mine.main.tw11388154006635350966 : True := ⟨⟩
theorem Mine.main.tw11399646045708457374 : True := ⟨⟩
theorem Mine.main.tw11403851563620829512 : True := ⟨⟩
theorem Mine.main.tw11409991511011244131 : True := ⟨⟩
theorem Mine.main.tw11410963132546700228 : True := ⟨⟩
theorem Mine.main.tw1142173933681417890 : True := ⟨⟩
theorem Mine.main.tw11461230924637031220 : True := ⟨⟩
theorem Mine.main.tw11463369355524808266 : True := ⟨⟩
theorem Mine.main.tw11487549891475536569 : True := ⟨⟩
theorem Mine.main.tw11501822485730972192 : True := ⟨⟩
theorem Mine.main.tw1150287232629052791 : True := ⟨⟩
theorem Mine.main.tw11517864841773790337 : True := ⟨⟩
theorem Mine.main.tw11544348965984651327 : True := ⟨⟩
theorem Mine.main.tw11554813239044494598 : True := ⟨⟩
theorem Mine.main.tw1156462466702112376 : True := ⟨⟩
theorem Mine.main.tw1157997071576566072 : True := ⟨⟩
theorem Mine.main.tw11595355409239048105 : True := ⟨⟩
theorem Mine.main.tw11608591588782457225 : True := ⟨⟩
theorem Mine.main.tw11614107205274993552 : True := ⟨⟩
theorem Mine.main.tw11646826074482590764 : True := ⟨⟩
theorem Mine.main.tw11692516046256081784 : True := ⟨⟩
theorem Mine.main.tw11710404883906591787 : True := ⟨⟩
theorem Mine.main.tw11712081513822626495 : True := ⟨⟩
theorem Mine.main.tw11716418206903941319 : True := ⟨⟩
theorem Mine.main.tw11752208632293872130 : True := ⟨⟩
theorem Mine.main.tw11774690029378154688 : True := ⟨⟩
theorem Mine.main.tw1178595665728414349 : True := ⟨⟩
theorem Mine.main.tw11857135199678951331 : True := ⟨⟩
theorem Mine.main.tw11903146300924635186 : True := ⟨⟩
theorem Mine.main.tw11962923498438245051 : True := ⟨⟩
theorem Mine.main.tw11967333016625521393 : True := ⟨⟩
theorem Mine.main.tw11982392923317675503 : True := ⟨⟩
theorem Mine.main.tw11987853993630220354 : True := ⟨⟩
theorem Mine.main.tw12014785543569010823 : True := ⟨⟩
theorem Mine.main.tw12027323910402764344 : True := ⟨⟩
theorem Mine.main.tw12077450504624328385 : True := ⟨⟩
theorem Mine.main.tw12093647306153771053 : True := ⟨⟩
theorem Mine.main.tw12130321265151566525 : True := ⟨⟩
theorem Mine.main.tw12139096438432415106 : True := ⟨⟩
theorem Mine.main.tw12170992721606120685 : True := ⟨⟩
theorem Mine.main.tw12222963475772708484 : True := ⟨⟩
theorem Mine.main.tw12298629886278197574 : True := ⟨⟩
theorem Mine.main.tw12338497608069007261 : True := ⟨⟩
theorem Mine.main.tw12361340156312767134 : True := ⟨⟩
theorem Mine.main.tw1236483940969888574 : True := ⟨⟩
theorem Mine.main.tw1242282695825638017 : True := ⟨⟩
theorem Mine.main.tw12431561837914552411 : True := ⟨⟩
theorem Mine.main.tw12431731261707249289 : True := ⟨⟩
theorem Mine.main.tw12450111651097656602 : True := ⟨⟩
theorem Mine.main.tw12455012482086183272 : True := ⟨⟩
theorem Mine.main.tw12463224122652932544 : True := ⟨⟩
theorem Mine.main.tw12483276189755474720 : True := ⟨⟩
theorem Mine.main.tw12518504611687188807 : True := ⟨⟩
theorem Mine.main.tw12519306246395310219 : True := ⟨⟩
theorem Mine.main.tw1253437644075932092 : True := ⟨⟩
theorem Mine.main.tw1255815211270559930 : True := ⟨⟩
theorem Mine.main.tw12564604832814323664 : True := ⟨⟩
theorem Mine.main.tw12570134572688502250 : True := ⟨⟩
theorem Mine.main.tw12590340796369385619 : True := ⟨⟩
theorem Mine.main.tw12594366453804578888 : True := ⟨⟩
theorem Mine.main.tw12608185968620612914 : True := ⟨⟩
theorem Mine.main.tw12623159325031504133 : True := ⟨⟩
theorem Mine.main.tw12646911602827044314 : True := ⟨⟩
theorem Mine.main.tw12653679108036650311 : True := ⟨⟩
theorem Mine.main.tw12670839924663504800 : True := ⟨⟩
theorem Mine.main.tw12675357926760492328 : True := ⟨⟩
theorem Mine.main.tw12681957500809781501 : True := ⟨⟩
theorem Mine.main.tw12692632004510240207 : True := ⟨⟩
theorem Mine.main.tw1270039299266317192 : True := ⟨⟩
theorem Mine.main.tw12702744160499308131 : True := ⟨⟩
theorem Mine.main.tw12708586014178877766 : True := ⟨⟩
theorem Mine.main.tw12741544251441588921 : True := ⟨⟩
theorem Mine.main.tw12747388180105724736 : True := ⟨⟩
theorem Mine.main.tw12748397558918655664 : True := ⟨⟩
theorem Mine.main.tw12751799325998411230 : True := ⟨⟩
theorem Mine.main.tw12769153152773381510 : True := ⟨⟩
theorem Mine.main.tw1277820614484962519 : True := ⟨⟩
theorem Mine.main.tw12839114828313443825 : True := ⟨⟩
theorem Mine.main.tw12872379398031375081 : True := ⟨⟩
theorem Mine.main.tw12885385263037960081 : True := ⟨⟩
theorem Mine.main.tw12885673836220544336 : True := ⟨⟩
theorem Mine.main.tw1289389943133740499 : True := ⟨⟩
theorem Mine.main.tw12900284412222446716 : True := ⟨⟩
theorem Mine.main.tw12909650291622432550 : True := ⟨⟩
theorem Mine.main.tw12915833801598196605 : True := ⟨⟩
theorem Mine.main.tw12927740378394474205 : True := ⟨⟩
theorem Mine.main.tw12941917028564957548 : True := ⟨⟩
theorem Mine.main.tw12959741745000181155 : True := ⟨⟩
theorem Mine.main.tw12974819211118642341 : True := ⟨⟩
theorem Mine.main.tw12992176717851604617 : True := ⟨⟩
theorem Mine.main.tw1306636233014830658 : True := ⟨⟩
theorem Mine.main.tw13077236301305049449 : True := ⟨⟩
theorem Mine.main.tw13110577991587790113 : True := ⟨⟩
theorem Mine.main.tw13110970153573199417 : True := ⟨⟩
theorem Mine.main.tw13113777628852026922 : True := ⟨⟩
theorem Mine.main.tw13116522157475607773 : True := ⟨⟩
theorem Mine.main.tw13132915859168520264 : True := ⟨⟩
theorem Mine.main.tw13148611719377898607 : True := ⟨⟩
theorem Mine.main.tw13154001654789283132 : True := ⟨⟩
theorem Mine.main.tw13157206579259725088 : True := ⟨⟩
theorem Mine.main.tw13180746182150919023 : True := ⟨⟩
theorem Mine.main.tw13187166440333854079 : True := ⟨⟩
theorem Mine.main.tw1318968915056948652 : True := ⟨⟩
theorem Mine.main.tw1319676515408343850 : True := ⟨⟩
theorem Mine.main.tw13219505800766818778 : True := ⟨⟩
theorem Mine.main.tw13224007501803129859 : True := ⟨⟩
theorem Mine.main.tw13227692790652741651 : True := ⟨⟩
theorem Mine.main.tw13260870731297125680 : True := ⟨⟩
theorem Mine.main.tw13270728482189477470 : True := ⟨⟩
theorem Mine.main.tw13306352142949925410 : True := ⟨⟩
theorem Mine.main.tw13313126695403321540 : True := ⟨⟩
theorem Mine.main.tw13348322127785295214 : True := ⟨⟩
theorem Mine.main.tw13350764725976880583 : True := ⟨⟩
theorem Mine.main.tw13503263706703578961 : True := ⟨⟩
theorem Mine.main.tw13590572293223372214 : True := ⟨⟩
theorem Mine.main.tw13591255225166038476 : True := ⟨⟩
theorem Mine.main.tw13597483153833180358 : True := ⟨⟩
theorem Mine.main.tw13626721169425172152 : True := ⟨⟩
theorem Mine.main.tw13689970425243653257 : True := ⟨⟩
theorem Mine.main.tw13693970394777133609 : True := ⟨⟩
theorem Mine.main.tw13713940216889387898 : True := ⟨⟩
theorem Mine.main.tw13724616953566380437 : True := ⟨⟩
theorem Mine.main.tw13777938177461255882 : True := ⟨⟩
theorem Mine.main.tw13797323745857372409 : True := ⟨⟩
theorem Mine.main.tw13803360072150633466 : True := ⟨⟩
theorem Mine.main.tw13876859957761632879 : True := ⟨⟩
theorem Mine.main.tw1390771862084280389 : True := ⟨⟩
theorem Mine.main.tw13962693860625380366 : True := ⟨⟩
theorem Mine.main.tw13972245371655741198 : True := ⟨⟩
theorem Mine.main.tw13974046611088194958 : True := ⟨⟩
theorem Mine.main.tw13980345723018547825 : True := ⟨⟩
theorem Mine.main.tw13989496423458381343 : True := ⟨⟩
theorem Mine.main.tw13995172100960836882 : True := ⟨⟩
theorem Mine.main.tw14009396871252706886 : True := ⟨⟩
theorem Mine.main.tw14027531716089632829 : True := ⟨⟩
theorem Mine.main.tw14027650596787315314 : True := ⟨⟩
theorem Mine.main.tw14061640607465278742 : True := ⟨⟩
theorem Mine.main.tw14064073609400967072 : True := ⟨⟩
theorem Mine.main.tw14080665800827857628 : True := ⟨⟩
theorem Mine.main.tw14097447854668400296 : True := ⟨⟩
theorem Mine.main.tw1409966394225722968 : True := ⟨⟩
theorem Mine.main.tw14106445559736802775 : True := ⟨⟩
theorem Mine.main.tw14161005256144132680 : True := ⟨⟩
theorem Mine.main.tw14168887731352723522 : True := ⟨⟩
theorem Mine.main.tw14216407083858561409 : True := ⟨⟩
theorem Mine.main.tw14218914174604095658 : True := ⟨⟩
theorem Mine.main.tw14221348316032609933 : True := ⟨⟩
theorem Mine.main.tw14313897822631088780 : True := ⟨⟩
theorem Mine.main.tw14364048958407549093 : True := ⟨⟩
theorem Mine.main.tw14368271195830560734 : True := ⟨⟩
theorem Mine.main.tw14390754486103292620 : True := ⟨⟩
theorem Mine.main.tw1439166485080882 : True := ⟨⟩
theorem Mine.main.tw14406990849044604362 : True := ⟨⟩
theorem Mine.main.tw14439473939278146460 : True := ⟨⟩
theorem Mine.main.tw14492832472218066102 : True := ⟨⟩
theorem Mine.main.tw14504180641510445567 : True := ⟨⟩
theorem Mine.main.tw1453356044741674121 : True := ⟨⟩
theorem Mine.main.tw14539993770535171780 : True := ⟨⟩
theorem Mine.main.tw14562738103837258888 : True := ⟨⟩
theorem Mine.main.tw14635473669698735251 : True := ⟨⟩
theorem Mine.main.tw14639212616227390028 : True := ⟨⟩
theorem Mine.main.tw14646587721710459877 : True := ⟨⟩
theorem Mine.main.tw14662554035588321541 : True := ⟨⟩
theorem Mine.main.tw14666387041718499266 : True := ⟨⟩
theorem Mine.main.tw14672674291997333471 : True := ⟨⟩
theorem Mine.main.tw1469836325065767749 : True := ⟨⟩
theorem Mine.main.tw14759895335926876869 : True := ⟨⟩
theorem Mine.main.tw14771111431291430275 : True := ⟨⟩
theorem Mine.main.tw14788915703135433725 : True := ⟨⟩
theorem Mine.main.tw14798791472264738832 : True := ⟨⟩
theorem Mine.main.tw14849204138880929251 : True := ⟨⟩
theorem Mine.main.tw14864641218109852296 : True := ⟨⟩
theorem Mine.main.tw14907226015203709474 : True := ⟨⟩
theorem Mine.main.tw14909365282108701170 : True := ⟨⟩
theorem Mine.main.tw15017983477296125989 : True := ⟨⟩
theorem Mine.main.tw15023316991559800185 : True := ⟨⟩
theorem Mine.main.tw1504049600530537962 : True := ⟨⟩
theorem Mine.main.tw15059693217772790739 : True := ⟨⟩
theorem Mine.main.tw15060185592220127646 : True := ⟨⟩
theorem Mine.main.tw15079240505294077160 : True := ⟨⟩
theorem Mine.main.tw15109750227778091905 : True := ⟨⟩
theorem Mine.main.tw15131278010643852716 : True := ⟨⟩
theorem Mine.main.tw15136431859952498927 : True := ⟨⟩
theorem Mine.main.tw1519927702969063271 : True := ⟨⟩
theorem Mine.main.tw1519992759497675636 : True := ⟨⟩
theorem Mine.main.tw15225127925928830808 : True := ⟨⟩
theorem Mine.main.tw15270170921892066516 : True := ⟨⟩
theorem Mine.main.tw15277975159832343749 : True := ⟨⟩
theorem Mine.main.tw15303317825217679618 : True := ⟨⟩
theorem Mine.main.tw15350898050860989542 : True := ⟨⟩
theorem Mine.main.tw15365013842991253249 : True := ⟨⟩
theorem Mine.main.tw15391090406613580290 : True := ⟨⟩
theorem Mine.main.tw15410482203810522393 : True := ⟨⟩
theorem Mine.main.tw15438212644395081984 : True := ⟨⟩
theorem Mine.main.tw1545906260438175962 : True := ⟨⟩
theorem Mine.main.tw15465920861327815835 : True := ⟨⟩
theorem Mine.main.tw15467891735981029475 : True := ⟨⟩
theorem Mine.main.tw15485851114877660061 : True := ⟨⟩
theorem Mine.main.tw15491723280356408159 : True := ⟨⟩
theorem Mine.main.tw15510692781650021527 : True := ⟨⟩
theorem Mine.main.tw15558288988949320067 : True := ⟨⟩
theorem Mine.main.tw15579395750891953841 : True := ⟨⟩
theorem Mine.main.tw15580989882048331800 : True := ⟨⟩
theorem Mine.main.tw15595112118272840620 : True := ⟨⟩
theorem Mine.main.tw15608450976537380609 : True := ⟨⟩
theorem Mine.main.tw15624239662980076321 : True := ⟨⟩
theorem Mine.main.tw15643365686152983790 : True := ⟨⟩
theorem Mine.main.tw15734200111481486640 : True := ⟨⟩
theorem Mine.main.tw15734660467963936456 : True := ⟨⟩
theorem Mine.main.tw15737690656516749961 : True := ⟨⟩
theorem Mine.main.tw15768048840197415361 : True := ⟨⟩
theorem Mine.main.tw15803610866087392283 : True := ⟨⟩
theorem Mine.main.tw15928290008803537013 : True := ⟨⟩
theorem Mine.main.tw15955573374722617477 : True := ⟨⟩
theorem Mine.main.tw15957597259013190341 : True := ⟨⟩
theorem Mine.main.tw15970538086172389420 : True := ⟨⟩
theorem Mine.main.tw15984706205718930553 : True := ⟨⟩
theorem Mine.main.tw16008252555379753968 : True := ⟨⟩
theorem Mine.main.tw16008457594558532635 : True := ⟨⟩
theorem Mine.main.tw16022572192331126682 : True := ⟨⟩
theorem Mine.main.tw16049902774474827687 : True := ⟨⟩
theorem Mine.main.tw16102231251864390963 : True := ⟨⟩
theorem Mine.main.tw16135426469972691074 : True := ⟨⟩
theorem Mine.main.tw16136984950599521427 : True := ⟨⟩
theorem Mine.main.tw1615045767204293396 : True := ⟨⟩
theorem Mine.main.tw16153842264607907944 : True := ⟨⟩
theorem Mine.main.tw1615956725737779560 : True := ⟨⟩
theorem Mine.main.tw16187894506366716058 : True := ⟨⟩
theorem Mine.main.tw161903638078081290 : True := ⟨⟩
theorem Mine.main.tw16193401482309157537 : True := ⟨⟩
theorem Mine.main.tw16218864148678617972 : True := ⟨⟩
theorem Mine.main.tw16251939892948500945 : True := ⟨⟩
theorem Mine.main.tw1628013610222277130 : True := ⟨⟩
theorem Mine.main.tw16292202817602668162 : True := ⟨⟩
theorem Mine.main.tw16305672181175384284 : True := ⟨⟩
theorem Mine.main.tw16320215318167395912 : True := ⟨⟩
theorem Mine.main.tw1632041292262086317 : True := ⟨⟩
theorem Mine.main.tw16320729459185622934 : True := ⟨⟩
theorem Mine.main.tw16356685582667847594 : True := ⟨⟩
theorem Mine.main.tw16411370214107742406 : True := ⟨⟩
theorem Mine.main.tw16451033083921036709 : True := ⟨⟩
theorem Mine.main.tw16452447596832230105 : True := ⟨⟩
theorem Mine.main.tw1645717771770832407 : True := ⟨⟩
theorem Mine.main.tw16480584520131690045 : True := ⟨⟩
theorem Mine.main.tw16508919721030705984 : True := ⟨⟩
theorem Mine.main.tw16519101796099990279 : True := ⟨⟩
theorem Mine.main.tw16544489699163171333 : True := ⟨⟩
theorem Mine.main.tw16629339528299215175 : True := ⟨⟩
theorem Mine.main.tw16721930046160240684 : True := ⟨⟩
theorem Mine.main.tw16757190730947197508 : True := ⟨⟩
theorem Mine.main.tw16765925921980633802 : True := ⟨⟩
theorem Mine.main.tw16778611742570070204 : True := ⟨⟩
theorem Mine.main.tw1678875084529416142 : True := ⟨⟩
theorem Mine.main.tw16790050636404226231 : True := ⟨⟩
theorem Mine.main.tw16798622893749714585 : True := ⟨⟩
theorem Mine.main.tw16817993663026736274 : True := ⟨⟩
theorem Mine.main.tw16819838333489098493 : True := ⟨⟩
theorem Mine.main.tw16826212616301561204 : True := ⟨⟩
theorem Mine.main.tw16832360635688203351 : True := ⟨⟩
theorem Mine.main.tw16922381011570985944 : True := ⟨⟩
theorem Mine.main.tw16923884221124529275 : True := ⟨⟩
theorem Mine.main.tw16950194794029067938 : True := ⟨⟩
theorem Mine.main.tw16952715711813285254 : True := ⟨⟩
theorem Mine.main.tw16965079339398995527 : True := ⟨⟩
theorem Mine.main.tw17052023290607921161 : True := ⟨⟩
theorem Mine.main.tw17057053908230417247 : True := ⟨⟩
theorem Mine.main.tw17091655785135471103 : True := ⟨⟩
theorem Mine.main.tw17118054049896295152 : True := ⟨⟩
theorem Mine.main.tw17128291446047057950 : True := ⟨⟩
theorem Mine.main.tw17146568849442343683 : True := ⟨⟩
theorem Mine.main.tw17147588175821073265 : True := ⟨⟩
theorem Mine.main.tw1714950047550659301 : True := ⟨⟩
theorem Mine.main.tw17201416709059790184 : True := ⟨⟩
theorem Mine.main.tw17236958762192778904 : True := ⟨⟩
theorem Mine.main.tw17264900360498390715 : True := ⟨⟩
theorem Mine.main.tw17268439761433841065 : True := ⟨⟩
theorem Mine.main.tw17272174723667511238 : True := ⟨⟩
theorem Mine.main.tw17275675667316583603 : True := ⟨⟩
theorem Mine.main.tw17290568124846718506 : True := ⟨⟩
theorem Mine.main.tw17292155258170135553 : True := ⟨⟩
theorem Mine.main.tw17297283025540448806 : True := ⟨⟩
theorem Mine.main.tw17336282652733537790 : True := ⟨⟩
theorem Mine.main.tw17402982504261768225 : True := ⟨⟩
theorem Mine.main.tw17403433191596464782 : True := ⟨⟩
theorem Mine.main.tw17413556829735388813 : True := ⟨⟩
theorem Mine.main.tw17431719831054627609 : True := ⟨⟩
theorem Mine.main.tw17453503289922162039 : True := ⟨⟩
theorem Mine.main.tw17456035664235451855 : True := ⟨⟩
theorem Mine.main.tw17495560712657236704 : True := ⟨⟩
theorem Mine.main.tw17510229520200029679 : True := ⟨⟩
theorem Mine.main.tw17561526911342447988 : True := ⟨⟩
theorem Mine.main.tw17644181745481072423 : True := ⟨⟩
theorem Mine.main.tw17679725944135375923 : True := ⟨⟩
theorem Mine.main.tw17699438841360665129 : True := ⟨⟩
theorem Mine.main.tw17708487481403421675 : True := ⟨⟩
theorem Mine.main.tw17715262827843222689 : True := ⟨⟩
theorem Mine.main.tw17725498274588495791 : True := ⟨⟩
theorem Mine.main.tw17737603089517620647 : True := ⟨⟩
theorem Mine.main.tw17767330081159143506 : True := ⟨⟩
theorem Mine.main.tw1777545030009416734 : True := ⟨⟩
theorem Mine.main.tw17864028415675338326 : True := ⟨⟩
theorem Mine.main.tw17871620999419790863 : True := ⟨⟩
theorem Mine.main.tw17881236498052965442 : True := ⟨⟩
theorem Mine.main.tw17906638245316424091 : True := ⟨⟩
theorem Mine.main.tw17974016328880235120 : True := ⟨⟩
theorem Mine.main.tw18031918436515192882 : True := ⟨⟩
theorem Mine.main.tw18120430973489738927 : True := ⟨⟩
theorem Mine.main.tw18134284020713443437 : True := ⟨⟩
theorem Mine.main.tw18165044119631177899 : True := ⟨⟩
theorem Mine.main.tw18178676814319149831 : True := ⟨⟩
theorem Mine.main.tw18190005008629794160 : True := ⟨⟩
theorem Mine.main.tw18238007617527299592 : True := ⟨⟩
theorem Mine.main.tw1826329307503635854 : True := ⟨⟩
theorem Mine.main.tw18284262389922463811 : True := ⟨⟩
theorem Mine.main.tw18287795668848337631 : True := ⟨⟩
theorem Mine.main.tw18302796317244248524 : True := ⟨⟩
theorem Mine.main.tw18315214858253571532 : True := ⟨⟩
theorem Mine.main.tw18325589031809861271 : True := ⟨⟩
theorem Mine.main.tw18332899500509843999 : True := ⟨⟩
theorem Mine.main.tw18344032359734412310 : True := ⟨⟩
theorem Mine.main.tw18385570937342765463 : True := ⟨⟩
theorem Mine.main.tw18392154025008590481 : True := ⟨⟩
theorem Mine.main.tw18403998269306519403 : True := ⟨⟩
theorem Mine.main.tw18418235949754561950 : True := ⟨⟩
theorem Mine.main.tw18421580907717582127 : True := ⟨⟩
theorem Mine.main.tw18431692314602308842 : True := ⟨⟩
theorem Mine.main.tw1850612553970854742 : True := ⟨⟩
theorem Mine.main.tw1886080085820668685 : True := ⟨⟩
theorem Mine.main.tw1920180009587919529 : True := ⟨⟩
theorem Mine.main.tw1980160206288974728 : True := ⟨⟩
theorem Mine.main.tw2007339730380871907 : True := ⟨⟩
theorem Mine.main.tw2019394398466159022 : True := ⟨⟩
theorem Mine.main.tw2039954845988140816 : True := ⟨⟩
theorem Mine.main.tw2058021452347087232 : True := ⟨⟩
theorem Mine.main.tw2110754180369666209 : True := ⟨⟩
theorem Mine.main.tw2173562974560187446 : True := ⟨⟩
theorem Mine.main.tw2190695567426971638 : True := ⟨⟩
theorem Mine.main.tw2195194259037543316 : True := ⟨⟩
theorem Mine.main.tw221909299271738847 : True := ⟨⟩
theorem Mine.main.tw223528310411579522 : True := ⟨⟩
theorem Mine.main.tw2279707942289718827 : True := ⟨⟩
theorem Mine.main.tw2287757881348798766 : True := ⟨⟩
theorem Mine.main.tw2341703837736514645 : True := ⟨⟩
theorem Mine.main.tw2402762420636078793 : True := ⟨⟩
theorem Mine.main.tw2406621943657119228 : True := ⟨⟩
theorem Mine.main.tw2428412748925179849 : True := ⟨⟩
theorem Mine.main.tw2433702464844828792 : True := ⟨⟩
theorem Mine.main.tw244467455267321384 : True := ⟨⟩
theorem Mine.main.tw2456247091588846565 : True := ⟨⟩
theorem Mine.main.tw2524017781993486291 : True := ⟨⟩
theorem Mine.main.tw2524771143324633706 : True := ⟨⟩
theorem Mine.main.tw2536022793157215605 : True := ⟨⟩
theorem Mine.main.tw2538046985915079169 : True := ⟨⟩
theorem Mine.main.tw2544328076492683441 : True := ⟨⟩
theorem Mine.main.tw2583023086579268501 : True := ⟨⟩
theorem Mine.main.tw2629084897520917108 : True := ⟨⟩
theorem Mine.main.tw2647654807098235363 : True := ⟨⟩
theorem Mine.main.tw2702614204127132176 : True := ⟨⟩
theorem Mine.main.tw2704602940660078815 : True := ⟨⟩
theorem Mine.main.tw2714283472998740243 : True := ⟨⟩
theorem Mine.main.tw2724176850512262202 : True := ⟨⟩
theorem Mine.main.tw2744014450722944760 : True := ⟨⟩
theorem Mine.main.tw2750411421705246143 : True := ⟨⟩
theorem Mine.main.tw2759098988195820126 : True := ⟨⟩
theorem Mine.main.tw2821470743931037460 : True := ⟨⟩
theorem Mine.main.tw2852251193174398662 : True := ⟨⟩
theorem Mine.main.tw2895952525429962455 : True := ⟨⟩
theorem Mine.main.tw2900998541784483753 : True := ⟨⟩
theorem Mine.main.tw2906824675625879941 : True := ⟨⟩
theorem Mine.main.tw2921621734765799159 : True := ⟨⟩
theorem Mine.main.tw2921958311620399285 : True := ⟨⟩
theorem Mine.main.tw2975029662820216040 : True := ⟨⟩
theorem Mine.main.tw302440914744352476 : True := ⟨⟩
theorem Mine.main.tw3027586509356016917 : True := ⟨⟩
theorem Mine.main.tw3160845607165458772 : True := ⟨⟩
theorem Mine.main.tw31828345220925962 : True := ⟨⟩
theorem Mine.main.tw3223929202518992865 : True := ⟨⟩
theorem Mine.main.tw3234112476842188716 : True := ⟨⟩
theorem Mine.main.tw3298483428156984901 : True := ⟨⟩
theorem Mine.main.tw3299218664060906527 : True := ⟨⟩
theorem Mine.main.tw330327031418712150 : True := ⟨⟩
theorem Mine.main.tw3305931106042330821 : True := ⟨⟩
theorem Mine.main.tw3314904115985164895 : True := ⟨⟩
theorem Mine.main.tw3334898401069334800 : True := ⟨⟩
theorem Mine.main.tw33456957511925785 : True := ⟨⟩
theorem Mine.main.tw3370190323706015969 : True := ⟨⟩
theorem Mine.main.tw3370842686811476594 : True := ⟨⟩
theorem Mine.main.tw3394367416137920725 : True := ⟨⟩
theorem Mine.main.tw341453280667917650 : True := ⟨⟩
theorem Mine.main.tw3454311308915712629 : True := ⟨⟩
theorem Mine.main.tw3464709057266567092 : True := ⟨⟩
theorem Mine.main.tw3466206800631347469 : True := ⟨⟩
theorem Mine.main.tw3491332818749588091 : True := ⟨⟩
theorem Mine.main.tw3532412968194664532 : True := ⟨⟩
theorem Mine.main.tw3549514262204291990 : True := ⟨⟩
theorem Mine.main.tw3557749057250611081 : True := ⟨⟩
theorem Mine.main.tw3562595001068472590 : True := ⟨⟩
theorem Mine.main.tw3583811862363856187 : True := ⟨⟩
theorem Mine.main.tw358491910552652209 : True := ⟨⟩
theorem Mine.main.tw3613476055612923068 : True := ⟨⟩
theorem Mine.main.tw3627144658338631552 : True := ⟨⟩
theorem Mine.main.tw365850788961202214 : True := ⟨⟩
theorem Mine.main.tw3706830351922483016 : True := ⟨⟩
theorem Mine.main.tw3748114642381145586 : True := ⟨⟩
theorem Mine.main.tw3768103844333499927 : True := ⟨⟩
theorem Mine.main.tw3779293765908593550 : True := ⟨⟩
theorem Mine.main.tw3796207824708393856 : True := ⟨⟩
theorem Mine.main.tw3848698983108048278 : True := ⟨⟩
theorem Mine.main.tw3864431920445960829 : True := ⟨⟩
theorem Mine.main.tw3867218068155391060 : True := ⟨⟩
theorem Mine.main.tw3905226178654972811 : True := ⟨⟩
theorem Mine.main.tw3911810758690780188 : True := ⟨⟩
theorem Mine.main.tw3958507339218470045 : True := ⟨⟩
theorem Mine.main.tw3960113756560652017 : True := ⟨⟩
theorem Mine.main.tw3994622017586750766 : True := ⟨⟩
theorem Mine.main.tw4026956272090484662 : True := ⟨⟩
theorem Mine.main.tw4038153913678941442 : True := ⟨⟩
theorem Mine.main.tw4044139247061151142 : True := ⟨⟩
theorem Mine.main.tw4072190877284726289 : True := ⟨⟩
theorem Mine.main.tw4088224383575840552 : True := ⟨⟩
theorem Mine.main.tw4126091431370883743 : True := ⟨⟩
theorem Mine.main.tw4139100593308808776 : True := ⟨⟩
theorem Mine.main.tw4156125974679941130 : True := ⟨⟩
theorem Mine.main.tw4189750870438640210 : True := ⟨⟩
theorem Mine.main.tw4193505271845495863 : True := ⟨⟩
theorem Mine.main.tw4216741518440994707 : True := ⟨⟩
theorem Mine.main.tw4297412468100583042 : True := ⟨⟩
theorem Mine.main.tw4310270188432123100 : True := ⟨⟩
theorem Mine.main.tw4324958949535026087 : True := ⟨⟩
theorem Mine.main.tw4330594992337426955 : True := ⟨⟩
theorem Mine.main.tw4333880214566435006 : True := ⟨⟩
theorem Mine.main.tw4365514962571936147 : True := ⟨⟩
theorem Mine.main.tw4413345314126155841 : True := ⟨⟩
theorem Mine.main.tw4452170602077327944 : True := ⟨⟩
theorem Mine.main.tw4458048076830672230 : True := ⟨⟩
theorem Mine.main.tw4475767826048309731 : True := ⟨⟩
theorem Mine.main.tw4500915450034043215 : True := ⟨⟩
theorem Mine.main.tw451873465583785326 : True := ⟨⟩
theorem Mine.main.tw452746233719593009 : True := ⟨⟩
theorem Mine.main.tw453184122279072053 : True := ⟨⟩
theorem Mine.main.tw4544244032028310869 : True := ⟨⟩
theorem Mine.main.tw4573282807186111410 : True := ⟨⟩
theorem Mine.main.tw4585930131862741453 : True := ⟨⟩
theorem Mine.main.tw4630824681090250767 : True := ⟨⟩
theorem Mine.main.tw4637267157515435788 : True := ⟨⟩
theorem Mine.main.tw4638281056170512193 : True := ⟨⟩
theorem Mine.main.tw471287901995484742 : True := ⟨⟩
theorem Mine.main.tw4719957520787936630 : True := ⟨⟩
theorem Mine.main.tw474381771622712015 : True := ⟨⟩
theorem Mine.main.tw4749052000479324790 : True := ⟨⟩
theorem Mine.main.tw4766233809647381661 : True := ⟨⟩
theorem Mine.main.tw4775608329324902142 : True := ⟨⟩
theorem Mine.main.tw4812270449578504274 : True := ⟨⟩
theorem Mine.main.tw4839478117068044826 : True := ⟨⟩
theorem Mine.main.tw48596604365144762 : True := ⟨⟩
theorem Mine.main.tw4900431672193113347 : True := ⟨⟩
theorem Mine.main.tw4908570168794737769 : True := ⟨⟩
theorem Mine.main.tw4917070330192852093 : True := ⟨⟩
theorem Mine.main.tw4924694640843408985 : True := ⟨⟩
theorem Mine.main.tw4946776927847147119 : True := ⟨⟩
theorem Mine.main.tw4948327476702027199 : True := ⟨⟩
theorem Mine.main.tw49674306023711395 : True := ⟨⟩
theorem Mine.main.tw4990475226369331113 : True := ⟨⟩
theorem Mine.main.tw5061512775090418087 : True := ⟨⟩
theorem Mine.main.tw5084117380071580128 : True := ⟨⟩
theorem Mine.main.tw5102693214775723256 : True := ⟨⟩
theorem Mine.main.tw5104194264097766351 : True := ⟨⟩
theorem Mine.main.tw5127751686995613262 : True := ⟨⟩
theorem Mine.main.tw5203219222101121401 : True := ⟨⟩
theorem Mine.main.tw52199770228462824 : True := ⟨⟩
theorem Mine.main.tw5234446048077146213 : True := ⟨⟩
theorem Mine.main.tw5243159528196176124 : True := ⟨⟩
theorem Mine.main.tw5287059835090251167 : True := ⟨⟩
theorem Mine.main.tw5289026146741335887 : True := ⟨⟩
theorem Mine.main.tw5309058905264134205 : True := ⟨⟩
theorem Mine.main.tw5363903885879670357 : True := ⟨⟩
theorem Mine.main.tw5372645768047454471 : True := ⟨⟩
theorem Mine.main.tw5378808338967829844 : True := ⟨⟩
theorem Mine.main.tw5396361742852586263 : True := ⟨⟩
theorem Mine.main.tw5400957986263281647 : True := ⟨⟩
theorem Mine.main.tw5401703158475992631 : True := ⟨⟩
theorem Mine.main.tw5418533224930618480 : True := ⟨⟩
theorem Mine.main.tw5436791530062809996 : True := ⟨⟩
theorem Mine.main.tw5450094653865882931 : True := ⟨⟩
theorem Mine.main.tw545269030811804461 : True := ⟨⟩
theorem Mine.main.tw5456330333991267789 : True := ⟨⟩
theorem Mine.main.tw5473700226181020891 : True := ⟨⟩
theorem Mine.main.tw5502569546826302122 : True := ⟨⟩
theorem Mine.main.tw5517759331935216279 : True := ⟨⟩
theorem Mine.main.tw5518243967957118194 : True := ⟨⟩
theorem Mine.main.tw5532463470591059822 : True := ⟨⟩
theorem Mine.main.tw5585478044538960755 : True := ⟨⟩
theorem Mine.main.tw5613160597433933154 : True := ⟨⟩
theorem Mine.main.tw5616070069386785504 : True := ⟨⟩
theorem Mine.main.tw5623159541915647742 : True := ⟨⟩
theorem Mine.main.tw5638201095994319732 : True := ⟨⟩
theorem Mine.main.tw5649967823195072380 : True := ⟨⟩
theorem Mine.main.tw5665406974723832613 : True := ⟨⟩
theorem Mine.main.tw5671064798259553346 : True := ⟨⟩
theorem Mine.main.tw5677329702179833609 : True := ⟨⟩
theorem Mine.main.tw5797031442667253490 : True := ⟨⟩
theorem Mine.main.tw5831584030425509755 : True := ⟨⟩
theorem Mine.main.tw5837888446457221635 : True := ⟨⟩
theorem Mine.main.tw5842977544298395883 : True := ⟨⟩
theorem Mine.main.tw5871769198996169552 : True := ⟨⟩
theorem Mine.main.tw588950844065142505 : True := ⟨⟩
theorem Mine.main.tw5995161000843957690 : True := ⟨⟩
theorem Mine.main.tw6019089244302038806 : True := ⟨⟩
theorem Mine.main.tw6044114016751833949 : True := ⟨⟩
theorem Mine.main.tw6053611964639427726 : True := ⟨⟩
theorem Mine.main.tw6075091234017535682 : True := ⟨⟩
theorem Mine.main.tw6087835443962453003 : True := ⟨⟩
theorem Mine.main.tw6161133996638707016 : True := ⟨⟩
theorem Mine.main.tw6162249291895867263 : True := ⟨⟩
theorem Mine.main.tw6164561884633627433 : True := ⟨⟩
theorem Mine.main.tw6183352029847204284 : True := ⟨⟩
theorem Mine.main.tw6214117541549086881 : True := ⟨⟩
theorem Mine.main.tw6222487380544312443 : True := ⟨⟩
theorem Mine.main.tw6237627108579964202 : True := ⟨⟩
theorem Mine.main.tw6334894449686545209 : True := ⟨⟩
theorem Mine.main.tw6361450105264607166 : True := ⟨⟩
theorem Mine.main.tw6385024630547198690 : True := ⟨⟩
theorem Mine.main.tw6389877041954997217 : True := ⟨⟩
theorem Mine.main.tw6418098437765475518 : True := ⟨⟩
theorem Mine.main.tw6449824600675878752 : True := ⟨⟩
theorem Mine.main.tw645136716886899192 : True := ⟨⟩
theorem Mine.main.tw6455149578367423246 : True := ⟨⟩
theorem Mine.main.tw6459208003876673375 : True := ⟨⟩
theorem Mine.main.tw6511744376749373798 : True := ⟨⟩
theorem Mine.main.tw6516198228755648517 : True := ⟨⟩
theorem Mine.main.tw6541472054586571296 : True := ⟨⟩
theorem Mine.main.tw6542085627976250192 : True := ⟨⟩
theorem Mine.main.tw6545385358150927430 : True := ⟨⟩
theorem Mine.main.tw6557543464795787104 : True := ⟨⟩
theorem Mine.main.tw6559806142732475569 : True := ⟨⟩
theorem Mine.main.tw6565609875121592624 : True := ⟨⟩
theorem Mine.main.tw6584820252761975732 : True := ⟨⟩
theorem Mine.main.tw6596593509180878263 : True := ⟨⟩
theorem Mine.main.tw6632538468102435922 : True := ⟨⟩
theorem Mine.main.tw6635558491612396129 : True := ⟨⟩
theorem Mine.main.tw6639522245352263942 : True := ⟨⟩
theorem Mine.main.tw6657087868060814 : True := ⟨⟩
theorem Mine.main.tw6660377722381337597 : True := ⟨⟩
theorem Mine.main.tw6663778134991626487 : True := ⟨⟩
theorem Mine.main.tw6674386428176565332 : True := ⟨⟩
theorem Mine.main.tw6674893403203295414 : True := ⟨⟩
theorem Mine.main.tw6696893160125735727 : True := ⟨⟩
theorem Mine.main.tw6697339332421208802 : True := ⟨⟩
theorem Mine.main.tw6702130215012162313 : True := ⟨⟩
theorem Mine.main.tw6733737763892157800 : True := ⟨⟩
theorem Mine.main.tw6768520987592691376 : True := ⟨⟩
theorem Mine.main.tw6785657489111691699 : True := ⟨⟩
theorem Mine.main.tw6788530277367551627 : True := ⟨⟩
theorem Mine.main.tw6801380410627298636 : True := ⟨⟩
theorem Mine.main.tw6830175386113367255 : True := ⟨⟩
theorem Mine.main.tw6855474311058116810 : True := ⟨⟩
theorem Mine.main.tw6868236387235032019 : True := ⟨⟩
theorem Mine.main.tw6877560268529008848 : True := ⟨⟩
theorem Mine.main.tw6880717277089553138 : True := ⟨⟩
theorem Mine.main.tw6886502059237256666 : True := ⟨⟩
theorem Mine.main.tw6907636171062424033 : True := ⟨⟩
theorem Mine.main.tw6912675738884088206 : True := ⟨⟩
theorem Mine.main.tw6981815665589151136 : True := ⟨⟩
theorem Mine.main.tw7019240024125815769 : True := ⟨⟩
theorem Mine.main.tw7054876372555587774 : True := ⟨⟩
theorem Mine.main.tw7074144079889050967 : True := ⟨⟩
theorem Mine.main.tw7083192437325867461 : True := ⟨⟩
theorem Mine.main.tw7093617532817203218 : True := ⟨⟩
theorem Mine.main.tw7094614236668621563 : True := ⟨⟩
theorem Mine.main.tw7108953243070827183 : True := ⟨⟩
theorem Mine.main.tw7113585516715319716 : True := ⟨⟩
theorem Mine.main.tw7153082081811710619 : True := ⟨⟩
theorem Mine.main.tw716429049611869786 : True := ⟨⟩
theorem Mine.main.tw7165207203227711834 : True := ⟨⟩
theorem Mine.main.tw7186131708394509389 : True := ⟨⟩
theorem Mine.main.tw7221758910455160077 : True := ⟨⟩
theorem Mine.main.tw7235775444256392728 : True := ⟨⟩
theorem Mine.main.tw7237411587787531456 : True := ⟨⟩
theorem Mine.main.tw7268301785047649679 : True := ⟨⟩
theorem Mine.main.tw7273056430967151046 : True := ⟨⟩
theorem Mine.main.tw7293298908176781663 : True := ⟨⟩
theorem Mine.main.tw7297187181890747607 : True := ⟨⟩
theorem Mine.main.tw7298748307773712898 : True := ⟨⟩
theorem Mine.main.tw7308723440029596264 : True := ⟨⟩
theorem Mine.main.tw7332330508316399935 : True := ⟨⟩
theorem Mine.main.tw7358942708152152329 : True := ⟨⟩
theorem Mine.main.tw7411558596216406370 : True := ⟨⟩
theorem Mine.main.tw7439787175107056256 : True := ⟨⟩
theorem Mine.main.tw7472368607099979303 : True := ⟨⟩
theorem Mine.main.tw750237026923860459 : True := ⟨⟩
theorem Mine.main.tw7590696779544312186 : True := ⟨⟩
theorem Mine.main.tw7591743695986301205 : True := ⟨⟩
theorem Mine.main.tw7624122152786673341 : True := ⟨⟩
theorem Mine.main.tw7624293977416268664 : True := ⟨⟩
theorem Mine.main.tw7639352225515584698 : True := ⟨⟩
theorem Mine.main.tw7647378279178456250 : True := ⟨⟩
theorem Mine.main.tw7691172733374981047 : True := ⟨⟩
theorem Mine.main.tw7697417962357392202 : True := ⟨⟩
theorem Mine.main.tw7698036289167662538 : True := ⟨⟩
theorem Mine.main.tw7699798408344515789 : True := ⟨⟩
theorem Mine.main.tw7742616358663508648 : True := ⟨⟩
theorem Mine.main.tw7751025194823839400 : True := ⟨⟩
theorem Mine.main.tw7761410557224570781 : True := ⟨⟩
theorem Mine.main.tw785246043732427063 : True := ⟨⟩
theorem Mine.main.tw7875838824674609581 : True := ⟨⟩
theorem Mine.main.tw7884331609784382070 : True := ⟨⟩
theorem Mine.main.tw7895547168160840143 : True := ⟨⟩
theorem Mine.main.tw7904437144335635152 : True := ⟨⟩
theorem Mine.main.tw7929128423345735474 : True := ⟨⟩
theorem Mine.main.tw7943094425149488825 : True := ⟨⟩
theorem Mine.main.tw7974275031393228247 : True := ⟨⟩
theorem Mine.main.tw799486724532869496 : True := ⟨⟩
theorem Mine.main.tw8046773169563483271 : True := ⟨⟩
theorem Mine.main.tw8090509862211737132 : True := ⟨⟩
theorem Mine.main.tw8118072479153026202 : True := ⟨⟩
theorem Mine.main.tw8127475511531132179 : True := ⟨⟩
theorem Mine.main.tw8128210607045975953 : True := ⟨⟩
theorem Mine.main.tw8211959896082780389 : True := ⟨⟩
theorem Mine.main.tw8228058824784995430 : True := ⟨⟩
theorem Mine.main.tw8249873531624179374 : True := ⟨⟩
theorem Mine.main.tw8265370782698574782 : True := ⟨⟩
theorem Mine.main.tw8281396171620568247 : True := ⟨⟩
theorem Mine.main.tw833945537157984683 : True := ⟨⟩
theorem Mine.main.tw8440099810896429113 : True := ⟨⟩
theorem Mine.main.tw8466321980469482115 : True := ⟨⟩
theorem Mine.main.tw8467378866343419333 : True := ⟨⟩
theorem Mine.main.tw8478376212529829071 : True := ⟨⟩
theorem Mine.main.tw8484041278411425421 : True := ⟨⟩
theorem Mine.main.tw8496349624203035976 : True := ⟨⟩
theorem Mine.main.tw8546124895413445307 : True := ⟨⟩
theorem Mine.main.tw854977524454699277 : True := ⟨⟩
theorem Mine.main.tw8567518541235275850 : True := ⟨⟩
theorem Mine.main.tw8627561154394265716 : True := ⟨⟩
theorem Mine.main.tw8652556701797213591 : True := ⟨⟩
theorem Mine.main.tw8663697691656813868 : True := ⟨⟩
theorem Mine.main.tw8729708805864041840 : True := ⟨⟩
theorem Mine.main.tw8776555280059584169 : True := ⟨⟩
theorem Mine.main.tw8809968196449919288 : True := ⟨⟩
theorem Mine.main.tw8834365191522931223 : True := ⟨⟩
theorem Mine.main.tw8844999433837080629 : True := ⟨⟩
theorem Mine.main.tw8879939841973710529 : True := ⟨⟩
theorem Mine.main.tw8905992674379837232 : True := ⟨⟩
theorem Mine.main.tw8930851030842425676 : True := ⟨⟩
theorem Mine.main.tw8947760058931562597 : True := ⟨⟩
theorem Mine.main.tw8984930932524396370 : True := ⟨⟩
theorem Mine.main.tw8989776476301544223 : True := ⟨⟩
theorem Mine.main.tw9069182735580402390 : True := ⟨⟩
theorem Mine.main.tw9121559901702372667 : True := ⟨⟩
theorem Mine.main.tw9155575984036265788 : True := ⟨⟩
theorem Mine.main.tw917386388269078853 : True := ⟨⟩
theorem Mine.main.tw9175052073728820173 : True := ⟨⟩
theorem Mine.main.tw918671981122897330 : True := ⟨⟩
theorem Mine.main.tw9189880136782149556 : True := ⟨⟩
theorem Mine.main.tw9190990891756207365 : True := ⟨⟩
theorem Mine.main.tw9253799994812790149 : True := ⟨⟩
theorem Mine.main.tw9265829497004654079 : True := ⟨⟩
theorem Mine.main.tw9268297945177815525 : True := ⟨⟩
theorem Mine.main.tw9272984997812220495 : True := ⟨⟩
theorem Mine.main.tw9274054859765456524 : True := ⟨⟩
theorem Mine.main.tw9285572317770301432 : True := ⟨⟩
theorem Mine.main.tw9302470337196694018 : True := ⟨⟩
theorem Mine.main.tw9303439499767911484 : True := ⟨⟩
theorem Mine.main.tw9321267617633783869 : True := ⟨⟩
theorem Mine.main.tw9360745474812902239 : True := ⟨⟩
theorem Mine.main.tw9361130925298907136 : True := ⟨⟩
theorem Mine.main.tw9361300454564663673 : True := ⟨⟩
theorem Mine.main.tw9368617206455126095 : True := ⟨⟩
theorem Mine.main.tw9369988214560726041 : True := ⟨⟩
theorem Mine.main.tw9392487213469676918 : True := ⟨⟩
theorem Mine.main.tw9394770849952503311 : True := ⟨⟩
theorem Mine.main.tw9406782406253462049 : True := ⟨⟩
theorem Mine.main.tw9417822746687237092 : True := ⟨⟩
theorem Mine.main.tw9470667924834194258 : True := ⟨⟩
theorem Mine.main.tw9483120023164983764 : True := ⟨⟩
theorem Mine.main.tw9508770018378322450 : True := ⟨⟩
theorem Mine.main.tw9515011664573035354 : True := ⟨⟩
theorem Mine.main.tw9557352009045844224 : True := ⟨⟩
theorem Mine.main.tw9558744834307401277 : True := ⟨⟩
theorem Mine.main.tw9561784451562097942 : True := ⟨⟩
theorem Mine.main.tw9563168847844234846 : True := ⟨⟩
theorem Mine.main.tw961187720498965250 : True := ⟨⟩
theorem Mine.main.tw962032349192862916 : True := ⟨⟩
theorem Mine.main.tw962193829226610041 : True := ⟨⟩
theorem Mine.main.tw9656510801202774680 : True := ⟨⟩
theorem Mine.main.tw9681375758050803366 : True := ⟨⟩
theorem Mine.main.tw9682133043923132273 : True := ⟨⟩
theorem Mine.main.tw9730157408454304684 : True := ⟨⟩
theorem Mine.main.tw979501456738626862 : True := ⟨⟩
theorem Mine.main.tw9808303207383738048 : True := ⟨⟩
theorem Mine.main.tw9840939614602229412 : True := ⟨⟩
theorem Mine.main.tw9848185148710128376 : True := ⟨⟩
theorem Mine.main.tw9880953963774564861 : True := ⟨⟩
theorem Mine.main.tw9897820754763898449 : True := ⟨⟩
theorem Mine.main.tw9925469786538053656 : True := ⟨⟩
theorem Mine.main.tw9957550378297406723 : True := ⟨⟩
theorem Mine.main.tw9964214247947446159 : True := ⟨⟩
theorem Mine.main.tw9976160756891316704 : True := ⟨⟩
theorem Mine.main.tw9994787619460420439 : True := ⟨⟩
theorem Mine.main : PySem.Challenge.rw_sm0020_01.Holds := by
  w_on; o_law; k_head; (case hw => w_witness2)
  k_fill
  intro w s₀ s₁ mg mb G Y fa o pm cd doc dV kV ho hd hcd hD hmg hg args vals as hpre hlay hrd hwl hlo
  have KX := kIn_of Y
  have X := (Ground.X G).1
  have V := (Ground.X G).2
  refine Ground.open G ?_
  intro T B D TE TW
  clear D
  obtain ⟨_, _, M⟩ := bmod_of_top T
  have TA := at_of_top T
  clear hmg
  wrow_args hpre hlay hrd hwl hlo
  all_goals (
    first | refine callC_kw (enter_call ?_) | refine enter_call ?_ | refine callC_kw (enter_callW ?_) | refine enter_callW ?_ | w_how
    w_top on
    try refine codeAny_mono ?_ (fun _ _ g => GoodW.toG g)
    have K0 := below_caller (Top.heap T)
    w_call any ho hd hcd hD T F
    clear hd TA
    k_drop
    skip)
  (all_goals try k_fold)
  iterate 22 (first | (k_unfold; (try dsimp only)) | walk1 | (dsimp only; walk1))
  refine Mine.law_fin ?kf (by assumption) (Top.g (by assumption)) (Top.b (by assumption)) (Top.builtins (by assumption)) (Top.nolimit (by assumption)) (by assumption) (by assumption) (by rfl) (by assumption) (by assumption) (by assumption) (by assumption)
    ?_ rfl rfl rfl rfl rfl rfl (by kernel_rfl) rfl ?_ rfl rfl ?_ ?_ ?_ ?_ ?_ ?_
  case kf =>
    refine ⟨?c9, ?c43, ?c104, ?gi, ?gf, ?gt0, ?gt1, ?bi⟩
    case c9 => exact ⟨⟨by k_is, by k_is, fun n x h => (show ∀ x ∈ Mine.attrNames, PySem.W.findIn _ (.ref 133) x = some none from List.forall_mem_cons.2 ⟨by k_is, List.forall_mem_cons.2 ⟨by k_is, List.forall_mem_cons.2 ⟨by k_is, List.forall_mem_cons.2 ⟨by k_is, List.forall_mem_cons.2 ⟨by k_is, List.forall_mem_cons.2 ⟨by k_is, List.forall_mem_cons.2 ⟨by k_is, List.forall_mem_cons.2 ⟨by k_is, List.forall_mem_cons.2 ⟨by k_is, List.forall_mem_cons.2 ⟨by k_is, List.forall_mem_cons.2 ⟨by k_is, List.forall_mem_cons.2 ⟨by k_is, List.forall_mem_cons.2 ⟨by k_is, List.forall_mem_cons.2 ⟨by k_is, List.forall_mem_cons.2 ⟨by k_is, List.forall_mem_cons.2 ⟨by k_is, List.forall_mem_cons.2 ⟨by k_is, List.forall_mem_cons.2 ⟨by k_is, List.forall_mem_cons.2 ⟨by k_is, List.forall_mem_cons.2 ⟨by k_is, List.forall_mem_cons.2 ⟨by k_is, List.forall_mem_cons.2 ⟨by k_is, List.forall_mem_cons.2 ⟨by k_is, List.forall_mem_cons.2 ⟨by k_is, List.forall_mem_cons.2 ⟨by k_is, List.forall_mem_cons.2 ⟨by k_is, List.forall_mem_cons.2 ⟨by k_is, fun _ h => by cases h⟩⟩⟩⟩⟩⟩⟩⟩⟩⟩⟩⟩⟩⟩⟩⟩⟩⟩⟩⟩⟩⟩⟩⟩⟩⟩⟩) x (List.mem_of_getElem? h), by k_is, by k_is⟩, by k_is, by k_is, by k_is, by k_is, by k_is,
        ⟨by k_is, _, _, [PySem.Str.ofString "self", PySem.Str.ofString "files", PySem.Str.ofString "ranks", PySem.Str.ofString "has_double", PySem.Str.ofString "has_castling"], _, by k_is, by exact rfl, by k_is, by exact rfl, by exact .of rfl rfl rfl rfl rfl rfl rfl rfl rfl rfl rfl rfl (by kernel_rfl) (by kernel_rfl), by exact rfl, by exact rfl,
          by exact (show Mine.RB _ [] _ Mine.f9.body from (.seq (.setAttr rfl rfl (.loc rfl) (.loc rfl)) (.seq (.setAttr rfl rfl (.loc rfl) (.loc rfl)) (.seq (.setAttr rfl rfl (.loc rfl) (.op2 (o := .mul) (.loc rfl) (.loc rfl))) (.seq (.setAttr rfl rfl (.loc rfl) (.op2 (o := .sub) (.op2 (o := .shl) .int (.op2 (o := .mul) (.loc rfl) (.loc rfl))) .int)) (.seq (.setAttr rfl rfl (.loc rfl) (.bo (.and (.loc rfl) (.one (.cmp (o := .ge) (.loc rfl) .int))))) (.seq (.setAttr rfl rfl (.loc rfl) (.loc rfl)) (.seq (.setAttr rfl rfl (.loc rfl) (.list .nil)) (.seq (.setAttr rfl rfl (.loc rfl) (.list .nil)) (.seq (.setAttr rfl rfl (.loc rfl) (.list .nil)) (.seq (.setAttr rfl rfl (.loc rfl) (.list .nil)) (.seq (.setAttr rfl rfl (.loc rfl) (.list .nil)) (.seq (.setAttr rfl rfl (.loc rfl) (.list (.cons (.list .nil) (.cons (.list .nil) .nil)))) (.seq (.setAttr rfl rfl (.loc rfl) (.list .nil)) (.seq (.setAttr rfl rfl (.loc rfl) (.list .nil)) .done)))))))))))))))⟩⟩
    case c43 => exact ⟨⟨by k_is, by k_is, fun n x h => (show ∀ x ∈ Mine.attrNames, PySem.W.findIn _ (.ref 383) x = some none from List.forall_mem_cons.2 ⟨by k_is, List.forall_mem_cons.2 ⟨by k_is, List.forall_mem_cons.2 ⟨by k_is, List.forall_mem_cons.2 ⟨by k_is, List.forall_mem_cons.2 ⟨by k_is, List.forall_mem_cons.2 ⟨by k_is, List.forall_mem_cons.2 ⟨by k_is, List.forall_mem_cons.2 ⟨by k_is, List.forall_mem_cons.2 ⟨by k_is, List.forall_mem_cons.2 ⟨by k_is, List.forall_mem_cons.2 ⟨by k_is, List.forall_mem_cons.2 ⟨by k_is, List.forall_mem_cons.2 ⟨by k_is, List.forall_mem_cons.2 ⟨by k_is, List.forall_mem_cons.2 ⟨by k_is, List.forall_mem_cons.2 ⟨by k_is, List.forall_mem_cons.2 ⟨by k_is, List.forall_mem_cons.2 ⟨by k_is, List.forall_mem_cons.2 ⟨by k_is, List.forall_mem_cons.2 ⟨by k_is, List.forall_mem_cons.2 ⟨by k_is, List.forall_mem_cons.2 ⟨by k_is, List.forall_mem_cons.2 ⟨by k_is, List.forall_mem_cons.2 ⟨by k_is, List.forall_mem_cons.2 ⟨by k_is, List.forall_mem_cons.2 ⟨by k_is, List.forall_mem_cons.2 ⟨by k_is, fun _ h => by cases h⟩⟩⟩⟩⟩⟩⟩⟩⟩⟩⟩⟩⟩⟩⟩⟩⟩⟩⟩⟩⟩⟩⟩⟩⟩⟩⟩) x (List.mem_of_getElem? h), by k_is, by k_is⟩, by k_is, by k_is, by k_is, by k_is, by k_is,
        ⟨by k_is, _, _, [PySem.Str.ofString "self", PySem.Str.ofString "geo", PySem.Str.ofString "zob"], _, by k_is, by exact rfl, by k_is, by exact rfl, by exact .of rfl rfl rfl rfl rfl rfl rfl rfl rfl rfl rfl rfl (by kernel_rfl) (by kernel_rfl), by exact rfl, by exact rfl,
          by exact (show Mine.RB _ [] _ Mine.f43.body from (.seq (.setAttr rfl rfl (.loc rfl) (.loc rfl)) (.seq (.setAttr rfl rfl (.loc rfl) (.loc rfl)) (.seq (.setAttr rfl rfl (.loc rfl) (.op2 (o := .mul) (.list (.cons (.gint (q := 14) rfl rfl) .nil)) (.attr rfl rfl (.loc rfl)))) (.seq (.setAttr rfl rfl (.loc rfl) (.op2 (o := .mul) (.list (.cons .int .nil)) .int)) (.seq (.setAttr rfl rfl (.loc rfl) (.list (.cons .int (.cons .int .nil)))) (.seq (.setAttr rfl rfl (.loc rfl) (.gint (q := 11) rfl rfl)) (.seq (.setAttr rfl rfl (.loc rfl) .int) (.seq (.setAttr rfl rfl (.loc rfl) (.neg .int)) (.seq (.setAttr rfl rfl (.loc rfl) .int) (.seq (.setAttr rfl rfl (.loc rfl) .int) (.seq (.setAttr rfl rfl (.loc rfl) .int) (.seq (.setAttr rfl rfl (.loc rfl) (.list .nil)) .done)))))))))))))⟩⟩
    case c104 => exact ⟨⟨by k_is, by k_is, fun n x h => (show ∀ x ∈ Mine.attrNames, PySem.W.findIn _ (.ref 824) x = some none from List.forall_mem_cons.2 ⟨by k_is, List.forall_mem_cons.2 ⟨by k_is, List.forall_mem_cons.2 ⟨by k_is, List.forall_mem_cons.2 ⟨by k_is, List.forall_mem_cons.2 ⟨by k_is, List.forall_mem_cons.2 ⟨by k_is, List.forall_mem_cons.2 ⟨by k_is, List.forall_mem_cons.2 ⟨by k_is, List.forall_mem_cons.2 ⟨by k_is, List.forall_mem_cons.2 ⟨by k_is, List.forall_mem_cons.2 ⟨by k_is, List.forall_mem_cons.2 ⟨by k_is, List.forall_mem_cons.2 ⟨by k_is, List.forall_mem_cons.2 ⟨by k_is, List.forall_mem_cons.2 ⟨by k_is, List.forall_mem_cons.2 ⟨by k_is, List.forall_mem_cons.2 ⟨by k_is, List.forall_mem_cons.2 ⟨by k_is, List.forall_mem_cons.2 ⟨by k_is, List.forall_mem_cons.2 ⟨by k_is, List.forall_mem_cons.2 ⟨by k_is, List.forall_mem_cons.2 ⟨by k_is, List.forall_mem_cons.2 ⟨by k_is, List.forall_mem_cons.2 ⟨by k_is, List.forall_mem_cons.2 ⟨by k_is, List.forall_mem_cons.2 ⟨by k_is, List.forall_mem_cons.2 ⟨by k_is, fun _ h => by cases h⟩⟩⟩⟩⟩⟩⟩⟩⟩⟩⟩⟩⟩⟩⟩⟩⟩⟩⟩⟩⟩⟩⟩⟩⟩⟩⟩) x (List.mem_of_getElem? h), by k_is, by k_is⟩, by k_is, by k_is, by k_is, by k_is, by k_is,
        ⟨by k_is, _, _, [PySem.Str.ofString "self", PySem.Str.ofString "pieces", PySem.Str.ofString "ep", PySem.Str.ofString "rights", PySem.Str.ofString "side"], _, by k_is, by exact rfl, by k_is, by exact rfl, by exact .of rfl rfl rfl rfl rfl rfl rfl rfl rfl rfl rfl rfl (by kernel_rfl) (by kernel_rfl), by exact rfl, by exact rfl,
          by exact (show Mine.RB _ [] _ Mine.f104.body from (.seq (.setAttr rfl rfl (.loc rfl) (.loc rfl)) (.seq (.setAttr rfl rfl (.loc rfl) (.loc rfl)) (.seq (.setAttr rfl rfl (.loc rfl) (.loc rfl)) (.seq (.setAttr rfl rfl (.loc rfl) (.loc rfl)) .done)))))⟩⟩
    case gi => exact List.forall_mem_cons.2 ⟨(show ∃ t, PySem.W.nsIn _ mainGlobals (PySem.Str.ofString "PROMOTION") = some (some (.int (1) t)) from ⟨_, by k_is⟩),
        List.forall_mem_cons.2 ⟨(show ∃ t, PySem.W.nsIn _ mainGlobals (PySem.Str.ofString "KNIGHT") = some (some (.int (2) t)) from ⟨_, by k_is⟩),
        List.forall_mem_cons.2 ⟨(show ∃ t, PySem.W.nsIn _ mainGlobals (PySem.Str.ofString "NO_KIND") = some (some (.int (0) t)) from ⟨_, by k_is⟩),
        List.forall_mem_cons.2 ⟨(show ∃ t, PySem.W.nsIn _ mainGlobals (PySem.Str.ofString "BISHOP") = some (some (.int (3) t)) from ⟨_, by k_is⟩),
        List.forall_mem_cons.2 ⟨(show ∃ t, PySem.W.nsIn _ mainGlobals (PySem.Str.ofString "ROOK") = some (some (.int (4) t)) from ⟨_, by k_is⟩),
        List.forall_mem_cons.2 ⟨(show ∃ t, PySem.W.nsIn _ mainGlobals (PySem.Str.ofString "QUEEN") = some (some (.int (5) t)) from ⟨_, by k_is⟩),
        List.forall_mem_cons.2 ⟨(show ∃ t, PySem.W.nsIn _ mainGlobals (PySem.Str.ofString "PAWN") = some (some (.int (1) t)) from ⟨_, by k_is⟩),
        List.forall_mem_cons.2 ⟨(show ∃ t, PySem.W.nsIn _ mainGlobals (PySem.Str.ofString "KING") = some (some (.int (6) t)) from ⟨_, by k_is⟩),
        List.forall_mem_cons.2 ⟨(show ∃ t, PySem.W.nsIn _ mainGlobals (PySem.Str.ofString "NO_MATE") = some (some (.int (-1) t)) from ⟨_, by k_is⟩),
        List.forall_mem_cons.2 ⟨(show ∃ t, PySem.W.nsIn _ mainGlobals (PySem.Str.ofString "OUTSIDE") = some (some (.int (-1) t)) from ⟨_, by k_is⟩),
        List.forall_mem_cons.2 ⟨(show ∃ t, PySem.W.nsIn _ mainGlobals (PySem.Str.ofString "STRONG_MOVES") = some (some (.int (0) t)) from ⟨_, by k_is⟩),
        List.forall_mem_cons.2 ⟨(show ∃ t, PySem.W.nsIn _ mainGlobals (PySem.Str.ofString "WHITE") = some (some (.int (0) t)) from ⟨_, by k_is⟩),
        List.forall_mem_cons.2 ⟨(show ∃ t, PySem.W.nsIn _ mainGlobals (PySem.Str.ofString "WEAK_MOVES") = some (some (.int (1) t)) from ⟨_, by k_is⟩),
        List.forall_mem_cons.2 ⟨(show ∃ t, PySem.W.nsIn _ mainGlobals (PySem.Str.ofString "NOT_A_PLACE") = some (some (.int (-2) t)) from ⟨_, by k_is⟩),
        List.forall_mem_cons.2 ⟨(show ∃ t, PySem.W.nsIn _ mainGlobals (PySem.Str.ofString "EMPTY") = some (some (.int (0) t)) from ⟨_, by k_is⟩),
        List.forall_mem_cons.2 ⟨(show ∃ t, PySem.W.nsIn _ mainGlobals (PySem.Str.ofString "BLACK") = some (some (.int (1) t)) from ⟨_, by k_is⟩),
        List.forall_mem_cons.2 ⟨(show ∃ t, PySem.W.nsIn _ mainGlobals (PySem.Str.ofString "NO_WING") = some (some (.int (1) t)) from ⟨_, by k_is⟩),
        List.forall_mem_cons.2 ⟨(show ∃ t, PySem.W.nsIn _ mainGlobals (PySem.Str.ofString "RIGHT_LOST") = some (some (.int (2) t)) from ⟨_, by k_is⟩),
        List.forall_mem_cons.2 ⟨(show ∃ t, PySem.W.nsIn _ mainGlobals (PySem.Str.ofString "NOT_FREE") = some (some (.int (3) t)) from ⟨_, by k_is⟩),
        List.forall_mem_cons.2 ⟨(show ∃ t, PySem.W.nsIn _ mainGlobals (PySem.Str.ofString "IN_CHECK") = some (some (.int (4) t)) from ⟨_, by k_is⟩),
        List.forall_mem_cons.2 ⟨(show ∃ t, PySem.W.nsIn _ mainGlobals (PySem.Str.ofString "PASSES_ATTACK") = some (some (.int (5) t)) from ⟨_, by k_is⟩),
        List.forall_mem_cons.2 ⟨(show ∃ t, PySem.W.nsIn _ mainGlobals (PySem.Str.ofString "GOAL_ATTACKED") = some (some (.int (6) t)) from ⟨_, by k_is⟩),
        List.forall_mem_cons.2 ⟨(show ∃ t, PySem.W.nsIn _ mainGlobals (PySem.Str.ofString "MAY") = some (some (.int (0) t)) from ⟨_, by k_is⟩),
        List.forall_mem_cons.2 ⟨(show ∃ t, PySem.W.nsIn _ mainGlobals (PySem.Str.ofString "CASTLING") = some (some (.int (3) t)) from ⟨_, by k_is⟩),
        List.forall_mem_cons.2 ⟨(show ∃ t, PySem.W.nsIn _ mainGlobals (PySem.Str.ofString "NORMAL") = some (some (.int (0) t)) from ⟨_, by k_is⟩),
        List.forall_mem_cons.2 ⟨(show ∃ t, PySem.W.nsIn _ mainGlobals (PySem.Str.ofString "CAPTURES") = some (some (.int (0) t)) from ⟨_, by k_is⟩),
        List.forall_mem_cons.2 ⟨(show ∃ t, PySem.W.nsIn _ mainGlobals (PySem.Str.ofString "QUIETS") = some (some (.int (1) t)) from ⟨_, by k_is⟩),
        List.forall_mem_cons.2 ⟨(show ∃ t, PySem.W.nsIn _ mainGlobals (PySem.Str.ofString "EN_PASSANT") = some (some (.int (2) t)) from ⟨_, by k_is⟩),
        List.forall_mem_cons.2 ⟨(show ∃ t, PySem.W.nsIn _ mainGlobals (PySem.Str.ofString "EVASIONS") = some (some (.int (3) t)) from ⟨_, by k_is⟩),
        List.forall_mem_cons.2 ⟨(show ∃ t, PySem.W.nsIn _ mainGlobals (PySem.Str.ofString "NON_EVASIONS") = some (some (.int (2) t)) from ⟨_, by k_is⟩),
        fun _ h => by cases h⟩⟩⟩⟩⟩⟩⟩⟩⟩⟩⟩⟩⟩⟩⟩⟩⟩⟩⟩⟩⟩⟩⟩⟩⟩⟩⟩⟩⟩⟩
    case gf => exact List.forall_mem_cons.2 ⟨(show ∃ a, PySem.W.nsIn _ mainGlobals (PySem.Str.ofString "inner_squares") = some (some (.ref a)) ∧ Mine.FnK _ a 12 from ⟨158, by k_is, ⟨by k_is, _, _, [PySem.Str.ofString "geo", PySem.Str.ofString "d"], _, by k_is, by exact rfl, by k_is, by exact rfl, by exact .of rfl rfl rfl rfl rfl rfl rfl rfl rfl rfl rfl rfl (by kernel_rfl) (by kernel_rfl), by exact rfl, by exact rfl,
          by exact (show Mine.RB _ [] _ Mine.f12.body from (.seq (.asg rfl rfl .int) (.seq (.ifs (.cmp (o := .gt) (.gitem rfl rfl rfl (.loc rfl)) .int) (.seq (.augN (o := .bor) rfl (.item rfl (.attr rfl rfl (.loc rfl)) (.op2 (o := .sub) (.attr rfl rfl (.loc rfl)) .int))) .done) .done) (.seq (.ifs (.cmp (o := .lt) (.gitem rfl rfl rfl (.loc rfl)) .int) (.seq (.augN (o := .bor) rfl (.item rfl (.attr rfl rfl (.loc rfl)) .int)) .done) .done) (.seq (.ifs (.cmp (o := .gt) (.gitem rfl rfl rfl (.loc rfl)) .int) (.seq (.augN (o := .bor) rfl (.item rfl (.attr rfl rfl (.loc rfl)) (.op2 (o := .sub) (.attr rfl rfl (.loc rfl)) .int))) .done) .done) (.seq (.ifs (.cmp (o := .lt) (.gitem rfl rfl rfl (.loc rfl)) .int) (.seq (.augN (o := .bor) rfl (.item rfl (.attr rfl rfl (.loc rfl)) .int)) .done) .done) (.seq (.ret (.op2 (o := .band) (.attr rfl rfl (.loc rfl)) (.inv (.loc rfl)))) .done)))))))⟩⟩),
        List.forall_mem_cons.2 ⟨(show ∃ a, PySem.W.nsIn _ mainGlobals (PySem.Str.ofString "is_growing") = some (some (.ref a)) ∧ Mine.FnK _ a 10 from ⟨144, by k_is, ⟨by k_is, _, _, [PySem.Str.ofString "d"], _, by k_is, by exact rfl, by k_is, by exact rfl, by exact .of rfl rfl rfl rfl rfl rfl rfl rfl rfl rfl rfl rfl (by kernel_rfl) (by kernel_rfl), by exact rfl, by exact rfl,
          by exact (show Mine.RB _ [] _ Mine.f10.body from (.seq (.ret (.bo (.or (.cmp (o := .gt) (.gitem rfl rfl rfl (.loc rfl)) .int) (.one (.cmp (o := .eq) (.loc rfl) .int))))) .done))⟩⟩),
        List.forall_mem_cons.2 ⟨(show ∃ a, PySem.W.nsIn _ mainGlobals (PySem.Str.ofString "add_masks") = some (some (.ref a)) ∧ Mine.FnK _ a 11 from ⟨151, by k_is, ⟨by k_is, _, _, [PySem.Str.ofString "geo"], _, by k_is, by exact rfl, by k_is, by exact rfl, by exact .of rfl rfl rfl rfl rfl rfl rfl rfl rfl rfl rfl rfl (by kernel_rfl) (by kernel_rfl), by exact rfl, by exact rfl,
          by exact (show Mine.RB _ [] _ Mine.f11.body from (.seq (.asg rfl rfl (.op2 (o := .sub) (.op2 (o := .shl) .int (.attr rfl rfl (.loc rfl))) .int)) (.seq (.asg rfl rfl .int) (.seq (.for1 rfl rfl (.range rfl (.cons (.attr rfl rfl (.loc rfl)) .nil)) (.seq (.app rfl rfl (.attr rfl rfl (.loc rfl)) (.op2 (o := .shl) (.loc rfl) (.op2 (o := .mul) (.loc rfl) (.attr rfl rfl (.loc rfl))))) (.seq (.augN (o := .bor) rfl (.op2 (o := .shl) .int (.op2 (o := .mul) (.loc rfl) (.attr rfl rfl (.loc rfl))))) .done))) (.seq (.for1 rfl rfl (.range rfl (.cons (.attr rfl rfl (.loc rfl)) .nil)) (.seq (.app rfl rfl (.attr rfl rfl (.loc rfl)) (.op2 (o := .shl) (.loc rfl) (.loc rfl))) .done)) .done)))))⟩⟩),
        List.forall_mem_cons.2 ⟨(show ∃ a, PySem.W.nsIn _ mainGlobals (PySem.Str.ofString "add_rays") = some (some (.ref a)) ∧ Mine.FnK _ a 13 from ⟨165, by k_is, ⟨by k_is, _, _, [PySem.Str.ofString "geo"], _, by k_is, by exact rfl, by k_is, by exact rfl, by exact .of rfl rfl rfl rfl rfl rfl rfl rfl rfl rfl rfl rfl (by kernel_rfl) (by kernel_rfl), by exact rfl, by exact rfl,
          by exact (show Mine.RB _ [] _ Mine.f13.body from (.seq (.setAttr rfl rfl (.loc rfl) (.op2 (o := .mul) (.list (.cons .int .nil)) (.attr rfl rfl (.loc rfl)))) (.seq (.for1 rfl rfl (.range rfl (.cons .int .nil)) (.seq (.asg rfl rfl (.call (q := 0) rfl rfl (.cons (.loc rfl) (.cons (.loc rfl) .nil)))) (.seq (.asg rfl rfl (.op2 (o := .add) (.op2 (o := .mul) (.gitem rfl rfl rfl (.loc rfl)) (.attr rfl rfl (.loc rfl))) (.gitem rfl rfl rfl (.loc rfl)))) (.seq (.asg rfl rfl (.op2 (o := .mul) (.list (.cons .int .nil)) (.attr rfl rfl (.loc rfl)))) (.seq (.asg rfl rfl (.range rfl (.cons (.attr rfl rfl (.loc rfl)) .nil))) (.seq (.ifs (.call (q := 1) rfl rfl (.cons (.loc rfl) .nil)) (.seq (.asg rfl rfl (.range rfl (.cons (.op2 (o := .sub) (.attr rfl rfl (.loc rfl)) .int) (.cons (.neg .int) (.cons (.neg .int) .nil))))) .done) .done) (.seq (.for1 rfl rfl (.loc rfl) (.seq (.ifs (.op2 (o := .band) (.op2 (o := .shr) (.loc rfl) (.loc rfl)) .int) (.seq (.asg rfl rfl (.op2 (o := .add) (.loc rfl) (.loc rfl))) (.seq (.setItem rfl rfl (.loc rfl) (.loc rfl) (.op2 (o := .bor) (.item rfl (.loc rfl) (.loc rfl)) (.op2 (o := .shl) .int (.loc rfl)))) (.seq (.augI (o := .bor) rfl (.attr rfl rfl (.loc rfl)) (.loc rfl) (.op2 (o := .shl) .int (.loc rfl))) .done))) .done) .done)) (.seq (.app rfl rfl (.attr rfl rfl (.loc rfl)) (.loc rfl)) .done)))))))) .done)))⟩⟩),
        List.forall_mem_cons.2 ⟨(show ∃ a, PySem.W.nsIn _ mainGlobals (PySem.Str.ofString "add_pawns") = some (some (.ref a)) ∧ Mine.FnK _ a 14 from ⟨172, by k_is, ⟨by k_is, _, _, [PySem.Str.ofString "geo"], _, by k_is, by exact rfl, by k_is, by exact rfl, by exact .of rfl rfl rfl rfl rfl rfl rfl rfl rfl rfl rfl rfl (by kernel_rfl) (by kernel_rfl), by exact rfl, by exact rfl,
          by exact (show Mine.RB _ [] _ Mine.f14.body from (.seq (.for1 rfl rfl (.range rfl (.cons (.attr rfl rfl (.loc rfl)) .nil)) (.seq (.app rfl rfl (.item rfl (.attr rfl rfl (.loc rfl)) .int) (.op2 (o := .band) (.item rfl (.attr rfl rfl (.loc rfl)) (.loc rfl)) (.op2 (o := .bor) (.item rfl (.item rfl (.attr rfl rfl (.loc rfl)) .int) (.loc rfl)) (.item rfl (.item rfl (.attr rfl rfl (.loc rfl)) .int) (.loc rfl))))) (.seq (.app rfl rfl (.item rfl (.attr rfl rfl (.loc rfl)) .int) (.op2 (o := .band) (.item rfl (.attr rfl rfl (.loc rfl)) (.loc rfl)) (.op2 (o := .bor) (.item rfl (.item rfl (.attr rfl rfl (.loc rfl)) .int) (.loc rfl)) (.item rfl (.item rfl (.attr rfl rfl (.loc rfl)) .int) (.loc rfl))))) .done))) .done))⟩⟩),
        List.forall_mem_cons.2 ⟨(show ∃ a, PySem.W.nsIn _ mainGlobals (PySem.Str.ofString "add_knights") = some (some (.ref a)) ∧ Mine.FnK _ a 15 from ⟨179, by k_is, ⟨by k_is, _, _, [PySem.Str.ofString "geo"], _, by k_is, by exact rfl, by k_is, by exact rfl, by exact .of rfl rfl rfl rfl rfl rfl rfl rfl rfl rfl rfl rfl (by kernel_rfl) (by kernel_rfl), by exact rfl, by exact rfl,
          by exact (show Mine.RB _ [] _ Mine.f15.body from (.seq (.asg rfl rfl (.attr rfl rfl (.loc rfl))) (.seq (.asg rfl rfl (.op2 (o := .band) (.attr rfl rfl (.loc rfl)) (.inv (.item rfl (.attr rfl rfl (.loc rfl)) .int)))) (.seq (.asg rfl rfl (.op2 (o := .band) (.attr rfl rfl (.loc rfl)) (.inv (.item rfl (.attr rfl rfl (.loc rfl)) (.op2 (o := .sub) (.loc rfl) .int))))) (.seq (.asg rfl rfl (.op2 (o := .band) (.loc rfl) (.inv (.item rfl (.attr rfl rfl (.loc rfl)) .int)))) (.seq (.asg rfl rfl (.op2 (o := .band) (.loc rfl) (.inv (.item rfl (.attr rfl rfl (.loc rfl)) (.op2 (o := .sub) (.loc rfl) .int))))) (.seq (.for1 rfl rfl (.range rfl (.cons (.attr rfl rfl (.loc rfl)) .nil)) (.seq (.asg rfl rfl (.op2 (o := .shl) .int (.loc rfl))) (.seq (.asg rfl rfl (.op2 (o := .bor) (.op2 (o := .band) (.op2 (o := .shl) (.loc rfl) .int) (.loc rfl)) (.op2 (o := .band) (.op2 (o := .shr) (.loc rfl) .int) (.loc rfl)))) (.seq (.asg rfl rfl (.op2 (o := .bor) (.op2 (o := .band) (.op2 (o := .shl) (.loc rfl) .int) (.loc rfl)) (.op2 (o := .band) (.op2 (o := .shr) (.loc rfl) .int) (.loc rfl)))) (.seq (.asg rfl rfl (.op2 (o := .bor) (.op2 (o := .bor) (.op2 (o := .bor) (.op2 (o := .shl) (.loc rfl) (.op2 (o := .mul) .int (.loc rfl))) (.op2 (o := .shr) (.loc rfl) (.op2 (o := .mul) .int (.loc rfl)))) (.op2 (o := .shl) (.loc rfl) (.loc rfl))) (.op2 (o := .shr) (.loc rfl) (.loc rfl)))) (.seq (.app rfl rfl (.attr rfl rfl (.loc rfl)) (.op2 (o := .band) (.loc rfl) (.attr rfl rfl (.loc rfl)))) .done)))))) .done)))))))⟩⟩),
        List.forall_mem_cons.2 ⟨(show ∃ a, PySem.W.nsIn _ mainGlobals (PySem.Str.ofString "add_castles") = some (some (.ref a)) ∧ Mine.FnK _ a 16 from ⟨186, by k_is, ⟨by k_is, _, _, [PySem.Str.ofString "geo"], _, by k_is, by exact rfl, by k_is, by exact rfl, by exact .of rfl rfl rfl rfl rfl rfl rfl rfl rfl rfl rfl rfl (by kernel_rfl) (by kernel_rfl), by exact rfl, by exact rfl,
          by exact (show Mine.RB _ [] _ Mine.f16.body from (.seq (.setAttr rfl rfl (.loc rfl) (.op2 (o := .mul) (.list (.cons .int .nil)) (.attr rfl rfl (.loc rfl)))) (.seq (.asg rfl rfl (.op2 (o := .fdv) (.attr rfl rfl (.loc rfl)) .int)) (.seq (.for1 rfl rfl (.range rfl (.cons .int .nil)) (.seq (.asg rfl rfl (.op2 (o := .mul) (.op2 (o := .mul) (.op2 (o := .shr) (.loc rfl) .int) (.op2 (o := .sub) (.attr rfl rfl (.loc rfl)) .int)) (.attr rfl rfl (.loc rfl)))) (.seq (.asg rfl rfl (.op2 (o := .sub) (.attr rfl rfl (.loc rfl)) .int)) (.seq (.asg rfl rfl .int) (.seq (.ifs (.op2 (o := .band) (.loc rfl) .int) (.seq (.asg rfl rfl .int) (.seq (.asg rfl rfl (.neg .int)) .done)) .done) (.seq (.asg rfl rfl (.op2 (o := .add) (.loc rfl) (.op2 (o := .mul) .int (.loc rfl)))) (.seq (.ifs (.bo (.and (.attr rfl rfl (.loc rfl)) (.one (.cmp (o := .gt) (.op2 (o := .mul) (.op2 (o := .sub) (.loc rfl) (.loc rfl)) (.loc rfl)) .int)))) (.seq (.app rfl rfl (.attr rfl rfl (.loc rfl)) (.tup (.cons (.op2 (o := .add) (.loc rfl) (.loc rfl)) (.cons (.op2 (o := .add) (.loc rfl) (.loc rfl)) (.cons (.op2 (o := .add) (.loc rfl) (.loc rfl)) (.cons (.op2 (o := .sub) (.op2 (o := .add) (.loc rfl) (.loc rfl)) (.loc rfl)) .nil)))))) (.seq (.augI (o := .bor) rfl (.attr rfl rfl (.loc rfl)) (.op2 (o := .add) (.loc rfl) (.loc rfl)) (.op2 (o := .shl) .int (.loc rfl))) (.seq (.augI (o := .bor) rfl (.attr rfl rfl (.loc rfl)) (.op2 (o := .add) (.loc rfl) (.loc rfl)) (.op2 (o := .shl) .int (.loc rfl))) .done))) (.seq (.app rfl rfl (.attr rfl rfl (.loc rfl)) .non) .done)) .done))))))) .done))))⟩⟩),
        List.forall_mem_cons.2 ⟨(show ∃ a, PySem.W.nsIn _ mainGlobals (PySem.Str.ofString "ray_attacks") = some (some (.ref a)) ∧ Mine.FnK _ a 18 from ⟨200, by k_is, ⟨by k_is, _, _, [PySem.Str.ofString "geo", PySem.Str.ofString "d", PySem.Str.ofString "square", PySem.Str.ofString "occupied"], _, by k_is, by exact rfl, by k_is, by exact rfl, by exact .of rfl rfl rfl rfl rfl rfl rfl rfl rfl rfl rfl rfl (by kernel_rfl) (by kernel_rfl), by exact rfl, by exact rfl,
          by exact (show Mine.RB _ [] _ Mine.f18.body from (.seq (.asg rfl rfl (.item rfl (.item rfl (.attr rfl rfl (.loc rfl)) (.loc rfl)) (.loc rfl))) (.seq (.asg rfl rfl (.op2 (o := .band) (.loc rfl) (.loc rfl))) (.seq (.ifs (.cmp (o := .eq) (.loc rfl) .int) (.seq (.ret (.loc rfl)) .done) .done) (.seq (.ifs (.call (q := 1) rfl rfl (.cons (.loc rfl) .nil)) (.seq (.ret (.op2 (o := .band) (.loc rfl) (.op2 (o := .bxor) (.loc rfl) (.op2 (o := .sub) (.loc rfl) .int)))) .done) .done) (.seq (.asg rfl rfl (.op2 (o := .shr) (.loc rfl) .int)) (.seq (.augN (o := .bor) rfl (.op2 (o := .shr) (.loc rfl) .int)) (.seq (.augN (o := .bor) rfl (.op2 (o := .shr) (.loc rfl) .int)) (.seq (.augN (o := .bor) rfl (.op2 (o := .shr) (.loc rfl) .int)) (.seq (.augN (o := .bor) rfl (.op2 (o := .shr) (.loc rfl) .int)) (.seq (.augN (o := .bor) rfl (.op2 (o := .shr) (.loc rfl) .int)) (.seq (.augN (o := .bor) rfl (.op2 (o := .shr) (.loc rfl) .int)) (.seq (.ret (.op2 (o := .band) (.loc rfl) (.inv (.loc rfl)))) .done)))))))))))))⟩⟩),
        List.forall_mem_cons.2 ⟨(show ∃ a, PySem.W.nsIn _ mainGlobals (PySem.Str.ofString "rook_attacks") = some (some (.ref a)) ∧ Mine.FnK _ a 19 from ⟨207, by k_is, ⟨by k_is, _, _, [PySem.Str.ofString "geo", PySem.Str.ofString "square", PySem.Str.ofString "occupied"], _, by k_is, by exact rfl, by k_is, by exact rfl, by exact .of rfl rfl rfl rfl rfl rfl rfl rfl rfl rfl rfl rfl (by kernel_rfl) (by kernel_rfl), by exact rfl, by exact rfl,
          by exact (show Mine.RB _ [] _ Mine.f19.body from (.seq (.asg rfl rfl .int) (.seq (.for1 rfl rfl (.range rfl (.cons .int .nil)) (.seq (.augN (o := .bor) rfl (.call (q := 7) rfl rfl (.cons (.loc rfl) (.cons (.loc rfl) (.cons (.loc rfl) (.cons (.loc rfl) .nil)))))) .done)) (.seq (.ret (.loc rfl)) .done))))⟩⟩),
        List.forall_mem_cons.2 ⟨(show ∃ a, PySem.W.nsIn _ mainGlobals (PySem.Str.ofString "bishop_attacks") = some (some (.ref a)) ∧ Mine.FnK _ a 20 from ⟨214, by k_is, ⟨by k_is, _, _, [PySem.Str.ofString "geo", PySem.Str.ofString "square", PySem.Str.ofString "occupied"], _, by k_is, by exact rfl, by k_is, by exact rfl, by exact .of rfl rfl rfl rfl rfl rfl rfl rfl rfl rfl rfl rfl (by kernel_rfl) (by kernel_rfl), by exact rfl, by exact rfl,
          by exact (show Mine.RB _ [] _ Mine.f20.body from (.seq (.asg rfl rfl .int) (.seq (.for1 rfl rfl (.range rfl (.cons .int (.cons .int .nil))) (.seq (.augN (o := .bor) rfl (.call (q := 7) rfl rfl (.cons (.loc rfl) (.cons (.loc rfl) (.cons (.loc rfl) (.cons (.loc rfl) .nil)))))) .done)) (.seq (.ret (.loc rfl)) .done))))⟩⟩),
        List.forall_mem_cons.2 ⟨(show ∃ a, PySem.W.nsIn _ mainGlobals (PySem.Str.ofString "queen_attacks") = some (some (.ref a)) ∧ Mine.FnK _ a 21 from ⟨221, by k_is, ⟨by k_is, _, _, [PySem.Str.ofString "geo", PySem.Str.ofString "square", PySem.Str.ofString "occupied"], _, by k_is, by exact rfl, by k_is, by exact rfl, by exact .of rfl rfl rfl rfl rfl rfl rfl rfl rfl rfl rfl rfl (by kernel_rfl) (by kernel_rfl), by exact rfl, by exact rfl,
          by exact (show Mine.RB _ [] _ Mine.f21.body from (.seq (.ret (.op2 (o := .bor) (.call (q := 8) rfl rfl (.cons (.loc rfl) (.cons (.loc rfl) (.cons (.loc rfl) .nil)))) (.call (q := 9) rfl rfl (.cons (.loc rfl) (.cons (.loc rfl) (.cons (.loc rfl) .nil)))))) .done))⟩⟩),
        List.forall_mem_cons.2 ⟨(show ∃ a, PySem.W.nsIn _ mainGlobals (PySem.Str.ofString "slider_attacks") = some (some (.ref a)) ∧ Mine.FnK _ a 22 from ⟨228, by k_is, ⟨by k_is, _, _, [PySem.Str.ofString "geo", PySem.Str.ofString "kind", PySem.Str.ofString "square", PySem.Str.ofString "occupied"], _, by k_is, by exact rfl, by k_is, by exact rfl, by exact .of rfl rfl rfl rfl rfl rfl rfl rfl rfl rfl rfl rfl (by kernel_rfl) (by kernel_rfl), by exact rfl, by exact rfl,
          by exact (show Mine.RB _ [] _ Mine.f22.body from (.seq (.ifs (.cmp (o := .eq) (.loc rfl) (.gint (q := 3) rfl rfl)) (.seq (.ret (.call (q := 9) rfl rfl (.cons (.loc rfl) (.cons (.loc rfl) (.cons (.loc rfl) .nil))))) .done) .done) (.seq (.ifs (.cmp (o := .eq) (.loc rfl) (.gint (q := 4) rfl rfl)) (.seq (.ret (.call (q := 8) rfl rfl (.cons (.loc rfl) (.cons (.loc rfl) (.cons (.loc rfl) .nil))))) .done) .done) (.seq (.ifs (.cmp (o := .eq) (.loc rfl) (.gint (q := 5) rfl rfl)) (.seq (.ret (.call (q := 10) rfl rfl (.cons (.loc rfl) (.cons (.loc rfl) (.cons (.loc rfl) .nil))))) .done) .done) (.seq (.ret .int) .done)))))⟩⟩),
        List.forall_mem_cons.2 ⟨(show ∃ a, PySem.W.nsIn _ mainGlobals (PySem.Str.ofString "piece_attacks") = some (some (.ref a)) ∧ Mine.FnK _ a 23 from ⟨235, by k_is, ⟨by k_is, _, _, [PySem.Str.ofString "geo", PySem.Str.ofString "side", PySem.Str.ofString "kind", PySem.Str.ofString "square", PySem.Str.ofString "occupied"], _, by k_is, by exact rfl, by k_is, by exact rfl, by exact .of rfl rfl rfl rfl rfl rfl rfl rfl rfl rfl rfl rfl (by kernel_rfl) (by kernel_rfl), by exact rfl, by exact rfl,
          by exact (show Mine.RB _ [] _ Mine.f23.body from (.seq (.ifs (.cmp (o := .eq) (.loc rfl) (.gint (q := 6) rfl rfl)) (.seq (.ret (.item rfl (.item rfl (.attr rfl rfl (.loc rfl)) (.loc rfl)) (.loc rfl))) .done) .done) (.seq (.ifs (.cmp (o := .eq) (.loc rfl) (.gint (q := 1) rfl rfl)) (.seq (.ret (.item rfl (.attr rfl rfl (.loc rfl)) (.loc rfl))) .done) .done) (.seq (.ifs (.cmp (o := .eq) (.loc rfl) (.gint (q := 7) rfl rfl)) (.seq (.ret (.item rfl (.attr rfl rfl (.loc rfl)) (.loc rfl))) .done) .done) (.seq (.ret (.call (q := 11) rfl rfl (.cons (.loc rfl) (.cons (.loc rfl) (.cons (.loc rfl) (.cons (.loc rfl) .nil)))))) .done)))))⟩⟩),
        List.forall_mem_cons.2 ⟨(show ∃ a, PySem.W.nsIn _ mainGlobals (PySem.Str.ofString "index_of") = some (some (.ref a)) ∧ Mine.FnK _ a 25 from ⟨247, by k_is, ⟨by k_is, _, _, [PySem.Str.ofString "size", PySem.Str.ofString "side", PySem.Str.ofString "strong", PySem.Str.ofString "piece", PySem.Str.ofString "weak"], _, by k_is, by exact rfl, by k_is, by exact rfl, by exact .of rfl rfl rfl rfl rfl rfl rfl rfl rfl rfl rfl rfl (by kernel_rfl) (by kernel_rfl), by exact rfl, by exact rfl,
          by exact (show Mine.RB _ [] _ Mine.f25.body from (.seq (.ret (.op2 (o := .add) (.op2 (o := .mul) (.op2 (o := .add) (.op2 (o := .mul) (.op2 (o := .add) (.op2 (o := .mul) (.loc rfl) (.loc rfl)) (.loc rfl)) (.loc rfl)) (.loc rfl)) (.loc rfl)) (.loc rfl))) .done))⟩⟩),
        List.forall_mem_cons.2 ⟨(show ∃ a, PySem.W.nsIn _ mainGlobals (PySem.Str.ofString "weak_moves") = some (some (.ref a)) ∧ Mine.FnK _ a 28 from ⟨268, by k_is, ⟨by k_is, _, _, [PySem.Str.ofString "geo", PySem.Str.ofString "table", PySem.Str.ofString "strong", PySem.Str.ofString "piece", PySem.Str.ofString "weak"], _, by k_is, by exact rfl, by k_is, by exact rfl, by exact .of rfl rfl rfl rfl rfl rfl rfl rfl rfl rfl rfl rfl (by kernel_rfl) (by kernel_rfl), by exact rfl, by exact rfl,
          by exact (show Mine.RB _ [] _ Mine.f28.body from (.seq (.asg rfl rfl (.list .nil)) (.seq (.asg rfl rfl (.item rfl (.attr rfl rfl (.loc rfl)) (.loc rfl))) (.seq (.for1 rfl rfl (.range rfl (.cons (.attr rfl rfl (.loc rfl)) .nil)) (.seq (.ifs (.cmp (o := .eq) (.op2 (o := .band) (.op2 (o := .shr) (.loc rfl) (.loc rfl)) .int) .int) (.seq .cont .done) .done) (.seq (.ifs (.cmp (o := .eq) (.loc rfl) (.loc rfl)) (.seq (.ifs (.cmp (o := .eq) (.op2 (o := .band) (.op2 (o := .shr) (.item rfl (.attr rfl rfl (.loc rfl)) (.loc rfl)) (.loc rfl)) .int) .int) (.seq (.app rfl rfl (.loc rfl) (.tup (.cons (.loc rfl) (.cons (.loc rfl) (.cons (.gint (q := 9) rfl rfl) .nil))))) .done) .done) .done) (.seq (.asg rfl rfl (.call (q := 13) rfl rfl (.cons (.attr rfl rfl (.loc rfl)) (.cons (.gint (q := 10) rfl rfl) (.cons (.loc rfl) (.cons (.loc rfl) (.cons (.loc rfl) .nil))))))) (.seq (.ifs (.cmp (o := .ne) (.item rfl (.loc rfl) (.loc rfl)) (.gint (q := 13) rfl rfl)) (.seq (.app rfl rfl (.loc rfl) (.tup (.cons (.loc rfl) (.cons (.loc rfl) (.cons (.loc rfl) .nil))))) .done) .done) .done))) .done))) (.seq (.ret (.loc rfl)) .done)))))⟩⟩),
        List.forall_mem_cons.2 ⟨(show ∃ a, PySem.W.nsIn _ mainGlobals (PySem.Str.ofString "strong_moves") = some (some (.ref a)) ∧ Mine.FnK _ a 29 from ⟨275, by k_is, ⟨by k_is, _, _, [PySem.Str.ofString "geo", PySem.Str.ofString "table", PySem.Str.ofString "kind", PySem.Str.ofString "strong", PySem.Str.ofString "piece", PySem.Str.ofString "weak"], _, by k_is, by exact rfl, by k_is, by exact rfl, by exact .of rfl rfl rfl rfl rfl rfl rfl rfl rfl rfl rfl rfl (by kernel_rfl) (by kernel_rfl), by exact rfl, by exact rfl,
          by exact (show Mine.RB _ [] _ Mine.f29.body from (.seq (.asg rfl rfl (.list .nil)) (.seq (.asg rfl rfl (.item rfl (.attr rfl rfl (.loc rfl)) (.loc rfl))) (.seq (.asg rfl rfl (.call (q := 12) rfl rfl (.cons (.loc rfl) (.cons (.gint (q := 11) rfl rfl) (.cons (.loc rfl) (.cons (.loc rfl) (.cons (.op2 (o := .bor) (.op2 (o := .shl) .int (.loc rfl)) (.op2 (o := .shl) .int (.loc rfl))) .nil))))))) (.seq (.for1 rfl rfl (.range rfl (.cons (.attr rfl rfl (.loc rfl)) .nil)) (.seq (.ifs (.op2 (o := .band) (.op2 (o := .shr) (.loc rfl) (.loc rfl)) .int) (.seq (.asg rfl rfl (.call (q := 13) rfl rfl (.cons (.attr rfl rfl (.loc rfl)) (.cons (.gint (q := 12) rfl rfl) (.cons (.loc rfl) (.cons (.loc rfl) (.cons (.loc rfl) .nil))))))) (.seq (.ifs (.cmp (o := .ne) (.item rfl (.loc rfl) (.loc rfl)) (.gint (q := 13) rfl rfl)) (.seq (.app rfl rfl (.loc rfl) (.tup (.cons (.loc rfl) (.cons (.loc rfl) (.cons (.loc rfl) .nil))))) .done) .done) .done)) .done) .done)) (.seq (.for1 rfl rfl (.range rfl (.cons (.attr rfl rfl (.loc rfl)) .nil)) (.seq (.ifs (.op2 (o := .band) (.op2 (o := .shr) (.loc rfl) (.loc rfl)) .int) (.seq (.asg rfl rfl (.call (q := 13) rfl rfl (.cons (.attr rfl rfl (.loc rfl)) (.cons (.gint (q := 12) rfl rfl) (.cons (.loc rfl) (.cons (.loc rfl) (.cons (.loc rfl) .nil))))))) (.seq (.ifs (.cmp (o := .ne) (.item rfl (.loc rfl) (.loc rfl)) (.gint (q := 13) rfl rfl)) (.seq (.app rfl rfl (.loc rfl) (.tup (.cons (.loc rfl) (.cons (.loc rfl) (.cons (.loc rfl) .nil))))) .done) .done) .done)) .done) .done)) (.seq (.ret (.loc rfl)) .done)))))))⟩⟩),
        List.forall_mem_cons.2 ⟨(show ∃ a, PySem.W.nsIn _ mainGlobals (PySem.Str.ofString "mark_places") = some (some (.ref a)) ∧ Mine.FnK _ a 27 from ⟨261, by k_is, ⟨by k_is, _, _, [PySem.Str.ofString "geo", PySem.Str.ofString "kind", PySem.Str.ofString "zone", PySem.Str.ofString "table"], _, by k_is, by exact rfl, by k_is, by exact rfl, by exact .of rfl rfl rfl rfl rfl rfl rfl rfl rfl rfl rfl rfl (by kernel_rfl) (by kernel_rfl), by exact rfl, by exact rfl,
          by exact (show Mine.RB _ [] _ Mine.f27.body from (.seq (.asg rfl rfl (.attr rfl rfl (.loc rfl))) (.seq (.asg rfl rfl (.list .nil)) (.seq (.for1 rfl rfl (.range rfl (.cons (.loc rfl) .nil)) (.seq (.for1 rfl rfl (.range rfl (.cons (.loc rfl) .nil)) (.seq (.asg rfl rfl (.op2 (o := .band) (.attr rfl rfl (.loc rfl)) (.inv (.op2 (o := .bor) (.op2 (o := .bor) (.item rfl (.attr rfl rfl (.loc rfl)) (.loc rfl)) (.op2 (o := .shl) .int (.loc rfl))) (.op2 (o := .shl) .int (.loc rfl)))))) (.seq (.ifs (.bo (.or (.cmp (o := .eq) (.op2 (o := .band) (.op2 (o := .shr) (.loc rfl) (.loc rfl)) .int) .int) (.or (.cmp (o := .eq) (.loc rfl) (.loc rfl)) (.one (.cmp (o := .eq) (.loc rfl) .int))))) (.seq .cont .done) .done) (.seq (.asg rfl rfl (.call (q := 12) rfl rfl (.cons (.loc rfl) (.cons (.gint (q := 11) rfl rfl) (.cons (.loc rfl) (.cons (.loc rfl) (.cons (.op2 (o := .shl) .int (.loc rfl)) .nil))))))) (.seq (.for1 rfl rfl (.range rfl (.cons (.loc rfl) .nil)) (.seq (.ifs (.op2 (o := .band) (.op2 (o := .shr) (.loc rfl) (.loc rfl)) .int) (.seq (.app rfl rfl (.loc rfl) (.call (q := 13) rfl rfl (.cons (.loc rfl) (.cons (.gint (q := 12) rfl rfl) (.cons (.loc rfl) (.cons (.loc rfl) (.cons (.loc rfl) .nil))))))) (.seq (.ifs (.cmp (o := .eq) (.op2 (o := .band) (.op2 (o := .shr) (.loc rfl) (.loc rfl)) .int) .int) (.seq (.app rfl rfl (.loc rfl) (.call (q := 13) rfl rfl (.cons (.loc rfl) (.cons (.gint (q := 10) rfl rfl) (.cons (.loc rfl) (.cons (.loc rfl) (.cons (.loc rfl) .nil))))))) .done) .done) .done)) .done) .done)) .done))))) .done)) (.seq (.for1 rfl rfl (.loc rfl) (.seq (.setItem rfl rfl (.loc rfl) (.loc rfl) (.gint (q := 8) rfl rfl)) .done)) (.seq (.ret (.loc rfl)) .done))))))⟩⟩),
        List.forall_mem_cons.2 ⟨(show ∃ a, PySem.W.nsIn _ mainGlobals (PySem.Str.ofString "parts_of") = some (some (.ref a)) ∧ Mine.FnK _ a 26 from ⟨254, by k_is, ⟨by k_is, _, _, [PySem.Str.ofString "size", PySem.Str.ofString "n"], _, by k_is, by exact rfl, by k_is, by exact rfl, by exact .of rfl rfl rfl rfl rfl rfl rfl rfl rfl rfl rfl rfl (by kernel_rfl) (by kernel_rfl), by exact rfl, by exact rfl,
          by exact (show Mine.RB _ [] _ Mine.f26.body from (.seq (.ret (.tup (.cons (.op2 (o := .fdv) (.loc rfl) (.op2 (o := .mul) (.op2 (o := .mul) (.loc rfl) (.loc rfl)) (.loc rfl))) (.cons (.op2 (o := .md) (.op2 (o := .fdv) (.loc rfl) (.op2 (o := .mul) (.loc rfl) (.loc rfl))) (.loc rfl)) (.cons (.op2 (o := .md) (.op2 (o := .fdv) (.loc rfl) (.loc rfl)) (.loc rfl)) (.cons (.op2 (o := .md) (.loc rfl) (.loc rfl)) .nil)))))) .done))⟩⟩),
        List.forall_mem_cons.2 ⟨(show ∃ a, PySem.W.nsIn _ mainGlobals (PySem.Str.ofString "moves_at") = some (some (.ref a)) ∧ Mine.FnK _ a 30 from ⟨282, by k_is, ⟨by k_is, _, _, [PySem.Str.ofString "geo", PySem.Str.ofString "table", PySem.Str.ofString "kind", PySem.Str.ofString "side", PySem.Str.ofString "strong", PySem.Str.ofString "piece", PySem.Str.ofString "weak"], _, by k_is, by exact rfl, by k_is, by exact rfl, by exact .of rfl rfl rfl rfl rfl rfl rfl rfl rfl rfl rfl rfl (by kernel_rfl) (by kernel_rfl), by exact rfl, by exact rfl,
          by exact (show Mine.RB _ [] _ Mine.f30.body from (.seq (.ifs (.cmp (o := .eq) (.loc rfl) (.gint (q := 12) rfl rfl)) (.seq (.ret (.call (q := 14) rfl rfl (.cons (.loc rfl) (.cons (.loc rfl) (.cons (.loc rfl) (.cons (.loc rfl) (.cons (.loc rfl) .nil))))))) .done) .done) (.seq (.ret (.call (q := 15) rfl rfl (.cons (.loc rfl) (.cons (.loc rfl) (.cons (.loc rfl) (.cons (.loc rfl) (.cons (.loc rfl) (.cons (.loc rfl) .nil)))))))) .done)))⟩⟩),
        List.forall_mem_cons.2 ⟨(show ∃ a, PySem.W.nsIn _ mainGlobals (PySem.Str.ofString "solve") = some (some (.ref a)) ∧ Mine.FnK _ a 24 from ⟨240, by k_is, ⟨by k_is, _, _, [PySem.Str.ofString "sides", PySem.Str.ofString "after", PySem.Str.ofString "lost"], _, by k_is, by exact rfl, by k_is, by exact rfl, by exact .of rfl rfl rfl rfl rfl rfl rfl rfl rfl rfl rfl rfl (by kernel_rfl) (by kernel_rfl), by exact rfl, by exact rfl,
          by exact (show Mine.RB _ [] _ Mine.f24.body from (.seq (.asg rfl rfl (.op2 (o := .mul) (.list (.cons (.gint (q := 8) rfl rfl) .nil)) (.len rfl (.loc rfl)))) (.seq (.asg rfl rfl (.list .nil)) (.comp rfl rfl (.of (by kernel_rfl)) (by kernel_rfl) rfl rfl (.list .nil) (.loc rfl) (.seq (.asg rfl rfl (.list .nil)) (.seq (.for1 rfl rfl (.range rfl (.cons (.len rfl (.loc rfl)) .nil)) (.seq (.app rfl rfl (.loc rfl) (.len rfl (.item rfl (.loc rfl) (.loc rfl)))) (.seq (.for1 rfl rfl (.item rfl (.loc rfl) (.loc rfl)) (.seq (.ifs (.cmp (o := .ne) (.loc rfl) (.gint (q := 9) rfl rfl)) (.seq (.app rfl rfl (.item rfl (.loc rfl) (.loc rfl)) (.loc rfl)) .done) .done) .done)) (.seq (.ifs (.item rfl (.loc rfl) (.loc rfl)) (.seq (.setItem rfl rfl (.loc rfl) (.loc rfl) .int) (.seq (.app rfl rfl (.loc rfl) (.loc rfl)) .done)) .done) .done)))) (.seq (.asg rfl rfl .int) (.seq (.while (.cmp (o := .lt) (.loc rfl) (.len rfl (.loc rfl))) (.seq (.asg rfl rfl (.item rfl (.loc rfl) (.loc rfl))) (.seq (.augN (o := .add) rfl .int) (.seq (.for1 rfl rfl (.item rfl (.loc rfl) (.loc rfl)) (.seq (.augI (o := .sub) rfl (.loc rfl) (.loc rfl) .int) (.seq (.ifs (.bo (.and (.cmp (o := .eq) (.item rfl (.loc rfl) (.loc rfl)) (.gint (q := 8) rfl rfl)) (.one (.bo (.or (.cmp (o := .eq) (.item rfl (.loc rfl) (.loc rfl)) (.gint (q := 10) rfl rfl)) (.one (.cmp (o := .eq) (.item rfl (.loc rfl) (.loc rfl)) .int))))))) (.seq (.setItem rfl rfl (.loc rfl) (.loc rfl) (.op2 (o := .add) (.item rfl (.loc rfl) (.loc rfl)) .int)) (.seq (.app rfl rfl (.loc rfl) (.loc rfl)) .done)) .done) .done))) .done)))) (.seq (.ret (.loc rfl)) .done)))))))))⟩⟩),
        List.forall_mem_cons.2 ⟨(show ∃ a, PySem.W.nsIn _ mainGlobals (PySem.Str.ofString "probe") = some (some (.ref a)) ∧ Mine.FnK _ a 32 from ⟨296, by k_is, ⟨by k_is, _, _, [PySem.Str.ofString "geo", PySem.Str.ofString "table", PySem.Str.ofString "kind", PySem.Str.ofString "side", PySem.Str.ofString "strong", PySem.Str.ofString "piece", PySem.Str.ofString "weak"], _, by k_is, by exact rfl, by k_is, by exact rfl, by exact .of rfl rfl rfl rfl rfl rfl rfl rfl rfl rfl rfl rfl (by kernel_rfl) (by kernel_rfl), by exact rfl, by exact rfl,
          by exact (show Mine.RB _ [] _ Mine.f32.body from (.seq (.asg rfl rfl (.attr rfl rfl (.loc rfl))) (.seq (.ifs (.bo (.or (.cmp (o := .lt) (.loc rfl) (.gint (q := 1) rfl rfl)) (.one (.cmp (o := .gt) (.loc rfl) (.gint (q := 5) rfl rfl))))) (.seq .fail .done) .done) (.seq (.ifs (.cmp (o := .ne) (.len rfl (.loc rfl)) (.op2 (o := .mul) (.op2 (o := .mul) (.op2 (o := .mul) .int (.loc rfl)) (.loc rfl)) (.loc rfl))) (.seq .fail .done) .done) (.seq (.ifs (.bo (.and (.cmp (o := .ne) (.loc rfl) (.gint (q := 10) rfl rfl)) (.one (.cmp (o := .ne) (.loc rfl) (.gint (q := 12) rfl rfl))))) (.seq .fail .done) .done) (.seq (.for1 rfl rfl (.tup (.cons (.loc rfl) (.cons (.loc rfl) (.cons (.loc rfl) .nil)))) (.seq (.ifs (.bo (.or (.cmp (o := .lt) (.loc rfl) .int) (.one (.cmp (o := .ge) (.loc rfl) (.loc rfl))))) (.seq .fail .done) .done) .done)) (.seq (.ret (.item rfl (.loc rfl) (.call (q := 13) rfl rfl (.cons (.loc rfl) (.cons (.loc rfl) (.cons (.loc rfl) (.cons (.loc rfl) (.cons (.loc rfl) .nil)))))))) .done)))))))⟩⟩),
        List.forall_mem_cons.2 ⟨(show ∃ a, PySem.W.nsIn _ mainGlobals (PySem.Str.ofString "best_move") = some (some (.ref a)) ∧ Mine.FnK _ a 33 from ⟨303, by k_is, ⟨by k_is, _, _, [PySem.Str.ofString "geo", PySem.Str.ofString "table", PySem.Str.ofString "kind", PySem.Str.ofString "side", PySem.Str.ofString "strong", PySem.Str.ofString "piece", PySem.Str.ofString "weak"], _, by k_is, by exact rfl, by k_is, by exact rfl, by exact .of rfl rfl rfl rfl rfl rfl rfl rfl rfl rfl rfl rfl (by kernel_rfl) (by kernel_rfl), by exact rfl, by exact rfl,
          by exact (show Mine.RB _ [] _ Mine.f33.body from (.seq (.asg rfl rfl (.tup (.cons (.neg .int) (.cons (.neg .int) .nil)))) (.seq (.ifs (.cmp (o := .eq) (.call (q := 20) rfl rfl (.cons (.loc rfl) (.cons (.loc rfl) (.cons (.loc rfl) (.cons (.loc rfl) (.cons (.loc rfl) (.cons (.loc rfl) (.cons (.loc rfl) .nil)))))))) (.gint (q := 13) rfl rfl)) (.seq (.ret (.loc rfl)) .done) .done) (.seq (.asg rfl rfl .int) (.seq (.forT (.cons rfl (.cons rfl (.cons rfl .nil))) rfl (.call (q := 18) rfl rfl (.cons (.loc rfl) (.cons (.loc rfl) (.cons (.loc rfl) (.cons (.loc rfl) (.cons (.loc rfl) (.cons (.loc rfl) (.cons (.loc rfl) .nil)))))))) (.seq (.asg rfl rfl (.len rfl (.loc rfl))) (.seq (.ifs (.bo (.and (.cmp (o := .ne) (.loc rfl) (.gint (q := 9) rfl rfl)) (.one (.cmp (o := .ne) (.item rfl (.loc rfl) (.loc rfl)) (.gint (q := 8) rfl rfl))))) (.seq (.asg rfl rfl (.item rfl (.loc rfl) (.loc rfl))) .done) .done) (.seq (.ifs (.cmp (o := .eq) (.loc rfl) (.gint (q := 10) rfl rfl)) (.seq (.asg rfl rfl (.neg (.loc rfl))) .done) .done) (.seq (.ifs (.bo (.or (.cmp (o := .eq) (.loc rfl) (.tup (.cons (.neg .int) (.cons (.neg .int) .nil)))) (.one (.cmp (o := .gt) (.loc rfl) (.loc rfl))))) (.seq (.asg rfl rfl (.tup (.cons (.loc rfl) (.cons (.loc rfl) .nil)))) (.seq (.asg rfl rfl (.loc rfl)) .done)) .done) .done))))) (.seq (.ret (.loc rfl)) .done))))))⟩⟩),
        List.forall_mem_cons.2 ⟨(show ∃ a, PySem.W.nsIn _ mainGlobals (PySem.Str.ofString "highest") = some (some (.ref a)) ∧ Mine.FnK _ a 36 from ⟨324, by k_is, ⟨by k_is, _, _, [PySem.Str.ofString "b"], _, by k_is, by exact rfl, by k_is, by exact rfl, by exact .of rfl rfl rfl rfl rfl rfl rfl rfl rfl rfl rfl rfl (by kernel_rfl) (by kernel_rfl), by exact rfl, by exact rfl,
          by exact (show Mine.RB _ [] _ Mine.f36.body from (.seq (.ifs (.cmp (o := .eq) (.loc rfl) .int) (.seq (.ret (.neg .int)) .done) .done) (.seq (.asg rfl rfl .int) (.seq (.while (.op2 (o := .shr) (.loc rfl) (.loc rfl)) (.seq (.augN (o := .mul) rfl .int) .done)) (.seq (.asg rfl rfl .int) (.seq (.while (.cmp (o := .gt) (.loc rfl) .int) (.seq (.augN (o := .fdv) rfl .int) (.seq (.ifs (.op2 (o := .shr) (.loc rfl) (.loc rfl)) (.seq (.augN (o := .shr) rfl (.loc rfl)) (.seq (.augN (o := .add) rfl (.loc rfl)) .done)) .done) .done))) (.seq (.ret (.loc rfl)) .done)))))))⟩⟩),
        List.forall_mem_cons.2 ⟨(show ∃ a, PySem.W.nsIn _ mainGlobals (PySem.Str.ofString "direction") = some (some (.ref a)) ∧ Mine.FnK _ a 39 from ⟨345, by k_is, ⟨by k_is, _, _, [PySem.Str.ofString "geo", PySem.Str.ofString "a", PySem.Str.ofString "b"], _, by k_is, by exact rfl, by k_is, by exact rfl, by exact .of rfl rfl rfl rfl rfl rfl rfl rfl rfl rfl rfl rfl (by kernel_rfl) (by kernel_rfl), by exact rfl, by exact rfl,
          by exact (show Mine.RB _ [] _ Mine.f39.body from (.seq (.for1 rfl rfl (.range rfl (.cons .int .nil)) (.seq (.ifs (.op2 (o := .band) (.op2 (o := .shr) (.item rfl (.item rfl (.attr rfl rfl (.loc rfl)) (.loc rfl)) (.loc rfl)) (.loc rfl)) .int) (.seq (.ret (.loc rfl)) .done) .done) .done)) (.seq (.ret (.neg .int)) .done)))⟩⟩),
        List.forall_mem_cons.2 ⟨(show ∃ a, PySem.W.nsIn _ mainGlobals (PySem.Str.ofString "line") = some (some (.ref a)) ∧ Mine.FnK _ a 41 from ⟨359, by k_is, ⟨by k_is, _, _, [PySem.Str.ofString "geo", PySem.Str.ofString "a", PySem.Str.ofString "b"], _, by k_is, by exact rfl, by k_is, by exact rfl, by exact .of rfl rfl rfl rfl rfl rfl rfl rfl rfl rfl rfl rfl (by kernel_rfl) (by kernel_rfl), by exact rfl, by exact rfl,
          by exact (show Mine.RB _ [] _ Mine.f41.body from (.seq (.asg rfl rfl (.call (q := 23) rfl rfl (.cons (.loc rfl) (.cons (.loc rfl) (.cons (.loc rfl) .nil))))) (.seq (.ifs (.cmp (o := .lt) (.loc rfl) .int) (.seq (.ret .int) .done) .done) (.seq (.ret (.op2 (o := .bor) (.op2 (o := .bor) (.item rfl (.item rfl (.attr rfl rfl (.loc rfl)) (.loc rfl)) (.loc rfl)) (.item rfl (.item rfl (.attr rfl rfl (.loc rfl)) (.op2 (o := .bxor) (.loc rfl) .int)) (.loc rfl))) (.op2 (o := .shl) .int (.loc rfl)))) .done))))⟩⟩),
        List.forall_mem_cons.2 ⟨(show ∃ a, PySem.W.nsIn _ mainGlobals (PySem.Str.ofString "kind_of") = some (some (.ref a)) ∧ Mine.FnK _ a 3 from ⟨79, by k_is, ⟨by k_is, _, _, [PySem.Str.ofString "piece"], _, by k_is, by exact rfl, by k_is, by exact rfl, by exact .of rfl rfl rfl rfl rfl rfl rfl rfl rfl rfl rfl rfl (by kernel_rfl) (by kernel_rfl), by exact rfl, by exact rfl,
          by exact (show Mine.RB _ [] _ Mine.f3.body from (.seq (.ret (.op2 (o := .band) (.loc rfl) .int)) .done))⟩⟩),
        List.forall_mem_cons.2 ⟨(show ∃ a, PySem.W.nsIn _ mainGlobals (PySem.Str.ofString "side_of") = some (some (.ref a)) ∧ Mine.FnK _ a 2 from ⟨72, by k_is, ⟨by k_is, _, _, [PySem.Str.ofString "piece"], _, by k_is, by exact rfl, by k_is, by exact rfl, by exact .of rfl rfl rfl rfl rfl rfl rfl rfl rfl rfl rfl rfl (by kernel_rfl) (by kernel_rfl), by exact rfl, by exact rfl,
          by exact (show Mine.RB _ [] _ Mine.f2.body from (.seq (.ret (.op2 (o := .shr) (.loc rfl) .int)) .done))⟩⟩),
        List.forall_mem_cons.2 ⟨(show ∃ a, PySem.W.nsIn _ mainGlobals (PySem.Str.ofString "lowest") = some (some (.ref a)) ∧ Mine.FnK _ a 37 from ⟨331, by k_is, ⟨by k_is, _, _, [PySem.Str.ofString "b"], _, by k_is, by exact rfl, by k_is, by exact rfl, by exact .of rfl rfl rfl rfl rfl rfl rfl rfl rfl rfl rfl rfl (by kernel_rfl) (by kernel_rfl), by exact rfl, by exact rfl,
          by exact (show Mine.RB _ [] _ Mine.f37.body from (.seq (.ret (.call (q := 22) rfl rfl (.cons (.op2 (o := .band) (.loc rfl) (.neg (.loc rfl))) .nil))) .done))⟩⟩),
        List.forall_mem_cons.2 ⟨(show ∃ a, PySem.W.nsIn _ mainGlobals (PySem.Str.ofString "pawn_attackers") = some (some (.ref a)) ∧ Mine.FnK _ a 52 from ⟨450, by k_is, ⟨by k_is, _, _, [PySem.Str.ofString "pos", PySem.Str.ofString "square", PySem.Str.ofString "side"], _, by k_is, by exact rfl, by k_is, by exact rfl, by exact .of rfl rfl rfl rfl rfl rfl rfl rfl rfl rfl rfl rfl (by kernel_rfl) (by kernel_rfl), by exact rfl, by exact rfl,
          by exact (show Mine.RB _ [] _ Mine.f52.body from (.seq (.ret (.op2 (o := .band) (.op2 (o := .band) (.item rfl (.item rfl (.attr rfl rfl (.attr rfl rfl (.loc rfl))) (.op2 (o := .sub) .int (.loc rfl))) (.loc rfl)) (.item rfl (.attr rfl rfl (.loc rfl)) (.gint (q := 6) rfl rfl))) (.item rfl (.attr rfl rfl (.loc rfl)) (.loc rfl)))) .done))⟩⟩),
        List.forall_mem_cons.2 ⟨(show ∃ a, PySem.W.nsIn _ mainGlobals (PySem.Str.ofString "straight_sliders") = some (some (.ref a)) ∧ Mine.FnK _ a 50 from ⟨436, by k_is, ⟨by k_is, _, _, [PySem.Str.ofString "pos"], _, by k_is, by exact rfl, by k_is, by exact rfl, by exact .of rfl rfl rfl rfl rfl rfl rfl rfl rfl rfl rfl rfl (by kernel_rfl) (by kernel_rfl), by exact rfl, by exact rfl,
          by exact (show Mine.RB _ [] _ Mine.f50.body from (.seq (.ret (.op2 (o := .bor) (.item rfl (.attr rfl rfl (.loc rfl)) (.gint (q := 4) rfl rfl)) (.item rfl (.attr rfl rfl (.loc rfl)) (.gint (q := 5) rfl rfl)))) .done))⟩⟩),
        List.forall_mem_cons.2 ⟨(show ∃ a, PySem.W.nsIn _ mainGlobals (PySem.Str.ofString "slanting_sliders") = some (some (.ref a)) ∧ Mine.FnK _ a 51 from ⟨443, by k_is, ⟨by k_is, _, _, [PySem.Str.ofString "pos"], _, by k_is, by exact rfl, by k_is, by exact rfl, by exact .of rfl rfl rfl rfl rfl rfl rfl rfl rfl rfl rfl rfl (by kernel_rfl) (by kernel_rfl), by exact rfl, by exact rfl,
          by exact (show Mine.RB _ [] _ Mine.f51.body from (.seq (.ret (.op2 (o := .bor) (.item rfl (.attr rfl rfl (.loc rfl)) (.gint (q := 3) rfl rfl)) (.item rfl (.attr rfl rfl (.loc rfl)) (.gint (q := 5) rfl rfl)))) .done))⟩⟩),
        List.forall_mem_cons.2 ⟨(show ∃ a, PySem.W.nsIn _ mainGlobals (PySem.Str.ofString "step_attackers") = some (some (.ref a)) ∧ Mine.FnK _ a 53 from ⟨457, by k_is, ⟨by k_is, _, _, [PySem.Str.ofString "pos", PySem.Str.ofString "square", PySem.Str.ofString "side"], _, by k_is, by exact rfl, by k_is, by exact rfl, by exact .of rfl rfl rfl rfl rfl rfl rfl rfl rfl rfl rfl rfl (by kernel_rfl) (by kernel_rfl), by exact rfl, by exact rfl,
          by exact (show Mine.RB _ [] _ Mine.f53.body from (.seq (.asg rfl rfl (.attr rfl rfl (.loc rfl))) (.seq (.asg rfl rfl (.op2 (o := .band) (.item rfl (.attr rfl rfl (.loc rfl)) (.loc rfl)) (.item rfl (.attr rfl rfl (.loc rfl)) (.gint (q := 1) rfl rfl)))) (.seq (.augN (o := .bor) rfl (.op2 (o := .band) (.item rfl (.attr rfl rfl (.loc rfl)) (.loc rfl)) (.item rfl (.attr rfl rfl (.loc rfl)) (.gint (q := 7) rfl rfl)))) (.seq (.ret (.op2 (o := .bor) (.call (q := 28) rfl rfl (.cons (.loc rfl) (.cons (.loc rfl) (.cons (.loc rfl) .nil)))) (.op2 (o := .band) (.loc rfl) (.item rfl (.attr rfl rfl (.loc rfl)) (.loc rfl))))) .done)))))⟩⟩),
        List.forall_mem_cons.2 ⟨(show ∃ a, PySem.W.nsIn _ mainGlobals (PySem.Str.ofString "line_attackers") = some (some (.ref a)) ∧ Mine.FnK _ a 54 from ⟨464, by k_is, ⟨by k_is, _, _, [PySem.Str.ofString "pos", PySem.Str.ofString "square", PySem.Str.ofString "occupied"], _, by k_is, by exact rfl, by k_is, by exact rfl, by exact .of rfl rfl rfl rfl rfl rfl rfl rfl rfl rfl rfl rfl (by kernel_rfl) (by kernel_rfl), by exact rfl, by exact rfl,
          by exact (show Mine.RB _ [] _ Mine.f54.body from (.seq (.asg rfl rfl .int) (.seq (.asg rfl rfl (.call (q := 29) rfl rfl (.cons (.loc rfl) .nil))) (.seq (.ifs (.loc rfl) (.seq (.augN (o := .bor) rfl (.op2 (o := .band) (.call (q := 8) rfl rfl (.cons (.attr rfl rfl (.loc rfl)) (.cons (.loc rfl) (.cons (.loc rfl) .nil)))) (.loc rfl))) .done) .done) (.seq (.asg rfl rfl (.call (q := 30) rfl rfl (.cons (.loc rfl) .nil))) (.seq (.ifs (.loc rfl) (.seq (.augN (o := .bor) rfl (.op2 (o := .band) (.call (q := 9) rfl rfl (.cons (.attr rfl rfl (.loc rfl)) (.cons (.loc rfl) (.cons (.loc rfl) .nil)))) (.loc rfl))) .done) .done) (.seq (.ret (.loc rfl)) .done)))))))⟩⟩),
        List.forall_mem_cons.2 ⟨(show ∃ a, PySem.W.nsIn _ mainGlobals (PySem.Str.ofString "attackers_to") = some (some (.ref a)) ∧ Mine.FnK _ a 55 from ⟨471, by k_is, ⟨by k_is, _, _, [PySem.Str.ofString "pos", PySem.Str.ofString "square", PySem.Str.ofString "occupied"], _, by k_is, by exact rfl, by k_is, by exact rfl, by exact .of rfl rfl rfl rfl rfl rfl rfl rfl rfl rfl rfl rfl (by kernel_rfl) (by kernel_rfl), by exact rfl, by exact rfl,
          by exact (show Mine.RB _ [] _ Mine.f55.body from (.seq (.asg rfl rfl (.op2 (o := .bor) (.call (q := 31) rfl rfl (.cons (.loc rfl) (.cons (.loc rfl) (.cons (.gint (q := 11) rfl rfl) .nil)))) (.call (q := 31) rfl rfl (.cons (.loc rfl) (.cons (.loc rfl) (.cons (.gint (q := 15) rfl rfl) .nil)))))) (.seq (.ret (.op2 (o := .bor) (.loc rfl) (.call (q := 32) rfl rfl (.cons (.loc rfl) (.cons (.loc rfl) (.cons (.loc rfl) .nil)))))) .done)))⟩⟩),
        List.forall_mem_cons.2 ⟨(show ∃ a, PySem.W.nsIn _ mainGlobals (PySem.Str.ofString "king_square") = some (some (.ref a)) ∧ Mine.FnK _ a 49 from ⟨429, by k_is, ⟨by k_is, _, _, [PySem.Str.ofString "pos", PySem.Str.ofString "side"], _, by k_is, by exact rfl, by k_is, by exact rfl, by exact .of rfl rfl rfl rfl rfl rfl rfl rfl rfl rfl rfl rfl (by kernel_rfl) (by kernel_rfl), by exact rfl, by exact rfl,
          by exact (show Mine.RB _ [] _ Mine.f49.body from (.seq (.ret (.call (q := 27) rfl rfl (.cons (.op2 (o := .band) (.item rfl (.attr rfl rfl (.loc rfl)) (.loc rfl)) (.item rfl (.attr rfl rfl (.loc rfl)) (.gint (q := 7) rfl rfl))) .nil))) .done))⟩⟩),
        List.forall_mem_cons.2 ⟨(show ∃ a, PySem.W.nsIn _ mainGlobals (PySem.Str.ofString "checkers_of") = some (some (.ref a)) ∧ Mine.FnK _ a 57 from ⟨485, by k_is, ⟨by k_is, _, _, [PySem.Str.ofString "pos", PySem.Str.ofString "side"], _, by k_is, by exact rfl, by k_is, by exact rfl, by exact .of rfl rfl rfl rfl rfl rfl rfl rfl rfl rfl rfl rfl (by kernel_rfl) (by kernel_rfl), by exact rfl, by exact rfl,
          by exact (show Mine.RB _ [] _ Mine.f57.body from (.seq (.asg rfl rfl (.op2 (o := .bor) (.item rfl (.attr rfl rfl (.loc rfl)) (.gint (q := 11) rfl rfl)) (.item rfl (.attr rfl rfl (.loc rfl)) (.gint (q := 15) rfl rfl)))) (.seq (.ret (.op2 (o := .band) (.call (q := 33) rfl rfl (.cons (.loc rfl) (.cons (.call (q := 34) rfl rfl (.cons (.loc rfl) (.cons (.loc rfl) .nil))) (.cons (.loc rfl) .nil)))) (.item rfl (.attr rfl rfl (.loc rfl)) (.op2 (o := .sub) .int (.loc rfl))))) .done)))⟩⟩),
        List.forall_mem_cons.2 ⟨(show ∃ a, PySem.W.nsIn _ mainGlobals (PySem.Str.ofString "is_attacked") = some (some (.ref a)) ∧ Mine.FnK _ a 56 from ⟨478, by k_is, ⟨by k_is, _, _, [PySem.Str.ofString "pos", PySem.Str.ofString "square", PySem.Str.ofString "side", PySem.Str.ofString "occupied"], _, by k_is, by exact rfl, by k_is, by exact rfl, by exact .of rfl rfl rfl rfl rfl rfl rfl rfl rfl rfl rfl rfl (by kernel_rfl) (by kernel_rfl), by exact rfl, by exact rfl,
          by exact (show Mine.RB _ [] _ Mine.f56.body from (.seq (.ifs (.call (q := 31) rfl rfl (.cons (.loc rfl) (.cons (.loc rfl) (.cons (.loc rfl) .nil)))) (.seq (.ret .bool) .done) .done) (.seq (.asg rfl rfl (.attr rfl rfl (.loc rfl))) (.seq (.asg rfl rfl (.item rfl (.attr rfl rfl (.loc rfl)) (.loc rfl))) (.seq (.asg rfl rfl (.op2 (o := .band) (.call (q := 29) rfl rfl (.cons (.loc rfl) .nil)) (.loc rfl))) (.seq (.ifs (.bo (.and (.loc rfl) (.one (.op2 (o := .band) (.call (q := 8) rfl rfl (.cons (.loc rfl) (.cons (.loc rfl) (.cons (.loc rfl) .nil)))) (.loc rfl))))) (.seq (.ret .bool) .done) .done) (.seq (.asg rfl rfl (.op2 (o := .band) (.call (q := 30) rfl rfl (.cons (.loc rfl) .nil)) (.loc rfl))) (.seq (.ret (.bo (.and (.cmp (o := .ne) (.loc rfl) .int) (.one (.cmp (o := .ne) (.op2 (o := .band) (.call (q := 9) rfl rfl (.cons (.loc rfl) (.cons (.loc rfl) (.cons (.loc rfl) .nil)))) (.loc rfl)) .int))))) .done))))))))⟩⟩),
        List.forall_mem_cons.2 ⟨(show ∃ a, PySem.W.nsIn _ mainGlobals (PySem.Str.ofString "in_check_of") = some (some (.ref a)) ∧ Mine.FnK _ a 59 from ⟨499, by k_is, ⟨by k_is, _, _, [PySem.Str.ofString "pos", PySem.Str.ofString "side"], _, by k_is, by exact rfl, by k_is, by exact rfl, by exact .of rfl rfl rfl rfl rfl rfl rfl rfl rfl rfl rfl rfl (by kernel_rfl) (by kernel_rfl), by exact rfl, by exact rfl,
          by exact (show Mine.RB _ [] _ Mine.f59.body from (.seq (.asg rfl rfl (.op2 (o := .bor) (.item rfl (.attr rfl rfl (.loc rfl)) (.gint (q := 11) rfl rfl)) (.item rfl (.attr rfl rfl (.loc rfl)) (.gint (q := 15) rfl rfl)))) (.seq (.ret (.call (q := 36) rfl rfl (.cons (.loc rfl) (.cons (.call (q := 34) rfl rfl (.cons (.loc rfl) (.cons (.loc rfl) .nil))) (.cons (.op2 (o := .sub) .int (.loc rfl)) (.cons (.loc rfl) .nil)))))) .done)))⟩⟩),
        List.forall_mem_cons.2 ⟨(show ∃ a, PySem.W.nsIn _ mainGlobals (PySem.Str.ofString "snipers_of") = some (some (.ref a)) ∧ Mine.FnK _ a 61 from ⟨513, by k_is, ⟨by k_is, _, _, [PySem.Str.ofString "pos", PySem.Str.ofString "side"], _, by k_is, by exact rfl, by k_is, by exact rfl, by exact .of rfl rfl rfl rfl rfl rfl rfl rfl rfl rfl rfl rfl (by kernel_rfl) (by kernel_rfl), by exact rfl, by exact rfl,
          by exact (show Mine.RB _ [] _ Mine.f61.body from (.seq (.asg rfl rfl (.call (q := 34) rfl rfl (.cons (.loc rfl) (.cons (.loc rfl) .nil)))) (.seq (.asg rfl rfl (.op2 (o := .band) (.call (q := 8) rfl rfl (.cons (.attr rfl rfl (.loc rfl)) (.cons (.loc rfl) (.cons .int .nil)))) (.call (q := 29) rfl rfl (.cons (.loc rfl) .nil)))) (.seq (.augN (o := .bor) rfl (.op2 (o := .band) (.call (q := 9) rfl rfl (.cons (.attr rfl rfl (.loc rfl)) (.cons (.loc rfl) (.cons .int .nil)))) (.call (q := 30) rfl rfl (.cons (.loc rfl) .nil)))) (.seq (.ret (.op2 (o := .band) (.loc rfl) (.item rfl (.attr rfl rfl (.loc rfl)) (.op2 (o := .sub) .int (.loc rfl))))) .done)))))⟩⟩),
        List.forall_mem_cons.2 ⟨(show ∃ a, PySem.W.nsIn _ mainGlobals (PySem.Str.ofString "squares_of") = some (some (.ref a)) ∧ Mine.FnK _ a 38 from ⟨338, by k_is, ⟨by k_is, _, _, [PySem.Str.ofString "b"], _, by k_is, by exact rfl, by k_is, by exact rfl, by exact .of rfl rfl rfl rfl rfl rfl rfl rfl rfl rfl rfl rfl (by kernel_rfl) (by kernel_rfl), by exact rfl, by exact rfl,
          by exact (show Mine.RB _ [] _ Mine.f38.body from (.seq (.asg rfl rfl (.list .nil)) (.seq (.asg rfl rfl .int) (.seq (.while (.loc rfl) (.seq (.while (.not (.op2 (o := .band) (.loc rfl) .int)) (.seq (.augN (o := .shr) rfl .int) (.seq (.augN (o := .add) rfl .int) .done))) (.seq (.ifs (.op2 (o := .band) (.loc rfl) .int) (.seq (.app rfl rfl (.loc rfl) (.loc rfl)) .done) .done) (.seq (.augN (o := .shr) rfl .int) (.seq (.augN (o := .add) rfl .int) .done))))) (.seq (.ret (.loc rfl)) .done)))))⟩⟩),
        List.forall_mem_cons.2 ⟨(show ∃ a, PySem.W.nsIn _ mainGlobals (PySem.Str.ofString "between") = some (some (.ref a)) ∧ Mine.FnK _ a 40 from ⟨352, by k_is, ⟨by k_is, _, _, [PySem.Str.ofString "geo", PySem.Str.ofString "a", PySem.Str.ofString "b"], _, by k_is, by exact rfl, by k_is, by exact rfl, by exact .of rfl rfl rfl rfl rfl rfl rfl rfl rfl rfl rfl rfl (by kernel_rfl) (by kernel_rfl), by exact rfl, by exact rfl,
          by exact (show Mine.RB _ [] _ Mine.f40.body from (.seq (.asg rfl rfl (.call (q := 23) rfl rfl (.cons (.loc rfl) (.cons (.loc rfl) (.cons (.loc rfl) .nil))))) (.seq (.ifs (.cmp (o := .lt) (.loc rfl) .int) (.seq (.ret .int) .done) .done) (.seq (.ret (.op2 (o := .band) (.item rfl (.item rfl (.attr rfl rfl (.loc rfl)) (.loc rfl)) (.loc rfl)) (.item rfl (.item rfl (.attr rfl rfl (.loc rfl)) (.op2 (o := .bxor) (.loc rfl) .int)) (.loc rfl)))) .done))))⟩⟩),
        List.forall_mem_cons.2 ⟨(show ∃ a, PySem.W.nsIn _ mainGlobals (PySem.Str.ofString "more_than_one") = some (some (.ref a)) ∧ Mine.FnK _ a 35 from ⟨317, by k_is, ⟨by k_is, _, _, [PySem.Str.ofString "b"], _, by k_is, by exact rfl, by k_is, by exact rfl, by exact .of rfl rfl rfl rfl rfl rfl rfl rfl rfl rfl rfl rfl (by kernel_rfl) (by kernel_rfl), by exact rfl, by exact rfl,
          by exact (show Mine.RB _ [] _ Mine.f35.body from (.seq (.ret (.cmp (o := .ne) (.op2 (o := .band) (.loc rfl) (.op2 (o := .sub) (.loc rfl) .int)) .int)) .done))⟩⟩),
        List.forall_mem_cons.2 ⟨(show ∃ a, PySem.W.nsIn _ mainGlobals (PySem.Str.ofString "blockers") = some (some (.ref a)) ∧ Mine.FnK _ a 62 from ⟨520, by k_is, ⟨by k_is, _, _, [PySem.Str.ofString "pos", PySem.Str.ofString "side"], _, by k_is, by exact rfl, by k_is, by exact rfl, by exact .of rfl rfl rfl rfl rfl rfl rfl rfl rfl rfl rfl rfl (by kernel_rfl) (by kernel_rfl), by exact rfl, by exact rfl,
          by exact (show Mine.RB _ [] _ Mine.f62.body from (.seq (.asg rfl rfl (.call (q := 34) rfl rfl (.cons (.loc rfl) (.cons (.loc rfl) .nil)))) (.seq (.asg rfl rfl (.call (q := 38) rfl rfl (.cons (.loc rfl) (.cons (.loc rfl) .nil)))) (.seq (.asg rfl rfl (.op2 (o := .bxor) (.op2 (o := .bor) (.item rfl (.attr rfl rfl (.loc rfl)) (.gint (q := 11) rfl rfl)) (.item rfl (.attr rfl rfl (.loc rfl)) (.gint (q := 15) rfl rfl))) (.loc rfl))) (.seq (.asg rfl rfl .int) (.seq (.asg rfl rfl .int) (.seq (.for1 rfl rfl (.call (q := 39) rfl rfl (.cons (.loc rfl) .nil)) (.seq (.asg rfl rfl (.op2 (o := .band) (.call (q := 40) rfl rfl (.cons (.attr rfl rfl (.loc rfl)) (.cons (.loc rfl) (.cons (.loc rfl) .nil)))) (.loc rfl))) (.seq (.ifs (.bo (.and (.loc rfl) (.one (.not (.call (q := 41) rfl rfl (.cons (.loc rfl) .nil)))))) (.seq (.augN (o := .bor) rfl (.loc rfl)) (.seq (.ifs (.op2 (o := .band) (.loc rfl) (.item rfl (.attr rfl rfl (.loc rfl)) (.loc rfl))) (.seq (.augN (o := .bor) rfl (.op2 (o := .shl) .int (.loc rfl))) .done) .done) .done)) .done) .done))) (.seq (.ret (.tup (.cons (.loc rfl) (.cons (.loc rfl) .nil)))) .done))))))))⟩⟩),
        List.forall_mem_cons.2 ⟨(show ∃ a, PySem.W.nsIn _ mainGlobals (PySem.Str.ofString "occupied") = some (some (.ref a)) ∧ Mine.FnK _ a 47 from ⟨415, by k_is, ⟨by k_is, _, _, [PySem.Str.ofString "pos"], _, by k_is, by exact rfl, by k_is, by exact rfl, by exact .of rfl rfl rfl rfl rfl rfl rfl rfl rfl rfl rfl rfl (by kernel_rfl) (by kernel_rfl), by exact rfl, by exact rfl,
          by exact (show Mine.RB _ [] _ Mine.f47.body from (.seq (.ret (.op2 (o := .bor) (.item rfl (.attr rfl rfl (.loc rfl)) (.gint (q := 11) rfl rfl)) (.item rfl (.attr rfl rfl (.loc rfl)) (.gint (q := 15) rfl rfl)))) .done))⟩⟩),
        List.forall_mem_cons.2 ⟨(show ∃ a, PySem.W.nsIn _ mainGlobals (PySem.Str.ofString "squares_within") = some (some (.ref a)) ∧ Mine.FnK _ a 64 from ⟨534, by k_is, ⟨by k_is, _, _, [PySem.Str.ofString "a", PySem.Str.ofString "b"], _, by k_is, by exact rfl, by k_is, by exact rfl, by exact .of rfl rfl rfl rfl rfl rfl rfl rfl rfl rfl rfl rfl (by kernel_rfl) (by kernel_rfl), by exact rfl, by exact rfl,
          by exact (show Mine.RB _ [] _ Mine.f64.body from (.seq (.ifs (.cmp (o := .lt) (.loc rfl) (.loc rfl)) (.seq (.ret (.op2 (o := .sub) (.op2 (o := .shl) .int (.loc rfl)) (.op2 (o := .shl) .int (.loc rfl)))) .done) .done) (.seq (.ret (.op2 (o := .sub) (.op2 (o := .shl) .int (.loc rfl)) (.op2 (o := .shl) .int (.loc rfl)))) .done)))⟩⟩),
        List.forall_mem_cons.2 ⟨(show ∃ a, PySem.W.nsIn _ mainGlobals (PySem.Str.ofString "castle_refusal") = some (some (.ref a)) ∧ Mine.FnK _ a 65 from ⟨541, by k_is, ⟨by k_is, _, _, [PySem.Str.ofString "pos", PySem.Str.ofString "index"], _, by k_is, by exact rfl, by k_is, by exact rfl, by exact .of rfl rfl rfl rfl rfl rfl rfl rfl rfl rfl rfl rfl (by kernel_rfl) (by kernel_rfl), by exact rfl, by exact rfl,
          by exact (show Mine.RB _ [] _ Mine.f65.body from (.seq (.asg rfl rfl (.item rfl (.attr rfl rfl (.attr rfl rfl (.loc rfl))) (.loc rfl))) (.seq (.ifs (.isN (.loc rfl)) (.seq (.ret (.gint (q := 16) rfl rfl)) .done) .done) (.seq (.ifs (.cmp (o := .eq) (.op2 (o := .band) (.attr rfl rfl (.loc rfl)) (.op2 (o := .shl) .int (.loc rfl))) .int) (.seq (.ret (.gint (q := 17) rfl rfl)) .done) .done) (.seq (.asgT (.cons rfl (.cons rfl (.cons rfl (.cons rfl .nil)))) rfl rfl (.loc rfl)) (.seq (.asg rfl rfl (.call (q := 43) rfl rfl (.cons (.loc rfl) .nil))) (.seq (.ifs (.op2 (o := .band) (.loc rfl) (.call (q := 44) rfl rfl (.cons (.loc rfl) (.cons (.loc rfl) .nil)))) (.seq (.ret (.gint (q := 18) rfl rfl)) .done) .done) (.seq (.asg rfl rfl (.op2 (o := .sub) .int (.op2 (o := .shr) (.loc rfl) .int))) (.seq (.ifs (.call (q := 36) rfl rfl (.cons (.loc rfl) (.cons (.loc rfl) (.cons (.loc rfl) (.cons (.loc rfl) .nil))))) (.seq (.ret (.gint (q := 19) rfl rfl)) .done) .done) (.seq (.ifs (.call (q := 36) rfl rfl (.cons (.loc rfl) (.cons (.loc rfl) (.cons (.loc rfl) (.cons (.loc rfl) .nil))))) (.seq (.ret (.gint (q := 20) rfl rfl)) .done) .done) (.seq (.ifs (.call (q := 36) rfl rfl (.cons (.loc rfl) (.cons (.loc rfl) (.cons (.loc rfl) (.cons (.loc rfl) .nil))))) (.seq (.ret (.gint (q := 21) rfl rfl)) .done) .done) (.seq (.ret (.gint (q := 22) rfl rfl)) .done))))))))))))⟩⟩),
        List.forall_mem_cons.2 ⟨(show ∃ a, PySem.W.nsIn _ mainGlobals (PySem.Str.ofString "pack_move") = some (some (.ref a)) ∧ Mine.FnK _ a 4 from ⟨86, by k_is, ⟨by k_is, _, _, [PySem.Str.ofString "origin", PySem.Str.ofString "to", PySem.Str.ofString "special", PySem.Str.ofString "promo"], _, by k_is, by exact rfl, by k_is, by exact rfl, by exact .of rfl rfl rfl rfl rfl rfl rfl rfl rfl rfl rfl rfl (by kernel_rfl) (by kernel_rfl), by exact rfl, by exact rfl,
          by exact (show Mine.RB _ [] _ Mine.f4.body from (.seq (.asg rfl rfl .int) (.seq (.ifs (.cmp (o := .eq) (.loc rfl) (.gint (q := 0) rfl rfl)) (.seq (.asg rfl rfl (.op2 (o := .sub) (.loc rfl) (.gint (q := 1) rfl rfl))) .done) .done) (.seq (.ret (.op2 (o := .bor) (.op2 (o := .bor) (.op2 (o := .bor) (.loc rfl) (.op2 (o := .shl) (.loc rfl) .int)) (.op2 (o := .shl) (.loc rfl) .int)) (.op2 (o := .shl) (.loc rfl) .int))) .done))))⟩⟩),
        List.forall_mem_cons.2 ⟨(show ∃ a, PySem.W.nsIn _ mainGlobals (PySem.Str.ofString "pieces") = some (some (.ref a)) ∧ Mine.FnK _ a 48 from ⟨422, by k_is, ⟨by k_is, _, _, [PySem.Str.ofString "pos", PySem.Str.ofString "side", PySem.Str.ofString "kind"], _, by k_is, by exact rfl, by k_is, by exact rfl, by exact .of rfl rfl rfl rfl rfl rfl rfl rfl rfl rfl rfl rfl (by kernel_rfl) (by kernel_rfl), by exact rfl, by exact rfl,
          by exact (show Mine.RB _ [] _ Mine.f48.body from (.seq (.ret (.op2 (o := .band) (.item rfl (.attr rfl rfl (.loc rfl)) (.loc rfl)) (.item rfl (.attr rfl rfl (.loc rfl)) (.loc rfl)))) .done))⟩⟩),
        List.forall_mem_cons.2 ⟨(show ∃ a, PySem.W.nsIn _ mainGlobals (PySem.Str.ofString "add_goals") = some (some (.ref a)) ∧ Mine.FnK _ a 67 from ⟨555, by k_is, ⟨by k_is, _, _, [PySem.Str.ofString "origin", PySem.Str.ofString "goals", PySem.Str.ofString "out"], _, by k_is, by exact rfl, by k_is, by exact rfl, by exact .of rfl rfl rfl rfl rfl rfl rfl rfl rfl rfl rfl rfl (by kernel_rfl) (by kernel_rfl), by exact rfl, by exact rfl,
          by exact (show Mine.RB _ [] _ Mine.f67.body from (.seq (.for1 rfl rfl (.call (q := 39) rfl rfl (.cons (.loc rfl) .nil)) (.seq (.app rfl rfl (.loc rfl) (.call (q := 46) rfl rfl (.cons (.loc rfl) (.cons (.loc rfl) (.cons (.gint (q := 24) rfl rfl) (.cons (.gint (q := 2) rfl rfl) .nil)))))) .done)) .done))⟩⟩),
        List.forall_mem_cons.2 ⟨(show ∃ a, PySem.W.nsIn _ mainGlobals (PySem.Str.ofString "shift_push") = some (some (.ref a)) ∧ Mine.FnK _ a 73 from ⟨597, by k_is, ⟨by k_is, _, _, [PySem.Str.ofString "geo", PySem.Str.ofString "b", PySem.Str.ofString "side"], _, by k_is, by exact rfl, by k_is, by exact rfl, by exact .of rfl rfl rfl rfl rfl rfl rfl rfl rfl rfl rfl rfl (by kernel_rfl) (by kernel_rfl), by exact rfl, by exact rfl,
          by exact (show Mine.RB _ [] _ Mine.f73.body from (.seq (.ifs (.cmp (o := .eq) (.loc rfl) (.gint (q := 11) rfl rfl)) (.seq (.ret (.op2 (o := .band) (.op2 (o := .shl) (.loc rfl) (.attr rfl rfl (.loc rfl))) (.attr rfl rfl (.loc rfl)))) .done) .done) (.seq (.ret (.op2 (o := .shr) (.loc rfl) (.attr rfl rfl (.loc rfl)))) .done)))⟩⟩),
        List.forall_mem_cons.2 ⟨(show ∃ a, PySem.W.nsIn _ mainGlobals (PySem.Str.ofString "start_mask") = some (some (.ref a)) ∧ Mine.FnK _ a 71 from ⟨583, by k_is, ⟨by k_is, _, _, [PySem.Str.ofString "geo", PySem.Str.ofString "side"], _, by k_is, by exact rfl, by k_is, by exact rfl, by exact .of rfl rfl rfl rfl rfl rfl rfl rfl rfl rfl rfl rfl (by kernel_rfl) (by kernel_rfl), by exact rfl, by exact rfl,
          by exact (show Mine.RB _ [] _ Mine.f71.body from (.seq (.ifs (.cmp (o := .eq) (.loc rfl) (.gint (q := 11) rfl rfl)) (.seq (.ret (.item rfl (.attr rfl rfl (.loc rfl)) .int)) .done) .done) (.seq (.ret (.item rfl (.attr rfl rfl (.loc rfl)) (.op2 (o := .sub) (.attr rfl rfl (.loc rfl)) .int))) .done)))⟩⟩),
        List.forall_mem_cons.2 ⟨(show ∃ a, PySem.W.nsIn _ mainGlobals (PySem.Str.ofString "push_step") = some (some (.ref a)) ∧ Mine.FnK _ a 70 from ⟨576, by k_is, ⟨by k_is, _, _, [PySem.Str.ofString "geo", PySem.Str.ofString "side"], _, by k_is, by exact rfl, by k_is, by exact rfl, by exact .of rfl rfl rfl rfl rfl rfl rfl rfl rfl rfl rfl rfl (by kernel_rfl) (by kernel_rfl), by exact rfl, by exact rfl,
          by exact (show Mine.RB _ [] _ Mine.f70.body from (.seq (.ifs (.cmp (o := .eq) (.loc rfl) (.gint (q := 11) rfl rfl)) (.seq (.ret (.attr rfl rfl (.loc rfl))) .done) .done) (.seq (.ret (.neg (.attr rfl rfl (.loc rfl)))) .done)))⟩⟩),
        List.forall_mem_cons.2 ⟨(show ∃ a, PySem.W.nsIn _ mainGlobals (PySem.Str.ofString "push_targets") = some (some (.ref a)) ∧ Mine.FnK _ a 75 from ⟨611, by k_is, ⟨by k_is, _, _, [PySem.Str.ofString "pos", PySem.Str.ofString "side"], _, by k_is, by exact rfl, by k_is, by exact rfl, by exact .of rfl rfl rfl rfl rfl rfl rfl rfl rfl rfl rfl rfl (by kernel_rfl) (by kernel_rfl), by exact rfl, by exact rfl,
          by exact (show Mine.RB _ [] _ Mine.f75.body from (.seq (.asg rfl rfl (.attr rfl rfl (.loc rfl))) (.seq (.asg rfl rfl (.op2 (o := .band) (.attr rfl rfl (.loc rfl)) (.inv (.call (q := 43) rfl rfl (.cons (.loc rfl) .nil))))) (.seq (.asg rfl rfl (.call (q := 47) rfl rfl (.cons (.loc rfl) (.cons (.loc rfl) (.cons (.gint (q := 6) rfl rfl) .nil))))) (.seq (.asg rfl rfl (.op2 (o := .band) (.call (q := 49) rfl rfl (.cons (.loc rfl) (.cons (.loc rfl) (.cons (.loc rfl) .nil)))) (.loc rfl))) (.seq (.asg rfl rfl .int) (.seq (.ifs (.attr rfl rfl (.loc rfl)) (.seq (.asg rfl rfl (.op2 (o := .band) (.call (q := 49) rfl rfl (.cons (.loc rfl) (.cons (.op2 (o := .band) (.loc rfl) (.call (q := 50) rfl rfl (.cons (.loc rfl) (.cons (.loc rfl) .nil)))) (.cons (.loc rfl) .nil)))) (.loc rfl))) (.seq (.asg rfl rfl (.op2 (o := .band) (.call (q := 49) rfl rfl (.cons (.loc rfl) (.cons (.loc rfl) (.cons (.loc rfl) .nil)))) (.loc rfl))) .done)) .done) (.seq (.ret (.tup (.cons (.loc rfl) (.cons (.loc rfl) .nil)))) .done))))))))⟩⟩),
        List.forall_mem_cons.2 ⟨(show ∃ a, PySem.W.nsIn _ mainGlobals (PySem.Str.ofString "last_mask") = some (some (.ref a)) ∧ Mine.FnK _ a 72 from ⟨590, by k_is, ⟨by k_is, _, _, [PySem.Str.ofString "geo", PySem.Str.ofString "side"], _, by k_is, by exact rfl, by k_is, by exact rfl, by exact .of rfl rfl rfl rfl rfl rfl rfl rfl rfl rfl rfl rfl (by kernel_rfl) (by kernel_rfl), by exact rfl, by exact rfl,
          by exact (show Mine.RB _ [] _ Mine.f72.body from (.seq (.ifs (.cmp (o := .eq) (.loc rfl) (.gint (q := 11) rfl rfl)) (.seq (.ret (.item rfl (.attr rfl rfl (.loc rfl)) (.op2 (o := .sub) (.attr rfl rfl (.loc rfl)) .int))) .done) .done) (.seq (.ret (.item rfl (.attr rfl rfl (.loc rfl)) .int)) .done)))⟩⟩),
        List.forall_mem_cons.2 ⟨(show ∃ a, PySem.W.nsIn _ mainGlobals (PySem.Str.ofString "add_promotions") = some (some (.ref a)) ∧ Mine.FnK _ a 76 from ⟨618, by k_is, ⟨by k_is, _, _, [PySem.Str.ofString "origin", PySem.Str.ofString "to", PySem.Str.ofString "stage", PySem.Str.ofString "is_capture", PySem.Str.ofString "out"], _, by k_is, by exact rfl, by k_is, by exact rfl, by exact .of rfl rfl rfl rfl rfl rfl rfl rfl rfl rfl rfl rfl (by kernel_rfl) (by kernel_rfl), by exact rfl, by exact rfl,
          by exact (show Mine.RB _ [] _ Mine.f76.body from (.seq (.ifs (.cmp (o := .ne) (.loc rfl) (.gint (q := 26) rfl rfl)) (.seq (.app rfl rfl (.loc rfl) (.call (q := 46) rfl rfl (.cons (.loc rfl) (.cons (.loc rfl) (.cons (.gint (q := 0) rfl rfl) (.cons (.gint (q := 5) rfl rfl) .nil)))))) .done) .done) (.seq (.ifs (.cmp (o := .eq) (.loc rfl) (.gint (q := 25) rfl rfl)) (.seq (.asg rfl rfl (.loc rfl)) .done) (.seq (.ifs (.cmp (o := .eq) (.loc rfl) (.gint (q := 26) rfl rfl)) (.seq (.asg rfl rfl (.not (.loc rfl))) .done) (.seq (.asg rfl rfl .bool) .done)) .done)) (.seq (.ifs (.loc rfl) (.seq (.for1 rfl rfl (.list (.cons (.gint (q := 4) rfl rfl) (.cons (.gint (q := 3) rfl rfl) (.cons (.gint (q := 1) rfl rfl) .nil)))) (.seq (.app rfl rfl (.loc rfl) (.call (q := 46) rfl rfl (.cons (.loc rfl) (.cons (.loc rfl) (.cons (.gint (q := 0) rfl rfl) (.cons (.loc rfl) .nil)))))) .done)) .done) .done) .done))))⟩⟩),
        List.forall_mem_cons.2 ⟨(show ∃ a, PySem.W.nsIn _ mainGlobals (PySem.Str.ofString "shift_capture") = some (some (.ref a)) ∧ Mine.FnK _ a 74 from ⟨604, by k_is, ⟨by k_is, _, _, [PySem.Str.ofString "geo", PySem.Str.ofString "b", PySem.Str.ofString "side", PySem.Str.ofString "wing"], _, by k_is, by exact rfl, by k_is, by exact rfl, by exact .of rfl rfl rfl rfl rfl rfl rfl rfl rfl rfl rfl rfl (by kernel_rfl) (by kernel_rfl), by exact rfl, by exact rfl,
          by exact (show Mine.RB _ [] _ Mine.f74.body from (.seq (.ifs (.cmp (o := .eq) (.loc rfl) .int) (.seq (.ret (.op2 (o := .shl) (.call (q := 49) rfl rfl (.cons (.loc rfl) (.cons (.op2 (o := .band) (.loc rfl) (.inv (.item rfl (.attr rfl rfl (.loc rfl)) (.op2 (o := .sub) (.attr rfl rfl (.loc rfl)) .int)))) (.cons (.loc rfl) .nil)))) .int)) .done) .done) (.seq (.ret (.op2 (o := .shr) (.call (q := 49) rfl rfl (.cons (.loc rfl) (.cons (.op2 (o := .band) (.loc rfl) (.inv (.item rfl (.attr rfl rfl (.loc rfl)) .int))) (.cons (.loc rfl) .nil)))) .int)) .done)))⟩⟩),
        List.forall_mem_cons.2 ⟨(show ∃ a, PySem.W.nsIn _ mainGlobals (PySem.Str.ofString "add_plain_pushes") = some (some (.ref a)) ∧ Mine.FnK _ a 77 from ⟨625, by k_is, ⟨by k_is, _, _, [PySem.Str.ofString "pos", PySem.Str.ofString "target", PySem.Str.ofString "out"], _, by k_is, by exact rfl, by k_is, by exact rfl, by exact .of rfl rfl rfl rfl rfl rfl rfl rfl rfl rfl rfl rfl (by kernel_rfl) (by kernel_rfl), by exact rfl, by exact rfl,
          by exact (show Mine.RB _ [] _ Mine.f77.body from (.seq (.asg rfl rfl (.attr rfl rfl (.loc rfl))) (.seq (.asg rfl rfl (.call (q := 51) rfl rfl (.cons (.loc rfl) (.cons (.attr rfl rfl (.loc rfl)) .nil)))) (.seq (.asgT (.cons rfl (.cons rfl .nil)) rfl rfl (.call (q := 52) rfl rfl (.cons (.loc rfl) (.cons (.attr rfl rfl (.loc rfl)) .nil)))) (.seq (.for1 rfl rfl (.call (q := 39) rfl rfl (.cons (.op2 (o := .band) (.op2 (o := .band) (.loc rfl) (.loc rfl)) (.inv (.call (q := 53) rfl rfl (.cons (.loc rfl) (.cons (.attr rfl rfl (.loc rfl)) .nil))))) .nil)) (.seq (.app rfl rfl (.loc rfl) (.call (q := 46) rfl rfl (.cons (.op2 (o := .sub) (.loc rfl) (.loc rfl)) (.cons (.loc rfl) (.cons (.gint (q := 24) rfl rfl) (.cons (.gint (q := 2) rfl rfl) .nil)))))) .done)) (.seq (.for1 rfl rfl (.call (q := 39) rfl rfl (.cons (.op2 (o := .band) (.loc rfl) (.loc rfl)) .nil)) (.seq (.app rfl rfl (.loc rfl) (.call (q := 46) rfl rfl (.cons (.op2 (o := .sub) (.loc rfl) (.op2 (o := .mul) .int (.loc rfl))) (.cons (.loc rfl) (.cons (.gint (q := 24) rfl rfl) (.cons (.gint (q := 2) rfl rfl) .nil)))))) .done)) .done))))))⟩⟩),
        List.forall_mem_cons.2 ⟨(show ∃ a, PySem.W.nsIn _ mainGlobals (PySem.Str.ofString "add_push_promotions") = some (some (.ref a)) ∧ Mine.FnK _ a 78 from ⟨632, by k_is, ⟨by k_is, _, _, [PySem.Str.ofString "pos", PySem.Str.ofString "stage", PySem.Str.ofString "target", PySem.Str.ofString "out"], _, by k_is, by exact rfl, by k_is, by exact rfl, by exact .of rfl rfl rfl rfl rfl rfl rfl rfl rfl rfl rfl rfl (by kernel_rfl) (by kernel_rfl), by exact rfl, by exact rfl,
          by exact (show Mine.RB _ [] _ Mine.f78.body from (.seq (.asg rfl rfl (.attr rfl rfl (.loc rfl))) (.seq (.asg rfl rfl (.call (q := 51) rfl rfl (.cons (.loc rfl) (.cons (.attr rfl rfl (.loc rfl)) .nil)))) (.seq (.asg rfl rfl (.item rfl (.call (q := 52) rfl rfl (.cons (.loc rfl) (.cons (.attr rfl rfl (.loc rfl)) .nil))) .int)) (.seq (.for1 rfl rfl (.call (q := 39) rfl rfl (.cons (.op2 (o := .band) (.op2 (o := .band) (.loc rfl) (.loc rfl)) (.call (q := 53) rfl rfl (.cons (.loc rfl) (.cons (.attr rfl rfl (.loc rfl)) .nil)))) .nil)) (.seq (.ex rfl (.call (q := 54) rfl rfl (.cons (.op2 (o := .sub) (.loc rfl) (.loc rfl)) (.cons (.loc rfl) (.cons (.loc rfl) (.cons .bool (.cons (.loc rfl) .nil))))))) .done)) .done)))))⟩⟩),
        List.forall_mem_cons.2 ⟨(show ∃ a, PySem.W.nsIn _ mainGlobals (PySem.Str.ofString "add_pawn_captures") = some (some (.ref a)) ∧ Mine.FnK _ a 79 from ⟨639, by k_is, ⟨by k_is, _, _, [PySem.Str.ofString "pos", PySem.Str.ofString "stage", PySem.Str.ofString "target", PySem.Str.ofString "out"], _, by k_is, by exact rfl, by k_is, by exact rfl, by exact .of rfl rfl rfl rfl rfl rfl rfl rfl rfl rfl rfl rfl (by kernel_rfl) (by kernel_rfl), by exact rfl, by exact rfl,
          by exact (show Mine.RB _ [] _ Mine.f79.body from (.seq (.asg rfl rfl (.attr rfl rfl (.loc rfl))) (.seq (.asg rfl rfl (.attr rfl rfl (.loc rfl))) (.seq (.asg rfl rfl (.call (q := 53) rfl rfl (.cons (.loc rfl) (.cons (.loc rfl) .nil)))) (.seq (.asg rfl rfl (.call (q := 47) rfl rfl (.cons (.loc rfl) (.cons (.loc rfl) (.cons (.gint (q := 6) rfl rfl) .nil))))) (.seq (.asg rfl rfl (.op2 (o := .band) (.loc rfl) (.item rfl (.attr rfl rfl (.loc rfl)) (.op2 (o := .sub) .int (.loc rfl))))) (.seq (.for1 rfl rfl (.list (.cons .int (.cons .int .nil))) (.seq (.asg rfl rfl (.op2 (o := .sub) (.op2 (o := .add) (.call (q := 51) rfl rfl (.cons (.loc rfl) (.cons (.loc rfl) .nil))) .int) (.op2 (o := .mul) .int (.loc rfl)))) (.seq (.for1 rfl rfl (.call (q := 39) rfl rfl (.cons (.op2 (o := .band) (.call (q := 55) rfl rfl (.cons (.loc rfl) (.cons (.loc rfl) (.cons (.loc rfl) (.cons (.loc rfl) .nil))))) (.loc rfl)) .nil)) (.seq (.ifs (.op2 (o := .band) (.loc rfl) (.op2 (o := .shl) .int (.loc rfl))) (.seq (.ex rfl (.call (q := 54) rfl rfl (.cons (.op2 (o := .sub) (.loc rfl) (.loc rfl)) (.cons (.loc rfl) (.cons (.loc rfl) (.cons .bool (.cons (.loc rfl) .nil))))))) .done) (.seq (.app rfl rfl (.loc rfl) (.call (q := 46) rfl rfl (.cons (.op2 (o := .sub) (.loc rfl) (.loc rfl)) (.cons (.loc rfl) (.cons (.gint (q := 24) rfl rfl) (.cons (.gint (q := 2) rfl rfl) .nil)))))) .done)) .done)) .done))) .done)))))))⟩⟩),
        List.forall_mem_cons.2 ⟨(show ∃ a, PySem.W.nsIn _ mainGlobals (PySem.Str.ofString "passed_pawn_square") = some (some (.ref a)) ∧ Mine.FnK _ a 83 from ⟨667, by k_is, ⟨by k_is, _, _, [PySem.Str.ofString "pos"], _, by k_is, by exact rfl, by k_is, by exact rfl, by exact .of rfl rfl rfl rfl rfl rfl rfl rfl rfl rfl rfl rfl (by kernel_rfl) (by kernel_rfl), by exact rfl, by exact rfl,
          by exact (show Mine.RB _ [] _ Mine.f83.body from (.seq (.ifs (.cmp (o := .eq) (.attr rfl rfl (.loc rfl)) (.gint (q := 11) rfl rfl)) (.seq (.ret (.op2 (o := .sub) (.attr rfl rfl (.loc rfl)) (.attr rfl rfl (.attr rfl rfl (.loc rfl))))) .done) .done) (.seq (.ret (.op2 (o := .add) (.attr rfl rfl (.loc rfl)) (.attr rfl rfl (.attr rfl rfl (.loc rfl))))) .done)))⟩⟩),
        List.forall_mem_cons.2 ⟨(show ∃ a, PySem.W.nsIn _ mainGlobals (PySem.Str.ofString "evasion_targets") = some (some (.ref a)) ∧ Mine.FnK _ a 82 from ⟨660, by k_is, ⟨by k_is, _, _, [PySem.Str.ofString "pos", PySem.Str.ofString "given"], _, by k_is, by exact rfl, by k_is, by exact rfl, by exact .of rfl rfl rfl rfl rfl rfl rfl rfl rfl rfl rfl rfl (by kernel_rfl) (by kernel_rfl), by exact rfl, by exact rfl,
          by exact (show Mine.RB _ [] _ Mine.f82.body from (.seq (.ifs (.bo (.or (.cmp (o := .eq) (.loc rfl) .int) (.one (.call (q := 41) rfl rfl (.cons (.loc rfl) .nil))))) (.seq (.ret .int) .done) .done) (.seq (.ret (.op2 (o := .bor) (.loc rfl) (.call (q := 40) rfl rfl (.cons (.attr rfl rfl (.loc rfl)) (.cons (.call (q := 34) rfl rfl (.cons (.loc rfl) (.cons (.attr rfl rfl (.loc rfl)) .nil))) (.cons (.call (q := 27) rfl rfl (.cons (.loc rfl) .nil)) .nil)))))) .done)))⟩⟩),
        List.forall_mem_cons.2 ⟨(show ∃ a, PySem.W.nsIn _ mainGlobals (PySem.Str.ofString "checkers") = some (some (.ref a)) ∧ Mine.FnK _ a 58 from ⟨492, by k_is, ⟨by k_is, _, _, [PySem.Str.ofString "pos"], _, by k_is, by exact rfl, by k_is, by exact rfl, by exact .of rfl rfl rfl rfl rfl rfl rfl rfl rfl rfl rfl rfl (by kernel_rfl) (by kernel_rfl), by exact rfl, by exact rfl,
          by exact (show Mine.RB _ [] _ Mine.f58.body from (.seq (.ret (.call (q := 35) rfl rfl (.cons (.loc rfl) (.cons (.attr rfl rfl (.loc rfl)) .nil)))) .done))⟩⟩),
        List.forall_mem_cons.2 ⟨(show ∃ a, PySem.W.nsIn _ mainGlobals (PySem.Str.ofString "add_pawn_moves") = some (some (.ref a)) ∧ Mine.FnK _ a 80 from ⟨646, by k_is, ⟨by k_is, _, _, [PySem.Str.ofString "pos", PySem.Str.ofString "stage", PySem.Str.ofString "target", PySem.Str.ofString "out"], _, by k_is, by exact rfl, by k_is, by exact rfl, by exact .of rfl rfl rfl rfl rfl rfl rfl rfl rfl rfl rfl rfl (by kernel_rfl) (by kernel_rfl), by exact rfl, by exact rfl,
          by exact (show Mine.RB _ [] _ Mine.f80.body from (.seq (.ifs (.cmp (o := .ne) (.loc rfl) (.gint (q := 25) rfl rfl)) (.seq (.ex rfl (.call (q := 56) rfl rfl (.cons (.loc rfl) (.cons (.loc rfl) (.cons (.loc rfl) .nil))))) .done) .done) (.seq (.ex rfl (.call (q := 57) rfl rfl (.cons (.loc rfl) (.cons (.loc rfl) (.cons (.loc rfl) (.cons (.loc rfl) .nil)))))) (.seq (.ifs (.cmp (o := .ne) (.loc rfl) (.gint (q := 26) rfl rfl)) (.seq (.ex rfl (.call (q := 58) rfl rfl (.cons (.loc rfl) (.cons (.loc rfl) (.cons (.loc rfl) (.cons (.loc rfl) .nil)))))) .done) .done) .done))))⟩⟩),
        List.forall_mem_cons.2 ⟨(show ∃ a, PySem.W.nsIn _ mainGlobals (PySem.Str.ofString "may_answer_en_passant") = some (some (.ref a)) ∧ Mine.FnK _ a 84 from ⟨674, by k_is, ⟨by k_is, _, _, [PySem.Str.ofString "pos", PySem.Str.ofString "target"], _, by k_is, by exact rfl, by k_is, by exact rfl, by exact .of rfl rfl rfl rfl rfl rfl rfl rfl rfl rfl rfl rfl (by kernel_rfl) (by kernel_rfl), by exact rfl, by exact rfl,
          by exact (show Mine.RB _ [] _ Mine.f84.body from (.seq (.ifs (.cmp (o := .lt) (.attr rfl rfl (.loc rfl)) .int) (.seq (.ret .bool) .done) .done) (.seq (.ret (.cmp (o := .ne) (.op2 (o := .band) (.loc rfl) (.op2 (o := .bor) (.op2 (o := .shl) .int (.attr rfl rfl (.loc rfl))) (.op2 (o := .shl) .int (.call (q := 59) rfl rfl (.cons (.loc rfl) .nil))))) .int)) .done)))⟩⟩),
        List.forall_mem_cons.2 ⟨(show ∃ a, PySem.W.nsIn _ mainGlobals (PySem.Str.ofString "add_en_passant") = some (some (.ref a)) ∧ Mine.FnK _ a 81 from ⟨653, by k_is, ⟨by k_is, _, _, [PySem.Str.ofString "pos", PySem.Str.ofString "out"], _, by k_is, by exact rfl, by k_is, by exact rfl, by exact .of rfl rfl rfl rfl rfl rfl rfl rfl rfl rfl rfl rfl (by kernel_rfl) (by kernel_rfl), by exact rfl, by exact rfl,
          by exact (show Mine.RB _ [] _ Mine.f81.body from (.seq (.ifs (.cmp (o := .lt) (.attr rfl rfl (.loc rfl)) .int) (.seq .ret0 .done) .done) (.seq (.asg rfl rfl (.op2 (o := .band) (.item rfl (.item rfl (.attr rfl rfl (.attr rfl rfl (.loc rfl))) (.op2 (o := .sub) .int (.attr rfl rfl (.loc rfl)))) (.attr rfl rfl (.loc rfl))) (.call (q := 47) rfl rfl (.cons (.loc rfl) (.cons (.attr rfl rfl (.loc rfl)) (.cons (.gint (q := 6) rfl rfl) .nil)))))) (.seq (.for1 rfl rfl (.call (q := 39) rfl rfl (.cons (.loc rfl) .nil)) (.seq (.app rfl rfl (.loc rfl) (.call (q := 46) rfl rfl (.cons (.loc rfl) (.cons (.attr rfl rfl (.loc rfl)) (.cons (.gint (q := 27) rfl rfl) (.cons (.gint (q := 2) rfl rfl) .nil)))))) .done)) .done))))⟩⟩),
        List.forall_mem_cons.2 ⟨(show ∃ a, PySem.W.nsIn _ mainGlobals (PySem.Str.ofString "add_piece_moves") = some (some (.ref a)) ∧ Mine.FnK _ a 68 from ⟨562, by k_is, ⟨by k_is, _, _, [PySem.Str.ofString "pos", PySem.Str.ofString "kind", PySem.Str.ofString "target", PySem.Str.ofString "out"], _, by k_is, by exact rfl, by k_is, by exact rfl, by exact .of rfl rfl rfl rfl rfl rfl rfl rfl rfl rfl rfl rfl (by kernel_rfl) (by kernel_rfl), by exact rfl, by exact rfl,
          by exact (show Mine.RB _ [] _ Mine.f68.body from (.seq (.asg rfl rfl (.call (q := 43) rfl rfl (.cons (.loc rfl) .nil))) (.seq (.for1 rfl rfl (.call (q := 39) rfl rfl (.cons (.call (q := 47) rfl rfl (.cons (.loc rfl) (.cons (.attr rfl rfl (.loc rfl)) (.cons (.loc rfl) .nil)))) .nil)) (.seq (.asg rfl rfl (.call (q := 12) rfl rfl (.cons (.attr rfl rfl (.loc rfl)) (.cons (.attr rfl rfl (.loc rfl)) (.cons (.loc rfl) (.cons (.loc rfl) (.cons (.loc rfl) .nil))))))) (.seq (.ex rfl (.call (q := 48) rfl rfl (.cons (.loc rfl) (.cons (.op2 (o := .band) (.loc rfl) (.loc rfl)) (.cons (.loc rfl) .nil))))) .done))) .done)))⟩⟩),
        List.forall_mem_cons.2 ⟨(show ∃ a, PySem.W.nsIn _ mainGlobals (PySem.Str.ofString "move_to") = some (some (.ref a)) ∧ Mine.FnK _ a 6 from ⟨100, by k_is, ⟨by k_is, _, _, [PySem.Str.ofString "move"], _, by k_is, by exact rfl, by k_is, by exact rfl, by exact .of rfl rfl rfl rfl rfl rfl rfl rfl rfl rfl rfl rfl (by kernel_rfl) (by kernel_rfl), by exact rfl, by exact rfl,
          by exact (show Mine.RB _ [] _ Mine.f6.body from (.seq (.ret (.op2 (o := .band) (.loc rfl) .int)) .done))⟩⟩),
        List.forall_mem_cons.2 ⟨(show ∃ a, PySem.W.nsIn _ mainGlobals (PySem.Str.ofString "move_special") = some (some (.ref a)) ∧ Mine.FnK _ a 7 from ⟨107, by k_is, ⟨by k_is, _, _, [PySem.Str.ofString "move"], _, by k_is, by exact rfl, by k_is, by exact rfl, by exact .of rfl rfl rfl rfl rfl rfl rfl rfl rfl rfl rfl rfl (by kernel_rfl) (by kernel_rfl), by exact rfl, by exact rfl,
          by exact (show Mine.RB _ [] _ Mine.f7.body from (.seq (.ret (.op2 (o := .band) (.op2 (o := .shr) (.loc rfl) .int) .int)) .done))⟩⟩),
        List.forall_mem_cons.2 ⟨(show ∃ a, PySem.W.nsIn _ mainGlobals (PySem.Str.ofString "taken_square_legality") = some (some (.ref a)) ∧ Mine.FnK _ a 86 from ⟨688, by k_is, ⟨by k_is, _, _, [PySem.Str.ofString "pos", PySem.Str.ofString "move"], _, by k_is, by exact rfl, by k_is, by exact rfl, by exact .of rfl rfl rfl rfl rfl rfl rfl rfl rfl rfl rfl rfl (by kernel_rfl) (by kernel_rfl), by exact rfl, by exact rfl,
          by exact (show Mine.RB _ [] _ Mine.f86.body from (.seq (.asg rfl rfl (.call (q := 66) rfl rfl (.cons (.loc rfl) .nil))) (.seq (.ifs (.cmp (o := .ne) (.call (q := 67) rfl rfl (.cons (.loc rfl) .nil)) (.gint (q := 27) rfl rfl)) (.seq (.ret (.loc rfl)) .done) .done) (.seq (.ifs (.cmp (o := .eq) (.attr rfl rfl (.loc rfl)) (.gint (q := 11) rfl rfl)) (.seq (.ret (.op2 (o := .sub) (.loc rfl) (.attr rfl rfl (.attr rfl rfl (.loc rfl))))) .done) .done) (.seq (.ret (.op2 (o := .add) (.loc rfl) (.attr rfl rfl (.attr rfl rfl (.loc rfl))))) .done)))))⟩⟩),
        List.forall_mem_cons.2 ⟨(show ∃ a, PySem.W.nsIn _ mainGlobals (PySem.Str.ofString "move_from") = some (some (.ref a)) ∧ Mine.FnK _ a 5 from ⟨93, by k_is, ⟨by k_is, _, _, [PySem.Str.ofString "move"], _, by k_is, by exact rfl, by k_is, by exact rfl, by exact .of rfl rfl rfl rfl rfl rfl rfl rfl rfl rfl rfl rfl (by kernel_rfl) (by kernel_rfl), by exact rfl, by exact rfl,
          by exact (show Mine.RB _ [] _ Mine.f5.body from (.seq (.ret (.op2 (o := .band) (.op2 (o := .shr) (.loc rfl) .int) .int)) .done))⟩⟩),
        List.forall_mem_cons.2 ⟨(show ∃ a, PySem.W.nsIn _ mainGlobals (PySem.Str.ofString "is_safe_en_passant") = some (some (.ref a)) ∧ Mine.FnK _ a 87 from ⟨695, by k_is, ⟨by k_is, _, _, [PySem.Str.ofString "pos", PySem.Str.ofString "move"], _, by k_is, by exact rfl, by k_is, by exact rfl, by exact .of rfl rfl rfl rfl rfl rfl rfl rfl rfl rfl rfl rfl (by kernel_rfl) (by kernel_rfl), by exact rfl, by exact rfl,
          by exact (show Mine.RB _ [] _ Mine.f87.body from (.seq (.asg rfl rfl (.op2 (o := .shl) .int (.call (q := 68) rfl rfl (.cons (.loc rfl) (.cons (.loc rfl) .nil))))) (.seq (.asg rfl rfl (.op2 (o := .shl) .int (.call (q := 66) rfl rfl (.cons (.loc rfl) .nil)))) (.seq (.asg rfl rfl (.op2 (o := .bor) (.item rfl (.attr rfl rfl (.loc rfl)) (.gint (q := 11) rfl rfl)) (.item rfl (.attr rfl rfl (.loc rfl)) (.gint (q := 15) rfl rfl)))) (.seq (.asg rfl rfl (.op2 (o := .bor) (.op2 (o := .bxor) (.op2 (o := .bxor) (.loc rfl) (.op2 (o := .shl) .int (.call (q := 69) rfl rfl (.cons (.loc rfl) .nil)))) (.loc rfl)) (.loc rfl))) (.seq (.asg rfl rfl (.call (q := 33) rfl rfl (.cons (.loc rfl) (.cons (.call (q := 34) rfl rfl (.cons (.loc rfl) (.cons (.attr rfl rfl (.loc rfl)) .nil))) (.cons (.loc rfl) .nil))))) (.seq (.ret (.cmp (o := .eq) (.op2 (o := .band) (.op2 (o := .band) (.loc rfl) (.item rfl (.attr rfl rfl (.loc rfl)) (.op2 (o := .sub) .int (.attr rfl rfl (.loc rfl))))) (.inv (.loc rfl))) .int)) .done)))))))⟩⟩),
        List.forall_mem_cons.2 ⟨(show ∃ a, PySem.W.nsIn _ mainGlobals (PySem.Str.ofString "aligned") = some (some (.ref a)) ∧ Mine.FnK _ a 42 from ⟨366, by k_is, ⟨by k_is, _, _, [PySem.Str.ofString "geo", PySem.Str.ofString "a", PySem.Str.ofString "b", PySem.Str.ofString "c"], _, by k_is, by exact rfl, by k_is, by exact rfl, by exact .of rfl rfl rfl rfl rfl rfl rfl rfl rfl rfl rfl rfl (by kernel_rfl) (by kernel_rfl), by exact rfl, by exact rfl,
          by exact (show Mine.RB _ [] _ Mine.f42.body from (.seq (.ret (.cmp (o := .eq) (.op2 (o := .band) (.op2 (o := .shr) (.call (q := 24) rfl rfl (.cons (.loc rfl) (.cons (.loc rfl) (.cons (.loc rfl) .nil)))) (.loc rfl)) .int) .int)) .done))⟩⟩),
        List.forall_mem_cons.2 ⟨(show ∃ a, PySem.W.nsIn _ mainGlobals (PySem.Str.ofString "add_evasions") = some (some (.ref a)) ∧ Mine.FnK _ a 85 from ⟨681, by k_is, ⟨by k_is, _, _, [PySem.Str.ofString "pos", PySem.Str.ofString "out"], _, by k_is, by exact rfl, by k_is, by exact rfl, by exact .of rfl rfl rfl rfl rfl rfl rfl rfl rfl rfl rfl rfl (by kernel_rfl) (by kernel_rfl), by exact rfl, by exact rfl,
          by exact (show Mine.RB _ [] _ Mine.f85.body from (.seq (.asg rfl rfl (.call (q := 60) rfl rfl (.cons (.loc rfl) (.cons (.call (q := 61) rfl rfl (.cons (.loc rfl) .nil)) .nil)))) (.seq (.ifs (.loc rfl) (.seq (.ex rfl (.call (q := 62) rfl rfl (.cons (.loc rfl) (.cons (.gint (q := 28) rfl rfl) (.cons (.loc rfl) (.cons (.loc rfl) .nil)))))) (.seq (.ifs (.call (q := 63) rfl rfl (.cons (.loc rfl) (.cons (.loc rfl) .nil))) (.seq (.ex rfl (.call (q := 64) rfl rfl (.cons (.loc rfl) (.cons (.loc rfl) .nil)))) .done) .done) (.seq (.for1 rfl rfl (.list (.cons (.gint (q := 1) rfl rfl) (.cons (.gint (q := 3) rfl rfl) (.cons (.gint (q := 4) rfl rfl) (.cons (.gint (q := 5) rfl rfl) .nil))))) (.seq (.ex rfl (.call (q := 65) rfl rfl (.cons (.loc rfl) (.cons (.loc rfl) (.cons (.loc rfl) (.cons (.loc rfl) .nil)))))) .done)) .done))) .done) (.seq (.ex rfl (.call (q := 65) rfl rfl (.cons (.loc rfl) (.cons (.gint (q := 7) rfl rfl) (.cons (.op2 (o := .band) (.attr rfl rfl (.attr rfl rfl (.loc rfl))) (.inv (.item rfl (.attr rfl rfl (.loc rfl)) (.attr rfl rfl (.loc rfl))))) (.cons (.loc rfl) .nil)))))) .done))))⟩⟩),
        List.forall_mem_cons.2 ⟨(show ∃ a, PySem.W.nsIn _ mainGlobals (PySem.Str.ofString "stage_target") = some (some (.ref a)) ∧ Mine.FnK _ a 69 from ⟨569, by k_is, ⟨by k_is, _, _, [PySem.Str.ofString "pos", PySem.Str.ofString "stage"], _, by k_is, by exact rfl, by k_is, by exact rfl, by exact .of rfl rfl rfl rfl rfl rfl rfl rfl rfl rfl rfl rfl (by kernel_rfl) (by kernel_rfl), by exact rfl, by exact rfl,
          by exact (show Mine.RB _ [] _ Mine.f69.body from (.seq (.ifs (.cmp (o := .eq) (.loc rfl) (.gint (q := 25) rfl rfl)) (.seq (.ret (.item rfl (.attr rfl rfl (.loc rfl)) (.op2 (o := .sub) .int (.attr rfl rfl (.loc rfl))))) .done) .done) (.seq (.ifs (.cmp (o := .eq) (.loc rfl) (.gint (q := 26) rfl rfl)) (.seq (.ret (.op2 (o := .band) (.attr rfl rfl (.attr rfl rfl (.loc rfl))) (.inv (.call (q := 43) rfl rfl (.cons (.loc rfl) .nil))))) .done) .done) (.seq (.ret (.op2 (o := .band) (.attr rfl rfl (.attr rfl rfl (.loc rfl))) (.inv (.item rfl (.attr rfl rfl (.loc rfl)) (.attr rfl rfl (.loc rfl)))))) .done))))⟩⟩),
        List.forall_mem_cons.2 ⟨(show ∃ a, PySem.W.nsIn _ mainGlobals (PySem.Str.ofString "add_castling") = some (some (.ref a)) ∧ Mine.FnK _ a 66 from ⟨548, by k_is, ⟨by k_is, _, _, [PySem.Str.ofString "pos", PySem.Str.ofString "out"], _, by k_is, by exact rfl, by k_is, by exact rfl, by exact .of rfl rfl rfl rfl rfl rfl rfl rfl rfl rfl rfl rfl (by kernel_rfl) (by kernel_rfl), by exact rfl, by exact rfl,
          by exact (show Mine.RB _ [] _ Mine.f66.body from (.seq (.for1 rfl rfl (.list (.cons (.op2 (o := .mul) .int (.attr rfl rfl (.loc rfl))) (.cons (.op2 (o := .add) (.op2 (o := .mul) .int (.attr rfl rfl (.loc rfl))) .int) .nil))) (.seq (.ifs (.cmp (o := .eq) (.call (q := 45) rfl rfl (.cons (.loc rfl) (.cons (.loc rfl) .nil))) (.gint (q := 22) rfl rfl)) (.seq (.asgT (.cons rfl (.cons rfl (.cons rfl (.cons rfl .nil)))) rfl rfl (.item rfl (.attr rfl rfl (.attr rfl rfl (.loc rfl))) (.loc rfl))) (.seq (.app rfl rfl (.loc rfl) (.call (q := 46) rfl rfl (.cons (.loc rfl) (.cons (.loc rfl) (.cons (.gint (q := 23) rfl rfl) (.cons (.gint (q := 2) rfl rfl) .nil)))))) .done)) .done) .done)) .done))⟩⟩),
        List.forall_mem_cons.2 ⟨(show ∃ a, PySem.W.nsIn _ mainGlobals (PySem.Str.ofString "in_check") = some (some (.ref a)) ∧ Mine.FnK _ a 60 from ⟨506, by k_is, ⟨by k_is, _, _, [PySem.Str.ofString "pos"], _, by k_is, by exact rfl, by k_is, by exact rfl, by exact .of rfl rfl rfl rfl rfl rfl rfl rfl rfl rfl rfl rfl (by kernel_rfl) (by kernel_rfl), by exact rfl, by exact rfl,
          by exact (show Mine.RB _ [] _ Mine.f60.body from (.seq (.ret (.call (q := 37) rfl rfl (.cons (.loc rfl) (.cons (.attr rfl rfl (.loc rfl)) .nil)))) .done))⟩⟩),
        List.forall_mem_cons.2 ⟨(show ∃ a, PySem.W.nsIn _ mainGlobals (PySem.Str.ofString "generate") = some (some (.ref a)) ∧ Mine.FnK _ a 89 from ⟨709, by k_is, ⟨by k_is, _, _, [PySem.Str.ofString "pos", PySem.Str.ofString "stage"], _, by k_is, by exact rfl, by k_is, by exact rfl, by exact .of rfl rfl rfl rfl rfl rfl rfl rfl rfl rfl rfl rfl (by kernel_rfl) (by kernel_rfl), by exact rfl, by exact rfl,
          by exact (show Mine.RB _ [] _ Mine.f89.body from (.seq (.asg rfl rfl (.list .nil)) (.seq (.ifs (.cmp (o := .eq) (.loc rfl) (.gint (q := 28) rfl rfl)) (.seq (.ex rfl (.call (q := 72) rfl rfl (.cons (.loc rfl) (.cons (.loc rfl) .nil)))) (.seq (.ret (.loc rfl)) .done)) .done) (.seq (.asg rfl rfl (.call (q := 73) rfl rfl (.cons (.loc rfl) (.cons (.loc rfl) .nil)))) (.seq (.ex rfl (.call (q := 62) rfl rfl (.cons (.loc rfl) (.cons (.loc rfl) (.cons (.attr rfl rfl (.attr rfl rfl (.loc rfl))) (.cons (.loc rfl) .nil)))))) (.seq (.ifs (.cmp (o := .ne) (.loc rfl) (.gint (q := 26) rfl rfl)) (.seq (.ex rfl (.call (q := 64) rfl rfl (.cons (.loc rfl) (.cons (.loc rfl) .nil)))) .done) .done) (.seq (.for1 rfl rfl (.list (.cons (.gint (q := 1) rfl rfl) (.cons (.gint (q := 3) rfl rfl) (.cons (.gint (q := 4) rfl rfl) (.cons (.gint (q := 5) rfl rfl) (.cons (.gint (q := 7) rfl rfl) .nil)))))) (.seq (.ex rfl (.call (q := 65) rfl rfl (.cons (.loc rfl) (.cons (.loc rfl) (.cons (.loc rfl) (.cons (.loc rfl) .nil)))))) .done)) (.seq (.ifs (.cmp (o := .ne) (.loc rfl) (.gint (q := 25) rfl rfl)) (.seq (.ex rfl (.call (q := 74) rfl rfl (.cons (.loc rfl) (.cons (.loc rfl) .nil)))) .done) .done) (.seq (.ret (.loc rfl)) .done)))))))))⟩⟩),
        List.forall_mem_cons.2 ⟨(show ∃ a, PySem.W.nsIn _ mainGlobals (PySem.Str.ofString "pinned_pieces") = some (some (.ref a)) ∧ Mine.FnK _ a 63 from ⟨527, by k_is, ⟨by k_is, _, _, [PySem.Str.ofString "pos", PySem.Str.ofString "side"], _, by k_is, by exact rfl, by k_is, by exact rfl, by exact .of rfl rfl rfl rfl rfl rfl rfl rfl rfl rfl rfl rfl (by kernel_rfl) (by kernel_rfl), by exact rfl, by exact rfl,
          by exact (show Mine.RB _ [] _ Mine.f63.body from (.seq (.ret (.op2 (o := .band) (.item rfl (.call (q := 42) rfl rfl (.cons (.loc rfl) (.cons (.loc rfl) .nil))) .int) (.item rfl (.attr rfl rfl (.loc rfl)) (.loc rfl)))) .done))⟩⟩),
        List.forall_mem_cons.2 ⟨(show ∃ a, PySem.W.nsIn _ mainGlobals (PySem.Str.ofString "is_legal") = some (some (.ref a)) ∧ Mine.FnK _ a 88 from ⟨702, by k_is, ⟨by k_is, _, _, [PySem.Str.ofString "pos", PySem.Str.ofString "move", PySem.Str.ofString "pinned"], _, by k_is, by exact rfl, by k_is, by exact rfl, by exact .of rfl rfl rfl rfl rfl rfl rfl rfl rfl rfl rfl rfl (by kernel_rfl) (by kernel_rfl), by exact rfl, by exact rfl,
          by exact (show Mine.RB _ [] _ Mine.f88.body from (.seq (.asg rfl rfl (.call (q := 67) rfl rfl (.cons (.loc rfl) .nil))) (.seq (.ifs (.cmp (o := .eq) (.loc rfl) (.gint (q := 23) rfl rfl)) (.seq (.ret .bool) .done) .done) (.seq (.ifs (.cmp (o := .eq) (.loc rfl) (.gint (q := 27) rfl rfl)) (.seq (.ret (.call (q := 70) rfl rfl (.cons (.loc rfl) (.cons (.loc rfl) .nil)))) .done) .done) (.seq (.asg rfl rfl (.call (q := 69) rfl rfl (.cons (.loc rfl) .nil))) (.seq (.asg rfl rfl (.call (q := 66) rfl rfl (.cons (.loc rfl) .nil))) (.seq (.asg rfl rfl (.call (q := 34) rfl rfl (.cons (.loc rfl) (.cons (.attr rfl rfl (.loc rfl)) .nil)))) (.seq (.ifs (.cmp (o := .eq) (.loc rfl) (.loc rfl)) (.seq (.asg rfl rfl (.op2 (o := .bxor) (.op2 (o := .bor) (.item rfl (.attr rfl rfl (.loc rfl)) (.gint (q := 11) rfl rfl)) (.item rfl (.attr rfl rfl (.loc rfl)) (.gint (q := 15) rfl rfl))) (.op2 (o := .shl) .int (.loc rfl)))) (.seq (.ret (.not (.call (q := 36) rfl rfl (.cons (.loc rfl) (.cons (.loc rfl) (.cons (.op2 (o := .sub) .int (.attr rfl rfl (.loc rfl))) (.cons (.loc rfl) .nil))))))) .done)) .done) (.seq (.ifs (.cmp (o := .eq) (.op2 (o := .band) (.op2 (o := .shr) (.loc rfl) (.loc rfl)) .int) .int) (.seq (.ret .bool) .done) .done) (.seq (.ret (.call (q := 71) rfl rfl (.cons (.attr rfl rfl (.loc rfl)) (.cons (.loc rfl) (.cons (.loc rfl) (.cons (.loc rfl) .nil)))))) .done))))))))))⟩⟩),
        List.forall_mem_cons.2 ⟨(show ∃ a, PySem.W.nsIn _ mainGlobals (PySem.Str.ofString "keep_legal") = some (some (.ref a)) ∧ Mine.FnK _ a 91 from ⟨723, by k_is, ⟨by k_is, _, _, [PySem.Str.ofString "pos", PySem.Str.ofString "moves"], _, by k_is, by exact rfl, by k_is, by exact rfl, by exact .of rfl rfl rfl rfl rfl rfl rfl rfl rfl rfl rfl rfl (by kernel_rfl) (by kernel_rfl), by exact rfl, by exact rfl,
          by exact (show Mine.RB _ [] _ Mine.f91.body from (.seq (.asg rfl rfl (.call (q := 77) rfl rfl (.cons (.loc rfl) (.cons (.attr rfl rfl (.loc rfl)) .nil)))) (.seq (.asg rfl rfl (.list .nil)) (.seq (.for1 rfl rfl (.loc rfl) (.seq (.ifs (.call (q := 78) rfl rfl (.cons (.loc rfl) (.cons (.loc rfl) (.cons (.loc rfl) .nil)))) (.seq (.app rfl rfl (.loc rfl) (.loc rfl)) .done) .done) .done)) (.seq (.ret (.loc rfl)) .done)))))⟩⟩),
        List.forall_mem_cons.2 ⟨(show ∃ a, PySem.W.nsIn _ mainGlobals (PySem.Str.ofString "pseudo_moves") = some (some (.ref a)) ∧ Mine.FnK _ a 90 from ⟨716, by k_is, ⟨by k_is, _, _, [PySem.Str.ofString "pos"], _, by k_is, by exact rfl, by k_is, by exact rfl, by exact .of rfl rfl rfl rfl rfl rfl rfl rfl rfl rfl rfl rfl (by kernel_rfl) (by kernel_rfl), by exact rfl, by exact rfl,
          by exact (show Mine.RB _ [] _ Mine.f90.body from (.seq (.ifs (.call (q := 75) rfl rfl (.cons (.loc rfl) .nil)) (.seq (.ret (.call (q := 76) rfl rfl (.cons (.loc rfl) (.cons (.gint (q := 28) rfl rfl) .nil)))) .done) .done) (.seq (.ret (.call (q := 76) rfl rfl (.cons (.loc rfl) (.cons (.gint (q := 29) rfl rfl) .nil)))) .done)))⟩⟩),
        List.forall_mem_cons.2 ⟨(show ∃ a, PySem.W.nsIn _ mainGlobals (PySem.Str.ofString "has_legal_move") = some (some (.ref a)) ∧ Mine.FnK _ a 93 from ⟨737, by k_is, ⟨by k_is, _, _, [PySem.Str.ofString "pos"], _, by k_is, by exact rfl, by k_is, by exact rfl, by exact .of rfl rfl rfl rfl rfl rfl rfl rfl rfl rfl rfl rfl (by kernel_rfl) (by kernel_rfl), by exact rfl, by exact rfl,
          by exact (show Mine.RB _ [] _ Mine.f93.body from (.seq (.asg rfl rfl (.ite (.call (q := 75) rfl rfl (.cons (.loc rfl) .nil)) (.list (.cons (.gint (q := 28) rfl rfl) .nil)) (.list (.cons (.gint (q := 25) rfl rfl) (.cons (.gint (q := 26) rfl rfl) .nil))))) (.seq (.asg rfl rfl (.call (q := 77) rfl rfl (.cons (.loc rfl) (.cons (.attr rfl rfl (.loc rfl)) .nil)))) (.seq (.for1 rfl rfl (.loc rfl) (.seq (.for1 rfl rfl (.call (q := 76) rfl rfl (.cons (.loc rfl) (.cons (.loc rfl) .nil))) (.seq (.ifs (.call (q := 78) rfl rfl (.cons (.loc rfl) (.cons (.loc rfl) (.cons (.loc rfl) .nil)))) (.seq (.ret .bool) .done) .done) .done)) .done)) (.seq (.ret .bool) .done)))))⟩⟩),
        List.forall_mem_cons.2 ⟨(show ∃ a, PySem.W.nsIn _ mainGlobals (PySem.Str.ofString "moved_piece") = some (some (.ref a)) ∧ Mine.FnK _ a 95 from ⟨751, by k_is, ⟨by k_is, _, _, [PySem.Str.ofString "pos", PySem.Str.ofString "move"], _, by k_is, by exact rfl, by k_is, by exact rfl, by exact .of rfl rfl rfl rfl rfl rfl rfl rfl rfl rfl rfl rfl (by kernel_rfl) (by kernel_rfl), by exact rfl, by exact rfl,
          by exact (show Mine.RB _ [] _ Mine.f95.body from (.seq (.asg rfl rfl (.call (q := 69) rfl rfl (.cons (.loc rfl) .nil))) (.seq (.ifs (.bo (.or (.cmp (o := .ge) (.loc rfl) (.attr rfl rfl (.attr rfl rfl (.loc rfl)))) (.one (.cmp (o := .ge) (.call (q := 66) rfl rfl (.cons (.loc rfl) .nil)) (.attr rfl rfl (.attr rfl rfl (.loc rfl))))))) (.seq .fail .done) .done) (.seq (.asg rfl rfl (.item rfl (.attr rfl rfl (.loc rfl)) (.loc rfl))) (.seq (.ifs (.bo (.or (.cmp (o := .eq) (.loc rfl) (.gint (q := 14) rfl rfl)) (.one (.cmp (o := .ne) (.call (q := 26) rfl rfl (.cons (.loc rfl) .nil)) (.attr rfl rfl (.loc rfl)))))) (.seq .fail .done) .done) (.seq (.ret (.loc rfl)) .done))))))⟩⟩),
        List.forall_mem_cons.2 ⟨(show ∃ a, PySem.W.nsIn _ mainGlobals (PySem.Str.ofString "rook_step") = some (some (.ref a)) ∧ Mine.FnK _ a 97 from ⟨765, by k_is, ⟨by k_is, _, _, [PySem.Str.ofString "geo", PySem.Str.ofString "side", PySem.Str.ofString "goal"], _, by k_is, by exact rfl, by k_is, by exact rfl, by exact .of rfl rfl rfl rfl rfl rfl rfl rfl rfl rfl rfl rfl (by kernel_rfl) (by kernel_rfl), by exact rfl, by exact rfl,
          by exact (show Mine.RB _ [] _ Mine.f97.body from (.seq (.for1 rfl rfl (.tup (.cons (.op2 (o := .mul) .int (.loc rfl)) (.cons (.op2 (o := .add) (.op2 (o := .mul) .int (.loc rfl)) .int) .nil))) (.seq (.asg rfl rfl (.item rfl (.attr rfl rfl (.loc rfl)) (.loc rfl))) (.seq (.ifs (.bo (.and (.isNN (.loc rfl)) (.one (.cmp (o := .eq) (.item rfl (.loc rfl) .int) (.loc rfl))))) (.seq (.ret (.tup (.cons (.item rfl (.loc rfl) .int) (.cons (.item rfl (.loc rfl) .int) .nil)))) .done) .done) .done))) (.seq .fail .done)))⟩⟩),
        List.forall_mem_cons.2 ⟨(show ∃ a, PySem.W.nsIn _ mainGlobals (PySem.Str.ofString "taken_square_makemove") = some (some (.ref a)) ∧ Mine.FnK _ a 96 from ⟨758, by k_is, ⟨by k_is, _, _, [PySem.Str.ofString "pos", PySem.Str.ofString "move"], _, by k_is, by exact rfl, by k_is, by exact rfl, by exact .of rfl rfl rfl rfl rfl rfl rfl rfl rfl rfl rfl rfl (by kernel_rfl) (by kernel_rfl), by exact rfl, by exact rfl,
          by exact (show Mine.RB _ [] _ Mine.f96.body from (.seq (.asg rfl rfl (.call (q := 66) rfl rfl (.cons (.loc rfl) .nil))) (.seq (.ifs (.cmp (o := .ne) (.call (q := 67) rfl rfl (.cons (.loc rfl) .nil)) (.gint (q := 27) rfl rfl)) (.seq (.ret (.loc rfl)) .done) .done) (.seq (.ifs (.cmp (o := .eq) (.attr rfl rfl (.loc rfl)) (.gint (q := 11) rfl rfl)) (.seq (.ret (.op2 (o := .sub) (.loc rfl) (.attr rfl rfl (.attr rfl rfl (.loc rfl))))) .done) .done) (.seq (.ret (.op2 (o := .add) (.loc rfl) (.attr rfl rfl (.attr rfl rfl (.loc rfl))))) .done)))))⟩⟩),
        List.forall_mem_cons.2 ⟨(show ∃ a, PySem.W.nsIn _ mainGlobals (PySem.Str.ofString "clear_ep_key") = some (some (.ref a)) ∧ Mine.FnK _ a 100 from ⟨786, by k_is, ⟨by k_is, _, _, [PySem.Str.ofString "pos"], _, by k_is, by exact rfl, by k_is, by exact rfl, by exact .of rfl rfl rfl rfl rfl rfl rfl rfl rfl rfl rfl rfl (by kernel_rfl) (by kernel_rfl), by exact rfl, by exact rfl,
          by exact (show Mine.RB _ [] _ Mine.f100.body from (.seq (.ifs (.cmp (o := .ge) (.attr rfl rfl (.loc rfl)) .int) (.seq (.augA (o := .bxor) rfl (.loc rfl) (.item rfl (.attr rfl rfl (.attr rfl rfl (.loc rfl))) (.op2 (o := .md) (.attr rfl rfl (.loc rfl)) (.attr rfl rfl (.attr rfl rfl (.loc rfl)))))) (.seq (.setAttr rfl rfl (.loc rfl) (.neg .int)) .done)) .done) .done))⟩⟩),
        List.forall_mem_cons.2 ⟨(show ∃ a, PySem.W.nsIn _ mainGlobals (PySem.Str.ofString "take_piece") = some (some (.ref a)) ∧ Mine.FnK _ a 45 from ⟨401, by k_is, ⟨by k_is, _, _, [PySem.Str.ofString "pos", PySem.Str.ofString "s"], _, by k_is, by exact rfl, by k_is, by exact rfl, by exact .of rfl rfl rfl rfl rfl rfl rfl rfl rfl rfl rfl rfl (by kernel_rfl) (by kernel_rfl), by exact rfl, by exact rfl,
          by exact (show Mine.RB _ [] _ Mine.f45.body from (.seq (.asg rfl rfl (.item rfl (.attr rfl rfl (.loc rfl)) (.loc rfl))) (.seq (.asg rfl rfl (.op2 (o := .shl) .int (.loc rfl))) (.seq (.setItem rfl rfl (.attr rfl rfl (.loc rfl)) (.loc rfl) (.gint (q := 14) rfl rfl)) (.seq (.augI (o := .bxor) rfl (.attr rfl rfl (.loc rfl)) (.call (q := 25) rfl rfl (.cons (.loc rfl) .nil)) (.loc rfl)) (.seq (.augI (o := .bxor) rfl (.attr rfl rfl (.loc rfl)) (.call (q := 26) rfl rfl (.cons (.loc rfl) .nil)) (.loc rfl)) (.seq (.augA (o := .bxor) rfl (.loc rfl) (.item rfl (.item rfl (.attr rfl rfl (.attr rfl rfl (.loc rfl))) (.loc rfl)) (.loc rfl))) (.seq (.ret (.loc rfl)) .done))))))))⟩⟩),
        List.forall_mem_cons.2 ⟨(show ∃ a, PySem.W.nsIn _ mainGlobals (PySem.Str.ofString "put_piece") = some (some (.ref a)) ∧ Mine.FnK _ a 44 from ⟨394, by k_is, ⟨by k_is, _, _, [PySem.Str.ofString "pos", PySem.Str.ofString "piece", PySem.Str.ofString "s"], _, by k_is, by exact rfl, by k_is, by exact rfl, by exact .of rfl rfl rfl rfl rfl rfl rfl rfl rfl rfl rfl rfl (by kernel_rfl) (by kernel_rfl), by exact rfl, by exact rfl,
          by exact (show Mine.RB _ [] _ Mine.f44.body from (.seq (.asg rfl rfl (.op2 (o := .shl) .int (.loc rfl))) (.seq (.setItem rfl rfl (.attr rfl rfl (.loc rfl)) (.loc rfl) (.loc rfl)) (.seq (.augI (o := .bor) rfl (.attr rfl rfl (.loc rfl)) (.call (q := 25) rfl rfl (.cons (.loc rfl) .nil)) (.loc rfl)) (.seq (.augI (o := .bor) rfl (.attr rfl rfl (.loc rfl)) (.call (q := 26) rfl rfl (.cons (.loc rfl) .nil)) (.loc rfl)) (.seq (.augA (o := .bxor) rfl (.loc rfl) (.item rfl (.item rfl (.attr rfl rfl (.attr rfl rfl (.loc rfl))) (.loc rfl)) (.loc rfl))) .done))))))⟩⟩),
        List.forall_mem_cons.2 ⟨(show ∃ a, PySem.W.nsIn _ mainGlobals (PySem.Str.ofString "make_piece") = some (some (.ref a)) ∧ Mine.FnK _ a 1 from ⟨65, by k_is, ⟨by k_is, _, _, [PySem.Str.ofString "side", PySem.Str.ofString "kind"], _, by k_is, by exact rfl, by k_is, by exact rfl, by exact .of rfl rfl rfl rfl rfl rfl rfl rfl rfl rfl rfl rfl (by kernel_rfl) (by kernel_rfl), by exact rfl, by exact rfl,
          by exact (show Mine.RB _ [] _ Mine.f1.body from (.seq (.ret (.op2 (o := .add) (.op2 (o := .mul) (.loc rfl) .int) (.loc rfl))) .done))⟩⟩),
        List.forall_mem_cons.2 ⟨(show ∃ a, PySem.W.nsIn _ mainGlobals (PySem.Str.ofString "move_promo") = some (some (.ref a)) ∧ Mine.FnK _ a 8 from ⟨114, by k_is, ⟨by k_is, _, _, [PySem.Str.ofString "move"], _, by k_is, by exact rfl, by k_is, by exact rfl, by exact .of rfl rfl rfl rfl rfl rfl rfl rfl rfl rfl rfl rfl (by kernel_rfl) (by kernel_rfl), by exact rfl, by exact rfl,
          by exact (show Mine.RB _ [] _ Mine.f8.body from (.seq (.ifs (.cmp (o := .ne) (.op2 (o := .band) (.op2 (o := .shr) (.loc rfl) .int) .int) (.gint (q := 0) rfl rfl)) (.seq (.ret (.gint (q := 2) rfl rfl)) .done) .done) (.seq (.ret (.op2 (o := .add) (.op2 (o := .band) (.op2 (o := .shr) (.loc rfl) .int) .int) (.gint (q := 1) rfl rfl))) .done)))⟩⟩),
        List.forall_mem_cons.2 ⟨(show ∃ a, PySem.W.nsIn _ mainGlobals (PySem.Str.ofString "shift_piece") = some (some (.ref a)) ∧ Mine.FnK _ a 46 from ⟨408, by k_is, ⟨by k_is, _, _, [PySem.Str.ofString "pos", PySem.Str.ofString "a", PySem.Str.ofString "b"], _, by k_is, by exact rfl, by k_is, by exact rfl, by exact .of rfl rfl rfl rfl rfl rfl rfl rfl rfl rfl rfl rfl (by kernel_rfl) (by kernel_rfl), by exact rfl, by exact rfl,
          by exact (show Mine.RB _ [] _ Mine.f46.body from (.seq (.asg rfl rfl (.item rfl (.attr rfl rfl (.loc rfl)) (.loc rfl))) (.seq (.asg rfl rfl (.op2 (o := .bor) (.op2 (o := .shl) .int (.loc rfl)) (.op2 (o := .shl) .int (.loc rfl)))) (.seq (.setItem rfl rfl (.attr rfl rfl (.loc rfl)) (.loc rfl) (.gint (q := 14) rfl rfl)) (.seq (.setItem rfl rfl (.attr rfl rfl (.loc rfl)) (.loc rfl) (.loc rfl)) (.seq (.augI (o := .bxor) rfl (.attr rfl rfl (.loc rfl)) (.call (q := 25) rfl rfl (.cons (.loc rfl) .nil)) (.loc rfl)) (.seq (.augI (o := .bxor) rfl (.attr rfl rfl (.loc rfl)) (.call (q := 26) rfl rfl (.cons (.loc rfl) .nil)) (.loc rfl)) (.seq (.asg rfl rfl (.item rfl (.attr rfl rfl (.attr rfl rfl (.loc rfl))) (.loc rfl))) (.seq (.augA (o := .bxor) rfl (.loc rfl) (.op2 (o := .bxor) (.item rfl (.loc rfl) (.loc rfl)) (.item rfl (.loc rfl) (.loc rfl)))) .done)))))))))⟩⟩),
        List.forall_mem_cons.2 ⟨(show ∃ a, PySem.W.nsIn _ mainGlobals (PySem.Str.ofString "set_ep_key") = some (some (.ref a)) ∧ Mine.FnK _ a 101 from ⟨793, by k_is, ⟨by k_is, _, _, [PySem.Str.ofString "pos", PySem.Str.ofString "square"], _, by k_is, by exact rfl, by k_is, by exact rfl, by exact .of rfl rfl rfl rfl rfl rfl rfl rfl rfl rfl rfl rfl (by kernel_rfl) (by kernel_rfl), by exact rfl, by exact rfl,
          by exact (show Mine.RB _ [] _ Mine.f101.body from (.seq (.ifs (.cmp (o := .ge) (.loc rfl) .int) (.seq (.augA (o := .bxor) rfl (.loc rfl) (.item rfl (.attr rfl rfl (.attr rfl rfl (.loc rfl))) (.op2 (o := .md) (.loc rfl) (.attr rfl rfl (.attr rfl rfl (.loc rfl)))))) .done) .done) (.seq (.setAttr rfl rfl (.loc rfl) (.loc rfl)) .done)))⟩⟩),
        List.forall_mem_cons.2 ⟨(show ∃ a, PySem.W.nsIn _ mainGlobals (PySem.Str.ofString "passed_square") = some (some (.ref a)) ∧ Mine.FnK _ a 98 from ⟨772, by k_is, ⟨by k_is, _, _, [PySem.Str.ofString "pos", PySem.Str.ofString "side", PySem.Str.ofString "origin", PySem.Str.ofString "goal"], _, by k_is, by exact rfl, by k_is, by exact rfl, by exact .of rfl rfl rfl rfl rfl rfl rfl rfl rfl rfl rfl rfl (by kernel_rfl) (by kernel_rfl), by exact rfl, by exact rfl,
          by exact (show Mine.RB _ [] _ Mine.f98.body from (.seq (.asg rfl rfl (.attr rfl rfl (.attr rfl rfl (.loc rfl)))) (.seq (.ifs (.bo (.and (.cmp (o := .ne) (.op2 (o := .sub) (.loc rfl) (.loc rfl)) (.op2 (o := .mul) .int (.loc rfl))) (.one (.cmp (o := .ne) (.op2 (o := .sub) (.loc rfl) (.loc rfl)) (.op2 (o := .mul) .int (.loc rfl)))))) (.seq (.ret (.neg .int)) .done) .done) (.seq (.asg rfl rfl (.op2 (o := .fdv) (.op2 (o := .add) (.loc rfl) (.loc rfl)) .int)) (.seq (.asg rfl rfl (.op2 (o := .band) (.item rfl (.attr rfl rfl (.loc rfl)) (.gint (q := 6) rfl rfl)) (.item rfl (.attr rfl rfl (.loc rfl)) (.op2 (o := .sub) .int (.loc rfl))))) (.seq (.ifs (.cmp (o := .eq) (.op2 (o := .band) (.item rfl (.item rfl (.attr rfl rfl (.attr rfl rfl (.loc rfl))) (.loc rfl)) (.loc rfl)) (.loc rfl)) .int) (.seq (.ret (.neg .int)) .done) .done) (.seq (.ret (.loc rfl)) .done)))))))⟩⟩),
        List.forall_mem_cons.2 ⟨(show ∃ a, PySem.W.nsIn _ mainGlobals (PySem.Str.ofString "set_rights_key") = some (some (.ref a)) ∧ Mine.FnK _ a 102 from ⟨800, by k_is, ⟨by k_is, _, _, [PySem.Str.ofString "pos", PySem.Str.ofString "rights"], _, by k_is, by exact rfl, by k_is, by exact rfl, by exact .of rfl rfl rfl rfl rfl rfl rfl rfl rfl rfl rfl rfl (by kernel_rfl) (by kernel_rfl), by exact rfl, by exact rfl,
          by exact (show Mine.RB _ [] _ Mine.f102.body from (.seq (.ifs (.cmp (o := .ne) (.loc rfl) (.attr rfl rfl (.loc rfl))) (.seq (.augA (o := .bxor) rfl (.loc rfl) (.op2 (o := .bxor) (.item rfl (.attr rfl rfl (.attr rfl rfl (.loc rfl))) (.attr rfl rfl (.loc rfl))) (.item rfl (.attr rfl rfl (.attr rfl rfl (.loc rfl))) (.loc rfl)))) (.seq (.setAttr rfl rfl (.loc rfl) (.loc rfl)) .done)) .done) .done))⟩⟩),
        List.forall_mem_cons.2 ⟨(show ∃ a, PySem.W.nsIn _ mainGlobals (PySem.Str.ofString "kept_rights") = some (some (.ref a)) ∧ Mine.FnK _ a 99 from ⟨779, by k_is, ⟨by k_is, _, _, [PySem.Str.ofString "pos", PySem.Str.ofString "origin", PySem.Str.ofString "goal"], _, by k_is, by exact rfl, by k_is, by exact rfl, by exact .of rfl rfl rfl rfl rfl rfl rfl rfl rfl rfl rfl rfl (by kernel_rfl) (by kernel_rfl), by exact rfl, by exact rfl,
          by exact (show Mine.RB _ [] _ Mine.f99.body from (.seq (.asg rfl rfl (.op2 (o := .bor) (.item rfl (.attr rfl rfl (.attr rfl rfl (.loc rfl))) (.loc rfl)) (.item rfl (.attr rfl rfl (.attr rfl rfl (.loc rfl))) (.loc rfl)))) (.seq (.ret (.op2 (o := .sub) (.attr rfl rfl (.loc rfl)) (.op2 (o := .band) (.attr rfl rfl (.loc rfl)) (.loc rfl)))) .done)))⟩⟩),
        List.forall_mem_cons.2 ⟨(show ∃ a, PySem.W.nsIn _ mainGlobals (PySem.Str.ofString "make_geometry") = some (some (.ref a)) ∧ Mine.FnK _ a 17 from ⟨193, by k_is, ⟨by k_is, _, _, [PySem.Str.ofString "files", PySem.Str.ofString "ranks", PySem.Str.ofString "has_double", PySem.Str.ofString "has_castling"], _, by k_is, by exact rfl, by k_is, by exact rfl, by exact .of rfl rfl rfl rfl rfl rfl rfl rfl rfl rfl rfl rfl (by kernel_rfl) (by kernel_rfl), by exact rfl, by exact rfl,
          by exact (show Mine.RB _ [] _ Mine.f17.body from (.seq (.ifs (.bo (.or (.cmp (o := .lt) (.loc rfl) .int) (.or (.cmp (o := .gt) (.loc rfl) .int) (.or (.cmp (o := .lt) (.loc rfl) .int) (.one (.cmp (o := .gt) (.loc rfl) .int)))))) (.seq .fail .done) .done) (.seq (.asg rfl rfl (.new (q := 0) rfl rfl (.cons (.loc rfl) (.cons (.loc rfl) (.cons (.loc rfl) (.cons (.loc rfl) .nil)))))) (.seq (.ex rfl (.call (q := 2) rfl rfl (.cons (.loc rfl) .nil))) (.seq (.ex rfl (.call (q := 3) rfl rfl (.cons (.loc rfl) .nil))) (.seq (.ex rfl (.call (q := 4) rfl rfl (.cons (.loc rfl) .nil))) (.seq (.ex rfl (.call (q := 5) rfl rfl (.cons (.loc rfl) .nil))) (.seq (.ex rfl (.call (q := 6) rfl rfl (.cons (.loc rfl) .nil))) (.seq (.ret (.loc rfl)) .done)))))))))⟩⟩),
        List.forall_mem_cons.2 ⟨(show ∃ a, PySem.W.nsIn _ mainGlobals (PySem.Str.ofString "build_zone") = some (some (.ref a)) ∧ Mine.FnK _ a 31 from ⟨289, by k_is, ⟨by k_is, _, _, [PySem.Str.ofString "geo", PySem.Str.ofString "kind", PySem.Str.ofString "zone"], _, by k_is, by exact rfl, by k_is, by exact rfl, by exact .of rfl rfl rfl rfl rfl rfl rfl rfl rfl rfl rfl rfl (by kernel_rfl) (by kernel_rfl), by exact rfl, by exact rfl,
          by exact (show Mine.RB _ [] _ Mine.f31.body from (.seq (.ifs (.bo (.or (.cmp (o := .lt) (.loc rfl) (.gint (q := 1) rfl rfl)) (.one (.cmp (o := .gt) (.loc rfl) (.gint (q := 5) rfl rfl))))) (.seq .fail .done) .done) (.seq (.asg rfl rfl (.op2 (o := .mul) (.op2 (o := .mul) (.attr rfl rfl (.loc rfl)) (.attr rfl rfl (.loc rfl))) (.attr rfl rfl (.loc rfl)))) (.seq (.asg rfl rfl (.op2 (o := .mul) (.list (.cons (.gint (q := 13) rfl rfl) .nil)) (.op2 (o := .mul) .int (.loc rfl)))) (.seq (.asg rfl rfl (.call (q := 16) rfl rfl (.cons (.loc rfl) (.cons (.loc rfl) (.cons (.loc rfl) (.cons (.loc rfl) .nil)))))) (.seq (.asg rfl rfl (.dict1 (.gint (q := 9) rfl rfl) (.gint (q := 9) rfl rfl))) (.seq (.for1 rfl rfl (.range rfl (.cons (.len rfl (.loc rfl)) .nil)) (.seq (.setItem rfl rfl (.loc rfl) (.item rfl (.loc rfl) (.loc rfl)) (.loc rfl)) .done)) (.seq (.asg rfl rfl (.list .nil)) (.seq (.asg rfl rfl (.list .nil)) (.seq (.asg rfl rfl (.list .nil)) (.seq (.for1 rfl rfl (.loc rfl) (.seq (.asgT (.cons rfl (.cons rfl (.cons rfl (.cons rfl .nil)))) rfl rfl (.call (q := 17) rfl rfl (.cons (.attr rfl rfl (.loc rfl)) (.cons (.loc rfl) .nil)))) (.seq (.asg rfl rfl (.list .nil)) (.seq (.forT (.cons rfl (.cons rfl (.cons rfl .nil))) rfl (.call (q := 18) rfl rfl (.cons (.loc rfl) (.cons (.loc rfl) (.cons (.loc rfl) (.cons (.loc rfl) (.cons (.loc rfl) (.cons (.loc rfl) (.cons (.loc rfl) .nil)))))))) (.seq (.app rfl rfl (.loc rfl) (.item rfl (.loc rfl) (.loc rfl))) .done)) (.seq (.app rfl rfl (.loc rfl) (.loc rfl)) (.seq (.app rfl rfl (.loc rfl) (.loc rfl)) (.seq (.app rfl rfl (.loc rfl) (.bo (.and (.cmp (o := .eq) (.loc rfl) (.gint (q := 12) rfl rfl)) (.and (.cmp (o := .eq) (.loc rfl) (.list .nil)) (.one (.cmp (o := .eq) (.item rfl (.loc rfl) (.op2 (o := .sub) (.loc rfl) (.loc rfl))) (.gint (q := 13) rfl rfl))))))) .done))))))) (.seq (.asg rfl rfl (.call (q := 19) rfl rfl (.cons (.loc rfl) (.cons (.loc rfl) (.cons (.loc rfl) .nil))))) (.seq (.for1 rfl rfl (.range rfl (.cons (.len rfl (.loc rfl)) .nil)) (.seq (.setItem rfl rfl (.loc rfl) (.item rfl (.loc rfl) (.loc rfl)) (.item rfl (.loc rfl) (.loc rfl))) .done)) (.seq (.ret (.loc rfl)) .done))))))))))))))⟩⟩),
        List.forall_mem_cons.2 ⟨(show ∃ a, PySem.W.nsIn _ mainGlobals (PySem.Str.ofString "_law_board") = some (some (.ref a)) ∧ Mine.FnK _ a 105 from ⟨835, by k_is, ⟨by k_is, _, _, [PySem.Str.ofString "geo", PySem.Str.ofString "place"], _, by k_is, by exact rfl, by k_is, by exact rfl, by exact .of rfl rfl rfl rfl rfl rfl rfl rfl rfl rfl rfl rfl (by kernel_rfl) (by kernel_rfl), by exact rfl, by exact rfl,
          by exact (show Mine.RB _ [] _ Mine.f105.body from (.seq (.asgT (.cons rfl (.cons rfl (.cons rfl (.cons rfl .nil)))) rfl rfl (.call (q := 17) rfl rfl (.cons .int (.cons (.loc rfl) .nil)))) (.seq (.asg rfl rfl (.new (q := 1) rfl rfl (.cons (.loc rfl) (.cons (.new (q := 2) rfl rfl (.cons (.op2 (o := .mul) (.list (.cons (.op2 (o := .mul) (.list (.cons .int .nil)) .int) .nil)) .int) (.cons (.op2 (o := .mul) (.list (.cons .int .nil)) .int) (.cons (.op2 (o := .mul) (.list (.cons .int .nil)) .int) (.cons .int .nil))))) .nil)))) (.seq (.forT (.cons rfl (.cons rfl .nil)) rfl (.tup (.cons (.tup (.cons (.call (q := 88) rfl rfl (.cons .int (.cons (.gint (q := 7) rfl rfl) .nil))) (.cons (.loc rfl) .nil))) (.cons (.tup (.cons (.call (q := 88) rfl rfl (.cons .int (.cons (.gint (q := 5) rfl rfl) .nil))) (.cons (.loc rfl) .nil))) (.cons (.tup (.cons (.call (q := 88) rfl rfl (.cons .int (.cons (.gint (q := 7) rfl rfl) .nil))) (.cons (.loc rfl) .nil))) .nil)))) (.seq (.ex rfl (.call (q := 87) rfl rfl (.cons (.loc rfl) (.cons (.loc rfl) (.cons (.loc rfl) .nil))))) .done)) (.seq (.setAttr rfl rfl (.loc rfl) (.loc rfl)) (.seq (.ret (.loc rfl)) .done))))))⟩⟩),
        List.forall_mem_cons.2 ⟨(show ∃ a, PySem.W.nsIn _ mainGlobals (PySem.Str.ofString "mate_line") = some (some (.ref a)) ∧ Mine.FnK _ a 34 from ⟨310, by k_is, ⟨by k_is, _, _, [PySem.Str.ofString "geo", PySem.Str.ofString "table", PySem.Str.ofString "kind", PySem.Str.ofString "side", PySem.Str.ofString "strong", PySem.Str.ofString "piece", PySem.Str.ofString "weak"], _, by k_is, by exact rfl, by k_is, by exact rfl, by exact .of rfl rfl rfl rfl rfl rfl rfl rfl rfl rfl rfl rfl (by kernel_rfl) (by kernel_rfl), by exact rfl, by exact rfl,
          by exact (show Mine.RB _ [] _ Mine.f34.body from (.seq (.asg rfl rfl (.list .nil)) (.seq (.asg rfl rfl (.call (q := 20) rfl rfl (.cons (.loc rfl) (.cons (.loc rfl) (.cons (.loc rfl) (.cons (.loc rfl) (.cons (.loc rfl) (.cons (.loc rfl) (.cons (.loc rfl) .nil))))))))) (.seq (.while (.cmp (o := .gt) (.loc rfl) .int) (.seq (.asgT (.cons rfl (.cons rfl .nil)) rfl rfl (.call (q := 21) rfl rfl (.cons (.loc rfl) (.cons (.loc rfl) (.cons (.loc rfl) (.cons (.loc rfl) (.cons (.loc rfl) (.cons (.loc rfl) (.cons (.loc rfl) .nil))))))))) (.seq (.app rfl rfl (.loc rfl) (.tup (.cons (.loc rfl) (.cons (.loc rfl) .nil)))) (.seq (.ifs (.cmp (o := .eq) (.loc rfl) (.loc rfl)) (.seq (.asg rfl rfl (.loc rfl)) .done) (.seq (.ifs (.cmp (o := .eq) (.loc rfl) (.loc rfl)) (.seq (.asg rfl rfl (.loc rfl)) .done) (.seq (.asg rfl rfl (.loc rfl)) .done)) .done)) (.seq (.asg rfl rfl (.op2 (o := .sub) .int (.loc rfl))) (.seq (.augN (o := .sub) rfl .int) .done)))))) (.seq (.ret (.loc rfl)) .done)))))⟩⟩),
        List.forall_mem_cons.2 ⟨(show ∃ a, PySem.W.nsIn _ mainGlobals (PySem.Str.ofString "legal_moves") = some (some (.ref a)) ∧ Mine.FnK _ a 92 from ⟨730, by k_is, ⟨by k_is, _, _, [PySem.Str.ofString "pos"], _, by k_is, by exact rfl, by k_is, by exact rfl, by exact .of rfl rfl rfl rfl rfl rfl rfl rfl rfl rfl rfl rfl (by kernel_rfl) (by kernel_rfl), by exact rfl, by exact rfl,
          by exact (show Mine.RB _ [] _ Mine.f92.body from (.seq (.ret (.call (q := 79) rfl rfl (.cons (.loc rfl) (.cons (.call (q := 80) rfl rfl (.cons (.loc rfl) .nil)) .nil)))) .done))⟩⟩),
        List.forall_mem_cons.2 ⟨(show ∃ a, PySem.W.nsIn _ mainGlobals (PySem.Str.ofString "do_move") = some (some (.ref a)) ∧ Mine.FnK _ a 103 from ⟨807, by k_is, ⟨by k_is, _, _, [PySem.Str.ofString "pos", PySem.Str.ofString "move"], _, by k_is, by exact rfl, by k_is, by exact rfl, by exact .of rfl rfl rfl rfl rfl rfl rfl rfl rfl rfl rfl rfl (by kernel_rfl) (by kernel_rfl), by exact rfl, by exact rfl,
          by exact (show Mine.RB _ [] _ Mine.f103.body from (.seq (.asg rfl rfl (.call (q := 82) rfl rfl (.cons (.loc rfl) (.cons (.loc rfl) .nil)))) (.seq (.asg rfl rfl (.attr rfl rfl (.loc rfl))) (.seq (.asg rfl rfl (.call (q := 69) rfl rfl (.cons (.loc rfl) .nil))) (.seq (.asg rfl rfl (.call (q := 66) rfl rfl (.cons (.loc rfl) .nil))) (.seq (.asg rfl rfl (.call (q := 67) rfl rfl (.cons (.loc rfl) .nil))) (.seq (.asg rfl rfl (.tup (.cons (.neg .int) (.cons (.neg .int) .nil)))) (.seq (.ifs (.cmp (o := .eq) (.loc rfl) (.gint (q := 23) rfl rfl)) (.seq (.asg rfl rfl (.call (q := 83) rfl rfl (.cons (.attr rfl rfl (.loc rfl)) (.cons (.loc rfl) (.cons (.loc rfl) .nil))))) .done) .done) (.seq (.asg rfl rfl (.call (q := 84) rfl rfl (.cons (.loc rfl) (.cons (.loc rfl) .nil)))) (.seq (.asg rfl rfl (.item rfl (.attr rfl rfl (.loc rfl)) (.loc rfl))) (.seq (.app rfl rfl (.attr rfl rfl (.loc rfl)) (.tup (.cons (.loc rfl) (.cons (.loc rfl) (.cons (.attr rfl rfl (.loc rfl)) (.cons (.attr rfl rfl (.loc rfl)) (.cons (.attr rfl rfl (.loc rfl)) (.cons (.attr rfl rfl (.loc rfl)) .nil)))))))) (.seq (.ex rfl (.call (q := 85) rfl rfl (.cons (.loc rfl) .nil))) (.seq (.augA (o := .add) rfl (.loc rfl) .int) (.seq (.ifs (.cmp (o := .ne) (.loc rfl) (.gint (q := 14) rfl rfl)) (.seq (.ex rfl (.call (q := 86) rfl rfl (.cons (.loc rfl) (.cons (.loc rfl) .nil)))) (.seq (.setAttr rfl rfl (.loc rfl) .int) .done)) .done) (.seq (.ifs (.cmp (o := .eq) (.loc rfl) (.gint (q := 0) rfl rfl)) (.seq (.ex rfl (.call (q := 86) rfl rfl (.cons (.loc rfl) (.cons (.loc rfl) .nil)))) (.seq (.ex rfl (.call (q := 87) rfl rfl (.cons (.loc rfl) (.cons (.call (q := 88) rfl rfl (.cons (.loc rfl) (.cons (.call (q := 89) rfl rfl (.cons (.loc rfl) .nil)) .nil))) (.cons (.loc rfl) .nil))))) .done)) (.seq (.ex rfl (.call (q := 90) rfl rfl (.cons (.loc rfl) (.cons (.loc rfl) (.cons (.loc rfl) .nil))))) .done)) (.seq (.ifs (.cmp (o := .eq) (.loc rfl) (.gint (q := 23) rfl rfl)) (.seq (.ex rfl (.call (q := 90) rfl rfl (.cons (.loc rfl) (.cons (.item rfl (.loc rfl) .int) (.cons (.item rfl (.loc rfl) .int) .nil))))) .done) .done) (.seq (.ifs (.cmp (o := .eq) (.call (q := 25) rfl rfl (.cons (.loc rfl) .nil)) (.gint (q := 6) rfl rfl)) (.seq (.setAttr rfl rfl (.loc rfl) .int) (.seq (.ex rfl (.call (q := 91) rfl rfl (.cons (.loc rfl) (.cons (.call (q := 92) rfl rfl (.cons (.loc rfl) (.cons (.loc rfl) (.cons (.loc rfl) (.cons (.loc rfl) .nil))))) .nil)))) .done)) .done) (.seq (.ex rfl (.call (q := 93) rfl rfl (.cons (.loc rfl) (.cons (.call (q := 94) rfl rfl (.cons (.loc rfl) (.cons (.loc rfl) (.cons (.loc rfl) .nil)))) .nil)))) (.seq (.ifs (.cmp (o := .eq) (.loc rfl) (.gint (q := 15) rfl rfl)) (.seq (.augA (o := .add) rfl (.loc rfl) .int) .done) .done) (.seq (.setAttr rfl rfl (.loc rfl) (.op2 (o := .sub) .int (.loc rfl))) (.seq (.augA (o := .bxor) rfl (.loc rfl) (.attr rfl rfl (.attr rfl rfl (.loc rfl)))) .done)))))))))))))))))))))⟩⟩),
        List.forall_mem_cons.2 ⟨(show ∃ a, PySem.W.nsIn _ mainGlobals (PySem.Str.ofString "is_checkmate") = some (some (.ref a)) ∧ Mine.FnK _ a 94 from ⟨744, by k_is, ⟨by k_is, _, _, [PySem.Str.ofString "pos"], _, by k_is, by exact rfl, by k_is, by exact rfl, by exact .of rfl rfl rfl rfl rfl rfl rfl rfl rfl rfl rfl rfl (by kernel_rfl) (by kernel_rfl), by exact rfl, by exact rfl,
          by exact (show Mine.RB _ [] _ Mine.f94.body from (.seq (.ret (.bo (.and (.call (q := 75) rfl rfl (.cons (.loc rfl) .nil)) (.one (.not (.call (q := 81) rfl rfl (.cons (.loc rfl) .nil))))))) .done))⟩⟩),
        fun _ h => by cases h⟩⟩⟩⟩⟩⟩⟩⟩⟩⟩⟩⟩⟩⟩⟩⟩⟩⟩⟩⟩⟩⟩⟩⟩⟩⟩⟩⟩⟩⟩⟩⟩⟩⟩⟩⟩⟩⟩⟩⟩⟩⟩⟩⟩⟩⟩⟩⟩⟩⟩⟩⟩⟩⟩⟩⟩⟩⟩⟩⟩⟩⟩⟩⟩⟩⟩⟩⟩⟩⟩⟩⟩⟩⟩⟩⟩⟩⟩⟩⟩⟩⟩⟩⟩⟩⟩⟩⟩⟩⟩⟩⟩⟩⟩⟩⟩⟩⟩⟩⟩⟩⟩
    case gt0 => exact ⟨115, _, by k_is, by k_is, by exact (show IntsAre _ [0, 1, 0, -1, 1, 1, -1, -1] from (.cons _ _ (.cons _ _ (.cons _ _ (.cons _ _ (.cons _ _ (.cons _ _ (.cons _ _ (.cons _ _ .nil)))))))))⟩
    case gt1 => exact ⟨116, _, by k_is, by k_is, by exact (show IntsAre _ [1, 0, -1, 0, 1, -1, -1, 1] from (.cons _ _ (.cons _ _ (.cons _ _ (.cons _ _ (.cons _ _ (.cons _ _ (.cons _ _ (.cons _ _ .nil)))))))))⟩
    case bi => exact ⟨by k_is, by k_is⟩
  · (rename _ ∧ _ ∧ _ ∧ _ ∧ _ => Z); exact Z.2.2.1
  · intro L; exact ⟨rfl, rfl, rfl⟩
  · show (callerA.depth + 1) + 200 < recursionLimit; decide
  · show (callerA.units + 3) + 1200 < cLine; decide
  · exact (show Mine.RB _ Mine.lawCl _ Mine.tPre from (.seq (.asg rfl rfl (.call (q := 95) rfl rfl (.cons .int (.cons .int (.cons .bool (.cons .bool .nil)))))) (.seq (.asgC (q := 0) rfl rfl rfl (.call (q := 96) rfl rfl (.cons (.loc rfl) (.cons (.gint (q := 5) rfl rfl) (.cons (.item rfl (.tup (.cons .int (.cons .int .nil))) (.pick rfl .int)) .nil))))) (.compIf rfl rfl (.of (by kernel_rfl)) (by kernel_rfl) rfl rfl (.loc rfl) (.range rfl (.cons (.len rfl (.cel (q := 0) rfl rfl)) .nil)) (.cmp (o := .ge) (.item rfl (.cel (q := 0) rfl rfl) (.loc rfl)) .int) (.compIf rfl rfl (.of (by kernel_rfl)) (by kernel_rfl) rfl rfl (.loc rfl) (.range rfl (.cons (.len rfl (.cel (q := 0) rfl rfl)) .nil)) (.cmp (o := .eq) (.item rfl (.cel (q := 0) rfl rfl) (.loc rfl)) (.gint (q := 8) rfl rfl)) .done)))))
  · exact (show Mine.RB _ Mine.lawCl _ Mine.tMid from (.seq (.asg rfl rfl (.item rfl (.loc rfl) (.pick rfl (.len rfl (.loc rfl))))) (.seq (.asg rfl rfl (.call (q := 97) rfl rfl (.cons (.loc rfl) (.cons (.loc rfl) .nil)))) (.seq (.asgT (.cons rfl (.cons rfl (.cons rfl (.cons rfl .nil)))) rfl rfl (.call (q := 17) rfl rfl (.cons .int (.cons (.loc rfl) .nil)))) (.seq (.asg rfl rfl (.call (q := 98) rfl rfl (.cons (.loc rfl) (.cons (.cel (q := 0) rfl rfl) (.cons (.gint (q := 5) rfl rfl) (.cons (.loc rfl) (.cons (.loc rfl) (.cons (.loc rfl) (.cons (.loc rfl) .nil))))))))) (.seq (.ifs (.cmp (o := .ne) (.len rfl (.loc rfl)) (.item rfl (.cel (q := 0) rfl rfl) (.loc rfl))) (.seq (.ret .bool) .done) .done) (.seq (.forC (q1 := 1) (q2 := 2) rfl rfl rfl rfl rfl (.loc rfl) (.compIf rfl rfl (.of (by kernel_rfl)) (by kernel_rfl) rfl rfl (.loc rfl) (.call (q := 99) rfl rfl (.cons (.loc rfl) .nil)) (.cmp (o := .eq) (.tup (.cons (.call (q := 69) rfl rfl (.cons (.loc rfl) .nil)) (.cons (.call (q := 66) rfl rfl (.cons (.loc rfl) .nil)) .nil))) (.tup (.cons (.cel (q := 1) rfl rfl) (.cons (.cel (q := 2) rfl rfl) .nil)))) (.seq (.ifs (.cmp (o := .ne) (.len rfl (.loc rfl)) .int) (.seq (.ret .bool) .done) .done) (.seq (.ex rfl (.call (q := 100) rfl rfl (.cons (.loc rfl) (.cons (.item rfl (.loc rfl) .int) .nil)))) .done)))) (.seq (.ifs (.bo (.or (.cmp (o := .ne) (.attr rfl rfl (.loc rfl)) .int) (.or (.not (.call (q := 75) rfl rfl (.cons (.loc rfl) .nil))) (.one (.cmp (o := .ne) (.call (q := 99) rfl rfl (.cons (.loc rfl) .nil)) (.list .nil)))))) (.seq (.ret .bool) .done) .done) .done))))))))
  · exact (show Mine.RB _ Mine.lawCl _ Mine.tFin from (.seq (.ret (.not (.call (q := 101) rfl rfl (.cons (.call (q := 97) rfl rfl (.cons (.loc rfl) (.cons (.item rfl (.loc rfl) (.pick rfl (.len rfl (.loc rfl)))) .nil))) .nil)))) .done))
  · intro hF tkF mF FF
    k_end; wrow_close
end
theorem PySem.Challenge.cw_sm0020_01_holds : PySem.Challenge.rw_sm0020_01.Holds := by
  exact Mine.main
