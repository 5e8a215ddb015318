import PyProof.Rows.All
import Wide.All
import OpenK.AllK
import Wide.FinOn
import PySem.Challenge.RW_rh0022_01
open PySem PySem.W PyProof.Rows
set_option Elab.async false
set_option maxRecDepth 10000
set_option linter.unusedVariables false
set_option linter.unusedSimpArgs false
namespace Mine
inductive AV where
  | none
  | bool (b : Bool)
  | int (i : Int)
  | tup (vs : List AV)
  | lst (vs : List AV)
inductive BOp where
  | add | sub | mul | fdiv | mod
inductive COp where
  | eq | ne | lt | le | gt | ge | is | isnot
mutual
inductive X where
  | int (i : Int)
  | bool (b : Bool)
  | none
  | var (i : Nat)
  | gl (g : Nat)
  | bin (op : BOp) (l r : X)
  | neg (x : X)
  | not (x : X)
  | cmp (op : COp) (l r : X)
  | conj (xs : XL)
  | disj (xs : XL)
  | ite (t a b : X)
  | call (f : Nat) (xs : XL)
  | abs_ (x : X)
  | len_ (x : X)
  | list_ (x : X)
  | max_ (x y : X)
  | idx (o i : X)
  | upto (o hi : X)
  | from (o lo : X)
  | tup (xs : XL)
  | lst (xs : XL)
  | comp (rng : Bool) (elt : X) (i : Nat) (caps : List Nat) (it : X)
  | ow (v : Nat) (i : X)
inductive XL where
  | nil
  | cons (x : X) (xs : XL)
end
mutual
inductive S where
  | asg (i : Nat) (x : X)
  | asgC (i : Nat) (rng : Bool) (elt : X) (j : Nat) (caps : List Nat) (it : X)
  | asgT (i j : Nat) (x : X)
  | asgO (i : Nat) (x y : X)
  | asgTO (i j : Nat) (x y z : X)
  | setO (v : Nat) (i x : X)
  | rel
  | aug (i : Nat) (op : BOp) (x : X)
  | ite (t : X) (b o : SL)
  | whl (t : X) (b : SL)
  | forR (i : Nat) (x : X) (b : SL)
  | forE (i j : Nat) (x : X) (b : SL)
  | ret (x : X)
  | bad
inductive SL where
  | nil
  | cons (s : S) (ss : SL)
end
abbrev Loc := List (Nat × AV)
abbrev Ow := Option (Nat × List AV)
noncomputable def lk : Loc → Nat → Option AV
  | [], _ => .none
  | p :: l, i => match Nat.beq p.1 i with
    | true => some p.2
    | false => lk l i
noncomputable def pt : Loc → Nat → AV → Loc
  | [], i, v => [(i, v)]
  | p :: l, i, v => match Nat.beq p.1 i with
    | true => (i, v) :: l
    | false => p :: pt l i v
noncomputable def ptAll : Loc → List Nat → List AV → Option Loc
  | l, i :: is, v :: vs => ptAll (pt l i v) is vs
  | l, [], [] => some l
  | _, _, _ => .none
noncomputable def pick : Loc → List Nat → Loc
  | _, [] => []
  | l, i :: is => match lk l i with
    | some v => (i, v) :: pick l is
    | .none => pick l is
inductive AF where
  | next
  | ret (v : AV)
noncomputable def okN (n : Nat) : Bool := Nat.ble n 1000
noncomputable def okI (i : Int) : Bool := Nat.ble i.natAbs 1000000000
noncomputable def rep (vs : List AV) : Nat → List AV
  | 0 => []
  | n + 1 => vs ++ rep vs n
noncomputable def b2z (b : Bool) : Int := match b with | true => 1 | false => 0
noncomputable def binI (op : BOp) (x y : Int) : Option AV := match op with
  | .add => some (.int (x + y))
  | .sub => some (.int (x - y))
  | .mul => match okI x with
    | true => match okI y with
      | true => some (.int (x * y))
      | false => .none
    | false => .none
  | .fdiv => match okI y with
    | true => match decide (y = 0) with | true => .none | false => some (.int (Int.fdiv x y))
    | false => .none
  | .mod => match decide (y = 0) with | true => .none | false => some (.int (Int.fmod x y))
noncomputable def mulL (vs : List AV) (c : Int) : Option (List AV) := match okN (vs.length * c.toNat) with
  | true => match okI c with
    | true => some (rep vs c.toNat)
    | false => .none
  | false => .none
noncomputable def binV (op : BOp) (a b : AV) : Option AV := match a, b with
  | .int x, .int y => binI op x y
  | .bool x, .bool y => match op with
    | .sub => some (.int (b2z x - b2z y))
    | _ => .none
  | .lst vs, .lst ws => match op with
    | .add => match okN (vs.length + ws.length) with
      | true => some (.lst (vs ++ ws))
      | false => .none
    | _ => .none
  | .lst vs, .int c => match op with
    | .mul => (mulL vs c).map .lst
    | _ => .none
  | _, _ => .none
mutual
noncomputable def toPy : AV → PyData
  | .none => .none
  | .bool b => .bool b
  | .int i => .int i
  | .tup vs => .tuple (toPys vs)
  | .lst vs => .list (toPys vs)
noncomputable def toPys : List AV → List PyData
  | [] => []
  | v :: vs => toPy v :: toPys vs
end
noncomputable def deqV (a b : AV) : Option Bool := match PySem.SeqAt.shaped (toPy a) with
  | true => match PySem.SeqAt.shaped (toPy b) with
    | true => some (PyData.eqv (toPy a) (toPy b))
    | false => .none
  | false => .none
noncomputable def isN (a b : AV) : Option Bool := match a, b with
  | .none, .none => some true
  | .tup _, .none => some false
  | .lst _, .none => some false
  | _, _ => .none
noncomputable def cmpI (op : COp) (x y : Int) : Option Bool := match op with
  | .eq => some (decide (x = y))
  | .ne => some (!decide (x = y))
  | .lt => some (decide (x < y))
  | .le => some (decide (x ≤ y))
  | .gt => some (decide (y < x))
  | .ge => some (decide (y ≤ x))
  | _ => .none
noncomputable def cmpR (op : COp) (a b : AV) : Option Bool := match op with
  | .eq => deqV a b
  | .ne => (deqV a b).map (!·)
  | .is => isN a b
  | .isnot => (isN a b).map (!·)
  | _ => .none
noncomputable def cmpV (op : COp) (a b : AV) : Option Bool := match a, b with
  | .int x, .int y => cmpI op x y
  | a, b => cmpR op a b
noncomputable def clampN (n : Nat) (i : Int) : Nat := match i with
  | .ofNat j => Nat.min j n
  | .negSucc j => n - (j + 1)
noncomputable def nth : List AV → Nat → Option AV
  | [], _ => .none
  | v :: _, 0 => some v
  | _ :: l, n + 1 => nth l n
noncomputable def idxV (vs : List AV) (i : Int) : Option AV := match i with
  | .ofNat j => nth vs j
  | .negSucc j => match Nat.ble (j + 1) vs.length with
    | true => nth vs (vs.length - (j + 1))
    | false => .none
noncomputable def setN : List AV → Nat → AV → List AV
  | [], _, _ => []
  | _ :: l, 0, w => w :: l
  | v :: l, n + 1, w => v :: setN l n w
noncomputable def setV (vs : List AV) (i : Int) (v : AV) : Option (List AV) := match i with
  | .ofNat j => match Nat.blt j vs.length with
    | true => some (setN vs j v)
    | false => .none
  | .negSucc _ => .none
noncomputable def elems (v : AV) : Option (List AV) := match v with
  | .lst vs => some vs
  | .tup vs => some vs
  | _ => .none
noncomputable def upFrom (j : Nat) : Nat → List AV
  | 0 => []
  | n + 1 => .int (Int.ofNat j) :: upFrom (j + 1) n
noncomputable def iterV (r : Bool) (a : AV) : Option (List AV) := match r with
  | true => match a with
    | .int n => match okN n.toNat with
      | true => match okI n with
        | true => some (upFrom 0 n.toNat)
        | false => .none
      | false => .none
    | _ => .none
  | false => match a with
    | .lst vs => match okN vs.length with
      | true => some vs
      | false => .none
    | _ => .none
noncomputable def withNum (j : Nat) : List AV → List (List AV)
  | [] => []
  | v :: l => [.int (Int.ofNat j), v] :: withNum (j + 1) l
noncomputable def ones : List AV → List (List AV)
  | [] => []
  | v :: l => [v] :: ones l
structure R where
  ev : X → Loc → Ow → Option AV
  evs : XL → Loc → Ow → Option (List AV)
  eand : XL → Loc → Ow → Option Bool
  eor : XL → Loc → Ow → Option Bool
  exs : SL → Loc → Ow → Option (AF × Loc × Ow)
  exo : S → Loc → Ow → Option (AF × Loc × Ow)
noncomputable def bot : R := ⟨fun _ _ _ => .none, fun _ _ _ => .none, fun _ _ _ => .none, fun _ _ _ => .none, fun _ _ _ => .none, fun _ _ _ => .none⟩
section
variable (fn : Nat → Option (List Nat × SL)) (I : R)
noncomputable def gR (g : Nat) : Option AV := match g with
  | 0 => some (.tup [.int 0, .int 1])
  | 1 => some (.tup [.int 1, .int 1])
  | _ => .none
noncomputable def aInt (a : Option AV) : Option Int := match a with
  | some (.int i) => some i
  | _ => .none
noncomputable def aLst (a : Option AV) : Option (List AV) := match a with
  | some (.lst i) => some i
  | _ => .none
noncomputable def aBool (a : Option AV) : Option Bool := match a with
  | some (.bool i) => some i
  | _ => .none
noncomputable def evBin (op : BOp) (x y : X) (l : Loc) (o : Ow) : Option AV := match I.ev x l o with
  | some a => match I.ev y l o with
    | some b => binV op a b
    | .none => .none
  | .none => .none
noncomputable def evCmp (op : COp) (x y : X) (l : Loc) (o : Ow) : Option AV := match I.ev x l o with
  | some a => match I.ev y l o with
    | some b => (cmpV op a b).map .bool
    | .none => .none
  | .none => .none
noncomputable def evIte (t x y : X) (l : Loc) (o : Ow) : Option AV := match aBool (I.ev t l o) with
  | some true => I.ev x l o
  | some false => I.ev y l o
  | .none => .none
noncomputable def evCall (f : Nat) (xs : XL) (l : Loc) (o : Ow) : Option AV := match I.evs xs l o with
  | some vs => match fn f with
    | some (ps, body) => match ptAll [] ps vs with
      | some l0 => match I.exs body l0 .none with
        | some (.ret v, _, _) => some v
        | _ => .none
      | .none => .none
    | .none => .none
  | .none => .none
noncomputable def evAbs (x : X) (l : Loc) (o : Ow) : Option AV := match aInt (I.ev x l o) with
  | some i => some (.int (match decide (i < 0) with | true => -i | false => i))
  | .none => .none
noncomputable def evLen (x : X) (l : Loc) (o : Ow) : Option AV := match aLst (I.ev x l o) with
  | some vs => match okN vs.length with
    | true => some (.int (Int.ofNat vs.length))
    | false => .none
  | .none => .none
noncomputable def evList (x : X) (l : Loc) (o : Ow) : Option AV := match aLst (I.ev x l o) with
  | some vs => match okN vs.length with
    | true => some (.lst vs)
    | false => .none
  | .none => .none
noncomputable def evMax (x y : X) (l : Loc) (o : Ow) : Option AV := match aInt (I.ev x l o) with
  | some a => match aInt (I.ev y l o) with
    | some b => some (.int (match decide (a < b) with | true => b | false => a))
    | .none => .none
  | .none => .none
noncomputable def evIdx (x y : X) (l : Loc) (o : Ow) : Option AV := match I.ev x l o with
  | some a => match aInt (I.ev y l o) with
    | some j => match elems a with
      | some vs => match okN vs.length with
        | true => idxV vs j
        | false => .none
      | .none => .none
    | .none => .none
  | .none => .none
noncomputable def evUpto (x y : X) (l : Loc) (o : Ow) : Option AV := match aLst (I.ev x l o) with
  | some vs => match aInt (I.ev y l o) with
    | some j => match okN vs.length with
      | true => match okI j with
        | true => some (.lst (vs.take (clampN vs.length j)))
        | false => .none
      | false => .none
    | .none => .none
  | .none => .none
noncomputable def evFrom (x y : X) (l : Loc) (o : Ow) : Option AV := match aLst (I.ev x l o) with
  | some vs => match aInt (I.ev y l o) with
    | some j => match okN vs.length with
      | true => match okI j with
        | true => some (.lst (vs.drop (clampN vs.length j)))
        | false => .none
      | false => .none
    | .none => .none
  | .none => .none
noncomputable def evMap (e : X) (i : Nat) (l : Loc) : List AV → Option (List AV)
  | [] => some []
  | w :: ws => match I.ev e (pt l i w) .none with
    | some v => match evMap e i l ws with
      | some vs => some (v :: vs)
      | .none => .none
    | .none => .none
noncomputable def evComp (r : Bool) (e : X) (i : Nat) (cs : List Nat) (it : X) (l : Loc) (o : Ow) : Option (List AV) := match I.ev it l o with
  | some a => match iterV r a with
    | some ws => evMap I e i (pick l cs) ws
    | .none => .none
  | .none => .none
noncomputable def evOw (v : Nat) (x : X) (l : Loc) (o : Ow) : Option AV := match o with
  | some (u, vs) => match Nat.beq u v with
    | true => match aInt (I.ev x l o) with
      | some j => match okN vs.length with
        | true => idxV vs j
        | false => .none
      | .none => .none
    | false => .none
  | .none => .none
noncomputable def evTup (xs : XL) (l : Loc) (o : Ow) : Option AV := match I.evs xs l o with
  | some vs => match okN vs.length with
    | true => some (.tup vs)
    | false => .none
  | .none => .none
noncomputable def evLst (xs : XL) (l : Loc) (o : Ow) : Option AV := match I.evs xs l o with
  | some vs => match okN vs.length with
    | true => some (.lst vs)
    | false => .none
  | .none => .none
noncomputable def evX (x : X) (l : Loc) (o : Ow) : Option AV := match x with
  | .int i => some (.int i)
  | .bool b => some (.bool b)
  | .none => some .none
  | .var i => lk l i
  | .gl g => gR g
  | .bin op x y => evBin I op x y l o
  | .neg x => (aInt (I.ev x l o)).map fun i => .int (-i)
  | .not x => (aBool (I.ev x l o)).map fun i => .bool (!i)
  | .cmp op x y => evCmp I op x y l o
  | .conj xs => (I.eand xs l o).map .bool
  | .disj xs => (I.eor xs l o).map .bool
  | .ite t x y => evIte I t x y l o
  | .call f xs => evCall fn I f xs l o
  | .abs_ x => evAbs I x l o
  | .len_ x => evLen I x l o
  | .list_ x => evList I x l o
  | .max_ x y => evMax I x y l o
  | .idx x y => evIdx I x y l o
  | .upto x y => evUpto I x y l o
  | .from x y => evFrom I x y l o
  | .tup xs => evTup I xs l o
  | .lst xs => evLst I xs l o
  | .comp r e i cs it => (evComp I r e i cs it l o).map .lst
  | .ow v x => evOw I v x l o
noncomputable def evXs (xs : XL) (l : Loc) (o : Ow) : Option (List AV) := match xs with
  | .nil => some []
  | .cons x xs => match I.ev x l o with
    | some v => match I.evs xs l o with
      | some vs => some (v :: vs)
      | .none => .none
    | .none => .none
noncomputable def evAnd (xs : XL) (l : Loc) (o : Ow) : Option Bool := match xs with
  | .nil => some true
  | .cons x xs => match aBool (I.ev x l o) with
    | some true => I.eand xs l o
    | some false => some false
    | .none => .none
noncomputable def evOr (xs : XL) (l : Loc) (o : Ow) : Option Bool := match xs with
  | .nil => some false
  | .cons x xs => match aBool (I.ev x l o) with
    | some false => I.eor xs l o
    | some true => some true
    | .none => .none
noncomputable def fr (o : Ow) (i : Nat) : Bool := match o with
  | some p => match Nat.beq p.1 i with
    | true => false
    | false => true
  | .none => true
noncomputable def frL (o : Ow) (is : List Nat) : Bool := match is with
  | [] => true
  | i :: is => match fr o i with
    | true => frL o is
    | false => false
noncomputable def isNone (a : Option AV) : Bool := match a with
  | some _ => false
  | .none => true
noncomputable def exLoop (is : List Nat) (b : SL) : List (List AV) → Loc → Ow → Option (AF × Loc × Ow)
  | [], l, o => some (.next, l, o)
  | w :: ws, l, o => match frL o is with
    | true => match ptAll l is w with
      | some l1 => match I.exs b l1 o with
        | some (.next, l2, o2) => exLoop is b ws l2 o2
        | r => r
      | .none => .none
    | false => .none
noncomputable def exS (s : S) (l : Loc) (o : Ow) : Option (AF × Loc × Ow) := match s with
  | .asg i x => match fr o i with
    | true => match I.ev x l o with
      | some v => some (.next, pt l i v, o)
      | .none => .none
    | false => .none
  | .asgC i r e j cs it => match o with
    | .none => match evComp I r e j cs it l o with
      | some vs => some (.next, pt l i (.lst vs), o)
      | .none => .none
    | _ => .none
  | .asgT i j x => match frL o [i, j] with
    | true => match I.ev x l o with
      | some (.tup vs) => match vs with
        | [u, v] => some (.next, pt (pt l i u) j v, o)
        | _ => .none
      | _ => .none
    | false => .none
  | .asgO i x y => match o with
    | .none => match aLst (I.ev x l o) with
      | some vs => match aInt (I.ev y l o) with
        | some c => match mulL vs c with
          | some ws => match isNone (lk l i) with
            | true => some (.next, l, some (i, ws))
            | false => .none
          | .none => .none
        | .none => .none
      | .none => .none
    | _ => .none
  | .asgTO i j x y z => match o with
    | .none => match I.ev x l o with
      | some u => match aLst (I.ev y l o) with
        | some vs => match aInt (I.ev z l o) with
          | some c => match mulL vs c with
            | some ws => match isNone (lk l j) with
              | true => some (.next, pt l i u, some (j, ws))
              | false => .none
            | .none => .none
          | .none => .none
        | .none => .none
      | .none => .none
    | _ => .none
  | .setO v i x => match o with
    | some (w, vs) => match Nat.beq w v with
      | true => match I.ev x l o with
        | some u => match aInt (I.ev i l o) with
          | some j => match okN vs.length with
            | true => match setV vs j u with
              | some ws => some (.next, l, some (w, ws))
              | .none => .none
            | false => .none
          | .none => .none
        | .none => .none
      | false => .none
    | .none => .none
  | .rel => match o with
    | some (v, vs) => some (.next, pt l v (.lst vs), .none)
    | .none => .none
  | .aug i op x => match op with
    | .sub => match fr o i with
      | true => match aInt (lk l i) with
        | some a => match aInt (I.ev x l o) with
          | some b => some (.next, pt l i (.int (a - b)), o)
          | .none => .none
        | .none => .none
      | false => .none
    | _ => .none
  | .ite t b c => match aBool (I.ev t l o) with
    | some true => I.exs b l o
    | some false => I.exs c l o
    | .none => .none
  | .whl t b => match aBool (I.ev t l o) with
    | some true => match I.exs b l o with
      | some (.next, l2, o2) => I.exo (.whl t b) l2 o2
      | r => r
    | some false => some (.next, l, o)
    | .none => .none
  | .forR i x b => match I.ev x l o with
    | some a => match iterV true a with
      | some ws => exLoop I [i] b (ones ws) l o
      | .none => .none
    | .none => .none
  | .forE i j x b => match I.ev x l o with
    | some a => match iterV false a with
      | some ws => exLoop I [i, j] b (withNum 0 ws) l o
      | .none => .none
    | .none => .none
  | .ret x => match I.ev x l o with
    | some v => some (.ret v, l, o)
    | .none => .none
  | .bad => .none
noncomputable def exSs (ss : SL) (l : Loc) (o : Ow) : Option (AF × Loc × Ow) := match ss with
  | .nil => some (.next, l, o)
  | .cons s ss => match I.exo s l o with
    | some (.next, l1, o1) => I.exs ss l1 o1
    | r => r
noncomputable def stp : R := ⟨evX fn I, evXs I, evAnd I, evOr I, exSs I, exS I⟩
end
noncomputable def rn (fn : Nat → Option (List Nat × SL)) : Nat → R
  | 0 => bot
  | n + 1 => stp fn (rn fn n)
noncomputable def nmL : List PySem.Str := [PySem.Str.ofString "a", PySem.Str.ofString "b", PySem.Str.ofString "top", PySem.Str.ofString "bottom", PySem.Str.ofString "g", PySem.Str.ofString "off", PySem.Str.ofString "row", PySem.Str.ofString "size", PySem.Str.ofString "at", PySem.Str.ofString "p", PySem.Str.ofString "number", PySem.Str.ofString "r", PySem.Str.ofString "many", PySem.Str.ofString "found", PySem.Str.ofString "one", PySem.Str.ofString "left", PySem.Str.ofString "other", PySem.Str.ofString "right", PySem.Str.ofString "rest", PySem.Str.ofString "power", PySem.Str.ofString "lower", PySem.Str.ofString "order", PySem.Str.ofString "most", PySem.Str.ofString "front", PySem.Str.ofString "times", PySem.Str.ofString "above", PySem.Str.ofString "below", PySem.Str.ofString "box", PySem.Str.ofString "due", PySem.Str.ofString "t", PySem.Str.ofString "u", PySem.Str.ofString "c", PySem.Str.ofString "script", PySem.Str.ofString "told", PySem.Str.ofString "turn"]
noncomputable def nmAt : List Str → Nat → Nat → Str
  | [], _, j => ⟨#[3000000 + j]⟩
  | x :: _, 0, _ => x
  | _ :: l, n + 1, j => nmAt l n j
noncomputable def nm (i : Nat) : Str := nmAt nmL i i
theorem nmAt_ge : ∀ (l : List Str) (n j : Nat), l.length ≤ n → nmAt l n j = ⟨#[3000000 + j]⟩
  | [], _, _, _ => rfl
  | _ :: l, 0, _, h => absurd h (by simp)
  | _ :: l, n + 1, j, h => nmAt_ge l n j (by simpa using h)
theorem nm_ge {i : Nat} (h : 35 ≤ i) : nm i = ⟨#[3000000 + i]⟩ := nmAt_ge nmL i i h
theorem nm_all : (List.range 35).all (fun i => decide ((nm i).cps.all (fun c => decide (c < 1000))) && decide ((nm i == ("__debug__" : Str)) = false) && (List.range 35).all fun j => decide (nm i = nm j → i = j)) = true := by decide +kernel
theorem nm_low {i : Nat} (h : i < 35) : ((nm i).cps.all (fun c => decide (c < 1000))) = true ∧ (nm i == ("__debug__" : Str)) = false ∧ ∀ j, j < 35 → nm i = nm j → i = j := by
  have := List.all_eq_true.mp nm_all i (List.mem_range.mpr h)
  simp only [Bool.and_eq_true, decide_eq_true_eq, List.all_eq_true, List.mem_range] at this
  exact ⟨this.1.1, this.1.2, fun j hj => this.2 j hj⟩
theorem nm_nd (i : Nat) : (nm i == ("__debug__" : Str)) = false := by
  by_cases h : i < 35
  · exact (nm_low h).2.1
  · rw [nm_ge (by omega)]
    rw [beq_eq_false_iff_ne]
    intro e
    have := congrArg Str.cps e
    have e2 : (Str.ofString "__debug__").cps = #[95, 95, 100, 101, 98, 117, 103, 95, 95] := by decide +kernel
    rw [e2] at this
    simp at this
theorem nm_inj {i j : Nat} (h : nm i = nm j) : i = j := by
  by_cases hi : i < 35
  · by_cases hj : j < 35
    · exact (nm_low hi).2.2 j hj h
    · exfalso
      have := (nm_low hi).1
      rw [h, nm_ge (by omega)] at this
      simp at this
      omega
  · by_cases hj : j < 35
    · exfalso
      have := (nm_low hj).1
      rw [← h, nm_ge (by omega)] at this
      simp at this
      omega
    · rw [nm_ge (by omega), nm_ge (by omega)] at h
      simp at h
      exact h
end Mine

namespace Mine

mutual
inductive VR (ex : Addr → Prop) (h : Heap) : AV → Value → Prop
  | none : VR ex h .none .none
  | bool (b : Bool) : VR ex h (.bool b) (.bool b)
  | int (i : Int) (t : Tok) : VR ex h (.int i) (.int i t)
  | tup {a : Addr} {items : Array Value} {vs : List AV} : ¬ ex a → IsTup h a items → VRs ex h vs items.toList → VR ex h (.tup vs) (.ref a)
  | lst {a : Addr} {items : Array Value} {vs : List AV} : ¬ ex a → h.PlainList a items → VRs ex h vs items.toList → VR ex h (.lst vs) (.ref a)
inductive VRs (ex : Addr → Prop) (h : Heap) : List AV → List Value → Prop
  | nil : VRs ex h [] []
  | cons {v : AV} {x : Value} {vs : List AV} {xs : List Value} : VR ex h v x → VRs ex h vs xs → VRs ex h (v :: vs) (x :: xs)
end

noncomputable def KeepSeq (ex : Addr → Prop) (h h' : Heap) : Prop := ∀ b o, ¬ ex b → (∃ xs n, o.data = .seq xs n) → h.get? b = some o → h'.get? b = some o

mutual
theorem VR.mono {ex ex' : Addr → Prop} {h h' : Heap} (hk : KeepSeq ex h h') (hx : ∀ b, ex' b → ex b) : ∀ {v : AV} {x : Value}, VR ex h v x → VR ex' h' v x
  | _, _, .none => .none
  | _, _, .bool b => .bool b
  | _, _, .int i t => .int i t
  | _, _, .tup ha hi hs => by
    obtain ⟨o, ho, hc, n, hd⟩ := hi
    exact .tup (fun q => ha (hx _ q)) ⟨o, hk _ o ha ⟨_, n, hd⟩ ho, hc, n, hd⟩ (VRs.mono hk hx hs)
  | _, _, .lst ha hi hs => by
    obtain ⟨n, ho⟩ := hi
    exact .lst (fun q => ha (hx _ q)) ⟨n, hk _ _ ha ⟨_, n, rfl⟩ ho⟩ (VRs.mono hk hx hs)
theorem VRs.mono {ex ex' : Addr → Prop} {h h' : Heap} (hk : KeepSeq ex h h') (hx : ∀ b, ex' b → ex b) : ∀ {v : List AV} {x : List Value}, VRs ex h v x → VRs ex' h' v x
  | _, _, .nil => .nil
  | _, _, .cons a b => .cons (VR.mono hk hx a) (VRs.mono hk hx b)
end
theorem VR.keep {ex : Addr → Prop} {h h' : Heap} {v : AV} {x : Value} (r : VR ex h v x) (hk : ∀ b o, h.get? b = some o → h'.get? b = some o) : VR ex h' v x := r.mono (fun b o _ _ e => hk b o e) fun _ q => q
theorem VRs.keep {ex : Addr → Prop} {h h' : Heap} {v : List AV} {x : List Value} (r : VRs ex h v x) (hk : ∀ b o, h.get? b = some o → h'.get? b = some o) : VRs ex h' v x := r.mono (fun b o _ _ e => hk b o e) fun _ q => q

theorem VRs.length {ex : Addr → Prop} {h : Heap} : ∀ {vs : List AV} {xs : List Value}, VRs ex h vs xs → xs.length = vs.length
  | _, _, .nil => rfl
  | _, _, .cons _ b => by simp [VRs.length b]
theorem VRs.append {ex : Addr → Prop} {h : Heap} : ∀ {vs : List AV} {xs : List Value} {ws : List AV} {ys : List Value}, VRs ex h vs xs → VRs ex h ws ys → VRs ex h (vs ++ ws) (xs ++ ys)
  | _, _, _, _, .nil, q => q
  | _, _, _, _, .cons a b, q => .cons a (b.append q)
theorem VRs.take {ex : Addr → Prop} {h : Heap} : ∀ {vs : List AV} {xs : List Value} (n : Nat), VRs ex h vs xs → VRs ex h (vs.take n) (xs.take n)
  | _, _, 0, _ => .nil
  | _, _, _ + 1, .nil => .nil
  | _, _, n + 1, .cons a b => .cons a (b.take n)
theorem VRs.drop {ex : Addr → Prop} {h : Heap} : ∀ {vs : List AV} {xs : List Value} (n : Nat), VRs ex h vs xs → VRs ex h (vs.drop n) (xs.drop n)
  | _, _, 0, q => q
  | _, _, _ + 1, .nil => .nil
  | _, _, n + 1, .cons _ b => b.drop n
theorem VRs.nth {ex : Addr → Prop} {h : Heap} : ∀ {vs : List AV} {xs : List Value} {n : Nat} {v : AV}, VRs ex h vs xs → Mine.nth vs n = some v → ∃ x, xs[n]? = some x ∧ VR ex h v x
  | _, _, n, _, .nil, e => by cases n <;> cases e
  | _, _, 0, _, .cons a _, e => by cases e; exact ⟨_, rfl, a⟩
  | _, _, n + 1, v, .cons _ b, e => by
    obtain ⟨x, h1, h2⟩ := b.nth (n := n) (v := v) e
    exact ⟨x, by simpa using h1, h2⟩
theorem VRs.set {ex : Addr → Prop} {h : Heap} : ∀ {vs : List AV} {xs : List Value} (n : Nat) {v : AV} {x : Value}, VRs ex h vs xs → VR ex h v x → VRs ex h (setN vs n v) (xs.set n x)
  | _, _, _, _, _, .nil, _ => .nil
  | _, _, 0, _, _, .cons _ b, q => .cons q b
  | _, _, n + 1, _, _, .cons a b, q => .cons a (b.set n q)
theorem VRs.rep {ex : Addr → Prop} {h : Heap} {vs : List AV} {xs : List Value} (r : VRs ex h vs xs) : ∀ n : Nat, VRs ex h (Mine.rep vs n) ((List.replicate n xs).flatten)
  | 0 => .nil
  | n + 1 => by
    rw [List.replicate_succ, List.flatten_cons]
    exact r.append (VRs.rep r n)

/-- where a name's value lies -/
noncomputable def NameIs (env : Env) (h : Heap) (x : Str) (v : Value) : Prop :=
  (env.kindOf x = some .local ∧ ∃ m, h.Ns env.locals m ∧ m x = some v) ∨
  ((env.kindOf x = some .cell ∨ env.kindOf x = some .free) ∧ ∃ c, env.cells.lookup x = some c ∧ h.IsCell c (some v))
theorem NameIs.keep {env : Env} {h h' : Heap} {x : Str} {v : Value} (r : NameIs env h x v) (hk : ∀ b o, h.get? b = some o → h'.get? b = some o) : NameIs env h' x v :=
  r.imp (fun ⟨a, m, b, c⟩ => ⟨a, m, b.keeps hk, c⟩) fun ⟨a, c, d, e⟩ => ⟨a, c, d, e.keeps hk⟩

abbrev KS := Str → Option NameKind
structure EnvOK (env : Env) (ks : KS) : Prop where
  kind : env.scope.kind = .function
  glob : env.globals = mainGlobals
  bi : env.builtins = builtinsNs
  kof : ∀ x, env.kindOf x = ks x ∨ (ks x = some .free ∧ env.kindOf x = some .cell)
  cel : ∀ x, (ks x = some .cell ∨ ks x = some .free) → ∃ c, env.cells.lookup x = some c
theorem EnvOK.gi {env : Env} {ks : KS} (r : EnvOK env ks) {x : Str} (h : ks x = some .globalImplicit) : env.kindOf x = some .globalImplicit := by
  rcases r.kof x with e | ⟨e, _⟩
  · rw [e]; exact h
  · rw [h] at e; cases e
theorem EnvOK.loc {env : Env} {ks : KS} (r : EnvOK env ks) {x : Str} (h : ks x = some .local) : env.kindOf x = some .local := by
  rcases r.kof x with e | ⟨e, _⟩
  · rw [e]; exact h
  · rw [h] at e; cases e

noncomputable def OwR (env : Env) (ex : Addr → Prop) (h : Heap) (o : Ow) : Prop := match o with
  | .none => True
  | some (i, vs) => ∃ a items, NameIs env h (nm i) (.ref a) ∧ h.PlainList a items ∧ VRs ex h vs items.toList
theorem OwR.keep {env : Env} {ex : Addr → Prop} {h h' : Heap} {o : Ow} (r : OwR env ex h o) (hk : ∀ b o, h.get? b = some o → h'.get? b = some o) : OwR env ex h' o := by
  cases o with
  | none => trivial
  | some p =>
    obtain ⟨a, items, h1, h2, h3⟩ := r
    exact ⟨a, items, h1.keep hk, h2.at (fun o => hk _ o), h3.keep hk⟩

noncomputable def LocR (env : Env) (ex : Addr → Prop) (h : Heap) (l : Loc) : Prop := ∀ i v, lk l i = some v → ∃ x, VR ex h v x ∧ NameIs env h (nm i) x
theorem LocR.keep {env : Env} {ex : Addr → Prop} {h h' : Heap} {l : Loc} (r : LocR env ex h l) (hk : ∀ b o, h.get? b = some o → h'.get? b = some o) : LocR env ex h' l := fun i v e =>
  let ⟨x, a, b⟩ := r i v e
  ⟨x, a.keep hk, b.keep hk⟩

structure ES (hW : Heap) (env : Env) (ex : Addr → Prop) (l : Loc) (o : Ow) (h : Heap) : Prop where
  w : ∀ b o, hW.get? b = some o → h.get? b = some o
  loc : LocR env ex h l
  ow : OwR env ex h o
  exs : ∀ b, ex b → hW.get? b = none ∧ ∃ o, h.get? b = some o
theorem ES.keep {hW : Heap} {env : Env} {ex : Addr → Prop} {l : Loc} {o : Ow} {h h' : Heap} (r : ES hW env ex l o h) (hk : ∀ b o, h.get? b = some o → h'.get? b = some o) : ES hW env ex l o h' :=
  ⟨fun b o e => hk b o (r.w b o e), r.loc.keep hk, r.ow.keep hk, fun b q => let ⟨p, o, e⟩ := r.exs b q; ⟨p, o, hk b o e⟩⟩
theorem ES.keeps {hW : Heap} {env : Env} {ex : Addr → Prop} {l : Loc} {o : Ow} {s s' : Shared} (r : ES hW env ex l o s.heap) (hk : Keeps s s') : ES hW env ex l o s'.heap := by
  obtain ⟨h', tk, rfl, k⟩ := hk
  exact r.keep k
theorem kRfl (s : Shared) : Keeps s s := ⟨s.heap, s.toks, rfl, fun _ _ e => e⟩
theorem kTr {s s' s'' : Shared} (a : Keeps s s') (b : Keeps s' s'') : Keeps s s'' := by
  obtain ⟨h', tk, rfl, k⟩ := a
  obtain ⟨h'', tk', rfl, k'⟩ := b
  exact ⟨h'', tk', rfl, fun b o e => k' b o (k b o e)⟩
theorem kHp {s s' : Shared} (a : Keeps s s') : ∀ b o, s.heap.get? b = some o → s'.heap.get? b = some o := by
  obtain ⟨h', tk, rfl, k⟩ := a
  exact k
theorem kTk {s s' : Shared} {n : Nat} (a : Keeps s s') : Keeps s { s' with toks := n } := by
  obtain ⟨h', tk, rfl, k⟩ := a
  exact ⟨h', n, rfl, k⟩
theorem kPush {s s' : Shared} (a : Keeps s s') (o : Obj) : Keeps s { s' with heap := s'.heap.push o } := by
  obtain ⟨h', tk, rfl, k⟩ := a
  exact ⟨_, tk, rfl, fun b x e => Heap.get?_push_of_some _ (k b x e)⟩
theorem kMk {s : Shared} {h' : Heap} {tk : Nat} (k : ∀ b o, s.heap.get? b = some o → h'.get? b = some o) : Keeps s { s with heap := h', toks := tk } := ⟨h', tk, rfl, k⟩

structure AOK (A : Around) (n : Nat) : Prop where
  hd : A.handled = none
  dp : A.depth + n ≤ 900
  un : A.units + 4 * n ≤ 5000
theorem AOK.le {A : Around} {n m : Nat} (r : AOK A n) (h : m ≤ n) : AOK A m := ⟨r.hd, by have := r.dp; omega, by have := r.un; omega⟩
theorem AOK.deeper {A : Around} {n : Nat} (r : AOK A (n + 1)) (env : Env) : AOK (A.deeper env) n := ⟨r.hd, by have := r.dp; show A.depth + 1 + n ≤ 900; omega, by have := r.un; show A.units + 3 + 4 * n ≤ 5000; omega⟩
end Mine

namespace Mine

noncomputable def bop : BOp → Operator
  | .add => .Add | .sub => .Sub | .mul => .Mult | .fdiv => .FloorDiv | .mod => .Mod
noncomputable def cop : COp → CmpOp
  | .eq => .Eq | .ne => .NotEq | .lt => .Lt | .le => .LtE | .gt => .Gt | .ge => .GtE | .is => .Is | .isnot => .IsNot
noncomputable def gn : Nat → Str
  | 0 => "R0"
  | _ => "R1"
noncomputable def fnL : List Str := ["gcd", "rat", "radd", "rmul", "rdiv", "rneg", "rinv", "rcompare", "qtrim", "qadd", "qneg", "qsub", "qscale", "qraise", "qmul", "qdivmod", "cut", "first_within", "pade", "pade_table", "_law_is_there", "_law_fits", "_law_take"]
noncomputable def fnm (f : Nat) : Str := nmAt fnL f f

noncomputable def kindFn (sc : Scope) : KS := fun x => sc.names.lookup x
/-- the comprehension's own table -/
structure CompOK (ks : KS) (sc : Scope) (i : Nat) (cs : List Nat) : Prop where
  kind : sc.kind = .function
  nms : ∀ x ∈ sc.names, x.2 = .local → sc.names.lookup x.1 = some .local
  own : sc.names.lookup (nm i) = some .local ∨ sc.names.lookup (nm i) = some .cell
  free : ∀ x ∈ sc.names, x.2 = .free → ∃ j ∈ cs, x.1 = nm j
  caps : ∀ j ∈ cs, sc.names.lookup (nm j) = some .free ∧ (ks (nm j) = some .cell ∨ ks (nm j) = some .free)
  uniq : ∀ x ∈ sc.names, sc.names.lookup x.1 = some x.2

mutual
inductive TX : KS → PySem.Expr → X → Prop
  | int {ks i k p} : TX ks (.Constant (.int i) k p) (.int i)
  | bool {ks b k p} : TX ks (.Constant (.bool b) k p) (.bool b)
  | none {ks k p} : TX ks (.Constant .none k p) .none
  | var {ks x i p} : x = nm i → TX ks (.Name x p) (.var i)
  | gl {ks x g p} : x = gn g → ks x = some .globalImplicit → TX ks (.Name x p) (.gl g)
  | bin {ks l r l' r' op op' p} : op = bop op' → TX ks l l' → TX ks r r' → TX ks (.BinOp l op r p) (.bin op' l' r')
  | neg {ks e e' p} : TX ks e e' → TX ks (.UnaryOp .USub e p) (.neg e')
  | not {ks e e' p} : TX ks e e' → TX ks (.UnaryOp .Not e p) (.not e')
  | cmp {ks l r l' r' op op' p} : op = cop op' → TX ks l l' → TX ks r r' → TX ks (.Compare l [op] [r] p) (.cmp op' l' r')
  | conj {ks e es es' p} : TXL ks (e :: es) es' → TX ks (.BoolOp .And (e :: es) p) (.conj es')
  | disj {ks e es es' p} : TXL ks (e :: es) es' → TX ks (.BoolOp .Or (e :: es) p) (.disj es')
  | ite {ks t a b t' a' b' p} : TX ks t t' → TX ks a a' → TX ks b b' → TX ks (.IfExp t a b p) (.ite t' a' b')
  | call {ks x f es es' np p} : x = fnm f → ks x = some .globalImplicit → TXL ks es es' → TX ks (.Call (.Name x np) es [] p) (.call f es')
  | abs_ {ks x e e' np p} : x = Str.ofString "abs" → ks x = some .globalImplicit → TX ks e e' → TX ks (.Call (.Name x np) [e] [] p) (.abs_ e')
  | len_ {ks x e e' np p} : x = Str.ofString "len" → ks x = some .globalImplicit → TX ks e e' → TX ks (.Call (.Name x np) [e] [] p) (.len_ e')
  | list_ {ks x e e' np p} : x = Str.ofString "list" → ks x = some .globalImplicit → TX ks e e' → TX ks (.Call (.Name x np) [e] [] p) (.list_ e')
  | max_ {ks x e e' f f' np p} : x = Str.ofString "max" → ks x = some .globalImplicit → TX ks e e' → TX ks f f' → TX ks (.Call (.Name x np) [e, f] [] p) (.max_ e' f')
  | idx {ks o i o' i' p} : TX ks o o' → TX ks i i' → TX ks (.Subscript o i p) (.idx o' i')
  | upto {ks x i e e' np sp p} : x = nm i → TX ks e e' → TX ks (.Subscript (.Name x np) (.Slice none (some e) none sp) p) (.upto (.var i) e')
  | from {ks x i e e' np sp p} : x = nm i → TX ks e e' → TX ks (.Subscript (.Name x np) (.Slice (some e) none none sp) p) (.from (.var i) e')
  | tup {ks es es' k p} : TXL ks es es' → TX ks (.Tuple es k p) (.tup es')
  | lst {ks es es' p} : TXL ks es es' → TX ks (.List es p) (.lst es')
  | comp {ks elt elt' x i px it r it' sc cs p} : x = nm i → TXI ks it r it' → TX (kindFn sc) elt elt' → CompOK ks sc i cs → TX ks (.ListComp elt [⟨.Name x px, it, [], 0⟩] sc p) (.comp r elt' i cs it')
  | ow {ks x v i i' np p} : x = nm v → TX ks i i' → TX ks (.Subscript (.Name x np) i p) (.ow v i')
inductive TXL : KS → List PySem.Expr → XL → Prop
  | nil {ks} : TXL ks [] .nil
  | cons {ks e e' es es'} : TX ks e e' → TXL ks es es' → TXL ks (e :: es) (.cons e' es')
/-- what a comprehension or a for runs over: a range (true) or a list (false) -/
inductive TXI : KS → PySem.Expr → Bool → X → Prop
  | rng {ks x e e' np p} : x = Str.ofString "range" → ks x = some .globalImplicit → TX ks e e' → TXI ks (.Call (.Name x np) [e] [] p) true e'
  | lst {ks e e'} : TX ks e e' → TXI ks e false e'
end
mutual
inductive TS : KS → PySem.Stmt → S → Prop
  | asg {ks x i p e e' pos} : x = nm i → ks x = some .local → TX ks e e' → (∀ r a b c d, e' ≠ .comp r a b c d) → TS ks (.Assign [.Name x p] e pos) (.asg i e')
  | asgC {ks y j py elt elt' x i px it r it' sc cs p pos} : y = nm j → ks y = some .local → x = nm i → TXI ks it r it' → TX (kindFn sc) elt elt' → CompOK ks sc i cs →
      (py.line = p.line ∧ ∀ q, (y, q) ∈ sc.names → ¬ (q = .local ∨ q = .cell)) → TS ks (.Assign [.Name y py] (.ListComp elt [⟨.Name x px, it, [], 0⟩] sc p) pos) (.asgC j r elt' i cs it')
  | asgT {ks x y i j p q k tp e e' pos} : x = nm i → y = nm j → i ≠ j → ks x = some .local → ks y = some .local → TX ks e e' →
      (∀ env : Env, env.blockKind = .function → env.kindOf x = some .local → env.kindOf y = some .local →
        swappedStores [.Tuple [.Name x p, .Name y q] k tp] e env = pure none ∨ swappedStores [.Tuple [.Name x p, .Name y q] k tp] e env = pure (some [x, y])) →
      TS ks (.Assign [.Tuple [.Name x p, .Name y q] k tp] e pos) (.asgT i j e')
  | asgO {ks x i p e e' f f' op bp pos} : x = nm i → ks x = some .local → op = .Mult → TX ks e e' → TX ks f f' → TS ks (.Assign [.Name x p] (.BinOp e op f bp) pos) (.asgO i e' f')
  | asgTO {ks x y i j p q k tp e e' f f' g g' op bp k' tp' pos} : x = nm i → y = nm j → i ≠ j → ks x = some .local → ks y = some .local → op = .Mult → TX ks e e' → TX ks f f' → TX ks g g' →
      (∀ env : Env, env.blockKind = .function → env.kindOf x = some .local → env.kindOf y = some .local →
        swappedStores [.Tuple [.Name x p, .Name y q] k tp] (.Tuple [e, .BinOp f op g bp] k' tp') env = pure none ∨ swappedStores [.Tuple [.Name x p, .Name y q] k tp] (.Tuple [e, .BinOp f op g bp] k' tp') env = pure (some [x, y])) →
      TS ks (.Assign [.Tuple [.Name x p, .Name y q] k tp] (.Tuple [e, .BinOp f op g bp] k' tp') pos) (.asgTO i j e' f' g')
  | setO {ks x v np i i' e e' sp pos} : x = nm v → TX ks i i' → TX ks e e' → TS ks (.Assign [.Subscript (.Name x np) i sp] e pos) (.setO v i' e')
  | aug {ks x i p e e' pos} : x = nm i → ks x = some .local → TX ks e e' → TS ks (.AugAssign (.Name x p) .Sub e pos) (.aug i .sub e')
  | ite {ks t t' b b' c c' pos} : TX ks t t' → TSL ks b b' → TSL ks c c' → TS ks (.If t b c pos) (.ite t' b' c')
  | whl {ks t t' b b' pos} : TX ks t t' → TSL ks b b' → TS ks (.While t b [] pos) (.whl t' b')
  | forR {ks x i p it e' b b' pos} : x = nm i → ks x = some .local → TXI ks it true e' → TSL ks b b' → TS ks (.For (.Name x p) it b [] pos) (.forR i e' b')
  | forE {ks x y i j p q k tp f e e' np cp b b' pos} : x = nm i → y = nm j → i ≠ j → ks x = some .local → ks y = some .local → f = Str.ofString "enumerate" → ks f = some .globalImplicit → TX ks e e' → TSL ks b b' →
      TS ks (.For (.Tuple [.Name x p, .Name y q] k tp) (.Call (.Name f np) [e] [] cp) b [] pos) (.forE i j e' b')
  | ret {ks e e' pos} : TX ks e e' → TS ks (.Return (some e) pos) (.ret e')
  | bad {ks s} : TS ks s .bad
inductive TSL : KS → List PySem.Stmt → SL → Prop
  | nil {ks} : TSL ks [] .nil
  | cons {ks s s' ss ss'} : TS ks s s' → TSL ks ss ss' → TSL ks (s :: ss) (.cons s' ss')
  | rel {ks ss ss'} : TSL ks ss ss' → TSL ks ss (.cons .rel ss')
end

theorem TX.star {ks : KS} {e : PySem.Expr} {x : X} (h : TX ks e x) (rest : List PySem.Expr) (env : Env) : starEach (e :: rest) env = (false, eval e env) :: starEach rest env := by
  cases h <;> rfl

noncomputable def biL : List (Str × Value) := [(Str.ofString "abs", .builtin "abs"), (Str.ofString "len", .builtin "len"), (Str.ofString "list", .type "list"), (Str.ofString "max", .builtin "max"), (Str.ofString "range", .type "range"), (Str.ofString "enumerate", .type "enumerate")]
structure FnR (hW : Heap) (mg : Str → Option Value) (f : Nat) (ps : List Nat) (body : SL) : Prop where
  ex : ∃ a o name params stmts scope pm cd doc, mg (fnm f) = some (.ref a) ∧ hW.get? a = some o ∧ o.data = .func (Calls.docDef name params stmts scope pm cd doc) ∧ hW.CodeRec cd name ∧
    TSL (kindFn scope) stmts body ∧ (∀ args : List Value, args.length = ps.length → bindArgs (Calls.docDef name params stmts scope pm cd doc) ⟨args, []⟩ = pure ((ps.map nm).zip args)) ∧
    (∀ p ∈ ps, scope.names.lookup (nm p) = some .local ∨ scope.names.lookup (nm p) = some .cell) ∧
    scope.isCoroutine = false ∧ scope.isGenerator = false ∧ scope.kind = .function ∧ ∀ x ∈ scope.names, x.2 ≠ .free
  nd : (fnm f == ("__debug__" : Str)) = false
  ne : ps ≠ []
structure WF (hW : Heap) (mg mb : Str → Option Value) (fn : Nat → Option (List Nat × SL)) : Prop where
  g : hW.Ns mainGlobals mg
  b : hW.Ns builtinsNs mb
  lim : hW.NoLimit
  bi : ∀ n v, (n, v) ∈ biL → mg n = none ∧ mb n = some v
  gl : ∀ g v, gR g = some v → ∃ x, mg (gn g) = some x ∧ VR (fun _ => False) hW v x
  fns : ∀ f ps body, fn f = some (ps, body) → FnR hW mg f ps body

section
variable {prog : Program} {w : World} {hW : Heap} {mg mb : Str → Option Value} {fn : Nat → Option (List Nat × SL)} {env : Env} {ks : KS} {A : Around} {s : Shared} {l : Loc} {o : Ow} {ex : Addr → Prop} {E : Value → Shared → Prop}

theorem name_var {x : Str} {p : Pos} {i : Nat} {v : Value} {Q : Value → Shared → Prop} (ok : EnvOK env ks) (hx : x = nm i) (n : NameIs env s.heap x v) (h : Q v s) : wpAny (model prog w) A (eval (.Name x p) env) Q E s := by
  subst hx
  refine wpAny_Name ?_ (nm_nd i)
  rcases n with ⟨a, m, b, c⟩ | ⟨a, c, d, e⟩
  · exact wpAny_loadName_local ok.kind a b c h
  · rcases a with a | a
    · exact wpAny_loadName_cell ok.kind a d e h
    · refine wpAny_loadName_free ok.kind a d e h ?_
      by_cases hi : i < 35
      · have : (List.range 35).all (fun i => !(nm i == ("__classdict__" : Str))) = true := by decide +kernel
        simpa using List.all_eq_true.mp this i (List.mem_range.mpr hi)
      · rw [nm_ge (by omega), beq_eq_false_iff_ne]
        intro e
        have := congrArg Str.cps e
        have e2 : (Str.ofString "__classdict__").cps = #[95, 95, 99, 108, 97, 115, 115, 100, 105, 99, 116, 95, 95] := by decide +kernel
        rw [e2] at this
        simp at this

theorem name_glob {x : Str} {p : Pos} {v : Value} {Q : Value → Shared → Prop} (W : WF hW mg mb fn) (ok : EnvOK env ks) (hw : ∀ b o, hW.get? b = some o → s.heap.get? b = some o) (hx : ks x = some .globalImplicit)
    (hd : (x == ("__debug__" : Str)) = false) (hv : mg x = some v) (h : Q v s) : wpAny (model prog w) A (eval (.Name x p) env) Q E s := by
  refine wpAny_Name ?_ hd
  rw [loadName_read ok.kind (ok.gi hx)]
  unfold loadGlobal
  rw [ok.glob]
  refine wpAny_bind (wpAny_nsGet (W.g.keeps hw) ?_)
  rw [hv]
  exact wpAny_pure h

theorem name_bi {x : Str} {p : Pos} {v : Value} {Q : Value → Shared → Prop} (W : WF hW mg mb fn) (ok : EnvOK env ks) (hw : ∀ b o, hW.get? b = some o → s.heap.get? b = some o) (hx : ks x = some .globalImplicit)
    (hm : (x, v) ∈ biL) (hd : (x == ("__debug__" : Str)) = false) (h : Q v s) : wpAny (model prog w) A (eval (.Name x p) env) Q E s := by
  refine wpAny_Name ?_ hd
  rw [loadName_read ok.kind (ok.gi hx)]
  unfold loadGlobal
  rw [ok.glob, ok.bi]
  obtain ⟨h1, h2⟩ := W.bi x v hm
  refine wpAny_bind (wpAny_nsGet (W.g.keeps hw) ?_)
  rw [h1]
  refine wpAny_bind (wpAny_nsGet (W.b.keeps hw) ?_)
  rw [h2]
  exact wpAny_pure h
end
end Mine

namespace Mine

noncomputable def EV (prog : Program) (w : World) (hW : Heap) (I : R) (n : Nat) : Prop := ∀ {ks : KS} {e : PySem.Expr} {x : X} {env : Env} {A : Around} {s : Shared} {l : Loc} {o : Ow} {ex : Addr → Prop} {v : AV} {E : Value → Shared → Prop} {Q : Value → Shared → Prop},
  TX ks e x → EnvOK env ks → AOK A n → ES hW env ex l o s.heap → I.ev x l o = some v → (∀ y s', Keeps s s' → VR ex s'.heap v y → Q y s') → wpAny (model prog w) A (eval e env) Q E s
noncomputable def TST (prog : Program) (w : World) (hW : Heap) (I : R) (n : Nat) : Prop := ∀ {ks : KS} {e : PySem.Expr} {x : X} {env : Env} {A : Around} {s : Shared} {l : Loc} {o : Ow} {ex : Addr → Prop} {b : Bool} {E : Value → Shared → Prop} {Q : Bool → Shared → Prop},
  TX ks e x → EnvOK env ks → AOK A n → ES hW env ex l o s.heap → aBool (I.ev x l o) = some b → (∀ s', Keeps s s' → Q b s') → wpAny (model prog w) A (isTrue e env (eval e env)) Q E s
noncomputable def EVS (prog : Program) (w : World) (hW : Heap) (I : R) (n : Nat) : Prop := ∀ {ks : KS} {es : List PySem.Expr} {xs : XL} {env : Env} {A : Around} {s : Shared} {l : Loc} {o : Ow} {ex : Addr → Prop} {vs : List AV} {p : Pos} {E : Value → Shared → Prop} {Q : List Value → Shared → Prop},
  TXL ks es xs → EnvOK env ks → AOK A n → ES hW env ex l o s.heap → I.evs xs l o = some vs → (∀ ys s', Keeps s s' → VRs ex s'.heap vs ys → Q ys s') → wpAny (model prog w) A (spliced (backTo p (starEach es env))) Q E s
noncomputable def ANDV (prog : Program) (w : World) (hW : Heap) (I : R) (n : Nat) : Prop := ∀ {ks : KS} {e : PySem.Expr} {es : List PySem.Expr} {xs : XL} {env : Env} {A : Around} {s : Shared} {l : Loc} {o : Ow} {ex : Addr → Prop} {b : Bool} {p : Pos} {E : Value → Shared → Prop} {Q : Value → Shared → Prop},
  TXL ks (e :: es) xs → EnvOK env ks → AOK A n → ES hW env ex l o s.heap → I.eand xs l o = some b → (∀ s', Keeps s s' → Q (.bool b) s') → wpAny (model prog w) A (boolOp p .And (evalEach (e :: es) env)) Q E s
noncomputable def ORV (prog : Program) (w : World) (hW : Heap) (I : R) (n : Nat) : Prop := ∀ {ks : KS} {e : PySem.Expr} {es : List PySem.Expr} {xs : XL} {env : Env} {A : Around} {s : Shared} {l : Loc} {o : Ow} {ex : Addr → Prop} {b : Bool} {p : Pos} {E : Value → Shared → Prop} {Q : Value → Shared → Prop},
  TXL ks (e :: es) xs → EnvOK env ks → AOK A n → ES hW env ex l o s.heap → I.eor xs l o = some b → (∀ s', Keeps s s' → Q (.bool b) s') → wpAny (model prog w) A (boolOp p .Or (evalEach (e :: es) env)) Q E s
noncomputable def ANDT (prog : Program) (w : World) (hW : Heap) (I : R) (n : Nat) : Prop := ∀ {ks : KS} {es : List PySem.Expr} {xs : XL} {env : Env} {A : Around} {s : Shared} {l : Loc} {o : Ow} {ex : Addr → Prop} {b : Bool} {E : Value → Shared → Prop} {Q : Bool → Shared → Prop},
  TXL ks es xs → EnvOK env ks → AOK A n → ES hW env ex l o s.heap → I.eand xs l o = some b → (∀ s', Keeps s s' → Q b s') → wpAny (model prog w) A (allTrue .And es env) Q E s
noncomputable def ORT (prog : Program) (w : World) (hW : Heap) (I : R) (n : Nat) : Prop := ∀ {ks : KS} {es : List PySem.Expr} {xs : XL} {env : Env} {A : Around} {s : Shared} {l : Loc} {o : Ow} {ex : Addr → Prop} {b : Bool} {E : Value → Shared → Prop} {Q : Bool → Shared → Prop},
  TXL ks es xs → EnvOK env ks → AOK A n → ES hW env ex l o s.heap → I.eor xs l o = some b → (∀ s', Keeps s s' → Q b s') → wpAny (model prog w) A (allTrue .Or es env) Q E s

theorem aInt_some {a : Option AV} {i : Int} (h : aInt a = some i) : a = some (.int i) := by
  unfold aInt at h
  split at h
  · cases h; rfl
  · cases h
theorem aBool_some {a : Option AV} {i : Bool} (h : aBool a = some i) : a = some (.bool i) := by
  unfold aBool at h
  split at h
  · cases h; rfl
  · cases h
theorem aLst_some {a : Option AV} {i : List AV} (h : aLst a = some i) : a = some (.lst i) := by
  unfold aLst at h
  split at h
  · cases h; rfl
  · cases h
theorem okN_le {n : Nat} (h : okN n = true) : n ≤ 1000 := Nat.le_of_ble_eq_true h
theorem okI_le {i : Int} (h : okI i = true) : i.natAbs ≤ 1000000000 := Nat.le_of_ble_eq_true h
theorem sz {n : Nat} (h : n ≤ 1000000) : n ≤ sizeLine := Nat.le_trans h (by decide)

section
variable {prog : Program} {w : World} {hW : Heap} {mg mb : Str → Option Value} {fn : Nat → Option (List Nat × SL)} {I : R} {n : Nat} {env : Env} {ks : KS} {A : Around} {s : Shared} {l : Loc} {o : Ow} {ex : Addr → Prop} {E : Value → Shared → Prop}

theorem fresh_nex (S : ES hW env ex l o s.heap) {s' : Shared} (k : Keeps s s') : ¬ ex s'.heap.objs.size := fun q => by
  obtain ⟨_, o, e⟩ := S.exs _ q
  exact absurd (Heap.lt_size (kHp k _ _ e)) (Nat.lt_irrefl _)

theorem bin_int {op : BOp} {x y : Int} {t u : Tok} {v : AV} {Q : Value → Shared → Prop} (h : binI op x y = some v) (hQ : ∀ z s', Keeps s s' → VR ex s'.heap v z → Q z s') :
    wpAny (model prog w) A (binaryOp (bop op) (.int x t) (.int y u)) Q E s := by
  have fin : ∀ i : Int, v = .int i → Q (.int i s.toks) { s with toks := s.toks + 1 } := fun i e => by
    subst e
    exact hQ _ _ (kTk (kRfl s)) (.int i _)
  cases op with
  | add => cases h; exact P.add_int (fin _ rfl)
  | sub => cases h; exact P.sub_int (fin _ rfl)
  | mul =>
    simp only [binI] at h
    split at h
    · rename_i hx
      split at h
      · cases h
        refine P.mul_int (fin _ rfl) (IntMulOk.of_left (intBits_le_64 ?_ ?_)) <;> have := okI_le hx <;> omega
      · cases h
    · cases h
  | fdiv =>
    simp only [binI] at h
    split at h
    · rename_i hz
      split at h
      · cases h
      · rename_i hy
        cases h
        exact floordiv_int (of_decide_eq_false hy) (fin _ rfl) (.inl (PyProof.noPylong_small (by have := okI_le hz; omega)))
    · cases h
  | mod =>
    simp only [binI] at h
    split at h
    · cases h
    · rename_i hy
      cases h
      exact mod_int' (of_decide_eq_false hy) (fin _ rfl)

theorem mul_lst {a : Addr} {items : Array Value} {c : Int} {u : Tok} {Q : Value → Shared → Prop} (hl : s.heap.PlainList a items) (hc : c.natAbs ≤ 1000000000) (hz : items.size * c.toNat ≤ 1000)
    (h : Q (.ref s.heap.objs.size) { s with heap := s.heap.push { cls := .type "list", data := .seq ((List.replicate c.toNat items.toList).flatten.toArray) } }) :
    wpAny (model prog w) A (binaryOp .Mult (.ref a) (.int c u)) Q E s := by
  obtain ⟨k, hl⟩ := hl
  have e : (List.foldl (fun x1 x2 => x1 ++ x2) #[] (List.replicate (if items.isEmpty = true then 0 else c.toNat) items)) = (List.replicate c.toNat items.toList).flatten.toArray := by
    have gen : ∀ (n : Nat) (acc : Array Value), List.foldl (fun x1 x2 => x1 ++ x2) acc (List.replicate n items) = acc ++ (List.replicate n items.toList).flatten.toArray := by
      intro n
      induction n with
      | zero => intro acc; simp
      | succ n ih =>
        intro acc
        rw [List.replicate_succ, List.foldl_cons, ih, List.replicate_succ, List.flatten_cons]
        apply Array.ext'
        simp
    rw [gen]
    by_cases hi : items.isEmpty = true
    · have : items = #[] := Array.isEmpty_iff.mp hi
      subst this
      simp
    · simp [hi]
  refine wpAny_binaryOp_repeat_ref (T := "list") (U := "int") (by decide) ⟨_, hl, rfl⟩ (fun s' => typeIs_int s' c u) noFill_list_mul F.fills_int_mul F.slot_int_rmul repeat_list F.slot_int_index.lookup
    (call_meets F.slot_int_rmul (typeIs_int s c u) F.entry_int_rmul (F.args_int_rmul_2 _ _) (int___rmul___int_list c u a items k)
      ⟨hl, rfl, ⟨_, hl, rfl⟩, call_meets F.slot_list_mul ⟨_, hl, rfl⟩ F.entry_list_mul (F.args_list_mul_2 _ _)
        (AutoListH.list___mul___list_int_3 a items k c u (by simp [Builtin.List.listFitsIndex]; omega) (by omega) (by simp [Builtin.List.listTooLong, sizeLine]; omega))
        ⟨hl, ?_⟩⟩)
  rw [e]
  exact h
end
end Mine

namespace Mine

mutual
theorem VR.reads {ex : Addr → Prop} {h : Heap} : ∀ {v : AV} {x : Value}, VR ex h v x → ∃ as, Reads h x (toPy v) as
  | _, _, .none => ⟨_, .none⟩
  | _, _, .bool b => ⟨_, .bool b⟩
  | _, _, .int i t => ⟨_, .int i t⟩
  | _, _, .tup _ hi hs => by
    obtain ⟨o, ho, hc, n, hd⟩ := hi
    obtain ⟨as, r⟩ := VRs.reads hs
    exact ⟨_, .tuple ho hc hd r⟩
  | _, _, .lst _ hi hs => by
    obtain ⟨n, ho⟩ := hi
    obtain ⟨as, r⟩ := VRs.reads hs
    exact ⟨_, .list ho rfl rfl r⟩
theorem VRs.reads {ex : Addr → Prop} {h : Heap} : ∀ {v : List AV} {x : List Value}, VRs ex h v x → ∃ as, ReadsAll h x (toPys v) as
  | _, _, .nil => ⟨_, .nil⟩
  | _, _, .cons a b => by
    obtain ⟨as, r⟩ := VR.reads a
    obtain ⟨bs, q⟩ := VRs.reads b
    exact ⟨_, .cons r q⟩
end

theorem TX.marks {ks : KS} {e : PySem.Expr} {x : X} (h : TX ks e x) (op : CmpOp) : behindInMarks op e = false := by
  cases h <;> rfl

section
variable {prog : Program} {w : World} {hW : Heap} {mg mb : Str → Option Value} {fn : Nat → Option (List Nat × SL)} {I : R} {n : Nat} {env : Env} {ks : KS} {A : Around} {s : Shared} {l : Loc} {o : Ow} {ex : Addr → Prop} {E : Value → Shared → Prop} {v : AV} {Q : Value → Shared → Prop}

theorem bin_val {op : BOp} {a b : AV} {x y : Value} (hn : ¬ ex s.heap.objs.size) (ra : VR ex s.heap a x) (rb : VR ex s.heap b y) (h : binV op a b = some v) (hQ : ∀ z s', Keeps s s' → VR ex s'.heap v z → Q z s') :
    wpAny (model prog w) A (binaryOp (bop op) x y) Q E s := by
  cases ra with
  | int i t =>
    cases rb with
    | int j u => exact bin_int (ex := ex) h hQ
    | none => simp [binV] at h
    | bool b => simp [binV] at h
    | tup => simp [binV] at h
    | lst => simp [binV] at h
  | bool p =>
    cases rb with
    | bool q =>
      cases op with
      | sub =>
        simp only [binV, Option.some.injEq] at h
        subst h
        refine sub_bool ?_
        have e : b2z p - b2z q = b2i p - b2i q := by cases p <;> cases q <;> rfl
        rw [← e]
        exact hQ _ _ (kTk (kRfl s)) (.int _ _)
      | add => simp [binV] at h
      | mul => simp [binV] at h
      | fdiv => simp [binV] at h
      | mod => simp [binV] at h
    | none => simp [binV] at h
    | int => simp [binV] at h
    | tup => simp [binV] at h
    | lst => simp [binV] at h
  | lst ha hi hs =>
    cases rb with
    | lst hb hj ht =>
      cases op with
      | add =>
        simp only [binV] at h
        split at h
        · rename_i hz
          cases h
          obtain ⟨n1, hi⟩ := hi
          obtain ⟨n2, hj⟩ := hj
          have hlen := okN_le hz
          rw [← hs.length, ← ht.length] at hlen
          refine P.add_list hi hj (hQ _ _ (kPush (kRfl s) _) (.lst hn ⟨0, Heap.get?_push_size _ rfl⟩ ?_)) (sz (by simp at hlen ⊢; omega))
          rw [Array.toList_append]
          exact (hs.append ht).keep fun b o e => Heap.get?_push_of_some _ e
        · cases h
      | sub => simp [binV] at h
      | mul => simp [binV] at h
      | fdiv => simp [binV] at h
      | mod => simp [binV] at h
    | int c u =>
      cases op with
      | mul =>
        simp only [binV, Option.map_eq_some_iff] at h
        obtain ⟨ws, h, rfl⟩ := h
        unfold mulL at h
        split at h
        · rename_i hz
          split at h
          · rename_i hc
            cases h
            have hlen := okN_le hz
            rw [← hs.length] at hlen
            refine mul_lst hi (okI_le hc) (by simpa using hlen) (hQ _ _ (kPush (kRfl s) _) (.lst hn ⟨0, Heap.get?_push_size _ rfl⟩ ?_))
            exact (hs.rep _).keep fun b o e => Heap.get?_push_of_some _ e
          · cases h
        · cases h
      | add => simp [binV] at h
      | sub => simp [binV] at h
      | fdiv => simp [binV] at h
      | mod => simp [binV] at h
    | none => simp [binV] at h
    | bool => simp [binV] at h
    | tup => simp [binV] at h
  | none => cases rb <;> simp [binV] at h
  | tup => cases rb <;> simp [binV] at h

theorem cmp_int {op : COp} {x y : Int} {t u : Tok} {b : Bool} (h : cmpI op x y = some b) (hQ : Q (.bool b) s) :
    wpAny (model prog w) A (compareOp (cop op) (.int x t) (.int y u)) Q E s := by
  cases op with
  | eq =>
    cases h
    refine P.eq_int ?_
    have e : (x == y) = decide (x = y) := by by_cases h : x = y <;> simp [h]
    rw [e]; exact hQ
  | ne =>
    cases h
    refine P.ne_int ?_
    have e : (x != y) = !decide (x = y) := by by_cases h : x = y <;> simp [h]
    rw [e]; exact hQ
  | lt => cases h; exact P.lt_int hQ
  | le => cases h; exact P.le_int hQ
  | gt => cases h; exact P.gt_int hQ
  | ge => cases h; exact P.ge_int hQ
  | is => cases h
  | isnot => cases h

theorem cmp_ref {op : COp} {a c : AV} {x y : Value} {b : Bool} (hu : A.units ≤ 5000) (ra : VR ex s.heap a x) (rb : VR ex s.heap c y) (h : cmpR op a c = some b) (hQ : Q (.bool b) s) :
    wpAny (model prog w) A (compareOp (cop op) x y) Q E s := by
  have hc : A.units + 64 < cLine := by have : cLine = 9900 := rfl; omega
  have isN_spec : ∀ r, isN a c = some r → y = .none ∧ r = (x == .none) := by
    intro r hr
    unfold isN at hr
    split at hr
    · cases ra; cases rb; cases hr; exact ⟨rfl, rfl⟩
    · cases ra; cases rb; cases hr; exact ⟨rfl, rfl⟩
    · cases ra; cases rb; cases hr; exact ⟨rfl, rfl⟩
    · cases hr
  cases op with
  | eq =>
    simp only [cmpR, deqV] at h
    split at h
    · rename_i h1
      split at h
      · rename_i h2
        cases h
        obtain ⟨as, r⟩ := ra.reads
        obtain ⟨bs, q⟩ := rb.reads
        exact eq_dataH r q h1 h2 hc hQ
      · cases h
    · cases h
  | ne =>
    simp only [cmpR, deqV, Option.map_eq_some_iff] at h
    obtain ⟨b', h, rfl⟩ := h
    split at h
    · rename_i h1
      split at h
      · rename_i h2
        cases h
        obtain ⟨as, r⟩ := ra.reads
        obtain ⟨bs, q⟩ := rb.reads
        exact ne_dataH r q h1 h2 hc hQ
      · cases h
    · cases h
  | is =>
    obtain ⟨rfl, e⟩ := isN_spec _ h
    exact is_none (by rw [← e]; exact hQ)
  | isnot =>
    simp only [cmpR, Option.map_eq_some_iff] at h
    obtain ⟨b', h, rfl⟩ := h
    obtain ⟨rfl, e⟩ := isN_spec _ h
    exact isNot_none (by rw [← e]; exact hQ)
  | lt => cases h
  | le => cases h
  | gt => cases h
  | ge => cases h

theorem cmp_val {op : COp} {a c : AV} {x y : Value} {b : Bool} (hu : A.units ≤ 5000) (ra : VR ex s.heap a x) (rb : VR ex s.heap c y) (h : cmpV op a c = some b) (hQ : Q (.bool b) s) :
    wpAny (model prog w) A (compareOp (cop op) x y) Q E s := by
  unfold cmpV at h
  split at h
  · cases ra; cases rb; exact cmp_int h hQ
  · exact cmp_ref hu ra rb h hQ
end
end Mine

namespace Mine

section
variable {prog : Program} {w : World} {hW : Heap} {mg mb : Str → Option Value} {fn : Nat → Option (List Nat × SL)} {I : R} {n : Nat} {env : Env} {ks : KS} {A : Around} {s : Shared} {l : Loc} {o : Ow} {ex : Addr → Prop} {E : Value → Shared → Prop} {v : AV} {Q : Value → Shared → Prop}

theorem ev_bin (ih : EV prog w hW I n) (ok : EnvOK env ks) (ha : AOK A n) (S : ES hW env ex l o s.heap) {e f : PySem.Expr} {x y : X} {op : BOp} {p : Pos} (he : TX ks e x) (hf : TX ks f y)
    (h : evBin I op x y l o = some v) (hQ : ∀ y s', Keeps s s' → VR ex s'.heap v y → Q y s') : wpAny (model prog w) A (eval (.BinOp e (bop op) f p) env) Q E s := by
  unfold evBin at h
  split at h
  · rename_i a ea
    split at h
    · rename_i b eb
      refine wpAny_BinOp (ih he ok ha S ea fun ya s1 k1 r1 => ih hf ok ha (S.keeps k1) eb fun yb s2 k2 r2 => ?_)
      exact bin_val (fresh_nex S (kTr k1 k2)) (r1.keep (kHp k2)) r2 h fun z s3 k3 r3 => hQ z s3 (kTr (kTr k1 k2) k3) r3
    · cases h
  · cases h

theorem ev_neg (ih : EV prog w hW I n) (ok : EnvOK env ks) (ha : AOK A n) (S : ES hW env ex l o s.heap) {e : PySem.Expr} {x : X} {p : Pos} (he : TX ks e x)
    (h : ((aInt (I.ev x l o)).map fun i => AV.int (-i)) = some v) (hQ : ∀ y s', Keeps s s' → VR ex s'.heap v y → Q y s') : wpAny (model prog w) A (eval (.UnaryOp .USub e p) env) Q E s := by
  rw [Option.map_eq_some_iff] at h
  obtain ⟨i, h, rfl⟩ := h
  refine wpAny_UnaryOp (ih he ok ha S (aInt_some h) fun y s1 k1 r1 => ?_)
  cases r1 with
  | int i t => exact P.neg_int (hQ _ _ (kTk k1) (.int _ _))

theorem cmp_left {e f : PySem.Expr} {x y : X} {op : COp} {c : Bool} (ih : EV prog w hW I n) (ok : EnvOK env ks) (ha : AOK A n) (S : ES hW env ex l o s.heap) (he : TX ks e x) (hf : TX ks f y)
    (h : evCmp I op x y l o = some (.bool c)) (hQ : ∀ s', Keeps s s' → Q (.bool c) s') :
    wpAny (model prog w) A (eval e env) (fun a s₁ => wpAny (model prog w) A (eval f env) (fun b s₂ => wpAny (model prog w) A (compareOp (cop op) a b) Q E s₂) E s₁) E s := by
  unfold evCmp at h
  split at h
  · rename_i a ea
    split at h
    · rename_i b eb
      rw [Option.map_eq_some_iff] at h
      obtain ⟨c', h, hc⟩ := h
      cases hc
      refine ih he ok ha S ea fun ya s1 k1 r1 => ih hf ok ha (S.keeps k1) eb fun yb s2 k2 r2 => ?_
      exact cmp_val (by have := ha.un; omega) (r1.keep (kHp k2)) r2 h (hQ _ (kTr k1 k2))
    · cases h
  · cases h
theorem evCmp_bool {x y : X} {op : COp} (h : evCmp I op x y l o = some v) : ∃ c, v = .bool c := by
  unfold evCmp at h
  split at h
  · split at h
    · rw [Option.map_eq_some_iff] at h
      obtain ⟨c, _, rfl⟩ := h
      exact ⟨c, rfl⟩
    · cases h
  · cases h

theorem ev_cmp (ih : EV prog w hW I n) (ok : EnvOK env ks) (ha : AOK A n) (S : ES hW env ex l o s.heap) {e f : PySem.Expr} {x y : X} {op : COp} {p : Pos} (he : TX ks e x) (hf : TX ks f y)
    (h : evCmp I op x y l o = some v) (hQ : ∀ y s', Keeps s s' → VR ex s'.heap v y → Q y s') : wpAny (model prog w) A (eval (.Compare e [cop op] [f] p) env) Q E s := by
  obtain ⟨c, rfl⟩ := evCmp_bool h
  exact wpAny_Compare1 (cmp_left ih ok ha S he hf h fun s' k => hQ _ _ k (.bool c)) (hf.marks _)

theorem tst_cmp (ih : EV prog w hW I n) (ok : EnvOK env ks) (ha : AOK A n) (S : ES hW env ex l o s.heap) {e f : PySem.Expr} {x y : X} {op : COp} {p : Pos} {b : Bool} {whole : Sem Value} {Q : Bool → Shared → Prop} (he : TX ks e x) (hf : TX ks f y)
    (h : evCmp I op x y l o = some (.bool b)) (hQ : ∀ s', Keeps s s' → Q b s') : wpAny (model prog w) A (isTrue (.Compare e [cop op] [f] p) env whole) Q E s :=
  wpAny_isTrue_Compare1 (cmp_left (Q := fun c s₃ => wpAny (model prog w) A (truthy c) Q E s₃) ih ok ha S he hf h fun s' k => wpAny_truthy_bool (hQ _ k)) (hf.marks _)

theorem tst_value (ih : EV prog w hW I n) (ok : EnvOK env ks) (ha : AOK A n) (S : ES hW env ex l o s.heap) {e : PySem.Expr} {x : X} {b : Bool} {Q : Bool → Shared → Prop} (he : TX ks e x)
    (h : aBool (I.ev x l o) = some b) (hQ : ∀ s', Keeps s s' → Q b s') (hw : isTrue e env (eval e env) = (do let v ← eval e env; standAt e.pos; holding [v] (truthy v))) : wpAny (model prog w) A (isTrue e env (eval e env)) Q E s := by
  refine wpAny_isTrue_value (ih he ok ha S (aBool_some h) fun y s1 k1 r1 => ?_) hw
  cases r1 with
  | bool b => exact wpAny_truthy_bool (hQ _ k1)

theorem ev_ite (ih : EV prog w hW I n) (it : TST prog w hW I n) (ok : EnvOK env ks) (ha : AOK A n) (S : ES hW env ex l o s.heap) {t e f : PySem.Expr} {z x y : X} {p : Pos} (ht : TX ks t z) (he : TX ks e x) (hf : TX ks f y)
    (h : evIte I z x y l o = some v) (hQ : ∀ y s', Keeps s s' → VR ex s'.heap v y → Q y s') : wpAny (model prog w) A (eval (.IfExp t e f p) env) Q E s := by
  unfold evIte at h
  split at h
  · rename_i eb
    exact wpAny_IfExp (it ht ok ha S eb fun s1 k1 => by
      rw [if_pos rfl]
      exact ih he ok ha (S.keeps k1) h fun y s2 k2 r2 => hQ y s2 (kTr k1 k2) r2)
  · rename_i eb
    exact wpAny_IfExp (it ht ok ha S eb fun s1 k1 => by
      rw [if_neg Bool.false_ne_true]
      exact ih hf ok ha (S.keeps k1) h fun y s2 k2 r2 => hQ y s2 (kTr k1 k2) r2)
  · cases h
theorem tst_ite (it : TST prog w hW I n) (ok : EnvOK env ks) (ha : AOK A n) (S : ES hW env ex l o s.heap) {t e f : PySem.Expr} {z x y : X} {p : Pos} {b : Bool} {whole : Sem Value} {Q : Bool → Shared → Prop} (ht : TX ks t z) (he : TX ks e x) (hf : TX ks f y)
    (h : aBool (evIte I z x y l o) = some b) (hQ : ∀ s', Keeps s s' → Q b s') : wpAny (model prog w) A (isTrue (.IfExp t e f p) env whole) Q E s := by
  have h := aBool_some h
  unfold evIte at h
  split at h
  · rename_i eb
    exact isTrue_IfExp (it ht ok ha S eb fun s1 k1 => by
      rw [if_pos rfl]
      exact it he ok ha (S.keeps k1) (by rw [h]; rfl) fun s2 k2 => hQ s2 (kTr k1 k2))
  · rename_i eb
    exact isTrue_IfExp (it ht ok ha S eb fun s1 k1 => by
      rw [if_neg Bool.false_ne_true]
      exact it hf ok ha (S.keeps k1) (by rw [h]; rfl) fun s2 k2 => hQ s2 (kTr k1 k2))
  · cases h

/-! calls of built-ins -/
theorem one_item (ih : EV prog w hW I n) (ok : EnvOK env ks) (ha : AOK A n) (S : ES hW env ex l o s.heap) {e : PySem.Expr} {x : X} {p : Pos} {Q : List Value → Shared → Prop} (he : TX ks e x) (h : I.ev x l o = some v)
    (hQ : ∀ y s', Keeps s s' → VR ex s'.heap v y → Q [y] s') : wpAny (model prog w) A (spliced (backTo p (starEach [e] env))) Q E s :=
  wpAny_items_cons (ih he ok ha S h fun y s1 k1 r1 => wpAny_items_nil (hQ y s1 k1 r1)) (he.star _ _)
theorem two_items (ih : EV prog w hW I n) (ok : EnvOK env ks) (ha : AOK A n) (S : ES hW env ex l o s.heap) {e f : PySem.Expr} {x y : X} {u : AV} {p : Pos} {Q : List Value → Shared → Prop} (he : TX ks e x) (hf : TX ks f y) (h : I.ev x l o = some v) (h' : I.ev y l o = some u)
    (hQ : ∀ y z s', Keeps s s' → VR ex s'.heap v y → VR ex s'.heap u z → Q [y, z] s') : wpAny (model prog w) A (spliced (backTo p (starEach [e, f] env))) Q E s :=
  wpAny_items_cons (ih he ok ha S h fun y s1 k1 r1 => wpAny_items_cons (ih hf ok ha (S.keeps k1) h' fun z s2 k2 r2 => wpAny_items_nil (hQ y z s2 (kTr k1 k2) (r1.keep (kHp k2)) r2)) (hf.star _ _)) (he.star _ _)

theorem call_bi1 (W : WF hW mg mb fn) (ok : EnvOK env ks) (S : ES hW env ex l o s.heap) {y : Str} {id : String} {e : PySem.Expr} {rest : List PySem.Expr} {x : X} {np p : Pos} (he : TX ks e x) (hm : (y, Value.builtin id) ∈ biL) (hd : (y == ("__debug__" : Str)) = false) (hk : ks y = some .globalImplicit)
    (hr : (backTo p (starEach rest env)).any (·.1) = false)
    (h : wpAny (model prog w) A (spliced (backTo p (starEach (e :: rest) env))) (fun vs s₁ => wpAny (model prog w) A (call (.builtin id) vs) Q E s₁) E s) : wpAny (model prog w) A (eval (.Call (.Name y np) (e :: rest) [] p) env) Q E s :=
  wpAny_Call_NameR (name_bi W ok S.w hk hm hd (PyProof.Rows.callWith_builtin1 h (he.star _ _) hr))
theorem call_ty1 (W : WF hW mg mb fn) (ok : EnvOK env ks) (S : ES hW env ex l o s.heap) {y : Str} {T : String} {e : PySem.Expr} {x : X} {np p : Pos} (he : TX ks e x) (hm : (y, Value.type T) ∈ biL) (hd : (y == ("__debug__" : Str)) = false) (hk : ks y = some .globalImplicit)
    (h : wpAny (model prog w) A (spliced (backTo p (starEach [e] env))) (fun vs s₁ => wpAny (model prog w) A (call (.type T) vs) Q E s₁) E s) : wpAny (model prog w) A (eval (.Call (.Name y np) [e] [] p) env) Q E s :=
  wpAny_Call_NameR (name_bi W ok S.w hk hm hd (PyProof.Rows.callWith_type1 h (he.star _ _)))

theorem ev_abs (W : WF hW mg mb fn) (ih : EV prog w hW I n) (ok : EnvOK env ks) (ha : AOK A n) (S : ES hW env ex l o s.heap) {e : PySem.Expr} {x : X} {np p : Pos} (he : TX ks e x) (hk : ks (Str.ofString "abs") = some .globalImplicit)
    (h : evAbs I x l o = some v) (hQ : ∀ y s', Keeps s s' → VR ex s'.heap v y → Q y s') : wpAny (model prog w) A (eval (.Call (.Name (Str.ofString "abs") np) [e] [] p) env) Q E s := by
  unfold evAbs at h
  split at h
  · rename_i i ei
    cases h
    refine call_bi1 W ok S he (id := "abs") (by simp [biL]) (by decide) hk rfl (one_item ih ok ha S he (aInt_some ei) fun y s1 k1 r1 => ?_)
    cases r1 with
    | int i t =>
      refine call_abs_int fun u tk => hQ _ _ (kTk k1) ?_
      by_cases h0 : i < 0
      · rw [if_pos h0, decide_eq_true h0]
        exact .int _ _
      · rw [if_neg h0, decide_eq_false h0]
        exact .int _ _
  · cases h

theorem ev_len (W : WF hW mg mb fn) (ih : EV prog w hW I n) (ok : EnvOK env ks) (ha : AOK A n) (S : ES hW env ex l o s.heap) {e : PySem.Expr} {x : X} {np p : Pos} (he : TX ks e x) (hk : ks (Str.ofString "len") = some .globalImplicit)
    (h : evLen I x l o = some v) (hQ : ∀ y s', Keeps s s' → VR ex s'.heap v y → Q y s') : wpAny (model prog w) A (eval (.Call (.Name (Str.ofString "len") np) [e] [] p) env) Q E s := by
  unfold evLen at h
  split at h
  · rename_i vs ei
    split at h
    · rename_i hz
      cases h
      refine call_bi1 W ok S he (id := "len") (by simp [biL]) (by decide) hk rfl (one_item ih ok ha S he (aLst_some ei) fun y s1 k1 r1 => ?_)
      cases r1 with
      | lst hx hi hs =>
        have hl := hs.length
        rw [Array.length_toList] at hl
        have := okN_le hz
        refine Calls.call_len_list hi.isList (by omega) (hQ _ _ (kTk k1) ?_)
        rw [← hl]
        exact .int _ _
    · cases h
  · cases h

theorem ev_list (W : WF hW mg mb fn) (ih : EV prog w hW I n) (ok : EnvOK env ks) (ha : AOK A n) (S : ES hW env ex l o s.heap) {e : PySem.Expr} {x : X} {np p : Pos} (he : TX ks e x) (hk : ks (Str.ofString "list") = some .globalImplicit)
    (h : evList I x l o = some v) (hQ : ∀ y s', Keeps s s' → VR ex s'.heap v y → Q y s') : wpAny (model prog w) A (eval (.Call (.Name (Str.ofString "list") np) [e] [] p) env) Q E s := by
  unfold evList at h
  split at h
  · rename_i vs ei
    split at h
    · rename_i hz
      cases h
      refine call_ty1 W ok S he (T := "list") (by simp [biL]) (by decide) hk (one_item ih ok ha S he (aLst_some ei) fun y s1 k1 r1 => ?_)
      cases r1 with
      | lst hx hi hs =>
        have hl := hs.length
        rw [Array.length_toList] at hl
        have := okN_le hz
        obtain ⟨m, hi⟩ := hi
        refine call_list_seq _ (.inl rfl) hi rfl rfl (fun h' c' hk' hg => hQ _ _ (kTr k1 ⟨h', _, rfl, hk'⟩) (.lst (fresh_nex S k1) ⟨c', hg⟩ (hs.keep hk'))) (sz (by omega))
    · cases h
  · cases h

theorem ev_max (W : WF hW mg mb fn) (ih : EV prog w hW I n) (ok : EnvOK env ks) (ha : AOK A n) (S : ES hW env ex l o s.heap) {e f : PySem.Expr} {x y : X} {np p : Pos} (he : TX ks e x) (hf : TX ks f y) (hk : ks (Str.ofString "max") = some .globalImplicit)
    (h : evMax I x y l o = some v) (hQ : ∀ y s', Keeps s s' → VR ex s'.heap v y → Q y s') : wpAny (model prog w) A (eval (.Call (.Name (Str.ofString "max") np) [e, f] [] p) env) Q E s := by
  unfold evMax at h
  split at h
  · rename_i i ei
    split at h
    · rename_i j ej
      cases h
      refine call_bi1 W ok S he (id := "max") (by simp [biL]) (by decide) hk (by rw [hf.star]; rfl) (two_items ih ok ha S he hf (aInt_some ei) (aInt_some ej) fun y z s1 k1 r1 r2 => ?_)
      cases r1 with
      | int i t =>
        cases r2 with
        | int j u =>
          refine max_two_ints ha.hd fun h' tk hk' => ?_
          by_cases hlt : i < j
          · rw [if_pos (show j > i from hlt)]
            refine hQ _ _ (kTr k1 (kMk hk')) ?_
            rw [decide_eq_true hlt]
            exact .int _ _
          · rw [if_neg (show ¬ j > i from hlt)]
            refine hQ _ _ (kTr k1 (kMk hk')) ?_
            rw [decide_eq_false hlt]
            exact .int _ _
    · cases h
  · cases h
end
end Mine

namespace Mine

theorem TX.sub {ks : KS} {e : PySem.Expr} {x : X} (h : TX ks e x) (a b : Value) : subscripted e false a b = operate [a, b] (getItem a b) := by
  cases h <;> rfl

theorem VRs.nthL {ex : Addr → Prop} {h : Heap} {vs : List AV} {items : Array Value} {n : Nat} {v : AV} (r : VRs ex h vs items.toList) (e : Mine.nth vs n = some v) : ∃ x, items[n]? = some x ∧ VR ex h v x := by
  obtain ⟨x, h1, h2⟩ := r.nth e
  exact ⟨x, by rw [← Array.getElem?_toList]; exact h1, h2⟩

theorem nth_lt : ∀ {vs : List AV} {n : Nat} {v : AV}, nth vs n = some v → n < vs.length
  | [], n, _, h => by cases n <;> cases h
  | _ :: _, 0, _, _ => by simp
  | _ :: l, n + 1, v, h => by have := nth_lt (vs := l) (n := n) (v := v) h; simp; omega

section
variable {prog : Program} {w : World} {hW : Heap} {mg mb : Str → Option Value} {fn : Nat → Option (List Nat × SL)} {I : R} {n : Nat} {env : Env} {ks : KS} {A : Around} {s : Shared} {l : Loc} {o : Ow} {ex : Addr → Prop} {E : Value → Shared → Prop} {v : AV} {Q : Value → Shared → Prop}

theorem item_list {value slice : PySem.Expr} {a : Addr} {items : Array Value} {vs : List AV} {k : Int} {u : Tok} (hl : s.heap.IsList a items) (r : VRs ex s.heap vs items.toList) (hz : vs.length ≤ 1000) (h : idxV vs k = some v)
    (hs : subscripted slice false (.ref a) (.int k u) = operate [.ref a, .int k u] (getItem (.ref a) (.int k u))) (hQ : ∀ y, VR ex s.heap v y → Q y s) : wpAny (model prog w) A (subscriptTail value slice (.ref a) (.int k u)) Q E s := by
  have hlen := r.length
  rw [Array.length_toList] at hlen
  cases k with
  | ofNat j =>
    have h : nth vs j = some v := h
    obtain ⟨x, h1, h2⟩ := r.nthL h
    have := nth_lt h
    exact tail_any hl.typeIs slot_list_getitem.lookup (wpAny_getItem_list hl (Int.natCast_nonneg j) (by show (j : Int) < 2 ^ 63; omega) h1 (hQ x h2)) hs
  | negSucc j =>
    simp only [idxV] at h
    split at h
    · rename_i hj
      have hj := Nat.le_of_ble_eq_true hj
      obtain ⟨x, h1, h2⟩ := r.nthL h
      refine tail_any hl.typeIs slot_list_getitem.lookup (wpAny_getItem_list_neg hl (Int.negSucc_lt_zero j) (by omega) (by omega) (x := x) ?_ (hQ x h2)) hs
      have : (Int.negSucc j + items.size).toNat = vs.length - (j + 1) := by omega
      rw [this]; exact h1
    · cases h
theorem item_tup {value slice : PySem.Expr} {a : Addr} {items : Array Value} {vs : List AV} {k : Int} {u : Tok} (hl : IsTup s.heap a items) (r : VRs ex s.heap vs items.toList) (hz : vs.length ≤ 1000) (h : idxV vs k = some v)
    (hs : subscripted slice false (.ref a) (.int k u) = operate [.ref a, .int k u] (getItem (.ref a) (.int k u))) (hQ : ∀ y, VR ex s.heap v y → Q y s) : wpAny (model prog w) A (subscriptTail value slice (.ref a) (.int k u)) Q E s := by
  have hlen := r.length
  rw [Array.length_toList] at hlen
  cases k with
  | ofNat j =>
    have h : nth vs j = some v := h
    obtain ⟨x, h1, h2⟩ := r.nthL h
    have := nth_lt h
    refine tail_any hl.typeIs slot_tuple_getitem.lookup (PyProof.Rows.getItem_tuple hl (by show -2 ^ 63 ≤ (j : Int); omega) (by show (j : Int) < 2 ^ 63; omega) (j := j) ?_ h1 (hQ x h2)) hs
    unfold seqIndex?
    have e : ¬ (Int.ofNat j < 0) := by show ¬ ((j : Int) < 0); omega
    simp only [e, if_false]
    rw [if_pos (by simp only [Bool.and_eq_true, decide_eq_true_eq]; show 0 ≤ (j : Int) ∧ (j : Int) < _; omega)]
    rfl
  | negSucc j =>
    simp only [idxV] at h
    split at h
    · rename_i hj
      have hj := Nat.le_of_ble_eq_true hj
      obtain ⟨x, h1, h2⟩ := r.nthL h
      refine tail_any hl.typeIs slot_tuple_getitem.lookup (PyProof.Rows.getItem_tuple hl (by omega) (by omega) (j := vs.length - (j + 1)) ?_ h1 (hQ x h2)) hs
      rw [seqIndex_neg (Int.negSucc_lt_zero j) (by omega)]
      congr 1
      omega
    · cases h

theorem ev_idx (ih : EV prog w hW I n) (ok : EnvOK env ks) (ha : AOK A n) (S : ES hW env ex l o s.heap) {e f : PySem.Expr} {x y : X} {p : Pos} (he : TX ks e x) (hf : TX ks f y)
    (h : evIdx I x y l o = some v) (hQ : ∀ y s', Keeps s s' → VR ex s'.heap v y → Q y s') : wpAny (model prog w) A (eval (.Subscript e f p) env) Q E s := by
  unfold evIdx at h
  split at h
  · rename_i a ea
    split at h
    · rename_i j ej
      split at h
      · rename_i vs ev
        split at h
        · rename_i hz
          refine Subscript_ (ih he ok ha S ea fun ya s1 k1 r1 => ih hf ok ha (S.keeps k1) (aInt_some ej) fun yb s2 k2 r2 => ?_)
          cases r2 with
          | int j u =>
            cases r1 with
            | lst hx hi hs =>
              cases ev
              exact item_list (hi.isList.at fun o => kHp k2 _ o) (hs.keep (kHp k2)) (okN_le hz) h (hf.sub _ _) fun y r => hQ y _ (kTr k1 k2) r
            | tup hx hi hs =>
              cases ev
              exact item_tup (hi.keeps (kHp k2)) (hs.keep (kHp k2)) (okN_le hz) h (hf.sub _ _) fun y r => hQ y _ (kTr k1 k2) r
            | none => cases ev
            | bool => cases ev
            | int => cases ev
        · cases h
      · cases h
    · cases h
  · cases h

theorem ev_ow (ih : EV prog w hW I n) (ok : EnvOK env ks) (ha : AOK A n) (S : ES hW env ex l o s.heap) {f : PySem.Expr} {y : X} {i : Nat} {np p : Pos} (hf : TX ks f y)
    (h : evOw I i y l o = some v) (hQ : ∀ y s', Keeps s s' → VR ex s'.heap v y → Q y s') : wpAny (model prog w) A (eval (.Subscript (.Name (nm i) np) f p) env) Q E s := by
  unfold evOw at h
  split at h
  · rename_i u vs
    split at h
    · rename_i hu
      have hu := Nat.eq_of_beq_eq_true hu
      subst hu
      split at h
      · rename_i j ej
        split at h
        · rename_i hz
          obtain ⟨a, items, hn, hi, hs⟩ := S.ow
          refine Subscript_ (name_var ok rfl hn (ih hf ok ha S (aInt_some ej) fun yb s2 k2 r2 => ?_))
          cases r2 with
          | int j u => exact item_list (hi.isList.at fun o => kHp k2 _ o) (hs.keep (kHp k2)) (okN_le hz) h (hf.sub _ _) fun y r => hQ y _ k2 r
        · cases h
      · cases h
    · cases h
  · cases h

theorem ev_upto (ih : EV prog w hW I n) (ok : EnvOK env ks) (ha : AOK A n) (S : ES hW env ex l o s.heap) {f : PySem.Expr} {y : X} {i : Nat} {np sp p : Pos} (hf : TX ks f y)
    (h : evUpto I (.var i) y l o = some v) (hv : ∀ v, I.ev (.var i) l o = some v → lk l i = some v) (hQ : ∀ y s', Keeps s s' → VR ex s'.heap v y → Q y s') : wpAny (model prog w) A (eval (.Subscript (.Name (nm i) np) (.Slice none (some f) none sp) p) env) Q E s := by
  unfold evUpto at h
  split at h
  · rename_i vs ea
    split at h
    · rename_i j ej
      split at h
      · rename_i hz
        split at h
        · rename_i hj
          cases h
          obtain ⟨xa, ra, hn⟩ := S.loc i _ (hv _ (aLst_some ea))
          refine wpAny_Subscript_list_slice (name_var ok rfl hn (wpAny_evalPart_none (wpAny_evalPart_some (ih hf ok ha S (aInt_some ej) fun yb s2 k2 r2 => ?_)))) (fun _ _ => rfl)
          cases r2 with
          | int j u =>
            cases ra with
            | lst hx hi hs =>
              rename_i a items
              have hl := hs.length
              rw [Array.length_toList] at hl
              have := okN_le hz
              refine ⟨a, items, .none, some j, rfl, hi.isList.at fun o => kHp k2 _ o, sz (by omega), .none, .int _ _, hQ _ _ (kPush (kPush k2 _) _) ?_⟩
              have hk : ∀ b o, s.heap.get? b = some o → ((s2.heap.push { cls := .type "slice", data := .fields #[.none, .int j u, .none] }).push { cls := .type "list", data := .seq (slicePick items .none (some j) .none) }).get? b = some o :=
                fun b o e => Heap.get?_push_of_some _ (Heap.get?_push_of_some _ (kHp k2 b o e))
              have e2 : slicePick items .none (some j) .none = (items.toList.take (clampN vs.length j)).toArray := by
                cases j with
                | ofNat j =>
                  have e : slicePick items .none (some (Int.ofNat j)) .none = (items.toList.take j).toArray := slicePick_upto' items j
                  rw [e]
                  show _ = (items.toList.take (Nat.min j vs.length)).toArray
                  rw [← hl, ← Array.length_toList]
                  congr 1
                  rw [show Nat.min j items.toList.length = min j items.toList.length from rfl]
                  by_cases hc : j ≤ items.toList.length
                  · rw [Nat.min_eq_left hc]
                  · rw [Nat.min_eq_right (by omega), List.take_of_length_le (by omega), List.take_of_length_le (Nat.le_refl _)]
                | negSucc j =>
                  have e : Int.negSucc j = -((j + 1 : Nat) : Int) := rfl
                  rw [e, slicePick_butLast items (j + 1) (by omega), hl]
                  rfl
              refine .lst ?_ ⟨0, by
                have := Heap.get?_push_size (s2.heap.push { cls := .type "slice", data := .fields #[.none, .int j u, .none] }) (o := { cls := .type "list", data := .seq (slicePick items .none (some j) .none) }) rfl
                rw [Heap.size_push] at this
                exact this⟩ ?_
              · intro q
                have := fresh_nex S (kPush k2 { cls := .type "slice", data := .fields #[.none, .int j u, .none] })
                rw [show ({ s2 with heap := s2.heap.push { cls := .type "slice", data := .fields #[.none, .int j u, .none] } } : Shared).heap.objs.size = s2.heap.objs.size + 1 from Heap.size_push ..] at this
                exact this q
              · have e3 : (slicePick items .none (some j) .none).toList = items.toList.take (clampN vs.length j) := by rw [e2]
                rw [e3]
                exact (hs.take _).keep hk
        · cases h
      · cases h
    · cases h
  · cases h

theorem ev_from (ih : EV prog w hW I n) (ok : EnvOK env ks) (ha : AOK A n) (S : ES hW env ex l o s.heap) {f : PySem.Expr} {y : X} {i : Nat} {np sp p : Pos} (hf : TX ks f y)
    (h : evFrom I (.var i) y l o = some v) (hv : ∀ v, I.ev (.var i) l o = some v → lk l i = some v) (hQ : ∀ y s', Keeps s s' → VR ex s'.heap v y → Q y s') : wpAny (model prog w) A (eval (.Subscript (.Name (nm i) np) (.Slice (some f) none none sp) p) env) Q E s := by
  unfold evFrom at h
  split at h
  · rename_i vs ea
    split at h
    · rename_i j ej
      split at h
      · rename_i hz
        split at h
        · rename_i hj
          cases h
          obtain ⟨xa, ra, hn⟩ := S.loc i _ (hv _ (aLst_some ea))
          refine wpAny_Subscript_list_slice (name_var ok rfl hn (wpAny_evalPart_some (ih hf ok ha S (aInt_some ej) fun yb s2 k2 r2 => wpAny_evalPart_none ?_))) (fun _ _ => rfl)
          cases r2 with
          | int j u =>
            cases ra with
            | lst hx hi hs =>
              rename_i a items
              have hl := hs.length
              rw [Array.length_toList] at hl
              have := okN_le hz
              refine ⟨a, items, some j, .none, rfl, hi.isList.at fun o => kHp k2 _ o, sz (by omega), .int _ _, .none, hQ _ _ (kPush (kPush k2 _) _) ?_⟩
              have hk : ∀ b o, s.heap.get? b = some o → ((s2.heap.push { cls := .type "slice", data := .fields #[.int j u, .none, .none] }).push { cls := .type "list", data := .seq (slicePick items (some j) .none .none) }).get? b = some o :=
                fun b o e => Heap.get?_push_of_some _ (Heap.get?_push_of_some _ (kHp k2 b o e))
              have e2 : slicePick items (some j) .none .none = (items.toList.drop (clampN vs.length j)).toArray := by
                cases j with
                | ofNat j =>
                  have e : slicePick items (some (Int.ofNat j)) .none .none = (items.toList.drop j).toArray := slicePick_from' items j
                  rw [e]
                  show _ = (items.toList.drop (Nat.min j vs.length)).toArray
                  rw [← hl, ← Array.length_toList]
                  congr 1
                  rw [show Nat.min j items.toList.length = min j items.toList.length from rfl]
                  by_cases hc : j ≤ items.toList.length
                  · rw [Nat.min_eq_left hc]
                  · rw [Nat.min_eq_right (by omega), List.drop_of_length_le (by omega), List.drop_of_length_le (Nat.le_refl _)]
                | negSucc j =>
                  have e : Int.negSucc j = -((j + 1 : Nat) : Int) := rfl
                  rw [e, slicePick_last items (j + 1) (by omega), hl]
                  rfl
              refine .lst ?_ ⟨0, by
                have := Heap.get?_push_size (s2.heap.push { cls := .type "slice", data := .fields #[.int j u, .none, .none] }) (o := { cls := .type "list", data := .seq (slicePick items (some j) .none .none) }) rfl
                rw [Heap.size_push] at this
                exact this⟩ ?_
              · intro q
                have := fresh_nex S (kPush k2 { cls := .type "slice", data := .fields #[.int j u, .none, .none] })
                rw [show ({ s2 with heap := s2.heap.push { cls := .type "slice", data := .fields #[.int j u, .none, .none] } } : Shared).heap.objs.size = s2.heap.objs.size + 1 from Heap.size_push ..] at this
                exact this q
              · have e3 : (slicePick items (some j) .none .none).toList = items.toList.drop (clampN vs.length j) := by rw [e2]
                rw [e3]
                exact (hs.drop _).keep hk
        · cases h
      · cases h
    · cases h
  · cases h

theorem ev_tup (is : EVS prog w hW I n) (ok : EnvOK env ks) (ha : AOK A n) (S : ES hW env ex l o s.heap) {es : List PySem.Expr} {xs : XL} {k : Nat} {p : Pos} (he : TXL ks es xs)
    (h : evTup I xs l o = some v) (hQ : ∀ y s', Keeps s s' → VR ex s'.heap v y → Q y s') : wpAny (model prog w) A (eval (.Tuple es k p) env) Q E s := by
  unfold evTup at h
  split at h
  · rename_i vs ev
    split at h
    · rename_i hz
      cases h
      refine wpAny_Tuple (is he ok ha S ev fun ys s1 k1 r1 => ⟨sz (by rw [r1.length]; have := okN_le hz; omega), hQ _ _ (kPush k1 _) (.tup (fresh_nex S k1) ⟨_, Heap.get?_push_size _ rfl, rfl, _, rfl⟩ ?_)⟩)
      exact r1.keep fun b o e => Heap.get?_push_of_some _ e
    · cases h
  · cases h
theorem ev_lst (is : EVS prog w hW I n) (ok : EnvOK env ks) (ha : AOK A n) (S : ES hW env ex l o s.heap) {es : List PySem.Expr} {xs : XL} {p : Pos} (he : TXL ks es xs)
    (h : evLst I xs l o = some v) (hQ : ∀ y s', Keeps s s' → VR ex s'.heap v y → Q y s') : wpAny (model prog w) A (eval (.List es p) env) Q E s := by
  unfold evLst at h
  split at h
  · rename_i vs ev
    split at h
    · rename_i hz
      cases h
      refine wpAny_List (is he ok ha S ev fun ys s1 k1 r1 => ⟨sz (by rw [r1.length]; have := okN_le hz; omega), hQ _ _ (kPush k1 _) (.lst (fresh_nex S k1) ⟨_, Heap.get?_push_size _ rfl⟩ ?_)⟩)
      exact r1.keep fun b o e => Heap.get?_push_of_some _ e
    · cases h
  · cases h
end
end Mine

namespace Mine

structure Base (I : R) : Prop where
  var : ∀ i l o v, I.ev (.var i) l o = some v → lk l i = some v
  andN : ∀ l o b, I.eand .nil l o = some b → b = true
  orN : ∀ l o b, I.eor .nil l o = some b → b = false
  evN : ∀ l o vs, I.evs .nil l o = some vs → vs = []
  relB : ∀ l o r, I.exo .rel l o = some r → ∃ v vs, o = some (v, vs) ∧ r = (.next, pt l v (.lst vs), .none)

section
variable {prog : Program} {w : World} {hW : Heap} {mg mb : Str → Option Value} {fn : Nat → Option (List Nat × SL)} {I : R} {n : Nat} {env : Env} {ks : KS} {A : Around} {s : Shared} {l : Loc} {o : Ow} {ex : Addr → Prop} {E : Value → Shared → Prop} {v : AV} {Q : Value → Shared → Prop}

theorem evs_step (ih : EV prog w hW I n) (is : EVS prog w hW I n) (ok : EnvOK env ks) (ha : AOK A n) (S : ES hW env ex l o s.heap) {es : List PySem.Expr} {xs : XL} {vs : List AV} {p : Pos} {Q : List Value → Shared → Prop}
    (he : TXL ks es xs) (h : evXs I xs l o = some vs) (hQ : ∀ ys s', Keeps s s' → VRs ex s'.heap vs ys → Q ys s') : wpAny (model prog w) A (spliced (backTo p (starEach es env))) Q E s := by
  cases he with
  | nil =>
    cases h
    exact wpAny_items_nil (hQ _ _ (kRfl s) .nil)
  | cons hx hxs =>
    simp only [evXs] at h
    split at h
    · rename_i u eu
      split at h
      · rename_i us eus
        cases h
        exact wpAny_items_cons (ih hx ok ha S eu fun y s1 k1 r1 => is hxs ok ha (S.keeps k1) eus fun ys s2 k2 r2 => hQ _ _ (kTr k1 k2) (.cons (r1.keep (kHp k2)) r2)) (hx.star _ _)
      · cases h
    · cases h

theorem andt_step (it : TST prog w hW I n) (ia : ANDT prog w hW I n) (ok : EnvOK env ks) (ha : AOK A n) (S : ES hW env ex l o s.heap) {es : List PySem.Expr} {xs : XL} {b : Bool} {Q : Bool → Shared → Prop}
    (he : TXL ks es xs) (h : evAnd I xs l o = some b) (hQ : ∀ s', Keeps s s' → Q b s') : wpAny (model prog w) A (allTrue .And es env) Q E s := by
  cases he with
  | nil =>
    cases h
    exact wpAny_allTrue_And_nil (hQ _ (kRfl s))
  | cons hx hxs =>
    simp only [evAnd] at h
    split at h
    · rename_i eu
      exact wpAny_allTrue_And_cons (it hx ok ha S eu fun s1 k1 => ia hxs ok ha (S.keeps k1) h fun s2 k2 => hQ _ (kTr k1 k2))
    · rename_i eu
      cases h
      exact wpAny_allTrue_And_cons (it hx ok ha S eu fun s1 k1 => hQ _ k1)
    · cases h
theorem ort_step (it : TST prog w hW I n) (ia : ORT prog w hW I n) (ok : EnvOK env ks) (ha : AOK A n) (S : ES hW env ex l o s.heap) {es : List PySem.Expr} {xs : XL} {b : Bool} {Q : Bool → Shared → Prop}
    (he : TXL ks es xs) (h : evOr I xs l o = some b) (hQ : ∀ s', Keeps s s' → Q b s') : wpAny (model prog w) A (allTrue .Or es env) Q E s := by
  cases he with
  | nil =>
    cases h
    exact wpAny_allTrue_Or_nil (hQ _ (kRfl s))
  | cons hx hxs =>
    simp only [evOr] at h
    split at h
    · rename_i eu
      exact wpAny_allTrue_Or_cons (it hx ok ha S eu fun s1 k1 => ia hxs ok ha (S.keeps k1) h fun s2 k2 => hQ _ (kTr k1 k2))
    · rename_i eu
      cases h
      exact wpAny_allTrue_Or_cons (it hx ok ha S eu fun s1 k1 => hQ _ k1)
    · cases h

theorem andv_step (B : Base I) (ih : EV prog w hW I n) (ia : ANDV prog w hW I n) (ok : EnvOK env ks) (ha : AOK A n) (S : ES hW env ex l o s.heap) {e : PySem.Expr} {es : List PySem.Expr} {xs : XL} {b : Bool} {p : Pos}
    (he : TXL ks (e :: es) xs) (h : evAnd I xs l o = some b) (hQ : ∀ s', Keeps s s' → Q (.bool b) s') : wpAny (model prog w) A (boolOp p .And (evalEach (e :: es) env)) Q E s := by
  cases he with
  | cons hx hxs =>
    simp only [evAnd] at h
    cases hxs with
    | nil =>
      show wpAny _ A (eval e env) Q E s
      split at h
      · rename_i eu
        refine ih hx ok ha S (aBool_some eu) fun y s1 k1 r1 => ?_
        cases r1
        rw [B.andN _ _ _ h] at hQ
        exact hQ _ k1
      · rename_i eu
        cases h
        refine ih hx ok ha S (aBool_some eu) fun y s1 k1 r1 => ?_
        cases r1
        exact hQ _ k1
      · cases h
    | cons hy hys =>
      rename_i f f' fs fs'
      show wpAny _ A (do let v ← eval e env; standAt p; let t ← holding [v] (truthy v); match BoolOp.And, t with | .And, false | .Or, true => pure v | _, _ => boolOp p .And (evalEach (f :: fs) env)) Q E s
      split at h
      · rename_i eu
        refine wpAny_bind (ih hx ok ha S (aBool_some eu) fun y s1 k1 r1 => ?_)
        cases r1
        exact wpAny_bind (wpAny_standAt (wpAny_bind (wpAny_holding (wpAny_truthy_bool (ia (.cons hy hys) ok ha (S.keeps k1) h fun s2 k2 => hQ _ (kTr k1 k2))))))
      · rename_i eu
        cases h
        refine wpAny_bind (ih hx ok ha S (aBool_some eu) fun y s1 k1 r1 => ?_)
        cases r1
        exact wpAny_bind (wpAny_standAt (wpAny_bind (wpAny_holding (wpAny_truthy_bool (wpAny_pure (hQ _ k1))))))
      · cases h
theorem orv_step (B : Base I) (ih : EV prog w hW I n) (ia : ORV prog w hW I n) (ok : EnvOK env ks) (ha : AOK A n) (S : ES hW env ex l o s.heap) {e : PySem.Expr} {es : List PySem.Expr} {xs : XL} {b : Bool} {p : Pos}
    (he : TXL ks (e :: es) xs) (h : evOr I xs l o = some b) (hQ : ∀ s', Keeps s s' → Q (.bool b) s') : wpAny (model prog w) A (boolOp p .Or (evalEach (e :: es) env)) Q E s := by
  cases he with
  | cons hx hxs =>
    simp only [evOr] at h
    cases hxs with
    | nil =>
      show wpAny _ A (eval e env) Q E s
      split at h
      · rename_i eu
        refine ih hx ok ha S (aBool_some eu) fun y s1 k1 r1 => ?_
        cases r1
        rw [B.orN _ _ _ h] at hQ
        exact hQ _ k1
      · rename_i eu
        cases h
        refine ih hx ok ha S (aBool_some eu) fun y s1 k1 r1 => ?_
        cases r1
        exact hQ _ k1
      · cases h
    | cons hy hys =>
      rename_i f f' fs fs'
      show wpAny _ A (do let v ← eval e env; standAt p; let t ← holding [v] (truthy v); match BoolOp.Or, t with | .And, false | .Or, true => pure v | _, _ => boolOp p .Or (evalEach (f :: fs) env)) Q E s
      split at h
      · rename_i eu
        refine wpAny_bind (ih hx ok ha S (aBool_some eu) fun y s1 k1 r1 => ?_)
        cases r1
        exact wpAny_bind (wpAny_standAt (wpAny_bind (wpAny_holding (wpAny_truthy_bool (ia (.cons hy hys) ok ha (S.keeps k1) h fun s2 k2 => hQ _ (kTr k1 k2))))))
      · rename_i eu
        cases h
        refine wpAny_bind (ih hx ok ha S (aBool_some eu) fun y s1 k1 r1 => ?_)
        cases r1
        exact wpAny_bind (wpAny_standAt (wpAny_bind (wpAny_holding (wpAny_truthy_bool (wpAny_pure (hQ _ k1))))))
      · cases h

theorem ev_conj (ia : ANDV prog w hW I n) (ok : EnvOK env ks) (ha : AOK A n) (S : ES hW env ex l o s.heap) {e : PySem.Expr} {es : List PySem.Expr} {xs : XL} {p : Pos}
    (he : TXL ks (e :: es) xs) (h : (I.eand xs l o).map AV.bool = some v) (hQ : ∀ y s', Keeps s s' → VR ex s'.heap v y → Q y s') : wpAny (model prog w) A (eval (.BoolOp .And (e :: es) p) env) Q E s := by
  rw [Option.map_eq_some_iff] at h
  obtain ⟨b, h, rfl⟩ := h
  show wpAny _ A (boolOp p .And (evalEach (e :: es) env)) Q E s
  exact ia he ok ha S h fun s1 k1 => hQ _ _ k1 (.bool b)
theorem ev_disj (ia : ORV prog w hW I n) (ok : EnvOK env ks) (ha : AOK A n) (S : ES hW env ex l o s.heap) {e : PySem.Expr} {es : List PySem.Expr} {xs : XL} {p : Pos}
    (he : TXL ks (e :: es) xs) (h : (I.eor xs l o).map AV.bool = some v) (hQ : ∀ y s', Keeps s s' → VR ex s'.heap v y → Q y s') : wpAny (model prog w) A (eval (.BoolOp .Or (e :: es) p) env) Q E s := by
  rw [Option.map_eq_some_iff] at h
  obtain ⟨b, h, rfl⟩ := h
  show wpAny _ A (boolOp p .Or (evalEach (e :: es) env)) Q E s
  exact ia he ok ha S h fun s1 k1 => hQ _ _ k1 (.bool b)
theorem aB_map {a : Option Bool} {b : Bool} (h : aBool (a.map AV.bool) = some b) : a = some b := by
  cases a with
  | none => cases h
  | some c => cases h; rfl
theorem tst_conj (ia : ANDT prog w hW I n) (ok : EnvOK env ks) (ha : AOK A n) (S : ES hW env ex l o s.heap) {es : List PySem.Expr} {xs : XL} {p : Pos} {b : Bool} {whole : Sem Value} {Q : Bool → Shared → Prop}
    (he : TXL ks es xs) (h : aBool ((I.eand xs l o).map AV.bool) = some b) (hQ : ∀ s', Keeps s s' → Q b s') : wpAny (model prog w) A (isTrue (.BoolOp .And es p) env whole) Q E s :=
  wpAny_isTrue_BoolOp (ia he ok ha S (aB_map h) hQ)
theorem tst_disj (ia : ORT prog w hW I n) (ok : EnvOK env ks) (ha : AOK A n) (S : ES hW env ex l o s.heap) {es : List PySem.Expr} {xs : XL} {p : Pos} {b : Bool} {whole : Sem Value} {Q : Bool → Shared → Prop}
    (he : TXL ks es xs) (h : aBool ((I.eor xs l o).map AV.bool) = some b) (hQ : ∀ s', Keeps s s' → Q b s') : wpAny (model prog w) A (isTrue (.BoolOp .Or es p) env whole) Q E s :=
  wpAny_isTrue_BoolOp (ia he ok ha S (aB_map h) hQ)
theorem ev_not (ih : EV prog w hW I n) (ok : EnvOK env ks) (ha : AOK A n) (S : ES hW env ex l o s.heap) {e : PySem.Expr} {x : X} {p : Pos}
    (he : TX ks e x) (h : ((aBool (I.ev x l o)).map fun i => AV.bool (!i)) = some v) (hQ : ∀ y s', Keeps s s' → VR ex s'.heap v y → Q y s') : wpAny (model prog w) A (eval (.UnaryOp .Not e p) env) Q E s := by
  rw [Option.map_eq_some_iff] at h
  obtain ⟨b, h, rfl⟩ := h
  refine wpAny_UnaryOp (ih he ok ha S (aBool_some h) fun y s1 k1 r1 => ?_)
  cases r1
  exact not_value (wpAny_truthy_bool (hQ _ _ k1 (.bool _)))
theorem tst_not (it : TST prog w hW I n) (ok : EnvOK env ks) (ha : AOK A n) (S : ES hW env ex l o s.heap) {e : PySem.Expr} {x : X} {p : Pos} {b : Bool} {whole : Sem Value} {Q : Bool → Shared → Prop}
    (he : TX ks e x) (h : aBool ((aBool (I.ev x l o)).map fun i => AV.bool (!i)) = some b) (hQ : ∀ s', Keeps s s' → Q b s') : wpAny (model prog w) A (isTrue (.UnaryOp .Not e p) env whole) Q E s := by
  have h := aBool_some h
  rw [Option.map_eq_some_iff] at h
  obtain ⟨c, h1, hc⟩ := h
  cases hc
  exact wpAny_isTrue_Not (it he ok ha S h1 fun s1 k1 => hQ _ k1)
end
end Mine

namespace Mine

mutual
theorem VR.strong {ex ex' : Addr → Prop} {h : Heap} (hx : ∀ b, ex' b → ex b ∨ h.get? b = none) : ∀ {v : AV} {x : Value}, VR ex h v x → VR ex' h v x
  | _, _, .none => .none
  | _, _, .bool b => .bool b
  | _, _, .int i t => .int i t
  | _, _, .tup ha hi hs => by
    refine .tup (fun q => ?_) hi (VRs.strong hx hs)
    rcases hx _ q with e | e
    · exact ha e
    · obtain ⟨o, ho, _⟩ := hi
      rw [e] at ho; cases ho
  | _, _, .lst ha hi hs => by
    refine .lst (fun q => ?_) hi (VRs.strong hx hs)
    rcases hx _ q with e | e
    · exact ha e
    · obtain ⟨o, ho⟩ := hi
      rw [e] at ho; cases ho
theorem VRs.strong {ex ex' : Addr → Prop} {h : Heap} (hx : ∀ b, ex' b → ex b ∨ h.get? b = none) : ∀ {v : List AV} {x : List Value}, VRs ex h v x → VRs ex' h v x
  | _, _, .nil => .nil
  | _, _, .cons a b => .cons (VR.strong hx a) (VRs.strong hx b)
end

theorem ksSame {ex : Addr → Prop} {a : Addr} {h h' : Heap} (hs : Heap.ExtBut a h h') (hn : ex a ∨ ∀ o, h.get? a = some o → ¬ ∃ xs n, o.data = .seq xs n) : KeepSeq ex h h' := by
  intro b o hb hd e
  refine hs b o ?_ e
  rintro rfl
  rcases hn with q | q
  · exact hb q
  · exact q o e hd
theorem ns_nseq {h : Heap} {a : Addr} {m} (hn : h.Ns a m) : ∀ o, h.get? a = some o → ¬ ∃ xs n, o.data = .seq xs n := by
  obtain ⟨o, es, ep, ho, hd, _⟩ := hn
  rintro o' e ⟨xs, n, hs⟩
  rw [ho] at e
  cases e
  rw [hd] at hs; cases hs
theorem cell_nseq {h : Heap} {a : Addr} {v} (hn : h.IsCell a v) : ∀ o, h.get? a = some o → ¬ ∃ xs n, o.data = .seq xs n := by
  obtain ⟨o, ho, hd⟩ := hn
  rintro o' e ⟨xs, n, hs⟩
  rw [ho] at e
  cases e
  rw [hd] at hs; cases hs
theorem KeepSeq.trans {ex : Addr → Prop} {h h' h'' : Heap} (a : KeepSeq ex h h') (b : KeepSeq ex h' h'') : KeepSeq ex h h'' := fun c o hc hd e => b c o hc hd (a c o hc hd e)
theorem KeepSeq.of {ex : Addr → Prop} {h h' : Heap} (hk : ∀ b o, h.get? b = some o → h'.get? b = some o) : KeepSeq ex h h' := fun b o _ _ e => hk b o e

noncomputable def IterAt (ex : Addr → Prop) (h : Heap) (I : Addr) (rest : List AV) : Prop :=
  (∃ x n : Nat, IsRangeIter h I x n 1 ∧ rest = upFrom x n) ∨
  (∃ l i items, h.IsListIter I l i ∧ ¬ ex l ∧ h.IsList l items ∧ VRs ex h rest (items.toList.drop i))
theorem IterAt.nseq {ex : Addr → Prop} {h : Heap} {I : Addr} {rest : List AV} (r : IterAt ex h I rest) : ∀ o, h.get? I = some o → ¬ ∃ xs n, o.data = .seq xs n := by
  rintro o' e ⟨xs, n, hs⟩
  rcases r with ⟨x, n, r, _⟩ | ⟨l, i, items, ⟨o, ho, _, hd⟩, _⟩
  · rw [r] at e; cases e; cases hs
  · rw [ho] at e; cases e; rw [hd] at hs; cases hs
theorem IterAt.mono {ex ex' : Addr → Prop} {h h' : Heap} {I : Addr} {rest : List AV} (r : IterAt ex h I rest) (hk : KeepSeq ex h h') (hI : ∀ o, h.get? I = some o → h'.get? I = some o) (hx : ∀ b, ex' b → ex b) : IterAt ex' h' I rest := by
  rcases r with ⟨x, n, r, e⟩ | ⟨l, i, items, ⟨o, ho, hc, hd⟩, hl, hi, hs⟩
  · exact .inl ⟨x, n, hI _ r, e⟩
  · refine .inr ⟨l, i, items, ⟨o, hI _ ho, hc, hd⟩, fun q => hl (hx _ q), ?_, hs.mono hk hx⟩
    obtain ⟨ol, hol, hcl, nl, hdl⟩ := hi
    exact ⟨ol, hk _ _ hl ⟨_, nl, hdl⟩ hol, hcl, nl, hdl⟩
theorem IterAt.strong {ex ex' : Addr → Prop} {h : Heap} {I : Addr} {rest : List AV} (r : IterAt ex h I rest) (hx : ∀ b, ex' b → ex b ∨ h.get? b = none) : IterAt ex' h I rest := by
  rcases r with ⟨x, n, r, e⟩ | ⟨l, i, items, hit, hl, hi, hs⟩
  · exact .inl ⟨x, n, r, e⟩
  · refine .inr ⟨l, i, items, hit, fun q => ?_, hi, hs.strong hx⟩
    rcases hx _ q with e | e
    · exact hl e
    · obtain ⟨o, ho, _⟩ := hi
      rw [e] at ho; cases ho

section
variable {prog : Program} {w : World} {hW : Heap} {mg mb : Str → Option Value} {fn : Nat → Option (List Nat × SL)} {I : R} {n : Nat} {env : Env} {ks : KS} {A : Around} {s : Shared} {l : Loc} {o : Ow} {ex : Addr → Prop} {E : Value → Shared → Prop} {v : AV} {Q : Value → Shared → Prop}

theorem iter_item {a : Addr} {rest : List AV} {Q : Option Value → Shared → Prop} (hI : IterAt ex s.heap a (v :: rest))
    (hQ : ∀ y h' tk, IterAt ex h' a rest → VR ex h' v y → Heap.SameBut a s.heap h' → Q (some y) { s with heap := h', toks := tk }) : wpAny (model prog w) A (pyNext (.ref a)) Q E s := by
  have hns := hI.nseq
  rcases hI with ⟨x, n, r, e⟩ | ⟨l, i, items, hit, hl, hi, hs⟩
  · cases n with
    | zero => cases e
    | succ n =>
      cases e
      refine wpAny_pyNext_range_item r (by omega) fun h' r' hs => hQ _ _ _ (.inl ⟨x + 1, n, ?_, rfl⟩) (.int _ _) hs
      have e1 : ((x + 1 : Nat) : Int) = (x : Int) + 1 := by omega
      have e2 : ((n : Nat) : Int) = ((n + 1 : Nat) : Int) - 1 := by omega
      rw [e1, e2]
      exact r'
  · generalize hd : items.toList.drop i = ds at hs
    cases hs with
    | cons hv hr =>
      rename_i y ys
      have hy : items[i]? = some y := by
        rw [← Array.getElem?_toList]
        have := congrArg (fun l => l[0]?) hd
        simpa using this
      have hd' : items.toList.drop (i + 1) = ys := by
        have := congrArg (fun l => l.drop 1) hd
        simpa using this
      refine wpAny_pyNext_list_item hit hi hy fun h' hit' hsb => ?_
      have k : KeepSeq ex s.heap h' := ksSame hsb.extBut (.inr hns)
      have hla : l ≠ a := by
        rintro rfl
        obtain ⟨o, ho, hc, _⟩ := hit
        obtain ⟨o', ho', hc', _⟩ := hi
        rw [ho] at ho'; cases ho'
        rw [hc] at hc'; exact absurd hc' (by decide)
      refine hQ y h' s.toks (.inr ⟨l, i + 1, items, hit', hl, hi.extBut hsb.extBut hla, ?_⟩) (hv.mono k fun _ q => q) hsb
      rw [hd']
      exact hr.mono k fun _ q => q
theorem iter_end {a : Addr} {Q : Option Value → Shared → Prop} (hh : A.handled = none) (hI : IterAt ex s.heap a [])
    (hQ : ∀ h', Heap.ExtBut a s.heap h' → Q none { s with heap := h' }) : wpAny (model prog w) A (pyNext (.ref a)) Q E s := by
  rcases hI with ⟨x, n, r, e⟩ | ⟨l, i, items, hit, hl, hi, hs⟩
  · cases n with
    | zero => exact wpAny_pyNext_range_end hh r (by omega) hQ
    | succ n => cases e
  · refine wpAny_pyNext_list_end hh hit hi ?_ hQ
    generalize hd : items.toList.drop i = ds at hs
    cases hs
    rw [← Array.getElem?_toList]
    have := congrArg (fun l => l[0]?) hd
    simpa using this
theorem iter_again {a : Addr} {rest : List AV} (hI : IterAt ex s.heap a rest) (hQ : Q (.ref a) s) : wpAny (model prog w) A (pyIter (.ref a)) Q E s := by
  rcases hI with ⟨x, n, r, e⟩ | ⟨l, i, items, hit, hl, hi, hs⟩
  · exact wpAny_pyIter_rangeiter r hQ
  · exact wpAny_pyIter_listiter hit hQ

theorem iter_make {K : Value → Shared → Prop} (W : WF hW mg mb fn) (ih : EV prog w hW I n) (ok : EnvOK env ks) (ha : AOK A n) (S : ES hW env ex l o s.heap) {it : PySem.Expr} {x : X} {r : Bool} {a : AV} {ws : List AV} (he : TXI ks it r x)
    (h : I.ev x l o = some a) (hi : iterV r a = some ws) (hK : ∀ c s', Keeps s s' → s.heap.get? c = none → ¬ ex c → IterAt ex s'.heap c ws → K (.ref c) s') :
    wpAny (model prog w) A (eval it env) (fun xv s1 => wpAny (model prog w) A (pyIter xv) K E s1) E s := by
  have hnone : ∀ {s1 : Shared}, Keeps s s1 → s.heap.get? s1.heap.objs.size = none := fun {s1} k => by
    cases e : s.heap.get? s1.heap.objs.size with
    | none => rfl
    | some o => exact absurd (Heap.lt_size (kHp k _ _ e)) (Nat.lt_irrefl _)
  cases he with
  | rng hx hk he =>
    subst hx
    simp only [iterV] at hi
    split at hi
    · rename_i m
      split at hi
      · rename_i hz
        split at hi
        · rename_i hm
          cases hi
          refine call_ty1 W ok S he (T := "range") (by simp [biL]) (by decide) hk (one_item ih ok ha S he h fun y s1 k1 r1 => ?_)
          cases r1 with
          | int m t =>
            have := okI_le hm
            refine call_range_1 ?_
            refine wpAny_pyIter_range (IsRange.new ..) (small_one (by decide) (by decide) (by omega) (by omega)) ?_
            have k2 : Keeps s { s1 with heap := s1.heap.push { cls := .type "range", data := .fields #[.int 0 s1.toks, .int m t, .int 1 (s1.toks + 1)] }, toks := s1.toks + 1 + 1 } := kTk (kPush k1 _)
            refine hK _ _ (kPush k2 _) (hnone k2) (fresh_nex S k2) (.inl ⟨0, m.toNat, ?_, rfl⟩)
            have hsz : Builtin.Range.rangeSize 0 m 1 = (m.toNat : Int) := by rw [rangeSize_one]; split <;> omega
            rw [hsz]
            exact Heap.get?_push_size _ rfl
        · cases hi
      · cases hi
    · cases hi
  | lst he =>
    simp only [iterV] at hi
    split at hi
    · rename_i vs
      split at hi
      · rename_i hz
        cases hi
        refine ih he ok ha S h fun y s1 k1 r1 => ?_
        cases r1 with
        | lst hx hi hs =>
          refine wpAny_pyIter_list hi.isList (hK _ _ (kPush k1 _) (hnone k1) (fresh_nex S k1) (.inr ⟨_, 0, _, ⟨_, Heap.get?_push_size _ rfl, rfl, rfl⟩, hx, hi.isList.push _, ?_⟩))
          rw [List.drop_zero]
          exact hs.keep fun b o e => Heap.get?_push_of_some _ e
      · cases hi
    · cases hi
end
end Mine

namespace Mine

theorem closure_go {env : Env} : ∀ (names : List (Str × NameKind)) (acc : List (Str × Addr)), (∀ x c, (x, c) ∈ acc → env.cells.lookup x = some c) → (∀ x ∈ names, x.2 = .free → ∃ c, env.cells.lookup x.1 = some c) →
    ∃ cl, (forIn names acc (fun (x : Str × NameKind) (cs : List (Str × Addr)) => (if x.2 == NameKind.free then (cellOf env x.1 >>= fun a => pure (ForInStep.yield ((x.1, a) :: cs))) else pure (ForInStep.yield cs)) ) : Sem (List (Str × Addr))) = pure cl ∧
      (∀ x c, (x, c) ∈ cl → env.cells.lookup x = some c) ∧ (∀ x ∈ names, x.2 = .free → ∃ c, (x.1, c) ∈ cl) ∧ ∀ y ∈ acc, y ∈ cl
  | [], acc, ha, _ => ⟨acc, by rw [List.forIn_nil], ha, fun x hx => (by cases hx), fun y hy => hy⟩
  | (x, k) :: r, acc, ha, hf => by
    have hr : ∀ y ∈ r, y.2 = .free → ∃ c, env.cells.lookup y.1 = some c := fun y hy => hf y (List.mem_cons_of_mem _ hy)
    rw [List.forIn_cons]
    by_cases hk : k = .free
    · subst hk
      obtain ⟨c, hc⟩ := hf (x, .free) List.mem_cons_self rfl
      obtain ⟨cl, h1, h2, h3, h4⟩ := closure_go r ((x, c) :: acc) (fun y d hm => by
        rcases List.mem_cons.mp hm with e | hm
        · cases e; exact hc
        · exact ha y d hm) hr
      refine ⟨cl, ?_, h2, fun y hy he => ?_, fun y hy => h4 y (List.mem_cons_of_mem _ hy)⟩
      · simp only [beq_self_eq_true, if_true, cellOf]
        rw [show env.cells.lookup x = some c from hc]
        simp only [pure_bind]
        exact h1
      · rcases List.mem_cons.mp hy with e | hy
        · subst e; exact ⟨c, h4 _ List.mem_cons_self⟩
        · exact h3 y hy he
    · obtain ⟨cl, h1, h2, h3, h4⟩ := closure_go r acc ha hr
      refine ⟨cl, ?_, h2, fun y hy he => ?_, h4⟩
      · have : (k == NameKind.free) = false := by simpa using hk
        simp only [this, Bool.false_eq_true, if_false, pure_bind]
        exact h1
      · rcases List.mem_cons.mp hy with e | hy
        · subst e; exact absurd he hk
        · exact h3 y hy he
theorem closure_ok {sc : Scope} {env : Env} (h : ∀ x ∈ sc.names, x.2 = .free → ∃ c, env.cells.lookup x.1 = some c) :
    ∃ cl, closureFor sc env = pure cl ∧ (∀ x c, (x, c) ∈ cl → env.cells.lookup x = some c) ∧ ∀ x ∈ sc.names, x.2 = .free → ∃ c, (x.1, c) ∈ cl := by
  obtain ⟨cl, h1, h2, h3, _⟩ := closure_go sc.names [] (fun x c hm => by cases hm) h
  refine ⟨cl, ?_, h2, h3⟩
  rw [← h1]
  simp only [closureFor, bind_pure_comp, bind_pure]

theorem cf_append : ∀ (names : List (Str × NameKind)) (n : Nat) (acc : List (Str × Addr)), cellsFrom n names acc = cellsFrom n names [] ++ acc
  | [], n, acc => rfl
  | (x, k) :: r, n, acc => by
    unfold cellsFrom
    split
    · rw [cf_append r (n + 1) ((x, n) :: acc), cf_append r (n + 1) [(x, n)]]
      simp
    · exact cf_append r n acc
theorem cf_mem : ∀ (names : List (Str × NameKind)) (n : Nat) (acc : List (Str × Addr)) (x : Str) (c : Addr), (x, c) ∈ cellsFrom n names acc → (x, c) ∈ acc ∨ (x, NameKind.cell) ∈ names
  | [], n, acc, x, c, h => .inl h
  | (y, k) :: r, n, acc, x, c, h => by
    unfold cellsFrom at h
    split at h
    · rename_i hk
      rcases cf_mem r _ _ x c h with h | h
      · rcases List.mem_cons.mp h with e | h
        · cases e
          exact .inr (by rw [beq_iff_eq.mp hk]; exact List.mem_cons_self)
        · exact .inl h
      · exact .inr (List.mem_cons_of_mem _ h)
    · rcases cf_mem r _ _ x c h with h | h
      · exact .inl h
      · exact .inr (List.mem_cons_of_mem _ h)
theorem cf_has : ∀ (names : List (Str × NameKind)) (n : Nat) (acc : List (Str × Addr)) (x : Str), (x, NameKind.cell) ∈ names → ∃ c, (x, c) ∈ cellsFrom n names acc
  | [], n, acc, x, h => by cases h
  | (y, k) :: r, n, acc, x, h => by
    unfold cellsFrom
    split
    · rcases List.mem_cons.mp h with e | h
      · cases e
        exact ⟨n, by rw [cf_append]; simp⟩
      · exact cf_has r _ _ x h
    · rename_i hk
      rcases List.mem_cons.mp h with e | h
      · cases e
        exact absurd rfl hk
      · exact cf_has r _ _ x h
theorem lookup_has : ∀ {l : List (Str × Addr)} {x : Str} {c : Addr}, (x, c) ∈ l → ∃ d, l.lookup x = some d
  | (y, e) :: r, x, c, h => by
    rw [List.lookup_cons]
    cases hb : x == y with
    | true => exact ⟨e, rfl⟩
    | false =>
      rcases List.mem_cons.mp h with q | h
      · cases q; simp at hb
      · exact lookup_has h
theorem lookup_no {l : List (Str × Addr)} {x : Str} (h : ∀ c, (x, c) ∉ l) : l.lookup x = none := by
  cases e : l.lookup x with
  | none => rfl
  | some c => exact absurd (mem_of_lookup e) (h c)
theorem lookup_app (l r : List (Str × Addr)) (x : Str) : (l ++ r).lookup x = (l.lookup x).or (r.lookup x) := by
  induction l with
  | nil => simp
  | cons y l ih =>
    obtain ⟨y, c⟩ := y
    rw [List.cons_append, List.lookup_cons, List.lookup_cons]
    cases hb : x == y with
    | true => simp
    | false => exact ih

theorem relabel_lookup {env : Env} : ∀ {names : List (Str × NameKind)} {x : Str},
    (names.map fun (n, k) => if (k == NameKind.free && env.scope.kind == .function && env.kindOf n == some .cell) then (n, NameKind.cell) else (n, k)).lookup x = names.lookup x ∨
    (names.lookup x = some .free ∧ (names.map fun (n, k) => if (k == NameKind.free && env.scope.kind == .function && env.kindOf n == some .cell) then (n, NameKind.cell) else (n, k)).lookup x = some .cell)
  | [], x => .inl rfl
  | (n, k) :: r, x => by
    have ih := @relabel_lookup env r x
    show List.lookup x ((if (k == NameKind.free && env.scope.kind == .function && env.kindOf n == some .cell) = true then (n, NameKind.cell) else (n, k)) :: _) = _ ∨ (_ ∧ List.lookup x ((if (k == NameKind.free && env.scope.kind == .function && env.kindOf n == some .cell) = true then (n, NameKind.cell) else (n, k)) :: _) = _)
    by_cases hc : (k == NameKind.free && env.scope.kind == .function && env.kindOf n == some .cell) = true
    · rw [if_pos hc]
      simp only [List.lookup_cons]
      cases hx : x == n with
      | true =>
        simp only [Bool.and_eq_true, beq_iff_eq] at hc
        right
        exact ⟨by rw [hc.1.1], rfl⟩
      | false => exact ih
    · rw [if_neg hc]
      simp only [List.lookup_cons]
      cases hx : x == n with
      | true => exact .inl rfl
      | false => exact ih

/-- the comprehension's own environment -/
theorem comp_env {env : Env} {ks : KS} {sc : Scope} {i : Nat} {cs : List Nat} (ok : EnvOK env ks) (hc : CompOK ks sc i cs) :
    ∃ cl, closureFor sc env = pure cl ∧ ∀ C : Nat, EnvOK (compEnvC sc (cellsFrom (C + 1) sc.names cl) C env) (kindFn sc) ∧
      (∀ j ∈ cs, ∃ c, env.cells.lookup (nm j) = some c ∧ (compEnvC sc (cellsFrom (C + 1) sc.names cl) C env).cells.lookup (nm j) = some c) ∧
      (sc.names.lookup (nm i) = some .cell → ∃ c, (nm i, c) ∈ cellsFrom (C + 1) sc.names [] ∧ (compEnvC sc (cellsFrom (C + 1) sc.names cl) C env).cells.lookup (nm i) = some c) := by
  obtain ⟨cl, h1, h2, h3⟩ := closure_ok (sc := sc) (env := env) fun x hx he => by
    obtain ⟨j, hj, e⟩ := hc.free x hx he
    rw [e]
    exact ok.cel _ (hc.caps j hj).2
  refine ⟨cl, h1, fun C => ?_⟩
  have key : ∀ x, sc.names.lookup x = some .cell → ∃ c, (x, c) ∈ cellsFrom (C + 1) sc.names [] ∧ (cellsFrom (C + 1) sc.names cl).lookup x = some c := fun x hx => by
    obtain ⟨c, hm⟩ := cf_has sc.names (C + 1) [] x (mem_of_lookup hx)
    obtain ⟨d, hd⟩ := lookup_has hm
    exact ⟨d, mem_of_lookup hd, by rw [cf_append, lookup_app, hd]; rfl⟩
  have key2 : ∀ x, sc.names.lookup x = some .free → ∃ c, env.cells.lookup x = some c ∧ (cellsFrom (C + 1) sc.names cl).lookup x = some c := fun x hx => by
    obtain ⟨c, hm⟩ := h3 _ (mem_of_lookup hx) rfl
    obtain ⟨d, hd⟩ := lookup_has hm
    refine ⟨d, h2 _ _ (mem_of_lookup hd), ?_⟩
    rw [cf_append, lookup_app, lookup_no (l := cellsFrom (C + 1) sc.names []) (x := x) (fun c hm => ?_)]
    · exact hd
    · rcases cf_mem _ _ _ _ _ hm with h | h
      · cases h
      · have := hc.uniq _ h
        rw [hx] at this; cases this
  refine ⟨⟨hc.kind, ok.glob, ok.bi, fun x => relabel_lookup, fun x hx => ?_⟩, fun j hj => ?_, key _⟩
  · rcases hx with hx | hx
    · obtain ⟨c, _, h⟩ := key x hx; exact ⟨c, h⟩
    · obtain ⟨c, _, h⟩ := key2 x hx; exact ⟨c, h⟩
  · obtain ⟨c, h, h'⟩ := key2 _ (hc.caps j hj).1
    exact ⟨c, h, h'⟩

noncomputable def OwnOK (env : Env) (i : Nat) (T : Addr) (h : Heap) : Prop :=
  (env.kindOf (nm i) = some .local ∧ T = env.locals) ∨ (env.kindOf (nm i) = some .cell ∧ env.cells.lookup (nm i) = some T ∧ T ≠ env.locals ∧ ∃ v, h.IsCell T v)
theorem OwnOK.mono {env : Env} {i : Nat} {T : Addr} {h h' : Heap} (r : OwnOK env i T h) (hk : ∀ o, h.get? T = some o → h'.get? T = some o) : OwnOK env i T h' := by
  rcases r with r | ⟨a, b, c, v, o, ho, hd⟩
  · exact .inl r
  · exact .inr ⟨a, b, c, v, o, hk _ ho, hd⟩
theorem OwnOK.nseq {env : Env} {i : Nat} {T : Addr} {h : Heap} {m} (r : OwnOK env i T h) (hn : h.Ns env.locals m) : ∀ o, h.get? T = some o → ¬ ∃ xs n, o.data = .seq xs n := by
  rcases r with ⟨_, r⟩ | ⟨a, b, c, v, r⟩
  · subst r; exact ns_nseq hn
  · exact cell_nseq r

section
variable {M : Model} {A : Around} {E : Value → Shared → Prop} {s : Shared} {env : Env}
theorem own_store {i : Nat} {T : Addr} {m : Str → Option Value} {v : Value} {p : Pos} {Q : Unit → Shared → Prop} (hk : env.scope.kind = .function) (hO : OwnOK env i T s.heap) (hn : s.heap.Ns env.locals m)
    (hQ : ∀ h' m', Heap.SameBut T s.heap h' → NameIs env h' (nm i) v → h'.Ns env.locals m' → OwnOK env i T h' → ∀ tk, Q () { s with heap := h', toks := tk }) : wpAny M A (assign (.Name (nm i) p) env v) Q E s := by
  rcases hO with ⟨hl, rfl⟩ | ⟨hl, hc, hne, v0, hv⟩
  · exact wpAny_assign_Name (wpAny_storeName_local hl hn (fun h' hn' hs => hQ h' _ hs (.inl ⟨hl, _, hn', by simp⟩) hn' (.inl ⟨hl, rfl⟩) _) (by rw [hk]; rfl))
  · exact wpAny_assign_Name (wpAny_storeName_cell hk hl hc hv fun h' hc' hs => hQ h' _ hs (.inr ⟨.inl hl, _, hc, hc'⟩) (hn.sameBut hs (Ne.symm hne)) (.inr ⟨hl, hc, hne, _, hc'⟩) _)
theorem newEnv_around {scope : Scope} {cl : List (Str × Addr)} {Q : Env → Shared → Prop}
    (hQ : Q { scope := scope, locals := s.heap.objs.size, globals := env.globals, cells := cellsFrom (s.heap.objs.size + 1) scope.names cl, qual := env.qual, func := none, code := env.code, frame := env.frame, builtins := env.builtins }
      { s with heap := pushCells (s.heap.push { cls := .type "dict", data := .dict #[] }) scope.names }) :
    wpAny M A (newFunctionEnv scope env.globals cl [] env.qual none .none (some env)) Q E s := by
  simp only [newFunctionEnv, Option.isSome_some, if_true]
  refine wpAny_bind (wpAny_alloc ?_)
  refine wpAny_bind (wpAny_layCells _ (fun name kind cells => by cases hkc : kind == NameKind.cell <;> simp [hkc]) _ _ _ _ ?_)
  rw [show ({ s with heap := s.heap.push { cls := .type "dict", data := .dict #[] } } : Shared).heap.objs.size = s.heap.objs.size + 1 from Heap.size_push ..]
  refine wpAny_bind ?_
  rw [List.forIn_nil]
  exact wpAny_pure (wpAny_pure hQ)
end
end Mine

namespace Mine

theorem TXI.folded {ks : KS} {e : PySem.Expr} {r : Bool} {x : X} (h : TXI ks e r x) (env : Env) (v : Value) : foldedSetIterable e env v = pure v := by
  cases h with
  | rng => rfl
  | lst h => cases h <;> rfl
theorem upFrom_len : ∀ (n j : Nat), (upFrom j n).length = n
  | 0, _ => rfl
  | n + 1, j => by simp [upFrom, upFrom_len n]
theorem iterV_len {r : Bool} {a : AV} {ws : List AV} (h : iterV r a = some ws) : ws.length ≤ 1000 := by
  unfold iterV at h
  split at h
  · split at h
    · split at h
      · rename_i hz
        split at h
        · cases h
          rw [upFrom_len]
          exact okN_le hz
        · cases h
      · cases h
    · cases h
  · split at h
    · split at h
      · rename_i hz
        cases h
        exact okN_le hz
      · cases h
    · cases h
theorem evMap_len {I : R} {e : X} {i : Nat} {l : Loc} : ∀ {ws vs : List AV}, evMap I e i l ws = some vs → vs.length = ws.length
  | [], vs, h => by cases h; rfl
  | w :: ws, vs, h => by
    unfold evMap at h
    split at h
    · split at h
      · rename_i h2
        cases h
        simp [evMap_len h2]
      · cases h
    · cases h
theorem lk_pt : ∀ (l : Loc) (i : Nat) (v : AV) (j : Nat), lk (pt l i v) j = if i = j then some v else lk l j
  | [], i, v, j => by
    unfold pt lk
    cases h : Nat.beq i j with
    | true => rw [if_pos (Nat.eq_of_beq_eq_true h)]
    | false => rw [if_neg (Nat.ne_of_beq_eq_false h)]; rfl
  | p :: l, i, v, j => by
    obtain ⟨k, u⟩ := p
    unfold pt
    cases hk : Nat.beq k i with
    | true =>
      have e := Nat.eq_of_beq_eq_true hk
      subst e
      show lk ((k, v) :: l) j = _
      unfold lk
      cases h : Nat.beq k j with
      | true => rw [if_pos (Nat.eq_of_beq_eq_true h)]
      | false => rw [if_neg (Nat.ne_of_beq_eq_false h)]
    | false =>
      show lk ((k, u) :: pt l i v) j = _
      unfold lk
      cases h : Nat.beq k j with
      | true =>
        have e := Nat.eq_of_beq_eq_true h
        subst e
        rw [if_neg (fun q => Nat.ne_of_beq_eq_false hk q.symm)]
      | false => exact lk_pt l i v j
theorem lk_pick : ∀ (cs : List Nat) (l : Loc) (j : Nat) (v : AV), lk (pick l cs) j = some v → j ∈ cs ∧ lk l j = some v
  | [], l, j, v, h => by cases h
  | i :: is, l, j, v, h => by
    unfold pick at h
    split at h
    · rename_i u hu
      unfold lk at h
      split at h
      · rename_i hb
        have e := Nat.eq_of_beq_eq_true hb
        cases h
        subst e
        exact ⟨List.mem_cons_self, hu⟩
      · have ⟨a, b⟩ := lk_pick is l j v h
        exact ⟨List.mem_cons_of_mem _ a, b⟩
    · have ⟨a, b⟩ := lk_pick is l j v h
      exact ⟨List.mem_cons_of_mem _ a, b⟩

section
variable {prog : Program} {w : World} {hW : Heap} {mg mb : Str → Option Value} {fn : Nat → Option (List Nat × SL)} {I : R} {n : Nat} {env : Env} {ks : KS} {A : Around} {s : Shared} {l : Loc} {o : Ow} {ex : Addr → Prop} {E : Value → Shared → Prop} {v : AV} {Q : Value → Shared → Prop}

theorem comp_loop {P : Result → Shared → Prop} (ih : EV prog w hW I n) {ks : KS} {cenv : Env} (okc : EnvOK cenv ks) (ha : AOK A n) {D T c : Addr} {i : Nat} {px p : Pos} {elt it : PySem.Expr} {elt' : X} {sc : Scope} {lc : Loc} {vs : List AV}
    (helt : TX ks elt elt') (hw : ∀ b o, hW.get? b = some o → s.heap.get? b = some o) (hcap : LocR cenv ex s.heap lc) (hexs : ∀ b, ex b → hW.get? b = none ∧ (b = D ∨ ∃ o, s.heap.get? b = some o)) (hexD : ex D)
    (hD : s.heap.get? D = none) (hC : s.heap.get? cenv.locals = none) (hT : s.heap.get? T = none) (hc : s.heap.get? c = none) (hDC : D ≠ cenv.locals) (hDT : D ≠ T) (hcD : c ≠ D) (hcC : c ≠ cenv.locals) (hcT : c ≠ T) (hlen : vs.length ≤ 1000)
    (hP : ∀ s' items m, Keeps s s' → s'.heap.PlainList D items → VRs ex s'.heap vs items.toList → s'.heap.Ns cenv.locals m → P (.ok .next) s')
    {ws us ds : List AV} {items : Array Value} {m : Str → Option Value} {s₁ : Shared} (k : Keeps s s₁) (hI : IterAt ex s₁.heap c ws) (hl : s₁.heap.PlainList D items) (hs : VRs ex s₁.heap ds items.toList) (hn : s₁.heap.Ns cenv.locals m)
    (hO : OwnOK cenv i T s₁.heap) (hm : evMap I elt' i lc ws = some us) (hds : ds ++ us = vs) :
    codeAny (model prog w) A (.compLoop (.ListComp elt [⟨.Name (nm i) px, it, [], 0⟩] sc p) 0 (.ref c) (.ref D) cenv) P s₁ := by
  refine codeAny_compLoop_list (fun k s' => ∃ ws us ds items m, ws.length = k ∧ Keeps s s' ∧ IterAt ex s'.heap c ws ∧ s'.heap.PlainList D items ∧ VRs ex s'.heap ds items.toList ∧ s'.heap.Ns cenv.locals m ∧ OwnOK cenv i T s'.heap ∧ evMap I elt' i lc ws = some us ∧ ds ++ us = vs)
    ?_ ws.length ⟨ws, us, ds, items, m, rfl, k, hI, hl, hs, hn, hO, hm, hds⟩
  rintro k s' ⟨ws, us, ds, items, m, rfl, k, hI, hl, hs, hn, hO, hm, rfl⟩
  have old : ∀ {a : Addr}, s.heap.get? a = none → ∀ b o, s.heap.get? b = some o → b ≠ a := fun {a} ha b o e q => by rw [q, ha] at e; cases e
  cases ws with
  | nil =>
    cases hm
    refine iter_end ha.hd hI fun h' he => ?_
    have ks := ksSame (ex := ex) he (.inr hI.nseq)
    refine hP _ items m ?_ (hl.extBut he (Ne.symm hcD)) ?_ (hn.extBut he (Ne.symm hcC))
    · obtain ⟨h1, tk, rfl, kk⟩ := k
      exact ⟨h', tk, rfl, fun b o e => he b o (old hc b o e) (kk b o e)⟩
    · rw [List.append_nil]
      exact hs.mono ks fun _ q => q
  | cons wv ws =>
    unfold evMap at hm
    split at hm
    · rename_i u eu
      split at hm
      · rename_i us' eus
        cases hm
        refine iter_item hI fun y h1 tk1 hI1 ry hs1 => ?_
        dsimp only
        have ks1 := ksSame (ex := ex) hs1.extBut (.inr hI.nseq)
        have hn1 := hn.sameBut hs1 (Ne.symm hcC)
        have hO1 : OwnOK cenv i T h1 := hO.mono fun o e => hs1.extBut _ o (Ne.symm hcT) e
        refine own_store okc.kind hO1 hn1 fun h2 m2 hs2 hn2 hm2 hO2 tk2 => ?_
        have ks2 : KeepSeq ex h1 h2 := ksSame hs2.extBut (.inr (hO1.nseq hn1))
        have hk2 : ∀ b o, s.heap.get? b = some o → h2.get? b = some o := fun b o e => hs2.extBut b o (old hT b o e) (hs1.extBut b o (old hc b o e) (kHp k b o e))
        have hl2 : h2.PlainList D items := (hl.extBut hs1.extBut (Ne.symm hcD)).extBut hs2.extBut hDT
        have S2 : ES hW cenv ex (pt lc i wv) .none h2 := by
          refine ⟨fun b o e => hk2 b o (hw b o e), fun j v e => ?_, trivial, fun b q => ?_⟩
          · rw [lk_pt] at e
            split at e
            · rename_i hij
              subst hij
              cases e
              exact ⟨y, ry.mono ks2 fun _ q => q, hn2⟩
            · obtain ⟨x, h3, h4⟩ := hcap j v e
              exact ⟨x, h3.keep hk2, h4.keep hk2⟩
          · obtain ⟨h3, h4⟩ := hexs b q
            refine ⟨h3, ?_⟩
            rcases h4 with rfl | ⟨o, ho⟩
            · obtain ⟨nn, hl2⟩ := hl2
              exact ⟨_, hl2⟩
            · exact ⟨o, hk2 _ _ ho⟩
        refine ih helt okc ha S2 eu fun yv s3 k3 r3 => ?_
        have hl3 : s3.heap.PlainList D items := hl2.at fun o => kHp k3 _ o
        have hit := hs.length
        rw [Array.length_toList] at hit
        refine wpAny_list_append_plain hl3 (fun h4 hl4 hs4 => ?_) (sz (by simp at hlen; omega))
        have ks4 : KeepSeq ex s3.heap h4 := ksSame hs4.extBut (.inl hexD)
        have ks24 : KeepSeq ex h2 h4 := (KeepSeq.of (kHp k3)).trans ks4
        have ks14 : KeepSeq ex h1 h4 := ks2.trans ks24
        refine ⟨ws.length, Nat.lt_succ_self _, ws, us', ds ++ [u], items.push yv, m2, rfl, ?_, ?_, hl4, ?_, ?_, ?_, eus, by simp⟩
        · obtain ⟨h3, tk3, rfl, kk3⟩ := k3
          obtain ⟨h0, tk0, rfl, kk0⟩ := k
          exact ⟨h4, tk3, rfl, fun b o e => hs4.extBut b o (old hD b o e) (kk3 b o (hk2 b o e))⟩
        · exact hI1.mono ks14 (fun o e => hs4.extBut _ o hcD (kHp k3 _ _ (hs2.extBut _ o hcT e))) fun _ q => q
        · rw [Array.toList_push]
          exact (hs.mono (ks1.trans ks14) fun _ q => q).append (.cons (r3.mono ks4 fun _ q => q) .nil)
        · exact (hm2.keeps (kHp k3)).sameBut hs4 (Ne.symm hDC)
        · exact hO2.mono fun o e => hs4.extBut _ o (Ne.symm hDT) (kHp k3 _ _ e)
      · cases hm
    · cases hm
end
end Mine

namespace Mine

section
variable {prog : Program} {w : World} {hW : Heap} {mg mb : Str → Option Value} {fn : Nat → Option (List Nat × SL)} {I : R} {n : Nat} {env : Env} {ks : KS} {A : Around} {s : Shared} {l : Loc} {o : Ow} {ex : Addr → Prop} {E : Value → Shared → Prop} {v : AV} {Q : Value → Shared → Prop}

theorem comp_core (W : WF hW mg mb fn) (ih : EV prog w hW I n) (ok : EnvOK env ks) (ha : AOK A n) (S : ES hW env ex l o s.heap) {elt it : PySem.Expr} {elt' it' : X} {r : Bool} {i : Nat} {cs : List Nat} {sc : Scope} {px p pos : Pos} {vs : List AV} {use : Option (Value → Sem Unit)}
    (hit : TXI ks it r it') (helt : TX (kindFn sc) elt elt') (hc : CompOK ks sc i cs) (h : evComp I r elt' i cs it' l o = some vs)
    (hQ : ∀ D C s' m, D ≠ C → s.heap.get? C = none → s.heap.get? D = none → s'.heap.Ns C m → Keeps s s' → VR ex s'.heap (.lst vs) (.ref D) → compPost (model prog w) A E use Q (.ref D) C (.ok .next) s') :
    wpAny (model prog w) A (comprehension (.ListComp elt [⟨.Name (nm i) px, it, [], 0⟩] sc p) sc env pos (newList []) false (eval it env) use) Q E s := by
  obtain ⟨cl, hcl, henv⟩ := comp_env ok hc
  unfold evComp at h
  split at h
  · rename_i a ea
    split at h
    · rename_i ws ews
      refine wpAny_comprehension_free (use := use) rfl (hit.folded env) hcl hc.kind hc.nms ?_
      refine iter_make W ih ok ha S hit ea ews fun c s2 k2 hcn hce hI => ?_
      refine wpAny_newObj_type (newEnv_around ?_)
      dsimp only
      have hsz : (s2.heap.push { cls := .type "list", dict := none, data := .seq ([] : List Value).toArray }).objs.size = s2.heap.objs.size + 1 := Heap.size_push ..
      rw [hsz]
      obtain ⟨D, hD⟩ : ∃ D : Nat, s2.heap.objs.size = D := ⟨_, rfl⟩
      rw [hD] at hsz ⊢
      obtain ⟨okc, hcaps, hown⟩ := henv (D + 1)
      have hnD : ∀ {b : Nat}, D ≤ b → s2.heap.get? b = none := fun {b} hb => by
        cases e : s2.heap.get? b with
        | none => rfl
        | some o' => exact absurd (Heap.lt_size e) (Nat.not_lt.mpr (by rw [hD]; exact hb))
      have hnone : ∀ {b : Nat}, D ≤ b → s.heap.get? b = none := fun {b} hb => by
        cases e : s.heap.get? b with
        | none => rfl
        | some o' => have := kHp k2 _ _ e; rw [hnD hb] at this; cases this
      have hcD : @LT.lt Nat _ c D := by
        obtain ⟨o, ho⟩ : ∃ o, s2.heap.get? c = some o := by
          rcases hI with ⟨x, n, r, _⟩ | ⟨l, i, items, ⟨o, ho, _⟩, _⟩
          · exact ⟨_, r⟩
          · exact ⟨o, ho⟩
        rw [← hD]
        exact Heap.lt_size ho
      have hl4 : (pushCells ((s2.heap.push { cls := .type "list", dict := none, data := .seq ([] : List Value).toArray }).push { cls := .type "dict", data := .dict #[] }) sc.names).PlainList D #[] :=
        ⟨0, pushCells_keeps _ _ _ _ (Heap.get?_push_of_some _ (hD ▸ Heap.get?_push_size _ rfl))⟩
      have hn4 : (pushCells ((s2.heap.push { cls := .type "list", dict := none, data := .seq ([] : List Value).toArray }).push { cls := .type "dict", data := .dict #[] }) sc.names).Ns (D + 1) fun _ => none := by
        have := Heap.Ns.new (s2.heap.push { cls := .type "list", dict := none, data := .seq ([] : List Value).toArray }) (.type "dict")
        rw [hsz] at this
        exact this.keeps (pushCells_keeps _ _)
      have hk4 : ∀ b o, s2.heap.get? b = some o → (pushCells ((s2.heap.push { cls := .type "list", dict := none, data := .seq ([] : List Value).toArray }).push { cls := .type "dict", data := .dict #[] }) sc.names).get? b = some o :=
        fun b o e => pushCells_keeps _ _ _ _ (Heap.get?_push_of_some _ (Heap.get?_push_of_some _ e))
      have hcells : ∀ x c, (x, c) ∈ cellsFrom (D + 1 + 1) sc.names [] → (pushCells ((s2.heap.push { cls := .type "list", dict := none, data := .seq ([] : List Value).toArray }).push { cls := .type "dict", data := .dict #[] }) sc.names).IsCell c none ∧ D + 1 + 1 ≤ c := by
        have := cellsFrom_ok sc.names ((s2.heap.push { cls := .type "list", dict := none, data := .seq ([] : List Value).toArray }).push { cls := .type "dict", data := .dict #[] }) (D + 1 + 1) [] ⟨fun _ _ hm => (nomatch hm), List.Pairwise.nil⟩ (by rw [Heap.size_push, hsz]; exact Nat.le_refl _)
        rw [Heap.size_push, hsz] at this
        exact this.empty
      generalize pushCells ((s2.heap.push { cls := .type "list", dict := none, data := .seq ([] : List Value).toArray }).push { cls := .type "dict", data := .dict #[] }) sc.names = H4 at hl4 hn4 hk4 hcells ⊢
      show codeAny (model prog w) A (.compStart _ 0 (.ref c) (.ref D) (compEnvC sc (cellsFrom (D + 1 + 1) sc.names cl) (D + 1) env)) (compPost (model prog w) A E use Q (.ref D) (D + 1)) _
      obtain ⟨T, hT, hO⟩ : ∃ T : Nat, D + 1 ≤ T ∧ OwnOK (compEnvC sc (cellsFrom (D + 1 + 1) sc.names cl) (D + 1) env) i T H4 := by
        rcases hc.own with e | e
        · exact ⟨D + 1, Nat.le_refl _, .inl ⟨lookup_relabel_local e, rfl⟩⟩
        · obtain ⟨c, hm, hlk⟩ := hown e
          have ⟨h1, h2⟩ := hcells _ _ hm
          refine ⟨c, by omega, .inr ⟨?_, hlk, show c ≠ D + 1 from Nat.ne_of_gt (by omega), _, h1⟩⟩
          rcases okc.kof (nm i) with q | ⟨q, _⟩
          · rw [q]; exact e
          · rw [show kindFn sc (nm i) = sc.names.lookup (nm i) from rfl, e] at q; cases q
      have kk : Keeps s { s2 with heap := H4 } := by
        obtain ⟨h', tk, rfl, kk⟩ := k2
        exact ⟨H4, tk, rfl, fun b o e => hk4 b o (kk b o e)⟩
      have hstr : ∀ b, ex b ∨ b = D → ex b ∨ s.heap.get? b = none := fun b q => q.imp id fun e => by rw [e]; exact hnone (Nat.le_refl _)
      have hI4 : IterAt (fun b => ex b ∨ b = D) H4 c ws := (hI.strong fun b q => q.imp id fun e => by rw [e]; exact hnD (Nat.le_refl _)).mono (.of hk4) (fun o => hk4 _ o) fun _ q => q
      have hcap : LocR (compEnvC sc (cellsFrom (D + 1 + 1) sc.names cl) (D + 1) env) (fun b => ex b ∨ b = D) s.heap (pick l cs) := by
        intro j v e
        obtain ⟨hj, e⟩ := lk_pick _ _ _ _ e
        obtain ⟨x, h1, h2⟩ := S.loc j v e
        refine ⟨x, h1.strong hstr, ?_⟩
        obtain ⟨d, hd1, hd2⟩ := hcaps j hj
        have hf := (hc.caps j hj).1
        have hkind : (compEnvC sc (cellsFrom (D + 1 + 1) sc.names cl) (D + 1) env).kindOf (nm j) = some .cell ∨ (compEnvC sc (cellsFrom (D + 1 + 1) sc.names cl) (D + 1) env).kindOf (nm j) = some .free := by
          rcases okc.kof (nm j) with q | ⟨_, q⟩
          · rw [q]; exact .inr hf
          · exact .inl q
        rcases h2 with ⟨q, _⟩ | ⟨q, c', hc1, hc2⟩
        · exfalso
          rcases ok.kof (nm j) with e1 | ⟨_, e1⟩
          · rw [q] at e1
            rcases (hc.caps j hj).2 with e2 | e2 <;> rw [e2] at e1 <;> cases e1
          · rw [q] at e1; cases e1
        · rw [hd1] at hc1
          cases hc1
          exact .inr ⟨hkind, d, hd2, hc2⟩
      have hexs : ∀ b, (ex b ∨ b = D) → hW.get? b = none ∧ (b = D ∨ ∃ o, s.heap.get? b = some o) := by
        rintro b (q | rfl)
        · exact ⟨(S.exs b q).1, .inr (S.exs b q).2⟩
        · refine ⟨?_, .inl rfl⟩
          cases e : hW.get? b with
          | none => rfl
          | some o' => have := S.w _ _ e; rw [hnone (Nat.le_refl _)] at this; cases this
      have loop : codeAny (model prog w) A (.compLoop (.ListComp elt [⟨.Name (nm i) px, it, [], 0⟩] sc p) 0 (.ref c) (.ref D) (compEnvC sc (cellsFrom (D + 1 + 1) sc.names cl) (D + 1) env)) (compPost (model prog w) A E use Q (.ref D) (D + 1)) { s2 with heap := H4 } := by
        refine comp_loop (cenv := compEnvC sc (cellsFrom (D + 1 + 1) sc.names cl) (D + 1) env) (T := T) (ex := fun b => ex b ∨ b = D) (vs := vs) ih okc ha helt S.w hcap hexs (.inr rfl) (hnone (Nat.le_refl _)) (hnone (Nat.le_succ _)) (hnone (by omega)) hcn (Nat.ne_of_lt (Nat.lt_succ_self _)) (Nat.ne_of_lt (by omega)) (Nat.ne_of_lt (by omega)) (show c ≠ D + 1 from Nat.ne_of_lt (by omega)) (Nat.ne_of_lt (by omega))
          (by rw [evMap_len h]; exact iterV_len ews) ?_ (ds := []) kk hI4 hl4 .nil hn4 hO h rfl
        intro s' items m k' hl' hs' hn'
        refine hQ D (D + 1) s' m (Nat.ne_of_lt (Nat.lt_succ_self _)) (hnone (Nat.le_succ _)) (hnone (Nat.le_refl _)) hn' k' (.lst ?_ hl' (hs'.mono (fun b o _ _ e => e) fun _ q => .inl q))
        intro q
        obtain ⟨_, o', e⟩ := S.exs _ q
        rw [hnone (Nat.le_refl _)] at e; cases e
      exact codeAny_compStart_list loop (iter_again (s := { s2 with heap := H4 }) hI4 loop)
    · cases h
  · cases h

theorem ev_comp (W : WF hW mg mb fn) (ih : EV prog w hW I n) (ok : EnvOK env ks) (ha : AOK A n) (S : ES hW env ex l o s.heap) {elt it : PySem.Expr} {elt' it' : X} {r : Bool} {i : Nat} {cs : List Nat} {sc : Scope} {px p : Pos}
    (hit : TXI ks it r it') (helt : TX (kindFn sc) elt elt') (hc : CompOK ks sc i cs) (h : (evComp I r elt' i cs it' l o).map AV.lst = some v) (hQ : ∀ y s', Keeps s s' → VR ex s'.heap v y → Q y s') :
    wpAny (model prog w) A (eval (.ListComp elt [⟨.Name (nm i) px, it, [], 0⟩] sc p) env) Q E s := by
  rw [Option.map_eq_some_iff] at h
  obtain ⟨vs, h, rfl⟩ := h
  rw [eval_ListComp]
  refine comp_core (use := none) W ih ok ha S hit helt hc h fun D C s' m hDC hC hD hn k hv => ?_
  refine ⟨m, hn, fun h' hs => hQ _ _ ?_ (hv.mono (ksSame hs.extBut (.inr (ns_nseq hn))) fun _ q => q)⟩
  obtain ⟨h0, tk, rfl, kk⟩ := k
  exact ⟨h', tk, rfl, fun b o e => hs.extBut b o (by rintro rfl; rw [hC] at e; cases e) (kk b o e)⟩
end
end Mine

namespace Mine

abbrev exO (exC : Addr → Prop) (own : Option Addr) : Addr → Prop := fun b => exC b ∨ own = some b
noncomputable def OwnOf (env : Env) (exC : Addr → Prop) (own : Option Addr) (h : Heap) (o : Ow) : Prop := match o, own with
  | .none, .none => True
  | some (i, vs), some a => ∃ items, NameIs env h (nm i) (.ref a) ∧ h.PlainList a items ∧ VRs (exO exC own) h vs items.toList ∧ ¬ exC a
  | _, _ => False
structure SS (hW : Heap) (env : Env) (exC : Addr → Prop) (own : Option Addr) (l : Loc) (o : Ow) (h : Heap) : Prop where
  w : ∀ b o, hW.get? b = some o → h.get? b = some o
  loc : LocR env (exO exC own) h l
  exs : ∀ b, exO exC own b → hW.get? b = none ∧ ∃ o, h.get? b = some o
  ns : ∃ m, h.Ns env.locals m
  L : hW.get? env.locals = none
  own : OwnOf env exC own h o
theorem SS.es {hW : Heap} {env : Env} {exC : Addr → Prop} {own : Option Addr} {l : Loc} {o : Ow} {h : Heap} (r : SS hW env exC own l o h) : ES hW env (exO exC own) l o h := by
  refine ⟨r.w, r.loc, ?_, r.exs⟩
  have := r.own
  unfold OwnOf at this
  unfold OwR
  split
  · trivial
  · rename_i i vs
    cases own with
    | none => exact this.elim
    | some a =>
      obtain ⟨items, h1, h2, h3, _⟩ := this
      exact ⟨a, items, h1, h2, h3⟩
theorem SS.keep {hW : Heap} {env : Env} {exC : Addr → Prop} {own : Option Addr} {l : Loc} {o : Ow} {h h' : Heap} (r : SS hW env exC own l o h) (hk : ∀ b o, h.get? b = some o → h'.get? b = some o) : SS hW env exC own l o h' := by
  refine ⟨fun b o e => hk b o (r.w b o e), r.loc.keep hk, fun b q => let ⟨p, o, e⟩ := r.exs b q; ⟨p, o, hk b o e⟩, let ⟨m, hn⟩ := r.ns; ⟨m, hn.keeps hk⟩, r.L, ?_⟩
  have := r.own
  unfold OwnOf at this ⊢
  split
  · trivial
  · obtain ⟨items, h1, h2, h3, h4⟩ := this
    exact ⟨items, h1.keep hk, h2.at (fun o => hk _ o), h3.keep hk, h4⟩
  · simp at this
theorem SS.keeps {hW : Heap} {env : Env} {exC : Addr → Prop} {own : Option Addr} {l : Loc} {o : Ow} {s s' : Shared} (r : SS hW env exC own l o s.heap) (k : Keeps s s') : SS hW env exC own l o s'.heap := r.keep (kHp k)

/-- what a statement may change -/
structure FK (env : Env) (own own' : Option Addr) (s s' : Shared) : Prop where
  sh : ∃ h' tk, s' = { s with heap := h', toks := tk }
  hp : ∀ b o, b ≠ env.locals → own ≠ some b → s.heap.get? b = some o → s'.heap.get? b = some o
  dom : ∀ b o, s.heap.get? b = some o → ∃ o', s'.heap.get? b = some o'
  own : ∀ b, own' = some b → own = some b ∨ s.heap.get? b = none
theorem FK.of {env : Env} {own : Option Addr} {s s' : Shared} (k : Keeps s s') : FK env own own s s' := by
  obtain ⟨h', tk, rfl, k⟩ := k
  exact ⟨⟨h', tk, rfl⟩, fun b o _ _ e => k b o e, fun b o e => ⟨o, k b o e⟩, fun b e => .inl e⟩
theorem FK.trans {env : Env} {own own' own'' : Option Addr} {s s' s'' : Shared} (a : FK env own own' s s') (b : FK env own' own'' s' s'') : FK env own own'' s s'' := by
  refine ⟨?_, fun c o h1 h2 e => b.hp c o h1 (fun h3 => ?_) (a.hp c o h1 h2 e), fun c o e => ?_, fun c e => ?_⟩
  · obtain ⟨h', tk, rfl⟩ := a.sh
    obtain ⟨h'', tk', rfl⟩ := b.sh
    exact ⟨h'', tk', rfl⟩
  · rcases a.own c h3 with h4 | h4
    · exact h2 h4
    · rw [e] at h4; cases h4
  · obtain ⟨o', e⟩ := a.dom c o e
    exact b.dom c o' e
  · rcases b.own c e with h4 | h4
    · exact a.own c h4
    · cases h5 : s.heap.get? c with
      | none => exact .inr rfl
      | some o =>
        obtain ⟨o', h6⟩ := a.dom c o h5
        rw [h4] at h6; cases h6

noncomputable def FRel (hW : Heap) (env : Env) (exC : Addr → Prop) (own : Option Addr) (f : AF) (fl : Flow) (l : Loc) (o : Ow) (h : Heap) : Prop := match f with
  | .next => fl = .next ∧ SS hW env exC own l o h
  | .ret v => ∃ y, fl = .ret y ∧ VR exC h v y
noncomputable def EXS (prog : Program) (w : World) (hW : Heap) (I : R) (n : Nat) : Prop := ∀ {ks : KS} {ss : List PySem.Stmt} {b : SL} {env : Env} {A : Around} {s : Shared} {l l' : Loc} {o o' : Ow} {own : Option Addr} {exC : Addr → Prop} {f : AF} {E : Value → Shared → Prop} {Q : Flow → Shared → Prop},
  TSL ks ss b → EnvOK env ks → AOK A n → SS hW env exC own l o s.heap → I.exs b l o = some (f, l', o') → (∀ fl s' own', FK env own own' s s' → FRel hW env exC own' f fl l' o' s'.heap → Q fl s') → wpAny (model prog w) A (execs ss env) Q E s
noncomputable def EXO (prog : Program) (w : World) (hW : Heap) (I : R) (n : Nat) : Prop := ∀ {ks : KS} {ss : PySem.Stmt} {b : S} {env : Env} {A : Around} {s : Shared} {l l' : Loc} {o o' : Ow} {own : Option Addr} {exC : Addr → Prop} {f : AF} {E : Value → Shared → Prop} {Q : Flow → Shared → Prop},
  TS ks ss b → EnvOK env ks → AOK A n → SS hW env exC own l o s.heap → I.exo b l o = some (f, l', o') → (∀ fl s' own', FK env own own' s s' → FRel hW env exC own' f fl l' o' s'.heap → Q fl s') → wpAny (model prog w) A (exec ss env) Q E s

theorem ptAll_len : ∀ {l l0 : Loc} {ps : List Nat} {vs : List AV}, ptAll l ps vs = some l0 → vs.length = ps.length
  | _, _, [], [], _ => rfl
  | _, _, _ :: ps, _ :: vs, h => by
    unfold ptAll at h
    simp [ptAll_len h]
  | _, _, [], _ :: _, h => by cases h
  | _, _, _ :: _, [], h => by cases h

theorem bind_ok {kindOf : Str → Option NameKind} {ex : Addr → Prop} {h : Heap} : ∀ {ps : List Nat} {vs : List AV} {ys : List Value} {l l0 : Loc} {m cm : Str → Option Value}, ptAll l ps vs = some l0 → VRs ex h vs ys →
    (∀ p ∈ ps, kindOf (nm p) = some .local ∨ kindOf (nm p) = some .cell) →
    (∀ j v, lk l j = some v → ∃ x, VR ex h v x ∧ ((kindOf (nm j) = some .local ∧ m (nm j) = some x) ∨ (kindOf (nm j) = some .cell ∧ cm (nm j) = some x))) →
    (∀ j v, lk l0 j = some v → ∃ x, VR ex h v x ∧ ((kindOf (nm j) = some .local ∧ bindL kindOf ((ps.map nm).zip ys) m (nm j) = some x) ∨ (kindOf (nm j) = some .cell ∧ bindC kindOf ((ps.map nm).zip ys) cm (nm j) = some x)))
  | [], [], _, l, l0, m, cm, h, .nil, _, hl => by cases h; exact hl
  | p :: ps, v :: vs, _, l, l0, m, cm, h, .cons (x := y) (xs := ys) hv hvs, hp, hl => by
    unfold ptAll at h
    simp only [List.map_cons, List.zip_cons_cons, bindL, bindC]
    refine bind_ok h hvs (fun q hq => hp q (List.mem_cons_of_mem _ hq)) ?_
    intro j u hj
    rw [lk_pt] at hj
    have hk := hp p List.mem_cons_self
    by_cases hpj : p = j
    · subst hpj
      rw [if_pos rfl] at hj
      cases hj
      refine ⟨y, hv, ?_⟩
      rcases hk with hk | hk
      · left
        refine ⟨hk, ?_⟩
        rw [if_pos hk]
        simp
      · right
        refine ⟨hk, ?_⟩
        rw [if_neg (by rw [hk]; decide)]
        simp
    · rw [if_neg hpj] at hj
      obtain ⟨x, h1, h2⟩ := hl j u hj
      have hne : nm j ≠ nm p := fun e => hpj (nm_inj e).symm
      refine ⟨x, h1, ?_⟩
      rcases h2 with ⟨h2, h3⟩ | ⟨h2, h3⟩
      · left
        refine ⟨h2, ?_⟩
        split
        · show (if nm j = nm p then some y else m (nm j)) = some x
          rw [if_neg hne]; exact h3
        · exact h3
      · right
        refine ⟨h2, ?_⟩
        split
        · exact h3
        · show (if nm j = nm p then some y else cm (nm j)) = some x
          rw [if_neg hne]; exact h3
  | [], _ :: _, _, _, _, _, _, h, _, _, _ => by cases h
  | _ :: _, [], _, _, _, _, _, h, _, _, _ => by cases h
end Mine

namespace Mine

section
variable {prog : Program} {w : World} {hW : Heap} {mg mb : Str → Option Value} {fn : Nat → Option (List Nat × SL)} {I : R} {n : Nat} {env : Env} {ks : KS} {A : Around} {s : Shared} {l : Loc} {o : Ow} {ex : Addr → Prop} {E : Value → Shared → Prop} {v : AV} {Q : Value → Shared → Prop}

/-- a defined function is called with the values -/
theorem call_fn (W : WF hW mg mb fn) (ix : EXS prog w hW I n) (ha : AOK A (n + 1)) (hw : ∀ b o, hW.get? b = some o → s.heap.get? b = some o) (hexs : ∀ b, ex b → hW.get? b = none ∧ ∃ o, s.heap.get? b = some o)
    {f : Nat} {ps : List Nat} {body : SL} {vs : List AV} {ys : List Value} {l0 l1 : Loc} {o1 : Ow} {a : Addr} (hf : fn f = some (ps, body)) (hmg : mg (fnm f) = some (.ref a)) (hp : ptAll [] ps vs = some l0) (hy : VRs ex s.heap vs ys)
    (h : I.exs body l0 .none = some (.ret v, l1, o1)) (hQ : ∀ y s', Keeps s s' → VR ex s'.heap v y → Q y s') : wpAny (model prog w) A (call (.ref a) ys) Q E s := by
  obtain ⟨a', of, name, params, stmts, scope, pm, cd, doc, h1, h2, h3, h4, h5, h6, h7, h8, h9, h10, h11⟩ := (W.fns f ps body hf).ex
  rw [hmg] at h1
  cases h1
  have hlen : ys.length = ps.length := by rw [hy.length]; exact ptAll_len hp
  have hkc : ∀ (L : Nat) (p : Nat), p ∈ ps → scope.names.lookup (nm p) = some .local ∨ (scope.names.lookup (nm p) = some .cell ∧ ((cellsFrom (L + 1) scope.names []).lookup (nm p)).isSome = true) := fun L p hp => by
    rcases h7 p hp with q | q
    · exact .inl q
    · obtain ⟨c, hm⟩ := cf_has scope.names (L + 1) [] _ (mem_of_lookup q)
      obtain ⟨d, hd⟩ := lookup_has hm
      exact .inr ⟨q, by rw [hd]; rfl⟩
  refine wpAny_call (call_cells_ret (by have := ha.dp; show A.depth < 1000; omega) (hw _ _ h2) h3 (W.lim.keeps hw) (h4.keeps hw) (h6 ys hlen) (fun x hx => ?_) (fun h' tk F C => ?_) h8 h9 h10)
  · obtain ⟨x, y⟩ := x
    have hx := (List.of_mem_zip hx).1
    obtain ⟨p, hp, rfl⟩ := List.mem_map.mp hx
    exact hkc _ p hp
  · have okc : EnvOK (envOfC name scope s.heap.objs.size a cd) (kindFn scope) := by
      refine ⟨h10, rfl, rfl, fun x => .inl rfl, fun x hx => ?_⟩
      rcases hx with hx | hx
      · obtain ⟨c, hm⟩ := cf_has scope.names (s.heap.objs.size + 1) [] _ (mem_of_lookup hx)
        exact lookup_has hm
      · exact absurd rfl (h11 _ (mem_of_lookup hx))
    have hfresh : s.heap.get? s.heap.objs.size = none := by
      cases e : s.heap.get? s.heap.objs.size with
      | none => rfl
      | some o' => exact absurd (Heap.lt_size e) (Nat.lt_irrefl _)
    have S0 : SS hW (envOfC name scope s.heap.objs.size a cd) ex none l0 .none h' := by
      refine ⟨fun b o e => F.keep b o (hw b o e), fun j u hj => ?_, fun b q => ?_, ⟨_, F.ns⟩, ?_, trivial⟩
      · obtain ⟨x, hx, hk⟩ := bind_ok (kindOf := (envOfC name scope s.heap.objs.size a cd).kindOf) (m := fun _ => none) (cm := fun _ => none) hp hy (fun p hp => h7 p hp) (fun j v e => by cases e) j u hj
        refine ⟨x, (hx.keep F.keep).mono (fun b o _ _ e => e) fun b q => q.resolve_right (by intro e; cases e), ?_⟩
        rcases hk with ⟨hk, hm⟩ | ⟨hk, hm⟩
        · exact .inl ⟨hk, _, F.ns, hm⟩
        · obtain ⟨c, hc⟩ := okc.cel (nm j) (.inl hk)
          exact .inr ⟨.inl hk, c, hc, hm ▸ C.cell _ _ hc⟩
      · rcases q with q | q
        · obtain ⟨q1, o, q2⟩ := hexs b q
          exact ⟨q1, o, F.keep _ _ q2⟩
        · cases q
      · cases e : hW.get? (envOfC name scope s.heap.objs.size a cd).locals with
        | none => rfl
        | some o' => have := hw _ _ e; rw [show (envOfC name scope s.heap.objs.size a cd).locals = s.heap.objs.size from rfl, hfresh] at this; cases this
    refine ix h5 okc (ha.deeper _) S0 h fun fl s' own' k r => ?_
    obtain ⟨y, rfl, r⟩ := r
    refine hQ y s' ?_ r
    obtain ⟨h'', tk', rfl⟩ := k.sh
    refine ⟨h'', tk', rfl, fun b o e => k.hp b o ?_ (by intro e; cases e) (F.keep b o e)⟩
    rintro rfl
    rw [show (envOfC name scope s.heap.objs.size a cd).locals = s.heap.objs.size from rfl, hfresh] at e; cases e

theorem ev_call (W : WF hW mg mb fn) (B : Base I) (is : EVS prog w hW I n) (ix : EXS prog w hW I n) (ok : EnvOK env ks) (ha : AOK A (n + 1)) (S : ES hW env ex l o s.heap) {f : Nat} {es : List PySem.Expr} {xs : XL} {np p : Pos} (hk : ks (fnm f) = some .globalImplicit)
    (he : TXL ks es xs) (h : evCall fn I f xs l o = some v) (hQ : ∀ y s', Keeps s s' → VR ex s'.heap v y → Q y s') : wpAny (model prog w) A (eval (.Call (.Name (fnm f) np) es [] p) env) Q E s := by
  unfold evCall at h
  split at h
  · rename_i vs evs
    split at h
    · rename_i ps body hf
      split at h
      · rename_i l0 hp
        split at h
        · rename_i l1 o1 hx
          cases h
          obtain ⟨a, of, name, params, stmts, scope, pm, cd, doc, h1, h2, h3, h4⟩ := (W.fns _ _ _ hf).ex
          refine wpAny_Call_NameR (name_glob W ok S.w hk (W.fns _ _ _ hf).nd h1 ?_)
          cases he with
          | nil =>
            exfalso
            have e := B.evN _ _ _ evs
            subst e
            have := ptAll_len hp
            exact (W.fns _ _ _ hf).ne (List.eq_nil_of_length_eq_zero this.symm)
          | cons hx1 hxs =>
            refine PyProof.Rows.callWith_def (o := of) h3 (is (.cons hx1 hxs) ok (ha.le (Nat.le_succ _)) S evs fun ys s1 k1 r1 => ⟨kHp k1 _ _ (S.w _ _ h2), ?_⟩) (hx1.star _ _)
            exact call_fn W ix ha (S.keeps k1).w (S.keeps k1).exs hf h1 hp r1 hx fun y s2 k2 r2 => hQ y s2 (kTr k1 k2) r2
        · cases h
      · cases h
    · cases h
  · cases h
end
end Mine

namespace Mine

theorem ns_det {h : Heap} {a : Addr} {m m' : Str → Option Value} (x : h.Ns a m) (y : h.Ns a m') (n : Str) : m n = m' n := by
  obtain ⟨o, es, ep, ho, hd, _, hm⟩ := x
  obtain ⟨o', es', ep', ho', hd', _, hm'⟩ := y
  rw [ho] at ho'
  cases ho'
  rw [hd] at hd'
  cases hd'
  rw [← hm, ← hm']
theorem cell_ne_ns {h : Heap} {a c : Addr} {v : Option Value} {m : Str → Option Value} (x : h.IsCell c v) (y : h.Ns a m) : c ≠ a := by
  rintro rfl
  obtain ⟨o, ho, hd⟩ := x
  obtain ⟨o', es', ep', ho', hd', _⟩ := y
  rw [ho] at ho'
  cases ho'
  rw [hd] at hd'
  cases hd'
theorem list_ne_ns {h : Heap} {a c : Addr} {items : Array Value} {m : Str → Option Value} (x : h.PlainList c items) (y : h.Ns a m) : c ≠ a := by
  rintro rfl
  obtain ⟨n, ho⟩ := x
  obtain ⟨o', es', ep', ho', hd', _⟩ := y
  rw [ho] at ho'
  cases ho'
  cases hd'

theorem fr_ne {i j : Nat} {vs : List AV} (h : fr (some (i, vs)) j = true) : i ≠ j := by
  rintro rfl
  unfold fr at h
  split at h
  · rename_i e
    cases e
    split at h
    · cases h
    · rename_i hb
      exact Nat.ne_of_beq_eq_false hb rfl
  · rename_i e; cases e

theorem SS.lk {hW : Heap} {env : Env} {exC : Addr → Prop} {own : Option Addr} {l l' : Loc} {o : Ow} {h : Heap} (r : SS hW env exC own l o h) (e : ∀ j, Mine.lk l' j = Mine.lk l j) : SS hW env exC own l' o h :=
  ⟨r.w, fun j v q => r.loc j v (by rw [← e]; exact q), r.exs, r.ns, r.L, r.own⟩

theorem NameIs.ext {env : Env} {h h' : Heap} {x : Str} {v : Value} {C : Addr} {m mC : Str → Option Value} (r : NameIs env h x v) (hs : Heap.ExtBut C h h') (hC : h.Ns C mC) (hne : env.locals ≠ C) : NameIs env h' x v := by
  rcases r with ⟨a, m, b, c⟩ | ⟨a, c, d, e⟩
  · exact .inl ⟨a, m, b.extBut hs hne, c⟩
  · refine .inr ⟨a, c, d, ?_⟩
    have := cell_ne_ns e hC
    obtain ⟨o, ho, hd⟩ := e
    exact ⟨o, hs c o this ho, hd⟩

theorem SS.ext {hW : Heap} {env : Env} {exC : Addr → Prop} {own : Option Addr} {l : Loc} {o : Ow} {h h' : Heap} {C : Addr} {mC : Str → Option Value} (r : SS hW env exC own l o h) (hs : Heap.SameBut C h h') (hC : h.Ns C mC) (hne : env.locals ≠ C) (hWC : hW.get? C = none) (hex : ¬ exO exC own C) : SS hW env exC own l o h' := by
  have k : ∀ ex, KeepSeq ex h h' := fun ex => ksSame hs.extBut (.inr (ns_nseq hC))
  refine ⟨fun b o e => hs.extBut b o (by rintro rfl; rw [hWC] at e; cases e) (r.w b o e), fun j v e => ?_, fun b q => ?_, ?_, r.L, ?_⟩
  · obtain ⟨x, h1, h2⟩ := r.loc j v e
    exact ⟨x, h1.mono (k _) fun _ q => q, h2.ext (m := mC) hs.extBut hC hne⟩
  · obtain ⟨h1, o, h2⟩ := r.exs b q
    exact ⟨h1, o, hs.extBut b o (by rintro rfl; exact hex q) h2⟩
  · obtain ⟨m, hn⟩ := r.ns
    exact ⟨m, hn.sameBut hs hne⟩
  · have := r.own
    unfold OwnOf at this ⊢
    split
    · trivial
    · obtain ⟨items, h1, h2, h3, h4⟩ := this
      exact ⟨items, h1.ext (m := mC) hs.extBut hC hne, h2.extBut hs.extBut (list_ne_ns h2 hC), h3.mono (k _) fun _ q => q, h4⟩
    · simp at this

section
variable {M : Model} {A : Around} {E : Value → Shared → Prop} {s : Shared} {env : Env} {hW : Heap} {exC : Addr → Prop} {own : Option Addr} {l : Loc} {o : Ow}
theorem store_loc {i : Nat} {v : AV} {y : Value} {Q : Unit → Shared → Prop} (S : SS hW env exC own l o s.heap) (hk : env.scope.kind = .function) (hl : env.kindOf (nm i) = some .local) (hf : fr o i = true) (hv : VR (exO exC own) s.heap v y)
    (hQ : ∀ s', FK env own own s s' → SS hW env exC own (pt l i v) o s'.heap → Q () s') : wpAny M A (storeName env (nm i) y) Q E s := by
  obtain ⟨m, hn⟩ := S.ns
  refine wpAny_storeName_local hl hn (fun h' hn' hs => ?_) (by rw [hk]; rfl)
  have k : ∀ ex, KeepSeq ex s.heap h' := fun ex => ksSame hs.extBut (.inr (ns_nseq hn))
  have dom : ∀ b o, s.heap.get? b = some o → ∃ o', h'.get? b = some o' := fun b o e => by
    by_cases hb : b = env.locals
    · subst hb
      obtain ⟨o', _, _, h1, _⟩ := hn'
      exact ⟨o', h1⟩
    · exact ⟨o, hs.extBut b o hb e⟩
  have nameK : ∀ j x, j ≠ i → NameIs env s.heap (nm j) x → NameIs env h' (nm j) x := fun j x hj r => by
    rcases r with ⟨a, m', b, c⟩ | ⟨a, c, d, e⟩
    · refine .inl ⟨a, _, hn', ?_⟩
      show (if nm j = nm i then some y else m (nm j)) = some x
      rw [if_neg (fun q => hj (nm_inj q)), ns_det hn b]
      exact c
    · refine .inr ⟨a, c, d, ?_⟩
      have := cell_ne_ns e hn
      obtain ⟨o, ho, hd⟩ := e
      exact ⟨o, hs.extBut c o this ho, hd⟩
  refine hQ _ ⟨⟨h', _, rfl⟩, fun b o hb _ e => hs.extBut b o hb e, dom, fun b e => .inl e⟩ ⟨fun b o e => hs.extBut b o (by rintro rfl; rw [S.L] at e; cases e) (S.w b o e), fun j u e => ?_, fun b q => ?_, ⟨_, hn'⟩, S.L, ?_⟩
  · rw [lk_pt] at e
    by_cases hij : i = j
    · rw [if_pos hij] at e
      cases e
      subst hij
      exact ⟨y, hv.mono (k _) fun _ q => q, .inl ⟨hl, _, hn', by simp⟩⟩
    · rw [if_neg hij] at e
      obtain ⟨x, h1, h2⟩ := S.loc j u e
      exact ⟨x, h1.mono (k _) fun _ q => q, nameK j x (Ne.symm hij) h2⟩
  · obtain ⟨h1, o, h2⟩ := S.exs b q
    exact ⟨h1, dom b o h2⟩
  · have := S.own
    unfold OwnOf at this ⊢
    split
    · trivial
    · obtain ⟨items, h1, h2, h3, h4⟩ := this
      exact ⟨items, nameK _ _ (fr_ne hf) h1, h2.extBut hs.extBut (list_ne_ns h2 hn), h3.mono (k _) fun _ q => q, h4⟩
    · simp at this

theorem FK.same {own' : Option Addr} {s' : Shared} {C : Addr} {h' : Heap} {tk : Nat} (k : FK env own own' s s') (hs : Heap.ExtBut C s'.heap h') (hC : s.heap.get? C = none) : FK env own own' s { s' with heap := h', toks := tk } := by
  have ne : ∀ b o, s.heap.get? b = some o → b ≠ C := fun b o e => by rintro rfl; rw [hC] at e; cases e
  refine ⟨?_, fun b o h1 h2 e => hs b o (ne b o e) (k.hp b o h1 h2 e), fun b o e => ?_, k.own⟩
  · obtain ⟨h0, tk0, rfl⟩ := k.sh
    exact ⟨h', tk, rfl⟩
  · obtain ⟨o', e'⟩ := k.dom b o e
    exact ⟨o', hs b o' (ne b o e) e'⟩
theorem FK.vr {own' : Option Addr} {s' : Shared} {v : AV} {x : Value} {m : Str → Option Value} (k : FK env own own' s s') (hn : s.heap.Ns env.locals m) (r : VR (exO exC own) s.heap v x) : VR (exO exC own') s'.heap v x := by
  have r2 : VR (fun b => exC b ∨ own = some b ∨ own' = some b) s.heap v x := r.strong fun b q => by
    rcases q with q | q | q
    · exact .inl (.inl q)
    · exact .inl (.inr q)
    · rcases k.own b q with h | h
      · exact .inl (.inr h)
      · exact .inr h
  refine r2.mono (fun b o hb hd e => k.hp b o ?_ (fun q => hb (.inr (.inl q))) e) fun b q => q.imp id .inr
  rintro rfl
  exact ns_nseq hn o e hd
end
end Mine

namespace Mine

theorem TX.swaps {ks : KS} {e : PySem.Expr} {x : X} (h : TX ks e x) (hn : ∀ r a b c d, x ≠ .comp r a b c d) (t : Option PySem.Expr) (n : Nat) (env : Env) : swapsWith e t n env = pure false := by
  cases h <;> first | rfl | exact absurd rfl (hn _ _ _ _ _)

section
variable {prog : Program} {w : World} {hW : Heap} {mg mb : Str → Option Value} {fn : Nat → Option (List Nat × SL)} {I : R} {n : Nat} {env : Env} {ks : KS} {A : Around} {s : Shared} {l l' : Loc} {o o' : Ow} {own : Option Addr} {exC : Addr → Prop} {E : Value → Shared → Prop} {v : AV} {f : AF} {Q : Flow → Shared → Prop}

theorem ex_asg (ih : EV prog w hW I n) (ok : EnvOK env ks) (ha : AOK A n) (S : SS hW env exC own l o s.heap) {i : Nat} {e : PySem.Expr} {x : X} {p pos : Pos} (hk : ks (nm i) = some .local) (he : TX ks e x) (hn : ∀ r a b c d, x ≠ .comp r a b c d)
    (h : exS I (.asg i x) l o = some (f, l', o')) (hQ : ∀ fl s' own', FK env own own' s s' → FRel hW env exC own' f fl l' o' s'.heap → Q fl s') : wpAny (model prog w) A (exec (.Assign [.Name (nm i) p] e pos) env) Q E s := by
  simp only [exS] at h
  split at h
  · rename_i hf
    split at h
    · rename_i v ev
      cases h
      exact wpAny_Assign_Name (ih he ok ha S.es ev fun y s1 k1 r1 => store_loc (S.keeps k1) ok.kind (ok.loc hk) hf r1 fun s2 k2 S2 => hQ _ _ _ ((FK.of k1).trans k2) ⟨rfl, S2⟩) (he.swaps hn _ _ _)
    · cases h
  · cases h

theorem ex_aug (ih : EV prog w hW I n) (ok : EnvOK env ks) (ha : AOK A n) (S : SS hW env exC own l o s.heap) {i : Nat} {e : PySem.Expr} {x : X} {p pos : Pos} (hk : ks (nm i) = some .local) (he : TX ks e x)
    (h : exS I (.aug i .sub x) l o = some (f, l', o')) (hQ : ∀ fl s' own', FK env own own' s s' → FRel hW env exC own' f fl l' o' s'.heap → Q fl s') : wpAny (model prog w) A (exec (.AugAssign (.Name (nm i) p) .Sub e pos) env) Q E s := by
  simp only [exS] at h
  split at h
  · rename_i hf
    split at h
    · rename_i a ea
      split at h
      · rename_i b eb
        cases h
        obtain ⟨y, r0, hn0⟩ := S.loc i _ (aInt_some ea)
        have hl : ∃ m, s.heap.Ns env.locals m ∧ m (nm i) = some y := by
          rcases hn0 with ⟨_, m, h1, h2⟩ | ⟨q, _⟩
          · exact ⟨m, h1, h2⟩
          · rw [ok.loc hk] at q; rcases q with q | q <;> cases q
        obtain ⟨m, h1, h2⟩ := hl
        refine wpAny_AugAssign_Name (wpAny_loadName_local ok.kind (ok.loc hk) h1 h2 (ih he ok ha S.es (aInt_some eb) fun z s1 k1 r1 => ?_))
        cases r0
        cases r1
        exact P.isub_int (store_loc ((S.keeps k1).keep fun b o e => e) ok.kind (ok.loc hk) hf (.int _ _) fun s2 k2 S2 => hQ _ _ _ ((FK.of (kTk k1)).trans k2) ⟨rfl, S2⟩)
      · cases h
    · cases h
  · cases h

theorem ex_ret (ih : EV prog w hW I n) (ok : EnvOK env ks) (ha : AOK A n) (S : SS hW env exC own l o s.heap) {e : PySem.Expr} {x : X} {pos : Pos} (he : TX ks e x)
    (h : exS I (.ret x) l o = some (f, l', o')) (hQ : ∀ fl s' own', FK env own own' s s' → FRel hW env exC own' f fl l' o' s'.heap → Q fl s') : wpAny (model prog w) A (exec (.Return (some e) pos) env) Q E s := by
  simp only [exS] at h
  split at h
  · rename_i v ev
    cases h
    exact wpAny_Return_some (ih he ok ha S.es ev fun y s1 k1 r1 => hQ _ _ _ (FK.of k1) ⟨y, rfl, r1.mono (fun b o _ _ e => e) fun _ q => .inl q⟩)
  · cases h

theorem ex_ite (it : TST prog w hW I n) (ix : EXS prog w hW I n) (ok : EnvOK env ks) (ha : AOK A n) (S : SS hW env exC own l o s.heap) {t : PySem.Expr} {b c : List PySem.Stmt} {x : X} {b' c' : SL} {pos : Pos} (ht : TX ks t x) (hb : TSL ks b b') (hc : TSL ks c c')
    (h : exS I (.ite x b' c') l o = some (f, l', o')) (hQ : ∀ fl s' own', FK env own own' s s' → FRel hW env exC own' f fl l' o' s'.heap → Q fl s') : wpAny (model prog w) A (exec (.If t b c pos) env) Q E s := by
  simp only [exS] at h
  split at h
  · rename_i eb
    exact wpAny_If (it ht ok ha S.es eb fun s1 k1 => by
      rw [if_pos rfl]
      exact ix hb ok ha (S.keeps k1) h fun fl s2 own2 k2 r2 => hQ _ _ _ ((FK.of k1).trans k2) r2)
  · rename_i eb
    exact wpAny_If (it ht ok ha S.es eb fun s1 k1 => by
      rw [if_neg Bool.false_ne_true]
      exact ix hc ok ha (S.keeps k1) h fun fl s2 own2 k2 r2 => hQ _ _ _ ((FK.of k1).trans k2) r2)
  · cases h

theorem ex_asgC (W : WF hW mg mb fn) (ih : EV prog w hW I n) (ok : EnvOK env ks) (ha : AOK A n) (S : SS hW env exC own l o s.heap) {elt it : PySem.Expr} {elt' it' : X} {r : Bool} {i j : Nat} {cs : List Nat} {sc : Scope} {px py p pos : Pos}
    (hit : TXI ks it r it') (helt : TX (kindFn sc) elt elt') (hc : CompOK ks sc i cs) (hk : ks (nm j) = some .local) (hl : py.line = p.line ∧ ∀ q, (nm j, q) ∈ sc.names → ¬ (q = .local ∨ q = .cell))
    (h : exS I (.asgC j r elt' i cs it') l o = some (f, l', o')) (hQ : ∀ fl s' own', FK env own own' s s' → FRel hW env exC own' f fl l' o' s'.heap → Q fl s') :
    wpAny (model prog w) A (exec (.Assign [.Name (nm j) py] (.ListComp elt [⟨.Name (nm i) px, it, [], 0⟩] sc p) pos) env) Q E s := by
  simp only [exS] at h
  split at h
  · split at h
    · rename_i vs evs
      cases h
      have hsw : swapsWith (.ListComp elt [⟨.Name (nm i) px, it, [], 0⟩] sc p) (some (.Name (nm j) py)) pos.line env = pure true := by
        have h1 : env.blockKind = .function := by simp [Env.blockKind, ok.kind]
        have h2 := ok.loc hk
        have h3 : (sc.names.any fun (n, k) => n == nm j && (k == .local || k == .cell)) = false := by
          rw [List.any_eq_false]
          rintro ⟨a, k⟩ hm
          simp only [Bool.and_eq_true, beq_iff_eq, Bool.or_eq_true]
          rintro ⟨rfl, q⟩
          exact hl.2 k hm q
        simp only [swapsWith, pure_bind]
        rw [h1, h2, h3]
        show pure ((ScopeKind.function == ScopeKind.function) && (some NameKind.local == some NameKind.local) && py.line == p.line && !false) = _
        rw [hl.1]
        simp
      rw [exec_Assign_Name_used _ _ _ _ hsw]
      refine wpAny_bind (wpAny_standAt (wpAny_bind ?_))
      show wpAny _ A (do let _ ← comprehension (.ListComp elt [⟨.Name (nm i) px, it, [], 0⟩] sc p) sc env _ (newList []) false (eval it env) (some (assign (.Name (nm j) py) env))) _ _ s
      refine wpAny_bind (wpAny_mono (comp_core (use := some (assign (.Name (nm j) py) env)) (Q := fun _ s' => Q .next s') W ih ok ha S.es hit helt hc evs fun D C s' m hDC hC hD hn k hv => ?_) (fun _ s' hq => wpAny_pure (wpAny_pure hq)) fun _ _ e => e)
      have S1 := S.keeps k
      have hCL : env.locals ≠ C := by
        rintro rfl
        obtain ⟨m', o, _, _, ho, _⟩ := S.ns
        rw [hC] at ho; cases ho
      refine wpAny_assign_Name (store_loc S1 ok.kind (ok.loc hk) rfl hv fun s2 k2 S2 => ?_)
      have hn2 : s2.heap.Ns C m := by
        obtain ⟨oo, es, ep, ho, r⟩ := hn
        exact ⟨oo, es, ep, k2.hp C oo (Ne.symm hCL) (fun e => by
          obtain ⟨_, o, q⟩ := S.exs C (.inr e)
          rw [hC] at q; cases q) ho, r⟩
      refine ⟨m, hn2, fun h' hs => hQ _ _ _ (((FK.of k).trans k2).same (tk := s2.toks) hs.extBut hC) ⟨rfl, ?_⟩⟩
      exact S2.ext (mC := m) hs hn2 hCL (by
        cases e : hW.get? C with
        | none => rfl
        | some q => have := S.w _ _ e; rw [hC] at this; cases this) (fun q => by
        obtain ⟨_, o, q⟩ := S.exs C q
        rw [hC] at q; cases q)
    · cases h
  · cases h
end
end Mine

namespace Mine

theorem TX.swapsT {ks : KS} {e : PySem.Expr} {x : X} (h : TX ks e x) (elts : List PySem.Expr) (k : Nat) (p : Pos) (n : Nat) (env : Env) : swapsWithSole [.Tuple elts k p] e n env = pure false := by
  cases h <;> rfl

section
variable {prog : Program} {w : World} {hW : Heap} {mg mb : Str → Option Value} {fn : Nat → Option (List Nat × SL)} {I : R} {n : Nat} {env : Env} {ks : KS} {A : Around} {s : Shared} {l l' : Loc} {o o' : Ow} {own : Option Addr} {exC : Addr → Prop} {E : Value → Shared → Prop} {v : AV} {f : AF}

/-- two values are stored, in either order -/
theorem store_two {i j : Nat} {u v : AV} {y z : Value} {Q : Unit → Shared → Prop} (S : SS hW env exC own l o s.heap) (hk : env.scope.kind = .function) (hi : env.kindOf (nm i) = some .local) (hj : env.kindOf (nm j) = some .local) (fi : fr o i = true) (fj : fr o j = true)
    (hu : VR (exO exC own) s.heap u y) (hv : VR (exO exC own) s.heap v z) (hQ : ∀ s', FK env own own s s' → SS hW env exC own (pt (pt l i u) j v) o s'.heap → Q () s') :
    wpAny (model prog w) A (storeName env (nm i) y) (fun _ s' => wpAny (model prog w) A (storeName env (nm j) z) Q E s') E s := by
  obtain ⟨m, hn⟩ := S.ns
  exact store_loc S hk hi fi hu fun s1 k1 S1 => store_loc S1 hk hj fj (k1.vr hn hv) fun s2 k2 S2 => hQ _ (k1.trans k2) S2
theorem store_two' {i j : Nat} {u v : AV} {y z : Value} {Q : Unit → Shared → Prop} (hij : i ≠ j) (S : SS hW env exC own l o s.heap) (hk : env.scope.kind = .function) (hi : env.kindOf (nm i) = some .local) (hj : env.kindOf (nm j) = some .local) (fi : fr o i = true) (fj : fr o j = true)
    (hu : VR (exO exC own) s.heap u y) (hv : VR (exO exC own) s.heap v z) (hQ : ∀ s', FK env own own s s' → SS hW env exC own (pt (pt l i u) j v) o s'.heap → Q () s') :
    wpAny (model prog w) A (storeName env (nm j) z) (fun _ s' => wpAny (model prog w) A (storeName env (nm i) y) Q E s') E s := by
  refine store_two S hk hj hi fj fi hv hu fun s' k S' => hQ s' k (S'.lk fun k => ?_)
  simp only [lk_pt]
  by_cases h1 : i = k
  · subst h1
    rw [if_neg (Ne.symm hij), if_pos rfl, if_pos rfl]
  · by_cases h2 : j = k
    · rw [if_pos h2, if_neg h1, if_pos h2]
    · rw [if_neg h2, if_neg h1, if_neg h1, if_neg h2]

/-- a pair is taken apart into two names -/
theorem pair_names {Q : Unit → Shared → Prop} {i j : Nat} {p q : Pos} {y z : Value}
    (h : wpAny (model prog w) A (storeName env (nm i) y) (fun _ s' => wpAny (model prog w) A (storeName env (nm j) z) Q E s') E s) :
    wpAny (model prog w) A (assignInOrder ((assignEach [.Name (nm i) p, .Name (nm j) q] env).map (·.2)) [y, z]) Q E s := by
  show wpAny _ A (do holding [z] (assign (.Name (nm i) p) env y); do holding [] (assign (.Name (nm j) q) env z); pure ()) Q E s
  refine wpAny_bind (wpAny_holding (wpAny_assign_Name (wpAny_mono h (fun _ s1 h1 => ?_) fun _ _ e => e)))
  exact wpAny_bind (wpAny_holding (wpAny_assign_Name (wpAny_mono h1 (fun _ s2 h2 => wpAny_pure h2) fun _ _ e => e)))
theorem pair_swapped {Q : Unit → Shared → Prop} {i j : Nat} {y z : Value}
    (h : wpAny (model prog w) A (storeName env (nm j) z) (fun _ s' => wpAny (model prog w) A (storeName env (nm i) y) Q E s') E s) :
    wpAny (model prog w) A (assignInOrder ([nm i, nm j].reverse.map fun n => bindName env n) [y, z].reverse) Q E s := by
  show wpAny _ A (do holding [y] (bindName env (nm j) z); do holding [] (bindName env (nm i) y); pure ()) Q E s
  refine wpAny_bind (wpAny_holding (wpAny_bindName (wpAny_mono h (fun _ s1 h1 => ?_) fun _ _ e => e)))
  exact wpAny_bind (wpAny_holding (wpAny_bindName (wpAny_mono h1 (fun _ s2 h2 => wpAny_pure h2) fun _ _ e => e)))

/-- the statement that takes a pair apart: the stores come in either order -/
theorem assign_pair {Q : Flow → Shared → Prop} {i j : Nat} {p q : Pos} {k : Nat} {tp pos : Pos} {e : PySem.Expr} (ok : EnvOK env ks) (ha : AOK A n) (hi : ks (nm i) = some .local) (hj : ks (nm j) = some .local)
    (hs : swapsWithSole [.Tuple [.Name (nm i) p, .Name (nm j) q] k tp] e pos.line env = pure false)
    (hsw : ∀ env : Env, env.blockKind = .function → env.kindOf (nm i) = some .local → env.kindOf (nm j) = some .local →
        swappedStores [.Tuple [.Name (nm i) p, .Name (nm j) q] k tp] e env = pure none ∨ swappedStores [.Tuple [.Name (nm i) p, .Name (nm j) q] k tp] e env = pure (some [nm i, nm j]))
    (h : wpAny (model prog w) A (eval e env) (fun t s1 => ∃ a y z, t = .ref a ∧ IsTup s1.heap a #[y, z] ∧ ∀ s2, Keeps s1 s2 →
      wpAny (model prog w) A (storeName env (nm i) y) (fun _ s' => wpAny (model prog w) A (storeName env (nm j) z) (fun _ => Q .next) E s') E s2 ∧
      wpAny (model prog w) A (storeName env (nm j) z) (fun _ s' => wpAny (model prog w) A (storeName env (nm i) y) (fun _ => Q .next) E s') E s2) E s) :
    wpAny (model prog w) A (exec (.Assign [.Tuple [.Name (nm i) p, .Name (nm j) q] k tp] e pos) env) Q E s := by
  have kx : ∀ {s1 : Shared} {h' : Heap}, Heap.ExtBut s1.heap.objs.size s1.heap h' → Keeps s1 { s1 with heap := h' } := fun {s1} {h'} hx => ⟨h', s1.toks, rfl, fun b o e => hx b o (Nat.ne_of_lt (Heap.lt_size e)) e⟩
  rcases hsw env (by simp [Env.blockKind, ok.kind]) (ok.loc hi) (ok.loc hj) with hw | hw
  · refine Assign_Tuple (wpAny_mono h (fun t s1 h1 => ?_) fun _ _ x => x) hs hw
    obtain ⟨a, y, z, rfl, ht, h1⟩ := h1
    exact assign_Tuple_tuple ha.hd ht rfl rfl fun h' hx => pair_names (h1 _ (kx hx)).1
  · refine Assign_Tuple_swapped (wpAny_mono h (fun t s1 h1 => ?_) fun _ _ x => x) hs hw
    obtain ⟨a, y, z, rfl, ht, h1⟩ := h1
    have hn : [nm i, nm j].length = (#[y, z] : Array Value).size := rfl
    rw [hn]
    refine unpackItems_tuple ha.hd ht fun h' hx => ?_
    exact pair_swapped (h1 _ (kx hx)).2

theorem frL2 {o : Ow} {i j : Nat} (h : frL o [i, j] = true) : fr o i = true ∧ fr o j = true := by
  unfold frL at h
  split at h
  · rename_i h1
    unfold frL at h
    split at h
    · rename_i h2
      exact ⟨h1, h2⟩
    · cases h
  · cases h
theorem frL1 {o : Ow} {i : Nat} (h : frL o [i] = true) : fr o i = true := by
  unfold frL at h
  split at h
  · rename_i h1
    exact h1
  · cases h

theorem ex_asgT {Q : Flow → Shared → Prop} (ih : EV prog w hW I n) (ok : EnvOK env ks) (ha : AOK A n) (S : SS hW env exC own l o s.heap) {i j : Nat} {e : PySem.Expr} {x : X} {p q tp pos : Pos} {k : Nat} (hij : i ≠ j) (hi : ks (nm i) = some .local) (hj : ks (nm j) = some .local) (he : TX ks e x)
    (hsw : ∀ env : Env, env.blockKind = .function → env.kindOf (nm i) = some .local → env.kindOf (nm j) = some .local →
        swappedStores [.Tuple [.Name (nm i) p, .Name (nm j) q] k tp] e env = pure none ∨ swappedStores [.Tuple [.Name (nm i) p, .Name (nm j) q] k tp] e env = pure (some [nm i, nm j]))
    (h : exS I (.asgT i j x) l o = some (f, l', o')) (hQ : ∀ fl s' own', FK env own own' s s' → FRel hW env exC own' f fl l' o' s'.heap → Q fl s') :
    wpAny (model prog w) A (exec (.Assign [.Tuple [.Name (nm i) p, .Name (nm j) q] k tp] e pos) env) Q E s := by
  simp only [exS] at h
  split at h
  · rename_i hf
    obtain ⟨fi, fj⟩ := frL2 hf
    split at h
    · rename_i vs ev
      split at h
      · rename_i u v
        cases h
        refine assign_pair ok ha hi hj (he.swapsT _ _ _ _ _) hsw (ih he ok ha S.es ev fun t s1 k1 r1 => ?_)
        cases r1 with
        | tup hx ht hs =>
          rename_i a items
          obtain ⟨y, z, rfl, hu, hv⟩ : ∃ y z, items = #[y, z] ∧ VR (exO exC own) s1.heap u y ∧ VR (exO exC own) s1.heap v z := by
            obtain ⟨its⟩ := items
            cases hs with
            | cons h1 h2 =>
              cases h2 with
              | cons h3 h4 =>
                cases h4
                exact ⟨_, _, rfl, h1, h3⟩
          refine ⟨_, _, _, rfl, ht, fun s2 k2 => ⟨?_, ?_⟩⟩
          · exact store_two ((S.keeps k1).keeps k2) ok.kind (ok.loc hi) (ok.loc hj) fi fj (hu.keep (kHp k2)) (hv.keep (kHp k2)) fun s3 k3 S3 => hQ _ _ _ ((FK.of (kTr k1 k2)).trans k3) ⟨rfl, S3⟩
          · exact store_two' hij ((S.keeps k1).keeps k2) ok.kind (ok.loc hi) (ok.loc hj) fi fj (hu.keep (kHp k2)) (hv.keep (kHp k2)) fun s3 k3 S3 => hQ _ _ _ ((FK.of (kTr k1 k2)).trans k3) ⟨rfl, S3⟩
      · cases h
    · cases h
  · cases h
end
end Mine

namespace Mine

theorem Obj_set_plain (its : Array Value) (n j : Nat) (x : Value) : ∃ n', Obj.mapSeq (·.setIfInBounds j x) { cls := .type "list", data := .seq its n } = { cls := .type "list", data := .seq (its.setIfInBounds j x) n' } := by
  simp [Obj.mapSeq]

section
variable {prog : Program} {w : World} {hW : Heap} {mg mb : Str → Option Value} {fn : Nat → Option (List Nat × SL)} {I : R} {n : Nat} {env : Env} {ks : KS} {A : Around} {s : Shared} {l l' : Loc} {o o' : Ow} {own : Option Addr} {exC : Addr → Prop} {E : Value → Shared → Prop} {v : AV} {f : AF}

theorem setItem_plain {l : Addr} {items : Array Value} {k : Int} {t : Tok} {v : Value} {Q : Unit → Shared → Prop} (hl : s.heap.PlainList l items)
    (h0 : 0 ≤ k) (hfit : k < 2 ^ 63) (hn : k < items.size)
    (hQ : ∀ h', h'.PlainList l (items.setIfInBounds k.toNat v) → Heap.SameBut l s.heap h' → Q () { s with heap := h' }) :
    wpAny (model prog w) A (setItem (.ref l) (.int k t) v) Q E s := by
  obtain ⟨ne, ho⟩ := hl
  obtain ⟨n', hd'⟩ := Obj_set_plain items ne k.toNat v
  exact ki_setAt ho h0 hfit hn (hQ _ ⟨n', by rw [Heap.get?_update_self _ ho (by rw [hd']; rfl), hd']⟩ (Heap.SameBut.update ..))

theorem ex_setO1 {Q : Flow → Shared → Prop} (ih : EV prog w hW I n) (ok : EnvOK env ks) (ha : AOK A n) (S : SS hW env exC own l o s.heap) {i : Nat} {e g : PySem.Expr} {x y : X} {np sp pos : Pos} (he : TX ks e x) (hg : TX ks g y) (hsw : ∀ t n, swapsWith g (some (.Subscript (.Name (nm i) np) t sp)) n env = pure false)
    (h : exS I (.setO i x y) l o = some (f, l', o')) (hQ : ∀ s', FK env own own s s' → SS hW env exC own l' o' s'.heap → f = .next → Q .next s') :
    wpAny (model prog w) A (exec (.Assign [.Subscript (.Name (nm i) np) e sp] g pos) env) Q E s := by
  simp only [exS] at h
  split at h
  · rename_i w vs
    split at h
    · rename_i hw
      have hw := Nat.eq_of_beq_eq_true hw
      subst hw
      split at h
      · rename_i u eu
        split at h
        · rename_i j ej
          split at h
          · rename_i hz
            split at h
            · rename_i ws ews
              cases h
              have hown := S.own
              unfold OwnOf at hown
              cases own with
              | none => exact hown.elim
              | some a =>
                obtain ⟨items, h1, h2, h3, h4⟩ := hown
                refine wpAny_Assign_Subscript (ih hg ok ha S.es eu fun yu s1 k1 r1 => name_var ok rfl (h1.keep (kHp k1)) (ih he ok ha (S.keeps k1).es (aInt_some ej) fun yj s2 k2 r2 => ?_)) (hsw _ _)
                cases r2
                rename_i tj
                have hlen := h3.length
                rw [Array.length_toList] at hlen
                have := okN_le hz
                unfold setV at ews
                split at ews
                · rename_i jn
                  split at ews
                  · rename_i hj
                    have hj : jn < vs.length := Nat.le_of_ble_eq_true hj
                    cases ews
                    have k12 := kTr k1 k2
                    have hp2 := h2.at fun o => kHp k12 _ o
                    refine setItem_plain hp2 (Int.natCast_nonneg jn) (by show (jn : Int) < 2 ^ 63; omega) (by show (jn : Int) < _; omega) fun h' hl' hs => ?_
                    have S2 := S.keeps k12
                    have k : KeepSeq (exO exC (some a)) s2.heap h' := ksSame hs.extBut (.inl (.inr rfl))
                    have nameK : ∀ z c, NameIs env s2.heap z c → NameIs env h' z c := fun z c r => by
                      rcases r with ⟨b, m, c, d⟩ | ⟨b, c, d, e⟩
                      · exact .inl ⟨b, m, c.sameBut hs (Ne.symm (list_ne_ns hp2 c)), d⟩
                      · refine .inr ⟨b, c, d, e.sameBut hs ?_⟩
                        rintro rfl
                        obtain ⟨o1, ho1, hd1⟩ := e
                        obtain ⟨n1, hp2⟩ := hp2
                        rw [hp2] at ho1; cases ho1; cases hd1
                    have dom : ∀ b o, s2.heap.get? b = some o → ∃ o', h'.get? b = some o' := fun b o e => by
                      by_cases hb : b = a
                      · subst hb
                        obtain ⟨n1, hl'⟩ := hl'
                        exact ⟨_, hl'⟩
                      · exact ⟨o, hs.extBut b o hb e⟩
                    refine hQ _ ?_ ⟨fun b o e => hs.extBut b o (by rintro rfl; rw [(S.exs _ (.inr rfl)).1] at e; cases e) (S2.w b o e), fun z c e => ?_, fun b q => ?_, ?_, S.L, ?_⟩ rfl
                    · obtain ⟨h0, tk0, rfl, kk⟩ := k12
                      exact ⟨⟨h', tk0, rfl⟩, fun b o _ hb e => hs.extBut b o (fun q => hb (by rw [q])) (kk b o e), fun b o e => dom b o (kk b o e), fun b e => .inl e⟩
                    · obtain ⟨x, q1, q2⟩ := S2.loc z c e
                      exact ⟨x, q1.mono k fun _ q => q, nameK _ _ q2⟩
                    · obtain ⟨q1, o, q2⟩ := S2.exs b q
                      exact ⟨q1, dom b o q2⟩
                    · obtain ⟨m, hn⟩ := S2.ns
                      exact ⟨m, hn.sameBut hs (Ne.symm (list_ne_ns hp2 hn))⟩
                    · refine ⟨_, nameK _ _ (h1.keep (kHp k12)), hl', ?_, h4⟩
                      rw [Array.toList_setIfInBounds]
                      exact ((h3.keep (kHp k12)).mono k fun _ q => q).set jn ((r1.keep (kHp k2)).mono k fun _ q => q)
                  · cases ews
                · cases ews
            · cases h
          · cases h
        · cases h
      · cases h
    · cases h
  · cases h

theorem ex_setO {Q : Flow → Shared → Prop} (ih : EV prog w hW I n) (ok : EnvOK env ks) (ha : AOK A n) (S : SS hW env exC own l o s.heap) {i : Nat} {e g : PySem.Expr} {x y : X} {np sp pos : Pos} (he : TX ks e x) (hg : TX ks g y) (hsw : ∀ t n, swapsWith g (some (.Subscript (.Name (nm i) np) t sp)) n env = pure false)
    (h : exS I (.setO i x y) l o = some (f, l', o')) (hQ : ∀ fl s' own', FK env own own' s s' → FRel hW env exC own' f fl l' o' s'.heap → Q fl s') :
    wpAny (model prog w) A (exec (.Assign [.Subscript (.Name (nm i) np) e sp] g pos) env) Q E s :=
  ex_setO1 ih ok ha S he hg hsw h fun s' k S' hf => hQ _ _ _ k (by subst hf; exact ⟨rfl, S'⟩)

theorem ex_rel {Q : Shared → Prop} {i : Nat} {vs : List AV} (S : SS hW env exC own l (some (i, vs)) s.heap) (hQ : FK env own none s s → SS hW env exC none (pt l i (.lst vs)) .none s.heap → Q s) : Q s := by
  have hown := S.own
  unfold OwnOf at hown
  cases own with
  | none => exact hown.elim
  | some a =>
    obtain ⟨items, h1, h2, h3, h4⟩ := hown
    have sub : ∀ b, exO exC none b → exO exC (some a) b := fun b q => q.elim .inl fun q => by cases q
    refine hQ ⟨⟨_, _, rfl⟩, fun b o _ _ e => e, fun b o e => ⟨o, e⟩, fun b e => by cases e⟩ ⟨S.w, fun j u e => ?_, fun b q => S.exs b (sub b q), S.ns, S.L, trivial⟩
    rw [lk_pt] at e
    split at e
    · rename_i hij
      subst hij
      cases e
      exact ⟨_, .lst (fun q => q.elim h4 fun q => by cases q) h2 (h3.mono (fun b o _ _ e => e) sub), h1⟩
    · obtain ⟨x, q1, q2⟩ := S.loc j u e
      exact ⟨x, q1.mono (fun b o _ _ e => e) sub, q2⟩

/-- a fresh list is set apart -/
theorem SS.apart {s2 : Shared} {L : Addr} (S : SS hW env exC none l .none s.heap) (k : Keeps s s2) (hL : s.heap.get? L = none) (hL2 : ∃ o, s2.heap.get? L = some o) : SS hW env (fun b => exC b ∨ b = L) none l .none s2.heap := by
  refine ⟨fun b o e => kHp k b o (S.w b o e), fun j u e => ?_, fun b q => ?_, ?_, S.L, trivial⟩
  · obtain ⟨x, q1, q2⟩ := S.loc j u e
    refine ⟨x, (q1.strong fun b q => ?_).keep (kHp k), q2.keep (kHp k)⟩
    rcases q with (q | q) | q
    · exact .inl (.inl q)
    · exact .inr (by rw [q]; exact hL)
    · cases q
  · rcases q with (q | q) | q
    · obtain ⟨q1, o, q2⟩ := S.exs b (.inl q)
      exact ⟨q1, o, kHp k b o q2⟩
    · subst q
      refine ⟨?_, hL2⟩
      cases e : hW.get? b with
      | none => rfl
      | some o => have := S.w _ _ e; rw [hL] at this; cases this
    · cases q
  · obtain ⟨m, hn⟩ := S.ns
    exact ⟨m, hn.keeps (kHp k)⟩

theorem store_own {L : Addr} {i : Nat} {ws : List AV} {items : Array Value} {Q : Unit → Shared → Prop} (S : SS hW env (fun b => exC b ∨ b = L) none l .none s.heap) (hk : env.scope.kind = .function) (hl : env.kindOf (nm i) = some .local) (hf : lk l i = .none)
    (hp : s.heap.PlainList L items) (hv : VRs (fun b => exC b ∨ b = L) s.heap ws items.toList) (hLC : ¬ exC L)
    (hQ : ∀ s', FK env none none s s' → SS hW env exC (some L) l (some (i, ws)) s'.heap → Q () s') : wpAny (model prog w) A (storeName env (nm i) (.ref L)) Q E s := by
  obtain ⟨m, hn⟩ := S.ns
  refine wpAny_storeName_local hl hn (fun h' hn' hs => ?_) (by rw [hk]; rfl)
  have k : ∀ ex, KeepSeq ex s.heap h' := fun ex => ksSame hs.extBut (.inr (ns_nseq hn))
  have dom : ∀ b o, s.heap.get? b = some o → ∃ o', h'.get? b = some o' := fun b o e => by
    by_cases hb : b = env.locals
    · subst hb
      obtain ⟨o', _, _, h1, _⟩ := hn'
      exact ⟨o', h1⟩
    · exact ⟨o, hs.extBut b o hb e⟩
  have nameK : ∀ j x, j ≠ i → NameIs env s.heap (nm j) x → NameIs env h' (nm j) x := fun j x hj r => by
    rcases r with ⟨a, m', b, c⟩ | ⟨a, c, d, e⟩
    · refine .inl ⟨a, _, hn', ?_⟩
      show (if nm j = nm i then _ else m (nm j)) = some x
      rw [if_neg (fun q => hj (nm_inj q)), ns_det hn b]
      exact c
    · refine .inr ⟨a, c, d, ?_⟩
      have := cell_ne_ns e hn
      obtain ⟨o, ho, hd⟩ := e
      exact ⟨o, hs.extBut c o this ho, hd⟩
  have sub : ∀ b, exO exC (some L) b → (exC b ∨ b = L) := fun b q => q.imp id fun q => by cases q; rfl
  refine hQ _ ⟨⟨h', _, rfl⟩, fun b o hb _ e => hs.extBut b o hb e, dom, fun b e => .inl e⟩ ⟨fun b o e => hs.extBut b o (by rintro rfl; rw [S.L] at e; cases e) (S.w b o e), fun j u e => ?_, fun b q => ?_, ⟨_, hn'⟩, S.L, ?_⟩
  · by_cases hij : j = i
    · subst hij
      rw [hf] at e; cases e
    · obtain ⟨x, h1, h2⟩ := S.loc j u e
      exact ⟨x, h1.mono (k _) fun b q => .inl (sub b q), nameK j x hij h2⟩
  · obtain ⟨h1, o, h2⟩ := S.exs b (.inl (sub b q))
    exact ⟨h1, dom b o h2⟩
  · exact ⟨items, .inl ⟨hl, _, hn', by simp⟩, hp.extBut hs.extBut (list_ne_ns hp hn), hv.mono (k _) sub, hLC⟩

theorem FK.setOwn {s' : Shared} {L : Addr} {own : Option Addr} (k : FK env own none s s') (hL : s.heap.get? L = none) : FK env own (some L) s s' := ⟨k.sh, k.hp, k.dom, fun b e => by cases e; exact .inr hL⟩

theorem isNone_eq {a : Option AV} (h : isNone a = true) : a = .none := by
  unfold isNone at h
  split at h
  · cases h
  · rfl

/-- `[..] * n` made fresh -/
theorem fresh_list {Q : Value → Shared → Prop} (ih : EV prog w hW I n) (ok : EnvOK env ks) (ha : AOK A n) (S : SS hW env exC none l .none s.heap) {e g : PySem.Expr} {x y : X} {p : Pos} {vs ws : List AV} {c : Int} (he : TX ks e x) (hg : TX ks g y)
    (h1 : I.ev x l .none = some (.lst vs)) (h2 : I.ev y l .none = some (.int c)) (h3 : mulL vs c = some ws)
    (hQ : ∀ L s2 items, Keeps s s2 → s.heap.get? L = none → ¬ exC L → s2.heap.PlainList L items → VRs (fun b => exC b ∨ b = L) s2.heap ws items.toList → Q (.ref L) s2) : wpAny (model prog w) A (eval (.BinOp e .Mult g p) env) Q E s := by
  refine wpAny_BinOp (ih he ok ha S.es h1 fun ya s1 k1 r1 => ih hg ok ha (S.keeps k1).es h2 fun yb s2 k2 r2 => ?_)
  cases r2
  cases r1 with
  | lst hx hi hs =>
    rename_i a items
    unfold mulL at h3
    split at h3
    · rename_i hz
      split at h3
      · rename_i hc
        cases h3
        have hlen := okN_le hz
        rw [← hs.length] at hlen
        have k12 := kTr k1 k2
        have hnone : s2.heap.get? s2.heap.objs.size = none := by
          cases e : s2.heap.get? s2.heap.objs.size with
          | none => rfl
          | some o => exact absurd (Heap.lt_size e) (Nat.lt_irrefl _)
        have hnone0 : s.heap.get? s2.heap.objs.size = none := by
          cases e : s.heap.get? s2.heap.objs.size with
          | none => rfl
          | some o => have := kHp k12 _ _ e; rw [hnone] at this; cases this
        refine mul_lst (hi.at fun o => kHp k2 _ o) (okI_le hc) (by simpa using hlen) (hQ _ _ _ (kPush k12 _) hnone0 (fun q => ?_) ⟨0, Heap.get?_push_size _ rfl⟩ ?_)
        · obtain ⟨_, o, e⟩ := S.exs _ (.inl q)
          rw [hnone0] at e; cases e
        · exact (((hs.keep (kHp k2)).strong (ex' := fun b => exC b ∨ b = s2.heap.objs.size) fun b q => q.elim (fun q => .inl (.inl q)) fun q => .inr (by rw [q]; exact hnone)).rep _).keep fun b o e => Heap.get?_push_of_some _ e
      · cases h3
    · cases h3
end
end Mine

namespace Mine

section
variable {prog : Program} {w : World} {hW : Heap} {mg mb : Str → Option Value} {fn : Nat → Option (List Nat × SL)} {I : R} {n : Nat} {env : Env} {ks : KS} {A : Around} {s : Shared} {l l' : Loc} {o o' : Ow} {own : Option Addr} {exC : Addr → Prop} {E : Value → Shared → Prop} {v : AV} {f : AF} {Q : Flow → Shared → Prop}

theorem OwnOf.none {h : Heap} (r : OwnOf env exC own h .none) : own = .none := by
  unfold OwnOf at r
  cases own with
  | none => rfl
  | some a => exact r.elim

theorem ex_asgO (ih : EV prog w hW I n) (ok : EnvOK env ks) (ha : AOK A n) (S : SS hW env exC own l o s.heap) {i : Nat} {e g : PySem.Expr} {x y : X} {p bp pos : Pos} (hk : ks (nm i) = some .local) (he : TX ks e x) (hg : TX ks g y)
    (h : exS I (.asgO i x y) l o = some (f, l', o')) (hQ : ∀ fl s' own', FK env own own' s s' → FRel hW env exC own' f fl l' o' s'.heap → Q fl s') :
    wpAny (model prog w) A (exec (.Assign [.Name (nm i) p] (.BinOp e .Mult g bp) pos) env) Q E s := by
  simp only [exS] at h
  split at h
  · split at h
    · rename_i vs ev
      split at h
      · rename_i c ec
        split at h
        · rename_i ws ews
          split at h
          · rename_i hn
            cases h
            have e := S.own.none
            subst e
            refine wpAny_Assign_Name (fresh_list ih ok ha S he hg (aLst_some ev) (aInt_some ec) ews fun L s2 items k2 hL hLC hp hv => ?_) rfl
            exact store_own (S.apart k2 hL ⟨_, hp.choose_spec⟩) ok.kind (ok.loc hk) (isNone_eq hn) hp hv hLC fun s3 k3 S3 => hQ _ _ _ (((FK.of k2).trans k3).setOwn hL) ⟨rfl, S3⟩
          · cases h
        · cases h
      · cases h
    · cases h
  · cases h

theorem FK.keepS {s' : Shared} {m : Str → Option Value} {ex : Addr → Prop} (k : FK env .none .none s s') (hn : s.heap.Ns env.locals m) : KeepSeq ex s.heap s'.heap := fun b o hb hd e =>
  k.hp b o (by rintro rfl; exact ns_nseq hn o e hd) (by intro q; cases q) e

theorem ex_asgTO (ih : EV prog w hW I n) (ok : EnvOK env ks) (ha : AOK A n) (S : SS hW env exC own l o s.heap) {i j : Nat} {e g g2 : PySem.Expr} {x y z : X} {p q tp bp tp' pos : Pos} {k k' : Nat} (hij : i ≠ j) (hi : ks (nm i) = some .local) (hj : ks (nm j) = some .local) (he : TX ks e x) (hg : TX ks g y) (hg2 : TX ks g2 z)
    (hsw : ∀ env : Env, env.blockKind = .function → env.kindOf (nm i) = some .local → env.kindOf (nm j) = some .local →
        swappedStores [.Tuple [.Name (nm i) p, .Name (nm j) q] k tp] (.Tuple [e, .BinOp g .Mult g2 bp] k' tp') env = pure none ∨ swappedStores [.Tuple [.Name (nm i) p, .Name (nm j) q] k tp] (.Tuple [e, .BinOp g .Mult g2 bp] k' tp') env = pure (some [nm i, nm j]))
    (h : exS I (.asgTO i j x y z) l o = some (f, l', o')) (hQ : ∀ fl s' own', FK env own own' s s' → FRel hW env exC own' f fl l' o' s'.heap → Q fl s') :
    wpAny (model prog w) A (exec (.Assign [.Tuple [.Name (nm i) p, .Name (nm j) q] k tp] (.Tuple [e, .BinOp g .Mult g2 bp] k' tp') pos) env) Q E s := by
  simp only [exS] at h
  split at h
  · split at h
    · rename_i u eu
      split at h
      · rename_i vs ev
        split at h
        · rename_i c ec
          split at h
          · rename_i ws ews
            split at h
            · rename_i hn
              cases h
              have e0 := S.own.none
              subst e0
              refine assign_pair ok ha hi hj rfl hsw ?_
              refine wpAny_Tuple (wpAny_items_cons (ih he ok ha S.es eu fun ya s1 k1 r1 => ?_) (he.star _ _))
              refine wpAny_items_cons (fresh_list ih ok ha (S.keeps k1) hg hg2 (aLst_some ev) (aInt_some ec) ews fun L s2 items k2 hL hLC hp hv => wpAny_items_nil ?_) rfl
              refine ⟨sz (show 2 ≤ 1000000 by decide), _, _, _, rfl, ⟨_, Heap.get?_push_size _ rfl, rfl, _, rfl⟩, fun s4 k4 => ?_⟩
              have k24 : Keeps s2 s4 := kTr (kPush (kRfl s2) _) k4
              have S4 := ((S.keeps k1).apart k2 hL ⟨_, hp.choose_spec⟩).keeps k24
              have hp4 := hp.at fun o => kHp k24 _ o
              have hv4 := hv.keep (kHp k24)
              have r4 : VR (exO (fun b => exC b ∨ b = L) none) s4.heap u ya := ((r1.strong (ex' := exO (fun b => exC b ∨ b = L) none) fun b q => by
                rcases q with (q | q) | q
                · exact .inl (.inl q)
                · exact .inr (by rw [q]; exact hL)
                · cases q).keep (kHp k2)).keep (kHp k24)
              have k04 : FK env none none s s4 := FK.of (kTr (kTr k1 k2) k24)
              have hL0 : s.heap.get? L = none := by
                cases e : s.heap.get? L with
                | none => rfl
                | some o => have := kHp k1 _ _ e; rw [hL] at this; cases this
              obtain ⟨m4, hn4⟩ := S4.ns
              refine ⟨?_, ?_⟩
              · refine store_loc S4 ok.kind (ok.loc hi) rfl r4 fun s5 k5 S5 => ?_
                refine store_own S5 ok.kind (ok.loc hj) (by rw [lk_pt, if_neg hij]; exact isNone_eq hn) (hp4.at fun o e => k5.hp _ o (list_ne_ns hp4 hn4) (by intro q; cases q) e) (hv4.mono (k5.keepS hn4) fun _ q => q) hLC fun s6 k6 S6 => ?_
                exact hQ _ _ _ (((k04.trans k5).trans k6).setOwn hL0) ⟨rfl, S6⟩
              · refine store_own S4 ok.kind (ok.loc hj) (isNone_eq hn) hp4 hv4 hLC fun s5 k5 S5 => ?_
                refine store_loc S5 ok.kind (ok.loc hi) ?_ (r4.mono (k5.keepS hn4) fun b q => .inl (q.imp id fun q => by cases q; rfl)) fun s6 k6 S6 => ?_
                · cases hb : Nat.beq j i with
                  | true => exact absurd (Nat.eq_of_beq_eq_true hb).symm hij
                  | false => simp only [fr, hb]
                · exact hQ _ _ _ (((k04.trans k5).setOwn hL0).trans k6) ⟨rfl, S6⟩
            · cases h
          · cases h
        · cases h
      · cases h
    · cases h
  · cases h

theorem ex_whl (hT : ∀ m ≤ n, TST prog w hW (rn fn m) m) (hX : ∀ m ≤ n, EXS prog w hW (rn fn m) m) (ok : EnvOK env ks) (ha : AOK A (n + 1)) (S : SS hW env exC own l o s.heap) {t : PySem.Expr} {b : List PySem.Stmt} {t' : X} {b' : SL} {pos : Pos} (ht : TX ks t t') (hb : TSL ks b b')
    (h : (rn fn (n + 1)).exo (.whl t' b') l o = some (f, l', o')) (hQ : ∀ fl s' own', FK env own own' s s' → FRel hW env exC own' f fl l' o' s'.heap → Q fl s') :
    wpAny (model prog w) A (exec (.While t b [] pos) env) Q E s := by
  refine wpAny_While (codeAny_whileLoop (fun k s' => k ≤ n + 1 ∧ ∃ l1 o1 own1, FK env own own1 s s' ∧ SS hW env exC own1 l1 o1 s'.heap ∧ (rn fn k).exo (.whl t' b') l1 o1 = some (f, l', o')) ?_ (n + 1) ⟨Nat.le_refl _, l, o, own, FK.of (kRfl s), S, h⟩)
  rintro k s' ⟨hk, l1, o1, own1, k1, S1, h⟩
  cases k with
  | zero => cases h
  | succ k =>
    have h : exS (rn fn k) (.whl t' b') l1 o1 = some (f, l', o') := h
    have hkn : k ≤ n := Nat.le_of_succ_le_succ hk
    simp only [exS] at h
    split at h
    · rename_i eb
      refine hT k hkn ht ok (ha.le hk |>.le (Nat.le_succ _)) S1.es eb fun s2 k2 => ?_
      rw [if_pos rfl]
      split at h
      · rename_i l2 o2 ex2
        refine hX k hkn hb ok (ha.le hk |>.le (Nat.le_succ _)) (S1.keeps k2) ex2 fun fl s3 own3 k3 r3 => ?_
        obtain ⟨rfl, S3⟩ := r3
        exact ⟨k, Nat.lt_succ_self _, Nat.le_of_succ_le hk, l2, o2, own3, (k1.trans (FK.of k2)).trans k3, S3, h⟩
      · rename_i hne
        refine hX k hkn hb ok (ha.le hk |>.le (Nat.le_succ _)) (S1.keeps k2) h fun fl s3 own3 k3 r3 => ?_
        have hfin := hQ fl s3 own3 ((k1.trans (FK.of k2)).trans k3) r3
        cases f with
        | next => exact absurd h (hne _ _)
        | ret v =>
          obtain ⟨y, rfl, r3⟩ := r3
          exact hfin
    · rename_i eb
      cases h
      refine hT k hkn ht ok (ha.le hk |>.le (Nat.le_succ _)) S1.es eb fun s2 k2 => ?_
      rw [if_neg Bool.false_ne_true]
      exact wpAny_execs_nil (hQ _ _ _ (k1.trans (FK.of k2)) ⟨rfl, S1.keeps k2⟩)
    · cases h
end
end Mine

namespace Mine

section
variable {prog : Program} {w : World} {hW : Heap} {mg mb : Str → Option Value} {fn : Nat → Option (List Nat × SL)} {I : R} {n : Nat} {env : Env} {ks : KS} {A : Around} {s : Shared} {l l' : Loc} {o o' : Ow} {own : Option Addr} {exC : Addr → Prop} {E : Value → Shared → Prop} {v : AV} {f : AF} {Q : Flow → Shared → Prop}

noncomputable def Plain (h : Heap) (b : Addr) : Prop := ∃ o, h.get? b = some o ∧ (∀ xs n, o.data ≠ .seq xs n) ∧ (∀ v, o.data ≠ .cell v) 
theorem SS.frame {h h' : Heap} (D : Addr → Prop) (S : SS hW env exC own l o h) (hk : ∀ b o, ¬ D b → h.get? b = some o → h'.get? b = some o) (hD : ∀ b, D b → hW.get? b = none ∧ b ≠ env.locals ∧ ¬ exO exC own b ∧ Plain h b) : SS hW env exC own l o h' := by
  have k : ∀ ex, KeepSeq ex h h' := fun ex b o _ hd e => hk b o (fun q => by
    obtain ⟨_, _, _, o', e', h1, _⟩ := hD b q
    rw [e] at e'; cases e'
    obtain ⟨xs, n, hd⟩ := hd
    exact h1 xs n hd) e
  have nameK : ∀ x v, NameIs env h x v → NameIs env h' x v := fun x v r => by
    rcases r with ⟨a, m, b, c⟩ | ⟨a, c, d, o1, ho, hd⟩
    · exact .inl ⟨a, m, b.at' fun o e => hk _ o (fun q => (hD _ q).2.1 rfl) e, c⟩
    · refine .inr ⟨a, c, d, o1, hk c o1 (fun q => ?_) ho, hd⟩
      obtain ⟨_, _, _, o', e', _, h1⟩ := hD c q
      rw [ho] at e'; cases e'
      exact h1 _ hd
  refine ⟨fun b o e => hk b o (fun q => by have := (hD b q).1; rw [e] at this; cases this) (S.w b o e), fun j v e => ?_, fun b q => ?_, ?_, S.L, ?_⟩
  · obtain ⟨x, h1, h2⟩ := S.loc j v e
    exact ⟨x, h1.mono (k _) fun _ q => q, nameK _ _ h2⟩
  · obtain ⟨h1, o, h2⟩ := S.exs b q
    exact ⟨h1, o, hk b o (fun r => (hD b r).2.2.1 q) h2⟩
  · obtain ⟨m, hn⟩ := S.ns
    exact ⟨m, hn.at' fun o e => hk _ o (fun q => (hD _ q).2.1 rfl) e⟩
  · have := S.own
    unfold OwnOf at this ⊢
    split
    · trivial
    · obtain ⟨items, h1, ⟨n, h2⟩, h3, h4⟩ := this
      exact ⟨items, nameK _ _ h1, ⟨n, k (fun _ => False) _ _ (fun q => q) ⟨_, _, rfl⟩ h2⟩, h3.mono (k _) fun _ q => q, h4⟩
    · simp at this
theorem FK.frame {own' : Option Addr} {s' : Shared} {h' : Heap} {tk : Nat} (D : Addr → Prop) (k : FK env own own' s s') (hk : ∀ b o, ¬ D b → s'.heap.get? b = some o → h'.get? b = some o) (hD : ∀ b, D b → s.heap.get? b = none) : FK env own own' s { s' with heap := h', toks := tk } := by
  have ne : ∀ b o, s.heap.get? b = some o → ¬ D b := fun b o e q => by rw [hD b q] at e; cases e
  refine ⟨?_, fun b o h1 h2 e => hk b o (ne b o e) (k.hp b o h1 h2 e), fun b o e => ?_, k.own⟩
  · obtain ⟨h0, tk0, rfl⟩ := k.sh
    exact ⟨h', tk, rfl⟩
  · obtain ⟨o', e'⟩ := k.dom b o e
    exact ⟨o', hk b o' (ne b o e) e'⟩

theorem plain_fields {h : Heap} {b : Addr} {o : Obj} {fs : Array Value} (e : h.get? b = some o) (hd : o.data = .fields fs) : Plain h b := ⟨o, e, fun xs n q => (by rw [hd] at q; cases q), fun v q => (by rw [hd] at q; cases q)⟩

theorem none_of (S : SS hW env exC own l o s.heap) {c : Addr} (h : s.heap.get? c = none) : hW.get? c = none ∧ c ≠ env.locals ∧ ¬ exO exC own c := by
  refine ⟨?_, ?_, fun q => ?_⟩
  · cases e : hW.get? c with
    | none => rfl
    | some o => have := S.w _ _ e; rw [h] at this; cases this
  · rintro rfl
    obtain ⟨m, o, _, _, ho, _⟩ := S.ns
    rw [h] at ho; cases ho
  · obtain ⟨_, o, e⟩ := S.exs c q
    rw [h] at e; cases e
theorem FK.nex {own' : Option Addr} {s' : Shared} {c : Addr} (S : SS hW env exC own l o s.heap) (k : FK env own own' s s') (h : s.heap.get? c = none) (hne : own' ≠ some c) : ¬ exO exC own' c := fun q => by
  rcases q with q | q
  · exact (none_of S h).2.2 (.inl q)
  · exact hne q

theorem iter_range {K : Value → Shared → Prop} {ex : Addr → Prop} (W : WF hW mg mb fn) (ih : EV prog w hW I n) (ok : EnvOK env ks) (ha : AOK A n) (S : ES hW env ex l o s.heap) {it : PySem.Expr} {x : X} {a : AV} {ws : List AV} (he : TXI ks it true x)
    (h : I.ev x l o = some a) (hi : iterV true a = some ws) (hK : ∀ c s' m, Keeps s s' → s.heap.get? c = none → IsRangeIter s'.heap c ((0 : Nat) : Int) ((m : Nat) : Int) 1 → ws = upFrom 0 m → K (.ref c) s') :
    wpAny (model prog w) A (eval it env) (fun xv s1 => wpAny (model prog w) A (pyIter xv) K E s1) E s := by
  have hnone : ∀ {s1 : Shared}, Keeps s s1 → s.heap.get? s1.heap.objs.size = none := fun {s1} k => by
    cases e : s.heap.get? s1.heap.objs.size with
    | none => rfl
    | some o => exact absurd (Heap.lt_size (kHp k _ _ e)) (Nat.lt_irrefl _)
  cases he with
  | rng hx hk he =>
    subst hx
    simp only [iterV] at hi
    split at hi
    · rename_i m
      split at hi
      · rename_i hz
        split at hi
        · rename_i hm
          cases hi
          refine call_ty1 W ok S he (T := "range") (by simp [biL]) (by decide) hk (one_item ih ok ha S he h fun y s1 k1 r1 => ?_)
          cases r1 with
          | int m t =>
            have := okI_le hm
            refine call_range_1 ?_
            refine wpAny_pyIter_range (IsRange.new ..) (small_one (by decide) (by decide) (by omega) (by omega)) ?_
            have k2 : Keeps s { s1 with heap := s1.heap.push { cls := .type "range", data := .fields #[.int 0 s1.toks, .int m t, .int 1 (s1.toks + 1)] }, toks := s1.toks + 1 + 1 } := kTk (kPush k1 _)
            refine hK _ _ m.toNat (kPush k2 _) (hnone k2) ?_ rfl
            have hsz : Builtin.Range.rangeSize 0 m 1 = (m.toNat : Int) := by rw [rangeSize_one]; split <;> omega
            rw [hsz]
            exact Heap.get?_push_size _ rfl
        · cases hi
      · cases hi
    · cases hi

theorem ex_forR (W : WF hW mg mb fn) (ih : EV prog w hW I n) (ix : EXS prog w hW I n) (ok : EnvOK env ks) (ha : AOK A n) (S : SS hW env exC own l o s.heap) {it : PySem.Expr} {b : List PySem.Stmt} {x : X} {b' : SL} {i : Nat} {p pos : Pos} (hk : ks (nm i) = some .local) (he : TXI ks it true x) (hb : TSL ks b b')
    (h : exS I (.forR i x b') l o = some (f, l', o')) (hQ : ∀ fl s' own', FK env own own' s s' → FRel hW env exC own' f fl l' o' s'.heap → Q fl s') :
    wpAny (model prog w) A (exec (.For (.Name (nm i) p) it b [] pos) env) Q E s := by
  simp only [exS] at h
  split at h
  · rename_i a ea
    split at h
    · rename_i ws ews
      refine wpAny_For (iter_range W ih ok ha S.es he ea ews fun c s1 m k1 hc hI hm => ?_) (he.folded env)
      subst hm
      obtain ⟨hcW, hcL, hcE⟩ := none_of S hc
      refine codeAny_forLoop (fun k s' => ∃ j l1 o1 own1, FK env own own1 s s' ∧ SS hW env exC own1 l1 o1 s'.heap ∧ IsRangeIter s'.heap c ((j : Nat) : Int) ((k : Nat) : Int) 1 ∧ own1 ≠ some c ∧ exLoop I [i] b' (ones (upFrom j k)) l1 o1 = some (f, l', o'))
        ?_ m ⟨0, l, o, own, FK.of k1, S.keeps k1, hI, fun q => hcE (.inr q), h⟩
      rintro k s' ⟨j, l1, o1, own1, k1, S1, hI, hne, h⟩
      have hcx := k1.nex S hc hne
      cases k with
      | zero =>
        cases h
        refine wpAny_pyNext_range_end ha.hd hI (by omega) fun h' hx => wpAny_execs_nil ?_
        refine hQ _ _ own1 (k1.frame (tk := s'.toks) (fun b => b = c) (fun b o hb e => hx b o hb e) (fun b e => by rw [e]; exact hc)) ⟨rfl, ?_⟩
        exact S1.frame (fun b => b = c) (fun b o hb e => hx b o hb e) fun b e => by subst e; exact ⟨hcW, hcL, hcx, plain_fields hI rfl⟩
      | succ k =>
        simp only [upFrom, ones, exLoop] at h
        split at h
        · rename_i hf
          split at h
          · rename_i l2 hl2
            have hl2 : l2 = pt l1 i (.int j) := by
              have : ptAll l1 [i] [.int (Int.ofNat j)] = some (pt l1 i (.int j)) := rfl
              rw [this] at hl2; cases hl2; rfl
            subst hl2
            refine wpAny_pyNext_range_item hI (by omega) fun h1 hI1 hs1 => ?_
            have S2 : SS hW env exC own1 l1 o1 h1 := S1.frame (fun b => b = c) (fun b o hb e => hs1.extBut b o hb e) fun b e => by subst e; exact ⟨hcW, hcL, hcx, plain_fields hI rfl⟩
            have k2 : FK env own own1 s { s' with heap := h1, toks := s'.toks + 1 } := k1.frame (fun b => b = c) (fun b o hb e => hs1.extBut b o hb e) (fun b e => by rw [e]; exact hc)
            refine wpAny_assign_Name (store_loc (s := { s' with heap := h1, toks := s'.toks + 1 }) S2 ok.kind (ok.loc hk) (frL1 hf) (.int j _) fun s3 k3 S3 => ?_)
            have hI3 : IsRangeIter s3.heap c ((j + 1 : Nat) : Int) ((k : Nat) : Int) 1 := by
              have e1 : ((j + 1 : Nat) : Int) = (j : Int) + 1 := by omega
              have e2 : ((k : Nat) : Int) = ((k + 1 : Nat) : Int) - 1 := by omega
              rw [e1, e2]
              exact k3.hp c _ hcL hne hI1
            split at h
            · rename_i l4 o4 hx
              refine ix hb ok ha S3 hx fun fl s4 own4 k4 r4 => ?_
              obtain ⟨rfl, S4⟩ := r4
              refine ⟨k, Nat.lt_succ_self _, j + 1, l4, o4, own4, (k2.trans k3).trans k4, S4, k4.hp c _ hcL hne hI3, fun q => ?_, h⟩
              rcases k4.own c q with q | q
              · exact hne q
              · rw [hI3] at q; cases q
            · rename_i hnx
              refine ix hb ok ha S3 h fun fl s4 own4 k4 r4 => ?_
              have hfin := hQ fl s4 own4 ((k2.trans k3).trans k4) r4
              cases f with
              | next => exact absurd h (hnx _ _)
              | ret v =>
                obtain ⟨y, rfl, r4⟩ := r4
                exact hfin
          · cases h
        · cases h
    · cases h
  · cases h
end
end Mine

namespace Mine

section
variable {prog : Program} {w : World} {hW : Heap} {mg mb : Str → Option Value} {fn : Nat → Option (List Nat × SL)} {I : R} {n : Nat} {env : Env} {ks : KS} {A : Around} {s : Shared} {l l' : Loc} {o o' : Ow} {own : Option Addr} {exC : Addr → Prop} {E : Value → Shared → Prop} {v : AV} {f : AF} {Q : Flow → Shared → Prop}

theorem withNum_drop : ∀ (vs : List AV) (j k : Nat) (v : AV), nth vs k = some v → withNum j (vs.drop k) = [.int (Int.ofNat j), v] :: withNum (j + 1) (vs.drop (k + 1))
  | [], j, k, v, h => by cases k <;> cases h
  | w :: vs, j, 0, v, h => by cases h; rfl
  | w :: vs, j, k + 1, v, h => by
    rw [List.drop_succ_cons, List.drop_succ_cons]
    exact withNum_drop vs j k v h
theorem nth_none : ∀ {vs : List AV} {k : Nat}, nth vs k = none → vs.length ≤ k
  | [], k, h => by simp
  | w :: vs, 0, h => by cases h
  | w :: vs, k + 1, h => by
    have := nth_none (vs := vs) (k := k) h
    simp; omega

theorem ex_forE (W : WF hW mg mb fn) (ih : EV prog w hW I n) (ix : EXS prog w hW I n) (ok : EnvOK env ks) (ha : AOK A n) (S : SS hW env exC own l o s.heap) {e : PySem.Expr} {b : List PySem.Stmt} {x : X} {b' : SL} {i j k : Nat} {p q tp np cp pos : Pos}
    (hki : ks (nm i) = some .local) (hkj : ks (nm j) = some .local) (hf : ks (Str.ofString "enumerate") = some .globalImplicit) (he : TX ks e x) (hb : TSL ks b b')
    (h : exS I (.forE i j x b') l o = some (f, l', o')) (hQ : ∀ fl s' own', FK env own own' s s' → FRel hW env exC own' f fl l' o' s'.heap → Q fl s') :
    wpAny (model prog w) A (exec (.For (.Tuple [.Name (nm i) p, .Name (nm j) q] k tp) (.Call (.Name (Str.ofString "enumerate") np) [e] [] cp) b [] pos) env) Q E s := by
  simp only [exS] at h
  split at h
  · rename_i a ea
    split at h
    · rename_i ws ews
      simp only [iterV] at ews
      split at ews
      · rename_i vs
        split at ews
        · rename_i hz
          have e9 := Option.some.inj ews
          subst e9
          refine wpAny_For (call_ty1 W ok S.es he (T := "enumerate") (by simp [biL]) (by decide) hf (one_item ih ok ha S.es he ea fun y s1 k1 r1 => ?_))
          cases r1 with
          | lst hxl hi hs =>
            rename_i c items
            have S1 := S.keeps k1
            obtain ⟨m1, hn1⟩ := S1.ns
            have hlen := hs.length
            rw [Array.length_toList] at hlen
            obtain ⟨nn, hi⟩ := hi
            refine call_enumerate_1 hi fun h1 he1 hit1 hsz1 hk1 => ?_
            obtain ⟨ce, hce⟩ : ∃ a, s1.heap.objs.size + 1 = a := ⟨_, rfl⟩
            obtain ⟨ci, hci⟩ : ∃ a, s1.heap.objs.size = a := ⟨_, rfl⟩
            have hcei : ce ≠ ci := by rw [← hce, ← hci]; exact Nat.succ_ne_self _
            have hnce : s1.heap.get? ce = none := by
              cases e : s1.heap.get? ce with
              | none => rfl
              | some o => have := Heap.lt_size e; rw [← hce] at this; exact absurd this (by simp)
            have hnci : s1.heap.get? ci = none := by
              cases e : s1.heap.get? ci with
              | none => rfl
              | some o => have := Heap.lt_size e; rw [← hci] at this; exact absurd this (Nat.lt_irrefl _)
            rw [hce, hci] at he1
            rw [hci] at hit1
            rw [hce]
            have kk1 : Keeps s1 { s1 with heap := h1 } := ⟨h1, _, rfl, hk1⟩
            obtain ⟨hceW, hceL, hceE⟩ := none_of S1 hnce
            obtain ⟨hciW, hciL, hciE⟩ := none_of S1 hnci
            have hcL : c ≠ env.locals := list_ne_ns ⟨nn, hi⟩ hn1
            refine wpAny_pyIter_enum he1 ?_
            refine codeAny_forLoop_any (fun k s' => ∃ idx old l1 o1 own1, k = vs.length - idx ∧ FK env own own1 s1 s' ∧ SS hW env exC own1 l1 o1 s'.heap ∧ IsEnum s'.heap ce ci ((idx : Nat) : Int) old ∧ s'.heap.IsListIter ci c idx ∧ own1 ≠ some ce ∧ own1 ≠ some ci ∧
                exLoop I [i, j] b' (withNum idx (vs.drop idx)) l1 o1 = some (f, l', o'))
              ?_ vs.length ⟨0, .none, l, o, own, rfl, FK.of kk1, S1.keeps kk1, he1, hit1, fun q => hceE (.inr q), fun q => hciE (.inr q), h⟩
            rintro kx s' ⟨idx, old, l1, o1, own1, rfl, k2, S2, he2, hit2, hne, hni, h⟩
            have hcl : s'.heap.IsList c items := ⟨_, k2.hp c _ hcL (fun q => hxl (.inr q)) hi, rfl, nn, rfl⟩
            cases hv : nth vs idx with
            | none =>
              have hle := nth_none hv
              rw [List.drop_of_length_le hle] at h
              cases h
              have hgi : items[idx]? = none := by rw [Array.getElem?_eq_none_iff]; omega
              refine wpAny_pyNext_enum_end ha.hd he2 hit2 hcl hgi fun h' hx => wpAny_execs_nil ?_
              have k3 : FK env own own1 s1 { s' with heap := h', toks := s'.toks } := k2.frame (fun b => b = ci) (fun b o hb e => hx b o hb e) (fun b e => by rw [e]; exact hnci)
              refine hQ _ _ own1 ((FK.of k1).trans k3) ⟨rfl, ?_⟩
              refine S2.frame (fun b => b = ci) (fun b o hb e => hx b o hb e) fun b e => ?_
              subst e
              obtain ⟨oi, hoi, _, hdi⟩ := hit2
              exact ⟨hciW, hciL, k2.nex S1 hnci hni, plain_fields hoi hdi⟩
            | some v =>
              have hlt := nth_lt hv
              obtain ⟨yv, hgi, rv⟩ := hs.nthL hv
              rw [withNum_drop vs idx idx v hv] at h
              simp only [exLoop] at h
              split at h
              · rename_i hfr
                obtain ⟨fi, fj⟩ := frL2 hfr
                split at h
                · rename_i l2 hl2
                  have hl2 : l2 = pt (pt l1 i (.int idx)) j v := by
                    have : ptAll l1 [i, j] [.int (Int.ofNat idx), v] = some (pt (pt l1 i (.int idx)) j v) := rfl
                    rw [this] at hl2; cases hl2; rfl
                  subst hl2
                  have hceS : ce < s'.heap.objs.size := Heap.lt_size he2
                  obtain ⟨oi, hoi, hci', hdi⟩ := id hit2
                  refine wpAny_pyNext_enum_item he2 hit2 hcl hgi hcei fun h3 heo hit3 ht3 hz3 hk3 => ?_
                  refine wpAny_letOwnedTupleGo_enum heo fun h4 he4 hs4 => ?_
                  replace hs4 : Heap.SameBut ce h3 h4 := hs4
                  have ht4 : IsTup h4 s'.heap.objs.size #[.int idx s'.toks, yv] := ⟨_, (hs4.2 _ (Nat.ne_of_gt hceS)).trans ht3, rfl, _, rfl⟩
                  refine assign_Tuple_tuple ha.hd ht4 rfl rfl fun h5 hx5 => ?_
                  replace hx5 : Heap.ExtBut h4.objs.size h4 h5 := hx5
                  have hz4 : h4.objs.size = s'.heap.objs.size + 1 := hs4.1.trans hz3
                  have up5 : ∀ b o, h4.get? b = some o → h5.get? b = some o := fun b o e => hx5 b o (Nat.ne_of_lt (Heap.lt_size e)) e
                  have up : ∀ b o, ¬ (b = ce ∨ b = ci) → s'.heap.get? b = some o → h5.get? b = some o := fun b o hb e =>
                    up5 b o (hs4.extBut b o (fun q => hb (.inl q)) (hk3 b o (fun q => hb (.inl q)) (fun q => hb (.inr q)) e))
                  have k5 : FK env own own1 s1 { s' with heap := h5, toks := s'.toks + 1 } := k2.frame (fun b => b = ce ∨ b = ci) up (fun b e => e.elim (fun e => by rw [e]; exact hnce) fun e => by rw [e]; exact hnci)
                  have S5 : SS hW env exC own1 l1 o1 h5 := S2.frame (fun b => b = ce ∨ b = ci) up fun b e => by
                    rcases e with e | e
                    · subst e; exact ⟨hceW, hceL, k2.nex S1 hnce hne, plain_fields he2 rfl⟩
                    · subst e; exact ⟨hciW, hciL, k2.nex S1 hnci hni, plain_fields hoi hdi⟩
                  have he5 : IsEnum h5 ce ci ((idx + 1 : Nat) : Int) yv := by
                    have e1 : ((idx + 1 : Nat) : Int) = (idx : Int) + 1 := by omega
                    rw [e1]
                    exact up5 _ _ he4
                  have hit5 : h5.IsListIter ci c (idx + 1) := by
                    obtain ⟨o1, ho1, r⟩ := hit3
                    exact ⟨o1, up5 _ _ (hs4.extBut ci _ (Ne.symm hcei) ho1), r⟩
                  refine pair_names (store_two (s := { s' with heap := h5, toks := s'.toks + 1 }) S5 ok.kind (ok.loc hki) (ok.loc hkj) fi fj (.int idx _) (k5.vr hn1 rv) fun s6 k6 S6 => ?_)
                  have he6 := k6.hp ce _ hceL hne he5
                  have hit6 : s6.heap.IsListIter ci c (idx + 1) := by
                    obtain ⟨o1, ho1, r⟩ := hit5
                    exact ⟨o1, k6.hp ci _ hciL hni ho1, r⟩
                  split at h
                  · rename_i l7 o7 hx
                    refine ix hb ok ha S6 hx fun fl s7 own7 k7 r7 => ?_
                    obtain ⟨rfl, S7⟩ := r7
                    refine ⟨vs.length - (idx + 1), by omega, idx + 1, yv, l7, o7, own7, rfl, (k5.trans k6).trans k7, S7, k7.hp ce _ hceL hne he6, ?_, fun q => ?_, fun q => ?_, h⟩
                    · obtain ⟨o1, ho1, r⟩ := hit6
                      exact ⟨o1, k7.hp ci _ hciL hni ho1, r⟩
                    · rcases k7.own ce q with q | q
                      · exact hne q
                      · rw [he6] at q; cases q
                    · rcases k7.own ci q with q | q
                      · exact hni q
                      · obtain ⟨o1, ho1, r⟩ := hit6
                        rw [ho1] at q; cases q
                  · rename_i hnx
                    refine ix hb ok ha S6 h fun fl s7 own7 k7 r7 => ?_
                    have hfin := hQ fl s7 own7 ((FK.of k1).trans ((k5.trans k6).trans k7)) r7
                    cases f with
                    | next => exact absurd h (hnx _ _)
                    | ret v =>
                      obtain ⟨y, rfl, r7⟩ := r7
                      exact hfin
                · cases h
              · cases h
        · cases ews
      · cases ews
    · cases h
  · cases h
end
end Mine

namespace Mine

structure Sound (prog : Program) (w : World) (hW : Heap) (fn : Nat → Option (List Nat × SL)) (n : Nat) : Prop where
  base : Base (rn fn n)
  ev : EV prog w hW (rn fn n) n
  tst : TST prog w hW (rn fn n) n
  evs : EVS prog w hW (rn fn n) n
  andv : ANDV prog w hW (rn fn n) n
  orv : ORV prog w hW (rn fn n) n
  andt : ANDT prog w hW (rn fn n) n
  ort : ORT prog w hW (rn fn n) n
  exs : EXS prog w hW (rn fn n) n
  exo : EXO prog w hW (rn fn n) n

section
variable {prog : Program} {w : World} {hW : Heap} {mg mb : Str → Option Value} {fn : Nat → Option (List Nat × SL)}

theorem base_n (fn : Nat → Option (List Nat × SL)) : ∀ n, Base (rn fn n)
  | 0 => ⟨fun _ _ _ _ h => (by cases h), fun _ _ _ h => (by cases h), fun _ _ _ h => (by cases h), fun _ _ _ h => (by cases h), fun _ _ _ h => (by cases h)⟩
  | n + 1 => ⟨fun _ _ _ _ h => h, fun _ _ _ h => (by cases h; rfl), fun _ _ _ h => (by cases h; rfl), fun _ _ _ h => (by cases h; rfl), fun l o r h => by
    have h : exS (rn fn n) .rel l o = some r := h
    simp only [exS] at h
    split at h
    · cases h; exact ⟨_, _, rfl, rfl⟩
    · cases h⟩

theorem sound0 : Sound prog w hW fn 0 := by
  refine ⟨base_n fn 0, ?_, ?_, ?_, ?_, ?_, ?_, ?_, ?_, ?_⟩
  · intro ks e x env A s l o ex v E Q _ _ _ _ h; cases h
  · intro ks e x env A s l o ex v E Q _ _ _ _ h; cases h
  · intro ks e x env A s l o ex v p E Q _ _ _ _ h; cases h
  · intro ks e es x env A s l o ex v p E Q _ _ _ _ h; cases h
  · intro ks e es x env A s l o ex v p E Q _ _ _ _ h; cases h
  · intro ks e x env A s l o ex v E Q _ _ _ _ h; cases h
  · intro ks e x env A s l o ex v E Q _ _ _ _ h; cases h
  · intro ks ss b env A s l l' o o' own exC f E Q _ _ _ _ h; cases h
  · intro ks ss b env A s l l' o o' own exC f E Q _ _ _ _ h; cases h

theorem ev_step (W : WF hW mg mb fn) {n : Nat} (H : Sound prog w hW fn n) : EV prog w hW (rn fn (n + 1)) (n + 1) := by
  intro ks e x env A s l o ex v E Q he ok ha S h hQ
  have h : evX fn (rn fn n) x l o = some v := h
  have ha' := ha.le (Nat.le_succ n)
  cases he with
  | int => cases h; exact wpAny_Constant_int (hQ _ _ (kTk (kRfl s)) (.int _ _))
  | bool => cases h; exact wpAny_pure (hQ _ _ (kRfl s) (.bool _))
  | none => cases h; exact wpAny_pure (hQ _ _ (kRfl s) .none)
  | var hx =>
    obtain ⟨y, r, hn⟩ := S.loc _ _ h
    subst hx
    exact name_var ok rfl hn (hQ _ _ (kRfl s) r)
  | @gl _ _ g _ hx hk =>
    obtain ⟨y, hm, r⟩ := W.gl _ _ h
    subst hx
    refine name_glob W ok S.w hk ?_ hm (hQ _ _ (kRfl s) ((r.strong fun b q => .inr (S.exs b q).1).keep S.w))
    cases g with
    | zero => decide
    | succ g => exact (by decide : (("R1" : Str) == ("__debug__" : Str)) = false)
  | bin hop h1 h2 => subst hop; exact ev_bin H.ev ok ha' S h1 h2 h hQ
  | neg h1 => exact ev_neg H.ev ok ha' S h1 h hQ
  | not h1 => exact ev_not H.ev ok ha' S h1 h hQ
  | cmp hop h1 h2 => subst hop; exact ev_cmp H.ev ok ha' S h1 h2 h hQ
  | conj h1 => exact ev_conj H.andv ok ha' S h1 h hQ
  | disj h1 => exact ev_disj H.orv ok ha' S h1 h hQ
  | ite h1 h2 h3 => exact ev_ite H.ev H.tst ok ha' S h1 h2 h3 h hQ
  | call hx hk h1 => subst hx; exact ev_call W H.base H.evs H.exs ok ha S hk h1 h hQ
  | abs_ hx hk h1 => subst hx; exact ev_abs W H.ev ok ha' S h1 hk h hQ
  | len_ hx hk h1 => subst hx; exact ev_len W H.ev ok ha' S h1 hk h hQ
  | list_ hx hk h1 => subst hx; exact ev_list W H.ev ok ha' S h1 hk h hQ
  | max_ hx hk h1 h2 => subst hx; exact ev_max W H.ev ok ha' S h1 h2 hk h hQ
  | idx h1 h2 => exact ev_idx H.ev ok ha' S h1 h2 h hQ
  | upto hx h1 => subst hx; exact ev_upto H.ev ok ha' S h1 h (H.base.var _ _ _) hQ
  | «from» hx h1 => subst hx; exact ev_from H.ev ok ha' S h1 h (H.base.var _ _ _) hQ
  | tup h1 => exact ev_tup H.evs ok ha' S h1 h hQ
  | lst h1 => exact ev_lst H.evs ok ha' S h1 h hQ
  | comp hx h1 h2 h3 => subst hx; exact ev_comp W H.ev ok ha' S h1 h2 h3 h hQ
  | ow hx h1 => subst hx; exact ev_ow H.ev ok ha' S h1 h hQ

theorem tst_step (W : WF hW mg mb fn) {n : Nat} (H : Sound prog w hW fn n) (hev : EV prog w hW (rn fn (n + 1)) (n + 1)) : TST prog w hW (rn fn (n + 1)) (n + 1) := by
  intro ks e x env A s l o ex b E Q he ok ha S h hQ
  have ha' := ha.le (Nat.le_succ n)
  have h0 := h
  have h : aBool (evX fn (rn fn n) x l o) = some b := h
  cases he with
  | cmp hop h1 h2 => subst hop; exact tst_cmp H.ev ok ha' S h1 h2 (aBool_some h) hQ
  | not h1 => exact tst_not H.tst ok ha' S h1 h hQ
  | conj h1 => exact tst_conj H.andt ok ha' S h1 h hQ
  | disj h1 => exact tst_disj H.ort ok ha' S h1 h hQ
  | ite h1 h2 h3 => exact tst_ite H.tst ok ha' S h1 h2 h3 h hQ
  | int => cases h
  | none => cases h
  | bool => exact tst_value hev ok ha S (.bool) h0 hQ rfl
  | var hx => exact tst_value hev ok ha S (.var hx) h0 hQ rfl
  | gl hx hk => exact tst_value hev ok ha S (.gl hx hk) h0 hQ rfl
  | bin hop h1 h2 => exact tst_value hev ok ha S (.bin hop h1 h2) h0 hQ rfl
  | neg h1 => exact tst_value hev ok ha S (.neg h1) h0 hQ rfl
  | call hx hk h1 => exact tst_value hev ok ha S (.call hx hk h1) h0 hQ rfl
  | abs_ hx hk h1 => exact tst_value hev ok ha S (.abs_ hx hk h1) h0 hQ rfl
  | len_ hx hk h1 => exact tst_value hev ok ha S (.len_ hx hk h1) h0 hQ rfl
  | list_ hx hk h1 => exact tst_value hev ok ha S (.list_ hx hk h1) h0 hQ rfl
  | max_ hx hk h1 h2 => exact tst_value hev ok ha S (.max_ hx hk h1 h2) h0 hQ rfl
  | idx h1 h2 => exact tst_value hev ok ha S (.idx h1 h2) h0 hQ rfl
  | upto hx h1 => exact tst_value hev ok ha S (.upto hx h1) h0 hQ rfl
  | «from» hx h1 => exact tst_value hev ok ha S (.from hx h1) h0 hQ rfl
  | tup h1 => exact tst_value hev ok ha S (.tup h1) h0 hQ rfl
  | lst h1 => exact tst_value hev ok ha S (.lst h1) h0 hQ rfl
  | comp hx h1 h2 h3 => exact tst_value hev ok ha S (.comp hx h1 h2 h3) h0 hQ rfl
  | ow hx h1 => exact tst_value hev ok ha S (.ow hx h1) h0 hQ rfl

theorem exs_step {n : Nat} (H : Sound prog w hW fn n) : EXS prog w hW (rn fn (n + 1)) (n + 1) := by
  intro ks ss b env A s l l' o o' own exC f E Q he ok ha S h hQ
  have ha' := ha.le (Nat.le_succ n)
  have h : exSs (rn fn n) b l o = some (f, l', o') := h
  cases he with
  | nil =>
    cases h
    exact wpAny_execs_nil (hQ _ _ _ (FK.of (kRfl s)) ⟨rfl, S⟩)
  | cons h1 h2 =>
    simp only [exSs] at h
    split at h
    · rename_i l1 o1 e1
      refine wpAny_execs_cons (H.exo h1 ok ha' S e1 fun fl s1 own1 k1 r1 => ?_)
      obtain ⟨rfl, S1⟩ := r1
      exact H.exs h2 ok ha' S1 h fun fl s2 own2 k2 r2 => hQ _ _ _ (k1.trans k2) r2
    · rename_i hne
      refine wpAny_execs_cons (H.exo h1 ok ha' S h fun fl s1 own1 k1 r1 => ?_)
      have hfin := hQ fl s1 own1 k1 r1
      cases f with
      | next => exact absurd h (hne _ _)
      | ret v =>
        obtain ⟨y, rfl, r1⟩ := r1
        exact hfin
  | rel h2 =>
    simp only [exSs] at h
    split at h
    · rename_i l1 o1 e1
      obtain ⟨i, vs, rfl, e⟩ := H.base.relB _ _ _ e1
      cases e
      exact ex_rel (Q := fun s => wpAny (model prog w) A (execs ss env) Q E s) S fun k1 S1 => H.exs h2 ok ha' S1 h fun fl s2 own2 k2 r2 => hQ _ _ _ (k1.trans k2) r2
    · rename_i hne
      obtain ⟨i, vs, rfl, e⟩ := H.base.relB _ _ _ h
      cases e
      exact absurd h (hne _ _)

theorem exo_step (W : WF hW mg mb fn) {n : Nat} (Hs : ∀ m ≤ n, Sound prog w hW fn m) : EXO prog w hW (rn fn (n + 1)) (n + 1) := by
  intro ks ss b env A s l l' o o' own exC f E Q he ok ha S h hQ
  have H := Hs n (Nat.le_refl n)
  have ha' := ha.le (Nat.le_succ n)
  have h0 := h
  have h : exS (rn fn n) b l o = some (f, l', o') := h
  cases he with
  | asg hx hk h1 hn => subst hx; exact ex_asg H.ev ok ha' S hk h1 hn h hQ
  | asgC hy hk hx h1 h2 h3 hl => subst hx; subst hy; exact ex_asgC W H.ev ok ha' S h1 h2 h3 hk hl h hQ
  | asgT hx hy hij h1 h2 h3 hsw => subst hx; subst hy; exact ex_asgT H.ev ok ha' S hij h1 h2 h3 hsw h hQ
  | asgO hx hk hop h1 h2 => subst hx; subst hop; exact ex_asgO H.ev ok ha' S hk h1 h2 h hQ
  | asgTO hx hy hij h1 h2 hop h3 h4 h5 hsw => subst hx; subst hy; subst hop; exact ex_asgTO H.ev ok ha' S hij h1 h2 h3 h4 h5 hsw h hQ
  | setO hx h1 h2 =>
    subst hx
    refine ex_setO H.ev ok ha' S h1 h2 (fun t n => ?_) h hQ
    cases h2 <;> rfl
  | aug hx hk h1 => subst hx; exact ex_aug H.ev ok ha' S hk h1 h hQ
  | ite h1 h2 h3 => exact ex_ite H.tst H.exs ok ha' S h1 h2 h3 h hQ
  | whl h1 h2 => exact ex_whl (fun m hm => (Hs m hm).tst) (fun m hm => (Hs m hm).exs) ok ha S h1 h2 h0 hQ
  | forR hx hk h1 h2 => subst hx; exact ex_forR W H.ev H.exs ok ha' S hk h1 h2 h hQ
  | forE hx hy hij h1 h2 hf hk h3 h4 => subst hx; subst hy; subst hf; exact ex_forE W H.ev H.exs ok ha' S h1 h2 hk h3 h4 h hQ
  | ret h1 => exact ex_ret H.ev ok ha' S h1 h hQ
  | bad => cases h

theorem sound (W : WF hW mg mb fn) (n : Nat) : Sound prog w hW fn n := by
  induction n using Nat.strongRecOn with
  | ind n Hs =>
    cases n with
    | zero => exact sound0
    | succ n =>
      have H := Hs n (Nat.lt_succ_self n)
      have hev : EV prog w hW (rn fn (n + 1)) (n + 1) := ev_step W H
      refine ⟨base_n fn _, hev, tst_step W H hev, ?_, ?_, ?_, ?_, ?_, exs_step H, exo_step W fun m hm => Hs m (Nat.lt_succ_of_le hm)⟩
      · intro ks e x env A s l o ex v p E Q he ok ha S h hQ
        exact evs_step H.ev H.evs ok (ha.le (Nat.le_succ n)) S he h hQ
      · intro ks e es x env A s l o ex v p E Q he ok ha S h hQ
        exact andv_step H.base H.ev H.andv ok (ha.le (Nat.le_succ n)) S he h hQ
      · intro ks e es x env A s l o ex v p E Q he ok ha S h hQ
        exact orv_step H.base H.ev H.orv ok (ha.le (Nat.le_succ n)) S he h hQ
      · intro ks e x env A s l o ex v E Q he ok ha S h hQ
        exact andt_step H.tst H.andt ok (ha.le (Nat.le_succ n)) S he h hQ
      · intro ks e x env A s l o ex v E Q he ok ha S h hQ
        exact ort_step H.tst H.ort ok (ha.le (Nat.le_succ n)) S he h hQ
end
end Mine

namespace Mine

noncomputable def isGI (ks : KS) (x : Str) : Bool := decide (ks x = some .globalImplicit)
noncomputable def isLc (ks : KS) (x : Str) : Bool := decide (ks x = some .local)
noncomputable def ckC (ks : KS) (sc : Scope) (i : Nat) (cs : List Nat) : Bool :=
  decide (sc.kind = .function) && sc.names.all (fun x => decide (sc.names.lookup x.1 = some x.2)) &&
  (decide (sc.names.lookup (nm i) = some .local) || decide (sc.names.lookup (nm i) = some .cell)) &&
  sc.names.all (fun x => !decide (x.2 = .free) || cs.any fun j => decide (x.1 = nm j)) &&
  cs.all (fun j => decide (sc.names.lookup (nm j) = some .free) && (decide (ks (nm j) = some .cell) || decide (ks (nm j) = some .free)))
theorem ckC_ok {ks : KS} {sc : Scope} {i : Nat} {cs : List Nat} (h : ckC ks sc i cs = true) : CompOK ks sc i cs := by
  simp only [ckC, Bool.and_eq_true, Bool.or_eq_true, decide_eq_true_eq, List.all_eq_true, Bool.not_eq_true', decide_eq_false_iff_not, List.any_eq_true] at h
  obtain ⟨⟨⟨⟨h1, h2⟩, h3⟩, h4⟩, h5⟩ := h
  refine ⟨h1, fun x hx e => ?_, h3, fun x hx e => ?_, fun j hj => h5 j hj, h2⟩
  · rw [h2 x hx, e]
  · rcases h4 x hx with q | q
    · exact absurd e q
    · exact q

/- viewers: what a node of the text is, told by its number -/
theorem band {a b : Bool} (h : (a && b) = true) : a = true ∧ b = true := (Bool.and_eq_true a b).mp h
theorem eq_ok {α : Type} {a b : α} [Decidable (a = b)] {P : α → Prop} (h : decide (a = b) = true) (H : P b) : P a := (of_decide_eq_true h).symm ▸ H
theorem nil_ok {α : Type} {l : List α} {P : List α → Prop} (h : l.isEmpty = true) (H : P []) : P l := (List.isEmpty_iff.mp h).symm ▸ H
theorem none_ok {α : Type} {o : Option α} {P : Option α → Prop} (h : o.isNone = true) (H : P none) : P o := (Option.isNone_iff_eq_none.mp h).symm ▸ H
theorem some_ok {α : Type} {o : Option α} {F : α → Bool} {P : Option α → Prop} (h : o.any F = true) (H : ∀ a, F a = true → P (some a)) : P o :=
  Option.casesOn (motive := fun o => o.any F = true → P o) o (fun h => absurd h Bool.false_ne_true) (fun a h => H a h) h
noncomputable def consV {α : Type} (l : List α) (F : α → List α → Bool) : Bool := List.casesOn (motive := fun _ => Bool) l false F
theorem consV_ok {α : Type} {l : List α} {F : α → List α → Bool} {P : List α → Prop} (h : consV l F = true) (H : ∀ a t, F a t = true → P (a :: t)) : P l :=
  List.casesOn (motive := fun l => consV l F = true → P l) l (fun h => absurd h Bool.false_ne_true) (fun a t h => H a t h) h
noncomputable def one {α : Type} (l : List α) (F : α → Bool) : Bool := consV l fun a t => t.isEmpty && F a
theorem one_ok {α : Type} {l : List α} {F : α → Bool} {P : List α → Prop} (h : one l F = true) (H : ∀ a, F a = true → P [a]) : P l :=
  consV_ok h fun a t h => nil_ok (P := fun t => P (a :: t)) (band h).1 (H a (band h).2)
noncomputable def two {α : Type} (l : List α) (F : α → α → Bool) : Bool := consV l fun a t => one t (F a)
theorem two_ok {α : Type} {l : List α} {F : α → α → Bool} {P : List α → Prop} (h : two l F = true) (H : ∀ a b, F a b = true → P [a, b]) : P l :=
  consV_ok h fun a t h => one_ok (P := fun t => P (a :: t)) h (H a)
noncomputable def vConst (e : PySem.Expr) (F : Const → Nat → Pos → Bool) : Bool := dite (e.ctorIdx = 19) (fun h => PySem.Expr.Constant.elim (motive_1 := fun _ => Bool) e h F) fun _ => false
theorem vConst_ok {P : PySem.Expr → Prop} {e : PySem.Expr} {F : Const → Nat → Pos → Bool} (h : vConst e F = true) (H : ∀ a b c, F a b c = true → P (.Constant a b c)) : P e :=
  dite (e.ctorIdx = 19) (fun hc => PySem.Expr.Constant.elim (motive_1 := fun e => vConst e F = true → P e) e hc (fun a b c h => H a b c h) h) fun hc => absurd ((dif_neg hc).symm.trans h) Bool.false_ne_true
noncomputable def vName (e : PySem.Expr) (F : Str → Pos → Bool) : Bool := dite (e.ctorIdx = 23) (fun h => PySem.Expr.Name.elim (motive_1 := fun _ => Bool) e h F) fun _ => false
theorem vName_ok {P : PySem.Expr → Prop} {e : PySem.Expr} {F : Str → Pos → Bool} (h : vName e F = true) (H : ∀ a b, F a b = true → P (.Name a b)) : P e :=
  dite (e.ctorIdx = 23) (fun hc => PySem.Expr.Name.elim (motive_1 := fun e => vName e F = true → P e) e hc (fun a b h => H a b h) h) fun hc => absurd ((dif_neg hc).symm.trans h) Bool.false_ne_true
noncomputable def vBin (e : PySem.Expr) (F : PySem.Expr → Operator → PySem.Expr → Pos → Bool) : Bool := dite (e.ctorIdx = 2) (fun h => PySem.Expr.BinOp.elim (motive_1 := fun _ => Bool) e h F) fun _ => false
theorem vBin_ok {P : PySem.Expr → Prop} {e : PySem.Expr} {F : PySem.Expr → Operator → PySem.Expr → Pos → Bool} (h : vBin e F = true) (H : ∀ a b c d, F a b c d = true → P (.BinOp a b c d)) : P e :=
  dite (e.ctorIdx = 2) (fun hc => PySem.Expr.BinOp.elim (motive_1 := fun e => vBin e F = true → P e) e hc (fun a b c d h => H a b c d h) h) fun hc => absurd ((dif_neg hc).symm.trans h) Bool.false_ne_true
noncomputable def vUn (e : PySem.Expr) (F : UnaryOp → PySem.Expr → Pos → Bool) : Bool := dite (e.ctorIdx = 3) (fun h => PySem.Expr.UnaryOp.elim (motive_1 := fun _ => Bool) e h F) fun _ => false
theorem vUn_ok {P : PySem.Expr → Prop} {e : PySem.Expr} {F : UnaryOp → PySem.Expr → Pos → Bool} (h : vUn e F = true) (H : ∀ a b c, F a b c = true → P (.UnaryOp a b c)) : P e :=
  dite (e.ctorIdx = 3) (fun hc => PySem.Expr.UnaryOp.elim (motive_1 := fun e => vUn e F = true → P e) e hc (fun a b c h => H a b c h) h) fun hc => absurd ((dif_neg hc).symm.trans h) Bool.false_ne_true
noncomputable def vCmp (e : PySem.Expr) (F : PySem.Expr → List CmpOp → List PySem.Expr → Pos → Bool) : Bool := dite (e.ctorIdx = 15) (fun h => PySem.Expr.Compare.elim (motive_1 := fun _ => Bool) e h F) fun _ => false
theorem vCmp_ok {P : PySem.Expr → Prop} {e : PySem.Expr} {F : PySem.Expr → List CmpOp → List PySem.Expr → Pos → Bool} (h : vCmp e F = true) (H : ∀ a b c d, F a b c d = true → P (.Compare a b c d)) : P e :=
  dite (e.ctorIdx = 15) (fun hc => PySem.Expr.Compare.elim (motive_1 := fun e => vCmp e F = true → P e) e hc (fun a b c d h => H a b c d h) h) fun hc => absurd ((dif_neg hc).symm.trans h) Bool.false_ne_true
noncomputable def vBool (e : PySem.Expr) (F : BoolOp → List PySem.Expr → Pos → Bool) : Bool := dite (e.ctorIdx = 0) (fun h => PySem.Expr.BoolOp.elim (motive_1 := fun _ => Bool) e h F) fun _ => false
theorem vBool_ok {P : PySem.Expr → Prop} {e : PySem.Expr} {F : BoolOp → List PySem.Expr → Pos → Bool} (h : vBool e F = true) (H : ∀ a b c, F a b c = true → P (.BoolOp a b c)) : P e :=
  dite (e.ctorIdx = 0) (fun hc => PySem.Expr.BoolOp.elim (motive_1 := fun e => vBool e F = true → P e) e hc (fun a b c h => H a b c h) h) fun hc => absurd ((dif_neg hc).symm.trans h) Bool.false_ne_true
noncomputable def vIf (e : PySem.Expr) (F : PySem.Expr → PySem.Expr → PySem.Expr → Pos → Bool) : Bool := dite (e.ctorIdx = 5) (fun h => PySem.Expr.IfExp.elim (motive_1 := fun _ => Bool) e h F) fun _ => false
theorem vIf_ok {P : PySem.Expr → Prop} {e : PySem.Expr} {F : PySem.Expr → PySem.Expr → PySem.Expr → Pos → Bool} (h : vIf e F = true) (H : ∀ a b c d, F a b c d = true → P (.IfExp a b c d)) : P e :=
  dite (e.ctorIdx = 5) (fun hc => PySem.Expr.IfExp.elim (motive_1 := fun e => vIf e F = true → P e) e hc (fun a b c d h => H a b c d h) h) fun hc => absurd ((dif_neg hc).symm.trans h) Bool.false_ne_true
noncomputable def vCall (e : PySem.Expr) (F : PySem.Expr → List PySem.Expr → List Keyword → Pos → Bool) : Bool := dite (e.ctorIdx = 16) (fun h => PySem.Expr.Call.elim (motive_1 := fun _ => Bool) e h F) fun _ => false
theorem vCall_ok {P : PySem.Expr → Prop} {e : PySem.Expr} {F : PySem.Expr → List PySem.Expr → List Keyword → Pos → Bool} (h : vCall e F = true) (H : ∀ a b c d, F a b c d = true → P (.Call a b c d)) : P e :=
  dite (e.ctorIdx = 16) (fun hc => PySem.Expr.Call.elim (motive_1 := fun e => vCall e F = true → P e) e hc (fun a b c d h => H a b c d h) h) fun hc => absurd ((dif_neg hc).symm.trans h) Bool.false_ne_true
noncomputable def vSub (e : PySem.Expr) (F : PySem.Expr → PySem.Expr → Pos → Bool) : Bool := dite (e.ctorIdx = 21) (fun h => PySem.Expr.Subscript.elim (motive_1 := fun _ => Bool) e h F) fun _ => false
theorem vSub_ok {P : PySem.Expr → Prop} {e : PySem.Expr} {F : PySem.Expr → PySem.Expr → Pos → Bool} (h : vSub e F = true) (H : ∀ a b c, F a b c = true → P (.Subscript a b c)) : P e :=
  dite (e.ctorIdx = 21) (fun hc => PySem.Expr.Subscript.elim (motive_1 := fun e => vSub e F = true → P e) e hc (fun a b c h => H a b c h) h) fun hc => absurd ((dif_neg hc).symm.trans h) Bool.false_ne_true
noncomputable def vTup (e : PySem.Expr) (F : List PySem.Expr → Nat → Pos → Bool) : Bool := dite (e.ctorIdx = 25) (fun h => PySem.Expr.Tuple.elim (motive_1 := fun _ => Bool) e h F) fun _ => false
theorem vTup_ok {P : PySem.Expr → Prop} {e : PySem.Expr} {F : List PySem.Expr → Nat → Pos → Bool} (h : vTup e F = true) (H : ∀ a b c, F a b c = true → P (.Tuple a b c)) : P e :=
  dite (e.ctorIdx = 25) (fun hc => PySem.Expr.Tuple.elim (motive_1 := fun e => vTup e F = true → P e) e hc (fun a b c h => H a b c h) h) fun hc => absurd ((dif_neg hc).symm.trans h) Bool.false_ne_true
noncomputable def vLst (e : PySem.Expr) (F : List PySem.Expr → Pos → Bool) : Bool := dite (e.ctorIdx = 24) (fun h => PySem.Expr.List.elim (motive_1 := fun _ => Bool) e h F) fun _ => false
theorem vLst_ok {P : PySem.Expr → Prop} {e : PySem.Expr} {F : List PySem.Expr → Pos → Bool} (h : vLst e F = true) (H : ∀ a b, F a b = true → P (.List a b)) : P e :=
  dite (e.ctorIdx = 24) (fun hc => PySem.Expr.List.elim (motive_1 := fun e => vLst e F = true → P e) e hc (fun a b h => H a b h) h) fun hc => absurd ((dif_neg hc).symm.trans h) Bool.false_ne_true
noncomputable def vComp (e : PySem.Expr) (F : PySem.Expr → List Comprehension → Scope → Pos → Bool) : Bool := dite (e.ctorIdx = 8) (fun h => PySem.Expr.ListComp.elim (motive_1 := fun _ => Bool) e h F) fun _ => false
theorem vComp_ok {P : PySem.Expr → Prop} {e : PySem.Expr} {F : PySem.Expr → List Comprehension → Scope → Pos → Bool} (h : vComp e F = true) (H : ∀ a b c d, F a b c d = true → P (.ListComp a b c d)) : P e :=
  dite (e.ctorIdx = 8) (fun hc => PySem.Expr.ListComp.elim (motive_1 := fun e => vComp e F = true → P e) e hc (fun a b c d h => H a b c d h) h) fun hc => absurd ((dif_neg hc).symm.trans h) Bool.false_ne_true
noncomputable def vSlice (e : PySem.Expr) (F : Option PySem.Expr → Option PySem.Expr → Option PySem.Expr → Pos → Bool) : Bool := dite (e.ctorIdx = 26) (fun h => PySem.Expr.Slice.elim (motive_1 := fun _ => Bool) e h F) fun _ => false
theorem vSlice_ok {P : PySem.Expr → Prop} {e : PySem.Expr} {F : Option PySem.Expr → Option PySem.Expr → Option PySem.Expr → Pos → Bool} (h : vSlice e F = true) (H : ∀ a b c d, F a b c d = true → P (.Slice a b c d)) : P e :=
  dite (e.ctorIdx = 26) (fun hc => PySem.Expr.Slice.elim (motive_1 := fun e => vSlice e F = true → P e) e hc (fun a b c d h => H a b c d h) h) fun hc => absurd ((dif_neg hc).symm.trans h) Bool.false_ne_true
noncomputable def varV (e : X) (F : Nat → Bool) : Bool := dite (e.ctorIdx = 3) (fun h => X.var.elim (motive_1 := fun _ => Bool) e h F) fun _ => false
theorem varV_ok {P : X → Prop} {e : X} {F : Nat → Bool} (h : varV e F = true) (H : ∀ a, F a = true → P (.var a)) : P e :=
  dite (e.ctorIdx = 3) (fun hc => X.var.elim (motive_1 := fun e => varV e F = true → P e) e hc (fun a h => H a h) h) fun hc => absurd ((dif_neg hc).symm.trans h) Bool.false_ne_true
noncomputable def isName (e : PySem.Expr) (x : Str) : Bool := vName e fun y _ => decide (y = x)
theorem isName_ok {P : PySem.Expr → Prop} {e : PySem.Expr} {x : Str} (h : isName e x = true) (H : ∀ p, P (.Name x p)) : P e :=
  vName_ok h fun y p h => eq_ok (P := fun y => P (.Name y p)) h (H p)
noncomputable def pCall (e : PySem.Expr) (F : PySem.Expr → List PySem.Expr → Bool) : Bool := vCall e fun f es k _ => k.isEmpty && F f es
theorem pCall_ok {P : PySem.Expr → Prop} {e : PySem.Expr} {F : PySem.Expr → List PySem.Expr → Bool} (h : pCall e F = true) (H : ∀ f es p, F f es = true → P (.Call f es [] p)) : P e :=
  vCall_ok h fun f es k p h => nil_ok (P := fun k => P (.Call f es k p)) (band h).1 (H f es p (band h).2)
noncomputable def nCall (x : Str) (ks : KS) (e : PySem.Expr) (F : List PySem.Expr → Bool) : Bool := pCall e fun f es => isName f x && (isGI ks x && F es)
theorem nCall_ok {P : PySem.Expr → Prop} {x : Str} {ks : KS} {e : PySem.Expr} {F : List PySem.Expr → Bool} (h : nCall x ks e F = true) (H : ∀ np es p, ks x = some .globalImplicit → F es = true → P (.Call (.Name x np) es [] p)) : P e :=
  pCall_ok h fun f es p h => isName_ok (P := fun f => P (.Call f es [] p)) (band h).1 fun np => H np es p (of_decide_eq_true (band (band h).2).1) (band (band h).2).2
noncomputable def oneGen (gs : List Comprehension) (F : PySem.Expr → PySem.Expr → Bool) : Bool := one gs fun g => g.ifs.isEmpty && (decide (g.is_async = 0) && F g.target g.iter)
theorem oneGen_ok {P : List Comprehension → Prop} {gs : List Comprehension} {F : PySem.Expr → PySem.Expr → Bool} (h : oneGen gs F = true) (H : ∀ t it, F t it = true → P [⟨t, it, [], 0⟩]) : P gs :=
  one_ok h fun ⟨a, b, c, d⟩ h => nil_ok (P := fun l => P [⟨a, b, l, d⟩]) (band h).1 (eq_ok (P := fun k => P [⟨a, b, [], k⟩]) (band (band h).2).1 (H _ _ (band (band h).2).2))
noncomputable def itV (r : Bool) (ks : KS) (e : PySem.Expr) (F : PySem.Expr → Bool) : Bool := cond r (nCall (Str.ofString "range") ks e fun es => one es F) (F e)
theorem itV_ok {r : Bool} {ks : KS} {e : PySem.Expr} {F : PySem.Expr → Bool} {x : X} (h : itV r ks e F = true) (H : ∀ e, F e = true → TX ks e x) : TXI ks e r x :=
  match r, h with
  | true, h => nCall_ok (P := fun e => TXI ks e true x) h fun np es p hk h => one_ok (P := fun es => TXI ks (.Call (.Name _ np) es [] p) true x) h fun e h => .rng rfl hk (H e h)
  | false, h => .lst (H e h)

mutual
noncomputable def ckX : X → KS → PySem.Expr → Bool
  | .int i, ks, e => vConst e fun c _ _ => decide (c = .int i)
  | .bool b, ks, e => vConst e fun c _ _ => decide (c = .bool b)
  | .none, ks, e => vConst e fun c _ _ => decide (c = .none)
  | .var i, ks, e => isName e (nm i)
  | .gl g, ks, e => isName e (gn g) && isGI ks (gn g)
  | .bin op l r, ks, e => vBin e fun l' op' r' _ => decide (op' = bop op) && (ckX l ks l' && ckX r ks r')
  | .neg x, ks, e => vUn e fun op e' _ => decide (op = .USub) && ckX x ks e'
  | .not x, ks, e => vUn e fun op e' _ => decide (op = .Not) && ckX x ks e'
  | .cmp op l r, ks, e => vCmp e fun l' ops rs _ => decide (ops = [cop op]) && (ckX l ks l' && one rs fun r' => ckX r ks r')
  | .conj xs, ks, e => vBool e fun op vs _ => decide (op = .And) && consV vs fun e es => ckXL xs ks (e :: es)
  | .disj xs, ks, e => vBool e fun op vs _ => decide (op = .Or) && consV vs fun e es => ckXL xs ks (e :: es)
  | .ite t a b, ks, e => vIf e fun t' a' b' _ => ckX t ks t' && (ckX a ks a' && ckX b ks b')
  | .call f xs, ks, e => nCall (fnm f) ks e fun es => ckXL xs ks es
  | .abs_ x, ks, e => nCall (Str.ofString "abs") ks e fun es => one es fun e' => ckX x ks e'
  | .len_ x, ks, e => nCall (Str.ofString "len") ks e fun es => one es fun e' => ckX x ks e'
  | .list_ x, ks, e => nCall (Str.ofString "list") ks e fun es => one es fun e' => ckX x ks e'
  | .max_ x z, ks, e => nCall (Str.ofString "max") ks e fun es => two es fun e' f' => ckX x ks e' && ckX z ks f'
  | .idx o i, ks, e => vSub e fun o' i' _ => ckX o ks o' && ckX i ks i'
  | .upto o i, ks, e => varV o fun v => vSub e fun a sl _ => isName a (nm v) && vSlice sl fun lo hi st _ => (lo.isNone && st.isNone) && hi.any fun i' => ckX i ks i'
  | .from o i, ks, e => varV o fun v => vSub e fun a sl _ => isName a (nm v) && vSlice sl fun lo hi st _ => (hi.isNone && st.isNone) && lo.any fun i' => ckX i ks i'
  | .tup xs, ks, e => vTup e fun es _ _ => ckXL xs ks es
  | .lst xs, ks, e => vLst e fun es _ => ckXL xs ks es
  | .comp r el i cs it, ks, e => vComp e fun el' gs sc _ => (ckX el (kindFn sc) el' && ckC ks sc i cs) && oneGen gs fun t it' => isName t (nm i) && itV r ks it' fun e' => ckX it ks e'
  | .ow v i, ks, e => vSub e fun a i' _ => isName a (nm v) && ckX i ks i'
noncomputable def ckXL : XL → KS → List PySem.Expr → Bool
  | .nil, ks, es => es.isEmpty
  | .cons x xs, ks, es => consV es fun e es => ckX x ks e && ckXL xs ks es
end

mutual
theorem ckX_ok : ∀ (x : X) (ks : KS) (e : PySem.Expr), ckX x ks e = true → TX ks e x
  | .int i, ks, e, h => vConst_ok (P := fun e => TX ks e _) h fun c k p h => eq_ok (P := fun c => TX ks (.Constant c k p) _) h .int
  | .bool i, ks, e, h => vConst_ok (P := fun e => TX ks e _) h fun c k p h => eq_ok (P := fun c => TX ks (.Constant c k p) _) h .bool
  | .none, ks, e, h => vConst_ok (P := fun e => TX ks e _) h fun c k p h => eq_ok (P := fun c => TX ks (.Constant c k p) _) h .none
  | .var i, ks, e, h => isName_ok (P := fun e => TX ks e _) h fun p => .var rfl
  | .gl g, ks, e, h => isName_ok (P := fun e => TX ks e _) (band h).1 fun p => .gl rfl (of_decide_eq_true (band h).2)
  | .bin op l r, ks, e, h => vBin_ok (P := fun e => TX ks e _) h fun l' op' r' p h => .bin (of_decide_eq_true (band h).1) (ckX_ok l _ _ (band (band h).2).1) (ckX_ok r _ _ (band (band h).2).2)
  | .neg x, ks, e, h => vUn_ok (P := fun e => TX ks e _) h fun op e' p h => eq_ok (P := fun op => TX ks (.UnaryOp op e' p) _) (band h).1 (.neg (ckX_ok x _ _ (band h).2))
  | .not x, ks, e, h => vUn_ok (P := fun e => TX ks e _) h fun op e' p h => eq_ok (P := fun op => TX ks (.UnaryOp op e' p) _) (band h).1 (.not (ckX_ok x _ _ (band h).2))
  | .cmp op l r, ks, e, h => vCmp_ok (P := fun e => TX ks e _) h fun l' ops rs p h => eq_ok (P := fun ops => TX ks (.Compare l' ops rs p) _) (band h).1
      (one_ok (P := fun rs => TX ks (.Compare l' _ rs p) _) (band (band h).2).2 fun r' h2 => .cmp rfl (ckX_ok l _ _ (band (band h).2).1) (ckX_ok r _ _ h2))
  | .conj xs, ks, e, h => vBool_ok (P := fun e => TX ks e _) h fun op vs p h => eq_ok (P := fun op => TX ks (.BoolOp op vs p) _) (band h).1 (consV_ok (P := fun vs => TX ks (.BoolOp .And vs p) _) (band h).2 fun _ _ h => .conj (ckXL_ok xs _ _ h))
  | .disj xs, ks, e, h => vBool_ok (P := fun e => TX ks e _) h fun op vs p h => eq_ok (P := fun op => TX ks (.BoolOp op vs p) _) (band h).1 (consV_ok (P := fun vs => TX ks (.BoolOp .Or vs p) _) (band h).2 fun _ _ h => .disj (ckXL_ok xs _ _ h))
  | .ite t a b, ks, e, h => vIf_ok (P := fun e => TX ks e _) h fun t' a' b' p h => .ite (ckX_ok t _ _ (band h).1) (ckX_ok a _ _ (band (band h).2).1) (ckX_ok b _ _ (band (band h).2).2)
  | .call f xs, ks, e, h => nCall_ok (P := fun e => TX ks e _) h fun np es p hk h => .call rfl hk (ckXL_ok xs _ _ h)
  | .abs_ x, ks, e, h => nCall_ok (P := fun e => TX ks e _) h fun np es p hk h => one_ok (P := fun es => TX ks (.Call _ es _ _) _) h fun e' h => .abs_ rfl hk (ckX_ok x _ _ h)
  | .len_ x, ks, e, h => nCall_ok (P := fun e => TX ks e _) h fun np es p hk h => one_ok (P := fun es => TX ks (.Call _ es _ _) _) h fun e' h => .len_ rfl hk (ckX_ok x _ _ h)
  | .list_ x, ks, e, h => nCall_ok (P := fun e => TX ks e _) h fun np es p hk h => one_ok (P := fun es => TX ks (.Call _ es _ _) _) h fun e' h => .list_ rfl hk (ckX_ok x _ _ h)
  | .max_ x z, ks, e, h => nCall_ok (P := fun e => TX ks e _) h fun np es p hk h => two_ok (P := fun es => TX ks (.Call _ es _ _) _) h fun e' f' h => .max_ rfl hk (ckX_ok x _ _ (band h).1) (ckX_ok z _ _ (band h).2)
  | .idx o i, ks, e, h => vSub_ok (P := fun e => TX ks e _) h fun o' i' p h => .idx (ckX_ok o _ _ (band h).1) (ckX_ok i _ _ (band h).2)
  | .upto o i, ks, e, h => varV_ok (P := fun o => TX ks e (.upto o i)) h fun v h => vSub_ok (P := fun e => TX ks e _) h fun a sl p h => isName_ok (P := fun a => TX ks (.Subscript a sl p) _) (band h).1 fun np =>
      vSlice_ok (P := fun sl => TX ks (.Subscript _ sl p) _) (band h).2 fun lo hi st sp h => none_ok (P := fun lo => TX ks (.Subscript _ (.Slice lo hi st sp) p) _) (band (band h).1).1 (none_ok (P := fun st => TX ks (.Subscript _ (.Slice none hi st sp) p) _) (band (band h).1).2
        (some_ok (P := fun hi => TX ks (.Subscript _ (.Slice none hi none sp) p) _) (band h).2 fun i' h => .upto rfl (ckX_ok i _ _ h)))
  | .from o i, ks, e, h => varV_ok (P := fun o => TX ks e (.from o i)) h fun v h => vSub_ok (P := fun e => TX ks e _) h fun a sl p h => isName_ok (P := fun a => TX ks (.Subscript a sl p) _) (band h).1 fun np =>
      vSlice_ok (P := fun sl => TX ks (.Subscript _ sl p) _) (band h).2 fun lo hi st sp h => none_ok (P := fun hi => TX ks (.Subscript _ (.Slice lo hi st sp) p) _) (band (band h).1).1 (none_ok (P := fun st => TX ks (.Subscript _ (.Slice lo none st sp) p) _) (band (band h).1).2
        (some_ok (P := fun lo => TX ks (.Subscript _ (.Slice lo none none sp) p) _) (band h).2 fun i' h => .from rfl (ckX_ok i _ _ h)))
  | .tup xs, ks, e, h => vTup_ok (P := fun e => TX ks e _) h fun es k p h => .tup (ckXL_ok xs _ _ h)
  | .lst xs, ks, e, h => vLst_ok (P := fun e => TX ks e _) h fun es p h => .lst (ckXL_ok xs _ _ h)
  | .comp r el i cs it, ks, e, h => vComp_ok (P := fun e => TX ks e _) h fun el' gs sc p h => oneGen_ok (P := fun gs => TX ks (.ListComp el' gs sc p) _) (band h).2 fun t it' h2 => isName_ok (P := fun t => TX ks (.ListComp el' [⟨t, it', [], 0⟩] sc p) _) (band h2).1 fun px =>
      .comp rfl (itV_ok (band h2).2 fun e h => ckX_ok it _ _ h) (ckX_ok el _ _ (band (band h).1).1) (ckC_ok (band (band h).1).2)
  | .ow v i, ks, e, h => vSub_ok (P := fun e => TX ks e _) h fun a i' p h => isName_ok (P := fun a => TX ks (.Subscript a i' p) _) (band h).1 fun np => .ow rfl (ckX_ok i _ _ (band h).2)
theorem ckXL_ok : ∀ (x : XL) (ks : KS) (e : List PySem.Expr), ckXL x ks e = true → TXL ks e x
  | .nil, ks, e, h => nil_ok (P := fun e => TXL ks e _) h .nil
  | .cons x xs, ks, e, h => consV_ok (P := fun e => TXL ks e _) h fun e es h => .cons (ckX_ok x _ _ (band h).1) (ckXL_ok xs _ _ (band h).2)
end
end Mine

namespace Mine

noncomputable def swOK (e : PySem.Expr) : Bool := vTup e (fun vs _ _ => vs.all (foldedForSure 8) || !(vs.all (constantsAlone 8))) || (vCall e (fun _ _ _ _ => true) || (vName e (fun _ _ => true) || vIf e fun _ _ _ _ => true))
noncomputable def SwP (x y : Str) (p q tp : Pos) (k : Nat) (env : Env) (e : PySem.Expr) : Prop :=
  swappedStores [.Tuple [.Name x p, .Name y q] k tp] e env = pure none ∨ swappedStores [.Tuple [.Name x p, .Name y q] k tp] e env = pure (some [x, y])
theorem swOK_ok {x y : Str} {p q tp : Pos} {k : Nat} {e : PySem.Expr} (h : swOK e = true) (env : Env) (hb : env.blockKind = .function) (hx : env.kindOf x = some .local) (hy : env.kindOf y = some .local) : SwP x y p q tp k env e := by
  rcases (Bool.or_eq_true _ _).mp h with h | h
  · refine vTup_ok h fun vs a b h => ?_
    unfold SwP
    unfold swappedStores
    dsimp only
    split
    · exact .inl rfl
    · split
      · exact .inl rfl
      · have hp : (PySem.Expr.Name x p).pos = p := rfl
        simp only [hx, hy, hp, List.filterMap_cons, List.filterMap_nil, List.head?_cons, Option.map_some, Option.getD_some, beq_self_eq_true, Bool.and_self, if_true, Bool.true_and]
        cases q.line == p.line with
        | false => exact .inl (if_pos rfl)
        | true =>
          rw [show (if true = true then some y else none) = some y from rfl]
          dsimp only
          split
          · exact .inl rfl
          · split
            · exact .inl rfl
            · rename_i hf
              split
              · rename_i hc
                rw [hc] at h
                exact absurd ((Bool.or_false (vs.all (foldedForSure 8))).symm.trans h) hf
              · exact .inr rfl
  · rcases (Bool.or_eq_true _ _).mp h with h | h
    · exact vCall_ok h fun _ _ _ _ _ => .inl rfl
    · rcases (Bool.or_eq_true _ _).mp h with h | h
      · exact vName_ok h fun _ _ _ => .inl rfl
      · exact vIf_ok h fun _ _ _ _ _ => .inl rfl
end Mine

namespace Mine

noncomputable def notComp (x : X) : Bool := !(Nat.beq x.ctorIdx 22)
theorem notComp_ok {x : X} (h : notComp x = true) : ∀ r a b c d, x ≠ .comp r a b c d := by
  rintro r a b c d rfl
  cases h
noncomputable def vAsg (e : PySem.Stmt) (F : List PySem.Expr → PySem.Expr → Pos → Bool) : Bool := dite (e.ctorIdx = 5) (fun h => PySem.Stmt.Assign.elim (motive_2 := fun _ => Bool) e h F) fun _ => false
theorem vAsg_ok {P : PySem.Stmt → Prop} {e : PySem.Stmt} {F : List PySem.Expr → PySem.Expr → Pos → Bool} (h : vAsg e F = true) (H : ∀ a b c, F a b c = true → P (.Assign a b c)) : P e :=
  dite (e.ctorIdx = 5) (fun hc => PySem.Stmt.Assign.elim (motive_2 := fun e => vAsg e F = true → P e) e hc (fun a b c h => H a b c h) h) fun hc => absurd ((dif_neg hc).symm.trans h) Bool.false_ne_true
noncomputable def vAug (e : PySem.Stmt) (F : PySem.Expr → Operator → PySem.Expr → Pos → Bool) : Bool := dite (e.ctorIdx = 7) (fun h => PySem.Stmt.AugAssign.elim (motive_2 := fun _ => Bool) e h F) fun _ => false
theorem vAug_ok {P : PySem.Stmt → Prop} {e : PySem.Stmt} {F : PySem.Expr → Operator → PySem.Expr → Pos → Bool} (h : vAug e F = true) (H : ∀ a b c d, F a b c d = true → P (.AugAssign a b c d)) : P e :=
  dite (e.ctorIdx = 7) (fun hc => PySem.Stmt.AugAssign.elim (motive_2 := fun e => vAug e F = true → P e) e hc (fun a b c d h => H a b c d h) h) fun hc => absurd ((dif_neg hc).symm.trans h) Bool.false_ne_true
noncomputable def vFor (e : PySem.Stmt) (F : PySem.Expr → PySem.Expr → List PySem.Stmt → List PySem.Stmt → Pos → Bool) : Bool := dite (e.ctorIdx = 9) (fun h => PySem.Stmt.For.elim (motive_2 := fun _ => Bool) e h F) fun _ => false
theorem vFor_ok {P : PySem.Stmt → Prop} {e : PySem.Stmt} {F : PySem.Expr → PySem.Expr → List PySem.Stmt → List PySem.Stmt → Pos → Bool} (h : vFor e F = true) (H : ∀ a b c d e, F a b c d e = true → P (.For a b c d e)) : P e :=
  dite (e.ctorIdx = 9) (fun hc => PySem.Stmt.For.elim (motive_2 := fun e => vFor e F = true → P e) e hc (fun a b c d e h => H a b c d e h) h) fun hc => absurd ((dif_neg hc).symm.trans h) Bool.false_ne_true
noncomputable def vWhl (e : PySem.Stmt) (F : PySem.Expr → List PySem.Stmt → List PySem.Stmt → Pos → Bool) : Bool := dite (e.ctorIdx = 11) (fun h => PySem.Stmt.While.elim (motive_2 := fun _ => Bool) e h F) fun _ => false
theorem vWhl_ok {P : PySem.Stmt → Prop} {e : PySem.Stmt} {F : PySem.Expr → List PySem.Stmt → List PySem.Stmt → Pos → Bool} (h : vWhl e F = true) (H : ∀ a b c d, F a b c d = true → P (.While a b c d)) : P e :=
  dite (e.ctorIdx = 11) (fun hc => PySem.Stmt.While.elim (motive_2 := fun e => vWhl e F = true → P e) e hc (fun a b c d h => H a b c d h) h) fun hc => absurd ((dif_neg hc).symm.trans h) Bool.false_ne_true
noncomputable def vSIf (e : PySem.Stmt) (F : PySem.Expr → List PySem.Stmt → List PySem.Stmt → Pos → Bool) : Bool := dite (e.ctorIdx = 12) (fun h => PySem.Stmt.If.elim (motive_2 := fun _ => Bool) e h F) fun _ => false
theorem vSIf_ok {P : PySem.Stmt → Prop} {e : PySem.Stmt} {F : PySem.Expr → List PySem.Stmt → List PySem.Stmt → Pos → Bool} (h : vSIf e F = true) (H : ∀ a b c d, F a b c d = true → P (.If a b c d)) : P e :=
  dite (e.ctorIdx = 12) (fun hc => PySem.Stmt.If.elim (motive_2 := fun e => vSIf e F = true → P e) e hc (fun a b c d h => H a b c d h) h) fun hc => absurd ((dif_neg hc).symm.trans h) Bool.false_ne_true
noncomputable def vRet (e : PySem.Stmt) (F : Option PySem.Expr → Pos → Bool) : Bool := dite (e.ctorIdx = 3) (fun h => PySem.Stmt.Return.elim (motive_2 := fun _ => Bool) e h F) fun _ => false
theorem vRet_ok {P : PySem.Stmt → Prop} {e : PySem.Stmt} {F : Option PySem.Expr → Pos → Bool} (h : vRet e F = true) (H : ∀ a b, F a b = true → P (.Return a b)) : P e :=
  dite (e.ctorIdx = 3) (fun hc => PySem.Stmt.Return.elim (motive_2 := fun e => vRet e F = true → P e) e hc (fun a b h => H a b h) h) fun hc => absurd ((dif_neg hc).symm.trans h) Bool.false_ne_true
noncomputable def asg1 (st : PySem.Stmt) (F : PySem.Expr → PySem.Expr → Bool) : Bool := vAsg st fun ts e _ => one ts fun t => F t e
theorem asg1_ok {P : PySem.Stmt → Prop} {st : PySem.Stmt} {F : PySem.Expr → PySem.Expr → Bool} (h : asg1 st F = true) (H : ∀ t e p, F t e = true → P (.Assign [t] e p)) : P st :=
  vAsg_ok h fun ts e p h => one_ok (P := fun ts => P (.Assign ts e p)) h fun t h => H t e p h
noncomputable def tup2 (e : PySem.Expr) (F : PySem.Expr → PySem.Expr → Bool) : Bool := vTup e fun es _ _ => two es F
theorem tup2_ok {P : PySem.Expr → Prop} {e : PySem.Expr} {F : PySem.Expr → PySem.Expr → Bool} (h : tup2 e F = true) (H : ∀ a b k p, F a b = true → P (.Tuple [a, b] k p)) : P e :=
  vTup_ok h fun es k p h => two_ok (P := fun es => P (.Tuple es k p)) h fun a b h => H a b k p h
noncomputable def mulV (e : PySem.Expr) (F : PySem.Expr → PySem.Expr → Bool) : Bool := vBin e fun a op b _ => decide (op = .Mult) && F a b
theorem mulV_ok {P : PySem.Expr → Prop} {e : PySem.Expr} {F : PySem.Expr → PySem.Expr → Bool} (h : mulV e F = true) (H : ∀ a b p, F a b = true → P (.BinOp a .Mult b p)) : P e :=
  vBin_ok h fun a op b p h => eq_ok (P := fun op => P (.BinOp a op b p)) (band h).1 (H a b p (band h).2)
/-- two names, each its own -/
noncomputable def names2 (ks : KS) (i j : Nat) (a b : PySem.Expr) : Bool := isName a (nm i) && (isName b (nm j) && (decide (i ≠ j) && (isLc ks (nm i) && isLc ks (nm j))))
theorem names2_ok {P : PySem.Expr → PySem.Expr → Prop} {ks : KS} {i j : Nat} {a b : PySem.Expr} (h : names2 ks i j a b = true) (H : ∀ p q, i ≠ j → ks (nm i) = some .local → ks (nm j) = some .local → P (.Name (nm i) p) (.Name (nm j) q)) : P a b :=
  isName_ok (P := fun a => P a b) (band h).1 fun p => isName_ok (P := P _) (band (band h).2).1 fun q =>
    H p q (of_decide_eq_true (band (band (band h).2).2).1) (of_decide_eq_true (band (band (band (band h).2).2).2).1) (of_decide_eq_true (band (band (band (band h).2).2).2).2)
noncomputable def isSub (o : BOp) : Bool := Nat.beq o.ctorIdx 1
theorem isSub_ok {P : BOp → Prop} {o : BOp} (h : isSub o = true) (H : P .sub) : P o := by
  cases o with
  | sub => exact H
  | _ => cases h
noncomputable def isRel (s : S) : Bool := Nat.beq s.ctorIdx 6
theorem isRel_ok {P : S → Prop} {s : S} (h : isRel s = true) (H : P .rel) : P s := S.rel.elim (motive_1 := P) s (Nat.eq_of_beq_eq_true h) H
/-- «y = [el for x in it]» and the two lines of its table -/
noncomputable def apart (y : Str) (py p : Pos) (sc : Scope) : Bool := decide (py.line = p.line) && sc.names.all fun z => !decide (z.1 = y) || (!decide (z.2 = .local) && !decide (z.2 = .cell))
theorem apart_ok {y : Str} {py p : Pos} {sc : Scope} (h : apart y py p sc = true) : py.line = p.line ∧ ∀ q, (y, q) ∈ sc.names → ¬ (q = .local ∨ q = .cell) := by
  simp only [apart, Bool.and_eq_true, decide_eq_true_eq, List.all_eq_true, Bool.or_eq_true, Bool.not_eq_true', decide_eq_false_iff_not] at h
  refine ⟨h.1, fun q hm => ?_⟩
  rcases h.2 _ hm with h9 | h9
  · exact absurd rfl h9
  · exact fun h => h.elim h9.1 h9.2
noncomputable def ckI (r : Bool) (x : X) (ks : KS) (it : PySem.Expr) : Bool := itV r ks it fun e => ckX x ks e
theorem ckI_ok {r : Bool} {x : X} {ks : KS} {it : PySem.Expr} (h : ckI r x ks it = true) : TXI ks it r x := itV_ok h fun e h => ckX_ok x _ _ h
noncomputable def asgL (st : PySem.Stmt) (i : Nat) (ks : KS) (F : PySem.Expr → Bool) : Bool := asg1 st fun t e => isName t (nm i) && (isLc ks (nm i) && F e)
theorem asgL_ok {P : PySem.Stmt → Prop} {st : PySem.Stmt} {i : Nat} {ks : KS} {F : PySem.Expr → Bool} (h : asgL st i ks F = true) (H : ∀ p e pos, ks (nm i) = some .local → F e = true → P (.Assign [.Name (nm i) p] e pos)) : P st :=
  asg1_ok h fun t e pos h => isName_ok (P := fun t => P (.Assign [t] e pos)) (band h).1 fun p => H p e pos (of_decide_eq_true (band (band h).2).1) (band (band h).2).2
mutual
noncomputable def ckS : S → KS → PySem.Stmt → Bool
  | .asg i x, ks, st => asgL st i ks fun e => ckX x ks e && notComp x
  | .asgC j r el i cs it, ks, st => asg1 st fun t e => isLc ks (nm j) && vName t fun y py => decide (y = nm j) && vComp e fun el' gs sc p => oneGen gs fun t it' =>
      isName t (nm i) && (ckI r it ks it' && (ckX el (kindFn sc) el' && (ckC ks sc i cs && apart (nm j) py p sc)))
  | .asgT i j x, ks, st => asg1 st fun t e => tup2 t fun a b => names2 ks i j a b && (ckX x ks e && swOK e)
  | .asgO i x w, ks, st => asgL st i ks fun v => mulV v fun e f => ckX x ks e && ckX w ks f
  | .asgTO i j x w v, ks, st => asg1 st fun t u => tup2 t fun a b => names2 ks i j a b && (swOK u && tup2 u fun e m => mulV m fun f g => ckX x ks e && (ckX w ks f && ckX v ks g))
  | .setO v i x, ks, st => asg1 st fun t e => vSub t fun a i' _ => isName a (nm v) && (ckX i ks i' && ckX x ks e)
  | .rel, ks, st => false
  | .aug i op x, ks, st => isSub op && vAug st fun t o e _ => isName t (nm i) && (decide (o = .Sub) && (isLc ks (nm i) && ckX x ks e))
  | .ite t b c, ks, st => vSIf st fun t' b' c' _ => ckX t ks t' && (ckSL b ks b' && ckSL c ks c')
  | .whl t b, ks, st => vWhl st fun t' b' os _ => os.isEmpty && (ckX t ks t' && ckSL b ks b')
  | .forR i x b, ks, st => vFor st fun t it b' os _ => os.isEmpty && (isName t (nm i) && (isLc ks (nm i) && (ckI true x ks it && ckSL b ks b')))
  | .forE i j x b, ks, st => vFor st fun t c b' os _ => os.isEmpty && (ckSL b ks b' && tup2 t fun y z => names2 ks i j y z && nCall (Str.ofString "enumerate") ks c fun es => one es fun e => ckX x ks e)
  | .ret x, ks, st => vRet st fun e _ => e.any fun e => ckX x ks e
  | .bad, ks, st => true
noncomputable def ckSL : SL → KS → List PySem.Stmt → Bool
  | .nil, ks, ss => ss.isEmpty
  | .cons s b, ks, ss => cond (isRel s) (ckSL b ks ss) (consV ss fun st ss => ckS s ks st && ckSL b ks ss)
end
mutual
theorem ckS_ok : ∀ (x : S) (ks : KS) (e : PySem.Stmt), ckS x ks e = true → TS ks e x
  | .asg i x, ks, st, h => asgL_ok (P := fun st => TS ks st _) h fun p e pos hk h => .asg rfl hk (ckX_ok x _ _ (band h).1) (notComp_ok (band h).2)
  | .asgC j r el i cs it, ks, st, h => asg1_ok (P := fun st => TS ks st _) h fun t e pos h => vName_ok (P := fun t => TS ks (.Assign [t] e pos) _) (band h).2 fun y py h2 => eq_ok (P := fun y => TS ks (.Assign [.Name y py] e pos) _) (band h2).1
      (vComp_ok (P := fun e => TS ks (.Assign [.Name _ py] e pos) _) (band h2).2 fun el' gs sc p h3 => oneGen_ok (P := fun gs => TS ks (.Assign _ (.ListComp el' gs sc p) pos) _) h3 fun t it' h4 =>
        isName_ok (P := fun t => TS ks (.Assign _ (.ListComp el' [⟨t, it', [], 0⟩] sc p) pos) _) (band h4).1 fun px => .asgC rfl (of_decide_eq_true (band h).1) rfl (ckI_ok (band (band h4).2).1) (ckX_ok el _ _ (band (band (band h4).2).2).1)
          (ckC_ok (band (band (band (band h4).2).2).2).1) (apart_ok (band (band (band (band h4).2).2).2).2))
  | .asgT i j x, ks, st, h => asg1_ok (P := fun st => TS ks st _) h fun t e pos h => tup2_ok (P := fun t => TS ks (.Assign [t] e pos) _) h fun a b k p h => names2_ok (P := fun a b => TS ks (.Assign [.Tuple [a, b] k p] e pos) _) (band h).1 fun p1 p2 hij h1 h2 =>
      .asgT rfl rfl hij h1 h2 (ckX_ok x _ _ (band (band h).2).1) (swOK_ok (band (band h).2).2)
  | .asgO i x w, ks, st, h => asgL_ok (P := fun st => TS ks st _) h fun p v pos hk h => mulV_ok (P := fun v => TS ks (.Assign [.Name _ p] v pos) _) h fun e f bp h => .asgO rfl hk rfl (ckX_ok x _ _ (band h).1) (ckX_ok w _ _ (band h).2)
  | .asgTO i j x w v, ks, st, h => asg1_ok (P := fun st => TS ks st _) h fun t u pos h => tup2_ok (P := fun t => TS ks (.Assign [t] u pos) _) h fun a b k p h => names2_ok (P := fun a b => TS ks (.Assign [.Tuple [a, b] k p] u pos) _) (band h).1 fun p1 p2 hij h1 h2 =>
      tup2_ok (P := fun u => swOK u = true → TS ks (.Assign [.Tuple [.Name (nm i) p1, .Name (nm j) p2] k p] u pos) _) (band (band h).2).2 (fun e m k' tp' h3 => mulV_ok (P := fun m => swOK (.Tuple [e, m] k' tp') = true → TS ks (.Assign [.Tuple [.Name (nm i) p1, .Name (nm j) p2] k p] (.Tuple [e, m] k' tp') pos) _) h3
        fun f g bp h4 hs => .asgTO rfl rfl hij h1 h2 rfl (ckX_ok x _ _ (band h4).1) (ckX_ok w _ _ (band (band h4).2).1) (ckX_ok v _ _ (band (band h4).2).2) (swOK_ok hs)) (band (band h).2).1
  | .setO v i x, ks, st, h => asg1_ok (P := fun st => TS ks st _) h fun t e pos h => vSub_ok (P := fun t => TS ks (.Assign [t] e pos) _) h fun a i' sp h => isName_ok (P := fun a => TS ks (.Assign [.Subscript a i' sp] e pos) _) (band h).1 fun np =>
      .setO rfl (ckX_ok i _ _ (band (band h).2).1) (ckX_ok x _ _ (band (band h).2).2)
  | .rel, ks, st, h => absurd h Bool.false_ne_true
  | .aug i op x, ks, st, h => isSub_ok (P := fun op => TS ks st (.aug i op x)) (band h).1 (vAug_ok (P := fun st => TS ks st _) (band h).2 fun t o e pos h => isName_ok (P := fun t => TS ks (.AugAssign t o e pos) _) (band h).1 fun p =>
      eq_ok (P := fun o => TS ks (.AugAssign _ o e pos) _) (band (band h).2).1 (.aug rfl (of_decide_eq_true (band (band (band h).2).2).1) (ckX_ok x _ _ (band (band (band h).2).2).2)))
  | .ite t b c, ks, st, h => vSIf_ok (P := fun st => TS ks st _) h fun t' b' c' p h => .ite (ckX_ok t _ _ (band h).1) (ckSL_ok b _ _ (band (band h).2).1) (ckSL_ok c _ _ (band (band h).2).2)
  | .whl t b, ks, st, h => vWhl_ok (P := fun st => TS ks st _) h fun t' b' os p h => nil_ok (P := fun os => TS ks (.While t' b' os p) _) (band h).1 (.whl (ckX_ok t _ _ (band (band h).2).1) (ckSL_ok b _ _ (band (band h).2).2))
  | .forR i x b, ks, st, h => vFor_ok (P := fun st => TS ks st _) h fun t it b' os p h => nil_ok (P := fun os => TS ks (.For t it b' os p) _) (band h).1 (isName_ok (P := fun t => TS ks (.For t it b' [] p) _) (band (band h).2).1 fun q =>
      .forR rfl (of_decide_eq_true (band (band (band h).2).2).1) (ckI_ok (band (band (band (band h).2).2).2).1) (ckSL_ok b _ _ (band (band (band (band h).2).2).2).2))
  | .forE i j x b, ks, st, h => vFor_ok (P := fun st => TS ks st _) h fun t c b' os p h => nil_ok (P := fun os => TS ks (.For t c b' os p) _) (band h).1 (tup2_ok (P := fun t => TS ks (.For t c b' [] p) _) (band (band h).2).2 fun y z k tp h2 =>
      names2_ok (P := fun y z => TS ks (.For (.Tuple [y, z] k tp) c b' [] p) _) (band h2).1 fun p1 p2 hij h3 h4 => nCall_ok (P := fun c => TS ks (.For _ c b' [] p) _) (band h2).2 fun np es cp hk h5 => one_ok (P := fun es => TS ks (.For _ (.Call _ es _ _) b' [] p) _) h5 fun e h6 =>
        .forE rfl rfl hij h3 h4 rfl hk (ckX_ok x _ _ h6) (ckSL_ok b _ _ (band (band h).2).1))
  | .ret x, ks, st, h => vRet_ok (P := fun st => TS ks st _) h fun o p h => some_ok (P := fun o => TS ks (.Return o p) _) h fun e h => .ret (ckX_ok x _ _ h)
  | .bad, ks, st, h => .bad
theorem ckSL_ok : ∀ (x : SL) (ks : KS) (e : List PySem.Stmt), ckSL x ks e = true → TSL ks e x
  | .nil, ks, ss, h => nil_ok (P := fun ss => TSL ks ss _) h .nil
  | .cons s b, ks, ss, h => match hr : isRel s with
    | true => isRel_ok (P := fun s => TSL ks ss (.cons s b)) hr (.rel (ckSL_ok b _ _ (by unfold ckSL at h; rw [hr] at h; exact h)))
    | false => consV_ok (P := fun ss => TSL ks ss (.cons s b)) (F := fun st ss => ckS s ks st && ckSL b ks ss) (by unfold ckSL at h; rw [hr] at h; exact h) fun st ss h => .cons (ckS_ok s _ _ (band h).1) (ckSL_ok b _ _ (band h).2)
end

theorem lookup_zip : ∀ {L : List Str} {vs : List Value} {x : Str} {v : Value}, x ∉ L → ((x, v) :: L.zip vs).lookup x = some v := by
  intro L vs x v _
  simp [List.lookup_cons]
theorem filterMap_zip : ∀ (L : List Str) (vs : List Value) (pre : List (Str × Value)), vs.length = L.length → L.Nodup → (∀ x ∈ L, pre.lookup x = none) → L.filterMap (fun n => ((pre ++ L.zip vs).lookup n).map (n, ·)) = L.zip vs
  | [], [], _, _, _, _ => rfl
  | x :: L, v :: vs, pre, hl, hn, hp => by
    have hx : x ∉ L := (List.nodup_cons.mp hn).1
    have lk_app : ∀ (l r : List (Str × Value)) (y : Str), (l ++ r).lookup y = (l.lookup y).or (r.lookup y) := by
      intro l r y
      induction l with
      | nil => simp
      | cons z l ih =>
        obtain ⟨z, c⟩ := z
        rw [List.cons_append, List.lookup_cons, List.lookup_cons]
        cases hb : y == z with
        | true => simp
        | false => exact ih
    have ih := filterMap_zip L vs (pre ++ [(x, v)]) (by simpa using hl) (List.nodup_cons.mp hn).2 (fun y hy => by
      rw [lk_app, hp y (List.mem_cons_of_mem _ hy)]
      have : (y == x) = false := beq_eq_false_iff_ne.mpr (by rintro rfl; exact hx hy)
      simp [List.lookup_cons, this])
    rw [List.append_assoc] at ih
    rw [List.filterMap_cons]
    have h1 : ((pre ++ (x :: L).zip (v :: vs)).lookup x).map (x, ·) = some (x, v) := by
      rw [lk_app, hp x List.mem_cons_self]
      simp [List.lookup_cons]
    rw [h1]
    simp only [List.zip_cons_cons]
    congr 1
  | [], _ :: _, _, h, _, _ => by simp at h
  | _ :: _, [], _, h, _, _ => by simp at h

theorem lookup_zip_some : ∀ {L : List Str} {vs : List Value} {x : Str}, x ∈ L → vs.length = L.length → ((L.zip vs).lookup x).isNone = false
  | y :: L, v :: vs, x, hx, hl => by
    rw [List.zip_cons_cons, List.lookup_cons]
    cases hb : x == y with
    | true => rfl
    | false =>
      rcases List.mem_cons.mp hx with e | hx
      · subst e; simp at hb
      · exact lookup_zip_some hx (by simpa using hl)
  | _ :: _, [], _, _, h => by simp at h
theorem bind_gen {name : Str} {L : List Arg} {kd : List (Option PySem.Expr)} {ds : List PySem.Expr} {body : List PySem.Stmt} {scope : Scope} {pm cd doc : Value} {vs : List Value} (hn : (L.map (·.arg)).Nodup) (hl : vs.length = L.length) :
    bindArgs (Calls.docDef name ⟨[], L, none, [], kd, none, ds⟩ body scope pm cd doc) ⟨vs, []⟩ = pure ((L.map (·.arg)).zip vs) := by
  have h1 := filterMap_zip (L.map (·.arg)) vs [] (by simpa using hl) hn (fun _ _ => rfl)
  rw [List.nil_append] at h1
  have hmiss : ((L.map (·.arg)).filter fun n => (((L.map (·.arg)).zip vs).lookup n).isNone) = [] := by
    rw [List.filter_eq_nil_iff]
    intro x hx
    rw [lookup_zip_some hx (by simpa using hl)]
    exact Bool.false_ne_true
  unfold bindArgs
  have ht : notAStandIn Value.none = pure () := rfl
  have h2 : List.filterMap ((fun n => Option.map (fun x => (n, x)) (List.lookup n ((List.map (fun x => x.arg) L).zip vs))) ∘ fun x => x.arg) L = (List.map (fun x => x.arg) L).zip vs := by
    rw [← List.filterMap_map]
    exact h1
  have h3 : List.take L.length (List.map (fun x => x.arg) L) = List.map (fun x => x.arg) L := List.take_of_length_le (by simp)
  simp [Calls.docDef, seqItems?, hl, ht, h2]
  refine Eq.trans (if_neg ?_) rfl
  simp [h3, hmiss]
end Mine

namespace Mine
noncomputable def b_gcd : SL := (.cons (.asgT 0 1 (.tup (.cons (.abs_ (.var 0)) (.cons (.abs_ (.var 1)) .nil)))) (.cons (.whl (.cmp .ne (.var 1) (.int 0)) (.cons (.asgT 0 1 (.tup (.cons (.var 1) (.cons (.bin .mod (.var 0) (.var 1)) .nil)))) .nil)) (.cons (.ret (.var 0)) .nil)))
noncomputable def b_rat : SL := (.cons (.ite (.cmp .eq (.var 3) (.int 0)) (.cons .bad .nil) .nil) (.cons (.asg 4 (.ite (.cmp .gt (.var 3) (.int 0)) (.call 0 (.cons (.var 2) (.cons (.var 3) .nil))) (.bin .sub (.int 0) (.call 0 (.cons (.var 2) (.cons (.var 3) .nil)))))) (.cons (.ret (.tup (.cons (.bin .fdiv (.var 2) (.var 4)) (.cons (.bin .fdiv (.var 3) (.var 4)) .nil)))) .nil)))
noncomputable def b_radd : SL := (.cons (.ret (.call 1 (.cons (.bin .add (.bin .mul (.idx (.var 0) (.int 0)) (.idx (.var 1) (.int 1))) (.bin .mul (.idx (.var 1) (.int 0)) (.idx (.var 0) (.int 1)))) (.cons (.bin .mul (.idx (.var 0) (.int 1)) (.idx (.var 1) (.int 1))) .nil)))) .nil)
noncomputable def b_rmul : SL := (.cons (.ret (.call 1 (.cons (.bin .mul (.idx (.var 0) (.int 0)) (.idx (.var 1) (.int 0))) (.cons (.bin .mul (.idx (.var 0) (.int 1)) (.idx (.var 1) (.int 1))) .nil)))) .nil)
noncomputable def b_rdiv : SL := (.cons (.ret (.call 1 (.cons (.bin .mul (.idx (.var 0) (.int 0)) (.idx (.var 1) (.int 1))) (.cons (.bin .mul (.idx (.var 0) (.int 1)) (.idx (.var 1) (.int 0))) .nil)))) .nil)
noncomputable def b_rneg : SL := (.cons (.ret (.tup (.cons (.bin .sub (.int 0) (.idx (.var 0) (.int 0))) (.cons (.idx (.var 0) (.int 1)) .nil)))) .nil)
noncomputable def b_rinv : SL := (.cons (.ret (.call 1 (.cons (.idx (.var 0) (.int 1)) (.cons (.idx (.var 0) (.int 0)) .nil)))) .nil)
noncomputable def b_rcompare : SL := (.cons (.asg 5 (.bin .sub (.bin .mul (.idx (.var 0) (.int 0)) (.idx (.var 1) (.int 1))) (.bin .mul (.idx (.var 1) (.int 0)) (.idx (.var 0) (.int 1))))) (.cons (.ret (.bin .sub (.cmp .gt (.var 5) (.int 0)) (.cmp .lt (.var 5) (.int 0)))) .nil))
noncomputable def b_qtrim : SL := (.cons (.asg 7 (.len_ (.var 6))) (.cons (.whl (.conj (.cons (.cmp .gt (.var 7) (.int 0)) (.cons (.cmp .eq (.idx (.idx (.var 6) (.bin .sub (.var 7) (.int 1))) (.int 0)) (.int 0)) .nil))) (.cons (.aug 7 .sub (.int 1)) .nil)) (.cons (.ret (.list_ (.upto (.var 6) (.var 7)))) .nil)))
noncomputable def b_qadd : SL := (.cons (.asg 7 (.max_ (.len_ (.var 0)) (.len_ (.var 1)))) (.cons (.ret (.call 8 (.cons (.comp true (.call 2 (.cons (.ite (.cmp .lt (.var 8) (.len_ (.var 0))) (.idx (.var 0) (.var 8)) (.gl 0)) (.cons (.ite (.cmp .lt (.var 8) (.len_ (.var 1))) (.idx (.var 1) (.var 8)) (.gl 0)) .nil))) 8 [0, 1] (.var 7)) .nil))) .nil))
noncomputable def b_qneg : SL := (.cons (.ret (.comp false (.call 5 (.cons (.var 10) .nil)) 10 [] (.var 9))) .nil)
noncomputable def b_qsub : SL := (.cons (.ret (.call 9 (.cons (.var 0) (.cons (.call 10 (.cons (.var 1) .nil)) .nil)))) .nil)
noncomputable def b_qscale : SL := (.cons (.ret (.ite (.cmp .ne (.idx (.var 11) (.int 0)) (.int 0)) (.comp false (.call 3 (.cons (.var 10) (.cons (.var 11) .nil))) 10 [11] (.var 9)) (.lst .nil))) .nil)
noncomputable def b_qraise : SL := (.cons (.ret (.ite (.cmp .gt (.len_ (.var 9)) (.int 0)) (.bin .add (.bin .mul (.lst (.cons (.gl 0) .nil)) (.var 12)) (.list_ (.var 9))) (.lst .nil))) .nil)
noncomputable def b_qmul : SL := (.cons (.ite (.disj (.cons (.cmp .eq (.len_ (.var 0)) (.int 0)) (.cons (.cmp .eq (.len_ (.var 1)) (.int 0)) .nil))) (.cons (.ret (.lst .nil)) .nil) .nil) (.cons (.asgO 13 (.lst (.cons (.gl 0) .nil)) (.bin .sub (.bin .add (.len_ (.var 0)) (.len_ (.var 1))) (.int 1))) (.cons (.forE 14 15 (.var 0) (.cons (.forE 16 17 (.var 1) (.cons (.setO 13 (.bin .add (.var 14) (.var 16)) (.call 2 (.cons (.ow 13 (.bin .add (.var 14) (.var 16))) (.cons (.call 3 (.cons (.var 15) (.cons (.var 17) .nil))) .nil)))) .nil)) .nil)) (.cons .rel (.cons (.ret (.var 13)) .nil)))))
noncomputable def b_qdivmod : SL := (.cons (.ite (.cmp .eq (.len_ (.var 1)) (.int 0)) (.cons .bad .nil) .nil) (.cons (.asgTO 18 13 (.list_ (.var 0)) (.lst (.cons (.gl 0) .nil)) (.max_ (.int 0) (.bin .add (.bin .sub (.len_ (.var 0)) (.len_ (.var 1))) (.int 1)))) (.cons (.whl (.cmp .ge (.len_ (.var 18)) (.len_ (.var 1))) (.cons (.asgT 10 19 (.tup (.cons (.call 4 (.cons (.idx (.var 18) (.neg (.int 1))) (.cons (.idx (.var 1) (.neg (.int 1))) .nil))) (.cons (.bin .sub (.len_ (.var 18)) (.len_ (.var 1))) .nil)))) (.cons (.setO 13 (.var 19) (.var 10)) (.cons (.asg 20 (.call 11 (.cons (.upto (.var 18) (.neg (.int 1))) (.cons (.call 13 (.cons (.call 12 (.cons (.upto (.var 1) (.neg (.int 1))) (.cons (.var 10) .nil))) (.cons (.var 19) .nil))) .nil)))) (.cons (.asg 18 (.var 20)) .nil))))) (.cons .rel (.cons (.ret (.tup (.cons (.call 8 (.cons (.var 13) .nil)) (.cons (.var 18) .nil)))) .nil)))))
noncomputable def b_cut : SL := (.cons (.ret (.bin .add (.list_ (.upto (.var 0) (.var 21))) (.bin .mul (.lst (.cons (.gl 0) .nil)) (.bin .sub (.var 21) (.len_ (.var 0)))))) .nil)
noncomputable def b_first_within : SL := (.cons (.asgT 23 18 (.tup (.cons (.bin .add (.bin .mul (.lst (.cons (.gl 0) .nil)) (.len_ (.var 0))) (.lst (.cons (.gl 1) .nil))) (.cons (.call 8 (.cons (.var 0) .nil)) .nil)))) (.cons (.asgT 14 16 (.tup (.cons (.lst .nil) (.cons (.lst (.cons (.gl 1) .nil)) .nil)))) (.cons (.whl (.cmp .gt (.len_ (.var 18)) (.bin .add (.var 22) (.int 1))) (.cons (.asgT 24 15 (.call 15 (.cons (.var 23) (.cons (.var 18) .nil)))) (.cons (.asgT 23 18 (.tup (.cons (.var 18) (.cons (.var 15) .nil)))) (.cons (.asgT 14 16 (.tup (.cons (.var 16) (.cons (.call 11 (.cons (.var 14) (.cons (.call 14 (.cons (.var 24) (.cons (.var 16) .nil))) .nil))) .nil)))) .nil)))) (.cons (.ret (.tup (.cons (.var 18) (.cons (.var 16) .nil)))) .nil))))
noncomputable def b_pade : SL := (.cons (.ite (.disj (.cons (.cmp .lt (.var 25) (.neg (.int 1))) (.cons (.cmp .lt (.var 26) (.int 0)) .nil))) (.cons (.ret .none) .nil) .nil) (.cons (.asgT 2 3 (.call 17 (.cons (.call 16 (.cons (.var 0) (.cons (.bin .add (.bin .add (.var 25) (.var 26)) (.int 1)) .nil))) (.cons (.var 25) .nil)))) (.cons (.ite (.disj (.cons (.cmp .eq (.len_ (.var 3)) (.int 0)) (.cons (.cmp .eq (.call 7 (.cons (.idx (.var 3) (.int 0)) (.cons (.gl 0) .nil))) (.int 0)) .nil))) (.cons (.ret .none) .nil) .nil) (.cons (.ret (.tup (.cons (.call 12 (.cons (.var 2) (.cons (.call 6 (.cons (.idx (.var 3) (.int 0)) .nil)) .nil))) (.cons (.call 12 (.cons (.var 3) (.cons (.call 6 (.cons (.idx (.var 3) (.int 0)) .nil)) .nil))) .nil)))) .nil))))
noncomputable def b_pade_table : SL := (.cons (.ret (.comp true (.comp true (.call 18 (.cons (.var 0) (.cons (.var 14) (.cons (.var 16) .nil)))) 16 [0, 14] (.bin .add (.var 26) (.int 1))) 14 [26, 0] (.bin .add (.var 25) (.int 1)))) .nil)
noncomputable def b_law_is_there : SL := (.cons (.ret (.disj (.cons (.cmp .eq (.var 26) (.int 0)) (.cons (.cmp .eq (.idx (.var 6) (.bin .add (.var 25) (.int 1))) (.int 0)) (.cons (.conj (.cons (.cmp .ge (.var 25) (.int 0)) (.cons (.cmp .ne (.idx (.var 6) (.var 25)) (.int 0)) .nil))) .nil))))) .nil)
noncomputable def b_law_fits : SL := (.cons (.asgT 14 16 (.var 13)) (.cons (.ite (.disj (.cons (.cmp .gt (.len_ (.var 14)) (.bin .add (.var 25) (.int 1))) (.cons (.cmp .gt (.len_ (.var 16)) (.bin .add (.var 26) (.int 1))) (.cons (.cmp .ne (.upto (.var 16) (.int 1)) (.lst (.cons (.tup (.cons (.int 1) (.cons (.int 1) .nil))) .nil))) .nil)))) (.cons (.ret (.bool false)) .nil) .nil) (.cons (.ite (.disj (.cons (.cmp .eq (.idx (.var 16) (.neg (.int 1))) (.tup (.cons (.int 0) (.cons (.int 1) .nil)))) (.cons (.cmp .eq (.from (.var 14) (.neg (.int 1))) (.lst (.cons (.tup (.cons (.int 0) (.cons (.int 1) .nil))) .nil))) .nil))) (.cons (.ret (.bool false)) .nil) .nil) (.cons (.asgT 1 31 (.ite (.cmp .gt (.len_ (.var 16)) (.int 1)) (.idx (.var 16) (.int 1)) (.tup (.cons (.int 0) (.cons (.int 1) .nil))))) (.cons (.forR 8 (.bin .add (.bin .add (.var 25) (.var 26)) (.int 1)) (.cons (.asg 28 (.bin .add (.bin .mul (.idx (.var 6) (.var 8)) (.var 31)) (.ite (.cmp .gt (.var 8) (.int 0)) (.bin .mul (.var 1) (.idx (.var 6) (.bin .sub (.var 8) (.int 1)))) (.int 0)))) (.cons (.asgT 29 30 (.ite (.cmp .lt (.var 8) (.len_ (.var 14))) (.idx (.var 14) (.var 8)) (.tup (.cons (.int 0) (.cons (.int 1) .nil))))) (.cons (.ite (.cmp .ne (.bin .mul (.var 28) (.var 30)) (.bin .mul (.var 29) (.var 31))) (.cons (.ret (.bool false)) .nil) .nil) .nil)))) (.cons (.ret (.bool true)) .nil))))))
noncomputable def b_law : SL := (.cons (.asgC 33 false (.tup (.cons (.var 10) (.cons (.int 1) .nil))) 10 [] (.var 6)) (.cons (.ite (.disj (.cons (.cmp .isnot (.call 18 (.cons (.bin .mul (.lst (.cons (.tup (.cons (.int 1) (.cons (.int 1) .nil))) .nil)) (.int 4)) (.cons (.neg (.int 2)) (.cons (.int 5) .nil)))) .none) (.cons (.cmp .isnot (.call 18 (.cons (.lst (.cons (.tup (.cons (.int 1) (.cons (.int 1) .nil))) .nil)) (.cons (.int 0) (.cons (.neg (.int 1)) .nil)))) .none) .nil))) (.cons (.ret (.bool false)) .nil) .nil) (.cons (.asg 13 (.call 18 (.cons (.var 33) (.cons (.var 25) (.cons (.var 26) .nil))))) (.cons (.ite (.disj (.cons (.cmp .lt (.var 25) (.neg (.int 1))) (.cons (.cmp .lt (.var 26) (.int 0)) .nil))) (.cons (.ret (.conj (.cons (.cmp .is (.var 13) .none) (.cons (.cmp .eq (.call 19 (.cons (.var 33) (.cons (.var 25) (.cons (.var 26) .nil)))) (.comp true (.lst .nil) 14 [] (.max_ (.int 0) (.bin .add (.var 25) (.int 1))))) .nil)))) .nil) .nil) (.cons (.ite (.cmp .is (.var 13) .none) (.cons (.ret (.not (.call 20 (.cons (.var 6) (.cons (.var 25) (.cons (.var 26) .nil)))))) .nil) .nil) (.cons (.ret (.conj (.cons (.call 20 (.cons (.var 6) (.cons (.var 25) (.cons (.var 26) .nil)))) (.cons (.call 21 (.cons (.var 6) (.cons (.var 25) (.cons (.var 26) (.cons (.var 13) .nil))))) .nil)))) .nil))))))
noncomputable def b_take : SL := (.cons (.setO 27 (.int 1) (.bin .add (.ow 27 (.int 1)) (.int 1))) (.cons (.ite (.cmp .le (.ow 27 (.int 1)) (.len_ (.ow 27 (.int 0)))) (.cons (.ret (.bin .mod (.abs_ (.idx (.ow 27 (.int 0)) (.bin .sub (.ow 27 (.int 1)) (.int 1)))) (.var 12))) .nil) .nil) (.cons (.ret (.bin .mod (.bin .add (.bin .mul (.int 5) (.ow 27 (.int 1))) (.bin .fdiv (.ow 27 (.int 1)) (.int 3))) (.var 12))) .nil)))
noncomputable def fnT : List (List Nat × SL) := [([0, 1], b_gcd), ([2, 3], b_rat), ([0, 1], b_radd), ([0, 1], b_rmul), ([0, 1], b_rdiv), ([0], b_rneg), ([0], b_rinv), ([0, 1], b_rcompare), ([6], b_qtrim), ([0, 1], b_qadd), ([9], b_qneg), ([0, 1], b_qsub), ([9, 11], b_qscale), ([9, 12], b_qraise), ([0, 1], b_qmul), ([0, 1], b_qdivmod), ([0, 21], b_cut), ([0, 22], b_first_within), ([0, 25, 26], b_pade), ([0, 25, 26], b_pade_table), ([6, 25, 26], b_law_is_there), ([6, 25, 26, 13], b_law_fits), ([27, 12], b_take)]
noncomputable def nthF : List (List Nat × SL) → Nat → Option (List Nat × SL)
  | [], _ => .none
  | v :: _, 0 => some v
  | _ :: l, n + 1 => nthF l n

noncomputable def ckF (d : DefRec) (ps : List Nat) (body : SL) : Bool :=
  ckSL body (kindFn d.scope) d.body && decide (d.scope.kind = .function) && decide (d.scope.isGenerator = false) && decide (d.scope.isCoroutine = false) && d.scope.names.all (fun x => !decide (x.2 = .free)) &&
  d.params.posonlyargs.isEmpty && d.params.vararg.isNone && d.params.kwonlyargs.isEmpty && d.params.kwarg.isNone && decide (d.params.args.map (·.arg) = ps.map nm) && decide ps.Nodup && !ps.isEmpty &&
  ps.all (fun p => decide (d.scope.names.lookup (nm p) = some .local) || decide (d.scope.names.lookup (nm p) = some .cell)) && decide ((d.name == ("__debug__" : Str)) = false)
noncomputable def ckFn (p : Program) (f : Nat) : Bool := match (recsOf p).find? (fun d => decide (d.name = fnm f)) with
  | some d => match nthF fnT f with
    | some (ps, b) => ckF d ps b
    | none => false
  | none => false
end Mine

namespace Mine

theorem ckF_ok {d : DefRec} {ps : List Nat} {b : SL} (h : ckF d ps b = true) : TSL (kindFn d.scope) d.body b ∧ d.scope.kind = .function ∧ d.scope.isGenerator = false ∧ d.scope.isCoroutine = false ∧ (∀ x ∈ d.scope.names, x.2 ≠ .free) ∧
    (∃ L kd ds, d.params = ⟨[], L, none, [], kd, none, ds⟩ ∧ L.map (·.arg) = ps.map nm) ∧ ps.Nodup ∧ ps ≠ [] ∧ (∀ p ∈ ps, d.scope.names.lookup (nm p) = some .local ∨ d.scope.names.lookup (nm p) = some .cell) ∧ (d.name == ("__debug__" : Str)) = false := by
  simp only [ckF, Bool.and_eq_true, decide_eq_true_eq, List.all_eq_true, Bool.or_eq_true, Bool.not_eq_true', decide_eq_false_iff_not] at h
  obtain ⟨⟨⟨⟨⟨⟨⟨⟨⟨⟨⟨⟨⟨h1, h2⟩, h3⟩, h4⟩, h5⟩, h6⟩, h7⟩, h8⟩, h9⟩, h10⟩, h11⟩, h12⟩, h13⟩, h14⟩ := h
  refine ⟨ckSL_ok _ _ _ h1, h2, h3, h4, h5, ?_, h11, ?_, h13, h14⟩
  · obtain ⟨n, ⟨po, as, va, ko, kd, kw, ds⟩, bd, sc, ps'⟩ := d
    simp only [List.isEmpty_iff, Option.isNone_iff_eq_none] at h6 h7 h8 h9
    subst h6 h7 h8 h9
    exact ⟨as, kd, ds, rfl, h10⟩
  · rintro rfl
    cases h12

theorem fnR_of {p : Program} (allF : (List.range 23).all (ckFn p) = true) {loose : List Str} {mean : ExcName → Option Value} {mg mb : Str → Option Value} {h : Heap} (T : Top p loose mean mg mb h) {f : Nat} {ps : List Nat} {b : SL} (hf : nthF fnT f = some (ps, b)) : FnR h mg f ps b := by
  have hlt : f < 23 := by
    by_cases hlt : f < 23
    · exact hlt
    · exfalso
      have : ∀ (l : List (List Nat × SL)) (k : Nat), l.length ≤ k → nthF l k = none := by
        intro l
        induction l with
        | nil => intro k _; rfl
        | cons x l ih =>
          intro k hk
          cases k with
          | zero => simp at hk
          | succ k => exact ih k (by simpa using hk)
      rw [this fnT f (by show 23 ≤ f; omega)] at hf
      cases hf
  have hck := List.all_eq_true.mp allF f (List.mem_range.mpr hlt)
  unfold ckFn at hck
  split at hck
  · rename_i d hfind
    rw [hf] at hck
    have hck : ckF d ps b = true := hck
    have hname : d.name = fnm f := of_decide_eq_true (List.find?_some (p := fun d : DefRec => decide (d.name = fnm f)) hfind)
    have hmem := List.mem_of_find?_eq_some hfind
    obtain ⟨a, o, pm, cd, doc, t1, t2, t3, t4⟩ := T.fn d hmem
    obtain ⟨h1, h2, h3, h4, h5, ⟨L, kd, ds, h6, h7⟩, h8, h9, h10, h11⟩ := ckF_ok hck
    refine ⟨⟨a, o, d.name, d.params, d.body, d.scope, pm, cd, doc, by rw [← hname]; exact t1, t2, t3, t4, h1, fun args hl => ?_, h10, h4, h3, h2, h5⟩, by rw [← hname]; exact h11, h9⟩
    rw [h6, ← h7]
    have hnd : (L.map (·.arg)).Nodup := by
      rw [h7]
      exact List.Pairwise.map nm (fun a b hab e => hab (nm_inj e)) h8
    exact bind_gen hnd (by
      rw [hl]
      have := congrArg List.length h7
      simpa using this.symm)
  · cases hck

noncomputable def litOK (p : Program) (x : Str) (a b : Int) : Bool := (wlitsOf p).any fun c => decide (c.1 = x) && (match c.2 with
  | .tuple [.int i, .int j] => decide (i = a) && decide (j = b)
  | _ => false)
theorem lit_of {p : Program} {mg : Str → Option Value} {h : Heap} (TW : TopW p mg h) {x : Str} {a b : Int} (hl : litOK p x a b = true) : ∃ v, mg x = some v ∧ VR (fun _ => False) h (.tup [.int a, .int b]) v := by
  obtain ⟨c, hc, hk⟩ := List.any_eq_true.mp hl
  simp only [Bool.and_eq_true, decide_eq_true_eq] at hk
  obtain ⟨hk1, hk2⟩ := hk
  obtain ⟨v, h1, h2⟩ := TW.lits c hc
  obtain ⟨x', d⟩ := c
  split at hk2
  · rename_i i j hd
    simp only [Bool.and_eq_true, decide_eq_true_eq] at hk2
    obtain ⟨rfl, rfl⟩ := hk2
    dsimp only at hd hk1 h1 h2
    subst hd hk1
    refine ⟨v, h1, ?_⟩
    generalize hz : ([] : List Addr) = zs at h2
    cases h2 with
    | tuple e1 e2 e3 e4 =>
      clear hz
      rename_i a o vs n
      refine .tup (items := vs) (fun q => q) ⟨o, e1, e2, n, e3⟩ ?_
      generalize vs.toList = ys at e4
      cases e4 with
      | cons q1 q2 =>
        cases q1
        cases q2 with
        | cons q3 q4 =>
          cases q3
          cases q4
          exact .cons (.int _ _) (.cons (.int _ _) .nil)
  · cases hk2

noncomputable def biOK (p : Program) (loose : List Str) (x : Str) : Bool := !startupNames.contains x && !loose.contains x && !((recsOf p).map (·.name)).contains x && !((litsOf p).map (·.1)).contains x && !((clssOf p loose).map (·.name)).contains x && decide (x ≠ "__name__")
theorem wf_of {p : Program} (allF : (List.range 23).all (ckFn p) = true) {loose : List Str} {mean : ExcName → Option Value} {mg mb : Str → Option Value} {h : Heap} (T : Top p loose mean mg mb h) (TW : TopW p mg h) (hb : (biL.all fun x => biOK p loose x.1) = true) (hl : (litOK p "R0" 0 1 && litOK p "R1" 1 1) = true)
    (hv : ∀ n v, (n, v) ∈ biL → bootBuiltins n = some v) : WF h mg mb (nthF fnT) := by
  refine ⟨T.g, T.b, T.nolimit, fun n v hm => ?_, fun g v hg => ?_, fun f ps b hf => fnR_of allF T hf⟩
  · have := List.all_eq_true.mp hb _ hm
    simp only [biOK, Bool.and_eq_true, Bool.not_eq_true', decide_eq_true_eq] at this
    obtain ⟨⟨⟨⟨⟨h1, h2⟩, h3⟩, h4⟩, h5⟩, h6⟩ := this
    exact ⟨T.free n (by simpa using h1) (by simpa using h2) (by simpa using h3) (by simpa using h4) (by simpa using h5), by rw [T.builtins n h6]; exact hv n v hm⟩
  · rw [Bool.and_eq_true] at hl
    cases g with
    | zero => cases hg; exact lit_of TW hl.1
    | succ g =>
      cases g with
      | zero => cases hg; exact lit_of TW hl.2
      | succ g => cases hg
theorem biV : ∀ n v, (n, v) ∈ biL → bootBuiltins n = some v := by
  intro n v hm
  simp only [biL, List.mem_cons, List.mem_nil_iff, or_false, Prod.mk.injEq] at hm
  rcases hm with ⟨rfl, rfl⟩ | ⟨rfl, rfl⟩ | ⟨rfl, rfl⟩ | ⟨rfl, rfl⟩ | ⟨rfl, rfl⟩ | ⟨rfl, rfl⟩ <;> kernel_rfl
end Mine

namespace Mine

noncomputable abbrev FT := nthF fnT
noncomputable def Box (exC : Addr → Prop) (h : Heap) (bx : Addr) (xs : List Int) (c : Nat) : Prop := ∃ items, h.PlainList bx items ∧ VRs (exO exC (some bx)) h [.lst (xs.map .int), .int c] items.toList
theorem Box.keep {exC : Addr → Prop} {h h' : Heap} {bx : Addr} {xs : List Int} {c : Nat} (B : Box exC h bx xs c) (hk : ∀ b o, h.get? b = some o → h'.get? b = some o) : Box exC h' bx xs c :=
  let ⟨items, h1, h2⟩ := B; ⟨items, h1.at fun o => hk _ o, h2.keep hk⟩
structure KX (bx : Addr) (s s' : Shared) : Prop where
  sh : ∃ h' tk, s' = { s with heap := h', toks := tk }
  hp : ∀ b o, b ≠ bx → s.heap.get? b = some o → s'.heap.get? b = some o

theorem nth_map (xs : List Int) : ∀ (k : Nat), k < xs.length → ∃ x, Mine.nth (xs.map .int) k = some (.int x) := by
  induction xs with
  | nil => intro k h; simp at h
  | cons y xs ih =>
    intro k h
    cases k with
    | zero => exact ⟨y, rfl⟩
    | succ k => exact ih k (by simpa using h)

section
variable (n : Nat) (xs : List Int) (c : Nat) (m : Int)
noncomputable def l1 : Loc := [(12, .int m)]
noncomputable def o0 : Ow := some (27, [.lst (xs.map .int), .int c])
noncomputable def o1 : Ow := some (27, [.lst (xs.map .int), .int ((c : Int) + 1)])
theorem okN_of {k : Nat} (h : k ≤ 1000) : okN k = true := Nat.ble_eq_true_of_le h
theorem v_set : exS (rn FT 6) (.setO 27 (.int 1) (.bin .add (.ow 27 (.int 1)) (.int 1))) (l1 m) (o0 xs c) = some (.next, l1 m, o1 xs c) := rfl
theorem v_test (hx : xs.length ≤ 12) : aBool ((rn FT 6).ev (.cmp .le (.ow 27 (.int 1)) (.len_ (.ow 27 (.int 0)))) (l1 m) (o1 xs c)) = some (decide ((c : Int) + 1 ≤ (xs.length : Int))) := by
  have h1 : okN (xs.map AV.int).length = true := okN_of (by simp; omega)
  have e : (rn FT 5).ev (.len_ (.ow 27 (.int 0))) (l1 m) (o1 xs c) = (match okN (xs.map AV.int).length with | true => some (.int (Int.ofNat (xs.map AV.int).length)) | false => none) := rfl
  rw [h1] at e
  have e2 : (rn FT 5).ev (.ow 27 (.int 1)) (l1 m) (o1 xs c) = some (.int ((c : Int) + 1)) := rfl
  show aBool (match (rn FT 5).ev (.ow 27 (.int 1)) (l1 m) (o1 xs c) with
    | some a => match (rn FT 5).ev (.len_ (.ow 27 (.int 0))) (l1 m) (o1 xs c) with
      | some b => (cmpV .le a b).map .bool
      | none => none
    | none => none) = _
  rw [e, e2]
  show some (decide ((c : Int) + 1 ≤ Int.ofNat (xs.map AV.int).length)) = _
  rw [List.length_map]
  rfl
theorem v_item (hx : xs.length ≤ 12) (hm : 0 < m) (hc : c < xs.length) : ∃ r, 0 ≤ r ∧ r < m ∧ (rn FT 6).ev (.bin .mod (.abs_ (.idx (.ow 27 (.int 0)) (.bin .sub (.ow 27 (.int 1)) (.int 1)))) (.var 12)) (l1 m) (o1 xs c) = some (.int r) := by
  have h1 : okN (xs.map AV.int).length = true := okN_of (by simp; omega)
  obtain ⟨x, hx⟩ := nth_map xs c hc
  have e1 : (rn FT 4).ev (.idx (.ow 27 (.int 0)) (.bin .sub (.ow 27 (.int 1)) (.int 1))) (l1 m) (o1 xs c) = (match okN (xs.map AV.int).length with | true => idxV (xs.map .int) ((c : Int) + 1 - 1) | false => none) := rfl
  rw [h1] at e1
  have e0 : (c : Int) + 1 - 1 = Int.ofNat c := by show _ = (c : Int); omega
  have e2 : (rn FT 4).ev (.idx (.ow 27 (.int 0)) (.bin .sub (.ow 27 (.int 1)) (.int 1))) (l1 m) (o1 xs c) = some (.int x) := by
    rw [e1, e0]
    exact hx
  have e3 : (rn FT 5).ev (.abs_ (.idx (.ow 27 (.int 0)) (.bin .sub (.ow 27 (.int 1)) (.int 1)))) (l1 m) (o1 xs c) = some (.int (match decide (x < 0) with | true => -x | false => x)) := by
    show (match aInt ((rn FT 4).ev (.idx (.ow 27 (.int 0)) (.bin .sub (.ow 27 (.int 1)) (.int 1))) (l1 m) (o1 xs c)) with
      | some i => some (AV.int (match decide (i < 0) with | true => -i | false => i))
      | none => none) = _
    rw [e2]
    rfl
  refine ⟨Int.fmod (match decide (x < 0) with | true => -x | false => x) m, Int.fmod_nonneg_of_pos _ hm, Int.fmod_lt_of_pos _ hm, ?_⟩
  show (match (rn FT 5).ev (.abs_ (.idx (.ow 27 (.int 0)) (.bin .sub (.ow 27 (.int 1)) (.int 1)))) (l1 m) (o1 xs c) with
    | some a => binV .mod a (.int m)
    | none => none) = _
  rw [e3]
  show (match decide (m = 0) with | true => none | false => some (AV.int _)) = _
  rw [decide_eq_false (by omega)]
theorem v_made (hm : 0 < m) (hc : c ≤ 20) : ∃ r, 0 ≤ r ∧ r < m ∧ (rn FT 6).ev (.bin .mod (.bin .add (.bin .mul (.int 5) (.ow 27 (.int 1))) (.bin .fdiv (.ow 27 (.int 1)) (.int 3))) (.var 12)) (l1 m) (o1 xs c) = some (.int r) := by
  have e1 : (rn FT 5).ev (.bin .add (.bin .mul (.int 5) (.ow 27 (.int 1))) (.bin .fdiv (.ow 27 (.int 1)) (.int 3))) (l1 m) (o1 xs c) = some (.int (5 * ((c : Int) + 1) + Int.fdiv ((c : Int) + 1) 3)) := by
    have h1 : okI ((c : Int) + 1) = true := Nat.ble_eq_true_of_le (by omega)
    show (match (match okI 5 with
      | true => match okI ((c : Int) + 1) with
        | true => some (AV.int (5 * ((c : Int) + 1)))
        | false => none
      | false => none) with
      | some a => binV .add a (.int (Int.fdiv ((c : Int) + 1) 3))
      | none => none) = _
    rw [h1]
    rfl
  refine ⟨Int.fmod (5 * ((c : Int) + 1) + Int.fdiv ((c : Int) + 1) 3) m, Int.fmod_nonneg_of_pos _ hm, Int.fmod_lt_of_pos _ hm, ?_⟩
  show (match (rn FT 5).ev (.bin .add (.bin .mul (.int 5) (.ow 27 (.int 1))) (.bin .fdiv (.ow 27 (.int 1)) (.int 3))) (l1 m) (o1 xs c) with
    | some a => binV .mod a (.int m)
    | none => none) = _
  rw [e1]
  show (match decide (m = 0) with | true => none | false => some (AV.int _)) = _
  rw [decide_eq_false (by omega)]
end

theorem bind_two {kindOf : Str → Option NameKind} {x y : Str} {u v : Value} (hxy : x ≠ y) (hx : kindOf x = some .local ∨ kindOf x = some .cell) (hy : kindOf y = some .local ∨ kindOf y = some .cell) :
    ((kindOf x = some .local ∧ bindL kindOf [(x, u), (y, v)] (fun _ => none) x = some u) ∨ (kindOf x = some .cell ∧ bindC kindOf [(x, u), (y, v)] (fun _ => none) x = some u)) ∧
    ((kindOf y = some .local ∧ bindL kindOf [(x, u), (y, v)] (fun _ => none) y = some v) ∨ (kindOf y = some .cell ∧ bindC kindOf [(x, u), (y, v)] (fun _ => none) y = some v)) := by
  rcases hx with hx | hx <;> rcases hy with hy | hy <;> simp [bindL, bindC, hx, hy, hxy, Ne.symm hxy]
end Mine

namespace Mine

theorem ints_vr {ex ex' : Addr → Prop} {h h' : Heap} : ∀ {xs : List Int} {ys : List Value}, VRs ex h (xs.map .int) ys → VRs ex' h' (xs.map .int) ys
  | [], _, .nil => .nil
  | x :: xs, _, .cons a b => by
    cases a
    exact .cons (.int _ _) (ints_vr b)

theorem nm_ne {i j : Nat} (h : i ≠ j) : nm i ≠ nm j := fun e => h (nm_inj e)

section
variable {prog : Program} {w : World} {hW : Heap} {mg mb : Str → Option Value} {env : Env} {ks : KS} {A : Around} {s : Shared} {E : Value → Shared → Prop} {Q : Value → Shared → Prop} {bx : Addr} {exC : Addr → Prop} {xs : List Int} {c : Nat} {m : Int}

/-- the body of the taker -/
theorem take_body (W : WF hW mg mb FT) {ss : List PySem.Stmt} (hss : TSL ks ss b_take) (ok : EnvOK env ks) (ha : AOK A 10) (hw : ∀ b o, hW.get? b = some o → s.heap.get? b = some o) (hbW : hW.get? bx = none) (hexC : ∀ b, exC b → hW.get? b = none ∧ ∃ o, s.heap.get? b = some o) (hnb : ¬ exC bx) (hL : hW.get? env.locals = none) {mL : Str → Option Value} (hns : s.heap.Ns env.locals mL)
    (hb : NameIs env s.heap (nm 27) (.ref bx)) {t : Tok} (hmn : NameIs env s.heap (nm 12) (.int m t)) (B : Box exC s.heap bx xs c) (hx : xs.length ≤ 12) (hc : c ≤ 20) (hm : 0 < m) {Q : Flow → Shared → Prop}
    (hQ : ∀ r t s', 0 ≤ r → r < m → (∃ h' tk, s' = { s with heap := h', toks := tk }) → (∀ b o, b ≠ env.locals → b ≠ bx → s.heap.get? b = some o → s'.heap.get? b = some o) → Box exC s'.heap bx xs (c + 1) → Q (.ret (.int r t)) s') :
    wpAny (model prog w) A (execs ss env) Q E s := by
  have SD := sound (prog := prog) (w := w) W 6
  have ha6 : AOK A 6 := ha.le (by omega)
  obtain ⟨items, hpb, hvs⟩ := B
  have S : SS hW env exC (some bx) (l1 m) (o0 xs c) s.heap := by
    refine ⟨hw, fun j v e => ?_, fun b q => ?_, ⟨_, hns⟩, hL, ?_⟩
    · have e : (match Nat.beq 12 j with | true => some (AV.int m) | false => none) = some v := e
      split at e
      · rename_i hj
        have := Nat.eq_of_beq_eq_true hj
        subst this
        cases e
        exact ⟨_, .int m t, hmn⟩
      · cases e
    · rcases q with q | q
      · exact hexC b q
      · cases q
        obtain ⟨n0, hpb⟩ := hpb
        exact ⟨hbW, _, hpb⟩
    · exact ⟨_, hb, hpb, hvs, hnb⟩
  cases hss with
  | cons h1 h2 =>
    cases h1 with
    | setO hx1 h3 h4 =>
      subst hx1
      refine wpAny_execs_cons (ex_setO1 SD.ev ok ha6 S h3 h4 (fun t n => by cases h4 <;> rfl) (v_set xs c m) fun s1 k1 S1 _ => ?_)
      dsimp only
      have hown := S1.own
      obtain ⟨items1, q1, q2, q3, _⟩ := hown
      have B1 : Box exC s1.heap bx xs (c + 1) := ⟨items1, q2, q3⟩
      cases h2 with
      | cons h5 h6 =>
        cases h5 with
        | ite ht hb1 hb2 =>
          refine wpAny_execs_cons (wpAny_If (SD.tst ht ok ha6 S1.es (v_test xs c m hx) fun s2 k2 => ?_))
          have fin : ∀ r t s3, Keeps s2 s3 → 0 ≤ r → r < m → Q (.ret (.int r t)) s3 := fun r t s3 k3 h0 hr => by
            have kk := kTr k2 k3
            refine hQ r t s3 h0 hr ?_ (fun b o q1 q2 e => kHp kk b o (k1.hp b o q1 (fun q => by cases q; exact q2 rfl) e)) ?_
            · obtain ⟨h', tk, rfl⟩ := k1.sh
              obtain ⟨h'', tk', rfl, _⟩ := kk
              exact ⟨h'', tk', rfl⟩
            · exact B1.keep (kHp kk)
          by_cases hlt : (c : Int) + 1 ≤ (xs.length : Int)
          · rw [decide_eq_true hlt, if_pos rfl]
            obtain ⟨r, h0, hr, hv⟩ := v_item xs c m hx hm (by omega)
            cases hb1 with
            | cons h7 h8 =>
              cases h7 with
              | ret h9 =>
                refine wpAny_execs_cons (wpAny_Return_some (SD.ev h9 ok ha6 (S1.keeps k2).es hv fun y s3 k3 r3 => ?_))
                cases r3
                exact fin _ _ _ k3 h0 hr
          · rw [decide_eq_false hlt, if_neg Bool.false_ne_true]
            obtain ⟨r, h0, hr, hv⟩ := v_made xs c m hm hc
            cases hb2
            refine wpAny_execs_nil ?_
            dsimp only
            cases h6 with
            | cons h7 h8 =>
              cases h7 with
              | ret h9 =>
                refine wpAny_execs_cons (wpAny_Return_some (SD.ev h9 ok ha6 (S1.keeps k2).es hv fun y s3 k3 r3 => ?_))
                cases r3
                exact fin _ _ _ k3 h0 hr

theorem take_call (W : WF hW mg mb FT) (ok : EnvOK env ks) (ha : AOK A 20) (hw : ∀ b o, hW.get? b = some o → s.heap.get? b = some o) (hbW : hW.get? bx = none) (hexC : ∀ b, exC b → hW.get? b = none ∧ ∃ o, s.heap.get? b = some o) (hnb : ¬ exC bx) (hk : ks (fnm 22) = some .globalImplicit) (hbox : NameIs env s.heap (nm 27) (.ref bx)) (B : Box exC s.heap bx xs c) (hx : xs.length ≤ 12) (hc : c ≤ 20) (hm : 0 < m)
    {e : PySem.Expr} {np bp p : Pos} (he : TX ks e (.int m)) (hQ : ∀ r t s', 0 ≤ r → r < m → KX bx s s' → Box exC s'.heap bx xs (c + 1) → Q (.int r t) s') : wpAny (model prog w) A (eval (.Call (.Name (fnm 22) np) [.Name (nm 27) bp, e] [] p) env) Q E s := by
  have SD := sound (prog := prog) (w := w) W 2
  have hf : FT 22 = some ([27, 12], b_take) := rfl
  obtain ⟨a, of, name, params, stmts, scope, pm, cd, doc, h1, h2, h3, h4, h5, h6, h7, h8, h9, h10, h11⟩ := (W.fns _ _ _ hf).ex
  refine wpAny_Call_NameR (name_glob W ok hw hk (W.fns _ _ _ hf).nd h1 ?_)
  refine PyProof.Rows.callWith_def (o := of) h3 (wpAny_items_cons (name_var ok rfl hbox ?_) rfl) rfl
  have S0 : ES hW env (fun _ => False) [] .none s.heap := ⟨hw, fun j v e => (by cases e), trivial, fun b q => q.elim⟩
  refine wpAny_items_cons (SD.ev he ok (ha.le (by omega)) S0 (v := .int m) rfl fun y s1 k1 r1 => wpAny_items_nil ?_) (he.star _ _)
  cases r1 with
  | int m t =>
    have hw1 : ∀ b o, hW.get? b = some o → s1.heap.get? b = some o := fun b o e => kHp k1 b o (hw b o e)
    refine ⟨hw1 _ _ h2, ?_⟩
    have hlk : ∀ p ∈ [27, 12], scope.names.lookup (nm p) = some .local ∨ (scope.names.lookup (nm p) = some .cell ∧ ((cellsFrom (s1.heap.objs.size + 1) scope.names []).lookup (nm p)).isSome = true) := fun p hp => by
      rcases h7 p hp with q | q
      · exact .inl q
      · obtain ⟨c, hm⟩ := cf_has scope.names (s1.heap.objs.size + 1) [] _ (mem_of_lookup q)
        obtain ⟨d, hd⟩ := lookup_has hm
        exact .inr ⟨q, by rw [hd]; rfl⟩
    have hbnd := h6 [.ref bx, .int m t] rfl
    refine wpAny_call (call_cells_ret (by have := ha.dp; show A.depth < 1000; omega) (hw1 _ _ h2) h3 (W.lim.keeps hw1) (h4.keeps hw1) hbnd (fun x hx => ?_) (fun h' tk F C => ?_) h8 h9 h10)
    · obtain ⟨x, y⟩ := x
      have hx := (List.of_mem_zip hx).1
      obtain ⟨p, hp, rfl⟩ := List.mem_map.mp hx
      exact hlk p hp
    · have okc : EnvOK (envOfC name scope s1.heap.objs.size a cd) (kindFn scope) := by
        refine ⟨h10, rfl, rfl, fun x => .inl rfl, fun x hx => ?_⟩
        rcases hx with hx | hx
        · obtain ⟨c, hm⟩ := cf_has scope.names (s1.heap.objs.size + 1) [] _ (mem_of_lookup hx)
          exact lookup_has hm
        · exact absurd rfl (h11 _ (mem_of_lookup hx))
      have hfresh : s1.heap.get? s1.heap.objs.size = none := by
        cases e : s1.heap.get? s1.heap.objs.size with
        | none => rfl
        | some o' => exact absurd (Heap.lt_size e) (Nat.lt_irrefl _)
      obtain ⟨n1, n2⟩ := bind_two (kindOf := (envOfC name scope s1.heap.objs.size a cd).kindOf) (x := nm 27) (y := nm 12) (u := .ref bx) (v := .int m t) (nm_ne (by decide)) (h7 27 (by decide)) (h7 12 (by decide))
      have nameI : ∀ x v, ((envOfC name scope s1.heap.objs.size a cd).kindOf x = some .local ∧ bindL (envOfC name scope s1.heap.objs.size a cd).kindOf [(nm 27, .ref bx), (nm 12, .int m t)] (fun _ => none) x = some v) ∨ ((envOfC name scope s1.heap.objs.size a cd).kindOf x = some .cell ∧ bindC (envOfC name scope s1.heap.objs.size a cd).kindOf [(nm 27, .ref bx), (nm 12, .int m t)] (fun _ => none) x = some v) →
          NameIs (envOfC name scope s1.heap.objs.size a cd) h' x v := fun x v r => by
        rcases r with ⟨hk, hm⟩ | ⟨hk, hm⟩
        · exact .inl ⟨hk, _, F.ns, hm⟩
        · obtain ⟨c, hc⟩ := okc.cel x (.inl hk)
          exact .inr ⟨.inl hk, c, hc, hm ▸ C.cell _ _ hc⟩
      refine take_body (s := { s1 with heap := h', toks := tk }) W h5 okc (A := A.deeper _) ((ha.le (show 11 ≤ 20 by omega)).deeper _) (fun b o e => F.keep b o (hw1 b o e)) hbW (fun b q => let ⟨p, o, e⟩ := hexC b q; ⟨p, o, F.keep _ _ (kHp k1 b o e)⟩) hnb ?_ F.ns (nameI _ _ n1) (nameI _ _ n2) ((B.keep (kHp k1)).keep F.keep) hx hc hm fun r t2 s2 q1 q2 q3 q4 q5 => ?_
      · cases e : hW.get? (envOfC name scope s1.heap.objs.size a cd).locals with
        | none => rfl
        | some o' => have := hw1 _ _ e; rw [show (envOfC name scope s1.heap.objs.size a cd).locals = s1.heap.objs.size from rfl, hfresh] at this; cases this
      · refine hQ r t2 s2 q1 q2 ⟨?_, fun b o hb e => ?_⟩ q5
        · obtain ⟨h0, tk0, rfl⟩ := q3
          obtain ⟨h00, tk00, rfl, _⟩ := k1
          exact ⟨h0, tk0, rfl⟩
        · have e1 := kHp k1 b o e
          refine q4 b o ?_ hb (F.keep b o e1)
          rintro rfl
          rw [show (envOfC name scope s1.heap.objs.size a cd).locals = s1.heap.objs.size from rfl, hfresh] at e1; cases e1
end
end Mine

namespace Mine

structure LS (hW : Heap) (env : Env) (bx : Addr) (xs : List Int) (c : Nat) (l : Loc) (h : Heap) : Prop where
  S : SS hW env (fun b => b = bx) none l .none h
  nb : (env.kindOf (nm 27) = some .cell ∨ env.kindOf (nm 27) = some .free) ∧ ∃ cb, env.cells.lookup (nm 27) = some cb ∧ h.IsCell cb (some (.ref bx))
  B : Box (fun _ => False) h bx xs c

section
variable {prog : Program} {w : World} {hW : Heap} {mg mb : Str → Option Value} {env : Env} {ks : KS} {A : Around} {s : Shared} {E : Value → Shared → Prop} {bx : Addr} {xs : List Int} {c c' : Nat} {m : Int} {l : Loc}

theorem LS.keep {h h' : Heap} (X : LS hW env bx xs c l h) (hk : ∀ b o, h.get? b = some o → h'.get? b = some o) : LS hW env bx xs c l h' :=
  ⟨X.S.keep hk, let ⟨a, cb, h1, h2⟩ := X.nb; ⟨a, cb, h1, h2.keeps hk⟩, X.B.keep hk⟩
theorem LS.bW {h : Heap} (X : LS hW env bx xs c l h) : hW.get? bx = none := (X.S.exs bx (.inl rfl)).1
theorem Box.ne_ns {h : Heap} {a : Addr} {mm : Str → Option Value} {exC : Addr → Prop} (B : Box exC h bx xs c) (hn : h.Ns a mm) : bx ≠ a := let ⟨_, h1, _⟩ := B; list_ne_ns h1 hn
theorem Box.ne_cell {h : Heap} {a : Addr} {v : Option Value} {exC : Addr → Prop} (B : Box exC h bx xs c) (hn : h.IsCell a v) : a ≠ bx := by
  rintro rfl
  obtain ⟨items, ⟨n, ho⟩, _⟩ := B
  obtain ⟨o, ho', hd⟩ := hn
  rw [ho] at ho'; cases ho'; cases hd
theorem KX.keepS {ex : Addr → Prop} {s' : Shared} (k : KX bx s s') (hx : ex bx) : KeepSeq ex s.heap s'.heap := fun b o hb _ e => k.hp b o (by rintro rfl; exact hb hx) e
theorem LS.kx {s' : Shared} (X : LS hW env bx xs c l s.heap) (k : KX bx s s') (B' : Box (fun _ => False) s'.heap bx xs c') : LS hW env bx xs c' l s'.heap := by
  obtain ⟨a, cb, h1, h2⟩ := X.nb
  obtain ⟨mm, hn⟩ := X.S.ns
  have hcb := X.B.ne_cell h2
  have hnb := X.B.ne_ns hn
  have hn' : s'.heap.Ns env.locals mm := hn.at' fun o e => k.hp _ o (Ne.symm hnb) e
  refine ⟨⟨fun b o e => k.hp b o (by rintro rfl; rw [X.bW] at e; cases e) (X.S.w b o e), fun j v e => ?_, fun b q => ?_, ⟨mm, hn'⟩, X.S.L, trivial⟩, ⟨a, cb, h1, ?_⟩, B'⟩
  · obtain ⟨x, q1, q2⟩ := X.S.loc j v e
    refine ⟨x, q1.mono (k.keepS (.inl rfl)) fun _ q => q, ?_⟩
    rcases q2 with ⟨p1, p2, p3, p4⟩ | ⟨p1, p2, p3, p4⟩
    · exact .inl ⟨p1, p2, p3.at' fun o e => k.hp _ o (Ne.symm hnb) e, p4⟩
    · refine .inr ⟨p1, p2, p3, ?_⟩
      have := X.B.ne_cell p4
      obtain ⟨o, ho, hd⟩ := p4
      exact ⟨o, k.hp _ o this ho, hd⟩
  · rcases q with q | q
    · subst q
      obtain ⟨items, ⟨n, ho⟩, _⟩ := B'
      exact ⟨X.bW, _, ho⟩
    · cases q
  · obtain ⟨o, ho, hd⟩ := h2
    exact ⟨o, k.hp _ o hcb ho, hd⟩

theorem law_box (W : WF hW mg mb FT) (ok : EnvOK env ks) (ha : AOK A 20) (hw : ∀ b o, hW.get? b = some o → s.heap.get? b = some o) (hL : hW.get? env.locals = none) {mL : Str → Option Value} (hns : s.heap.Ns env.locals mL) {cb w2 : Addr} {items : Array Value}
    (hkc : env.kindOf (nm 27) = some .cell) (hcl : env.cells.lookup (nm 27) = some cb) (hcb : s.heap.IsCell cb none) (hcbW : hW.get? cb = none) (hscr : NameIs env s.heap (nm 32) (.ref w2)) (hl : s.heap.IsList w2 items) (hv : VRs (fun _ => False) s.heap (xs.map .int) items.toList) (hlen : xs.length ≤ 100)
    {e1 e2 : PySem.Expr} {q1 q2 q3 q4 q5 q6 q7 q8 : Pos} (hk2 : ks (Str.ofString "list") = some .globalImplicit) (he1 : TX ks e1 (.int 12)) (he2 : TX ks e2 (.int 0)) {Q : Flow → Shared → Prop}
    (hQ : ∀ bx s', (∃ h' tk, s' = { s with heap := h', toks := tk }) → (∀ b o, b ≠ cb → s.heap.get? b = some o → s'.heap.get? b = some o) → s.heap.get? bx = none → LS hW env bx (xs.take 12) 0 [] s'.heap → Q .next s') :
    wpAny (model prog w) A (exec (.Assign [.Name (nm 27) q1] (.List [.Call (.Name (Str.ofString "list") q2) [.Subscript (.Name (nm 32) q3) (.Slice none (some e1) none q4) q5] [] q6, e2] q7) q8) env) Q E s := by
  have SD := sound (prog := prog) (w := w) W 2
  have ha2 : AOK A 2 := ha.le (by omega)
  have hsz := hv.length
  rw [Array.length_toList, List.length_map] at hsz
  have ES0 : ∀ {s' : Shared}, Keeps s s' → ES hW env (fun _ => False) [] .none s'.heap := fun k => ⟨fun b o e => kHp k b o (hw b o e), fun j v e => (by cases e), trivial, fun b q => q.elim⟩
  refine wpAny_Assign_Name (wpAny_List (wpAny_items_cons ?_ rfl)) rfl
  refine wpAny_Call_NameR (name_bi W ok hw hk2 (v := .type "list") (by simp [biL]) (by decide) (PyProof.Rows.callWith_type1 (wpAny_items_cons ?_ rfl) rfl))
  refine wpAny_Subscript_list_slice (name_var ok rfl hscr (wpAny_evalPart_none (wpAny_evalPart_some (SD.ev he1 ok ha2 (ES0 (kRfl s)) (v := .int 12) rfl fun y s1 k1 r1 => ?_)))) (fun _ _ => rfl)
  cases r1 with
  | int m t =>
    have hl1 : s1.heap.IsList w2 items := hl.at fun o => kHp k1 _ o
    refine ⟨w2, items, .none, some 12, rfl, hl1, sz (by omega), .none, .int _ _, wpAny_items_nil ?_⟩
    have e2 : slicePick items .none (some 12) .none = (items.toList.take 12).toArray := slicePick_upto' items 12
    have hsl := Heap.get?_push_size (s1.heap.push { cls := .type "slice", data := .fields #[.none, .int 12 t, .none] }) (o := { cls := .type "list", data := .seq (slicePick items .none (some 12) .none) }) rfl
    rw [Heap.size_push] at hsl
    have k2 : Keeps s { s1 with heap := (s1.heap.push { cls := .type "slice", data := .fields #[.none, .int 12 t, .none] }).push { cls := .type "list", data := .seq (slicePick items .none (some 12) .none) } } := kPush (kPush k1 _) _
    refine call_list_seq _ (.inl rfl) hsl rfl rfl (fun h' c' hk' hg => ?_) (sz (by rw [e2]; simp; omega))
    have k3 : Keeps s { s1 with heap := h' } := kTr k2 ⟨h', s1.toks, rfl, hk'⟩
    refine wpAny_items_cons (SD.ev he2 ok ha2 (ES0 k3) (v := .int 0) rfl fun y2 s4 k4 r4 => wpAny_items_nil ?_) (he2.star _ _)
    cases r4 with
    | int m0 t0 =>
      have k34 := kTr k3 k4
      have hnone : s4.heap.get? s4.heap.objs.size = none := by
        cases e : s4.heap.get? s4.heap.objs.size with
        | none => rfl
        | some o' => exact absurd (Heap.lt_size e) (Nat.lt_irrefl _)
      refine ⟨sz (show 2 ≤ 1000000 by decide), ?_⟩
      have hls := kHp k4 _ _ hg
      have hne : ((s1.heap.push { cls := .type "slice", data := .fields #[.none, .int 12 t, .none] }).push { cls := .type "list", data := .seq (slicePick items .none (some 12) .none) }).objs.size ≠ s4.heap.objs.size := by
        intro e
        rw [e] at hls
        rw [hnone] at hls; cases hls
      have hps : s4.heap.PlainList ((s1.heap.push { cls := .type "slice", data := .fields #[.none, .int 12 t, .none] }).push { cls := .type "list", data := .seq (slicePick items .none (some 12) .none) }).objs.size (slicePick items .none (some 12) .none) := ⟨_, hls⟩
      generalize hscA : ((s1.heap.push { cls := .type "slice", data := .fields #[.none, .int 12 t, .none] }).push { cls := .type "list", data := .seq (slicePick items .none (some 12) .none) }).objs.size = sc at *
      have hvs : VRs (fun b => b = s4.heap.objs.size) s4.heap ((xs.take 12).map .int) (slicePick items .none (some 12) .none).toList := by
        have e3 : (slicePick items .none (some 12) .none).toList = items.toList.take 12 := by rw [e2]
        rw [e3, List.map_take]
        have := hv.take 12
        rw [← List.map_take] at this ⊢
        exact ints_vr this
      have hcb4 : (s4.heap.push { cls := .type "list", data := .seq #[.ref sc, .int 0 t0] }).IsCell cb none := hcb.keeps fun b o e => Heap.get?_push_of_some _ (kHp k34 b o e)
      have hnone0 : s.heap.get? s4.heap.objs.size = none := by
        cases e : s.heap.get? s4.heap.objs.size with
        | none => rfl
        | some o' => have := kHp k34 _ _ e; rw [hnone] at this; cases this
      refine wpAny_storeName_cell ok.kind hkc hcl hcb4 fun h5 hc5 hs5 => ?_
      have up : ∀ b o, b ≠ cb → s4.heap.get? b = some o → h5.get? b = some o := fun b o hb e => hs5.extBut b o hb (Heap.get?_push_of_some _ e)
      have ncb : ∀ b o, s.heap.get? b = some o → (∀ v, o.data ≠ .cell v) → b ≠ cb := fun b o e hd => by
        rintro rfl
        obtain ⟨o', ho', hd'⟩ := hcb
        rw [e] at ho'; cases ho'
        exact hd _ hd'
      have hbne : s4.heap.objs.size ≠ cb := by
        rintro rfl
        obtain ⟨o', ho', _⟩ := hcb
        rw [hnone0] at ho'; cases ho'
      have hscne : sc ≠ cb := by
        rintro rfl
        obtain ⟨o', ho', hd'⟩ := hcb.keeps (kHp k34)
        obtain ⟨n, hps⟩ := hps
        rw [hps] at ho'; cases ho'; cases hd'
      have hbx5 : h5.PlainList s4.heap.objs.size #[.ref sc, .int 0 t0] := ⟨0, hs5.extBut _ _ hbne (Heap.get?_push_size _ rfl)⟩
      refine hQ s4.heap.objs.size _ ?_ (fun b o hb e => up b o hb (kHp k34 b o e)) hnone0 ⟨⟨fun b o e => up b o (by rintro rfl; rw [hcbW] at e; cases e) (kHp k34 b o (hw b o e)), fun j v e => (by cases e), fun b q => ?_, ⟨mL, ?_⟩, hL, trivial⟩, ⟨.inl hkc, cb, hcl, hc5⟩, _, hbx5, .cons (.lst (fun q => q.elim id fun q => hne (by cases q; rfl)) (hps.at fun o e => up _ o hscne e) (ints_vr hvs)) (.cons (.int _ _) .nil)⟩
      · obtain ⟨h0, tk, rfl, _⟩ := k34
        exact ⟨_, _, rfl⟩
      · rcases q with q | q
        · subst q
          obtain ⟨n, hbx5⟩ := hbx5
          refine ⟨?_, _, hbx5⟩
          cases e : hW.get? s4.heap.objs.size with
          | none => rfl
          | some o' => have := hw _ _ e; rw [hnone0] at this; cases this
        · cases q
      · exact hns.at' fun o e => up _ o (Ne.symm (cell_ne_ns hcb hns)) (kHp k34 _ _ e)
end
end Mine

namespace Mine

noncomputable def Sh (s s' : Shared) : Prop := ∃ h' tk, s' = { s with heap := h', toks := tk }
theorem Sh.rfl' (s : Shared) : Sh s s := ⟨_, _, rfl⟩
theorem Sh.trans {s s' s'' : Shared} (a : Sh s s') (b : Sh s' s'') : Sh s s'' := by
  obtain ⟨h, t, rfl⟩ := a
  obtain ⟨h', t', rfl⟩ := b
  exact ⟨h', t', rfl⟩
theorem Sh.of {s s' : Shared} (k : Keeps s s') : Sh s s' := let ⟨h, t, e, _⟩ := k; ⟨h, t, e⟩

section
variable {prog : Program} {w : World} {hW : Heap} {mg mb : Str → Option Value} {env : Env} {ks : KS} {A : Around} {s : Shared} {E : Value → Shared → Prop} {bx : Addr} {xs : List Int} {c c' : Nat} {m : Int} {l l' : Loc}

theorem LS.fk {s' : Shared} (X : LS hW env bx xs c l s.heap) (k : FK env none none s s') (S' : SS hW env (fun b => b = bx) none l' .none s'.heap) : LS hW env bx xs c l' s'.heap := by
  obtain ⟨a, cb, h1, h2⟩ := X.nb
  obtain ⟨mm, hn⟩ := X.S.ns
  obtain ⟨items, b1, b2⟩ := X.B
  refine ⟨S', ⟨a, cb, h1, ?_⟩, items, b1.at fun o => k.hp _ o (list_ne_ns b1 hn) (by intro q; cases q), b2.mono (k.keepS hn) fun _ q => q⟩
  have hne := cell_ne_ns h2 hn
  obtain ⟨o, ho, hd⟩ := h2
  exact ⟨o, k.hp cb o hne (by intro q; cases q) ho, hd⟩

/-- one draw in the law's own frame -/
theorem law_take (W : WF hW mg mb FT) (ok : EnvOK env ks) (ha : AOK A 20) (X : LS hW env bx xs c l s.heap) (hk : ks (fnm 22) = some .globalImplicit) (hx : xs.length ≤ 12) (hc : c ≤ 20) (hm : 0 < m)
    {e : PySem.Expr} {np bp p : Pos} (he : TX ks e (.int m)) {Q : Value → Shared → Prop} (hQ : ∀ r t s', 0 ≤ r → r < m → KX bx s s' → Sh s s' → LS hW env bx xs (c + 1) l s'.heap → Q (.int r t) s') : wpAny (model prog w) A (eval (.Call (.Name (fnm 22) np) [.Name (nm 27) bp, e] [] p) env) Q E s :=
  take_call W ok ha X.S.w X.bW (fun b q => q.elim) id hk (.inr X.nb) X.B hx hc hm he fun r t s' h0 hr k B => hQ r t s' h0 hr k k.sh (X.kx k B)

theorem pick5 {r : Int} (h0 : 0 ≤ r) (hr : r < 5) : ∃ b : Int, (b = 1 ∨ b = 0 ∨ b = -1 ∨ b = -2) ∧ idxV [.int 1, .int 0, .int (-1), .int 1, .int (-2)] r = some (.int b) := by
  obtain ⟨j, rfl⟩ := Int.eq_ofNat_of_zero_le h0
  have hj : j < 5 := by omega
  match j, hj with
  | 0, _ => exact ⟨1, by omega, rfl⟩
  | 1, _ => exact ⟨0, by omega, rfl⟩
  | 2, _ => exact ⟨-1, by omega, rfl⟩
  | 3, _ => exact ⟨1, by omega, rfl⟩
  | 4, _ => exact ⟨-2, by omega, rfl⟩

theorem law_pair (W : WF hW mg mb FT) (ok : EnvOK env ks) (ha : AOK A 20) (X : LS hW env bx xs c [] s.heap) (hk : ks (fnm 22) = some .globalImplicit) (hi : ks (nm 25) = some .local) (hj : ks (nm 26) = some .local) (hx : xs.length ≤ 12) (hc : c ≤ 10)
    {e3 e4 e5 e6 : PySem.Expr} {r1 r2 r3 r4 r5 r6 r7 r8 r9 r10 p1 p2 p3 : Pos} {k1 k2 : Nat} (h3 : TX ks e3 (.int 7)) (h4 : TX ks e4 (.int 4)) (h5 : TX ks e5 (.lst (.cons (.int 1) (.cons (.int 0) (.cons (.neg (.int 1)) (.cons (.int 1) (.cons (.neg (.int 2)) .nil))))))) (h6 : TX ks e6 (.int 5))
    (hsw : swOK (.Tuple [.BinOp (.Call (.Name (fnm 22) r3) [.Name (nm 27) r4, e3] [] r5) .Sub e4 r6, .Subscript e5 (.Call (.Name (fnm 22) r7) [.Name (nm 27) r8, e6] [] r9) r10] k2 p2) = true) {Q : Flow → Shared → Prop}
    (hQ : ∀ a b s', -4 ≤ a → a < 3 → (b = 1 ∨ b = 0 ∨ b = -1 ∨ b = -2) → Sh s s' → LS hW env bx xs (c + 2) [(25, .int a), (26, .int b)] s'.heap → Q .next s') :
    wpAny (model prog w) A (exec (.Assign [.Tuple [.Name (nm 25) r1, .Name (nm 26) r2] k1 p1] (.Tuple [.BinOp (.Call (.Name (fnm 22) r3) [.Name (nm 27) r4, e3] [] r5) .Sub e4 r6, .Subscript e5 (.Call (.Name (fnm 22) r7) [.Name (nm 27) r8, e6] [] r9) r10] k2 p2) p3) env) Q E s := by
  have SD := sound (prog := prog) (w := w) W 10
  have ha4 : AOK A 10 := ha.le (by omega)
  refine assign_pair ok ha4 hi hj rfl (swOK_ok hsw) (wpAny_Tuple (wpAny_items_cons ?_ rfl))
  refine wpAny_BinOp (law_take W ok ha X hk hx (by omega) (by decide) h3 fun ra ta s1 ha0 ha7 _ sh1 X1 => ?_)
  refine SD.ev h4 ok ha4 X1.S.es (v := .int 4) rfl fun y s2 k2 r2 => ?_
  cases r2
  refine P.sub_int ?_
  have X2 := X1.keep (kHp k2)
  have sh2 := sh1.trans (Sh.of k2)
  generalize hs3 : ({ s2 with toks := s2.toks + 1 } : Shared) = s3
  have X3 : LS hW env bx xs (c + 1) [] s3.heap := by rw [← hs3]; exact X2
  have sh3 : Sh s s3 := by rw [← hs3]; exact sh2.trans ⟨_, _, rfl⟩
  refine wpAny_items_cons ?_ rfl
  refine Subscript_ (SD.ev h5 ok ha4 X3.S.es (v := .lst [.int 1, .int 0, .int (-1), .int 1, .int (-2)]) rfl fun y5 s4 k4 r5 => ?_)
  refine law_take W ok ha (X3.keep (kHp k4)) hk hx (by omega) (by decide) h6 fun rb tb s5 hb0 hb5 kx sh5 X5 => ?_
  obtain ⟨b, hb, hidx⟩ := pick5 hb0 hb5
  cases r5 with
  | lst hx5 hi5 hs5 =>
    have hi5' := hi5.at fun o => kx.hp _ o (fun q => hx5 (.inl q))
    have hs5' := hs5.mono (kx.keepS (ex := exO (fun b => b = bx) none) (.inl rfl)) fun _ q => q
    refine item_list hi5'.isList hs5' (by decide) hidx rfl fun yv rv => wpAny_items_nil ?_
    cases rv
    have sh05 := sh3.trans ((Sh.of k4).trans sh5)
    refine ⟨sz (show 2 ≤ 1000000 by decide), _, _, _, rfl, ⟨_, Heap.get?_push_size _ rfl, rfl, _, rfl⟩, fun s6 k6 => ?_⟩
    have k56 : Keeps s5 s6 := kTr (kPush (kRfl s5) _) k6
    have X6 := X5.keep (kHp k56)
    have fin : ∀ s', FK env none none s6 s' → SS hW env (fun b => b = bx) none (pt (pt [] 25 (.int (ra - 4))) 26 (.int b)) .none s'.heap → Q .next s' := fun s' k S' =>
      hQ (ra - 4) b s' (by omega) (by omega) hb ((sh05.trans (Sh.of k56)).trans k.sh) (X6.fk k S')
    exact ⟨store_two X6.S ok.kind (ok.loc hi) (ok.loc hj) rfl rfl (.int _ _) (.int _ _) fin, store_two' (by decide) X6.S ok.kind (ok.loc hi) (ok.loc hj) rfl rfl (.int _ _) (.int _ _) fin⟩
end
end Mine

namespace Mine

theorem Box.mono {ex ex' : Addr → Prop} {h h' : Heap} {bx : Addr} {xs : List Int} {c : Nat} (B : Box ex h bx xs c) (hb : ∀ o, h.get? bx = some o → h'.get? bx = some o) (hk : KeepSeq (exO ex (some bx)) h h') (hx : ∀ b, ex' b → ex b) : Box ex' h' bx xs c :=
  let ⟨items, h1, h2⟩ := B; ⟨items, h1.at hb, h2.mono hk fun b q => q.imp (hx b) id⟩
theorem Box.strong {ex ex' : Addr → Prop} {h : Heap} {bx : Addr} {xs : List Int} {c : Nat} (B : Box ex h bx xs c) (hx : ∀ b, ex' b → ex b ∨ h.get? b = none) : Box ex' h bx xs c :=
  let ⟨items, h1, h2⟩ := B; ⟨items, h1, h2.strong fun b q => q.elim (fun q => (hx b q).imp .inl id) fun q => .inl (.inr q)⟩

theorem upFrom_inj {j n m : Nat} (h : upFrom j n = upFrom j m) : n = m := by
  have := congrArg List.length h
  rwa [upFrom_len, upFrom_len] at this

section
variable {prog : Program} {w : World} {hW : Heap} {mg mb : Str → Option Value} {env : Env} {ks : KS} {A : Around} {s : Shared} {E : Value → Shared → Prop} {bx : Addr} {xs : List Int} {c c' : Nat} {m : Int} {l l' : Loc}

theorem row_loop {P : Result → Shared → Prop} (W : WF hW mg mb FT) {cenv : Env} (okc : EnvOK cenv ks) (ha : AOK A 20) {D T ci cb : Addr} {px p up bp bq br : Pos} {e7 e8 it : PySem.Expr} {sc : Scope}
    (hw : ∀ b o, hW.get? b = some o → s.heap.get? b = some o) (hbW : hW.get? bx = none) (hDW : hW.get? D = none) (hk : ks (fnm 22) = some .globalImplicit) (hx : xs.length ≤ 12) (hcc : c ≤ 10) (h7 : TX ks e7 (.int 3)) (h8 : TX ks e8 (.int 1))
    (hkb : cenv.kindOf (nm 27) = some .cell ∨ cenv.kindOf (nm 27) = some .free) (hcl : cenv.cells.lookup (nm 27) = some cb) (hcb : s.heap.IsCell cb (some (.ref bx))) (hcbx : cb ≠ bx)
    (hbx : ∃ o, s.heap.get? bx = some o) (hD : s.heap.get? D = none) (hC : s.heap.get? cenv.locals = none) (hT : s.heap.get? T = none) (hci : s.heap.get? ci = none) (hDC : D ≠ cenv.locals) (hDT : D ≠ T) (hcD : ci ≠ D) (hcC : ci ≠ cenv.locals) (hcT : ci ≠ T)
    (hP : ∀ s' items (rs : List Int) mm, Sh s s' → (∀ b o, b ≠ bx → s.heap.get? b = some o → s'.heap.get? b = some o) → s'.heap.PlainList D items → VRs (fun _ => False) s'.heap (rs.map .int) items.toList → s'.heap.Ns cenv.locals mm → Box (fun b => b = D) s'.heap bx xs (c + 5) → rs.length = 5 → (∀ r ∈ rs, r = -1 ∨ r = 0 ∨ r = 1) → P (.ok .next) s')
    {s₁ : Shared} {mm : Str → Option Value} (hsh : Sh s s₁) (hfr : ∀ b o, b ≠ bx → s.heap.get? b = some o → s₁.heap.get? b = some o) (hI : IsRangeIter s₁.heap ci ((0 : Nat) : Int) ((5 : Nat) : Int) 1) (hl : s₁.heap.PlainList D #[]) (hn : s₁.heap.Ns cenv.locals mm)
    (hO : OwnOK cenv 34 T s₁.heap) (hB : Box (fun b => b = D) s₁.heap bx xs c) :
    codeAny (model prog w) A (.compLoop (.ListComp (.BinOp (.Call (.Name (fnm 22) up) [.Name (nm 27) bp, e7] [] bq) .Sub e8 br) [⟨.Name (nm 34) px, it, [], 0⟩] sc p) 0 (.ref ci) (.ref D) cenv) P s₁ := by
  have SD := sound (prog := prog) (w := w) W 2
  have ha2 : AOK A 2 := ha.le (by omega)
  have old : ∀ {a : Addr}, s.heap.get? a = none → ∀ b o, s.heap.get? b = some o → b ≠ a := fun {a} ha b o e q => by rw [q, ha] at e; cases e
  obtain ⟨ob, hob⟩ := hbx
  have hbD : bx ≠ D := old hD _ _ hob
  have hbT : bx ≠ T := old hT _ _ hob
  have hbc : bx ≠ ci := old hci _ _ hob
  refine codeAny_compLoop_list (fun k s' => ∃ (rs : List Int) (items : Array Value) (j : Nat) (mm : Str → Option Value), k + rs.length = 5 ∧ Sh s s' ∧ (∀ b o, b ≠ bx → s.heap.get? b = some o → s'.heap.get? b = some o) ∧ IsRangeIter s'.heap ci ((j : Nat) : Int) ((k : Nat) : Int) 1 ∧
      s'.heap.PlainList D items ∧ VRs (fun _ => False) s'.heap (rs.map .int) items.toList ∧ s'.heap.Ns cenv.locals mm ∧ OwnOK cenv 34 T s'.heap ∧ Box (fun b => b = D) s'.heap bx xs (c + rs.length) ∧ ∀ r ∈ rs, r = -1 ∨ r = 0 ∨ r = 1)
    ?_ 5 ⟨[], #[], 0, mm, rfl, hsh, hfr, hI, hl, .nil, hn, hO, hB, fun r hr => by cases hr⟩
  rintro k s' ⟨rs, items, j, mm, hk5, hsh, hfr, hI, hl, hs, hn, hO, hB, hrs⟩
  have hIn : ∀ o, s'.heap.get? ci = some o → ¬ ∃ xs n, o.data = .seq xs n := by
    rintro o' e ⟨ys, n, hd⟩
    rw [hI] at e; cases e; cases hd
  cases k with
  | zero =>
    refine wpAny_pyNext_range_end ha.hd hI (by omega) fun h' he => ?_
    have h5 : rs.length = 5 := by omega
    rw [h5] at hB
    exact hP _ items rs mm (hsh.trans ⟨_, _, rfl⟩) (fun b o hb e => he b o (old hci b o e) (hfr b o hb e)) (hl.extBut he (Ne.symm hcD)) (ints_vr hs) (hn.extBut he (Ne.symm hcC)) (hB.mono (fun o e => he _ o hbc e) (ksSame he (.inr hIn)) fun _ q => q) h5 hrs
  | succ k =>
    refine wpAny_pyNext_range_item hI (by omega) fun h1 hI1 hs1 => ?_
    dsimp only
    have hn1 := hn.sameBut hs1 (Ne.symm hcC)
    have hO1 : OwnOK cenv 34 T h1 := hO.mono fun o e => hs1.extBut _ o (Ne.symm hcT) e
    refine own_store (s := { s' with heap := h1, toks := s'.toks + 1 }) okc.kind hO1 hn1 fun h2 m2 hs2 _ hm2 hO2 tk2 => ?_
    replace hs2 : Heap.SameBut T h1 h2 := hs2
    have hB2 : Box (fun b => b = D) h2 bx xs (c + rs.length) := (hB.mono (fun o e => hs1.extBut _ o hbc e) (ksSame hs1.extBut (.inr hIn)) fun _ q => q).mono (fun o e => hs2.extBut _ o hbT e) (ksSame hs2.extBut (.inr (hO1.nseq hn1))) fun _ q => q
    have hk2 : ∀ b o, b ≠ bx → s.heap.get? b = some o → h2.get? b = some o := fun b o hb e => hs2.extBut b o (old hT b o e) (hs1.extBut b o (old hci b o e) (hfr b o hb e))
    have hl2 : h2.PlainList D items := (hl.extBut hs1.extBut (Ne.symm hcD)).extBut hs2.extBut hDT
    have hwb : ∀ b o, hW.get? b = some o → b ≠ bx := fun b o e q => by rw [q, hbW] at e; cases e
    have hcb2 : h2.IsCell cb (some (.ref bx)) := let ⟨o, ho, hd⟩ := hcb; ⟨o, hk2 _ _ hcbx ho, hd⟩
    refine wpAny_BinOp (take_call (s := { heap := h2, gens := s'.gens, drawn := s'.drawn, toks := tk2, os := s'.os }) W okc ha (fun b o e => hk2 b o (hwb b o e) (hw b o e)) hbW (fun b q => by subst q; obtain ⟨n, hl2⟩ := hl2; exact ⟨hDW, _, hl2⟩) hbD hk (.inr ⟨hkb, cb, hcl, hcb2⟩) hB2 hx (by omega) (by decide) h7 fun r t s3 h0 h3 kx B3 => ?_)
    have ES3 : ES hW cenv (fun _ => False) [] .none s3.heap := ⟨fun b o e => kx.hp b o (hwb b o e) (hk2 b o (hwb b o e) (hw b o e)), fun j v e => (by cases e), trivial, fun b q => q.elim⟩
    refine SD.ev h8 okc ha2 ES3 (v := .int 1) rfl fun y s4 k4 r4 => ?_
    cases r4
    refine PySem.P.sub_int ?_
    have hl4 : s4.heap.PlainList D items := (hl2.at fun o e => kx.hp _ o (Ne.symm hbD) e).at fun o => kHp k4 _ o
    have hit := hs.length
    rw [Array.length_toList, List.length_map] at hit
    refine wpAny_list_append_plain (s := { s4 with toks := s4.toks + 1 }) hl4 (fun h5 hl5 hs5 => ?_) (sz (by omega))
    replace hs5 : Heap.SameBut D s4.heap h5 := hs5
    have k24 : ∀ b o, b ≠ bx → b ≠ D → h2.get? b = some o → h5.get? b = some o := fun b o hb hd e => hs5.extBut b o hd (kHp k4 b o (kx.hp b o hb e))
    refine ⟨k, Nat.lt_succ_self _, rs ++ [r - 1], items.push (.int (r - 1) s4.toks), j + 1, m2, by simp; omega, ?_, ?_, ?_, hl5, ?_, ?_, ?_, ?_, ?_⟩
    · obtain ⟨ha1, ta1, rfl⟩ := hsh
      obtain ⟨ha2, ta2, e3⟩ := kx.sh
      obtain ⟨ha3, ta3, e4, _⟩ := k4
      subst e3
      subst e4
      exact ⟨_, _, rfl⟩
    · exact fun b o hb e => k24 b o hb (old hD b o e) (hk2 b o hb e)
    · have e1 : ((j + 1 : Nat) : Int) = (j : Int) + 1 := by omega
      have e2 : ((k : Nat) : Int) = ((k + 1 : Nat) : Int) - 1 := by omega
      rw [e1, e2]
      exact k24 _ _ (Ne.symm hbc) hcD (hs2.extBut _ _ hcT hI1)
    · rw [Array.toList_push, List.map_append]
      exact (ints_vr hs).append (.cons (.int _ _) .nil)
    · refine hm2.at' fun o e => k24 _ o ?_ (Ne.symm hDC) e
      obtain ⟨_, hb2, _⟩ := hB2
      exact Ne.symm (list_ne_ns hb2 hm2)
    · refine hO2.mono fun o e => k24 _ o (Ne.symm hbT) (Ne.symm hDT) e
    · have : c + (rs ++ [r - 1]).length = c + rs.length + 1 := by simp; omega
      rw [this]
      exact (B3.keep (kHp k4)).mono (fun o e => hs5.extBut _ o hbD e) (ksSame hs5.extBut (.inl (.inl rfl))) fun _ q => q
    · intro q hq
      rcases List.mem_append.mp hq with hq | hq
      · exact hrs q hq
      · cases hq with
        | head => omega
        | tail _ h => cases h
end
end Mine

namespace Mine

section
variable {prog : Program} {w : World} {hW : Heap} {mg mb : Str → Option Value} {env : Env} {ks : KS} {A : Around} {s : Shared} {E : Value → Shared → Prop} {bx : Addr} {xs : List Int} {c c' : Nat} {m : Int} {l l' : Loc}

theorem law_row (W : WF hW mg mb FT) (ok : EnvOK env ks) (ha : AOK A 20) (X : LS hW env bx xs c l s.heap) {sc : Scope} (hk : kindFn sc (fnm 22) = some .globalImplicit) (hx : xs.length ≤ 12) (hcc : c ≤ 10) (hk6 : ks (nm 6) = some .local)
    {e7 e8 it : PySem.Expr} {py px p up bp bq br pos : Pos} (hit : TXI ks it true (.int 5)) (h7 : TX (kindFn sc) e7 (.int 3)) (h8 : TX (kindFn sc) e8 (.int 1)) (hc : CompOK ks sc 34 [27]) (hl : py.line = p.line ∧ ∀ q, (nm 6, q) ∈ sc.names → ¬ (q = .local ∨ q = .cell)) {Q : Flow → Shared → Prop}
    (hQ : ∀ (rs : List Int) s', rs.length = 5 → (∀ r ∈ rs, r = -1 ∨ r = 0 ∨ r = 1) → Sh s s' → SS hW env (fun b => b = bx) none (pt l 6 (.lst (rs.map .int))) .none s'.heap → Q .next s') :
    wpAny (model prog w) A (exec (.Assign [.Name (nm 6) py] (.ListComp (.BinOp (.Call (.Name (fnm 22) up) [.Name (nm 27) bp, e7] [] bq) .Sub e8 br) [⟨.Name (nm 34) px, it, [], 0⟩] sc p) pos) env) Q E s := by
  have SD := sound (prog := prog) (w := w) W 4
  have ha4 : AOK A 4 := ha.le (by omega)
  have hsw : swapsWith (.ListComp (.BinOp (.Call (.Name (fnm 22) up) [.Name (nm 27) bp, e7] [] bq) .Sub e8 br) [⟨.Name (nm 34) px, it, [], 0⟩] sc p) (some (.Name (nm 6) py)) pos.line env = pure true := by
    have h1 : env.blockKind = .function := by simp [Env.blockKind, ok.kind]
    have h2 := ok.loc hk6
    have h3 : (sc.names.any fun (n, k) => n == nm 6 && (k == .local || k == .cell)) = false := by
      rw [List.any_eq_false]
      rintro ⟨a, k⟩ hm
      simp only [Bool.and_eq_true, beq_iff_eq, Bool.or_eq_true]
      rintro ⟨rfl, q⟩
      exact hl.2 k hm q
    simp only [swapsWith, pure_bind]
    rw [h1, h2, h3]
    show pure ((ScopeKind.function == ScopeKind.function) && (some NameKind.local == some NameKind.local) && py.line == p.line && !false) = _
    rw [hl.1]
    simp
  obtain ⟨cl, hcl, henv⟩ := comp_env ok hc
  rw [exec_Assign_Name_used _ _ _ _ hsw]
  refine wpAny_bind (wpAny_standAt (wpAny_bind ?_))
  show wpAny _ A (do let _ ← comprehension (.ListComp (.BinOp (.Call (.Name (fnm 22) up) [.Name (nm 27) bp, e7] [] bq) .Sub e8 br) [⟨.Name (nm 34) px, it, [], 0⟩] sc p) sc env _ (newList []) false (eval it env) (some (assign (.Name (nm 6) py) env))) _ _ s
  refine wpAny_bind (wpAny_mono (wpAny_comprehension_free (use := some (assign (.Name (nm 6) py) env)) (Q := fun _ s' => Q .next s') rfl (hit.folded env) hcl hc.kind hc.nms ?_) (fun _ s' hq => wpAny_pure (wpAny_pure hq)) fun _ _ e => e)
  refine iter_range W SD.ev ok ha4 X.S.es hit (a := .int 5) (ws := upFrom 0 5) rfl rfl fun ci s2 mI k2 hcn hI hm => ?_
  have hm := upFrom_inj hm
  subst hm
  refine wpAny_newObj_type (newEnv_around ?_)
  dsimp only
  have hsz : (s2.heap.push { cls := .type "list", dict := none, data := .seq ([] : List Value).toArray }).objs.size = s2.heap.objs.size + 1 := Heap.size_push ..
  rw [hsz]
  obtain ⟨D, hD⟩ : ∃ D : Nat, s2.heap.objs.size = D := ⟨_, rfl⟩
  rw [hD] at hsz ⊢
  obtain ⟨okc, hcaps, hown⟩ := henv (D + 1)
  have hnD : ∀ {b : Nat}, D ≤ b → s2.heap.get? b = none := fun {b} hb => by
    cases e : s2.heap.get? b with
    | none => rfl
    | some o' => exact absurd (Heap.lt_size e) (Nat.not_lt.mpr (by rw [hD]; exact hb))
  have hnone : ∀ {b : Nat}, D ≤ b → s.heap.get? b = none := fun {b} hb => by
    cases e : s.heap.get? b with
    | none => rfl
    | some o' => have := kHp k2 _ _ e; rw [hnD hb] at this; cases this
  have hcD : @LT.lt Nat _ ci D := by
    rw [← hD]
    exact Heap.lt_size hI
  have hl4 : (pushCells ((s2.heap.push { cls := .type "list", dict := none, data := .seq ([] : List Value).toArray }).push { cls := .type "dict", data := .dict #[] }) sc.names).PlainList D #[] :=
    ⟨0, pushCells_keeps _ _ _ _ (Heap.get?_push_of_some _ (hD ▸ Heap.get?_push_size _ rfl))⟩
  have hn4 : (pushCells ((s2.heap.push { cls := .type "list", dict := none, data := .seq ([] : List Value).toArray }).push { cls := .type "dict", data := .dict #[] }) sc.names).Ns (D + 1) fun _ => none := by
    have := Heap.Ns.new (s2.heap.push { cls := .type "list", dict := none, data := .seq ([] : List Value).toArray }) (.type "dict")
    rw [hsz] at this
    exact this.keeps (pushCells_keeps _ _)
  have hk4 : ∀ b o, s2.heap.get? b = some o → (pushCells ((s2.heap.push { cls := .type "list", dict := none, data := .seq ([] : List Value).toArray }).push { cls := .type "dict", data := .dict #[] }) sc.names).get? b = some o :=
    fun b o e => pushCells_keeps _ _ _ _ (Heap.get?_push_of_some _ (Heap.get?_push_of_some _ e))
  have hcells : ∀ x c, (x, c) ∈ cellsFrom (D + 1 + 1) sc.names [] → (pushCells ((s2.heap.push { cls := .type "list", dict := none, data := .seq ([] : List Value).toArray }).push { cls := .type "dict", data := .dict #[] }) sc.names).IsCell c none ∧ D + 1 + 1 ≤ c := by
    have := cellsFrom_ok sc.names ((s2.heap.push { cls := .type "list", dict := none, data := .seq ([] : List Value).toArray }).push { cls := .type "dict", data := .dict #[] }) (D + 1 + 1) [] ⟨fun _ _ hm => (nomatch hm), List.Pairwise.nil⟩ (by rw [Heap.size_push, hsz]; exact Nat.le_refl _)
    rw [Heap.size_push, hsz] at this
    exact this.empty
  generalize pushCells ((s2.heap.push { cls := .type "list", dict := none, data := .seq ([] : List Value).toArray }).push { cls := .type "dict", data := .dict #[] }) sc.names = H4 at hl4 hn4 hk4 hcells ⊢
  show codeAny (model prog w) A (.compStart _ 0 (.ref ci) (.ref D) (compEnvC sc (cellsFrom (D + 1 + 1) sc.names cl) (D + 1) env)) (compPost (model prog w) A E (some (assign (.Name (nm 6) py) env)) (fun _ s' => Q .next s') (.ref D) (D + 1)) _
  obtain ⟨T, hT, hO⟩ : ∃ T : Nat, D + 1 ≤ T ∧ OwnOK (compEnvC sc (cellsFrom (D + 1 + 1) sc.names cl) (D + 1) env) 34 T H4 := by
    rcases hc.own with e | e
    · exact ⟨D + 1, Nat.le_refl _, .inl ⟨lookup_relabel_local e, rfl⟩⟩
    · obtain ⟨c, hm, hlk⟩ := hown e
      have ⟨h1, h2⟩ := hcells _ _ hm
      refine ⟨c, by omega, .inr ⟨?_, hlk, show c ≠ D + 1 from Nat.ne_of_gt (by omega), _, h1⟩⟩
      rcases okc.kof (nm 34) with q | ⟨q, _⟩
      · rw [q]; exact e
      · rw [show kindFn sc (nm 34) = sc.names.lookup (nm 34) from rfl, e] at q; cases q
  obtain ⟨akb, cb, hcbl, hcb⟩ := X.nb
  obtain ⟨cb', hcap1, hcap2⟩ := hcaps 27 List.mem_cons_self
  rw [hcbl] at hcap1
  cases hcap1
  have hkb : (compEnvC sc (cellsFrom (D + 1 + 1) sc.names cl) (D + 1) env).kindOf (nm 27) = some .cell ∨ (compEnvC sc (cellsFrom (D + 1 + 1) sc.names cl) (D + 1) env).kindOf (nm 27) = some .free := by
    have hf := (hc.caps 27 List.mem_cons_self).1
    rcases okc.kof (nm 27) with q | ⟨_, q⟩
    · rw [q]; exact .inr hf
    · exact .inl q
  obtain ⟨mL, hnL⟩ := X.S.ns
  have hbex := (X.S.exs bx (.inl rfl)).2
  have hB4 : Box (fun b => b = D) H4 bx xs c := (X.B.strong (ex' := fun b => b = D) fun b q => .inr (by rw [q]; exact hnone (Nat.le_refl _))).keep fun b o e => hk4 b o (kHp k2 b o e)
  have hDW : hW.get? D = none := by
    cases e : hW.get? D with
    | none => rfl
    | some o' => have := X.S.w _ _ e; rw [hnone (Nat.le_refl _)] at this; cases this
  have sh2 : Sh s { s2 with heap := H4 } := by
    obtain ⟨h0, tk, rfl, _⟩ := k2
    exact ⟨_, _, rfl⟩
  have loop : codeAny (model prog w) A (.compLoop (.ListComp (.BinOp (.Call (.Name (fnm 22) up) [.Name (nm 27) bp, e7] [] bq) .Sub e8 br) [⟨.Name (nm 34) px, it, [], 0⟩] sc p) 0 (.ref ci) (.ref D) (compEnvC sc (cellsFrom (D + 1 + 1) sc.names cl) (D + 1) env))
      (compPost (model prog w) A E (some (assign (.Name (nm 6) py) env)) (fun _ s' => Q .next s') (.ref D) (D + 1)) { s2 with heap := H4 } := by
    refine row_loop (s := s) (cenv := compEnvC sc (cellsFrom (D + 1 + 1) sc.names cl) (D + 1) env) (T := T) (cb := cb) (bx := bx) (xs := xs) (c := c) W okc ha X.S.w X.bW hDW hk hx hcc h7 h8 hkb hcap2 hcb (X.B.ne_cell hcb) hbex (hnone (Nat.le_refl _)) (hnone (Nat.le_succ _)) (hnone (by omega)) hcn
      (Nat.ne_of_lt (Nat.lt_succ_self _)) (Nat.ne_of_lt (by omega)) (Nat.ne_of_lt (by omega)) (show ci ≠ D + 1 from Nat.ne_of_lt (by omega)) (Nat.ne_of_lt (by omega)) ?_ sh2 (fun b o _ e => hk4 b o (kHp k2 b o e)) (hk4 _ _ hI) hl4 hn4 hO hB4
    intro s' items rs mm hsh hfr hpl hvs hns hB5 hr5 hrs
    have hDb : D ≠ bx := by
      rintro rfl
      obtain ⟨o, e⟩ := hbex
      rw [hnone (Nat.le_refl _)] at e; cases e
    have hCb : bx ≠ D + 1 := by
      rintro rfl
      obtain ⟨o, e⟩ := hbex
      rw [hnone (Nat.le_succ _)] at e; cases e
    have X5 : LS hW env bx xs (c + 5) l s'.heap := X.kx ⟨hsh, hfr⟩ (hB5.mono (fun o e => e) (fun b o _ _ e => e) fun b q => q.elim)
    have hCL : env.locals ≠ D + 1 := by
      intro e
      obtain ⟨o, _, _, ho, _⟩ := hnL
      rw [e, hnone (Nat.le_succ _)] at ho; cases ho
    refine wpAny_assign_Name (store_loc X5.S ok.kind (ok.loc hk6) rfl (v := .lst (rs.map .int)) (.lst (fun q => q.elim hDb fun q => by cases q) hpl (ints_vr hvs)) fun s6 k6 S6 => ?_)
    have hns6 : s6.heap.Ns (D + 1) mm := hns.at' fun o e => k6.hp _ o (Ne.symm hCL) (by intro q; cases q) e
    refine ⟨mm, hns6, fun h' hs => hQ rs _ hr5 hrs ?_ (S6.ext (mC := mm) hs hns6 hCL ?_ fun q => q.elim (fun q => hCb q.symm) fun q => by cases q)⟩
    · exact (hsh.trans k6.sh).trans ⟨_, _, rfl⟩
    · cases e : hW.get? (D + 1) with
      | none => rfl
      | some o' => have := X.S.w _ _ e; rw [hnone (Nat.le_succ _)] at this; cases this
  exact codeAny_compStart_list loop (wpAny_pyIter_rangeiter (s := { s2 with heap := H4 }) (hk4 _ _ hI) loop)
end
end Mine

namespace Mine
noncomputable def good (r : Option (AF × Loc × Ow)) : Bool := match r with
  | some p => match p.1 with
    | .ret v => match v with
      | .bool b => b
      | _ => false
    | _ => false
  | .none => false
noncomputable def runL (a b : Int) (row : List Int) : Bool := good ((rn (nthF fnT) 120).exs b_law [(25, .int a), (26, .int b), (6, .lst (row.map .int))] .none)
noncomputable def pre : Nat → List (List Int)
  | 0 => [[]]
  | n + 1 => (pre n).flatMap fun p => [(-1) :: p, 0 :: p, 1 :: p]
theorem c_m1_0 (v w x y z : Int) : runL (-1) 0 [v, w, x, y, z] = true := by kernel_rfl
theorem c_m1_1 (w x y z : Int) : (pre 1).all (fun p => runL (-1) 1 (p ++ [w, x, y, z])) = true := by kernel_rfl
theorem c_0_0 (w x y z : Int) : (pre 1).all (fun p => runL 0 0 (p ++ [w, x, y, z])) = true := by kernel_rfl
theorem c_0_1 (x y z : Int) : (pre 2).all (fun p => runL 0 1 (p ++ [x, y, z])) = true := by kernel_rfl
theorem c_1_0 (x y z : Int) : (pre 2).all (fun p => runL 1 0 (p ++ [x, y, z])) = true := by kernel_rfl
theorem c_1_1m (y z : Int) : (pre 2).all (fun p => runL 1 1 ((-1) :: (p ++ [y, z]))) = true := by kernel_rfl
theorem c_1_1z (y z : Int) : (pre 2).all (fun p => runL 1 1 (0 :: (p ++ [y, z]))) = true := by kernel_rfl
theorem c_1_1p (y z : Int) : (pre 2).all (fun p => runL 1 1 (1 :: (p ++ [y, z]))) = true := by kernel_rfl
theorem c_2_0m (y z : Int) : (pre 2).all (fun p => runL 2 0 ((-1) :: (p ++ [y, z]))) = true := by kernel_rfl
theorem c_2_0z (y z : Int) : (pre 2).all (fun p => runL 2 0 (0 :: (p ++ [y, z]))) = true := by kernel_rfl
theorem c_2_0p (y z : Int) : (pre 2).all (fun p => runL 2 0 (1 :: (p ++ [y, z]))) = true := by kernel_rfl
theorem c_2_1mm (z : Int) : (pre 2).all (fun p => runL 2 1 ((-1) :: (-1) :: (p ++ [z]))) = true := by kernel_rfl
theorem c_2_1mz (z : Int) : (pre 2).all (fun p => runL 2 1 ((-1) :: 0 :: (p ++ [z]))) = true := by kernel_rfl
theorem c_2_1mp (z : Int) : (pre 2).all (fun p => runL 2 1 ((-1) :: 1 :: (p ++ [z]))) = true := by kernel_rfl
theorem c_2_1zm (z : Int) : (pre 2).all (fun p => runL 2 1 (0 :: (-1) :: (p ++ [z]))) = true := by kernel_rfl
theorem c_2_1zz (z : Int) : (pre 2).all (fun p => runL 2 1 (0 :: 0 :: (p ++ [z]))) = true := by kernel_rfl
theorem c_2_1zp (z : Int) : (pre 2).all (fun p => runL 2 1 (0 :: 1 :: (p ++ [z]))) = true := by kernel_rfl
theorem c_2_1pm (z : Int) : (pre 2).all (fun p => runL 2 1 (1 :: (-1) :: (p ++ [z]))) = true := by kernel_rfl
theorem c_2_1pz (z : Int) : (pre 2).all (fun p => runL 2 1 (1 :: 0 :: (p ++ [z]))) = true := by kernel_rfl
theorem c_2_1pp (z : Int) : (pre 2).all (fun p => runL 2 1 (1 :: 1 :: (p ++ [z]))) = true := by kernel_rfl
theorem c_bad (v w x y z : Int) : ([((-4 : Int), (1 : Int)), (-4, 0), (-4, -1), (-4, -2), (-3, 1), (-3, 0), (-3, -1), (-3, -2), (-2, 1), (-2, 0), (-2, -1), (-2, -2), (-1, -1), (-1, -2), (0, -1), (0, -2), (1, -1), (1, -2), (2, -1), (2, -2)]).all (fun p => runL p.1 p.2 [v, w, x, y, z]) = true := by kernel_rfl
noncomputable def isR (v : Int) : Prop := v = -1 ∨ v = 0 ∨ v = 1
theorem c_1_1 (v : Int) (h : isR v) (y z : Int) : (pre 2).all (fun p => runL 1 1 (v :: (p ++ [y, z]))) = true := by
  rcases h with rfl | rfl | rfl
  · exact c_1_1m y z
  · exact c_1_1z y z
  · exact c_1_1p y z
theorem c_2_0 (v : Int) (h : isR v) (y z : Int) : (pre 2).all (fun p => runL 2 0 (v :: (p ++ [y, z]))) = true := by
  rcases h with rfl | rfl | rfl
  · exact c_2_0m y z
  · exact c_2_0z y z
  · exact c_2_0p y z
theorem c_2_1 (v w : Int) (h : isR v) (h' : isR w) (z : Int) : (pre 2).all (fun p => runL 2 1 (v :: w :: (p ++ [z]))) = true := by
  rcases h with rfl | rfl | rfl <;> rcases h' with rfl | rfl | rfl
  · exact c_2_1mm z
  · exact c_2_1mz z
  · exact c_2_1mp z
  · exact c_2_1zm z
  · exact c_2_1zz z
  · exact c_2_1zp z
  · exact c_2_1pm z
  · exact c_2_1pz z
  · exact c_2_1pp z
end Mine

namespace Mine

theorem mem_pre : ∀ (p : List Int), (∀ r ∈ p, r = -1 ∨ r = 0 ∨ r = 1) → p ∈ pre p.length
  | [], _ => by simp [pre]
  | r :: p, h => by
    have ih := mem_pre p fun q hq => h q (List.mem_cons_of_mem _ hq)
    simp only [List.length_cons, pre, List.mem_flatMap]
    refine ⟨p, ih, ?_⟩
    rcases h r List.mem_cons_self with rfl | rfl | rfl <;> simp
theorem run_gen (R : Int → Int → List Int → Bool) (h1 : ∀ v w x y z, R (-1) 0 [v, w, x, y, z] = true) (h2 : ∀ w x y z, (pre 1).all (fun p => R (-1) 1 (p ++ [w, x, y, z])) = true) (h3 : ∀ w x y z, (pre 1).all (fun p => R 0 0 (p ++ [w, x, y, z])) = true)
    (h4 : ∀ x y z, (pre 2).all (fun p => R 0 1 (p ++ [x, y, z])) = true) (h5 : ∀ x y z, (pre 2).all (fun p => R 1 0 (p ++ [x, y, z])) = true) (h6 : ∀ v, isR v → ∀ y z, (pre 2).all (fun p => R 1 1 (v :: (p ++ [y, z]))) = true)
    (h7 : ∀ v, isR v → ∀ y z, (pre 2).all (fun p => R 2 0 (v :: (p ++ [y, z]))) = true) (h8 : ∀ v w, isR v → isR w → ∀ z, (pre 2).all (fun p => R 2 1 (v :: w :: (p ++ [z]))) = true)
    (h9 : ∀ v w x y z, ([((-4 : Int), (1 : Int)), (-4, 0), (-4, -1), (-4, -2), (-3, 1), (-3, 0), (-3, -1), (-3, -2), (-2, 1), (-2, 0), (-2, -1), (-2, -2), (-1, -1), (-1, -2), (0, -1), (0, -2), (1, -1), (1, -2), (2, -1), (2, -2)]).all (fun p => R p.1 p.2 [v, w, x, y, z]) = true)
    (a b : Int) (rs : List Int) (ha : -4 ≤ a) (ha' : a < 3) (hb : b = 1 ∨ b = 0 ∨ b = -1 ∨ b = -2) (hl : rs.length = 5) (hr : ∀ r ∈ rs, r = -1 ∨ r = 0 ∨ r = 1) : R a b rs = true := by
  obtain ⟨v, w, x, y, z, rfl⟩ : ∃ v w x y z, rs = [v, w, x, y, z] := by
    match rs, hl with
    | [v, w, x, y, z], _ => exact ⟨v, w, x, y, z, rfl⟩
  have hv := hr v (by simp)
  have hw := hr w (by simp)
  have hx := hr x (by simp)
  have hy := hr y (by simp)
  have m1 : [v] ∈ pre 1 := mem_pre [v] (by simp [hv])
  have m2 : [v, w] ∈ pre 2 := mem_pre [v, w] (by simp [hv, hw])
  have m3 : [w, x] ∈ pre 2 := mem_pre [w, x] (by simp [hw, hx])
  have m4 : [x, y] ∈ pre 2 := mem_pre [x, y] (by simp [hx, hy])
  have bad := List.all_eq_true.mp (h9 v w x y z)
  obtain ⟨k, hk⟩ := Int.eq_ofNat_of_zero_le (show 0 ≤ a + 4 by omega)
  have hk7 : k < 7 := by omega
  have e : a = (k : Int) + (-4) := by omega
  subst e
  clear hk ha ha' hl hr
  match k, hk7 with
  | 0, _ =>
    rcases hb with rfl | rfl | rfl | rfl
    · exact bad (-4, 1) (by decide)
    · exact bad (-4, 0) (by decide)
    · exact bad (-4, -1) (by decide)
    · exact bad (-4, -2) (by decide)
  | 1, _ =>
    rcases hb with rfl | rfl | rfl | rfl
    · exact bad (-3, 1) (by decide)
    · exact bad (-3, 0) (by decide)
    · exact bad (-3, -1) (by decide)
    · exact bad (-3, -2) (by decide)
  | 2, _ =>
    rcases hb with rfl | rfl | rfl | rfl
    · exact bad (-2, 1) (by decide)
    · exact bad (-2, 0) (by decide)
    · exact bad (-2, -1) (by decide)
    · exact bad (-2, -2) (by decide)
  | 3, _ =>
    rcases hb with rfl | rfl | rfl | rfl
    · exact List.all_eq_true.mp (h2 w x y z) _ m1
    · exact h1 v w x y z
    · exact bad (-1, -1) (by decide)
    · exact bad (-1, -2) (by decide)
  | 4, _ =>
    rcases hb with rfl | rfl | rfl | rfl
    · exact List.all_eq_true.mp (h4 x y z) _ m2
    · exact List.all_eq_true.mp (h3 w x y z) _ m1
    · exact bad (0, -1) (by decide)
    · exact bad (0, -2) (by decide)
  | 5, _ =>
    rcases hb with rfl | rfl | rfl | rfl
    · exact List.all_eq_true.mp (h6 v hv y z) _ m3
    · exact List.all_eq_true.mp (h5 x y z) _ m2
    · exact bad (1, -1) (by decide)
    · exact bad (1, -2) (by decide)
  | 6, _ =>
    rcases hb with rfl | rfl | rfl | rfl
    · exact List.all_eq_true.mp (h8 v w hv hw z) _ m4
    · exact List.all_eq_true.mp (h7 v hv y z) _ m3
    · exact bad (2, -1) (by decide)
    · exact bad (2, -2) (by decide)
theorem run_all (a b : Int) (rs : List Int) (ha : -4 ≤ a) (ha' : a < 3) (hb : b = 1 ∨ b = 0 ∨ b = -1 ∨ b = -2) (hl : rs.length = 5) (hr : ∀ r ∈ rs, r = -1 ∨ r = 0 ∨ r = 1) : runL a b rs = true :=
  run_gen runL c_m1_0 c_m1_1 c_0_0 c_0_1 c_1_0 c_1_1 c_2_0 c_2_1 c_bad a b rs ha ha' hb hl hr
theorem run_eq (a b : Int) (rs : List Int) (h : runL a b rs = true) : ∃ l' o', (rn FT 120).exs b_law [(25, .int a), (26, .int b), (6, .lst (rs.map .int))] .none = some (.ret (.bool true), l', o') := by
  unfold runL good at h
  split at h
  · rename_i p hp
    split at h
    · rename_i v hv
      split at h
      · rename_i b
        obtain ⟨f, l', o'⟩ := p
        dsimp only at hv
        subst hv
        subst h
        exact ⟨l', o', hp⟩
      · cases h
    · cases h
  · cases h

noncomputable def ckTake (ks : KS) (m : Int) (e : PySem.Expr) : Bool := nCall (fnm 22) ks e fun es => two es fun z e3 => isName z (nm 27) && ckX (.int m) ks e3
theorem ckTake_ok {P : PySem.Expr → Prop} {ks : KS} {m : Int} {e : PySem.Expr} (h : ckTake ks m e = true) (H : ∀ r1 r2 e3 r3, ks (fnm 22) = some .globalImplicit → TX ks e3 (.int m) → P (.Call (.Name (fnm 22) r1) [.Name (nm 27) r2, e3] [] r3)) : P e :=
  nCall_ok h fun r1 es r3 hk h => two_ok (P := fun es => P (.Call _ es [] r3)) h fun z e3 h => isName_ok (P := fun z => P (.Call _ [z, e3] [] r3)) (band h).1 fun r2 => H r1 r2 e3 r3 hk (ckX_ok _ _ _ (band h).2)
noncomputable def ckL1s (e : PySem.Expr) (ks : KS) : Bool := vSub e fun a sl _ => isName a (nm 32) && vSlice sl fun lo hi st _ => (lo.isNone && st.isNone) && hi.any fun e1 => ckX (.int 12) ks e1
theorem ckL1s_ok {P : PySem.Expr → Prop} {ks : KS} {e : PySem.Expr} (h : ckL1s e ks = true) (H : ∀ q1 e1 q2 q3, TX ks e1 (.int 12) → P (.Subscript (.Name (nm 32) q1) (.Slice none (some e1) none q2) q3)) : P e :=
  vSub_ok h fun a sl p h => isName_ok (P := fun a => P (.Subscript a sl p)) (band h).1 fun np =>
      vSlice_ok (P := fun sl => P (.Subscript _ sl p)) (band h).2 fun lo hi st sp h => none_ok (P := fun lo => P (.Subscript _ (.Slice lo hi st sp) p)) (band (band h).1).1 (none_ok (P := fun st => P (.Subscript _ (.Slice none hi st sp) p)) (band (band h).1).2
        (some_ok (P := fun hi => P (.Subscript _ (.Slice none hi none sp) p)) (band h).2 fun i' h => H np i' sp p (ckX_ok _ _ _ h)))
noncomputable def ckL1 (st : PySem.Stmt) (ks : KS) : Bool := asg1 st fun t v => isName t (nm 27) && vLst v fun es _ => two es fun c e2 => ckX (.int 0) ks e2 && nCall (Str.ofString "list") ks c fun ls => one ls fun l => ckL1s l ks
theorem ckL1_ok {P : PySem.Stmt → Prop} {ks : KS} {st : PySem.Stmt} (h : ckL1 st ks = true) (H : ∀ p0 q0 q1 e1 q2 q3 q4 e2 p1 p2, ks (Str.ofString "list") = some .globalImplicit → TX ks e1 (.int 12) → TX ks e2 (.int 0) →
    P (.Assign [.Name (nm 27) p0] (.List [.Call (.Name (Str.ofString "list") q0) [.Subscript (.Name (nm 32) q1) (.Slice none (some e1) none q2) q3] [] q4, e2] p1) p2)) : P st :=
  asg1_ok h fun t v p2 h => isName_ok (P := fun t => P (.Assign [t] v p2)) (band h).1 fun p0 => vLst_ok (P := fun v => P (.Assign _ v p2)) (band h).2 fun es p1 h => two_ok (P := fun es => P (.Assign _ (.List es p1) p2)) h fun c e2 h =>
    nCall_ok (P := fun c => P (.Assign _ (.List [c, e2] p1) p2)) (band h).2 fun q0 ls q4 hk h2 => one_ok (P := fun ls => P (.Assign _ (.List [.Call _ ls [] q4, e2] p1) p2)) h2 fun l h2 =>
      ckL1s_ok (P := fun l => P (.Assign _ (.List [.Call _ [l] [] q4, e2] p1) p2)) h2 fun q1 e1 q2 q3 h3 => H p0 q0 q1 e1 q2 q3 q4 e2 p1 p2 hk h3 (ckX_ok _ _ _ (band h).1)
noncomputable def ckMinus (ks : KS) (m k : Int) (e : PySem.Expr) : Bool := vBin e fun t op e4 _ => decide (op = .Sub) && (ckTake ks m t && ckX (.int k) ks e4)
theorem ckMinus_ok {P : PySem.Expr → Prop} {ks : KS} {m k : Int} {e : PySem.Expr} (h : ckMinus ks m k e = true) (H : ∀ r1 r2 e3 r3 e4 r4, ks (fnm 22) = some .globalImplicit → TX ks e3 (.int m) → TX ks e4 (.int k) → P (.BinOp (.Call (.Name (fnm 22) r1) [.Name (nm 27) r2, e3] [] r3) .Sub e4 r4)) : P e :=
  vBin_ok h fun t op e4 r4 h => eq_ok (P := fun op => P (.BinOp t op e4 r4)) (band h).1 (ckTake_ok (P := fun t => P (.BinOp t .Sub e4 r4)) (band (band h).2).1 fun r1 r2 e3 r3 h1 h2 => H r1 r2 e3 r3 e4 r4 h1 h2 (ckX_ok _ _ _ (band (band h).2).2))
noncomputable def pickX : X := .lst (.cons (.int 1) (.cons (.int 0) (.cons (.neg (.int 1)) (.cons (.int 1) (.cons (.neg (.int 2)) .nil)))))
noncomputable def ckPick (ks : KS) (e : PySem.Expr) : Bool := vSub e fun e5 t _ => ckTake ks 5 t && ckX pickX ks e5
theorem ckPick_ok {P : PySem.Expr → Prop} {ks : KS} {e : PySem.Expr} (h : ckPick ks e = true) (H : ∀ e5 r1 r2 e3 r3 r4, TX ks e3 (.int 5) → TX ks e5 pickX → P (.Subscript e5 (.Call (.Name (fnm 22) r1) [.Name (nm 27) r2, e3] [] r3) r4)) : P e :=
  vSub_ok h fun e5 t r4 h => ckTake_ok (P := fun t => P (.Subscript e5 t r4)) (band h).1 fun r1 r2 e3 r3 _ h2 => H e5 r1 r2 e3 r3 r4 h2 (ckX_ok _ _ _ (band h).2)
noncomputable def ckL2 (st : PySem.Stmt) (ks : KS) : Bool := asg1 st fun t v => swOK v && tup2 t fun y1 y2 => names2 ks 25 26 y1 y2 && tup2 v fun a b => ckMinus ks 7 4 a && ckPick ks b
theorem ckL2_ok {P : PySem.Stmt → Prop} {ks : KS} {st : PySem.Stmt} (h : ckL2 st ks = true) (H : ∀ r1 r2 k p1 a b k2 p2 p3, ks (nm 25) = some .local → ks (nm 26) = some .local → ckMinus ks 7 4 a = true → ckPick ks b = true → swOK (.Tuple [a, b] k2 p2) = true →
    P (.Assign [.Tuple [.Name (nm 25) r1, .Name (nm 26) r2] k p1] (.Tuple [a, b] k2 p2) p3)) : P st :=
  asg1_ok h fun t v p3 h => tup2_ok (P := fun t => P (.Assign [t] v p3)) (band h).2 fun y1 y2 k p1 h2 => names2_ok (P := fun y1 y2 => P (.Assign [.Tuple [y1, y2] k p1] v p3)) (band h2).1 fun r1 r2 _ h3 h4 =>
    tup2_ok (P := fun v => swOK v = true → P (.Assign [.Tuple [.Name (nm 25) r1, .Name (nm 26) r2] k p1] v p3)) (band h2).2 (fun a b k2 p2 h5 hs => H r1 r2 k p1 a b k2 p2 p3 h3 h4 (band h5).1 (band h5).2 hs) (band h).1
noncomputable def ckL3 (st : PySem.Stmt) (ks : KS) : Bool := asg1 st fun t v => isLc ks (nm 6) && vName t fun z1 u1 => decide (z1 = nm 6) && vComp v fun el gs sc u7 => oneGen gs fun z it =>
  isName z (nm 34) && (ckI true (.int 5) ks it && (ckMinus (kindFn sc) 3 1 el && (ckC ks sc 34 [27] && apart (nm 6) u1 u7 sc)))
theorem ckL3_ok {P : PySem.Stmt → Prop} {ks : KS} {st : PySem.Stmt} (h : ckL3 st ks = true) (H : ∀ u1 el u2 it sc u7 u8, ks (nm 6) = some .local → TXI ks it true (.int 5) → ckMinus (kindFn sc) 3 1 el = true → CompOK ks sc 34 [27] →
    (u1.line = u7.line ∧ ∀ q, (nm 6, q) ∈ sc.names → ¬ (q = .local ∨ q = .cell)) → P (.Assign [.Name (nm 6) u1] (.ListComp el [⟨.Name (nm 34) u2, it, [], 0⟩] sc u7) u8)) : P st :=
  asg1_ok h fun t v u8 h => vName_ok (P := fun t => P (.Assign [t] v u8)) (band h).2 fun z1 u1 h2 => eq_ok (P := fun z1 => P (.Assign [.Name z1 u1] v u8)) (band h2).1 (vComp_ok (P := fun v => P (.Assign _ v u8)) (band h2).2 fun el gs sc u7 h3 =>
    oneGen_ok (P := fun gs => P (.Assign _ (.ListComp el gs sc u7) u8)) h3 fun z it h4 => isName_ok (P := fun z => P (.Assign _ (.ListComp el [⟨z, it, [], 0⟩] sc u7) u8)) (band h4).1 fun u2 =>
      H u1 el u2 it sc u7 u8 (of_decide_eq_true (band h).1) (ckI_ok (band (band h4).2).1) (band (band (band h4).2).2).1 (ckC_ok (band (band (band (band h4).2).2).2).1) (apart_ok (band (band (band (band h4).2).2).2).2))
noncomputable def ckLaw (ks : KS) (ss : List PySem.Stmt) : Bool := consV ss fun s1 t => ckL1 s1 ks && consV t fun s2 t => ckL2 s2 ks && consV t fun s3 rest => ckL3 s3 ks && ckSL b_law ks rest
theorem ckLaw_ok {P : List PySem.Stmt → Prop} {ks : KS} {ss : List PySem.Stmt} (h : ckLaw ks ss = true) (H : ∀ s1 s2 s3 rest, ckL1 s1 ks = true → ckL2 s2 ks = true → ckL3 s3 ks = true → ckSL b_law ks rest = true → P (s1 :: s2 :: s3 :: rest)) : P ss :=
  consV_ok h fun s1 t h1 => consV_ok (P := fun t => P (s1 :: t)) (band h1).2 fun s2 t h2 => consV_ok (P := fun t => P (s1 :: s2 :: t)) (band h2).2 fun s3 t h3 => H s1 s2 s3 t (band h1).1 (band h2).1 (band h3).1 (band h3).2

section
variable {prog : Program} {w : World} {hW : Heap} {mg mb : Str → Option Value} {env : Env} {ks : KS} {A : Around} {s : Shared} {E : Value → Shared → Prop} {xs : List Int}

theorem law_body (W : WF hW mg mb FT) {ss : List PySem.Stmt} (hss : ckLaw ks ss = true) (ok : EnvOK env ks) (ha : AOK A 120) (hw : ∀ b o, hW.get? b = some o → s.heap.get? b = some o) (hL : hW.get? env.locals = none) {mL : Str → Option Value} (hns : s.heap.Ns env.locals mL) {cb w2 : Addr} {items : Array Value}
    (hkc : env.kindOf (nm 27) = some .cell) (hcl : env.cells.lookup (nm 27) = some cb) (hcb : s.heap.IsCell cb none) (hcbW : hW.get? cb = none) (hscr : NameIs env s.heap (nm 32) (.ref w2)) (hl : s.heap.IsList w2 items) (hv : VRs (fun _ => False) s.heap (xs.map .int) items.toList) (hlen : xs.length ≤ 100) {Q : Flow → Shared → Prop}
    (hQ : ∀ s', Sh s s' → (∀ b o, hW.get? b = some o → s'.heap.get? b = some o) → Q (.ret (.bool true)) s') : wpAny (model prog w) A (execs ss env) Q E s := by
  have ha20 : AOK A 20 := ha.le (by omega)
  refine ckLaw_ok (P := fun ss => wpAny (model prog w) A (execs ss env) Q E s) hss fun s1 s2 s3 rest a1 a2 a3 a4 => ?_
  refine ckL1_ok (P := fun s1 => wpAny (model prog w) A (execs (s1 :: _) env) Q E s) a1 fun _ _ _ _ _ _ _ _ _ _ b3 b5 b6 => ?_
  refine wpAny_execs_cons (law_box W ok ha20 hw hL hns hkc hcl hcb hcbW hscr hl hv hlen b3 b5 b6 fun bx s1 sh1 _ _ X1 => ?_)
  clear hw hns hcb hscr hl hv hlen a1 b3 b5 b6
  refine ckL2_ok (P := fun s2 => wpAny (model prog w) A (execs (s2 :: _) env) Q E s1) a2 fun _ _ _ _ _ _ _ _ _ c3 c4 c5 c6 c7 => ?_
  refine ckMinus_ok (P := fun a => swOK (.Tuple [a, _] _ _) = true → wpAny (model prog w) A (execs (.Assign [.Tuple [.Name (nm 25) _, .Name (nm 26) _] _ _] (.Tuple [a, _] _ _) _ :: _) env) Q E s1) c5 (fun _ _ _ _ _ _ c8 c9 c10 => ?_) c7
  refine ckPick_ok (P := fun b => swOK (.Tuple [_, b] _ _) = true → wpAny (model prog w) A (execs (.Assign [.Tuple [.Name (nm 25) _, .Name (nm 26) _] _ _] (.Tuple [_, b] _ _) _ :: _) env) Q E s1) c6 fun _ _ _ _ _ _ c11 c12 c7 => ?_
  refine wpAny_execs_cons (law_pair W ok ha20 X1 c8 c3 c4 (by simp; omega) (by omega) c9 c10 c12 c11 c7 fun a b s2 ha1 ha2 hb sh2 X2 => ?_)
  refine ckL3_ok (P := fun s3 => wpAny (model prog w) A (execs (s3 :: _) env) Q E s2) a3 fun _ _ _ _ _ _ _ d1 d2 d3 d4 d5 => ?_
  refine ckMinus_ok (P := fun el => wpAny (model prog w) A (execs (.Assign [.Name (nm 6) _] (.ListComp el _ _ _) _ :: _) env) Q E s2) d3 fun _ _ _ _ _ _ d6 d7 d8 => ?_
  refine wpAny_execs_cons (law_row W ok ha20 X2 d6 (by simp; omega) (by omega) d1 d2 d7 d8 d4 d5 fun rs s3 h5 hrs sh3 S3 => ?_)
  obtain ⟨l', o', hrun⟩ := run_eq a b rs (run_all a b rs ha1 ha2 hb h5 hrs)
  refine (sound (prog := prog) (w := w) W 120).exs (ckSL_ok _ _ _ a4) ok ha S3 hrun fun fl s4 own4 k4 r4 => ?_
  obtain ⟨y, rfl, r4⟩ := r4
  cases r4
  refine hQ s4 (((Sh.trans sh1 sh2).trans sh3).trans k4.sh) fun b o e => ?_
  have h3 := S3.w b o e
  refine k4.hp b o ?_ (by intro q; cases q) h3
  rintro rfl
  rw [hL] at e; cases e
end
end Mine

namespace Mine

abbrev lawN : Str := Str.ofString "law"
noncomputable def lawOK (p : Program) : Bool := match (recsOf p).find? (fun d => decide (d.name = lawN)) with
  | some d => ckLaw (kindFn d.scope) d.body && decide (d.scope.kind = .function) && decide (d.scope.isGenerator = false) && decide (d.scope.isCoroutine = false) && d.scope.names.all (fun x => !decide (x.2 = .free)) &&
    d.params.posonlyargs.isEmpty && d.params.vararg.isNone && d.params.kwonlyargs.isEmpty && d.params.kwarg.isNone && decide (d.params.args.map (·.arg) = [nm 32]) && decide (d.scope.names.lookup (nm 32) = some .local) && decide (d.scope.names.lookup (nm 27) = some .cell)
  | none => false
section
variable {prog : Program} {w : World} {mg mb : Str → Option Value} {A : Around} {s : Shared} {E : Value → Shared → Prop} {xs : List Int} {loose : List Str} {mean : ExcName → Option Value}
theorem law_enter {p : Program} (hck : lawOK p = true) (T : Top p loose mean mg mb s.heap) (W : WF s.heap mg mb FT) (ha : AOK A 121) {fa w2 : Addr} {items : Array Value} (hmg : mg lawN = some (.ref fa)) (hl : s.heap.IsList w2 items) (hv : VRs (fun _ => False) s.heap (xs.map .int) items.toList) (hlen : xs.length ≤ 100) {Q : Value → Shared → Prop}
    (hQ : ∀ s', Sh s s' → (∀ b o, s.heap.get? b = some o → s'.heap.get? b = some o) → Q (.bool true) s') : wpAny (model prog w) A (call (.ref fa) [.ref w2]) Q E s := by
  unfold lawOK at hck
  split at hck
  · rename_i d hfind
    have hname : d.name = lawN := of_decide_eq_true (List.find?_some (p := fun d : DefRec => decide (d.name = lawN)) hfind)
    have hmem := List.mem_of_find?_eq_some hfind
    obtain ⟨a, o, pm, cd, doc, t1, t2, t3, t4⟩ := T.fn d hmem
    rw [hname, hmg] at t1
    cases t1
    simp only [Bool.and_eq_true, decide_eq_true_eq, List.all_eq_true, Bool.not_eq_true', decide_eq_false_iff_not] at hck
    obtain ⟨⟨⟨⟨⟨⟨⟨⟨⟨⟨⟨h1, h2⟩, h3⟩, h4⟩, h5⟩, h6⟩, h7⟩, h8⟩, h9⟩, h10⟩, h11⟩, h12⟩ := hck
    obtain ⟨dn, ⟨po, as, va, ko, kd, kw, ds⟩, body, scope, dp⟩ := d
    simp only [List.isEmpty_iff, Option.isNone_iff_eq_none] at h6 h7 h8 h9
    subst h6 h7 h8 h9
    dsimp only at h1 h2 h3 h4 h5 h10 h11 h12 t2 t3 t4
    have hlen1 : as.length = 1 := by
      have := congrArg List.length h10
      simpa using this
    have hbind : bindArgs (Calls.docDef dn ⟨[], as, none, [], kd, none, ds⟩ body scope pm cd doc) ⟨[.ref w2], []⟩ = pure [(nm 32, .ref w2)] := by
      rw [bind_gen (by rw [h10]; simp) (by rw [hlen1]; rfl), h10]
      rfl
    obtain ⟨cb0, hm0⟩ := cf_has scope.names (s.heap.objs.size + 1) [] _ (mem_of_lookup h12)
    obtain ⟨cb, hcl⟩ := lookup_has hm0
    refine wpAny_call (call_cells_ret (by have := ha.dp; show A.depth < 1000; omega) t2 t3 T.nolimit t4 hbind (fun x hx => ?_) (fun h' tk F C => ?_) h4 h3 h2)
    · rcases List.mem_cons.mp hx with rfl | hx
      · exact .inl h11
      · cases hx
    · have okc : EnvOK (envOfC dn scope s.heap.objs.size fa cd) (kindFn scope) := by
        refine ⟨h2, rfl, rfl, fun x => .inl rfl, fun x hx => ?_⟩
        rcases hx with hx | hx
        · obtain ⟨c, hm⟩ := cf_has scope.names (s.heap.objs.size + 1) [] _ (mem_of_lookup hx)
          exact lookup_has hm
        · exact absurd rfl (h5 _ (mem_of_lookup hx))
      have hnone : ∀ {b : Nat}, s.heap.objs.size ≤ b → s.heap.get? b = none := fun {b} hb => by
        cases e : s.heap.get? b with
        | none => rfl
        | some o' => exact absurd (Heap.lt_size e) (Nat.not_lt.mpr hb)
      have hkl : (envOfC dn scope s.heap.objs.size fa cd).kindOf (nm 32) = some .local := h11
      have hC : h'.IsCell cb none := by
        have := C.cell _ _ hcl
        simp only [bindC, if_pos hkl] at this
        exact this
      have hns := F.ns
      refine law_body (s := { s with heap := h', toks := tk }) (xs := xs) (cb := cb) W h1 okc ((ha.le (show 121 ≤ 121 by omega)).deeper _) F.keep (hnone (Nat.le_refl _)) F.ns h12 hcl hC (hnone (Nat.le_of_lt (C.above _ _ (mem_of_lookup hcl)))) ?_ (hl.at fun o => F.keep _ o) (ints_vr hv) hlen fun s' hs hk => ?_
      · refine .inl ⟨hkl, _, F.ns, ?_⟩
        simp only [bindL, if_pos hkl]
        simp
      · exact hQ s' (Sh.trans ⟨_, _, rfl⟩ hs) hk
  · cases hck
end

theorem ints_are {ex : Addr → Prop} {h : Heap} : ∀ {vs : List Value} {xs : List Int}, IntsAre vs xs → VRs ex h (xs.map .int) vs := by
  intro vs xs hI
  induction hI with
  | nil => exact .nil
  | cons n t _ ih => exact .cons (.int _ _) ih

theorem end_good {c : ClaimW} {cl : Str → Option Addr} {mean : ExcName → Option Value} {args : List WData} {s₁ s' : Shared} (hr : ∀ cls, c.raises args cls = false) (hp : c.post args (.bool true) args = true) (hg : s₁.gens = #[]) (hs : Sh s₁ s') (hk : ∀ b o, s₁.heap.get? b = some o → s'.heap.get? b = some o) :
    GoodWG c cl mean args s₁ (.ok (.ret (.bool true))) s' := by
  obtain ⟨h', tk, rfl⟩ := hs
  exact GoodW.toG ⟨.inl ⟨_, _, [], rfl, hr, ReadsW.bool true, hp, fun _ => ⟨List.nodup_nil, fun _ hm => (nomatch hm)⟩⟩, hk, rfl, hg⟩
end Mine

set_option maxRecDepth 100000 in
set_option maxHeartbeats 0 in
theorem PySem.Challenge.cw_rh0022_01_holds : PySem.Challenge.rw_rh0022_01.Holds := by
  w_on; o_law; o_head Hook.none
  (case hw => w_witness2)
  intro w s₀ s₁ mg mb G Y fa o pm cd doc dV kV ho hd hcd hD hmg hg args vals as hpre hlay hrd hwl hlo
  refine Ground.open G ?_
  intro T B D TE TW
  wrow_args hpre hlay hrd hwl hlo
  rename_i hLl hra hw1 hr0 hIi hrr hc1 hc2
  have W := Mine.wf_of (by decide +kernel) T TW (by decide +kernel) (by decide +kernel) Mine.biV
  refine Mine.law_enter (by decide +kernel) T W ⟨rfl, by decide, by decide⟩ hmg hLl (Mine.ints_are hIi) (by omega) fun s' hs hk => ?_
  exact Mine.end_good (fun _ => rfl) (by first | rfl | wrow_post) hg hs hk

