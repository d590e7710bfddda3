import PyProof.Rows.All
import Wide.All
import OpenK.AllK
import Wide.FinOn
import Lean
import PySem.Challenge.RW_tk0040_01
set_option Elab.async false
set_option maxRecDepth 100000
/-! part Ev -/
/- The evaluator: a compact form, ints | bools | none | tuples | lists by value, lists that are being built owned by one variable. -/
namespace Mine
noncomputable section

inductive V where
  | int (i : Int)
  | bool (b : Bool)
  | none
  | tup (vs : List V)
  | lst (vs : List V)

inductive R where
  | dead
  | val (v : V)
  | own (id : Nat) (vs : List V)

mutual
inductive X where
  | int (i : Int)
  | bool (b : Bool)
  | none
  | var (x : Nat)
  | glob (k : Nat)
  | bin (o : Nat) (a b : X)
  | neg (a : X)
  | cmp (o : Nat) (a b : X)
  | notin (a : X) (x : Nat)
  | and (a b : X)
  | or (a b : X)
  | ite (c a b : X)
  | len (a : X)
  | abs (a : X)
  | max (a b : X)
  | list (a : X)
  | any (a : X)
  | sub (a i : X)
  | cut (a hi : X)
  | index (x : Nat) (a : X)
  | tup (xs : Xs)
  | disp (xs : Xs)
  | call (f : Nat) (xs : Xs)
  | callm (f : Nat) (x : Nat) (xs : Xs)
  | comp (elt : X) (tgt : List Nat) (src : Src) (ifs : Xs) (caps : List Nat)
inductive Xs where
  | nil
  | cons (x : X) (xs : Xs)
inductive Src where
  | lst (a : X)
  | enum (a : X)
  | rng1 (a : X)
  | rng2 (a b : X)
  | rng3 (a b c : X)
end

mutual
inductive S where
  | asg (x : Nat) (e : X)
  | asgT (xs : List Nat) (es : Xs)
  | asgU (xs : List Nat) (e : X)
  | setI (x : Nat) (i : X) (e : X)
  | app (x : Nat) (e : X)
  | aug (x : Nat) (e : X)
  | ite (c : X) (a b : Ss)
  | loop (c : X) (b : Ss)
  | each (tgt : List Nat) (src : Src) (b : Ss)
  | ret (e : X)
  | raise
inductive Ss where
  | nil
  | cons (s : S) (ss : Ss)
end

structure St where
  r : List R
  n : Nat

inductive Out where
  | next
  | ret (v : V)

structure Fn where
  np : Nat
  nv : Nat
  body : Ss

noncomputable def getR : List R → Nat → R
  | [], _ => .dead
  | r :: _, 0 => r
  | _ :: l, n + 1 => getR l n
noncomputable def setR : List R → Nat → R → List R
  | [], _, _ => []
  | _ :: l, 0, r => r :: l
  | a :: l, n + 1, r => a :: setR l n r
noncomputable def getL {α : Type} : List α → Nat → Option α
  | [], _ => none
  | r :: _, 0 => some r
  | _ :: l, n + 1 => getL l n
noncomputable def setL {α : Type} : List α → Nat → α → List α
  | [], _, _ => []
  | _ :: l, 0, r => r :: l
  | a :: l, n + 1, r => a :: setL l n r
noncomputable def St.put (st : St) (x : Nat) (r : R) : St := ⟨setR st.r x r, st.n⟩
noncomputable def contents : R → Option V
  | .dead => none
  | .val v => some v
  | .own _ vs => some (.lst vs)
noncomputable def freeze : R → R
  | .own _ vs => .val (.lst vs)
  | r => r

/-- small enough for every arithmetic rule of the library -/
noncomputable def small (i : Int) : Bool := Nat.blt i.natAbs 1152921504606846976

noncomputable def vInts : List V → Option (List Int)
  | [] => some []
  | .int i :: l => match vInts l with
    | some r => some (i :: r)
    | none => none
  | _ :: _ => none

noncomputable def reps {α : Type} (xs : List α) : Nat → List α
  | 0 => []
  | n + 1 => xs ++ reps xs n

noncomputable def binop (o : Nat) (a b : V) : Option V := match a, b with
  | .int i, .int j => match o with
    | 0 => some (.int (i + j))
    | 1 => some (.int (i - j))
    | 2 => match small i, small j with
      | true, true => some (.int (i * j))
      | _, _ => none
    | 3 => match small i, small j, j with
      | _, _, .ofNat 0 => none
      | true, true, _ => some (.int (i.fdiv j))
      | _, _, _ => none
    | 4 => match j with
      | .ofNat 0 => none
      | _ => some (.int (i.fmod j))
    | 5 => match j with
      | .ofNat k => match small i, Nat.blt k 64 with
        | true, true => some (.int (i ^ k))
        | _, _ => none
      | _ => none
    | _ => none
  | .lst xs, .lst ys => match o with
    | 0 => match Nat.blt (xs.length + ys.length) 1000 with
      | true => some (.lst (xs ++ ys))
      | false => none
    | _ => none
  | .lst xs, .int j => match o with
    | 2 => match j with
      | .ofNat k => match Nat.blt (xs.length * k) 1000, Nat.blt k 1000 with
        | true, true => some (.lst (reps xs k))
        | _, _ => none
      | _ => none
    | _ => none
  | _, _ => none

noncomputable def eqInts : List Int → List Int → Bool
  | [], [] => true
  | a :: l, b :: m => match decide (a = b) with
    | true => eqInts l m
    | false => false
  | _, _ => false

noncomputable def cmpop (o : Nat) (a b : V) : Option Bool := match a, b with
  | .int i, .int j => match o with
    | 0 => some (decide (i = j))
    | 1 => some (!decide (i = j))
    | 2 => some (decide (i < j))
    | 3 => some (decide (i ≤ j))
    | 4 => some (decide (j < i))
    | 5 => some (decide (j ≤ i))
    | _ => none
  | .lst xs, .lst ys => match vInts xs, vInts ys with
    | some is, some js => match o with
      | 0 => some (eqInts is js)
      | 1 => some (!eqInts is js)
      | _ => none
    | _, _ => none
  | _, _ => none

noncomputable def atIdx (vs : List V) (i : Int) : Option V := match i with
  | .ofNat k => getL vs k
  | .negSucc k => match Nat.ble (k + 1) vs.length with
    | true => getL vs (vs.length - (k + 1))
    | false => none

noncomputable def idx (b i : V) : Option V := match i with
  | .int i => match small i with
    | true => match b with
      | .lst vs => atIdx vs i
      | .tup vs => atIdx vs i
      | _ => none
    | false => none
  | _ => none

noncomputable def takeN {α : Type} : Nat → List α → List α
  | 0, _ => []
  | _ + 1, [] => []
  | n + 1, a :: l => a :: takeN n l

noncomputable def intsFrom (a c : Int) : Nat → List V
  | 0 => []
  | n + 1 => .int a :: intsFrom (a + c) c n

noncomputable def numbered (i : Nat) : List V → List V
  | [] => []
  | v :: l => .tup [.int i, v] :: numbered (i + 1) l

noncomputable def vLists : List V → Option (List (List Int))
  | [] => some []
  | .lst ys :: l => match vInts ys, vLists l with
    | some a, some r => some (a :: r)
    | _, _ => none
  | _ :: _ => none
/-- the first place of an int list among int lists -/
noncomputable def posOf (is : List Int) : List (List Int) → Option Nat
  | [] => none
  | js :: l => match eqInts js is with
    | true => some 0
    | false => match posOf is l with
      | some n => some (n + 1)
      | none => none

noncomputable def vBools : List V → Option (List Bool)
  | [] => some []
  | .bool b :: l => match vBools l with
    | some r => some (b :: r)
    | none => none
  | _ :: _ => none

noncomputable def short (vs : List V) : Bool := Nat.blt vs.length 1000

noncomputable def freshX : X → Bool
  | .bin _ _ _ => true
  | .list _ => true
  | .disp _ => true
  | .cut _ _ => true
  | .comp _ _ _ _ _ => true
  | _ => false

structure Ev where
  e : X → St → Option (V × St)
  t : X → St → Option (Bool × St)
  b : Ss → St → Option (Out × St)
  c : Nat → List V → Option V
  m : Nat → List V → List V → Option (V × List V)

inductive Cp where
  | al (y : Nat)
  | r (r : R)

section
variable (ih : Ev)

noncomputable def evs : Xs → St → Option (List V × St)
  | .nil, st => some ([], st)
  | .cons x xs, st => match ih.e x st with
    | some (v, st) => match evs xs st with
      | some (vs, st) => some (v :: vs, st)
      | none => none
    | none => none

/-- reading a variable's list where it is used up at once -/
noncomputable def peek (a : X) (st : St) : Option (V × St) := match a with
  | .var x => match contents (getR st.r x) with
    | some v => some (v, st)
    | none => none
  | a => ih.e a st

noncomputable def items (s : Src) (st : St) : Option (List V × St) := match s with
  | .lst a => match ih.e a st with
    | some (.lst vs, st) => match short vs with
      | true => some (vs, st)
      | false => none
    | _ => none
  | .enum a => match ih.e a st with
    | some (.lst vs, st) => match short vs with
      | true => some (numbered 0 vs, st)
      | false => none
    | _ => none
  | .rng1 a => match ih.e a st with
    | some (.int i, st) => match small i, Nat.blt i.toNat 1000 with
      | true, true => some (intsFrom 0 1 i.toNat, st)
      | _, _ => none
    | _ => none
  | .rng2 a b => match ih.e a st with
    | some (.int i, st) => match ih.e b st with
      | some (.int j, st) => match small i, small j, Nat.blt (j - i).toNat 1000 with
        | true, true, true => some (intsFrom i 1 (j - i).toNat, st)
        | _, _, _ => none
      | _ => none
    | _ => none
  | .rng3 a b c => match ih.e a st with
    | some (.int i, st) => match ih.e b st with
      | some (.int j, st) => match ih.e c st with
        | some (.int (.negSucc 0), st) => match small i, small j, Nat.blt (i - j).toNat 1000 with
          | true, true, true => some (intsFrom i (-1) (i - j).toNat, st)
          | _, _, _ => none
        | _ => none
      | _ => none
    | _ => none

noncomputable def bindAll : List Nat → List V → St → Option St
  | [], [], st => some st
  | x :: xs, v :: vs, st => bindAll xs vs (st.put x (.val v))
  | _, _, _ => none

noncomputable def bindTgt (xs : List Nat) (v : V) (st : St) : Option St := match xs with
  | [x] => some (st.put x (.val v))
  | xs => match v with
    | .tup vs => bindAll xs vs st
    | _ => none

noncomputable def freezeAll : List Nat → List R → List R
  | [], r => r
  | x :: xs, r => freezeAll xs (setR r x (freeze (getR r x)))

noncomputable def capture (r : List R) : List Nat → List R
  | [] => []
  | x :: xs => getR r x :: capture r xs

noncomputable def deads : Nat → List R
  | 0 => []
  | n + 1 => .dead :: deads n

noncomputable def tests : Xs → St → Option (Bool × St)
  | .nil, st => some (true, st)
  | .cons c cs, st => match ih.t c st with
    | some (true, st) => tests cs st
    | some (false, st) => some (false, st)
    | none => none

noncomputable def compLoop (elt : X) (tgt : List Nat) (ifs : Xs) : List V → St → Option (List V)
  | [], _ => some []
  | v :: vs, st => match bindTgt tgt v st with
    | some st => match tests ih ifs st with
      | some (true, st) => match ih.e elt st with
        | some (w, st) => match compLoop elt tgt ifs vs st with
          | some ws => some (w :: ws)
          | none => none
        | none => none
      | some (false, st) => compLoop elt tgt ifs vs st
      | none => none
    | none => none

noncomputable def exprStep (tab : Nat → Option V) (e : X) (st : St) : Option (V × St) := match e with
  | .int i => some (.int i, st)
  | .bool b => some (.bool b, st)
  | .none => some (.none, st)
  | .var x => match getR st.r x with
    | .val v => some (v, st)
    | .own _ vs => some (.lst vs, st.put x (.val (.lst vs)))
    | .dead => none
  | .glob k => match tab k with
    | some v => some (v, st)
    | none => none
  | .bin o a b => match ih.e a st with
    | some (va, st) => match ih.e b st with
      | some (vb, st) => match binop o va vb with
        | some v => some (v, st)
        | none => none
      | none => none
    | none => none
  | .neg a => match ih.e a st with
    | some (.int i, st) => some (.int (-i), st)
    | _ => none
  | .cmp o a b => match ih.e a st with
    | some (va, st) => match ih.e b st with
      | some (vb, st) => match cmpop o va vb with
        | some v => some (.bool v, st)
        | none => none
      | none => none
    | none => none
  | .notin _ _ => none
  | .and _ _ => none
  | .or _ _ => none
  | .ite c a b => match ih.t c st with
    | some (true, st) => ih.e a st
    | some (false, st) => ih.e b st
    | none => none
  | .len a => match peek ih a st with
    | some (.lst vs, st) => match short vs with
      | true => some (.int vs.length, st)
      | false => none
    | some (.tup vs, st) => match short vs with
      | true => some (.int vs.length, st)
      | false => none
    | _ => none
  | .abs a => match ih.e a st with
    | some (.int i, st) => some (.int i.natAbs, st)
    | _ => none
  | .max a b => match ih.e a st with
    | some (.int i, st) => match ih.e b st with
      | some (.int j, st) => some (.int (if i < j then j else i), st)
      | _ => none
    | _ => none
  | .list a => match peek ih a st with
    | some (.lst vs, st) => match short vs with
      | true => some (.lst vs, st)
      | false => none
    | some (.tup vs, st) => match short vs with
      | true => some (.lst vs, st)
      | false => none
    | _ => none
  | .any a => match ih.e a st with
    | some (.lst vs, st) => match vBools vs with
      | some bs => some (.bool (bs.any id), st)
      | none => none
    | _ => none
  | .sub a i => match a with
    | .var x => match contents (getR st.r x) with
      | some _ => match ih.e i st with
        | some (vi, st) => match contents (getR st.r x) with
          | some b => match idx b vi with
            | some v => some (v, st)
            | none => none
          | none => none
        | none => none
      | none => none
    | a => match ih.e a st with
      | some (b, st) => match ih.e i st with
        | some (vi, st) => match idx b vi with
          | some v => some (v, st)
          | none => none
        | none => none
      | none => none
  | .cut a hi => match a with
    | .var x => match contents (getR st.r x) with
      | some _ => match ih.e hi st with
        | some (.int (.ofNat k), st) => match contents (getR st.r x) with
          | some (.lst vs) => match Nat.blt k 1000, short vs with
            | true, true => some (.lst (takeN k vs), st)
            | _, _ => none
          | _ => none
        | _ => none
      | none => none
    | _ => none
  | .index x a => match contents (getR st.r x) with
    | some (.lst _) => match ih.e a st with
      | some (.lst us, st) => match vInts us, contents (getR st.r x) with
        | some is, some (.lst vs) => match short vs, vLists vs with
          | true, some yss => match posOf is yss with
            | some n => some (.int n, st)
            | none => none
          | _, _ => none
        | _, _ => none
      | _ => none
    | _ => none
  | .tup xs => match evs ih xs st with
    | some (vs, st) => match short vs with
      | true => some (.tup vs, st)
      | false => none
    | none => none
  | .disp xs => match evs ih xs st with
    | some (vs, st) => match short vs with
      | true => some (.lst vs, st)
      | false => none
    | none => none
  | .call f xs => match evs ih xs st with
    | some (vs, st) => match ih.c f vs with
      | some v => some (v, st)
      | none => none
    | none => none
  | .callm f x xs => match getR st.r x with
    | .own id us => match evs ih xs st with
      | some (vs, st) => match getR st.r x with
        | .own id' us => match Nat.beq id id' with
          | true => match ih.m f us vs with
            | some (v, us') => some (v, st.put x (.own id us'))
            | none => none
          | false => none
        | _ => none
      | none => none
    | _ => none
  | .comp elt tgt src ifs caps => match items ih src st with
    | some (vs, st) =>
      match compLoop ih elt tgt ifs vs ⟨capture (freezeAll caps st.r) caps ++ deads tgt.length, 0⟩ with
      | some ws => some (.lst ws, ⟨freezeAll caps st.r, st.n⟩)
      | none => none
    | none => none

noncomputable def testStep (e : X) (st : St) : Option (Bool × St) := match e with
  | .and a b => match ih.t a st with
    | some (true, st) => ih.t b st
    | some (false, st) => some (false, st)
    | none => none
  | .or a b => match ih.t a st with
    | some (true, st) => some (true, st)
    | some (false, st) => ih.t b st
    | none => none
  | .notin a x => match ih.e a st with
    | some (.lst us, st) => match vInts us, contents (getR st.r x) with
      | some is, some (.lst vs) => match vLists vs with
        | some yss => match posOf is yss with
          | some _ => some (false, st)
          | none => some (true, st)
        | none => none
      | _, _ => none
    | _ => none
  | .cmp o a b => match ih.e a st with
    | some (va, st) => match ih.e b st with
      | some (vb, st) => match cmpop o va vb with
        | some v => some (v, st)
        | none => none
      | none => none
    | none => none
  | .any a => match ih.e a st with
    | some (.lst vs, st) => match vBools vs with
      | some bs => some (bs.any id, st)
      | none => none
    | _ => none
  | _ => none

noncomputable def comp1 (x : X) (st : St) : Option (Cp × St) := match x with
  | .var y => match getR st.r y with
    | .dead => none
    | _ => some (.al y, st)
  | x => match ih.e x st with
    | some (v, st) =>
      match (match freshX x, v with | true, .lst vs => (R.own st.n vs, st.n + 1) | _, v => (R.val v, st.n)) with
      | (r, n) => some (.r r, ⟨st.r, n⟩)
    | none => none

noncomputable def comps : Xs → St → Option (List Cp × St)
  | .nil, st => some ([], st)
  | .cons x xs, st => match comp1 ih x st with
    | some (c, st) => match comps xs st with
      | some (cs, st) => some (c :: cs, st)
      | none => none
    | none => none

noncomputable def resolve : List Cp → List R → Option (List R × List R)
  | [], ρ => some ([], ρ)
  | .al y :: cs, ρ => match getR ρ y with
    | .dead => none
    | .val v => match resolve cs ρ with
      | some (rs, ρ) => some (.val v :: rs, ρ)
      | none => none
    | .own id vs => match resolve cs (setR ρ y .dead) with
      | some (rs, ρ) => some (.own id vs :: rs, ρ)
      | none => none
  | .r r :: cs, ρ => match resolve cs ρ with
    | some (rs, ρ) => some (r :: rs, ρ)
    | none => none

noncomputable def putAll : List Nat → List R → List R → Option (List R)
  | [], [], ρ => some ρ
  | x :: xs, r :: rs, ρ => putAll xs rs (setR ρ x r)
  | _, _, _ => none

noncomputable def asgStep (x : Nat) (e : X) (st : St) : Option St := match e with
  | .var y => match getR st.r y with
    | .dead => none
    | .val v => some (st.put x (.val v))
    | .own id vs => some ⟨setR (setR st.r y .dead) x (.own id vs), st.n⟩
  | e => match ih.e e st with
    | some (v, st) => match freshX e, v with
      | true, .lst vs => some ⟨setR st.r x (.own st.n vs), st.n + 1⟩
      | _, v => some (st.put x (.val v))
    | none => none

noncomputable def whileLoop (c : X) (b : Ss) : Nat → St → Option (Out × St)
  | 0, _ => none
  | n + 1, st => match ih.t c st with
    | some (false, st) => some (.next, st)
    | some (true, st) => match ih.b b st with
      | some (.next, st) => whileLoop c b n st
      | some (.ret v, st) => some (.ret v, st)
      | none => none
    | none => none

noncomputable def eachLoop (tgt : List Nat) (b : Ss) : List V → St → Option (Out × St)
  | [], st => some (.next, st)
  | v :: vs, st => match bindTgt tgt v st with
    | some st => match ih.b b st with
      | some (.next, st) => eachLoop tgt b vs st
      | some (.ret v, st) => some (.ret v, st)
      | none => none
    | none => none

noncomputable def stmtStep (s : S) (st : St) : Option (Out × St) := match s with
  | .asg x e => match asgStep ih x e st with
    | some st => some (.next, st)
    | none => none
  | .asgT xs es => match comps ih es st with
    | some (cs, st) => match resolve cs st.r with
      | some (rs, ρ) => match putAll xs rs ρ with
        | some ρ => some (.next, ⟨ρ, st.n⟩)
        | none => none
      | none => none
    | none => none
  | .asgU xs e => match ih.e e st with
    | some (.tup vs, st) => match bindAll xs vs st with
      | some st => some (.next, st)
      | none => none
    | _ => none
  | .setI x i e => match ih.e e st with
    | some (v, st) => match getR st.r x with
      | .own _ _ => match ih.e i st with
        | some (.int (.ofNat k), st) => match getR st.r x with
          | .own id vs => match Nat.blt k vs.length, short vs with
            | true, true => some (.next, st.put x (.own id (setL vs k v)))
            | _, _ => none
          | _ => none
        | _ => none
      | _ => none
    | none => none
  | .app x e => match getR st.r x with
    | .own _ _ => match ih.e e st with
      | some (v, st) => match getR st.r x with
        | .own id vs => match short vs with
          | true => some (.next, st.put x (.own id (vs ++ [v])))
          | false => none
        | _ => none
      | none => none
    | _ => none
  | .aug x e => match getR st.r x with
    | .val (.int i) => match ih.e e st with
      | some (.int j, st) => some (.next, st.put x (.val (.int (i + j))))
      | _ => none
    | _ => none
  | .ite c a b => match ih.t c st with
    | some (true, st) => ih.b a st
    | some (false, st) => ih.b b st
    | none => none
  | .loop c b => whileLoop ih c b 64 st
  | .each tgt src b => match items ih src st with
    | some (vs, st) => eachLoop ih tgt b vs st
    | none => none
  | .ret e => match ih.e e st with
    | some (v, st) => some (.ret v, st)
    | none => none
  | .raise => none

noncomputable def blockStep (ss : Ss) (st : St) : Option (Out × St) := match ss with
  | .nil => some (.next, st)
  | .cons s ss => match stmtStep ih s st with
    | some (.next, st) => ih.b ss st
    | some (.ret v, st) => some (.ret v, st)
    | none => none

noncomputable def valsOf : List V → List R
  | [] => []
  | v :: vs => .val v :: valsOf vs

noncomputable def callStep (prog : Nat → Option Fn) (spec : Nat → List V → Option V) (f : Nat) (vs : List V) : Option V := match spec f vs with
  | some v => some v
  | none => match prog f with
    | some fn => match Nat.beq vs.length fn.np with
      | true => match ih.b fn.body ⟨valsOf vs ++ deads (fn.nv - fn.np), 0⟩ with
        | some (.ret v, _) => some v
        | some (.next, _) => some .none
        | none => none
      | false => none
    | none => none

noncomputable def methStep (prog : Nat → Option Fn) (f : Nat) (us vs : List V) : Option (V × List V) := match prog f with
  | some fn => match Nat.beq (vs.length + 1) fn.np with
    | true => match ih.b fn.body ⟨.own 0 us :: valsOf vs ++ deads (fn.nv - fn.np), 1⟩ with
      | some (.ret v, st) => match getR st.r 0 with
        | .own 0 us' => some (v, us')
        | _ => none
      | _ => none
    | false => none
  | none => none
end

noncomputable def ev (tab : Nat → Option V) (prog : Nat → Option Fn) (spec : Nat → List V → Option V) : Nat → Ev
  | 0 => ⟨fun _ _ => none, fun _ _ => none, fun _ _ => none, fun _ _ => none, fun _ _ _ => none⟩
  | n + 1 =>
    ⟨exprStep (ev tab prog spec n) tab, testStep (ev tab prog spec n), blockStep (ev tab prog spec n), callStep (ev tab prog spec n) prog spec, methStep (ev tab prog spec n) prog⟩

end
end Mine

/-! part Sound1 -/
namespace Mine
open PySem

/-! values, heaps -/
noncomputable def Plain (h : Heap) (a : Addr) (l : List Value) : Prop := ∃ n, h.get? a = some { cls := .type "list", data := .seq l.toArray n }
noncomputable def Tup (h : Heap) (a : Addr) (l : List Value) : Prop := ∃ o, h.get? a = some o ∧ o.cls = .type "tuple" ∧ ∃ n, o.data = .seq l.toArray n

mutual
inductive VR (M : List Addr) (h : Heap) : V → Value → Prop
  | int (i : Int) (t : Tok) : VR M h (.int i) (.int i t)
  | bool (b : Bool) : VR M h (.bool b) (.bool b)
  | none : VR M h .none .none
  | tup {vs : List V} {a : Addr} {l : List Value} : Tup h a l → a ∉ M → VRs M h vs l → VR M h (.tup vs) (.ref a)
  | lst {vs : List V} {a : Addr} {l : List Value} : Plain h a l → a ∉ M → VRs M h vs l → VR M h (.lst vs) (.ref a)
inductive VRs (M : List Addr) (h : Heap) : List V → List Value → Prop
  | nil : VRs M h [] []
  | cons {v : V} {w : Value} {vs : List V} {ws : List Value} : VR M h v w → VRs M h vs ws → VRs M h (v :: vs) (w :: ws)
end

noncomputable def Step (M : List Addr) (h : Heap) (M' : List Addr) (h' : Heap) : Prop := ∀ b o, b ∉ M → h.get? b = some o → h'.get? b = some o ∧ b ∉ M'

mutual
theorem VR.step {M M' : List Addr} {h h' : Heap} (H : Step M h M' h') : ∀ {v : V} {w : Value}, VR M h v w → VR M' h' v w
  | _, _, .int i t => .int i t
  | _, _, .bool b => .bool b
  | _, _, .none => .none
  | _, _, .tup ⟨o, e, r⟩ hn hs => .tup ⟨o, (H _ _ hn e).1, r⟩ (H _ _ hn e).2 (VRs.step H hs)
  | _, _, .lst ⟨n, e⟩ hn hs => .lst ⟨n, (H _ _ hn e).1⟩ (H _ _ hn e).2 (VRs.step H hs)
theorem VRs.step {M M' : List Addr} {h h' : Heap} (H : Step M h M' h') : ∀ {vs : List V} {ws : List Value}, VRs M h vs ws → VRs M' h' vs ws
  | _, _, .nil => .nil
  | _, _, .cons x xs => .cons (VR.step H x) (VRs.step H xs)
end

theorem VRs.length {M : List Addr} {h : Heap} : ∀ {vs : List V} {ws : List Value}, VRs M h vs ws → ws.length = vs.length
  | _, _, .nil => rfl
  | _, _, .cons _ xs => by simp [VRs.length xs]
theorem VRs.append {M : List Addr} {h : Heap} : ∀ {vs us : List V} {ws xs : List Value}, VRs M h vs ws → VRs M h us xs → VRs M h (vs ++ us) (ws ++ xs)
  | _, _, _, _, .nil, y => y
  | _, _, _, _, .cons a as, y => .cons a (VRs.append as y)
theorem VRs.get {M : List Addr} {h : Heap} : ∀ {vs : List V} {ws : List Value}, VRs M h vs ws → ∀ {k : Nat} {v : V}, getL vs k = some v → ∃ w, ws[k]? = some w ∧ VR M h v w
  | _, _, .cons a _, 0, _, e => by cases e; exact ⟨_, rfl, a⟩
  | _, _, .cons _ as, k + 1, _, e => by
    obtain ⟨w, e', r⟩ := VRs.get as (k := k) e
    exact ⟨w, by simpa using e', r⟩
theorem VRs.set {M : List Addr} {h : Heap} : ∀ {vs : List V} {ws : List Value}, VRs M h vs ws → ∀ (k : Nat) {v : V} {w : Value}, VR M h v w → VRs M h (setL vs k v) (ws.set k w)
  | _, _, .nil, _, _, _, _ => .nil
  | _, _, .cons _ as, 0, _, _, r => .cons r as
  | _, _, .cons a as, k + 1, _, _, r => .cons a (VRs.set as k r)
theorem VRs.take {M : List Addr} {h : Heap} : ∀ {vs : List V} {ws : List Value}, VRs M h vs ws → ∀ k : Nat, VRs M h (takeN k vs) (ws.take k)
  | _, _, .nil, 0 => .nil
  | _, _, .nil, _ + 1 => .nil
  | _, _, .cons _ _, 0 => .nil
  | _, _, .cons a as, k + 1 => .cons a (VRs.take as k)

/-! scopes, states -/
structure Sc where
  env : Env
  ns : List Str
  cs : List (Option Addr)
noncomputable def cellsL : List (Option Addr) → List Addr
  | [] => []
  | some c :: l => c :: cellsL l
  | none :: l => cellsL l
noncomputable def Sc.cells (F : Sc) : List Addr := cellsL F.cs

structure FOk (F : Sc) : Prop where
  kind : F.env.scope.kind = .function
  lenc : F.cs.length = F.ns.length
  nd : F.ns.Nodup
  ndc : F.cells.Nodup
  loc : ∀ x nm, getL F.ns x = some nm → getL F.cs x = some none → F.env.kindOf nm = some .local
  cel : ∀ x nm c, getL F.ns x = some nm → getL F.cs x = some (some c) → F.env.kindOf nm = some .cell ∧ F.env.cells.lookup nm = some c
  glob : F.env.globals = mainGlobals
  blt : F.env.builtins = builtinsNs
  dbg : ∀ x nm, getL F.ns x = some nm → (nm == ("__debug__" : Str)) = false

noncomputable def ownA (μ : Nat → Addr) : List R → List Addr
  | [] => []
  | .own id _ :: l => μ id :: ownA μ l
  | .dead :: l => ownA μ l
  | .val _ :: l => ownA μ l

noncomputable def Mx (T : List Addr) (F : Sc) (μ : Nat → Addr) (r : List R) : List Addr := F.env.locals :: (F.cells ++ (T ++ ownA μ r))

theorem mem_Mx {T : List Addr} {F : Sc} {μ : Nat → Addr} {r : List R} {a : Addr} : a ∈ Mx T F μ r ↔ a = F.env.locals ∨ a ∈ F.cells ∨ a ∈ T ∨ a ∈ ownA μ r := by
  simp [Mx]

inductive RV (M : List Addr) (μ : Nat → Addr) (h : Heap) : R → Option Value → Prop
  | dead {o : Option Value} : RV M μ h .dead o
  | val {v : V} {w : Value} : VR M h v w → RV M μ h (.val v) (some w)
  | own {id : Nat} {vs : List V} {l : List Value} : Plain h (μ id) l → VRs M h vs l → RV M μ h (.own id vs) (some (.ref (μ id)))

noncomputable def slot (h : Heap) (m : Str → Option Value) (nm : Str) : Option Addr → Option Value
  | none => m nm
  | some c => match h.get? c with
    | some o => match o.data with
      | .cell w => w
      | _ => none
    | none => none

structure SR (h₀ : Heap) (T : List Addr) (μ : Nat → Addr) (F : Sc) (st : St) (h : Heap) (m : Str → Option Value) : Prop where
  ns : h.Ns F.env.locals m
  cel : ∀ c ∈ F.cells, ∃ w, h.IsCell c w
  var : ∀ x nm c, getL F.ns x = some nm → getL F.cs x = some c → RV (Mx T F μ st.r) μ h (getR st.r x) (slot h m nm c)
  nd : (ownA μ st.r).Nodup
  disj : ∀ a ∈ ownA μ st.r, a ≠ F.env.locals ∧ a ∉ F.cells ∧ a ∉ T
  LT : F.env.locals ∉ T
  ids : ∀ x id vs, getR st.r x = .own id vs → id < st.n
  ex : ∀ a ∈ T, ∃ o, h.get? a = some o
  base : ∀ b o, h₀.get? b = some o → h.get? b = some o
  fr : ∀ a ∈ Mx T F μ st.r, h₀.get? a = none
  len : st.r.length = F.ns.length

/-! lists of slots -/
theorem getR_setR_same : ∀ {r : List R} {x : Nat} {q : R}, x < r.length → getR (setR r x q) x = q
  | [], _, _, h => absurd h (Nat.not_lt_zero _)
  | _ :: _, 0, _, _ => rfl
  | _ :: l, x + 1, _, h => getR_setR_same (r := l) (x := x) (Nat.lt_of_succ_lt_succ h)
theorem getR_setR_other : ∀ {r : List R} {x y : Nat} {q : R}, x ≠ y → getR (setR r x q) y = getR r y
  | [], _, _, _, _ => rfl
  | _ :: _, 0, 0, _, h => absurd rfl h
  | _ :: _, 0, _ + 1, _, _ => rfl
  | _ :: _, _ + 1, 0, _, _ => rfl
  | _ :: l, x + 1, y + 1, _, h => getR_setR_other (r := l) fun e => h (by rw [e])
theorem length_setR : ∀ {r : List R} {x : Nat} {q : R}, (setR r x q).length = r.length
  | [], _, _ => rfl
  | _ :: _, 0, _ => rfl
  | _ :: l, x + 1, _ => by show (setR l x _).length + 1 = _; rw [length_setR]; rfl
theorem getR_lt : ∀ {r : List R} {x : Nat}, getR r x ≠ .dead → x < r.length
  | [], _, h => absurd rfl h
  | _ :: _, 0, _ => Nat.succ_pos _
  | _ :: l, x + 1, h => Nat.succ_lt_succ (getR_lt (r := l) h)
theorem getL_lt {α : Type} : ∀ {l : List α} {x : Nat} {v : α}, getL l x = some v → x < l.length
  | _ :: _, 0, _, _ => Nat.succ_pos _
  | _ :: l, _ + 1, _, h => Nat.succ_lt_succ (getL_lt (l := l) h)
theorem getL_mem {α : Type} : ∀ {l : List α} {x : Nat} {v : α}, getL l x = some v → v ∈ l
  | _ :: _, 0, _, h => by cases h; exact .head _
  | _ :: l, _ + 1, _, h => .tail _ (getL_mem (l := l) h)
theorem getL_some {α : Type} : ∀ {l : List α} {x : Nat}, x < l.length → ∃ v, getL l x = some v
  | [], _, h => absurd h (Nat.not_lt_zero _)
  | v :: _, 0, _ => ⟨v, rfl⟩
  | _ :: l, x + 1, h => getL_some (l := l) (x := x) (Nat.lt_of_succ_lt_succ h)
theorem getL_inj {α : Type} : ∀ {l : List α} {x y : Nat} {v : α}, l.Nodup → getL l x = some v → getL l y = some v → x = y
  | _ :: _, 0, 0, _, _, _, _ => rfl
  | a :: l, 0, y + 1, v, hn, h1, h2 => by
    cases h1
    exact absurd (getL_mem (l := l) h2) (List.nodup_cons.mp hn).1
  | a :: l, x + 1, 0, v, hn, h1, h2 => by
    cases h2
    exact absurd (getL_mem (l := l) h1) (List.nodup_cons.mp hn).1
  | a :: l, x + 1, y + 1, v, hn, h1, h2 => by
    have := getL_inj (l := l) (x := x) (y := y) (List.nodup_cons.mp hn).2 h1 h2
    rw [this]
theorem cellsL_mem : ∀ {l : List (Option Addr)} {x : Nat} {c : Addr}, getL l x = some (some c) → c ∈ cellsL l
  | some _ :: _, 0, _, h => by cases h; exact .head _
  | none :: l, _ + 1, _, h => cellsL_mem (l := l) h
  | some _ :: l, _ + 1, _, h => .tail _ (cellsL_mem (l := l) h)
theorem cellsL_inj : ∀ {l : List (Option Addr)} {x y : Nat} {c : Addr}, (cellsL l).Nodup → getL l x = some (some c) → getL l y = some (some c) → x = y
  | some a :: l, 0, 0, _, _, _, _ => rfl
  | some a :: l, 0, y + 1, c, hn, h1, h2 => by
    cases h1
    exact absurd (cellsL_mem (l := l) h2) (List.nodup_cons.mp hn).1
  | some a :: l, x + 1, 0, c, hn, h1, h2 => by
    cases h2
    exact absurd (cellsL_mem (l := l) h1) (List.nodup_cons.mp hn).1
  | some a :: l, x + 1, y + 1, c, hn, h1, h2 => by
    have := cellsL_inj (l := l) (x := x) (y := y) (List.nodup_cons.mp hn).2 h1 h2
    rw [this]
  | none :: l, x + 1, y + 1, c, hn, h1, h2 => by
    have := cellsL_inj (l := l) (x := x) (y := y) hn h1 h2
    rw [this]
  | none :: l, 0, _, _, _, h, _ => by cases h
  | none :: l, _ + 1, 0, _, _, _, h => by cases h

theorem own_get {μ : Nat → Addr} : ∀ {r : List R} {x id : Nat} {vs : List V}, getR r x = .own id vs → μ id ∈ ownA μ r
  | [], _, _, _, h => by cases h
  | a :: l, 0, _, _, h => by
    have h : a = _ := h
    subst h
    exact .head _
  | a :: l, x + 1, _, _, h => by
    have := own_get (μ := μ) (r := l) h
    cases a with
    | dead => exact this
    | val _ => exact this
    | own _ _ => exact .tail _ this
theorem own_mem {μ : Nat → Addr} : ∀ {r : List R} {a : Addr}, a ∈ ownA μ r → ∃ x id vs, getR r x = .own id vs ∧ a = μ id
  | .dead :: l, a, h => by
    obtain ⟨x, id, vs, e, e'⟩ := own_mem (r := l) h
    exact ⟨x + 1, id, vs, e, e'⟩
  | .val _ :: l, a, h => by
    obtain ⟨x, id, vs, e, e'⟩ := own_mem (r := l) h
    exact ⟨x + 1, id, vs, e, e'⟩
  | .own i vs :: l, a, h => by
    rcases List.mem_cons.mp h with h | h
    · exact ⟨0, i, vs, rfl, h⟩
    · obtain ⟨x, id, vs, e, e'⟩ := own_mem (r := l) h
      exact ⟨x + 1, id, vs, e, e'⟩
noncomputable def isOwn : R → Bool
  | .own _ _ => true
  | _ => false
theorem own_cons_no {μ : Nat → Addr} {q : R} {l : List R} (h : isOwn q = false) : ownA μ (q :: l) = ownA μ l := by
  cases q with
  | dead => rfl
  | val _ => rfl
  | own _ _ => cases h
theorem own_set_sub {μ : Nat → Addr} {q : R} (hq : isOwn q = false) : ∀ {r : List R} {x : Nat}, (ownA μ (setR r x q)).Sublist (ownA μ r)
  | [], _ => .slnil
  | a :: l, 0 => by
    show (ownA μ (q :: l)).Sublist _
    rw [own_cons_no hq]
    cases a with
    | dead => exact .refl _
    | val _ => exact .refl _
    | own _ _ => exact .cons _ (.refl _)
  | a :: l, x + 1 => by
    show (ownA μ (a :: setR l x q)).Sublist _
    have := own_set_sub (μ := μ) hq (r := l) (x := x)
    cases a with
    | dead => exact this
    | val _ => exact this
    | own _ _ => exact .cons_cons _ this
theorem own_take {μ : Nat → Addr} {q : R} (hq : isOwn q = false) : ∀ {r : List R} {x id : Nat} {vs : List V}, (ownA μ r).Nodup → getR r x = .own id vs → μ id ∉ ownA μ (setR r x q)
  | [], _, _, _, _, h => by cases h
  | a :: l, 0, id, vs, hn, h => by
    have h : a = _ := h
    subst h
    show μ id ∉ ownA μ (q :: l)
    rw [own_cons_no hq]
    exact (List.nodup_cons.mp hn).1
  | a :: l, x + 1, id, vs, hn, h => by
    have h : getR l x = _ := h
    show μ id ∉ ownA μ (a :: setR l x q)
    cases a with
    | dead => exact own_take hq (r := l) hn h
    | val _ => exact own_take hq (r := l) hn h
    | own i us =>
      have hn' := List.nodup_cons.mp hn
      intro hm
      rcases List.mem_cons.mp hm with e | hm
      · exact hn'.1 (e ▸ own_get h)
      · exact own_take hq (r := l) hn'.2 h hm
theorem own_set_mem {μ : Nat → Addr} {id : Nat} {vs : List V} : ∀ {r : List R} {x : Nat} {a : Addr}, a ∈ ownA μ (setR r x (.own id vs)) → a = μ id ∨ a ∈ ownA μ r
  | [], _, _, h => by cases h
  | b :: l, 0, a, h0 => by
    have h1 : a ∈ μ id :: ownA μ l := h0
    clear h0
    rcases List.mem_cons.mp h1 with h | h
    · exact .inl h
    · right
      cases b with
      | dead => exact h
      | val _ => exact h
      | own _ _ => exact .tail _ h
  | b :: l, x + 1, a, h => by
    have ih := @own_set_mem μ id vs l x a
    cases b with
    | dead => exact ih h
    | val _ => exact ih h
    | own i _ =>
      have h1 : a ∈ μ i :: ownA μ (setR l x (.own id vs)) := h
      clear h
      rcases List.mem_cons.mp h1 with h | h
      · exact .inr (h ▸ .head _)
      · exact (ih h).imp (fun e => e) fun e => .tail _ e
theorem own_set_nodup {μ : Nat → Addr} {id : Nat} {vs : List V} : ∀ {r : List R} {x : Nat}, (ownA μ r).Nodup → μ id ∉ ownA μ r → (ownA μ (setR r x (.own id vs))).Nodup
  | [], _, hn, _ => hn
  | b :: l, 0, hn, h => by
    show (μ id :: ownA μ l).Nodup
    cases b with
    | dead => exact List.nodup_cons.mpr ⟨h, hn⟩
    | val _ => exact List.nodup_cons.mpr ⟨h, hn⟩
    | own _ _ => exact List.nodup_cons.mpr ⟨fun e => h (.tail _ e), (List.nodup_cons.mp hn).2⟩
  | b :: l, x + 1, hn, h => by
    cases b with
    | dead => exact own_set_nodup (r := l) hn h
    | val _ => exact own_set_nodup (r := l) hn h
    | own i us =>
      show (μ i :: ownA μ (setR l x (.own id vs))).Nodup
      refine List.nodup_cons.mpr ⟨fun e => ?_, own_set_nodup (r := l) (List.nodup_cons.mp hn).2 fun e => h (.tail _ e)⟩
      rcases own_set_mem e with e | e
      · exact h (e ▸ .head _)
      · exact (List.nodup_cons.mp hn).1 e
theorem own_set_same {μ : Nat → Addr} {id : Nat} {vs us : List V} : ∀ {r : List R} {x : Nat}, getR r x = .own id us → ownA μ (setR r x (.own id vs)) = ownA μ r
  | [], _, h => by cases h
  | b :: l, 0, h => by
    have h : b = _ := h
    subst h
    rfl
  | b :: l, x + 1, h => by
    have ih := own_set_same (μ := μ) (vs := vs) (r := l) (x := x) h
    cases b with
    | dead => exact ih
    | val _ => exact ih
    | own i _ => show μ i :: _ = _ ; rw [ih]; rfl
theorem own_agree {μ μ' : Nat → Addr} : ∀ {r : List R}, (∀ x id vs, getR r x = .own id vs → μ' id = μ id) → ownA μ' r = ownA μ r
  | [], _ => rfl
  | .dead :: l, h => own_agree (r := l) fun x id vs e => h (x + 1) id vs e
  | .val _ :: l, h => own_agree (r := l) fun x id vs e => h (x + 1) id vs e
  | .own i us :: l, h => by
    show μ' i :: ownA μ' l = _
    rw [own_agree (r := l) fun x id vs e => h (x + 1) id vs e, h 0 i us rfl]
    rfl
end Mine

/-! part Sound2 -/
namespace Mine
open PySem

theorem Ns_uniq {h : Heap} {a : Addr} {m m' : Str → Option Value} (x : h.Ns a m) (y : h.Ns a m') : m = m' := by
  obtain ⟨o, es, ep, ho, hd, _, hf⟩ := x
  obtain ⟨o', es', ep', ho', hd', _, hf'⟩ := y
  rw [ho] at ho'; cases ho'
  rw [hd] at hd'; cases hd'
  funext n
  rw [← hf, ← hf']

theorem RV.step {M M' : List Addr} {μ : Nat → Addr} {h h' : Heap} {r : R} {o : Option Value} (x : RV M μ h r o) (H : Step M h M' h')
    (hk : ∀ id vs, r = .own id vs → ∀ ob, h.get? (μ id) = some ob → h'.get? (μ id) = some ob) : RV M' μ h' r o := by
  cases x with
  | dead => exact .dead
  | val v => exact .val (v.step H)
  | own p vs => obtain ⟨n, e⟩ := p; exact .own ⟨n, hk _ _ rfl _ e⟩ (vs.step H)

theorem slot_eq {h h' : Heap} {m : Str → Option Value} {nm : Str} {c : Option Addr} (hk : ∀ a, c = some a → h'.get? a = h.get? a) : slot h' m nm c = slot h m nm c := by
  cases c with
  | none => rfl
  | some a => have := hk a rfl; simp only [slot, this]
theorem slot_cell {h : Heap} {m : Str → Option Value} {nm : Str} {a : Addr} {w : Option Value} (x : h.IsCell a w) : slot h m nm (some a) = w := by
  obtain ⟨o, ho, hd⟩ := x
  unfold slot
  simp only [ho, hd]

section
variable {h₀ h h' : Heap} {T T' : List Addr} {μ μ' : Nat → Addr} {F : Sc} {st : St} {m m' : Str → Option Value} {a : Addr}

theorem SR.lenr (x : SR h₀ T μ F st h m) (hF : FOk F) {y : Nat} (hy : getR st.r y ≠ .dead) : ∃ nm c, getL F.ns y = some nm ∧ getL F.cs y = some c := by
  have := getR_lt hy
  rw [x.len] at this
  obtain ⟨nm, e⟩ := getL_some this
  rw [← hF.lenc] at this
  obtain ⟨c, e'⟩ := getL_some this
  exact ⟨nm, c, e, e'⟩
theorem SR.own_ex (x : SR h₀ T μ F st h m) (hF : FOk F) {a : Addr} (ha : a ∈ ownA μ st.r) : ∃ l, Plain h a l := by
  obtain ⟨y, id, vs, e, rfl⟩ := own_mem ha
  obtain ⟨nm, c, e1, e2⟩ := x.lenr hF (y := y) (by rw [e]; exact fun z => nomatch z)
  have := x.var y nm c e1 e2
  rw [e] at this
  generalize slot h m nm c = ow at this
  cases this with
  | own p _ => exact ⟨_, p⟩
theorem SR.cell_ex (x : SR h₀ T μ F st h m) {c : Addr} (hc : c ∈ F.cells) : ∃ o w, h.get? c = some o ∧ o.data = .cell w := by
  obtain ⟨w, o, ho, hd⟩ := x.cel c hc
  exact ⟨o, w, ho, hd⟩
theorem SR.M_ex (x : SR h₀ T μ F st h m) (hF : FOk F) {a : Addr} (ha : a ∈ Mx T F μ st.r) : ∃ o, h.get? a = some o := by
  rcases mem_Mx.mp ha with rfl | ha | ha | ha
  · obtain ⟨o, _, _, e, _⟩ := x.ns; exact ⟨o, e⟩
  · obtain ⟨o, _, e, _⟩ := x.cell_ex ha; exact ⟨o, e⟩
  · exact x.ex a ha
  · obtain ⟨l, n, e⟩ := x.own_ex hF ha; exact ⟨_, e⟩
theorem SR.L_cell (x : SR h₀ T μ F st h m) : F.env.locals ∉ F.cells := fun hc => by
  obtain ⟨o, _, _, e, hd, _⟩ := x.ns
  obtain ⟨o', w, e', hd'⟩ := x.cell_ex hc
  rw [e] at e'; cases e'
  rw [hd] at hd'; cases hd'

/-- only more objects -/
theorem SR.grow (x : SR h₀ T μ F st h m) (hk : ∀ b o, h.get? b = some o → h'.get? b = some o) : SR h₀ T μ F st h' m where
  ns := x.ns.keeps hk
  cel := fun c hc => by
    obtain ⟨w, o, ho, hd⟩ := x.cel c hc
    exact ⟨w, o, hk _ _ ho, hd⟩
  var := fun y nm c e1 e2 => by
    have q := x.var y nm c e1 e2
    have hs : slot h' m nm c = slot h m nm c := by
      refine slot_eq fun a ea => ?_
      subst ea
      obtain ⟨o, w, ho, _⟩ := x.cell_ex (cellsL_mem e2)
      rw [ho, hk _ _ ho]
    rw [hs]
    exact q.step (fun b o hb e => ⟨hk _ _ e, hb⟩) fun _ _ _ _ e => hk _ _ e
  nd := x.nd
  disj := x.disj
  LT := x.LT
  ids := x.ids
  ex := fun a ha => let ⟨o, e⟩ := x.ex a ha; ⟨o, hk _ _ e⟩
  base := fun b o e => hk _ _ (x.base b o e)
  fr := x.fr
  len := x.len

/-- a new object, shielded -/
theorem SR.new (x : SR h₀ T μ F st h m) (hF : FOk F) (hk : ∀ b o, h.get? b = some o → h'.get? b = some o) (ha : h.get? a = none) (ha' : ∃ o, h'.get? a = some o) : SR h₀ (a :: T) μ F st h' m := by
  have ne : ∀ b o, h.get? b = some o → b ≠ a := fun b o e q => by rw [q, ha] at e; cases e
  have x' := x.grow hk
  refine { x' with var := ?_, disj := ?_, LT := ?_, ex := ?_, fr := ?_ }
  · intro y nm c e1 e2
    have q := x.var y nm c e1 e2
    have hs : slot h' m nm c = slot h m nm c := by
      refine slot_eq fun a ea => ?_
      subst ea
      obtain ⟨o, w, ho, _⟩ := x.cell_ex (cellsL_mem e2)
      rw [ho, hk _ _ ho]
    rw [hs]
    refine q.step (fun b o hb e => ⟨hk _ _ e, fun hm => ?_⟩) fun _ _ _ _ e => hk _ _ e
    rcases mem_Mx.mp hm with h1 | h1 | h1 | h1
    · exact hb (mem_Mx.mpr (.inl h1))
    · exact hb (mem_Mx.mpr (.inr (.inl h1)))
    · rcases List.mem_cons.mp h1 with h1 | h1
      · exact ne _ _ e h1
      · exact hb (mem_Mx.mpr (.inr (.inr (.inl h1))))
    · exact hb (mem_Mx.mpr (.inr (.inr (.inr h1))))
  · intro b hb
    obtain ⟨h1, h2, h3⟩ := x.disj b hb
    refine ⟨h1, h2, fun hm => ?_⟩
    rcases List.mem_cons.mp hm with q | q
    · obtain ⟨l, n, e⟩ := x.own_ex hF hb
      exact ne _ _ e q
    · exact h3 q
  · intro hm
    rcases List.mem_cons.mp hm with q | q
    · obtain ⟨o, _, _, e, _⟩ := x.ns
      exact ne _ _ e q
    · exact x.LT q
  · intro b hb
    rcases List.mem_cons.mp hb with rfl | hb
    · exact ha'
    · exact x'.ex b hb
  · intro b hb
    rcases mem_Mx.mp hb with h1 | h1 | h1 | h1
    · exact x.fr b (mem_Mx.mpr (.inl h1))
    · exact x.fr b (mem_Mx.mpr (.inr (.inl h1)))
    · rcases List.mem_cons.mp h1 with h1 | h1
      · subst h1
        cases q : h₀.get? b with
        | none => rfl
        | some o => rw [x.base _ _ q] at ha; cases ha
      · exact x.fr b (mem_Mx.mpr (.inr (.inr (.inl h1))))
    · exact x.fr b (mem_Mx.mpr (.inr (.inr (.inr h1))))

/-- a shielded object turns -/
theorem SR.mod (x : SR h₀ T μ F st h m) (hk : ∀ b o, b ≠ a → h.get? b = some o → h'.get? b = some o) (haT : a ∈ T) (hac : a ∉ F.cells) (ha' : ∃ o, h'.get? a = some o) : SR h₀ T μ F st h' m where
  ns := x.ns.at' fun o e => hk _ _ (fun q => x.LT (q ▸ haT)) e
  cel := fun c hc => by
    obtain ⟨w, o, ho, hd⟩ := x.cel c hc
    exact ⟨w, o, hk _ _ (fun q => hac (q ▸ hc)) ho, hd⟩
  var := fun y nm c e1 e2 => by
    have q := x.var y nm c e1 e2
    have hs : slot h' m nm c = slot h m nm c := by
      refine slot_eq fun b ea => ?_
      subst ea
      have hc := cellsL_mem e2
      obtain ⟨o, w, ho, _⟩ := x.cell_ex hc
      rw [ho, hk _ _ (fun q => hac (q ▸ hc)) ho]
    rw [hs]
    refine q.step (fun b o hb e => ⟨hk _ _ (fun q => hb (mem_Mx.mpr (.inr (.inr (.inl (q ▸ haT)))))) e, hb⟩) fun id vs er ob e => hk _ _ (fun q => ?_) e
    exact (x.disj _ (own_get (μ := μ) er)).2.2 (q ▸ haT)
  nd := x.nd
  disj := x.disj
  LT := x.LT
  ids := x.ids
  ex := fun b hb => by
    by_cases q : b = a
    · subst q; exact ha'
    · obtain ⟨o, e⟩ := x.ex b hb; exact ⟨o, hk _ _ q e⟩
  base := fun b o e => hk _ _ (fun q => by
    have := x.fr b (mem_Mx.mpr (.inr (.inr (.inl (q ▸ haT)))))
    rw [e] at this; cases this) (x.base b o e)
  fr := x.fr
  len := x.len

theorem Mx_sub (hs : ∀ b ∈ T', b ∈ T) {r : List R} {b : Addr} (hb : b ∈ Mx T' F μ r) : b ∈ Mx T F μ r :=
  mem_Mx.mpr ((mem_Mx.mp hb).imp id (Or.imp id (Or.imp (hs b) id)))
/-- a smaller shield -/
theorem SR.less (x : SR h₀ T μ F st h m) (hs : ∀ b ∈ T', b ∈ T) : SR h₀ T' μ F st h m where
  ns := x.ns
  cel := x.cel
  var := fun y nm c e1 e2 => (x.var y nm c e1 e2).step (fun _ _ hb e => ⟨e, fun hm => hb (Mx_sub hs hm)⟩) fun _ _ _ _ e => e
  nd := x.nd
  disj := fun b hb => ⟨(x.disj b hb).1, (x.disj b hb).2.1, fun hm => (x.disj b hb).2.2 (hs b hm)⟩
  LT := fun hm => x.LT (hs _ hm)
  ids := x.ids
  ex := fun b hb => x.ex b (hs b hb)
  base := x.base
  fr := fun b hb => x.fr b (Mx_sub hs hb)
  len := x.len

theorem own_no_sub {q : R} (hq : isOwn q = false) {r : List R} {x : Nat} {b : Addr} (hb : b ∈ ownA μ (setR r x q)) : b ∈ ownA μ r := (own_set_sub hq).mem hb
theorem Mx_set {q : R} (hq : isOwn q = false) {r : List R} {x : Nat} {b : Addr} (hb : b ∈ Mx T F μ (setR r x q)) : b ∈ Mx T F μ r :=
  mem_Mx.mpr ((mem_Mx.mp hb).imp id (Or.imp id (Or.imp id (own_no_sub hq))))

theorem getR_set {r : List R} {x y : Nat} {q : R} (hx : x < r.length) : getR (setR r x q) y = if y = x then q else getR r y := by
  by_cases h : y = x
  · subst h; rw [if_pos rfl, getR_setR_same hx]
  · rw [if_neg h, getR_setR_other (Ne.symm h)]

/-- an owned list becomes a value -/
theorem SR.freeze (x : SR h₀ T μ F st h m) (hF : FOk F) {y id : Nat} {vs : List V} (e : getR st.r y = .own id vs) :
    SR h₀ T μ F (st.put y (.val (.lst vs))) h m ∧ VR (Mx T F μ (setR st.r y (.val (.lst vs)))) h (.lst vs) (.ref (μ id)) := by
  have hy : y < st.r.length := getR_lt (by rw [e]; exact fun z => nomatch z)
  have hsub : ∀ b, b ∈ Mx T F μ (setR st.r y (.val (.lst vs))) → b ∈ Mx T F μ st.r := fun b hb => Mx_set (q := .val (.lst vs)) rfl hb
  obtain ⟨nm, c, e1, e2⟩ := x.lenr hF (y := y) (by rw [e]; exact fun z => nomatch z)
  have hv := x.var y nm c e1 e2
  rw [e] at hv
  have hnot : μ id ∉ Mx T F μ (setR st.r y (.val (.lst vs))) := fun hm => by
    have hd := x.disj _ (own_get (μ := μ) e)
    rcases mem_Mx.mp hm with h1 | h1 | h1 | h1
    · exact hd.1 h1
    · exact hd.2.1 h1
    · exact hd.2.2 h1
    · exact own_take (q := .val (.lst vs)) rfl x.nd e h1
  have hval : VR (Mx T F μ (setR st.r y (.val (.lst vs)))) h (.lst vs) (.ref (μ id)) ∧ slot h m nm c = some (.ref (μ id)) := by
    generalize slot h m nm c = ow at hv
    cases hv with
    | own p q => exact ⟨.lst p hnot (q.step fun b o hb eo => ⟨eo, fun hm => hb (hsub b hm)⟩), rfl⟩
  refine ⟨?_, hval.1⟩
  refine { ns := x.ns, cel := x.cel, var := ?_, nd := x.nd.sublist (own_set_sub rfl), disj := fun b hb => x.disj b (own_no_sub rfl hb), LT := x.LT, ids := ?_, ex := x.ex, base := x.base, fr := fun b hb => x.fr b (hsub b hb), len := by show (setR _ _ _).length = _; rw [length_setR]; exact x.len }
  · intro z nm' c' f1 f2
    show RV (Mx T F μ (setR st.r y (.val (.lst vs)))) μ h (getR (setR st.r y (.val (.lst vs))) z) _
    rw [getR_set hy]
    by_cases hz : z = y
    · subst hz
      rw [e1] at f1; cases f1
      rw [e2] at f2; cases f2
      rw [if_pos rfl, hval.2]
      exact .val hval.1
    · rw [if_neg hz]
      exact (x.var z nm' c' f1 f2).step (fun b o hb eo => ⟨eo, fun hm => hb (hsub b hm)⟩) fun _ _ _ _ eo => eo
  · intro z i us ez
    have ez : getR (setR st.r y (.val (.lst vs))) z = _ := ez
    rw [getR_set hy] at ez
    by_cases hz : z = y
    · rw [if_pos hz] at ez; cases ez
    · rw [if_neg hz] at ez; exact x.ids z i us ez

/-- an owned list leaves its variable -/
theorem SR.take (x : SR h₀ T μ F st h m) (hF : FOk F) {y id : Nat} {vs : List V} (e : getR st.r y = .own id vs) :
    SR h₀ (μ id :: T) μ F (st.put y .dead) h m ∧ ∃ l, Plain h (μ id) l ∧ VRs (Mx (μ id :: T) F μ (setR st.r y .dead)) h vs l := by
  have hy : y < st.r.length := getR_lt (by rw [e]; exact fun z => nomatch z)
  have hown := own_get (μ := μ) e
  have hsub : ∀ b, b ∈ Mx (μ id :: T) F μ (setR st.r y .dead) → b ∈ Mx T F μ st.r := fun b hb => by
    rcases mem_Mx.mp hb with h1 | h1 | h1 | h1
    · exact mem_Mx.mpr (.inl h1)
    · exact mem_Mx.mpr (.inr (.inl h1))
    · rcases List.mem_cons.mp h1 with h1 | h1
      · exact mem_Mx.mpr (.inr (.inr (.inr (h1 ▸ hown))))
      · exact mem_Mx.mpr (.inr (.inr (.inl h1)))
    · exact mem_Mx.mpr (.inr (.inr (.inr (own_no_sub (q := .dead) rfl h1))))
  obtain ⟨nm, c, e1, e2⟩ := x.lenr hF (y := y) (by rw [e]; exact fun z => nomatch z)
  have hv := x.var y nm c e1 e2
  rw [e] at hv
  have hval : ∃ l, Plain h (μ id) l ∧ VRs (Mx (μ id :: T) F μ (setR st.r y .dead)) h vs l := by
    generalize slot h m nm c = ow at hv
    cases hv with
    | own p q => exact ⟨_, p, q.step fun b o hb eo => ⟨eo, fun hm => hb (hsub b hm)⟩⟩
  have hd := x.disj _ hown
  refine ⟨{ ns := x.ns, cel := x.cel, var := ?_, nd := x.nd.sublist (own_set_sub rfl), disj := ?_, LT := ?_, ids := ?_, ex := ?_, base := x.base, fr := fun b hb => x.fr b (hsub b hb), len := by show (setR _ _ _).length = _; rw [length_setR]; exact x.len }, hval⟩
  · intro z nm' c' f1 f2
    show RV (Mx (μ id :: T) F μ (setR st.r y .dead)) μ h (getR (setR st.r y .dead) z) _
    rw [getR_set hy]
    by_cases hz : z = y
    · rw [if_pos hz]; exact .dead
    · rw [if_neg hz]
      exact (x.var z nm' c' f1 f2).step (fun b o hb eo => ⟨eo, fun hm => hb (hsub b hm)⟩) fun _ _ _ _ eo => eo
  · intro b hb
    have hb : b ∈ ownA μ (setR st.r y .dead) := hb
    obtain ⟨h1, h2, h3⟩ := x.disj b (own_no_sub rfl hb)
    refine ⟨h1, h2, fun hm => ?_⟩
    rcases List.mem_cons.mp hm with q | q
    · subst q; exact own_take (q := .dead) rfl x.nd e hb
    · exact h3 q
  · intro hm
    rcases List.mem_cons.mp hm with q | q
    · exact hd.1 q.symm
    · exact x.LT q
  · intro z i us ez
    have ez : getR (setR st.r y .dead) z = _ := ez
    rw [getR_set hy] at ez
    by_cases hz : z = y
    · rw [if_pos hz] at ez; cases ez
    · rw [if_neg hz] at ez; exact x.ids z i us ez
  · intro b hb
    rcases List.mem_cons.mp hb with rfl | hb
    · obtain ⟨l, ⟨n, q⟩, _⟩ := hval; exact ⟨_, q⟩
    · exact x.ex b hb

/-- what a store does -/
structure Put (F : Sc) (h h' : Heap) (m m' : Str → Option Value) (x : Nat) (w : Value) (ch : Addr) : Prop where
  kept : ∀ b o, b ≠ ch → h.get? b = some o → h'.get? b = some o
  at' : ch = F.env.locals ∨ ∃ c, ch = c ∧ getL F.cs x = some (some c)
  ns : h'.Ns F.env.locals m'
  cel : ∀ c ∈ F.cells, ∃ w, h'.IsCell c w
  here : ∀ nm c, getL F.ns x = some nm → getL F.cs x = some c → slot h' m' nm c = some w
  other : ∀ y nm c, y ≠ x → getL F.ns y = some nm → getL F.cs y = some c → slot h' m' nm c = slot h m nm c

theorem Put.M (p : Put F h h' m m' x w a) {r : List R} : a ∈ Mx T F μ r := by
  rcases p.at' with rfl | ⟨c, rfl, e⟩
  · exact mem_Mx.mpr (.inl rfl)
  · exact mem_Mx.mpr (.inr (.inl (cellsL_mem e)))
theorem Put.noT (p : Put F h h' m m' x w a) (X : SR h₀ T μ F st h m) (hT : ∀ c, getL F.cs x = some (some c) → c ∉ T) : a ∉ T := by
  rcases p.at' with rfl | ⟨c, rfl, e⟩
  · exact X.LT
  · exact hT _ e
theorem Put.noOwn (p : Put F h h' m m' x w a) (X : SR h₀ T μ F st h m) {b : Addr} (hb : b ∈ ownA μ st.r) : b ≠ a := by
  rcases p.at' with rfl | ⟨c, rfl, e⟩
  · exact (X.disj b hb).1
  · exact fun q => (X.disj b hb).2.1 (q ▸ cellsL_mem e)

theorem SR.putVal (X : SR h₀ T μ F st h m) {x : Nat} {v : V} {w : Value} {ch : Addr} (p : Put F h h' m m' x w ch) (hT : ∀ c, getL F.cs x = some (some c) → c ∉ T)
    (hv : VR (Mx T F μ st.r) h v w) : SR h₀ T μ F (st.put x (.val v)) h' m' := by
  have hsub : ∀ b, b ∈ Mx T F μ (setR st.r x (.val v)) → b ∈ Mx T F μ st.r := fun b hb => Mx_set (q := .val v) rfl hb
  have hstep : Step (Mx T F μ st.r) h (Mx T F μ (setR st.r x (.val v))) h' := fun b o hb e => ⟨p.kept b o (fun q => hb (q ▸ p.M)) e, fun hm => hb (hsub b hm)⟩
  refine { ns := p.ns, cel := p.cel, var := ?_, nd := X.nd.sublist (own_set_sub rfl), disj := fun b hb => X.disj b (own_no_sub rfl hb), LT := X.LT, ids := ?_, ex := ?_, base := ?_, fr := fun b hb => X.fr b (hsub b hb), len := by show (setR _ _ _).length = _; rw [length_setR]; exact X.len }
  · intro z nm' c' f1 f2
    show RV (Mx T F μ (setR st.r x (.val v))) μ h' (getR (setR st.r x (.val v)) z) _
    by_cases hx : x < st.r.length
    · rw [getR_set hx]
      by_cases hz : z = x
      · subst hz
        rw [if_pos rfl, p.here _ _ f1 f2]
        exact .val (hv.step hstep)
      · rw [if_neg hz, p.other _ _ _ hz f1 f2]
        exact (X.var z nm' c' f1 f2).step hstep fun id vs er ob eo => p.kept _ _ (p.noOwn X (own_get er)) eo
    · have hz : z ≠ x := fun q => by
        have := getL_lt f1
        rw [← X.len, q] at this
        exact hx this
      rw [getR_setR_other (Ne.symm hz), p.other _ _ _ hz f1 f2]
      exact (X.var z nm' c' f1 f2).step hstep fun id vs er ob eo => p.kept _ _ (p.noOwn X (own_get er)) eo
  · intro z i us ez
    have ez : getR (setR st.r x (.val v)) z = _ := ez
    by_cases hz : z = x
    · subst hz
      by_cases hx : z < st.r.length
      · rw [getR_setR_same hx] at ez; cases ez
      · have : z < st.r.length := by
          have := getR_lt (r := setR st.r z (.val v)) (x := z) (by rw [ez]; exact fun q => nomatch q)
          rwa [length_setR] at this
        exact absurd this hx
    · rw [getR_setR_other (Ne.symm hz)] at ez; exact X.ids z i us ez
  · intro b hb
    obtain ⟨o, e⟩ := X.ex b hb
    exact ⟨o, p.kept _ _ (fun q => p.noT X hT (q ▸ hb)) e⟩
  · intro b o e
    refine p.kept _ _ (fun q => ?_) (X.base b o e)
    have := X.fr b (q ▸ p.M)
    rw [e] at this; cases this

theorem SR.putOwn (X : SR h₀ (a :: T) μ F st h m) {x id n' : Nat} {vs : List V} {l : List Value} {ch : Addr} (p : Put F h h' m m' x (.ref a) ch) (hT : ∀ c, getL F.cs x = some (some c) → c ∉ a :: T)
    (hx : x < st.r.length) (hpl : Plain h a l) (hvs : VRs (Mx (a :: T) F μ st.r) h vs l) (hag : ∀ y i us, getR st.r y = .own i us → μ' i = μ i) (ha : μ' id = a) (hn : st.n ≤ n') (hid : id < n') (haT : a ∉ T) :
    SR h₀ T μ' F ⟨setR st.r x (.own id vs), n'⟩ h' m' := by
  have hown : ownA μ' st.r = ownA μ st.r := own_agree hag
  have hna : a ∉ ownA μ st.r := fun hm => (X.disj a hm).2.2 (.head _)
  have hsub : ∀ b, b ∈ Mx T F μ' (setR st.r x (.own id vs)) → b ∈ Mx (a :: T) F μ st.r := fun b hb => by
    rcases mem_Mx.mp hb with h1 | h1 | h1 | h1
    · exact mem_Mx.mpr (.inl h1)
    · exact mem_Mx.mpr (.inr (.inl h1))
    · exact mem_Mx.mpr (.inr (.inr (.inl (.tail _ h1))))
    · rcases own_set_mem h1 with h1 | h1
      · exact mem_Mx.mpr (.inr (.inr (.inl (by rw [h1, ha]; exact .head _))))
      · exact mem_Mx.mpr (.inr (.inr (.inr (hown ▸ h1))))
  have hstep : Step (Mx (a :: T) F μ st.r) h (Mx T F μ' (setR st.r x (.own id vs))) h' := fun b o hb e => ⟨p.kept b o (fun q => hb (q ▸ p.M)) e, fun hm => hb (hsub b hm)⟩
  have hcha : a ≠ ch := fun q => (p.noT X hT) (q ▸ .head _)
  have cvt : ∀ z nm' c' (f1 : getL F.ns z = some nm') (f2 : getL F.cs z = some c'), RV (Mx T F μ' (setR st.r x (.own id vs))) μ' h' (getR st.r z) (slot h m nm' c') := fun z nm' c' f1 f2 => by
    have q := (X.var z nm' c' f1 f2).step hstep fun id vs er ob eo => p.kept _ _ (p.noOwn X (own_get er)) eo
    generalize hr : getR st.r z = rz at q
    generalize slot h m nm' c' = ow at q
    cases q with
    | dead => exact .dead
    | val q => exact .val q
    | own p1 p2 =>
      have := hag _ _ _ hr
      rw [← this] at p1 ⊢
      exact .own p1 p2
  refine { ns := p.ns, cel := p.cel, var := ?_, nd := ?_, disj := ?_, LT := fun hm => X.LT (.tail _ hm), ids := ?_, ex := ?_, base := ?_, fr := fun b hb => X.fr b (hsub b hb), len := by show (setR _ _ _).length = _; rw [length_setR]; exact X.len }
  · intro z nm' c' f1 f2
    show RV (Mx T F μ' (setR st.r x (.own id vs))) μ' h' (getR (setR st.r x (.own id vs)) z) _
    rw [getR_set hx]
    by_cases hz : z = x
    · subst hz
      rw [if_pos rfl, p.here _ _ f1 f2]
      obtain ⟨n, e⟩ := hpl
      have := RV.own (M := Mx T F μ' (setR st.r z (.own id vs))) (μ := μ') (h := h') (id := id) (vs := vs) (l := l) ⟨n, by rw [ha]; exact p.kept _ _ hcha e⟩ (hvs.step hstep)
      rwa [ha] at this
    · rw [if_neg hz, p.other _ _ _ hz f1 f2]
      exact cvt z nm' c' f1 f2
  · refine own_set_nodup ?_ ?_
    · rw [hown]; exact X.nd
    · rw [hown, ha]; exact hna
  · intro b hb
    rcases own_set_mem hb with h1 | h1
    · rw [ha] at h1
      subst h1
      refine ⟨fun q => X.LT (q ▸ .head _), fun q => ?_, haT⟩
      obtain ⟨o, w, e, hd⟩ := X.cell_ex q
      obtain ⟨n, e'⟩ := hpl
      rw [e] at e'; cases e'; cases hd
    · rw [hown] at h1
      obtain ⟨q1, q2, q3⟩ := X.disj b h1
      exact ⟨q1, q2, fun q => q3 (.tail _ q)⟩
  · intro z i us ez
    have ez : getR (setR st.r x (.own id vs)) z = _ := ez
    rw [getR_set hx] at ez
    by_cases hz : z = x
    · rw [if_pos hz] at ez; cases ez; exact hid
    · rw [if_neg hz] at ez; exact Nat.lt_of_lt_of_le (X.ids z i us ez) hn
  · intro b hb
    obtain ⟨o, e⟩ := X.ex b (.tail _ hb)
    exact ⟨o, p.kept _ _ (fun q => p.noT X hT (q ▸ .tail _ hb)) e⟩
  · intro b o e
    refine p.kept _ _ (fun q => ?_) (X.base b o e)
    have := X.fr b (q ▸ p.M)
    rw [e] at this; cases this

/-- an owned list turns in its place -/
theorem SR.upd (X : SR h₀ T μ F st h m) {x id : Nat} {us vs : List V} {l : List Value} (e : getR st.r x = .own id us) (hk : ∀ b o, b ≠ μ id → h.get? b = some o → h'.get? b = some o)
    (hpl : Plain h' (μ id) l) (hvs : VRs (Mx T F μ st.r) h' vs l) : SR h₀ T μ F (st.put x (.own id vs)) h' m := by
  have hx : x < st.r.length := getR_lt (by rw [e]; exact fun z => nomatch z)
  have hown : ownA μ (setR st.r x (.own id vs)) = ownA μ st.r := own_set_same e
  have hM : Mx T F μ (setR st.r x (.own id vs)) = Mx T F μ st.r := by unfold Mx; rw [hown]
  have hid := own_get (μ := μ) e
  have hd := X.disj _ hid
  have hin : μ id ∈ Mx T F μ st.r := mem_Mx.mpr (.inr (.inr (.inr hid)))
  refine { ns := X.ns.at' fun o eo => hk _ _ (Ne.symm hd.1) eo, cel := ?_, var := ?_, nd := by show (ownA μ (setR _ _ _)).Nodup; rw [hown]; exact X.nd, disj := fun b hb => X.disj b (by have hb : b ∈ ownA μ (setR _ _ _) := hb; rwa [hown] at hb), LT := X.LT, ids := ?_, ex := ?_, base := ?_, fr := fun b hb => X.fr b (by have hb : b ∈ Mx T F μ (setR _ _ _) := hb; rwa [hM] at hb), len := by show (setR _ _ _).length = _; rw [length_setR]; exact X.len }
  · intro c hc
    obtain ⟨w, o, ho, hdd⟩ := X.cel c hc
    exact ⟨w, o, hk _ _ (fun q => hd.2.1 (q ▸ hc)) ho, hdd⟩
  · intro z nm' c' f1 f2
    show RV (Mx T F μ (setR st.r x (.own id vs))) μ h' (getR (setR st.r x (.own id vs)) z) _
    have hs : slot h' m nm' c' = slot h m nm' c' := by
      refine slot_eq fun b ea => ?_
      subst ea
      have hc := cellsL_mem f2
      obtain ⟨o, w, ho, _⟩ := X.cell_ex hc
      rw [ho, hk _ _ (fun q => hd.2.1 (q ▸ hc)) ho]
    rw [hs, hM, getR_set hx]
    have q := X.var z nm' c' f1 f2
    by_cases hz : z = x
    · subst hz
      rw [if_pos rfl]
      rw [e] at q
      generalize slot h m nm' c' = ow at q
      cases q with
      | own p1 p2 => exact .own hpl hvs
    · rw [if_neg hz]
      refine q.step (fun b o hb eo => ⟨hk _ _ (fun q => hb (q ▸ hin)) eo, hb⟩) fun i ws er ob eo => hk _ _ (fun q => ?_) eo

      exact hz (own_one X.nd er e q)
  · intro z i ws ez
    have ez : getR (setR st.r x (.own id vs)) z = _ := ez
    rw [getR_set hx] at ez
    by_cases hz : z = x
    · rw [if_pos hz] at ez; cases ez; exact X.ids x id us e
    · rw [if_neg hz] at ez; exact X.ids z i ws ez
  · intro b hb
    obtain ⟨o, eo⟩ := X.ex b hb
    exact ⟨o, hk _ _ (fun q => hd.2.2 (q ▸ hb)) eo⟩
  · intro b o eo
    refine hk _ _ (fun q => ?_) (X.base b o eo)
    have := X.fr b (q ▸ hin)
    rw [eo] at this; cases this
where
  own_one : ∀ {r : List R}, (ownA μ r).Nodup → ∀ {z x i j : Nat} {ws us : List V}, getR r z = .own i ws → getR r x = .own j us → μ i = μ j → z = x
  | [], _, _, _, _, _, _, _, h, _, _ => by cases h
  | b :: r, hn, 0, 0, _, _, _, _, _, _, _ => rfl
  | b :: r, hn, 0, x + 1, i, j, ws, us, h1, h2, hq => by
    have h1 : b = _ := h1
    subst h1
    exact absurd (hq ▸ own_get (μ := μ) (r := r) h2) (List.nodup_cons.mp hn).1
  | b :: r, hn, z + 1, 0, i, j, ws, us, h1, h2, hq => by
    have h2 : b = _ := h2
    subst h2
    exact absurd (hq ▸ own_get (μ := μ) (r := r) h1) (List.nodup_cons.mp hn).1
  | b :: r, hn, z + 1, x + 1, i, j, ws, us, h1, h2, hq => by
    have hn' : (ownA μ r).Nodup := by
      cases b with
      | dead => exact hn
      | val _ => exact hn
      | own _ _ => exact (List.nodup_cons.mp hn).2
    rw [own_one hn' (z := z) (x := x) h1 h2 hq]
end
end Mine

/-! part Sound3 -/
namespace Mine
open PySem

structure EK (μ : Nat → Addr) (r r' : List R) (h h' : Heap) : Prop where
  kept : ∀ b o, b ∉ ownA μ r → h.get? b = some o → h'.get? b = some o
  sub : ∀ b, b ∈ ownA μ r' → b ∈ ownA μ r
  ex : ∀ b o, h.get? b = some o → ∃ o', h'.get? b = some o'

section
variable {h₀ h h' h'' : Heap} {T T' : List Addr} {μ μ' : Nat → Addr} {F : Sc} {st st' : St} {m m' : Str → Option Value} {a : Addr} {r r' r'' : List R} {v : V} {wv : Value}

theorem EK.refl : EK μ r r h h := ⟨fun _ _ _ e => e, fun _ e => e, fun _ o e => ⟨o, e⟩⟩
theorem EK.trans (x : EK μ r r' h h') (y : EK μ r' r'' h' h'') : EK μ r r'' h h'' := ⟨fun b o hb e => y.kept b o (fun q => hb (x.sub b q)) (x.kept b o hb e), fun b hb => x.sub b (y.sub b hb), fun b o e => let ⟨_, e'⟩ := x.ex b o e; y.ex b _ e'⟩
theorem EK.grow (hk : ∀ b o, h.get? b = some o → h'.get? b = some o) : EK μ r r h h' := ⟨fun b o _ e => hk b o e, fun _ e => e, fun b o e => ⟨o, hk b o e⟩⟩
theorem EK.step (x : EK μ r r' h h') : Step (Mx T F μ r) h (Mx T F μ r') h' := fun b o hb e =>
  ⟨x.kept b o (fun q => hb (mem_Mx.mpr (.inr (.inr (.inr q))))) e, fun hm => hb (mem_Mx.mpr ((mem_Mx.mp hm).imp id (Or.imp id (Or.imp id (x.sub b)))))⟩
theorem VR.lift (q : VR (Mx T F μ r) h v wv) (x : EK μ r r' h h') : VR (Mx T F μ r') h' v wv := q.step x.step
theorem VRs.lift {vs : List V} {ws : List Value} (q : VRs (Mx T F μ r) h vs ws) (x : EK μ r r' h h') : VRs (Mx T F μ r') h' vs ws := q.step x.step
theorem EK.freeze {y : Nat} {q : R} (hq : isOwn q = false) : EK μ r (setR r y q) h h := ⟨fun _ _ _ e => e, fun _ hb => own_no_sub hq hb, fun _ o e => ⟨o, e⟩⟩
theorem EK.fresh (x : EK μ r r' h h') {a : Addr} (ha : h'.get? a = none) : h.get? a = none := by
  cases e : h.get? a with
  | none => rfl
  | some o => obtain ⟨o', e'⟩ := x.ex a o e; rw [ha] at e'; cases e'
/-- what a shield keeps -/
theorem EK.at (x : EK μ st.r r' h h') (X : SR h₀ T μ F st h m) (ha : a ∈ T) {o : Obj} (e : h.get? a = some o) : h'.get? a = some o :=
  x.kept a o (fun q => (X.disj a q).2.2 ha) e
theorem Plain.at {l : List Value} (p : Plain h a l) (hk : ∀ o, h.get? a = some o → h'.get? a = some o) : Plain h' a l := let ⟨n, e⟩ := p; ⟨n, hk _ e⟩
theorem Plain.isList {l : List Value} (p : Plain h a l) : h.IsList a l.toArray := let ⟨n, e⟩ := p; ⟨_, e, rfl, n, rfl⟩
theorem fresh_size (h : Heap) : h.get? h.objs.size = none := by
  cases e : h.get? h.objs.size with
  | none => rfl
  | some o => exact absurd (Heap.lt_size e) (Nat.lt_irrefl _)

/-- a value over a shield that has one more, seen without -/
theorem VR.unshield (q : VR (Mx (a :: T) F μ r) h v wv) : VR (Mx T F μ r) h v wv := q.step fun _ _ hb e => ⟨e, fun hm => hb (Mx_sub (fun _ h => .tail _ h) hm)⟩
theorem VRs.unshield {vs : List V} {ws : List Value} (q : VRs (Mx (a :: T) F μ r) h vs ws) : VRs (Mx T F μ r) h vs ws := q.step fun _ _ hb e => ⟨e, fun hm => hb (Mx_sub (fun _ h => .tail _ h) hm)⟩
/-- a value ahead of a new object, seen behind it with the new one shielded -/
theorem step_new (hk : ∀ b o, h.get? b = some o → h'.get? b = some o) (ha : h.get? a = none) : Step (Mx T F μ r) h (Mx (a :: T) F μ r) h' := fun b o hb e =>
  ⟨hk b o e, fun hm => by
    rcases mem_Mx.mp hm with h1 | h1 | h1 | h1
    · exact hb (mem_Mx.mpr (.inl h1))
    · exact hb (mem_Mx.mpr (.inr (.inl h1)))
    · rcases List.mem_cons.mp h1 with h1 | h1
      · subst h1; rw [ha] at e; cases e
      · exact hb (mem_Mx.mpr (.inr (.inr (.inl h1))))
    · exact hb (mem_Mx.mpr (.inr (.inr (.inr h1))))⟩
/-- the shielded list as a value -/
theorem shield_val (X : SR h₀ (a :: T) μ F st h m) (haT : a ∉ T) {vs : List V} {l : List Value} (p : Plain h a l) (q : VRs (Mx (a :: T) F μ st.r) h vs l) : VR (Mx T F μ st.r) h (.lst vs) (.ref a) := by
  refine .lst p (fun hm => ?_) q.unshield
  rcases mem_Mx.mp hm with h1 | h1 | h1 | h1
  · exact X.LT (h1 ▸ .head _)
  · obtain ⟨o, w, e, hd⟩ := X.cell_ex h1
    obtain ⟨n, e'⟩ := p
    rw [e] at e'; cases e'; cases hd
  · exact haT h1
  · exact (X.disj a h1).2.2 (.head _)
end

noncomputable def Room (A : Around) (n : Nat) : Prop := A.handled = none ∧ A.depth + n < recursionLimit ∧ A.units + 5 * n + 100 < cLine
theorem Room.less {A : Around} {n k : Nat} (h : Room A n) (hk : k ≤ n) : Room A k := ⟨h.1, by have := h.2.1; omega, by have := h.2.2; omega⟩
theorem Room.deeper {A : Around} {n : Nat} (h : Room A (n + 1)) (env : Env) : Room (A.deeper env) n :=
  ⟨h.1, by have := h.2.1; show A.depth + 1 + n < _; omega, by have := h.2.2; show A.units + 3 + 5 * n + 100 < _; omega⟩

section
variable {M : Model} {A : Around} {E : Value → Shared → Prop} {s : Shared} {h₀ : Heap} {T : List Addr} {μ : Nat → Addr} {F : Sc} {st : St} {m : Str → Option Value}

theorem eval_name (hF : FOk F) (X : SR h₀ T μ F st s.heap m) {x : Nat} {nm : Str} {pos : Pos} (hx : getL F.ns x = some nm) (hd : (nm == ("__debug__" : Str)) = false) (hl : getR st.r x ≠ .dead) :
    ∃ c wv, getL F.cs x = some c ∧ slot s.heap m nm c = some wv ∧ ∀ {Q : Value → Shared → Prop}, Q wv s → wpAny M A (eval (.Name nm pos) F.env) Q E s := by
  obtain ⟨nm', c, e1, e2⟩ := X.lenr hF hl
  rw [hx] at e1; cases e1
  have hv := X.var x nm c hx e2
  have hs : ∃ wv, slot s.heap m nm c = some wv := by
    generalize slot s.heap m nm c = ow at hv
    generalize hr : getR st.r x = rx at hv
    cases hv with
    | dead => exact absurd hr hl
    | val _ => exact ⟨_, rfl⟩
    | own _ _ => exact ⟨_, rfl⟩
  obtain ⟨wv, hs⟩ := hs
  refine ⟨c, wv, e2, hs, fun hQ => ?_⟩
  cases c with
  | none => exact wpAny_Name (wpAny_loadName_local hF.kind (hF.loc x nm hx e2) X.ns hs hQ) hd
  | some c =>
    obtain ⟨k1, k2⟩ := hF.cel x nm c hx e2
    obtain ⟨w0, hc⟩ := X.cel c (cellsL_mem e2)
    have := slot_cell (m := m) (nm := nm) hc
    rw [hs] at this
    subst this
    exact wpAny_Name (wpAny_loadName_cell hF.kind k1 k2 hc hQ) hd

/-- the slot stands still while an expression is evaluated -/
theorem slot_still {h' : Heap} {r' : List R} (X : SR h₀ T μ F st s.heap m) (k : EK μ st.r r' s.heap h') {x : Nat} {nm : Str} {c : Option Addr} (hc : getL F.cs x = some c) : slot h' m nm c = slot s.heap m nm c := by
  refine slot_eq fun a ea => ?_
  subst ea
  have hm := cellsL_mem hc
  obtain ⟨o, w, ho, _⟩ := X.cell_ex hm
  rw [ho, k.kept _ _ (fun q => (X.disj _ q).2.1 hm) ho]

theorem store_name (hF : FOk F) (X : SR h₀ T μ F st s.heap m) {x : Nat} {nm : Str} {wv : Value} {Q : Unit → Shared → Prop} (hx : getL F.ns x = some nm)
    (K : ∀ h' m' ch tk, Put F s.heap h' m m' x wv ch → Q () { s with heap := h', toks := tk }) : wpAny M A (storeName F.env nm wv) Q E s := by
  have hxl := getL_lt hx
  rw [← hF.lenc] at hxl
  obtain ⟨c, hc⟩ := getL_some hxl
  cases c with
  | none =>
    refine wpAny_storeName_local (hF.loc x nm hx hc) X.ns (fun h' hn hs => K h' _ F.env.locals _ ⟨hs.extBut, .inl rfl, hn, ?_, ?_, ?_⟩) (by
      rw [show (F.env.scope.kind == ScopeKind.class) = false from by rw [hF.kind]; rfl, show (F.env.scope.kind == ScopeKind.module) = false from by rw [hF.kind]; rfl]; rfl)
    · intro c' hc'
      obtain ⟨w, o, ho, hd⟩ := X.cel c' hc'
      exact ⟨w, o, hs.extBut _ _ (fun q => X.L_cell (q ▸ hc')) ho, hd⟩
    · intro nm' c' e1 e2
      rw [hx] at e1; cases e1
      rw [hc] at e2; cases e2
      exact if_pos rfl
    · intro y nm' c' hy e1 e2
      cases c' with
      | none => exact if_neg fun q => hy (getL_inj hF.nd (q ▸ e1) hx)
      | some a =>
        refine slot_eq fun b eb => ?_
        cases eb
        exact hs.2 _ fun q => X.L_cell (q ▸ cellsL_mem e2)
  | some c =>
    obtain ⟨k1, k2⟩ := hF.cel x nm c hx hc
    have hcm := cellsL_mem hc
    obtain ⟨w0, hc0⟩ := X.cel c hcm
    refine wpAny_storeName_cell hF.kind k1 k2 hc0 fun h' hn hs => K h' m c s.toks ⟨hs.extBut, .inr ⟨c, rfl, hc⟩, ?_, ?_, ?_, ?_⟩
    · exact X.ns.sameBut hs fun q => X.L_cell (q ▸ hcm)
    · intro c' hc'
      by_cases q : c' = c
      · subst q; exact ⟨_, hn⟩
      · obtain ⟨w, o, ho, hd⟩ := X.cel c' hc'
        exact ⟨w, o, hs.extBut _ _ q ho, hd⟩
    · intro nm' c' e1 e2
      rw [hc] at e2; cases e2
      exact slot_cell hn
    · intro y nm' c' hy e1 e2
      refine slot_eq fun b eb => ?_
      subst eb
      exact hs.2 _ fun q => hy (cellsL_inj hF.ndc e2 (q ▸ hc))
end
end Mine

/-! part Sound4 -/
namespace Mine
open PySem PyProof.Rows

noncomputable def opOf : Nat → Option Operator
  | 0 => some .Add
  | 1 => some .Sub
  | 2 => some .Mult
  | 3 => some .FloorDiv
  | 4 => some .Mod
  | 5 => some .Pow
  | _ => none
noncomputable def cmpOf : Nat → Option CmpOp
  | 0 => some .Eq
  | 1 => some .NotEq
  | 2 => some .Lt
  | 3 => some .LtE
  | 4 => some .Gt
  | 5 => some .GtE
  | _ => none

theorem small_lt {i : Int} (h : small i = true) : i.natAbs < 2 ^ 60 := by
  have := Nat.le_of_ble_eq_true h
  exact this
theorem blt_lt {a b : Nat} (h : Nat.blt a b = true) : a < b := Nat.le_of_ble_eq_true h
theorem small_bits {i : Int} (h : small i = true) : Builtin.Int.intBits i ≤ 64 := by
  have := small_lt h
  exact PySem.intBits_le_64 (by omega) (by omega)

theorem small_log {i : Int} (h : small i = true) : i.natAbs.log2 < 9000 := by
  have := small_lt h
  rcases Nat.eq_zero_or_pos i.natAbs with q | q
  · rw [q]; decide
  · exact Nat.lt_trans ((Nat.log2_lt (by omega)).mpr this) (by decide)

section
variable {prog : Program} {w : World} {A : Around} {E : Value → Shared → Prop} {s : Shared} {Q : Value → Shared → Prop}

theorem bin_int {o : Nat} {op : Operator} {i j : Int} {t u : Tok} {v : V} (ho : opOf o = some op) (hb : binop o (.int i) (.int j) = some v)
    (hQ : ∀ k t' tk, v = .int k → Q (.int k t') { s with toks := tk }) : wpAny (model prog w) A (binaryOp op (.int i t) (.int j u)) Q E s := by
  unfold binop at hb
  match o with
  | 0 => cases ho; cases hb; exact add_int (hQ _ _ _ rfl)
  | 1 => cases ho; cases hb; exact sub_int (hQ _ _ _ rfl)
  | 2 =>
    cases ho
    simp only at hb
    split at hb
    · rename_i h1 h2
      cases hb
      exact mul_int (hQ _ _ _ rfl) (PySem.IntMulOk.of_left (small_bits h1))
    · cases hb
  | 3 =>
    cases ho
    simp only at hb
    split at hb
    · cases hb
    · rename_i j' h1 hj h2
      cases hb
      refine floordiv_int (fun e => hj (by subst e; rfl)) (hQ _ _ _ rfl) (.inl (PyProof.noPylong_of_log2 (small_log h2)))
    · cases hb
  | 4 =>
    cases ho
    simp only at hb
    split at hb
    · cases hb
    · rename_i hj
      cases hb
      exact mod_int' (fun e => hj (by subst e; rfl)) (hQ _ _ _ rfl)
  | 5 =>
    cases ho
    simp only at hb
    split at hb
    · rename_i k
      split at hb
      · rename_i h1 h2
        cases hb
        refine pow_int (Int.natCast_nonneg k) ?_ ?_
        · have a1 := small_bits h1
          have a2 := blt_lt h2
          have a3 : Builtin.Int.intBits i * k ≤ 64 * 64 := Nat.mul_le_mul a1 (by omega)
          have a4 : (Builtin.Int.intBits i : Int) * (Int.ofNat k) = ((Builtin.Int.intBits i * k : Nat) : Int) := by push_cast; rfl
          rw [a4]
          omega
        · have := hQ (i ^ k) s.toks (s.toks + 1) rfl
          exact this
      · cases hb
    · cases hb
  | n + 6 => cases ho

theorem cmp_int {o : Nat} {op : CmpOp} {i j : Int} {t u : Tok} {b : Bool} (ho : cmpOf o = some op) (hb : cmpop o (.int i) (.int j) = some b)
    (hQ : Q (.bool b) s) : wpAny (model prog w) A (compareOp op (.int i t) (.int j u)) Q E s := by
  unfold cmpop at hb
  match o with
  | 0 => cases ho; cases hb; exact eq_int (by rw [show (i == j) = decide (i = j) from rfl]; exact hQ)
  | 1 => cases ho; cases hb; exact ne_int (by rw [show (i != j) = !decide (i = j) from rfl]; exact hQ)
  | 2 => cases ho; cases hb; exact lt_int hQ
  | 3 => cases ho; cases hb; exact le_int hQ
  | 4 => cases ho; cases hb; exact gt_int hQ
  | 5 => cases ho; cases hb; exact ge_int hQ
  | n + 6 => cases ho

theorem intsAre_of {M : List Addr} {h : Heap} {vs : List V} {is : List Int} {l : List Value} (hv : VRs M h vs l) (e : vInts vs = some is) : PyProof.Rows.IntsAre l is := by
  induction vs generalizing is l with
  | nil => cases hv; cases e; exact .nil
  | cons v vs ih =>
    cases hv with
    | cons r rs =>
      unfold vInts at e
      cases v with
      | int i =>
        cases r
        simp only at e
        split at e
        · cases e; exact .cons _ _ (ih rs (by assumption))
        · cases e
      | _ => cases e

theorem eqInts_iff : ∀ {is js : List Int}, eqInts is js = decide (is = js)
  | [], [] => rfl
  | [], _ :: _ => rfl
  | _ :: _, [] => rfl
  | a :: l, b :: m => by
    unfold eqInts
    have ih := @eqInts_iff l m
    by_cases h : a = b
    · subst h; simp [ih]
    · simp [h]

/-- two int lists compared -/
theorem cmp_ints {M : List Addr} {o : Nat} {op : CmpOp} {a c : Addr} {xs ys : List V} {l k : List Value} {b : Bool} (ho : cmpOf o = some op) (hb : cmpop o (.lst xs) (.lst ys) = some b)
    (ha : Plain s.heap a l) (hc : Plain s.heap c k) (hx : VRs M s.heap xs l) (hy : VRs M s.heap ys k) (hu : A.units + 64 < cLine) (hQ : Q (.bool b) s) :
    wpAny (model prog w) A (compareOp op (.ref a) (.ref c)) Q E s := by
  unfold cmpop at hb
  simp only at hb
  split at hb
  · rename_i is js e1 e2
    have h1 := intsAre_of hx e1
    have h2 := intsAre_of hy e2
    match o with
    | 0 =>
      cases ho; cases hb
      rw [eqInts_iff] at hQ
      exact PySem.W.ke_eq_ints ha.isList hc.isList h1 h2 hu hQ
    | 1 =>
      cases ho; cases hb
      rw [eqInts_iff] at hQ
      exact PySem.W.ke_ne_ints ha.isList hc.isList h1 h2 hu hQ
    | n + 2 => cases hb
  · cases hb

theorem atIdx_get {M : List Addr} {h : Heap} {vs : List V} {l : List Value} {i : Int} {v : V} (hv : VRs M h vs l) (e : atIdx vs i = some v) :
    ∃ j wv, PySem.seqIndex? i l.length = some j ∧ l[j]? = some wv ∧ VR M h v wv ∧ ((0 ≤ i ∧ j = i.toNat) ∨ (i < 0 ∧ -(l.length : Int) ≤ i ∧ j = (i + l.length).toNat)) := by
  have hlen := hv.length
  unfold atIdx at e
  split at e
  · rename_i k
    obtain ⟨wv, e1, r⟩ := hv.get e
    have hk := getL_lt e
    refine ⟨k, wv, ?_, e1, r, .inl ⟨Int.natCast_nonneg k, rfl⟩⟩
    unfold PySem.seqIndex?
    have h1 : ¬ ((Int.ofNat k) < 0) := by simp
    simp only [h1, if_false]
    rw [if_pos]
    · rfl
    · simp; omega
  · rename_i k
    split at e
    · rename_i hk
      have hk := Nat.le_of_ble_eq_true hk
      obtain ⟨wv, e1, r⟩ := hv.get e
      refine ⟨vs.length - (k + 1), wv, ?_, e1, r, .inr ⟨Int.negSucc_lt_zero k, by rw [hlen]; omega, by rw [hlen]; omega⟩⟩
      unfold PySem.seqIndex?
      have h1 : (Int.negSucc k) < 0 := Int.negSucc_lt_zero k
      simp only [h1, if_true]
      rw [if_pos]
      · congr 1; rw [hlen]; omega
      · simp [hlen]; omega
    · cases e
end
end Mine

/-! part Sound5 -/
namespace Mine
open PySem

structure Nm where
  fn : Nat → Str
  tab : Nat → Str

noncomputable def relabelS (scope sc : Scope) : Scope :=
  { scope with names := scope.names.map fun (n, k) => if (k == .free && sc.kind == .function && sc.names.lookup n == some .cell) then (n, .cell) else (n, k) }

noncomputable def picks (ns : List Str) : List Nat → Option (List Str)
  | [] => some []
  | x :: xs => match getL ns x, picks ns xs with
    | some nm, some l => some (nm :: l)
    | _, _ => none

/-- names on the left -/
inductive CNm (ns : List Str) : List Expr → List Str → List Nat → Prop
  | nil : CNm ns [] [] []
  | cons {nm : Str} {p : Pos} {es : List Expr} {nms : List Str} {x : Nat} {xs : List Nat} (hx : getL ns x = some nm) : CNm ns es nms xs → CNm ns (.Name nm p :: es) (nm :: nms) (x :: xs)

inductive CTg (ns : List Str) : Expr → List Nat → Prop
  | one {nm : Str} {p : Pos} {x : Nat} (hx : getL ns x = some nm) : CTg ns (.Name nm p) [x]
  | two {nm nm' : Str} {p p' pos : Pos} {k x y : Nat} (hx : getL ns x = some nm) (hy : getL ns y = some nm') (hn : x ≠ y) : CTg ns (.Tuple [.Name nm p, .Name nm' p'] k pos) [x, y]

structure CompOk (sc : Scope) (ns : List Str) (scope : Scope) (cn tn : List Str) (caps : List Nat) : Prop where
  kind : scope.kind = .function
  skind : sc.kind = .function
  nocell : ∀ y ∈ scope.names, y.2 ≠ .cell
  loc : ∀ y ∈ scope.names, y.2 = .local → scope.names.lookup y.1 = some .local
  tgt : ∀ t ∈ tn, scope.names.lookup t = some .local
  free : ∀ y ∈ scope.names, y.2 = .free → sc.names.lookup y.1 = some .cell ∧ y.1 ∈ cn
  cap : ∀ c ∈ cn, scope.names.lookup c = some .free
  pick : picks ns caps = some cn
  nd : (cn ++ tn).Nodup
  dbg : ∀ t ∈ tn, (t == ("__debug__" : Str)) = false

mutual
inductive CE (N : Nm) : Scope → List Str → Expr → X → Prop
  | int {sc ns i k pos} : CE N sc ns (.Constant (.int i) k pos) (.int i)
  | bool {sc ns b k pos} : CE N sc ns (.Constant (.bool b) k pos) (.bool b)
  | none {sc ns k pos} : CE N sc ns (.Constant .none k pos) .none
  | var {sc ns nm pos x} (hx : getL ns x = some nm) : CE N sc ns (.Name nm pos) (.var x)
  | glob {sc ns pos k nm} (hn : N.tab k = nm) (hd : (nm == ("__debug__" : Str)) = false) (hk : sc.names.lookup nm = some .globalImplicit) : CE N sc ns (.Name nm pos) (.glob k)
  | bin {sc ns l r op pos o a b} (ho : opOf o = some op) : CE N sc ns l a → CE N sc ns r b → CE N sc ns (.BinOp l op r pos) (.bin o a b)
  | neg {sc ns e pos a} : CE N sc ns e a → CE N sc ns (.UnaryOp .USub e pos) (.neg a)
  | cmp {sc ns l r op pos o a b} (ho : cmpOf o = some op) (hm : behindInMarks op r = false) : CE N sc ns l a → CE N sc ns r b → CE N sc ns (.Compare l [op] [r] pos) (.cmp o a b)
  | ite {sc ns c t f pos cc ct cf} : CT N sc ns c cc → CE N sc ns t ct → CE N sc ns f cf → CE N sc ns (.IfExp c t f pos) (.ite cc ct cf)
  | len {sc ns e p pos a} (hk : sc.names.lookup (Str.ofString "len") = some .globalImplicit) : CE N sc ns e a → CE N sc ns (.Call (.Name (Str.ofString "len") p) [e] [] pos) (.len a)
  | abs {sc ns e p pos a} (hk : sc.names.lookup (Str.ofString "abs") = some .globalImplicit) : CE N sc ns e a → CE N sc ns (.Call (.Name (Str.ofString "abs") p) [e] [] pos) (.abs a)
  | any {sc ns e p pos a} (hk : sc.names.lookup (Str.ofString "any") = some .globalImplicit) : CE N sc ns e a → CE N sc ns (.Call (.Name (Str.ofString "any") p) [e] [] pos) (.any a)
  | list {sc ns e p pos a} (hk : sc.names.lookup (Str.ofString "list") = some .globalImplicit) : CE N sc ns e a → CE N sc ns (.Call (.Name (Str.ofString "list") p) [e] [] pos) (.list a)
  | max {sc ns e f p pos a b} (hk : sc.names.lookup (Str.ofString "max") = some .globalImplicit) : CE N sc ns e a → CE N sc ns f b → CE N sc ns (.Call (.Name (Str.ofString "max") p) [e, f] [] pos) (.max a b)
  | sub {sc ns e i pos a b} : CE N sc ns e a → CE N sc ns i b → CE N sc ns (.Subscript e i pos) (.sub a b)
  | cut {sc ns nm p hi p2 pos x c} (hx : getL ns x = some nm) : CE N sc ns hi c → CE N sc ns (.Subscript (.Name nm p) (.Slice none (some hi) none p2) pos) (.cut (.var x) c)
  | index {sc ns nm p1 p2 pos e x a} (hx : getL ns x = some nm) (hp : (p2.endLine == pos.line) = true) : CE N sc ns e a → CE N sc ns (.Call (.Attribute (.Name nm p1) (Str.ofString "index") p2) [e] [] pos) (.index x a)
  | tup {sc ns es k pos xs} : CEs N sc ns es xs → CE N sc ns (.Tuple es k pos) (.tup xs)
  | disp {sc ns es pos xs} : CEs N sc ns es xs → CE N sc ns (.List es pos) (.disp xs)
  | call {sc ns nm p e es pos f x xs} (hn : N.fn f = nm) (hd : (nm == ("__debug__" : Str)) = false) (hk : sc.names.lookup nm = some .globalImplicit) : CE N sc ns e x → CEs N sc ns es xs → CE N sc ns (.Call (.Name nm p) (e :: es) [] pos) (.call f (.cons x xs))
  | callm {sc ns nm p vn p2 es pos f x xs} (hn : N.fn f = nm) (hd : (nm == ("__debug__" : Str)) = false) (hk : sc.names.lookup nm = some .globalImplicit) (hx : getL ns x = some vn) : CEs N sc ns es xs → CE N sc ns (.Call (.Name nm p) (.Name vn p2 :: es) [] pos) (.callm f x xs)
  | comp {sc ns elt target iter ifs scope pos celt tgt src cifs caps cn tn} (hok : CompOk sc ns scope cn tn caps) (hsrc : CSrc N sc ns iter src) (htg : CTg (cn ++ tn) target tgt)
      (htn : tgt.length = tn.length) (hlo : ∀ x ∈ tgt, cn.length ≤ x) (hen : ∀ a, src ≠ .enum a) (he : CE N (relabelS scope sc) (cn ++ tn) elt celt) (hi : CTs N (relabelS scope sc) (cn ++ tn) ifs cifs) :
      CE N sc ns (.ListComp elt [⟨target, iter, ifs, 0⟩] scope pos) (.comp celt tgt src cifs caps)
inductive CEs (N : Nm) : Scope → List Str → List Expr → Xs → Prop
  | nil {sc ns} : CEs N sc ns [] .nil
  | cons {sc ns e es x xs} : CE N sc ns e x → CEs N sc ns es xs → CEs N sc ns (e :: es) (.cons x xs)
inductive CT (N : Nm) : Scope → List Str → Expr → X → Prop
  | and {sc ns a b pos x y} : CT N sc ns a x → CT N sc ns b y → CT N sc ns (.BoolOp .And [a, b] pos) (.and x y)
  | or {sc ns a b pos x y} : CT N sc ns a x → CT N sc ns b y → CT N sc ns (.BoolOp .Or [a, b] pos) (.or x y)
  | notin {sc ns e nm p pos a x} (hx : getL ns x = some nm) : CE N sc ns e a → CT N sc ns (.Compare e [.NotIn] [.Name nm p] pos) (.notin a x)
  | cmp {sc ns l r op pos o a b} (ho : cmpOf o = some op) (hm : behindInMarks op r = false) : CE N sc ns l a → CE N sc ns r b → CT N sc ns (.Compare l [op] [r] pos) (.cmp o a b)
  | any {sc ns e p pos a} (hk : sc.names.lookup (Str.ofString "any") = some .globalImplicit) : CE N sc ns e a → CT N sc ns (.Call (.Name (Str.ofString "any") p) [e] [] pos) (.any a)
inductive CTs (N : Nm) : Scope → List Str → List Expr → Xs → Prop
  | nil {sc ns} : CTs N sc ns [] .nil
  | cons {sc ns e es x xs} : CT N sc ns e x → CTs N sc ns es xs → CTs N sc ns (e :: es) (.cons x xs)
inductive CSrc (N : Nm) : Scope → List Str → Expr → Src → Prop
  | lst {sc ns e a} : CE N sc ns e a → CSrc N sc ns e (.lst a)
  | enum {sc ns e p pos a} (hk : sc.names.lookup (Str.ofString "enumerate") = some .globalImplicit) : CE N sc ns e a → CSrc N sc ns (.Call (.Name (Str.ofString "enumerate") p) [e] [] pos) (.enum a)
  | rng1 {sc ns e p pos a} (hk : sc.names.lookup (Str.ofString "range") = some .globalImplicit) : CE N sc ns e a → CSrc N sc ns (.Call (.Name (Str.ofString "range") p) [e] [] pos) (.rng1 a)
  | rng2 {sc ns e f p pos a b} (hk : sc.names.lookup (Str.ofString "range") = some .globalImplicit) : CE N sc ns e a → CE N sc ns f b → CSrc N sc ns (.Call (.Name (Str.ofString "range") p) [e, f] [] pos) (.rng2 a b)
  | rng3 {sc ns e f g p pos a b c} (hk : sc.names.lookup (Str.ofString "range") = some .globalImplicit) : CE N sc ns e a → CE N sc ns f b → CE N sc ns g c → CSrc N sc ns (.Call (.Name (Str.ofString "range") p) [e, f, g] [] pos) (.rng3 a b c)
end

noncomputable def allFresh : Xs → Bool
  | .nil => true
  | .cons x xs => match freshX x with
    | true => allFresh xs
    | false => false

mutual
inductive CS (N : Nm) : Scope → List Str → Stmt → S → Prop
  | asg {sc ns nm p value pos x c} (hx : getL ns x = some nm) (hsw : ∀ env : Env, env.scope = sc → swapsWith value (some (.Name nm p)) pos.line env = pure false) :
      CE N sc ns value c → CS N sc ns (.Assign [.Name nm p] value pos) (.asg x c)
  | asgC {sc ns nm p elt gens scope ps pos x a b c d e} (hx : getL ns x = some nm) (hl : sc.names.lookup nm = some .local)
      (hsw : ∀ env : Env, env.scope = sc → swapsWith (.ListComp elt gens scope ps) (some (.Name nm p)) pos.line env = pure true) :
      CE N sc ns (.ListComp elt gens scope ps) (.comp a b c d e) → CS N sc ns (.Assign [.Name nm p] (.ListComp elt gens scope ps) pos) (.asg x (.comp a b c d e))
  | asgT {sc ns na nb pa pb k tp va vb k' vp pos x y ca cb} (hx : getL ns x = some na) (hy : getL ns y = some nb) (hn : x ≠ y)
      (hsw : ∀ env : Env, env.scope = sc → swapsWithSole [.Tuple [.Name na pa, .Name nb pb] k tp] (.Tuple [va, vb] k' vp) pos.line env = pure false)
      (hw : ∀ env : Env, env.scope = sc → swappedStores [.Tuple [.Name na pa, .Name nb pb] k tp] (.Tuple [va, vb] k' vp) env = pure none ∨ swappedStores [.Tuple [.Name na pa, .Name nb pb] k tp] (.Tuple [va, vb] k' vp) env = pure (some [na, nb])) :
      CE N sc ns va ca → CE N sc ns vb cb → CS N sc ns (.Assign [.Tuple [.Name na pa, .Name nb pb] k tp] (.Tuple [va, vb] k' vp) pos) (.asgT [x, y] (.cons ca (.cons cb .nil)))
  | asgN {sc ns elts k tp vals k' vp pos nms xs cs} (ht : CNm ns elts nms xs) (hl : vals.length ≤ 1000) (hf : allFresh cs = true)
      (hsw : ∀ env : Env, env.scope = sc → swapsWithSole [.Tuple elts k tp] (.Tuple vals k' vp) pos.line env = pure false)
      (hw : ∀ env : Env, env.scope = sc → swappedStores [.Tuple elts k tp] (.Tuple vals k' vp) env = pure none) :
      CEs N sc ns vals cs → CS N sc ns (.Assign [.Tuple elts k tp] (.Tuple vals k' vp) pos) (.asgT xs cs)
  | asgU {sc ns elts k tp value pos nms xs c} (ht : CNm ns elts nms xs) (hn : xs.Nodup)
      (hsw : ∀ env : Env, env.scope = sc → swapsWithSole [.Tuple elts k tp] value pos.line env = pure false)
      (hw : ∀ env : Env, env.scope = sc → swappedStores [.Tuple elts k tp] value env = pure none) :
      CE N sc ns value c → CS N sc ns (.Assign [.Tuple elts k tp] value pos) (.asgU xs c)
  | setI {sc ns nm p i p' value pos x ci c} (hx : getL ns x = some nm) (hsw : ∀ env : Env, env.scope = sc → swapsWith value (some (.Subscript (.Name nm p) i p')) pos.line env = pure false) :
      CE N sc ns i ci → CE N sc ns value c → CS N sc ns (.Assign [.Subscript (.Name nm p) i p'] value pos) (.setI x ci c)
  | app {sc ns nm p1 p2 p3 e pos x c} (hx : getL ns x = some nm) (hp : (p2.endLine == p3.line) = true) : CE N sc ns e c → CS N sc ns (.Expr (.Call (.Attribute (.Name nm p1) (Str.ofString "append") p2) [e] [] p3) pos) (.app x c)
  | aug {sc ns nm p value pos x c} (hx : getL ns x = some nm) : CE N sc ns value c → CS N sc ns (.AugAssign (.Name nm p) .Add value pos) (.aug x c)
  | ite {sc ns c t f pos cc ct cf} : CT N sc ns c cc → CB N sc ns t ct → CB N sc ns f cf → CS N sc ns (.If c t f pos) (.ite cc ct cf)
  | loop {sc ns c b pos cc cb} : CT N sc ns c cc → CB N sc ns b cb → CS N sc ns (.While c b [] pos) (.loop cc cb)
  | each {sc ns target iter b pos tgt src cb} (hen : ∀ a, src = .enum a → tgt.length = 2) : CTg ns target tgt → CSrc N sc ns iter src → CB N sc ns b cb → CS N sc ns (.For target iter b [] pos) (.each tgt src cb)
  | ret {sc ns e pos c} : CE N sc ns e c → CS N sc ns (.Return (some e) pos) (.ret c)
  | raise {sc ns st} : CS N sc ns st .raise
inductive CB (N : Nm) : Scope → List Str → List Stmt → Ss → Prop
  | nil {sc ns} : CB N sc ns [] .nil
  | cons {sc ns s ss c cs} : CS N sc ns s c → CB N sc ns ss cs → CB N sc ns (s :: ss) (.cons c cs)
end

/-- what the top has laid -/
structure FnOk (N : Nm) (h₀ : Heap) (mg : Str → Option Value) (f : Nat) (fn : Fn) (a : Addr) (o : Obj) (fd : FuncData) (body : List Stmt) (ns : List Str) : Prop where
  g : mg (N.fn f) = some (.ref a)
  ho : h₀.get? a = some o
  hd : o.data = .func fd
  code : h₀.CodeRec fd.code fd.qualname
  hbody : fd.body = .stmts body
  globals : fd.globals = mainGlobals
  builtins : fd.builtins = builtinsNs
  closure : fd.closure = []
  kind : fd.scope.kind = .function
  co : fd.scope.isCoroutine = false
  gen : fd.scope.isGenerator = false
  bind : ∀ vs : List Value, vs.length = fn.np → bindArgs fd ⟨vs, []⟩ = pure ((ns.take fn.np).zip vs)
  lc : ∀ x ∈ ns, fd.scope.names.lookup x = some .local ∨ fd.scope.names.lookup x = some .cell
  nd : ns.Nodup
  ndn : ((cellsFrom 0 fd.scope.names []).map (·.1)).Nodup
  cells : ∀ n x, fd.scope.names.lookup x = some .cell → ((cellsFrom n fd.scope.names []).lookup x).isSome = true
  dbg : ∀ x ∈ ns, (x == ("__debug__" : Str)) = false
  np : fn.np ≤ fn.nv
  nv : ns.length = fn.nv
  rel : CB N fd.scope ns body fn.body

structure GOk (N : Nm) (P : Nat → Option Fn) (tab : Nat → Option V) (h₀ : Heap) (mg mb : Str → Option Value) : Prop where
  g : h₀.Ns mainGlobals mg
  b : h₀.Ns builtinsNs mb
  nl : h₀.NoLimit
  len : mg (Str.ofString "len") = none ∧ mb (Str.ofString "len") = some (.builtin "len")
  abs : mg (Str.ofString "abs") = none ∧ mb (Str.ofString "abs") = some (.builtin "abs")
  max : mg (Str.ofString "max") = none ∧ mb (Str.ofString "max") = some (.builtin "max")
  any : mg (Str.ofString "any") = none ∧ mb (Str.ofString "any") = some (.builtin "any")
  list : mg (Str.ofString "list") = none ∧ mb (Str.ofString "list") = some (.type "list")
  range : mg (Str.ofString "range") = none ∧ mb (Str.ofString "range") = some (.type "range")
  enum : mg (Str.ofString "enumerate") = none ∧ mb (Str.ofString "enumerate") = some (.type "enumerate")
  tabs : ∀ k v, tab k = some v → ∃ wv, mg (N.tab k) = some wv ∧ VR [] h₀ v wv
  fns : ∀ f fn, P f = some fn → ∃ a o fd body ns, FnOk N h₀ mg f fn a o fd body ns
end Mine

/-! part Sound6 -/
namespace Mine
open PySem PyProof.Rows

section
variable (prog : Program) (w : World) (N : Nm) (h₀ : Heap) (mg : Str → Option Value)

noncomputable def SndE (k : Nat) (f : X → St → Option (V × St)) : Prop :=
  ∀ {A : Around} {E : Value → Shared → Prop} {s : Shared} {T : List Addr} {μ : Nat → Addr} {F : Sc} {st st' : St} {m : Str → Option Value} {e : Expr} {c : X} {v : V} {Q : Value → Shared → Prop},
    CE N F.env.scope F.ns e c → f c st = some (v, st') → Room A k → FOk F → SR h₀ T μ F st s.heap m →
    (∀ wv h' tk, VR (Mx T F μ st'.r) h' v wv → SR h₀ T μ F st' h' m → EK μ st.r st'.r s.heap h' → st'.n = st.n → Q wv { s with heap := h', toks := tk }) →
    wpAny (model prog w) A (eval e F.env) Q E s

noncomputable def SndF (k : Nat) (f : X → St → Option (V × St)) : Prop :=
  ∀ {A : Around} {E : Value → Shared → Prop} {s : Shared} {T : List Addr} {μ : Nat → Addr} {F : Sc} {st st' : St} {m : Str → Option Value} {e : Expr} {c : X} {vs : List V} {Q : Value → Shared → Prop},
    CE N F.env.scope F.ns e c → freshX c = true → f c st = some (.lst vs, st') → Room A k → FOk F → SR h₀ T μ F st s.heap m →
    (∀ a l h' tk, s.heap.get? a = none → a ∉ T → Plain h' a l → VRs (Mx (a :: T) F μ st'.r) h' vs l → SR h₀ (a :: T) μ F st' h' m → EK μ st.r st'.r s.heap h' → st'.n = st.n → Q (.ref a) { s with heap := h', toks := tk }) →
    wpAny (model prog w) A (eval e F.env) Q E s

noncomputable def SndT (k : Nat) (f : X → St → Option (Bool × St)) : Prop :=
  ∀ {A : Around} {E : Value → Shared → Prop} {s : Shared} {T : List Addr} {μ : Nat → Addr} {F : Sc} {st st' : St} {m : Str → Option Value} {e : Expr} {c : X} {b : Bool} {Q : Bool → Shared → Prop},
    CT N F.env.scope F.ns e c → f c st = some (b, st') → Room A k → FOk F → SR h₀ T μ F st s.heap m →
    (∀ h' tk, SR h₀ T μ F st' h' m → EK μ st.r st'.r s.heap h' → st'.n = st.n → Q b { s with heap := h', toks := tk }) →
    wpAny (model prog w) A (isTrue e F.env (eval e F.env)) Q E s

structure SK (μ μ' : Nat → Addr) (F : Sc) (st st' : St) (h h' : Heap) : Prop where
  kept : ∀ b o, b ≠ F.env.locals → b ∉ F.cells → b ∉ ownA μ st.r → h.get? b = some o → h'.get? b = some o
  new : ∀ a, a ∈ ownA μ' st'.r → a ∈ ownA μ st.r ∨ h.get? a = none
  agree : ∀ i, i < st.n → μ' i = μ i
  le : st.n ≤ st'.n
  ex : ∀ b o, h.get? b = some o → ∃ o', h'.get? b = some o'

inductive OutR (M : List Addr) (h : Heap) : Out → Flow → Prop
  | next : OutR M h .next .next
  | ret {v : V} {wv : Value} : VR M h v wv → OutR M h (.ret v) (.ret wv)

noncomputable def SndB (k : Nat) (f : Ss → St → Option (Out × St)) : Prop :=
  ∀ {A : Around} {E : Value → Shared → Prop} {s : Shared} {T : List Addr} {μ : Nat → Addr} {F : Sc} {st st' : St} {m : Str → Option Value} {ss : List Stmt} {c : Ss} {o : Out} {Q : Flow → Shared → Prop},
    CB N F.env.scope F.ns ss c → f c st = some (o, st') → Room A k → FOk F → SR h₀ T μ F st s.heap m → (∀ c ∈ F.cells, c ∉ T) →
    (∀ fl μ' m' h' tk, OutR (Mx T F μ' st'.r) h' o fl → SR h₀ T μ' F st' h' m' → SK μ μ' F st st' s.heap h' → Q fl { s with heap := h', toks := tk }) →
    wpAny (model prog w) A (execs ss F.env) Q E s

structure Shd (M : List Addr) (h : Heap) : Prop where
  fr : ∀ a ∈ M, h₀.get? a = none
  ex : ∀ a ∈ M, ∃ o, h.get? a = some o
  base : ∀ b o, h₀.get? b = some o → h.get? b = some o

noncomputable def SndC (k : Nat) (g : Nat → List V → Option V) : Prop :=
  ∀ {A : Around} {E : Value → Shared → Prop} {s : Shared} {M : List Addr} {f : Nat} {vs : List V} {ws : List Value} {v : V} {fa : Addr} {Q : Value → Shared → Prop},
    g f vs = some v → Room A k → mg (N.fn f) = some (.ref fa) → VRs M s.heap vs ws → Shd h₀ M s.heap →
    (∀ wv h' tk, VR M h' v wv → (∀ b o, s.heap.get? b = some o → h'.get? b = some o) → Q wv { s with heap := h', toks := tk }) →
    wpAny (model prog w) A (call (.ref fa) ws) Q E s

noncomputable def SndM (k : Nat) (g : Nat → List V → List V → Option (V × List V)) : Prop :=
  ∀ {A : Around} {E : Value → Shared → Prop} {s : Shared} {M : List Addr} {f : Nat} {us us' vs : List V} {l ws : List Value} {v : V} {fa a : Addr} {Q : Value → Shared → Prop},
    g f us vs = some (v, us') → Room A k → mg (N.fn f) = some (.ref fa) → a ∈ M → Plain s.heap a l → VRs M s.heap us l → VRs M s.heap vs ws → Shd h₀ M s.heap →
    (∀ wv l' h' tk, VR M h' v wv → Plain h' a l' → VRs M h' us' l' → (∀ b o, b ≠ a → s.heap.get? b = some o → h'.get? b = some o) → Q wv { s with heap := h', toks := tk }) →
    wpAny (model prog w) A (call (.ref fa) (.ref a :: ws)) Q E s
end

section
variable {prog : Program} {w : World} {N : Nm} {P : Nat → Option Fn} {tab : Nat → Option V} {h₀ : Heap} {mg mb : Str → Option Value}
variable {A : Around} {E : Value → Shared → Prop} {s : Shared} {T : List Addr} {μ : Nat → Addr} {F : Sc} {st st' : St} {m : Str → Option Value} {Q : Value → Shared → Prop} {k : Nat} {ev : Ev}

theorem SR.at_h (X : SR h₀ T μ F st s.heap m) (tk : Nat) : SR h₀ T μ F st ({ s with toks := tk } : Shared).heap m := X

/-- a new list -/
theorem alloc_list {h h' : Heap} {a : Addr} {vs : List V} {l : List Value} (hF : FOk F) (X : SR h₀ T μ F st h m) (hv : VRs (Mx T F μ st.r) h vs l) (hk : ∀ b o, h.get? b = some o → h'.get? b = some o)
    (ha : h.get? a = none) (hp : Plain h' a l) : a ∉ T ∧ VRs (Mx (a :: T) F μ st.r) h' vs l ∧ SR h₀ (a :: T) μ F st h' m :=
  ⟨fun hm => (by obtain ⟨o, e⟩ := X.ex a hm; rw [ha] at e; cases e), hv.step (step_new hk ha), X.new hF hk ha (let ⟨n, e⟩ := hp; ⟨_, e⟩)⟩
/-- a new tuple -/
theorem alloc_tup {h h' : Heap} {a : Addr} {vs : List V} {l : List Value} (hF : FOk F) (X : SR h₀ T μ F st h m) (hv : VRs (Mx T F μ st.r) h vs l) (hk : ∀ b o, h.get? b = some o → h'.get? b = some o)
    (ha : h.get? a = none) (hp : Tup h' a l) : VR (Mx T F μ st.r) h' (.tup vs) (.ref a) :=
  .tup hp (fun hm => (by obtain ⟨o, e⟩ := X.M_ex hF hm; rw [ha] at e; cases e)) (hv.step fun b o hb e => ⟨hk b o e, hb⟩)

theorem VR.grow {M : List Addr} {h h' : Heap} {v : V} {wv : Value} (q : VR M h v wv) (hk : ∀ b o, h.get? b = some o → h'.get? b = some o) : VR M h' v wv := q.step fun _ _ hb e => ⟨hk _ _ e, hb⟩
theorem VRs.grow {M : List Addr} {h h' : Heap} {v : List V} {wv : List Value} (q : VRs M h v wv) (hk : ∀ b o, h.get? b = some o → h'.get? b = some o) : VRs M h' v wv := q.step fun _ _ hb e => ⟨hk _ _ e, hb⟩

theorem push_keeps (h : Heap) (o : Obj) : ∀ b ob, h.get? b = some ob → (h.push o).get? b = some ob := fun _ _ e => Heap.get?_push_of_some _ e

/-- a list handed on as a value -/
theorem fresh_val (K : ∀ wv h' tk, VR (Mx T F μ st'.r) h' (.lst vs) wv → SR h₀ T μ F st' h' m → EK μ st.r st'.r s.heap h' → st'.n = st.n → Q wv { s with heap := h', toks := tk })
    {a : Addr} {l : List Value} {h' : Heap} {tk : Nat} (haT : a ∉ T) (hp : Plain h' a l) (hv : VRs (Mx (a :: T) F μ st'.r) h' vs l) (X : SR h₀ (a :: T) μ F st' h' m) (k : EK μ st.r st'.r s.heap h')
    (hn : st'.n = st.n) : Q (.ref a) { s with heap := h', toks := tk } :=
  K _ _ _ (shield_val X haT hp hv) (X.less fun _ h => .tail _ h) k hn

theorem names_glob (hF : FOk F) (X : SR h₀ T μ F st s.heap m) (g : h₀.Ns mainGlobals mg) {nm : Str} {pos : Pos} {v : Value} (hk : F.env.scope.names.lookup nm = some .globalImplicit) (hv : mg nm = some v)
    (hd : (nm == ("__debug__" : Str)) = false) (hQ : Q v s) : wpAny (model prog w) A (eval (.Name nm pos) F.env) Q E s :=
  PySem.Calls.Name_function_global hF.kind hk (PySem.Calls.loadGlobal_global (hF.glob ▸ g.keeps X.base) hv hQ) hd
theorem names_blt (hF : FOk F) (X : SR h₀ T μ F st s.heap m) (g : h₀.Ns mainGlobals mg) (b : h₀.Ns builtinsNs mb) {nm : Str} {pos : Pos} {v : Value} (hk : F.env.scope.names.lookup nm = some .globalImplicit)
    (hv : mg nm = none ∧ mb nm = some v) (hd : (nm == ("__debug__" : Str)) = false) (hQ : Q v s) : wpAny (model prog w) A (eval (.Name nm pos) F.env) Q E s :=
  PySem.Calls.Name_function_global hF.kind hk (PySem.Calls.loadGlobal_builtin (hF.glob ▸ g.keeps X.base) hv.1 (hF.blt ▸ b.keeps X.base) hv.2 hQ) hd

theorem star_no {sc : Scope} {ns : List Str} {e : Expr} {c : X} (h : CE N sc ns e c) (rest : List Expr) (env : Env) : starEach (e :: rest) env = (false, eval e env) :: starEach rest env := by
  cases h <;> rfl

/-- the arguments of a call -/
theorem spl_nil {pos : Pos} {env : Env} {Q : List Value → Shared → Prop} (h : Q [] s) : wpAny (model prog w) A (spliced (backTo pos (starEach [] env))) Q E s := args_nil h
end
end Mine

/-! part Sound7 -/
namespace Mine
open PySem PyProof.Rows

section
variable {prog : Program} {w : World} {N : Nm} {P : Nat → Option Fn} {tab : Nat → Option V} {h₀ : Heap} {mg mb : Str → Option Value}
variable {A : Around} {E : Value → Shared → Prop} {T : List Addr} {μ : Nat → Addr} {F : Sc} {m : Str → Option Value} {k : Nat} {ev : Ev}

theorem snd_evs (IH : SndE prog w N h₀ k ev.e) (hr : Room A k) (hF : FOk F) {pos : Pos} : ∀ (es : List Expr) {xs : Xs} {s : Shared} {st st' : St} {vs : List V} {Q : List Value → Shared → Prop},
    CEs N F.env.scope F.ns es xs → evs ev xs st = some (vs, st') → SR h₀ T μ F st s.heap m →
    (∀ ws h' tk, VRs (Mx T F μ st'.r) h' vs ws → SR h₀ T μ F st' h' m → EK μ st.r st'.r s.heap h' → st'.n = st.n → Q ws { s with heap := h', toks := tk }) →
    wpAny (model prog w) A (spliced (backTo pos (starEach es F.env))) Q E s
  | [], _, s, st, st', vs, Q, hc, he, X, K => by
    cases hc
    cases he
    exact args_nil (K _ _ _ .nil X .refl rfl)
  | e :: es, _, s, st, st', vs, Q, hc, he, X, K => by
    cases hc with
    | cons c1 c2 =>
      unfold evs at he
      split at he
      · rename_i v st1 e1
        split at he
        · rename_i vs2 st2 e2
          cases he
          refine args_cons (IH c1 e1 hr hF X fun wv h1 tk1 r1 X1 k1 n1 => ?_) (star_no c1 _ _)
          refine snd_evs IH hr hF es c2 e2 X1 fun ws h2 tk2 r2 X2 k2 n2 => ?_
          exact K _ _ _ (.cons (r1.lift k2) r2) X2 (k1.trans k2) (n2.trans n1)
        · cases he
      · cases he

variable {s : Shared} {st st' : St} {Q : Value → Shared → Prop} {v : V}

theorem reps_val {M : List Addr} {h : Heap} {vs : List V} {l : List Value} (hv : VRs M h vs l) : ∀ n : Nat, VRs M h (reps vs n) (List.replicate n l).flatten
  | 0 => .nil
  | n + 1 => by
    rw [List.replicate_succ, List.flatten_cons]
    exact hv.append (reps_val hv n)
theorem foldl_append {α : Type} : ∀ (ls : List (Array α)) (acc : Array α), (List.foldl (fun x y => x ++ y) acc ls).toList = acc.toList ++ (ls.map Array.toList).flatten
  | [], acc => by simp
  | x :: ls, acc => by
    rw [List.foldl_cons, foldl_append ls]
    simp
theorem times_list (l : List Value) (x : Int) : (List.foldl (fun x1 x2 => x1 ++ x2) #[] (List.replicate (if l.toArray.isEmpty = true then 0 else x.toNat) l.toArray)) = ((List.replicate x.toNat l).flatten).toArray := by
  apply Array.toList_inj.mp
  rw [foldl_append]
  cases l with
  | nil => simp
  | cons a l => simp

theorem mul_list_raw {l : Addr} {items : List Value} {x : Int} {u : Tok} {Q : Value → Shared → Prop} (hl : Plain s.heap l items) (hlo : -(2 ^ 63 : Int) ≤ x) (hhi : x < 2 ^ 63) (hsz : items.length * x.toNat ≤ 2 ^ 24)
    (h : ∀ h', (∀ b o, s.heap.get? b = some o → h'.get? b = some o) → Plain h' s.heap.objs.size (List.replicate x.toNat items).flatten → Q (.ref s.heap.objs.size) { s with heap := h' }) :
    wpAny (model prog w) A (binaryOp .Mult (.ref l) (.int x u)) Q E s := by
  obtain ⟨n, hl⟩ := hl
  refine wpAny_binaryOp_repeat_ref (T := "list") (U := "int") (by decide) ⟨_, hl, rfl⟩ (fun s' => typeIs_int s' x u) noFill_list_mul F.fills_int_mul F.slot_int_rmul repeat_list F.slot_int_index.lookup
    (call_meets F.slot_int_rmul (typeIs_int s x u) F.entry_int_rmul (F.args_int_rmul_2 _ _) (int___rmul___int_list x u l items.toArray n)
      ⟨hl, rfl, ⟨_, hl, rfl⟩, call_meets F.slot_list_mul ⟨_, hl, rfl⟩ F.entry_list_mul (F.args_list_mul_2 _ _)
        (AutoListH.list___mul___list_int_3 l items.toArray n x u (by simp [Builtin.List.listFitsIndex]; omega) (by simpa using by omega) (by simp [Builtin.List.listTooLong, sizeLine]; omega))
        ⟨hl, ?_⟩⟩)
  refine h _ (fun b o e => Heap.get?_push_of_some _ e) ⟨0, ?_⟩
  rw [← times_list]
  exact Heap.get?_push_size _ rfl

theorem add_list_raw {a b : Addr} {l r : List Value} {Q : Value → Shared → Prop} (ha : Plain s.heap a l) (hb : Plain s.heap b r) (hsz : l.length + r.length ≤ 2 ^ 20)
    (h : ∀ h', (∀ b o, s.heap.get? b = some o → h'.get? b = some o) → Plain h' s.heap.objs.size (l ++ r) → Q (.ref s.heap.objs.size) { s with heap := h' }) :
    wpAny (model prog w) A (binaryOp .Add (.ref a) (.ref b)) Q E s := by
  obtain ⟨n, ha⟩ := ha
  obtain ⟨n', hb⟩ := hb
  refine PySem.P.add_list ha hb (h _ (fun b o e => Heap.get?_push_of_some _ e) ⟨0, ?_⟩) (by simp only [List.size_toArray]; rw [sizeLine_eq]; omega)
  rw [show (l ++ r).toArray = l.toArray ++ r.toArray from by simp]
  exact Heap.get?_push_size _ rfl

/-- operators: an int, or a new list -/
theorem e_bin (IH : SndE prog w N h₀ k ev.e) (hr : Room A k) (hF : FOk F) (X : SR h₀ T μ F st s.heap m) {l r : Expr} {op : Operator} {pos : Pos} {o : Nat} {a b : Mine.X} (ho : opOf o = some op)
    (ca : CE N F.env.scope F.ns l a) (cb : CE N F.env.scope F.ns r b) (he : exprStep ev tab (.bin o a b) st = some (v, st'))
    (KI : ∀ i t h' tk, v = .int i → SR h₀ T μ F st' h' m → EK μ st.r st'.r s.heap h' → st'.n = st.n → Q (.int i t) { s with heap := h', toks := tk })
    (KF : ∀ vs a l h' tk, v = .lst vs → s.heap.get? a = none → a ∉ T → Plain h' a l → VRs (Mx (a :: T) F μ st'.r) h' vs l → SR h₀ (a :: T) μ F st' h' m → EK μ st.r st'.r s.heap h' → st'.n = st.n → Q (.ref a) { s with heap := h', toks := tk }) :
    wpAny (model prog w) A (eval (.BinOp l op r pos) F.env) Q E s := by
  simp only [exprStep] at he
  split at he
  · rename_i va st1 e1
    split at he
    · rename_i vb st2 e2
      split at he
      · rename_i v' e3
        cases he
        refine wpAny_BinOp (IH ca e1 hr hF X fun wa h1 tk1 r1 X1 k1 n1 => IH cb e2 hr hF X1 fun wb h2 tk2 r2 X2 k2 n2 => ?_)
        have r1' := r1.lift k2
        have kk := k1.trans k2
        have nn := n2.trans n1
        cases r1' with
        | int i t =>
          cases r2 with
          | int j u => exact bin_int ho e3 fun i' t' tk' ev' => KI _ _ _ _ ev' X2 kk nn
          | bool _ => cases e3
          | none => cases e3
          | tup _ _ _ => cases e3
          | lst _ _ _ => cases e3
        | bool _ => cases e3
        | none => cases e3
        | tup _ _ _ => cases e3
        | lst pa ha va =>
          cases r2 with
          | int j u =>
            unfold binop at e3
            simp only at e3
            match o with
            | 2 =>
              cases ho
              simp only at e3
              split at e3
              · rename_i n
                split at e3
                · rename_i q1 q2
                  cases e3
                  have q1 := blt_lt q1
                  have q2 := blt_lt q2
                  have hlen := va.length
                  refine mul_list_raw pa (by simp <;> omega) (by simp <;> omega) (by rw [hlen]; simp <;> omega) fun h3 hk3 hp3 => ?_
                  have hv3 : VRs (Mx T F μ st'.r) h2 (reps _ n) (List.replicate n _).flatten := reps_val va n
                  obtain ⟨g1, g2, g3⟩ := alloc_list hF X2 hv3 hk3 (fresh_size _) hp3
                  exact KF _ _ _ _ _ rfl (kk.fresh (fresh_size _)) g1 hp3 g2 g3 (kk.trans (.grow hk3)) nn
                · cases e3
              · cases e3
            | 0 => cases e3
            | 1 => cases e3
            | n + 3 => cases e3
          | bool _ => cases e3
          | none => cases e3
          | tup _ _ _ => cases e3
          | lst pb hb vb =>
            unfold binop at e3
            simp only at e3
            match o with
            | 0 =>
              cases ho
              simp only at e3
              split at e3
              · rename_i q1
                cases e3
                have q1 := blt_lt q1
                have hl1 := va.length
                have hl2 := vb.length
                refine add_list_raw pa pb (by omega) fun h3 hk3 hp3 => ?_
                obtain ⟨g1, g2, g3⟩ := alloc_list hF X2 (va.append vb) hk3 (fresh_size _) hp3
                exact KF _ _ _ _ _ rfl (kk.fresh (fresh_size _)) g1 hp3 g2 g3 (kk.trans (.grow hk3)) nn
              · cases e3
            | n + 1 => cases e3
      · cases he
    · cases he
  · cases he
end
end Mine

/-! part Sound8 -/
namespace Mine
open PySem PyProof.Rows

/-- what is read where it is used up at once: a value, or a list that a variable owns -/
inductive PV (M : List Addr) (h : Heap) : V → Value → Prop
  | val {v : V} {wv : Value} : VR M h v wv → PV M h v wv
  | own {vs : List V} {a : Addr} {l : List Value} : Plain h a l → VRs M h vs l → PV M h (.lst vs) (.ref a)
theorem PV.lst {M : List Addr} {h : Heap} {vs : List V} {wv : Value} (x : PV M h (.lst vs) wv) : ∃ a l, wv = .ref a ∧ Plain h a l ∧ VRs M h vs l := by
  cases x with
  | val q => cases q with
    | lst p _ q => exact ⟨_, _, rfl, p, q⟩
  | own p q => exact ⟨_, _, rfl, p, q⟩
theorem PV.tup {M : List Addr} {h : Heap} {vs : List V} {wv : Value} (x : PV M h (.tup vs) wv) : ∃ a l, wv = .ref a ∧ Tup h a l ∧ VRs M h vs l := by
  cases x with
  | val q => cases q with
    | tup p _ q => exact ⟨_, _, rfl, p, q⟩
theorem contents_pv {M : List Addr} {μ : Nat → Addr} {h : Heap} {r : R} {o : Option Value} {v : V} (x : RV M μ h r o) (e : contents r = some v) : ∃ wv, o = some wv ∧ PV M h v wv := by
  cases x with
  | dead => cases e
  | val q => cases e; exact ⟨_, rfl, .val q⟩
  | own p q => cases e; exact ⟨_, rfl, .own p q⟩
theorem contents_live {r : R} {v : V} (e : contents r = some v) : r ≠ .dead := fun h => by rw [h] at e; cases e

theorem Tup.isTup {h : Heap} {a : Addr} {l : List Value} (x : Tup h a l) : PyProof.Rows.IsTup h a l.toArray := let ⟨o, e, c, n, d⟩ := x; ⟨o, e, c, n, d⟩
theorem Tup.typeIs {s : Shared} {a : Addr} {l : List Value} (x : Tup s.heap a l) : s.TypeIs (.ref a) "tuple" := let ⟨o, e, c, _⟩ := x; ⟨o, e, c⟩

section
variable {prog : Program} {w : World} {N : Nm} {P : Nat → Option Fn} {tab : Nat → Option V} {h₀ : Heap} {mg mb : Str → Option Value}
variable {A : Around} {E : Value → Shared → Prop} {T : List Addr} {μ : Nat → Addr} {F : Sc} {m : Str → Option Value} {k : Nat} {ev : Ev}
variable {s : Shared} {st st' : St} {Q : Value → Shared → Prop} {v : V}

theorem snd_peek (IH : SndE prog w N h₀ k ev.e) (hr : Room A k) (hF : FOk F) (X : SR h₀ T μ F st s.heap m) {e : Expr} {a : Mine.X} (hc : CE N F.env.scope F.ns e a) (he : peek ev a st = some (v, st'))
    (K : ∀ wv h' tk, PV (Mx T F μ st'.r) h' v wv → SR h₀ T μ F st' h' m → EK μ st.r st'.r s.heap h' → st'.n = st.n → Q wv { s with heap := h', toks := tk }) :
    wpAny (model prog w) A (eval e F.env) Q E s := by
  unfold peek at he
  split at he
  · rename_i x
    split at he
    · rename_i v' e1
      cases he
      cases hc with
      | var hx =>
        obtain ⟨c, wv, hcs, hsl, hgo⟩ := eval_name (M := model prog w) (A := A) (E := E) hF X hx (hF.dbg _ _ hx) (contents_live e1)
        obtain ⟨wv', e2, pv⟩ := contents_pv (X.var _ _ _ hx hcs) e1
        rw [hsl] at e2; cases e2
        exact hgo (K _ _ _ pv X .refl rfl)
    · cases he
  · exact IH hc he hr hF X fun wv h' tk r X' k' n' => K _ _ _ (.val r) X' k' n'

theorem e_var (hF : FOk F) (X : SR h₀ T μ F st s.heap m) {nm : Str} {pos : Pos} {x : Nat} (hx : getL F.ns x = some nm) (he : exprStep ev tab (.var x) st = some (v, st'))
    (K : ∀ wv h' tk, VR (Mx T F μ st'.r) h' v wv → SR h₀ T μ F st' h' m → EK μ st.r st'.r s.heap h' → st'.n = st.n → Q wv { s with heap := h', toks := tk }) :
    wpAny (model prog w) A (eval (.Name nm pos) F.env) Q E s := by
  simp only [exprStep] at he
  split at he
  · rename_i v' e1
    cases he
    obtain ⟨c, wv, hcs, hsl, hgo⟩ := eval_name (M := model prog w) (A := A) (E := E) hF X hx (hF.dbg _ _ hx) (by rw [e1]; exact fun z => nomatch z)
    have q := X.var _ _ _ hx hcs
    rw [e1, hsl] at q
    cases q with
    | val q => exact hgo (K _ _ _ q X .refl rfl)
  · rename_i id vs e1
    cases he
    obtain ⟨c, wv, hcs, hsl, hgo⟩ := eval_name (M := model prog w) (A := A) (E := E) hF X hx (hF.dbg _ _ hx) (by rw [e1]; exact fun z => nomatch z)
    have q := X.var _ _ _ hx hcs
    rw [e1, hsl] at q
    obtain ⟨X', q'⟩ := X.freeze hF e1
    cases q with
    | own _ _ => exact hgo (K _ _ _ q' X' (.freeze rfl) rfl)
  · cases he

theorem sub_no {sc : Scope} {ns : List Str} {i : Expr} {c : Mine.X} (h : CE N sc ns i c) (o iv : Value) : subscripted i false o iv = operate [o, iv] (getItem o iv) := by
  cases h <;> rfl

theorem sub_pv {M : List Addr} {b : V} {value slice : Expr} {wb wi : Value} {vi : V} (hs : subscripted slice false wb wi = operate [wb, wi] (getItem wb wi)) (pb : PV M s.heap b wb) (pi : VR M s.heap vi wi)
    (he : idx b vi = some v) (K : ∀ wv, VR M s.heap v wv → Q wv s) : wpAny (model prog w) A (subscriptTail value slice wb wi) Q E s := by
  unfold idx at he
  split at he
  · rename_i i
    split at he
    · rename_i hsm
      have hsm := small_lt hsm
      cases pi with
      | int i t =>
      split at he
      · rename_i vs
        obtain ⟨a, l, rfl, p, q⟩ := pb.lst
        obtain ⟨j, wv, e1, e2, r, e3⟩ := atIdx_get q he
        have hj : j < l.length := (List.getElem?_eq_some_iff.mp e2).1
        rcases e3 with ⟨h0, rfl⟩ | ⟨h0, h1, rfl⟩
        · exact tail_any p.isList.typeIs slot_list_getitem.lookup (wpAny_getItem_list p.isList h0 (by omega) (by simpa using e2) (K _ r)) hs
        · exact tail_any p.isList.typeIs slot_list_getitem.lookup (wpAny_getItem_list_neg p.isList h0 (by simpa using h1) (by omega) (by simpa using e2) (K _ r)) hs
      · rename_i vs
        obtain ⟨a, l, rfl, p, q⟩ := pb.tup
        obtain ⟨j, wv, e1, e2, r, e3⟩ := atIdx_get q he
        exact item_tupleT p.isTup (by omega) (by omega) e1 e2 (K _ r) hs
      · cases he
    · cases he
  · cases he

theorem e_sub (IH : SndE prog w N h₀ k ev.e) (hr : Room A k) (hF : FOk F) (X : SR h₀ T μ F st s.heap m)
    {e i : Expr} {pos : Pos} {a b : Mine.X} (ca : CE N F.env.scope F.ns e a) (cb : CE N F.env.scope F.ns i b) (he : exprStep ev tab (.sub a b) st = some (v, st'))
    (K : ∀ wv h' tk, VR (Mx T F μ st'.r) h' v wv → SR h₀ T μ F st' h' m → EK μ st.r st'.r s.heap h' → st'.n = st.n → Q wv { s with heap := h', toks := tk }) :
    wpAny (model prog w) A (eval (.Subscript e i pos) F.env) Q E s := by
  simp only [exprStep] at he
  split at he
  · rename_i x
    split at he
    · rename_i b0 e0
      split at he
      · rename_i vi st1 e1
        split at he
        · rename_i vb e2
          split at he
          · rename_i v' e3
            cases he
            cases ca with
            | var hx =>
              obtain ⟨c, wv, hcs, hsl, hgo⟩ := eval_name (M := model prog w) (A := A) (E := E) hF X hx (hF.dbg _ _ hx) (contents_live e0)
              refine Subscript_ (hgo (IH cb e1 hr hF X fun wi h1 tk1 r1 X1 k1 n1 => ?_))
              obtain ⟨wv', e4, pv⟩ := contents_pv (X1.var _ _ _ hx hcs) e2
              rw [slot_still X k1 hcs, hsl] at e4; cases e4
              exact sub_pv (s := { s with heap := h1, toks := tk1 }) (sub_no cb _ _) pv r1 e3 fun wv r => K _ _ _ r X1 k1 n1
          · cases he
        · cases he
      · cases he
    · cases he
  · split at he
    · rename_i vb st1 e1
      split at he
      · rename_i vi st2 e2
        split at he
        · rename_i v' e3
          cases he
          refine Subscript_ (IH ca e1 hr hF X fun wb h1 tk1 r1 X1 k1 n1 => IH cb e2 hr hF X1 fun wi h2 tk2 r2 X2 k2 n2 => ?_)
          exact sub_pv (s := { s with heap := h2, toks := tk2 }) (sub_no cb _ _) (.val (r1.lift k2)) r2 e3 fun wv r => K _ _ _ r X2 (k1.trans k2) (n2.trans n1)
        · cases he
      · cases he
    · cases he

theorem slicePick_take (items : List Value) (b : Nat) : slicePick items.toArray none (some (b : Int)) none = (items.take b).toArray := by
  by_cases h : b ≤ items.length
  · rw [slicePick_upto items.toArray b (by simpa using h)]
  · rw [show slicePick items.toArray none (some (b : Int)) none = slicePick items.toArray none none none from ?_, slicePick_all, List.take_of_length_le (by omega)]
    unfold slicePick
    have : sliceBounds none (some (b : Int)) none items.toArray.size = sliceBounds none none none items.toArray.size := by
      simp only [sliceBounds, Option.getD_none]
      have h2 : ¬ ((b : Int) < 0) := by omega
      simp only [h2, if_false, show (1 : Int) > 0 by decide, if_true, List.size_toArray]
      congr 2
      omega
    rw [this]

theorem e_cut (IH : SndE prog w N h₀ k ev.e) (hr : Room A k) (hF : FOk F) (X : SR h₀ T μ F st s.heap m)
    {nm : Str} {p p2 pos : Pos} {hi : Expr} {x : Nat} {c : Mine.X} {vs : List V} (hx : getL F.ns x = some nm) (cb : CE N F.env.scope F.ns hi c) (he : exprStep ev tab (.cut (.var x) c) st = some (v, st'))
    (KF : ∀ vs a l h' tk, v = .lst vs → s.heap.get? a = none → a ∉ T → Plain h' a l → VRs (Mx (a :: T) F μ st'.r) h' vs l → SR h₀ (a :: T) μ F st' h' m → EK μ st.r st'.r s.heap h' → st'.n = st.n → Q (.ref a) { s with heap := h', toks := tk }) :
    wpAny (model prog w) A (eval (.Subscript (.Name nm p) (.Slice none (some hi) none p2) pos) F.env) Q E s := by
  simp only [exprStep] at he
  split at he
  · rename_i b0 e0
    split at he
    · rename_i kk st1 e1
      split at he
      · rename_i us e2
        split at he
        · rename_i q1 q2
          cases he
          obtain ⟨cc, wv, hcs, hsl, hgo⟩ := eval_name (M := model prog w) (A := A) (E := E) (pos := p) hF X hx (hF.dbg _ _ hx) (contents_live e0)
          refine wpAny_Subscript_list_slice (hgo (wpAny_of_eq (evalPart_none _) ?_)) (fun _ _ => rfl)
          rw [evalPart_some]
          refine IH cb e1 hr hF X fun wi h1 tk1 r1 X1 k1 n1 => ?_
          obtain ⟨wv', e4, pv⟩ := contents_pv (X1.var _ _ _ hx hcs) e2
          rw [slot_still X k1 hcs, hsl] at e4; cases e4
          obtain ⟨a, l, rfl, pl, ql⟩ := pv.lst
          have hlen := ql.length
          have q2 := blt_lt q2
          cases r1 with
          | int i t =>
            refine ⟨a, l.toArray, none, some (Int.ofNat kk), rfl, pl.isList, by rw [List.size_toArray, sizeLine_eq]; omega, .none, .int _ _, ?_⟩
            have hk3 : ∀ b o, h1.get? b = some o → ((h1.push { cls := .type "slice", data := .fields #[.none, .int (Int.ofNat kk) t, .none] }).push { cls := .type "list", data := .seq (slicePick l.toArray none (some (Int.ofNat kk)) none) }).get? b = some o :=
              fun b o e => Heap.get?_push_of_some _ (Heap.get?_push_of_some _ e)
            have hz : (h1.push { cls := .type "slice", data := .fields #[.none, .int (Int.ofNat kk) t, .none] }).objs.size = h1.objs.size + 1 := Heap.size_push _ _
            have hp3 : Plain ((h1.push { cls := .type "slice", data := .fields #[.none, .int (Int.ofNat kk) t, .none] }).push { cls := .type "list", data := .seq (slicePick l.toArray none (some (Int.ofNat kk)) none) }) (h1.objs.size + 1) (l.take kk) := by
              refine ⟨0, ?_⟩
              rw [← slicePick_take, ← hz]
              exact Heap.get?_push_size _ rfl
            have hfr : h1.get? (h1.objs.size + 1) = none := by
              cases e : h1.get? (h1.objs.size + 1) with
              | none => rfl
              | some o => exact absurd (Heap.lt_size e) (Nat.not_lt.mpr (Nat.le_succ _))
            obtain ⟨g1, g2, g3⟩ := alloc_list hF X1 (ql.take kk) hk3 hfr hp3
            exact KF _ _ _ _ _ rfl (k1.fresh hfr) g1 hp3 g2 g3 (k1.trans (.grow hk3)) n1
        · cases he
      · cases he
    · cases he
  · cases he
end
end Mine

/-! part Sound9 -/
namespace Mine
open PySem PyProof.Rows PySem.SeqAt

theorem IntsAre.uniq : ∀ {l : List Value} {is js : List Int}, IntsAre l is → IntsAre l js → is = js
  | _, _, _, .nil, .nil => rfl
  | _, _, _, .cons _ _ a, .cons _ _ b => by rw [IntsAre.uniq a b]
theorem Plain.uniq {h : Heap} {a : Addr} {l k : List Value} (x : Plain h a l) (y : Plain h a k) : l = k := by
  obtain ⟨n, e⟩ := x
  obtain ⟨n', e'⟩ := y
  rw [e] at e'
  injection e' with e'
  injection e' with _ _ e'
  injection e' with e'
  exact List.toArray_inj e'

theorem ints_eqAt {A : Around} {s : Shared} {a c : Addr} {l r : List Value} {is js : List Int} (pa : Plain s.heap a l) (pc : Plain s.heap c r) (ha : IntsAre l is) (hc : IntsAre r js) (hu : A.units + 64 < cLine) :
    EqAt A s (.ref a) (.ref c) (decide (is = js)) := by
  have e := eqAt_reads (.list (is.map .int)) (.list (js.map .int)) A s (.ref a) (.ref c) [a] [c] (PySem.W.reads_of_ints pa.isList ha) (PySem.W.reads_of_ints pc.isList hc) ?_ ?_ ?_
  · rw [show PyData.eqv (.list (is.map .int)) (.list (js.map .int)) = decide (is = js) from by
      rw [← PySem.W.ked_eqvAll is js]; rfl] at e
    exact e
  · exact PySem.W.canLayAll0_ints is
  · exact PySem.W.canLayAll0_ints js
  · have h1 : (PyData.list (is.map .int)).depth ≤ 2 := by
      have := PySem.W.depthAll_ints is
      show PyData.depthAll _ + 1 ≤ 2
      omega
    omega

theorem posOf_cons {is js : List Int} {l : List (List Int)} : posOf is (js :: l) = (match eqInts js is with
    | true => some 0
    | false => match posOf is l with
      | some n => some (n + 1)
      | none => none) := rfl
open Classical in
noncomputable def isThat (h : Heap) (is : List Int) (y : Value) : Bool := decide (∃ a l, y = .ref a ∧ Plain h a l ∧ IntsAre l is)
theorem isThat_eq {h : Heap} {is js : List Int} {a : Addr} {l : List Value} (p : Plain h a l) (q : IntsAre l js) : isThat h is (.ref a) = decide (js = is) := by
  unfold isThat
  rw [decide_eq_decide]
  constructor
  · rintro ⟨a', l', e, p', q'⟩
    cases e
    rw [p.uniq p'] at q
    exact IntsAre.uniq q q'
  · rintro rfl
    exact ⟨a, l, rfl, p, q⟩

section
variable {prog : Program} {w : World} {A : Around} {E : Value → Shared → Prop} {s : Shared}

theorem lists_at {M : List Addr} {c : Addr} {r : List Value} {is : List Int} (pc : Plain s.heap c r) (hc : IntsAre r is) (hu : A.units + 64 < cLine) :
    ∀ {vs : List V} {l : List Value} {yss : List (List Int)}, VRs M s.heap vs l → vLists vs = some yss → (∀ y, y ∈ l → EqAt A s y (.ref c) (isThat s.heap is y)) ∧ l.any (isThat s.heap is) = (posOf is yss).isSome ∧
      (∀ n, posOf is yss = some n → ∃ hn : n < l.length, isThat s.heap is l[n] = true ∧ ∀ j (hj : j < l.length), j < n → isThat s.heap is l[j] = false)
  | _, _, _, .nil, e => by
    cases e
    exact ⟨fun _ hy => (nomatch hy), rfl, fun _ h => (nomatch h)⟩
  | _, _, _, .cons (v := v) (w := wv) q qs, e => by
    cases q with
    | lst p hn q =>
      rename_i ys a l'
      unfold vLists at e
      split at e
      · rename_i js r' e1 e2
        cases e
        obtain ⟨i1, i2, i3⟩ := lists_at pc hc hu qs e2
        have hi := intsAre_of q e1
        have hb : isThat s.heap is (.ref a) = eqInts js is := by rw [isThat_eq p hi, eqInts_iff]
        refine ⟨?_, ?_, ?_⟩
        · intro y hy
          rcases List.mem_cons.mp hy with rfl | hy
          · rw [isThat_eq p hi]
            exact ints_eqAt p pc hi hc hu
          · exact i1 y hy
        · rw [List.any_cons, hb, i2, posOf_cons]
          cases eqInts js is with
          | true => rfl
          | false =>
            simp only [Bool.false_or]
            generalize posOf is r' = z
            cases z <;> rfl
        · intro n hn
          rw [posOf_cons] at hn
          cases hq : eqInts js is with
          | true =>
            rw [hq] at hn hb
            cases hn
            exact ⟨Nat.succ_pos _, hb, fun j _ hj => absurd hj (Nat.not_lt_zero _)⟩
          | false =>
            rw [hq] at hn hb
            simp only at hn
            split at hn
            · rename_i n' e3
              cases hn
              obtain ⟨h1, h2, h3⟩ := i3 _ e3
              refine ⟨Nat.succ_lt_succ h1, h2, fun j hj hlt => ?_⟩
              cases j with
              | zero => exact hb
              | succ j => exact h3 j (Nat.lt_of_succ_lt_succ hj) (Nat.lt_of_succ_lt_succ hlt)
            · cases hn
      · cases e
    | int _ _ => cases e
    | bool _ => cases e
    | none => cases e
    | tup _ _ _ => cases e

theorem bools_any {M : List Addr} {h : Heap} {vs : List V} {l : List Value} {bs : List Bool} (hv : VRs M h vs l) (e : vBools vs = some bs) : LSm.BoolsAre l bs := by
  induction vs generalizing bs l with
  | nil => cases hv; cases e; exact .nil
  | cons v vs ih =>
    cases hv with
    | cons r rs =>
      unfold vBools at e
      cases v with
      | bool b =>
        cases r
        simp only at e
        split at e
        · cases e; exact .cons _ (ih rs (by assumption))
        · cases e
      | _ => cases e

theorem any_raw {l : Addr} {vs : List Value} {bs : List Bool} {Q : Value → Shared → Prop} (hh : A.handled = none) (hl : s.heap.IsList l vs.toArray) (hb : LSm.BoolsAre vs bs)
    (h : ∀ h' tk, (∀ b o, s.heap.get? b = some o → h'.get? b = some o) → Q (.bool (bs.any id)) { s with heap := h', toks := tk }) : wpAny (model prog w) A (call (.builtin "any") [.ref l]) Q E s := by
  have hne : l ≠ s.heap.objs.size := by
    obtain ⟨_, q, _⟩ := hl
    exact Nat.ne_of_lt (Heap.lt_size q)
  let it := s.heap.objs.size
  let val := fun i : Nat => (bs[i]?).getD false
  have all : (List.range vs.toArray.size).any val = bs.any id := (congrArg (fun k => (List.range k).any val) (List.size_toArray.trans hb.length)).trans (LSm.range_any bs)
  refine call_any_walk (wpAny_pyIter_list hl ⟨it, [it, l], [it], vs.toArray.size, _, _, val, rfl, Walks.list (A := A.in1) hh _ l hne vs.toArray, ⟨⟨_, Heap.get?_push_size _ rfl, rfl, rfl⟩, hl.push _⟩, ?_, ?_⟩)
  · intro i v s' Q' E' hP hQ
    obtain ⟨b, q, rfl⟩ := hb.get i v (List.getElem?_toArray ▸ hP)
    have hv : val i = b := by show (bs[i]?).getD false = b; rw [q]; rfl
    exact wpAny_truthy_bool (hv ▸ hQ)
  · intro h' tk hk
    exact all ▸ h h' tk (LSm.kept_iter hk)

theorem index_raw {l : Addr} {vs : List Value} {x : Value} {e : Value → Bool} {n : Nat} {Q : Value → Shared → Prop} (hl : Plain s.heap l vs) (hn : n < vs.length) (hs : vs.length < 2 ^ 20)
    (he : ∀ y, y ∈ vs → EqAt A.in1 s y x (e y)) (h1 : e vs[n] = true) (h2 : ∀ j (hj : j < vs.length), j < n → e vs[j] = false)
    (h : Q (.int n s.toks) { s with toks := s.toks + 1 }) : wpAny (model prog w) A (call (.builtin "list.index") [.ref l, x]) Q E s := by
  obtain ⟨c, hl⟩ := hl
  refine call_meets F.slot_list_index ⟨_, hl, rfl⟩ F.entry_list_index (F.args_list_index_2 _ _) (list_indexAt l vs.toArray c none #[] x e n (by simpa using hn) (by omega) (by simpa using h1) (fun m hm hlt => by simpa using h2 m (by simpa using hm) hlt)) ?_
  exact ⟨hl, fun y hy => he y (by simpa using hy), h⟩
end
end Mine

/-! part Sound10 -/
namespace Mine
open PySem PyProof.Rows PySem.SeqAt

section
variable {prog : Program} {w : World} {N : Nm} {P : Nat → Option Fn} {tab : Nat → Option V} {h₀ : Heap} {mg mb : Str → Option Value}
variable {A : Around} {E : Value → Shared → Prop} {T : List Addr} {μ : Nat → Addr} {F : Sc} {m : Str → Option Value} {k : Nat} {ev : Ev}
variable {s : Shared} {st st' : St} {Q : Value → Shared → Prop} {v : V}

theorem e_glob (G : GOk N P tab h₀ mg mb) (hF : FOk F) (X : SR h₀ T μ F st s.heap m) {nm : Str} {pos : Pos} {i : Nat} (hn : N.tab i = nm) (hd : (nm == ("__debug__" : Str)) = false) (hk : F.env.scope.names.lookup nm = some .globalImplicit)
    (he : exprStep ev tab (.glob i) st = some (v, st'))
    (K : ∀ wv h' tk, VR (Mx T F μ st'.r) h' v wv → SR h₀ T μ F st' h' m → EK μ st.r st'.r s.heap h' → st'.n = st.n → Q wv { s with heap := h', toks := tk }) :
    wpAny (model prog w) A (eval (.Name nm pos) F.env) Q E s := by
  simp only [exprStep] at he
  split at he
  · rename_i v' e1
    cases he
    obtain ⟨wv, e2, q⟩ := G.tabs _ _ e1
    rw [hn] at e2
    refine names_glob hF X G.g hk e2 hd (K _ _ _ (q.step fun b o _ e => ⟨X.base _ _ e, fun hm => ?_⟩) X .refl rfl)
    rw [X.fr _ hm] at e; cases e
  · cases he

theorem e_neg (IH : SndE prog w N h₀ k ev.e) (hr : Room A k) (hF : FOk F) (X : SR h₀ T μ F st s.heap m) {e : Expr} {pos : Pos} {a : Mine.X} (ca : CE N F.env.scope F.ns e a) (he : exprStep ev tab (.neg a) st = some (v, st'))
    (K : ∀ wv h' tk, VR (Mx T F μ st'.r) h' v wv → SR h₀ T μ F st' h' m → EK μ st.r st'.r s.heap h' → st'.n = st.n → Q wv { s with heap := h', toks := tk }) :
    wpAny (model prog w) A (eval (.UnaryOp .USub e pos) F.env) Q E s := by
  simp only [exprStep] at he
  split at he
  · rename_i i st1 e1
    cases he
    refine wpAny_UnaryOp (IH ca e1 hr hF X fun wa h1 tk1 r1 X1 k1 n1 => ?_)
    cases r1 with
    | int i t => exact PyProof.Rows.neg_int (K _ _ _ (.int _ _) X1 k1 n1)
  · cases he

/-- a comparison, up to its value -/
theorem cmp_core (IH : SndE prog w N h₀ k ev.e) (hr : Room A k) (hF : FOk F) (X : SR h₀ T μ F st s.heap m) {l r : Expr} {op : CmpOp} {o : Nat} {a b : Mine.X} {va vb : V} {st1 st2 : St} {z : Bool} (ho : cmpOf o = some op)
    (ca : CE N F.env.scope F.ns l a) (cb : CE N F.env.scope F.ns r b) (e1 : ev.e a st = some (va, st1)) (e2 : ev.e b st1 = some (vb, st2)) (e3 : cmpop o va vb = some z)
    (K : ∀ h' tk, SR h₀ T μ F st2 h' m → EK μ st.r st2.r s.heap h' → st2.n = st.n → Q (.bool z) { s with heap := h', toks := tk }) :
    wpAny (model prog w) A (eval l F.env) (fun x s₁ => wpAny (model prog w) A (eval r F.env) (fun y s₂ => wpAny (model prog w) A (compareOp op x y) Q E s₂) E s₁) E s := by
  refine IH ca e1 hr hF X fun wa h1 tk1 r1 X1 k1 n1 => IH cb e2 hr hF X1 fun wb h2 tk2 r2 X2 k2 n2 => ?_
  have r1' := r1.lift k2
  have kk := k1.trans k2
  have nn := n2.trans n1
  have hu : A.units + 64 < cLine := by have := hr.2.2; omega
  cases r1' with
  | int i t =>
    cases r2 with
    | int j u => exact cmp_int ho e3 (K _ _ X2 kk nn)
    | bool _ => cases e3
    | none => cases e3
    | tup _ _ _ => cases e3
    | lst _ _ _ => cases e3
  | bool _ => cases e3
  | none => cases e3
  | tup _ _ _ => cases e3
  | lst pa ha qa =>
    cases r2 with
    | int j u => cases e3
    | bool _ => cases e3
    | none => cases e3
    | tup _ _ _ => cases e3
    | lst pb hb qb => exact cmp_ints (s := { s with heap := h2, toks := tk2 }) ho e3 pa pb qa qb hu (K _ _ X2 kk nn)

theorem e_cmp (IH : SndE prog w N h₀ k ev.e) (hr : Room A k) (hF : FOk F) (X : SR h₀ T μ F st s.heap m) {l r : Expr} {op : CmpOp} {pos : Pos} {o : Nat} {a b : Mine.X} (ho : cmpOf o = some op) (hm : behindInMarks op r = false)
    (ca : CE N F.env.scope F.ns l a) (cb : CE N F.env.scope F.ns r b) (he : exprStep ev tab (.cmp o a b) st = some (v, st'))
    (K : ∀ wv h' tk, VR (Mx T F μ st'.r) h' v wv → SR h₀ T μ F st' h' m → EK μ st.r st'.r s.heap h' → st'.n = st.n → Q wv { s with heap := h', toks := tk }) :
    wpAny (model prog w) A (eval (.Compare l [op] [r] pos) F.env) Q E s := by
  simp only [exprStep] at he
  split at he
  · rename_i va st1 e1
    split at he
    · rename_i vb st2 e2
      split at he
      · rename_i z e3
        cases he
        exact wpAny_Compare1 (cmp_core IH hr hF X ho ca cb e1 e2 e3 fun h' tk X' k' n' => K _ _ _ (.bool _) X' k' n') hm
      · cases he
    · cases he
  · cases he

theorem e_ite (IH : SndE prog w N h₀ k ev.e) (IT : SndT prog w N h₀ k ev.t) (hr : Room A k) (hF : FOk F) (X : SR h₀ T μ F st s.heap m) {c t f : Expr} {pos : Pos} {cc ct cf : Mine.X}
    (c1 : CT N F.env.scope F.ns c cc) (c2 : CE N F.env.scope F.ns t ct) (c3 : CE N F.env.scope F.ns f cf) (he : exprStep ev tab (.ite cc ct cf) st = some (v, st'))
    (K : ∀ wv h' tk, VR (Mx T F μ st'.r) h' v wv → SR h₀ T μ F st' h' m → EK μ st.r st'.r s.heap h' → st'.n = st.n → Q wv { s with heap := h', toks := tk }) :
    wpAny (model prog w) A (eval (.IfExp c t f pos) F.env) Q E s := by
  simp only [exprStep] at he
  split at he
  · rename_i st1 e1
    refine wpAny_IfExp (IT c1 e1 hr hF X fun h1 tk1 X1 k1 n1 => ?_)
    simp only [if_true]
    exact IH c2 he hr hF X1 fun wv h2 tk2 r2 X2 k2 n2 => K _ _ _ r2 X2 (k1.trans k2) (n2.trans n1)
  · rename_i st1 e1
    refine wpAny_IfExp (IT c1 e1 hr hF X fun h1 tk1 X1 k1 n1 => ?_)
    simp only [Bool.false_eq_true, if_false]
    exact IH c3 he hr hF X1 fun wv h2 tk2 r2 X2 k2 n2 => K _ _ _ r2 X2 (k1.trans k2) (n2.trans n1)
  · cases he

theorem e_len (G : GOk N P tab h₀ mg mb) (IH : SndE prog w N h₀ k ev.e) (hr : Room A k) (hF : FOk F) (X : SR h₀ T μ F st s.heap m) {e : Expr} {p pos : Pos} {a : Mine.X}
    (hk : F.env.scope.names.lookup (Str.ofString "len") = some .globalImplicit) (ca : CE N F.env.scope F.ns e a) (he : exprStep ev tab (.len a) st = some (v, st'))
    (K : ∀ wv h' tk, VR (Mx T F μ st'.r) h' v wv → SR h₀ T μ F st' h' m → EK μ st.r st'.r s.heap h' → st'.n = st.n → Q wv { s with heap := h', toks := tk }) :
    wpAny (model prog w) A (eval (.Call (.Name (Str.ofString "len") p) [e] [] pos) F.env) Q E s := by
  refine Call_ (names_blt hF X G.g G.b hk G.len (by decide) (PyProof.Rows.callWith_builtin1 (args_cons ?_ (star_no ca _ _)) (star_no ca _ _)))
  simp only [exprStep] at he
  split at he
  · rename_i vs st1 e1
    split at he
    · rename_i hs
      cases he
      have hs := blt_lt hs
      refine snd_peek IH hr hF X ca e1 fun wv h1 tk1 pv X1 k1 n1 => args_nil ?_
      obtain ⟨a, l, rfl, pl, ql⟩ := pv.lst
      have := ql.length
      refine PySem.Calls.call_len_list pl.isList (by simp only [List.size_toArray]; omega) ?_
      simp only [List.size_toArray, this]
      exact K _ _ _ (.int _ _) X1 k1 n1
    · cases he
  · rename_i vs st1 e1
    split at he
    · rename_i hs
      cases he
      have hs := blt_lt hs
      refine snd_peek IH hr hF X ca e1 fun wv h1 tk1 pv X1 k1 n1 => args_nil ?_
      obtain ⟨a, l, rfl, pl, ql⟩ := pv.tup
      have := ql.length
      refine PyProof.Rows.len_tuple pl.isTup (by simp only [List.size_toArray]; omega) ?_
      simp only [List.size_toArray, this]
      exact K _ _ _ (.int _ _) X1 k1 n1
    · cases he
  · cases he

theorem e_abs (G : GOk N P tab h₀ mg mb) (IH : SndE prog w N h₀ k ev.e) (hr : Room A k) (hF : FOk F) (X : SR h₀ T μ F st s.heap m) {e : Expr} {p pos : Pos} {a : Mine.X}
    (hk : F.env.scope.names.lookup (Str.ofString "abs") = some .globalImplicit) (ca : CE N F.env.scope F.ns e a) (he : exprStep ev tab (.abs a) st = some (v, st'))
    (K : ∀ wv h' tk, VR (Mx T F μ st'.r) h' v wv → SR h₀ T μ F st' h' m → EK μ st.r st'.r s.heap h' → st'.n = st.n → Q wv { s with heap := h', toks := tk }) :
    wpAny (model prog w) A (eval (.Call (.Name (Str.ofString "abs") p) [e] [] pos) F.env) Q E s := by
  refine Call_ (names_blt hF X G.g G.b hk G.abs (by decide) (PyProof.Rows.callWith_builtin1 (args_cons ?_ (star_no ca _ _)) (star_no ca _ _)))
  simp only [exprStep] at he
  split at he
  · rename_i i st1 e1
    cases he
    refine IH ca e1 hr hF X fun wa h1 tk1 r1 X1 k1 n1 => args_nil ?_
    cases r1 with
    | int i t =>
      refine PyProof.Rows.call_abs_int fun u tk => ?_
      rw [show (if i < 0 then -i else i) = (i.natAbs : Int) from by split <;> omega]
      exact K _ _ _ (.int _ _) X1 k1 n1
  · cases he

theorem e_max (G : GOk N P tab h₀ mg mb) (IH : SndE prog w N h₀ k ev.e) (hr : Room A k) (hF : FOk F) (X : SR h₀ T μ F st s.heap m) {e f : Expr} {p pos : Pos} {a b : Mine.X}
    (hk : F.env.scope.names.lookup (Str.ofString "max") = some .globalImplicit) (ca : CE N F.env.scope F.ns e a) (cb : CE N F.env.scope F.ns f b) (he : exprStep ev tab (.max a b) st = some (v, st'))
    (K : ∀ wv h' tk, VR (Mx T F μ st'.r) h' v wv → SR h₀ T μ F st' h' m → EK μ st.r st'.r s.heap h' → st'.n = st.n → Q wv { s with heap := h', toks := tk }) :
    wpAny (model prog w) A (eval (.Call (.Name (Str.ofString "max") p) [e, f] [] pos) F.env) Q E s := by
  refine Call_ (names_blt hF X G.g G.b hk G.max (by decide) (PyProof.Rows.callWith_builtin1 (args_cons ?_ (star_no ca _ _)) (star_no ca _ _) (by rw [star_no cb]; rfl)))
  simp only [exprStep] at he
  split at he
  · rename_i i st1 e1
    split at he
    · rename_i j st2 e2
      cases he
      refine IH ca e1 hr hF X fun wa h1 tk1 r1 X1 k1 n1 => args_cons (IH cb e2 hr hF X1 fun wb h2 tk2 r2 X2 k2 n2 => args_nil ?_) (star_no cb _ _)
      cases r1 with
      | int i t =>
      cases r2 with
      | int j u =>
        refine max_two_ints hr.1 fun h3 tk3 hk3 => ?_
        have := K (if j > i then .int j u else .int i t) h3 tk3 (by
          by_cases q : i < j
          · rw [if_pos q, if_pos q]; exact .int _ _
          · rw [if_neg q, if_neg q]; exact .int _ _) (X2.grow hk3) ((k1.trans k2).trans (.grow hk3)) (n2.trans n1)
        exact this
    · cases he
  · cases he

theorem e_list (G : GOk N P tab h₀ mg mb) (IH : SndE prog w N h₀ k ev.e) (hr : Room A k) (hF : FOk F) (X : SR h₀ T μ F st s.heap m) {e : Expr} {p pos : Pos} {a : Mine.X}
    (hk : F.env.scope.names.lookup (Str.ofString "list") = some .globalImplicit) (ca : CE N F.env.scope F.ns e a) (he : exprStep ev tab (.list a) st = some (v, st'))
    (KF : ∀ vs a l h' tk, v = .lst vs → s.heap.get? a = none → a ∉ T → Plain h' a l → VRs (Mx (a :: T) F μ st'.r) h' vs l → SR h₀ (a :: T) μ F st' h' m → EK μ st.r st'.r s.heap h' → st'.n = st.n → Q (.ref a) { s with heap := h', toks := tk }) :
    wpAny (model prog w) A (eval (.Call (.Name (Str.ofString "list") p) [e] [] pos) F.env) Q E s := by
  refine Call_ (names_blt hF X G.g G.b hk G.list (by decide) (PyProof.Rows.callWith_type1 (args_cons ?_ (star_no ca _ _)) (star_no ca _ _)))
  have fin : ∀ (T' : String) (h1 : Heap) (tk1 : Nat) (st1 : St) (vs : List V) (b : Addr) (l : List Value) (o : Obj) (n : Nat), (T' = "list" ∨ T' = "tuple") → h1.get? b = some o → o.cls = .type T' → o.data = .seq l.toArray n → vs.length < 1000 →
      VRs (Mx T F μ st1.r) h1 vs l → v = .lst vs → st' = st1 → SR h₀ T μ F st1 h1 m → EK μ st.r st1.r s.heap h1 → st1.n = st.n → wpAny (model prog w) A (call (.type "list") [.ref b]) Q E { s with heap := h1, toks := tk1 } := by
    intro T' h1 tk1 st1 vs b l o n hT ho hc hd hlt hv e1 e2 X1 k1 n1
    subst e1 e2
    have := hv.length
    refine call_list_seq b hT ho hc hd (fun h2 c2 hk2 hp2 => ?_) (by rw [List.size_toArray, sizeLine_eq]; omega)
    have hp : Plain h2 h1.objs.size l := ⟨c2, hp2⟩
    obtain ⟨g1, g2, g3⟩ := alloc_list hF X1 hv hk2 (fresh_size _) hp
    exact KF _ _ _ _ _ rfl (k1.fresh (fresh_size _)) g1 hp g2 g3 (k1.trans (.grow hk2)) n1
  simp only [exprStep] at he
  split at he
  · rename_i vs st1 e1
    split at he
    · rename_i hs
      cases he
      have hs := blt_lt hs
      refine snd_peek IH hr hF X ca e1 fun wv h1 tk1 pv X1 k1 n1 => args_nil ?_
      obtain ⟨b, l, rfl, ⟨n, pl⟩, ql⟩ := pv.lst
      exact fin "list" _ _ _ _ b l _ n (.inl rfl) pl rfl rfl hs ql rfl rfl X1 k1 n1
    · cases he
  · rename_i vs st1 e1
    split at he
    · rename_i hs
      cases he
      have hs := blt_lt hs
      refine snd_peek IH hr hF X ca e1 fun wv h1 tk1 pv X1 k1 n1 => args_nil ?_
      obtain ⟨b, l, rfl, ⟨o, po, pc, n, pd⟩, ql⟩ := pv.tup
      exact fin "tuple" _ _ _ _ b l o n (.inr rfl) po pc pd hs ql rfl rfl X1 k1 n1
    · cases he
  · cases he

theorem any_core (G : GOk N P tab h₀ mg mb) (IH : SndE prog w N h₀ k ev.e) (hr : Room A k) (hF : FOk F) (X : SR h₀ T μ F st s.heap m) {e : Expr} {p pos : Pos} {a : Mine.X} {vs : List V} {bs : List Bool}
    (hk : F.env.scope.names.lookup (Str.ofString "any") = some .globalImplicit) (ca : CE N F.env.scope F.ns e a) (e1 : ev.e a st = some (.lst vs, st')) (e2 : vBools vs = some bs)
    (K : ∀ h' tk, SR h₀ T μ F st' h' m → EK μ st.r st'.r s.heap h' → st'.n = st.n → Q (.bool (bs.any id)) { s with heap := h', toks := tk }) :
    wpAny (model prog w) A (eval (.Call (.Name (Str.ofString "any") p) [e] [] pos) F.env) Q E s := by
  refine Call_ (names_blt hF X G.g G.b hk G.any (by decide) (PyProof.Rows.callWith_builtin1 (args_cons ?_ (star_no ca _ _)) (star_no ca _ _)))
  refine IH ca e1 hr hF X fun wa h1 tk1 r1 X1 k1 n1 => args_nil ?_
  cases r1 with
  | lst pa ha qa =>
    exact any_raw hr.1 pa.isList (bools_any qa e2) fun h2 tk2 hk2 => K _ _ (X1.grow hk2) (k1.trans (.grow hk2)) n1

theorem e_any (G : GOk N P tab h₀ mg mb) (IH : SndE prog w N h₀ k ev.e) (hr : Room A k) (hF : FOk F) (X : SR h₀ T μ F st s.heap m) {e : Expr} {p pos : Pos} {a : Mine.X}
    (hk : F.env.scope.names.lookup (Str.ofString "any") = some .globalImplicit) (ca : CE N F.env.scope F.ns e a) (he : exprStep ev tab (.any a) st = some (v, st'))
    (K : ∀ wv h' tk, VR (Mx T F μ st'.r) h' v wv → SR h₀ T μ F st' h' m → EK μ st.r st'.r s.heap h' → st'.n = st.n → Q wv { s with heap := h', toks := tk }) :
    wpAny (model prog w) A (eval (.Call (.Name (Str.ofString "any") p) [e] [] pos) F.env) Q E s := by
  simp only [exprStep] at he
  split at he
  · rename_i vs st1 e1
    split at he
    · rename_i bs e2
      cases he
      exact any_core G IH hr hF X hk ca e1 e2 fun h' tk X' k' n' => K _ _ _ (.bool _) X' k' n'
    · cases he
  · cases he

theorem e_tup (IH : SndE prog w N h₀ k ev.e) (hr : Room A k) (hF : FOk F) (X : SR h₀ T μ F st s.heap m) {es : List Expr} {kk : Nat} {pos : Pos} {xs : Xs} (ca : CEs N F.env.scope F.ns es xs) (he : exprStep ev tab (.tup xs) st = some (v, st'))
    (K : ∀ wv h' tk, VR (Mx T F μ st'.r) h' v wv → SR h₀ T μ F st' h' m → EK μ st.r st'.r s.heap h' → st'.n = st.n → Q wv { s with heap := h', toks := tk }) :
    wpAny (model prog w) A (eval (.Tuple es kk pos) F.env) Q E s := by
  simp only [exprStep] at he
  split at he
  · rename_i vs st1 e1
    split at he
    · rename_i hs
      cases he
      have hs := blt_lt hs
      refine Tuple_ (snd_evs IH hr hF es ca e1 X fun ws h1 tk1 r1 X1 k1 n1 => ?_)
      have := r1.length
      refine wpAny_newTuple ?_ (by rw [sizeLine_eq]; omega)
      have hk2 := push_keeps h1 { cls := .type "tuple", data := .seq ws.toArray }
      exact K _ _ _ (alloc_tup hF X1 r1 hk2 (fresh_size _) ⟨_, Heap.get?_push_size _ rfl, rfl, 0, rfl⟩) (X1.grow hk2) (k1.trans (.grow hk2)) n1
    · cases he
  · cases he

theorem e_disp (IH : SndE prog w N h₀ k ev.e) (hr : Room A k) (hF : FOk F) (X : SR h₀ T μ F st s.heap m) {es : List Expr} {pos : Pos} {xs : Xs} (ca : CEs N F.env.scope F.ns es xs) (he : exprStep ev tab (.disp xs) st = some (v, st'))
    (KF : ∀ vs a l h' tk, v = .lst vs → s.heap.get? a = none → a ∉ T → Plain h' a l → VRs (Mx (a :: T) F μ st'.r) h' vs l → SR h₀ (a :: T) μ F st' h' m → EK μ st.r st'.r s.heap h' → st'.n = st.n → Q (.ref a) { s with heap := h', toks := tk }) :
    wpAny (model prog w) A (eval (.List es pos) F.env) Q E s := by
  simp only [exprStep] at he
  split at he
  · rename_i vs st1 e1
    split at he
    · rename_i hs
      cases he
      have hs := blt_lt hs
      refine List_ (snd_evs IH hr hF es ca e1 X fun ws h1 tk1 r1 X1 k1 n1 => ?_)
      have := r1.length
      refine wpAny_newList ?_ (by rw [sizeLine_eq]; omega)
      have hk2 := push_keeps h1 { cls := .type "list", data := .seq ws.toArray }
      have hp : Plain (h1.push { cls := .type "list", data := .seq ws.toArray }) h1.objs.size ws := ⟨0, Heap.get?_push_size _ rfl⟩
      obtain ⟨g1, g2, g3⟩ := alloc_list hF X1 r1 hk2 (fresh_size _) hp
      exact KF _ _ _ _ _ rfl (k1.fresh (fresh_size _)) g1 hp g2 g3 (k1.trans (.grow hk2)) n1
    · cases he
  · cases he

theorem SR.shd (X : SR h₀ T μ F st s.heap m) (hF : FOk F) : Shd h₀ (Mx T F μ st.r) s.heap := ⟨X.fr, fun _ ha => X.M_ex hF ha, X.base⟩

theorem e_call (G : GOk N P tab h₀ mg mb) (IH : SndE prog w N h₀ k ev.e) (IC : SndC prog w N h₀ mg k ev.c) (hr : Room A k) (hF : FOk F) (X : SR h₀ T μ F st s.heap m) {nm : Str} {p pos : Pos} {e : Expr} {es : List Expr} {f : Nat}
    {x : Mine.X} {xs : Xs} (hP : ∀ vs v, ev.c f vs = some v → ∃ fn, P f = some fn) (hn : N.fn f = nm) (hd : (nm == ("__debug__" : Str)) = false) (hk : F.env.scope.names.lookup nm = some .globalImplicit)
    (c1 : CE N F.env.scope F.ns e x) (c2 : CEs N F.env.scope F.ns es xs) (he : exprStep ev tab (.call f (.cons x xs)) st = some (v, st'))
    (K : ∀ wv h' tk, VR (Mx T F μ st'.r) h' v wv → SR h₀ T μ F st' h' m → EK μ st.r st'.r s.heap h' → st'.n = st.n → Q wv { s with heap := h', toks := tk }) :
    wpAny (model prog w) A (eval (.Call (.Name nm p) (e :: es) [] pos) F.env) Q E s := by
  simp only [exprStep] at he
  split at he
  · rename_i vs st1 e1
    split at he
    · rename_i v' e2
      cases he
      obtain ⟨fn, hfn⟩ := hP _ _ e2
      obtain ⟨fa, o, fd, body, ns, fo⟩ := G.fns _ _ hfn
      have hg := fo.g
      rw [hn] at hg
      refine Call_ (names_glob hF X G.g hk hg hd (callWith_def_at (h' := h₀) fo.ho fo.hd ?_ (star_no c1 _ _)))
      refine snd_evs IH hr hF (e :: es) (.cons c1 c2) e1 X fun ws h1 tk1 r1 X1 k1 n1 => ⟨X1.base _ _ fo.ho, ?_⟩
      refine IC (s := { s with heap := h1, toks := tk1 }) e2 hr fo.g r1 (SR.shd (s := { s with heap := h1, toks := tk1 }) X1 hF) fun wv h2 tk2 r2 hk2 => ?_
      exact K _ _ _ r2 (X1.grow hk2) (k1.trans (.grow hk2)) n1
    · cases he
  · cases he
end
end Mine

/-! part Sound11 -/
namespace Mine
open PySem PyProof.Rows PySem.SeqAt

section
variable {prog : Program} {w : World} {N : Nm} {P : Nat → Option Fn} {tab : Nat → Option V} {h₀ : Heap} {mg mb : Str → Option Value}
variable {A : Around} {E : Value → Shared → Prop} {T : List Addr} {μ μ' : Nat → Addr} {F : Sc} {m : Str → Option Value} {k : Nat} {ev : Ev}
variable {s : Shared} {st st' : St} {v : V}

/-- new objects, shielded -/
theorem SR.news {h h' : Heap} (hF : FOk F) (hk : ∀ b o, h.get? b = some o → h'.get? b = some o) : ∀ (W : List Addr) (_ : SR h₀ T μ F st h m) (_ : ∀ a ∈ W, h.get? a = none ∧ ∃ o, h'.get? a = some o),
    SR h₀ (W ++ T) μ F st h' m ∧ Step (Mx T F μ st.r) h (Mx (W ++ T) F μ st.r) h'
  | [], X, _ => ⟨X.grow hk, fun b o hb e => ⟨hk b o e, hb⟩⟩
  | a :: W, X, hW => by
    obtain ⟨Y, hs⟩ := SR.news hF hk W X fun b hb => hW b (.tail _ hb)
    obtain ⟨ha, ha'⟩ := hW a (.head _)
    have ne : ∀ b o, h.get? b = some o → b ≠ a := fun b o e q => by rw [q, ha] at e; cases e
    have hst : Step (Mx T F μ st.r) h (Mx (a :: (W ++ T)) F μ st.r) h' := fun b o hb e => by
      obtain ⟨h1, h2⟩ := hs b o hb e
      refine ⟨h1, fun hm => ?_⟩
      rcases mem_Mx.mp hm with q | q | q | q
      · exact h2 (mem_Mx.mpr (.inl q))
      · exact h2 (mem_Mx.mpr (.inr (.inl q)))
      · rcases List.mem_cons.mp q with q | q
        · exact ne _ _ e q
        · exact h2 (mem_Mx.mpr (.inr (.inr (.inl q))))
      · exact h2 (mem_Mx.mpr (.inr (.inr (.inr q))))
    refine ⟨{ Y with var := ?_, disj := ?_, LT := ?_, ex := ?_, fr := ?_ }, hst⟩
    · intro y nm c e1 e2
      have q := X.var y nm c e1 e2
      have hs : slot h' m nm c = slot h m nm c := by
        refine slot_eq fun a ea => ?_
        subst ea
        obtain ⟨o, w, ho, _⟩ := X.cell_ex (cellsL_mem e2)
        rw [ho, hk _ _ ho]
      rw [hs]
      exact q.step hst fun _ _ _ _ e => hk _ _ e
    · intro b hb
      obtain ⟨h1, h2, h3⟩ := Y.disj b hb
      refine ⟨h1, h2, fun hm => ?_⟩
      rcases List.mem_cons.mp hm with q | q
      · obtain ⟨l, n, e⟩ := X.own_ex hF hb
        exact ne _ _ e q
      · exact h3 q
    · intro hm
      rcases List.mem_cons.mp hm with q | q
      · obtain ⟨o, _, _, e, _⟩ := X.ns
        exact ne _ _ e q
      · exact Y.LT q
    · intro b hb
      rcases List.mem_cons.mp hb with rfl | hb
      · exact ha'
      · exact Y.ex b hb
    · intro b hb
      rcases mem_Mx.mp hb with h1 | h1 | h1 | h1
      · exact Y.fr b (mem_Mx.mpr (.inl h1))
      · exact Y.fr b (mem_Mx.mpr (.inr (.inl h1)))
      · rcases List.mem_cons.mp h1 with h1 | h1
        · subst h1
          cases q : h₀.get? b with
          | none => rfl
          | some o => rw [X.base _ _ q] at ha; cases ha
        · exact Y.fr b (mem_Mx.mpr (.inr (.inr (.inl h1))))
      · exact Y.fr b (mem_Mx.mpr (.inr (.inr (.inr h1))))

/-- an iterator and what it will still yield -/
inductive IT (M : List Addr) (h : Heap) : Bool → List Addr → Value → List V → Prop
  | list {it l : Addr} {i : Nat} {items : List Value} {vs : List V} : h.IsListIter it l i → Plain h l items → l ∉ M → VRs M h vs (items.drop i) → IT M h false [it] (.ref it) vs
  | range {it : Addr} {x left step : Int} {n : Nat} : IsRangeIter h it x left step → left = n → IT M h false [it] (.ref it) (intsFrom x step n)
  | enum {e it l : Addr} {i : Nat} {old : Value} {items : List Value} {vs : List V} : IsEnum h e it i old → h.IsListIter it l i → Plain h l items → l ∉ M → VRs M h vs (items.drop i) → e ≠ it →
      IT M h true [e, it] (.ref e) (numbered i vs)

theorem IT.step {M M' : List Addr} {h h' : Heap} {en : Bool} {W : List Addr} {it : Value} {vs : List V} (x : IT M h en W it vs) (H : Step M h M' h') (hW : ∀ a ∈ W, ∀ o, h.get? a = some o → h'.get? a = some o) : IT M' h' en W it vs := by
  cases x with
  | list a p n q => obtain ⟨c, pe⟩ := p; exact .list (a.at fun o e => hW _ (.head _) o e) ⟨c, (H _ _ n pe).1⟩ (H _ _ n pe).2 (q.step H)
  | range a b => exact .range (hW _ (.head _) _ a) b
  | enum a b p n q ne => obtain ⟨c, pe⟩ := p; exact .enum (hW _ (.head _) _ a) (b.at fun o e => hW _ (.tail _ (.head _)) o e) ⟨c, (H _ _ n pe).1⟩ (H _ _ n pe).2 (q.step H) ne

theorem src_fold {sc : Scope} {ns : List Str} {iter : Expr} {src : Src} (h : CSrc N sc ns iter src) (env : Env) : ∀ x, foldedSetIterable iter env x = pure x := by
  intro x
  cases h with
  | lst h => cases h <;> rfl
  | enum => rfl
  | rng1 => rfl
  | rng2 => rfl
  | rng3 => rfl

theorem intsFrom_len (a c : Int) : ∀ n : Nat, (intsFrom a c n).length = n
  | 0 => rfl
  | n + 1 => by show (intsFrom (a + c) c n).length + 1 = _; rw [intsFrom_len]

theorem rsize_up (a b : Int) : Builtin.Range.rangeSize a b 1 = ((b - a).toNat : Int) := by
  rw [rangeSize_one]
  split <;> omega
variable {Q : Value → Shared → Prop}

/-- a range's iterator -/
theorem range_src (hF : FOk F) (X : SR h₀ T μ F st s.heap m) {a b c : Int} {t u v : Tok} {n : Nat} (hsm : Builtin.Range.small a b c = true) (hsz : Builtin.Range.rangeSize a b c = (n : Int)) {tk0 : Nat}
    (K : ∀ it W h' tk, IT (Mx (W ++ T) F μ st.r) h' false W it (intsFrom a c n) → SR h₀ (W ++ T) μ F st h' m → (∀ b o, s.heap.get? b = some o → h'.get? b = some o) → (∀ a ∈ W, s.heap.get? a = none) → Q it { s with heap := h', toks := tk }) :
    wpAny (model prog w) A (pyIter (.ref s.heap.objs.size)) Q E { s with heap := s.heap.push { cls := .type "range", data := .fields #[.int a t, .int b u, .int c v] }, toks := tk0 } := by
  refine wpAny_pyIter_range (IsRange.new _ _ _ _ _ _ _) hsm ?_
  generalize hh1 : s.heap.push { cls := .type "range", data := .fields #[.int a t, .int b u, .int c v] } = h1
  have hz : h1.objs.size = s.heap.objs.size + 1 := by rw [← hh1]; exact Heap.size_push _ _
  have hk1 : ∀ b o, s.heap.get? b = some o → h1.get? b = some o := fun b o e => by rw [← hh1]; exact Heap.get?_push_of_some _ e
  have hit : IsRangeIter (h1.push { cls := .type "range_iterator", data := .fields #[rawInt a, rawInt (Builtin.Range.rangeSize a b c), rawInt c] }) h1.objs.size a (Builtin.Range.rangeSize a b c) c := Heap.get?_push_size _ rfl
  have hk : ∀ b' o, s.heap.get? b' = some o → (h1.push { cls := .type "range_iterator", data := .fields #[rawInt a, rawInt (Builtin.Range.rangeSize a b c), rawInt c] }).get? b' = some o :=
    fun b o e => Heap.get?_push_of_some _ (hk1 b o e)
  have hfr : ∀ x ∈ [h1.objs.size], s.heap.get? x = none := fun x hx => by
    rw [List.mem_singleton.mp hx]
    cases e : s.heap.get? h1.objs.size with
    | none => rfl
    | some o => exact absurd (Heap.lt_size (hk1 _ _ e)) (Nat.lt_irrefl _)
  refine K (.ref h1.objs.size) [h1.objs.size] _ _ (.range hit hsz) ?_ hk hfr
  refine (SR.news hF hk [h1.objs.size] X fun x hx => ⟨hfr x hx, ?_⟩).1
  rw [List.mem_singleton.mp hx]
  exact ⟨_, hit⟩

theorem fresh_of {h h' : Heap} {a : Addr} (hk : ∀ b o, h.get? b = some o → h'.get? b = some o) (ha : h'.objs.size ≤ a) : h.get? a = none := by
  cases e : h.get? a with
  | none => rfl
  | some o => exact absurd (Heap.lt_size (hk _ _ e)) (Nat.not_lt.mpr ha)

theorem snd_src (G : GOk N P tab h₀ mg mb) (IH : SndE prog w N h₀ k ev.e) (hr : Room A k) (hF : FOk F) (X : SR h₀ T μ F st s.heap m) {iter : Expr} {src : Src} {vs : List V} (hc : CSrc N F.env.scope F.ns iter src)
    (he : items ev src st = some (vs, st'))
    (K : ∀ en it W h' tk, (en = true → ∃ a, src = .enum a) → vs.length < 1000 → IT (Mx (W ++ T) F μ st'.r) h' en W it vs → SR h₀ (W ++ T) μ F st' h' m → EK μ st.r st'.r s.heap h' → st'.n = st.n → (∀ a ∈ W, s.heap.get? a = none) → Q it { s with heap := h', toks := tk }) :
    wpAny (model prog w) A (eval iter F.env) (fun x s₁ => wpAny (model prog w) A (pyIter x) Q E s₁) E s := by
  cases hc with
  | lst hc =>
    simp only [items] at he
    split at he
    · rename_i us st1 e1
      split at he
      · rename_i hs
        cases he
        refine IH hc e1 hr hF X fun wa h1 tk1 r1 X1 k1 n1 => ?_
        cases r1 with
        | lst p hn q =>
          rename_i a l
          refine wpAny_pyIter_list p.isList ?_
          have hk := push_keeps h1 { cls := .type "list_iterator", data := .fields #[.ref a, .int 0 0] }
          have hit : (h1.push { cls := .type "list_iterator", data := .fields #[.ref a, .int 0 0] }).IsListIter h1.objs.size a 0 := ⟨_, Heap.get?_push_size _ rfl, rfl, rfl⟩
          obtain ⟨X2, hst⟩ := SR.news hF hk [h1.objs.size] X1 fun x hx => ⟨by rw [List.mem_singleton.mp hx]; exact fresh_size _, by rw [List.mem_singleton.mp hx]; obtain ⟨o, e, _⟩ := hit; exact ⟨o, e⟩⟩
          obtain ⟨c, pe⟩ := p
          have hst' := hst _ _ hn pe
          refine K false _ [h1.objs.size] _ _ (fun z => nomatch z) (blt_lt hs) (.list hit ⟨c, hst'.1⟩ hst'.2 (q.step hst)) X2 (k1.trans (.grow hk)) n1 fun x hx => ?_
          rw [List.mem_singleton.mp hx]
          exact k1.fresh (fresh_size _)
      · cases he
    · cases he
  | enum hk hc =>
    refine Call_ (names_blt hF X G.g G.b hk G.enum (by decide) (PyProof.Rows.callWith_type1 (args_cons ?_ (star_no hc _ _)) (star_no hc _ _)))
    simp only [items] at he
    split at he
    · rename_i us st1 e1
      split at he
      · rename_i hs
        cases he
        refine IH hc e1 hr hF X fun wa h1 tk1 r1 X1 k1 n1 => args_nil ?_
        cases r1 with
        | lst p hn q =>
          rename_i a l
          obtain ⟨c, pe⟩ := p
          refine call_enumerate_1 pe fun h2 hE hI hz hk => ?_
          have hfr : ∀ x ∈ [h1.objs.size + 1, h1.objs.size], h1.get? x = none := fun x hx => by
            rcases List.mem_cons.mp hx with rfl | hx
            · cases e : h1.get? (h1.objs.size + 1) with
              | none => rfl
              | some o => exact absurd (Heap.lt_size e) (Nat.not_lt.mpr (Nat.le_succ _))
            · rw [List.mem_singleton.mp hx]; exact fresh_size _
          refine wpAny_pyIter_enum hE ?_
          obtain ⟨X2, hst⟩ := SR.news hF hk [h1.objs.size + 1, h1.objs.size] X1 fun x hx => ⟨hfr x hx, by
            rcases List.mem_cons.mp hx with rfl | hx
            · exact ⟨_, hE⟩
            · rw [List.mem_singleton.mp hx]; obtain ⟨o, e, _⟩ := hI; exact ⟨o, e⟩⟩
          have hst' := hst _ _ hn pe
          exact K true _ [h1.objs.size + 1, h1.objs.size] _ _ (fun _ => ⟨_, rfl⟩) (by
            have : ∀ (vs : List V) (i : Nat), (numbered i vs).length = vs.length := fun vs => by
              induction vs with
              | nil => intro _; rfl
              | cons v vs ih => intro i; show (numbered (i + 1) vs).length + 1 = _; rw [ih]; rfl
            rw [this]; exact blt_lt hs) (.enum (i := 0) hE hI ⟨c, hst'.1⟩ hst'.2 (q.step hst) (Nat.succ_ne_self _)) X2 (k1.trans (.grow hk)) n1 fun x hx => k1.fresh (hfr x hx)
      · cases he
    · cases he
  | rng1 hk hc =>
    refine Call_ (names_blt hF X G.g G.b hk G.range (by decide) (PyProof.Rows.callWith_type1 (args_cons ?_ (star_no hc _ _)) (star_no hc _ _)))
    simp only [items] at he
    split at he
    · rename_i i st1 e1
      split at he
      · rename_i hs1 hs2
        cases he
        refine IH hc e1 hr hF X fun wa h1 tk1 r1 X1 k1 n1 => args_nil ?_
        cases r1 with
        | int i t =>
          have b1 := small_lt hs1
          refine call_range_1 ?_
          refine range_src (s := { s with heap := h1, toks := tk1 }) hF X1 (small_one (by decide) (by decide) (by omega) (by omega)) (by rw [rsize_up, Int.sub_zero]) fun it W h2 tk2 I2 X2 hk2 hf2 => ?_
          exact K false _ W _ _ (fun z => nomatch z) (by rw [intsFrom_len]; exact blt_lt hs2) I2 X2 (k1.trans (.grow hk2)) n1 fun x hx => k1.fresh (hf2 x hx)
      · cases he
    · cases he
  | rng2 hk c1 c2 =>
    refine Call_ (names_blt hF X G.g G.b hk G.range (by decide) (PyProof.Rows.callWith_type1 (args_cons ?_ (star_no c1 _ _)) (star_no c1 _ _) (by rw [star_no c2]; rfl)))
    simp only [items] at he
    split at he
    · rename_i i st1 e1
      split at he
      · rename_i j st2 e2
        split at he
        · rename_i hs1 hs2 hs3
          cases he
          refine IH c1 e1 hr hF X fun wa h1 tk1 r1 X1 k1 n1 => args_cons (IH c2 e2 hr hF X1 fun wb h2 tk2 r2 X2 k2 n2 => args_nil ?_) (star_no c2 _ _)
          cases r1 with
          | int i t =>
          cases r2 with
          | int j u =>
            have b1 := small_lt hs1
            have b2 := small_lt hs2
            refine call_range_2 ?_
            refine range_src (s := { s with heap := h2, toks := tk2 }) hF X2 (small_one (by omega) (by omega) (by omega) (by omega)) (rsize_up _ _) fun it W h3 tk3 I3 X3 hk3 hf3 => ?_
            exact K false _ W _ _ (fun z => nomatch z) (by rw [intsFrom_len]; exact blt_lt hs3) I3 X3 ((k1.trans k2).trans (.grow hk3)) (n2.trans n1) fun x hx => (k1.trans k2).fresh (hf3 x hx)
        · cases he
      · cases he
    · cases he
  | rng3 hk c1 c2 c3 =>
    refine Call_ (names_blt hF X G.g G.b hk G.range (by decide) (PyProof.Rows.callWith_type1 (args_cons ?_ (star_no c1 _ _)) (star_no c1 _ _) (by rw [star_no c2, star_no c3]; rfl)))
    simp only [items] at he
    split at he
    · rename_i i st1 e1
      split at he
      · rename_i j st2 e2
        split at he
        · rename_i st3 e3
          split at he
          · rename_i hs1 hs2 hs3
            cases he
            refine IH c1 e1 hr hF X fun wa h1 tk1 r1 X1 k1 n1 => args_cons (IH c2 e2 hr hF X1 fun wb h2 tk2 r2 X2 k2 n2 => args_cons (IH c3 e3 hr hF X2 fun wc h3 tk3 r3 X3 k3 n3 => args_nil ?_) (star_no c3 _ _)) (star_no c2 _ _)
            cases r1 with
            | int i t =>
            cases r2 with
            | int j u =>
            cases r3 with
            | int z y =>
              have b1 := small_lt hs1
              have b2 := small_lt hs2
              refine call_range_3 (by decide) ?_ (.inl (PyProof.noPylong_small (by decide)))
              refine range_src (s := { s with heap := h3, toks := tk3 }) hF X3 (PySem.W.small_down (by omega) (by omega) (by omega) (by omega)) (PySem.W.rangeSize_downNat _ _) fun it W h4 tk4 I4 X4 hk4 hf4 => ?_
              exact K false _ W _ _ (fun z => nomatch z) (by rw [intsFrom_len]; exact blt_lt hs3) I4 X4 (((k1.trans k2).trans k3).trans (.grow hk4)) (n3.trans (n2.trans n1)) fun x hx => ((k1.trans k2).trans k3).fresh (hf4 x hx)
          · cases he
        · cases he
      · cases he
    · cases he
end
end Mine

/-! part Sound12 -/
namespace Mine
open PySem PyProof.Rows PySem.SeqAt

section
variable {prog : Program} {w : World} {N : Nm} {P : Nat → Option Fn} {tab : Nat → Option V} {h₀ : Heap} {mg mb : Str → Option Value}
variable {A : Around} {E : Value → Shared → Prop} {T T' W : List Addr} {μ μ' μ'' : Nat → Addr} {F : Sc} {m : Str → Option Value} {k : Nat} {ev : Ev}
variable {s : Shared} {st st' st'' : St} {v : V} {h h' h'' : Heap}

theorem SK.refl : SK μ μ F st st h h := ⟨fun _ _ _ _ _ e => e, fun _ e => .inl e, fun _ _ => rfl, Nat.le_refl _, fun _ o e => ⟨o, e⟩⟩
theorem SK.trans (x : SK μ μ' F st st' h h') (y : SK μ' μ'' F st' st'' h' h'') : SK μ μ'' F st st'' h h'' where
  kept := fun b o h1 h2 h3 e => y.kept b o h1 h2 (fun hm => by
    rcases x.new b hm with q | q
    · exact h3 q
    · rw [e] at q; cases q) (x.kept b o h1 h2 h3 e)
  new := fun a ha => by
    rcases y.new a ha with q | q
    · exact x.new a q
    · right
      cases e : h.get? a with
      | none => rfl
      | some o => obtain ⟨o', e'⟩ := x.ex a o e; rw [q] at e'; cases e'
  agree := fun i hi => (y.agree i (Nat.lt_of_lt_of_le hi x.le)).trans (x.agree i hi)
  le := Nat.le_trans x.le y.le
  ex := fun b o e => let ⟨_, e'⟩ := x.ex b o e; y.ex b _ e'
theorem SK.ofEK (x : EK μ st.r st'.r h h') (hn : st'.n = st.n) : SK μ μ F st st' h h' :=
  ⟨fun b o _ _ h3 e => x.kept b o h3 e, fun a ha => .inl (x.sub a ha), fun _ _ => rfl, Nat.le_of_eq hn.symm, x.ex⟩
/-- a step aside, at objects that are younger -/
theorem SK.aside (x : SK μ μ' F st st' h h') (hW : ∀ a ∈ W, h.get? a = none) (hk : ∀ b o, b ∉ W → h'.get? b = some o → h''.get? b = some o) : SK μ μ' F st st' h h'' where
  kept := fun b o h1 h2 h3 e => hk b o (fun hm => by rw [hW b hm] at e; cases e) (x.kept b o h1 h2 h3 e)
  new := x.new
  agree := x.agree
  le := x.le
  ex := fun b o e => let ⟨o', e'⟩ := x.ex b o e; ⟨o', hk b o' (fun hm => by rw [hW b hm] at e; cases e) e'⟩
theorem SK.step (x : SK μ μ' F st st' h h') : Step (Mx T F μ st.r) h (Mx T F μ' st'.r) h' := fun b o hb e =>
  ⟨x.kept b o (fun q => hb (mem_Mx.mpr (.inl q))) (fun q => hb (mem_Mx.mpr (.inr (.inl q)))) (fun q => hb (mem_Mx.mpr (.inr (.inr (.inr q))))) e, fun hm => by
    rcases mem_Mx.mp hm with q | q | q | q
    · exact hb (mem_Mx.mpr (.inl q))
    · exact hb (mem_Mx.mpr (.inr (.inl q)))
    · exact hb (mem_Mx.mpr (.inr (.inr (.inl q))))
    · rcases x.new b q with q | q
      · exact hb (mem_Mx.mpr (.inr (.inr (.inr q))))
      · rw [e] at q; cases q⟩
theorem SK.at (x : SK μ μ' F st st' h h') (X : SR h₀ T μ F st h m) (hT : ∀ c ∈ F.cells, c ∉ T) {a : Addr} (ha : a ∈ T) {o : Obj} (e : h.get? a = some o) : h'.get? a = some o :=
  x.kept a o (fun q => X.LT (q ▸ ha)) (fun q => hT a q ha) (fun q => (X.disj a q).2.2 ha) e

/-- shielded objects turn -/
theorem SR.modW (x : SR h₀ T μ F st h m) (hk : ∀ b o, b ∉ W → h.get? b = some o → h'.get? b = some o) (hWT : ∀ a ∈ W, a ∈ T) (hWc : ∀ a ∈ W, a ∉ F.cells) (hW' : ∀ a ∈ W, ∃ o, h'.get? a = some o) : SR h₀ T μ F st h' m where
  ns := x.ns.at' fun o e => hk _ _ (fun q => x.LT (hWT _ q)) e
  cel := fun c hc => by
    obtain ⟨w, o, ho, hd⟩ := x.cel c hc
    exact ⟨w, o, hk _ _ (fun q => hWc _ q hc) ho, hd⟩
  var := fun y nm c e1 e2 => by
    have q := x.var y nm c e1 e2
    have hs : slot h' m nm c = slot h m nm c := by
      refine slot_eq fun b ea => ?_
      subst ea
      have hc := cellsL_mem e2
      obtain ⟨o, w, ho, _⟩ := x.cell_ex hc
      rw [ho, hk _ _ (fun q => hWc _ q hc) ho]
    rw [hs]
    refine q.step (fun b o hb e => ⟨hk _ _ (fun q => hb (mem_Mx.mpr (.inr (.inr (.inl (hWT _ q)))))) e, hb⟩) fun id vs er ob e => hk _ _ (fun q => ?_) e
    exact (x.disj _ (own_get (μ := μ) er)).2.2 (hWT _ q)
  nd := x.nd
  disj := x.disj
  LT := x.LT
  ids := x.ids
  ex := fun b hb => by
    by_cases q : b ∈ W
    · exact hW' b q
    · obtain ⟨o, e⟩ := x.ex b hb; exact ⟨o, hk _ _ q e⟩
  base := fun b o e => hk _ _ (fun q => by
    have := x.fr b (mem_Mx.mpr (.inr (.inr (.inl (hWT _ q)))))
    rw [e] at this; cases this) (x.base b o e)
  fr := x.fr
  len := x.len

/-- a part of the shield is laid down, and what it shielded may turn; another part turns and stays shielded -/
theorem SR.lose {B : List Addr} (x : SR h₀ (W ++ T) μ F st h m) (hk : ∀ b o, b ∉ W → b ∉ B → h.get? b = some o → h'.get? b = some o) (hWT : ∀ a ∈ W, a ∉ T) (hWc : ∀ a ∈ W, a ∉ F.cells)
    (hB : ∀ a ∈ B, a ∈ T ∧ a ∉ F.cells ∧ ∃ o, h'.get? a = some o) : SR h₀ T μ F st h' m where
  ns := x.ns.at' fun o e => hk _ _ (fun q => x.LT (List.mem_append_left _ q)) (fun q => x.LT (List.mem_append_right _ (hB _ q).1)) e
  cel := fun c hc => by
    obtain ⟨w, o, ho, hd⟩ := x.cel c hc
    exact ⟨w, o, hk _ _ (fun q => hWc _ q hc) (fun q => (hB _ q).2.1 hc) ho, hd⟩
  var := fun y nm c e1 e2 => by
    have q := x.var y nm c e1 e2
    have hs : slot h' m nm c = slot h m nm c := by
      refine slot_eq fun b ea => ?_
      subst ea
      have hc := cellsL_mem e2
      obtain ⟨o, w, ho, _⟩ := x.cell_ex hc
      rw [ho, hk _ _ (fun q => hWc _ q hc) (fun q => (hB _ q).2.1 hc) ho]
    rw [hs]
    refine q.step (fun b o hb e => ⟨hk _ _ (fun q => hb (mem_Mx.mpr (.inr (.inr (.inl (List.mem_append_left _ q)))))) (fun q => hb (mem_Mx.mpr (.inr (.inr (.inl (List.mem_append_right _ (hB _ q).1)))))) e,
      fun hm => hb (Mx_sub (fun _ h => List.mem_append_right _ h) hm)⟩) fun id vs er ob e => hk _ _ (fun q => ?_) (fun q => ?_) e
    · exact (x.disj _ (own_get (μ := μ) er)).2.2 (List.mem_append_left _ q)
    · exact (x.disj _ (own_get (μ := μ) er)).2.2 (List.mem_append_right _ (hB _ q).1)
  nd := x.nd
  disj := fun b hb => ⟨(x.disj b hb).1, (x.disj b hb).2.1, fun q => (x.disj b hb).2.2 (List.mem_append_right _ q)⟩
  LT := fun q => x.LT (List.mem_append_right _ q)
  ids := x.ids
  ex := fun b hb => by
    by_cases q : b ∈ B
    · exact (hB _ q).2.2
    · obtain ⟨o, e⟩ := x.ex b (List.mem_append_right _ hb)
      exact ⟨o, hk _ _ (fun q => hWT _ q hb) q e⟩
  base := fun b o e => by
    have hn : b ∉ W ++ T := fun q => by
      have := x.fr b (mem_Mx.mpr (.inr (.inr (.inl q))))
      rw [e] at this; cases this
    exact hk _ _ (fun q => hn (List.mem_append_left _ q)) (fun q => hn (List.mem_append_right _ (hB _ q).1)) (x.base b o e)
  fr := fun b hb => x.fr b (Mx_sub (fun _ h => List.mem_append_right _ h) hb)
  len := x.len

theorem drop_nil {α : Type} {l : List α} {i : Nat} (h : l.drop i = []) : l[i]? = none := by
  have : (l.drop i).length = 0 := by rw [h]; rfl
  rw [List.length_drop] at this
  exact List.getElem?_eq_none (by omega)
theorem drop_cons {α : Type} {l r : List α} {i : Nat} {a : α} (h : l.drop i = a :: r) : l[i]? = some a ∧ l.drop (i + 1) = r := by
  constructor
  · have : (l.drop i)[0]? = some a := by rw [h]; rfl
    rwa [List.getElem?_drop, Nat.add_zero] at this
  · rw [← List.drop_drop, h]; rfl

theorem IT.noCell {M : List Addr} {en : Bool} {it : Value} {vs : List V} (I : IT M h en W it vs) (X : SR h₀ T μ F st h m) : ∀ a ∈ W, a ∉ F.cells := by
  have key : ∀ a o vs', h.get? a = some o → o.data = .fields vs' → a ∉ F.cells := fun a o vs' e hd hm => by
    obtain ⟨o', w', e', hd'⟩ := X.cell_ex hm
    rw [e] at e'; cases e'
    rw [hd] at hd'; cases hd'
  cases I with
  | list a =>
    obtain ⟨o, e, _, hd⟩ := a
    intro x hx; rw [List.mem_singleton.mp hx]; exact key _ _ _ e hd
  | range a => intro x hx; rw [List.mem_singleton.mp hx]; exact key _ _ _ a rfl
  | enum a b =>
    obtain ⟨o, e, _, hd⟩ := b
    intro x hx
    rcases List.mem_cons.mp hx with rfl | hx
    · exact key _ _ _ a rfl
    · rw [List.mem_singleton.mp hx]; exact key _ _ _ e hd

theorem snd_next_nil (hh : A.handled = none) {M : List Addr} {en : Bool} {it : Value} {vs : List V} (hvs : vs = []) (I : IT M s.heap en W it vs) {Q : Option Value → Shared → Prop}
    (K : ∀ h' tk, (∀ b o, b ∉ W → s.heap.get? b = some o → h'.get? b = some o) → Q none { s with heap := h', toks := tk }) : wpAny (model prog w) A (pyNext it) Q E s := by
  cases I with
  | list a p n q =>
    subst hvs
    generalize hd : List.drop _ _ = z at q
    cases q
    exact wpAny_pyNext_list_end hh a p.isList (by simpa using drop_nil hd) fun h' he => K _ _ fun b o hb e => he b o (fun z => hb (z ▸ .head _)) e
  | range a b =>
    rename_i nn
    have : nn = 0 := by rw [← intsFrom_len _ _ nn, hvs]; rfl
    subst this
    exact wpAny_pyNext_range_end hh a (by omega) fun h' he => K _ _ fun b o hb e => he b o (fun z => hb (z ▸ .head _)) e
  | enum a b p n q ne =>
    rename_i vs'
    cases vs' with
    | cons _ _ => cases hvs
    | nil =>
      generalize hd : List.drop _ _ = z at q
      cases q
      exact wpAny_pyNext_enum_end hh a b p.isList (by simpa using drop_nil hd) fun h' he => K _ _ fun b o hb e => he b o (fun z => hb (z ▸ .tail _ (.head _))) e

theorem letGo_no {target : Expr} {it x : Value} (hx : ∀ a, x ≠ .ref a) : letOwnedTupleGo target it x = pure () := by
  cases target <;> first | rfl | (cases it <;> cases x <;> first | rfl | exact absurd rfl (hx _))

theorem snd_next_cons (hF : FOk F) (X : SR h₀ T μ F st s.heap m) (hWT : ∀ a ∈ W, a ∈ T) {en : Bool} {it : Value} {vs vs' : List V} (hvs : vs = v :: vs') (I : IT (Mx T F μ st.r) s.heap en W it vs) {target : Expr} {tgt : List Nat} {ns : List Str}
    (htg : CTg ns target tgt) (hen : en = true → tgt.length = 2) {R : Shared → Prop} {Q : Value → Shared → Prop} {E' : Value → Shared → Prop}
    (K : ∀ wv h' tk, VR (Mx T F μ st.r) h' v wv → IT (Mx T F μ st.r) h' en W it vs' → SR h₀ T μ F st h' m → (∀ b o, b ∉ W → s.heap.get? b = some o → h'.get? b = some o) → Q wv { s with heap := h', toks := tk }) :
    wpAny (model prog w) A (pyNext it) (fun r s₁ => match r with | none => R s₁ | some x => wpAny (model prog w) A (letOwnedTupleGo target it x) (fun _ s₁' => Q x s₁') E' s₁) E s := by
  have hWc := I.noCell X
  have hWM : ∀ a, a ∈ W → a ∈ Mx T F μ st.r := fun a ha => mem_Mx.mpr (.inr (.inr (.inl (hWT _ ha))))
  cases I with
  | list a p n q =>
    rename_i it l i items
    subst hvs
    generalize hd : List.drop _ _ = z at q
    cases q with
    | cons q qs =>
      rename_i wv ws
      obtain ⟨g1, g2⟩ := drop_cons hd
      refine wpAny_pyNext_list_item a p.isList (by simpa using g1) fun h1 a1 hs1 => ?_
      have hk : ∀ b o, b ∉ [it] → s.heap.get? b = some o → h1.get? b = some o := fun b o hb e => hs1.extBut b o (fun z => hb (z ▸ .head _)) e
      have hst : Step (Mx T F μ st.r) s.heap (Mx T F μ st.r) h1 := fun b o hb e => ⟨hk b o (fun z => hb (hWM _ z)) e, hb⟩
      obtain ⟨c, pe⟩ := p
      have fin : Q wv { s with heap := h1, toks := s.toks } := K wv h1 s.toks (q.step hst) (.list a1 ⟨c, (hst _ _ n pe).1⟩ n (g2 ▸ qs.step hst)) (X.modW hk hWT hWc fun x hx => by
        rw [List.mem_singleton.mp hx]; obtain ⟨o, e, _⟩ := a1; exact ⟨o, e⟩) hk
      cases htg with
      | one hx => exact wpAny_of_eq rfl fin
      | two hx hy hn =>
        cases wv with
        | ref t => exact wpAny_letOwnedTupleGo_listiter a1 fin
        | _ => exact wpAny_of_eq (letGo_no fun a z => nomatch z) fin
  | range a b =>
    rename_i it x left step nn
    cases nn with
    | zero => cases hvs
    | succ nn =>
      cases hvs
      refine wpAny_pyNext_range_item a (by omega) fun h1 a1 hs1 => ?_
      have hk : ∀ b o, b ∉ [it] → s.heap.get? b = some o → h1.get? b = some o := fun b o hb e => hs1.extBut b o (fun z => hb (z ▸ .head _)) e
      refine wpAny_of_eq (letGo_no fun a z => nomatch z) ?_
      exact K _ _ _ (.int _ _) (.range a1 (by omega)) (X.modW hk hWT hWc fun x hx => by
        rw [List.mem_singleton.mp hx]; exact ⟨_, a1⟩) hk
  | enum a b p n q ne =>
    rename_i e it l i old items vs0
    cases vs0 with
    | nil => cases hvs
    | cons v0 vs0 =>
      cases hvs
      generalize hd : List.drop _ _ = z at q
      cases q with
      | cons q qs =>
        rename_i wv ws
        obtain ⟨g1, g2⟩ := drop_cons hd
        refine wpAny_pyNext_enum_item a b p.isList (by simpa using g1) ne fun h1 ho1 b1 ht1 hz1 hk1 => ?_
        cases htg with
        | one hx => exact absurd (hen rfl) (show ¬ (1 = 2) from by decide)
        | two hx hy hn =>
          refine wpAny_letOwnedTupleGo_enum ho1 fun h2 a2 hs2 => ?_
          have hs2 : Heap.SameBut e h1 h2 := hs2
          have hk : ∀ b o, b ∉ [e, it] → s.heap.get? b = some o → h2.get? b = some o := fun b o hb eb => hs2.extBut b o (fun z => hb (z ▸ .head _)) (hk1 b o (fun z => hb (z ▸ .head _)) (fun z => hb (z ▸ .tail _ (.head _))) eb)
          have hst : Step (Mx T F μ st.r) s.heap (Mx T F μ st.r) h2 := fun b o hb eb => ⟨hk b o (fun z => hb (hWM _ z)) eb, hb⟩
          have b2 := b1.extBut hs2.extBut (Ne.symm ne)
          have hte : s.heap.objs.size ≠ e := Nat.ne_of_gt (Heap.lt_size a)
          have ht2 : h2.get? s.heap.objs.size = some { cls := .type "tuple", data := .seq #[.int i s.toks, wv] } := (hs2.2 _ hte).trans ht1
          obtain ⟨c, pe⟩ := p
          have q2 := q.step hst
          have htM : s.heap.objs.size ∉ Mx T F μ st.r := fun hm => by
            obtain ⟨o, eo⟩ := X.M_ex hF hm
            rw [fresh_size] at eo; cases eo
          refine K (.ref s.heap.objs.size) h2 (s.toks + 1) (.tup (l := [.int i s.toks, wv]) ⟨_, ht2, rfl, _, rfl⟩ htM (.cons (.int _ _) (.cons q2 .nil))) ?_ (X.modW hk hWT hWc fun x hx => ?_) hk
          · refine .enum (i := i + 1) (old := wv) (items := items) ?_ b2 ⟨c, (hst _ _ n pe).1⟩ n (g2 ▸ qs.step hst) ne
            have : ((i + 1 : Nat) : Int) = (i : Int) + 1 := by push_cast; rfl
            rw [this]; exact a2
          · rcases List.mem_cons.mp hx with rfl | hx
            · exact ⟨_, a2⟩
            · rw [List.mem_singleton.mp hx]; obtain ⟨o, eo, _⟩ := b2; exact ⟨o, eo⟩
end
end Mine

/-! part Sound13 -/
namespace Mine
open PySem PyProof.Rows PySem.SeqAt

section
variable {prog : Program} {w : World} {N : Nm} {P : Nat → Option Fn} {tab : Nat → Option V} {h₀ : Heap} {mg mb : Str → Option Value}
variable {A : Around} {E : Value → Shared → Prop} {T T' W : List Addr} {μ μ' μ'' : Nat → Addr} {F : Sc} {m : Str → Option Value} {k : Nat} {ev : Ev}
variable {s : Shared} {st st' st'' : St} {v : V} {h h' h'' : Heap}

/-- what binding names does -/
structure AK (μ : Nat → Addr) (F : Sc) (xs : List Nat) (st st' : St) (h h' : Heap) : Prop where
  kept : ∀ b o, b ≠ F.env.locals → (∀ x ∈ xs, getL F.cs x ≠ some (some b)) → h.get? b = some o → h'.get? b = some o
  sub : ∀ b, b ∈ ownA μ st'.r → b ∈ ownA μ st.r
  n : st'.n = st.n
  ex : ∀ b o, h.get? b = some o → ∃ o', h'.get? b = some o'
theorem AK.sk {xs : List Nat} (x : AK μ F xs st st' h h') : SK μ μ F st st' h h' :=
  ⟨fun b o h1 h2 _ e => x.kept b o h1 (fun y _ q => h2 (cellsL_mem q)) e, fun a ha => .inl (x.sub a ha), fun _ _ => rfl, Nat.le_of_eq x.n.symm, x.ex⟩

theorem Put.ex {x : Nat} {wv : Value} {ch : Addr} {m m' : Str → Option Value} (p : Put F h h' m m' x wv ch) (X : SR h₀ T μ F st h m) : ∀ b o, h.get? b = some o → ∃ o', h'.get? b = some o' := fun b o e => by
  by_cases q : b = ch
  · subst q
    rcases p.at' with rfl | ⟨c, rfl, ec⟩
    · obtain ⟨o', _, _, e', _⟩ := p.ns; exact ⟨o', e'⟩
    · obtain ⟨w', o', e', _⟩ := p.cel _ (cellsL_mem ec); exact ⟨o', e'⟩
  · exact ⟨o, p.kept _ _ q e⟩
theorem Put.step {x : Nat} {wv : Value} {ch : Addr} {m m' : Str → Option Value} {v : V} (p : Put F h h' m m' x wv ch) : Step (Mx T F μ st.r) h (Mx T F μ (setR st.r x (.val v))) h' := fun b o hb e =>
  ⟨p.kept b o (fun q => hb (q ▸ p.M)) e, fun hm => hb (Mx_set (q := .val v) rfl hm)⟩

theorem snd_names (hF : FOk F) : ∀ (es : List Expr) {nms : List Str} {xs : List Nat} {s : Shared} {st st' : St} {m : Str → Option Value} {vs : List V} {ws : List Value} {Q : Unit → Shared → Prop},
    CNm F.ns es nms xs → bindAll xs vs st = some st' → VRs (Mx T F μ st.r) s.heap vs ws → SR h₀ T μ F st s.heap m → (∀ x ∈ xs, ∀ c, getL F.cs x = some (some c) → c ∉ T) →
    (∀ h' m' tk, SR h₀ T μ F st' h' m' → AK μ F xs st st' s.heap h' → Q () { s with heap := h', toks := tk }) →
    wpAny (model prog w) A (assignInOrder ((assignEach es F.env).map (·.2)) ws) Q E s
  | [], _, _, s, st, st', m, vs, ws, Q, hc, he, hv, X, hT, K => by
    cases hc
    cases vs with
    | nil =>
      cases he
      cases hv
      exact assignInOrder_nil (K _ _ _ X ⟨fun _ _ _ _ e => e, fun _ e => e, rfl, fun _ o e => ⟨o, e⟩⟩)
    | cons _ _ => cases he
  | e :: es, _, _, s, st, st', m, vs, ws, Q, hc, he, hv, X, hT, K => by
    cases hc with
    | cons hx hc =>
      rename_i nm p nms x xs
      cases vs with
      | nil => cases he
      | cons v vs =>
        cases hv with
        | cons r rs =>
          refine assignInOrder_cons (wpAny_assign_Name (store_name hF X hx fun h1 m1 ch tk1 p1 => ?_))
          have X1 := X.putVal p1 (hT _ (.head _)) r
          refine snd_names hF es hc he (rs.step p1.step) X1 (fun y hy => hT y (.tail _ hy)) fun h2 m2 tk2 X2 k2 => ?_
          refine K _ _ _ X2 ⟨fun b o h1 h2 e => k2.kept b o h1 (fun y hy => h2 y (.tail _ hy)) (p1.kept b o (fun q => ?_) e), fun b hb => own_no_sub (q := .val v) rfl (k2.sub b hb), k2.n, fun b o e => ?_⟩
          · rcases p1.at' with q1 | ⟨c, q1, ec⟩
            · exact h1 (q.trans q1)
            · exact h2 x (.head _) (by rw [q, q1]; exact ec)
          · obtain ⟨o', e'⟩ := p1.ex X b o e
            exact k2.ex b o' e'

theorem snd_tgt (hh : A.handled = none) (hF : FOk F) (X : SR h₀ T μ F st s.heap m) {target : Expr} {tgt : List Nat} {wv : Value} {Q : Unit → Shared → Prop} (hc : CTg F.ns target tgt) (he : bindTgt tgt v st = some st')
    (hv : VR (Mx T F μ st.r) s.heap v wv) (hT : ∀ x ∈ tgt, ∀ c, getL F.cs x = some (some c) → c ∉ T)
    (K : ∀ h' m' tk, SR h₀ T μ F st' h' m' → AK μ F tgt st st' s.heap h' → Q () { s with heap := h', toks := tk }) :
    wpAny (model prog w) A (assign target F.env wv) Q E s := by
  cases hc with
  | one hx =>
    cases he
    refine wpAny_assign_Name (store_name hF X hx fun h1 m1 ch tk1 p1 => ?_)
    refine K _ _ _ (X.putVal p1 (hT _ (.head _)) hv) ⟨fun b o h1 h2 e => p1.kept b o (fun q => ?_) e, fun b hb => own_no_sub (q := .val v) rfl hb, rfl, p1.ex X⟩
    rcases p1.at' with q1 | ⟨c, q1, ec⟩
    · exact h1 (q.trans q1)
    · exact h2 _ (.head _) (by rw [q, q1]; exact ec)
  | two hx hy hn =>
    rename_i nm nm' p p' pos kk x y
    unfold bindTgt at he
    simp only at he
    split at he
    · rename_i vs
      cases hv with
      | tup ht hm hs =>
        rename_i a l
        obtain ⟨o, eo, co, n, dn⟩ := ht
        have hlen : l.length = 2 := by
          have h1 := hs.length
          match vs, he with
          | [a, b], _ => exact h1
          | [], he => cases he
          | [a], he => simp [bindAll] at he
          | a :: b :: c :: d, he => simp [bindAll] at he
        refine wpAny_assign_Tuple (items := l.toArray) hh ⟨o, eo, co, n, dn⟩ (by show 2 = _; rw [List.size_toArray, hlen]) rfl fun h1 hx1 => ?_
        have hk1 : ∀ b ob, s.heap.get? b = some ob → h1.get? b = some ob := fun b ob e => hx1 b ob (Nat.ne_of_lt (Heap.lt_size e)) e
        refine snd_names (s := { s with heap := h1 }) hF _ (.cons hx (.cons hy .nil)) he (hs.grow hk1) (X.grow hk1) hT fun h2 m2 tk2 X2 k2 => ?_
        exact K _ _ _ X2 ⟨fun b o h1 h2 e => k2.kept b o h1 h2 (hk1 b o e), k2.sub, k2.n, fun b o e => k2.ex b o (hk1 b o e)⟩
    · cases he

theorem forIn_false {env : Env} : ∀ (ifs : List Expr), (forIn ifs false fun c r => if r = true then do let ok ← isTrue c env (eval c env); pure (ForInStep.yield ok) else pure (ForInStep.yield r)) = (pure false : Sem Bool)
  | [] => by rw [List.forIn_nil]
  | c :: ifs => by
    rw [List.forIn_cons]
    simp only [Bool.false_eq_true, if_false, pure_bind]
    exact forIn_false ifs

theorem snd_tests (IT' : SndT prog w N h₀ k ev.t) (hr : Room A k) (hF : FOk F) : ∀ (ifs : List Expr) {cs : Xs} {s : Shared} {st st' : St} {b : Bool} {Q : Bool → Shared → Prop},
    CTs N F.env.scope F.ns ifs cs → tests ev cs st = some (b, st') → SR h₀ T μ F st s.heap m →
    (∀ h' tk, SR h₀ T μ F st' h' m → EK μ st.r st'.r s.heap h' → st'.n = st.n → Q b { s with heap := h', toks := tk }) →
    wpAny (model prog w) A (forIn ifs true fun c r => if r = true then do let ok ← isTrue c F.env (eval c F.env); pure (ForInStep.yield ok) else pure (ForInStep.yield r)) Q E s
  | [], _, s, st, st', b, Q, hc, he, X, K => by
    cases hc
    cases he
    rw [List.forIn_nil]
    exact wpAny_pure (K _ _ X .refl rfl)
  | e :: ifs, _, s, st, st', b, Q, hc, he, X, K => by
    cases hc with
    | cons c1 c2 =>
      rw [List.forIn_cons]
      simp only [if_true]
      unfold tests at he
      split at he
      · rename_i st1 e1
        refine wpAny_bind (wpAny_bind (IT' c1 e1 hr hF X fun h1 tk1 X1 k1 n1 => wpAny_pure ?_))
        exact snd_tests IT' hr hF ifs c2 he X1 fun h2 tk2 X2 k2 n2 => K _ _ X2 (k1.trans k2) (n2.trans n1)
      · rename_i st1 e1
        cases he
        refine wpAny_bind (wpAny_bind (IT' c1 e1 hr hF X fun h1 tk1 X1 k1 n1 => wpAny_pure ?_))
        dsimp only
        rw [forIn_false]
        exact wpAny_pure (K _ _ X1 k1 n1)
      · cases he

theorem append_raw {l : Addr} {items : List Value} {x : Value} {Q : Value → Shared → Prop} (hl : Plain s.heap l items) (hsz : items.length ≤ 2 ^ 20)
    (h : ∀ h', Plain h' l (items ++ [x]) → Heap.SameBut l s.heap h' → Q .none { s with heap := h' }) : wpAny (model prog w) A (call (.builtin "list.append") [.ref l, x]) Q E s := by
  obtain ⟨n, e⟩ := hl
  refine wpAny_call_entry slot_list_append ⟨_, e, rfl⟩ entry_list_append ?_ (args_list_append _ _)
  show wpAny _ _ (updateSeq l (·.push x) >>= fun _ => ret .none) _ _ s
  refine wpAny_bind ?_
  have hu : (s.heap.update l (Obj.mapSeq fun y => y.push x)).get? l = some (Obj.mapSeq (fun y => y.push x) { cls := .type "list", data := .seq items.toArray n }) := Heap.get?_update_self _ e rfl
  have hp : Plain (s.heap.update l (Obj.mapSeq fun y => y.push x)) l (items ++ [x]) := by
    rw [show (Obj.mapSeq (fun y => y.push x) { cls := .type "list", data := .seq items.toArray n }) = ({ cls := .type "list", data := .seq (items.toArray.push x) (if (items.toArray.push x).size == items.toArray.size then n else n + 1) } : Obj) from rfl] at hu
    exact ⟨_, by rw [hu, show (items ++ [x]).toArray = items.toArray.push x from by simp]⟩
  exact wpAny_updateSeq e rfl (wpAny_pure ⟨.none, rfl, h _ hp (Heap.SameBut.update ..)⟩) (by rw [List.size_toArray, sizeLine_eq]; omega)
end
end Mine

/-! part Sound14 -/
namespace Mine
open PySem PyProof.Rows PySem.SeqAt

/-! ### the closure of a comprehension -/
noncomputable def clOf (env : Env) : List (Str × NameKind) → List (Str × Addr) → List (Str × Addr)
  | [], acc => acc
  | y :: r, acc => if (y.2 == NameKind.free) = true then clOf env r ((y.1, (env.cells.lookup y.1).getD 0) :: acc) else clOf env r acc

theorem clOf_for {env : Env} : ∀ (names : List (Str × NameKind)) (acc : List (Str × Addr)), (∀ y ∈ names, y.2 = .free → ∃ c, env.cells.lookup y.1 = some c) →
    (forIn names acc fun x cs => if (x.2 == NameKind.free) = true then do let c ← cellOf env x.1; pure (ForInStep.yield ((x.1, c) :: cs)) else pure (ForInStep.yield cs)) = (pure (clOf env names acc) : Sem _)
  | [], acc, _ => by rw [List.forIn_nil]; rfl
  | y :: r, acc, h => by
    rw [List.forIn_cons]
    by_cases q : (y.2 == NameKind.free) = true
    · obtain ⟨c, e⟩ := h y (.head _) (by simpa using q)
      rw [if_pos q]
      have e1 : cellOf env y.1 = pure c := by unfold cellOf; rw [e]
      rw [e1]
      simp only [pure_bind]
      rw [clOf_for r _ fun z hz => h z (.tail _ hz), show clOf env (y :: r) acc = clOf env r ((y.1, (env.cells.lookup y.1).getD 0) :: acc) from if_pos q, e]
      rfl
    · rw [if_neg q]
      simp only [pure_bind]
      rw [clOf_for r _ fun z hz => h z (.tail _ hz), show clOf env (y :: r) acc = clOf env r acc from if_neg q]
theorem closure_eq {scope : Scope} {env : Env} (h : ∀ y ∈ scope.names, y.2 = .free → ∃ c, env.cells.lookup y.1 = some c) : closureFor scope env = pure (clOf env scope.names []) := by
  simp only [closureFor]
  rw [clOf_for _ _ h]
  rfl
theorem clOf_look {env : Env} {nm : Str} {c : Addr} (hc : env.cells.lookup nm = some c) : ∀ (names : List (Str × NameKind)) (acc : List (Str × Addr)), ((∃ y ∈ names, y.1 = nm ∧ y.2 = .free) ∨ acc.lookup nm = some c) → (clOf env names acc).lookup nm = some c
  | [], acc, h => by
    rcases h with ⟨y, hy, _⟩ | h
    · cases hy
    · exact h
  | y :: r, acc, h => by
    by_cases q : (y.2 == NameKind.free) = true
    · rw [show clOf env (y :: r) acc = clOf env r ((y.1, (env.cells.lookup y.1).getD 0) :: acc) from if_pos q]
      refine clOf_look hc r _ ?_
      by_cases hy : nm = y.1
      · right
        subst hy
        simp [hc]
      · rcases h with ⟨z, hz, h1, h2⟩ | h
        · rcases List.mem_cons.mp hz with rfl | hz
          · exact absurd h1.symm hy
          · exact .inl ⟨z, hz, h1, h2⟩
        · right
          rw [List.lookup_cons, show (nm == y.1) = false from by simpa using hy]
          exact h
    · rw [show clOf env (y :: r) acc = clOf env r acc from if_neg q]
      refine clOf_look hc r _ ?_
      rcases h with ⟨z, hz, h1, h2⟩ | h
      · rcases List.mem_cons.mp hz with rfl | hz
        · exact absurd (by simp [h2]) q
        · exact .inl ⟨z, hz, h1, h2⟩
      · exact .inr h

theorem lookup_mem {nm : Str} {k : NameKind} : ∀ {l : List (Str × NameKind)}, l.lookup nm = some k → ∃ y ∈ l, y.1 = nm ∧ y.2 = k
  | [], h => by simp at h
  | y :: l, h => by
    rw [List.lookup_cons] at h
    cases hq : nm == y.1 with
    | true =>
      rw [hq] at h
      exact ⟨y, .head _, (by simpa using hq : nm = y.1).symm, Option.some.inj h⟩
    | false =>
      rw [hq] at h
      obtain ⟨z, hz, r⟩ := lookup_mem h
      exact ⟨z, .tail _ hz, r⟩

theorem lookup_mapK (g : Str → NameKind → NameKind) (x : Str) : ∀ names : List (Str × NameKind), (names.map fun y => (y.1, g y.1 y.2)).lookup x = (names.lookup x).map (g x)
  | [] => rfl
  | (n, k) :: r => by
    cases e : x == n with
    | true =>
      obtain rfl := eq_of_beq e
      simp [List.lookup_cons]
    | false => simp [List.lookup_cons, e, lookup_mapK g x r]
theorem lookup_relabel_free {env : Env} {x : Str} (hk : env.scope.kind = .function) (hx : env.kindOf x = some .cell) {names : List (Str × NameKind)} (h : names.lookup x = some .free) :
    (names.map fun (n, k) => if (k == NameKind.free && env.scope.kind == .function && env.kindOf n == some .cell) then (n, NameKind.cell) else (n, k)).lookup x = some .cell := by
  refine (congrArg (List.lookup x) (List.map_congr_left fun y _ => ?_)).trans ((lookup_mapK (fun n k => bif (k == NameKind.free && env.scope.kind == .function && env.kindOf n == some .cell) then NameKind.cell else k) x names).trans ?_)
  · obtain ⟨n, k⟩ := y
    dsimp only
    cases (k == NameKind.free && env.scope.kind == .function && env.kindOf n == some .cell) <;> rfl
  · rw [h, hk, hx]
    rfl

noncomputable def capCs (cs : List (Option Addr)) : List Nat → List (Option Addr)
  | [] => []
  | x :: xs => (getL cs x).getD none :: capCs cs xs
noncomputable def nones : Nat → List (Option Addr)
  | 0 => []
  | n + 1 => none :: nones n
noncomputable def compSc (F : Sc) (scope : Scope) (C : Addr) (cn tn : List Str) (caps : List Nat) : Sc :=
  { env := compEnvC scope (clOf F.env scope.names []) C F.env, ns := cn ++ tn, cs := capCs F.cs caps ++ nones tn.length }

theorem getL_append {α : Type} : ∀ {l r : List α} {i : Nat}, getL (l ++ r) i = if i < l.length then getL l i else getL r (i - l.length)
  | [], r, i => by simp
  | a :: l, r, 0 => by simp [getL]
  | a :: l, r, i + 1 => by
    show getL (l ++ r) i = _
    rw [getL_append]
    simp only [List.length_cons, Nat.add_lt_add_iff_right, Nat.add_sub_add_right]
    rfl
theorem capCs_len {cs : List (Option Addr)} : ∀ {caps : List Nat}, (capCs cs caps).length = caps.length
  | [] => rfl
  | _ :: l => by show (capCs cs l).length + 1 = _; rw [capCs_len]; rfl
theorem nones_len : ∀ n : Nat, (nones n).length = n
  | 0 => rfl
  | n + 1 => by show (nones n).length + 1 = _; rw [nones_len]
theorem nones_get : ∀ {n i : Nat} {c : Option Addr}, getL (nones n) i = some c → c = none
  | _ + 1, 0, _, h => by cases h; rfl
  | n + 1, i + 1, _, h => nones_get (n := n) (i := i) h
theorem cellsL_append : ∀ {l r : List (Option Addr)}, cellsL (l ++ r) = cellsL l ++ cellsL r
  | [], _ => rfl
  | some c :: l, r => by show c :: cellsL (l ++ r) = _; rw [cellsL_append]; rfl
  | none :: l, r => by show cellsL (l ++ r) = _; rw [cellsL_append]; rfl
theorem cellsL_nones : ∀ n : Nat, cellsL (nones n) = []
  | 0 => rfl
  | n + 1 => by show cellsL (nones n) = _; exact cellsL_nones n
theorem picks_len {ns : List Str} : ∀ {caps : List Nat} {cn : List Str}, picks ns caps = some cn → cn.length = caps.length
  | [], cn, h => by cases h; rfl
  | x :: xs, cn, h => by
    unfold picks at h
    split at h
    · cases h; simp [picks_len (by assumption)]
    · cases h
theorem picks_get {ns : List Str} : ∀ {caps : List Nat} {cn : List Str} {i : Nat} {nm : Str}, picks ns caps = some cn → getL cn i = some nm → ∃ x, getL caps i = some x ∧ getL ns x = some nm
  | [], cn, i, nm, h, e => by cases h; cases e
  | x :: xs, cn, i, nm, h, e => by
    unfold picks at h
    split at h
    · rename_i a l e1 e2
      cases h
      cases i with
      | zero => cases e; exact ⟨x, rfl, e1⟩
      | succ i => exact picks_get (i := i) e2 e
    · cases h
theorem capCs_get {cs : List (Option Addr)} : ∀ {caps : List Nat} {i : Nat} {x : Nat}, getL caps i = some x → getL (capCs cs caps) i = some ((getL cs x).getD none)
  | _ :: _, 0, _, h => by cases h; rfl
  | _ :: l, i + 1, _, h => capCs_get (caps := l) (i := i) h
theorem capCs_mem {cs : List (Option Addr)} : ∀ {caps : List Nat} {c : Addr}, c ∈ cellsL (capCs cs caps) → ∃ i x, getL caps i = some x ∧ getL cs x = some (some c)
  | x :: l, c, h => by
    unfold capCs at h
    cases e : getL cs x with
    | none =>
      rw [e] at h
      obtain ⟨i, y, e1, e2⟩ := capCs_mem (caps := l) h
      exact ⟨i + 1, y, e1, e2⟩
    | some o =>
      rw [e] at h
      cases o with
      | none =>
        obtain ⟨i, y, e1, e2⟩ := capCs_mem (caps := l) h
        exact ⟨i + 1, y, e1, e2⟩
      | some c' =>
        rcases List.mem_cons.mp h with h | h
        · subst h; exact ⟨0, x, rfl, e⟩
        · obtain ⟨i, y, e1, e2⟩ := capCs_mem (caps := l) h
          exact ⟨i + 1, y, e1, e2⟩
theorem capCs_nodup {cs : List (Option Addr)} (hn : (cellsL cs).Nodup) : ∀ {caps : List Nat}, caps.Nodup → (cellsL (capCs cs caps)).Nodup
  | [], _ => .nil
  | x :: l, hc => by
    have ih := capCs_nodup hn (List.nodup_cons.mp hc).2
    unfold capCs
    cases e : getL cs x with
    | none => exact ih
    | some o =>
      cases o with
      | none => exact ih
      | some c =>
        refine List.nodup_cons.mpr ⟨fun hm => ?_, ih⟩
        obtain ⟨i, y, e1, e2⟩ := capCs_mem hm
        have := cellsL_inj hn e e2
        subst this
        exact (List.nodup_cons.mp hc).1 (getL_mem e1)
theorem picks_nodup {ns : List Str} : ∀ {caps : List Nat} {cn : List Str}, picks ns caps = some cn → cn.Nodup → caps.Nodup
  | [], _, _, _ => .nil
  | x :: xs, cn, h, hn => by
    unfold picks at h
    split at h
    · rename_i a l e1 e2
      cases h
      refine List.nodup_cons.mpr ⟨fun hm => ?_, picks_nodup e2 (List.nodup_cons.mp hn).2⟩
      have : ∀ {xs : List Nat} {l : List Str}, picks ns xs = some l → x ∈ xs → a ∈ l := by
        intro xs
        induction xs with
        | nil => intro l _ hm; cases hm
        | cons y ys ih =>
          intro l e hm
          unfold picks at e
          split at e
          · rename_i b l' e3 e4
            cases e
            rcases List.mem_cons.mp hm with rfl | hm
            · rw [e1] at e3; cases e3; exact .head _
            · exact .tail _ (ih e4 hm)
          · cases e
      exact (List.nodup_cons.mp hn).1 (this e2 hm)
    · cases h

section
variable {F : Sc} {scope : Scope} {C : Addr} {cn tn : List Str} {caps : List Nat}

/-- a captured variable is a cell of the outer scope -/
theorem cap_cell (hF : FOk F) (hok : CompOk F.env.scope F.ns scope cn tn caps) {i : Nat} {nm : Str} (hi : getL cn i = some nm) :
    ∃ x c, getL caps i = some x ∧ getL F.ns x = some nm ∧ getL F.cs x = some (some c) ∧ F.env.kindOf nm = some .cell ∧ F.env.cells.lookup nm = some c := by
  obtain ⟨x, e1, e2⟩ := picks_get hok.pick hi
  have hlt := getL_lt e2
  rw [← hF.lenc] at hlt
  obtain ⟨c, e3⟩ := getL_some hlt
  have hcap := hok.cap nm (getL_mem hi)
  have hmem := lookup_mem hcap
  obtain ⟨y, hy, rfl, hf⟩ := hmem
  have hcell := (hok.free y hy hf).1
  cases c with
  | none =>
    have := hF.loc x _ e2 e3
    rw [show F.env.kindOf y.1 = F.env.scope.names.lookup y.1 from rfl, hcell] at this
    cases this
  | some c =>
    obtain ⟨k1, k2⟩ := hF.cel x _ c e2 e3
    exact ⟨x, c, e1, e2, e3, k1, k2⟩

theorem comp_fok (hF : FOk F) (hok : CompOk F.env.scope F.ns scope cn tn caps) : FOk (compSc F scope C cn tn caps) := by
  have hlen := picks_len hok.pick
  have hcs : ∀ {i : Nat} {c : Option Addr}, getL (capCs F.cs caps ++ nones tn.length) i = some c → (i < cn.length ∧ getL (capCs F.cs caps) i = some c) ∨ (¬ i < cn.length ∧ c = none) := by
    intro i c e
    rw [getL_append, capCs_len, ← hlen] at e
    by_cases q : i < cn.length
    · rw [if_pos q] at e; exact .inl ⟨q, e⟩
    · rw [if_neg q] at e; exact .inr ⟨q, nones_get e⟩
  refine { kind := hok.kind, lenc := ?_, nd := hok.nd, ndc := ?_, loc := ?_, cel := ?_, glob := hF.glob, blt := hF.blt, dbg := ?_ }
  · show (capCs F.cs caps ++ nones tn.length).length = (cn ++ tn).length
    rw [List.length_append, List.length_append, capCs_len, nones_len, hlen]
  · show (cellsL (capCs F.cs caps ++ nones tn.length)).Nodup
    rw [cellsL_append, cellsL_nones, List.append_nil]
    exact capCs_nodup hF.ndc (picks_nodup hok.pick (List.nodup_append.mp hok.nd).1)
  · intro i nm e1 e2
    have e1 : getL (cn ++ tn) i = some nm := e1
    rcases hcs e2 with ⟨q, e3⟩ | ⟨q, _⟩
    · rw [getL_append, if_pos q] at e1
      obtain ⟨x, c, f1, f2, f3, f4, f5⟩ := cap_cell hF hok e1
      rw [capCs_get f1, f3] at e3
      cases e3
    · rw [getL_append, if_neg q] at e1
      exact lookup_relabel_local (hok.tgt nm (getL_mem e1))
  · intro i nm c e1 e2
    have e1 : getL (cn ++ tn) i = some nm := e1
    rcases hcs e2 with ⟨q, e3⟩ | ⟨q, e3⟩
    · rw [getL_append, if_pos q] at e1
      obtain ⟨x, c', f1, f2, f3, f4, f5⟩ := cap_cell hF hok e1
      rw [capCs_get f1, f3] at e3
      cases e3
      have hcap := hok.cap nm (getL_mem e1)
      refine ⟨lookup_relabel_free hF.kind f4 hcap, clOf_look f5 _ _ (.inl (lookup_mem hcap))⟩
    · cases e3
  · intro i nm e1
    have e1 : getL (cn ++ tn) i = some nm := e1
    rw [getL_append] at e1
    by_cases q : i < cn.length
    · rw [if_pos q] at e1
      obtain ⟨x, c', f1, f2, _⟩ := cap_cell hF hok e1
      exact hF.dbg x nm f2
    · rw [if_neg q] at e1
      exact hok.dbg nm (getL_mem e1)

theorem comp_clos (hF : FOk F) (hok : CompOk F.env.scope F.ns scope cn tn caps) : closureFor scope F.env = pure (clOf F.env scope.names []) := by
  refine closure_eq fun y hy hf => ?_
  obtain ⟨i, hi⟩ : ∃ i, getL cn i = some y.1 := by
    have := (hok.free y hy hf).2
    generalize cn = l at this
    induction l with
    | nil => cases this
    | cons a l ih =>
      rcases List.mem_cons.mp this with q | q
      · exact ⟨0, by rw [q]; rfl⟩
      · obtain ⟨i, e⟩ := ih q; exact ⟨i + 1, e⟩
  obtain ⟨x, c, _, _, _, _, f5⟩ := cap_cell hF hok hi
  exact ⟨c, f5⟩
end
end Mine

/-! part Sound15 -/
namespace Mine
open PySem PyProof.Rows PySem.SeqAt

theorem setR_self : ∀ {r : List R} {x : Nat}, setR r x (getR r x) = r
  | [], _ => rfl
  | _ :: _, 0 => rfl
  | a :: l, x + 1 => by show a :: setR l x (getR l x) = _; rw [setR_self]

theorem freeze_own (r : R) : isOwn (freeze r) = false := by cases r <;> rfl
theorem freezeAll_len : ∀ {xs : List Nat} {r : List R}, (freezeAll xs r).length = r.length
  | [], _ => rfl
  | x :: xs, r => by show (freezeAll xs (setR r x (freeze (getR r x)))).length = _; rw [freezeAll_len, length_setR]
theorem freezeAll_keep : ∀ {xs : List Nat} {r : List R} {y : Nat}, isOwn (getR r y) = false → isOwn (getR (freezeAll xs r) y) = false
  | [], _, _, h => h
  | x :: xs, r, y, h => by
    refine freezeAll_keep (xs := xs) ?_
    by_cases q : x = y
    · subst q
      by_cases hx : x < r.length
      · rw [getR_setR_same hx]; exact freeze_own _
      · have : getR r x = .dead := by
          cases e : getR r x with
          | dead => rfl
          | val v => exact absurd (getR_lt (r := r) (x := x) (by rw [e]; exact fun z => nomatch z)) hx
          | own _ _ => exact absurd (getR_lt (r := r) (x := x) (by rw [e]; exact fun z => nomatch z)) hx
        rw [this]
        show isOwn (getR (setR r x .dead) x) = false
        rw [← this, setR_self, this]; rfl
    · rw [getR_setR_other q]; exact h
theorem freezeAll_no : ∀ {xs : List Nat} {r : List R} {y : Nat}, y ∈ xs → isOwn (getR (freezeAll xs r) y) = false
  | x :: xs, r, y, h => by
    rcases List.mem_cons.mp h with rfl | h
    · refine freezeAll_keep (xs := xs) ?_
      by_cases hx : y < r.length
      · rw [getR_setR_same hx]; exact freeze_own _
      · cases e : getR (setR r y (freeze (getR r y))) y with
        | dead => rfl
        | val v => rfl
        | own _ _ =>
          have := getR_lt (r := setR r y (freeze (getR r y))) (x := y) (by rw [e]; exact fun z => nomatch z)
          rw [length_setR] at this
          exact absurd this hx
    · exact freezeAll_no (xs := xs) h

theorem own_capture {μ : Nat → Addr} {r : List R} : ∀ {xs : List Nat} {t : List R}, (∀ x ∈ xs, isOwn (getR r x) = false) → ownA μ (capture r xs ++ t) = ownA μ t
  | [], _, _ => rfl
  | x :: xs, t, h => by
    show ownA μ (getR r x :: (capture r xs ++ t)) = _
    rw [own_cons_no (h x (.head _)), own_capture fun y hy => h y (.tail _ hy)]
theorem own_deads {μ : Nat → Addr} : ∀ n : Nat, ownA μ (deads n) = []
  | 0 => rfl
  | n + 1 => own_deads n
theorem capture_len {r : List R} : ∀ {xs : List Nat}, (capture r xs).length = xs.length
  | [] => rfl
  | _ :: l => by show (capture r l).length + 1 = _; rw [capture_len]; rfl
theorem deads_len : ∀ n : Nat, (deads n).length = n
  | 0 => rfl
  | n + 1 => by show (deads n).length + 1 = _; rw [deads_len]
theorem getR_append : ∀ {l r : List R} {i : Nat}, getR (l ++ r) i = if i < l.length then getR l i else getR r (i - l.length)
  | [], r, i => by simp
  | a :: l, r, 0 => by simp [getR]
  | a :: l, r, i + 1 => by
    show getR (l ++ r) i = _
    rw [getR_append]
    simp only [List.length_cons, Nat.add_lt_add_iff_right, Nat.add_sub_add_right]
    rfl
theorem capture_get {r : List R} : ∀ {xs : List Nat} {i x : Nat}, getL xs i = some x → getR (capture r xs) i = getR r x
  | _ :: _, 0, _, h => by cases h; rfl
  | _ :: l, i + 1, _, h => capture_get (xs := l) (i := i) h
theorem getR_deads : ∀ (n i : Nat), getR (deads n) i = .dead
  | 0, _ => rfl
  | _ + 1, 0 => rfl
  | n + 1, i + 1 => getR_deads n i

section
variable {prog : Program} {w : World} {N : Nm} {P : Nat → Option Fn} {tab : Nat → Option V} {h₀ : Heap} {mg mb : Str → Option Value}
variable {A : Around} {E : Value → Shared → Prop} {T T' W : List Addr} {μ μ' μ'' : Nat → Addr} {F : Sc} {m : Str → Option Value} {k : Nat} {ev : Ev}
variable {s : Shared} {st st' st'' : St} {v : V} {h h' h'' : Heap}

theorem sr_freezeAll (hF : FOk F) : ∀ (xs : List Nat) {r : List R} {n : Nat}, SR h₀ T μ F ⟨r, n⟩ h m → SR h₀ T μ F ⟨freezeAll xs r, n⟩ h m ∧ EK μ r (Mine.freezeAll xs r) h h
  | [], _, _, X => ⟨X, .refl⟩
  | x :: xs, r, n, X => by
    have one : SR h₀ T μ F ⟨setR r x (freeze (getR r x)), n⟩ h m ∧ EK μ r (setR r x (freeze (getR r x))) h h := by
      cases e : getR r x with
      | dead => rw [show freeze .dead = getR r x from e.symm, setR_self]; exact ⟨X, .refl⟩
      | val v => rw [show freeze (.val v) = getR r x from e.symm, setR_self]; exact ⟨X, .refl⟩
      | own id vs => exact ⟨(X.freeze hF (y := x) e).1, .freeze rfl⟩
    obtain ⟨a, b⟩ := sr_freezeAll hF xs one.1
    exact ⟨a, one.2.trans b⟩

/-- the state of a comprehension at its start -/
theorem comp_sr (hF : FOk F) (X : SR h₀ T μ F st h m) {scope : Scope} {C : Addr} {cn tn : List Str} {caps : List Nat} (hok : CompOk F.env.scope F.ns scope cn tn caps) (hfz : ∀ x ∈ caps, isOwn (getR st.r x) = false)
    (hC : h.get? C = none) (hn : h'.Ns C fun _ => none) (hk : ∀ b o, h.get? b = some o → h'.get? b = some o) :
    SR h₀ (Mx T F μ st.r) μ (compSc F scope C cn tn caps) ⟨capture st.r caps ++ deads tn.length, 0⟩ h' (fun _ => none) ∧ ownA μ (capture st.r caps ++ deads tn.length) = [] := by
  have hown : ownA μ (capture st.r caps ++ deads tn.length) = [] := by rw [own_capture hfz, own_deads]
  refine ⟨?_, hown⟩
  have hlen := picks_len hok.pick
  have hcells : ∀ c, c ∈ (compSc F scope C cn tn caps).cells → c ∈ F.cells := by
    intro c hc
    have hc : c ∈ cellsL (capCs F.cs caps ++ nones tn.length) := hc
    rw [cellsL_append, cellsL_nones, List.append_nil] at hc
    obtain ⟨i, x, _, e⟩ := capCs_mem hc
    exact cellsL_mem e
  have hCM : C ∉ Mx T F μ st.r := fun hm => by obtain ⟨o, e⟩ := X.M_ex hF hm; rw [hC] at e; cases e
  have hst : Step (Mx T F μ st.r) h (Mx (Mx T F μ st.r) (compSc F scope C cn tn caps) μ (capture st.r caps ++ deads tn.length)) h' := fun b o hb e => by
    refine ⟨hk b o e, fun hm => ?_⟩
    rcases mem_Mx.mp hm with q | q | q | q
    · have q : b = C := q
      rw [q, hC] at e; cases e
    · exact hb (mem_Mx.mpr (.inr (.inl (hcells _ q))))
    · exact hb q
    · rw [hown] at q; cases q
  refine { ns := hn, cel := ?_, var := ?_, nd := by rw [show (St.mk (capture st.r caps ++ deads tn.length) 0).r = capture st.r caps ++ deads tn.length from rfl, hown]; exact .nil, disj := ?_, LT := hCM, ids := ?_, ex := ?_, base := fun b o e => hk _ _ (X.base b o e), fr := ?_, len := ?_ }
  · intro c hc
    obtain ⟨o, w', e, hd⟩ := X.cell_ex (hcells c hc)
    exact ⟨w', o, hk _ _ e, hd⟩
  · intro i nm c e1 e2
    have e1 : getL (cn ++ tn) i = some nm := e1
    have e2 : getL (capCs F.cs caps ++ nones tn.length) i = some c := e2
    show RV _ μ h' (getR (capture st.r caps ++ deads tn.length) i) _
    rw [getR_append, capture_len]
    by_cases q : i < caps.length
    · rw [if_pos q]
      rw [getL_append, if_pos (by rw [hlen]; exact q)] at e1
      rw [getL_append, capCs_len, if_pos q] at e2
      obtain ⟨x, c', f1, f2, f3, f4, f5⟩ := cap_cell hF hok e1
      rw [capCs_get f1, f3] at e2
      cases e2
      rw [capture_get f1]
      have qv := X.var x nm (some c') f2 f3
      have hs : slot h' (fun _ => none) nm (some c') = slot h m nm (some c') := by
        obtain ⟨w', o, e, hd⟩ := X.cel c' (cellsL_mem f3)
        rw [slot_cell (m := fun _ => none) (nm := nm) ⟨o, hk _ _ e, hd⟩, slot_cell (m := m) (nm := nm) ⟨o, e, hd⟩]
      show RV _ μ h' (getR st.r x) (slot h' (fun _ => none) nm (some c'))
      rw [hs]
      refine qv.step hst fun id vs er _ _ => ?_
      have := hfz x (getL_mem f1)
      rw [er] at this; cases this
    · rw [if_neg q, getR_deads]; exact .dead
  · intro b hb
    have hb : b ∈ ownA μ (capture st.r caps ++ deads tn.length) := hb
    rw [hown] at hb; cases hb
  · intro x id vs e
    have : μ id ∈ ownA μ (capture st.r caps ++ deads tn.length) := own_get (μ := μ) e
    rw [hown] at this; cases this
  · intro b hb
    obtain ⟨o, e⟩ := X.M_ex hF hb
    exact ⟨o, hk _ _ e⟩
  · intro b hb
    rcases mem_Mx.mp hb with q | q | q | q
    · have q : b = C := q
      cases e : h₀.get? b with
      | none => rfl
      | some o => have := X.base _ _ e; rw [q, hC] at this; cases this
    · exact X.fr b (mem_Mx.mpr (.inr (.inl (hcells _ q))))
    · exact X.fr b q
    · have q : b ∈ ownA μ (capture st.r caps ++ deads tn.length) := q
      rw [hown] at q; cases q
  · show (capture st.r caps ++ deads tn.length).length = (cn ++ tn).length
    rw [List.length_append, List.length_append, capture_len, deads_len, hlen]

theorem IT.self {M : List Addr} {en : Bool} {it : Value} {vs : List V} (I : IT M s.heap en W it vs) {Q : Value → Shared → Prop} (hQ : Q it s) : wpAny (model prog w) A (pyIter it) Q E s := by
  cases I with
  | list a _ _ _ => exact wpAny_pyIter_listiter a hQ
  | range a _ => exact wpAny_pyIter_rangeiter a hQ
  | enum a _ _ _ _ _ => exact wpAny_pyIter_enum a hQ

theorem then_ {M : Model} {α β : Type} {m : Sem α} {f : α → Sem β} {P : α → Shared → Prop} {K : β → Shared → Prop} {E : Value → Shared → Prop} {s : Shared} (h : wpAny M A m P E s) (k : ∀ a s', P a s' → wpAny M A (f a) K E s') : wpAny M A (m >>= f) K E s :=
  wpAny_bind (wpAny_mono h k fun _ _ x => x)

theorem codeAny_compLoop_all {elt target iter : Expr} {ifs : List Expr} {scope : Scope} {pos : Pos} {it acc : Value} {env : Env} {R : Result → Shared → Prop} (I : Nat → Shared → Prop)
    (turn : ∀ n s, I n s → wpAny (model prog w) A (pyNext it) (fun r s₁ => match r with
      | none => R (.ok .next) s₁
      | some v => wpAny (model prog w) A (letOwnedTupleGo target it v) (fun _ s₁' => wpAny (model prog w) A (assign target env v) (fun _ s₂ =>
          wpAny (model prog w) A (forIn ifs true fun c r => if r = true then do let ok ← isTrue c env (eval c env); pure (ForInStep.yield ok) else pure (ForInStep.yield r)) (fun ok s₃ =>
            if ok = true then wpAny (model prog w) A (eval elt env) (fun x s₄ =>
              wpAny (model prog w) A (call (.builtin "list.append") [acc, x]) (fun _ s₅ => ∃ m, m < n ∧ I m s₅) (notedBy (model prog w) A env fun e s' => R (.error e) s') s₄) (notedBy (model prog w) A env fun e s' => R (.error e) s') s₃
            else ∃ m, m < n ∧ I m s₃) (notedBy (model prog w) A env fun e s' => R (.error e) s') s₂) (notedBy (model prog w) A env fun e s' => R (.error e) s') s₁') (notedBy (model prog w) A env fun e s' => R (.error e) s') s₁) (notedBy (model prog w) A env fun e s' => R (.error e) s') s)
    (n : Nat) (h : I n s) :
    codeAny (model prog w) A (.compLoop (.ListComp elt [⟨target, iter, ifs, 0⟩] scope pos) 0 it acc env) R s := by
  refine codeAny_loop rfl I (fun n s hI => wpAny_noted (m := compTurn (.ListComp elt [⟨target, iter, ifs, 0⟩] scope pos) 0 it acc env) ?_) n h
  rw [compTurn_list]
  refine wpAny_bind (wpAny_standAt (then_ (turn n s hI) fun r s₁ h₁ => ?_))
  match r, h₁ with
  | none, h₁ => exact wpAny_pure h₁
  | some v, h₁ =>
    refine then_ h₁ fun _ _ h₂ => then_ h₂ fun _ _ h₃ => then_ h₃ fun ok _ h₄ => ?_
    cases ok
    · exact wpAny_pure ⟨rfl, h₄⟩
    · exact wpAny_bind (then_ h₄ fun _ _ h₅ => then_ h₅ fun _ _ h₆ => wpAny_pure (wpAny_pure ⟨rfl, h₆⟩))
end
end Mine

/-! part Sound16 -/
namespace Mine
open PySem PyProof.Rows PySem.SeqAt

theorem Mx_own {T : List Addr} {F : Sc} {μ : Nat → Addr} {r r' : List R} (h : ownA μ r = ownA μ r') : Mx T F μ r = Mx T F μ r' := by unfold Mx; rw [h]

section
variable {prog : Program} {w : World} {N : Nm} {P : Nat → Option Fn} {tab : Nat → Option V} {h₀ : Heap} {mg mb : Str → Option Value}
variable {A : Around} {E : Value → Shared → Prop} {T T' : List Addr} {μ μ' μ'' : Nat → Addr} {F : Sc} {m : Str → Option Value} {k : Nat} {ev : Ev}
variable {s : Shared} {st st' st'' : St} {v : V} {h h' h'' : Heap} {Q : Value → Shared → Prop}

theorem comp_core (G : GOk N P tab h₀ mg mb) (IH : SndE prog w N h₀ k ev.e) (IT' : SndT prog w N h₀ k ev.t) (hr : Room A k) (hF : FOk F) (X : SR h₀ T μ F st s.heap m) {elt target iter : Expr} {ifs : List Expr} {scope : Scope} {pos p : Pos}
    {celt : Mine.X} {tgt : List Nat} {src : Src} {cifs : Xs} {caps : List Nat} {cn tn : List Str} (hok : CompOk F.env.scope F.ns scope cn tn caps) (hsrc : CSrc N F.env.scope F.ns iter src) (htg : CTg (cn ++ tn) target tgt)
    (htn : tgt.length = tn.length) (hlo : ∀ x ∈ tgt, cn.length ≤ x) (hen : ∀ a, src ≠ .enum a) (ce : CE N (relabelS scope F.env.scope) (cn ++ tn) elt celt) (ci : CTs N (relabelS scope F.env.scope) (cn ++ tn) ifs cifs)
    {vs ws : List V} {st1 : St} (e1 : items ev src st = some (vs, st1)) (e2 : compLoop ev celt tgt cifs vs ⟨capture (freezeAll caps st1.r) caps ++ deads tgt.length, 0⟩ = some ws) {use : Option (Value → Sem Unit)}
    (K : ∀ C a l h' tk m', C ∉ T → a ∉ T → s.heap.get? a = none → a ≠ C → h'.Ns C m' → s.heap.get? C = none → Plain h' a l → VRs (Mx (a :: C :: T) F μ (freezeAll caps st1.r)) h' ws l → SR h₀ (a :: C :: T) μ F ⟨freezeAll caps st1.r, st1.n⟩ h' m →
      EK μ st.r (freezeAll caps st1.r) s.heap h' → st1.n = st.n → compPost (model prog w) A E use Q (.ref a) C (.ok .next) { s with heap := h', toks := tk }) :
    wpAny (model prog w) A (comprehension (.ListComp elt [⟨target, iter, ifs, 0⟩] scope pos) scope F.env p (newList []) false (eval iter F.env) use) Q E s := by
  refine wpAny_comprehension_free rfl (src_fold hsrc F.env) (comp_clos hF hok) hok.kind hok.loc (snd_src G IH hr hF X hsrc e1 fun en it W h1 tk1 hen1 hlen I1 X1 k1 n1 hW => ?_)
  obtain ⟨X1f, kf⟩ := sr_freezeAll hF caps (r := st1.r) (n := st1.n) X1
  have hWc := I1.noCell X1
  have hWex : ∀ x ∈ W, ∃ o, h1.get? x = some o := fun x hx => X1.ex x (List.mem_append_left _ hx)
  have hWT : ∀ x ∈ W, x ∉ T := fun x hx hm => by obtain ⟨o, e⟩ := X.ex x hm; rw [hW x hx] at e; cases e
  generalize hstf : (⟨freezeAll caps st1.r, st1.n⟩ : St) = stf at X1f K
  have hrf : freezeAll caps st1.r = stf.r := by rw [← hstf]
  rw [hrf] at kf e2 K
  have hfz : ∀ x ∈ caps, isOwn (getR stf.r x) = false := fun x hx => by rw [← hrf]; exact freezeAll_no hx
  have I1f : IT (Mx (W ++ T) F μ stf.r) h1 en W it vs := I1.step (fun b o hb e => ⟨e, fun hm => hb (mem_Mx.mpr ((mem_Mx.mp hm).imp id (Or.imp id (Or.imp id (kf.sub b)))))⟩) fun _ _ _ e => e
  refine wpAny_newObj_type (wpAny_newFunctionEnv hok.nocell (by intro y hy; simp at hy) (fun h3 hn3 hs3 => ?_) hok.kind)
  dsimp only at hn3 hs3 ⊢
  generalize hH2 : h1.push { cls := .type "list", dict := none, data := .seq ([] : List Value).toArray } = h2 at hn3 hs3 ⊢
  generalize hCdef : h2.objs.size = C at hn3 hs3 ⊢
  have hk12 : ∀ b o, h1.get? b = some o → h2.get? b = some o := fun b o e => by rw [← hH2]; exact Heap.get?_push_of_some _ e
  have ha2 : Plain h2 h1.objs.size [] := ⟨0, by rw [← hH2]; exact Heap.get?_push_size _ rfl⟩
  have hCnone : h2.get? C = none := by rw [← hCdef]; exact fresh_size _
  have hk23 : ∀ b o, h2.get? b = some o → h3.get? b = some o := fun b o e => hs3.extBut b o (fun q => by rw [q, hCnone] at e; cases e) (Heap.get?_push_of_some _ e)
  generalize hadef : h1.objs.size = a at ha2 ⊢
  have hanone : h1.get? a = none := by rw [← hadef]; exact fresh_size _
  have haC : a ≠ C := fun q => by obtain ⟨n, e⟩ := ha2; rw [q, hCnone] at e; cases e
  obtain ⟨X2, st12⟩ := SR.news hF hk12 [a] X1f fun x hx => by rw [List.mem_singleton.mp hx]; obtain ⟨n, e⟩ := ha2; exact ⟨hanone, _, e⟩
  have I2 : IT (Mx ([a] ++ (W ++ T)) F μ stf.r) h2 en W it vs := I1f.step st12 fun x _ o e => hk12 x o e
  have hn3 : h3.Ns C fun _ => none := hn3
  obtain ⟨Xc, hoc⟩ := comp_sr (C := C) hF X2 hok hfz hCnone hn3 hk23
  have hFc := comp_fok (C := C) hF hok
  generalize hFcdef : compSc F scope C cn tn caps = Fc at Xc hFc
  have hLc : Fc.env.locals = C := by rw [← hFcdef]; rfl
  have hcs : ∀ x ∈ tgt, ∀ c, getL Fc.cs x ≠ some (some c) := fun x hx c q => by
    rw [← hFcdef] at q
    have q : getL (capCs F.cs caps ++ nones tn.length) x = some (some c) := q
    have hl := picks_len hok.pick
    rw [getL_append, capCs_len, ← hl, if_neg (Nat.not_lt.mpr (hlo x hx))] at q
    exact nomatch nones_get q
  have hcellF : ∀ c, c ∈ Fc.cells → c ∈ F.cells := fun c hc => by
    rw [← hFcdef] at hc
    have hc : c ∈ cellsL (capCs F.cs caps ++ nones tn.length) := hc
    rw [cellsL_append, cellsL_nones, List.append_nil] at hc
    obtain ⟨i, x, _, e⟩ := capCs_mem hc
    exact cellsL_mem e
  have haF : a ∉ F.cells := fun hm => by
    obtain ⟨o, w', e, hd⟩ := X2.cell_ex hm
    obtain ⟨n, e'⟩ := ha2
    rw [e] at e'; cases e'; cases hd
  rw [← htn] at Xc hoc
  generalize hstc : (⟨capture stf.r caps ++ deads tgt.length, 0⟩ : St) = stc at Xc e2
  have hoc : ownA μ stc.r = [] := by rw [← hstc]; exact hoc
  generalize hTc : Mx ([a] ++ (W ++ T)) F μ stf.r = Tc at Xc I2
  have hWTc : ∀ x ∈ W, x ∈ Tc := fun x hx => by rw [← hTc]; exact mem_Mx.mpr (.inr (.inr (.inl (List.mem_append_right _ (List.mem_append_left _ hx)))))
  have haTc : a ∈ Tc := by rw [← hTc]; exact mem_Mx.mpr (.inr (.inr (.inl (List.mem_append_left _ (.head _)))))
  have hTM : ∀ {x : Addr}, x ∈ Tc → x ∈ Mx Tc Fc μ stc.r := fun hx => mem_Mx.mpr (.inr (.inr (.inl hx)))
  have hCM : C ∈ Mx Tc Fc μ stc.r := mem_Mx.mpr (.inl hLc.symm)
  have hCW : C ∉ W := fun hm => by obtain ⟨o, e⟩ := hWex _ hm; rw [hk12 _ _ e] at hCnone; cases hCnone
  have haW : a ∉ W := fun hm => by obtain ⟨o, e⟩ := hWex _ hm; rw [hanone] at e; cases e
  -- what stood at the start of the loop stands
  have st23 : Step Tc h2 (Mx Tc Fc μ stc.r) h3 := fun b o hb e => ⟨hk23 b o e, fun hm => by
    rcases mem_Mx.mp hm with q | q | q | q
    · rw [hLc] at q; rw [q, hCnone] at e; cases e
    · have := hcellF _ q
      rw [← hTc] at hb
      exact hb (mem_Mx.mpr (.inr (.inl this)))
    · exact hb q
    · rw [hoc] at q; cases q⟩
  have I3 : IT (Mx Tc Fc μ stc.r) h3 en W it vs := I2.step st23 fun x _ o e => hk23 x o e
  have loop : codeAny (model prog w) A (.compLoop (.ListComp elt [⟨target, iter, ifs, 0⟩] scope pos) 0 it (.ref a) Fc.env) (compPost (model prog w) A E use Q (.ref a) C) { s with heap := h3, toks := tk1 + ([] : List (Str × Value)).length } := by
    refine codeAny_compLoop_all (fun n s' => ∃ h tk st mc vs' ys done rest, s' = { s with heap := h, toks := tk } ∧ n = vs'.length ∧ compLoop ev celt tgt cifs vs' st = some rest ∧ ws = done ++ rest ∧ SR h₀ Tc μ Fc st h mc ∧ ownA μ st.r = [] ∧
      IT (Mx Tc Fc μ stc.r) h en W it vs' ∧ Plain h a ys ∧ VRs (Mx Tc Fc μ stc.r) h done ys ∧ done.length + vs'.length ≤ 1000 ∧ (∀ b o, b ≠ C → b ≠ a → b ∉ W → h3.get? b = some o → h.get? b = some o)) ?_ vs.length
      ⟨h3, _, stc, _, vs, [], [], ws, rfl, rfl, e2, rfl, Xc, hoc, I3, ha2.at fun o e => hk23 _ _ e, .nil, by simp; omega, fun _ _ _ _ _ e => e⟩
    rintro n s' ⟨h, tk, stk, mc, vs', ys, done, rest, rfl, rfl, ecl, ews, Xk, hok', Ik, pk, qk, hlen', keep⟩
    have hMk : Mx Tc Fc μ stk.r = Mx Tc Fc μ stc.r := Mx_own (hok'.trans hoc.symm)
    cases vs' with
    | nil =>
      unfold compLoop at ecl
      cases ecl
      rw [List.append_nil] at ews
      subst ews
      refine snd_next_nil hr.1 rfl Ik fun h' tk' hk' => ?_
      have keep' : ∀ b o, b ≠ C → b ≠ a → b ∉ W → h3.get? b = some o → h'.get? b = some o := fun b o q1 q2 q3 e => hk' b o q3 (keep b o q1 q2 q3 e)
      have hNs : h'.Ns C mc := by have := Xk.ns; rw [hLc] at this; exact this.at' fun o e => hk' _ _ hCW e
      have hp' : Plain h' a ys := pk.at fun o e => hk' _ _ haW e
      have hs1C : h1.get? C = none := by
        cases e : h1.get? C with
        | none => rfl
        | some o => rw [hk12 _ _ e] at hCnone; cases hCnone
      have haT : a ∉ T := fun hm => by obtain ⟨o, e⟩ := X1.ex a (List.mem_append_right _ hm); rw [hanone] at e; cases e
      have hCT : C ∉ T := fun hm => by obtain ⟨o, e⟩ := X1.ex C (List.mem_append_right _ hm); rw [hs1C] at e; cases e
      have hchain : ∀ b o, b ∉ W → h1.get? b = some o → h'.get? b = some o := fun b o q3 e =>
        keep' b o (fun q => by rw [q, hs1C] at e; cases e) (fun q => by rw [q, hanone] at e; cases e) q3 (hk23 _ _ (hk12 _ _ e))
      refine K C a ys h' tk' mc hCT haT (k1.fresh hanone) haC hNs (k1.fresh hs1C) hp' ?_ ?_ ?_ n1
      · refine qk.step fun b o hb e => ⟨hk' b o (fun q => hb (hTM (hWTc _ q))) e, fun hm => hb ?_⟩
        rcases mem_Mx.mp hm with q | q | q | q
        · exact hTM (by rw [← hTc]; exact mem_Mx.mpr (.inl q))
        · exact hTM (by rw [← hTc]; exact mem_Mx.mpr (.inr (.inl q)))
        · rcases List.mem_cons.mp q with q | q
          · rw [q]; exact hTM haTc
          · rcases List.mem_cons.mp q with q | q
            · rw [q]; exact hCM
            · exact hTM (by rw [← hTc]; exact mem_Mx.mpr (.inr (.inr (.inl (List.mem_append_right _ (List.mem_append_right _ q))))))
        · exact hTM (by rw [← hTc]; exact mem_Mx.mpr (.inr (.inr (.inr q))))
      · obtain ⟨X3, _⟩ := SR.news hF hk23 [C] X2 fun x hx => by
          rw [List.mem_singleton.mp hx]
          obtain ⟨o, _, _, e, _⟩ := hn3
          exact ⟨hCnone, o, e⟩
        have X3' : SR h₀ (W ++ (a :: C :: T)) μ F stf h3 m := X3.less fun b hb => by
          rcases List.mem_append.mp hb with q | q
          · exact List.mem_append_right [C] (List.mem_append_right [a] (List.mem_append_left T q))
          · rcases List.mem_cons.mp q with q | q
            · rw [q]; exact .tail _ (.head _)
            · rcases List.mem_cons.mp q with q | q
              · rw [q]; exact .head _
              · exact List.mem_append_right [C] (List.mem_append_right [a] (List.mem_append_right W q))
        refine X3'.lose (B := [a, C]) (fun b o q1 q2 e => keep' b o (fun q => q2 (q ▸ .tail _ (.head _))) (fun q => q2 (q ▸ .head _)) q1 e) (fun x hx hm => ?_) hWc fun x hx => ?_
        · rcases List.mem_cons.mp hm with q | q
          · exact haW (q ▸ hx)
          · rcases List.mem_cons.mp q with q | q
            · exact hCW (q ▸ hx)
            · exact hWT _ hx q
        · rcases List.mem_cons.mp hx with rfl | hx
          · exact ⟨.head _, haF, by obtain ⟨n, e⟩ := hp'; exact ⟨_, e⟩⟩
          · rw [List.mem_singleton.mp hx]
            refine ⟨.tail _ (.head _), fun hm => ?_, by obtain ⟨o, _, _, e, _⟩ := hNs; exact ⟨o, e⟩⟩
            obtain ⟨o, w', e, _⟩ := X2.cell_ex hm
            rw [hCnone] at e; cases e
      · refine ⟨fun b o q e => ?_, fun b hb => k1.sub b (kf.sub b hb), fun b o e => ?_⟩
        · exact hchain b o (fun q' => by rw [hW b q'] at e; cases e) (k1.kept b o q e)
        · obtain ⟨o', e'⟩ := k1.ex b o e
          exact ⟨o', hchain b o' (fun q' => by rw [hW b q'] at e; cases e) e'⟩
    | cons v0 vs0 =>
      unfold compLoop at ecl
      split at ecl
      · rename_i sta ebind
        rw [← hMk] at Ik
        have htg' : CTg Fc.ns target tgt := by rw [← hFcdef]; exact htg
        refine snd_next_cons (R := compPost (model prog w) A E use Q (.ref a) C (.ok .next)) hFc Xk hWTc rfl Ik htg' (fun q => by obtain ⟨z, hz⟩ := hen1 q; exact absurd hz (hen z)) fun wv h4 tk4 q4 I4 X4 hk4 => ?_
        refine snd_tgt (s := { s with heap := h4, toks := tk4 }) hr.1 hFc X4 htg' ebind q4 (fun x hx c q => absurd q (hcs x hx c)) fun h5 m5 tk5 X5 k5 => ?_
        have hoa : ownA μ sta.r = [] := List.eq_nil_iff_forall_not_mem.mpr fun b hb => by have := k5.sub b hb; rw [hok'] at this; cases this
        have hk5 : ∀ b o, b ≠ C → h4.get? b = some o → h5.get? b = some o := fun b o q e => k5.kept b o (by rw [hLc]; exact q) (fun x hx => hcs x hx b) e
        have ci' : CTs N Fc.env.scope Fc.ns ifs cifs := by rw [← hFcdef]; exact ci
        have ce' : CE N Fc.env.scope Fc.ns elt celt := by rw [← hFcdef]; exact ce
        have ekall : ∀ {r r' : List R} {x y : Heap}, ownA μ r = [] → EK μ r r' x y → ∀ b o, x.get? b = some o → y.get? b = some o := fun hr0 kk b o e => kk.kept b o (by rw [hr0]; exact fun z => nomatch z) e
        have eknil : ∀ {r r' : List R} {x y : Heap}, ownA μ r = [] → EK μ r r' x y → ownA μ r' = [] := fun hr0 kk => List.eq_nil_iff_forall_not_mem.mpr fun b hb => by have := kk.sub b hb; rw [hr0] at this; cases this
        split at ecl
        · rename_i stb etest
          split at ecl
          · rename_i wn stc' eelt
            split at ecl
            · rename_i rest' erest
              cases ecl
              refine snd_tests (s := { s with heap := h5, toks := tk5 }) IT' hr hFc ifs ci' etest X5 fun h6 tk6 X6 k6 n6 => ?_
              simp only [if_true]
              refine IH (s := { s with heap := h6, toks := tk6 }) ce' eelt hr hFc X6 fun wx h7 tk7 q7 X7 k7 n7 => ?_
              have hob := eknil hoa k6
              have hoc' := eknil hob k7
              have k57 : ∀ b o, h5.get? b = some o → h7.get? b = some o := fun b o e => ekall hob k7 b o (ekall hoa k6 b o e)
              have p7 : Plain h7 a ys := pk.at fun o e => k57 _ _ (hk5 _ _ haC (hk4 _ _ haW e))
              have hly := qk.length
              refine append_raw (s := { s with heap := h7, toks := tk7 }) p7 (by rw [hly]; simp at hlen'; omega) fun h8 p8 hs8 => ?_
              have hs8 : Heap.SameBut a h7 h8 := hs8
              have hall : ∀ b o, b ≠ C → b ≠ a → b ∉ W → h.get? b = some o → h8.get? b = some o := fun b o q1 q2 q3 e => hs8.extBut b o q2 (k57 _ _ (hk5 _ _ q1 (hk4 _ _ q3 e)))
              have hst8 : Step (Mx Tc Fc μ stc.r) h (Mx Tc Fc μ stc.r) h8 := fun b o hb e => ⟨hall b o (fun q => hb (q ▸ hCM)) (fun q => hb (q ▸ hTM haTc)) (fun q => hb (hTM (hWTc _ q))) e, hb⟩
              have hst48 : Step (Mx Tc Fc μ stc.r) h4 (Mx Tc Fc μ stc.r) h8 := fun b o hb e => ⟨hs8.extBut b o (fun q => hb (q ▸ hTM haTc)) (k57 _ _ (hk5 _ _ (fun q => hb (q ▸ hCM)) e)), hb⟩
              have hst78 : Step (Mx Tc Fc μ stc'.r) h7 (Mx Tc Fc μ stc.r) h8 := fun b o hb e => by
                rw [Mx_own (hoc'.trans hoc.symm)] at hb
                exact ⟨hs8.extBut b o (fun q => hb (q ▸ hTM haTc)) e, hb⟩
              rw [hMk] at I4
              refine ⟨vs0.length, Nat.lt_succ_self _, h8, tk7, stc', m5, vs0, ys ++ [wx], done ++ [wn], rest', rfl, rfl, erest, by rw [ews]; simp, ?_, hoc', I4.step hst48 (fun x hx o e => ?_), p8, (qk.step hst8).append (.cons (q7.step hst78) .nil), by simp at hlen' ⊢; omega, fun b o q1 q2 q3 e => hall b o q1 q2 q3 (keep b o q1 q2 q3 e)⟩
              · exact X7.modW (W := [a]) (fun b o q e => hs8.extBut b o (fun z => q (z ▸ .head _)) e) (fun x hx => by rw [List.mem_singleton.mp hx]; exact haTc) (fun x hx => by rw [List.mem_singleton.mp hx]; exact fun q => haF (hcellF _ q)) fun x hx => by
                  rw [List.mem_singleton.mp hx]; obtain ⟨n, e⟩ := p8; exact ⟨_, e⟩
              · exact hs8.extBut x o (fun q => haW (q ▸ hx)) (k57 _ _ (hk5 _ _ (fun q => hCW (q ▸ hx)) e))
            · cases ecl
          · cases ecl
        · rename_i stb etest
          refine snd_tests (s := { s with heap := h5, toks := tk5 }) IT' hr hFc ifs ci' etest X5 fun h6 tk6 X6 k6 n6 => ?_
          simp only [Bool.false_eq_true, if_false]
          have hob := eknil hoa k6
          have k56 : ∀ b o, h5.get? b = some o → h6.get? b = some o := fun b o e => ekall hoa k6 b o e
          have hall : ∀ b o, b ≠ C → b ∉ W → h.get? b = some o → h6.get? b = some o := fun b o q1 q3 e => k56 _ _ (hk5 _ _ q1 (hk4 _ _ q3 e))
          have hst6 : Step (Mx Tc Fc μ stc.r) h (Mx Tc Fc μ stc.r) h6 := fun b o hb e => ⟨hall b o (fun q => hb (q ▸ hCM)) (fun q => hb (hTM (hWTc _ q))) e, hb⟩
          have hst46 : Step (Mx Tc Fc μ stc.r) h4 (Mx Tc Fc μ stc.r) h6 := fun b o hb e => ⟨k56 _ _ (hk5 _ _ (fun q => hb (q ▸ hCM)) e), hb⟩
          rw [hMk] at I4
          exact ⟨vs0.length, Nat.lt_succ_self _, h6, tk6, stb, m5, vs0, ys, done, rest, rfl, rfl, ecl, ews, X6, hob, I4.step hst46 (fun x hx o e => k56 _ _ (hk5 _ _ (fun q => hCW (q ▸ hx)) e)), pk.at (fun o e => hall _ _ haC haW e), qk.step hst6, by simp at hlen' ⊢; omega,
            fun b o q1 q2 q3 e => hall b o q1 q3 (keep b o q1 q2 q3 e)⟩
        · cases ecl
      · cases ecl
  rw [← hFcdef] at loop
  exact codeAny_compStart_list loop (IT.self (s := { s with heap := h3, toks := tk1 + ([] : List (Str × Value)).length }) I3 loop)
end
end Mine

/-! part Sound17 -/
namespace Mine
open PySem PyProof.Rows PySem.SeqAt

section
variable {prog : Program} {w : World} {N : Nm} {P : Nat → Option Fn} {tab : Nat → Option V} {h₀ : Heap} {mg mb : Str → Option Value}
variable {A : Around} {E : Value → Shared → Prop} {T T' : List Addr} {μ μ' μ'' : Nat → Addr} {F : Sc} {m : Str → Option Value} {k : Nat} {ev : Ev}
variable {s : Shared} {st st' st'' : St} {v : V} {h h' h'' : Heap} {Q : Value → Shared → Prop}

/-- the comprehension's variables are let go -/
theorem lose_C {C a : Addr} (X : SR h₀ (a :: C :: T) μ F st h m) (hCT : C ∉ T) (haC : a ≠ C) (hCc : C ∉ F.cells) (hs : Heap.SameBut C h h') : SR h₀ (a :: T) μ F st h' m := by
  have X' : SR h₀ ([C] ++ (a :: T)) μ F st h m := X.less fun b hb => by
    rcases List.mem_cons.mp hb with q | q
    · rw [q]; exact .tail _ (.head _)
    · rcases List.mem_cons.mp q with q | q
      · rw [q]; exact .head _
      · exact .tail _ (.tail _ q)
  refine X'.lose (B := []) (fun b o q1 _ e => hs.extBut b o (fun q => q1 (q ▸ .head _)) e) (fun x hx hm => ?_) (fun x hx => ?_) fun x hx => nomatch hx
  · rw [List.mem_singleton.mp hx] at hm
    rcases List.mem_cons.mp hm with q | q
    · exact haC q.symm
    · exact hCT q
  · rw [List.mem_singleton.mp hx]; exact hCc

theorem noT_cell {C : Addr} (X : SR h₀ T μ F st s.heap m) (hC : s.heap.get? C = none) : C ∉ F.cells := fun hm => by
  obtain ⟨o, w', e, _⟩ := X.cell_ex hm
  rw [hC] at e; cases e

theorem vrs_lose {C a : Addr} {r : List R} {ws : List V} {l : List Value} (q : VRs (Mx (a :: C :: T) F μ r) h ws l) (hs : Heap.SameBut C h h') : VRs (Mx (a :: T) F μ r) h' ws l :=
  q.step fun b o hb e => ⟨hs.extBut b o (fun z => hb (mem_Mx.mpr (.inr (.inr (.inl (z ▸ .tail _ (.head _))))))) e, fun hm => hb (Mx_sub (fun _ h => by
    rcases List.mem_cons.mp h with q | q
    · rw [q]; exact .head _
    · exact .tail _ (.tail _ q)) hm)⟩

theorem e_comp (G : GOk N P tab h₀ mg mb) (IH : SndE prog w N h₀ k ev.e) (IT' : SndT prog w N h₀ k ev.t) (hr : Room A k) (hF : FOk F) (X : SR h₀ T μ F st s.heap m) {elt target iter : Expr} {ifs : List Expr} {scope : Scope} {pos : Pos}
    {celt : Mine.X} {tgt : List Nat} {src : Src} {cifs : Xs} {caps : List Nat} {cn tn : List Str} (hok : CompOk F.env.scope F.ns scope cn tn caps) (hsrc : CSrc N F.env.scope F.ns iter src) (htg : CTg (cn ++ tn) target tgt)
    (htn : tgt.length = tn.length) (hlo : ∀ x ∈ tgt, cn.length ≤ x) (hen : ∀ a, src ≠ .enum a) (ce : CE N (relabelS scope F.env.scope) (cn ++ tn) elt celt) (ci : CTs N (relabelS scope F.env.scope) (cn ++ tn) ifs cifs)
    (he : exprStep ev tab (.comp celt tgt src cifs caps) st = some (v, st'))
    (KF : ∀ vs a l h' tk, v = .lst vs → s.heap.get? a = none → a ∉ T → Plain h' a l → VRs (Mx (a :: T) F μ st'.r) h' vs l → SR h₀ (a :: T) μ F st' h' m → EK μ st.r st'.r s.heap h' → st'.n = st.n → Q (.ref a) { s with heap := h', toks := tk }) :
    wpAny (model prog w) A (eval (.ListComp elt [⟨target, iter, ifs, 0⟩] scope pos) F.env) Q E s := by
  simp only [exprStep] at he
  split at he
  · rename_i vs st1 e1
    split at he
    · rename_i ws e2
      cases he
      rw [eval_ListComp]
      refine comp_core (use := none) G IH IT' hr hF X hok hsrc htg htn hlo hen ce ci e1 e2 fun C a l h1 tk1 m1 hCT haT haN haC hN hC hp hv X1 k1 n1 => ?_
      refine ⟨m1, hN, fun h2 hs => ?_⟩
      have hs : Heap.SameBut C h1 h2 := hs
      refine KF _ a l h2 tk1 rfl haN haT (hp.at fun o e => hs.extBut _ _ haC e) (vrs_lose hv hs) (lose_C X1 hCT haC (noT_cell X hC) hs) ?_ n1
      refine ⟨fun b o hb e => hs.extBut b o (fun q => by rw [q, hC] at e; cases e) (k1.kept b o hb e), k1.sub, fun b o e => ?_⟩
      obtain ⟨o', e'⟩ := k1.ex b o e
      exact ⟨o', hs.extBut b o' (fun q => by rw [q, hC] at e; cases e) e'⟩
    · cases he
  · cases he

theorem call_attr {env : Env} {nm name : Str} {p1 p2 pos : Pos} {e : Expr} (hp : (p2.endLine == pos.line) = true) (hs : starEach [e] env = (false, eval e env) :: starEach [] env) :
    ∃ pl : Sem Bool, eval (.Call (.Attribute (.Name nm p1) name p2) [e] [] pos) env = (do
      let ov ← eval (.Name nm p1) env
      standAt p2.atName
      let (f, first) ← holding [ov] (getMethod ov name pl)
      callWith pos f first (backTo pos (starEach [e] env)) []) := by
  apply Exists.intro
  have h1 : eval (.Call (.Attribute (.Name nm p1) name p2) [e] [] pos) env = (do
      let ov ← attributeBase (.Name nm p1) name env (eval (.Name nm p1) env)
      standAt p2.atName
      methodCall (.Name nm p1) name p2 pos env ov 1 (backTo pos (starEach [e] env)) []) := rfl
  have hf : methodCallForm 1 (backTo pos (starEach [e] env)) [] = true := by rw [hs]; rfl
  rw [h1]
  unfold methodCall methodCallPos calleeOf
  rw [hf]
  simp only [hp, Bool.not_true, Bool.false_or, if_true, pure_bind]
  rfl

theorem e_index (IH : SndE prog w N h₀ k ev.e) (hr : Room A k) (hF : FOk F) (X : SR h₀ T μ F st s.heap m) {nm : Str} {p1 p2 pos : Pos} {e : Expr} {x : Nat} {a : Mine.X} (hx : getL F.ns x = some nm) (hp : (p2.endLine == pos.line) = true) (ca : CE N F.env.scope F.ns e a)
    (he : exprStep ev tab (.index x a) st = some (v, st'))
    (K : ∀ wv h' tk, VR (Mx T F μ st'.r) h' v wv → SR h₀ T μ F st' h' m → EK μ st.r st'.r s.heap h' → st'.n = st.n → Q wv { s with heap := h', toks := tk }) :
    wpAny (model prog w) A (eval (.Call (.Attribute (.Name nm p1) (Str.ofString "index") p2) [e] [] pos) F.env) Q E s := by
  simp only [exprStep] at he
  split at he
  · rename_i vs0 e0
    split at he
    · rename_i us st1 e1
      split at he
      · rename_i is vs e2 e3
        split at he
        · rename_i yss hsh e4
          split at he
          · rename_i n e5
            cases he
            obtain ⟨c, wv, hcs, hsl, hgo⟩ := eval_name (M := model prog w) (A := A) (E := E) hF X hx (hF.dbg _ _ hx) (contents_live e0)
            obtain ⟨wv', e6, pv⟩ := contents_pv (X.var _ _ _ hx hcs) e0
            rw [hsl] at e6; cases e6
            obtain ⟨b, l, rfl, ⟨c0, pl⟩, ql⟩ := pv.lst
            obtain ⟨pl', hpl⟩ := call_attr (nm := nm) (name := Str.ofString "index") (p1 := p1) (env := F.env) hp (star_no ca [] F.env)
            refine MethodCall_ (hgo (getMethod_list_of PySem.F.slot_list_index PySem.F.type_list_index (Plain.isList ⟨c0, pl⟩) ⟨_, pl, rfl⟩ (callWith_method1 (args_cons (IH ca e1 hr hF X fun wi h1 tk1 r1 X1 k1 n1 => args_nil ?_) (star_no ca _ _)) (star_no ca _ _)))) hpl
            obtain ⟨wv', e7, pv1⟩ := contents_pv (X1.var _ _ _ hx hcs) e3
            rw [slot_still X k1 hcs, hsl] at e7; cases e7
            obtain ⟨b', l', hb', pl', ql'⟩ := pv1.lst
            cases hb'
            cases r1 with
            | lst pc hc qc =>
              have hi := intsAre_of qc e2
              have hu : A.in1.units + 64 < cLine := by have := hr.2.2; show A.units + 1 + 64 < cLine; omega
              obtain ⟨i1, i2, i3⟩ := lists_at (A := A.in1) (s := { s with heap := h1, toks := tk1 }) pc hi hu ql' e4
              obtain ⟨hn, j1, j2⟩ := i3 n e5
              have := ql'.length
              have hsh := blt_lt hsh
              exact index_raw (s := { s with heap := h1, toks := tk1 }) pl' hn (by omega) i1 j1 j2 (K _ _ _ (.int _ _) X1 k1 n1)
          · cases he
        · cases he
      · cases he
    · cases he
  · cases he

theorem e_callm (G : GOk N P tab h₀ mg mb) (IH : SndE prog w N h₀ k ev.e) (IM : SndM prog w N h₀ mg k ev.m) (hr : Room A k) (hF : FOk F) (X : SR h₀ T μ F st s.heap m) {nm : Str} {p pos : Pos} {vn : Str} {p2 : Pos} {es : List Expr} {f x : Nat}
    {xs : Xs} (hP : ∀ us vs v, ev.m f us vs = some v → ∃ fn, P f = some fn) (hn : N.fn f = nm) (hd : (nm == ("__debug__" : Str)) = false) (hk : F.env.scope.names.lookup nm = some .globalImplicit)
    (hx : getL F.ns x = some vn) (c2 : CEs N F.env.scope F.ns es xs) (he : exprStep ev tab (.callm f x xs) st = some (v, st'))
    (K : ∀ wv h' tk, VR (Mx T F μ st'.r) h' v wv → SR h₀ T μ F st' h' m → EK μ st.r st'.r s.heap h' → st'.n = st.n → Q wv { s with heap := h', toks := tk }) :
    wpAny (model prog w) A (eval (.Call (.Name nm p) (.Name vn p2 :: es) [] pos) F.env) Q E s := by
  simp only [exprStep] at he
  split at he
  · rename_i id us0 e0
    split at he
    · rename_i vs st1 e1
      split at he
      · rename_i id' us e2
        split at he
        · rename_i hid
          split at he
          · rename_i v' us' e3
            cases he
            have hid := Nat.eq_of_beq_eq_true hid
            subst hid
            obtain ⟨fn, hfn⟩ := hP _ _ _ e3
            obtain ⟨fa, o, fd, body, ns, fo⟩ := G.fns _ _ hfn
            have hg := fo.g
            rw [hn] at hg
            obtain ⟨c, wv, hcs, hsl, hgo⟩ := eval_name (M := model prog w) (A := A) (E := E) hF X hx (hF.dbg _ _ hx) (by rw [e0]; exact fun q => nomatch q)
            have q0 := X.var _ _ _ hx hcs
            rw [e0, hsl] at q0
            refine Call_ (names_glob hF X G.g hk hg hd (callWith_def_at (h' := h₀) fo.ho fo.hd (args_cons (hgo ?_))))
            cases q0
            refine snd_evs IH hr hF es c2 e1 X fun ws h1 tk1 r1 X1 k1 n1 => ⟨X1.base _ _ fo.ho, ?_⟩
            have q1 := X1.var _ _ _ hx hcs
            rw [e2] at q1
            generalize slot h1 m vn c = sl at q1
            cases q1 with
            | own pl ql =>
              have hin : μ id ∈ ownA μ st1.r := own_get e2
              refine IM (s := { s with heap := h1, toks := tk1 }) e3 hr fo.g (mem_Mx.mpr (.inr (.inr (.inr hin)))) pl ql r1 (SR.shd (s := { s with heap := h1, toks := tk1 }) X1 hF) fun wv l' h2 tk2 r2 p2 q2 hk2 => ?_
              have hk2 : ∀ b o, b ≠ μ id → h1.get? b = some o → h2.get? b = some o := hk2
              have hMx : ∀ b, b ∈ Mx T F μ (setR st1.r x (.own id us')) → b ∈ Mx T F μ st1.r := fun b hb => by
                rcases mem_Mx.mp hb with q | q | q | q
                · exact mem_Mx.mpr (.inl q)
                · exact mem_Mx.mpr (.inr (.inl q))
                · exact mem_Mx.mpr (.inr (.inr (.inl q)))
                · rcases own_set_mem q with q | q
                  · rw [q]; exact mem_Mx.mpr (.inr (.inr (.inr hin)))
                  · exact mem_Mx.mpr (.inr (.inr (.inr q)))
              refine K _ _ _ (r2.step fun b o hb e => ⟨e, fun hm => hb (hMx b hm)⟩) (X1.upd e2 hk2 p2 q2) ?_ n1
              refine k1.trans ⟨fun b o hb e => hk2 b o (fun q => hb (q ▸ hin)) e, fun b hb => ?_, fun b o e => ?_⟩
              · rcases own_set_mem hb with q | q
                · rw [q]; exact hin
                · exact q
              · by_cases q : b = μ id
                · rw [q]; obtain ⟨n, e'⟩ := p2; exact ⟨_, e'⟩
                · exact ⟨o, hk2 b o q e⟩
          · cases he
        · cases he
      · cases he
    · cases he
  · cases he

variable {QT : Bool → Shared → Prop}

theorem t_and (IT : SndT prog w N h₀ k ev.t) (hr : Room A k) (hF : FOk F) (X : SR h₀ T μ F st s.heap m) {a b : Expr} {pos : Pos} {x y : Mine.X} {z : Bool} {whole : Sem Value} (c1 : CT N F.env.scope F.ns a x) (c2 : CT N F.env.scope F.ns b y)
    (he : testStep ev (.and x y) st = some (z, st')) (K : ∀ h' tk, SR h₀ T μ F st' h' m → EK μ st.r st'.r s.heap h' → st'.n = st.n → QT z { s with heap := h', toks := tk }) :
    wpAny (model prog w) A (isTrue (.BoolOp .And [a, b] pos) F.env whole) QT E s := by
  simp only [testStep] at he
  split at he
  · rename_i st1 e1
    refine isTrue_and (IT c1 e1 hr hF X fun h1 tk1 X1 k1 n1 => ?_)
    simp only [if_true]
    refine isTrue_and (IT c2 he hr hF X1 fun h2 tk2 X2 k2 n2 => ?_)
    have q := K h2 tk2 X2 (k1.trans k2) (n2.trans n1)
    cases z with
    | true => simp only [if_true]; exact isTrue_and_nil q
    | false => simp only [Bool.false_eq_true, if_false]; exact q
  · rename_i st1 e1
    cases he
    refine isTrue_and (IT c1 e1 hr hF X fun h1 tk1 X1 k1 n1 => ?_)
    simp only [Bool.false_eq_true, if_false]
    exact K _ _ X1 k1 n1
  · cases he

theorem t_or (IT : SndT prog w N h₀ k ev.t) (hr : Room A k) (hF : FOk F) (X : SR h₀ T μ F st s.heap m) {a b : Expr} {pos : Pos} {x y : Mine.X} {z : Bool} {whole : Sem Value} (c1 : CT N F.env.scope F.ns a x) (c2 : CT N F.env.scope F.ns b y)
    (he : testStep ev (.or x y) st = some (z, st')) (K : ∀ h' tk, SR h₀ T μ F st' h' m → EK μ st.r st'.r s.heap h' → st'.n = st.n → QT z { s with heap := h', toks := tk }) :
    wpAny (model prog w) A (isTrue (.BoolOp .Or [a, b] pos) F.env whole) QT E s := by
  simp only [testStep] at he
  split at he
  · rename_i st1 e1
    cases he
    refine isTrue_or (IT c1 e1 hr hF X fun h1 tk1 X1 k1 n1 => ?_)
    simp only [if_true]
    exact K _ _ X1 k1 n1
  · rename_i st1 e1
    refine isTrue_or (IT c1 e1 hr hF X fun h1 tk1 X1 k1 n1 => ?_)
    simp only [Bool.false_eq_true, if_false]
    refine isTrue_or (IT c2 he hr hF X1 fun h2 tk2 X2 k2 n2 => ?_)
    have q := K h2 tk2 X2 (k1.trans k2) (n2.trans n1)
    cases z with
    | true => simp only [if_true]; exact q
    | false => simp only [Bool.false_eq_true, if_false]; exact isTrue_or_nil q
  · cases he

theorem t_cmp (IH : SndE prog w N h₀ k ev.e) (hr : Room A k) (hF : FOk F) (X : SR h₀ T μ F st s.heap m) {l r : Expr} {op : CmpOp} {pos : Pos} {o : Nat} {a b : Mine.X} {z : Bool} {whole : Sem Value} (ho : cmpOf o = some op) (hm : behindInMarks op r = false)
    (ca : CE N F.env.scope F.ns l a) (cb : CE N F.env.scope F.ns r b) (he : testStep ev (.cmp o a b) st = some (z, st'))
    (K : ∀ h' tk, SR h₀ T μ F st' h' m → EK μ st.r st'.r s.heap h' → st'.n = st.n → QT z { s with heap := h', toks := tk }) :
    wpAny (model prog w) A (isTrue (.Compare l [op] [r] pos) F.env whole) QT E s := by
  simp only [testStep] at he
  split at he
  · rename_i va st1 e1
    split at he
    · rename_i vb st2 e2
      split at he
      · rename_i z' e3
        cases he
        exact wpAny_isTrue_Compare1 (cmp_core (Q := fun c s₃ => wpAny (model prog w) A (truthy c) QT E s₃) IH hr hF X ho ca cb e1 e2 e3 fun h' tk X' k' n' => wpAny_truthy_bool (K _ _ X' k' n')) hm
      · cases he
    · cases he
  · cases he

theorem t_any (G : GOk N P tab h₀ mg mb) (IH : SndE prog w N h₀ k ev.e) (hr : Room A k) (hF : FOk F) (X : SR h₀ T μ F st s.heap m) {e : Expr} {p pos : Pos} {a : Mine.X} {z : Bool}
    (hk : F.env.scope.names.lookup (Str.ofString "any") = some .globalImplicit) (ca : CE N F.env.scope F.ns e a) (he : testStep ev (.any a) st = some (z, st'))
    (K : ∀ h' tk, SR h₀ T μ F st' h' m → EK μ st.r st'.r s.heap h' → st'.n = st.n → QT z { s with heap := h', toks := tk }) :
    wpAny (model prog w) A (isTrue (.Call (.Name (Str.ofString "any") p) [e] [] pos) F.env (eval (.Call (.Name (Str.ofString "any") p) [e] [] pos) F.env)) QT E s := by
  simp only [testStep] at he
  split at he
  · rename_i vs st1 e1
    split at he
    · rename_i bs e2
      cases he
      exact isTrue_plain (any_core (Q := fun c s₃ => wpAny (model prog w) A (truthy c) QT E s₃) G IH hr hF X hk ca e1 e2 fun h' tk X' k' n' => wpAny_truthy_bool (K _ _ X' k' n'))
    · cases he
  · cases he

theorem t_notin (IH : SndE prog w N h₀ k ev.e) (hr : Room A k) (hF : FOk F) (X : SR h₀ T μ F st s.heap m) {e : Expr} {nm : Str} {p pos : Pos} {a : Mine.X} {x : Nat} {z : Bool} {whole : Sem Value} (hx : getL F.ns x = some nm)
    (ca : CE N F.env.scope F.ns e a) (he : testStep ev (.notin a x) st = some (z, st'))
    (K : ∀ h' tk, SR h₀ T μ F st' h' m → EK μ st.r st'.r s.heap h' → st'.n = st.n → QT z { s with heap := h', toks := tk }) :
    wpAny (model prog w) A (isTrue (.Compare e [.NotIn] [.Name nm p] pos) F.env whole) QT E s := by
  simp only [testStep] at he
  split at he
  · rename_i us st1 e1
    split at he
    · rename_i is vs e2 e3
      split at he
      · rename_i yss e4
        refine wpAny_isTrue_Compare1 (IH ca e1 hr hF X fun wa h1 tk1 r1 X1 k1 n1 => ?_)
        obtain ⟨c, wv, hcs, hsl, hgo⟩ := eval_name (M := model prog w) (A := A) (E := E) (s := { s with heap := h1, toks := tk1 }) hF X1 hx (hF.dbg _ _ hx) (contents_live e3)
        refine hgo ?_
        obtain ⟨wv', e6, pv⟩ := contents_pv (X1.var _ _ _ hx hcs) e3
        have hsl : slot h1 m nm c = some wv := hsl
        rw [hsl] at e6; cases e6
        obtain ⟨b, l, rfl, pl, ql⟩ := pv.lst
        cases r1 with
        | lst pc hc qc =>
          have hi := intsAre_of qc e2
          have hu : A.in1.units + 64 < cLine := by have := hr.2.2; show A.units + 1 + 64 < cLine; omega
          obtain ⟨i1, i2, i3⟩ := lists_at (A := A.in1) (s := { s with heap := h1, toks := tk1 }) pc hi hu ql e4
          refine notIn_listAt (isThat h1 is) pl.isList (fun y hy => i1 y (by simpa using hy)) (wpAny_truthy_bool ?_)
          have hz : (z, st') = (!(l.toArray.any (isThat h1 is)), st1) := by
            have i2' : l.any (isThat h1 is) = (posOf is yss).isSome := i2
            rw [List.any_toArray, i2']
            split at he
            · rename_i n e5; rw [e5]; cases he; rfl
            · rename_i e5; rw [e5]; cases he; rfl
          cases hz
          exact K _ _ X1 k1 n1
      · cases he
    · cases he
  · cases he
end
end Mine

/-! part Sound18 -/
namespace Mine
open PySem PyProof.Rows PySem.SeqAt

section
variable {prog : Program} {w : World} {N : Nm} {P : Nat → Option Fn} {tab : Nat → Option V} {h₀ : Heap} {mg mb : Str → Option Value}
variable {k : Nat} {ev : Ev}

noncomputable def Known (P : Nat → Option Fn) (ev : Ev) : Prop := (∀ f vs v, ev.c f vs = some v → ∃ fn, P f = some fn) ∧ (∀ f us vs v, ev.m f us vs = some v → ∃ fn, P f = some fn)

noncomputable def SndG (prog : Program) (w : World) (N : Nm) (h₀ : Heap) (k : Nat) (f : X → St → Option (V × St)) : Prop :=
  ∀ {A : Around} {E : Value → Shared → Prop} {s : Shared} {T : List Addr} {μ : Nat → Addr} {F : Sc} {st st' : St} {m : Str → Option Value} {elt : Expr} {gens : List Comprehension} {scope : Scope} {pos : Pos} {c : X} {v : V} {Q : Value → Shared → Prop} {u : Value → Sem Unit},
    CE N F.env.scope F.ns (.ListComp elt gens scope pos) c → f c st = some (v, st') → Room A k → FOk F → SR h₀ T μ F st s.heap m →
    (∀ vs C a l h' tk m', v = .lst vs → C ∉ T → a ∉ T → s.heap.get? a = none → a ≠ C → h'.Ns C m' → s.heap.get? C = none → Plain h' a l → VRs (Mx (a :: C :: T) F μ st'.r) h' vs l → SR h₀ (a :: C :: T) μ F st' h' m →
      EK μ st.r st'.r s.heap h' → st'.n = st.n → compPost (model prog w) A E (some u) Q (.ref a) C (.ok .next) { s with heap := h', toks := tk }) →
    wpAny (model prog w) A (comprehension (.ListComp elt gens scope pos) scope F.env (firstIterPos gens pos) (newList []) (firstAsync gens) (firstIter gens F.env) (some u)) Q E s

structure Snd (prog : Program) (w : World) (N : Nm) (P : Nat → Option Fn) (h₀ : Heap) (mg : Str → Option Value) (k : Nat) (ev : Ev) : Prop where
  e : SndE prog w N h₀ k ev.e
  f : SndF prog w N h₀ k ev.e
  g : SndG prog w N h₀ k ev.e
  t : SndT prog w N h₀ k ev.t
  b : SndB prog w N h₀ k ev.b
  c : SndC prog w N h₀ mg k ev.c
  m : SndM prog w N h₀ mg k ev.m
  known : Known P ev

theorem up_f (G : GOk N P tab h₀ mg mb) (S : Snd prog w N P h₀ mg k ev) : SndF prog w N h₀ (k + 1) (exprStep ev tab) := by
  intro A E s T μ F st st' m e c vs Q hc hfx he hr hF X K
  have hr := hr.less (Nat.le_succ k)
  have KF : ∀ us a l h' tk, V.lst vs = .lst us → s.heap.get? a = none → a ∉ T → Plain h' a l → VRs (Mx (a :: T) F μ st'.r) h' us l → SR h₀ (a :: T) μ F st' h' m → EK μ st.r st'.r s.heap h' → st'.n = st.n → Q (.ref a) { s with heap := h', toks := tk } :=
    fun us a l h' tk q h0 h1 h2 h3 h4 h5 h6 => by cases q; exact K a l h' tk h0 h1 h2 h3 h4 h5 h6
  cases hc with
  | bin ho ca cb => exact e_bin S.e hr hF X ho ca cb he (fun i t h' tk q => nomatch q) KF
  | list hk ca => exact e_list G S.e hr hF X hk ca he KF
  | disp ca => exact e_disp S.e hr hF X ca he KF
  | cut hx ca => exact e_cut (vs := vs) S.e hr hF X hx ca he KF
  | comp hok hsrc htg htn hlo hen ce ci => exact e_comp G S.e S.t hr hF X hok hsrc htg htn hlo hen ce ci he KF
  | _ => cases hfx

theorem up_g (G : GOk N P tab h₀ mg mb) (S : Snd prog w N P h₀ mg k ev) : SndG prog w N h₀ (k + 1) (exprStep ev tab) := by
  intro A E s T μ F st st' m elt gens scope pos c v Q u hc he hr hF X K
  have hr := hr.less (Nat.le_succ k)
  cases hc with
  | comp hok hsrc htg htn hlo hen ce ci =>
    simp only [exprStep] at he
    split at he
    · rename_i vs1 st1 e1
      split at he
      · rename_i ws e2
        cases he
        exact comp_core (use := some u) G S.e S.t hr hF X hok hsrc htg htn hlo hen ce ci e1 e2 fun C a l h' tk m' => K _ C a l h' tk m' rfl
      · cases he
    · cases he

theorem up_e (G : GOk N P tab h₀ mg mb) (S : Snd prog w N P h₀ mg k ev) : SndE prog w N h₀ (k + 1) (exprStep ev tab) := by
  intro A E s T μ F st st' m e c v Q hc he hr hF X K
  have hr := hr.less (Nat.le_succ k)
  have KF : ∀ us a l h' tk, v = .lst us → s.heap.get? a = none → a ∉ T → Plain h' a l → VRs (Mx (a :: T) F μ st'.r) h' us l → SR h₀ (a :: T) μ F st' h' m → EK μ st.r st'.r s.heap h' → st'.n = st.n → Q (.ref a) { s with heap := h', toks := tk } :=
    fun us a l h' tk q _ h1 h2 h3 h4 h5 h6 => by cases q; exact fresh_val K h1 h2 h3 h4 h5 h6
  cases hc with
  | int => cases he; exact wpAny_Constant_int (K _ _ _ (.int _ _) X .refl rfl)
  | bool => cases he; exact wpAny_Constant_bool (K _ _ _ (.bool _) X .refl rfl)
  | none => cases he; exact wpAny_Constant_none (K _ _ _ .none X .refl rfl)
  | var hx => exact e_var hF X hx he K
  | glob hn hd hk => exact e_glob G hF X hn hd hk he K
  | bin ho ca cb => exact e_bin S.e hr hF X ho ca cb he (fun i t h' tk q X' k' n' => by cases q; exact K _ _ _ (.int _ _) X' k' n') KF
  | neg ca => exact e_neg S.e hr hF X ca he K
  | cmp ho hm ca cb => exact e_cmp S.e hr hF X ho hm ca cb he K
  | ite c1 c2 c3 => exact e_ite S.e S.t hr hF X c1 c2 c3 he K
  | len hk ca => exact e_len G S.e hr hF X hk ca he K
  | abs hk ca => exact e_abs G S.e hr hF X hk ca he K
  | any hk ca => exact e_any G S.e hr hF X hk ca he K
  | list hk ca => exact e_list G S.e hr hF X hk ca he KF
  | max hk ca cb => exact e_max G S.e hr hF X hk ca cb he K
  | sub ca cb => exact e_sub S.e hr hF X ca cb he K
  | cut hx ca => exact e_cut (vs := []) S.e hr hF X hx ca he KF
  | index hx hp ca => exact e_index S.e hr hF X hx hp ca he K
  | tup ca => exact e_tup S.e hr hF X ca he K
  | disp ca => exact e_disp S.e hr hF X ca he KF
  | call hn hd hk c1 c2 => exact e_call G S.e S.c hr hF X (fun vs v => S.known.1 _ vs v) hn hd hk c1 c2 he K
  | callm hn hd hk hx c2 => exact e_callm G S.e S.m hr hF X (fun us vs v => S.known.2 _ us vs v) hn hd hk hx c2 he K
  | comp hok hsrc htg htn hlo hen ce ci => exact e_comp G S.e S.t hr hF X hok hsrc htg htn hlo hen ce ci he KF

theorem up_t (G : GOk N P tab h₀ mg mb) (S : Snd prog w N P h₀ mg k ev) : SndT prog w N h₀ (k + 1) (testStep ev) := by
  intro A E s T μ F st st' m e c b Q hc he hr hF X K
  have hr := hr.less (Nat.le_succ k)
  cases hc with
  | and c1 c2 => exact t_and S.t hr hF X c1 c2 he K
  | or c1 c2 => exact t_or S.t hr hF X c1 c2 he K
  | notin hx ca => exact t_notin S.e hr hF X hx ca he K
  | cmp ho hm ca cb => exact t_cmp S.e hr hF X ho hm ca cb he K
  | any hk ca => exact t_any G S.e hr hF X hk ca he K
end
end Mine

/-! part Sound19 -/
namespace Mine
open PySem PyProof.Rows PySem.SeqAt

noncomputable def SndS (prog : Program) (w : World) (N : Nm) (h₀ : Heap) (k : Nat) (f : S → St → Option (Out × St)) : Prop :=
  ∀ {A : Around} {E : Value → Shared → Prop} {s : Shared} {T : List Addr} {μ : Nat → Addr} {F : Sc} {st st' : St} {m : Str → Option Value} {x : Stmt} {c : S} {o : Out} {Q : Flow → Shared → Prop},
    CS N F.env.scope F.ns x c → f c st = some (o, st') → Room A k → FOk F → SR h₀ T μ F st s.heap m → (∀ c ∈ F.cells, c ∉ T) →
    (∀ fl μ' m' h' tk, OutR (Mx T F μ' st'.r) h' o fl → SR h₀ T μ' F st' h' m' → SK μ μ' F st st' s.heap h' → Q fl { s with heap := h', toks := tk }) →
    wpAny (model prog w) A (exec x F.env) Q E s

section
variable {prog : Program} {w : World} {N : Nm} {P : Nat → Option Fn} {tab : Nat → Option V} {h₀ : Heap} {mg mb : Str → Option Value}
variable {A : Around} {E : Value → Shared → Prop} {T T' W : List Addr} {μ μ' μ'' : Nat → Addr} {F : Sc} {m m' : Str → Option Value} {k : Nat} {ev : Ev}
variable {s : Shared} {st st' st1 st'' : St} {v : V} {o : Out} {h h' h1 h'' : Heap} {Q : Flow → Shared → Prop} {wv : Value} {ch : Addr}

theorem Put.sk (p : Put F h h' m m' x wv ch) (X : SR h₀ T μ F st h m) (hn : ∀ b ∈ ownA μ' st'.r, b ∈ ownA μ st.r ∨ h.get? b = none) (hag : ∀ i, i < st.n → μ' i = μ i) (hle : st.n ≤ st'.n) : SK μ μ' F st st' h h' where
  kept := fun b o h1 h2 _ e => p.kept b o (fun q => by
    rcases p.at' with q1 | ⟨c, q1, ec⟩
    · exact h1 (q.trans q1)
    · exact h2 (by rw [q, q1]; exact cellsL_mem ec)) e
  new := hn
  agree := hag
  le := hle
  ex := p.ex X

theorem cellT (hT : ∀ c ∈ F.cells, c ∉ T) {x : Nat} : ∀ c, getL F.cs x = some (some c) → c ∉ T := fun c e => hT c (cellsL_mem e)

/-- a value is stored -/
theorem s_val (hF : FOk F) (X : SR h₀ T μ F st1 h1 m) (hT : ∀ c ∈ F.cells, c ∉ T) {tk1 : Nat} (k1 : EK μ st.r st1.r s.heap h1) (n1 : st1.n = st.n) {x : Nat} {nm : Str} (hx : getL F.ns x = some nm) (r : VR (Mx T F μ st1.r) h1 v wv)
    (KS : ∀ fl μ' m' h' tk, OutR (Mx T F μ' (st1.put x (.val v)).r) h' .next fl → SR h₀ T μ' F (st1.put x (.val v)) h' m' → SK μ μ' F st (st1.put x (.val v)) s.heap h' → Q fl { s with heap := h', toks := tk }) :
    wpAny (model prog w) A (storeName F.env nm wv) (fun _ => Q .next) E { s with heap := h1, toks := tk1 } := by
  refine store_name (s := { s with heap := h1, toks := tk1 }) hF X hx fun h2 m2 ch tk2 p => ?_
  exact KS _ _ _ _ _ .next (X.putVal p (cellT hT) r) ((SK.ofEK k1 n1).trans (p.sk X (fun b hb => .inl (own_no_sub (q := .val v) rfl hb)) (fun _ _ => rfl) (Nat.le_refl _)))

noncomputable def upd (μ : Nat → Addr) (n : Nat) (a : Addr) : Nat → Addr := fun i => if i = n then a else μ i
theorem upd_here {n : Nat} {a : Addr} : upd μ n a n = a := by unfold upd; rw [if_pos rfl]
theorem upd_less {n i : Nat} {a : Addr} (h : i < n) : upd μ n a i = μ i := by unfold upd; rw [if_neg (Nat.ne_of_lt h)]

theorem ownA_agree {n : Nat} : ∀ {r : List R}, (∀ x i us, getR r x = .own i us → i < n) → (∀ i, i < n → μ' i = μ i) → ownA μ' r = ownA μ r
  | [], _, _ => rfl
  | .dead :: l, h, g => ownA_agree (r := l) (fun x i us e => h (x + 1) i us e) g
  | .val _ :: l, h, g => ownA_agree (r := l) (fun x i us e => h (x + 1) i us e) g
  | .own i us :: l, h, g => by
    show μ' i :: ownA μ' l = μ i :: ownA μ l
    rw [g i (h 0 i us rfl), ownA_agree (r := l) (fun x i us e => h (x + 1) i us e) g]

/-- a fresh list is stored -/
theorem s_own (hF : FOk F) {a : Addr} {vs : List V} {l : List Value} (X : SR h₀ (a :: T) μ F st1 h1 m) (hT : ∀ c ∈ F.cells, c ∉ T) {tk1 : Nat} (k1 : EK μ st.r st1.r s.heap h1) (n1 : st1.n = st.n) {x : Nat} {nm : Str} (hx : getL F.ns x = some nm)
    (ha : s.heap.get? a = none) (haT : a ∉ T) (hac : a ∉ F.cells) (hp : Plain h1 a l) (hv : VRs (Mx (a :: T) F μ st1.r) h1 vs l) {Q' : Unit → Shared → Prop}
    (KS : ∀ μ' m' h' ch tk, Put F h1 h' m m' x (.ref a) ch → SR h₀ T μ' F ⟨setR st1.r x (.own st1.n vs), st1.n + 1⟩ h' m' → SK μ μ' F st ⟨setR st1.r x (.own st1.n vs), st1.n + 1⟩ s.heap h' → Q' () { s with heap := h', toks := tk }) :
    wpAny (model prog w) A (storeName F.env nm (.ref a)) Q' E { s with heap := h1, toks := tk1 } := by
  refine store_name (s := { s with heap := h1, toks := tk1 }) hF X hx fun h2 m2 ch tk2 p => ?_
  have hids := X.ids
  have hag : ∀ i, i < st1.n → upd μ st1.n a i = μ i := fun i hi => upd_less hi
  have hT' : ∀ c, getL F.cs x = some (some c) → c ∉ a :: T := fun c e hm => by
    rcases List.mem_cons.mp hm with q | q
    · exact hac (q ▸ cellsL_mem e)
    · exact hT c (cellsL_mem e) q
  refine KS (upd μ st1.n a) _ _ _ _ p (X.putOwn (μ' := upd μ st1.n a) (n' := st1.n + 1) (id := st1.n) p hT' (by rw [X.len]; exact getL_lt hx) hp hv (fun y i us e => hag i (hids y i us e)) upd_here (Nat.le_succ _) (Nat.lt_succ_self _) haT) ?_
  refine ⟨fun b o q1 q2 q3 e => p.kept b o (fun q => ?_) (k1.kept b o q3 e), fun b hb => ?_, fun i hi => hag i (by rw [n1]; exact hi), by rw [← n1]; exact Nat.le_succ _, fun b o e => ?_⟩
  · rcases p.at' with q4 | ⟨c, q4, ec⟩
    · exact q1 (q.trans q4)
    · exact q2 (by rw [q, q4]; exact cellsL_mem ec)
  · rcases own_set_mem hb with q | q
    · rw [q, upd_here]; exact .inr ha
    · rw [ownA_agree (r := st1.r) hids hag] at q
      exact .inl (k1.sub b q)
  · obtain ⟨o', e'⟩ := k1.ex b o e
    exact p.ex X b o' e'

theorem s_ret (S : Snd prog w N P h₀ mg k ev) (hr : Room A k) (hF : FOk F) (X : SR h₀ T μ F st s.heap m) {e : Expr} {pos : Pos} {c : Mine.X} (ce : CE N F.env.scope F.ns e c) (he : stmtStep ev (.ret c) st = some (o, st'))
    (KS : ∀ fl μ' m' h' tk, OutR (Mx T F μ' st'.r) h' o fl → SR h₀ T μ' F st' h' m' → SK μ μ' F st st' s.heap h' → Q fl { s with heap := h', toks := tk }) : wpAny (model prog w) A (exec (.Return (some e) pos) F.env) Q E s := by
  simp only [stmtStep] at he
  split at he
  · rename_i v st1 e1
    cases he
    exact wpAny_Return_some (S.e ce e1 hr hF X fun wv h' tk r X' k' n' => KS _ _ _ _ _ (.ret r) X' (SK.ofEK k' n'))
  · cases he

theorem s_ite (S : Snd prog w N P h₀ mg k ev) (hr : Room A k) (hF : FOk F) (X : SR h₀ T μ F st s.heap m) (hT : ∀ c ∈ F.cells, c ∉ T) {c : Expr} {a b : List Stmt} {pos : Pos} {cc : Mine.X} {ca cb : Ss} (c1 : CT N F.env.scope F.ns c cc) (c2 : CB N F.env.scope F.ns a ca)
    (c3 : CB N F.env.scope F.ns b cb) (he : stmtStep ev (.ite cc ca cb) st = some (o, st'))
    (KS : ∀ fl μ' m' h' tk, OutR (Mx T F μ' st'.r) h' o fl → SR h₀ T μ' F st' h' m' → SK μ μ' F st st' s.heap h' → Q fl { s with heap := h', toks := tk }) : wpAny (model prog w) A (exec (.If c a b pos) F.env) Q E s := by
  simp only [stmtStep] at he
  split at he
  · rename_i st1 e1
    refine wpAny_If (S.t c1 e1 hr hF X fun h1 tk1 X1 k1 n1 => ?_)
    simp only [if_true]
    exact S.b c2 he hr hF X1 hT fun fl μ2 m2 h2 tk2 r2 X2 k2 => KS _ _ _ _ _ r2 X2 ((SK.ofEK k1 n1).trans k2)
  · rename_i st1 e1
    refine wpAny_If (S.t c1 e1 hr hF X fun h1 tk1 X1 k1 n1 => ?_)
    simp only [Bool.false_eq_true, if_false]
    exact S.b c3 he hr hF X1 hT fun fl μ2 m2 h2 tk2 r2 X2 k2 => KS _ _ _ _ _ r2 X2 ((SK.ofEK k1 n1).trans k2)
  · cases he

theorem s_loop (S : Snd prog w N P h₀ mg k ev) (hr : Room A k) (hF : FOk F) (X : SR h₀ T μ F st s.heap m) (hT : ∀ c ∈ F.cells, c ∉ T) {c : Expr} {b : List Stmt} {pos : Pos} {cc : Mine.X} {cb : Ss} (c1 : CT N F.env.scope F.ns c cc) (c2 : CB N F.env.scope F.ns b cb)
    (he : stmtStep ev (.loop cc cb) st = some (o, st'))
    (KS : ∀ fl μ' m' h' tk, OutR (Mx T F μ' st'.r) h' o fl → SR h₀ T μ' F st' h' m' → SK μ μ' F st st' s.heap h' → Q fl { s with heap := h', toks := tk }) : wpAny (model prog w) A (exec (.While c b [] pos) F.env) Q E s := by
  simp only [stmtStep] at he
  refine wpAny_While (codeAny_whileLoop (fun n s' => ∃ st1 μ1 m1 h1 tk1, s' = { s with heap := h1, toks := tk1 } ∧ whileLoop ev cc cb n st1 = some (o, st') ∧ SR h₀ T μ1 F st1 h1 m1 ∧ SK μ μ1 F st st1 s.heap h1) ?_ 64 ⟨st, μ, m, _, _, rfl, he, X, .refl⟩)
  rintro n s' ⟨st1, μ1, m1, h1, tk1, rfl, e1, X1, k1⟩
  cases n with
  | zero => cases e1
  | succ n =>
    unfold whileLoop at e1
    split at e1
    · rename_i st2 e2
      cases e1
      refine S.t (s := { s with heap := h1, toks := tk1 }) c1 e2 hr hF X1 fun h2 tk2 X2 k2 n2 => ?_
      simp only [Bool.false_eq_true, if_false]
      exact wpAny_execs_nil (KS _ _ _ _ _ .next X2 (k1.trans (SK.ofEK k2 n2)))
    · rename_i st2 e2
      refine S.t (s := { s with heap := h1, toks := tk1 }) c1 e2 hr hF X1 fun h2 tk2 X2 k2 n2 => ?_
      simp only [if_true]
      split at e1
      · rename_i st3 e3
        refine S.b (s := { s with heap := h2, toks := tk2 }) c2 e3 hr hF X2 hT fun fl μ3 m3 h3 tk3 r3 X3 k3 => ?_
        cases r3
        exact ⟨n, Nat.lt_succ_self n, st3, μ3, m3, h3, tk3, rfl, e1, X3, (k1.trans (SK.ofEK k2 n2)).trans k3⟩
      · rename_i v st3 e3
        cases e1
        refine S.b (s := { s with heap := h2, toks := tk2 }) c2 e3 hr hF X2 hT fun fl μ3 m3 h3 tk3 r3 X3 k3 => ?_
        cases r3 with
        | ret r3 => exact KS _ _ _ _ _ (.ret r3) X3 ((k1.trans (SK.ofEK k2 n2)).trans k3)
      · cases e1
    · cases e1

theorem s_each (G : GOk N P tab h₀ mg mb) (S : Snd prog w N P h₀ mg k ev) (hr : Room A k) (hF : FOk F) (X : SR h₀ T μ F st s.heap m) (hT : ∀ c ∈ F.cells, c ∉ T) {target iter : Expr} {b : List Stmt} {pos : Pos} {tgt : List Nat} {src : Src} {cb : Ss}
    (hen : ∀ a, src = .enum a → tgt.length = 2) (htg : CTg F.ns target tgt) (hsrc : CSrc N F.env.scope F.ns iter src) (c2 : CB N F.env.scope F.ns b cb) (he : stmtStep ev (.each tgt src cb) st = some (o, st'))
    (KS : ∀ fl μ' m' h' tk, OutR (Mx T F μ' st'.r) h' o fl → SR h₀ T μ' F st' h' m' → SK μ μ' F st st' s.heap h' → Q fl { s with heap := h', toks := tk }) : wpAny (model prog w) A (exec (.For target iter b [] pos) F.env) Q E s := by
  simp only [stmtStep] at he
  split at he
  · rename_i vs st1 e1
    refine wpAny_For (snd_src G S.e hr hF X hsrc e1 fun en it W h1 tk1 hen1 hlen I1 X1 k1 n1 hW => ?_) (src_fold hsrc F.env)
    have hWc := I1.noCell X1
    have hT1 : ∀ c ∈ F.cells, c ∉ W ++ T := fun c hc hm => by
      rcases List.mem_append.mp hm with q | q
      · exact hWc c q hc
      · exact hT c hc q
    have hWT : ∀ x ∈ W, x ∉ T := fun x hx hm => by obtain ⟨o, e⟩ := X.ex x hm; rw [hW x hx] at e; cases e
    refine codeAny_forLoop_any (fun n s' => ∃ vs' st2 μ2 m2 h2 tk2, s' = { s with heap := h2, toks := tk2 } ∧ n = vs'.length ∧ eachLoop ev tgt cb vs' st2 = some (o, st') ∧ SR h₀ (W ++ T) μ2 F st2 h2 m2 ∧ IT (Mx (W ++ T) F μ2 st2.r) h2 en W it vs' ∧
      SK μ μ2 F st st2 s.heap h2) ?_ vs.length ⟨vs, st1, μ, m, h1, tk1, rfl, rfl, he, X1, I1, SK.ofEK k1 n1⟩
    rintro n s' ⟨vs', st2, μ2, m2, h2, tk2, rfl, rfl, e2, X2, I2, k2⟩
    cases vs' with
    | nil =>
      unfold eachLoop at e2
      cases e2
      refine snd_next_nil (s := { s with heap := h2, toks := tk2 }) hr.1 rfl I2 fun h3 tk3 hk3 => ?_
      exact wpAny_execs_nil (KS _ _ _ _ _ .next (X2.lose (B := []) (fun b o q1 _ e => hk3 b o q1 e) hWT hWc (fun x hx => nomatch hx)) (k2.aside hW fun b o q e => hk3 b o q e))
    | cons v0 vs0 =>
      unfold eachLoop at e2
      split at e2
      · rename_i st3 e3
        refine snd_next_cons (s := { s with heap := h2, toks := tk2 }) hF X2 (fun x hx => List.mem_append_left _ hx) rfl I2 htg (fun q => by obtain ⟨z, hz⟩ := hen1 q; exact hen z hz) fun wv h3 tk3 q3 I3 X3 hk3 => ?_
        have ks3 : SK μ μ2 F st st2 s.heap h3 := k2.aside hW fun b o q e => hk3 b o q e
        refine snd_tgt (s := { s with heap := h3, toks := tk3 }) hr.1 hF X3 htg e3 q3 (fun x hx c q => hT1 c (cellsL_mem q)) fun h4 m4 tk4 X4 k4 => ?_
        have ks4 := k4.sk
        have I4 := I3.step ks4.step fun x hx o e => ks4.at X3 hT1 (List.mem_append_left _ hx) e
        split at e2
        · rename_i st5 e5
          refine S.b (s := { s with heap := h4, toks := tk4 }) c2 e5 hr hF X4 hT1 fun fl μ5 m5 h5 tk5 r5 X5 k5 => ?_
          cases r5
          exact ⟨vs0.length, Nat.lt_succ_self _, vs0, st5, μ5, m5, h5, tk5, rfl, rfl, e2, X5, I4.step k5.step fun x hx o e => k5.at X4 hT1 (List.mem_append_left _ hx) e, (ks3.trans ks4).trans k5⟩
        · rename_i v st5 e5
          cases e2
          refine S.b (s := { s with heap := h4, toks := tk4 }) c2 e5 hr hF X4 hT1 fun fl μ5 m5 h5 tk5 r5 X5 k5 => ?_
          cases r5 with
          | ret r5 =>
            have hs : ∀ b ∈ T, b ∈ W ++ T := fun b hb => List.mem_append_right _ hb
            exact KS _ _ _ _ _ (.ret (r5.step fun b o hb e => ⟨e, fun hm => hb (Mx_sub hs hm)⟩)) (X5.less hs) ((ks3.trans ks4).trans k5)
        · cases e2
      · cases e2
  · cases he
end
end Mine

/-! part Sound20 -/
namespace Mine
open PySem PyProof.Rows PySem.SeqAt

section
variable {prog : Program} {w : World} {N : Nm} {P : Nat → Option Fn} {tab : Nat → Option V} {h₀ : Heap} {mg mb : Str → Option Value}
variable {A : Around} {E : Value → Shared → Prop} {T T' W : List Addr} {μ μ' μ'' : Nat → Addr} {F : Sc} {m m' : Str → Option Value} {k : Nat} {ev : Ev}
variable {s : Shared} {st st' st1 st'' : St} {v : V} {o : Out} {h h' h1 h'' : Heap} {Q : Flow → Shared → Prop} {wv : Value} {ch : Addr}

theorem load_name (hF : FOk F) (X : SR h₀ T μ F st s.heap m) {x : Nat} {nm : Str} {c : Option Addr} (hx : getL F.ns x = some nm) (e2 : getL F.cs x = some c) (hs : slot s.heap m nm c = some wv) {Q : Value → Shared → Prop} (hQ : Q wv s) :
    wpAny (model prog w) A (loadName F.env nm) Q E s := by
  cases c with
  | none => exact wpAny_loadName_local hF.kind (hF.loc x nm hx e2) X.ns hs hQ
  | some c =>
    obtain ⟨k1, k2⟩ := hF.cel x nm c hx e2
    obtain ⟨w0, hc⟩ := X.cel c (cellsL_mem e2)
    have := slot_cell (m := m) (nm := nm) hc
    rw [hs] at this
    subst this
    exact wpAny_loadName_cell hF.kind k1 k2 hc hQ

theorem own_putown {r : List R} {x id : Nat} {us us' : List V} (e : getR r x = .own id us) {b : Addr} (hb : b ∈ ownA μ (setR r x (.own id us'))) : b ∈ ownA μ r := by
  rcases own_set_mem hb with q | q
  · rw [q]; exact own_get e
  · exact q
theorem Mx_putown {r : List R} {x id : Nat} {us us' : List V} (e : getR r x = .own id us) {b : Addr} (hb : b ∈ Mx T F μ (setR r x (.own id us'))) : b ∈ Mx T F μ r := by
  rcases mem_Mx.mp hb with q | q | q | q
  · exact mem_Mx.mpr (.inl q)
  · exact mem_Mx.mpr (.inr (.inl q))
  · exact mem_Mx.mpr (.inr (.inr (.inl q)))
  · exact mem_Mx.mpr (.inr (.inr (.inr (own_putown e q))))

/-- an own list turned in place -/
theorem s_turn (X : SR h₀ T μ F st1 h1 m) (k1 : EK μ st.r st1.r s.heap h1) (n1 : st1.n = st.n) {x id : Nat} {us us' : List V} {l : List Value} (e : getR st1.r x = .own id us) {h2 : Heap} {tk : Nat} (hs : Heap.SameBut (μ id) h1 h2) (hp : Plain h2 (μ id) l)
    (hv : VRs (Mx T F μ st1.r) h2 us' l)
    (KS : ∀ fl μ' m' h' tk, OutR (Mx T F μ' (st1.put x (.own id us')).r) h' .next fl → SR h₀ T μ' F (st1.put x (.own id us')) h' m' → SK μ μ' F st (st1.put x (.own id us')) s.heap h' → Q fl { s with heap := h', toks := tk }) : Q .next { s with heap := h2, toks := tk } := by
  have hk : ∀ b o, b ≠ μ id → h1.get? b = some o → h2.get? b = some o := fun b o q e => hs.extBut b o q e
  have hin : μ id ∈ ownA μ st.r := k1.sub _ (own_get e)
  refine KS .next μ m h2 tk .next (X.upd e hk hp hv) ⟨fun b o q1 q2 q3 e' => hk b o (fun q => q3 (q ▸ hin)) (k1.kept b o q3 e'), fun b hb => .inl (k1.sub b (own_putown e hb)), fun _ _ => rfl, by show st.n ≤ st1.n; rw [n1]; exact Nat.le_refl _, fun b o e' => ?_⟩
  obtain ⟨o', e2⟩ := k1.ex b o e'
  by_cases q : b = μ id
  · rw [q]; obtain ⟨n, e3⟩ := hp; exact ⟨_, e3⟩
  · exact ⟨o', hk b o' q e2⟩

theorem s_asg (S : Snd prog w N P h₀ mg k ev) (hr : Room A k) (hF : FOk F) (X : SR h₀ T μ F st s.heap m) (hT : ∀ c ∈ F.cells, c ∉ T) {nm : Str} {p pos : Pos} {value : Expr} {x : Nat} {c : Mine.X} (hx : getL F.ns x = some nm)
    (hsw : swapsWith value (some (.Name nm p)) pos.line F.env = pure false) (ce : CE N F.env.scope F.ns value c) (he : stmtStep ev (.asg x c) st = some (o, st'))
    (KS : ∀ fl μ' m' h' tk, OutR (Mx T F μ' st'.r) h' o fl → SR h₀ T μ' F st' h' m' → SK μ μ' F st st' s.heap h' → Q fl { s with heap := h', toks := tk }) : wpAny (model prog w) A (exec (.Assign [.Name nm p] value pos) F.env) Q E s := by
  simp only [stmtStep] at he
  split at he
  · rename_i st2 e1
    cases he
    refine wpAny_Assign_Name ?_ hsw
    unfold asgStep at e1
    split at e1
    · rename_i y
      cases ce with
      | var hy =>
        split at e1
        · cases e1
        · rename_i v e2
          cases e1
          obtain ⟨c, wv, hcs, hsl, hgo⟩ := eval_name (M := model prog w) (A := A) (E := E) hF X hy (hF.dbg _ _ hy) (by rw [e2]; exact fun q => nomatch q)
          have q := X.var _ _ _ hy hcs
          rw [e2, hsl] at q
          cases q with
          | val r => exact hgo (s_val hF X hT .refl rfl hx r KS)
        · rename_i id vs e2
          cases e1
          obtain ⟨c, wv, hcs, hsl, hgo⟩ := eval_name (M := model prog w) (A := A) (E := E) hF X hy (hF.dbg _ _ hy) (by rw [e2]; exact fun q => nomatch q)
          have q := X.var _ _ _ hy hcs
          rw [e2, hsl] at q
          obtain ⟨X1, l, pl, ql⟩ := X.take hF e2
          refine hgo ?_
          cases q
          have hd := X.disj _ (own_get (μ := μ) e2)
          refine store_name hF X hx fun h2 m2 ch tk2 p => ?_
          have hT' : ∀ c, getL F.cs x = some (some c) → c ∉ μ id :: T := fun c e hm => by
            rcases List.mem_cons.mp hm with q | q
            · exact hd.2.1 (q ▸ cellsL_mem e)
            · exact hT c (cellsL_mem e) q
          have hsub : ∀ b ∈ ownA μ (setR (setR st.r y .dead) x (.own id vs)), b ∈ ownA μ st.r := fun b hb => by
            rcases own_set_mem hb with q | q
            · rw [q]; exact own_get e2
            · exact own_no_sub (q := .dead) rfl q
          exact KS _ _ _ _ _ .next (X1.putOwn (μ' := μ) (n' := st.n) (id := id) p hT' (by rw [X1.len]; exact getL_lt hx) pl ql (fun _ _ _ _ => rfl) rfl (Nat.le_refl _) (X.ids _ _ _ e2) hd.2.2)
            (p.sk X (fun b hb => .inl (hsub b hb)) (fun _ _ => rfl) (Nat.le_refl _))
    · split at e1
      · rename_i v st2 e2
        split at e1
        · rename_i vs hfx
          cases e1
          refine S.f ce hfx e2 hr hF X fun a l h2 tk2 ha haT hp hv X2 k2 n2 => ?_
          refine s_own hF X2 hT k2 n2 hx ha haT (fun hm => ?_) hp hv fun μ' m' h' ch tk _ X' k' => KS .next μ' m' h' tk .next X' k'
          obtain ⟨o, w', e, hd⟩ := X2.cell_ex hm
          obtain ⟨n, e'⟩ := hp
          rw [e] at e'; cases e'; cases hd
        · cases e1
          refine S.e ce e2 hr hF X fun wv h2 tk2 r X2 k2 n2 => ?_
          exact s_val hF X2 hT k2 n2 hx r KS
      · cases e1
  · cases he

theorem s_asgC (S : Snd prog w N P h₀ mg k ev) (hr : Room A k) (hF : FOk F) (X : SR h₀ T μ F st s.heap m) (hT : ∀ c ∈ F.cells, c ∉ T) {nm : Str} {p pos ps : Pos} {elt : Expr} {gens : List Comprehension} {scope : Scope} {x : Nat} {a : Mine.X} {b : List Nat} {c : Src}
    {d : Xs} {e : List Nat} (hx : getL F.ns x = some nm) (hl : F.env.scope.names.lookup nm = some .local)
    (hsw : swapsWith (.ListComp elt gens scope ps) (some (.Name nm p)) pos.line F.env = pure true) (ce : CE N F.env.scope F.ns (.ListComp elt gens scope ps) (.comp a b c d e)) (he : stmtStep ev (.asg x (.comp a b c d e)) st = some (o, st'))
    (KS : ∀ fl μ' m' h' tk, OutR (Mx T F μ' st'.r) h' o fl → SR h₀ T μ' F st' h' m' → SK μ μ' F st st' s.heap h' → Q fl { s with heap := h', toks := tk }) : wpAny (model prog w) A (exec (.Assign [.Name nm p] (.ListComp elt gens scope ps) pos) F.env) Q E s := by
  simp only [stmtStep] at he
  split at he
  · rename_i st2 e1
    cases he
    unfold asgStep at e1
    simp only at e1
    split at e1
    · rename_i v st2 e2
      rw [exec_Assign_Name_used _ _ _ _ hsw]
      refine wpAny_bind (wpAny_standAt (wpAny_bind ?_))
      show wpAny _ A (do let _ ← comprehension (.ListComp elt gens scope ps) scope F.env (firstIterPos gens ps) (newList []) (firstAsync gens) (firstIter gens F.env) (some (assign (.Name nm p) F.env))) _ _ s
      refine wpAny_bind (wpAny_mono (S.g (Q := fun _ s' => Q .next s') ce e2 hr hF X fun vs C a' l h2 tk2 m2 ev hCT haT ha haC hN hC hp hv X2 k2 n2 => ?_) (fun _ s' hq => wpAny_pure (wpAny_pure hq)) fun _ _ e => e)
      subst ev
      simp only [freshX] at e1
      cases e1
      show wpAny _ A (assign (.Name nm p) F.env (.ref a')) _ _ _
      refine wpAny_assign_Name ?_
      have hCc := noT_cell X hC
      have hT' : ∀ c ∈ F.cells, c ∉ C :: T := fun c hc hm => by
        rcases List.mem_cons.mp hm with q | q
        · exact hCc (q ▸ hc)
        · exact hT c hc q
      refine s_own (T := C :: T) hF X2 hT' k2 n2 hx ha (fun hm => ?_) (fun hm => ?_) hp hv fun μ' m' h' ch tk p' X' k' => ?_
      · rcases List.mem_cons.mp hm with q | q
        · exact haC q
        · exact haT q
      · obtain ⟨o, w', e, hd⟩ := X2.cell_ex hm
        obtain ⟨n, e'⟩ := hp
        rw [e] at e'; cases e'; cases hd
      · have hch : ch ≠ C := fun q => by
          rcases p'.at' with q1 | ⟨c, q1, ec⟩
          · exact X2.LT (by rw [← q1, q]; exact .tail _ (.head _))
          · exact hCc (by rw [← q, q1]; exact cellsL_mem ec)
        have hN' : h'.Ns C m2 := hN.at' fun o e => p'.kept _ _ (Ne.symm hch) e
        refine ⟨m2, hN', fun h3 hs => ?_⟩
        have hs : Heap.SameBut C h' h3 := hs
        refine KS .next μ' m' h3 tk .next (SR.lose (W := [C]) (T := T) (B := []) X' (fun b o q1 _ e => hs.extBut b o (fun q => q1 (q ▸ .head _)) e) (fun x hx hm => ?_) (fun x hx => ?_) fun x hx => nomatch hx) (k'.aside (W := [C]) (fun x hx => ?_) fun b o q e => hs.extBut b o (fun z => q (z ▸ .head _)) e)
        · rw [List.mem_singleton.mp hx] at hm; exact hCT hm
        · rw [List.mem_singleton.mp hx]; exact hCc
        · rw [List.mem_singleton.mp hx]; exact hC
    · cases e1
  · cases he

theorem names_len {ns : List Str} {es : List Expr} {nms : List Str} {xs : List Nat} (h : CNm ns es nms xs) (env : Env) : (assignEach es env).length = xs.length ∧ (assignEach es env).findIdx? (·.1) = none := by
  induction h with
  | nil => exact ⟨rfl, rfl⟩
  | cons hx _ ih =>
    refine ⟨congrArg Nat.succ ih.1, ?_⟩
    show List.findIdx? _ ((false, _) :: _) = none
    rw [List.findIdx?_cons]
    simp [ih.2]
theorem bind_len : ∀ {xs : List Nat} {vs : List V} {st st' : St}, bindAll xs vs st = some st' → xs.length = vs.length
  | [], [], _, _, _ => rfl
  | _ :: _, _ :: _, _, _, h => congrArg Nat.succ (bind_len h)
  | [], _ :: _, _, _, h => nomatch h
  | _ :: _, [], _, _, h => nomatch h

theorem s_asgU (S : Snd prog w N P h₀ mg k ev) (hr : Room A k) (hF : FOk F) (X : SR h₀ T μ F st s.heap m) (hT : ∀ c ∈ F.cells, c ∉ T) {elts : List Expr} {kk : Nat} {tp pos : Pos} {value : Expr} {nms : List Str} {xs : List Nat} {c : Mine.X} (ht : CNm F.ns elts nms xs)
    (hsw : swapsWithSole [.Tuple elts kk tp] value pos.line F.env = pure false) (hw : swappedStores [.Tuple elts kk tp] value F.env = pure none) (ce : CE N F.env.scope F.ns value c) (he : stmtStep ev (.asgU xs c) st = some (o, st'))
    (KS : ∀ fl μ' m' h' tk, OutR (Mx T F μ' st'.r) h' o fl → SR h₀ T μ' F st' h' m' → SK μ μ' F st st' s.heap h' → Q fl { s with heap := h', toks := tk }) : wpAny (model prog w) A (exec (.Assign [.Tuple elts kk tp] value pos) F.env) Q E s := by
  simp only [stmtStep] at he
  split at he
  · rename_i vs st1 e1
    split at he
    · rename_i st2 e2
      cases he
      refine Assign_Tuple (S.e ce e1 hr hF X fun wv h1 tk1 r X1 k1 n1 => ?_) hsw hw
      cases r with
      | tup ht' hm hs =>
        rename_i a l
        obtain ⟨o, eo, co, n, dn⟩ := ht'
        have hl := hs.length
        refine wpAny_assign_Tuple (items := l.toArray) hr.1 ⟨o, eo, co, n, dn⟩ (by rw [(names_len ht F.env).1, List.size_toArray, hl]; exact bind_len e2) (names_len ht F.env).2 fun h2 hx1 => ?_
        have hk1 : ∀ b ob, h1.get? b = some ob → h2.get? b = some ob := fun b ob e => hx1 b ob (Nat.ne_of_lt (Heap.lt_size e)) e
        refine snd_names (s := { s with heap := h2, toks := tk1 }) hF _ ht e2 (hs.grow hk1) (X1.grow hk1) (fun x hx => cellT hT) fun h3 m3 tk3 X3 k3 => ?_
        exact KS _ _ _ _ _ .next X3 ((SK.ofEK (k1.trans (.grow hk1)) n1).trans k3.sk)
    · cases he
  · cases he

theorem set_arr (l : List Value) (j : Nat) (v : Value) : (l.set j v).toArray = l.toArray.setIfInBounds j v := by simp
theorem set_raw {l : Addr} {items : List Value} {j : Nat} {k : Int} {t : Tok} {v : Value} {Q : Unit → Shared → Prop} (hl : Plain s.heap l items) (hj : j < items.length) (hfit : j < 2 ^ 63) (hk : k = (j : Int))
    (hQ : ∀ h', Plain h' l (items.set j v) → Heap.SameBut l s.heap h' → Q () { s with heap := h' }) :
    wpAny (model prog w) A (setItem (.ref l) (.int k t) v) Q E s := by
  subst hk
  obtain ⟨n, ho⟩ := hl
  refine PySem.W.ki_setAt (items := items.toArray) (n := n) ho (by omega) (by omega) (by rw [List.size_toArray]; omega) (hQ _ ⟨if (items.toArray.setIfInBounds j v).size == items.toArray.size then n else n + 1, ?_⟩ (Heap.SameBut.update ..))
  rw [Heap.get?_update_self _ ho rfl, set_arr items j v]
  rfl

theorem s_setI (S : Snd prog w N P h₀ mg k ev) (hr : Room A k) (hF : FOk F) (X : SR h₀ T μ F st s.heap m) {nm : Str} {p p' pos : Pos} {i value : Expr} {x : Nat} {ci c : Mine.X} (hx : getL F.ns x = some nm)
    (hsw : swapsWith value (some (.Subscript (.Name nm p) i p')) pos.line F.env = pure false) (c1 : CE N F.env.scope F.ns i ci) (c2 : CE N F.env.scope F.ns value c) (he : stmtStep ev (.setI x ci c) st = some (o, st'))
    (KS : ∀ fl μ' m' h' tk, OutR (Mx T F μ' st'.r) h' o fl → SR h₀ T μ' F st' h' m' → SK μ μ' F st st' s.heap h' → Q fl { s with heap := h', toks := tk }) : wpAny (model prog w) A (exec (.Assign [.Subscript (.Name nm p) i p'] value pos) F.env) Q E s := by
  simp only [stmtStep] at he
  split at he
  · rename_i v st1 e1
    split at he
    · rename_i id0 us0 e2
      split at he
      · rename_i j st2 e3
        split at he
        · rename_i id us e4
          split at he
          · rename_i hj hsh
            cases he
            refine wpAny_Assign_Subscript (S.e c2 e1 hr hF X fun wv h1 tk1 r1 X1 k1 n1 => ?_) hsw
            obtain ⟨c, wl, hcs, hsl, hgo⟩ := eval_name (M := model prog w) (A := A) (E := E) (s := { s with heap := h1, toks := tk1 }) hF X1 hx (hF.dbg _ _ hx) (by rw [e2]; exact fun q => nomatch q)
            refine hgo (S.e (s := { s with heap := h1, toks := tk1 }) c1 e3 hr hF X1 fun wi h2 tk2 r2 X2 k2 n2 => ?_)
            have q := X2.var _ _ _ hx hcs
            rw [slot_still (s := { s with heap := h1, toks := tk1 }) X1 k2 hcs, hsl, e4] at q
            cases q with
            | own pl ql =>
              rename_i l
              cases r2 with
              | int _ t =>
                have hj := blt_lt hj
                have hsh := blt_lt hsh
                have hlen := ql.length
                refine set_raw (s := { s with heap := h2, toks := tk2 }) pl (by omega) (by omega) rfl fun h3 p3 hs3 => ?_
                have hs3 : Heap.SameBut (μ id) h2 h3 := hs3
                have hstep : Step (Mx T F μ st2.r) h2 (Mx T F μ st2.r) h3 := fun b o hb e => ⟨hs3.extBut b o (fun q => hb (q ▸ mem_Mx.mpr (.inr (.inr (.inr (own_get e4)))))) e, hb⟩
                exact s_turn X2 (k1.trans k2) (n2.trans n1) e4 hs3 p3 (VRs.set (ql.step hstep) j ((r1.lift k2).step hstep)) KS
          · cases he
        · cases he
      · cases he
    · cases he
  · cases he

theorem s_app (S : Snd prog w N P h₀ mg k ev) (hr : Room A k) (hF : FOk F) (X : SR h₀ T μ F st s.heap m) {nm : Str} {p1 p2 p3 pos : Pos} {e : Expr} {x : Nat} {c : Mine.X} (hx : getL F.ns x = some nm) (hp : (p2.endLine == p3.line) = true)
    (ca : CE N F.env.scope F.ns e c) (he : stmtStep ev (.app x c) st = some (o, st'))
    (KS : ∀ fl μ' m' h' tk, OutR (Mx T F μ' st'.r) h' o fl → SR h₀ T μ' F st' h' m' → SK μ μ' F st st' s.heap h' → Q fl { s with heap := h', toks := tk }) :
    wpAny (model prog w) A (exec (.Expr (.Call (.Attribute (.Name nm p1) (Str.ofString "append") p2) [e] [] p3) pos) F.env) Q E s := by
  simp only [stmtStep] at he
  split at he
  · rename_i id0 us0 e0
    split at he
    · rename_i v st1 e1
      split at he
      · rename_i id us e2
        split at he
        · rename_i hsh
          cases he
          refine wpAny_Expr ?_ (by unfold interactive; rw [hF.kind]; rfl)
          obtain ⟨cc, wl, hcs, hsl, hgo⟩ := eval_name (M := model prog w) (A := A) (E := E) hF X hx (hF.dbg _ _ hx) (by rw [e0]; exact fun q => nomatch q)
          have q := X.var _ _ _ hx hcs
          rw [hsl, e0] at q
          obtain ⟨pl', hpl⟩ := call_attr (nm := nm) (name := Str.ofString "append") (p1 := p1) (env := F.env) hp (star_no ca [] F.env)
          refine MethodCall_ (hgo ?_) hpl
          cases q with
          | own pl0 _ =>
            have pl0' := pl0
            obtain ⟨n0, pl0⟩ := pl0
            refine Calls.getMethod_list_append pl0 rfl rfl (callWith_method1 (args_cons (S.e ca e1 hr hF X fun wv h1 tk1 r1 X1 k1 n1 => args_nil ?_) (star_no ca _ _)) (star_no ca _ _))
            have q1 := X1.var _ _ _ hx hcs
            rw [slot_still X k1 hcs, hsl, e2] at q1
            generalize hmu : μ id0 = a0 at q1
            cases q1 with
            | own pl ql =>
              have hsh := blt_lt hsh
              have hlen := ql.length
              refine append_raw (s := { s with heap := h1, toks := tk1 }) pl (by omega) fun h3 p3 hs3 => ?_
              have hs3 : Heap.SameBut (μ id) h1 h3 := hs3
              have hstep : Step (Mx T F μ st1.r) h1 (Mx T F μ st1.r) h3 := fun b o hb e => ⟨hs3.extBut b o (fun q => hb (q ▸ mem_Mx.mpr (.inr (.inr (.inr (own_get e2)))))) e, hb⟩
              exact s_turn X1 k1 n1 e2 hs3 p3 ((ql.step hstep).append (.cons (r1.step hstep) .nil)) KS
        · cases he
      · cases he
    · cases he
  · cases he

theorem s_aug (S : Snd prog w N P h₀ mg k ev) (hr : Room A k) (hF : FOk F) (X : SR h₀ T μ F st s.heap m) (hT : ∀ c ∈ F.cells, c ∉ T) {nm : Str} {p pos : Pos} {value : Expr} {x : Nat} {c : Mine.X} (hx : getL F.ns x = some nm)
    (ca : CE N F.env.scope F.ns value c) (he : stmtStep ev (.aug x c) st = some (o, st'))
    (KS : ∀ fl μ' m' h' tk, OutR (Mx T F μ' st'.r) h' o fl → SR h₀ T μ' F st' h' m' → SK μ μ' F st st' s.heap h' → Q fl { s with heap := h', toks := tk }) :
    wpAny (model prog w) A (exec (.AugAssign (.Name nm p) .Add value pos) F.env) Q E s := by
  simp only [stmtStep] at he
  split at he
  · rename_i i e0
    split at he
    · rename_i j st1 e1
      cases he
      obtain ⟨cc, wl, hcs, hsl, _⟩ := eval_name (M := model prog w) (A := A) (E := E) (pos := pos) hF X hx (hF.dbg _ _ hx) (by rw [e0]; exact fun q => nomatch q)
      refine wpAny_AugAssign_Name (load_name hF X hx hcs hsl ?_)
      have q := X.var _ _ _ hx hcs
      rw [hsl, e0] at q
      cases q with
      | val q =>
        cases q with
        | int _ t =>
          refine S.e ca e1 hr hF X fun wv h1 tk1 r1 X1 k1 n1 => ?_
          cases r1 with
          | int _ u => exact wpAny_iadd_int (s_val hF X1 hT k1 n1 hx (.int _ _) KS)
    · cases he
  · cases he
end
end Mine

/-! part Sound21 -/
namespace Mine
open PySem PyProof.Rows PySem.SeqAt

/-- what evaluating the right side of a many-fold assignment does -/
structure CK (μ μ' : Nat → Addr) (st st' : St) (h h' : Heap) : Prop where
  kept : ∀ b o, b ∉ ownA μ st.r → h.get? b = some o → h'.get? b = some o
  sub : ∀ b, b ∈ ownA μ' st'.r → b ∈ ownA μ st.r
  agree : ∀ i, i < st.n → μ' i = μ i
  le : st.n ≤ st'.n
  ex : ∀ b o, h.get? b = some o → ∃ o', h'.get? b = some o'

inductive CR (M W : List Addr) (μ : Nat → Addr) (h : Heap) (F : Sc) (m : Str → Option Value) (n : Nat) : Cp → Value → Prop
  | al {y : Nat} {nm : Str} {c : Option Addr} {wv : Value} : getL F.ns y = some nm → getL F.cs y = some c → slot h m nm c = some wv → CR M W μ h F m n (.al y) wv
  | val {v : V} {wv : Value} : VR M h v wv → CR M W μ h F m n (.r (.val v)) wv
  | own {id : Nat} {vs : List V} {l : List Value} : μ id ∈ W → Plain h (μ id) l → VRs M h vs l → id < n → CR M W μ h F m n (.r (.own id vs)) (.ref (μ id))

inductive Hd (M W : List Addr) (μ : Nat → Addr) (h : Heap) (n : Nat) : R → Value → Prop
  | val {v : V} {wv : Value} : VR M h v wv → Hd M W μ h n (.val v) wv
  | own {id : Nat} {vs : List V} {l : List Value} : μ id ∈ W → Plain h (μ id) l → VRs M h vs l → id < n → Hd M W μ h n (.own id vs) (.ref (μ id))

noncomputable def res1 (c : Cp) (ρ : List R) : Option (R × List R) := match c with
  | .al y => match getR ρ y with
    | .dead => none
    | .val v => some (.val v, ρ)
    | .own id vs => some (.own id vs, setR ρ y .dead)
  | .r r => some (r, ρ)

theorem comps_step {ev : Ev} {x : X} {xs : Xs} {st st' : St} {cs : List Cp} (h : comps ev (.cons x xs) st = some (cs, st')) : ∃ c st1 cs', comp1 ev x st = some (c, st1) ∧ comps ev xs st1 = some (cs', st') ∧ cs = c :: cs' := by
  unfold comps at h
  split at h
  · rename_i c st1 e
    split at h
    · rename_i cs' st2 e2
      cases h
      exact ⟨c, st1, cs', e, e2, rfl⟩
    · cases h
  · cases h
theorem comps_two {ev : Ev} {a b : X} {st st' : St} {cs : List Cp} (h : comps ev (.cons a (.cons b .nil)) st = some (cs, st')) :
    ∃ c1 st1 c2, comp1 ev a st = some (c1, st1) ∧ comp1 ev b st1 = some (c2, st') ∧ cs = [c1, c2] := by
  obtain ⟨c1, st1, cs1, e1, e2, rfl⟩ := comps_step h
  obtain ⟨c2, st2, cs2, e3, e4, rfl⟩ := comps_step e2
  cases e4
  exact ⟨c1, st1, c2, e1, e3, rfl⟩

theorem resolve_two {c1 c2 : Cp} {ρ ρ' : List R} {rs : List R} (h : resolve [c1, c2] ρ = some (rs, ρ')) : ∃ r1 ρ1 r2, res1 c1 ρ = some (r1, ρ1) ∧ res1 c2 ρ1 = some (r2, ρ') ∧ rs = [r1, r2] := by
  have step : ∀ (c : Cp) (cs : List Cp) (ρ ρ' rs : List R), resolve (c :: cs) ρ = some (rs, ρ') → ∃ r ρ1 rs', res1 c ρ = some (r, ρ1) ∧ resolve cs ρ1 = some (rs', ρ') ∧ rs = r :: rs' := by
    intro c cs ρ ρ' rs h
    cases c with
    | al y =>
      unfold resolve at h
      unfold res1
      simp only
      generalize getR ρ y = r at h ⊢
      cases r with
      | dead => cases h
      | val v =>
        simp only at h
        split at h
        · rename_i rs' ρ'' e
          cases h
          exact ⟨_, _, rs', rfl, e, rfl⟩
        · cases h
      | own id vs =>
        simp only at h
        split at h
        · rename_i rs' ρ'' e
          cases h
          exact ⟨_, _, rs', rfl, e, rfl⟩
        · cases h
    | r r =>
      unfold resolve at h
      split at h
      · rename_i rs' ρ'' e
        cases h
        exact ⟨_, _, rs', rfl, e, rfl⟩
      · cases h
  obtain ⟨r1, ρ1, rs1, e1, e2, rfl⟩ := step _ _ _ _ _ h
  obtain ⟨r2, ρ2, rs2, e3, e4, rfl⟩ := step _ _ _ _ _ e2
  cases e4
  exact ⟨r1, ρ1, r2, e1, e3, rfl⟩

theorem setR_comm : ∀ {r : List R} {x y : Nat} {p q : R}, x ≠ y → setR (setR r x p) y q = setR (setR r y q) x p
  | [], _, _, _, _, _ => rfl
  | _ :: _, 0, 0, _, _, h => absurd rfl h
  | _ :: _, 0, _ + 1, _, _, _ => rfl
  | _ :: _, _ + 1, 0, _, _, _ => rfl
  | a :: l, x + 1, y + 1, _, _, h => congrArg (a :: ·) (setR_comm (r := l) fun e => h (by rw [e]))

noncomputable def drop (μ : Nat → Addr) (r : R) (W : List Addr) : List Addr := match r with
  | .own id _ => W.filter fun b => b != μ id
  | _ => W
theorem drop_sub {μ : Nat → Addr} {r : R} {W : List Addr} {b : Addr} (h : b ∈ drop μ r W) : b ∈ W := by
  cases r with
  | own id vs => exact (List.mem_filter.mp h).1
  | _ => exact h
theorem drop_in {μ : Nat → Addr} {r : R} {W : List Addr} {b : Addr} (h : b ∈ W) (hn : ∀ id vs, r = .own id vs → b ≠ μ id) : b ∈ drop μ r W := by
  cases r with
  | own id vs => exact List.mem_filter.mpr ⟨h, by simpa using hn id vs rfl⟩
  | _ => exact h
theorem own_put_mem {μ : Nat → Addr} {ρ : List R} {x : Nat} {r : R} {b : Addr} (h : b ∈ ownA μ (setR ρ x r)) : b ∈ ownA μ ρ ∨ ∃ id vs, r = .own id vs ∧ b = μ id := by
  cases r with
  | own id vs => exact (own_set_mem h).elim (fun q => .inr ⟨id, vs, rfl, q⟩) .inl
  | dead => exact .inl (own_no_sub (q := .dead) rfl h)
  | val v => exact .inl (own_no_sub (q := .val v) rfl h)

section
variable {prog : Program} {w : World} {N : Nm} {P : Nat → Option Fn} {tab : Nat → Option V} {h₀ : Heap} {mg mb : Str → Option Value}
variable {A : Around} {E : Value → Shared → Prop} {T T' W W' W1 W2 M M' : List Addr} {μ μ' μ'' : Nat → Addr} {F : Sc} {m m' : Str → Option Value} {k n : Nat} {ev : Ev} {ρ ρ' : List R} {r r1 r2 : R}
variable {s : Shared} {st st' st1 st'' : St} {v : V} {o : Out} {h h' h1 h'' : Heap} {Q : Flow → Shared → Prop} {wv w1 w2 : Value} {ch : Addr} {c : Cp}

theorem CK.step (x : CK μ μ' st st' h h') (hW : ∀ a ∈ W, h.get? a = none) : Step (Mx T F μ st.r) h (Mx (W ++ T) F μ' st'.r) h' := fun b o hb e =>
  ⟨x.kept b o (fun q => hb (mem_Mx.mpr (.inr (.inr (.inr q))))) e, fun hm => by
    rcases mem_Mx.mp hm with q | q | q | q
    · exact hb (mem_Mx.mpr (.inl q))
    · exact hb (mem_Mx.mpr (.inr (.inl q)))
    · rcases List.mem_append.mp q with q | q
      · rw [hW b q] at e; cases e
      · exact hb (mem_Mx.mpr (.inr (.inr (.inl q))))
    · exact hb (mem_Mx.mpr (.inr (.inr (.inr (x.sub b q)))))⟩

/-- slots' addresses: raising the count, naming a new one -/
theorem SR.agree (X : SR h₀ T μ F st h m) (hag : ∀ i, i < st.n → μ' i = μ i) {n : Nat} (hn : st.n ≤ n) : SR h₀ T μ' F ⟨st.r, n⟩ h m ∧ ownA μ' st.r = ownA μ st.r := by
  have ho : ownA μ' st.r = ownA μ st.r := ownA_agree X.ids hag
  have hM : Mx T F μ' st.r = Mx T F μ st.r := by unfold Mx; rw [ho]
  refine ⟨{ ns := X.ns, cel := X.cel, var := fun y nm c e1 e2 => ?_, nd := by show (ownA μ' st.r).Nodup; rw [ho]; exact X.nd, disj := fun a ha => X.disj a (by rw [← ho]; exact ha), LT := X.LT, ids := fun x id vs e => Nat.lt_of_lt_of_le (X.ids x id vs e) hn, ex := X.ex, base := X.base, fr := fun a ha => X.fr a (by rw [← hM]; exact ha), len := X.len }, ho⟩
  have q := X.var y nm c e1 e2
  show RV (Mx T F μ' st.r) μ' h (getR st.r y) _
  rw [hM]
  generalize slot h m nm c = sl at q ⊢
  generalize hg : getR st.r y = g at q
  cases q with
  | dead => exact .dead
  | val r => exact .val r
  | own pl ql =>
    rename_i id vs l
    have := hag id (X.ids y id vs hg)
    rw [← this] at pl ⊢
    exact .own pl ql

theorem CR.lift (q : CR (Mx T F μ st.r) W μ h F m st.n c wv) (X : SR h₀ T μ F st h m) (hWT : ∀ a ∈ W, a ∈ T) (x : CK μ μ' st st' h h') (hW : ∀ a ∈ W', h.get? a = none) : CR (Mx (W' ++ T) F μ' st'.r) W μ' h' F m st'.n c wv := by
  cases q with
  | al e1 e2 e3 =>
    refine .al e1 e2 ?_
    rw [slot_eq fun a ea => ?_]
    · exact e3
    · subst ea
      obtain ⟨o, w', e, _⟩ := X.cell_ex (cellsL_mem e2)
      rw [e, x.kept a o (fun q => (X.disj a q).2.1 (cellsL_mem e2)) e]
  | val r => exact .val (r.step (x.step hW))
  | own hin pl ql hid =>
    rename_i id vs l
    rw [← x.agree id hid] at hin pl ⊢
    refine .own hin (pl.at fun o e => x.kept _ o (fun q => (X.disj _ q).2.2 (hWT _ hin)) e) (ql.step (x.step hW)) (Nat.lt_of_lt_of_le hid x.le)

theorem snd_comp1 (S : Snd prog w N P h₀ mg k ev) (hr : Room A k) (hF : FOk F) (X : SR h₀ T μ F st s.heap m) {e : Expr} {x : Mine.X} (ce : CE N F.env.scope F.ns e x) (he : comp1 ev x st = some (c, st')) {Q : Value → Shared → Prop}
    (K : ∀ wv μ' W h' tk, SR h₀ (W ++ T) μ' F st' h' m → CK μ μ' st st' s.heap h' → CR (Mx (W ++ T) F μ' st'.r) W μ' h' F m st'.n c wv → (∀ a ∈ W, s.heap.get? a = none) → Q wv { s with heap := h', toks := tk }) :
    wpAny (model prog w) A (eval e F.env) Q E s := by
  unfold comp1 at he
  split at he
  · rename_i y
    split at he
    · cases he
    · rename_i hy
      cases he
      cases ce with
      | var hx =>
        obtain ⟨c, wv, hcs, hsl, hgo⟩ := eval_name (M := model prog w) (A := A) (E := E) hF X hx (hF.dbg _ _ hx) hy
        exact hgo (K wv μ [] _ _ X ⟨fun _ _ _ e => e, fun _ h => h, fun _ _ => rfl, Nat.le_refl _, fun _ o e => ⟨o, e⟩⟩ (.al hx hcs hsl) fun _ h => nomatch h)
  · split at he
    · rename_i v st1 e1
      split at he
      rename_i r n e2
      cases he
      split at e2
      · rename_i vs hfx
        cases e2
        refine S.f ce hfx e1 hr hF X fun a l h1 tk1 ha haT hp hv X1 k1 n1 => ?_
        have hag : ∀ i, i < st1.n → upd μ st1.n a i = μ i := fun i hi => upd_less hi
        obtain ⟨X2, ho⟩ := X1.agree (μ' := upd μ st1.n a) hag (n := st1.n + 1) (Nat.le_succ _)
        have hM : Mx (a :: T) F (upd μ st1.n a) st1.r = Mx (a :: T) F μ st1.r := by unfold Mx; rw [ho]
        refine K _ (upd μ st1.n a) [a] _ _ X2 ⟨k1.kept, fun b hb => ?_, fun i hi => hag i (by rw [n1]; exact hi), by show st.n ≤ st1.n + 1; rw [n1]; exact Nat.le_succ _, k1.ex⟩ ?_ (fun b hb => by rw [List.mem_singleton.mp hb]; exact ha)
        · have hb : b ∈ ownA (upd μ st1.n a) st1.r := hb
          rw [ho] at hb; exact k1.sub b hb
        · have hup : upd μ st1.n a st1.n = a := upd_here
          have := CR.own (M := Mx (a :: T) F (upd μ st1.n a) st1.r) (W := [a]) (μ := upd μ st1.n a) (h := h1) (F := F) (m := m) (n := st1.n + 1) (id := st1.n) (vs := vs) (l := l) (by rw [hup]; exact .head _) (by rw [hup]; exact hp) (by rw [hM]; exact hv) (Nat.lt_succ_self _)
          rw [hup] at this
          exact this
      · cases e2
        refine S.e ce e1 hr hF X fun wv h1 tk1 r1 X1 k1 n1 => ?_
        exact K wv μ [] _ _ X1 ⟨k1.kept, k1.sub, fun _ _ => rfl, Nat.le_of_eq n1.symm, k1.ex⟩ (.val r1) fun _ h => nomatch h
    · cases he

theorem snd_res1 (hF : FOk F) (X : SR h₀ W μ F ⟨ρ, n⟩ h m) (q : CR (Mx W F μ ρ) W μ h F m n c wv) (he : res1 c ρ = some (r, ρ')) :
    ∃ W', SR h₀ W' μ F ⟨ρ', n⟩ h m ∧ Hd (Mx W' F μ ρ') W' μ h n r wv ∧ (∀ b ∈ W, b ∈ W') ∧ (∀ b ∈ Mx W' F μ ρ', b ∈ Mx W F μ ρ) ∧ (∀ b ∈ ownA μ ρ', b ∈ ownA μ ρ) ∧ (∀ b ∈ W', b ∈ W ∨ b ∈ ownA μ ρ) ∧
      (∀ id vs, r = .own id vs → c = .r r ∨ μ id ∈ ownA μ ρ) := by
  cases q with
  | al e1 e2 e3 =>
    rename_i y nm c
    unfold res1 at he
    simp only at he
    have qv := X.var y nm c e1 e2
    have qv : RV (Mx W F μ ρ) μ h (getR ρ y) (slot h m nm c) := qv
    generalize hg : getR ρ y = g at he qv
    cases g with
    | dead => cases he
    | val v =>
      cases he
      rw [e3] at qv
      cases qv with
      | val r => exact ⟨W, X, .val r, fun _ h => h, fun _ h => h, fun _ h => h, fun _ h => .inl h, fun _ _ q => nomatch q⟩
    | own id vs =>
      cases he
      rw [e3] at qv
      obtain ⟨X1, l, pl, ql⟩ := X.take (st := ⟨ρ, n⟩) hF hg
      have hin : μ id ∈ ownA μ ρ := own_get hg
      cases qv
      refine ⟨μ id :: W, X1, .own (.head _) pl ql (X.ids _ _ _ hg), fun _ h => .tail _ h, fun b hb => ?_, fun b hb => own_no_sub (q := .dead) rfl hb, fun b hb => ?_, fun id' vs' q => by cases q; exact .inr hin⟩
      · rcases mem_Mx.mp hb with q | q | q | q
        · exact mem_Mx.mpr (.inl q)
        · exact mem_Mx.mpr (.inr (.inl q))
        · rcases List.mem_cons.mp q with q | q
          · rw [q]; exact mem_Mx.mpr (.inr (.inr (.inr hin)))
          · exact mem_Mx.mpr (.inr (.inr (.inl q)))
        · exact mem_Mx.mpr (.inr (.inr (.inr (own_no_sub (q := .dead) rfl q))))
      · rcases List.mem_cons.mp hb with q | q
        · rw [q]; exact .inr hin
        · exact .inl q
  | val r =>
    cases he
    exact ⟨W, X, .val r, fun _ h => h, fun _ h => h, fun _ h => h, fun _ h => .inl h, fun _ _ q => nomatch q⟩
  | own hin pl ql hid =>
    cases he
    exact ⟨W, X, .own hin pl ql hid, fun _ h => h, fun _ h => h, fun _ h => h, fun _ h => .inl h, fun _ _ _ => .inl rfl⟩

theorem CR.less (q : CR M W μ h F m n c wv) (hM : ∀ b ∈ M', b ∈ M) (hW : ∀ b ∈ W, b ∈ W') : CR M' W' μ h F m n c wv := by
  have hs : Step M h M' h := fun b o hb e => ⟨e, fun hm => hb (hM b hm)⟩
  cases q with
  | al e1 e2 e3 => exact .al e1 e2 e3
  | val r => exact .val (r.step hs)
  | own hin pl ql hid => exact .own (hW _ hin) pl (ql.step hs) hid
theorem Hd.less (q : Hd M W μ h n r wv) (hM : ∀ b ∈ M', b ∈ M) (hW : ∀ b ∈ W, b ∈ W') : Hd M' W' μ h n r wv := by
  have hs : Step M h M' h := fun b o hb e => ⟨e, fun hm => hb (hM b hm)⟩
  cases q with
  | val r => exact .val (r.step hs)
  | own hin pl ql hid => exact .own (hW _ hin) pl (ql.step hs) hid

theorem put1 (X : SR h₀ W μ F ⟨ρ, n⟩ h m) (hc : ∀ c ∈ F.cells, c ∉ W) (q : Hd (Mx W F μ ρ) W μ h n r wv) {x : Nat} {nm : Str} (hx : getL F.ns x = some nm) (p : Put F h h' m m' x wv ch) :
    SR h₀ (drop μ r W) μ F ⟨setR ρ x r, n⟩ h' m' := by
  cases q with
  | val rr => exact X.putVal p (fun c e => hc c (cellsL_mem e)) rr
  | own hin pl ql hid =>
    rename_i id vs l
    have hs : ∀ b ∈ μ id :: drop μ (.own id vs) W, b ∈ W := fun b hb => by
      rcases List.mem_cons.mp hb with q | q
      · rw [q]; exact hin
      · exact drop_sub q
    have X1 := X.less hs
    refine X1.putOwn (μ' := μ) (n' := n) (id := id) p (fun c e hm => hc c (cellsL_mem e) (hs c hm)) (by rw [X.len]; exact getL_lt hx) pl (ql.step fun b o hb e => ⟨e, fun hm => hb (Mx_sub hs hm)⟩) (fun _ _ _ _ => rfl) rfl (Nat.le_refl _) hid fun hm => ?_
    have := (List.mem_filter.mp hm).2
    simp at this

theorem Hd.put (q : Hd (Mx W F μ ρ) W μ h n r wv) (q2 : Hd (Mx W F μ ρ) W μ h n r2 w2) (X : SR h₀ W μ F ⟨ρ, n⟩ h m) (hc : ∀ c ∈ F.cells, c ∉ W) {x : Nat} (p : Put F h h' m m' x wv ch) (hd : ∀ i us j vs, r = .own i us → r2 = .own j vs → μ i ≠ μ j) :
    Hd (Mx (drop μ r W) F μ (setR ρ x r)) (drop μ r W) μ h' n r2 w2 := by
  have hs : Step (Mx W F μ ρ) h (Mx (drop μ r W) F μ (setR ρ x r)) h' := fun b o hb e => ⟨p.kept b o (fun q => hb (q ▸ p.M)) e, fun hm => by
    rcases mem_Mx.mp hm with z | z | z | z
    · exact hb (mem_Mx.mpr (.inl z))
    · exact hb (mem_Mx.mpr (.inr (.inl z)))
    · exact hb (mem_Mx.mpr (.inr (.inr (.inl (drop_sub z)))))
    · rcases own_put_mem z with z | ⟨id, vs, er, z2⟩
      · exact hb (mem_Mx.mpr (.inr (.inr (.inr z))))
      · subst er
        cases q with
        | own hin _ _ _ => exact hb (mem_Mx.mpr (.inr (.inr (.inl (z2 ▸ hin)))))⟩
  cases q2 with
  | val rr => exact .val (rr.step hs)
  | own hin pl ql hid =>
    rename_i id vs l
    refine .own (drop_in hin fun i us er => (hd i us id vs er rfl).symm) (pl.at fun o e => p.kept _ o (fun z => ?_) e) (ql.step hs) hid
    rcases p.at' with z1 | ⟨c, z1, ec⟩
    · exact X.LT (by rw [← z1, ← z]; exact hin)
    · exact hc c (cellsL_mem ec) (by rw [← z1, ← z]; exact hin)

theorem put2 (hF : FOk F) {x y : Nat} {nx ny : Str} (hx : getL F.ns x = some nx) (hy : getL F.ns y = some ny) (X : SR h₀ W μ F ⟨ρ, n⟩ s.heap m) (hc : ∀ c ∈ F.cells, c ∉ W) (q1 : Hd (Mx W F μ ρ) W μ s.heap n r1 w1) (q2 : Hd (Mx W F μ ρ) W μ s.heap n r2 w2)
    (hd : ∀ i us j vs, r1 = .own i us → r2 = .own j vs → μ i ≠ μ j) {Q : Unit → Shared → Prop}
    (K : ∀ h' m' tk, SR h₀ (drop μ r2 (drop μ r1 W)) μ F ⟨setR (setR ρ x r1) y r2, n⟩ h' m' → (∀ b o, b ≠ F.env.locals → b ∉ F.cells → s.heap.get? b = some o → h'.get? b = some o) →
      (∀ b o, s.heap.get? b = some o → ∃ o', h'.get? b = some o') → Q () { s with heap := h', toks := tk }) :
    wpAny (model prog w) A (storeName F.env nx w1) (fun _ s1 => wpAny (model prog w) A (storeName F.env ny w2) Q E s1) E s := by
  refine store_name hF X hx fun h1 m1 ch1 tk1 p1 => ?_
  have X1 := put1 X hc q1 hx p1
  have q2' := Hd.put q1 q2 X hc p1 hd
  have hc1 : ∀ c ∈ F.cells, c ∉ drop μ r1 W := fun c h1 h2 => hc c h1 (drop_sub h2)
  refine store_name (s := { s with heap := h1, toks := tk1 }) hF X1 hy fun h2 m2 ch2 tk2 p2 => ?_
  have X2 := put1 X1 hc1 q2' hy p2
  have far : ∀ {h h' : Heap} {m m' : Str → Option Value} {x : Nat} {wv : Value} {ch : Addr}, Put F h h' m m' x wv ch → ∀ b, b ≠ F.env.locals → b ∉ F.cells → b ≠ ch := fun p b e1 e2 q => by
    rcases p.at' with z1 | ⟨c, z1, ec⟩
    · exact e1 (q.trans z1)
    · exact e2 (by rw [q, z1]; exact cellsL_mem ec)
  refine K _ _ _ X2 (fun b o e1 e2 e => p2.kept b o (far p2 b e1 e2) (p1.kept b o (far p1 b e1 e2) e)) fun b o e => ?_
  obtain ⟨o', e'⟩ := p1.ex X b o e
  exact p2.ex X1 b o' e'
end
end Mine

/-! part Sound22 -/
namespace Mine
open PySem PyProof.Rows PySem.SeqAt

section
variable {prog : Program} {w : World} {N : Nm} {P : Nat → Option Fn} {tab : Nat → Option V} {h₀ : Heap} {mg mb : Str → Option Value}
variable {A : Around} {E : Value → Shared → Prop} {T T' W W' W1 W2 M M' : List Addr} {μ μ' μ1 μ2 μ'' : Nat → Addr} {F : Sc} {m m' : Str → Option Value} {k n : Nat} {ev : Ev} {ρ ρ' ρ1 ρ2 : List R} {r r1 r2 : R}
variable {s : Shared} {st st' st1 st2 st'' : St} {v : V} {o : Out} {h h' h1 h2 h3 h'' : Heap} {Q : Flow → Shared → Prop} {wv w1 w2 : Value} {ch : Addr} {c c1 c2 : Cp}

theorem two_ready (hF : FOk F) (X : SR h₀ T μ F st h m) (hT : ∀ c ∈ F.cells, c ∉ T) (X1 : SR h₀ (W1 ++ T) μ1 F st1 h1 m) (k1 : CK μ μ1 st st1 h h1) (q1 : CR (Mx (W1 ++ T) F μ1 st1.r) W1 μ1 h1 F m st1.n c1 w1) (f1 : ∀ a ∈ W1, h.get? a = none)
    (X2 : SR h₀ (W2 ++ (W1 ++ T)) μ2 F st2 h2 m) (k2 : CK μ1 μ2 st1 st2 h1 h2) (q2 : CR (Mx (W2 ++ (W1 ++ T)) F μ2 st2.r) W2 μ2 h2 F m st2.n c2 w2) (f2 : ∀ a ∈ W2, h1.get? a = none)
    (hk : ∀ b o, h2.get? b = some o → h3.get? b = some o) (e1 : res1 c1 st2.r = some (r1, ρ1)) (e2 : res1 c2 ρ1 = some (r2, ρ2)) :
    ∃ Wb, SR h₀ Wb μ2 F ⟨ρ2, st2.n⟩ h3 m ∧ Hd (Mx Wb F μ2 ρ2) Wb μ2 h3 st2.n r1 w1 ∧ Hd (Mx Wb F μ2 ρ2) Wb μ2 h3 st2.n r2 w2 ∧ (∀ i us j vs, r1 = .own i us → r2 = .own j vs → μ2 i ≠ μ2 j) ∧ (∀ c ∈ F.cells, c ∉ Wb) ∧
      (∀ b ∈ T, b ∈ drop μ2 r2 (drop μ2 r1 Wb)) ∧ (∀ b ∈ ownA μ2 ρ2, b ∈ ownA μ st.r) ∧ (∀ i us, r1 = .own i us → μ2 i ∈ ownA μ st.r ∨ h.get? (μ2 i) = none) ∧ (∀ i us, r2 = .own i us → μ2 i ∈ ownA μ st.r ∨ h.get? (μ2 i) = none) := by
  have q1' := q1.lift (W' := W2) X1 (fun b hb => List.mem_append_left _ hb) k2 f2
  have X3 : SR h₀ (W2 ++ (W1 ++ T)) μ2 F ⟨st2.r, st2.n⟩ h3 m := X2.grow hk
  have grow : ∀ {W : List Addr} {c : Cp} {wv : Value}, CR (Mx (W2 ++ (W1 ++ T)) F μ2 st2.r) W μ2 h2 F m st2.n c wv → CR (Mx (W2 ++ (W1 ++ T)) F μ2 st2.r) W μ2 h3 F m st2.n c wv := fun {W c wv} q => by
    cases q with
    | al a1 a2 a3 =>
      refine .al a1 a2 ?_
      rw [slot_eq fun a ea => ?_]
      · exact a3
      · subst ea
        obtain ⟨o, w', e, _⟩ := X2.cell_ex (cellsL_mem a2)
        rw [e, hk _ _ e]
    | val r => exact .val (r.grow hk)
    | own hin pl ql hid => exact .own hin (pl.at fun o e => hk _ _ e) (ql.grow hk) hid
  have g1 := grow q1'
  have g2 := grow q2
  obtain ⟨Wa, Xa, Ha, a1, a2, a3, a4, a5⟩ := snd_res1 hF X3 (g1.less (fun _ h => h) fun b hb => List.mem_append_right _ (List.mem_append_left _ hb)) e1
  obtain ⟨Wb, Xb, Hb, b1, b2, b3, b4, b5⟩ := snd_res1 hF Xa ((g2.less a2 fun b hb => a1 b (List.mem_append_left _ hb)) : CR (Mx Wa F μ2 ρ1) Wa μ2 h3 F m st2.n c2 w2) e2
  have own_st : ∀ b ∈ ownA μ2 st2.r, b ∈ ownA μ st.r := fun b hb => k1.sub b (k2.sub b hb)
  have inW1 : ∀ i us, c1 = .r (.own i us) → μ2 i ∈ W1 := fun i us q => by
    subst q
    cases q1' with
    | own hin _ _ _ => exact hin
  have inW2 : ∀ i us, c2 = .r (.own i us) → μ2 i ∈ W2 := fun i us q => by
    subst q
    cases q2 with
    | own hin _ _ _ => exact hin
  have f2' : ∀ a ∈ W2, h.get? a = none := fun a ha => by
    cases e : h.get? a with
    | none => rfl
    | some o => obtain ⟨o', e'⟩ := k1.ex a o e; rw [f2 a ha] at e'; cases e'
  have n1 : ∀ i us, r1 = .own i us → μ2 i ∈ W1 ∨ μ2 i ∈ ownA μ2 st2.r := fun i us q => by
    rcases a5 i us q with z | z
    · subst q; exact .inl (inW1 i us z)
    · exact .inr z
  have n2 : ∀ i us, r2 = .own i us → μ2 i ∈ W2 ∨ μ2 i ∈ ownA μ2 ρ1 := fun i us q => by
    rcases b5 i us q with z | z
    · subst q; exact .inl (inW2 i us z)
    · exact .inr z
  have Tout : ∀ b ∈ T, ∃ o, h.get? b = some o := X.ex
  refine ⟨Wb, Xb, Ha.less b2 b1, Hb, fun i us j vs p q => ?_, fun c hc hm => ?_, fun b hb => ?_, fun b hb => own_st b (a3 b (b3 b hb)), fun i us q => ?_, fun i us q => ?_⟩
  · rcases n2 j vs q with z | z
    · rcases n1 i us p with y | y
      · intro eq
        obtain ⟨o, e⟩ := X1.ex _ (List.mem_append_left T y)
        rw [eq, f2 _ z] at e; cases e
      · intro eq
        exact (X2.disj _ y).2.2 (by rw [eq]; exact List.mem_append_left _ z)
    · intro eq
      subst p
      cases Ha with
      | own hin _ _ _ => exact (Xa.disj _ z).2.2 (by rw [← eq]; exact hin)
  · rcases b4 c hm with z | z
    · rcases a4 c z with y | y
      · obtain ⟨o, w', e, _⟩ := X.cell_ex hc
        rcases List.mem_append.mp y with y | y
        · rw [f2' c y] at e; cases e
        · rcases List.mem_append.mp y with y | y
          · rw [f1 c y] at e; cases e
          · exact hT c hc y
      · exact (X2.disj c y).2.1 hc
    · exact (Xa.disj c z).2.1 hc
  · have hb3 : b ∈ W2 ++ (W1 ++ T) := List.mem_append_right _ (List.mem_append_right _ hb)
    obtain ⟨o, e⟩ := Tout b hb
    refine drop_in (drop_in (b1 b (a1 b hb3)) fun i us p => ?_) fun j vs q => ?_
    · intro eq
      rcases n1 i us p with y | y
      · rw [eq, f1 _ y] at e; cases e
      · exact (X2.disj _ y).2.2 (by rw [← eq]; exact hb3)
    · intro eq
      rcases n2 j vs q with y | y
      · rw [eq, f2' _ y] at e; cases e
      · exact (X2.disj _ (a3 _ y)).2.2 (by rw [← eq]; exact hb3)
  · rcases n1 i us q with y | y
    · exact .inr (f1 _ y)
    · exact .inl (own_st _ y)
  · rcases n2 i us q with y | y
    · exact .inr (f2' _ y)
    · exact .inl (own_st _ (a3 _ y))

theorem s_asgT (S : Snd prog w N P h₀ mg k ev) (hr : Room A k) (hF : FOk F) (X : SR h₀ T μ F st s.heap m) (hT : ∀ c ∈ F.cells, c ∉ T) {na nb : Str} {pa pb tp vp pos : Pos} {kk kk' : Nat} {va vb : Expr} {x y : Nat} {ca cb : Mine.X} (hx : getL F.ns x = some na) (hy : getL F.ns y = some nb)
    (hn : x ≠ y) (hsw : swapsWithSole [.Tuple [.Name na pa, .Name nb pb] kk tp] (.Tuple [va, vb] kk' vp) pos.line F.env = pure false)
    (hw : swappedStores [.Tuple [.Name na pa, .Name nb pb] kk tp] (.Tuple [va, vb] kk' vp) F.env = pure none ∨ swappedStores [.Tuple [.Name na pa, .Name nb pb] kk tp] (.Tuple [va, vb] kk' vp) F.env = pure (some [na, nb]))
    (d1 : CE N F.env.scope F.ns va ca) (d2 : CE N F.env.scope F.ns vb cb) (he : stmtStep ev (.asgT [x, y] (.cons ca (.cons cb .nil))) st = some (o, st'))
    (KS : ∀ fl μ' m' h' tk, OutR (Mx T F μ' st'.r) h' o fl → SR h₀ T μ' F st' h' m' → SK μ μ' F st st' s.heap h' → Q fl { s with heap := h', toks := tk }) :
    wpAny (model prog w) A (exec (.Assign [.Tuple [.Name na pa, .Name nb pb] kk tp] (.Tuple [va, vb] kk' vp) pos) F.env) Q E s := by
  simp only [stmtStep] at he
  split at he
  · rename_i cs st2 e1
    obtain ⟨c1, st1, c2, e3, e4, rfl⟩ := comps_two e1
    split at he
    · rename_i rs ρ2 e2
      obtain ⟨r1, ρ1, r2, e5, e6, rfl⟩ := resolve_two e2
      split at he
      · rename_i ρ3 e7
        cases he
        have e7 : some (setR (setR ρ2 x r1) y r2) = some ρ3 := e7
        cases e7
        -- the value
        have val : ∀ (Z : Value → Shared → Prop), (∀ w1 w2 t h3 tk, IsTup h3 t #[w1, w2] → (∀ h4 tk4, (∀ b o, h3.get? b = some o → h4.get? b = some o) →
            wpAny (model prog w) A (storeName F.env na w1) (fun _ s1 => wpAny (model prog w) A (storeName F.env nb w2) (fun _ s2 => Q .next s2) E s1) E { s with heap := h4, toks := tk4 } ∧
            wpAny (model prog w) A (storeName F.env nb w2) (fun _ s1 => wpAny (model prog w) A (storeName F.env na w1) (fun _ s2 => Q .next s2) E s1) E { s with heap := h4, toks := tk4 }) → Z (.ref t) { s with heap := h3, toks := tk }) →
            wpAny (model prog w) A (eval (.Tuple [va, vb] kk' vp) F.env) Z E s := by
          intro Z hZ
          refine Tuple_ (args_cons (snd_comp1 S hr hF X d1 e3 fun w1 μ1 W1 h1 tk1 X1 k1 q1 f1 => args_cons (snd_comp1 (s := { s with heap := h1, toks := tk1 }) S hr hF X1 d2 e4 fun w2 μ2 W2 h2 tk2 X2 k2 q2 f2 => args_nil ?_) (star_no d2 _ _)) (star_no d1 _ _))
          have f2 : ∀ a ∈ W2, h1.get? a = none := f2
          have k2 : CK μ1 μ2 st1 st2 h1 h2 := k2
          refine wpAny_newTuple ?_ (by rw [sizeLine_eq]; simp)
          have hk : ∀ b o, h2.get? b = some o → (h2.push { cls := .type "tuple", data := .seq [w1, w2].toArray }).get? b = some o := push_keeps h2 _
          refine hZ w1 w2 _ _ _ ⟨_, Heap.get?_push_size _ rfl, rfl, 0, rfl⟩ fun h4 tk4 hk4 => ?_
          have hk24 : ∀ b o, h2.get? b = some o → h4.get? b = some o := fun b o e => hk4 b o (hk b o e)
          obtain ⟨Wb, Xb, g1, g2, dd, cc, tt, oo, n1, n2⟩ := two_ready hF X hT X1 k1 q1 f1 X2 k2 q2 f2 hk24 e5 e6
          have fin : ∀ (h' : Heap) (m' : Str → Option Value) (tk : Nat) (D : List Addr), SR h₀ D μ2 F ⟨setR (setR ρ2 x r1) y r2, st2.n⟩ h' m' → (∀ b ∈ T, b ∈ D) → (∀ b o, b ≠ F.env.locals → b ∉ F.cells → h4.get? b = some o → h'.get? b = some o) →
              (∀ b o, h4.get? b = some o → ∃ o', h'.get? b = some o') → Q .next { s with heap := h', toks := tk } := fun h' m' tk D XD hD hkp hex => by
            refine KS .next μ2 m' h' tk .next (XD.less hD) ⟨fun b o p1 p2 p3 e => hkp b o p1 p2 (hk24 b o (k2.kept b o (fun q => p3 (k1.sub b q)) (k1.kept b o p3 e))), fun b hb => ?_, fun i hi => (k2.agree i (Nat.lt_of_lt_of_le hi k1.le)).trans (k1.agree i hi), Nat.le_trans k1.le k2.le, fun b o e => ?_⟩
            · rcases own_put_mem hb with z | ⟨i, us, er, z⟩
              · rcases own_put_mem z with z | ⟨i, us, er, z⟩
                · exact .inl (oo b z)
                · rw [z]; exact n1 i us er
              · rw [z]; exact n2 i us er
            · obtain ⟨o1, e1⟩ := k1.ex b o e
              obtain ⟨o2, e2⟩ := k2.ex b o1 e1
              exact hex b o2 (hk24 b o2 e2)
          refine ⟨?_, ?_⟩
          · exact put2 (s := { s with heap := h4, toks := tk4 }) hF hx hy Xb cc g1 g2 dd fun h' m' tk X' a b => fin h' m' tk _ X' tt a b
          · refine put2 (s := { s with heap := h4, toks := tk4 }) hF hy hx Xb cc g2 g1 (fun i us j vs a b => (dd j vs i us b a).symm) fun h' m' tk X' a b => fin h' m' tk _ (by rw [setR_comm hn]; exact X') (fun b hb => ?_) a b
            have := tt b hb
            refine drop_in (drop_in (drop_sub (drop_sub this)) fun i us er eq => ?_) fun i us er eq => ?_
            · subst er; have := (List.mem_filter.mp this).2; rw [eq] at this; simp at this
            · subst er; have := (List.mem_filter.mp (drop_sub this)).2; rw [eq] at this; simp at this
        rcases hw with hw | hw
        · refine Assign_Tuple (val _ fun w1 w2 t h3 tk ht hgo => ?_) hsw hw
          obtain ⟨ob, eo, co, n, dn⟩ := ht
          refine wpAny_assign_Tuple (items := #[w1, w2]) hr.1 ⟨ob, eo, co, n, dn⟩ rfl rfl fun h4 hx1 => ?_
          have hk1 : ∀ b ob, h3.get? b = some ob → h4.get? b = some ob := fun b ob e => hx1 b ob (Nat.ne_of_lt (Heap.lt_size e)) e
          refine assignInOrder_cons (wpAny_assign_Name (wpAny_mono (hgo h4 tk hk1).1 (fun _ s1 g => ?_) fun _ _ e => e))
          exact assignInOrder_cons (wpAny_assign_Name (wpAny_mono g (fun _ s2 g => assignInOrder_nil g) fun _ _ e => e))
        · refine Assign_Tuple_swapped (val _ fun w1 w2 t h3 tk ht hgo => ?_) hsw hw
          refine unpackItems_tuple (s := { s with heap := h3, toks := tk }) (items := #[w1, w2]) hr.1 ht fun h4 hx1 => ?_
          have hk1 : ∀ b ob, h3.get? b = some ob → h4.get? b = some ob := fun b ob e => hx1 b ob (Nat.ne_of_lt (Heap.lt_size e)) e
          refine assignInOrder_cons (wpAny_bindName (wpAny_mono (hgo h4 tk hk1).2 (fun _ s1 g => ?_) fun _ _ e => e))
          exact assignInOrder_cons (wpAny_bindName (wpAny_mono g (fun _ s2 g => assignInOrder_nil g) fun _ _ e => e))
      · cases he
    · cases he
  · cases he
end
end Mine

/-! part Sound25 -/
namespace Mine
open PySem PyProof.Rows PySem.SeqAt

inductive Hds (M W : List Addr) (μ : Nat → Addr) (h : Heap) (n : Nat) : List R → List Value → Prop
  | nil : Hds M W μ h n [] []
  | cons {r : R} {rs : List R} {w : Value} {ws : List Value} : Hd M W μ h n r w → Hds M W μ h n rs ws → Hds M W μ h n (r :: rs) (w :: ws)
noncomputable def Apart (μ : Nat → Addr) (r r' : R) : Prop := ∀ i us j vs, r = .own i us → r' = .own j vs → μ i ≠ μ j
noncomputable def asCp : List R → List Cp
  | [] => []
  | r :: rs => .r r :: asCp rs

section
variable {prog : Program} {w : World} {N : Nm} {P : Nat → Option Fn} {tab : Nat → Option V} {h₀ : Heap} {mg mb : Str → Option Value}
variable {A : Around} {E : Value → Shared → Prop} {T T' W W' W1 W2 M M' : List Addr} {μ μ' μ1 μ2 μ'' : Nat → Addr} {F : Sc} {m m' : Str → Option Value} {k n : Nat} {ev : Ev} {ρ ρ' ρ1 ρ2 : List R} {r r1 r2 : R} {rs : List R} {ws : List Value}
variable {s : Shared} {st st' st1 st2 st'' : St} {v : V} {o : Out} {h h' h1 h2 h3 h'' : Heap} {Q : Flow → Shared → Prop} {wv w1 w2 : Value} {ch : Addr} {c c1 c2 : Cp}

theorem Hds.less (q : Hds M W μ h n rs ws) (hM : ∀ b ∈ M', b ∈ M) (hW : ∀ b ∈ W, b ∈ W') : Hds M' W' μ h n rs ws := by
  induction q with
  | nil => exact .nil
  | cons a _ ih => exact .cons (a.less hM hW) ih
theorem Hd.grow (q : Hd M W μ h n r wv) (hk : ∀ b o, h.get? b = some o → h'.get? b = some o) : Hd M W μ h' n r wv := by
  cases q with
  | val r => exact .val (r.grow hk)
  | own hin pl ql hid => exact .own hin (pl.at fun o e => hk _ _ e) (ql.grow hk) hid
theorem Hds.grow (q : Hds M W μ h n rs ws) (hk : ∀ b o, h.get? b = some o → h'.get? b = some o) : Hds M W μ h' n rs ws := by
  induction q with
  | nil => exact .nil
  | cons a _ ih => exact .cons (a.grow hk) ih
theorem Hds.length (q : Hds M W μ h n rs ws) : ws.length = rs.length := by
  induction q with
  | nil => rfl
  | cons _ _ ih => exact congrArg Nat.succ ih

theorem Hds.inW (q : Hds M W μ h n rs ws) : ∀ r ∈ rs, ∀ i us, r = .own i us → μ i ∈ W := by
  induction q with
  | nil => intro r hr; cases hr
  | cons a _ ih =>
    intro r hr i us er
    rcases List.mem_cons.mp hr with z | z
    · subst z; subst er; cases a with | own hin _ _ _ => exact hin
    · exact ih r z i us er
theorem Hds.put (q : Hd (Mx W F μ ρ) W μ h n r wv) (qs : Hds (Mx W F μ ρ) W μ h n rs ws) (X : SR h₀ W μ F ⟨ρ, n⟩ h m) (hc : ∀ c ∈ F.cells, c ∉ W) {x : Nat} (p : Put F h h' m m' x wv ch) (hd : ∀ r' ∈ rs, Apart μ r r') :
    Hds (Mx (drop μ r W) F μ (setR ρ x r)) (drop μ r W) μ h' n rs ws := by
  induction qs with
  | nil => exact .nil
  | cons a _ ih => exact .cons (Hd.put q a X hc p (hd _ (.head _))) (ih fun r' h' => hd r' (.tail _ h'))

theorem comps_cons {x : X} {xs : Xs} {cs : List Cp} (hx : freshX x = true) (h : comps ev (.cons x xs) st = some (cs, st')) :
    ∃ r st1 cs', comp1 ev x st = some (.r r, st1) ∧ comps ev xs st1 = some (cs', st') ∧ cs = .r r :: cs' := by
  obtain ⟨c, st1, cs', e1, e2, rfl⟩ := comps_step h
  have hc : ∃ r, c = .r r := by
    unfold comp1 at e1
    split at e1
    · cases hx
    · split at e1
      · split at e1
        cases e1
        exact ⟨_, rfl⟩
      · cases e1
  obtain ⟨r, rfl⟩ := hc
  exact ⟨r, st1, cs', e1, e2, rfl⟩

theorem snd_fresh (S : Snd prog w N P h₀ mg k ev) (hr : Room A k) (hF : FOk F) : ∀ (es : List Expr) {xs : Xs} {pos : Pos} {s : Shared} {T : List Addr} {μ : Nat → Addr} {st st' : St} {cs : List Cp} {Q : List Value → Shared → Prop}, CEs N F.env.scope F.ns es xs → allFresh xs = true →
    comps ev xs st = some (cs, st') → SR h₀ T μ F st s.heap m →
    (∀ ws rs μ' W h' tk, ws.length = es.length → cs = asCp rs → SR h₀ (W ++ T) μ' F st' h' m → CK μ μ' st st' s.heap h' → Hds (Mx (W ++ T) F μ' st'.r) W μ' h' st'.n rs ws → rs.Pairwise (Apart μ') → (∀ a ∈ W, s.heap.get? a = none) → Q ws { s with heap := h', toks := tk }) →
    wpAny (model prog w) A (spliced (backTo pos (starEach es F.env))) Q E s
  | [], _, pos, s, T, μ, st, st', cs, Q, hc, hf, he, X, K => by
    cases hc
    cases he
    exact args_nil (K [] [] μ [] _ _ rfl rfl X ⟨fun _ _ _ e => e, fun _ h => h, fun _ _ => rfl, Nat.le_refl _, fun _ o e => ⟨o, e⟩⟩ .nil .nil fun _ h => nomatch h)
  | e :: es, _, pos, s, T, μ, st, st', cs, Q, hc, hf, he, X, K => by
    cases hc with
    | cons d1 d2 =>
      unfold allFresh at hf
      split at hf
      · rename_i hfx
        obtain ⟨r1, st1, cs', e1, e2, rfl⟩ := comps_cons hfx he
        refine args_cons (snd_comp1 S hr hF X d1 e1 fun w1 μ1 W1 h1 tk1 X1 k1 q1 f1 => ?_) (star_no d1 _ _)
        refine snd_fresh S hr hF es (s := { s with heap := h1, toks := tk1 }) d2 hf e2 X1 fun ws rs μ2 W2 h2 tk2 hl2 ec X2 k2 q2 pw f2 => ?_
        have f2 : ∀ a ∈ W2, h1.get? a = none := f2
        have k2 : CK μ1 μ2 st1 st' h1 h2 := k2
        have q1' := q1.lift (W' := W2) X1 (fun b hb => List.mem_append_left _ hb) k2 f2
        have hd1 : Hd (Mx (W2 ++ (W1 ++ T)) F μ2 st'.r) W1 μ2 h2 st'.n r1 w1 := by
          cases q1' with
          | val r => exact .val r
          | own hin pl ql hid => exact .own hin pl ql hid
        have f2' : ∀ a ∈ W2, s.heap.get? a = none := fun a ha => by
          cases e : s.heap.get? a with
          | none => rfl
          | some o => obtain ⟨o', e'⟩ := k1.ex a o e; rw [f2 a ha] at e'; cases e'
        have hass : (W2 ++ W1) ++ T = W2 ++ (W1 ++ T) := List.append_assoc ..
        refine K (w1 :: ws) (r1 :: rs) μ2 (W2 ++ W1) h2 tk2 (congrArg Nat.succ hl2) (by rw [ec]; rfl) (by rw [hass]; exact X2) ?_ ?_ ?_ ?_
        · exact ⟨fun b o hb e => k2.kept b o (fun q => hb (k1.sub b q)) (k1.kept b o hb e), fun b hb => k1.sub b (k2.sub b hb), fun i hi => (k2.agree i (Nat.lt_of_lt_of_le hi k1.le)).trans (k1.agree i hi), Nat.le_trans k1.le k2.le,
            fun b o e => let ⟨o1, e1⟩ := k1.ex b o e; k2.ex b o1 e1⟩
        · rw [hass]
          exact .cons (hd1.less (fun _ h => h) fun b hb => List.mem_append_right _ hb) (q2.less (fun _ h => h) fun b hb => List.mem_append_left _ hb)
        · refine List.Pairwise.cons (fun r' hr' => ?_) pw
          intro i us j vs er er' eq
          subst er er'
          have hi : μ2 i ∈ W1 := by cases hd1 with | own hin _ _ _ => exact hin
          have hj : μ2 j ∈ W2 := q2.inW _ hr' j vs rfl
          obtain ⟨ob, eo⟩ := X1.ex _ (List.mem_append_left T hi)
          rw [eq, f2 _ hj] at eo; cases eo
        · intro a ha
          rcases List.mem_append.mp ha with q | q
          · exact f2' a q
          · exact f1 a q
      · cases hf

theorem resolve_fresh : ∀ {rs rs' : List R} {ρ ρ' : List R}, resolve (asCp rs) ρ = some (rs', ρ') → rs' = rs ∧ ρ' = ρ
  | [], _, _, _, h => by cases h; exact ⟨rfl, rfl⟩
  | r :: rs, _, _, _, h => by
    unfold asCp resolve at h
    split at h
    · rename_i rs' ρ1 e
      cases h
      obtain ⟨rfl, rfl⟩ := resolve_fresh e
      exact ⟨rfl, rfl⟩
    · cases h

theorem putN (hF : FOk F) : ∀ (es : List Expr) {nms : List Str} {xs : List Nat} {rs : List R} {ws : List Value} {W : List Addr} {ρ ρ' : List R} {s : Shared} {m : Str → Option Value} {Q : Unit → Shared → Prop}, CNm F.ns es nms xs → putAll xs rs ρ = some ρ' → SR h₀ W μ F ⟨ρ, n⟩ s.heap m →
    (∀ c ∈ F.cells, c ∉ W) → Hds (Mx W F μ ρ) W μ s.heap n rs ws → rs.Pairwise (Apart μ) → (∀ b ∈ T, b ∈ W ∧ ∀ r ∈ rs, ∀ i us, r = .own i us → b ≠ μ i) →
    (∀ h' m' tk, SR h₀ T μ F ⟨ρ', n⟩ h' m' → (∀ b o, b ≠ F.env.locals → b ∉ F.cells → s.heap.get? b = some o → h'.get? b = some o) → (∀ b o, s.heap.get? b = some o → ∃ o', h'.get? b = some o') →
      (∀ b ∈ ownA μ ρ', b ∈ ownA μ ρ ∨ ∃ r ∈ rs, ∃ i us, r = .own i us ∧ b = μ i) → Q () { s with heap := h', toks := tk }) →
    wpAny (model prog w) A (assignInOrder ((assignEach es F.env).map (·.2)) ws) Q E s
  | [], _, _, rs, ws, W, ρ, ρ', s, m, Q, hc, he, X, hcc, q, pw, hT, K => by
    cases hc
    cases rs with
    | nil =>
      cases he
      cases q
      exact assignInOrder_nil (K _ _ _ (X.less fun b hb => (hT b hb).1) (fun _ _ _ _ e => e) (fun _ o e => ⟨o, e⟩) fun b hb => .inl hb)
    | cons _ _ => cases he
  | e :: es, _, _, rs, ws, W, ρ, ρ', s, m, Q, hc, he, X, hcc, q, pw, hT, K => by
    cases hc with
    | cons hx hc =>
      rename_i nm p nms x xs
      cases rs with
      | nil => cases he
      | cons r rs =>
        cases q with
        | cons q qs =>
          refine assignInOrder_cons (wpAny_assign_Name (store_name hF X hx fun h1 m1 ch tk1 p1 => ?_))
          have X1 := put1 X hcc q hx p1
          have hp := List.pairwise_cons.mp pw
          have qs' := Hds.put q qs X hcc p1 hp.1
          refine putN hF es (s := { s with heap := h1, toks := tk1 }) (W := drop μ r W) hc he X1 (fun c h1 h2 => hcc c h1 (drop_sub h2)) qs' hp.2 (fun b hb => ⟨drop_in (hT b hb).1 fun i us er => (hT b hb).2 r (.head _) i us er, fun r' h' => (hT b hb).2 r' (.tail _ h')⟩) fun h2 m2 tk2 X2 k2 x2 o2 => ?_
          refine K _ _ _ X2 (fun b o z1 z2 e => k2 b o z1 z2 (p1.kept b o (fun z => ?_) e)) (fun b o e => ?_) fun b hb => ?_
          · rcases p1.at' with y1 | ⟨c, y1, ec⟩
            · exact z1 (z.trans y1)
            · exact z2 (by rw [z, y1]; exact cellsL_mem ec)
          · obtain ⟨o', e'⟩ := p1.ex X b o e
            exact x2 b o' e'
          · rcases o2 b hb with z | ⟨r', h', i, us, er, z⟩
            · rcases own_put_mem z with z | ⟨i, us, er, z⟩
              · exact .inl z
              · exact .inr ⟨r, .head _, i, us, er, z⟩
            · exact .inr ⟨r', .tail _ h', i, us, er, z⟩

theorem s_asgN (S : Snd prog w N P h₀ mg k ev) (hr : Room A k) (hF : FOk F) (X : SR h₀ T μ F st s.heap m) (hT : ∀ c ∈ F.cells, c ∉ T) {elts vals : List Expr} {kk kk' : Nat} {tp vp pos : Pos} {nms : List Str} {xs : List Nat} {cs : Xs} (ht : CNm F.ns elts nms xs) (hl : vals.length ≤ 1000) (hf : allFresh cs = true)
    (hsw : swapsWithSole [.Tuple elts kk tp] (.Tuple vals kk' vp) pos.line F.env = pure false) (hw : swappedStores [.Tuple elts kk tp] (.Tuple vals kk' vp) F.env = pure none) (ce : CEs N F.env.scope F.ns vals cs) (he : stmtStep ev (.asgT xs cs) st = some (o, st'))
    (KS : ∀ fl μ' m' h' tk, OutR (Mx T F μ' st'.r) h' o fl → SR h₀ T μ' F st' h' m' → SK μ μ' F st st' s.heap h' → Q fl { s with heap := h', toks := tk }) : wpAny (model prog w) A (exec (.Assign [.Tuple elts kk tp] (.Tuple vals kk' vp) pos) F.env) Q E s := by
  simp only [stmtStep] at he
  split at he
  · rename_i cps st1 e1
    split at he
    · rename_i rs0 ρ0 e2
      split at he
      · rename_i ρ1 e3
        cases he
        refine Assign_Tuple ?_ hsw hw
        refine Tuple_ (snd_fresh S hr hF vals ce hf e1 X fun ws rs μ1 W h1 tk1 hwl ec X1 k1 q1 pw f1 => ?_)
        subst ec
        obtain ⟨er, eρ⟩ := resolve_fresh e2
        subst er eρ
        have hlen : xs.length = ws.length := by
          rw [q1.length]
          clear pw q1 KS e2 e1 X1 k1
          have : ∀ {xs : List Nat} {rs : List R} {ρ ρ1 : List R}, putAll xs rs ρ = some ρ1 → xs.length = rs.length := by
            intro xs
            induction xs with
            | nil => intro rs ρ ρ1 h; cases rs with | nil => rfl | cons _ _ => cases h
            | cons _ _ ih => intro rs ρ ρ1 h; cases rs with | nil => cases h | cons _ _ => exact congrArg Nat.succ (ih h)
          exact this e3
        refine wpAny_newTuple ?_ (by rw [sizeLine_eq]; omega)
        have hk2 := push_keeps h1 { cls := .type "tuple", data := .seq ws.toArray }
        refine wpAny_assign_Tuple (items := ws.toArray) hr.1 ⟨_, Heap.get?_push_size _ rfl, rfl, 0, rfl⟩ (by rw [(names_len ht F.env).1, List.size_toArray]; exact hlen) (names_len ht F.env).2 fun h2 hx2 => ?_
        have hk : ∀ b ob, h1.get? b = some ob → h2.get? b = some ob := fun b ob e => hx2 b ob (Nat.ne_of_lt (Heap.lt_size (hk2 b ob e))) (hk2 b ob e)
        have X2 : SR h₀ (W ++ T) μ1 F ⟨st1.r, st1.n⟩ h2 m := X1.grow hk
        have hinW := q1.inW
        refine putN (s := { s with heap := h2, toks := tk1 }) (W := W ++ T) (T := T) hF elts ht e3 X2 (fun c hc hm => ?_) ((q1.less (fun _ h => h) fun b hb => List.mem_append_left _ hb).grow hk) pw (fun b hb => ⟨List.mem_append_right _ hb, fun r hr i us er eq => ?_⟩) fun h3 m3 tk3 X3 k3 x3 o3 => ?_
        · rcases List.mem_append.mp hm with z | z
          · obtain ⟨ob, w', e, _⟩ := X.cell_ex hc
            rw [f1 c z] at e; cases e
          · exact hT c hc z
        · obtain ⟨ob, e⟩ := X.ex b hb
          rw [eq, f1 _ (hinW r hr i us er)] at e; cases e
        · refine KS .next μ1 m3 h3 tk3 .next X3 ⟨fun b ob p1 p2 p3 e => k3 b ob p1 p2 (hk b ob (k1.kept b ob p3 e)), fun b hb => ?_, k1.agree, k1.le, fun b ob e => ?_⟩
          · rcases o3 b hb with z | ⟨r, hr, i, us, er, z⟩
            · exact .inl (k1.sub b z)
            · rw [z]; exact .inr (f1 _ (hinW r hr i us er))
          · obtain ⟨o1, e1⟩ := k1.ex b ob e
            exact x3 b o1 (hk b o1 e1)
      · cases he
    · cases he
  · cases he
end
end Mine

/-! part Sound23 -/
namespace Mine
open PySem PyProof.Rows PySem.SeqAt

section
variable {prog : Program} {w : World} {N : Nm} {P : Nat → Option Fn} {tab : Nat → Option V} {h₀ : Heap} {mg mb : Str → Option Value}
variable {k : Nat} {ev : Ev}

theorem up_s (G : GOk N P tab h₀ mg mb) (S : Snd prog w N P h₀ mg k ev) : SndS prog w N h₀ k (stmtStep ev) := by
  intro A E s T μ F st st' m x c o Q hc he hr hF X hT KS
  cases hc with
  | asg hx hsw ce => exact s_asg S hr hF X hT hx (hsw _ rfl) ce he KS
  | asgC hx hl hsw ce => exact s_asgC S hr hF X hT hx hl (hsw _ rfl) ce he KS
  | asgT hx hy hn hsw hw d1 d2 => exact s_asgT S hr hF X hT hx hy hn (hsw _ rfl) (hw _ rfl) d1 d2 he KS
  | asgN ht hl hf hsw hw ce => exact s_asgN S hr hF X hT ht hl hf (hsw _ rfl) (hw _ rfl) ce he KS
  | asgU ht hn hsw hw ce => exact s_asgU S hr hF X hT ht (hsw _ rfl) (hw _ rfl) ce he KS
  | setI hx hsw c1 c2 => exact s_setI S hr hF X hx (hsw _ rfl) c1 c2 he KS
  | app hx hp ce => exact s_app S hr hF X hx hp ce he KS
  | aug hx ce => exact s_aug S hr hF X hT hx ce he KS
  | ite c1 c2 c3 => exact s_ite S hr hF X hT c1 c2 c3 he KS
  | loop c1 c2 => exact s_loop S hr hF X hT c1 c2 he KS
  | each hen htg hsrc c2 => exact s_each G S hr hF X hT hen htg hsrc c2 he KS
  | ret ce => exact s_ret S hr hF X ce he KS
  | raise => cases he

theorem up_b (G : GOk N P tab h₀ mg mb) (S : Snd prog w N P h₀ mg k ev) : SndB prog w N h₀ (k + 1) (blockStep ev) := by
  intro A E s T μ F st st' m ss c o Q hc he hr hF X hT KS
  have hr := hr.less (Nat.le_succ k)
  cases hc with
  | nil => cases he; exact wpAny_execs_nil (KS _ _ _ _ _ .next X .refl)
  | cons c1 c2 =>
    unfold blockStep at he
    simp only at he
    split at he
    · rename_i st1 e1
      refine wpAny_execs_cons (up_s G S c1 e1 hr hF X hT fun fl μ1 m1 h1 tk1 r1 X1 k1 => ?_)
      cases r1
      exact S.b (s := { s with heap := h1, toks := tk1 }) c2 he hr hF X1 hT fun fl μ2 m2 h2 tk2 r2 X2 k2 => KS _ _ _ _ _ r2 X2 (k1.trans k2)
    · rename_i v st1 e1
      cases he
      refine wpAny_execs_cons (up_s G S c1 e1 hr hF X hT fun fl μ1 m1 h1 tk1 r1 X1 k1 => ?_)
      cases r1 with
      | ret r1 => exact KS _ _ _ _ _ (.ret r1) X1 k1
    · cases he
end
end Mine

/-! part Sound24 -/
namespace Mine
open PySem PyProof.Rows PySem.SeqAt

theorem bindL_not {kd : Str → Option NameKind} {nm : Str} : ∀ {bs : List (Str × Value)} {m : Str → Option Value}, (∀ y ∈ bs, y.1 ≠ nm) → bindL kd bs m nm = m nm
  | [], _, _ => rfl
  | (n, v) :: r, m, h => by
    unfold bindL
    rw [bindL_not fun y hy => h y (.tail _ hy)]
    have hn : n ≠ nm := h _ (.head _)
    split
    · show (if nm = n then _ else _) = _
      rw [if_neg (Ne.symm hn)]
    · rfl
theorem bindC_not {kd : Str → Option NameKind} {nm : Str} : ∀ {bs : List (Str × Value)} {m : Str → Option Value}, (∀ y ∈ bs, y.1 ≠ nm) → bindC kd bs m nm = m nm
  | [], _, _ => rfl
  | (n, v) :: r, m, h => by
    unfold bindC
    rw [bindC_not fun y hy => h y (.tail _ hy)]
    have hn : n ≠ nm := h _ (.head _)
    split
    · rfl
    · show (if nm = n then _ else _) = _
      rw [if_neg (Ne.symm hn)]
theorem zip_fst {nm : Str} : ∀ {ns : List Str} {vs : List Value}, nm ∉ ns → ∀ y ∈ ns.zip vs, y.1 ≠ nm
  | [], _, _, _, hy => by rw [List.zip_nil_left] at hy; cases hy
  | _ :: _, [], _, _, hy => by rw [List.zip_nil_right] at hy; cases hy
  | n :: ns, v :: vs, h, y, hy => by
    rcases List.mem_cons.mp hy with q | q
    · rw [q]; exact fun e => h (e ▸ .head _)
    · exact zip_fst (fun hm => h (.tail _ hm)) y q
theorem bindL_in {kd : Str → Option NameKind} {nm : Str} (hk : kd nm = some .local) : ∀ {ns : List Str} {vs : List Value} {m : Str → Option Value} {i : Nat} {v : Value}, ns.Nodup → getL ns i = some nm → getL vs i = some v → bindL kd (ns.zip vs) m nm = some v
  | [], _, _, _, _, _, h, _ => nomatch h
  | _ :: _, [], _, _, _, _, _, h => nomatch h
  | n :: ns, u :: us, m, 0, v, hn, h1, h2 => by
    cases h1; cases h2
    rw [List.zip_cons_cons]
    unfold bindL
    rw [bindL_not (zip_fst (List.nodup_cons.mp hn).1), if_pos hk]
    simp
  | n :: ns, u :: us, m, i + 1, v, hn, h1, h2 => by
    rw [List.zip_cons_cons]
    unfold bindL
    exact bindL_in hk (List.nodup_cons.mp hn).2 h1 h2
theorem bindC_in {kd : Str → Option NameKind} {nm : Str} (hk : ¬ kd nm = some .local) : ∀ {ns : List Str} {vs : List Value} {m : Str → Option Value} {i : Nat} {v : Value}, ns.Nodup → getL ns i = some nm → getL vs i = some v → bindC kd (ns.zip vs) m nm = some v
  | [], _, _, _, _, _, h, _ => nomatch h
  | _ :: _, [], _, _, _, _, _, h => nomatch h
  | n :: ns, u :: us, m, 0, v, hn, h1, h2 => by
    cases h1; cases h2
    rw [List.zip_cons_cons]
    unfold bindC
    rw [bindC_not (zip_fst (List.nodup_cons.mp hn).1), if_neg hk]
    simp
  | n :: ns, u :: us, m, i + 1, v, hn, h1, h2 => by
    rw [List.zip_cons_cons]
    unfold bindC
    exact bindC_in hk (List.nodup_cons.mp hn).2 h1 h2
theorem getL_take {α : Type} : ∀ {l : List α} {n i : Nat} {v : α}, i < n → getL l i = some v → getL (l.take n) i = some v
  | _ :: _, _ + 1, 0, _, _, h => h
  | _ :: l, n + 1, i + 1, _, hi, h => getL_take (l := l) (Nat.lt_of_succ_lt_succ hi) h
  | [], _, _, _, _, h => nomatch h
  | _ :: _, 0, _, _, hi, _ => absurd hi (Nat.not_lt_zero _)
theorem getL_map {α β : Type} {f : α → β} : ∀ {l : List α} {i : Nat} {w : β}, getL (l.map f) i = some w → ∃ v, getL l i = some v ∧ w = f v
  | _ :: _, 0, _, h => by cases h; exact ⟨_, rfl, rfl⟩
  | _ :: l, i + 1, _, h => getL_map (l := l) h
  | [], _, _, h => nomatch h

/-- the cells of a function's names -/
noncomputable def cellOf (sc : Scope) (cl : List (Str × Addr)) (nm : Str) : Option Addr := if sc.names.lookup nm = some .cell then cl.lookup nm else none

theorem cells_nd {sc : Scope} {cl : List (Str × Addr)} (ap : cl.Pairwise fun x y => x.2 ≠ y.2) : ∀ {ns : List Str}, ns.Nodup → (cellsL (ns.map (cellOf sc cl))).Nodup ∧ ∀ c ∈ cellsL (ns.map (cellOf sc cl)), ∃ nm ∈ ns, sc.names.lookup nm = some .cell ∧ cl.lookup nm = some c
  | [], _ => ⟨List.nodup_nil, fun _ h => nomatch h⟩
  | n :: ns, hn => by
    obtain ⟨i1, i2⟩ := cells_nd (sc := sc) ap (List.nodup_cons.mp hn).2
    rw [List.map_cons]
    cases e : cellOf sc cl n with
    | none => exact ⟨i1, fun c hc => let ⟨nm, h1, h2⟩ := i2 c hc; ⟨nm, .tail _ h1, h2⟩⟩
    | some c =>
      have hc : sc.names.lookup n = some .cell ∧ cl.lookup n = some c := by
        unfold cellOf at e
        split at e
        · rename_i h; exact ⟨h, e⟩
        · cases e
      refine ⟨List.nodup_cons.mpr ⟨fun hm => ?_, i1⟩, fun c' hc' => ?_⟩
      · obtain ⟨nm, h1, _, h3⟩ := i2 c hm
        have := name_of_addr ap (mem_of_lookup hc.2) (mem_of_lookup h3)
        exact (List.nodup_cons.mp hn).1 (this ▸ h1)
      · rcases List.mem_cons.mp hc' with q | q
        · rw [q]; exact ⟨n, .head _, hc⟩
        · obtain ⟨nm, h1, h2⟩ := i2 c' q
          exact ⟨nm, .tail _ h1, h2⟩

section
variable {prog : Program} {w : World} {N : Nm} {P : Nat → Option Fn} {tab : Nat → Option V} {h₀ : Heap} {mg mb : Str → Option Value}
variable {k : Nat} {ev : Ev} {A : Around} {E : Value → Shared → Prop} {s : Shared} {M : List Addr} {Q : Value → Shared → Prop}

/-- the opening of a call -/
theorem enter (G : GOk N P tab h₀ mg mb) {f : Nat} {fn : Fn} {fa : Addr} {o : Obj} {fd : FuncData} {body : List Stmt} {ns : List Str} (fo : FnOk N h₀ mg f fn fa o fd body ns) (hr : Room A (k + 1)) (D : Shd h₀ M s.heap) {ws : List Value} (hlen : ws.length = fn.np)
    (K : ∀ F h1 tk1 m (E' : Value → Shared → Prop), FOk F → F.env.scope = fd.scope → F.ns = ns → Room (A.deeper F.env) k → (∀ b o, s.heap.get? b = some o → h1.get? b = some o) → h1.Ns F.env.locals m → (∀ c ∈ F.cells, ∃ w, h1.IsCell c w) →
      s.heap.get? F.env.locals = none → (∀ c ∈ F.cells, s.heap.get? c = none) → (∀ x nm c wv, getL ns x = some nm → getL F.cs x = some c → getL ws x = some wv → slot h1 m nm c = some wv) →
      wpAny (model prog w) (A.deeper F.env) (execs body F.env) (fun fl s' => Q (match fl with | .ret v => v | _ => .none) s') E' { s with heap := h1, toks := tk1 }) :
    wpAny (model prog w) A (call (.ref fa) ws) Q E s := by
  have ho := D.base _ _ fo.ho
  refine wpAny_call (codeAny_call_function (by have := hr.2.1; omega) ho fo.hd fo.co fo.gen fo.hbody (fo.code.keeps D.base) (wpAny_of_eq (fo.bind ws hlen) ?_))
  rw [fo.closure, fo.globals, fo.builtins]
  have hzn : ∀ y ∈ (ns.take fn.np).zip ws, y.1 ∈ ns := fun y hy => List.mem_of_mem_take (List.of_mem_zip hy).1
  refine wpAny_newFunctionEnv_cells fo.kind (fun y hy => ?_) fun env he s' x => ?_
  · rcases fo.lc _ (hzn y hy) with q | q
    · exact .inl q
    · exact .inr ⟨q, fo.cells _ _ q⟩
  have hsc : env.scope = fd.scope := by rw [he]; rfl
  have hko : ∀ nm, env.kindOf nm = fd.scope.names.lookup nm := fun nm => by rw [he]; rfl
  have hcl : env.cells = cellsFrom (s.heap.objs.size + 1) fd.scope.names [] := by rw [he]; rfl
  obtain ⟨h1, tk1, rfl, hk1⟩ := x.done
  refine ⟨G.nl.keeps fun b o e => hk1 b o (D.base b o e), codeAny_func ?_⟩
  obtain ⟨nd1, nd2⟩ := cells_nd (sc := fd.scope) x.apart fo.nd
  have hcell : ∀ nm, fd.scope.names.lookup nm = some .cell → ∃ c, env.cells.lookup nm = some c := fun nm q => by
    have := fo.cells (s.heap.objs.size + 1) nm q
    rw [← hcl] at this
    exact Option.isSome_iff_exists.mp this
  have hF : FOk ⟨env, ns, ns.map (cellOf fd.scope env.cells)⟩ := by
    refine ⟨by rw [hsc]; exact fo.kind, List.length_map _, fo.nd, nd1, fun y nm e1 e2 => ?_, fun y nm c e1 e2 => ?_, by rw [he]; rfl, by rw [he]; rfl, fun y nm e => fo.dbg nm (getL_mem e)⟩
    · obtain ⟨nm', e3, e4⟩ := getL_map e2
      have e1 : getL ns y = some nm := e1
      rw [e1] at e3; cases e3
      rw [hko]
      rcases fo.lc nm (getL_mem e1) with q | q
      · exact q
      · obtain ⟨c, hc⟩ := hcell nm q
        unfold cellOf at e4
        rw [if_pos q, hc] at e4; cases e4
    · obtain ⟨nm', e3, e4⟩ := getL_map e2
      have e1 : getL ns y = some nm := e1
      rw [e1] at e3; cases e3
      rw [hko]
      unfold cellOf at e4
      split at e4
      · rename_i q; exact ⟨q, e4.symm⟩
      · cases e4
  refine K ⟨env, ns, ns.map (cellOf fd.scope env.cells)⟩ h1 tk1 _ _ hF hsc rfl (hr.deeper _) hk1 x.toInCall.ns (fun c hc => ?_) ?_ (fun c hc => ?_) fun y nm c wv e1 e2 e3 => ?_
  · obtain ⟨nm, _, _, h3⟩ := nd2 c hc
    exact ⟨_, x.cell nm c h3⟩
  · cases e : s.heap.get? env.locals with
    | none => rfl
    | some o => exact absurd (Heap.lt_size e) (Nat.not_lt.mpr x.toInCall.fresh)
  · obtain ⟨nm, _, _, h3⟩ := nd2 c hc
    have := x.above nm c (mem_of_lookup h3)
    cases e : s.heap.get? c with
    | none => rfl
    | some o => exact absurd (Heap.lt_size e) (Nat.not_lt.mpr (Nat.le_trans x.toInCall.fresh (Nat.le_of_lt this)))
  · obtain ⟨nm', e4, e5⟩ := getL_map e2
    rw [e1] at e4; cases e4
    have hyn : y < fn.np := by rw [← hlen]; exact getL_lt e3
    have hnd : (ns.take fn.np).Nodup := fo.nd.sublist (List.take_sublist _ _)
    have hgt := getL_take hyn e1
    cases c with
    | none =>
      have hl : fd.scope.names.lookup nm = some .local := by
        rcases fo.lc nm (getL_mem e1) with q | q
        · exact q
        · obtain ⟨c, hc⟩ := hcell nm q
          unfold cellOf at e5
          rw [if_pos q, hc] at e5; cases e5
      exact bindL_in (by rw [hko]; exact hl) hnd hgt e3
    | some c =>
      unfold cellOf at e5
      split at e5
      · rename_i q
        have hb := bindC_in (kd := env.kindOf) (nm := nm) (m := fun _ => none) (by rw [hko, q]; exact fun z => nomatch z) hnd hgt e3
        have := x.cell nm c e5.symm
        rw [hb] at this
        exact slot_cell this
      · cases e5

theorem vals_get : ∀ {vs : List V} {d : List R} {i : Nat}, i < vs.length → ∃ v, getL vs i = some v ∧ getR (valsOf vs ++ d) i = .val v
  | v :: _, _, 0, _ => ⟨v, rfl, rfl⟩
  | _ :: vs, d, i + 1, h => vals_get (vs := vs) (d := d) (Nat.lt_of_succ_lt_succ h)
  | [], _, _, h => absurd h (Nat.not_lt_zero _)
theorem vals_rest : ∀ {vs : List V} {n i : Nat}, vs.length ≤ i → getR (valsOf vs ++ deads n) i = .dead
  | [], 0, _, _ => rfl
  | [], _ + 1, 0, _ => rfl
  | [], n + 1, i + 1, _ => vals_rest (vs := []) (n := n) (i := i) (Nat.zero_le _)
  | _ :: vs, n, i + 1, h => vals_rest (vs := vs) (Nat.le_of_succ_le_succ h)
  | _ :: _, _, 0, h => absurd h (Nat.not_succ_le_zero _)
theorem vals_own {μ : Nat → Addr} : ∀ {vs : List V} {n : Nat}, ownA μ (valsOf vs ++ deads n) = []
  | [], 0 => rfl
  | [], n + 1 => vals_own (vs := []) (n := n)
  | _ :: vs, n => vals_own (vs := vs) (n := n)
theorem vals_len : ∀ {vs : List V} {n : Nat}, (valsOf vs ++ deads n).length = vs.length + n
  | [], 0 => rfl
  | [], n + 1 => by show (valsOf [] ++ deads n).length + 1 = _; rw [vals_len]; simp
  | _ :: vs, n => by show (valsOf vs ++ deads n).length + 1 = _; rw [vals_len]; simp; omega

theorem VRs.at {M : List Addr} {h : Heap} : ∀ {vs : List V} {ws : List Value}, VRs M h vs ws → ∀ {k : Nat} {v : V}, getL vs k = some v → ∃ w, getL ws k = some w ∧ VR M h v w
  | _, _, .cons a _, 0, _, e => by cases e; exact ⟨_, rfl, a⟩
  | _, _, .cons _ as, k + 1, _, e => VRs.at as (k := k) e
  | _, _, .nil, _, _, e => nomatch e

theorem up_c (G : GOk N P tab h₀ mg mb) (S : Snd prog w N P h₀ mg k ev) : SndC prog w N h₀ mg (k + 1) (callStep ev P fun _ _ => none) := by
  intro A E s M f vs ws v fa Q he hr hg hv D K
  unfold callStep at he
  simp only at he
  split at he
  · rename_i fn hfn
    split at he
    · rename_i hnp
      have hnp := Nat.eq_of_beq_eq_true hnp
      obtain ⟨fa', o, fd, body, ns, fo⟩ := G.fns _ _ hfn
      have := fo.g
      rw [hg] at this; cases this
      have hwl := hv.length
      refine enter G fo hr D (by rw [hwl]; exact hnp) fun F h1 tk1 m E' hF hsc hns hr' hk1 hN hC hL0 hC0 hsl => ?_
      have hown : ownA (fun _ => 0) (valsOf vs ++ deads (fn.nv - fn.np)) = [] := vals_own
      have hcM : ∀ c ∈ F.cells, c ∉ M := fun c hc hm => by obtain ⟨o, e⟩ := D.ex c hm; rw [hC0 c hc] at e; cases e
      have hLM : F.env.locals ∉ M := fun hm => by obtain ⟨o, e⟩ := D.ex _ hm; rw [hL0] at e; cases e
      have old0 : ∀ b, s.heap.get? b = none → h₀.get? b = none := fun b e => by
        cases e' : h₀.get? b with
        | none => rfl
        | some o => rw [D.base b o e'] at e; cases e
      have hst : Step M s.heap (Mx M F (fun _ => 0) (valsOf vs ++ deads (fn.nv - fn.np))) h1 := fun b o hb e => ⟨hk1 b o e, fun hm => by
        rcases mem_Mx.mp hm with q | q | q | q
        · rw [q, hL0] at e; cases e
        · rw [hC0 b q] at e; cases e
        · exact hb q
        · rw [hown] at q; cases q⟩
      have X : SR h₀ M (fun _ => 0) F ⟨valsOf vs ++ deads (fn.nv - fn.np), 0⟩ h1 m := by
        refine { ns := hN, cel := hC, var := fun y nm c e1 e2 => ?_, nd := (by show (ownA _ _).Nodup; rw [hown]; exact List.nodup_nil), disj := fun a ha => (by have ha : a ∈ ownA _ _ := ha; rw [hown] at ha; cases ha), LT := hLM, ids := fun y id us e => ?_, ex := fun a ha => let ⟨o, e⟩ := D.ex a ha; ⟨o, hk1 a o e⟩, base := fun b o e => hk1 b o (D.base b o e), fr := fun a ha => ?_, len := ?_ }
        · rw [hns] at e1
          show RV _ _ _ (getR (valsOf vs ++ deads (fn.nv - fn.np)) y) _
          by_cases hy : y < vs.length
          · obtain ⟨u, g1, g2⟩ := vals_get (d := deads (fn.nv - fn.np)) hy
            obtain ⟨wu, g3, g4⟩ := hv.at g1
            rw [g2, hsl y nm c wu e1 e2 g3]
            exact .val (g4.step hst)
          · rw [vals_rest (Nat.not_lt.mp hy)]; exact .dead
        · have e : getR (valsOf vs ++ deads (fn.nv - fn.np)) y = .own id us := e
          have := own_get (μ := fun _ => 0) e
          rw [hown] at this; cases this
        · rcases mem_Mx.mp ha with q | q | q | q
          · rw [q]; exact old0 _ hL0
          · exact old0 _ (hC0 a q)
          · exact D.fr a q
          · rw [show ownA (fun _ => (0 : Nat)) (St.mk (valsOf vs ++ deads (fn.nv - fn.np)) 0).r = [] from hown] at q; cases q
        · show (valsOf vs ++ deads (fn.nv - fn.np)).length = _
          have := fo.np
          rw [vals_len, hns, fo.nv, hnp]; omega
      have fin : ∀ (o : Out) (st' : St), ev.b fn.body ⟨valsOf vs ++ deads (fn.nv - fn.np), 0⟩ = some (o, st') → (match o with | .ret u => u = v | .next => v = .none) →
          wpAny (model prog w) (A.deeper F.env) (execs body F.env) (fun fl s' => Q (match fl with | .ret v => v | _ => .none) s') E' { s with heap := h1, toks := tk1 } := fun o st' e1 ho => by
        refine S.b (s := { s with heap := h1, toks := tk1 }) (by rw [hsc, hns]; exact fo.rel) e1 hr' hF X hcM fun fl μ' m' h2 tk2 r2 X2 k2 => ?_
        have hkk : ∀ b o, s.heap.get? b = some o → h2.get? b = some o := fun b o e => k2.kept b o (fun q => by rw [q, hL0] at e; cases e) (fun q => by rw [hC0 b q] at e; cases e) (fun q => by
          have q : b ∈ ownA (fun _ => (0 : Nat)) (valsOf vs ++ deads (fn.nv - fn.np)) := q
          rw [hown] at q; cases q) (hk1 b o e)
        cases r2 with
        | next => subst ho; exact K _ _ _ .none hkk
        | ret r2 => subst ho; exact K _ _ _ (r2.step fun b o hb e => ⟨e, fun hm => hb (mem_Mx.mpr (.inr (.inr (.inl hm))))⟩) hkk
      split at he
      · rename_i u st' e1
        cases he
        exact fin (.ret _) st' e1 rfl
      · rename_i st' e1
        cases he
        exact fin .next st' e1 rfl
      · cases he
    · cases he
  · cases he

theorem up_m (G : GOk N P tab h₀ mg mb) (S : Snd prog w N P h₀ mg k ev) : SndM prog w N h₀ mg (k + 1) (methStep ev P) := by
  intro A E s M f us us' vs l ws v fa a Q he hr hg haM hp hu hv D K
  unfold methStep at he
  split at he
  · rename_i fn hfn
    split at he
    · rename_i hnp
      have hnp := Nat.eq_of_beq_eq_true hnp
      obtain ⟨fa', o, fd, body, ns, fo⟩ := G.fns _ _ hfn
      have := fo.g
      rw [hg] at this; cases this
      have hwl := hv.length
      split at he
      · rename_i u st' e1
        split at he
        · rename_i us2 e2
          cases he
          refine enter G fo hr D (ws := .ref a :: ws) (by rw [List.length_cons, hwl]; exact hnp) fun F h1 tk1 m E' hF hsc hns hr' hk1 hN hC hL0 hC0 hsl => ?_
          have hr0 : ∀ μ : Nat → Addr, ownA μ (.own 0 us :: (valsOf vs ++ deads (fn.nv - fn.np))) = [μ 0] := fun μ => congrArg (μ 0 :: ·) vals_own
          have hTM : ∀ b ∈ M.filter (fun b => b != a), b ∈ M := fun b hb => (List.mem_filter.mp hb).1
          have hTa : a ∉ M.filter (fun b => b != a) := fun hm => by have := (List.mem_filter.mp hm).2; simp at this
          have hMT : ∀ b ∈ M, b = a ∨ b ∈ M.filter (fun b => b != a) := fun b hb => by
            by_cases q : b = a
            · exact .inl q
            · exact .inr (List.mem_filter.mpr ⟨hb, by simpa using q⟩)
          generalize hTd : M.filter (fun b => b != a) = T at hTM hTa hMT
          have hcM : ∀ c ∈ F.cells, c ∉ M := fun c hc hm => by obtain ⟨o, e⟩ := D.ex c hm; rw [hC0 c hc] at e; cases e
          have hLM : F.env.locals ∉ M := fun hm => by obtain ⟨o, e⟩ := D.ex _ hm; rw [hL0] at e; cases e
          have old0 : ∀ b, s.heap.get? b = none → h₀.get? b = none := fun b e => by
            cases e' : h₀.get? b with
            | none => rfl
            | some o => rw [D.base b o e'] at e; cases e
          have hst : Step M s.heap (Mx T F (fun _ => a) (.own 0 us :: (valsOf vs ++ deads (fn.nv - fn.np)))) h1 := fun b o hb e => ⟨hk1 b o e, fun hm => by
            rcases mem_Mx.mp hm with q | q | q | q
            · rw [q, hL0] at e; cases e
            · rw [hC0 b q] at e; cases e
            · exact hb (hTM b q)
            · rw [hr0] at q; rw [List.mem_singleton.mp q] at hb; exact hb haM⟩
          have X : SR h₀ T (fun _ => a) F ⟨.own 0 us :: (valsOf vs ++ deads (fn.nv - fn.np)), 1⟩ h1 m := by
            refine { ns := hN, cel := hC, var := fun y nm c e1 e2 => ?_, nd := (by show (ownA _ _).Nodup; rw [hr0]; exact List.nodup_cons.mpr ⟨(fun q => nomatch q), List.nodup_nil⟩), disj := fun b hb => ?_, LT := fun q => hLM (hTM _ q), ids := fun y id us e => ?_, ex := fun b hb => let ⟨o, e⟩ := D.ex b (hTM b hb); ⟨o, hk1 b o e⟩, base := fun b o e => hk1 b o (D.base b o e), fr := fun b hb => ?_, len := ?_ }
            · rw [hns] at e1
              cases y with
              | zero =>
                show RV _ _ _ (.own 0 us) _
                rw [hsl 0 nm c (.ref a) e1 e2 rfl]
                exact .own (μ := fun _ => a) (id := 0) (hp.at fun o e => hk1 _ _ e) (hu.step hst)
              | succ y =>
                show RV _ _ _ (getR (valsOf vs ++ deads (fn.nv - fn.np)) y) _
                by_cases hy : y < vs.length
                · obtain ⟨u, g1, g2⟩ := vals_get (d := deads (fn.nv - fn.np)) hy
                  obtain ⟨wu, g3, g4⟩ := hv.at g1
                  rw [g2, hsl (y + 1) nm c wu e1 e2 g3]
                  exact .val (g4.step hst)
                · rw [vals_rest (Nat.not_lt.mp hy)]; exact .dead
            · have hb : b ∈ ownA (fun _ => a) (.own 0 us :: (valsOf vs ++ deads (fn.nv - fn.np))) := hb
              rw [hr0] at hb
              rw [List.mem_singleton.mp hb]
              exact ⟨fun q => hLM (q ▸ haM), fun q => hcM a q haM, hTa⟩
            · cases y with
              | zero => cases e; exact Nat.one_pos
              | succ y =>
                have e : getR (valsOf vs ++ deads (fn.nv - fn.np)) y = .own id us := e
                have := own_get (μ := fun _ => 0) e
                rw [vals_own] at this; cases this
            · rcases mem_Mx.mp hb with q | q | q | q
              · rw [q]; exact old0 _ hL0
              · exact old0 _ (hC0 b q)
              · exact D.fr b (hTM b q)
              · rw [show ownA (fun _ => a) (St.mk (.own 0 us :: (valsOf vs ++ deads (fn.nv - fn.np))) 1).r = [a] from hr0 _] at q
                rw [List.mem_singleton.mp q]; exact D.fr a haM
            · show (valsOf vs ++ deads (fn.nv - fn.np)).length + 1 = _
              have := fo.np
              rw [vals_len, hns, fo.nv]; omega
          refine S.b (s := { s with heap := h1, toks := tk1 }) (by rw [hsc, hns]; exact fo.rel) e1 hr' hF X (fun c hc hm => hcM c hc (hTM c hm)) fun fl μ' m' h2 tk2 r2 X2 k2 => ?_
          have h0a : μ' 0 = a := k2.agree 0 Nat.one_pos
          have hsub : ∀ b ∈ M, b ∈ Mx T F μ' st'.r := fun b hb => by
            rcases hMT b hb with q | q
            · rw [q, ← h0a]; exact mem_Mx.mpr (.inr (.inr (.inr (own_get e2))))
            · exact mem_Mx.mpr (.inr (.inr (.inl q)))
          have hstep : Step (Mx T F μ' st'.r) h2 M h2 := fun b o hb e => ⟨e, fun hm => hb (hsub b hm)⟩
          obtain ⟨nm, c, g1, g2⟩ := X2.lenr hF (y := 0) (by rw [e2]; exact fun q => nomatch q)
          have g := X2.var 0 nm c g1 g2
          rw [e2] at g
          generalize slot h2 m' nm c = sl at g
          cases g with
          | own pl ql =>
            rw [h0a] at pl
            cases r2 with
            | ret r2 =>
              refine K _ _ _ _ (r2.step hstep) pl (ql.step hstep) fun b o hba e => k2.kept b o (fun q => by rw [q, hL0] at e; cases e) (fun q => by rw [hC0 b q] at e; cases e) (fun q => ?_) (hk1 b o e)
              have q : b ∈ ownA (fun _ => a) (.own 0 us :: (valsOf vs ++ deads (fn.nv - fn.np))) := q
              rw [hr0] at q
              exact hba (List.mem_singleton.mp q)
        · cases he
      · cases he
    · cases he
  · cases he

theorem up_known : Known P ⟨exprStep ev tab, testStep ev, blockStep ev, callStep ev P (fun _ _ => none), methStep ev P⟩ := by
  refine ⟨fun f vs v he => ?_, fun f us vs v he => ?_⟩
  · have he : callStep ev P (fun _ _ => none) f vs = some v := he
    unfold callStep at he
    simp only at he
    split at he
    · rename_i fn hfn; exact ⟨fn, hfn⟩
    · cases he
  · have he : methStep ev P f us vs = some v := he
    unfold methStep at he
    split at he
    · rename_i fn hfn; exact ⟨fn, hfn⟩
    · cases he

theorem sound (G : GOk N P tab h₀ mg mb) : ∀ n : Nat, Snd prog w N P h₀ mg n (Mine.ev tab P (fun _ _ => none) n)
  | 0 => by
    refine ⟨?_, ?_, ?_, ?_, ?_, ?_, ?_, ⟨(fun f vs v he => nomatch he), (fun f us vs v he => nomatch he)⟩⟩
    · intro A E s T μ F st st' m e c v Q hc he; cases he
    · intro A E s T μ F st st' m e c vs Q hc hfx he; cases he
    · intro A E s T μ F st st' m elt gens scope pos c v Q u hc he; cases he
    · intro A E s T μ F st st' m e c b Q hc he; cases he
    · intro A E s T μ F st st' m ss c o Q hc he; cases he
    · intro A E s M f vs ws v fa Q he; cases he
    · intro A E s M f us us' vs l ws v fa a Q he; cases he
  | n + 1 =>
    have S := sound G n
    ⟨up_e G S, up_f G S, up_g G S, up_t G S, up_b G S, up_c G S, up_m G S, up_known⟩
end
end Mine

/-! part Prog -/
namespace Mine
noncomputable section
-- 0: extended ['a', 'b', 'one', 'other', 'times', 'rest']
noncomputable def f0 : Fn := ⟨2, 6, (.cons (.asgT [2, 3] (.cons (.tup (.cons (.var 0) (.cons (.int 1) (.cons (.int 0) .nil)))) (.cons (.tup (.cons (.var 1) (.cons (.int 0) (.cons (.int 1) .nil)))) .nil))) (.cons (.loop (.cmp 1 (.sub (.var 3) (.int 0)) (.int 0)) (.cons (.asg 4 (.bin 3 (.sub (.var 2) (.int 0)) (.sub (.var 3) (.int 0)))) (.cons (.asg 5 (.tup (.cons (.bin 1 (.sub (.var 2) (.int 0)) (.bin 2 (.var 4) (.sub (.var 3) (.int 0)))) (.cons (.bin 1 (.sub (.var 2) (.int 1)) (.bin 2 (.var 4) (.sub (.var 3) (.int 1)))) (.cons (.bin 1 (.sub (.var 2) (.int 2)) (.bin 2 (.var 4) (.sub (.var 3) (.int 2)))) .nil))))) (.cons (.asgT [2, 3] (.cons (.var 3) (.cons (.var 5) .nil))) .nil)))) (.cons (.ret (.ite (.cmp 5 (.sub (.var 2) (.int 0)) (.int 0)) (.var 2) (.tup (.cons (.bin 1 (.int 0) (.sub (.var 2) (.int 0))) (.cons (.bin 1 (.int 0) (.sub (.var 2) (.int 1))) (.cons (.bin 1 (.int 0) (.sub (.var 2) (.int 2))) .nil)))))) .nil)))⟩
-- 1: inverse_mod ['a', 'm', 'g', 's', 't']
noncomputable def f1 : Fn := ⟨2, 5, (.cons (.asgU [2, 3, 4] (.call 0 (.cons (.bin 4 (.var 0) (.var 1)) (.cons (.var 1) .nil)))) (.cons (.ret (.ite (.cmp 0 (.var 2) (.int 1)) (.bin 4 (.var 3) (.var 1)) .none)) .nil))⟩
-- 2: least_divisor ['n', 'begin', 'found']
noncomputable def f2 : Fn := ⟨2, 3, (.cons (.asg 2 (.var 1)) (.cons (.loop (.cmp 3 (.bin 2 (.var 2) (.var 2)) (.var 0)) (.cons (.ite (.cmp 0 (.bin 4 (.var 0) (.var 2)) (.int 0)) (.cons (.ret (.var 2)) .nil) .nil) (.cons (.aug 2 (.ite (.cmp 0 (.var 2) (.int 2)) (.int 1) (.int 2))) .nil))) (.cons (.ret (.var 0)) .nil)))⟩
-- 3: prime_factors ['n', 'found', 'prime', 'many']
noncomputable def f3 : Fn := ⟨1, 4, (.cons (.asgT [1, 2] (.cons (.disp .nil) (.cons (.int 2) .nil))) (.cons (.loop (.cmp 4 (.var 0) (.int 1)) (.cons (.asgT [2, 3] (.cons (.call 2 (.cons (.var 0) (.cons (.var 2) .nil))) (.cons (.int 0) .nil))) (.cons (.loop (.cmp 0 (.bin 4 (.var 0) (.var 2)) (.int 0)) (.cons (.asgT [0, 3] (.cons (.bin 3 (.var 0) (.var 2)) (.cons (.bin 0 (.var 3) (.int 1)) .nil))) .nil)) (.cons (.app 1 (.tup (.cons (.var 2) (.cons (.var 3) .nil)))) (.cons (.asg 2 (.ite (.cmp 0 (.var 2) (.int 2)) (.int 3) (.bin 0 (.var 2) (.int 2)))) .nil))))) (.cons (.ret (.var 1)) .nil)))⟩
-- 4: mtrim ['a', 'many']
noncomputable def f4 : Fn := ⟨1, 2, (.cons (.asg 1 (.len (.var 0))) (.cons (.loop (.and (.cmp 4 (.var 1) (.int 0)) (.cmp 0 (.sub (.var 0) (.bin 1 (.var 1) (.int 1))) (.int 0))) (.cons (.asg 1 (.bin 1 (.var 1) (.int 1))) .nil)) (.cons (.ret (.list (.cut (.var 0) (.var 1)))) .nil)))⟩
-- 5: mdegree ['a']
noncomputable def f5 : Fn := ⟨1, 1, (.cons (.ret (.bin 1 (.len (.var 0)) (.int 1))) .nil)⟩
-- 6: madd ['a', 'b', 'p', 'found', 'at']
noncomputable def f6 : Fn := ⟨3, 5, (.cons (.asg 3 (.disp .nil)) (.cons (.each [4] (.rng1 (.max (.len (.var 0)) (.len (.var 1)))) (.cons (.app 3 (.bin 4 (.bin 0 (.ite (.cmp 2 (.var 4) (.len (.var 0))) (.sub (.var 0) (.var 4)) (.int 0)) (.ite (.cmp 2 (.var 4) (.len (.var 1))) (.sub (.var 1) (.var 4)) (.int 0))) (.var 2))) .nil)) (.cons (.ret (.call 4 (.cons (.var 3) .nil))) .nil)))⟩
-- 7: mneg ['a', 'p']
noncomputable def f7 : Fn := ⟨2, 2, (.cons (.ret (.comp (.bin 4 (.neg (.var 1)) (.var 0)) [1] (.lst (.var 0)) .nil [1])) .nil)⟩
-- 10: mmul ['a', 'b', 'p', 'found', 'at', 'one', 'spot', 'other']
noncomputable def f10 : Fn := ⟨3, 8, (.cons (.ite (.or (.cmp 0 (.len (.var 0)) (.int 0)) (.cmp 0 (.len (.var 1)) (.int 0))) (.cons (.ret (.disp .nil)) .nil) .nil) (.cons (.asg 3 (.bin 2 (.disp (.cons (.int 0) .nil)) (.bin 1 (.bin 0 (.len (.var 0)) (.len (.var 1))) (.int 1)))) (.cons (.each [4, 5] (.enum (.var 0)) (.cons (.ite (.cmp 1 (.var 5) (.int 0)) (.cons (.each [6, 7] (.enum (.var 1)) (.cons (.setI 3 (.bin 0 (.var 4) (.var 6)) (.bin 4 (.bin 0 (.sub (.var 3) (.bin 0 (.var 4) (.var 6))) (.bin 2 (.var 5) (.var 7))) (.var 2))) .nil)) .nil) .nil) .nil)) (.cons (.ret (.call 4 (.cons (.var 3) .nil))) .nil))))⟩
-- 11: mdivmod ['a', 'b', 'p', 'rest', 'quotient', 'turn', 'at', 'number', 'spot', 'other']
noncomputable def f11 : Fn := ⟨3, 10, (.cons (.asgT [3, 4] (.cons (.list (.var 0)) (.cons (.bin 2 (.disp (.cons (.int 0) .nil)) (.max (.int 0) (.bin 0 (.bin 1 (.len (.var 0)) (.len (.var 1))) (.int 1)))) .nil))) (.cons (.asg 5 (.call 1 (.cons (.sub (.var 1) (.neg (.int 1))) (.cons (.var 2) .nil)))) (.cons (.each [6] (.rng3 (.bin 1 (.len (.var 0)) (.len (.var 1))) (.neg (.int 1)) (.neg (.int 1))) (.cons (.asg 7 (.bin 4 (.bin 2 (.sub (.var 3) (.bin 1 (.bin 0 (.var 6) (.len (.var 1))) (.int 1))) (.var 5)) (.var 2))) (.cons (.setI 4 (.var 6) (.var 7)) (.cons (.ite (.cmp 1 (.var 7) (.int 0)) (.cons (.each [8, 9] (.enum (.var 1)) (.cons (.setI 3 (.bin 0 (.var 6) (.var 8)) (.bin 4 (.bin 1 (.sub (.var 3) (.bin 0 (.var 6) (.var 8))) (.bin 2 (.var 7) (.var 9))) (.var 2))) .nil)) .nil) .nil) .nil)))) (.cons (.ret (.tup (.cons (.call 4 (.cons (.var 4) .nil)) (.cons (.call 4 (.cons (.cut (.var 3) (.bin 1 (.len (.var 1)) (.int 1))) .nil)) .nil)))) .nil))))⟩
-- 12: mrest ['a', 'b', 'p']
noncomputable def f12 : Fn := ⟨3, 3, (.cons (.ret (.sub (.call 11 (.cons (.var 0) (.cons (.var 1) (.cons (.var 2) .nil)))) (.int 1))) .nil)⟩
-- 13: mproduct ['some', 'p', 'found', 'one']
noncomputable def f13 : Fn := ⟨2, 4, (.cons (.asg 2 (.disp (.cons (.int 1) .nil))) (.cons (.each [3] (.lst (.var 0)) (.cons (.asg 2 (.call 10 (.cons (.var 2) (.cons (.var 3) (.cons (.var 1) .nil))))) .nil)) (.cons (.ret (.var 2)) .nil)))⟩
-- 16: counted ['number', 'p', 'found']
noncomputable def f16 : Fn := ⟨2, 3, (.cons (.asg 2 (.disp .nil)) (.cons (.loop (.cmp 4 (.var 0) (.int 0)) (.cons (.app 2 (.bin 4 (.var 0) (.var 1))) (.cons (.asg 0 (.bin 3 (.var 0) (.var 1))) .nil))) (.cons (.ret (.call 4 (.cons (.var 2) .nil))) .nil)))⟩
-- 17: gf_size ['m', 'p']
noncomputable def f17 : Fn := ⟨2, 2, (.cons (.ret (.bin 5 (.var 1) (.call 5 (.cons (.var 0) .nil)))) .nil)⟩
-- 18: gf_things ['m', 'p']
noncomputable def f18 : Fn := ⟨2, 2, (.cons (.ret (.comp (.call 16 (.cons (.var 1) (.cons (.var 0) .nil))) [1] (.rng1 (.call 17 (.cons (.var 0) (.cons (.var 1) .nil)))) .nil [1])) .nil)⟩
-- 19: gf_multiply ['a', 'b', 'm', 'p']
noncomputable def f19 : Fn := ⟨4, 4, (.cons (.ret (.call 12 (.cons (.call 10 (.cons (.var 0) (.cons (.var 1) (.cons (.var 3) .nil)))) (.cons (.var 2) (.cons (.var 3) .nil))))) .nil)⟩
-- 21: gf_power ['a', 'n', 'm', 'p', 'found', 'square']
noncomputable def f21 : Fn := ⟨4, 6, (.cons (.ite (.cmp 2 (.var 1) (.int 0)) (.cons (.asgT [0, 1] (.cons (.call 20 (.cons (.var 0) (.cons (.var 2) (.cons (.var 3) .nil)))) (.cons (.neg (.var 1)) .nil))) .nil) .nil) (.cons (.asgT [4, 5] (.cons (.disp (.cons (.int 1) .nil)) (.cons (.list (.var 0)) .nil))) (.cons (.loop (.cmp 4 (.var 1) (.int 0)) (.cons (.ite (.cmp 0 (.bin 4 (.var 1) (.int 2)) (.int 1)) (.cons (.asg 4 (.call 19 (.cons (.var 4) (.cons (.var 5) (.cons (.var 2) (.cons (.var 3) .nil)))))) .nil) .nil) (.cons (.asg 1 (.bin 3 (.var 1) (.int 2))) (.cons (.ite (.cmp 4 (.var 1) (.int 0)) (.cons (.asg 5 (.call 19 (.cons (.var 5) (.cons (.var 5) (.cons (.var 2) (.cons (.var 3) .nil)))))) .nil) .nil) .nil)))) (.cons (.ret (.var 4)) .nil))))⟩
-- 22: gf_order ['a', 'm', 'p', 'order', 'prime', 'many', 'turn']
noncomputable def f22 : Fn := ⟨3, 7, (.cons (.ite (.cmp 0 (.len (.var 0)) (.int 0)) (.cons .raise .nil) .nil) (.cons (.asg 3 (.bin 1 (.call 17 (.cons (.var 1) (.cons (.var 2) .nil))) (.int 1))) (.cons (.each [4, 5] (.lst (.call 3 (.cons (.var 3) .nil))) (.cons (.each [6] (.rng1 (.var 5)) (.cons (.ite (.cmp 0 (.call 21 (.cons (.var 0) (.cons (.bin 3 (.var 3) (.var 4)) (.cons (.var 1) (.cons (.var 2) .nil))))) (.disp (.cons (.int 1) .nil))) (.cons (.asg 3 (.bin 3 (.var 3) (.var 4))) .nil) .nil) .nil)) .nil)) (.cons (.ret (.var 3)) .nil))))⟩
-- 23: gf_conjugates ['a', 'm', 'p', 'found', 'here']
noncomputable def f23 : Fn := ⟨3, 5, (.cons (.asgT [3, 4] (.cons (.disp (.cons (.list (.var 0)) .nil)) (.cons (.call 21 (.cons (.var 0) (.cons (.var 2) (.cons (.var 1) (.cons (.var 2) .nil))))) .nil))) (.cons (.loop (.cmp 1 (.var 4) (.sub (.var 3) (.int 0))) (.cons (.app 3 (.var 4)) (.cons (.asg 4 (.call 21 (.cons (.var 4) (.cons (.var 2) (.cons (.var 1) (.cons (.var 2) .nil)))))) .nil))) (.cons (.ret (.var 3)) .nil)))⟩
-- 24: number_of ['a']
noncomputable def f24 : Fn := ⟨1, 1, (.cons (.ret (.ite (.cmp 4 (.len (.var 0)) (.int 0)) (.sub (.var 0) (.int 0)) (.int 0))) .nil)⟩
-- 25: gf_least ['a', 'm', 'p', 'found', 'root', 'later', 'at', 'one']
noncomputable def f25 : Fn := ⟨3, 8, (.cons (.asg 3 (.disp (.cons (.disp (.cons (.int 1) .nil)) .nil))) (.cons (.each [4] (.lst (.call 23 (.cons (.var 0) (.cons (.var 1) (.cons (.var 2) .nil))))) (.cons (.asg 5 (.bin 0 (.disp (.cons (.disp .nil) .nil)) (.var 3))) (.cons (.each [6, 7] (.enum (.var 3)) (.cons (.setI 5 (.var 6) (.call 6 (.cons (.sub (.var 5) (.var 6)) (.cons (.call 7 (.cons (.call 19 (.cons (.var 7) (.cons (.var 4) (.cons (.var 1) (.cons (.var 2) .nil))))) (.cons (.var 2) .nil))) (.cons (.var 2) .nil))))) .nil)) (.cons (.asg 3 (.var 5)) .nil)))) (.cons (.ret (.comp (.call 24 (.cons (.var 0) .nil)) [0] (.lst (.var 3)) .nil [])) .nil)))⟩
-- 26: moebius ['n', 'pairs']
noncomputable def f26 : Fn := ⟨1, 2, (.cons (.asg 1 (.call 3 (.cons (.var 0) .nil))) (.cons (.ite (.any (.comp (.cmp 4 (.var 1) (.int 1)) [0, 1] (.lst (.var 1)) .nil [])) (.cons (.ret (.int 0)) .nil) .nil) (.cons (.ret (.ite (.cmp 0 (.bin 4 (.len (.var 1)) (.int 2)) (.int 0)) (.int 1) (.neg (.int 1)))) .nil)))⟩
-- 27: _law_take ['box', 'many']
noncomputable def f27 : Fn := ⟨2, 2, (.cons (.setI 0 (.int 1) (.bin 0 (.sub (.var 0) (.int 1)) (.int 1))) (.cons (.ite (.cmp 3 (.sub (.var 0) (.int 1)) (.len (.sub (.var 0) (.int 0)))) (.cons (.ret (.bin 4 (.abs (.sub (.sub (.var 0) (.int 0)) (.bin 1 (.sub (.var 0) (.int 1)) (.int 1)))) (.var 1))) .nil) .nil) (.cons (.ret (.bin 4 (.bin 0 (.bin 2 (.int 5) (.sub (.var 0) (.int 1))) (.bin 3 (.sub (.var 0) (.int 1)) (.int 3))) (.var 1))) .nil)))⟩
-- 28: _law_common ['a', 'b']
noncomputable def f28 : Fn := ⟨2, 2, (.cons (.loop (.cmp 1 (.var 1) (.int 0)) (.cons (.asgT [0, 1] (.cons (.var 1) (.cons (.bin 4 (.var 0) (.var 1)) .nil))) .nil)) (.cons (.ret (.var 0)) .nil))⟩
-- 29: _law_own ['d', 'found', 'lesser', 'part', 'rest', 'quotient', 'at', 'number', 'spot', 'one']
noncomputable def f29 : Fn := ⟨1, 10, (.cons (.asg 1 (.bin 0 (.bin 0 (.disp (.cons (.neg (.int 1)) .nil)) (.bin 2 (.disp (.cons (.int 0) .nil)) (.bin 1 (.var 0) (.int 1)))) (.disp (.cons (.int 1) .nil)))) (.cons (.each [2] (.rng2 (.int 1) (.var 0)) (.cons (.ite (.cmp 0 (.bin 4 (.var 0) (.var 2)) (.int 0)) (.cons (.asg 3 (.call 29 (.cons (.var 2) .nil))) (.cons (.asgT [4, 5] (.cons (.var 1) (.cons (.bin 2 (.disp (.cons (.int 0) .nil)) (.bin 0 (.bin 1 (.len (.var 1)) (.len (.var 3))) (.int 1))) .nil))) (.cons (.each [6] (.rng3 (.bin 1 (.len (.var 5)) (.int 1)) (.neg (.int 1)) (.neg (.int 1))) (.cons (.asg 7 (.sub (.var 4) (.bin 1 (.bin 0 (.var 6) (.len (.var 3))) (.int 1)))) (.cons (.setI 5 (.var 6) (.var 7)) (.cons (.each [8, 9] (.enum (.var 3)) (.cons (.setI 4 (.bin 0 (.var 6) (.var 8)) (.bin 1 (.sub (.var 4) (.bin 0 (.var 6) (.var 8))) (.bin 2 (.var 7) (.var 9)))) .nil)) .nil)))) (.cons (.asg 1 (.var 5)) .nil)))) .nil) .nil)) (.cons (.ret (.var 1)) .nil)))⟩
-- 30: _law_degree ['d', 'p', 't']
noncomputable def f30 : Fn := ⟨2, 3, (.cons (.asg 2 (.int 1)) (.cons (.loop (.cmp 1 (.bin 4 (.bin 1 (.bin 5 (.var 1) (.var 2)) (.int 1)) (.var 0)) (.int 0)) (.cons (.asg 2 (.bin 0 (.var 2) (.int 1))) .nil)) (.cons (.ret (.var 2)) .nil)))⟩
-- 31: law ['script', 'box', 'p', 'tail', 'm', 'size', 'some', 'd', 'here', 'total', 'product', 'polys', 'often', 'one', 'poly', 'spot', 'wanted', 't']
noncomputable def f31 : Fn := ⟨1, 18, (.cons (.asg 1 (.disp (.cons (.list (.cut (.var 0) (.int 2))) (.cons (.int 0) .nil)))) (.cons (.asgU [2, 3] (.sub (.glob 0) (.callm 27 1 (.cons (.int 6) .nil)))) (.cons (.asgT [4, 5] (.cons (.list (.var 3)) (.cons (.bin 5 (.var 2) (.bin 1 (.len (.var 3)) (.int 1))) .nil))) (.cons (.asg 6 (.comp (.var 1) [1] (.rng2 (.int 1) (.var 5)) (.cons (.cmp 0 (.bin 4 (.bin 1 (.var 0) (.int 1)) (.var 1)) (.int 0)) .nil) [5])) (.cons (.asg 7 (.sub (.var 6) (.callm 27 1 (.cons (.len (.var 6)) .nil)))) (.cons (.asg 8 (.comp (.var 3) [3] (.lst (.call 18 (.cons (.var 4) (.cons (.var 2) .nil)))) (.cons (.and (.cmp 1 (.var 3) (.disp .nil)) (.cmp 0 (.call 22 (.cons (.var 3) (.cons (.var 1) (.cons (.var 0) .nil)))) (.var 2))) .nil) [2, 4, 7])) (.cons (.ite (.cmp 1 (.len (.var 8)) (.len (.comp (.int 1) [1] (.rng2 (.int 1) (.bin 0 (.var 7) (.int 1))) (.cons (.cmp 0 (.call 28 (.cons (.var 0) (.cons (.var 1) .nil))) (.int 1)) .nil) [7]))) (.cons (.ret (.bool false)) .nil) .nil) (.cons (.asgT [9, 10, 11, 12] (.cons (.disp .nil) (.cons (.disp (.cons (.int 1) .nil)) (.cons (.disp .nil) (.cons (.disp .nil) .nil))))) (.cons (.each [13] (.lst (.var 8)) (.cons (.asgT [9, 10] (.cons (.call 6 (.cons (.var 9) (.cons (.var 13) (.cons (.var 2) .nil)))) (.cons (.call 19 (.cons (.var 10) (.cons (.var 13) (.cons (.var 4) (.cons (.var 2) .nil))))) .nil))) (.cons (.asg 14 (.call 25 (.cons (.var 13) (.cons (.var 4) (.cons (.var 2) .nil))))) (.cons (.ite (.notin (.var 14) 11) (.cons (.app 11 (.var 14)) (.cons (.app 12 (.int 0)) .nil)) .nil) (.cons (.asg 15 (.index 11 (.var 14))) (.cons (.setI 12 (.var 15) (.bin 0 (.sub (.var 12) (.var 15)) (.int 1))) .nil)))))) (.cons (.asg 16 (.bin 4 (.call 26 (.cons (.var 7) .nil)) (.var 2))) (.cons (.ite (.or (.cmp 1 (.var 9) (.ite (.cmp 1 (.var 16) (.int 0)) (.disp (.cons (.var 16) .nil)) (.disp .nil))) (.cmp 1 (.var 10) (.ite (.cmp 0 (.var 7) (.int 2)) (.disp (.cons (.bin 1 (.var 2) (.int 1)) .nil)) (.disp (.cons (.int 1) .nil))))) (.cons (.ret (.bool false)) .nil) .nil) (.cons (.asg 17 (.call 30 (.cons (.var 7) (.cons (.var 2) .nil)))) (.cons (.ite (.or (.cmp 1 (.var 12) (.bin 2 (.disp (.cons (.var 17) .nil)) (.len (.var 11)))) (.cmp 1 (.comp (.len (.var 0)) [0] (.lst (.var 11)) .nil []) (.bin 2 (.disp (.cons (.bin 0 (.var 17) (.int 1)) .nil)) (.len (.var 11))))) (.cons (.ret (.bool false)) .nil) .nil) (.cons (.ret (.cmp 0 (.call 13 (.cons (.var 11) (.cons (.var 2) .nil))) (.comp (.bin 4 (.var 1) (.var 0)) [1] (.lst (.call 29 (.cons (.var 7) .nil))) .nil [2]))) .nil))))))))))))))⟩
noncomputable def prog : Nat → Option Fn
  | 0 => some f0
  | 1 => some f1
  | 2 => some f2
  | 3 => some f3
  | 4 => some f4
  | 5 => some f5
  | 6 => some f6
  | 7 => some f7
  | 10 => some f10
  | 11 => some f11
  | 12 => some f12
  | 13 => some f13
  | 16 => some f16
  | 17 => some f17
  | 18 => some f18
  | 19 => some f19
  | 21 => some f21
  | 22 => some f22
  | 23 => some f23
  | 24 => some f24
  | 25 => some f25
  | 26 => some f26
  | 27 => some f27
  | 28 => some f28
  | 29 => some f29
  | 30 => some f30
  | 31 => some f31
  | _ => none
noncomputable def fields : V := .tup [.tup [.int 2, .tup [.int 1, .int 1, .int 1]], .tup [.int 3, .tup [.int 1, .int 0, .int 1]], .tup [.int 2, .tup [.int 1, .int 0, .int 1, .int 1]], .tup [.int 5, .tup [.int 0, .int 1]], .tup [.int 11, .tup [.int 0, .int 1]], .tup [.int 7, .tup [.int 0, .int 1]]]
noncomputable def tab : Nat → Option V
  | 0 => some fields
  | _ => none
noncomputable def lawN : Nat := 31
end
end Mine

/-! part Rel0 -/
namespace Mine
open PySem PyProof.Rows
noncomputable def S' (x : String) : Str := Str.ofString x
noncomputable def stm (i : Nat) : Stmt := (PySem.Challenge.pw_tk0040_01.main.body[i]?).getD (.Pass ⟨0, 0, 0, 0⟩)
noncomputable def recOf : Stmt → DefRec
  | .FunctionDef name args body _ _ _ scope _ _ pos => ⟨name, args, body, scope, pos⟩
  | _ => ⟨Str.ofString "", ⟨[], [], none, [], [], none, []⟩, [], ⟨.function, [], false, false, []⟩, ⟨0, 0, 0, 0⟩⟩
noncomputable def fname : Nat → Str
  | 0 => Str.ofString "extended"
  | 1 => Str.ofString "inverse_mod"
  | 2 => Str.ofString "least_divisor"
  | 3 => Str.ofString "prime_factors"
  | 4 => Str.ofString "mtrim"
  | 5 => Str.ofString "mdegree"
  | 6 => Str.ofString "madd"
  | 7 => Str.ofString "mneg"
  | 8 => Str.ofString "msub"
  | 9 => Str.ofString "mscale"
  | 10 => Str.ofString "mmul"
  | 11 => Str.ofString "mdivmod"
  | 12 => Str.ofString "mrest"
  | 13 => Str.ofString "mproduct"
  | 14 => Str.ofString "mextended"
  | 15 => Str.ofString "minverse"
  | 16 => Str.ofString "counted"
  | 17 => Str.ofString "gf_size"
  | 18 => Str.ofString "gf_things"
  | 19 => Str.ofString "gf_multiply"
  | 20 => Str.ofString "gf_inverse"
  | 21 => Str.ofString "gf_power"
  | 22 => Str.ofString "gf_order"
  | 23 => Str.ofString "gf_conjugates"
  | 24 => Str.ofString "number_of"
  | 25 => Str.ofString "gf_least"
  | 26 => Str.ofString "moebius"
  | 27 => Str.ofString "_law_take"
  | 28 => Str.ofString "_law_common"
  | 29 => Str.ofString "_law_own"
  | 30 => Str.ofString "_law_degree"
  | 31 => Str.ofString "law"
  | _ => Str.ofString ""
noncomputable def nm : Nm := ⟨fname, fun _ => Str.ofString "_law_fields"⟩
noncomputable def tnames : Expr → List Str
  | .Name n _ => [n]
  | .Tuple [.Name n _, .Name n' _] _ _ => [n, n']
  | _ => []
theorem CE.comp' {N : Nm} {sc ns elt target iter ifs scope pos celt tgt src cifs caps} (hok : CompOk sc ns scope ((picks ns caps).getD []) (tnames target) caps) (hsrc : CSrc N sc ns iter src)
    (htg : CTg ((picks ns caps).getD [] ++ tnames target) target tgt) (htn : tgt.length = (tnames target).length) (hlo : ∀ x ∈ tgt, ((picks ns caps).getD []).length ≤ x) (hen : ∀ a, src ≠ .enum a)
    (he : CE N (relabelS scope sc) ((picks ns caps).getD [] ++ tnames target) elt celt) (hi : CTs N (relabelS scope sc) ((picks ns caps).getD [] ++ tnames target) ifs cifs) :
    CE N sc ns (.ListComp elt [⟨target, iter, ifs, 0⟩] scope pos) (.comp celt tgt src cifs caps) := .comp hok hsrc htg htn hlo hen he hi

noncomputable def R0 : DefRec := recOf (stm 3)
noncomputable def n0 : List Str := [Str.ofString "a", Str.ofString "b", Str.ofString "one", Str.ofString "other", Str.ofString "times", Str.ofString "rest"]
theorem rel0 : CB nm R0.scope n0 R0.body f0.body := by
  repeat' (first
    | rfl
    | decide
    | exact CS.raise
    | (intro env h; cases env; cases h; first | rfl | exact Or.inl rfl | exact Or.inr rfl)
    | (intro a h; cases h; done)
    | refine CE.comp' ?_ ?_ ?_ ?_ ?_ ?_ ?_ ?_
    | refine CS.asgC ?_ ?_ (by intro env h; cases env; cases h; rfl) ?_
    | constructor)
noncomputable def R1 : DefRec := recOf (stm 4)
noncomputable def n1 : List Str := [Str.ofString "a", Str.ofString "m", Str.ofString "g", Str.ofString "s", Str.ofString "t"]
theorem rel1 : CB nm R1.scope n1 R1.body f1.body := by
  repeat' (first
    | rfl
    | decide
    | exact CS.raise
    | (intro env h; cases env; cases h; first | rfl | exact Or.inl rfl | exact Or.inr rfl)
    | (intro a h; cases h; done)
    | refine CE.comp' ?_ ?_ ?_ ?_ ?_ ?_ ?_ ?_
    | refine CS.asgC ?_ ?_ (by intro env h; cases env; cases h; rfl) ?_
    | constructor)
noncomputable def R2 : DefRec := recOf (stm 5)
noncomputable def n2 : List Str := [Str.ofString "n", Str.ofString "begin", Str.ofString "found"]
theorem rel2 : CB nm R2.scope n2 R2.body f2.body := by
  repeat' (first
    | rfl
    | decide
    | exact CS.raise
    | (intro env h; cases env; cases h; first | rfl | exact Or.inl rfl | exact Or.inr rfl)
    | (intro a h; cases h; done)
    | refine CE.comp' ?_ ?_ ?_ ?_ ?_ ?_ ?_ ?_
    | refine CS.asgC ?_ ?_ (by intro env h; cases env; cases h; rfl) ?_
    | constructor)
noncomputable def R3 : DefRec := recOf (stm 6)
noncomputable def n3 : List Str := [Str.ofString "n", Str.ofString "found", Str.ofString "prime", Str.ofString "many"]
theorem rel3 : CB nm R3.scope n3 R3.body f3.body := by
  repeat' (first
    | rfl
    | decide
    | exact CS.raise
    | (intro env h; cases env; cases h; first | rfl | exact Or.inl rfl | exact Or.inr rfl)
    | (intro a h; cases h; done)
    | refine CE.comp' ?_ ?_ ?_ ?_ ?_ ?_ ?_ ?_
    | refine CS.asgC ?_ ?_ (by intro env h; cases env; cases h; rfl) ?_
    | constructor)
noncomputable def R4 : DefRec := recOf (stm 8)
noncomputable def n4 : List Str := [Str.ofString "a", Str.ofString "many"]
theorem rel4 : CB nm R4.scope n4 R4.body f4.body := by
  repeat' (first
    | rfl
    | decide
    | exact CS.raise
    | (intro env h; cases env; cases h; first | rfl | exact Or.inl rfl | exact Or.inr rfl)
    | (intro a h; cases h; done)
    | refine CE.comp' ?_ ?_ ?_ ?_ ?_ ?_ ?_ ?_
    | refine CS.asgC ?_ ?_ (by intro env h; cases env; cases h; rfl) ?_
    | constructor)
noncomputable def R5 : DefRec := recOf (stm 9)
noncomputable def n5 : List Str := [Str.ofString "a"]
theorem rel5 : CB nm R5.scope n5 R5.body f5.body := by
  repeat' (first
    | rfl
    | decide
    | exact CS.raise
    | (intro env h; cases env; cases h; first | rfl | exact Or.inl rfl | exact Or.inr rfl)
    | (intro a h; cases h; done)
    | refine CE.comp' ?_ ?_ ?_ ?_ ?_ ?_ ?_ ?_
    | refine CS.asgC ?_ ?_ (by intro env h; cases env; cases h; rfl) ?_
    | constructor)
noncomputable def R6 : DefRec := recOf (stm 10)
noncomputable def n6 : List Str := [Str.ofString "a", Str.ofString "b", Str.ofString "p", Str.ofString "found", Str.ofString "at"]
theorem rel6 : CB nm R6.scope n6 R6.body f6.body := by
  repeat' (first
    | rfl
    | decide
    | exact CS.raise
    | (intro env h; cases env; cases h; first | rfl | exact Or.inl rfl | exact Or.inr rfl)
    | (intro a h; cases h; done)
    | refine CE.comp' ?_ ?_ ?_ ?_ ?_ ?_ ?_ ?_
    | refine CS.asgC ?_ ?_ (by intro env h; cases env; cases h; rfl) ?_
    | constructor)
noncomputable def R7 : DefRec := recOf (stm 11)
noncomputable def n7 : List Str := [Str.ofString "a", Str.ofString "p"]
theorem rel7 : CB nm R7.scope n7 R7.body f7.body := by
  repeat' (first
    | rfl
    | decide
    | exact CS.raise
    | (intro env h; cases env; cases h; first | rfl | exact Or.inl rfl | exact Or.inr rfl)
    | (intro a h; cases h; done)
    | refine CE.comp' ?_ ?_ ?_ ?_ ?_ ?_ ?_ ?_
    | refine CS.asgC ?_ ?_ (by intro env h; cases env; cases h; rfl) ?_
    | constructor)
noncomputable def R10 : DefRec := recOf (stm 14)
noncomputable def n10 : List Str := [Str.ofString "a", Str.ofString "b", Str.ofString "p", Str.ofString "found", Str.ofString "at", Str.ofString "one", Str.ofString "spot", Str.ofString "other"]
theorem rel10 : CB nm R10.scope n10 R10.body f10.body := by
  repeat' (first
    | rfl
    | decide
    | exact CS.raise
    | (intro env h; cases env; cases h; first | rfl | exact Or.inl rfl | exact Or.inr rfl)
    | (intro a h; cases h; done)
    | refine CE.comp' ?_ ?_ ?_ ?_ ?_ ?_ ?_ ?_
    | refine CS.asgC ?_ ?_ (by intro env h; cases env; cases h; rfl) ?_
    | constructor)
noncomputable def R11 : DefRec := recOf (stm 15)
noncomputable def n11 : List Str := [Str.ofString "a", Str.ofString "b", Str.ofString "p", Str.ofString "rest", Str.ofString "quotient", Str.ofString "turn", Str.ofString "at", Str.ofString "number", Str.ofString "spot", Str.ofString "other"]
theorem rel11 : CB nm R11.scope n11 R11.body f11.body := by
  repeat' (first
    | rfl
    | decide
    | exact CS.raise
    | (intro env h; cases env; cases h; first | rfl | exact Or.inl rfl | exact Or.inr rfl)
    | (intro a h; cases h; done)
    | refine CE.comp' ?_ ?_ ?_ ?_ ?_ ?_ ?_ ?_
    | refine CS.asgC ?_ ?_ (by intro env h; cases env; cases h; rfl) ?_
    | constructor)
noncomputable def R12 : DefRec := recOf (stm 16)
noncomputable def n12 : List Str := [Str.ofString "a", Str.ofString "b", Str.ofString "p"]
theorem rel12 : CB nm R12.scope n12 R12.body f12.body := by
  repeat' (first
    | rfl
    | decide
    | exact CS.raise
    | (intro env h; cases env; cases h; first | rfl | exact Or.inl rfl | exact Or.inr rfl)
    | (intro a h; cases h; done)
    | refine CE.comp' ?_ ?_ ?_ ?_ ?_ ?_ ?_ ?_
    | refine CS.asgC ?_ ?_ (by intro env h; cases env; cases h; rfl) ?_
    | constructor)
noncomputable def R13 : DefRec := recOf (stm 17)
noncomputable def n13 : List Str := [Str.ofString "some", Str.ofString "p", Str.ofString "found", Str.ofString "one"]
theorem rel13 : CB nm R13.scope n13 R13.body f13.body := by
  repeat' (first
    | rfl
    | decide
    | exact CS.raise
    | (intro env h; cases env; cases h; first | rfl | exact Or.inl rfl | exact Or.inr rfl)
    | (intro a h; cases h; done)
    | refine CE.comp' ?_ ?_ ?_ ?_ ?_ ?_ ?_ ?_
    | refine CS.asgC ?_ ?_ (by intro env h; cases env; cases h; rfl) ?_
    | constructor)
noncomputable def R16 : DefRec := recOf (stm 22)
noncomputable def n16 : List Str := [Str.ofString "number", Str.ofString "p", Str.ofString "found"]
theorem rel16 : CB nm R16.scope n16 R16.body f16.body := by
  repeat' (first
    | rfl
    | decide
    | exact CS.raise
    | (intro env h; cases env; cases h; first | rfl | exact Or.inl rfl | exact Or.inr rfl)
    | (intro a h; cases h; done)
    | refine CE.comp' ?_ ?_ ?_ ?_ ?_ ?_ ?_ ?_
    | refine CS.asgC ?_ ?_ (by intro env h; cases env; cases h; rfl) ?_
    | constructor)
noncomputable def R17 : DefRec := recOf (stm 24)
noncomputable def n17 : List Str := [Str.ofString "m", Str.ofString "p"]
theorem rel17 : CB nm R17.scope n17 R17.body f17.body := by
  repeat' (first
    | rfl
    | decide
    | exact CS.raise
    | (intro env h; cases env; cases h; first | rfl | exact Or.inl rfl | exact Or.inr rfl)
    | (intro a h; cases h; done)
    | refine CE.comp' ?_ ?_ ?_ ?_ ?_ ?_ ?_ ?_
    | refine CS.asgC ?_ ?_ (by intro env h; cases env; cases h; rfl) ?_
    | constructor)
noncomputable def R18 : DefRec := recOf (stm 25)
noncomputable def n18 : List Str := [Str.ofString "m", Str.ofString "p"]
theorem rel18 : CB nm R18.scope n18 R18.body f18.body := by
  repeat' (first
    | rfl
    | decide
    | exact CS.raise
    | (intro env h; cases env; cases h; first | rfl | exact Or.inl rfl | exact Or.inr rfl)
    | (intro a h; cases h; done)
    | refine CE.comp' ?_ ?_ ?_ ?_ ?_ ?_ ?_ ?_
    | refine CS.asgC ?_ ?_ (by intro env h; cases env; cases h; rfl) ?_
    | constructor)
noncomputable def R19 : DefRec := recOf (stm 26)
noncomputable def n19 : List Str := [Str.ofString "a", Str.ofString "b", Str.ofString "m", Str.ofString "p"]
theorem rel19 : CB nm R19.scope n19 R19.body f19.body := by
  repeat' (first
    | rfl
    | decide
    | exact CS.raise
    | (intro env h; cases env; cases h; first | rfl | exact Or.inl rfl | exact Or.inr rfl)
    | (intro a h; cases h; done)
    | refine CE.comp' ?_ ?_ ?_ ?_ ?_ ?_ ?_ ?_
    | refine CS.asgC ?_ ?_ (by intro env h; cases env; cases h; rfl) ?_
    | constructor)
noncomputable def R21 : DefRec := recOf (stm 28)
noncomputable def n21 : List Str := [Str.ofString "a", Str.ofString "n", Str.ofString "m", Str.ofString "p", Str.ofString "found", Str.ofString "square"]
theorem rel21 : CB nm R21.scope n21 R21.body f21.body := by
  repeat' (first
    | rfl
    | decide
    | exact CS.raise
    | (intro env h; cases env; cases h; first | rfl | exact Or.inl rfl | exact Or.inr rfl)
    | (intro a h; cases h; done)
    | refine CE.comp' ?_ ?_ ?_ ?_ ?_ ?_ ?_ ?_
    | refine CS.asgC ?_ ?_ (by intro env h; cases env; cases h; rfl) ?_
    | constructor)
noncomputable def R22 : DefRec := recOf (stm 29)
noncomputable def n22 : List Str := [Str.ofString "a", Str.ofString "m", Str.ofString "p", Str.ofString "order", Str.ofString "prime", Str.ofString "many", Str.ofString "turn"]
theorem rel22 : CB nm R22.scope n22 R22.body f22.body := by
  repeat' (first
    | rfl
    | decide
    | exact CS.raise
    | (intro env h; cases env; cases h; first | rfl | exact Or.inl rfl | exact Or.inr rfl)
    | (intro a h; cases h; done)
    | refine CE.comp' ?_ ?_ ?_ ?_ ?_ ?_ ?_ ?_
    | refine CS.asgC ?_ ?_ (by intro env h; cases env; cases h; rfl) ?_
    | constructor)
noncomputable def R23 : DefRec := recOf (stm 30)
noncomputable def n23 : List Str := [Str.ofString "a", Str.ofString "m", Str.ofString "p", Str.ofString "found", Str.ofString "here"]
theorem rel23 : CB nm R23.scope n23 R23.body f23.body := by
  repeat' (first
    | rfl
    | decide
    | exact CS.raise
    | (intro env h; cases env; cases h; first | rfl | exact Or.inl rfl | exact Or.inr rfl)
    | (intro a h; cases h; done)
    | refine CE.comp' ?_ ?_ ?_ ?_ ?_ ?_ ?_ ?_
    | refine CS.asgC ?_ ?_ (by intro env h; cases env; cases h; rfl) ?_
    | constructor)
noncomputable def R24 : DefRec := recOf (stm 31)
noncomputable def n24 : List Str := [Str.ofString "a"]
theorem rel24 : CB nm R24.scope n24 R24.body f24.body := by
  repeat' (first
    | rfl
    | decide
    | exact CS.raise
    | (intro env h; cases env; cases h; first | rfl | exact Or.inl rfl | exact Or.inr rfl)
    | (intro a h; cases h; done)
    | refine CE.comp' ?_ ?_ ?_ ?_ ?_ ?_ ?_ ?_
    | refine CS.asgC ?_ ?_ (by intro env h; cases env; cases h; rfl) ?_
    | constructor)
noncomputable def R25 : DefRec := recOf (stm 32)
noncomputable def n25 : List Str := [Str.ofString "a", Str.ofString "m", Str.ofString "p", Str.ofString "found", Str.ofString "root", Str.ofString "later", Str.ofString "at", Str.ofString "one"]
theorem rel25 : CB nm R25.scope n25 R25.body f25.body := by
  repeat' (first
    | rfl
    | decide
    | exact CS.raise
    | (intro env h; cases env; cases h; first | rfl | exact Or.inl rfl | exact Or.inr rfl)
    | (intro a h; cases h; done)
    | refine CE.comp' ?_ ?_ ?_ ?_ ?_ ?_ ?_ ?_
    | refine CS.asgC ?_ ?_ (by intro env h; cases env; cases h; rfl) ?_
    | constructor)
noncomputable def R26 : DefRec := recOf (stm 33)
noncomputable def n26 : List Str := [Str.ofString "n", Str.ofString "pairs"]
theorem rel26 : CB nm R26.scope n26 R26.body f26.body := by
  repeat' (first
    | rfl
    | decide
    | exact CS.raise
    | (intro env h; cases env; cases h; first | rfl | exact Or.inl rfl | exact Or.inr rfl)
    | (intro a h; cases h; done)
    | refine CE.comp' ?_ ?_ ?_ ?_ ?_ ?_ ?_ ?_
    | refine CS.asgC ?_ ?_ (by intro env h; cases env; cases h; rfl) ?_
    | constructor)
noncomputable def R27 : DefRec := recOf (stm 36)
noncomputable def n27 : List Str := [Str.ofString "box", Str.ofString "many"]
theorem rel27 : CB nm R27.scope n27 R27.body f27.body := by
  repeat' (first
    | rfl
    | decide
    | exact CS.raise
    | (intro env h; cases env; cases h; first | rfl | exact Or.inl rfl | exact Or.inr rfl)
    | (intro a h; cases h; done)
    | refine CE.comp' ?_ ?_ ?_ ?_ ?_ ?_ ?_ ?_
    | refine CS.asgC ?_ ?_ (by intro env h; cases env; cases h; rfl) ?_
    | constructor)
noncomputable def R28 : DefRec := recOf (stm 37)
noncomputable def n28 : List Str := [Str.ofString "a", Str.ofString "b"]
theorem rel28 : CB nm R28.scope n28 R28.body f28.body := by
  repeat' (first
    | rfl
    | decide
    | exact CS.raise
    | (intro env h; cases env; cases h; first | rfl | exact Or.inl rfl | exact Or.inr rfl)
    | (intro a h; cases h; done)
    | refine CE.comp' ?_ ?_ ?_ ?_ ?_ ?_ ?_ ?_
    | refine CS.asgC ?_ ?_ (by intro env h; cases env; cases h; rfl) ?_
    | constructor)
noncomputable def R29 : DefRec := recOf (stm 38)
noncomputable def n29 : List Str := [Str.ofString "d", Str.ofString "found", Str.ofString "lesser", Str.ofString "part", Str.ofString "rest", Str.ofString "quotient", Str.ofString "at", Str.ofString "number", Str.ofString "spot", Str.ofString "one"]
theorem rel29 : CB nm R29.scope n29 R29.body f29.body := by
  repeat' (first
    | rfl
    | decide
    | exact CS.raise
    | (intro env h; cases env; cases h; first | rfl | exact Or.inl rfl | exact Or.inr rfl)
    | (intro a h; cases h; done)
    | refine CE.comp' ?_ ?_ ?_ ?_ ?_ ?_ ?_ ?_
    | refine CS.asgC ?_ ?_ (by intro env h; cases env; cases h; rfl) ?_
    | constructor)
noncomputable def R30 : DefRec := recOf (stm 39)
noncomputable def n30 : List Str := [Str.ofString "d", Str.ofString "p", Str.ofString "t"]
theorem rel30 : CB nm R30.scope n30 R30.body f30.body := by
  repeat' (first
    | rfl
    | decide
    | exact CS.raise
    | (intro env h; cases env; cases h; first | rfl | exact Or.inl rfl | exact Or.inr rfl)
    | (intro a h; cases h; done)
    | refine CE.comp' ?_ ?_ ?_ ?_ ?_ ?_ ?_ ?_
    | refine CS.asgC ?_ ?_ (by intro env h; cases env; cases h; rfl) ?_
    | constructor)
noncomputable def R31 : DefRec := recOf (stm 40)
noncomputable def n31 : List Str := [Str.ofString "script", Str.ofString "box", Str.ofString "p", Str.ofString "tail", Str.ofString "m", Str.ofString "size", Str.ofString "some", Str.ofString "d", Str.ofString "here", Str.ofString "total", Str.ofString "product", Str.ofString "polys", Str.ofString "often", Str.ofString "one", Str.ofString "poly", Str.ofString "spot", Str.ofString "wanted", Str.ofString "t"]
theorem rel31 : CB nm R31.scope n31 R31.body f31.body := by
  repeat' (first
    | rfl
    | decide
    | exact CS.raise
    | (intro env h; cases env; cases h; first | rfl | exact Or.inl rfl | exact Or.inr rfl)
    | (intro a h; cases h; done)
    | refine CE.comp' ?_ ?_ ?_ ?_ ?_ ?_ ?_ ?_
    | refine CS.asgC ?_ ?_ (by intro env h; cases env; cases h; rfl) ?_
    | constructor)
end Mine

/-! part Fok -/
namespace Mine
open PySem PyProof.Rows
theorem cells_some {nm : Str} : ∀ {l : List (Str × NameKind)} {n : Nat} {acc : List (Str × Addr)}, ((nm, NameKind.cell) ∈ l ∨ (acc.lookup nm).isSome = true) → ((cellsFrom n l acc).lookup nm).isSome = true
  | [], _, _, h => by
    rcases h with h | h
    · cases h
    · exact h
  | (x, kd) :: l, n, acc, h => by
    unfold cellsFrom
    split
    · refine cells_some ?_
      rcases h with h | h
      · rcases List.mem_cons.mp h with q | q
        · cases q; right; simp [List.lookup]
        · exact .inl q
      · right
        rw [List.lookup_cons]
        split
        · rfl
        · exact h
    · rename_i hk
      refine cells_some ?_
      rcases h with h | h
      · rcases List.mem_cons.mp h with q | q
        · cases q; exact absurd rfl hk
        · exact .inl q
      · exact .inr h
theorem of1 {P : List Value → Prop} (h : ∀ a, P [a]) : ∀ vs : List Value, vs.length = 1 → P vs
  | [a], _ => h a
theorem ofS {P : List Value → Prop} {n : Nat} (h : ∀ a r, r.length = n → P (a :: r)) : ∀ vs : List Value, vs.length = n + 1 → P vs
  | a :: r, e => h a r (Nat.succ.inj e)
theorem of2 {P : List Value → Prop} (h : ∀ a b, P [a, b]) : ∀ vs : List Value, vs.length = 2 → P vs := ofS fun a r e => of1 (P := fun r => P (a :: r)) (h a) r e
theorem of3 {P : List Value → Prop} (h : ∀ a b c, P [a, b, c]) : ∀ vs : List Value, vs.length = 3 → P vs := ofS fun a r e => of2 (P := fun r => P (a :: r)) (h a) r e
theorem of4 {P : List Value → Prop} (h : ∀ a b c d, P [a, b, c, d]) : ∀ vs : List Value, vs.length = 4 → P vs := ofS fun a r e => of3 (P := fun r => P (a :: r)) (h a) r e
variable {p : Program} {loose : List Str} {mean : ExcName → Option Value} {mg mb : Str → Option Value} {h : Heap}

theorem fok0 (T : Top p loose mean mg mb h) (hm : R0 ∈ recsOf p) : ∃ a o fd body ns, FnOk nm h mg 0 f0 a o fd body ns := by
  obtain ⟨a, o, pm, code, doc, h1, h2, h3, h4⟩ := T.fn _ hm
  exact ⟨a, o, _, R0.body, n0, { g := h1, ho := h2, hd := h3, code := h4, hbody := rfl, globals := rfl, builtins := rfl, closure := rfl, kind := rfl, co := rfl, gen := rfl, bind := of2 fun a b => rfl, lc := (by decide +kernel : ∀ x ∈ n0, R0.scope.names.lookup x = some .local ∨ R0.scope.names.lookup x = some .cell), nd := by decide +kernel, ndn := (by decide +kernel : ((cellsFrom 0 R0.scope.names []).map (·.1)).Nodup), cells := fun n x e => cells_some (.inl (mem_of_lookup e)), dbg := by decide +kernel, np := by decide, nv := rfl, rel := rel0 }⟩
theorem fok1 (T : Top p loose mean mg mb h) (hm : R1 ∈ recsOf p) : ∃ a o fd body ns, FnOk nm h mg 1 f1 a o fd body ns := by
  obtain ⟨a, o, pm, code, doc, h1, h2, h3, h4⟩ := T.fn _ hm
  exact ⟨a, o, _, R1.body, n1, { g := h1, ho := h2, hd := h3, code := h4, hbody := rfl, globals := rfl, builtins := rfl, closure := rfl, kind := rfl, co := rfl, gen := rfl, bind := of2 fun a b => rfl, lc := (by decide +kernel : ∀ x ∈ n1, R1.scope.names.lookup x = some .local ∨ R1.scope.names.lookup x = some .cell), nd := by decide +kernel, ndn := (by decide +kernel : ((cellsFrom 0 R1.scope.names []).map (·.1)).Nodup), cells := fun n x e => cells_some (.inl (mem_of_lookup e)), dbg := by decide +kernel, np := by decide, nv := rfl, rel := rel1 }⟩
theorem fok2 (T : Top p loose mean mg mb h) (hm : R2 ∈ recsOf p) : ∃ a o fd body ns, FnOk nm h mg 2 f2 a o fd body ns := by
  obtain ⟨a, o, pm, code, doc, h1, h2, h3, h4⟩ := T.fn _ hm
  exact ⟨a, o, _, R2.body, n2, { g := h1, ho := h2, hd := h3, code := h4, hbody := rfl, globals := rfl, builtins := rfl, closure := rfl, kind := rfl, co := rfl, gen := rfl, bind := of2 fun a b => rfl, lc := (by decide +kernel : ∀ x ∈ n2, R2.scope.names.lookup x = some .local ∨ R2.scope.names.lookup x = some .cell), nd := by decide +kernel, ndn := (by decide +kernel : ((cellsFrom 0 R2.scope.names []).map (·.1)).Nodup), cells := fun n x e => cells_some (.inl (mem_of_lookup e)), dbg := by decide +kernel, np := by decide, nv := rfl, rel := rel2 }⟩
theorem fok3 (T : Top p loose mean mg mb h) (hm : R3 ∈ recsOf p) : ∃ a o fd body ns, FnOk nm h mg 3 f3 a o fd body ns := by
  obtain ⟨a, o, pm, code, doc, h1, h2, h3, h4⟩ := T.fn _ hm
  exact ⟨a, o, _, R3.body, n3, { g := h1, ho := h2, hd := h3, code := h4, hbody := rfl, globals := rfl, builtins := rfl, closure := rfl, kind := rfl, co := rfl, gen := rfl, bind := of1 fun a => rfl, lc := (by decide +kernel : ∀ x ∈ n3, R3.scope.names.lookup x = some .local ∨ R3.scope.names.lookup x = some .cell), nd := by decide +kernel, ndn := (by decide +kernel : ((cellsFrom 0 R3.scope.names []).map (·.1)).Nodup), cells := fun n x e => cells_some (.inl (mem_of_lookup e)), dbg := by decide +kernel, np := by decide, nv := rfl, rel := rel3 }⟩
theorem fok4 (T : Top p loose mean mg mb h) (hm : R4 ∈ recsOf p) : ∃ a o fd body ns, FnOk nm h mg 4 f4 a o fd body ns := by
  obtain ⟨a, o, pm, code, doc, h1, h2, h3, h4⟩ := T.fn _ hm
  exact ⟨a, o, _, R4.body, n4, { g := h1, ho := h2, hd := h3, code := h4, hbody := rfl, globals := rfl, builtins := rfl, closure := rfl, kind := rfl, co := rfl, gen := rfl, bind := of1 fun a => rfl, lc := (by decide +kernel : ∀ x ∈ n4, R4.scope.names.lookup x = some .local ∨ R4.scope.names.lookup x = some .cell), nd := by decide +kernel, ndn := (by decide +kernel : ((cellsFrom 0 R4.scope.names []).map (·.1)).Nodup), cells := fun n x e => cells_some (.inl (mem_of_lookup e)), dbg := by decide +kernel, np := by decide, nv := rfl, rel := rel4 }⟩
theorem fok5 (T : Top p loose mean mg mb h) (hm : R5 ∈ recsOf p) : ∃ a o fd body ns, FnOk nm h mg 5 f5 a o fd body ns := by
  obtain ⟨a, o, pm, code, doc, h1, h2, h3, h4⟩ := T.fn _ hm
  exact ⟨a, o, _, R5.body, n5, { g := h1, ho := h2, hd := h3, code := h4, hbody := rfl, globals := rfl, builtins := rfl, closure := rfl, kind := rfl, co := rfl, gen := rfl, bind := of1 fun a => rfl, lc := (by decide +kernel : ∀ x ∈ n5, R5.scope.names.lookup x = some .local ∨ R5.scope.names.lookup x = some .cell), nd := by decide +kernel, ndn := (by decide +kernel : ((cellsFrom 0 R5.scope.names []).map (·.1)).Nodup), cells := fun n x e => cells_some (.inl (mem_of_lookup e)), dbg := by decide +kernel, np := by decide, nv := rfl, rel := rel5 }⟩
theorem fok6 (T : Top p loose mean mg mb h) (hm : R6 ∈ recsOf p) : ∃ a o fd body ns, FnOk nm h mg 6 f6 a o fd body ns := by
  obtain ⟨a, o, pm, code, doc, h1, h2, h3, h4⟩ := T.fn _ hm
  exact ⟨a, o, _, R6.body, n6, { g := h1, ho := h2, hd := h3, code := h4, hbody := rfl, globals := rfl, builtins := rfl, closure := rfl, kind := rfl, co := rfl, gen := rfl, bind := of3 fun a b c => rfl, lc := (by decide +kernel : ∀ x ∈ n6, R6.scope.names.lookup x = some .local ∨ R6.scope.names.lookup x = some .cell), nd := by decide +kernel, ndn := (by decide +kernel : ((cellsFrom 0 R6.scope.names []).map (·.1)).Nodup), cells := fun n x e => cells_some (.inl (mem_of_lookup e)), dbg := by decide +kernel, np := by decide, nv := rfl, rel := rel6 }⟩
theorem fok7 (T : Top p loose mean mg mb h) (hm : R7 ∈ recsOf p) : ∃ a o fd body ns, FnOk nm h mg 7 f7 a o fd body ns := by
  obtain ⟨a, o, pm, code, doc, h1, h2, h3, h4⟩ := T.fn _ hm
  exact ⟨a, o, _, R7.body, n7, { g := h1, ho := h2, hd := h3, code := h4, hbody := rfl, globals := rfl, builtins := rfl, closure := rfl, kind := rfl, co := rfl, gen := rfl, bind := of2 fun a b => rfl, lc := (by decide +kernel : ∀ x ∈ n7, R7.scope.names.lookup x = some .local ∨ R7.scope.names.lookup x = some .cell), nd := by decide +kernel, ndn := (by decide +kernel : ((cellsFrom 0 R7.scope.names []).map (·.1)).Nodup), cells := fun n x e => cells_some (.inl (mem_of_lookup e)), dbg := by decide +kernel, np := by decide, nv := rfl, rel := rel7 }⟩
theorem fok10 (T : Top p loose mean mg mb h) (hm : R10 ∈ recsOf p) : ∃ a o fd body ns, FnOk nm h mg 10 f10 a o fd body ns := by
  obtain ⟨a, o, pm, code, doc, h1, h2, h3, h4⟩ := T.fn _ hm
  exact ⟨a, o, _, R10.body, n10, { g := h1, ho := h2, hd := h3, code := h4, hbody := rfl, globals := rfl, builtins := rfl, closure := rfl, kind := rfl, co := rfl, gen := rfl, bind := of3 fun a b c => rfl, lc := (by decide +kernel : ∀ x ∈ n10, R10.scope.names.lookup x = some .local ∨ R10.scope.names.lookup x = some .cell), nd := by decide +kernel, ndn := (by decide +kernel : ((cellsFrom 0 R10.scope.names []).map (·.1)).Nodup), cells := fun n x e => cells_some (.inl (mem_of_lookup e)), dbg := by decide +kernel, np := by decide, nv := rfl, rel := rel10 }⟩
theorem fok11 (T : Top p loose mean mg mb h) (hm : R11 ∈ recsOf p) : ∃ a o fd body ns, FnOk nm h mg 11 f11 a o fd body ns := by
  obtain ⟨a, o, pm, code, doc, h1, h2, h3, h4⟩ := T.fn _ hm
  exact ⟨a, o, _, R11.body, n11, { g := h1, ho := h2, hd := h3, code := h4, hbody := rfl, globals := rfl, builtins := rfl, closure := rfl, kind := rfl, co := rfl, gen := rfl, bind := of3 fun a b c => rfl, lc := (by decide +kernel : ∀ x ∈ n11, R11.scope.names.lookup x = some .local ∨ R11.scope.names.lookup x = some .cell), nd := by decide +kernel, ndn := (by decide +kernel : ((cellsFrom 0 R11.scope.names []).map (·.1)).Nodup), cells := fun n x e => cells_some (.inl (mem_of_lookup e)), dbg := by decide +kernel, np := by decide, nv := rfl, rel := rel11 }⟩
theorem fok12 (T : Top p loose mean mg mb h) (hm : R12 ∈ recsOf p) : ∃ a o fd body ns, FnOk nm h mg 12 f12 a o fd body ns := by
  obtain ⟨a, o, pm, code, doc, h1, h2, h3, h4⟩ := T.fn _ hm
  exact ⟨a, o, _, R12.body, n12, { g := h1, ho := h2, hd := h3, code := h4, hbody := rfl, globals := rfl, builtins := rfl, closure := rfl, kind := rfl, co := rfl, gen := rfl, bind := of3 fun a b c => rfl, lc := (by decide +kernel : ∀ x ∈ n12, R12.scope.names.lookup x = some .local ∨ R12.scope.names.lookup x = some .cell), nd := by decide +kernel, ndn := (by decide +kernel : ((cellsFrom 0 R12.scope.names []).map (·.1)).Nodup), cells := fun n x e => cells_some (.inl (mem_of_lookup e)), dbg := by decide +kernel, np := by decide, nv := rfl, rel := rel12 }⟩
theorem fok13 (T : Top p loose mean mg mb h) (hm : R13 ∈ recsOf p) : ∃ a o fd body ns, FnOk nm h mg 13 f13 a o fd body ns := by
  obtain ⟨a, o, pm, code, doc, h1, h2, h3, h4⟩ := T.fn _ hm
  exact ⟨a, o, _, R13.body, n13, { g := h1, ho := h2, hd := h3, code := h4, hbody := rfl, globals := rfl, builtins := rfl, closure := rfl, kind := rfl, co := rfl, gen := rfl, bind := of2 fun a b => rfl, lc := (by decide +kernel : ∀ x ∈ n13, R13.scope.names.lookup x = some .local ∨ R13.scope.names.lookup x = some .cell), nd := by decide +kernel, ndn := (by decide +kernel : ((cellsFrom 0 R13.scope.names []).map (·.1)).Nodup), cells := fun n x e => cells_some (.inl (mem_of_lookup e)), dbg := by decide +kernel, np := by decide, nv := rfl, rel := rel13 }⟩
theorem fok16 (T : Top p loose mean mg mb h) (hm : R16 ∈ recsOf p) : ∃ a o fd body ns, FnOk nm h mg 16 f16 a o fd body ns := by
  obtain ⟨a, o, pm, code, doc, h1, h2, h3, h4⟩ := T.fn _ hm
  exact ⟨a, o, _, R16.body, n16, { g := h1, ho := h2, hd := h3, code := h4, hbody := rfl, globals := rfl, builtins := rfl, closure := rfl, kind := rfl, co := rfl, gen := rfl, bind := of2 fun a b => rfl, lc := (by decide +kernel : ∀ x ∈ n16, R16.scope.names.lookup x = some .local ∨ R16.scope.names.lookup x = some .cell), nd := by decide +kernel, ndn := (by decide +kernel : ((cellsFrom 0 R16.scope.names []).map (·.1)).Nodup), cells := fun n x e => cells_some (.inl (mem_of_lookup e)), dbg := by decide +kernel, np := by decide, nv := rfl, rel := rel16 }⟩
theorem fok17 (T : Top p loose mean mg mb h) (hm : R17 ∈ recsOf p) : ∃ a o fd body ns, FnOk nm h mg 17 f17 a o fd body ns := by
  obtain ⟨a, o, pm, code, doc, h1, h2, h3, h4⟩ := T.fn _ hm
  exact ⟨a, o, _, R17.body, n17, { g := h1, ho := h2, hd := h3, code := h4, hbody := rfl, globals := rfl, builtins := rfl, closure := rfl, kind := rfl, co := rfl, gen := rfl, bind := of2 fun a b => rfl, lc := (by decide +kernel : ∀ x ∈ n17, R17.scope.names.lookup x = some .local ∨ R17.scope.names.lookup x = some .cell), nd := by decide +kernel, ndn := (by decide +kernel : ((cellsFrom 0 R17.scope.names []).map (·.1)).Nodup), cells := fun n x e => cells_some (.inl (mem_of_lookup e)), dbg := by decide +kernel, np := by decide, nv := rfl, rel := rel17 }⟩
theorem fok18 (T : Top p loose mean mg mb h) (hm : R18 ∈ recsOf p) : ∃ a o fd body ns, FnOk nm h mg 18 f18 a o fd body ns := by
  obtain ⟨a, o, pm, code, doc, h1, h2, h3, h4⟩ := T.fn _ hm
  exact ⟨a, o, _, R18.body, n18, { g := h1, ho := h2, hd := h3, code := h4, hbody := rfl, globals := rfl, builtins := rfl, closure := rfl, kind := rfl, co := rfl, gen := rfl, bind := of2 fun a b => rfl, lc := (by decide +kernel : ∀ x ∈ n18, R18.scope.names.lookup x = some .local ∨ R18.scope.names.lookup x = some .cell), nd := by decide +kernel, ndn := (by decide +kernel : ((cellsFrom 0 R18.scope.names []).map (·.1)).Nodup), cells := fun n x e => cells_some (.inl (mem_of_lookup e)), dbg := by decide +kernel, np := by decide, nv := rfl, rel := rel18 }⟩
theorem fok19 (T : Top p loose mean mg mb h) (hm : R19 ∈ recsOf p) : ∃ a o fd body ns, FnOk nm h mg 19 f19 a o fd body ns := by
  obtain ⟨a, o, pm, code, doc, h1, h2, h3, h4⟩ := T.fn _ hm
  exact ⟨a, o, _, R19.body, n19, { g := h1, ho := h2, hd := h3, code := h4, hbody := rfl, globals := rfl, builtins := rfl, closure := rfl, kind := rfl, co := rfl, gen := rfl, bind := of4 fun a b c d => rfl, lc := (by decide +kernel : ∀ x ∈ n19, R19.scope.names.lookup x = some .local ∨ R19.scope.names.lookup x = some .cell), nd := by decide +kernel, ndn := (by decide +kernel : ((cellsFrom 0 R19.scope.names []).map (·.1)).Nodup), cells := fun n x e => cells_some (.inl (mem_of_lookup e)), dbg := by decide +kernel, np := by decide, nv := rfl, rel := rel19 }⟩
theorem fok21 (T : Top p loose mean mg mb h) (hm : R21 ∈ recsOf p) : ∃ a o fd body ns, FnOk nm h mg 21 f21 a o fd body ns := by
  obtain ⟨a, o, pm, code, doc, h1, h2, h3, h4⟩ := T.fn _ hm
  exact ⟨a, o, _, R21.body, n21, { g := h1, ho := h2, hd := h3, code := h4, hbody := rfl, globals := rfl, builtins := rfl, closure := rfl, kind := rfl, co := rfl, gen := rfl, bind := of4 fun a b c d => rfl, lc := (by decide +kernel : ∀ x ∈ n21, R21.scope.names.lookup x = some .local ∨ R21.scope.names.lookup x = some .cell), nd := by decide +kernel, ndn := (by decide +kernel : ((cellsFrom 0 R21.scope.names []).map (·.1)).Nodup), cells := fun n x e => cells_some (.inl (mem_of_lookup e)), dbg := by decide +kernel, np := by decide, nv := rfl, rel := rel21 }⟩
theorem fok22 (T : Top p loose mean mg mb h) (hm : R22 ∈ recsOf p) : ∃ a o fd body ns, FnOk nm h mg 22 f22 a o fd body ns := by
  obtain ⟨a, o, pm, code, doc, h1, h2, h3, h4⟩ := T.fn _ hm
  exact ⟨a, o, _, R22.body, n22, { g := h1, ho := h2, hd := h3, code := h4, hbody := rfl, globals := rfl, builtins := rfl, closure := rfl, kind := rfl, co := rfl, gen := rfl, bind := of3 fun a b c => rfl, lc := (by decide +kernel : ∀ x ∈ n22, R22.scope.names.lookup x = some .local ∨ R22.scope.names.lookup x = some .cell), nd := by decide +kernel, ndn := (by decide +kernel : ((cellsFrom 0 R22.scope.names []).map (·.1)).Nodup), cells := fun n x e => cells_some (.inl (mem_of_lookup e)), dbg := by decide +kernel, np := by decide, nv := rfl, rel := rel22 }⟩
theorem fok23 (T : Top p loose mean mg mb h) (hm : R23 ∈ recsOf p) : ∃ a o fd body ns, FnOk nm h mg 23 f23 a o fd body ns := by
  obtain ⟨a, o, pm, code, doc, h1, h2, h3, h4⟩ := T.fn _ hm
  exact ⟨a, o, _, R23.body, n23, { g := h1, ho := h2, hd := h3, code := h4, hbody := rfl, globals := rfl, builtins := rfl, closure := rfl, kind := rfl, co := rfl, gen := rfl, bind := of3 fun a b c => rfl, lc := (by decide +kernel : ∀ x ∈ n23, R23.scope.names.lookup x = some .local ∨ R23.scope.names.lookup x = some .cell), nd := by decide +kernel, ndn := (by decide +kernel : ((cellsFrom 0 R23.scope.names []).map (·.1)).Nodup), cells := fun n x e => cells_some (.inl (mem_of_lookup e)), dbg := by decide +kernel, np := by decide, nv := rfl, rel := rel23 }⟩
theorem fok24 (T : Top p loose mean mg mb h) (hm : R24 ∈ recsOf p) : ∃ a o fd body ns, FnOk nm h mg 24 f24 a o fd body ns := by
  obtain ⟨a, o, pm, code, doc, h1, h2, h3, h4⟩ := T.fn _ hm
  exact ⟨a, o, _, R24.body, n24, { g := h1, ho := h2, hd := h3, code := h4, hbody := rfl, globals := rfl, builtins := rfl, closure := rfl, kind := rfl, co := rfl, gen := rfl, bind := of1 fun a => rfl, lc := (by decide +kernel : ∀ x ∈ n24, R24.scope.names.lookup x = some .local ∨ R24.scope.names.lookup x = some .cell), nd := by decide +kernel, ndn := (by decide +kernel : ((cellsFrom 0 R24.scope.names []).map (·.1)).Nodup), cells := fun n x e => cells_some (.inl (mem_of_lookup e)), dbg := by decide +kernel, np := by decide, nv := rfl, rel := rel24 }⟩
theorem fok25 (T : Top p loose mean mg mb h) (hm : R25 ∈ recsOf p) : ∃ a o fd body ns, FnOk nm h mg 25 f25 a o fd body ns := by
  obtain ⟨a, o, pm, code, doc, h1, h2, h3, h4⟩ := T.fn _ hm
  exact ⟨a, o, _, R25.body, n25, { g := h1, ho := h2, hd := h3, code := h4, hbody := rfl, globals := rfl, builtins := rfl, closure := rfl, kind := rfl, co := rfl, gen := rfl, bind := of3 fun a b c => rfl, lc := (by decide +kernel : ∀ x ∈ n25, R25.scope.names.lookup x = some .local ∨ R25.scope.names.lookup x = some .cell), nd := by decide +kernel, ndn := (by decide +kernel : ((cellsFrom 0 R25.scope.names []).map (·.1)).Nodup), cells := fun n x e => cells_some (.inl (mem_of_lookup e)), dbg := by decide +kernel, np := by decide, nv := rfl, rel := rel25 }⟩
theorem fok26 (T : Top p loose mean mg mb h) (hm : R26 ∈ recsOf p) : ∃ a o fd body ns, FnOk nm h mg 26 f26 a o fd body ns := by
  obtain ⟨a, o, pm, code, doc, h1, h2, h3, h4⟩ := T.fn _ hm
  exact ⟨a, o, _, R26.body, n26, { g := h1, ho := h2, hd := h3, code := h4, hbody := rfl, globals := rfl, builtins := rfl, closure := rfl, kind := rfl, co := rfl, gen := rfl, bind := of1 fun a => rfl, lc := (by decide +kernel : ∀ x ∈ n26, R26.scope.names.lookup x = some .local ∨ R26.scope.names.lookup x = some .cell), nd := by decide +kernel, ndn := (by decide +kernel : ((cellsFrom 0 R26.scope.names []).map (·.1)).Nodup), cells := fun n x e => cells_some (.inl (mem_of_lookup e)), dbg := by decide +kernel, np := by decide, nv := rfl, rel := rel26 }⟩
theorem fok27 (T : Top p loose mean mg mb h) (hm : R27 ∈ recsOf p) : ∃ a o fd body ns, FnOk nm h mg 27 f27 a o fd body ns := by
  obtain ⟨a, o, pm, code, doc, h1, h2, h3, h4⟩ := T.fn _ hm
  exact ⟨a, o, _, R27.body, n27, { g := h1, ho := h2, hd := h3, code := h4, hbody := rfl, globals := rfl, builtins := rfl, closure := rfl, kind := rfl, co := rfl, gen := rfl, bind := of2 fun a b => rfl, lc := (by decide +kernel : ∀ x ∈ n27, R27.scope.names.lookup x = some .local ∨ R27.scope.names.lookup x = some .cell), nd := by decide +kernel, ndn := (by decide +kernel : ((cellsFrom 0 R27.scope.names []).map (·.1)).Nodup), cells := fun n x e => cells_some (.inl (mem_of_lookup e)), dbg := by decide +kernel, np := by decide, nv := rfl, rel := rel27 }⟩
theorem fok28 (T : Top p loose mean mg mb h) (hm : R28 ∈ recsOf p) : ∃ a o fd body ns, FnOk nm h mg 28 f28 a o fd body ns := by
  obtain ⟨a, o, pm, code, doc, h1, h2, h3, h4⟩ := T.fn _ hm
  exact ⟨a, o, _, R28.body, n28, { g := h1, ho := h2, hd := h3, code := h4, hbody := rfl, globals := rfl, builtins := rfl, closure := rfl, kind := rfl, co := rfl, gen := rfl, bind := of2 fun a b => rfl, lc := (by decide +kernel : ∀ x ∈ n28, R28.scope.names.lookup x = some .local ∨ R28.scope.names.lookup x = some .cell), nd := by decide +kernel, ndn := (by decide +kernel : ((cellsFrom 0 R28.scope.names []).map (·.1)).Nodup), cells := fun n x e => cells_some (.inl (mem_of_lookup e)), dbg := by decide +kernel, np := by decide, nv := rfl, rel := rel28 }⟩
theorem fok29 (T : Top p loose mean mg mb h) (hm : R29 ∈ recsOf p) : ∃ a o fd body ns, FnOk nm h mg 29 f29 a o fd body ns := by
  obtain ⟨a, o, pm, code, doc, h1, h2, h3, h4⟩ := T.fn _ hm
  exact ⟨a, o, _, R29.body, n29, { g := h1, ho := h2, hd := h3, code := h4, hbody := rfl, globals := rfl, builtins := rfl, closure := rfl, kind := rfl, co := rfl, gen := rfl, bind := of1 fun a => rfl, lc := (by decide +kernel : ∀ x ∈ n29, R29.scope.names.lookup x = some .local ∨ R29.scope.names.lookup x = some .cell), nd := by decide +kernel, ndn := (by decide +kernel : ((cellsFrom 0 R29.scope.names []).map (·.1)).Nodup), cells := fun n x e => cells_some (.inl (mem_of_lookup e)), dbg := by decide +kernel, np := by decide, nv := rfl, rel := rel29 }⟩
theorem fok30 (T : Top p loose mean mg mb h) (hm : R30 ∈ recsOf p) : ∃ a o fd body ns, FnOk nm h mg 30 f30 a o fd body ns := by
  obtain ⟨a, o, pm, code, doc, h1, h2, h3, h4⟩ := T.fn _ hm
  exact ⟨a, o, _, R30.body, n30, { g := h1, ho := h2, hd := h3, code := h4, hbody := rfl, globals := rfl, builtins := rfl, closure := rfl, kind := rfl, co := rfl, gen := rfl, bind := of2 fun a b => rfl, lc := (by decide +kernel : ∀ x ∈ n30, R30.scope.names.lookup x = some .local ∨ R30.scope.names.lookup x = some .cell), nd := by decide +kernel, ndn := (by decide +kernel : ((cellsFrom 0 R30.scope.names []).map (·.1)).Nodup), cells := fun n x e => cells_some (.inl (mem_of_lookup e)), dbg := by decide +kernel, np := by decide, nv := rfl, rel := rel30 }⟩
theorem fok31 (T : Top p loose mean mg mb h) (hm : R31 ∈ recsOf p) : ∃ a o fd body ns, FnOk nm h mg 31 f31 a o fd body ns := by
  obtain ⟨a, o, pm, code, doc, h1, h2, h3, h4⟩ := T.fn _ hm
  exact ⟨a, o, _, R31.body, n31, { g := h1, ho := h2, hd := h3, code := h4, hbody := rfl, globals := rfl, builtins := rfl, closure := rfl, kind := rfl, co := rfl, gen := rfl, bind := of1 fun a => rfl, lc := (by decide +kernel : ∀ x ∈ n31, R31.scope.names.lookup x = some .local ∨ R31.scope.names.lookup x = some .cell), nd := by decide +kernel, ndn := (by decide +kernel : ((cellsFrom 0 R31.scope.names []).map (·.1)).Nodup), cells := fun n x e => cells_some (.inl (mem_of_lookup e)), dbg := by decide +kernel, np := by decide, nv := rfl, rel := rel31 }⟩
noncomputable def allRecs : List DefRec := [R0, R1, R2, R3, R4, R5, R6, R7, R10, R11, R12, R13, R16, R17, R18, R19, R21, R22, R23, R24, R25, R26, R27, R28, R29, R30, R31]
theorem mk_gok (T : Top p loose mean mg mb h) (hm : ∀ d ∈ allRecs, d ∈ recsOf p) (hf : ∀ x ∈ [Str.ofString "len", Str.ofString "abs", Str.ofString "max", Str.ofString "any", Str.ofString "list", Str.ofString "range", Str.ofString "enumerate"], mg x = none)
    (ht : ∃ wv, mg (Str.ofString "_law_fields") = some wv ∧ VR [] h fields wv) : GOk nm prog tab h mg mb where
  g := T.g
  b := T.b
  nl := T.nolimit
  len := ⟨hf _ (by decide +kernel), (T.builtins _ (by decide +kernel)).trans (by rfl)⟩
  abs := ⟨hf _ (by decide +kernel), (T.builtins _ (by decide +kernel)).trans (by rfl)⟩
  max := ⟨hf _ (by decide +kernel), (T.builtins _ (by decide +kernel)).trans (by rfl)⟩
  any := ⟨hf _ (by decide +kernel), (T.builtins _ (by decide +kernel)).trans (by rfl)⟩
  list := ⟨hf _ (by decide +kernel), (T.builtins _ (by decide +kernel)).trans (by rfl)⟩
  range := ⟨hf _ (by decide +kernel), (T.builtins _ (by decide +kernel)).trans (by rfl)⟩
  enum := ⟨hf _ (by decide +kernel), (T.builtins _ (by decide +kernel)).trans (by rfl)⟩
  tabs := fun k v e => by
    unfold tab at e
    split at e
    · cases e; exact ht
    · cases e
  fns := fun f fn e => by
    have hl : ∀ i d, allRecs[i]? = some d → d ∈ recsOf p := fun i d e => hm d (List.mem_of_getElem? e)
    match f, e with
    | 0, e => exact Option.some.inj e ▸ fok0 T (hl 0 _ rfl)
    | 1, e => exact Option.some.inj e ▸ fok1 T (hl 1 _ rfl)
    | 2, e => exact Option.some.inj e ▸ fok2 T (hl 2 _ rfl)
    | 3, e => exact Option.some.inj e ▸ fok3 T (hl 3 _ rfl)
    | 4, e => exact Option.some.inj e ▸ fok4 T (hl 4 _ rfl)
    | 5, e => exact Option.some.inj e ▸ fok5 T (hl 5 _ rfl)
    | 6, e => exact Option.some.inj e ▸ fok6 T (hl 6 _ rfl)
    | 7, e => exact Option.some.inj e ▸ fok7 T (hl 7 _ rfl)
    | 10, e => exact Option.some.inj e ▸ fok10 T (hl 8 _ rfl)
    | 11, e => exact Option.some.inj e ▸ fok11 T (hl 9 _ rfl)
    | 12, e => exact Option.some.inj e ▸ fok12 T (hl 10 _ rfl)
    | 13, e => exact Option.some.inj e ▸ fok13 T (hl 11 _ rfl)
    | 16, e => exact Option.some.inj e ▸ fok16 T (hl 12 _ rfl)
    | 17, e => exact Option.some.inj e ▸ fok17 T (hl 13 _ rfl)
    | 18, e => exact Option.some.inj e ▸ fok18 T (hl 14 _ rfl)
    | 19, e => exact Option.some.inj e ▸ fok19 T (hl 15 _ rfl)
    | 21, e => exact Option.some.inj e ▸ fok21 T (hl 16 _ rfl)
    | 22, e => exact Option.some.inj e ▸ fok22 T (hl 17 _ rfl)
    | 23, e => exact Option.some.inj e ▸ fok23 T (hl 18 _ rfl)
    | 24, e => exact Option.some.inj e ▸ fok24 T (hl 19 _ rfl)
    | 25, e => exact Option.some.inj e ▸ fok25 T (hl 20 _ rfl)
    | 26, e => exact Option.some.inj e ▸ fok26 T (hl 21 _ rfl)
    | 27, e => exact Option.some.inj e ▸ fok27 T (hl 22 _ rfl)
    | 28, e => exact Option.some.inj e ▸ fok28 T (hl 23 _ rfl)
    | 29, e => exact Option.some.inj e ▸ fok29 T (hl 24 _ rfl)
    | 30, e => exact Option.some.inj e ▸ fok30 T (hl 25 _ rfl)
    | 31, e => exact Option.some.inj e ▸ fok31 T (hl 26 _ rfl)
    | 8, e => exact nomatch (show none = some fn from e)
    | 9, e => exact nomatch (show none = some fn from e)
    | 14, e => exact nomatch (show none = some fn from e)
    | 15, e => exact nomatch (show none = some fn from e)
    | 20, e => exact nomatch (show none = some fn from e)
    | _ + 32, e => exact nomatch (show none = some fn from e)
end Mine

/-! part Pre -/
namespace Mine
open PySem PyProof.Rows
theorem ints_vrs {h : Heap} : ∀ {vs : List Value} {is : List Int}, IntsAre vs is → VRs [] h (is.map V.int) vs
  | _, _, .nil => .nil
  | _, _, .cons i t r => .cons (.int i t) (ints_vrs r)
theorem arg_vr {P : Params} {h : Heap} {a : Addr} {is : List Int} {vs : List Value} (hL : h.IsList a vs.toArray) (hI : IntsAre vs is) (W : PySem.W.Well P h (.ref a) (PySem.W.ofPy (.list (is.map .int)))) : VR [] h (.lst (is.map V.int)) (.ref a) := by
  have W' : ∃ us : List Value, h.get? a = some { cls := .type "list", data := .seq us.toArray } := by
    generalize hd : PySem.W.ofPy (.list (is.map .int)) = d at W
    cases W with
    | list e _ => exact ⟨_, e⟩
    | _ => cases hd
  obtain ⟨us, e⟩ := W'
  obtain ⟨o, ho, hc, n, hd⟩ := hL
  rw [e] at ho; cases ho
  have hd : Data.seq us.toArray 0 = Data.seq vs.toArray n := hd
  injection hd with h1 h2
  refine .lst ⟨0, ?_⟩ (fun q => nomatch q) (ints_vrs hI)
  rw [e, h1]
theorem mk_gok' {p : Program} {loose : List Str} {mean : ExcName → Option Value} {mg mb : Str → Option Value} {h : Heap} (T : Top p loose mean mg mb h) (hx : allRecs.map (fun d => (recsOf p).find? fun e => e.name == d.name) = allRecs.map some)
    (hf : ∀ x ∈ [Str.ofString "len", Str.ofString "abs", Str.ofString "max", Str.ofString "any", Str.ofString "list", Str.ofString "range", Str.ofString "enumerate"], mg x = none)
    (ht : ∃ wv, mg (Str.ofString "_law_fields") = some wv ∧ VR [] h fields wv) : GOk nm prog tab h mg mb :=
  mk_gok T (fun d hd => List.mem_of_find?_eq_some (List.map_inj_left.mp hx d hd)) hf ht
theorem has_b : PySem.W.WShape.has [] (PySem.W.WData.bool true) PySem.W.WShape.bool = true := by first | rfl | simp [PySem.W.WShape.has] | (unfold PySem.W.WShape.has; rfl)
theorem val_b (args : List PySem.W.WData) : PySem.W.WTm.holds [] (PySem.W.WTm.res.eq (PySem.W.WTm.lit (PySem.W.WData.bool true))) { args := args, res := some (PySem.W.WData.bool true), after := args } = true := by
  unfold PySem.W.WTm.holds
  simp [PySem.W.WTm.value, PySem.W.same]
theorem post_true (args : List PySem.W.WData) : PySem.Challenge.rw_tk0040_01.row.claim.post args (.bool true) args = true := by
  show (PySem.W.WShape.has [] (PySem.W.WData.bool true) PySem.W.WShape.bool && PySem.W.WTm.holds [] (PySem.W.WTm.res.eq (PySem.W.WTm.lit (PySem.W.WData.bool true))) { args := args, res := some (PySem.W.WData.bool true), after := args }) = true
  rw [has_b, val_b]
  rfl
theorem room_caller : Room callerA 100 := ⟨rfl, by decide +kernel, by decide +kernel⟩
end Mine

/-! part Q0 -/
namespace Mine
noncomputable section
variable {β : Type}

/-! the evaluator's twin in closures: small bodies for the kernel -/
inductive Lv where
  | z
  | s (c : Nat → List V → Option V) (m : Nat → List V → List V → Option (V × List V)) (t : Lv)

noncomputable def oB (x : Option (V × St)) (k : V → St → Option β) : Option β := Option.rec (motive := fun _ => Option β) none (fun p => Prod.rec (motive := fun _ => Option β) k p) x
noncomputable def oL (x : Option (List V × St)) (k : List V → St → Option β) : Option β := Option.rec (motive := fun _ => Option β) none (fun p => Prod.rec (motive := fun _ => Option β) k p) x
noncomputable def oV (x : Option V) (k : V → Option β) : Option β := Option.rec (motive := fun _ => Option β) none k x
noncomputable def oW (x : Option Bool) (k : Bool → Option β) : Option β := Option.rec (motive := fun _ => Option β) none k x
noncomputable def oX (x : Option (List V)) (k : List V → Option β) : Option β := Option.rec (motive := fun _ => Option β) none k x
noncomputable def oS (x : Option St) (k : St → Option β) : Option β := Option.rec (motive := fun _ => Option β) none k x
noncomputable def oC (x : Option (List Cp × St)) (k : List Cp → St → Option β) : Option β := Option.rec (motive := fun _ => Option β) none (fun p => Prod.rec (motive := fun _ => Option β) k p) x
noncomputable def o1 (x : Option (Cp × St)) (k : Cp → St → Option β) : Option β := Option.rec (motive := fun _ => Option β) none (fun p => Prod.rec (motive := fun _ => Option β) k p) x
noncomputable def oR (x : Option (List R × List R)) (k : List R → List R → Option β) : Option β := Option.rec (motive := fun _ => Option β) none (fun p => Prod.rec (motive := fun _ => Option β) k p) x
noncomputable def oP (x : Option (List R)) (k : List R → Option β) : Option β := Option.rec (motive := fun _ => Option β) none k x
noncomputable def oT (x : Option (Bool × St)) (kt kf : St → Option β) : Option β := Option.rec (motive := fun _ => Option β) none (fun p => Prod.rec (motive := fun _ => Option β) (fun b st => Bool.rec (motive := fun _ => Option β) (kf st) (kt st) b) p) x
noncomputable def oO (x : Option (Out × St)) (kn : St → Option β) (kr : V → St → Option β) : Option β := Option.rec (motive := fun _ => Option β) none (fun p => Prod.rec (motive := fun _ => Option β) (fun o st => Out.rec (motive := fun _ => Option β) (kn st) (fun v => kr v st) o) p) x
noncomputable def rK (r : R) (kv : V → Option β) (ko : Nat → List V → Option β) : Option β := R.rec (motive := fun _ => Option β) none kv ko r
noncomputable def iK (v : V) (k : Int → Option β) : Option β := V.casesOn (motive_1 := fun _ => Option β) v k (fun _ => none) none (fun _ => none) (fun _ => none)
noncomputable def lK (v : V) (k : List V → Option β) : Option β := V.casesOn (motive_1 := fun _ => Option β) v (fun _ => none) (fun _ => none) none (fun _ => none) k
noncomputable def tK (v : V) (k : List V → Option β) : Option β := V.casesOn (motive_1 := fun _ => Option β) v (fun _ => none) (fun _ => none) none k (fun _ => none)
noncomputable def sK (v : V) (k : List V → Option β) : Option β := V.casesOn (motive_1 := fun _ => Option β) v (fun _ => none) (fun _ => none) none k k
noncomputable def bK (b : Bool) (x : Option β) : Option β := Bool.rec (motive := fun _ => Option β) none x b

/-! registers, lists, numbers -/
noncomputable def getRQ (l : List R) : Nat → R := List.rec (motive := fun _ => Nat → R) (fun _ => .dead) (fun r _ ih n => Nat.rec (motive := fun _ => R) r (fun m _ => ih m) n) l
noncomputable def setRQ (l : List R) : Nat → R → List R := List.rec (motive := fun _ => Nat → R → List R) (fun _ _ => []) (fun a l ih n r => Nat.rec (motive := fun _ => List R) (r :: l) (fun m _ => a :: ih m r) n) l
theorem getRQ_eq : getRQ = getR := by
  funext l n
  induction l generalizing n with
  | nil => cases n <;> rfl
  | cons a l ih => cases n with
    | zero => rfl
    | succ n => exact ih n
theorem setRQ_eq : setRQ = setR := by
  funext l n r
  induction l generalizing n with
  | nil => cases n <;> rfl
  | cons a l ih => cases n with
    | zero => rfl
    | succ n => exact congrArg (a :: ·) (ih n)
noncomputable def putQ (st : St) (x : Nat) (r : R) : St := ⟨setRQ st.r x r, st.n⟩
theorem putQ_eq : putQ = St.put := by
  unfold putQ
  rw [setRQ_eq]
  rfl
noncomputable def getLQ (l : List V) : Nat → Option V := List.rec (motive := fun _ => Nat → Option V) (fun _ => none) (fun r _ ih n => Nat.rec (motive := fun _ => Option V) (some r) (fun m _ => ih m) n) l
noncomputable def setLQ (l : List V) : Nat → V → List V := List.rec (motive := fun _ => Nat → V → List V) (fun _ _ => []) (fun a l ih n r => Nat.rec (motive := fun _ => List V) (r :: l) (fun m _ => a :: ih m r) n) l
theorem getLQ_eq (l : List V) (n : Nat) : getLQ l n = getL l n := by
  induction l generalizing n with
  | nil => cases n <;> rfl
  | cons a l ih => cases n with
    | zero => rfl
    | succ n => exact ih n
theorem setLQ_eq (l : List V) (n : Nat) (r : V) : setLQ l n r = setL l n r := by
  induction l generalizing n with
  | nil => cases n <;> rfl
  | cons a l ih => cases n with
    | zero => rfl
    | succ n => exact congrArg (a :: ·) (ih n)
noncomputable def lenQ (l : List V) : Nat := List.rec (motive := fun _ => Nat) 0 (fun _ _ n => Nat.succ n) l
theorem lenQ_eq (l : List V) : lenQ l = l.length := by
  induction l with
  | nil => rfl
  | cons a l ih => exact congrArg Nat.succ ih
noncomputable def shortQ (l : List V) : Bool := Nat.ble (Nat.succ (lenQ l)) 1000
theorem shortQ_eq (l : List V) : shortQ l = short l := by
  unfold shortQ
  rw [lenQ_eq]
  rfl
noncomputable def snocQ (l : List V) (v : V) : List V := List.rec (motive := fun _ => List V) [v] (fun a _ ih => a :: ih) l
theorem snocQ_eq (l : List V) (v : V) : snocQ l v = l ++ [v] := by
  induction l with
  | nil => rfl
  | cons a l ih => exact congrArg (a :: ·) ih
noncomputable def iEq (i j : Int) : Bool := Int.rec (motive := fun _ => Bool) (fun m => Int.rec (motive := fun _ => Bool) (fun n => Nat.beq m n) (fun _ => false) j) (fun m => Int.rec (motive := fun _ => Bool) (fun _ => false) (fun n => Nat.beq m n) j) i
theorem iEq_eq (i j : Int) : iEq i j = decide (i = j) := by
  cases i <;> cases j
  · rename_i m n
    show Nat.beq m n = _
    rw [Bool.eq_iff_iff, Nat.beq_eq, decide_eq_true_iff]
    exact ⟨fun h => congrArg Int.ofNat h, fun h => Int.ofNat.inj h⟩
  · exact (decide_eq_false (fun h => nomatch h)).symm
  · exact (decide_eq_false (fun h => nomatch h)).symm
  · rename_i m n
    show Nat.beq m n = _
    rw [Bool.eq_iff_iff, Nat.beq_eq, decide_eq_true_iff]
    exact ⟨fun h => congrArg Int.negSucc h, fun h => Int.negSucc.inj h⟩
noncomputable def iLt (i j : Int) : Bool := Int.rec (motive := fun _ => Bool) (fun m => Int.rec (motive := fun _ => Bool) (fun n => Nat.ble (Nat.succ m) n) (fun _ => false) j) (fun m => Int.rec (motive := fun _ => Bool) (fun _ => true) (fun n => Nat.ble (Nat.succ n) m) j) i
theorem iLt_eq (i j : Int) : iLt i j = decide (i < j) := by
  cases i <;> cases j
  · rename_i m n
    show Nat.ble (m + 1) n = _
    rw [Bool.eq_iff_iff, Nat.ble_eq, decide_eq_true_iff]
    exact ⟨fun h => Int.ofNat_lt.mpr h, fun h => Int.ofNat_lt.mp h⟩
  · rename_i m n
    refine (decide_eq_false (fun h => ?_)).symm
    have h1 : (Int.ofNat m : Int) = (m : Int) := rfl
    have h2 := Int.negSucc_eq n
    omega
  · rename_i m n
    refine (decide_eq_true ?_).symm
    have h1 : (Int.ofNat n : Int) = (n : Int) := rfl
    have h2 := Int.negSucc_eq m
    omega
  · rename_i m n
    show Nat.ble (n + 1) m = _
    rw [Bool.eq_iff_iff, Nat.ble_eq, decide_eq_true_iff]
    have h1 := Int.negSucc_eq n
    have h2 := Int.negSucc_eq m
    omega
noncomputable def iLe (i j : Int) : Bool := Bool.rec (motive := fun _ => Bool) true false (iLt j i)
theorem iLe_eq (i j : Int) : iLe i j = decide (i ≤ j) := by
  unfold iLe
  rw [iLt_eq]
  by_cases h : j < i
  · rw [decide_eq_true h, decide_eq_false (by omega)]
  · rw [decide_eq_false h, decide_eq_true (by omega)]
noncomputable def iNe (i j : Int) : Bool := Bool.rec (motive := fun _ => Bool) true false (iEq i j)
theorem iNe_eq (i j : Int) : iNe i j = !decide (i = j) := by
  unfold iNe
  rw [iEq_eq]
  cases decide (i = j) <;> rfl
noncomputable def iGt (i j : Int) : Bool := iLt j i
noncomputable def iGe (i j : Int) : Bool := iLe j i
noncomputable def smallQ (i : Int) : Bool := Int.rec (motive := fun _ => Bool) (fun m => Nat.ble (Nat.succ m) 1152921504606846976) (fun m => Nat.ble (Nat.succ (Nat.succ m)) 1152921504606846976) i
theorem smallQ_eq (i : Int) : smallQ i = small i := by cases i <;> rfl
noncomputable def addQ (i j : Int) : Int := Int.rec (motive := fun _ => Int) (fun m => Int.rec (motive := fun _ => Int) (fun n => .ofNat (Nat.add m n)) (fun n => Int.subNatNat m (Nat.succ n)) j) (fun m => Int.rec (motive := fun _ => Int) (fun n => Int.subNatNat n (Nat.succ m)) (fun n => .negSucc (Nat.succ (Nat.add m n))) j) i
theorem addQ_eq (i j : Int) : addQ i j = i + j := by cases i <;> cases j <;> rfl
noncomputable def mulQ (i j : Int) : Int := Int.rec (motive := fun _ => Int) (fun m => Int.rec (motive := fun _ => Int) (fun n => .ofNat (Nat.mul m n)) (fun n => i * .negSucc n) j) (fun m => .negSucc m * j) i
theorem mulQ_eq (i j : Int) : mulQ i j = i * j := by cases i <;> cases j <;> rfl
noncomputable def modQ (i j : Int) : Int := Int.rec (motive := fun _ => Int) (fun m => Int.rec (motive := fun _ => Int) (fun n => .ofNat (Nat.mod m n)) (fun n => Int.fmod (.ofNat m) (.negSucc n)) j) (fun m => Int.fmod (.negSucc m) j) i
theorem modQ_eq (i j : Int) : modQ i j = i.fmod j := by
  cases i with
  | ofNat m => cases j with
    | ofNat n => cases m with
      | zero => exact congrArg Int.ofNat (Nat.zero_mod n)
      | succ m => rfl
    | negSucc n => rfl
  | negSucc m => rfl

/-! the operations -/
noncomputable def addK (a b : V) : Option V := V.casesOn (motive_1 := fun _ => Option V) a (fun i => iK b fun j => some (.int (addQ i j))) (fun _ => none) none (fun _ => none) (fun xs => binop 0 (.lst xs) b)
noncomputable def subK (a b : V) : Option V := iK a fun i => iK b fun j => some (.int (i - j))
noncomputable def mulK (a b : V) : Option V := V.casesOn (motive_1 := fun _ => Option V) a (fun i => iK b fun j => bK (smallQ i) (bK (smallQ j) (some (.int (mulQ i j))))) (fun _ => none) none (fun _ => none) (fun xs => binop 2 (.lst xs) b)
noncomputable def modK (a b : V) : Option V := iK a fun i => iK b fun j => bK (iNe j 0) (some (.int (modQ i j)))
noncomputable def divK (a b : V) : Option V := binop 3 a b
noncomputable def powK (a b : V) : Option V := binop 5 a b
theorem addK_eq (a b : V) : addK a b = binop 0 a b := by
  cases a with
  | int i => cases b with
    | int j => show some (V.int (addQ i j)) = _; rw [addQ_eq]; rfl
    | _ => rfl
  | lst xs => rfl
  | _ => cases b <;> rfl
theorem subK_eq (a b : V) : subK a b = binop 1 a b := by
  cases a <;> cases b <;> rfl
theorem mulK_eq (a b : V) : mulK a b = binop 2 a b := by
  cases a with
  | int i => cases b with
    | int j =>
      show bK (smallQ i) (bK (smallQ j) (some (.int (mulQ i j)))) = match small i, small j with
        | true, true => some (V.int (i * j))
        | _, _ => none
      rw [mulQ_eq, smallQ_eq, smallQ_eq]
      cases small i <;> cases small j <;> rfl
    | _ => rfl
  | lst xs => rfl
  | _ => cases b <;> rfl
theorem modK_eq (a b : V) : modK a b = binop 4 a b := by
  cases a with
  | int i => cases b with
    | int j =>
      show bK (iNe j 0) (some (.int (modQ i j))) = match j with
        | .ofNat 0 => none
        | _ => some (V.int (i.fmod j))
      rw [modQ_eq]
      cases j with
      | ofNat n => cases n <;> rfl
      | negSucc n => rfl
    | _ => rfl
  | _ => cases b <;> rfl
noncomputable def cmpK (f : Int → Int → Bool) (o : Nat) (a b : V) : Option Bool := V.casesOn (motive_1 := fun _ => Option Bool) a (fun i => iK b fun j => some (f i j)) (fun _ => none) none (fun _ => none) (fun xs => cmpop o (.lst xs) b)
theorem cmpK_eq {f : Int → Int → Bool} {o : Nat} (h : ∀ i j, some (f i j) = cmpop o (.int i) (.int j)) (a b : V) : cmpK f o a b = cmpop o a b := by
  cases a with
  | int i => cases b with
    | int j => exact h i j
    | _ => rfl
  | lst xs => rfl
  | _ => cases b <;> rfl
theorem c0 (i j : Int) : some (iEq i j) = cmpop 0 (.int i) (.int j) := congrArg some (iEq_eq i j)
theorem c1 (i j : Int) : some (iNe i j) = cmpop 1 (.int i) (.int j) := congrArg some (iNe_eq i j)
theorem c2 (i j : Int) : some (iLt i j) = cmpop 2 (.int i) (.int j) := congrArg some (iLt_eq i j)
theorem c3 (i j : Int) : some (iLe i j) = cmpop 3 (.int i) (.int j) := congrArg some (iLe_eq i j)
theorem c4 (i j : Int) : some (iGt i j) = cmpop 4 (.int i) (.int j) := congrArg some (iLt_eq j i)
theorem c5 (i j : Int) : some (iGe i j) = cmpop 5 (.int i) (.int j) := congrArg some (iLe_eq j i)
noncomputable def atQ (vs : List V) (i : Int) : Option V := Int.rec (motive := fun _ => Option V) (fun k => getLQ vs k) (fun k => atIdx vs (.negSucc k)) i
theorem atQ_eq (vs : List V) (i : Int) : atQ vs i = atIdx vs i := by
  cases i with
  | ofNat k => exact getLQ_eq vs k
  | negSucc k => rfl
noncomputable def idxK (b i : V) : Option V := iK i fun i => bK (smallQ i) (sK b fun vs => atQ vs i)
theorem idxK_eq (b i : V) : idxK b i = idx b i := by
  cases i with
  | int i =>
    show bK (smallQ i) (sK b fun vs => atQ vs i) = match small i with
      | true => match b with
        | .lst vs => atIdx vs i
        | .tup vs => atIdx vs i
        | _ => none
      | false => none
    rw [smallQ_eq]
    cases small i with
    | false => rfl
    | true => cases b with
      | tup vs => exact atQ_eq vs i
      | lst vs => exact atQ_eq vs i
      | _ => rfl
  | _ => rfl
end
end Mine

/-! part Q1 -/
namespace Mine
noncomputable section
structure FnQ where
  np : Nat
  nv : Nat
  body : Lv → St → Option (Out × St)

noncomputable def up {α : Type} (f : Lv → St → Option α) : Lv → St → Option α := fun l st => Lv.rec (motive := fun _ => Option α) none (fun _ _ t _ => f t st) l
noncomputable def lvc (l : Lv) : Nat → List V → Option V := Lv.rec (motive := fun _ => Nat → List V → Option V) (fun _ _ => none) (fun c _ _ _ => c) l
noncomputable def lvm (l : Lv) : Nat → List V → List V → Option (V × List V) := Lv.rec (motive := fun _ => Nat → List V → List V → Option (V × List V)) (fun _ _ _ => none) (fun _ m _ _ => m) l

abbrev QE := Lv → St → Option (V × St)
abbrev QT := Lv → St → Option (Bool × St)
abbrev QB := Lv → St → Option (Out × St)
abbrev QL := Lv → St → Option (List V × St)

-- expressions (at the level below)
noncomputable def bInt (i : Int) : QE := fun _ st => some (.int i, st)
noncomputable def bBool (b : Bool) : QE := fun _ st => some (.bool b, st)
noncomputable def bNone : QE := fun _ st => some (.none, st)
noncomputable def bVar (x : Nat) : QE := fun _ st => rK (getRQ st.r x) (fun v => some (v, st)) (fun _ vs => some (.lst vs, putQ st x (.val (.lst vs))))
noncomputable def bGlob (k : Nat) : QE := fun _ st => oV (tab k) fun v => some (v, st)
noncomputable def bBin (f : V → V → Option V) (a b : QE) : QE := fun t st => oB (a t st) fun va st => oB (b t st) fun vb st => oV (f va vb) fun v => some (v, st)
noncomputable def bNeg (a : QE) : QE := fun t st => oB (a t st) fun v st => iK v fun i => some (.int (-i), st)
noncomputable def bCmp (f : V → V → Option Bool) (a b : QE) : QE := fun t st => oB (a t st) fun va st => oB (b t st) fun vb st => oW (f va vb) fun v => some (.bool v, st)
noncomputable def bIte (c : QT) (a b : QE) : QE := fun t st => oT (c t st) (fun st => a t st) (fun st => b t st)
noncomputable def bLen (p : QE) : QE := fun t st => oB (p t st) fun v st => sK v fun vs => bK (shortQ vs) (some (.int (.ofNat (lenQ vs)), st))
noncomputable def bList (p : QE) : QE := fun t st => oB (p t st) fun v st => sK v fun vs => bK (shortQ vs) (some (.lst vs, st))
noncomputable def bAbs (a : QE) : QE := fun t st => oB (a t st) fun v st => iK v fun i => some (.int (.ofNat i.natAbs), st)
noncomputable def bMax (a b : QE) : QE := fun t st => oB (a t st) fun va st => iK va fun i => oB (b t st) fun vb st => iK vb fun j => some (.int (Bool.rec (motive := fun _ => Int) i j (iLt i j)), st)
noncomputable def bAny (a : QE) : QE := fun t st => oB (a t st) fun v st => lK v fun vs => match vBools vs with
  | some bs => some (.bool (bs.any id), st)
  | none => none
noncomputable def bSubV (x : Nat) (i : QE) : QE := fun t st => rK (getRQ st.r x) (fun _ => oB (i t st) fun vi st => rK (getRQ st.r x) (fun b => oV (idxK b vi) fun v => some (v, st)) (fun _ vs => oV (idxK (.lst vs) vi) fun v => some (v, st)))
  (fun _ _ => oB (i t st) fun vi st => rK (getRQ st.r x) (fun b => oV (idxK b vi) fun v => some (v, st)) (fun _ vs => oV (idxK (.lst vs) vi) fun v => some (v, st)))
noncomputable def bSub (a i : QE) : QE := fun t st => oB (a t st) fun b st => oB (i t st) fun vi st => oV (idxK b vi) fun v => some (v, st)
noncomputable def bCut (x : Nat) (hi : QE) : QE := fun t st => match contents (getRQ st.r x) with
  | some _ => match hi t st with
    | some (.int (.ofNat k), st) => match contents (getRQ st.r x) with
      | some (.lst vs) => match Nat.blt k 1000, short vs with
        | true, true => some (.lst (takeN k vs), st)
        | _, _ => none
      | _ => none
    | _ => none
  | none => none
noncomputable def bIndex (x : Nat) (a : QE) : QE := fun t st => match contents (getRQ st.r x) with
  | some (.lst _) => match a t st with
    | some (.lst us, st) => match vInts us, contents (getRQ st.r x) with
      | some is, some (.lst vs) => match short vs, vLists vs with
        | true, some yss => match posOf is yss with
          | some n => some (.int n, st)
          | none => none
        | _, _ => none
      | _, _ => none
    | _ => none
  | _ => none
noncomputable def bTup (xs : QL) : QE := fun t st => oL (xs t st) fun vs st => bK (shortQ vs) (some (.tup vs, st))
noncomputable def bDisp (xs : QL) : QE := fun t st => oL (xs t st) fun vs st => bK (shortQ vs) (some (.lst vs, st))
noncomputable def bCall (f : Nat) (xs : QL) : QE := fun t st => oL (xs t st) fun vs st => oV (lvc t f vs) fun v => some (v, st)
noncomputable def bCallm (f x : Nat) (xs : QL) : QE := fun t st => match getRQ st.r x with
  | .own id us => match xs t st with
    | some (vs, st) => match getRQ st.r x with
      | .own id' us => match Nat.beq id id' with
        | true => match lvm t f us vs with
          | some (v, us') => some (v, putQ st x (.own id us'))
          | none => none
        | false => none
      | _ => none
    | none => none
  | _ => none
noncomputable def bindAllQ (xs : List Nat) : List V → St → Option St := List.rec (motive := fun _ => List V → St → Option St) (fun vs st => List.rec (motive := fun _ => Option St) (some st) (fun _ _ _ => none) vs)
  (fun x _ ih vs st => List.rec (motive := fun _ => Option St) none (fun v vs _ => ih vs (putQ st x (.val v))) vs) xs
noncomputable def tgtQ1 (x : Nat) (v : V) (st : St) : Option St := some (putQ st x (.val v))
noncomputable def tgtQ (xs : List Nat) (v : V) (st : St) : Option St := tK v fun vs => bindAllQ xs vs st
noncomputable def compQ (elt : QE) (tgt : V → St → Option St) (ifs : QT) (t : Lv) (vs : List V) : St → Option (List V) := List.rec (motive := fun _ => St → Option (List V)) (fun _ => some [])
  (fun v _ ih st => oS (tgt v st) fun st => oT (ifs t st) (fun st => oB (elt t st) fun w st => oX (ih st) fun ws => some (w :: ws)) (fun st => ih st)) vs
noncomputable def capQ (r : List R) (xs : List Nat) (l : List R) : List R := List.rec (motive := fun _ => List R) l (fun x _ ih => getRQ r x :: ih) xs
noncomputable def deadsQ (k : Nat) : List R := Nat.rec (motive := fun _ => List R) [] (fun _ l => .dead :: l) k
noncomputable def freezeQ (r : R) : R := R.rec (motive := fun _ => R) .dead (fun v => .val v) (fun _ vs => .val (.lst vs)) r
noncomputable def freezeAllQ (xs : List Nat) : List R → List R := List.rec (motive := fun _ => List R → List R) (fun r => r) (fun x _ ih r => ih (setRQ r x (freezeQ (getRQ r x)))) xs
noncomputable def bComp (elt : QE) (tgt : V → St → Option St) (k : Nat) (src : QL) (ifs : QT) (caps : List Nat) : QE := fun t st => oL (src t st) fun vs st =>
  oX (compQ elt tgt ifs t vs ⟨capQ (freezeAllQ caps st.r) caps (deadsQ k), 0⟩) fun ws => some (.lst ws, ⟨freezeAllQ caps st.r, st.n⟩)
-- tests
noncomputable def tAnd (a b : QT) : QT := fun t st => oT (a t st) (fun st => b t st) (fun st => some (false, st))
noncomputable def tOr (a b : QT) : QT := fun t st => oT (a t st) (fun st => some (true, st)) (fun st => b t st)
noncomputable def tNotin (a : QE) (x : Nat) : QT := fun t st => match a t st with
  | some (.lst us, st) => match vInts us, contents (getRQ st.r x) with
    | some is, some (.lst vs) => match vLists vs with
      | some yss => match posOf is yss with
        | some _ => some (false, st)
        | none => some (true, st)
      | none => none
    | _, _ => none
  | _ => none
noncomputable def tCmp (f : V → V → Option Bool) (a b : QE) : QT := fun t st => oB (a t st) fun va st => oB (b t st) fun vb st => oW (f va vb) fun v => some (v, st)
noncomputable def tAny (a : QE) : QT := fun t st => oB (a t st) fun v st => lK v fun vs => match vBools vs with
  | some bs => some (bs.any id, st)
  | none => none
noncomputable def tsNil : QT := fun _ st => some (true, st)
noncomputable def tsCons (c cs : QT) : QT := fun t st => oT (c t st) (fun st => cs t st) (fun st => some (false, st))
-- lists of expressions
noncomputable def xNil : QL := fun _ st => some ([], st)
noncomputable def xCons (a : QE) (xs : QL) : QL := fun t st => oB (a t st) fun v st => oL (xs t st) fun vs st => some (v :: vs, st)
noncomputable def pVar (x : Nat) : QE := fun _ st => rK (getRQ st.r x) (fun v => some (v, st)) (fun _ vs => some (.lst vs, st))
-- sources
noncomputable def iLst (a : QE) : QL := fun t st => oB (a t st) fun v st => lK v fun vs => bK (shortQ vs) (some (vs, st))
noncomputable def iEnum (a : QE) : QL := fun t st => oB (a t st) fun v st => lK v fun vs => bK (shortQ vs) (some (numbered 0 vs, st))
noncomputable def iRng1 (a : QE) : QL := fun t st => oB (a t st) fun v st => iK v fun i => bK (smallQ i) (bK (Nat.blt i.toNat 1000) (some (intsFrom 0 1 i.toNat, st)))
noncomputable def iRng2 (a b : QE) : QL := fun t st => oB (a t st) fun v st => iK v fun i => oB (b t st) fun v st => iK v fun j => bK (smallQ i) (bK (smallQ j) (bK (Nat.blt (j - i).toNat 1000) (some (intsFrom i 1 (j - i).toNat, st))))
noncomputable def iRng3 (a b c : QE) : QL := fun t st => match a t st with
  | some (.int i, st) => match b t st with
    | some (.int j, st) => match c t st with
      | some (.int (.negSucc 0), st) => match small i, small j, Nat.blt (i - j).toNat 1000 with
        | true, true, true => some (intsFrom i (-1) (i - j).toNat, st)
        | _, _, _ => none
      | _ => none
    | _ => none
  | _ => none
-- components
noncomputable def k1V (y : Nat) : Lv → St → Option (Cp × St) := fun _ st => rK (getRQ st.r y) (fun _ => some (.al y, st)) (fun _ _ => some (.al y, st))
noncomputable def k1F (q : QE) : Lv → St → Option (Cp × St) := fun t st => oB (q t st) fun v st => V.casesOn (motive_1 := fun _ => Option (Cp × St)) v (fun i => some (.r (.val (.int i)), ⟨st.r, st.n⟩)) (fun b => some (.r (.val (.bool b)), ⟨st.r, st.n⟩))
  (some (.r (.val .none), ⟨st.r, st.n⟩)) (fun vs => some (.r (.val (.tup vs)), ⟨st.r, st.n⟩)) (fun vs => some (.r (.own st.n vs), ⟨st.r, Nat.succ st.n⟩))
noncomputable def k1N (q : QE) : Lv → St → Option (Cp × St) := fun t st => oB (q t st) fun v st => some (.r (.val v), ⟨st.r, st.n⟩)
noncomputable def kNil : Lv → St → Option (List Cp × St) := fun _ st => some ([], st)
noncomputable def kCons (c : Lv → St → Option (Cp × St)) (cs : Lv → St → Option (List Cp × St)) : Lv → St → Option (List Cp × St) := fun t st => o1 (c t st) fun c st => oC (cs t st) fun cs st => some (c :: cs, st)
noncomputable def resolveQ (cs : List Cp) : List R → Option (List R × List R) := List.rec (motive := fun _ => List R → Option (List R × List R)) (fun ρ => some ([], ρ))
  (fun c _ ih ρ => Cp.rec (motive := fun _ => Option (List R × List R)) (fun y => rK (getRQ ρ y) (fun v => oR (ih ρ) fun rs ρ => some (.val v :: rs, ρ)) (fun id vs => oR (ih (setRQ ρ y .dead)) fun rs ρ => some (.own id vs :: rs, ρ)))
    (fun r => oR (ih ρ) fun rs ρ => some (r :: rs, ρ)) c) cs
noncomputable def putAllQ (xs : List Nat) : List R → List R → Option (List R) := List.rec (motive := fun _ => List R → List R → Option (List R)) (fun rs ρ => List.rec (motive := fun _ => Option (List R)) (some ρ) (fun _ _ _ => none) rs)
  (fun x _ ih rs ρ => List.rec (motive := fun _ => Option (List R)) none (fun r rs _ => ih rs (setRQ ρ x r)) rs) xs
-- statements (at the level below the block's)
noncomputable def sAsgV (x y : Nat) : QB := fun _ st => rK (getRQ st.r y) (fun v => some (.next, putQ st x (.val v))) (fun id vs => some (.next, ⟨setRQ (setRQ st.r y .dead) x (.own id vs), st.n⟩))
noncomputable def sAsgF (x : Nat) (q : QE) : QB := fun t st => oB (q t st) fun v st => V.casesOn (motive_1 := fun _ => Option (Out × St)) v (fun i => some (.next, putQ st x (.val (.int i)))) (fun b => some (.next, putQ st x (.val (.bool b))))
  (some (.next, putQ st x (.val .none))) (fun vs => some (.next, putQ st x (.val (.tup vs)))) (fun vs => some (.next, ⟨setRQ st.r x (.own st.n vs), Nat.succ st.n⟩))
noncomputable def sAsgN (x : Nat) (q : QE) : QB := fun t st => oB (q t st) fun v st => some (.next, putQ st x (.val v))
noncomputable def sAsgT (xs : List Nat) (cs : Lv → St → Option (List Cp × St)) : QB := fun t st => oC (cs t st) fun cs st => oR (resolveQ cs st.r) fun rs ρ => oP (putAllQ xs rs ρ) fun ρ => some (.next, ⟨ρ, st.n⟩)
noncomputable def sAsgU (xs : List Nat) (q : QE) : QB := fun t st => oB (q t st) fun v st => tK v fun vs => oS (bindAllQ xs vs st) fun st => some (.next, st)
noncomputable def sSetI (x : Nat) (i e : QE) : QB := fun t st => oB (e t st) fun v st => rK (getRQ st.r x) (fun _ => none) fun _ _ => oB (i t st) fun vi st => iK vi fun j => Int.rec (motive := fun _ => Option (Out × St))
  (fun k => rK (getRQ st.r x) (fun _ => none) fun id vs => bK (Nat.ble (Nat.succ k) (lenQ vs)) (bK (shortQ vs) (some (.next, putQ st x (.own id (setLQ vs k v)))))) (fun _ => none) j
noncomputable def sApp (x : Nat) (e : QE) : QB := fun t st => rK (getRQ st.r x) (fun _ => none) fun _ _ => oB (e t st) fun v st => rK (getRQ st.r x) (fun _ => none) fun id vs => bK (shortQ vs) (some (.next, putQ st x (.own id (snocQ vs v))))
noncomputable def sAug (x : Nat) (e : QE) : QB := fun t st => rK (getRQ st.r x) (fun v => iK v fun i => oB (e t st) fun v st => iK v fun j => some (.next, putQ st x (.val (.int (addQ i j))))) (fun _ _ => none)
noncomputable def sIte (c : QT) (a b : QB) : QB := fun t st => oT (c t st) (fun st => a t st) (fun st => b t st)
noncomputable def whileQ (c : QT) (b : QB) (t : Lv) (k : Nat) : St → Option (Out × St) := Nat.rec (motive := fun _ => St → Option (Out × St)) (fun _ => none) (fun _ ih st => oT (c t st) (fun st => oO (b t st) (fun st => ih st) (fun v st => some (.ret v, st))) (fun st => some (.next, st))) k
noncomputable def sLoop (c : QT) (b : QB) : QB := fun t st => whileQ c b t 64 st
noncomputable def eachQ (tgt : V → St → Option St) (b : QB) (t : Lv) (vs : List V) : St → Option (Out × St) := List.rec (motive := fun _ => St → Option (Out × St)) (fun st => some (.next, st)) (fun v _ ih st => oS (tgt v st) fun st => oO (b t st) (fun st => ih st) (fun v st => some (.ret v, st))) vs
noncomputable def sEach (tgt : V → St → Option St) (src : QL) (b : QB) : QB := fun t st => oL (src t st) fun vs st => eachQ tgt b t vs st
noncomputable def sRet (e : QE) : QB := fun t st => oB (e t st) fun v st => some (.ret v, st)
noncomputable def sRaise : QB := fun _ _ => none
noncomputable def wNil : QB := fun _ st => some (.next, st)
noncomputable def wCons (s ss : QB) : QB := fun t st => oO (s t st) (fun st => ss t st) (fun v st => some (.ret v, st))
-- calls
noncomputable def initQ (vs : List V) (l : List R) : List R := List.rec (motive := fun _ => List R) l (fun v _ ih => .val v :: ih) vs
noncomputable def cQ (pg : Nat → Option FnQ) (t : Lv) (f : Nat) (vs : List V) : Option V := Option.rec (motive := fun _ => Option V) none (fun fn => bK (Nat.beq (lenQ vs) fn.np) (oO (fn.body t ⟨initQ vs (deadsQ (fn.nv - fn.np)), 0⟩) (fun _ => some .none) (fun v _ => some v))) (pg f)
noncomputable def mQ (pg : Nat → Option FnQ) (t : Lv) (f : Nat) (us vs : List V) : Option (V × List V) := match pg f with
  | some fn => match Nat.beq (vs.length + 1) fn.np with
    | true => match fn.body t ⟨.own 0 us :: valsOf vs ++ deads (fn.nv - fn.np), 1⟩ with
      | some (.ret v, st) => match getR st.r 0 with
        | .own 0 us' => some (v, us')
        | _ => none
      | _ => none
    | false => none
  | none => none
noncomputable def lvS (pg : Nat → Option FnQ) (_ : Nat) (t : Lv) : Lv := .s (cQ pg t) (mQ pg t) t
noncomputable def lv (pg : Nat → Option FnQ) (n : Nat) : Lv := Nat.rec (motive := fun _ => Lv) .z (lvS pg) n
end
end Mine

/-! part Q2 -/
namespace Mine
noncomputable section
noncomputable def b0 : QB := (wCons (sAsgT [2, 3] (kCons (k1N (up (bTup (xCons (up (bVar 0)) (xCons (up (bInt 1)) (xCons (up (bInt 0)) xNil)))))) (kCons (k1N (up (bTup (xCons (up (bVar 1)) (xCons (up (bInt 0)) (xCons (up (bInt 1)) xNil)))))) kNil))) (up (wCons (sLoop (up (tCmp (cmpK iNe 1) (up (bSubV 3 (up (bInt 0)))) (up (bInt 0)))) (up (wCons (sAsgF 4 (up (bBin divK (up (bSubV 2 (up (bInt 0)))) (up (bSubV 3 (up (bInt 0))))))) (up (wCons (sAsgN 5 (up (bTup (xCons (up (bBin subK (up (bSubV 2 (up (bInt 0)))) (up (bBin mulK (up (bVar 4)) (up (bSubV 3 (up (bInt 0)))))))) (xCons (up (bBin subK (up (bSubV 2 (up (bInt 1)))) (up (bBin mulK (up (bVar 4)) (up (bSubV 3 (up (bInt 1)))))))) (xCons (up (bBin subK (up (bSubV 2 (up (bInt 2)))) (up (bBin mulK (up (bVar 4)) (up (bSubV 3 (up (bInt 2)))))))) xNil)))))) (up (wCons (sAsgT [2, 3] (kCons (k1V 3) (kCons (k1V 5) kNil))) (up wNil)))))))) (up (wCons (sRet (up (bIte (up (tCmp (cmpK iGe 5) (up (bSubV 2 (up (bInt 0)))) (up (bInt 0)))) (up (bVar 2)) (up (bTup (xCons (up (bBin subK (up (bInt 0)) (up (bSubV 2 (up (bInt 0)))))) (xCons (up (bBin subK (up (bInt 0)) (up (bSubV 2 (up (bInt 1)))))) (xCons (up (bBin subK (up (bInt 0)) (up (bSubV 2 (up (bInt 2)))))) xNil)))))))) (up wNil))))))
noncomputable def q0 : FnQ := ⟨2, 6, up b0⟩
noncomputable def b1 : QB := (wCons (sAsgU [2, 3, 4] (up (bCall 0 (xCons (up (bBin modK (up (bVar 0)) (up (bVar 1)))) (xCons (up (bVar 1)) xNil))))) (up (wCons (sRet (up (bIte (up (tCmp (cmpK iEq 0) (up (bVar 2)) (up (bInt 1)))) (up (bBin modK (up (bVar 3)) (up (bVar 1)))) (up bNone)))) (up wNil))))
noncomputable def q1 : FnQ := ⟨2, 5, up b1⟩
noncomputable def b2 : QB := (wCons (sAsgV 2 1) (up (wCons (sLoop (up (tCmp (cmpK iLe 3) (up (bBin mulK (up (bVar 2)) (up (bVar 2)))) (up (bVar 0)))) (up (wCons (sIte (up (tCmp (cmpK iEq 0) (up (bBin modK (up (bVar 0)) (up (bVar 2)))) (up (bInt 0)))) (up (wCons (sRet (up (bVar 2))) (up wNil))) (up wNil)) (up (wCons (sAug 2 (up (bIte (up (tCmp (cmpK iEq 0) (up (bVar 2)) (up (bInt 2)))) (up (bInt 1)) (up (bInt 2))))) (up wNil)))))) (up (wCons (sRet (up (bVar 0))) (up wNil))))))
noncomputable def q2 : FnQ := ⟨2, 3, up b2⟩
noncomputable def b3 : QB := (wCons (sAsgT [1, 2] (kCons (k1F (up (bDisp xNil))) (kCons (k1N (up (bInt 2))) kNil))) (up (wCons (sLoop (up (tCmp (cmpK iGt 4) (up (bVar 0)) (up (bInt 1)))) (up (wCons (sAsgT [2, 3] (kCons (k1N (up (bCall 2 (xCons (up (bVar 0)) (xCons (up (bVar 2)) xNil))))) (kCons (k1N (up (bInt 0))) kNil))) (up (wCons (sLoop (up (tCmp (cmpK iEq 0) (up (bBin modK (up (bVar 0)) (up (bVar 2)))) (up (bInt 0)))) (up (wCons (sAsgT [0, 3] (kCons (k1F (up (bBin divK (up (bVar 0)) (up (bVar 2))))) (kCons (k1F (up (bBin addK (up (bVar 3)) (up (bInt 1))))) kNil))) (up wNil)))) (up (wCons (sApp 1 (up (bTup (xCons (up (bVar 2)) (xCons (up (bVar 3)) xNil))))) (up (wCons (sAsgN 2 (up (bIte (up (tCmp (cmpK iEq 0) (up (bVar 2)) (up (bInt 2)))) (up (bInt 3)) (up (bBin addK (up (bVar 2)) (up (bInt 2))))))) (up wNil)))))))))) (up (wCons (sRet (up (bVar 1))) (up wNil))))))
noncomputable def q3 : FnQ := ⟨1, 4, up b3⟩
noncomputable def b4 : QB := (wCons (sAsgN 1 (up (bLen (pVar 0)))) (up (wCons (sLoop (up (tAnd (up (tCmp (cmpK iGt 4) (up (bVar 1)) (up (bInt 0)))) (up (tCmp (cmpK iEq 0) (up (bSubV 0 (up (bBin subK (up (bVar 1)) (up (bInt 1)))))) (up (bInt 0)))))) (up (wCons (sAsgF 1 (up (bBin subK (up (bVar 1)) (up (bInt 1))))) (up wNil)))) (up (wCons (sRet (up (bList (up (bCut 0 (up (bVar 1))))))) (up wNil))))))
noncomputable def q4 : FnQ := ⟨1, 2, up b4⟩
noncomputable def b5 : QB := (wCons (sRet (up (bBin subK (up (bLen (pVar 0))) (up (bInt 1))))) (up wNil))
noncomputable def q5 : FnQ := ⟨1, 1, up b5⟩
noncomputable def b6 : QB := (wCons (sAsgF 3 (up (bDisp xNil))) (up (wCons (sEach (tgtQ1 4) (iRng1 (up (bMax (up (bLen (pVar 0))) (up (bLen (pVar 1)))))) (up (wCons (sApp 3 (up (bBin modK (up (bBin addK (up (bIte (up (tCmp (cmpK iLt 2) (up (bVar 4)) (up (bLen (pVar 0))))) (up (bSubV 0 (up (bVar 4)))) (up (bInt 0)))) (up (bIte (up (tCmp (cmpK iLt 2) (up (bVar 4)) (up (bLen (pVar 1))))) (up (bSubV 1 (up (bVar 4)))) (up (bInt 0)))))) (up (bVar 2))))) (up wNil)))) (up (wCons (sRet (up (bCall 4 (xCons (up (bVar 3)) xNil)))) (up wNil))))))
noncomputable def q6 : FnQ := ⟨3, 5, up b6⟩
noncomputable def b7 : QB := (wCons (sRet (up (bComp (up (bBin modK (up (bNeg (up (bVar 1)))) (up (bVar 0)))) (tgtQ1 1) 1 (iLst (up (bVar 0))) tsNil [1]))) (up wNil))
noncomputable def q7 : FnQ := ⟨2, 2, up b7⟩
noncomputable def b10 : QB := (wCons (sIte (up (tOr (up (tCmp (cmpK iEq 0) (up (bLen (pVar 0))) (up (bInt 0)))) (up (tCmp (cmpK iEq 0) (up (bLen (pVar 1))) (up (bInt 0)))))) (up (wCons (sRet (up (bDisp xNil))) (up wNil))) (up wNil)) (up (wCons (sAsgF 3 (up (bBin mulK (up (bDisp (xCons (up (bInt 0)) xNil))) (up (bBin subK (up (bBin addK (up (bLen (pVar 0))) (up (bLen (pVar 1))))) (up (bInt 1))))))) (up (wCons (sEach (tgtQ [4, 5]) (iEnum (up (bVar 0))) (up (wCons (sIte (up (tCmp (cmpK iNe 1) (up (bVar 5)) (up (bInt 0)))) (up (wCons (sEach (tgtQ [6, 7]) (iEnum (up (bVar 1))) (up (wCons (sSetI 3 (up (bBin addK (up (bVar 4)) (up (bVar 6)))) (up (bBin modK (up (bBin addK (up (bSubV 3 (up (bBin addK (up (bVar 4)) (up (bVar 6)))))) (up (bBin mulK (up (bVar 5)) (up (bVar 7)))))) (up (bVar 2))))) (up wNil)))) (up wNil))) (up wNil)) (up wNil)))) (up (wCons (sRet (up (bCall 4 (xCons (up (bVar 3)) xNil)))) (up wNil))))))))
noncomputable def q10 : FnQ := ⟨3, 8, up b10⟩
noncomputable def b11 : QB := (wCons (sAsgT [3, 4] (kCons (k1F (up (bList (pVar 0)))) (kCons (k1F (up (bBin mulK (up (bDisp (xCons (up (bInt 0)) xNil))) (up (bMax (up (bInt 0)) (up (bBin addK (up (bBin subK (up (bLen (pVar 0))) (up (bLen (pVar 1))))) (up (bInt 1))))))))) kNil))) (up (wCons (sAsgN 5 (up (bCall 1 (xCons (up (bSubV 1 (up (bNeg (up (bInt 1)))))) (xCons (up (bVar 2)) xNil))))) (up (wCons (sEach (tgtQ1 6) (iRng3 (up (bBin subK (up (bLen (pVar 0))) (up (bLen (pVar 1))))) (up (bNeg (up (bInt 1)))) (up (bNeg (up (bInt 1))))) (up (wCons (sAsgF 7 (up (bBin modK (up (bBin mulK (up (bSubV 3 (up (bBin subK (up (bBin addK (up (bVar 6)) (up (bLen (pVar 1))))) (up (bInt 1)))))) (up (bVar 5)))) (up (bVar 2))))) (up (wCons (sSetI 4 (up (bVar 6)) (up (bVar 7))) (up (wCons (sIte (up (tCmp (cmpK iNe 1) (up (bVar 7)) (up (bInt 0)))) (up (wCons (sEach (tgtQ [8, 9]) (iEnum (up (bVar 1))) (up (wCons (sSetI 3 (up (bBin addK (up (bVar 6)) (up (bVar 8)))) (up (bBin modK (up (bBin subK (up (bSubV 3 (up (bBin addK (up (bVar 6)) (up (bVar 8)))))) (up (bBin mulK (up (bVar 7)) (up (bVar 9)))))) (up (bVar 2))))) (up wNil)))) (up wNil))) (up wNil)) (up wNil)))))))) (up (wCons (sRet (up (bTup (xCons (up (bCall 4 (xCons (up (bVar 4)) xNil))) (xCons (up (bCall 4 (xCons (up (bCut 3 (up (bBin subK (up (bLen (pVar 1))) (up (bInt 1)))))) xNil))) xNil))))) (up wNil))))))))
noncomputable def q11 : FnQ := ⟨3, 10, up b11⟩
noncomputable def b12 : QB := (wCons (sRet (up (bSub (up (bCall 11 (xCons (up (bVar 0)) (xCons (up (bVar 1)) (xCons (up (bVar 2)) xNil))))) (up (bInt 1))))) (up wNil))
noncomputable def q12 : FnQ := ⟨3, 3, up b12⟩
noncomputable def b13 : QB := (wCons (sAsgF 2 (up (bDisp (xCons (up (bInt 1)) xNil)))) (up (wCons (sEach (tgtQ1 3) (iLst (up (bVar 0))) (up (wCons (sAsgN 2 (up (bCall 10 (xCons (up (bVar 2)) (xCons (up (bVar 3)) (xCons (up (bVar 1)) xNil)))))) (up wNil)))) (up (wCons (sRet (up (bVar 2))) (up wNil))))))
noncomputable def q13 : FnQ := ⟨2, 4, up b13⟩
noncomputable def b16 : QB := (wCons (sAsgF 2 (up (bDisp xNil))) (up (wCons (sLoop (up (tCmp (cmpK iGt 4) (up (bVar 0)) (up (bInt 0)))) (up (wCons (sApp 2 (up (bBin modK (up (bVar 0)) (up (bVar 1))))) (up (wCons (sAsgF 0 (up (bBin divK (up (bVar 0)) (up (bVar 1))))) (up wNil)))))) (up (wCons (sRet (up (bCall 4 (xCons (up (bVar 2)) xNil)))) (up wNil))))))
noncomputable def q16 : FnQ := ⟨2, 3, up b16⟩
noncomputable def b17 : QB := (wCons (sRet (up (bBin powK (up (bVar 1)) (up (bCall 5 (xCons (up (bVar 0)) xNil)))))) (up wNil))
noncomputable def q17 : FnQ := ⟨2, 2, up b17⟩
noncomputable def b18 : QB := (wCons (sRet (up (bComp (up (bCall 16 (xCons (up (bVar 1)) (xCons (up (bVar 0)) xNil)))) (tgtQ1 1) 1 (iRng1 (up (bCall 17 (xCons (up (bVar 0)) (xCons (up (bVar 1)) xNil))))) tsNil [1]))) (up wNil))
noncomputable def q18 : FnQ := ⟨2, 2, up b18⟩
noncomputable def b19 : QB := (wCons (sRet (up (bCall 12 (xCons (up (bCall 10 (xCons (up (bVar 0)) (xCons (up (bVar 1)) (xCons (up (bVar 3)) xNil))))) (xCons (up (bVar 2)) (xCons (up (bVar 3)) xNil)))))) (up wNil))
noncomputable def q19 : FnQ := ⟨4, 4, up b19⟩
noncomputable def b21 : QB := (wCons (sIte (up (tCmp (cmpK iLt 2) (up (bVar 1)) (up (bInt 0)))) (up (wCons (sAsgT [0, 1] (kCons (k1N (up (bCall 20 (xCons (up (bVar 0)) (xCons (up (bVar 2)) (xCons (up (bVar 3)) xNil)))))) (kCons (k1N (up (bNeg (up (bVar 1))))) kNil))) (up wNil))) (up wNil)) (up (wCons (sAsgT [4, 5] (kCons (k1F (up (bDisp (xCons (up (bInt 1)) xNil)))) (kCons (k1F (up (bList (pVar 0)))) kNil))) (up (wCons (sLoop (up (tCmp (cmpK iGt 4) (up (bVar 1)) (up (bInt 0)))) (up (wCons (sIte (up (tCmp (cmpK iEq 0) (up (bBin modK (up (bVar 1)) (up (bInt 2)))) (up (bInt 1)))) (up (wCons (sAsgN 4 (up (bCall 19 (xCons (up (bVar 4)) (xCons (up (bVar 5)) (xCons (up (bVar 2)) (xCons (up (bVar 3)) xNil))))))) (up wNil))) (up wNil)) (up (wCons (sAsgF 1 (up (bBin divK (up (bVar 1)) (up (bInt 2))))) (up (wCons (sIte (up (tCmp (cmpK iGt 4) (up (bVar 1)) (up (bInt 0)))) (up (wCons (sAsgN 5 (up (bCall 19 (xCons (up (bVar 5)) (xCons (up (bVar 5)) (xCons (up (bVar 2)) (xCons (up (bVar 3)) xNil))))))) (up wNil))) (up wNil)) (up wNil)))))))) (up (wCons (sRet (up (bVar 4))) (up wNil))))))))
noncomputable def q21 : FnQ := ⟨4, 6, up b21⟩
noncomputable def b22 : QB := (wCons (sIte (up (tCmp (cmpK iEq 0) (up (bLen (pVar 0))) (up (bInt 0)))) (up (wCons sRaise (up wNil))) (up wNil)) (up (wCons (sAsgF 3 (up (bBin subK (up (bCall 17 (xCons (up (bVar 1)) (xCons (up (bVar 2)) xNil)))) (up (bInt 1))))) (up (wCons (sEach (tgtQ [4, 5]) (iLst (up (bCall 3 (xCons (up (bVar 3)) xNil)))) (up (wCons (sEach (tgtQ1 6) (iRng1 (up (bVar 5))) (up (wCons (sIte (up (tCmp (cmpK iEq 0) (up (bCall 21 (xCons (up (bVar 0)) (xCons (up (bBin divK (up (bVar 3)) (up (bVar 4)))) (xCons (up (bVar 1)) (xCons (up (bVar 2)) xNil)))))) (up (bDisp (xCons (up (bInt 1)) xNil))))) (up (wCons (sAsgF 3 (up (bBin divK (up (bVar 3)) (up (bVar 4))))) (up wNil))) (up wNil)) (up wNil)))) (up wNil)))) (up (wCons (sRet (up (bVar 3))) (up wNil))))))))
noncomputable def q22 : FnQ := ⟨3, 7, up b22⟩
noncomputable def b23 : QB := (wCons (sAsgT [3, 4] (kCons (k1F (up (bDisp (xCons (up (bList (pVar 0))) xNil)))) (kCons (k1N (up (bCall 21 (xCons (up (bVar 0)) (xCons (up (bVar 2)) (xCons (up (bVar 1)) (xCons (up (bVar 2)) xNil))))))) kNil))) (up (wCons (sLoop (up (tCmp (cmpK iNe 1) (up (bVar 4)) (up (bSubV 3 (up (bInt 0)))))) (up (wCons (sApp 3 (up (bVar 4))) (up (wCons (sAsgN 4 (up (bCall 21 (xCons (up (bVar 4)) (xCons (up (bVar 2)) (xCons (up (bVar 1)) (xCons (up (bVar 2)) xNil))))))) (up wNil)))))) (up (wCons (sRet (up (bVar 3))) (up wNil))))))
noncomputable def q23 : FnQ := ⟨3, 5, up b23⟩
noncomputable def b24 : QB := (wCons (sRet (up (bIte (up (tCmp (cmpK iGt 4) (up (bLen (pVar 0))) (up (bInt 0)))) (up (bSubV 0 (up (bInt 0)))) (up (bInt 0))))) (up wNil))
noncomputable def q24 : FnQ := ⟨1, 1, up b24⟩
noncomputable def b25 : QB := (wCons (sAsgF 3 (up (bDisp (xCons (up (bDisp (xCons (up (bInt 1)) xNil))) xNil)))) (up (wCons (sEach (tgtQ1 4) (iLst (up (bCall 23 (xCons (up (bVar 0)) (xCons (up (bVar 1)) (xCons (up (bVar 2)) xNil)))))) (up (wCons (sAsgF 5 (up (bBin addK (up (bDisp (xCons (up (bDisp xNil)) xNil))) (up (bVar 3))))) (up (wCons (sEach (tgtQ [6, 7]) (iEnum (up (bVar 3))) (up (wCons (sSetI 5 (up (bVar 6)) (up (bCall 6 (xCons (up (bSubV 5 (up (bVar 6)))) (xCons (up (bCall 7 (xCons (up (bCall 19 (xCons (up (bVar 7)) (xCons (up (bVar 4)) (xCons (up (bVar 1)) (xCons (up (bVar 2)) xNil)))))) (xCons (up (bVar 2)) xNil)))) (xCons (up (bVar 2)) xNil)))))) (up wNil)))) (up (wCons (sAsgV 3 5) (up wNil)))))))) (up (wCons (sRet (up (bComp (up (bCall 24 (xCons (up (bVar 0)) xNil))) (tgtQ1 0) 1 (iLst (up (bVar 3))) tsNil []))) (up wNil))))))
noncomputable def q25 : FnQ := ⟨3, 8, up b25⟩
noncomputable def b26 : QB := (wCons (sAsgN 1 (up (bCall 3 (xCons (up (bVar 0)) xNil)))) (up (wCons (sIte (up (tAny (up (bComp (up (bCmp (cmpK iGt 4) (up (bVar 1)) (up (bInt 1)))) (tgtQ [0, 1]) 2 (iLst (up (bVar 1))) tsNil [])))) (up (wCons (sRet (up (bInt 0))) (up wNil))) (up wNil)) (up (wCons (sRet (up (bIte (up (tCmp (cmpK iEq 0) (up (bBin modK (up (bLen (pVar 1))) (up (bInt 2)))) (up (bInt 0)))) (up (bInt 1)) (up (bNeg (up (bInt 1))))))) (up wNil))))))
noncomputable def q26 : FnQ := ⟨1, 2, up b26⟩
noncomputable def b27 : QB := (wCons (sSetI 0 (up (bInt 1)) (up (bBin addK (up (bSubV 0 (up (bInt 1)))) (up (bInt 1))))) (up (wCons (sIte (up (tCmp (cmpK iLe 3) (up (bSubV 0 (up (bInt 1)))) (up (bLen (up (bSubV 0 (up (bInt 0)))))))) (up (wCons (sRet (up (bBin modK (up (bAbs (up (bSub (up (bSubV 0 (up (bInt 0)))) (up (bBin subK (up (bSubV 0 (up (bInt 1)))) (up (bInt 1)))))))) (up (bVar 1))))) (up wNil))) (up wNil)) (up (wCons (sRet (up (bBin modK (up (bBin addK (up (bBin mulK (up (bInt 5)) (up (bSubV 0 (up (bInt 1)))))) (up (bBin divK (up (bSubV 0 (up (bInt 1)))) (up (bInt 3)))))) (up (bVar 1))))) (up wNil))))))
noncomputable def q27 : FnQ := ⟨2, 2, up b27⟩
noncomputable def b28 : QB := (wCons (sLoop (up (tCmp (cmpK iNe 1) (up (bVar 1)) (up (bInt 0)))) (up (wCons (sAsgT [0, 1] (kCons (k1V 1) (kCons (k1F (up (bBin modK (up (bVar 0)) (up (bVar 1))))) kNil))) (up wNil)))) (up (wCons (sRet (up (bVar 0))) (up wNil))))
noncomputable def q28 : FnQ := ⟨2, 2, up b28⟩
noncomputable def b29 : QB := (wCons (sAsgF 1 (up (bBin addK (up (bBin addK (up (bDisp (xCons (up (bNeg (up (bInt 1)))) xNil))) (up (bBin mulK (up (bDisp (xCons (up (bInt 0)) xNil))) (up (bBin subK (up (bVar 0)) (up (bInt 1)))))))) (up (bDisp (xCons (up (bInt 1)) xNil)))))) (up (wCons (sEach (tgtQ1 2) (iRng2 (up (bInt 1)) (up (bVar 0))) (up (wCons (sIte (up (tCmp (cmpK iEq 0) (up (bBin modK (up (bVar 0)) (up (bVar 2)))) (up (bInt 0)))) (up (wCons (sAsgN 3 (up (bCall 29 (xCons (up (bVar 2)) xNil)))) (up (wCons (sAsgT [4, 5] (kCons (k1V 1) (kCons (k1F (up (bBin mulK (up (bDisp (xCons (up (bInt 0)) xNil))) (up (bBin addK (up (bBin subK (up (bLen (pVar 1))) (up (bLen (pVar 3))))) (up (bInt 1))))))) kNil))) (up (wCons (sEach (tgtQ1 6) (iRng3 (up (bBin subK (up (bLen (pVar 5))) (up (bInt 1)))) (up (bNeg (up (bInt 1)))) (up (bNeg (up (bInt 1))))) (up (wCons (sAsgN 7 (up (bSubV 4 (up (bBin subK (up (bBin addK (up (bVar 6)) (up (bLen (pVar 3))))) (up (bInt 1))))))) (up (wCons (sSetI 5 (up (bVar 6)) (up (bVar 7))) (up (wCons (sEach (tgtQ [8, 9]) (iEnum (up (bVar 3))) (up (wCons (sSetI 4 (up (bBin addK (up (bVar 6)) (up (bVar 8)))) (up (bBin subK (up (bSubV 4 (up (bBin addK (up (bVar 6)) (up (bVar 8)))))) (up (bBin mulK (up (bVar 7)) (up (bVar 9))))))) (up wNil)))) (up wNil)))))))) (up (wCons (sAsgV 1 5) (up wNil))))))))) (up wNil)) (up wNil)))) (up (wCons (sRet (up (bVar 1))) (up wNil))))))
noncomputable def q29 : FnQ := ⟨1, 10, up b29⟩
noncomputable def b30 : QB := (wCons (sAsgN 2 (up (bInt 1))) (up (wCons (sLoop (up (tCmp (cmpK iNe 1) (up (bBin modK (up (bBin subK (up (bBin powK (up (bVar 1)) (up (bVar 2)))) (up (bInt 1)))) (up (bVar 0)))) (up (bInt 0)))) (up (wCons (sAsgF 2 (up (bBin addK (up (bVar 2)) (up (bInt 1))))) (up wNil)))) (up (wCons (sRet (up (bVar 2))) (up wNil))))))
noncomputable def q30 : FnQ := ⟨2, 3, up b30⟩
noncomputable def b31 : QB := (wCons (sAsgF 1 (up (bDisp (xCons (up (bList (up (bCut 0 (up (bInt 2)))))) (xCons (up (bInt 0)) xNil))))) (up (wCons (sAsgU [2, 3] (up (bSub (up (bGlob 0)) (up (bCallm 27 1 (xCons (up (bInt 6)) xNil)))))) (up (wCons (sAsgT [4, 5] (kCons (k1F (up (bList (pVar 3)))) (kCons (k1F (up (bBin powK (up (bVar 2)) (up (bBin subK (up (bLen (pVar 3))) (up (bInt 1))))))) kNil))) (up (wCons (sAsgF 6 (up (bComp (up (bVar 1)) (tgtQ1 1) 1 (iRng2 (up (bInt 1)) (up (bVar 5))) (tsCons (up (tCmp (cmpK iEq 0) (up (bBin modK (up (bBin subK (up (bVar 0)) (up (bInt 1)))) (up (bVar 1)))) (up (bInt 0)))) tsNil) [5]))) (up (wCons (sAsgN 7 (up (bSubV 6 (up (bCallm 27 1 (xCons (up (bLen (pVar 6))) xNil)))))) (up (wCons (sAsgF 8 (up (bComp (up (bVar 3)) (tgtQ1 3) 1 (iLst (up (bCall 18 (xCons (up (bVar 4)) (xCons (up (bVar 2)) xNil))))) (tsCons (up (tAnd (up (tCmp (cmpK iNe 1) (up (bVar 3)) (up (bDisp xNil)))) (up (tCmp (cmpK iEq 0) (up (bCall 22 (xCons (up (bVar 3)) (xCons (up (bVar 1)) (xCons (up (bVar 0)) xNil))))) (up (bVar 2)))))) tsNil) [2, 4, 7]))) (up (wCons (sIte (up (tCmp (cmpK iNe 1) (up (bLen (pVar 8))) (up (bLen (up (bComp (up (bInt 1)) (tgtQ1 1) 1 (iRng2 (up (bInt 1)) (up (bBin addK (up (bVar 7)) (up (bInt 1))))) (tsCons (up (tCmp (cmpK iEq 0) (up (bCall 28 (xCons (up (bVar 0)) (xCons (up (bVar 1)) xNil)))) (up (bInt 1)))) tsNil) [7])))))) (up (wCons (sRet (up (bBool false))) (up wNil))) (up wNil)) (up (wCons (sAsgT [9, 10, 11, 12] (kCons (k1F (up (bDisp xNil))) (kCons (k1F (up (bDisp (xCons (up (bInt 1)) xNil)))) (kCons (k1F (up (bDisp xNil))) (kCons (k1F (up (bDisp xNil))) kNil))))) (up (wCons (sEach (tgtQ1 13) (iLst (up (bVar 8))) (up (wCons (sAsgT [9, 10] (kCons (k1N (up (bCall 6 (xCons (up (bVar 9)) (xCons (up (bVar 13)) (xCons (up (bVar 2)) xNil)))))) (kCons (k1N (up (bCall 19 (xCons (up (bVar 10)) (xCons (up (bVar 13)) (xCons (up (bVar 4)) (xCons (up (bVar 2)) xNil))))))) kNil))) (up (wCons (sAsgN 14 (up (bCall 25 (xCons (up (bVar 13)) (xCons (up (bVar 4)) (xCons (up (bVar 2)) xNil)))))) (up (wCons (sIte (up (tNotin (up (bVar 14)) 11)) (up (wCons (sApp 11 (up (bVar 14))) (up (wCons (sApp 12 (up (bInt 0))) (up wNil))))) (up wNil)) (up (wCons (sAsgN 15 (up (bIndex 11 (up (bVar 14))))) (up (wCons (sSetI 12 (up (bVar 15)) (up (bBin addK (up (bSubV 12 (up (bVar 15)))) (up (bInt 1))))) (up wNil)))))))))))) (up (wCons (sAsgF 16 (up (bBin modK (up (bCall 26 (xCons (up (bVar 7)) xNil))) (up (bVar 2))))) (up (wCons (sIte (up (tOr (up (tCmp (cmpK iNe 1) (up (bVar 9)) (up (bIte (up (tCmp (cmpK iNe 1) (up (bVar 16)) (up (bInt 0)))) (up (bDisp (xCons (up (bVar 16)) xNil))) (up (bDisp xNil)))))) (up (tCmp (cmpK iNe 1) (up (bVar 10)) (up (bIte (up (tCmp (cmpK iEq 0) (up (bVar 7)) (up (bInt 2)))) (up (bDisp (xCons (up (bBin subK (up (bVar 2)) (up (bInt 1)))) xNil))) (up (bDisp (xCons (up (bInt 1)) xNil))))))))) (up (wCons (sRet (up (bBool false))) (up wNil))) (up wNil)) (up (wCons (sAsgN 17 (up (bCall 30 (xCons (up (bVar 7)) (xCons (up (bVar 2)) xNil))))) (up (wCons (sIte (up (tOr (up (tCmp (cmpK iNe 1) (up (bVar 12)) (up (bBin mulK (up (bDisp (xCons (up (bVar 17)) xNil))) (up (bLen (pVar 11))))))) (up (tCmp (cmpK iNe 1) (up (bComp (up (bLen (pVar 0))) (tgtQ1 0) 1 (iLst (up (bVar 11))) tsNil [])) (up (bBin mulK (up (bDisp (xCons (up (bBin addK (up (bVar 17)) (up (bInt 1)))) xNil))) (up (bLen (pVar 11))))))))) (up (wCons (sRet (up (bBool false))) (up wNil))) (up wNil)) (up (wCons (sRet (up (bCmp (cmpK iEq 0) (up (bCall 13 (xCons (up (bVar 11)) (xCons (up (bVar 2)) xNil)))) (up (bComp (up (bBin modK (up (bVar 1)) (up (bVar 0)))) (tgtQ1 1) 1 (iLst (up (bCall 29 (xCons (up (bVar 7)) xNil)))) tsNil [2]))))) (up wNil))))))))))))))))))))))))))))
noncomputable def q31 : FnQ := ⟨1, 18, up b31⟩
noncomputable def progL : List (Option FnQ) := [some q0, some q1, some q2, some q3, some q4, some q5, some q6, some q7, none, none, some q10, some q11, some q12, some q13, none, none, some q16, some q17, some q18, some q19, none, some q21, some q22, some q23, some q24, some q25, some q26, some q27, some q28, some q29, some q30, some q31]
noncomputable def getFQ (l : List (Option FnQ)) : Nat → Option FnQ := List.rec (motive := fun _ => Nat → Option FnQ) (fun _ => none) (fun r _ ih n => Nat.rec (motive := fun _ => Option FnQ) r (fun m _ => ih m) n) l
noncomputable def progQ (k : Nat) : Option FnQ := getFQ progL k
end
end Mine

/-! part Q3 -/
namespace Mine
noncomputable def noSp : Nat → List V → Option V := fun _ _ => none
noncomputable def E0 (n : Nat) : Ev := ev tab prog noSp n
section
variable {pg : Nat → Option FnQ}
noncomputable def Good (pg : Nat → Option FnQ) (n : Nat) : Prop := ∀ k, k ≤ n → lvc (lv pg k) = (E0 k).c ∧ lvm (lv pg k) = (E0 k).m
theorem Good.pred {n : Nat} (G : Good pg (n + 1)) : Good pg n := fun k h => G k (Nat.le_succ_of_le h)
noncomputable def Rp (pg : Nat → Option FnQ) {α : Type} (q : Lv → α) (g : Ev → α) : Prop := ∀ n, Good pg n → q (lv pg n) = g (E0 n)

theorem Rp.e {a : QE} {x : X} (h : Rp pg a (fun ih => ih.e x)) {n : Nat} (G : Good pg n) : a (lv pg n) = (E0 n).e x := h n G
theorem Rp.t {a : QT} {x : X} (h : Rp pg a (fun ih => ih.t x)) {n : Nat} (G : Good pg n) : a (lv pg n) = (E0 n).t x := h n G
theorem Rp.b {a : QB} {x : Ss} (h : Rp pg a (fun ih => ih.b x)) {n : Nat} (G : Good pg n) : a (lv pg n) = (E0 n).b x := h n G
theorem Rp.s {a : QB} {x : S} (h : Rp pg a (fun ih => stmtStep ih x)) {n : Nat} (G : Good pg n) : a (lv pg n) = stmtStep (E0 n) x := h n G
theorem Rp.x {a : QL} {x : Xs} (h : Rp pg a (fun ih => evs ih x)) {n : Nat} (G : Good pg n) : a (lv pg n) = evs (E0 n) x := h n G
theorem Rp.i {a : QL} {x : Src} (h : Rp pg a (fun ih => items ih x)) {n : Nat} (G : Good pg n) : a (lv pg n) = items (E0 n) x := h n G
theorem Rp.p {a : QE} {x : X} (h : Rp pg a (fun ih => peek ih x)) {n : Nat} (G : Good pg n) : a (lv pg n) = peek (E0 n) x := h n G
theorem Rp.ts {a : QT} {x : Xs} (h : Rp pg a (fun ih => tests ih x)) {n : Nat} (G : Good pg n) : a (lv pg n) = tests (E0 n) x := h n G
theorem Rp.k {a : Lv → St → Option (List Cp × St)} {x : Xs} (h : Rp pg a (fun ih => comps ih x)) {n : Nat} (G : Good pg n) : a (lv pg n) = comps (E0 n) x := h n G
theorem Rp.k1 {a : Lv → St → Option (Cp × St)} {x : X} (h : Rp pg a (fun ih => comp1 ih x)) {n : Nat} (G : Good pg n) : a (lv pg n) = comp1 (E0 n) x := h n G
theorem rUpE {f : QE} {x : X} (h : Rp pg f (fun ih => exprStep ih tab x)) : Rp pg (up f) (fun ih => ih.e x) := fun n G => by
  cases n with
  | zero => rfl
  | succ n => exact h n G.pred
theorem rUpT {f : QT} {x : X} (h : Rp pg f (fun ih => testStep ih x)) : Rp pg (up f) (fun ih => ih.t x) := fun n G => by
  cases n with
  | zero => rfl
  | succ n => exact h n G.pred
theorem rUpB {f : QB} {x : Ss} (h : Rp pg f (fun ih => blockStep ih x)) : Rp pg (up f) (fun ih => ih.b x) := fun n G => by
  cases n with
  | zero => rfl
  | succ n => exact h n G.pred

noncomputable def nvar : X → Bool
  | .var _ => false
  | _ => true
-- expressions
theorem rInt {i : Int} : Rp pg (bInt i) (fun ih => exprStep ih tab (.int i)) := fun _ _ => rfl
theorem rBool {b : Bool} : Rp pg (bBool b) (fun ih => exprStep ih tab (.bool b)) := fun _ _ => rfl
theorem rNone : Rp pg bNone (fun ih => exprStep ih tab .none) := fun _ _ => rfl
theorem rVar {x : Nat} : Rp pg (bVar x) (fun ih => exprStep ih tab (.var x)) := fun n _ => by
  funext st
  show rK (getRQ st.r x) (fun v => some (v, st)) (fun _ vs => some (V.lst vs, putQ st x (.val (.lst vs)))) = match getR st.r x with
    | .val v => some (v, st)
    | .own _ vs => some (V.lst vs, st.put x (.val (.lst vs)))
    | .dead => none
  rw [getRQ_eq, putQ_eq]
  cases getR st.r x <;> rfl
theorem rGlob {k : Nat} : Rp pg (bGlob k) (fun ih => exprStep ih tab (.glob k)) := fun n _ => by
  funext st
  show oV (tab k) (fun v => some (v, st)) = match tab k with
    | some v => some (v, st)
    | none => none
  cases tab k <;> rfl
theorem rBin {f : V → V → Option V} {o : Nat} {a b : QE} {xa xb : X} (hf : ∀ a b, f a b = binop o a b) (ha : Rp pg a (fun ih => ih.e xa)) (hb : Rp pg b (fun ih => ih.e xb)) : Rp pg (bBin f a b) (fun ih => exprStep ih tab (.bin o xa xb)) := fun n G => by
  funext st
  show oB (a (lv pg n) st) (fun va st => oB (b (lv pg n) st) fun vb st => oV (f va vb) fun v => some (v, st)) = match (E0 n).e xa st with
    | some (va, st) => match (E0 n).e xb st with
      | some (vb, st) => match binop o va vb with
        | some v => some (v, st)
        | none => none
      | none => none
    | none => none
  rw [ha.e G]
  rcases (E0 n).e xa st with _ | ⟨va, st⟩
  · rfl
  · show oB (b (lv pg n) st) (fun vb st => oV (f va vb) fun v => some (v, st)) = _
    rw [hb.e G]
    show _ = match (E0 n).e xb st with
      | some (vb, st) => match binop o va vb with
        | some v => some (v, st)
        | none => none
      | none => none
    rcases (E0 n).e xb st with _ | ⟨vb, st⟩
    · rfl
    · show oV (f va vb) (fun v => some (v, st)) = match binop o va vb with
        | some v => some (v, st)
        | none => none
      rw [hf]
      cases binop o va vb <;> rfl
theorem divK_eq (a b : V) : divK a b = binop 3 a b := rfl
theorem powK_eq (a b : V) : powK a b = binop 5 a b := rfl
theorem rNeg {a : QE} {xa : X} (ha : Rp pg a (fun ih => ih.e xa)) : Rp pg (bNeg a) (fun ih => exprStep ih tab (.neg xa)) := fun n G => by
  funext st
  show oB (a (lv pg n) st) _ = match (E0 n).e xa st with
    | some (.int i, st) => some (V.int (-i), st)
    | _ => none
  rw [ha.e G]
  rcases (E0 n).e xa st with _ | ⟨v, st⟩
  · rfl
  · cases v <;> rfl
theorem rCmp {f : V → V → Option Bool} {o : Nat} {a b : QE} {xa xb : X} (hf : ∀ a b, f a b = cmpop o a b) (ha : Rp pg a (fun ih => ih.e xa)) (hb : Rp pg b (fun ih => ih.e xb)) : Rp pg (bCmp f a b) (fun ih => exprStep ih tab (.cmp o xa xb)) := fun n G => by
  funext st
  show oB (a (lv pg n) st) (fun va st => oB (b (lv pg n) st) fun vb st => oW (f va vb) fun v => some (V.bool v, st)) = match (E0 n).e xa st with
    | some (va, st) => match (E0 n).e xb st with
      | some (vb, st) => match cmpop o va vb with
        | some v => some (V.bool v, st)
        | none => none
      | none => none
    | none => none
  rw [ha.e G]
  rcases (E0 n).e xa st with _ | ⟨va, st⟩
  · rfl
  · show oB (b (lv pg n) st) (fun vb st => oW (f va vb) fun v => some (V.bool v, st)) = match (E0 n).e xb st with
      | some (vb, st) => match cmpop o va vb with
        | some v => some (V.bool v, st)
        | none => none
      | none => none
    rw [hb.e G]
    rcases (E0 n).e xb st with _ | ⟨vb, st⟩
    · rfl
    · show oW (f va vb) (fun v => some (V.bool v, st)) = match cmpop o va vb with
        | some v => some (V.bool v, st)
        | none => none
      rw [hf]
      cases cmpop o va vb <;> rfl
theorem rTCmp {f : V → V → Option Bool} {o : Nat} {a b : QE} {xa xb : X} (hf : ∀ a b, f a b = cmpop o a b) (ha : Rp pg a (fun ih => ih.e xa)) (hb : Rp pg b (fun ih => ih.e xb)) : Rp pg (tCmp f a b) (fun ih => testStep ih (.cmp o xa xb)) := fun n G => by
  funext st
  show oB (a (lv pg n) st) (fun va st => oB (b (lv pg n) st) fun vb st => oW (f va vb) fun v => some (v, st)) = match (E0 n).e xa st with
    | some (va, st) => match (E0 n).e xb st with
      | some (vb, st) => match cmpop o va vb with
        | some v => some (v, st)
        | none => none
      | none => none
    | none => none
  rw [ha.e G]
  rcases (E0 n).e xa st with _ | ⟨va, st⟩
  · rfl
  · show oB (b (lv pg n) st) (fun vb st => oW (f va vb) fun v => some (v, st)) = match (E0 n).e xb st with
      | some (vb, st) => match cmpop o va vb with
        | some v => some (v, st)
        | none => none
      | none => none
    rw [hb.e G]
    rcases (E0 n).e xb st with _ | ⟨vb, st⟩
    · rfl
    · show oW (f va vb) (fun v => some (v, st)) = match cmpop o va vb with
        | some v => some (v, st)
        | none => none
      rw [hf]
      cases cmpop o va vb <;> rfl
theorem rIte {c : QT} {a b : QE} {xc xa xb : X} (hc : Rp pg c (fun ih => ih.t xc)) (ha : Rp pg a (fun ih => ih.e xa)) (hb : Rp pg b (fun ih => ih.e xb)) : Rp pg (bIte c a b) (fun ih => exprStep ih tab (.ite xc xa xb)) := fun n G => by
  funext st
  show oT (c (lv pg n) st) (fun st => a (lv pg n) st) (fun st => b (lv pg n) st) = match (E0 n).t xc st with
    | some (true, st) => (E0 n).e xa st
    | some (false, st) => (E0 n).e xb st
    | none => none
  rw [hc.t G, ha.e G, hb.e G]
  rcases (E0 n).t xc st with _ | ⟨_ | _, st⟩ <;> rfl
theorem rPVar {x : Nat} : Rp pg (pVar x) (fun ih => peek ih (.var x)) := fun n _ => by
  funext st
  show rK (getRQ st.r x) (fun v => some (v, st)) (fun _ vs => some (V.lst vs, st)) = match contents (getR st.r x) with
    | some v => some (v, st)
    | none => none
  rw [getRQ_eq]
  cases getR st.r x <;> rfl
theorem rPE {q : QE} {x : X} (hx : nvar x = true) (h : Rp pg q (fun ih => ih.e x)) : Rp pg q (fun ih => peek ih x) := fun n G => by
  rw [h.e G]
  cases x <;> first | rfl | cases hx
theorem rLen {p : QE} {x : X} (h : Rp pg p (fun ih => peek ih x)) : Rp pg (bLen p) (fun ih => exprStep ih tab (.len x)) := fun n G => by
  funext st
  show oB (p (lv pg n) st) _ = match peek (E0 n) x st with
    | some (.lst vs, st) => match short vs with
      | true => some (V.int vs.length, st)
      | false => none
    | some (.tup vs, st) => match short vs with
      | true => some (V.int vs.length, st)
      | false => none
    | _ => none
  rw [h.p G]
  rcases peek (E0 n) x st with _ | ⟨v, st⟩
  · rfl
  · cases v with
    | tup vs =>
      show bK (shortQ vs) (some (V.int (.ofNat (lenQ vs)), st)) = match short vs with
        | true => some (V.int vs.length, st)
        | false => none
      rw [shortQ_eq, lenQ_eq]
      cases short vs <;> rfl
    | lst vs =>
      show bK (shortQ vs) (some (V.int (.ofNat (lenQ vs)), st)) = match short vs with
        | true => some (V.int vs.length, st)
        | false => none
      rw [shortQ_eq, lenQ_eq]
      cases short vs <;> rfl
    | _ => rfl
theorem rList {p : QE} {x : X} (h : Rp pg p (fun ih => peek ih x)) : Rp pg (bList p) (fun ih => exprStep ih tab (.list x)) := fun n G => by
  funext st
  show oB (p (lv pg n) st) _ = match peek (E0 n) x st with
    | some (.lst vs, st) => match short vs with
      | true => some (V.lst vs, st)
      | false => none
    | some (.tup vs, st) => match short vs with
      | true => some (V.lst vs, st)
      | false => none
    | _ => none
  rw [h.p G]
  rcases peek (E0 n) x st with _ | ⟨v, st⟩
  · rfl
  · cases v with
    | tup vs =>
      show bK (shortQ vs) (some (V.lst vs, st)) = match short vs with
        | true => some (V.lst vs, st)
        | false => none
      rw [shortQ_eq]
      cases short vs <;> rfl
    | lst vs =>
      show bK (shortQ vs) (some (V.lst vs, st)) = match short vs with
        | true => some (V.lst vs, st)
        | false => none
      rw [shortQ_eq]
      cases short vs <;> rfl
    | _ => rfl
theorem rAbs {a : QE} {xa : X} (ha : Rp pg a (fun ih => ih.e xa)) : Rp pg (bAbs a) (fun ih => exprStep ih tab (.abs xa)) := fun n G => by
  funext st
  show oB (a (lv pg n) st) _ = match (E0 n).e xa st with
    | some (.int i, st) => some (V.int i.natAbs, st)
    | _ => none
  rw [ha.e G]
  rcases (E0 n).e xa st with _ | ⟨v, st⟩
  · rfl
  · cases v <;> rfl
theorem rMax {a b : QE} {xa xb : X} (ha : Rp pg a (fun ih => ih.e xa)) (hb : Rp pg b (fun ih => ih.e xb)) : Rp pg (bMax a b) (fun ih => exprStep ih tab (.max xa xb)) := fun n G => by
  funext st
  show oB (a (lv pg n) st) (fun va st => iK va fun i => oB (b (lv pg n) st) fun vb st => iK vb fun j => some (V.int (Bool.rec (motive := fun _ => Int) i j (iLt i j)), st)) = match (E0 n).e xa st with
    | some (.int i, st) => match (E0 n).e xb st with
      | some (.int j, st) => some (V.int (if i < j then j else i), st)
      | _ => none
    | _ => none
  rw [ha.e G, hb.e G]
  rcases (E0 n).e xa st with _ | ⟨v, st⟩
  · rfl
  · cases v with
    | int i =>
      show oB ((E0 n).e xb st) (fun vb st => iK vb fun j => some (V.int (Bool.rec (motive := fun _ => Int) i j (iLt i j)), st)) = match (E0 n).e xb st with
        | some (.int j, st) => some (V.int (if i < j then j else i), st)
        | _ => none
      rcases (E0 n).e xb st with _ | ⟨v, st⟩
      · rfl
      · cases v with
        | int j =>
          show some (V.int (Bool.rec (motive := fun _ => Int) i j (iLt i j)), st) = some (.int (if i < j then j else i), st)
          rw [iLt_eq]
          by_cases h : i < j
          · rw [decide_eq_true h, if_pos h]
          · rw [decide_eq_false h, if_neg h]
        | _ => rfl
    | _ => rfl
theorem rAny {a : QE} {xa : X} (ha : Rp pg a (fun ih => ih.e xa)) : Rp pg (bAny a) (fun ih => exprStep ih tab (.any xa)) := fun n G => by
  funext st
  show oB (a (lv pg n) st) _ = match (E0 n).e xa st with
    | some (.lst vs, st) => match vBools vs with
      | some bs => some (V.bool (bs.any id), st)
      | none => none
    | _ => none
  rw [ha.e G]
  rcases (E0 n).e xa st with _ | ⟨v, st⟩
  · rfl
  · cases v <;> rfl
theorem rSubV {x : Nat} {i : QE} {xi : X} (hi : Rp pg i (fun ih => ih.e xi)) : Rp pg (bSubV x i) (fun ih => exprStep ih tab (.sub (.var x) xi)) := fun n G => by
  funext st
  show rK (getRQ st.r x) (fun _ => oB (i (lv pg n) st) fun vi st => rK (getRQ st.r x) (fun b => oV (idxK b vi) fun v => some (v, st)) (fun _ vs => oV (idxK (.lst vs) vi) fun v => some (v, st)))
    (fun _ _ => oB (i (lv pg n) st) fun vi st => rK (getRQ st.r x) (fun b => oV (idxK b vi) fun v => some (v, st)) (fun _ vs => oV (idxK (.lst vs) vi) fun v => some (v, st))) = match contents (getR st.r x) with
      | some _ => match (E0 n).e xi st with
        | some (vi, st) => match contents (getR st.r x) with
          | some b => match idx b vi with
            | some v => some (v, st)
            | none => none
          | none => none
        | none => none
      | none => none
  rw [hi.e G, getRQ_eq]
  have key : oB ((E0 n).e xi st) (fun vi st => rK (getR st.r x) (fun b => oV (idxK b vi) fun v => some (v, st)) (fun _ vs => oV (idxK (.lst vs) vi) fun v => some (v, st))) = match (E0 n).e xi st with
        | some (vi, st) => match contents (getR st.r x) with
          | some b => match idx b vi with
            | some v => some (v, st)
            | none => none
          | none => none
        | none => none := by
    rcases (E0 n).e xi st with _ | ⟨vi, st⟩
    · rfl
    · show rK (getR st.r x) (fun b => oV (idxK b vi) fun v => some (v, st)) (fun _ vs => oV (idxK (.lst vs) vi) fun v => some (v, st)) = match contents (getR st.r x) with
        | some b => match idx b vi with
          | some v => some (v, st)
          | none => none
        | none => none
      cases getR st.r x with
      | dead => rfl
      | val b =>
        show oV (idxK b vi) (fun v => some (v, st)) = match idx b vi with
          | some v => some (v, st)
          | none => none
        rw [idxK_eq]
        cases idx b vi <;> rfl
      | own id vs =>
        show oV (idxK (.lst vs) vi) (fun v => some (v, st)) = match idx (.lst vs) vi with
          | some v => some (v, st)
          | none => none
        rw [idxK_eq]
        cases idx (.lst vs) vi <;> rfl
  cases getR st.r x with
  | dead => rfl
  | val b => exact key
  | own id vs => exact key
theorem sub_nv {ih : Ev} {xa xi : X} {st : St} (h : nvar xa = true) : exprStep ih tab (.sub xa xi) st = match ih.e xa st with
      | some (b, st) => match ih.e xi st with
        | some (vi, st) => match idx b vi with
          | some v => some (v, st)
          | none => none
        | none => none
      | none => none := by
  cases xa <;> first | rfl | cases h
theorem rSub {a i : QE} {xa xi : X} (hx : nvar xa = true) (ha : Rp pg a (fun ih => ih.e xa)) (hi : Rp pg i (fun ih => ih.e xi)) : Rp pg (bSub a i) (fun ih => exprStep ih tab (.sub xa xi)) := fun n G => by
  funext st
  dsimp only
  rw [sub_nv hx]
  show oB (a (lv pg n) st) (fun b st => oB (i (lv pg n) st) fun vi st => oV (idxK b vi) fun v => some (v, st)) = _
  rw [ha.e G, hi.e G]
  rcases (E0 n).e xa st with _ | ⟨b, st⟩
  · rfl
  · show oB ((E0 n).e xi st) (fun vi st => oV (idxK b vi) fun v => some (v, st)) = match (E0 n).e xi st with
        | some (vi, st) => match idx b vi with
          | some v => some (v, st)
          | none => none
        | none => none
    rcases (E0 n).e xi st with _ | ⟨vi, st⟩
    · rfl
    · show oV (idxK b vi) (fun v => some (v, st)) = match idx b vi with
          | some v => some (v, st)
          | none => none
      rw [idxK_eq]
      cases idx b vi <;> rfl
theorem rCut {x : Nat} {i : QE} {xi : X} (hi : Rp pg i (fun ih => ih.e xi)) : Rp pg (bCut x i) (fun ih => exprStep ih tab (.cut (.var x) xi)) := fun n G => by
  funext st
  unfold bCut
  rw [hi.e G, getRQ_eq]
  rfl
theorem rIndex {x : Nat} {a : QE} {xa : X} (ha : Rp pg a (fun ih => ih.e xa)) : Rp pg (bIndex x a) (fun ih => exprStep ih tab (.index x xa)) := fun n G => by
  funext st
  unfold bIndex
  rw [ha.e G, getRQ_eq]
  rfl
theorem rXNil : Rp pg xNil (fun ih => evs ih .nil) := fun _ _ => rfl
theorem rXCons {a : QE} {xs : QL} {xa : X} {xx : Xs} (ha : Rp pg a (fun ih => ih.e xa)) (hs : Rp pg xs (fun ih => evs ih xx)) : Rp pg (xCons a xs) (fun ih => evs ih (.cons xa xx)) := fun n G => by
  funext st
  show oB (a (lv pg n) st) (fun v st => oL (xs (lv pg n) st) fun vs st => some (v :: vs, st)) = match (E0 n).e xa st with
    | some (v, st) => match evs (E0 n) xx st with
      | some (vs, st) => some (v :: vs, st)
      | none => none
    | none => none
  rw [ha.e G, hs.x G]
  rcases (E0 n).e xa st with _ | ⟨v, st⟩
  · rfl
  · show oL (evs (E0 n) xx st) (fun vs st => some (v :: vs, st)) = match evs (E0 n) xx st with
      | some (vs, st) => some (v :: vs, st)
      | none => none
    rcases evs (E0 n) xx st with _ | ⟨vs, st⟩ <;> rfl
theorem rTup {xs : QL} {xx : Xs} (hs : Rp pg xs (fun ih => evs ih xx)) : Rp pg (bTup xs) (fun ih => exprStep ih tab (.tup xx)) := fun n G => by
  funext st
  show oL (xs (lv pg n) st) (fun vs st => bK (shortQ vs) (some (V.tup vs, st))) = match evs (E0 n) xx st with
    | some (vs, st) => match short vs with
      | true => some (V.tup vs, st)
      | false => none
    | none => none
  rw [hs.x G]
  rcases evs (E0 n) xx st with _ | ⟨vs, st⟩
  · rfl
  · show bK (shortQ vs) (some (V.tup vs, st)) = match short vs with
      | true => some (V.tup vs, st)
      | false => none
    rw [shortQ_eq]
    cases short vs <;> rfl
theorem rDisp {xs : QL} {xx : Xs} (hs : Rp pg xs (fun ih => evs ih xx)) : Rp pg (bDisp xs) (fun ih => exprStep ih tab (.disp xx)) := fun n G => by
  funext st
  show oL (xs (lv pg n) st) (fun vs st => bK (shortQ vs) (some (V.lst vs, st))) = match evs (E0 n) xx st with
    | some (vs, st) => match short vs with
      | true => some (V.lst vs, st)
      | false => none
    | none => none
  rw [hs.x G]
  rcases evs (E0 n) xx st with _ | ⟨vs, st⟩
  · rfl
  · show bK (shortQ vs) (some (V.lst vs, st)) = match short vs with
      | true => some (V.lst vs, st)
      | false => none
    rw [shortQ_eq]
    cases short vs <;> rfl
theorem rCall {f : Nat} {xs : QL} {xx : Xs} (hs : Rp pg xs (fun ih => evs ih xx)) : Rp pg (bCall f xs) (fun ih => exprStep ih tab (.call f xx)) := fun n G => by
  funext st
  show oL (xs (lv pg n) st) (fun vs st => oV (lvc (lv pg n) f vs) fun v => some (v, st)) = match evs (E0 n) xx st with
    | some (vs, st) => match (E0 n).c f vs with
      | some v => some (v, st)
      | none => none
    | none => none
  rw [hs.x G, (G n (Nat.le_refl n)).1]
  rcases evs (E0 n) xx st with _ | ⟨vs, st⟩
  · rfl
  · show oV ((E0 n).c f vs) (fun v => some (v, st)) = match (E0 n).c f vs with
      | some v => some (v, st)
      | none => none
    cases (E0 n).c f vs <;> rfl
theorem rCallm {f x : Nat} {xs : QL} {xx : Xs} (hs : Rp pg xs (fun ih => evs ih xx)) : Rp pg (bCallm f x xs) (fun ih => exprStep ih tab (.callm f x xx)) := fun n G => by
  funext st
  unfold bCallm
  rw [hs.x G, (G n (Nat.le_refl n)).2, getRQ_eq, putQ_eq]
  rfl
end
end Mine

/-! part Q3b -/
namespace Mine
section
variable {pg : Nat → Option FnQ}
-- tests
theorem rAnd {a b : QT} {xa xb : X} (ha : Rp pg a (fun ih => ih.t xa)) (hb : Rp pg b (fun ih => ih.t xb)) : Rp pg (tAnd a b) (fun ih => testStep ih (.and xa xb)) := fun n G => by
  funext st
  show oT (a (lv pg n) st) (fun st => b (lv pg n) st) (fun st => some (false, st)) = match (E0 n).t xa st with
    | some (true, st) => (E0 n).t xb st
    | some (false, st) => some (false, st)
    | none => none
  rw [ha.t G, hb.t G]
  rcases (E0 n).t xa st with _ | ⟨_ | _, st⟩ <;> rfl
theorem rOr {a b : QT} {xa xb : X} (ha : Rp pg a (fun ih => ih.t xa)) (hb : Rp pg b (fun ih => ih.t xb)) : Rp pg (tOr a b) (fun ih => testStep ih (.or xa xb)) := fun n G => by
  funext st
  show oT (a (lv pg n) st) (fun st => some (true, st)) (fun st => b (lv pg n) st) = match (E0 n).t xa st with
    | some (true, st) => some (true, st)
    | some (false, st) => (E0 n).t xb st
    | none => none
  rw [ha.t G, hb.t G]
  rcases (E0 n).t xa st with _ | ⟨_ | _, st⟩ <;> rfl
theorem rNotin {a : QE} {x : Nat} {xa : X} (ha : Rp pg a (fun ih => ih.e xa)) : Rp pg (tNotin a x) (fun ih => testStep ih (.notin xa x)) := fun n G => by
  funext st
  unfold tNotin
  rw [ha.e G, getRQ_eq]
  rfl
theorem rTAny {a : QE} {xa : X} (ha : Rp pg a (fun ih => ih.e xa)) : Rp pg (tAny a) (fun ih => testStep ih (.any xa)) := fun n G => by
  funext st
  show oB (a (lv pg n) st) _ = match (E0 n).e xa st with
    | some (.lst vs, st) => match vBools vs with
      | some bs => some (bs.any id, st)
      | none => none
    | _ => none
  rw [ha.e G]
  rcases (E0 n).e xa st with _ | ⟨v, st⟩
  · rfl
  · cases v <;> rfl
theorem rTsNil : Rp pg tsNil (fun ih => tests ih .nil) := fun _ _ => rfl
theorem rTsCons {c cs : QT} {xc : X} {xs : Xs} (hc : Rp pg c (fun ih => ih.t xc)) (hs : Rp pg cs (fun ih => tests ih xs)) : Rp pg (tsCons c cs) (fun ih => tests ih (.cons xc xs)) := fun n G => by
  funext st
  show oT (c (lv pg n) st) (fun st => cs (lv pg n) st) (fun st => some (false, st)) = match (E0 n).t xc st with
    | some (true, st) => tests (E0 n) xs st
    | some (false, st) => some (false, st)
    | none => none
  rw [hc.t G, hs.ts G]
  rcases (E0 n).t xc st with _ | ⟨_ | _, st⟩ <;> rfl
-- sources
theorem rILst {a : QE} {xa : X} (ha : Rp pg a (fun ih => ih.e xa)) : Rp pg (iLst a) (fun ih => items ih (.lst xa)) := fun n G => by
  funext st
  show oB (a (lv pg n) st) _ = match (E0 n).e xa st with
    | some (.lst vs, st) => match short vs with
      | true => some (vs, st)
      | false => none
    | _ => none
  rw [ha.e G]
  rcases (E0 n).e xa st with _ | ⟨v, st⟩
  · rfl
  · cases v with
    | lst vs =>
      show bK (shortQ vs) (some (vs, st)) = match short vs with
        | true => some (vs, st)
        | false => none
      rw [shortQ_eq]
      cases short vs <;> rfl
    | _ => rfl
theorem rIEnum {a : QE} {xa : X} (ha : Rp pg a (fun ih => ih.e xa)) : Rp pg (iEnum a) (fun ih => items ih (.enum xa)) := fun n G => by
  funext st
  show oB (a (lv pg n) st) _ = match (E0 n).e xa st with
    | some (.lst vs, st) => match short vs with
      | true => some (numbered 0 vs, st)
      | false => none
    | _ => none
  rw [ha.e G]
  rcases (E0 n).e xa st with _ | ⟨v, st⟩
  · rfl
  · cases v with
    | lst vs =>
      show bK (shortQ vs) (some (numbered 0 vs, st)) = match short vs with
        | true => some (numbered 0 vs, st)
        | false => none
      rw [shortQ_eq]
      cases short vs <;> rfl
    | _ => rfl
theorem rIRng1 {a : QE} {xa : X} (ha : Rp pg a (fun ih => ih.e xa)) : Rp pg (iRng1 a) (fun ih => items ih (.rng1 xa)) := fun n G => by
  funext st
  show oB (a (lv pg n) st) _ = match (E0 n).e xa st with
    | some (.int i, st) => match small i, Nat.blt i.toNat 1000 with
      | true, true => some (intsFrom 0 1 i.toNat, st)
      | _, _ => none
    | _ => none
  rw [ha.e G]
  rcases (E0 n).e xa st with _ | ⟨v, st⟩
  · rfl
  · cases v with
    | int i =>
      show bK (smallQ i) (bK (Nat.blt i.toNat 1000) (some (intsFrom 0 1 i.toNat, st))) = match small i, Nat.blt i.toNat 1000 with
        | true, true => some (intsFrom 0 1 i.toNat, st)
        | _, _ => none
      rw [smallQ_eq]
      cases small i <;> cases Nat.blt i.toNat 1000 <;> rfl
    | _ => rfl
theorem rIRng2 {a b : QE} {xa xb : X} (ha : Rp pg a (fun ih => ih.e xa)) (hb : Rp pg b (fun ih => ih.e xb)) : Rp pg (iRng2 a b) (fun ih => items ih (.rng2 xa xb)) := fun n G => by
  funext st
  show oB (a (lv pg n) st) (fun v st => iK v fun i => oB (b (lv pg n) st) fun v st => iK v fun j => bK (smallQ i) (bK (smallQ j) (bK (Nat.blt (j - i).toNat 1000) (some (intsFrom i 1 (j - i).toNat, st))))) = match (E0 n).e xa st with
    | some (.int i, st) => match (E0 n).e xb st with
      | some (.int j, st) => match small i, small j, Nat.blt (j - i).toNat 1000 with
        | true, true, true => some (intsFrom i 1 (j - i).toNat, st)
        | _, _, _ => none
      | _ => none
    | _ => none
  rw [ha.e G, hb.e G]
  rcases (E0 n).e xa st with _ | ⟨v, st⟩
  · rfl
  · cases v with
    | int i =>
      show oB ((E0 n).e xb st) (fun v st => iK v fun j => bK (smallQ i) (bK (smallQ j) (bK (Nat.blt (j - i).toNat 1000) (some (intsFrom i 1 (j - i).toNat, st))))) = match (E0 n).e xb st with
        | some (.int j, st) => match small i, small j, Nat.blt (j - i).toNat 1000 with
          | true, true, true => some (intsFrom i 1 (j - i).toNat, st)
          | _, _, _ => none
        | _ => none
      rcases (E0 n).e xb st with _ | ⟨v, st⟩
      · rfl
      · cases v with
        | int j =>
          show bK (smallQ i) (bK (smallQ j) (bK (Nat.blt (j - i).toNat 1000) (some (intsFrom i 1 (j - i).toNat, st)))) = match small i, small j, Nat.blt (j - i).toNat 1000 with
            | true, true, true => some (intsFrom i 1 (j - i).toNat, st)
            | _, _, _ => none
          rw [smallQ_eq, smallQ_eq]
          cases small i <;> cases small j <;> cases Nat.blt (j - i).toNat 1000 <;> rfl
        | _ => rfl
    | _ => rfl
theorem rIRng3 {a b c : QE} {xa xb xc : X} (ha : Rp pg a (fun ih => ih.e xa)) (hb : Rp pg b (fun ih => ih.e xb)) (hc : Rp pg c (fun ih => ih.e xc)) : Rp pg (iRng3 a b c) (fun ih => items ih (.rng3 xa xb xc)) := fun n G => by
  funext st
  unfold iRng3
  rw [ha.e G, hb.e G, hc.e G]
  rfl
-- components
theorem rK1V {y : Nat} : Rp pg (k1V y) (fun ih => comp1 ih (.var y)) := fun n _ => by
  funext st
  show rK (getRQ st.r y) (fun _ => some (Cp.al y, st)) (fun _ _ => some (.al y, st)) = match getR st.r y with
    | .dead => none
    | _ => some (.al y, st)
  rw [getRQ_eq]
  cases getR st.r y <;> rfl
theorem comp1_nv {ih : Ev} {x : X} {st : St} (h : nvar x = true) : comp1 ih x st = match ih.e x st with
    | some (v, st) =>
      match (match freshX x, v with | true, .lst vs => (R.own st.n vs, st.n + 1) | _, v => (R.val v, st.n)) with
      | (r, n) => some (.r r, ⟨st.r, n⟩)
    | none => none := by
  cases x <;> first | rfl | cases h
theorem rK1F {q : QE} {x : X} (hx : nvar x = true) (hf : freshX x = true) (h : Rp pg q (fun ih => ih.e x)) : Rp pg (k1F q) (fun ih => comp1 ih x) := fun n G => by
  funext st
  dsimp only
  rw [comp1_nv hx, hf]
  unfold k1F
  rw [h.e G]
  rcases (E0 n).e x st with _ | ⟨v, st⟩
  · rfl
  · cases v <;> rfl
theorem rK1N {q : QE} {x : X} (hx : nvar x = true) (hf : freshX x = false) (h : Rp pg q (fun ih => ih.e x)) : Rp pg (k1N q) (fun ih => comp1 ih x) := fun n G => by
  funext st
  dsimp only
  rw [comp1_nv hx, hf]
  unfold k1N
  rw [h.e G]
  rcases (E0 n).e x st with _ | ⟨v, st⟩
  · rfl
  · cases v <;> rfl
theorem rKNil : Rp pg kNil (fun ih => comps ih .nil) := fun _ _ => rfl
theorem rKCons {c : Lv → St → Option (Cp × St)} {cs : Lv → St → Option (List Cp × St)} {x : X} {xs : Xs} (hc : Rp pg c (fun ih => comp1 ih x)) (hs : Rp pg cs (fun ih => comps ih xs)) : Rp pg (kCons c cs) (fun ih => comps ih (.cons x xs)) := fun n G => by
  funext st
  show o1 (c (lv pg n) st) (fun c st => oC (cs (lv pg n) st) fun cs st => some (c :: cs, st)) = match comp1 (E0 n) x st with
    | some (c, st) => match comps (E0 n) xs st with
      | some (cs, st) => some (c :: cs, st)
      | none => none
    | none => none
  rw [hc.k1 G, hs.k G]
  rcases comp1 (E0 n) x st with _ | ⟨c, st⟩
  · rfl
  · show oC (comps (E0 n) xs st) (fun cs st => some (c :: cs, st)) = match comps (E0 n) xs st with
      | some (cs, st) => some (c :: cs, st)
      | none => none
    rcases comps (E0 n) xs st with _ | ⟨cs, st⟩ <;> rfl
theorem resolveQ_eq : resolveQ = resolve := by
  funext cs
  induction cs with
  | nil => rfl
  | cons c cs ih =>
    funext ρ
    cases c with
    | al y =>
      show rK (getRQ ρ y) (fun v => oR (resolveQ cs ρ) fun rs ρ => some (R.val v :: rs, ρ)) (fun id vs => oR (resolveQ cs (setRQ ρ y .dead)) fun rs ρ => some (.own id vs :: rs, ρ)) = match getR ρ y with
        | .dead => none
        | .val v => match resolve cs ρ with
          | some (rs, ρ) => some (.val v :: rs, ρ)
          | none => none
        | .own id vs => match resolve cs (setR ρ y .dead) with
          | some (rs, ρ) => some (.own id vs :: rs, ρ)
          | none => none
      rw [ih, getRQ_eq, setRQ_eq]
      cases getR ρ y with
      | dead => rfl
      | val v =>
        show oR (resolve cs ρ) (fun rs ρ => some (R.val v :: rs, ρ)) = match resolve cs ρ with
          | some (rs, ρ) => some (.val v :: rs, ρ)
          | none => none
        rcases resolve cs ρ with _ | ⟨rs, ρ⟩ <;> rfl
      | own id vs =>
        show oR (resolve cs (setR ρ y .dead)) (fun rs ρ => some (R.own id vs :: rs, ρ)) = match resolve cs (setR ρ y .dead) with
          | some (rs, ρ) => some (.own id vs :: rs, ρ)
          | none => none
        rcases resolve cs (setR ρ y .dead) with _ | ⟨rs, ρ⟩ <;> rfl
    | r r =>
      show oR (resolveQ cs ρ) (fun rs ρ => some (r :: rs, ρ)) = match resolve cs ρ with
          | some (rs, ρ) => some (r :: rs, ρ)
          | none => none
      rw [ih]
      rcases resolve cs ρ with _ | ⟨rs, ρ⟩ <;> rfl
theorem putAllQ_eq : putAllQ = putAll := by
  funext xs
  induction xs with
  | nil =>
    funext rs ρ
    cases rs <;> rfl
  | cons x xs ih =>
    funext rs ρ
    cases rs with
    | nil => rfl
    | cons r rs =>
      show putAllQ xs rs (setRQ ρ x r) = putAll xs rs (setR ρ x r)
      rw [ih, setRQ_eq]
theorem bindAllQ_eq : bindAllQ = bindAll := by
  funext xs
  induction xs with
  | nil =>
    funext vs st
    cases vs <;> rfl
  | cons x xs ih =>
    funext vs st
    cases vs with
    | nil => rfl
    | cons v vs =>
      show bindAllQ xs vs (putQ st x (.val v)) = bindAll xs vs (st.put x (.val v))
      rw [ih, putQ_eq]
theorem tgtQ1_eq {x : Nat} : tgtQ1 x = bindTgt [x] := by
  funext v st
  show some (putQ st x (.val v)) = some (st.put x (.val v))
  rw [putQ_eq]
noncomputable def long2 : List Nat → Bool
  | _ :: _ :: _ => true
  | _ => false
theorem tgtQ_eq {xs : List Nat} (h : long2 xs = true) : tgtQ xs = bindTgt xs := by
  funext v st
  match xs, h with
  | x :: y :: l, _ =>
    show tK v (fun vs => bindAllQ (x :: y :: l) vs st) = match v with
      | .tup vs => bindAll (x :: y :: l) vs st
      | _ => none
    rw [bindAllQ_eq]
    cases v <;> rfl
theorem compQ_eq {elt : QE} {ifs : QT} {xe : X} {xt : List Nat} {xi : Xs} (he : Rp pg elt (fun ih => ih.e xe)) (hi : Rp pg ifs (fun ih => tests ih xi)) {n : Nat} (G : Good pg n) : ∀ (vs : List V) (st : St), compQ elt (bindTgt xt) ifs (lv pg n) vs st = compLoop (E0 n) xe xt xi vs st
  | [], _ => rfl
  | v :: vs, st => by
    show oS (bindTgt xt v st) (fun st => oT (ifs (lv pg n) st) (fun st => oB (elt (lv pg n) st) fun w st => oX (compQ elt (bindTgt xt) ifs (lv pg n) vs st) fun ws => some (w :: ws)) (fun st => compQ elt (bindTgt xt) ifs (lv pg n) vs st)) = match bindTgt xt v st with
      | some st => match tests (E0 n) xi st with
        | some (true, st) => match (E0 n).e xe st with
          | some (w, st) => match compLoop (E0 n) xe xt xi vs st with
            | some ws => some (w :: ws)
            | none => none
          | none => none
        | some (false, st) => compLoop (E0 n) xe xt xi vs st
        | none => none
      | none => none
    rw [he.e G, hi.ts G]
    rcases bindTgt xt v st with _ | st
    · rfl
    · show oT (tests (E0 n) xi st) (fun st => oB ((E0 n).e xe st) fun w st => oX (compQ elt (bindTgt xt) ifs (lv pg n) vs st) fun ws => some (w :: ws)) (fun st => compQ elt (bindTgt xt) ifs (lv pg n) vs st) = match tests (E0 n) xi st with
        | some (true, st) => match (E0 n).e xe st with
          | some (w, st) => match compLoop (E0 n) xe xt xi vs st with
            | some ws => some (w :: ws)
            | none => none
          | none => none
        | some (false, st) => compLoop (E0 n) xe xt xi vs st
        | none => none
      rcases tests (E0 n) xi st with _ | ⟨_ | _, st⟩
      · rfl
      · exact compQ_eq he hi G vs st
      · show oB ((E0 n).e xe st) (fun w st => oX (compQ elt (bindTgt xt) ifs (lv pg n) vs st) fun ws => some (w :: ws)) = match (E0 n).e xe st with
          | some (w, st) => match compLoop (E0 n) xe xt xi vs st with
            | some ws => some (w :: ws)
            | none => none
          | none => none
        rcases (E0 n).e xe st with _ | ⟨w, st⟩
        · rfl
        · show oX (compQ elt (bindTgt xt) ifs (lv pg n) vs st) (fun ws => some (w :: ws)) = match compLoop (E0 n) xe xt xi vs st with
            | some ws => some (w :: ws)
            | none => none
          rw [compQ_eq he hi G vs st]
          rcases compLoop (E0 n) xe xt xi vs st with _ | ws <;> rfl
theorem freezeQ_eq (r : R) : freezeQ r = freeze r := by cases r <;> rfl
theorem freezeAllQ_eq (xs : List Nat) : ∀ r, freezeAllQ xs r = freezeAll xs r := by
  induction xs with
  | nil => exact fun r => rfl
  | cons x xs ih =>
    intro r
    show freezeAllQ xs (setRQ r x (freezeQ (getRQ r x))) = freezeAll xs (setR r x (freeze (getR r x)))
    rw [ih, freezeQ_eq, setRQ_eq, getRQ_eq]
theorem deadsQ_eq (k : Nat) : deadsQ k = deads k := by
  induction k with
  | zero => rfl
  | succ k ih => exact congrArg (R.dead :: ·) ih
theorem capQ_eq (r : List R) (xs : List Nat) (l : List R) : capQ r xs l = capture r xs ++ l := by
  induction xs with
  | nil => rfl
  | cons x xs ih =>
    show getRQ r x :: capQ r xs l = getR r x :: (capture r xs ++ l)
    rw [ih, getRQ_eq]
theorem rComp {elt : QE} {tgt : V → St → Option St} {src : QL} {ifs : QT} {caps : List Nat} {xe : X} {xt : List Nat} {xs : Src} {xi : Xs} (ht : tgt = bindTgt xt) (he : Rp pg elt (fun ih => ih.e xe)) (hs : Rp pg src (fun ih => items ih xs)) (hi : Rp pg ifs (fun ih => tests ih xi)) :
    Rp pg (bComp elt tgt xt.length src ifs caps) (fun ih => exprStep ih tab (.comp xe xt xs xi caps)) := fun n G => by
  funext st
  show oL (src (lv pg n) st) (fun vs st => oX (compQ elt tgt ifs (lv pg n) vs ⟨capQ (freezeAllQ caps st.r) caps (deadsQ xt.length), 0⟩) fun ws => some (V.lst ws, (⟨freezeAllQ caps st.r, st.n⟩ : St))) = match items (E0 n) xs st with
    | some (vs, st) =>
      match compLoop (E0 n) xe xt xi vs ⟨capture (freezeAll caps st.r) caps ++ deads xt.length, 0⟩ with
      | some ws => some (V.lst ws, (⟨freezeAll caps st.r, st.n⟩ : St))
      | none => none
    | none => none
  rw [hs.i G]
  rcases items (E0 n) xs st with _ | ⟨vs, st⟩
  · rfl
  · show oX (compQ elt tgt ifs (lv pg n) vs ⟨capQ (freezeAllQ caps st.r) caps (deadsQ xt.length), 0⟩) (fun ws => some (V.lst ws, (⟨freezeAllQ caps st.r, st.n⟩ : St))) = match compLoop (E0 n) xe xt xi vs ⟨capture (freezeAll caps st.r) caps ++ deads xt.length, 0⟩ with
      | some ws => some (V.lst ws, (⟨freezeAll caps st.r, st.n⟩ : St))
      | none => none
    subst ht
    rw [compQ_eq he hi G, capQ_eq, freezeAllQ_eq, deadsQ_eq]
    rcases compLoop (E0 n) xe xt xi vs _ with _ | ws <;> rfl
end
end Mine

/-! part Q3c -/
namespace Mine
section
variable {pg : Nat → Option FnQ}
-- statements
theorem rAsgV {x y : Nat} : Rp pg (sAsgV x y) (fun ih => stmtStep ih (.asg x (.var y))) := fun n _ => by
  funext st
  show rK (getRQ st.r y) (fun v => some (Out.next, putQ st x (.val v))) (fun id vs => some (.next, (⟨setRQ (setRQ st.r y .dead) x (.own id vs), st.n⟩ : St))) = match asgStep (E0 n) x (.var y) st with
    | some st => some (.next, st)
    | none => none
  show _ = match (match getR st.r y with
    | .dead => none
    | .val v => some (st.put x (.val v))
    | .own id vs => some (⟨setR (setR st.r y .dead) x (.own id vs), st.n⟩ : St)) with
    | some st => some (Out.next, st)
    | none => none
  rw [getRQ_eq, setRQ_eq, putQ_eq]
  cases getR st.r y <;> rfl
theorem asg_nv {ih : Ev} {x : Nat} {e : X} {st : St} (h : nvar e = true) : stmtStep ih (.asg x e) st = match (match ih.e e st with
    | some (v, st) => match freshX e, v with
      | true, .lst vs => some (⟨setR st.r x (.own st.n vs), st.n + 1⟩ : St)
      | _, v => some (st.put x (.val v))
    | none => none) with
    | some st => some (Out.next, st)
    | none => none := by
  cases e <;> first | rfl | cases h
theorem rAsgF {x : Nat} {q : QE} {e : X} (hx : nvar e = true) (hf : freshX e = true) (h : Rp pg q (fun ih => ih.e e)) : Rp pg (sAsgF x q) (fun ih => stmtStep ih (.asg x e)) := fun n G => by
  funext st
  dsimp only
  rw [asg_nv hx, hf]
  unfold sAsgF
  rw [h.e G, putQ_eq, setRQ_eq]
  rcases (E0 n).e e st with _ | ⟨v, st⟩
  · rfl
  · cases v <;> rfl
theorem rAsgN {x : Nat} {q : QE} {e : X} (hx : nvar e = true) (hf : freshX e = false) (h : Rp pg q (fun ih => ih.e e)) : Rp pg (sAsgN x q) (fun ih => stmtStep ih (.asg x e)) := fun n G => by
  funext st
  dsimp only
  rw [asg_nv hx, hf]
  unfold sAsgN
  rw [h.e G, putQ_eq]
  rcases (E0 n).e e st with _ | ⟨v, st⟩
  · rfl
  · cases v <;> rfl
theorem rAsgT {xs : List Nat} {cs : Lv → St → Option (List Cp × St)} {es : Xs} (h : Rp pg cs (fun ih => comps ih es)) : Rp pg (sAsgT xs cs) (fun ih => stmtStep ih (.asgT xs es)) := fun n G => by
  funext st
  show oC (cs (lv pg n) st) (fun cs st => oR (resolveQ cs st.r) fun rs ρ => oP (putAllQ xs rs ρ) fun ρ => some (Out.next, (⟨ρ, st.n⟩ : St))) = match comps (E0 n) es st with
    | some (cs, st) => match resolve cs st.r with
      | some (rs, ρ) => match putAll xs rs ρ with
        | some ρ => some (.next, ⟨ρ, st.n⟩)
        | none => none
      | none => none
    | none => none
  rw [h.k G, resolveQ_eq, putAllQ_eq]
  rcases comps (E0 n) es st with _ | ⟨cs, st⟩
  · rfl
  · show oR (resolve cs st.r) (fun rs ρ => oP (putAll xs rs ρ) fun ρ => some (Out.next, (⟨ρ, st.n⟩ : St))) = match resolve cs st.r with
      | some (rs, ρ) => match putAll xs rs ρ with
        | some ρ => some (.next, ⟨ρ, st.n⟩)
        | none => none
      | none => none
    rcases resolve cs st.r with _ | ⟨rs, ρ⟩
    · rfl
    · show oP (putAll xs rs ρ) (fun ρ => some (Out.next, (⟨ρ, st.n⟩ : St))) = match putAll xs rs ρ with
        | some ρ => some (.next, ⟨ρ, st.n⟩)
        | none => none
      rcases putAll xs rs ρ with _ | ρ <;> rfl
theorem rAsgU {xs : List Nat} {q : QE} {e : X} (h : Rp pg q (fun ih => ih.e e)) : Rp pg (sAsgU xs q) (fun ih => stmtStep ih (.asgU xs e)) := fun n G => by
  funext st
  show oB (q (lv pg n) st) (fun v st => tK v fun vs => oS (bindAllQ xs vs st) fun st => some (Out.next, st)) = match (E0 n).e e st with
    | some (.tup vs, st) => match bindAll xs vs st with
      | some st => some (.next, st)
      | none => none
    | _ => none
  rw [h.e G, bindAllQ_eq]
  rcases (E0 n).e e st with _ | ⟨v, st⟩
  · rfl
  · cases v with
    | tup vs =>
      show oS (bindAll xs vs st) (fun st => some (Out.next, st)) = match bindAll xs vs st with
        | some st => some (.next, st)
        | none => none
      rcases bindAll xs vs st with _ | st <;> rfl
    | _ => rfl
theorem rSetI {x : Nat} {i q : QE} {xi e : X} (hi : Rp pg i (fun ih => ih.e xi)) (h : Rp pg q (fun ih => ih.e e)) : Rp pg (sSetI x i q) (fun ih => stmtStep ih (.setI x xi e)) := fun n G => by
  funext st
  show oB (q (lv pg n) st) (fun v st => rK (getRQ st.r x) (fun _ => none) fun _ _ => oB (i (lv pg n) st) fun vi st => iK vi fun j => Int.rec (motive := fun _ => Option (Out × St))
    (fun k => rK (getRQ st.r x) (fun _ => none) fun id vs => bK (Nat.ble (Nat.succ k) (lenQ vs)) (bK (shortQ vs) (some (.next, putQ st x (.own id (setLQ vs k v)))))) (fun _ => none) j) = match (E0 n).e e st with
    | some (v, st) => match getR st.r x with
      | .own _ _ => match (E0 n).e xi st with
        | some (.int (.ofNat k), st) => match getR st.r x with
          | .own id vs => match Nat.blt k vs.length, short vs with
            | true, true => some (.next, st.put x (.own id (setL vs k v)))
            | _, _ => none
          | _ => none
        | _ => none
      | _ => none
    | none => none
  rw [h.e G, hi.e G, getRQ_eq, putQ_eq]
  rcases (E0 n).e e st with _ | ⟨v, st⟩
  · rfl
  · show rK (getR st.r x) (fun _ => none) (fun _ _ => oB ((E0 n).e xi st) fun vi st => iK vi fun j => Int.rec (motive := fun _ => Option (Out × St))
      (fun k => rK (getR st.r x) (fun _ => none) fun id vs => bK (Nat.ble (Nat.succ k) (lenQ vs)) (bK (shortQ vs) (some (.next, st.put x (.own id (setLQ vs k v)))))) (fun _ => none) j) = match getR st.r x with
      | .own _ _ => match (E0 n).e xi st with
        | some (.int (.ofNat k), st) => match getR st.r x with
          | .own id vs => match Nat.blt k vs.length, short vs with
            | true, true => some (.next, st.put x (.own id (setL vs k v)))
            | _, _ => none
          | _ => none
        | _ => none
      | _ => none
    cases getR st.r x with
    | dead => rfl
    | val _ => rfl
    | own _ _ =>
      show oB ((E0 n).e xi st) (fun vi st => iK vi fun j => Int.rec (motive := fun _ => Option (Out × St))
        (fun k => rK (getR st.r x) (fun _ => none) fun id vs => bK (Nat.ble (Nat.succ k) (lenQ vs)) (bK (shortQ vs) (some (.next, st.put x (.own id (setLQ vs k v)))))) (fun _ => none) j) = match (E0 n).e xi st with
        | some (.int (.ofNat k), st) => match getR st.r x with
          | .own id vs => match Nat.blt k vs.length, short vs with
            | true, true => some (.next, st.put x (.own id (setL vs k v)))
            | _, _ => none
          | _ => none
        | _ => none
      rcases (E0 n).e xi st with _ | ⟨w, st⟩
      · rfl
      · cases w with
        | int j => cases j with
          | ofNat k =>
            show rK (getR st.r x) (fun _ => none) (fun id vs => bK (Nat.ble (Nat.succ k) (lenQ vs)) (bK (shortQ vs) (some (Out.next, st.put x (.own id (setLQ vs k v)))))) = match getR st.r x with
              | .own id vs => match Nat.blt k vs.length, short vs with
                | true, true => some (.next, st.put x (.own id (setL vs k v)))
                | _, _ => none
              | _ => none
            cases getR st.r x with
            | dead => rfl
            | val _ => rfl
            | own id vs =>
              show bK (Nat.ble (Nat.succ k) (lenQ vs)) (bK (shortQ vs) (some (Out.next, st.put x (.own id (setLQ vs k v))))) = match Nat.blt k vs.length, short vs with
                | true, true => some (.next, st.put x (.own id (setL vs k v)))
                | _, _ => none
              rw [lenQ_eq, shortQ_eq, setLQ_eq]
              show bK (Nat.blt k vs.length) _ = _
              cases Nat.blt k vs.length <;> cases short vs <;> rfl
          | negSucc k => rfl
        | _ => rfl
theorem rApp {x : Nat} {q : QE} {e : X} (h : Rp pg q (fun ih => ih.e e)) : Rp pg (sApp x q) (fun ih => stmtStep ih (.app x e)) := fun n G => by
  funext st
  show rK (getRQ st.r x) (fun _ => none) (fun _ _ => oB (q (lv pg n) st) fun v st => rK (getRQ st.r x) (fun _ => none) fun id vs => bK (shortQ vs) (some (Out.next, putQ st x (.own id (snocQ vs v))))) = match getR st.r x with
    | .own _ _ => match (E0 n).e e st with
      | some (v, st) => match getR st.r x with
        | .own id vs => match short vs with
          | true => some (.next, st.put x (.own id (vs ++ [v])))
          | false => none
        | _ => none
      | none => none
    | _ => none
  rw [h.e G, getRQ_eq, putQ_eq]
  cases getR st.r x with
  | dead => rfl
  | val _ => rfl
  | own _ _ =>
    show oB ((E0 n).e e st) (fun v st => rK (getR st.r x) (fun _ => none) fun id vs => bK (shortQ vs) (some (Out.next, st.put x (.own id (snocQ vs v))))) = match (E0 n).e e st with
      | some (v, st) => match getR st.r x with
        | .own id vs => match short vs with
          | true => some (.next, st.put x (.own id (vs ++ [v])))
          | false => none
        | _ => none
      | none => none
    rcases (E0 n).e e st with _ | ⟨v, st⟩
    · rfl
    · show rK (getR st.r x) (fun _ => none) (fun id vs => bK (shortQ vs) (some (Out.next, st.put x (.own id (snocQ vs v))))) = match getR st.r x with
        | .own id vs => match short vs with
          | true => some (.next, st.put x (.own id (vs ++ [v])))
          | false => none
        | _ => none
      cases getR st.r x with
      | dead => rfl
      | val _ => rfl
      | own id vs =>
        show bK (shortQ vs) (some (Out.next, st.put x (.own id (snocQ vs v)))) = match short vs with
          | true => some (.next, st.put x (.own id (vs ++ [v])))
          | false => none
        rw [shortQ_eq, snocQ_eq]
        cases short vs <;> rfl
theorem rAug {x : Nat} {q : QE} {e : X} (h : Rp pg q (fun ih => ih.e e)) : Rp pg (sAug x q) (fun ih => stmtStep ih (.aug x e)) := fun n G => by
  funext st
  show rK (getRQ st.r x) (fun v => iK v fun i => oB (q (lv pg n) st) fun v st => iK v fun j => some (Out.next, putQ st x (.val (.int (addQ i j))))) (fun _ _ => none) = match getR st.r x with
    | .val (.int i) => match (E0 n).e e st with
      | some (.int j, st) => some (.next, st.put x (.val (.int (i + j))))
      | _ => none
    | _ => none
  rw [h.e G, getRQ_eq, putQ_eq]
  cases getR st.r x with
  | dead => rfl
  | own _ _ => rfl
  | val v => cases v with
    | int i =>
      show oB ((E0 n).e e st) (fun v st => iK v fun j => some (Out.next, st.put x (.val (.int (addQ i j))))) = match (E0 n).e e st with
        | some (.int j, st) => some (.next, st.put x (.val (.int (i + j))))
        | _ => none
      rcases (E0 n).e e st with _ | ⟨w, st⟩
      · rfl
      · cases w with
        | int j =>
          show some (Out.next, st.put x (.val (.int (addQ i j)))) = some (.next, st.put x (.val (.int (i + j))))
          rw [addQ_eq]
        | _ => rfl
    | _ => rfl
theorem rSIte {c : QT} {a b : QB} {xc : X} {xa xb : Ss} (hc : Rp pg c (fun ih => ih.t xc)) (ha : Rp pg a (fun ih => ih.b xa)) (hb : Rp pg b (fun ih => ih.b xb)) : Rp pg (sIte c a b) (fun ih => stmtStep ih (.ite xc xa xb)) := fun n G => by
  funext st
  show oT (c (lv pg n) st) (fun st => a (lv pg n) st) (fun st => b (lv pg n) st) = match (E0 n).t xc st with
    | some (true, st) => (E0 n).b xa st
    | some (false, st) => (E0 n).b xb st
    | none => none
  rw [hc.t G, ha.b G, hb.b G]
  rcases (E0 n).t xc st with _ | ⟨_ | _, st⟩ <;> rfl
theorem whileQ_eq {c : QT} {b : QB} {xc : X} {xb : Ss} {n : Nat} (hc : c (lv pg n) = (E0 n).t xc) (hb : b (lv pg n) = (E0 n).b xb) : ∀ (k : Nat) (st : St), whileQ c b (lv pg n) k st = whileLoop (E0 n) xc xb k st
  | 0, _ => rfl
  | k + 1, st => by
    show oT (c (lv pg n) st) (fun st => oO (b (lv pg n) st) (fun st => whileQ c b (lv pg n) k st) (fun v st => some (Out.ret v, st))) (fun st => some (.next, st)) = match (E0 n).t xc st with
      | some (false, st) => some (.next, st)
      | some (true, st) => match (E0 n).b xb st with
        | some (.next, st) => whileLoop (E0 n) xc xb k st
        | some (.ret v, st) => some (.ret v, st)
        | none => none
      | none => none
    rw [hc]
    rcases (E0 n).t xc st with _ | ⟨_ | _, st⟩
    · rfl
    · rfl
    · show oO (b (lv pg n) st) (fun st => whileQ c b (lv pg n) k st) (fun v st => some (Out.ret v, st)) = match (E0 n).b xb st with
        | some (.next, st) => whileLoop (E0 n) xc xb k st
        | some (.ret v, st) => some (.ret v, st)
        | none => none
      rw [hb]
      rcases (E0 n).b xb st with _ | ⟨_ | v, st⟩
      · rfl
      · exact whileQ_eq hc hb k st
      · rfl
theorem rLoop {c : QT} {b : QB} {xc : X} {xb : Ss} (hc : Rp pg c (fun ih => ih.t xc)) (hb : Rp pg b (fun ih => ih.b xb)) : Rp pg (sLoop c b) (fun ih => stmtStep ih (.loop xc xb)) := fun n G => by
  funext st
  exact whileQ_eq (hc.t G) (hb.b G) 64 st
theorem eachQ_eq {xt : List Nat} {b : QB} {xb : Ss} {n : Nat} (hb : b (lv pg n) = (E0 n).b xb) : ∀ (vs : List V) (st : St), eachQ (bindTgt xt) b (lv pg n) vs st = eachLoop (E0 n) xt xb vs st
  | [], _ => rfl
  | v :: vs, st => by
    show oS (bindTgt xt v st) (fun st => oO (b (lv pg n) st) (fun st => eachQ (bindTgt xt) b (lv pg n) vs st) (fun v st => some (Out.ret v, st))) = match bindTgt xt v st with
      | some st => match (E0 n).b xb st with
        | some (.next, st) => eachLoop (E0 n) xt xb vs st
        | some (.ret v, st) => some (.ret v, st)
        | none => none
      | none => none
    rcases bindTgt xt v st with _ | st
    · rfl
    · show oO (b (lv pg n) st) (fun st => eachQ (bindTgt xt) b (lv pg n) vs st) (fun v st => some (Out.ret v, st)) = match (E0 n).b xb st with
        | some (.next, st) => eachLoop (E0 n) xt xb vs st
        | some (.ret v, st) => some (.ret v, st)
        | none => none
      rw [hb]
      rcases (E0 n).b xb st with _ | ⟨_ | v, st⟩
      · rfl
      · exact eachQ_eq hb vs st
      · rfl
theorem rEach {tgt : V → St → Option St} {src : QL} {b : QB} {xt : List Nat} {xs : Src} {xb : Ss} (ht : tgt = bindTgt xt) (hs : Rp pg src (fun ih => items ih xs)) (hb : Rp pg b (fun ih => ih.b xb)) : Rp pg (sEach tgt src b) (fun ih => stmtStep ih (.each xt xs xb)) := fun n G => by
  funext st
  subst ht
  show oL (src (lv pg n) st) (fun vs st => eachQ (bindTgt xt) b (lv pg n) vs st) = match items (E0 n) xs st with
    | some (vs, st) => eachLoop (E0 n) xt xb vs st
    | none => none
  rw [hs.i G]
  rcases items (E0 n) xs st with _ | ⟨vs, st⟩
  · rfl
  · exact eachQ_eq (hb.b G) vs st
theorem rRet {q : QE} {e : X} (h : Rp pg q (fun ih => ih.e e)) : Rp pg (sRet q) (fun ih => stmtStep ih (.ret e)) := fun n G => by
  funext st
  show oB (q (lv pg n) st) (fun v st => some (Out.ret v, st)) = match (E0 n).e e st with
    | some (v, st) => some (.ret v, st)
    | none => none
  rw [h.e G]
  rcases (E0 n).e e st with _ | ⟨v, st⟩ <;> rfl
theorem rRaise : Rp pg sRaise (fun ih => stmtStep ih .raise) := fun _ _ => rfl
theorem rWNil : Rp pg wNil (fun ih => blockStep ih .nil) := fun _ _ => rfl
theorem rWCons {s ss : QB} {x : S} {xs : Ss} (h : Rp pg s (fun ih => stmtStep ih x)) (hs : Rp pg ss (fun ih => ih.b xs)) : Rp pg (wCons s ss) (fun ih => blockStep ih (.cons x xs)) := fun n G => by
  funext st
  show oO (s (lv pg n) st) (fun st => ss (lv pg n) st) (fun v st => some (Out.ret v, st)) = match stmtStep (E0 n) x st with
    | some (.next, st) => (E0 n).b xs st
    | some (.ret v, st) => some (.ret v, st)
    | none => none
  rw [h.s G, hs.b G]
  rcases stmtStep (E0 n) x st with _ | ⟨_ | v, st⟩ <;> rfl
-- calls
theorem initQ_eq (vs : List V) (l : List R) : initQ vs l = valsOf vs ++ l := by
  induction vs with
  | nil => rfl
  | cons v vs ih => exact congrArg (R.val v :: ·) ih
theorem good_all (h : ∀ f, (prog f = none ∧ pg f = none) ∨ ∃ fn fq, prog f = some fn ∧ pg f = some fq ∧ fq.np = fn.np ∧ fq.nv = fn.nv ∧ Rp pg fq.body (fun ih => ih.b fn.body)) : ∀ n, Good pg n
  | 0 => fun k hk => by
    obtain rfl : k = 0 := by omega
    exact ⟨rfl, rfl⟩
  | n + 1 => fun k hk => by
    have G := good_all h n
    by_cases hn : k ≤ n
    · exact G k hn
    obtain rfl : k = n + 1 := by omega
    refine ⟨?_, ?_⟩
    · funext f vs
      show Option.rec (motive := fun _ => Option V) none (fun fn => bK (Nat.beq (lenQ vs) fn.np) (oO (fn.body (lv pg n) ⟨initQ vs (deadsQ (fn.nv - fn.np)), 0⟩) (fun _ => some .none) (fun v _ => some v))) (pg f) = match prog f with
        | some fn => match Nat.beq vs.length fn.np with
          | true => match (E0 n).b fn.body ⟨valsOf vs ++ deads (fn.nv - fn.np), 0⟩ with
            | some (.ret v, _) => some v
            | some (.next, _) => some .none
            | none => none
          | false => none
        | none => none
      rcases h f with ⟨h1, h2⟩ | ⟨fn, fq, h1, h2, h3, h4, h5⟩
      · rw [h1, h2]
      · rw [h1, h2]
        show bK (Nat.beq (lenQ vs) fq.np) (oO (fq.body (lv pg n) ⟨initQ vs (deadsQ (fq.nv - fq.np)), 0⟩) (fun _ => some V.none) (fun v _ => some v)) = match Nat.beq vs.length fn.np with
          | true => match (E0 n).b fn.body ⟨valsOf vs ++ deads (fn.nv - fn.np), 0⟩ with
            | some (.ret v, _) => some v
            | some (.next, _) => some .none
            | none => none
          | false => none
        rw [h3, h4, h5.b G, initQ_eq, deadsQ_eq, lenQ_eq]
        cases Nat.beq vs.length fn.np with
        | false => rfl
        | true =>
          show oO ((E0 n).b fn.body ⟨valsOf vs ++ deads (fn.nv - fn.np), 0⟩) (fun _ => some V.none) (fun v _ => some v) = match (E0 n).b fn.body ⟨valsOf vs ++ deads (fn.nv - fn.np), 0⟩ with
            | some (.ret v, _) => some v
            | some (.next, _) => some .none
            | none => none
          rcases (E0 n).b fn.body ⟨valsOf vs ++ deads (fn.nv - fn.np), 0⟩ with _ | ⟨_ | v, st⟩ <;> rfl
    · funext f us vs
      show mQ pg (lv pg n) f us vs = methStep (E0 n) prog f us vs
      unfold mQ methStep
      rcases h f with ⟨h1, h2⟩ | ⟨fn, fq, h1, h2, h3, h4, h5⟩
      · rw [h1, h2]
      · rw [h1, h2]
        dsimp only
        rw [h3, h4, h5.b G] <;> rfl
end
end Mine

/-! part Q4 -/
namespace Mine
theorem rep0 : Rp progQ (up b0) (fun ih => ih.b f0.body) := rUpB (rWCons (rAsgT (rKCons (rK1N rfl rfl (rUpE (rTup (rXCons (rUpE rVar) (rXCons (rUpE rInt) (rXCons (rUpE rInt) rXNil)))))) (rKCons (rK1N rfl rfl (rUpE (rTup (rXCons (rUpE rVar) (rXCons (rUpE rInt) (rXCons (rUpE rInt) rXNil)))))) rKNil))) (rUpB (rWCons (rLoop (rUpT (rTCmp (cmpK_eq c1) (rUpE (rSubV (rUpE rInt))) (rUpE rInt))) (rUpB (rWCons (rAsgF rfl rfl (rUpE (rBin divK_eq (rUpE (rSubV (rUpE rInt))) (rUpE (rSubV (rUpE rInt)))))) (rUpB (rWCons (rAsgN rfl rfl (rUpE (rTup (rXCons (rUpE (rBin subK_eq (rUpE (rSubV (rUpE rInt))) (rUpE (rBin mulK_eq (rUpE rVar) (rUpE (rSubV (rUpE rInt))))))) (rXCons (rUpE (rBin subK_eq (rUpE (rSubV (rUpE rInt))) (rUpE (rBin mulK_eq (rUpE rVar) (rUpE (rSubV (rUpE rInt))))))) (rXCons (rUpE (rBin subK_eq (rUpE (rSubV (rUpE rInt))) (rUpE (rBin mulK_eq (rUpE rVar) (rUpE (rSubV (rUpE rInt))))))) rXNil)))))) (rUpB (rWCons (rAsgT (rKCons rK1V (rKCons rK1V rKNil))) (rUpB rWNil)))))))) (rUpB (rWCons (rRet (rUpE (rIte (rUpT (rTCmp (cmpK_eq c5) (rUpE (rSubV (rUpE rInt))) (rUpE rInt))) (rUpE rVar) (rUpE (rTup (rXCons (rUpE (rBin subK_eq (rUpE rInt) (rUpE (rSubV (rUpE rInt))))) (rXCons (rUpE (rBin subK_eq (rUpE rInt) (rUpE (rSubV (rUpE rInt))))) (rXCons (rUpE (rBin subK_eq (rUpE rInt) (rUpE (rSubV (rUpE rInt))))) rXNil)))))))) (rUpB rWNil))))))
theorem rep1 : Rp progQ (up b1) (fun ih => ih.b f1.body) := rUpB (rWCons (rAsgU (rUpE (rCall (rXCons (rUpE (rBin modK_eq (rUpE rVar) (rUpE rVar))) (rXCons (rUpE rVar) rXNil))))) (rUpB (rWCons (rRet (rUpE (rIte (rUpT (rTCmp (cmpK_eq c0) (rUpE rVar) (rUpE rInt))) (rUpE (rBin modK_eq (rUpE rVar) (rUpE rVar))) (rUpE rNone)))) (rUpB rWNil))))
theorem rep2 : Rp progQ (up b2) (fun ih => ih.b f2.body) := rUpB (rWCons rAsgV (rUpB (rWCons (rLoop (rUpT (rTCmp (cmpK_eq c3) (rUpE (rBin mulK_eq (rUpE rVar) (rUpE rVar))) (rUpE rVar))) (rUpB (rWCons (rSIte (rUpT (rTCmp (cmpK_eq c0) (rUpE (rBin modK_eq (rUpE rVar) (rUpE rVar))) (rUpE rInt))) (rUpB (rWCons (rRet (rUpE rVar)) (rUpB rWNil))) (rUpB rWNil)) (rUpB (rWCons (rAug (rUpE (rIte (rUpT (rTCmp (cmpK_eq c0) (rUpE rVar) (rUpE rInt))) (rUpE rInt) (rUpE rInt)))) (rUpB rWNil)))))) (rUpB (rWCons (rRet (rUpE rVar)) (rUpB rWNil))))))
theorem rep3 : Rp progQ (up b3) (fun ih => ih.b f3.body) := rUpB (rWCons (rAsgT (rKCons (rK1F rfl rfl (rUpE (rDisp rXNil))) (rKCons (rK1N rfl rfl (rUpE rInt)) rKNil))) (rUpB (rWCons (rLoop (rUpT (rTCmp (cmpK_eq c4) (rUpE rVar) (rUpE rInt))) (rUpB (rWCons (rAsgT (rKCons (rK1N rfl rfl (rUpE (rCall (rXCons (rUpE rVar) (rXCons (rUpE rVar) rXNil))))) (rKCons (rK1N rfl rfl (rUpE rInt)) rKNil))) (rUpB (rWCons (rLoop (rUpT (rTCmp (cmpK_eq c0) (rUpE (rBin modK_eq (rUpE rVar) (rUpE rVar))) (rUpE rInt))) (rUpB (rWCons (rAsgT (rKCons (rK1F rfl rfl (rUpE (rBin divK_eq (rUpE rVar) (rUpE rVar)))) (rKCons (rK1F rfl rfl (rUpE (rBin addK_eq (rUpE rVar) (rUpE rInt)))) rKNil))) (rUpB rWNil)))) (rUpB (rWCons (rApp (rUpE (rTup (rXCons (rUpE rVar) (rXCons (rUpE rVar) rXNil))))) (rUpB (rWCons (rAsgN rfl rfl (rUpE (rIte (rUpT (rTCmp (cmpK_eq c0) (rUpE rVar) (rUpE rInt))) (rUpE rInt) (rUpE (rBin addK_eq (rUpE rVar) (rUpE rInt)))))) (rUpB rWNil)))))))))) (rUpB (rWCons (rRet (rUpE rVar)) (rUpB rWNil))))))
theorem rep4 : Rp progQ (up b4) (fun ih => ih.b f4.body) := rUpB (rWCons (rAsgN rfl rfl (rUpE (rLen rPVar))) (rUpB (rWCons (rLoop (rUpT (rAnd (rUpT (rTCmp (cmpK_eq c4) (rUpE rVar) (rUpE rInt))) (rUpT (rTCmp (cmpK_eq c0) (rUpE (rSubV (rUpE (rBin subK_eq (rUpE rVar) (rUpE rInt))))) (rUpE rInt))))) (rUpB (rWCons (rAsgF rfl rfl (rUpE (rBin subK_eq (rUpE rVar) (rUpE rInt)))) (rUpB rWNil)))) (rUpB (rWCons (rRet (rUpE (rList (rPE rfl (rUpE (rCut (rUpE rVar))))))) (rUpB rWNil))))))
theorem rep5 : Rp progQ (up b5) (fun ih => ih.b f5.body) := rUpB (rWCons (rRet (rUpE (rBin subK_eq (rUpE (rLen rPVar)) (rUpE rInt)))) (rUpB rWNil))
theorem rep6 : Rp progQ (up b6) (fun ih => ih.b f6.body) := rUpB (rWCons (rAsgF rfl rfl (rUpE (rDisp rXNil))) (rUpB (rWCons (rEach tgtQ1_eq (rIRng1 (rUpE (rMax (rUpE (rLen rPVar)) (rUpE (rLen rPVar))))) (rUpB (rWCons (rApp (rUpE (rBin modK_eq (rUpE (rBin addK_eq (rUpE (rIte (rUpT (rTCmp (cmpK_eq c2) (rUpE rVar) (rUpE (rLen rPVar)))) (rUpE (rSubV (rUpE rVar))) (rUpE rInt))) (rUpE (rIte (rUpT (rTCmp (cmpK_eq c2) (rUpE rVar) (rUpE (rLen rPVar)))) (rUpE (rSubV (rUpE rVar))) (rUpE rInt))))) (rUpE rVar)))) (rUpB rWNil)))) (rUpB (rWCons (rRet (rUpE (rCall (rXCons (rUpE rVar) rXNil)))) (rUpB rWNil))))))
theorem rep7 : Rp progQ (up b7) (fun ih => ih.b f7.body) := rUpB (rWCons (rRet (rUpE (rComp tgtQ1_eq (rUpE (rBin modK_eq (rUpE (rNeg (rUpE rVar))) (rUpE rVar))) (rILst (rUpE rVar)) rTsNil))) (rUpB rWNil))
theorem rep10 : Rp progQ (up b10) (fun ih => ih.b f10.body) := rUpB (rWCons (rSIte (rUpT (rOr (rUpT (rTCmp (cmpK_eq c0) (rUpE (rLen rPVar)) (rUpE rInt))) (rUpT (rTCmp (cmpK_eq c0) (rUpE (rLen rPVar)) (rUpE rInt))))) (rUpB (rWCons (rRet (rUpE (rDisp rXNil))) (rUpB rWNil))) (rUpB rWNil)) (rUpB (rWCons (rAsgF rfl rfl (rUpE (rBin mulK_eq (rUpE (rDisp (rXCons (rUpE rInt) rXNil))) (rUpE (rBin subK_eq (rUpE (rBin addK_eq (rUpE (rLen rPVar)) (rUpE (rLen rPVar)))) (rUpE rInt)))))) (rUpB (rWCons (rEach (tgtQ_eq rfl) (rIEnum (rUpE rVar)) (rUpB (rWCons (rSIte (rUpT (rTCmp (cmpK_eq c1) (rUpE rVar) (rUpE rInt))) (rUpB (rWCons (rEach (tgtQ_eq rfl) (rIEnum (rUpE rVar)) (rUpB (rWCons (rSetI (rUpE (rBin addK_eq (rUpE rVar) (rUpE rVar))) (rUpE (rBin modK_eq (rUpE (rBin addK_eq (rUpE (rSubV (rUpE (rBin addK_eq (rUpE rVar) (rUpE rVar))))) (rUpE (rBin mulK_eq (rUpE rVar) (rUpE rVar))))) (rUpE rVar)))) (rUpB rWNil)))) (rUpB rWNil))) (rUpB rWNil)) (rUpB rWNil)))) (rUpB (rWCons (rRet (rUpE (rCall (rXCons (rUpE rVar) rXNil)))) (rUpB rWNil))))))))
theorem rep11 : Rp progQ (up b11) (fun ih => ih.b f11.body) := rUpB (rWCons (rAsgT (rKCons (rK1F rfl rfl (rUpE (rList rPVar))) (rKCons (rK1F rfl rfl (rUpE (rBin mulK_eq (rUpE (rDisp (rXCons (rUpE rInt) rXNil))) (rUpE (rMax (rUpE rInt) (rUpE (rBin addK_eq (rUpE (rBin subK_eq (rUpE (rLen rPVar)) (rUpE (rLen rPVar)))) (rUpE rInt)))))))) rKNil))) (rUpB (rWCons (rAsgN rfl rfl (rUpE (rCall (rXCons (rUpE (rSubV (rUpE (rNeg (rUpE rInt))))) (rXCons (rUpE rVar) rXNil))))) (rUpB (rWCons (rEach tgtQ1_eq (rIRng3 (rUpE (rBin subK_eq (rUpE (rLen rPVar)) (rUpE (rLen rPVar)))) (rUpE (rNeg (rUpE rInt))) (rUpE (rNeg (rUpE rInt)))) (rUpB (rWCons (rAsgF rfl rfl (rUpE (rBin modK_eq (rUpE (rBin mulK_eq (rUpE (rSubV (rUpE (rBin subK_eq (rUpE (rBin addK_eq (rUpE rVar) (rUpE (rLen rPVar)))) (rUpE rInt))))) (rUpE rVar))) (rUpE rVar)))) (rUpB (rWCons (rSetI (rUpE rVar) (rUpE rVar)) (rUpB (rWCons (rSIte (rUpT (rTCmp (cmpK_eq c1) (rUpE rVar) (rUpE rInt))) (rUpB (rWCons (rEach (tgtQ_eq rfl) (rIEnum (rUpE rVar)) (rUpB (rWCons (rSetI (rUpE (rBin addK_eq (rUpE rVar) (rUpE rVar))) (rUpE (rBin modK_eq (rUpE (rBin subK_eq (rUpE (rSubV (rUpE (rBin addK_eq (rUpE rVar) (rUpE rVar))))) (rUpE (rBin mulK_eq (rUpE rVar) (rUpE rVar))))) (rUpE rVar)))) (rUpB rWNil)))) (rUpB rWNil))) (rUpB rWNil)) (rUpB rWNil)))))))) (rUpB (rWCons (rRet (rUpE (rTup (rXCons (rUpE (rCall (rXCons (rUpE rVar) rXNil))) (rXCons (rUpE (rCall (rXCons (rUpE (rCut (rUpE (rBin subK_eq (rUpE (rLen rPVar)) (rUpE rInt))))) rXNil))) rXNil))))) (rUpB rWNil))))))))
theorem rep12 : Rp progQ (up b12) (fun ih => ih.b f12.body) := rUpB (rWCons (rRet (rUpE (rSub rfl (rUpE (rCall (rXCons (rUpE rVar) (rXCons (rUpE rVar) (rXCons (rUpE rVar) rXNil))))) (rUpE rInt)))) (rUpB rWNil))
theorem rep13 : Rp progQ (up b13) (fun ih => ih.b f13.body) := rUpB (rWCons (rAsgF rfl rfl (rUpE (rDisp (rXCons (rUpE rInt) rXNil)))) (rUpB (rWCons (rEach tgtQ1_eq (rILst (rUpE rVar)) (rUpB (rWCons (rAsgN rfl rfl (rUpE (rCall (rXCons (rUpE rVar) (rXCons (rUpE rVar) (rXCons (rUpE rVar) rXNil)))))) (rUpB rWNil)))) (rUpB (rWCons (rRet (rUpE rVar)) (rUpB rWNil))))))
theorem rep16 : Rp progQ (up b16) (fun ih => ih.b f16.body) := rUpB (rWCons (rAsgF rfl rfl (rUpE (rDisp rXNil))) (rUpB (rWCons (rLoop (rUpT (rTCmp (cmpK_eq c4) (rUpE rVar) (rUpE rInt))) (rUpB (rWCons (rApp (rUpE (rBin modK_eq (rUpE rVar) (rUpE rVar)))) (rUpB (rWCons (rAsgF rfl rfl (rUpE (rBin divK_eq (rUpE rVar) (rUpE rVar)))) (rUpB rWNil)))))) (rUpB (rWCons (rRet (rUpE (rCall (rXCons (rUpE rVar) rXNil)))) (rUpB rWNil))))))
theorem rep17 : Rp progQ (up b17) (fun ih => ih.b f17.body) := rUpB (rWCons (rRet (rUpE (rBin powK_eq (rUpE rVar) (rUpE (rCall (rXCons (rUpE rVar) rXNil)))))) (rUpB rWNil))
theorem rep18 : Rp progQ (up b18) (fun ih => ih.b f18.body) := rUpB (rWCons (rRet (rUpE (rComp tgtQ1_eq (rUpE (rCall (rXCons (rUpE rVar) (rXCons (rUpE rVar) rXNil)))) (rIRng1 (rUpE (rCall (rXCons (rUpE rVar) (rXCons (rUpE rVar) rXNil))))) rTsNil))) (rUpB rWNil))
theorem rep19 : Rp progQ (up b19) (fun ih => ih.b f19.body) := rUpB (rWCons (rRet (rUpE (rCall (rXCons (rUpE (rCall (rXCons (rUpE rVar) (rXCons (rUpE rVar) (rXCons (rUpE rVar) rXNil))))) (rXCons (rUpE rVar) (rXCons (rUpE rVar) rXNil)))))) (rUpB rWNil))
theorem rep21 : Rp progQ (up b21) (fun ih => ih.b f21.body) := rUpB (rWCons (rSIte (rUpT (rTCmp (cmpK_eq c2) (rUpE rVar) (rUpE rInt))) (rUpB (rWCons (rAsgT (rKCons (rK1N rfl rfl (rUpE (rCall (rXCons (rUpE rVar) (rXCons (rUpE rVar) (rXCons (rUpE rVar) rXNil)))))) (rKCons (rK1N rfl rfl (rUpE (rNeg (rUpE rVar)))) rKNil))) (rUpB rWNil))) (rUpB rWNil)) (rUpB (rWCons (rAsgT (rKCons (rK1F rfl rfl (rUpE (rDisp (rXCons (rUpE rInt) rXNil)))) (rKCons (rK1F rfl rfl (rUpE (rList rPVar))) rKNil))) (rUpB (rWCons (rLoop (rUpT (rTCmp (cmpK_eq c4) (rUpE rVar) (rUpE rInt))) (rUpB (rWCons (rSIte (rUpT (rTCmp (cmpK_eq c0) (rUpE (rBin modK_eq (rUpE rVar) (rUpE rInt))) (rUpE rInt))) (rUpB (rWCons (rAsgN rfl rfl (rUpE (rCall (rXCons (rUpE rVar) (rXCons (rUpE rVar) (rXCons (rUpE rVar) (rXCons (rUpE rVar) rXNil))))))) (rUpB rWNil))) (rUpB rWNil)) (rUpB (rWCons (rAsgF rfl rfl (rUpE (rBin divK_eq (rUpE rVar) (rUpE rInt)))) (rUpB (rWCons (rSIte (rUpT (rTCmp (cmpK_eq c4) (rUpE rVar) (rUpE rInt))) (rUpB (rWCons (rAsgN rfl rfl (rUpE (rCall (rXCons (rUpE rVar) (rXCons (rUpE rVar) (rXCons (rUpE rVar) (rXCons (rUpE rVar) rXNil))))))) (rUpB rWNil))) (rUpB rWNil)) (rUpB rWNil)))))))) (rUpB (rWCons (rRet (rUpE rVar)) (rUpB rWNil))))))))
theorem rep22 : Rp progQ (up b22) (fun ih => ih.b f22.body) := rUpB (rWCons (rSIte (rUpT (rTCmp (cmpK_eq c0) (rUpE (rLen rPVar)) (rUpE rInt))) (rUpB (rWCons rRaise (rUpB rWNil))) (rUpB rWNil)) (rUpB (rWCons (rAsgF rfl rfl (rUpE (rBin subK_eq (rUpE (rCall (rXCons (rUpE rVar) (rXCons (rUpE rVar) rXNil)))) (rUpE rInt)))) (rUpB (rWCons (rEach (tgtQ_eq rfl) (rILst (rUpE (rCall (rXCons (rUpE rVar) rXNil)))) (rUpB (rWCons (rEach tgtQ1_eq (rIRng1 (rUpE rVar)) (rUpB (rWCons (rSIte (rUpT (rTCmp (cmpK_eq c0) (rUpE (rCall (rXCons (rUpE rVar) (rXCons (rUpE (rBin divK_eq (rUpE rVar) (rUpE rVar))) (rXCons (rUpE rVar) (rXCons (rUpE rVar) rXNil)))))) (rUpE (rDisp (rXCons (rUpE rInt) rXNil))))) (rUpB (rWCons (rAsgF rfl rfl (rUpE (rBin divK_eq (rUpE rVar) (rUpE rVar)))) (rUpB rWNil))) (rUpB rWNil)) (rUpB rWNil)))) (rUpB rWNil)))) (rUpB (rWCons (rRet (rUpE rVar)) (rUpB rWNil))))))))
theorem rep23 : Rp progQ (up b23) (fun ih => ih.b f23.body) := rUpB (rWCons (rAsgT (rKCons (rK1F rfl rfl (rUpE (rDisp (rXCons (rUpE (rList rPVar)) rXNil)))) (rKCons (rK1N rfl rfl (rUpE (rCall (rXCons (rUpE rVar) (rXCons (rUpE rVar) (rXCons (rUpE rVar) (rXCons (rUpE rVar) rXNil))))))) rKNil))) (rUpB (rWCons (rLoop (rUpT (rTCmp (cmpK_eq c1) (rUpE rVar) (rUpE (rSubV (rUpE rInt))))) (rUpB (rWCons (rApp (rUpE rVar)) (rUpB (rWCons (rAsgN rfl rfl (rUpE (rCall (rXCons (rUpE rVar) (rXCons (rUpE rVar) (rXCons (rUpE rVar) (rXCons (rUpE rVar) rXNil))))))) (rUpB rWNil)))))) (rUpB (rWCons (rRet (rUpE rVar)) (rUpB rWNil))))))
theorem rep24 : Rp progQ (up b24) (fun ih => ih.b f24.body) := rUpB (rWCons (rRet (rUpE (rIte (rUpT (rTCmp (cmpK_eq c4) (rUpE (rLen rPVar)) (rUpE rInt))) (rUpE (rSubV (rUpE rInt))) (rUpE rInt)))) (rUpB rWNil))
theorem rep25 : Rp progQ (up b25) (fun ih => ih.b f25.body) := rUpB (rWCons (rAsgF rfl rfl (rUpE (rDisp (rXCons (rUpE (rDisp (rXCons (rUpE rInt) rXNil))) rXNil)))) (rUpB (rWCons (rEach tgtQ1_eq (rILst (rUpE (rCall (rXCons (rUpE rVar) (rXCons (rUpE rVar) (rXCons (rUpE rVar) rXNil)))))) (rUpB (rWCons (rAsgF rfl rfl (rUpE (rBin addK_eq (rUpE (rDisp (rXCons (rUpE (rDisp rXNil)) rXNil))) (rUpE rVar)))) (rUpB (rWCons (rEach (tgtQ_eq rfl) (rIEnum (rUpE rVar)) (rUpB (rWCons (rSetI (rUpE rVar) (rUpE (rCall (rXCons (rUpE (rSubV (rUpE rVar))) (rXCons (rUpE (rCall (rXCons (rUpE (rCall (rXCons (rUpE rVar) (rXCons (rUpE rVar) (rXCons (rUpE rVar) (rXCons (rUpE rVar) rXNil)))))) (rXCons (rUpE rVar) rXNil)))) (rXCons (rUpE rVar) rXNil)))))) (rUpB rWNil)))) (rUpB (rWCons rAsgV (rUpB rWNil)))))))) (rUpB (rWCons (rRet (rUpE (rComp tgtQ1_eq (rUpE (rCall (rXCons (rUpE rVar) rXNil))) (rILst (rUpE rVar)) rTsNil))) (rUpB rWNil))))))
theorem rep26 : Rp progQ (up b26) (fun ih => ih.b f26.body) := rUpB (rWCons (rAsgN rfl rfl (rUpE (rCall (rXCons (rUpE rVar) rXNil)))) (rUpB (rWCons (rSIte (rUpT (rTAny (rUpE (rComp (tgtQ_eq rfl) (rUpE (rCmp (cmpK_eq c4) (rUpE rVar) (rUpE rInt))) (rILst (rUpE rVar)) rTsNil)))) (rUpB (rWCons (rRet (rUpE rInt)) (rUpB rWNil))) (rUpB rWNil)) (rUpB (rWCons (rRet (rUpE (rIte (rUpT (rTCmp (cmpK_eq c0) (rUpE (rBin modK_eq (rUpE (rLen rPVar)) (rUpE rInt))) (rUpE rInt))) (rUpE rInt) (rUpE (rNeg (rUpE rInt)))))) (rUpB rWNil))))))
theorem rep27 : Rp progQ (up b27) (fun ih => ih.b f27.body) := rUpB (rWCons (rSetI (rUpE rInt) (rUpE (rBin addK_eq (rUpE (rSubV (rUpE rInt))) (rUpE rInt)))) (rUpB (rWCons (rSIte (rUpT (rTCmp (cmpK_eq c3) (rUpE (rSubV (rUpE rInt))) (rUpE (rLen (rPE rfl (rUpE (rSubV (rUpE rInt)))))))) (rUpB (rWCons (rRet (rUpE (rBin modK_eq (rUpE (rAbs (rUpE (rSub rfl (rUpE (rSubV (rUpE rInt))) (rUpE (rBin subK_eq (rUpE (rSubV (rUpE rInt))) (rUpE rInt))))))) (rUpE rVar)))) (rUpB rWNil))) (rUpB rWNil)) (rUpB (rWCons (rRet (rUpE (rBin modK_eq (rUpE (rBin addK_eq (rUpE (rBin mulK_eq (rUpE rInt) (rUpE (rSubV (rUpE rInt))))) (rUpE (rBin divK_eq (rUpE (rSubV (rUpE rInt))) (rUpE rInt))))) (rUpE rVar)))) (rUpB rWNil))))))
theorem rep28 : Rp progQ (up b28) (fun ih => ih.b f28.body) := rUpB (rWCons (rLoop (rUpT (rTCmp (cmpK_eq c1) (rUpE rVar) (rUpE rInt))) (rUpB (rWCons (rAsgT (rKCons rK1V (rKCons (rK1F rfl rfl (rUpE (rBin modK_eq (rUpE rVar) (rUpE rVar)))) rKNil))) (rUpB rWNil)))) (rUpB (rWCons (rRet (rUpE rVar)) (rUpB rWNil))))
theorem rep29 : Rp progQ (up b29) (fun ih => ih.b f29.body) := rUpB (rWCons (rAsgF rfl rfl (rUpE (rBin addK_eq (rUpE (rBin addK_eq (rUpE (rDisp (rXCons (rUpE (rNeg (rUpE rInt))) rXNil))) (rUpE (rBin mulK_eq (rUpE (rDisp (rXCons (rUpE rInt) rXNil))) (rUpE (rBin subK_eq (rUpE rVar) (rUpE rInt))))))) (rUpE (rDisp (rXCons (rUpE rInt) rXNil)))))) (rUpB (rWCons (rEach tgtQ1_eq (rIRng2 (rUpE rInt) (rUpE rVar)) (rUpB (rWCons (rSIte (rUpT (rTCmp (cmpK_eq c0) (rUpE (rBin modK_eq (rUpE rVar) (rUpE rVar))) (rUpE rInt))) (rUpB (rWCons (rAsgN rfl rfl (rUpE (rCall (rXCons (rUpE rVar) rXNil)))) (rUpB (rWCons (rAsgT (rKCons rK1V (rKCons (rK1F rfl rfl (rUpE (rBin mulK_eq (rUpE (rDisp (rXCons (rUpE rInt) rXNil))) (rUpE (rBin addK_eq (rUpE (rBin subK_eq (rUpE (rLen rPVar)) (rUpE (rLen rPVar)))) (rUpE rInt)))))) rKNil))) (rUpB (rWCons (rEach tgtQ1_eq (rIRng3 (rUpE (rBin subK_eq (rUpE (rLen rPVar)) (rUpE rInt))) (rUpE (rNeg (rUpE rInt))) (rUpE (rNeg (rUpE rInt)))) (rUpB (rWCons (rAsgN rfl rfl (rUpE (rSubV (rUpE (rBin subK_eq (rUpE (rBin addK_eq (rUpE rVar) (rUpE (rLen rPVar)))) (rUpE rInt)))))) (rUpB (rWCons (rSetI (rUpE rVar) (rUpE rVar)) (rUpB (rWCons (rEach (tgtQ_eq rfl) (rIEnum (rUpE rVar)) (rUpB (rWCons (rSetI (rUpE (rBin addK_eq (rUpE rVar) (rUpE rVar))) (rUpE (rBin subK_eq (rUpE (rSubV (rUpE (rBin addK_eq (rUpE rVar) (rUpE rVar))))) (rUpE (rBin mulK_eq (rUpE rVar) (rUpE rVar)))))) (rUpB rWNil)))) (rUpB rWNil)))))))) (rUpB (rWCons rAsgV (rUpB rWNil))))))))) (rUpB rWNil)) (rUpB rWNil)))) (rUpB (rWCons (rRet (rUpE rVar)) (rUpB rWNil))))))
theorem rep30 : Rp progQ (up b30) (fun ih => ih.b f30.body) := rUpB (rWCons (rAsgN rfl rfl (rUpE rInt)) (rUpB (rWCons (rLoop (rUpT (rTCmp (cmpK_eq c1) (rUpE (rBin modK_eq (rUpE (rBin subK_eq (rUpE (rBin powK_eq (rUpE rVar) (rUpE rVar))) (rUpE rInt))) (rUpE rVar))) (rUpE rInt))) (rUpB (rWCons (rAsgF rfl rfl (rUpE (rBin addK_eq (rUpE rVar) (rUpE rInt)))) (rUpB rWNil)))) (rUpB (rWCons (rRet (rUpE rVar)) (rUpB rWNil))))))
theorem rep31 : Rp progQ (up b31) (fun ih => ih.b f31.body) := rUpB (rWCons (rAsgF rfl rfl (rUpE (rDisp (rXCons (rUpE (rList (rPE rfl (rUpE (rCut (rUpE rInt)))))) (rXCons (rUpE rInt) rXNil))))) (rUpB (rWCons (rAsgU (rUpE (rSub rfl (rUpE rGlob) (rUpE (rCallm (rXCons (rUpE rInt) rXNil)))))) (rUpB (rWCons (rAsgT (rKCons (rK1F rfl rfl (rUpE (rList rPVar))) (rKCons (rK1F rfl rfl (rUpE (rBin powK_eq (rUpE rVar) (rUpE (rBin subK_eq (rUpE (rLen rPVar)) (rUpE rInt)))))) rKNil))) (rUpB (rWCons (rAsgF rfl rfl (rUpE (rComp tgtQ1_eq (rUpE rVar) (rIRng2 (rUpE rInt) (rUpE rVar)) (rTsCons (rUpT (rTCmp (cmpK_eq c0) (rUpE (rBin modK_eq (rUpE (rBin subK_eq (rUpE rVar) (rUpE rInt))) (rUpE rVar))) (rUpE rInt))) rTsNil)))) (rUpB (rWCons (rAsgN rfl rfl (rUpE (rSubV (rUpE (rCallm (rXCons (rUpE (rLen rPVar)) rXNil)))))) (rUpB (rWCons (rAsgF rfl rfl (rUpE (rComp tgtQ1_eq (rUpE rVar) (rILst (rUpE (rCall (rXCons (rUpE rVar) (rXCons (rUpE rVar) rXNil))))) (rTsCons (rUpT (rAnd (rUpT (rTCmp (cmpK_eq c1) (rUpE rVar) (rUpE (rDisp rXNil)))) (rUpT (rTCmp (cmpK_eq c0) (rUpE (rCall (rXCons (rUpE rVar) (rXCons (rUpE rVar) (rXCons (rUpE rVar) rXNil))))) (rUpE rVar))))) rTsNil)))) (rUpB (rWCons (rSIte (rUpT (rTCmp (cmpK_eq c1) (rUpE (rLen rPVar)) (rUpE (rLen (rPE rfl (rUpE (rComp tgtQ1_eq (rUpE rInt) (rIRng2 (rUpE rInt) (rUpE (rBin addK_eq (rUpE rVar) (rUpE rInt)))) (rTsCons (rUpT (rTCmp (cmpK_eq c0) (rUpE (rCall (rXCons (rUpE rVar) (rXCons (rUpE rVar) rXNil)))) (rUpE rInt))) rTsNil)))))))) (rUpB (rWCons (rRet (rUpE rBool)) (rUpB rWNil))) (rUpB rWNil)) (rUpB (rWCons (rAsgT (rKCons (rK1F rfl rfl (rUpE (rDisp rXNil))) (rKCons (rK1F rfl rfl (rUpE (rDisp (rXCons (rUpE rInt) rXNil)))) (rKCons (rK1F rfl rfl (rUpE (rDisp rXNil))) (rKCons (rK1F rfl rfl (rUpE (rDisp rXNil))) rKNil))))) (rUpB (rWCons (rEach tgtQ1_eq (rILst (rUpE rVar)) (rUpB (rWCons (rAsgT (rKCons (rK1N rfl rfl (rUpE (rCall (rXCons (rUpE rVar) (rXCons (rUpE rVar) (rXCons (rUpE rVar) rXNil)))))) (rKCons (rK1N rfl rfl (rUpE (rCall (rXCons (rUpE rVar) (rXCons (rUpE rVar) (rXCons (rUpE rVar) (rXCons (rUpE rVar) rXNil))))))) rKNil))) (rUpB (rWCons (rAsgN rfl rfl (rUpE (rCall (rXCons (rUpE rVar) (rXCons (rUpE rVar) (rXCons (rUpE rVar) rXNil)))))) (rUpB (rWCons (rSIte (rUpT (rNotin (rUpE rVar))) (rUpB (rWCons (rApp (rUpE rVar)) (rUpB (rWCons (rApp (rUpE rInt)) (rUpB rWNil))))) (rUpB rWNil)) (rUpB (rWCons (rAsgN rfl rfl (rUpE (rIndex (rUpE rVar)))) (rUpB (rWCons (rSetI (rUpE rVar) (rUpE (rBin addK_eq (rUpE (rSubV (rUpE rVar))) (rUpE rInt)))) (rUpB rWNil)))))))))))) (rUpB (rWCons (rAsgF rfl rfl (rUpE (rBin modK_eq (rUpE (rCall (rXCons (rUpE rVar) rXNil))) (rUpE rVar)))) (rUpB (rWCons (rSIte (rUpT (rOr (rUpT (rTCmp (cmpK_eq c1) (rUpE rVar) (rUpE (rIte (rUpT (rTCmp (cmpK_eq c1) (rUpE rVar) (rUpE rInt))) (rUpE (rDisp (rXCons (rUpE rVar) rXNil))) (rUpE (rDisp rXNil)))))) (rUpT (rTCmp (cmpK_eq c1) (rUpE rVar) (rUpE (rIte (rUpT (rTCmp (cmpK_eq c0) (rUpE rVar) (rUpE rInt))) (rUpE (rDisp (rXCons (rUpE (rBin subK_eq (rUpE rVar) (rUpE rInt))) rXNil))) (rUpE (rDisp (rXCons (rUpE rInt) rXNil))))))))) (rUpB (rWCons (rRet (rUpE rBool)) (rUpB rWNil))) (rUpB rWNil)) (rUpB (rWCons (rAsgN rfl rfl (rUpE (rCall (rXCons (rUpE rVar) (rXCons (rUpE rVar) rXNil))))) (rUpB (rWCons (rSIte (rUpT (rOr (rUpT (rTCmp (cmpK_eq c1) (rUpE rVar) (rUpE (rBin mulK_eq (rUpE (rDisp (rXCons (rUpE rVar) rXNil))) (rUpE (rLen rPVar)))))) (rUpT (rTCmp (cmpK_eq c1) (rUpE (rComp tgtQ1_eq (rUpE (rLen rPVar)) (rILst (rUpE rVar)) rTsNil)) (rUpE (rBin mulK_eq (rUpE (rDisp (rXCons (rUpE (rBin addK_eq (rUpE rVar) (rUpE rInt))) rXNil))) (rUpE (rLen rPVar)))))))) (rUpB (rWCons (rRet (rUpE rBool)) (rUpB rWNil))) (rUpB rWNil)) (rUpB (rWCons (rRet (rUpE (rCmp (cmpK_eq c0) (rUpE (rCall (rXCons (rUpE rVar) (rXCons (rUpE rVar) rXNil)))) (rUpE (rComp tgtQ1_eq (rUpE (rBin modK_eq (rUpE rVar) (rUpE rVar))) (rILst (rUpE (rCall (rXCons (rUpE rVar) rXNil)))) rTsNil))))) (rUpB rWNil))))))))))))))))))))))))))))
theorem ptw : ∀ f, (prog f = none ∧ progQ f = none) ∨ ∃ fn fq, prog f = some fn ∧ progQ f = some fq ∧ fq.np = fn.np ∧ fq.nv = fn.nv ∧ Rp progQ fq.body (fun ih => ih.b fn.body)
  | 0 => .inr ⟨_, _, rfl, rfl, rfl, rfl, rep0⟩
  | 1 => .inr ⟨_, _, rfl, rfl, rfl, rfl, rep1⟩
  | 2 => .inr ⟨_, _, rfl, rfl, rfl, rfl, rep2⟩
  | 3 => .inr ⟨_, _, rfl, rfl, rfl, rfl, rep3⟩
  | 4 => .inr ⟨_, _, rfl, rfl, rfl, rfl, rep4⟩
  | 5 => .inr ⟨_, _, rfl, rfl, rfl, rfl, rep5⟩
  | 6 => .inr ⟨_, _, rfl, rfl, rfl, rfl, rep6⟩
  | 7 => .inr ⟨_, _, rfl, rfl, rfl, rfl, rep7⟩
  | 8 => .inl ⟨rfl, rfl⟩
  | 9 => .inl ⟨rfl, rfl⟩
  | 10 => .inr ⟨_, _, rfl, rfl, rfl, rfl, rep10⟩
  | 11 => .inr ⟨_, _, rfl, rfl, rfl, rfl, rep11⟩
  | 12 => .inr ⟨_, _, rfl, rfl, rfl, rfl, rep12⟩
  | 13 => .inr ⟨_, _, rfl, rfl, rfl, rfl, rep13⟩
  | 14 => .inl ⟨rfl, rfl⟩
  | 15 => .inl ⟨rfl, rfl⟩
  | 16 => .inr ⟨_, _, rfl, rfl, rfl, rfl, rep16⟩
  | 17 => .inr ⟨_, _, rfl, rfl, rfl, rfl, rep17⟩
  | 18 => .inr ⟨_, _, rfl, rfl, rfl, rfl, rep18⟩
  | 19 => .inr ⟨_, _, rfl, rfl, rfl, rfl, rep19⟩
  | 20 => .inl ⟨rfl, rfl⟩
  | 21 => .inr ⟨_, _, rfl, rfl, rfl, rfl, rep21⟩
  | 22 => .inr ⟨_, _, rfl, rfl, rfl, rfl, rep22⟩
  | 23 => .inr ⟨_, _, rfl, rfl, rfl, rfl, rep23⟩
  | 24 => .inr ⟨_, _, rfl, rfl, rfl, rfl, rep24⟩
  | 25 => .inr ⟨_, _, rfl, rfl, rfl, rfl, rep25⟩
  | 26 => .inr ⟨_, _, rfl, rfl, rfl, rfl, rep26⟩
  | 27 => .inr ⟨_, _, rfl, rfl, rfl, rfl, rep27⟩
  | 28 => .inr ⟨_, _, rfl, rfl, rfl, rfl, rep28⟩
  | 29 => .inr ⟨_, _, rfl, rfl, rfl, rfl, rep29⟩
  | 30 => .inr ⟨_, _, rfl, rfl, rfl, rfl, rep30⟩
  | 31 => .inr ⟨_, _, rfl, rfl, rfl, rfl, rep31⟩
  | _ + 32 => .inl ⟨rfl, rfl⟩
end Mine

/-! part Plain3 -/
namespace Mine
open PySem
noncomputable def noSpec : Nat → List V → Option V := fun _ _ => none
noncomputable def EV (n : Nat) : Ev := ev tab prog noSpec n
theorem EV_e (n : Nat) : (EV (n + 1)).e = exprStep (EV n) tab := rfl
theorem EV_t (n : Nat) : (EV (n + 1)).t = testStep (EV n) := rfl
theorem EV_b (n : Nat) : (EV (n + 1)).b = blockStep (EV n) := rfl
theorem EV_c (n : Nat) : (EV (n + 1)).c = callStep (EV n) prog noSpec := rfl
theorem EV_m (n : Nat) : (EV (n + 1)).m = methStep (EV n) prog := rfl
noncomputable def tailS : Nat → Ss → Ss
  | 0, s => s
  | _ + 1, .nil => .nil
  | n + 1, .cons _ ss => tailS n ss
noncomputable def headS : Ss → S
  | .cons s _ => s
  | .nil => .raise
noncomputable def s1 : S := .asg 1 (.disp (.cons (.list (.cut (.var 0) (.int 2))) (.cons (.int 0) .nil)))
noncomputable def s2 : S := .asgU [2, 3] (.sub (.glob 0) (.callm 27 1 (.cons (.int 6) .nil)))
noncomputable def s3 : S := headS (tailS 2 f31.body)
noncomputable def s4 : S := headS (tailS 3 f31.body)
noncomputable def s5 : S := .asg 7 (.sub (.var 6) (.callm 27 1 (.cons (.len (.var 6)) .nil)))
noncomputable def rest : Ss := tailS 5 f31.body
theorem body_eq : f31.body = .cons s1 (.cons s2 (.cons s3 (.cons s4 (.cons s5 rest)))) := by kernel_rfl
noncomputable def outT : Option (Out × St) → Bool
  | some (.ret (.bool true), _) => true
  | _ => false
theorem outT_some {x : Option (Out × St)} (h : outT x = true) : ∃ st, x = some (.ret (.bool true), st) := by
  unfold outT at h
  split at h
  · exact ⟨_, rfl⟩
  · cases h
theorem block_next {n : Nat} {s : S} {ss : Ss} {st st' : St} (h : stmtStep (EV n) s st = some (.next, st')) : (EV (n + 1)).b (.cons s ss) st = (EV n).b ss st' := by
  rw [EV_b]
  unfold blockStep
  simp only
  rw [h]

noncomputable def restQ : QB := (up (wCons (sAsgF 8 (up (bComp (up (bVar 3)) (tgtQ1 3) 1 (iLst (up (bCall 18 (xCons (up (bVar 4)) (xCons (up (bVar 2)) xNil))))) (tsCons (up (tAnd (up (tCmp (cmpK iNe 1) (up (bVar 3)) (up (bDisp xNil)))) (up (tCmp (cmpK iEq 0) (up (bCall 22 (xCons (up (bVar 3)) (xCons (up (bVar 1)) (xCons (up (bVar 0)) xNil))))) (up (bVar 2)))))) tsNil) [2, 4, 7]))) (up (wCons (sIte (up (tCmp (cmpK iNe 1) (up (bLen (pVar 8))) (up (bLen (up (bComp (up (bInt 1)) (tgtQ1 1) 1 (iRng2 (up (bInt 1)) (up (bBin addK (up (bVar 7)) (up (bInt 1))))) (tsCons (up (tCmp (cmpK iEq 0) (up (bCall 28 (xCons (up (bVar 0)) (xCons (up (bVar 1)) xNil)))) (up (bInt 1)))) tsNil) [7])))))) (up (wCons (sRet (up (bBool false))) (up wNil))) (up wNil)) (up (wCons (sAsgT [9, 10, 11, 12] (kCons (k1F (up (bDisp xNil))) (kCons (k1F (up (bDisp (xCons (up (bInt 1)) xNil)))) (kCons (k1F (up (bDisp xNil))) (kCons (k1F (up (bDisp xNil))) kNil))))) (up (wCons (sEach (tgtQ1 13) (iLst (up (bVar 8))) (up (wCons (sAsgT [9, 10] (kCons (k1N (up (bCall 6 (xCons (up (bVar 9)) (xCons (up (bVar 13)) (xCons (up (bVar 2)) xNil)))))) (kCons (k1N (up (bCall 19 (xCons (up (bVar 10)) (xCons (up (bVar 13)) (xCons (up (bVar 4)) (xCons (up (bVar 2)) xNil))))))) kNil))) (up (wCons (sAsgN 14 (up (bCall 25 (xCons (up (bVar 13)) (xCons (up (bVar 4)) (xCons (up (bVar 2)) xNil)))))) (up (wCons (sIte (up (tNotin (up (bVar 14)) 11)) (up (wCons (sApp 11 (up (bVar 14))) (up (wCons (sApp 12 (up (bInt 0))) (up wNil))))) (up wNil)) (up (wCons (sAsgN 15 (up (bIndex 11 (up (bVar 14))))) (up (wCons (sSetI 12 (up (bVar 15)) (up (bBin addK (up (bSubV 12 (up (bVar 15)))) (up (bInt 1))))) (up wNil)))))))))))) (up (wCons (sAsgF 16 (up (bBin modK (up (bCall 26 (xCons (up (bVar 7)) xNil))) (up (bVar 2))))) (up (wCons (sIte (up (tOr (up (tCmp (cmpK iNe 1) (up (bVar 9)) (up (bIte (up (tCmp (cmpK iNe 1) (up (bVar 16)) (up (bInt 0)))) (up (bDisp (xCons (up (bVar 16)) xNil))) (up (bDisp xNil)))))) (up (tCmp (cmpK iNe 1) (up (bVar 10)) (up (bIte (up (tCmp (cmpK iEq 0) (up (bVar 7)) (up (bInt 2)))) (up (bDisp (xCons (up (bBin subK (up (bVar 2)) (up (bInt 1)))) xNil))) (up (bDisp (xCons (up (bInt 1)) xNil))))))))) (up (wCons (sRet (up (bBool false))) (up wNil))) (up wNil)) (up (wCons (sAsgN 17 (up (bCall 30 (xCons (up (bVar 7)) (xCons (up (bVar 2)) xNil))))) (up (wCons (sIte (up (tOr (up (tCmp (cmpK iNe 1) (up (bVar 12)) (up (bBin mulK (up (bDisp (xCons (up (bVar 17)) xNil))) (up (bLen (pVar 11))))))) (up (tCmp (cmpK iNe 1) (up (bComp (up (bLen (pVar 0))) (tgtQ1 0) 1 (iLst (up (bVar 11))) tsNil [])) (up (bBin mulK (up (bDisp (xCons (up (bBin addK (up (bVar 17)) (up (bInt 1)))) xNil))) (up (bLen (pVar 11))))))))) (up (wCons (sRet (up (bBool false))) (up wNil))) (up wNil)) (up (wCons (sRet (up (bCmp (cmpK iEq 0) (up (bCall 13 (xCons (up (bVar 11)) (xCons (up (bVar 2)) xNil)))) (up (bComp (up (bBin modK (up (bVar 1)) (up (bVar 0)))) (tgtQ1 1) 1 (iLst (up (bCall 29 (xCons (up (bVar 7)) xNil)))) tsNil [2]))))) (up wNil)))))))))))))))))))
theorem rrest : Rp progQ restQ (fun ih => ih.b rest) := (rUpB (rWCons (rAsgF rfl rfl (rUpE (rComp tgtQ1_eq (rUpE rVar) (rILst (rUpE (rCall (rXCons (rUpE rVar) (rXCons (rUpE rVar) rXNil))))) (rTsCons (rUpT (rAnd (rUpT (rTCmp (cmpK_eq c1) (rUpE rVar) (rUpE (rDisp rXNil)))) (rUpT (rTCmp (cmpK_eq c0) (rUpE (rCall (rXCons (rUpE rVar) (rXCons (rUpE rVar) (rXCons (rUpE rVar) rXNil))))) (rUpE rVar))))) rTsNil)))) (rUpB (rWCons (rSIte (rUpT (rTCmp (cmpK_eq c1) (rUpE (rLen rPVar)) (rUpE (rLen (rPE rfl (rUpE (rComp tgtQ1_eq (rUpE rInt) (rIRng2 (rUpE rInt) (rUpE (rBin addK_eq (rUpE rVar) (rUpE rInt)))) (rTsCons (rUpT (rTCmp (cmpK_eq c0) (rUpE (rCall (rXCons (rUpE rVar) (rXCons (rUpE rVar) rXNil)))) (rUpE rInt))) rTsNil)))))))) (rUpB (rWCons (rRet (rUpE rBool)) (rUpB rWNil))) (rUpB rWNil)) (rUpB (rWCons (rAsgT (rKCons (rK1F rfl rfl (rUpE (rDisp rXNil))) (rKCons (rK1F rfl rfl (rUpE (rDisp (rXCons (rUpE rInt) rXNil)))) (rKCons (rK1F rfl rfl (rUpE (rDisp rXNil))) (rKCons (rK1F rfl rfl (rUpE (rDisp rXNil))) rKNil))))) (rUpB (rWCons (rEach tgtQ1_eq (rILst (rUpE rVar)) (rUpB (rWCons (rAsgT (rKCons (rK1N rfl rfl (rUpE (rCall (rXCons (rUpE rVar) (rXCons (rUpE rVar) (rXCons (rUpE rVar) rXNil)))))) (rKCons (rK1N rfl rfl (rUpE (rCall (rXCons (rUpE rVar) (rXCons (rUpE rVar) (rXCons (rUpE rVar) (rXCons (rUpE rVar) rXNil))))))) rKNil))) (rUpB (rWCons (rAsgN rfl rfl (rUpE (rCall (rXCons (rUpE rVar) (rXCons (rUpE rVar) (rXCons (rUpE rVar) rXNil)))))) (rUpB (rWCons (rSIte (rUpT (rNotin (rUpE rVar))) (rUpB (rWCons (rApp (rUpE rVar)) (rUpB (rWCons (rApp (rUpE rInt)) (rUpB rWNil))))) (rUpB rWNil)) (rUpB (rWCons (rAsgN rfl rfl (rUpE (rIndex (rUpE rVar)))) (rUpB (rWCons (rSetI (rUpE rVar) (rUpE (rBin addK_eq (rUpE (rSubV (rUpE rVar))) (rUpE rInt)))) (rUpB rWNil)))))))))))) (rUpB (rWCons (rAsgF rfl rfl (rUpE (rBin modK_eq (rUpE (rCall (rXCons (rUpE rVar) rXNil))) (rUpE rVar)))) (rUpB (rWCons (rSIte (rUpT (rOr (rUpT (rTCmp (cmpK_eq c1) (rUpE rVar) (rUpE (rIte (rUpT (rTCmp (cmpK_eq c1) (rUpE rVar) (rUpE rInt))) (rUpE (rDisp (rXCons (rUpE rVar) rXNil))) (rUpE (rDisp rXNil)))))) (rUpT (rTCmp (cmpK_eq c1) (rUpE rVar) (rUpE (rIte (rUpT (rTCmp (cmpK_eq c0) (rUpE rVar) (rUpE rInt))) (rUpE (rDisp (rXCons (rUpE (rBin subK_eq (rUpE rVar) (rUpE rInt))) rXNil))) (rUpE (rDisp (rXCons (rUpE rInt) rXNil))))))))) (rUpB (rWCons (rRet (rUpE rBool)) (rUpB rWNil))) (rUpB rWNil)) (rUpB (rWCons (rAsgN rfl rfl (rUpE (rCall (rXCons (rUpE rVar) (rXCons (rUpE rVar) rXNil))))) (rUpB (rWCons (rSIte (rUpT (rOr (rUpT (rTCmp (cmpK_eq c1) (rUpE rVar) (rUpE (rBin mulK_eq (rUpE (rDisp (rXCons (rUpE rVar) rXNil))) (rUpE (rLen rPVar)))))) (rUpT (rTCmp (cmpK_eq c1) (rUpE (rComp tgtQ1_eq (rUpE (rLen rPVar)) (rILst (rUpE rVar)) rTsNil)) (rUpE (rBin mulK_eq (rUpE (rDisp (rXCons (rUpE (rBin addK_eq (rUpE rVar) (rUpE rInt))) rXNil))) (rUpE (rLen rPVar)))))))) (rUpB (rWCons (rRet (rUpE rBool)) (rUpB rWNil))) (rUpB rWNil)) (rUpB (rWCons (rRet (rUpE (rCmp (cmpK_eq c0) (rUpE (rCall (rXCons (rUpE rVar) (rXCons (rUpE rVar) rXNil)))) (rUpE (rComp tgtQ1_eq (rUpE (rBin modK_eq (rUpE rVar) (rUpE rVar))) (rILst (rUpE (rCall (rXCons (rUpE rVar) rXNil)))) rTsNil))))) (rUpB rWNil)))))))))))))))))))
theorem rest_all : (EV 94).b rest = restQ (lv progQ 94) := (rrest.b (good_all ptw 94)).symm

/-- the two picks -/
theorem pick1_0 : (EV 95).m 27 [.lst [], .int 0] [.int 6] = some (.int 5, [.lst [], .int 1]) := by kernel_rfl
theorem pick1_x (x : Int) (l : List V) (hl : l = [] ∨ ∃ y, l = [.int y]) : (EV 95).m 27 [.lst (.int x :: l), .int 0] [.int 6] = some (.int (Int.fmod x.natAbs 6), [.lst (.int x :: l), .int 1]) := by
  rcases hl with rfl | ⟨y, rfl⟩ <;> kernel_rfl

theorem pick2_0_2 : (EV 92).m 27 [.lst [], .int 1] [.int 2] = some (.int 0, [.lst [], .int 2]) := by kernel_rfl
theorem pick2_1_2 (x : Int) : (EV 92).m 27 [.lst [.int x], .int 1] [.int 2] = some (.int 0, [.lst [.int x], .int 2]) := by kernel_rfl
theorem pick2_2_2 (x y : Int) : (EV 92).m 27 [.lst [.int x, .int y], .int 1] [.int 2] = some (.int (Int.fmod y.natAbs 2), [.lst [.int x, .int y], .int 2]) := by kernel_rfl
theorem pick2_0_3 : (EV 92).m 27 [.lst [], .int 1] [.int 3] = some (.int 1, [.lst [], .int 2]) := by kernel_rfl
theorem pick2_1_3 (x : Int) : (EV 92).m 27 [.lst [.int x], .int 1] [.int 3] = some (.int 1, [.lst [.int x], .int 2]) := by kernel_rfl
theorem pick2_2_3 (x y : Int) : (EV 92).m 27 [.lst [.int x, .int y], .int 1] [.int 3] = some (.int (Int.fmod y.natAbs 3), [.lst [.int x, .int y], .int 2]) := by kernel_rfl
theorem pick2_0_4 : (EV 92).m 27 [.lst [], .int 1] [.int 4] = some (.int 2, [.lst [], .int 2]) := by kernel_rfl
theorem pick2_1_4 (x : Int) : (EV 92).m 27 [.lst [.int x], .int 1] [.int 4] = some (.int 2, [.lst [.int x], .int 2]) := by kernel_rfl
theorem pick2_2_4 (x y : Int) : (EV 92).m 27 [.lst [.int x, .int y], .int 1] [.int 4] = some (.int (Int.fmod y.natAbs 4), [.lst [.int x, .int y], .int 2]) := by kernel_rfl
noncomputable def st0 (vs : List V) : St := ⟨[.val (.lst vs), .dead, .dead, .dead, .dead, .dead, .dead, .dead, .dead, .dead, .dead, .dead, .dead, .dead, .dead, .dead, .dead, .dead], 0⟩
noncomputable def st1 (q : R) (L : List V) : St := ⟨[q, .own 0 [.lst L, .int 0], .dead, .dead, .dead, .dead, .dead, .dead, .dead, .dead, .dead, .dead, .dead, .dead, .dead, .dead, .dead, .dead], 1⟩
noncomputable def st2_0 (q : R) (L : List V) : St := ⟨[q, .own 0 [.lst L, .int 1], .val (.int 2), .val (.tup [.int 1, .int 1, .int 1]), .dead, .dead, .dead, .dead, .dead, .dead, .dead, .dead, .dead, .dead, .dead, .dead, .dead, .dead], 1⟩
noncomputable def st3_0 (q : R) (L : List V) : St := ⟨[q, .own 0 [.lst L, .int 1], .val (.int 2), .val (.tup [.int 1, .int 1, .int 1]), .own 1 [.int 1, .int 1, .int 1], .val (.int 4), .dead, .dead, .dead, .dead, .dead, .dead, .dead, .dead, .dead, .dead, .dead, .dead], 2⟩
noncomputable def st4_0 (q : R) (L : List V) : St := ⟨[q, .own 0 [.lst L, .int 1], .val (.int 2), .val (.tup [.int 1, .int 1, .int 1]), .own 1 [.int 1, .int 1, .int 1], .val (.int 4), .own 2 [.int 1, .int 3], .dead, .dead, .dead, .dead, .dead, .dead, .dead, .dead, .dead, .dead, .dead], 3⟩
noncomputable def st5_0 (q q' : R) (d : Int) : St := ⟨[q, q', .val (.int 2), .val (.tup [.int 1, .int 1, .int 1]), .own 1 [.int 1, .int 1, .int 1], .val (.int 4), .own 2 [.int 1, .int 3], .val (.int d), .dead, .dead, .dead, .dead, .dead, .dead, .dead, .dead, .dead, .dead], 3⟩
noncomputable def st2_1 (q : R) (L : List V) : St := ⟨[q, .own 0 [.lst L, .int 1], .val (.int 3), .val (.tup [.int 1, .int 0, .int 1]), .dead, .dead, .dead, .dead, .dead, .dead, .dead, .dead, .dead, .dead, .dead, .dead, .dead, .dead], 1⟩
noncomputable def st3_1 (q : R) (L : List V) : St := ⟨[q, .own 0 [.lst L, .int 1], .val (.int 3), .val (.tup [.int 1, .int 0, .int 1]), .own 1 [.int 1, .int 0, .int 1], .val (.int 9), .dead, .dead, .dead, .dead, .dead, .dead, .dead, .dead, .dead, .dead, .dead, .dead], 2⟩
noncomputable def st4_1 (q : R) (L : List V) : St := ⟨[q, .own 0 [.lst L, .int 1], .val (.int 3), .val (.tup [.int 1, .int 0, .int 1]), .own 1 [.int 1, .int 0, .int 1], .val (.int 9), .own 2 [.int 1, .int 2, .int 4, .int 8], .dead, .dead, .dead, .dead, .dead, .dead, .dead, .dead, .dead, .dead, .dead], 3⟩
noncomputable def st5_1 (q q' : R) (d : Int) : St := ⟨[q, q', .val (.int 3), .val (.tup [.int 1, .int 0, .int 1]), .own 1 [.int 1, .int 0, .int 1], .val (.int 9), .own 2 [.int 1, .int 2, .int 4, .int 8], .val (.int d), .dead, .dead, .dead, .dead, .dead, .dead, .dead, .dead, .dead, .dead], 3⟩
noncomputable def st2_2 (q : R) (L : List V) : St := ⟨[q, .own 0 [.lst L, .int 1], .val (.int 2), .val (.tup [.int 1, .int 0, .int 1, .int 1]), .dead, .dead, .dead, .dead, .dead, .dead, .dead, .dead, .dead, .dead, .dead, .dead, .dead, .dead], 1⟩
noncomputable def st3_2 (q : R) (L : List V) : St := ⟨[q, .own 0 [.lst L, .int 1], .val (.int 2), .val (.tup [.int 1, .int 0, .int 1, .int 1]), .own 1 [.int 1, .int 0, .int 1, .int 1], .val (.int 8), .dead, .dead, .dead, .dead, .dead, .dead, .dead, .dead, .dead, .dead, .dead, .dead], 2⟩
noncomputable def st4_2 (q : R) (L : List V) : St := ⟨[q, .own 0 [.lst L, .int 1], .val (.int 2), .val (.tup [.int 1, .int 0, .int 1, .int 1]), .own 1 [.int 1, .int 0, .int 1, .int 1], .val (.int 8), .own 2 [.int 1, .int 7], .dead, .dead, .dead, .dead, .dead, .dead, .dead, .dead, .dead, .dead, .dead], 3⟩
noncomputable def st5_2 (q q' : R) (d : Int) : St := ⟨[q, q', .val (.int 2), .val (.tup [.int 1, .int 0, .int 1, .int 1]), .own 1 [.int 1, .int 0, .int 1, .int 1], .val (.int 8), .own 2 [.int 1, .int 7], .val (.int d), .dead, .dead, .dead, .dead, .dead, .dead, .dead, .dead, .dead, .dead], 3⟩
noncomputable def st2_3 (q : R) (L : List V) : St := ⟨[q, .own 0 [.lst L, .int 1], .val (.int 5), .val (.tup [.int 0, .int 1]), .dead, .dead, .dead, .dead, .dead, .dead, .dead, .dead, .dead, .dead, .dead, .dead, .dead, .dead], 1⟩
noncomputable def st3_3 (q : R) (L : List V) : St := ⟨[q, .own 0 [.lst L, .int 1], .val (.int 5), .val (.tup [.int 0, .int 1]), .own 1 [.int 0, .int 1], .val (.int 5), .dead, .dead, .dead, .dead, .dead, .dead, .dead, .dead, .dead, .dead, .dead, .dead], 2⟩
noncomputable def st4_3 (q : R) (L : List V) : St := ⟨[q, .own 0 [.lst L, .int 1], .val (.int 5), .val (.tup [.int 0, .int 1]), .own 1 [.int 0, .int 1], .val (.int 5), .own 2 [.int 1, .int 2, .int 4], .dead, .dead, .dead, .dead, .dead, .dead, .dead, .dead, .dead, .dead, .dead], 3⟩
noncomputable def st5_3 (q q' : R) (d : Int) : St := ⟨[q, q', .val (.int 5), .val (.tup [.int 0, .int 1]), .own 1 [.int 0, .int 1], .val (.int 5), .own 2 [.int 1, .int 2, .int 4], .val (.int d), .dead, .dead, .dead, .dead, .dead, .dead, .dead, .dead, .dead, .dead], 3⟩
noncomputable def st2_4 (q : R) (L : List V) : St := ⟨[q, .own 0 [.lst L, .int 1], .val (.int 11), .val (.tup [.int 0, .int 1]), .dead, .dead, .dead, .dead, .dead, .dead, .dead, .dead, .dead, .dead, .dead, .dead, .dead, .dead], 1⟩
noncomputable def st3_4 (q : R) (L : List V) : St := ⟨[q, .own 0 [.lst L, .int 1], .val (.int 11), .val (.tup [.int 0, .int 1]), .own 1 [.int 0, .int 1], .val (.int 11), .dead, .dead, .dead, .dead, .dead, .dead, .dead, .dead, .dead, .dead, .dead, .dead], 2⟩
noncomputable def st4_4 (q : R) (L : List V) : St := ⟨[q, .own 0 [.lst L, .int 1], .val (.int 11), .val (.tup [.int 0, .int 1]), .own 1 [.int 0, .int 1], .val (.int 11), .own 2 [.int 1, .int 2, .int 5, .int 10], .dead, .dead, .dead, .dead, .dead, .dead, .dead, .dead, .dead, .dead, .dead], 3⟩
noncomputable def st5_4 (q q' : R) (d : Int) : St := ⟨[q, q', .val (.int 11), .val (.tup [.int 0, .int 1]), .own 1 [.int 0, .int 1], .val (.int 11), .own 2 [.int 1, .int 2, .int 5, .int 10], .val (.int d), .dead, .dead, .dead, .dead, .dead, .dead, .dead, .dead, .dead, .dead], 3⟩
noncomputable def st2_5 (q : R) (L : List V) : St := ⟨[q, .own 0 [.lst L, .int 1], .val (.int 7), .val (.tup [.int 0, .int 1]), .dead, .dead, .dead, .dead, .dead, .dead, .dead, .dead, .dead, .dead, .dead, .dead, .dead, .dead], 1⟩
noncomputable def st3_5 (q : R) (L : List V) : St := ⟨[q, .own 0 [.lst L, .int 1], .val (.int 7), .val (.tup [.int 0, .int 1]), .own 1 [.int 0, .int 1], .val (.int 7), .dead, .dead, .dead, .dead, .dead, .dead, .dead, .dead, .dead, .dead, .dead, .dead], 2⟩
noncomputable def st4_5 (q : R) (L : List V) : St := ⟨[q, .own 0 [.lst L, .int 1], .val (.int 7), .val (.tup [.int 0, .int 1]), .own 1 [.int 0, .int 1], .val (.int 7), .own 2 [.int 1, .int 2, .int 3, .int 6], .dead, .dead, .dead, .dead, .dead, .dead, .dead, .dead, .dead, .dead, .dead], 3⟩
noncomputable def st5_5 (q q' : R) (d : Int) : St := ⟨[q, q', .val (.int 7), .val (.tup [.int 0, .int 1]), .own 1 [.int 0, .int 1], .val (.int 7), .own 2 [.int 1, .int 2, .int 3, .int 6], .val (.int d), .dead, .dead, .dead, .dead, .dead, .dead, .dead, .dead, .dead, .dead], 3⟩
theorem run1 (vs : List V) (h : short vs = true) : stmtStep (EV 98) s1 (st0 vs) = some (.next, st1 (.val (.lst vs)) (takeN 2 vs)) := by
  have hl : short (takeN 2 vs) = true := by
    match vs with
    | [] => rfl
    | [_] => rfl
    | _ :: _ :: _ => rfl
  have hb : Nat.blt 2 1000 = true := rfl
  have hq : short [V.lst (takeN 2 vs), V.int 0] = true := rfl
  simp only [s1, st0, stmtStep, asgStep, EV_e, exprStep, evs, peek, contents, getR, freshX, h, hl, hb, hq]
  rfl
theorem run2_0 (q : R) (L : List V) (h : (EV 95).m 27 [.lst L, .int 0] [.int 6] = some (.int 0, [.lst L, .int 1])) : stmtStep (EV 97) s2 (st1 q L) = some (.next, st2_0 q L) := by
  simp only [s2, st1, stmtStep, EV_e, exprStep, evs, getR, tab, h]
  rfl
theorem run3_0 (q : R) (L : List V) : stmtStep (EV 96) s3 (st2_0 q L) = some (.next, st3_0 q L) := by kernel_rfl
theorem run4_0 (q : R) (L : List V) : stmtStep (EV 95) s4 (st3_0 q L) = some (.next, st4_0 q L) := by kernel_rfl
theorem run5_0_0 (q : R) (L : List V) (h : (EV 92).m 27 [.lst L, .int 1] [.int 2] = some (.int 0, [.lst L, .int 2])) : stmtStep (EV 94) s5 (st4_0 q L) = some (.next, st5_0 q (.own 0 [.lst L, .int 2]) 1) := by
  have hsh : short [V.int 1, V.int 3] = true := rfl
  have h' : (EV 92).m 27 [.lst L, .int 1] [.int (([V.int 1, V.int 3].length : Nat) : Int)] = some (.int 0, [.lst L, .int 2]) := h
  simp only [s5, st4_0, stmtStep, asgStep, EV_e, exprStep, evs, peek, contents, getR, hsh, h']
  rfl
theorem rest_0_0 (q q' : R) : outT ((EV 94).b rest (st5_0 q q' 1)) = true := by
  rw [rest_all]
  kernel_rfl
theorem run5_0_1 (q : R) (L : List V) (h : (EV 92).m 27 [.lst L, .int 1] [.int 2] = some (.int 1, [.lst L, .int 2])) : stmtStep (EV 94) s5 (st4_0 q L) = some (.next, st5_0 q (.own 0 [.lst L, .int 2]) 3) := by
  have hsh : short [V.int 1, V.int 3] = true := rfl
  have h' : (EV 92).m 27 [.lst L, .int 1] [.int (([V.int 1, V.int 3].length : Nat) : Int)] = some (.int 1, [.lst L, .int 2]) := h
  simp only [s5, st4_0, stmtStep, asgStep, EV_e, exprStep, evs, peek, contents, getR, hsh, h']
  rfl
theorem rest_0_1 (q q' : R) : outT ((EV 94).b rest (st5_0 q q' 3)) = true := by
  rw [rest_all]
  kernel_rfl
theorem run2_1 (q : R) (L : List V) (h : (EV 95).m 27 [.lst L, .int 0] [.int 6] = some (.int 1, [.lst L, .int 1])) : stmtStep (EV 97) s2 (st1 q L) = some (.next, st2_1 q L) := by
  simp only [s2, st1, stmtStep, EV_e, exprStep, evs, getR, tab, h]
  rfl
theorem run3_1 (q : R) (L : List V) : stmtStep (EV 96) s3 (st2_1 q L) = some (.next, st3_1 q L) := by kernel_rfl
theorem run4_1 (q : R) (L : List V) : stmtStep (EV 95) s4 (st3_1 q L) = some (.next, st4_1 q L) := by kernel_rfl
theorem run5_1_0 (q : R) (L : List V) (h : (EV 92).m 27 [.lst L, .int 1] [.int 4] = some (.int 0, [.lst L, .int 2])) : stmtStep (EV 94) s5 (st4_1 q L) = some (.next, st5_1 q (.own 0 [.lst L, .int 2]) 1) := by
  have hsh : short [V.int 1, V.int 2, V.int 4, V.int 8] = true := rfl
  have h' : (EV 92).m 27 [.lst L, .int 1] [.int (([V.int 1, V.int 2, V.int 4, V.int 8].length : Nat) : Int)] = some (.int 0, [.lst L, .int 2]) := h
  simp only [s5, st4_1, stmtStep, asgStep, EV_e, exprStep, evs, peek, contents, getR, hsh, h']
  rfl
theorem rest_1_0 (q q' : R) : outT ((EV 94).b rest (st5_1 q q' 1)) = true := by
  rw [rest_all]
  kernel_rfl
theorem run5_1_1 (q : R) (L : List V) (h : (EV 92).m 27 [.lst L, .int 1] [.int 4] = some (.int 1, [.lst L, .int 2])) : stmtStep (EV 94) s5 (st4_1 q L) = some (.next, st5_1 q (.own 0 [.lst L, .int 2]) 2) := by
  have hsh : short [V.int 1, V.int 2, V.int 4, V.int 8] = true := rfl
  have h' : (EV 92).m 27 [.lst L, .int 1] [.int (([V.int 1, V.int 2, V.int 4, V.int 8].length : Nat) : Int)] = some (.int 1, [.lst L, .int 2]) := h
  simp only [s5, st4_1, stmtStep, asgStep, EV_e, exprStep, evs, peek, contents, getR, hsh, h']
  rfl
theorem rest_1_1 (q q' : R) : outT ((EV 94).b rest (st5_1 q q' 2)) = true := by
  rw [rest_all]
  kernel_rfl
theorem run5_1_2 (q : R) (L : List V) (h : (EV 92).m 27 [.lst L, .int 1] [.int 4] = some (.int 2, [.lst L, .int 2])) : stmtStep (EV 94) s5 (st4_1 q L) = some (.next, st5_1 q (.own 0 [.lst L, .int 2]) 4) := by
  have hsh : short [V.int 1, V.int 2, V.int 4, V.int 8] = true := rfl
  have h' : (EV 92).m 27 [.lst L, .int 1] [.int (([V.int 1, V.int 2, V.int 4, V.int 8].length : Nat) : Int)] = some (.int 2, [.lst L, .int 2]) := h
  simp only [s5, st4_1, stmtStep, asgStep, EV_e, exprStep, evs, peek, contents, getR, hsh, h']
  rfl
theorem rest_1_2 (q q' : R) : outT ((EV 94).b rest (st5_1 q q' 4)) = true := by
  rw [rest_all]
  kernel_rfl
theorem run5_1_3 (q : R) (L : List V) (h : (EV 92).m 27 [.lst L, .int 1] [.int 4] = some (.int 3, [.lst L, .int 2])) : stmtStep (EV 94) s5 (st4_1 q L) = some (.next, st5_1 q (.own 0 [.lst L, .int 2]) 8) := by
  have hsh : short [V.int 1, V.int 2, V.int 4, V.int 8] = true := rfl
  have h' : (EV 92).m 27 [.lst L, .int 1] [.int (([V.int 1, V.int 2, V.int 4, V.int 8].length : Nat) : Int)] = some (.int 3, [.lst L, .int 2]) := h
  simp only [s5, st4_1, stmtStep, asgStep, EV_e, exprStep, evs, peek, contents, getR, hsh, h']
  rfl
theorem rest_1_3 (q q' : R) : outT ((EV 94).b rest (st5_1 q q' 8)) = true := by
  rw [rest_all]
  kernel_rfl
theorem run2_2 (q : R) (L : List V) (h : (EV 95).m 27 [.lst L, .int 0] [.int 6] = some (.int 2, [.lst L, .int 1])) : stmtStep (EV 97) s2 (st1 q L) = some (.next, st2_2 q L) := by
  simp only [s2, st1, stmtStep, EV_e, exprStep, evs, getR, tab, h]
  rfl
theorem run3_2 (q : R) (L : List V) : stmtStep (EV 96) s3 (st2_2 q L) = some (.next, st3_2 q L) := by kernel_rfl
theorem run4_2 (q : R) (L : List V) : stmtStep (EV 95) s4 (st3_2 q L) = some (.next, st4_2 q L) := by kernel_rfl
theorem run5_2_0 (q : R) (L : List V) (h : (EV 92).m 27 [.lst L, .int 1] [.int 2] = some (.int 0, [.lst L, .int 2])) : stmtStep (EV 94) s5 (st4_2 q L) = some (.next, st5_2 q (.own 0 [.lst L, .int 2]) 1) := by
  have hsh : short [V.int 1, V.int 7] = true := rfl
  have h' : (EV 92).m 27 [.lst L, .int 1] [.int (([V.int 1, V.int 7].length : Nat) : Int)] = some (.int 0, [.lst L, .int 2]) := h
  simp only [s5, st4_2, stmtStep, asgStep, EV_e, exprStep, evs, peek, contents, getR, hsh, h']
  rfl
theorem rest_2_0 (q q' : R) : outT ((EV 94).b rest (st5_2 q q' 1)) = true := by
  rw [rest_all]
  kernel_rfl
theorem run5_2_1 (q : R) (L : List V) (h : (EV 92).m 27 [.lst L, .int 1] [.int 2] = some (.int 1, [.lst L, .int 2])) : stmtStep (EV 94) s5 (st4_2 q L) = some (.next, st5_2 q (.own 0 [.lst L, .int 2]) 7) := by
  have hsh : short [V.int 1, V.int 7] = true := rfl
  have h' : (EV 92).m 27 [.lst L, .int 1] [.int (([V.int 1, V.int 7].length : Nat) : Int)] = some (.int 1, [.lst L, .int 2]) := h
  simp only [s5, st4_2, stmtStep, asgStep, EV_e, exprStep, evs, peek, contents, getR, hsh, h']
  rfl
theorem rest_2_1 (q q' : R) : outT ((EV 94).b rest (st5_2 q q' 7)) = true := by
  rw [rest_all]
  kernel_rfl
theorem run2_3 (q : R) (L : List V) (h : (EV 95).m 27 [.lst L, .int 0] [.int 6] = some (.int 3, [.lst L, .int 1])) : stmtStep (EV 97) s2 (st1 q L) = some (.next, st2_3 q L) := by
  simp only [s2, st1, stmtStep, EV_e, exprStep, evs, getR, tab, h]
  rfl
theorem run3_3 (q : R) (L : List V) : stmtStep (EV 96) s3 (st2_3 q L) = some (.next, st3_3 q L) := by kernel_rfl
theorem run4_3 (q : R) (L : List V) : stmtStep (EV 95) s4 (st3_3 q L) = some (.next, st4_3 q L) := by kernel_rfl
theorem run5_3_0 (q : R) (L : List V) (h : (EV 92).m 27 [.lst L, .int 1] [.int 3] = some (.int 0, [.lst L, .int 2])) : stmtStep (EV 94) s5 (st4_3 q L) = some (.next, st5_3 q (.own 0 [.lst L, .int 2]) 1) := by
  have hsh : short [V.int 1, V.int 2, V.int 4] = true := rfl
  have h' : (EV 92).m 27 [.lst L, .int 1] [.int (([V.int 1, V.int 2, V.int 4].length : Nat) : Int)] = some (.int 0, [.lst L, .int 2]) := h
  simp only [s5, st4_3, stmtStep, asgStep, EV_e, exprStep, evs, peek, contents, getR, hsh, h']
  rfl
theorem rest_3_0 (q q' : R) : outT ((EV 94).b rest (st5_3 q q' 1)) = true := by
  rw [rest_all]
  kernel_rfl
theorem run5_3_1 (q : R) (L : List V) (h : (EV 92).m 27 [.lst L, .int 1] [.int 3] = some (.int 1, [.lst L, .int 2])) : stmtStep (EV 94) s5 (st4_3 q L) = some (.next, st5_3 q (.own 0 [.lst L, .int 2]) 2) := by
  have hsh : short [V.int 1, V.int 2, V.int 4] = true := rfl
  have h' : (EV 92).m 27 [.lst L, .int 1] [.int (([V.int 1, V.int 2, V.int 4].length : Nat) : Int)] = some (.int 1, [.lst L, .int 2]) := h
  simp only [s5, st4_3, stmtStep, asgStep, EV_e, exprStep, evs, peek, contents, getR, hsh, h']
  rfl
theorem rest_3_1 (q q' : R) : outT ((EV 94).b rest (st5_3 q q' 2)) = true := by
  rw [rest_all]
  kernel_rfl
theorem run5_3_2 (q : R) (L : List V) (h : (EV 92).m 27 [.lst L, .int 1] [.int 3] = some (.int 2, [.lst L, .int 2])) : stmtStep (EV 94) s5 (st4_3 q L) = some (.next, st5_3 q (.own 0 [.lst L, .int 2]) 4) := by
  have hsh : short [V.int 1, V.int 2, V.int 4] = true := rfl
  have h' : (EV 92).m 27 [.lst L, .int 1] [.int (([V.int 1, V.int 2, V.int 4].length : Nat) : Int)] = some (.int 2, [.lst L, .int 2]) := h
  simp only [s5, st4_3, stmtStep, asgStep, EV_e, exprStep, evs, peek, contents, getR, hsh, h']
  rfl
theorem rest_3_2 (q q' : R) : outT ((EV 94).b rest (st5_3 q q' 4)) = true := by
  rw [rest_all]
  kernel_rfl
theorem run2_4 (q : R) (L : List V) (h : (EV 95).m 27 [.lst L, .int 0] [.int 6] = some (.int 4, [.lst L, .int 1])) : stmtStep (EV 97) s2 (st1 q L) = some (.next, st2_4 q L) := by
  simp only [s2, st1, stmtStep, EV_e, exprStep, evs, getR, tab, h]
  rfl
theorem run3_4 (q : R) (L : List V) : stmtStep (EV 96) s3 (st2_4 q L) = some (.next, st3_4 q L) := by kernel_rfl
theorem run4_4 (q : R) (L : List V) : stmtStep (EV 95) s4 (st3_4 q L) = some (.next, st4_4 q L) := by kernel_rfl
theorem run5_4_0 (q : R) (L : List V) (h : (EV 92).m 27 [.lst L, .int 1] [.int 4] = some (.int 0, [.lst L, .int 2])) : stmtStep (EV 94) s5 (st4_4 q L) = some (.next, st5_4 q (.own 0 [.lst L, .int 2]) 1) := by
  have hsh : short [V.int 1, V.int 2, V.int 5, V.int 10] = true := rfl
  have h' : (EV 92).m 27 [.lst L, .int 1] [.int (([V.int 1, V.int 2, V.int 5, V.int 10].length : Nat) : Int)] = some (.int 0, [.lst L, .int 2]) := h
  simp only [s5, st4_4, stmtStep, asgStep, EV_e, exprStep, evs, peek, contents, getR, hsh, h']
  rfl
theorem rest_4_0 (q q' : R) : outT ((EV 94).b rest (st5_4 q q' 1)) = true := by
  rw [rest_all]
  kernel_rfl
theorem run5_4_1 (q : R) (L : List V) (h : (EV 92).m 27 [.lst L, .int 1] [.int 4] = some (.int 1, [.lst L, .int 2])) : stmtStep (EV 94) s5 (st4_4 q L) = some (.next, st5_4 q (.own 0 [.lst L, .int 2]) 2) := by
  have hsh : short [V.int 1, V.int 2, V.int 5, V.int 10] = true := rfl
  have h' : (EV 92).m 27 [.lst L, .int 1] [.int (([V.int 1, V.int 2, V.int 5, V.int 10].length : Nat) : Int)] = some (.int 1, [.lst L, .int 2]) := h
  simp only [s5, st4_4, stmtStep, asgStep, EV_e, exprStep, evs, peek, contents, getR, hsh, h']
  rfl
theorem rest_4_1 (q q' : R) : outT ((EV 94).b rest (st5_4 q q' 2)) = true := by
  rw [rest_all]
  kernel_rfl
theorem run5_4_2 (q : R) (L : List V) (h : (EV 92).m 27 [.lst L, .int 1] [.int 4] = some (.int 2, [.lst L, .int 2])) : stmtStep (EV 94) s5 (st4_4 q L) = some (.next, st5_4 q (.own 0 [.lst L, .int 2]) 5) := by
  have hsh : short [V.int 1, V.int 2, V.int 5, V.int 10] = true := rfl
  have h' : (EV 92).m 27 [.lst L, .int 1] [.int (([V.int 1, V.int 2, V.int 5, V.int 10].length : Nat) : Int)] = some (.int 2, [.lst L, .int 2]) := h
  simp only [s5, st4_4, stmtStep, asgStep, EV_e, exprStep, evs, peek, contents, getR, hsh, h']
  rfl
theorem rest_4_2 (q q' : R) : outT ((EV 94).b rest (st5_4 q q' 5)) = true := by
  rw [rest_all]
  kernel_rfl
theorem run5_4_3 (q : R) (L : List V) (h : (EV 92).m 27 [.lst L, .int 1] [.int 4] = some (.int 3, [.lst L, .int 2])) : stmtStep (EV 94) s5 (st4_4 q L) = some (.next, st5_4 q (.own 0 [.lst L, .int 2]) 10) := by
  have hsh : short [V.int 1, V.int 2, V.int 5, V.int 10] = true := rfl
  have h' : (EV 92).m 27 [.lst L, .int 1] [.int (([V.int 1, V.int 2, V.int 5, V.int 10].length : Nat) : Int)] = some (.int 3, [.lst L, .int 2]) := h
  simp only [s5, st4_4, stmtStep, asgStep, EV_e, exprStep, evs, peek, contents, getR, hsh, h']
  rfl
theorem rest_4_3 (q q' : R) : outT ((EV 94).b rest (st5_4 q q' 10)) = true := by
  rw [rest_all]
  kernel_rfl
theorem run2_5 (q : R) (L : List V) (h : (EV 95).m 27 [.lst L, .int 0] [.int 6] = some (.int 5, [.lst L, .int 1])) : stmtStep (EV 97) s2 (st1 q L) = some (.next, st2_5 q L) := by
  simp only [s2, st1, stmtStep, EV_e, exprStep, evs, getR, tab, h]
  rfl
theorem run3_5 (q : R) (L : List V) : stmtStep (EV 96) s3 (st2_5 q L) = some (.next, st3_5 q L) := by kernel_rfl
theorem run4_5 (q : R) (L : List V) : stmtStep (EV 95) s4 (st3_5 q L) = some (.next, st4_5 q L) := by kernel_rfl
theorem run5_5_0 (q : R) (L : List V) (h : (EV 92).m 27 [.lst L, .int 1] [.int 4] = some (.int 0, [.lst L, .int 2])) : stmtStep (EV 94) s5 (st4_5 q L) = some (.next, st5_5 q (.own 0 [.lst L, .int 2]) 1) := by
  have hsh : short [V.int 1, V.int 2, V.int 3, V.int 6] = true := rfl
  have h' : (EV 92).m 27 [.lst L, .int 1] [.int (([V.int 1, V.int 2, V.int 3, V.int 6].length : Nat) : Int)] = some (.int 0, [.lst L, .int 2]) := h
  simp only [s5, st4_5, stmtStep, asgStep, EV_e, exprStep, evs, peek, contents, getR, hsh, h']
  rfl
theorem rest_5_0 (q q' : R) : outT ((EV 94).b rest (st5_5 q q' 1)) = true := by
  rw [rest_all]
  kernel_rfl
theorem run5_5_1 (q : R) (L : List V) (h : (EV 92).m 27 [.lst L, .int 1] [.int 4] = some (.int 1, [.lst L, .int 2])) : stmtStep (EV 94) s5 (st4_5 q L) = some (.next, st5_5 q (.own 0 [.lst L, .int 2]) 2) := by
  have hsh : short [V.int 1, V.int 2, V.int 3, V.int 6] = true := rfl
  have h' : (EV 92).m 27 [.lst L, .int 1] [.int (([V.int 1, V.int 2, V.int 3, V.int 6].length : Nat) : Int)] = some (.int 1, [.lst L, .int 2]) := h
  simp only [s5, st4_5, stmtStep, asgStep, EV_e, exprStep, evs, peek, contents, getR, hsh, h']
  rfl
theorem rest_5_1 (q q' : R) : outT ((EV 94).b rest (st5_5 q q' 2)) = true := by
  rw [rest_all]
  kernel_rfl
theorem run5_5_2 (q : R) (L : List V) (h : (EV 92).m 27 [.lst L, .int 1] [.int 4] = some (.int 2, [.lst L, .int 2])) : stmtStep (EV 94) s5 (st4_5 q L) = some (.next, st5_5 q (.own 0 [.lst L, .int 2]) 3) := by
  have hsh : short [V.int 1, V.int 2, V.int 3, V.int 6] = true := rfl
  have h' : (EV 92).m 27 [.lst L, .int 1] [.int (([V.int 1, V.int 2, V.int 3, V.int 6].length : Nat) : Int)] = some (.int 2, [.lst L, .int 2]) := h
  simp only [s5, st4_5, stmtStep, asgStep, EV_e, exprStep, evs, peek, contents, getR, hsh, h']
  rfl
theorem rest_5_2 (q q' : R) : outT ((EV 94).b rest (st5_5 q q' 3)) = true := by
  rw [rest_all]
  kernel_rfl
theorem run5_5_3 (q : R) (L : List V) (h : (EV 92).m 27 [.lst L, .int 1] [.int 4] = some (.int 3, [.lst L, .int 2])) : stmtStep (EV 94) s5 (st4_5 q L) = some (.next, st5_5 q (.own 0 [.lst L, .int 2]) 6) := by
  have hsh : short [V.int 1, V.int 2, V.int 3, V.int 6] = true := rfl
  have h' : (EV 92).m 27 [.lst L, .int 1] [.int (([V.int 1, V.int 2, V.int 3, V.int 6].length : Nat) : Int)] = some (.int 3, [.lst L, .int 2]) := h
  simp only [s5, st4_5, stmtStep, asgStep, EV_e, exprStep, evs, peek, contents, getR, hsh, h']
  rfl
theorem rest_5_3 (q q' : R) : outT ((EV 94).b rest (st5_5 q q' 6)) = true := by
  rw [rest_all]
  kernel_rfl
theorem law_of {vs L : List V} {st2 st3 st4 st5 : St} (h : short vs = true) (hL : takeN 2 vs = L) (h2 : stmtStep (EV 97) s2 (st1 (.val (.lst vs)) L) = some (.next, st2)) (h3 : stmtStep (EV 96) s3 st2 = some (.next, st3)) (h4 : stmtStep (EV 95) s4 st3 = some (.next, st4))
    (h5 : stmtStep (EV 94) s5 st4 = some (.next, st5)) (h6 : outT ((EV 94).b rest st5) = true) : (EV 100).c 31 [.lst vs] = some (.bool true) := by
  have h1 := run1 vs h
  rw [hL] at h1
  obtain ⟨st, h6⟩ := outT_some h6
  have hb : (EV 99).b f31.body (st0 vs) = some (.ret (.bool true), st) := by
    rw [body_eq, block_next h1, block_next h2, block_next h3, block_next h4, block_next h5, h6]
  rw [EV_c]
  unfold callStep
  show (match (EV 99).b f31.body (st0 vs) with
    | some (.ret v, _) => some v
    | some (.next, _) => some .none
    | none => none) = some (.bool true)
  rw [hb]

theorem law_0_1 {vs : List V} {x : Int} (h : short vs = true) (hL : takeN 2 vs = [.int x]) (hx : Int.fmod x.natAbs 6 = 0) : (EV 100).c 31 [.lst vs] = some (.bool true) :=
  law_of h hL (run2_0 _ _ (by rw [pick1_x x [] (.inl rfl), hx])) (run3_0 _ _) (run4_0 _ _) (run5_0_0 _ _ (pick2_1_2 x)) (rest_0_0 _ _)
theorem law_0_2_0 {vs : List V} {x y : Int} (h : short vs = true) (hL : takeN 2 vs = [.int x, .int y]) (hx : Int.fmod x.natAbs 6 = 0) (hy : Int.fmod y.natAbs 2 = 0) : (EV 100).c 31 [.lst vs] = some (.bool true) :=
  law_of h hL (run2_0 _ _ (by rw [pick1_x x [.int y] (.inr ⟨y, rfl⟩), hx])) (run3_0 _ _) (run4_0 _ _) (run5_0_0 _ _ (by rw [pick2_2_2 x y, hy])) (rest_0_0 _ _)
theorem law_0_2_1 {vs : List V} {x y : Int} (h : short vs = true) (hL : takeN 2 vs = [.int x, .int y]) (hx : Int.fmod x.natAbs 6 = 0) (hy : Int.fmod y.natAbs 2 = 1) : (EV 100).c 31 [.lst vs] = some (.bool true) :=
  law_of h hL (run2_0 _ _ (by rw [pick1_x x [.int y] (.inr ⟨y, rfl⟩), hx])) (run3_0 _ _) (run4_0 _ _) (run5_0_1 _ _ (by rw [pick2_2_2 x y, hy])) (rest_0_1 _ _)
theorem law_1_1 {vs : List V} {x : Int} (h : short vs = true) (hL : takeN 2 vs = [.int x]) (hx : Int.fmod x.natAbs 6 = 1) : (EV 100).c 31 [.lst vs] = some (.bool true) :=
  law_of h hL (run2_1 _ _ (by rw [pick1_x x [] (.inl rfl), hx])) (run3_1 _ _) (run4_1 _ _) (run5_1_2 _ _ (pick2_1_4 x)) (rest_1_2 _ _)
theorem law_1_2_0 {vs : List V} {x y : Int} (h : short vs = true) (hL : takeN 2 vs = [.int x, .int y]) (hx : Int.fmod x.natAbs 6 = 1) (hy : Int.fmod y.natAbs 4 = 0) : (EV 100).c 31 [.lst vs] = some (.bool true) :=
  law_of h hL (run2_1 _ _ (by rw [pick1_x x [.int y] (.inr ⟨y, rfl⟩), hx])) (run3_1 _ _) (run4_1 _ _) (run5_1_0 _ _ (by rw [pick2_2_4 x y, hy])) (rest_1_0 _ _)
theorem law_1_2_1 {vs : List V} {x y : Int} (h : short vs = true) (hL : takeN 2 vs = [.int x, .int y]) (hx : Int.fmod x.natAbs 6 = 1) (hy : Int.fmod y.natAbs 4 = 1) : (EV 100).c 31 [.lst vs] = some (.bool true) :=
  law_of h hL (run2_1 _ _ (by rw [pick1_x x [.int y] (.inr ⟨y, rfl⟩), hx])) (run3_1 _ _) (run4_1 _ _) (run5_1_1 _ _ (by rw [pick2_2_4 x y, hy])) (rest_1_1 _ _)
theorem law_1_2_2 {vs : List V} {x y : Int} (h : short vs = true) (hL : takeN 2 vs = [.int x, .int y]) (hx : Int.fmod x.natAbs 6 = 1) (hy : Int.fmod y.natAbs 4 = 2) : (EV 100).c 31 [.lst vs] = some (.bool true) :=
  law_of h hL (run2_1 _ _ (by rw [pick1_x x [.int y] (.inr ⟨y, rfl⟩), hx])) (run3_1 _ _) (run4_1 _ _) (run5_1_2 _ _ (by rw [pick2_2_4 x y, hy])) (rest_1_2 _ _)
theorem law_1_2_3 {vs : List V} {x y : Int} (h : short vs = true) (hL : takeN 2 vs = [.int x, .int y]) (hx : Int.fmod x.natAbs 6 = 1) (hy : Int.fmod y.natAbs 4 = 3) : (EV 100).c 31 [.lst vs] = some (.bool true) :=
  law_of h hL (run2_1 _ _ (by rw [pick1_x x [.int y] (.inr ⟨y, rfl⟩), hx])) (run3_1 _ _) (run4_1 _ _) (run5_1_3 _ _ (by rw [pick2_2_4 x y, hy])) (rest_1_3 _ _)
theorem law_2_1 {vs : List V} {x : Int} (h : short vs = true) (hL : takeN 2 vs = [.int x]) (hx : Int.fmod x.natAbs 6 = 2) : (EV 100).c 31 [.lst vs] = some (.bool true) :=
  law_of h hL (run2_2 _ _ (by rw [pick1_x x [] (.inl rfl), hx])) (run3_2 _ _) (run4_2 _ _) (run5_2_0 _ _ (pick2_1_2 x)) (rest_2_0 _ _)
theorem law_2_2_0 {vs : List V} {x y : Int} (h : short vs = true) (hL : takeN 2 vs = [.int x, .int y]) (hx : Int.fmod x.natAbs 6 = 2) (hy : Int.fmod y.natAbs 2 = 0) : (EV 100).c 31 [.lst vs] = some (.bool true) :=
  law_of h hL (run2_2 _ _ (by rw [pick1_x x [.int y] (.inr ⟨y, rfl⟩), hx])) (run3_2 _ _) (run4_2 _ _) (run5_2_0 _ _ (by rw [pick2_2_2 x y, hy])) (rest_2_0 _ _)
theorem law_2_2_1 {vs : List V} {x y : Int} (h : short vs = true) (hL : takeN 2 vs = [.int x, .int y]) (hx : Int.fmod x.natAbs 6 = 2) (hy : Int.fmod y.natAbs 2 = 1) : (EV 100).c 31 [.lst vs] = some (.bool true) :=
  law_of h hL (run2_2 _ _ (by rw [pick1_x x [.int y] (.inr ⟨y, rfl⟩), hx])) (run3_2 _ _) (run4_2 _ _) (run5_2_1 _ _ (by rw [pick2_2_2 x y, hy])) (rest_2_1 _ _)
theorem law_3_1 {vs : List V} {x : Int} (h : short vs = true) (hL : takeN 2 vs = [.int x]) (hx : Int.fmod x.natAbs 6 = 3) : (EV 100).c 31 [.lst vs] = some (.bool true) :=
  law_of h hL (run2_3 _ _ (by rw [pick1_x x [] (.inl rfl), hx])) (run3_3 _ _) (run4_3 _ _) (run5_3_1 _ _ (pick2_1_3 x)) (rest_3_1 _ _)
theorem law_3_2_0 {vs : List V} {x y : Int} (h : short vs = true) (hL : takeN 2 vs = [.int x, .int y]) (hx : Int.fmod x.natAbs 6 = 3) (hy : Int.fmod y.natAbs 3 = 0) : (EV 100).c 31 [.lst vs] = some (.bool true) :=
  law_of h hL (run2_3 _ _ (by rw [pick1_x x [.int y] (.inr ⟨y, rfl⟩), hx])) (run3_3 _ _) (run4_3 _ _) (run5_3_0 _ _ (by rw [pick2_2_3 x y, hy])) (rest_3_0 _ _)
theorem law_3_2_1 {vs : List V} {x y : Int} (h : short vs = true) (hL : takeN 2 vs = [.int x, .int y]) (hx : Int.fmod x.natAbs 6 = 3) (hy : Int.fmod y.natAbs 3 = 1) : (EV 100).c 31 [.lst vs] = some (.bool true) :=
  law_of h hL (run2_3 _ _ (by rw [pick1_x x [.int y] (.inr ⟨y, rfl⟩), hx])) (run3_3 _ _) (run4_3 _ _) (run5_3_1 _ _ (by rw [pick2_2_3 x y, hy])) (rest_3_1 _ _)
theorem law_3_2_2 {vs : List V} {x y : Int} (h : short vs = true) (hL : takeN 2 vs = [.int x, .int y]) (hx : Int.fmod x.natAbs 6 = 3) (hy : Int.fmod y.natAbs 3 = 2) : (EV 100).c 31 [.lst vs] = some (.bool true) :=
  law_of h hL (run2_3 _ _ (by rw [pick1_x x [.int y] (.inr ⟨y, rfl⟩), hx])) (run3_3 _ _) (run4_3 _ _) (run5_3_2 _ _ (by rw [pick2_2_3 x y, hy])) (rest_3_2 _ _)
theorem law_4_1 {vs : List V} {x : Int} (h : short vs = true) (hL : takeN 2 vs = [.int x]) (hx : Int.fmod x.natAbs 6 = 4) : (EV 100).c 31 [.lst vs] = some (.bool true) :=
  law_of h hL (run2_4 _ _ (by rw [pick1_x x [] (.inl rfl), hx])) (run3_4 _ _) (run4_4 _ _) (run5_4_2 _ _ (pick2_1_4 x)) (rest_4_2 _ _)
theorem law_4_2_0 {vs : List V} {x y : Int} (h : short vs = true) (hL : takeN 2 vs = [.int x, .int y]) (hx : Int.fmod x.natAbs 6 = 4) (hy : Int.fmod y.natAbs 4 = 0) : (EV 100).c 31 [.lst vs] = some (.bool true) :=
  law_of h hL (run2_4 _ _ (by rw [pick1_x x [.int y] (.inr ⟨y, rfl⟩), hx])) (run3_4 _ _) (run4_4 _ _) (run5_4_0 _ _ (by rw [pick2_2_4 x y, hy])) (rest_4_0 _ _)
theorem law_4_2_1 {vs : List V} {x y : Int} (h : short vs = true) (hL : takeN 2 vs = [.int x, .int y]) (hx : Int.fmod x.natAbs 6 = 4) (hy : Int.fmod y.natAbs 4 = 1) : (EV 100).c 31 [.lst vs] = some (.bool true) :=
  law_of h hL (run2_4 _ _ (by rw [pick1_x x [.int y] (.inr ⟨y, rfl⟩), hx])) (run3_4 _ _) (run4_4 _ _) (run5_4_1 _ _ (by rw [pick2_2_4 x y, hy])) (rest_4_1 _ _)
theorem law_4_2_2 {vs : List V} {x y : Int} (h : short vs = true) (hL : takeN 2 vs = [.int x, .int y]) (hx : Int.fmod x.natAbs 6 = 4) (hy : Int.fmod y.natAbs 4 = 2) : (EV 100).c 31 [.lst vs] = some (.bool true) :=
  law_of h hL (run2_4 _ _ (by rw [pick1_x x [.int y] (.inr ⟨y, rfl⟩), hx])) (run3_4 _ _) (run4_4 _ _) (run5_4_2 _ _ (by rw [pick2_2_4 x y, hy])) (rest_4_2 _ _)
theorem law_4_2_3 {vs : List V} {x y : Int} (h : short vs = true) (hL : takeN 2 vs = [.int x, .int y]) (hx : Int.fmod x.natAbs 6 = 4) (hy : Int.fmod y.natAbs 4 = 3) : (EV 100).c 31 [.lst vs] = some (.bool true) :=
  law_of h hL (run2_4 _ _ (by rw [pick1_x x [.int y] (.inr ⟨y, rfl⟩), hx])) (run3_4 _ _) (run4_4 _ _) (run5_4_3 _ _ (by rw [pick2_2_4 x y, hy])) (rest_4_3 _ _)
theorem law_5_1 {vs : List V} {x : Int} (h : short vs = true) (hL : takeN 2 vs = [.int x]) (hx : Int.fmod x.natAbs 6 = 5) : (EV 100).c 31 [.lst vs] = some (.bool true) :=
  law_of h hL (run2_5 _ _ (by rw [pick1_x x [] (.inl rfl), hx])) (run3_5 _ _) (run4_5 _ _) (run5_5_2 _ _ (pick2_1_4 x)) (rest_5_2 _ _)
theorem law_5_2_0 {vs : List V} {x y : Int} (h : short vs = true) (hL : takeN 2 vs = [.int x, .int y]) (hx : Int.fmod x.natAbs 6 = 5) (hy : Int.fmod y.natAbs 4 = 0) : (EV 100).c 31 [.lst vs] = some (.bool true) :=
  law_of h hL (run2_5 _ _ (by rw [pick1_x x [.int y] (.inr ⟨y, rfl⟩), hx])) (run3_5 _ _) (run4_5 _ _) (run5_5_0 _ _ (by rw [pick2_2_4 x y, hy])) (rest_5_0 _ _)
theorem law_5_2_1 {vs : List V} {x y : Int} (h : short vs = true) (hL : takeN 2 vs = [.int x, .int y]) (hx : Int.fmod x.natAbs 6 = 5) (hy : Int.fmod y.natAbs 4 = 1) : (EV 100).c 31 [.lst vs] = some (.bool true) :=
  law_of h hL (run2_5 _ _ (by rw [pick1_x x [.int y] (.inr ⟨y, rfl⟩), hx])) (run3_5 _ _) (run4_5 _ _) (run5_5_1 _ _ (by rw [pick2_2_4 x y, hy])) (rest_5_1 _ _)
theorem law_5_2_2 {vs : List V} {x y : Int} (h : short vs = true) (hL : takeN 2 vs = [.int x, .int y]) (hx : Int.fmod x.natAbs 6 = 5) (hy : Int.fmod y.natAbs 4 = 2) : (EV 100).c 31 [.lst vs] = some (.bool true) :=
  law_of h hL (run2_5 _ _ (by rw [pick1_x x [.int y] (.inr ⟨y, rfl⟩), hx])) (run3_5 _ _) (run4_5 _ _) (run5_5_2 _ _ (by rw [pick2_2_4 x y, hy])) (rest_5_2 _ _)
theorem law_5_2_3 {vs : List V} {x y : Int} (h : short vs = true) (hL : takeN 2 vs = [.int x, .int y]) (hx : Int.fmod x.natAbs 6 = 5) (hy : Int.fmod y.natAbs 4 = 3) : (EV 100).c 31 [.lst vs] = some (.bool true) :=
  law_of h hL (run2_5 _ _ (by rw [pick1_x x [.int y] (.inr ⟨y, rfl⟩), hx])) (run3_5 _ _) (run4_5 _ _) (run5_5_3 _ _ (by rw [pick2_2_4 x y, hy])) (rest_5_3 _ _)
theorem law_nil {vs : List V} (h : short vs = true) (hL : takeN 2 vs = []) : (EV 100).c 31 [.lst vs] = some (.bool true) :=
  law_of h hL (run2_5 _ _ pick1_0) (run3_5 _ _) (run4_5 _ _) (run5_5_2 _ _ pick2_0_4) (rest_5_2 _ _)
theorem fmod_cases (x : Int) (c : Nat) (hc : 0 < c) : ∃ k : Nat, k < c ∧ Int.fmod x.natAbs c = k := by
  refine ⟨x.natAbs % c, Nat.mod_lt _ hc, ?_⟩
  rw [Int.fmod_eq_emod_of_nonneg _ (by omega)]
  omega
theorem small_ints (is : List Int) (h : is.length ≤ 63) : short (is.map V.int) = true := by
  unfold short
  rw [Nat.blt_eq, List.length_map]
  omega
theorem plain_law (is : List Int) (hl : is.length ≤ 63) : (Mine.ev Mine.tab Mine.prog (fun _ _ => none) 100).c 31 [.lst (is.map Mine.V.int)] = some (.bool true) := by
  have hs := small_ints is hl
  show (EV 100).c 31 [.lst (is.map V.int)] = some (.bool true)
  match is with
  | [] => exact law_nil hs rfl
  | [x] =>
    obtain ⟨i, hi, hx⟩ := fmod_cases x 6 (by decide)
    match i, hi with
    | 0, _ => exact law_0_1 hs rfl hx
    | 1, _ => exact law_1_1 hs rfl hx
    | 2, _ => exact law_2_1 hs rfl hx
    | 3, _ => exact law_3_1 hs rfl hx
    | 4, _ => exact law_4_1 hs rfl hx
    | 5, _ => exact law_5_1 hs rfl hx
  | x :: y :: r =>
    obtain ⟨i, hi, hx⟩ := fmod_cases x 6 (by decide)
    match i, hi with
    | 0, _ =>
      obtain ⟨j, hj, hy⟩ := fmod_cases y 2 (by decide)
      match j, hj with
      | 0, _ => exact law_0_2_0 hs rfl hx hy
      | 1, _ => exact law_0_2_1 hs rfl hx hy
    | 1, _ =>
      obtain ⟨j, hj, hy⟩ := fmod_cases y 4 (by decide)
      match j, hj with
      | 0, _ => exact law_1_2_0 hs rfl hx hy
      | 1, _ => exact law_1_2_1 hs rfl hx hy
      | 2, _ => exact law_1_2_2 hs rfl hx hy
      | 3, _ => exact law_1_2_3 hs rfl hx hy
    | 2, _ =>
      obtain ⟨j, hj, hy⟩ := fmod_cases y 2 (by decide)
      match j, hj with
      | 0, _ => exact law_2_2_0 hs rfl hx hy
      | 1, _ => exact law_2_2_1 hs rfl hx hy
    | 3, _ =>
      obtain ⟨j, hj, hy⟩ := fmod_cases y 3 (by decide)
      match j, hj with
      | 0, _ => exact law_3_2_0 hs rfl hx hy
      | 1, _ => exact law_3_2_1 hs rfl hx hy
      | 2, _ => exact law_3_2_2 hs rfl hx hy
    | 4, _ =>
      obtain ⟨j, hj, hy⟩ := fmod_cases y 4 (by decide)
      match j, hj with
      | 0, _ => exact law_4_2_0 hs rfl hx hy
      | 1, _ => exact law_4_2_1 hs rfl hx hy
      | 2, _ => exact law_4_2_2 hs rfl hx hy
      | 3, _ => exact law_4_2_3 hs rfl hx hy
    | 5, _ =>
      obtain ⟨j, hj, hy⟩ := fmod_cases y 4 (by decide)
      match j, hj with
      | 0, _ => exact law_5_2_0 hs rfl hx hy
      | 1, _ => exact law_5_2_1 hs rfl hx hy
      | 2, _ => exact law_5_2_2 hs rfl hx hy
      | 3, _ => exact law_5_2_3 hs rfl hx hy
end Mine

/-! part Hk -/
namespace Mine
open PySem PySem.W PyProof.Rows
noncomputable def allOf (f : Value → Option V) : List Value → Option (List V)
  | [] => some []
  | v :: l => match f v with
    | some a => match allOf f l with
      | some r => some (a :: r)
      | none => none
    | none => none
noncomputable def rd : Nat → Heap → Value → Option V
  | 0, _, _ => none
  | n + 1, h, v => match v with
    | .int i _ => some (.int i)
    | .ref a => match h.get? a with
      | some o => match o.data with
        | .seq items _ => match decide (o.cls = .type "tuple"), allOf (rd n h) items.toList with
          | true, some vs => some (.tup vs)
          | _, _ => none
        | _ => none
      | none => none
    | _ => none
theorem allOf_vr {h : Heap} {f : Value → Option V} (hf : ∀ v x, f v = some x → VR [] h x v) : ∀ {l : List Value} {vs : List V}, allOf f l = some vs → VRs [] h vs l
  | [], _, e => by cases e; exact .nil
  | v :: l, _, e => by
    unfold allOf at e
    split at e
    · rename_i a e1
      split at e
      · rename_i r e2
        cases e
        exact .cons (hf _ _ e1) (allOf_vr hf e2)
      · cases e
    · cases e
theorem rd_vr {h : Heap} : ∀ (n : Nat) {v : Value} {x : V}, rd n h v = some x → VR [] h x v
  | 0, _, _, e => nomatch e
  | n + 1, v, x, e => by
    unfold rd at e
    split at e
    · cases e; exact .int _ _
    · rename_i a
      split at e
      · rename_i o eo
        split at e
        · rename_i items k ed
          split at e
          · rename_i vs hc ev
            cases e
            exact .tup (l := items.toList) ⟨o, eo, of_decide_eq_true hc, k, by rw [ed]⟩ (fun q => nomatch q) (allOf_vr (fun v x e => rd_vr n e) ev)
          · cases e
        · cases e
      · cases e
    · cases e
theorem allOf_mono {f g : Value → Option V} (hf : ∀ v x, f v = some x → g v = some x) : ∀ {l : List Value} {vs : List V}, allOf f l = some vs → allOf g l = some vs
  | [], _, e => e
  | v :: l, _, e => by
    unfold allOf at e
    split at e
    · rename_i a e1
      split at e
      · rename_i r e2
        cases e
        unfold allOf
        rw [hf _ _ e1, allOf_mono hf e2]
      · cases e
    · cases e
theorem rd_keeps {h h' : Heap} (hk : ∀ b o, h.get? b = some o → h'.get? b = some o) : ∀ (n : Nat) {v : Value} {x : V}, rd n h v = some x → rd n h' v = some x
  | 0, _, _, e => nomatch e
  | n + 1, v, x, e => by
    unfold rd at e
    split at e
    · cases e; rfl
    · rename_i a
      split at e
      · rename_i o eo
        split at e
        · rename_i items k ed
          split at e
          · rename_i vs hc ev
            cases e
            unfold rd
            simp only [hk _ _ eo, ed, hc, allOf_mono (fun v x e => rd_keeps hk n e) ev]
          · cases e
        · cases e
      · cases e
    · cases e
noncomputable def rdAt (h : Heap) : Option V := match h.nsMap mainGlobals (Str.ofString "_law_fields") with
  | some v => rd 4 h v
  | none => none
theorem rdAt_keeps {h h' : Heap} {x : V} (e : rdAt h = some x) (hk : ∀ b o, h.get? b = some o → h'.get? b = some o) : rdAt h' = some x := by
  unfold rdAt at e
  split at e
  · rename_i v ev
    have : h'.nsMap mainGlobals (Str.ofString "_law_fields") = some v := by
      unfold Heap.nsMap at ev ⊢
      split at ev
      · rename_i o eo
        rw [hk _ _ eo]
        exact ev
      · cases ev
    unfold rdAt
    rw [this]
    exact rd_keeps hk 4 e
  · cases e
noncomputable def hook : Hook := ⟨Option V, fun s => rdAt s.heap, fun _ => some fields, fun _ h => rdAt h = some fields, fun _ _ e => e, fun _ _ _ e hk => rdAt_keeps e hk⟩
theorem hook_says {w : World} {h : Heap} {mg : Str → Option Value} (Y : hook.says w h) (g : h.Ns mainGlobals mg) : ∃ wv, mg (Str.ofString "_law_fields") = some wv ∧ VR [] h fields wv := by
  have Y : rdAt h = some fields := Y
  rw [g.eq_nsMap]
  unfold rdAt at Y
  split at Y
  · rename_i v ev
    exact ⟨v, ev, rd_vr 4 Y⟩
  · cases Y
end Mine

/-! part Hp -/
set_option maxHeartbeats 8000000
open PySem PySem.W PyProof.Rows
namespace Mine
noncomputable def hp11 (_ : Params) : Obj := { cls := .type "tuple", data := .seq #[] }
noncomputable def hp12 (_ : Params) : Obj := { cls := .none, data := .fields #[] }
noncomputable def hp13 (_ : Params) : Obj := { cls := .type "code", data := .fields #[.str (Str.ofString "<module>") 182, .str (Str.ofString "<module>") 183, .str (Str.ofString "/claim/cut.py") 184, .int 1 0, .int 0 0, .int 0 0, .int 0 0, .int 0 0, .ref 11, .bool false, .int 181 0, .ref 12, .none, .none, .none, .none, .int 185 0, .int 1 0, .str (Str.ofString "/claim/cut.py") 186] }
noncomputable def hp14 (_ : Params) : Obj := { cls := .type "frame", slots := #[some (.ref 13), some (.ref 3), some (.ref 3), none, some (.str (Str.ofString "__main__") 164), none, some (.ref 0)] }
noncomputable def heapA (P : Params) : Heap := { objs := ⟨[boot_o_0 P, boot_o_1 P, boot_o_2 P, boot_o_3 P, boot_o_4 P, boot_o_5 P, boot_o_6 P, boot_o_7 P, boot_o_8 P, boot_o_9 P, boot_o_10 P, hp11 P, hp12 P, hp13 P, hp14 P]⟩ }
noncomputable def treeA (P : Params) : BT :=
  .node (boot_o_0 P)
    (.node (boot_o_1 P) (.node (boot_o_3 P) (.node (boot_o_7 P) .nil .nil) (.node (hp11 P) .nil .nil)) (.node (boot_o_5 P) (.node (boot_o_9 P) .nil .nil) (.node (hp13 P) .nil .nil)))
    (.node (boot_o_2 P) (.node (boot_o_4 P) (.node (boot_o_8 P) .nil .nil) (.node (hp12 P) .nil .nil)) (.node (boot_o_6 P) (.node (boot_o_10 P) .nil .nil) (.node (hp14 P) .nil .nil)))
noncomputable def pr : Program := PySem.Challenge.pw_tk0040_01
noncomputable def envA : Env := { scope := pr.main.scope, locals := mainNs, globals := mainNs, cells := [], code := .ref 13, frame := some 14 }
noncomputable def p0 : Pos := ⟨0, 0, 0, 0⟩
noncomputable def codeA : Code := .body (behindTheImports pr) envA
noncomputable def stA (P : Params) (os : OsState) : SharedT := ⟨treeA P, 15, {}, #[], {}, 187, os⟩
end Mine

/-! part Hs -/
open PySem PySem.W PyProof.Rows
namespace Mine
noncomputable def stmI : Stmt := match stm 1 with
  | .ClassDef _ _ _ body .. => (body[0]?).getD (.Pass ⟨0, 0, 0, 0⟩)
  | s => s
noncomputable def ob43 (P : Params) : Obj := { cls := Value.type "tuple", data := Data.seq #[] }
noncomputable def ob45 (P : Params) : Obj := { cls := Value.type "code", data := Data.fields #[Value.str (Str.ofString "<module>") 182, Value.str (Str.ofString "<module>") 183, Value.str (Str.ofString "/claim/cut.py") 184, Value.int 1 0, Value.int 0 0, Value.int 0 0, Value.int 0 0, Value.int 0 0, Value.ref 11, Value.bool false, Value.int 181 0, Value.ref 12, Value.none, Value.none, Value.none, Value.none, Value.int 185 0, Value.int 1 0, Value.str (Str.ofString "/claim/cut.py") 186] }
noncomputable def ob46 (P : Params) : Obj := { cls := Value.type "frame", slots := #[some (Value.ref 13), some (Value.ref 3), some (Value.ref 3), none, some (Value.str (Str.ofString "__main__") 164), none, some (Value.ref 0)] }
noncomputable def ob49 (P : Params) : Obj := { cls := Value.none, data := Data.dict #[{ hash := PyData.keyHash P (Str.ofString "type.__subclasses__.Exception.0"), key := Value.str (Str.ofString "type.__subclasses__.Exception.0") 216, val := Value.int 31 0 }, { hash := PyData.keyHash P (Str.ofString "type.__subclasses__.Exception.n"), key := Value.str (Str.ofString "type.__subclasses__.Exception.n") 217, val := Value.int 1 0 }] 2 }
noncomputable def ob50 (P : Params) : Obj := { cls := Value.type "dict", data := Data.dict #[{ hash := PyData.keyHash P (Str.ofString "__name__"), key := Value.str (Str.ofString "__name__") 165, val := Value.str (Str.ofString "cas.mpoly") 264 }, { hash := PyData.keyHash P (Str.ofString "__doc__"), key := Value.str (Str.ofString "__doc__") 166, val := Value.none }, { hash := PyData.keyHash P (Str.ofString "__package__"), key := Value.str (Str.ofString "__package__") 167, val := Value.none }, { hash := PyData.keyHash P (Str.ofString "__loader__"), key := Value.str (Str.ofString "__loader__") 168, val := Value.builtin "__main__.__loader__#opaque" }, { hash := PyData.keyHash P (Str.ofString "__spec__"), key := Value.str (Str.ofString "__spec__") 169, val := Value.none }, { hash := PyData.keyHash P (Str.ofString "__annotations__"), key := Value.str (Str.ofString "__annotations__") 170, val := Value.ref 6 }, { hash := PyData.keyHash P (Str.ofString "__builtins__"), key := Value.str (Str.ofString "__builtins__") 171, val := Value.ref 4 }, { hash := PyData.keyHash P (Str.ofString "__file__"), key := Value.str (Str.ofString "__file__") 173, val := Value.str (Str.ofString "/claim/cut.py") 172 }, { hash := PyData.keyHash P (Str.ofString "__cached__"), key := Value.str (Str.ofString "__cached__") 174, val := Value.none }, { hash := PyData.keyHash P (Str.ofString "CasFail"), key := Value.str (Str.ofString "CasFail") 219, val := Value.ref 31 }, { hash := PyData.keyHash P (Str.ofString "extended"), key := Value.str (Str.ofString "extended") 233, val := Value.ref 41 }, { hash := PyData.keyHash P (Str.ofString "inverse_mod"), key := Value.str (Str.ofString "inverse_mod") 244, val := Value.ref 48 }, { hash := PyData.keyHash P (Str.ofString "least_divisor"), key := Value.str (Str.ofString "least_divisor") 253, val := Value.ref 55 }, { hash := PyData.keyHash P (Str.ofString "prime_factors"), key := Value.str (Str.ofString "prime_factors") 263, val := Value.ref 62 }] 14 }
noncomputable def ob51 (P : Params) : Obj := { cls := Value.none, data := Data.fields #[Value.int 2 0, Value.int 0 0, Value.ref 20, Value.int 9 0, Value.int 0 0, Value.ref 40, Value.int 16 0, Value.int 0 0, Value.ref 47, Value.int 19 0, Value.int 0 0, Value.ref 54, Value.int 26 0, Value.int 0 0, Value.ref 61] }
noncomputable def ob52 (P : Params) : Obj := { cls := Value.type "tuple", data := Data.seq #[Value.type "Exception"] }
noncomputable def ob53 (P : Params) : Obj := { cls := Value.type "builtin_function_or_method", data := Data.fields #[Value.builtin "type.__prepare__", Value.type "type"] }
noncomputable def ob54 (P : Params) : Obj := { cls := Value.type "dict", data := Data.dict #[{ hash := PyData.keyHash P (Str.ofString "__module__"), key := Value.str (Str.ofString "__module__") 196, val := Value.str (Str.ofString "cas.errors") 187 }, { hash := PyData.keyHash P (Str.ofString "__qualname__"), key := Value.str (Str.ofString "__qualname__") 198, val := Value.str (Str.ofString "CasFail") 197 }, { hash := PyData.keyHash P (Str.ofString "__firstlineno__"), key := Value.str (Str.ofString "__firstlineno__") 200, val := Value.int 2 199 }, { hash := PyData.keyHash P (Str.ofString "__init__"), key := Value.str (Str.ofString "__init__") 209, val := Value.ref 28 }, { hash := PyData.keyHash P (Str.ofString "__static_attributes__"), key := Value.str (Str.ofString "__static_attributes__") 212, val := Value.ref 29 }] 5 }
noncomputable def ob55 (P : Params) : Obj := { cls := Value.type "tuple", data := Data.seq #[] }
noncomputable def ob56 (P : Params) : Obj := { cls := Value.none, data := Data.fields #[Value.int 4 0, Value.int 4 0, Value.ref 27] }
noncomputable def ob57 (P : Params) : Obj := { cls := Value.type "code", data := Data.fields #[Value.str (Str.ofString "CasFail") 191, Value.str (Str.ofString "CasFail") 192, Value.str (Str.ofString "/claim/cut.py") 193, Value.int 2 0, Value.int 0 0, Value.int 0 0, Value.int 0 0, Value.int 0 0, Value.ref 18, Value.bool false, Value.int 181 0, Value.ref 19, Value.none, Value.none, Value.none, Value.none, Value.int 194 0, Value.int 2 0, Value.str (Str.ofString "/claim/cut.py") 195] }
noncomputable def ob58 (P : Params) : Obj := { cls := Value.type "frame", slots := #[some (Value.ref 20), some (Value.ref 3), some (Value.ref 17), none, some (Value.str (Str.ofString "cas.errors") 187), none, some (Value.ref 0)] }
noncomputable def ob59 (P : Params) : Obj := { cls := Value.type "tuple", data := Data.seq #[] }
noncomputable def ob60 (P : Params) : Obj := { cls := Value.none, data := Data.fields #[] }
noncomputable def ob61 (P : Params) : Obj := { cls := Value.type "tuple", data := Data.seq #[Value.str (Str.ofString "self") 204, Value.str (Str.ofString "kind") 205, Value.str (Str.ofString "text") 206] }
noncomputable def ob62 (P : Params) : Obj := { cls := Value.type "tuple", data := Data.seq #[] }
noncomputable def ob63 (P : Params) : Obj := { cls := Value.none, data := Data.func { name := Str.ofString "__init__", qualname := Str.ofString "CasFail.__init__", params := (recOf stmI).params, body := .stmts (recOf stmI).body, scope := (recOf stmI).scope, globals := 0, closure := [], defaults := Value.none, kwdefaults := Value.none } }
noncomputable def ob64 (P : Params) : Obj := { cls := Value.type "code", data := Data.fields #[Value.str (Str.ofString "__init__") 201, Value.str (Str.ofString "CasFail.__init__") 202, Value.str (Str.ofString "/claim/cut.py") 203, Value.int 4 0, Value.int 3 0, Value.int 0 0, Value.int 0 0, Value.int 3 0, Value.ref 22, Value.bool true, Value.int 181 0, Value.ref 23, Value.none, Value.ref 24, Value.ref 25, Value.ref 26, Value.int 207 0, Value.int 4 0, Value.str (Str.ofString "/claim/cut.py") 208] }
noncomputable def ob65 (P : Params) : Obj := { cls := Value.type "function", data := Data.func { name := Str.ofString "__init__", qualname := Str.ofString "CasFail.__init__", params := (recOf stmI).params, body := .stmts (recOf stmI).body, scope := (recOf stmI).scope, globals := 3, closure := [], defaults := Value.none, kwdefaults := Value.none, pyModule := Value.str (Str.ofString "cas.errors") 187, code := Value.ref 27 } }
noncomputable def ob66 (P : Params) : Obj := { cls := Value.type "tuple", data := Data.seq #[Value.str (Str.ofString "kind") 210, Value.str (Str.ofString "text") 211] }
noncomputable def ob67 (P : Params) : Obj := { cls := Value.type "dict", data := Data.dict #[{ hash := PyData.keyHash P (Str.ofString "__module__"), key := Value.str (Str.ofString "__module__") 196, val := Value.str (Str.ofString "cas.errors") 187 }, { hash := PyData.keyHash P (Str.ofString "__firstlineno__"), key := Value.str (Str.ofString "__firstlineno__") 200, val := Value.int 2 199 }, { hash := PyData.keyHash P (Str.ofString "__init__"), key := Value.str (Str.ofString "__init__") 209, val := Value.ref 28 }, { hash := PyData.keyHash P (Str.ofString "__static_attributes__"), key := Value.str (Str.ofString "__static_attributes__") 212, val := Value.ref 29 }, { hash := PyData.keyHash P (Str.ofString "__weakref__"), key := Value.str (Str.ofString "__weakref__") 214, val := Value.ref 32 }, { hash := PyData.keyHash P (Str.ofString "__doc__"), key := Value.str (Str.ofString "__doc__") 215, val := Value.none }] 3 }
noncomputable def ob68 (P : Params) : Obj := { cls := Value.type "type", data := Data.cls { name := Str.ofString "CasFail", bases := [Value.type "Exception"], mro := [Value.ref 31, Value.type "Exception", Value.type "BaseException", Value.type "object"], ns := 30, qualname := Str.ofString "CasFail" }, slots := #[some (Value.ref 15), none, some (Value.str (Str.ofString "CasFail") 189), some (Value.str (Str.ofString "CasFail") 197), some (Value.builtin "Exception.__new__"), some (Value.bool true)] }
noncomputable def ob69 (P : Params) : Obj := { cls := Value.type "getset_descriptor", data := Data.fields #[Value.str (Str.ofString "__weakref__") 213, Value.ref 31, Value.builtin "ExceptionGroup.__weakref__", Value.none] }
noncomputable def ob70 (P : Params) : Obj := { cls := Value.type "super", data := Data.fields #[Value.ref 31, Value.ref 31, Value.ref 31] }
noncomputable def ob71 (P : Params) : Obj := { cls := Value.type "builtin_function_or_method", data := Data.fields #[Value.builtin "object.__init_subclass__", Value.ref 31] }
noncomputable def ob72 (P : Params) : Obj := { cls := Value.type "tuple", data := Data.seq #[] }
noncomputable def ob73 (P : Params) : Obj := { cls := Value.none, data := Data.fields #[] }
noncomputable def ob74 (P : Params) : Obj := { cls := Value.type "tuple", data := Data.seq #[Value.str (Str.ofString "a") 225, Value.str (Str.ofString "b") 226, Value.str (Str.ofString "one") 227, Value.str (Str.ofString "other") 228, Value.str (Str.ofString "times") 229, Value.str (Str.ofString "rest") 230] }
noncomputable def ob75 (P : Params) : Obj := { cls := Value.type "tuple", data := Data.seq #[] }
noncomputable def ob76 (P : Params) : Obj := { cls := Value.none, data := Data.func { name := Str.ofString "extended", qualname := Str.ofString "extended", params := (recOf (stm 3)).params, body := .stmts (recOf (stm 3)).body, scope := (recOf (stm 3)).scope, globals := 0, closure := [], defaults := Value.none, kwdefaults := Value.none } }
noncomputable def ob77 (P : Params) : Obj := { cls := Value.type "code", data := Data.fields #[Value.str (Str.ofString "extended") 222, Value.str (Str.ofString "extended") 223, Value.str (Str.ofString "/claim/cut.py") 224, Value.int 9 0, Value.int 2 0, Value.int 0 0, Value.int 0 0, Value.int 3 0, Value.ref 35, Value.bool true, Value.int 181 0, Value.ref 36, Value.none, Value.ref 37, Value.ref 38, Value.ref 39, Value.int 231 0, Value.int 9 0, Value.str (Str.ofString "/claim/cut.py") 232] }
noncomputable def ob78 (P : Params) : Obj := { cls := Value.type "function", data := Data.func { name := Str.ofString "extended", qualname := Str.ofString "extended", params := (recOf (stm 3)).params, body := .stmts (recOf (stm 3)).body, scope := (recOf (stm 3)).scope, globals := 3, closure := [], defaults := Value.none, kwdefaults := Value.none, pyModule := Value.str (Str.ofString "cas.ints") 220, code := Value.ref 40 } }
noncomputable def ob79 (P : Params) : Obj := { cls := Value.type "tuple", data := Data.seq #[] }
noncomputable def ob80 (P : Params) : Obj := { cls := Value.none, data := Data.fields #[] }
noncomputable def ob81 (P : Params) : Obj := { cls := Value.type "tuple", data := Data.seq #[Value.str (Str.ofString "a") 237, Value.str (Str.ofString "m") 238, Value.str (Str.ofString "g") 239, Value.str (Str.ofString "s") 240, Value.str (Str.ofString "t") 241] }
noncomputable def ob82 (P : Params) : Obj := { cls := Value.type "tuple", data := Data.seq #[] }
noncomputable def ob83 (P : Params) : Obj := { cls := Value.none, data := Data.func { name := Str.ofString "inverse_mod", qualname := Str.ofString "inverse_mod", params := (recOf (stm 4)).params, body := .stmts (recOf (stm 4)).body, scope := (recOf (stm 4)).scope, globals := 0, closure := [], defaults := Value.none, kwdefaults := Value.none } }
noncomputable def ob84 (P : Params) : Obj := { cls := Value.type "code", data := Data.fields #[Value.str (Str.ofString "inverse_mod") 234, Value.str (Str.ofString "inverse_mod") 235, Value.str (Str.ofString "/claim/cut.py") 236, Value.int 16 0, Value.int 2 0, Value.int 0 0, Value.int 0 0, Value.int 3 0, Value.ref 42, Value.bool true, Value.int 181 0, Value.ref 43, Value.none, Value.ref 44, Value.ref 45, Value.ref 46, Value.int 242 0, Value.int 16 0, Value.str (Str.ofString "/claim/cut.py") 243] }
noncomputable def ob85 (P : Params) : Obj := { cls := Value.type "function", data := Data.func { name := Str.ofString "inverse_mod", qualname := Str.ofString "inverse_mod", params := (recOf (stm 4)).params, body := .stmts (recOf (stm 4)).body, scope := (recOf (stm 4)).scope, globals := 3, closure := [], defaults := Value.none, kwdefaults := Value.none, pyModule := Value.str (Str.ofString "cas.ints") 220, code := Value.ref 47 } }
noncomputable def ob86 (P : Params) : Obj := { cls := Value.type "tuple", data := Data.seq #[] }
noncomputable def ob87 (P : Params) : Obj := { cls := Value.none, data := Data.fields #[] }
noncomputable def ob88 (P : Params) : Obj := { cls := Value.type "tuple", data := Data.seq #[Value.str (Str.ofString "n") 248, Value.str (Str.ofString "begin") 249, Value.str (Str.ofString "found") 250] }
noncomputable def ob89 (P : Params) : Obj := { cls := Value.type "tuple", data := Data.seq #[] }
noncomputable def ob90 (P : Params) : Obj := { cls := Value.none, data := Data.func { name := Str.ofString "least_divisor", qualname := Str.ofString "least_divisor", params := (recOf (stm 5)).params, body := .stmts (recOf (stm 5)).body, scope := (recOf (stm 5)).scope, globals := 0, closure := [], defaults := Value.none, kwdefaults := Value.none } }
noncomputable def ob91 (P : Params) : Obj := { cls := Value.type "code", data := Data.fields #[Value.str (Str.ofString "least_divisor") 245, Value.str (Str.ofString "least_divisor") 246, Value.str (Str.ofString "/claim/cut.py") 247, Value.int 19 0, Value.int 2 0, Value.int 0 0, Value.int 0 0, Value.int 3 0, Value.ref 49, Value.bool true, Value.int 181 0, Value.ref 50, Value.none, Value.ref 51, Value.ref 52, Value.ref 53, Value.int 251 0, Value.int 19 0, Value.str (Str.ofString "/claim/cut.py") 252] }
noncomputable def ob92 (P : Params) : Obj := { cls := Value.type "function", data := Data.func { name := Str.ofString "least_divisor", qualname := Str.ofString "least_divisor", params := (recOf (stm 5)).params, body := .stmts (recOf (stm 5)).body, scope := (recOf (stm 5)).scope, globals := 3, closure := [], defaults := Value.none, kwdefaults := Value.none, pyModule := Value.str (Str.ofString "cas.ints") 220, code := Value.ref 54 } }
noncomputable def ob93 (P : Params) : Obj := { cls := Value.type "tuple", data := Data.seq #[] }
noncomputable def ob94 (P : Params) : Obj := { cls := Value.none, data := Data.fields #[] }
noncomputable def ob95 (P : Params) : Obj := { cls := Value.type "tuple", data := Data.seq #[Value.str (Str.ofString "n") 257, Value.str (Str.ofString "found") 258, Value.str (Str.ofString "prime") 259, Value.str (Str.ofString "many") 260] }
noncomputable def ob96 (P : Params) : Obj := { cls := Value.type "tuple", data := Data.seq #[] }
noncomputable def ob97 (P : Params) : Obj := { cls := Value.none, data := Data.func { name := Str.ofString "prime_factors", qualname := Str.ofString "prime_factors", params := (recOf (stm 6)).params, body := .stmts (recOf (stm 6)).body, scope := (recOf (stm 6)).scope, globals := 0, closure := [], defaults := Value.none, kwdefaults := Value.none } }
noncomputable def ob98 (P : Params) : Obj := { cls := Value.type "code", data := Data.fields #[Value.str (Str.ofString "prime_factors") 254, Value.str (Str.ofString "prime_factors") 255, Value.str (Str.ofString "/claim/cut.py") 256, Value.int 26 0, Value.int 1 0, Value.int 0 0, Value.int 0 0, Value.int 3 0, Value.ref 56, Value.bool true, Value.int 181 0, Value.ref 57, Value.none, Value.ref 58, Value.ref 59, Value.ref 60, Value.int 261 0, Value.int 26 0, Value.str (Str.ofString "/claim/cut.py") 262] }
noncomputable def ob99 (P : Params) : Obj := { cls := Value.type "function", data := Data.func { name := Str.ofString "prime_factors", qualname := Str.ofString "prime_factors", params := (recOf (stm 6)).params, body := .stmts (recOf (stm 6)).body, scope := (recOf (stm 6)).scope, globals := 3, closure := [], defaults := Value.none, kwdefaults := Value.none, pyModule := Value.str (Str.ofString "cas.ints") 220, code := Value.ref 61 } }
noncomputable def ob100 (P : Params) : Obj := { cls := Value.type "dict", data := Data.dict #[{ hash := PyData.keyHash P (Str.ofString "__name__"), key := Value.str (Str.ofString "__name__") 165, val := Value.str (Str.ofString "cas.mgcd") 362 }, { hash := PyData.keyHash P (Str.ofString "__doc__"), key := Value.str (Str.ofString "__doc__") 166, val := Value.none }, { hash := PyData.keyHash P (Str.ofString "__package__"), key := Value.str (Str.ofString "__package__") 167, val := Value.none }, { hash := PyData.keyHash P (Str.ofString "__loader__"), key := Value.str (Str.ofString "__loader__") 168, val := Value.builtin "__main__.__loader__#opaque" }, { hash := PyData.keyHash P (Str.ofString "__spec__"), key := Value.str (Str.ofString "__spec__") 169, val := Value.none }, { hash := PyData.keyHash P (Str.ofString "__annotations__"), key := Value.str (Str.ofString "__annotations__") 170, val := Value.ref 6 }, { hash := PyData.keyHash P (Str.ofString "__builtins__"), key := Value.str (Str.ofString "__builtins__") 171, val := Value.ref 4 }, { hash := PyData.keyHash P (Str.ofString "__file__"), key := Value.str (Str.ofString "__file__") 173, val := Value.str (Str.ofString "/claim/cut.py") 172 }, { hash := PyData.keyHash P (Str.ofString "__cached__"), key := Value.str (Str.ofString "__cached__") 174, val := Value.none }, { hash := PyData.keyHash P (Str.ofString "CasFail"), key := Value.str (Str.ofString "CasFail") 219, val := Value.ref 31 }, { hash := PyData.keyHash P (Str.ofString "extended"), key := Value.str (Str.ofString "extended") 233, val := Value.ref 41 }, { hash := PyData.keyHash P (Str.ofString "inverse_mod"), key := Value.str (Str.ofString "inverse_mod") 244, val := Value.ref 48 }, { hash := PyData.keyHash P (Str.ofString "least_divisor"), key := Value.str (Str.ofString "least_divisor") 253, val := Value.ref 55 }, { hash := PyData.keyHash P (Str.ofString "prime_factors"), key := Value.str (Str.ofString "prime_factors") 263, val := Value.ref 62 }, { hash := PyData.keyHash P (Str.ofString "mtrim"), key := Value.str (Str.ofString "mtrim") 273, val := Value.ref 69 }, { hash := PyData.keyHash P (Str.ofString "mdegree"), key := Value.str (Str.ofString "mdegree") 280, val := Value.ref 76 }, { hash := PyData.keyHash P (Str.ofString "madd"), key := Value.str (Str.ofString "madd") 291, val := Value.ref 83 }, { hash := PyData.keyHash P (Str.ofString "mneg"), key := Value.str (Str.ofString "mneg") 297, val := Value.ref 88 }, { hash := PyData.keyHash P (Str.ofString "msub"), key := Value.str (Str.ofString "msub") 306, val := Value.ref 95 }, { hash := PyData.keyHash P (Str.ofString "mscale"), key := Value.str (Str.ofString "mscale") 312, val := Value.ref 100 }, { hash := PyData.keyHash P (Str.ofString "mmul"), key := Value.str (Str.ofString "mmul") 326, val := Value.ref 107 }, { hash := PyData.keyHash P (Str.ofString "mdivmod"), key := Value.str (Str.ofString "mdivmod") 342, val := Value.ref 114 }, { hash := PyData.keyHash P (Str.ofString "mrest"), key := Value.str (Str.ofString "mrest") 351, val := Value.ref 121 }, { hash := PyData.keyHash P (Str.ofString "mproduct"), key := Value.str (Str.ofString "mproduct") 361, val := Value.ref 128 }, { hash := PyData.keyHash P (Str.ofString "mextended"), key := Value.str (Str.ofString "mextended") 378, val := Value.ref 135 }, { hash := PyData.keyHash P (Str.ofString "minverse"), key := Value.str (Str.ofString "minverse") 390, val := Value.ref 142 }] 26 }
noncomputable def ob101 (P : Params) : Obj := { cls := Value.none, data := Data.fields #[Value.int 2 0, Value.int 0 0, Value.ref 20, Value.int 9 0, Value.int 0 0, Value.ref 40, Value.int 16 0, Value.int 0 0, Value.ref 47, Value.int 19 0, Value.int 0 0, Value.ref 54, Value.int 26 0, Value.int 0 0, Value.ref 61, Value.int 36 0, Value.int 0 0, Value.ref 68, Value.int 41 0, Value.int 0 0, Value.ref 75, Value.int 43 0, Value.int 0 0, Value.ref 82, Value.int 48 0, Value.int 0 0, Value.ref 87, Value.int 50 0, Value.int 0 0, Value.ref 94, Value.int 52 0, Value.int 0 0, Value.ref 99, Value.int 54 0, Value.int 0 0, Value.ref 106, Value.int 63 0, Value.int 0 0, Value.ref 113, Value.int 73 0, Value.int 0 0, Value.ref 120, Value.int 75 0, Value.int 0 0, Value.ref 127, Value.int 81 0, Value.int 0 0, Value.ref 134, Value.int 91 0, Value.int 0 0, Value.ref 141] }
noncomputable def ob102 (P : Params) : Obj := { cls := Value.type "tuple", data := Data.seq #[] }
noncomputable def ob103 (P : Params) : Obj := { cls := Value.none, data := Data.fields #[] }
noncomputable def ob104 (P : Params) : Obj := { cls := Value.type "tuple", data := Data.seq #[Value.str (Str.ofString "a") 269, Value.str (Str.ofString "many") 270] }
noncomputable def ob105 (P : Params) : Obj := { cls := Value.type "tuple", data := Data.seq #[] }
noncomputable def ob106 (P : Params) : Obj := { cls := Value.none, data := Data.func { name := Str.ofString "mtrim", qualname := Str.ofString "mtrim", params := (recOf (stm 8)).params, body := .stmts (recOf (stm 8)).body, scope := (recOf (stm 8)).scope, globals := 0, closure := [], defaults := Value.none, kwdefaults := Value.none } }
noncomputable def ob107 (P : Params) : Obj := { cls := Value.type "code", data := Data.fields #[Value.str (Str.ofString "mtrim") 266, Value.str (Str.ofString "mtrim") 267, Value.str (Str.ofString "/claim/cut.py") 268, Value.int 36 0, Value.int 1 0, Value.int 0 0, Value.int 0 0, Value.int 3 0, Value.ref 63, Value.bool true, Value.int 181 0, Value.ref 64, Value.none, Value.ref 65, Value.ref 66, Value.ref 67, Value.int 271 0, Value.int 36 0, Value.str (Str.ofString "/claim/cut.py") 272] }
noncomputable def ob108 (P : Params) : Obj := { cls := Value.type "function", data := Data.func { name := Str.ofString "mtrim", qualname := Str.ofString "mtrim", params := (recOf (stm 8)).params, body := .stmts (recOf (stm 8)).body, scope := (recOf (stm 8)).scope, globals := 3, closure := [], defaults := Value.none, kwdefaults := Value.none, pyModule := Value.str (Str.ofString "cas.mpoly") 264, code := Value.ref 68 } }
noncomputable def ob109 (P : Params) : Obj := { cls := Value.type "tuple", data := Data.seq #[] }
noncomputable def ob110 (P : Params) : Obj := { cls := Value.none, data := Data.fields #[] }
noncomputable def ob111 (P : Params) : Obj := { cls := Value.type "tuple", data := Data.seq #[Value.str (Str.ofString "a") 277] }
noncomputable def ob112 (P : Params) : Obj := { cls := Value.type "tuple", data := Data.seq #[] }
noncomputable def ob113 (P : Params) : Obj := { cls := Value.none, data := Data.func { name := Str.ofString "mdegree", qualname := Str.ofString "mdegree", params := (recOf (stm 9)).params, body := .stmts (recOf (stm 9)).body, scope := (recOf (stm 9)).scope, globals := 0, closure := [], defaults := Value.none, kwdefaults := Value.none } }
noncomputable def ob114 (P : Params) : Obj := { cls := Value.type "code", data := Data.fields #[Value.str (Str.ofString "mdegree") 274, Value.str (Str.ofString "mdegree") 275, Value.str (Str.ofString "/claim/cut.py") 276, Value.int 41 0, Value.int 1 0, Value.int 0 0, Value.int 0 0, Value.int 3 0, Value.ref 70, Value.bool true, Value.int 181 0, Value.ref 71, Value.none, Value.ref 72, Value.ref 73, Value.ref 74, Value.int 278 0, Value.int 41 0, Value.str (Str.ofString "/claim/cut.py") 279] }
noncomputable def ob115 (P : Params) : Obj := { cls := Value.type "function", data := Data.func { name := Str.ofString "mdegree", qualname := Str.ofString "mdegree", params := (recOf (stm 9)).params, body := .stmts (recOf (stm 9)).body, scope := (recOf (stm 9)).scope, globals := 3, closure := [], defaults := Value.none, kwdefaults := Value.none, pyModule := Value.str (Str.ofString "cas.mpoly") 264, code := Value.ref 75 } }
noncomputable def ob116 (P : Params) : Obj := { cls := Value.type "tuple", data := Data.seq #[] }
noncomputable def ob117 (P : Params) : Obj := { cls := Value.none, data := Data.fields #[] }
noncomputable def ob118 (P : Params) : Obj := { cls := Value.type "tuple", data := Data.seq #[Value.str (Str.ofString "a") 284, Value.str (Str.ofString "b") 285, Value.str (Str.ofString "p") 286, Value.str (Str.ofString "found") 287, Value.str (Str.ofString "at") 288] }
noncomputable def ob119 (P : Params) : Obj := { cls := Value.type "tuple", data := Data.seq #[] }
noncomputable def ob120 (P : Params) : Obj := { cls := Value.none, data := Data.func { name := Str.ofString "madd", qualname := Str.ofString "madd", params := (recOf (stm 10)).params, body := .stmts (recOf (stm 10)).body, scope := (recOf (stm 10)).scope, globals := 0, closure := [], defaults := Value.none, kwdefaults := Value.none } }
noncomputable def ob121 (P : Params) : Obj := { cls := Value.type "code", data := Data.fields #[Value.str (Str.ofString "madd") 281, Value.str (Str.ofString "madd") 282, Value.str (Str.ofString "/claim/cut.py") 283, Value.int 43 0, Value.int 3 0, Value.int 0 0, Value.int 0 0, Value.int 3 0, Value.ref 77, Value.bool true, Value.int 181 0, Value.ref 78, Value.none, Value.ref 79, Value.ref 80, Value.ref 81, Value.int 289 0, Value.int 43 0, Value.str (Str.ofString "/claim/cut.py") 290] }
noncomputable def ob122 (P : Params) : Obj := { cls := Value.type "function", data := Data.func { name := Str.ofString "madd", qualname := Str.ofString "madd", params := (recOf (stm 10)).params, body := .stmts (recOf (stm 10)).body, scope := (recOf (stm 10)).scope, globals := 3, closure := [], defaults := Value.none, kwdefaults := Value.none, pyModule := Value.str (Str.ofString "cas.mpoly") 264, code := Value.ref 82 } }
noncomputable def ob123 (P : Params) : Obj := { cls := Value.type "tuple", data := Data.seq #[] }
noncomputable def ob124 (P : Params) : Obj := { cls := Value.none, data := Data.fields #[] }
noncomputable def ob125 (P : Params) : Obj := { cls := Value.none, data := Data.func { name := Str.ofString "mneg", qualname := Str.ofString "mneg", params := (recOf (stm 11)).params, body := .stmts (recOf (stm 11)).body, scope := (recOf (stm 11)).scope, globals := 0, closure := [], defaults := Value.none, kwdefaults := Value.none } }
noncomputable def ob126 (P : Params) : Obj := { cls := Value.type "code", data := Data.fields #[Value.str (Str.ofString "mneg") 292, Value.str (Str.ofString "mneg") 293, Value.str (Str.ofString "/claim/cut.py") 294, Value.int 48 0, Value.int 2 0, Value.int 0 0, Value.int 0 0, Value.int 3 0, Value.ref 84, Value.bool true, Value.int 181 0, Value.ref 85, Value.none, Value.none, Value.none, Value.ref 86, Value.int 295 0, Value.int 48 0, Value.str (Str.ofString "/claim/cut.py") 296] }
noncomputable def ob127 (P : Params) : Obj := { cls := Value.type "function", data := Data.func { name := Str.ofString "mneg", qualname := Str.ofString "mneg", params := (recOf (stm 11)).params, body := .stmts (recOf (stm 11)).body, scope := (recOf (stm 11)).scope, globals := 3, closure := [], defaults := Value.none, kwdefaults := Value.none, pyModule := Value.str (Str.ofString "cas.mpoly") 264, code := Value.ref 87 } }
noncomputable def ob128 (P : Params) : Obj := { cls := Value.type "tuple", data := Data.seq #[] }
noncomputable def ob129 (P : Params) : Obj := { cls := Value.none, data := Data.fields #[] }
noncomputable def ob130 (P : Params) : Obj := { cls := Value.type "tuple", data := Data.seq #[Value.str (Str.ofString "a") 301, Value.str (Str.ofString "b") 302, Value.str (Str.ofString "p") 303] }
noncomputable def ob131 (P : Params) : Obj := { cls := Value.type "tuple", data := Data.seq #[] }
noncomputable def ob132 (P : Params) : Obj := { cls := Value.none, data := Data.func { name := Str.ofString "msub", qualname := Str.ofString "msub", params := (recOf (stm 12)).params, body := .stmts (recOf (stm 12)).body, scope := (recOf (stm 12)).scope, globals := 0, closure := [], defaults := Value.none, kwdefaults := Value.none } }
noncomputable def ob133 (P : Params) : Obj := { cls := Value.type "code", data := Data.fields #[Value.str (Str.ofString "msub") 298, Value.str (Str.ofString "msub") 299, Value.str (Str.ofString "/claim/cut.py") 300, Value.int 50 0, Value.int 3 0, Value.int 0 0, Value.int 0 0, Value.int 3 0, Value.ref 89, Value.bool true, Value.int 181 0, Value.ref 90, Value.none, Value.ref 91, Value.ref 92, Value.ref 93, Value.int 304 0, Value.int 50 0, Value.str (Str.ofString "/claim/cut.py") 305] }
noncomputable def ob134 (P : Params) : Obj := { cls := Value.type "function", data := Data.func { name := Str.ofString "msub", qualname := Str.ofString "msub", params := (recOf (stm 12)).params, body := .stmts (recOf (stm 12)).body, scope := (recOf (stm 12)).scope, globals := 3, closure := [], defaults := Value.none, kwdefaults := Value.none, pyModule := Value.str (Str.ofString "cas.mpoly") 264, code := Value.ref 94 } }
noncomputable def ob135 (P : Params) : Obj := { cls := Value.type "tuple", data := Data.seq #[] }
noncomputable def ob136 (P : Params) : Obj := { cls := Value.none, data := Data.fields #[] }
noncomputable def ob137 (P : Params) : Obj := { cls := Value.none, data := Data.func { name := Str.ofString "mscale", qualname := Str.ofString "mscale", params := (recOf (stm 13)).params, body := .stmts (recOf (stm 13)).body, scope := (recOf (stm 13)).scope, globals := 0, closure := [], defaults := Value.none, kwdefaults := Value.none } }
noncomputable def ob138 (P : Params) : Obj := { cls := Value.type "code", data := Data.fields #[Value.str (Str.ofString "mscale") 307, Value.str (Str.ofString "mscale") 308, Value.str (Str.ofString "/claim/cut.py") 309, Value.int 52 0, Value.int 3 0, Value.int 0 0, Value.int 0 0, Value.int 3 0, Value.ref 96, Value.bool true, Value.int 181 0, Value.ref 97, Value.none, Value.none, Value.none, Value.ref 98, Value.int 310 0, Value.int 52 0, Value.str (Str.ofString "/claim/cut.py") 311] }
noncomputable def ob139 (P : Params) : Obj := { cls := Value.type "function", data := Data.func { name := Str.ofString "mscale", qualname := Str.ofString "mscale", params := (recOf (stm 13)).params, body := .stmts (recOf (stm 13)).body, scope := (recOf (stm 13)).scope, globals := 3, closure := [], defaults := Value.none, kwdefaults := Value.none, pyModule := Value.str (Str.ofString "cas.mpoly") 264, code := Value.ref 99 } }
noncomputable def ob140 (P : Params) : Obj := { cls := Value.type "tuple", data := Data.seq #[] }
noncomputable def ob141 (P : Params) : Obj := { cls := Value.none, data := Data.fields #[] }
noncomputable def ob142 (P : Params) : Obj := { cls := Value.type "tuple", data := Data.seq #[Value.str (Str.ofString "a") 316, Value.str (Str.ofString "b") 317, Value.str (Str.ofString "p") 318, Value.str (Str.ofString "found") 319, Value.str (Str.ofString "at") 320, Value.str (Str.ofString "one") 321, Value.str (Str.ofString "spot") 322, Value.str (Str.ofString "other") 323] }
noncomputable def ob143 (P : Params) : Obj := { cls := Value.type "tuple", data := Data.seq #[] }
noncomputable def ob144 (P : Params) : Obj := { cls := Value.none, data := Data.func { name := Str.ofString "mmul", qualname := Str.ofString "mmul", params := (recOf (stm 14)).params, body := .stmts (recOf (stm 14)).body, scope := (recOf (stm 14)).scope, globals := 0, closure := [], defaults := Value.none, kwdefaults := Value.none } }
noncomputable def ob145 (P : Params) : Obj := { cls := Value.type "code", data := Data.fields #[Value.str (Str.ofString "mmul") 313, Value.str (Str.ofString "mmul") 314, Value.str (Str.ofString "/claim/cut.py") 315, Value.int 54 0, Value.int 3 0, Value.int 0 0, Value.int 0 0, Value.int 3 0, Value.ref 101, Value.bool true, Value.int 181 0, Value.ref 102, Value.none, Value.ref 103, Value.ref 104, Value.ref 105, Value.int 324 0, Value.int 54 0, Value.str (Str.ofString "/claim/cut.py") 325] }
noncomputable def ob146 (P : Params) : Obj := { cls := Value.type "function", data := Data.func { name := Str.ofString "mmul", qualname := Str.ofString "mmul", params := (recOf (stm 14)).params, body := .stmts (recOf (stm 14)).body, scope := (recOf (stm 14)).scope, globals := 3, closure := [], defaults := Value.none, kwdefaults := Value.none, pyModule := Value.str (Str.ofString "cas.mpoly") 264, code := Value.ref 106 } }
noncomputable def ob147 (P : Params) : Obj := { cls := Value.type "tuple", data := Data.seq #[] }
noncomputable def ob148 (P : Params) : Obj := { cls := Value.none, data := Data.fields #[] }
noncomputable def ob149 (P : Params) : Obj := { cls := Value.type "tuple", data := Data.seq #[Value.str (Str.ofString "a") 330, Value.str (Str.ofString "b") 331, Value.str (Str.ofString "p") 332, Value.str (Str.ofString "rest") 333, Value.str (Str.ofString "quotient") 334, Value.str (Str.ofString "turn") 335, Value.str (Str.ofString "at") 336, Value.str (Str.ofString "number") 337, Value.str (Str.ofString "spot") 338, Value.str (Str.ofString "other") 339] }
noncomputable def ob150 (P : Params) : Obj := { cls := Value.type "tuple", data := Data.seq #[] }
noncomputable def ob151 (P : Params) : Obj := { cls := Value.none, data := Data.func { name := Str.ofString "mdivmod", qualname := Str.ofString "mdivmod", params := (recOf (stm 15)).params, body := .stmts (recOf (stm 15)).body, scope := (recOf (stm 15)).scope, globals := 0, closure := [], defaults := Value.none, kwdefaults := Value.none } }
noncomputable def ob152 (P : Params) : Obj := { cls := Value.type "code", data := Data.fields #[Value.str (Str.ofString "mdivmod") 327, Value.str (Str.ofString "mdivmod") 328, Value.str (Str.ofString "/claim/cut.py") 329, Value.int 63 0, Value.int 3 0, Value.int 0 0, Value.int 0 0, Value.int 3 0, Value.ref 108, Value.bool true, Value.int 181 0, Value.ref 109, Value.none, Value.ref 110, Value.ref 111, Value.ref 112, Value.int 340 0, Value.int 63 0, Value.str (Str.ofString "/claim/cut.py") 341] }
noncomputable def ob153 (P : Params) : Obj := { cls := Value.type "function", data := Data.func { name := Str.ofString "mdivmod", qualname := Str.ofString "mdivmod", params := (recOf (stm 15)).params, body := .stmts (recOf (stm 15)).body, scope := (recOf (stm 15)).scope, globals := 3, closure := [], defaults := Value.none, kwdefaults := Value.none, pyModule := Value.str (Str.ofString "cas.mpoly") 264, code := Value.ref 113 } }
noncomputable def ob154 (P : Params) : Obj := { cls := Value.type "tuple", data := Data.seq #[] }
noncomputable def ob155 (P : Params) : Obj := { cls := Value.none, data := Data.fields #[] }
noncomputable def ob156 (P : Params) : Obj := { cls := Value.type "tuple", data := Data.seq #[Value.str (Str.ofString "a") 346, Value.str (Str.ofString "b") 347, Value.str (Str.ofString "p") 348] }
noncomputable def ob157 (P : Params) : Obj := { cls := Value.type "tuple", data := Data.seq #[] }
noncomputable def ob158 (P : Params) : Obj := { cls := Value.none, data := Data.func { name := Str.ofString "mrest", qualname := Str.ofString "mrest", params := (recOf (stm 16)).params, body := .stmts (recOf (stm 16)).body, scope := (recOf (stm 16)).scope, globals := 0, closure := [], defaults := Value.none, kwdefaults := Value.none } }
noncomputable def ob159 (P : Params) : Obj := { cls := Value.type "code", data := Data.fields #[Value.str (Str.ofString "mrest") 343, Value.str (Str.ofString "mrest") 344, Value.str (Str.ofString "/claim/cut.py") 345, Value.int 73 0, Value.int 3 0, Value.int 0 0, Value.int 0 0, Value.int 3 0, Value.ref 115, Value.bool true, Value.int 181 0, Value.ref 116, Value.none, Value.ref 117, Value.ref 118, Value.ref 119, Value.int 349 0, Value.int 73 0, Value.str (Str.ofString "/claim/cut.py") 350] }
noncomputable def ob160 (P : Params) : Obj := { cls := Value.type "function", data := Data.func { name := Str.ofString "mrest", qualname := Str.ofString "mrest", params := (recOf (stm 16)).params, body := .stmts (recOf (stm 16)).body, scope := (recOf (stm 16)).scope, globals := 3, closure := [], defaults := Value.none, kwdefaults := Value.none, pyModule := Value.str (Str.ofString "cas.mpoly") 264, code := Value.ref 120 } }
noncomputable def ob161 (P : Params) : Obj := { cls := Value.type "tuple", data := Data.seq #[] }
noncomputable def ob162 (P : Params) : Obj := { cls := Value.none, data := Data.fields #[] }
noncomputable def ob163 (P : Params) : Obj := { cls := Value.type "tuple", data := Data.seq #[Value.str (Str.ofString "some") 355, Value.str (Str.ofString "p") 356, Value.str (Str.ofString "found") 357, Value.str (Str.ofString "one") 358] }
noncomputable def ob164 (P : Params) : Obj := { cls := Value.type "tuple", data := Data.seq #[] }
noncomputable def ob165 (P : Params) : Obj := { cls := Value.none, data := Data.func { name := Str.ofString "mproduct", qualname := Str.ofString "mproduct", params := (recOf (stm 17)).params, body := .stmts (recOf (stm 17)).body, scope := (recOf (stm 17)).scope, globals := 0, closure := [], defaults := Value.none, kwdefaults := Value.none } }
noncomputable def ob166 (P : Params) : Obj := { cls := Value.type "code", data := Data.fields #[Value.str (Str.ofString "mproduct") 352, Value.str (Str.ofString "mproduct") 353, Value.str (Str.ofString "/claim/cut.py") 354, Value.int 75 0, Value.int 2 0, Value.int 0 0, Value.int 0 0, Value.int 3 0, Value.ref 122, Value.bool true, Value.int 181 0, Value.ref 123, Value.none, Value.ref 124, Value.ref 125, Value.ref 126, Value.int 359 0, Value.int 75 0, Value.str (Str.ofString "/claim/cut.py") 360] }
noncomputable def ob167 (P : Params) : Obj := { cls := Value.type "function", data := Data.func { name := Str.ofString "mproduct", qualname := Str.ofString "mproduct", params := (recOf (stm 17)).params, body := .stmts (recOf (stm 17)).body, scope := (recOf (stm 17)).scope, globals := 3, closure := [], defaults := Value.none, kwdefaults := Value.none, pyModule := Value.str (Str.ofString "cas.mpoly") 264, code := Value.ref 127 } }
noncomputable def ob168 (P : Params) : Obj := { cls := Value.type "tuple", data := Data.seq #[] }
noncomputable def ob169 (P : Params) : Obj := { cls := Value.none, data := Data.fields #[] }
noncomputable def ob170 (P : Params) : Obj := { cls := Value.type "tuple", data := Data.seq #[Value.str (Str.ofString "a") 367, Value.str (Str.ofString "b") 368, Value.str (Str.ofString "p") 369, Value.str (Str.ofString "one") 370, Value.str (Str.ofString "other") 371, Value.str (Str.ofString "quotient") 372, Value.str (Str.ofString "rest") 373, Value.str (Str.ofString "later") 374, Value.str (Str.ofString "turn") 375] }
noncomputable def ob171 (P : Params) : Obj := { cls := Value.type "tuple", data := Data.seq #[] }
noncomputable def ob172 (P : Params) : Obj := { cls := Value.none, data := Data.func { name := Str.ofString "mextended", qualname := Str.ofString "mextended", params := (recOf (stm 19)).params, body := .stmts (recOf (stm 19)).body, scope := (recOf (stm 19)).scope, globals := 0, closure := [], defaults := Value.none, kwdefaults := Value.none } }
noncomputable def ob173 (P : Params) : Obj := { cls := Value.type "code", data := Data.fields #[Value.str (Str.ofString "mextended") 364, Value.str (Str.ofString "mextended") 365, Value.str (Str.ofString "/claim/cut.py") 366, Value.int 81 0, Value.int 3 0, Value.int 0 0, Value.int 0 0, Value.int 3 0, Value.ref 129, Value.bool true, Value.int 181 0, Value.ref 130, Value.none, Value.ref 131, Value.ref 132, Value.ref 133, Value.int 376 0, Value.int 81 0, Value.str (Str.ofString "/claim/cut.py") 377] }
noncomputable def ob174 (P : Params) : Obj := { cls := Value.type "function", data := Data.func { name := Str.ofString "mextended", qualname := Str.ofString "mextended", params := (recOf (stm 19)).params, body := .stmts (recOf (stm 19)).body, scope := (recOf (stm 19)).scope, globals := 3, closure := [], defaults := Value.none, kwdefaults := Value.none, pyModule := Value.str (Str.ofString "cas.mgcd") 362, code := Value.ref 134 } }
noncomputable def ob175 (P : Params) : Obj := { cls := Value.type "tuple", data := Data.seq #[] }
noncomputable def ob176 (P : Params) : Obj := { cls := Value.none, data := Data.fields #[] }
noncomputable def ob177 (P : Params) : Obj := { cls := Value.type "tuple", data := Data.seq #[Value.str (Str.ofString "a") 382, Value.str (Str.ofString "f") 383, Value.str (Str.ofString "p") 384, Value.str (Str.ofString "common") 385, Value.str (Str.ofString "s") 386, Value.str (Str.ofString "t") 387] }
noncomputable def ob178 (P : Params) : Obj := { cls := Value.type "tuple", data := Data.seq #[] }
noncomputable def ob179 (P : Params) : Obj := { cls := Value.none, data := Data.func { name := Str.ofString "minverse", qualname := Str.ofString "minverse", params := (recOf (stm 20)).params, body := .stmts (recOf (stm 20)).body, scope := (recOf (stm 20)).scope, globals := 0, closure := [], defaults := Value.none, kwdefaults := Value.none } }
noncomputable def ob180 (P : Params) : Obj := { cls := Value.type "code", data := Data.fields #[Value.str (Str.ofString "minverse") 379, Value.str (Str.ofString "minverse") 380, Value.str (Str.ofString "/claim/cut.py") 381, Value.int 91 0, Value.int 3 0, Value.int 0 0, Value.int 0 0, Value.int 3 0, Value.ref 136, Value.bool true, Value.int 181 0, Value.ref 137, Value.none, Value.ref 138, Value.ref 139, Value.ref 140, Value.int 388 0, Value.int 91 0, Value.str (Str.ofString "/claim/cut.py") 389] }
noncomputable def ob181 (P : Params) : Obj := { cls := Value.type "function", data := Data.func { name := Str.ofString "minverse", qualname := Str.ofString "minverse", params := (recOf (stm 20)).params, body := .stmts (recOf (stm 20)).body, scope := (recOf (stm 20)).scope, globals := 3, closure := [], defaults := Value.none, kwdefaults := Value.none, pyModule := Value.str (Str.ofString "cas.mgcd") 362, code := Value.ref 141 } }
noncomputable def ob182 (P : Params) : Obj := { cls := Value.type "dict", data := Data.dict #[{ hash := PyData.keyHash P (Str.ofString "__name__"), key := Value.str (Str.ofString "__name__") 165, val := Value.str (Str.ofString "law_tk0040_01") 492 }, { hash := PyData.keyHash P (Str.ofString "__doc__"), key := Value.str (Str.ofString "__doc__") 166, val := Value.none }, { hash := PyData.keyHash P (Str.ofString "__package__"), key := Value.str (Str.ofString "__package__") 167, val := Value.none }, { hash := PyData.keyHash P (Str.ofString "__loader__"), key := Value.str (Str.ofString "__loader__") 168, val := Value.builtin "__main__.__loader__#opaque" }, { hash := PyData.keyHash P (Str.ofString "__spec__"), key := Value.str (Str.ofString "__spec__") 169, val := Value.none }, { hash := PyData.keyHash P (Str.ofString "__annotations__"), key := Value.str (Str.ofString "__annotations__") 170, val := Value.ref 6 }, { hash := PyData.keyHash P (Str.ofString "__builtins__"), key := Value.str (Str.ofString "__builtins__") 171, val := Value.ref 4 }, { hash := PyData.keyHash P (Str.ofString "__file__"), key := Value.str (Str.ofString "__file__") 173, val := Value.str (Str.ofString "/claim/cut.py") 172 }, { hash := PyData.keyHash P (Str.ofString "__cached__"), key := Value.str (Str.ofString "__cached__") 174, val := Value.none }, { hash := PyData.keyHash P (Str.ofString "CasFail"), key := Value.str (Str.ofString "CasFail") 219, val := Value.ref 31 }, { hash := PyData.keyHash P (Str.ofString "extended"), key := Value.str (Str.ofString "extended") 233, val := Value.ref 41 }, { hash := PyData.keyHash P (Str.ofString "inverse_mod"), key := Value.str (Str.ofString "inverse_mod") 244, val := Value.ref 48 }, { hash := PyData.keyHash P (Str.ofString "least_divisor"), key := Value.str (Str.ofString "least_divisor") 253, val := Value.ref 55 }, { hash := PyData.keyHash P (Str.ofString "prime_factors"), key := Value.str (Str.ofString "prime_factors") 263, val := Value.ref 62 }, { hash := PyData.keyHash P (Str.ofString "mtrim"), key := Value.str (Str.ofString "mtrim") 273, val := Value.ref 69 }, { hash := PyData.keyHash P (Str.ofString "mdegree"), key := Value.str (Str.ofString "mdegree") 280, val := Value.ref 76 }, { hash := PyData.keyHash P (Str.ofString "madd"), key := Value.str (Str.ofString "madd") 291, val := Value.ref 83 }, { hash := PyData.keyHash P (Str.ofString "mneg"), key := Value.str (Str.ofString "mneg") 297, val := Value.ref 88 }, { hash := PyData.keyHash P (Str.ofString "msub"), key := Value.str (Str.ofString "msub") 306, val := Value.ref 95 }, { hash := PyData.keyHash P (Str.ofString "mscale"), key := Value.str (Str.ofString "mscale") 312, val := Value.ref 100 }, { hash := PyData.keyHash P (Str.ofString "mmul"), key := Value.str (Str.ofString "mmul") 326, val := Value.ref 107 }, { hash := PyData.keyHash P (Str.ofString "mdivmod"), key := Value.str (Str.ofString "mdivmod") 342, val := Value.ref 114 }, { hash := PyData.keyHash P (Str.ofString "mrest"), key := Value.str (Str.ofString "mrest") 351, val := Value.ref 121 }, { hash := PyData.keyHash P (Str.ofString "mproduct"), key := Value.str (Str.ofString "mproduct") 361, val := Value.ref 128 }, { hash := PyData.keyHash P (Str.ofString "mextended"), key := Value.str (Str.ofString "mextended") 378, val := Value.ref 135 }, { hash := PyData.keyHash P (Str.ofString "minverse"), key := Value.str (Str.ofString "minverse") 390, val := Value.ref 142 }, { hash := PyData.keyHash P (Str.ofString "counted"), key := Value.str (Str.ofString "counted") 401, val := Value.ref 149 }, { hash := PyData.keyHash P (Str.ofString "gf_size"), key := Value.str (Str.ofString "gf_size") 411, val := Value.ref 156 }, { hash := PyData.keyHash P (Str.ofString "gf_things"), key := Value.str (Str.ofString "gf_things") 417, val := Value.ref 161 }, { hash := PyData.keyHash P (Str.ofString "gf_multiply"), key := Value.str (Str.ofString "gf_multiply") 427, val := Value.ref 168 }, { hash := PyData.keyHash P (Str.ofString "gf_inverse"), key := Value.str (Str.ofString "gf_inverse") 436, val := Value.ref 175 }, { hash := PyData.keyHash P (Str.ofString "gf_power"), key := Value.str (Str.ofString "gf_power") 448, val := Value.ref 182 }, { hash := PyData.keyHash P (Str.ofString "gf_order"), key := Value.str (Str.ofString "gf_order") 461, val := Value.ref 189 }, { hash := PyData.keyHash P (Str.ofString "gf_conjugates"), key := Value.str (Str.ofString "gf_conjugates") 472, val := Value.ref 196 }, { hash := PyData.keyHash P (Str.ofString "number_of"), key := Value.str (Str.ofString "number_of") 479, val := Value.ref 203 }, { hash := PyData.keyHash P (Str.ofString "gf_least"), key := Value.str (Str.ofString "gf_least") 485, val := Value.ref 208 }, { hash := PyData.keyHash P (Str.ofString "moebius"), key := Value.str (Str.ofString "moebius") 491, val := Value.ref 213 }] 37 }
noncomputable def ob183 (P : Params) : Obj := { cls := Value.none, data := Data.fields #[Value.int 2 0, Value.int 0 0, Value.ref 20, Value.int 9 0, Value.int 0 0, Value.ref 40, Value.int 16 0, Value.int 0 0, Value.ref 47, Value.int 19 0, Value.int 0 0, Value.ref 54, Value.int 26 0, Value.int 0 0, Value.ref 61, Value.int 36 0, Value.int 0 0, Value.ref 68, Value.int 41 0, Value.int 0 0, Value.ref 75, Value.int 43 0, Value.int 0 0, Value.ref 82, Value.int 48 0, Value.int 0 0, Value.ref 87, Value.int 50 0, Value.int 0 0, Value.ref 94, Value.int 52 0, Value.int 0 0, Value.ref 99, Value.int 54 0, Value.int 0 0, Value.ref 106, Value.int 63 0, Value.int 0 0, Value.ref 113, Value.int 73 0, Value.int 0 0, Value.ref 120, Value.int 75 0, Value.int 0 0, Value.ref 127, Value.int 81 0, Value.int 0 0, Value.ref 134, Value.int 91 0, Value.int 0 0, Value.ref 141, Value.int 95 0, Value.int 0 0, Value.ref 148, Value.int 102 0, Value.int 0 0, Value.ref 155, Value.int 104 0, Value.int 0 0, Value.ref 160, Value.int 106 0, Value.int 0 0, Value.ref 167, Value.int 108 0, Value.int 0 0, Value.ref 174, Value.int 112 0, Value.int 0 0, Value.ref 181, Value.int 123 0, Value.int 0 0, Value.ref 188, Value.int 132 0, Value.int 0 0, Value.ref 195, Value.int 138 0, Value.int 0 0, Value.ref 202, Value.int 140 0, Value.int 0 0, Value.ref 207, Value.int 148 0, Value.int 0 0, Value.ref 212] }
noncomputable def ob184 (P : Params) : Obj := { cls := Value.type "tuple", data := Data.seq #[] }
noncomputable def ob185 (P : Params) : Obj := { cls := Value.none, data := Data.fields #[] }
noncomputable def ob186 (P : Params) : Obj := { cls := Value.type "tuple", data := Data.seq #[Value.str (Str.ofString "number") 396, Value.str (Str.ofString "p") 397, Value.str (Str.ofString "found") 398] }
noncomputable def ob187 (P : Params) : Obj := { cls := Value.type "tuple", data := Data.seq #[] }
noncomputable def ob188 (P : Params) : Obj := { cls := Value.none, data := Data.func { name := Str.ofString "counted", qualname := Str.ofString "counted", params := (recOf (stm 22)).params, body := .stmts (recOf (stm 22)).body, scope := (recOf (stm 22)).scope, globals := 0, closure := [], defaults := Value.none, kwdefaults := Value.none } }
noncomputable def ob189 (P : Params) : Obj := { cls := Value.type "code", data := Data.fields #[Value.str (Str.ofString "counted") 393, Value.str (Str.ofString "counted") 394, Value.str (Str.ofString "/claim/cut.py") 395, Value.int 95 0, Value.int 2 0, Value.int 0 0, Value.int 0 0, Value.int 3 0, Value.ref 143, Value.bool true, Value.int 181 0, Value.ref 144, Value.none, Value.ref 145, Value.ref 146, Value.ref 147, Value.int 399 0, Value.int 95 0, Value.str (Str.ofString "/claim/cut.py") 400] }
noncomputable def ob190 (P : Params) : Obj := { cls := Value.type "function", data := Data.func { name := Str.ofString "counted", qualname := Str.ofString "counted", params := (recOf (stm 22)).params, body := .stmts (recOf (stm 22)).body, scope := (recOf (stm 22)).scope, globals := 3, closure := [], defaults := Value.none, kwdefaults := Value.none, pyModule := Value.str (Str.ofString "cas.splitting") 391, code := Value.ref 148 } }
noncomputable def ob191 (P : Params) : Obj := { cls := Value.type "tuple", data := Data.seq #[] }
noncomputable def ob192 (P : Params) : Obj := { cls := Value.none, data := Data.fields #[] }
noncomputable def ob193 (P : Params) : Obj := { cls := Value.type "tuple", data := Data.seq #[Value.str (Str.ofString "m") 407, Value.str (Str.ofString "p") 408] }
noncomputable def ob194 (P : Params) : Obj := { cls := Value.type "tuple", data := Data.seq #[] }
noncomputable def ob195 (P : Params) : Obj := { cls := Value.none, data := Data.func { name := Str.ofString "gf_size", qualname := Str.ofString "gf_size", params := (recOf (stm 24)).params, body := .stmts (recOf (stm 24)).body, scope := (recOf (stm 24)).scope, globals := 0, closure := [], defaults := Value.none, kwdefaults := Value.none } }
noncomputable def ob196 (P : Params) : Obj := { cls := Value.type "code", data := Data.fields #[Value.str (Str.ofString "gf_size") 404, Value.str (Str.ofString "gf_size") 405, Value.str (Str.ofString "/claim/cut.py") 406, Value.int 102 0, Value.int 2 0, Value.int 0 0, Value.int 0 0, Value.int 3 0, Value.ref 150, Value.bool true, Value.int 181 0, Value.ref 151, Value.none, Value.ref 152, Value.ref 153, Value.ref 154, Value.int 409 0, Value.int 102 0, Value.str (Str.ofString "/claim/cut.py") 410] }
noncomputable def ob197 (P : Params) : Obj := { cls := Value.type "function", data := Data.func { name := Str.ofString "gf_size", qualname := Str.ofString "gf_size", params := (recOf (stm 24)).params, body := .stmts (recOf (stm 24)).body, scope := (recOf (stm 24)).scope, globals := 3, closure := [], defaults := Value.none, kwdefaults := Value.none, pyModule := Value.str (Str.ofString "cas.fields") 402, code := Value.ref 155 } }
noncomputable def ob198 (P : Params) : Obj := { cls := Value.type "tuple", data := Data.seq #[] }
noncomputable def ob199 (P : Params) : Obj := { cls := Value.none, data := Data.fields #[] }
noncomputable def ob200 (P : Params) : Obj := { cls := Value.none, data := Data.func { name := Str.ofString "gf_things", qualname := Str.ofString "gf_things", params := (recOf (stm 25)).params, body := .stmts (recOf (stm 25)).body, scope := (recOf (stm 25)).scope, globals := 0, closure := [], defaults := Value.none, kwdefaults := Value.none } }
noncomputable def ob201 (P : Params) : Obj := { cls := Value.type "code", data := Data.fields #[Value.str (Str.ofString "gf_things") 412, Value.str (Str.ofString "gf_things") 413, Value.str (Str.ofString "/claim/cut.py") 414, Value.int 104 0, Value.int 2 0, Value.int 0 0, Value.int 0 0, Value.int 3 0, Value.ref 157, Value.bool true, Value.int 181 0, Value.ref 158, Value.none, Value.none, Value.none, Value.ref 159, Value.int 415 0, Value.int 104 0, Value.str (Str.ofString "/claim/cut.py") 416] }
noncomputable def ob202 (P : Params) : Obj := { cls := Value.type "function", data := Data.func { name := Str.ofString "gf_things", qualname := Str.ofString "gf_things", params := (recOf (stm 25)).params, body := .stmts (recOf (stm 25)).body, scope := (recOf (stm 25)).scope, globals := 3, closure := [], defaults := Value.none, kwdefaults := Value.none, pyModule := Value.str (Str.ofString "cas.fields") 402, code := Value.ref 160 } }
noncomputable def ob203 (P : Params) : Obj := { cls := Value.type "tuple", data := Data.seq #[] }
noncomputable def ob204 (P : Params) : Obj := { cls := Value.none, data := Data.fields #[] }
noncomputable def ob205 (P : Params) : Obj := { cls := Value.type "tuple", data := Data.seq #[Value.str (Str.ofString "a") 421, Value.str (Str.ofString "b") 422, Value.str (Str.ofString "m") 423, Value.str (Str.ofString "p") 424] }
noncomputable def ob206 (P : Params) : Obj := { cls := Value.type "tuple", data := Data.seq #[] }
noncomputable def ob207 (P : Params) : Obj := { cls := Value.none, data := Data.func { name := Str.ofString "gf_multiply", qualname := Str.ofString "gf_multiply", params := (recOf (stm 26)).params, body := .stmts (recOf (stm 26)).body, scope := (recOf (stm 26)).scope, globals := 0, closure := [], defaults := Value.none, kwdefaults := Value.none } }
noncomputable def ob208 (P : Params) : Obj := { cls := Value.type "code", data := Data.fields #[Value.str (Str.ofString "gf_multiply") 418, Value.str (Str.ofString "gf_multiply") 419, Value.str (Str.ofString "/claim/cut.py") 420, Value.int 106 0, Value.int 4 0, Value.int 0 0, Value.int 0 0, Value.int 3 0, Value.ref 162, Value.bool true, Value.int 181 0, Value.ref 163, Value.none, Value.ref 164, Value.ref 165, Value.ref 166, Value.int 425 0, Value.int 106 0, Value.str (Str.ofString "/claim/cut.py") 426] }
noncomputable def ob209 (P : Params) : Obj := { cls := Value.type "function", data := Data.func { name := Str.ofString "gf_multiply", qualname := Str.ofString "gf_multiply", params := (recOf (stm 26)).params, body := .stmts (recOf (stm 26)).body, scope := (recOf (stm 26)).scope, globals := 3, closure := [], defaults := Value.none, kwdefaults := Value.none, pyModule := Value.str (Str.ofString "cas.fields") 402, code := Value.ref 167 } }
noncomputable def ob210 (P : Params) : Obj := { cls := Value.type "tuple", data := Data.seq #[] }
noncomputable def ob211 (P : Params) : Obj := { cls := Value.none, data := Data.fields #[] }
noncomputable def ob212 (P : Params) : Obj := { cls := Value.type "tuple", data := Data.seq #[Value.str (Str.ofString "a") 431, Value.str (Str.ofString "m") 432, Value.str (Str.ofString "p") 433] }
noncomputable def ob213 (P : Params) : Obj := { cls := Value.type "tuple", data := Data.seq #[] }
noncomputable def ob214 (P : Params) : Obj := { cls := Value.none, data := Data.func { name := Str.ofString "gf_inverse", qualname := Str.ofString "gf_inverse", params := (recOf (stm 27)).params, body := .stmts (recOf (stm 27)).body, scope := (recOf (stm 27)).scope, globals := 0, closure := [], defaults := Value.none, kwdefaults := Value.none } }
noncomputable def ob215 (P : Params) : Obj := { cls := Value.type "code", data := Data.fields #[Value.str (Str.ofString "gf_inverse") 428, Value.str (Str.ofString "gf_inverse") 429, Value.str (Str.ofString "/claim/cut.py") 430, Value.int 108 0, Value.int 3 0, Value.int 0 0, Value.int 0 0, Value.int 3 0, Value.ref 169, Value.bool true, Value.int 181 0, Value.ref 170, Value.none, Value.ref 171, Value.ref 172, Value.ref 173, Value.int 434 0, Value.int 108 0, Value.str (Str.ofString "/claim/cut.py") 435] }
noncomputable def ob216 (P : Params) : Obj := { cls := Value.type "function", data := Data.func { name := Str.ofString "gf_inverse", qualname := Str.ofString "gf_inverse", params := (recOf (stm 27)).params, body := .stmts (recOf (stm 27)).body, scope := (recOf (stm 27)).scope, globals := 3, closure := [], defaults := Value.none, kwdefaults := Value.none, pyModule := Value.str (Str.ofString "cas.fields") 402, code := Value.ref 174 } }
noncomputable def ob217 (P : Params) : Obj := { cls := Value.type "tuple", data := Data.seq #[] }
noncomputable def ob218 (P : Params) : Obj := { cls := Value.none, data := Data.fields #[] }
noncomputable def ob219 (P : Params) : Obj := { cls := Value.type "tuple", data := Data.seq #[Value.str (Str.ofString "a") 440, Value.str (Str.ofString "n") 441, Value.str (Str.ofString "m") 442, Value.str (Str.ofString "p") 443, Value.str (Str.ofString "found") 444, Value.str (Str.ofString "square") 445] }
noncomputable def ob220 (P : Params) : Obj := { cls := Value.type "tuple", data := Data.seq #[] }
noncomputable def ob221 (P : Params) : Obj := { cls := Value.none, data := Data.func { name := Str.ofString "gf_power", qualname := Str.ofString "gf_power", params := (recOf (stm 28)).params, body := .stmts (recOf (stm 28)).body, scope := (recOf (stm 28)).scope, globals := 0, closure := [], defaults := Value.none, kwdefaults := Value.none } }
noncomputable def ob222 (P : Params) : Obj := { cls := Value.type "code", data := Data.fields #[Value.str (Str.ofString "gf_power") 437, Value.str (Str.ofString "gf_power") 438, Value.str (Str.ofString "/claim/cut.py") 439, Value.int 112 0, Value.int 4 0, Value.int 0 0, Value.int 0 0, Value.int 3 0, Value.ref 176, Value.bool true, Value.int 181 0, Value.ref 177, Value.none, Value.ref 178, Value.ref 179, Value.ref 180, Value.int 446 0, Value.int 112 0, Value.str (Str.ofString "/claim/cut.py") 447] }
noncomputable def ob223 (P : Params) : Obj := { cls := Value.type "function", data := Data.func { name := Str.ofString "gf_power", qualname := Str.ofString "gf_power", params := (recOf (stm 28)).params, body := .stmts (recOf (stm 28)).body, scope := (recOf (stm 28)).scope, globals := 3, closure := [], defaults := Value.none, kwdefaults := Value.none, pyModule := Value.str (Str.ofString "cas.fields") 402, code := Value.ref 181 } }
noncomputable def ob224 (P : Params) : Obj := { cls := Value.type "tuple", data := Data.seq #[] }
noncomputable def ob225 (P : Params) : Obj := { cls := Value.none, data := Data.fields #[] }
noncomputable def ob226 (P : Params) : Obj := { cls := Value.type "tuple", data := Data.seq #[Value.str (Str.ofString "a") 452, Value.str (Str.ofString "m") 453, Value.str (Str.ofString "p") 454, Value.str (Str.ofString "order") 455, Value.str (Str.ofString "prime") 456, Value.str (Str.ofString "many") 457, Value.str (Str.ofString "turn") 458] }
noncomputable def ob227 (P : Params) : Obj := { cls := Value.type "tuple", data := Data.seq #[] }
noncomputable def ob228 (P : Params) : Obj := { cls := Value.none, data := Data.func { name := Str.ofString "gf_order", qualname := Str.ofString "gf_order", params := (recOf (stm 29)).params, body := .stmts (recOf (stm 29)).body, scope := (recOf (stm 29)).scope, globals := 0, closure := [], defaults := Value.none, kwdefaults := Value.none } }
noncomputable def ob229 (P : Params) : Obj := { cls := Value.type "code", data := Data.fields #[Value.str (Str.ofString "gf_order") 449, Value.str (Str.ofString "gf_order") 450, Value.str (Str.ofString "/claim/cut.py") 451, Value.int 123 0, Value.int 3 0, Value.int 0 0, Value.int 0 0, Value.int 3 0, Value.ref 183, Value.bool true, Value.int 181 0, Value.ref 184, Value.none, Value.ref 185, Value.ref 186, Value.ref 187, Value.int 459 0, Value.int 123 0, Value.str (Str.ofString "/claim/cut.py") 460] }
noncomputable def ob230 (P : Params) : Obj := { cls := Value.type "function", data := Data.func { name := Str.ofString "gf_order", qualname := Str.ofString "gf_order", params := (recOf (stm 29)).params, body := .stmts (recOf (stm 29)).body, scope := (recOf (stm 29)).scope, globals := 3, closure := [], defaults := Value.none, kwdefaults := Value.none, pyModule := Value.str (Str.ofString "cas.fields") 402, code := Value.ref 188 } }
noncomputable def ob231 (P : Params) : Obj := { cls := Value.type "tuple", data := Data.seq #[] }
noncomputable def ob232 (P : Params) : Obj := { cls := Value.none, data := Data.fields #[] }
noncomputable def ob233 (P : Params) : Obj := { cls := Value.type "tuple", data := Data.seq #[Value.str (Str.ofString "a") 465, Value.str (Str.ofString "m") 466, Value.str (Str.ofString "p") 467, Value.str (Str.ofString "found") 468, Value.str (Str.ofString "here") 469] }
noncomputable def ob234 (P : Params) : Obj := { cls := Value.type "tuple", data := Data.seq #[] }
noncomputable def ob235 (P : Params) : Obj := { cls := Value.none, data := Data.func { name := Str.ofString "gf_conjugates", qualname := Str.ofString "gf_conjugates", params := (recOf (stm 30)).params, body := .stmts (recOf (stm 30)).body, scope := (recOf (stm 30)).scope, globals := 0, closure := [], defaults := Value.none, kwdefaults := Value.none } }
noncomputable def ob236 (P : Params) : Obj := { cls := Value.type "code", data := Data.fields #[Value.str (Str.ofString "gf_conjugates") 462, Value.str (Str.ofString "gf_conjugates") 463, Value.str (Str.ofString "/claim/cut.py") 464, Value.int 132 0, Value.int 3 0, Value.int 0 0, Value.int 0 0, Value.int 3 0, Value.ref 190, Value.bool true, Value.int 181 0, Value.ref 191, Value.none, Value.ref 192, Value.ref 193, Value.ref 194, Value.int 470 0, Value.int 132 0, Value.str (Str.ofString "/claim/cut.py") 471] }
noncomputable def ob237 (P : Params) : Obj := { cls := Value.type "function", data := Data.func { name := Str.ofString "gf_conjugates", qualname := Str.ofString "gf_conjugates", params := (recOf (stm 30)).params, body := .stmts (recOf (stm 30)).body, scope := (recOf (stm 30)).scope, globals := 3, closure := [], defaults := Value.none, kwdefaults := Value.none, pyModule := Value.str (Str.ofString "cas.fields") 402, code := Value.ref 195 } }
noncomputable def ob238 (P : Params) : Obj := { cls := Value.type "tuple", data := Data.seq #[] }
noncomputable def ob239 (P : Params) : Obj := { cls := Value.none, data := Data.fields #[] }
noncomputable def ob240 (P : Params) : Obj := { cls := Value.type "tuple", data := Data.seq #[Value.str (Str.ofString "a") 476] }
noncomputable def ob241 (P : Params) : Obj := { cls := Value.type "tuple", data := Data.seq #[] }
noncomputable def ob242 (P : Params) : Obj := { cls := Value.none, data := Data.func { name := Str.ofString "number_of", qualname := Str.ofString "number_of", params := (recOf (stm 31)).params, body := .stmts (recOf (stm 31)).body, scope := (recOf (stm 31)).scope, globals := 0, closure := [], defaults := Value.none, kwdefaults := Value.none } }
noncomputable def ob243 (P : Params) : Obj := { cls := Value.type "code", data := Data.fields #[Value.str (Str.ofString "number_of") 473, Value.str (Str.ofString "number_of") 474, Value.str (Str.ofString "/claim/cut.py") 475, Value.int 138 0, Value.int 1 0, Value.int 0 0, Value.int 0 0, Value.int 3 0, Value.ref 197, Value.bool true, Value.int 181 0, Value.ref 198, Value.none, Value.ref 199, Value.ref 200, Value.ref 201, Value.int 477 0, Value.int 138 0, Value.str (Str.ofString "/claim/cut.py") 478] }
noncomputable def ob244 (P : Params) : Obj := { cls := Value.type "function", data := Data.func { name := Str.ofString "number_of", qualname := Str.ofString "number_of", params := (recOf (stm 31)).params, body := .stmts (recOf (stm 31)).body, scope := (recOf (stm 31)).scope, globals := 3, closure := [], defaults := Value.none, kwdefaults := Value.none, pyModule := Value.str (Str.ofString "cas.fields") 402, code := Value.ref 202 } }
noncomputable def ob245 (P : Params) : Obj := { cls := Value.type "tuple", data := Data.seq #[] }
noncomputable def ob246 (P : Params) : Obj := { cls := Value.none, data := Data.fields #[] }
noncomputable def ob247 (P : Params) : Obj := { cls := Value.none, data := Data.func { name := Str.ofString "gf_least", qualname := Str.ofString "gf_least", params := (recOf (stm 32)).params, body := .stmts (recOf (stm 32)).body, scope := (recOf (stm 32)).scope, globals := 0, closure := [], defaults := Value.none, kwdefaults := Value.none } }
noncomputable def ob248 (P : Params) : Obj := { cls := Value.type "code", data := Data.fields #[Value.str (Str.ofString "gf_least") 480, Value.str (Str.ofString "gf_least") 481, Value.str (Str.ofString "/claim/cut.py") 482, Value.int 140 0, Value.int 3 0, Value.int 0 0, Value.int 0 0, Value.int 3 0, Value.ref 204, Value.bool true, Value.int 181 0, Value.ref 205, Value.none, Value.none, Value.none, Value.ref 206, Value.int 483 0, Value.int 140 0, Value.str (Str.ofString "/claim/cut.py") 484] }
noncomputable def ob249 (P : Params) : Obj := { cls := Value.type "function", data := Data.func { name := Str.ofString "gf_least", qualname := Str.ofString "gf_least", params := (recOf (stm 32)).params, body := .stmts (recOf (stm 32)).body, scope := (recOf (stm 32)).scope, globals := 3, closure := [], defaults := Value.none, kwdefaults := Value.none, pyModule := Value.str (Str.ofString "cas.fields") 402, code := Value.ref 207 } }
noncomputable def ob250 (P : Params) : Obj := { cls := Value.type "tuple", data := Data.seq #[] }
noncomputable def ob251 (P : Params) : Obj := { cls := Value.none, data := Data.fields #[] }
noncomputable def ob252 (P : Params) : Obj := { cls := Value.none, data := Data.func { name := Str.ofString "moebius", qualname := Str.ofString "moebius", params := (recOf (stm 33)).params, body := .stmts (recOf (stm 33)).body, scope := (recOf (stm 33)).scope, globals := 0, closure := [], defaults := Value.none, kwdefaults := Value.none } }
noncomputable def ob253 (P : Params) : Obj := { cls := Value.type "code", data := Data.fields #[Value.str (Str.ofString "moebius") 486, Value.str (Str.ofString "moebius") 487, Value.str (Str.ofString "/claim/cut.py") 488, Value.int 148 0, Value.int 1 0, Value.int 0 0, Value.int 0 0, Value.int 3 0, Value.ref 209, Value.bool true, Value.int 181 0, Value.ref 210, Value.none, Value.none, Value.none, Value.ref 211, Value.int 489 0, Value.int 148 0, Value.str (Str.ofString "/claim/cut.py") 490] }
noncomputable def ob254 (P : Params) : Obj := { cls := Value.type "function", data := Data.func { name := Str.ofString "moebius", qualname := Str.ofString "moebius", params := (recOf (stm 33)).params, body := .stmts (recOf (stm 33)).body, scope := (recOf (stm 33)).scope, globals := 3, closure := [], defaults := Value.none, kwdefaults := Value.none, pyModule := Value.str (Str.ofString "cas.fields") 402, code := Value.ref 212 } }
noncomputable def ob255 (P : Params) : Obj := { cls := Value.type "dict", data := Data.dict #[{ hash := PyData.keyHash P (Str.ofString "__name__"), key := Value.str (Str.ofString "__name__") 165, val := Value.str (Str.ofString "law_tk0040_01") 492 }, { hash := PyData.keyHash P (Str.ofString "__doc__"), key := Value.str (Str.ofString "__doc__") 166, val := Value.none }, { hash := PyData.keyHash P (Str.ofString "__package__"), key := Value.str (Str.ofString "__package__") 167, val := Value.none }, { hash := PyData.keyHash P (Str.ofString "__loader__"), key := Value.str (Str.ofString "__loader__") 168, val := Value.builtin "__main__.__loader__#opaque" }, { hash := PyData.keyHash P (Str.ofString "__spec__"), key := Value.str (Str.ofString "__spec__") 169, val := Value.none }, { hash := PyData.keyHash P (Str.ofString "__annotations__"), key := Value.str (Str.ofString "__annotations__") 170, val := Value.ref 6 }, { hash := PyData.keyHash P (Str.ofString "__builtins__"), key := Value.str (Str.ofString "__builtins__") 171, val := Value.ref 4 }, { hash := PyData.keyHash P (Str.ofString "__file__"), key := Value.str (Str.ofString "__file__") 173, val := Value.str (Str.ofString "/claim/cut.py") 172 }, { hash := PyData.keyHash P (Str.ofString "__cached__"), key := Value.str (Str.ofString "__cached__") 174, val := Value.none }, { hash := PyData.keyHash P (Str.ofString "CasFail"), key := Value.str (Str.ofString "CasFail") 219, val := Value.ref 31 }, { hash := PyData.keyHash P (Str.ofString "extended"), key := Value.str (Str.ofString "extended") 233, val := Value.ref 41 }, { hash := PyData.keyHash P (Str.ofString "inverse_mod"), key := Value.str (Str.ofString "inverse_mod") 244, val := Value.ref 48 }, { hash := PyData.keyHash P (Str.ofString "least_divisor"), key := Value.str (Str.ofString "least_divisor") 253, val := Value.ref 55 }, { hash := PyData.keyHash P (Str.ofString "prime_factors"), key := Value.str (Str.ofString "prime_factors") 263, val := Value.ref 62 }, { hash := PyData.keyHash P (Str.ofString "mtrim"), key := Value.str (Str.ofString "mtrim") 273, val := Value.ref 69 }, { hash := PyData.keyHash P (Str.ofString "mdegree"), key := Value.str (Str.ofString "mdegree") 280, val := Value.ref 76 }, { hash := PyData.keyHash P (Str.ofString "madd"), key := Value.str (Str.ofString "madd") 291, val := Value.ref 83 }, { hash := PyData.keyHash P (Str.ofString "mneg"), key := Value.str (Str.ofString "mneg") 297, val := Value.ref 88 }, { hash := PyData.keyHash P (Str.ofString "msub"), key := Value.str (Str.ofString "msub") 306, val := Value.ref 95 }, { hash := PyData.keyHash P (Str.ofString "mscale"), key := Value.str (Str.ofString "mscale") 312, val := Value.ref 100 }, { hash := PyData.keyHash P (Str.ofString "mmul"), key := Value.str (Str.ofString "mmul") 326, val := Value.ref 107 }, { hash := PyData.keyHash P (Str.ofString "mdivmod"), key := Value.str (Str.ofString "mdivmod") 342, val := Value.ref 114 }, { hash := PyData.keyHash P (Str.ofString "mrest"), key := Value.str (Str.ofString "mrest") 351, val := Value.ref 121 }, { hash := PyData.keyHash P (Str.ofString "mproduct"), key := Value.str (Str.ofString "mproduct") 361, val := Value.ref 128 }, { hash := PyData.keyHash P (Str.ofString "mextended"), key := Value.str (Str.ofString "mextended") 378, val := Value.ref 135 }, { hash := PyData.keyHash P (Str.ofString "minverse"), key := Value.str (Str.ofString "minverse") 390, val := Value.ref 142 }, { hash := PyData.keyHash P (Str.ofString "counted"), key := Value.str (Str.ofString "counted") 401, val := Value.ref 149 }, { hash := PyData.keyHash P (Str.ofString "gf_size"), key := Value.str (Str.ofString "gf_size") 411, val := Value.ref 156 }, { hash := PyData.keyHash P (Str.ofString "gf_things"), key := Value.str (Str.ofString "gf_things") 417, val := Value.ref 161 }, { hash := PyData.keyHash P (Str.ofString "gf_multiply"), key := Value.str (Str.ofString "gf_multiply") 427, val := Value.ref 168 }, { hash := PyData.keyHash P (Str.ofString "gf_inverse"), key := Value.str (Str.ofString "gf_inverse") 436, val := Value.ref 175 }, { hash := PyData.keyHash P (Str.ofString "gf_power"), key := Value.str (Str.ofString "gf_power") 448, val := Value.ref 182 }, { hash := PyData.keyHash P (Str.ofString "gf_order"), key := Value.str (Str.ofString "gf_order") 461, val := Value.ref 189 }, { hash := PyData.keyHash P (Str.ofString "gf_conjugates"), key := Value.str (Str.ofString "gf_conjugates") 472, val := Value.ref 196 }, { hash := PyData.keyHash P (Str.ofString "number_of"), key := Value.str (Str.ofString "number_of") 479, val := Value.ref 203 }, { hash := PyData.keyHash P (Str.ofString "gf_least"), key := Value.str (Str.ofString "gf_least") 485, val := Value.ref 208 }, { hash := PyData.keyHash P (Str.ofString "moebius"), key := Value.str (Str.ofString "moebius") 491, val := Value.ref 213 }, { hash := PyData.keyHash P (Str.ofString "_law_fields"), key := Value.str (Str.ofString "_law_fields") 516, val := Value.ref 226 }, { hash := PyData.keyHash P (Str.ofString "_law_take"), key := Value.str (Str.ofString "_law_take") 524, val := Value.ref 233 }, { hash := PyData.keyHash P (Str.ofString "_law_common"), key := Value.str (Str.ofString "_law_common") 532, val := Value.ref 240 }, { hash := PyData.keyHash P (Str.ofString "_law_own"), key := Value.str (Str.ofString "_law_own") 548, val := Value.ref 247 }, { hash := PyData.keyHash P (Str.ofString "_law_degree"), key := Value.str (Str.ofString "_law_degree") 557, val := Value.ref 254 }, { hash := PyData.keyHash P (Str.ofString "law"), key := Value.str (Str.ofString "law") 563, val := Value.ref 259 }] 43 }
noncomputable def ob256 (P : Params) : Obj := { cls := Value.none, data := Data.fields #[Value.int 2 0, Value.int 0 0, Value.ref 20, Value.int 9 0, Value.int 0 0, Value.ref 40, Value.int 16 0, Value.int 0 0, Value.ref 47, Value.int 19 0, Value.int 0 0, Value.ref 54, Value.int 26 0, Value.int 0 0, Value.ref 61, Value.int 36 0, Value.int 0 0, Value.ref 68, Value.int 41 0, Value.int 0 0, Value.ref 75, Value.int 43 0, Value.int 0 0, Value.ref 82, Value.int 48 0, Value.int 0 0, Value.ref 87, Value.int 50 0, Value.int 0 0, Value.ref 94, Value.int 52 0, Value.int 0 0, Value.ref 99, Value.int 54 0, Value.int 0 0, Value.ref 106, Value.int 63 0, Value.int 0 0, Value.ref 113, Value.int 73 0, Value.int 0 0, Value.ref 120, Value.int 75 0, Value.int 0 0, Value.ref 127, Value.int 81 0, Value.int 0 0, Value.ref 134, Value.int 91 0, Value.int 0 0, Value.ref 141, Value.int 95 0, Value.int 0 0, Value.ref 148, Value.int 102 0, Value.int 0 0, Value.ref 155, Value.int 104 0, Value.int 0 0, Value.ref 160, Value.int 106 0, Value.int 0 0, Value.ref 167, Value.int 108 0, Value.int 0 0, Value.ref 174, Value.int 112 0, Value.int 0 0, Value.ref 181, Value.int 123 0, Value.int 0 0, Value.ref 188, Value.int 132 0, Value.int 0 0, Value.ref 195, Value.int 138 0, Value.int 0 0, Value.ref 202, Value.int 140 0, Value.int 0 0, Value.ref 207, Value.int 148 0, Value.int 0 0, Value.ref 212, Value.int 155 0, Value.int 0 0, Value.ref 232, Value.int 160 0, Value.int 0 0, Value.ref 239, Value.int 164 0, Value.int 0 0, Value.ref 246, Value.int 177 0, Value.int 0 0, Value.ref 253, Value.int 182 0, Value.int 0 0, Value.ref 258] }
noncomputable def ob257 (P : Params) : Obj := { cls := Value.type "tuple", data := Data.seq #[Value.int 1 495, Value.int 1 496, Value.int 1 497] }
noncomputable def ob258 (P : Params) : Obj := { cls := Value.type "tuple", data := Data.seq #[Value.int 2 494, Value.ref 214] }
noncomputable def ob259 (P : Params) : Obj := { cls := Value.type "tuple", data := Data.seq #[Value.int 1 499, Value.int 0 500, Value.int 1 501] }
noncomputable def ob260 (P : Params) : Obj := { cls := Value.type "tuple", data := Data.seq #[Value.int 3 498, Value.ref 216] }
noncomputable def ob261 (P : Params) : Obj := { cls := Value.type "tuple", data := Data.seq #[Value.int 1 503, Value.int 0 504, Value.int 1 505, Value.int 1 506] }
noncomputable def ob262 (P : Params) : Obj := { cls := Value.type "tuple", data := Data.seq #[Value.int 2 502, Value.ref 218] }
noncomputable def ob263 (P : Params) : Obj := { cls := Value.type "tuple", data := Data.seq #[Value.int 0 508, Value.int 1 509] }
noncomputable def ob264 (P : Params) : Obj := { cls := Value.type "tuple", data := Data.seq #[Value.int 5 507, Value.ref 220] }
noncomputable def ob265 (P : Params) : Obj := { cls := Value.type "tuple", data := Data.seq #[Value.int 0 511, Value.int 1 512] }
noncomputable def ob266 (P : Params) : Obj := { cls := Value.type "tuple", data := Data.seq #[Value.int 11 510, Value.ref 222] }
noncomputable def ob267 (P : Params) : Obj := { cls := Value.type "tuple", data := Data.seq #[Value.int 0 514, Value.int 1 515] }
noncomputable def ob268 (P : Params) : Obj := { cls := Value.type "tuple", data := Data.seq #[Value.int 7 513, Value.ref 224] }
noncomputable def ob269 (P : Params) : Obj := { cls := Value.type "tuple", data := Data.seq #[Value.ref 215, Value.ref 217, Value.ref 219, Value.ref 221, Value.ref 223, Value.ref 225] }
noncomputable def ob270 (P : Params) : Obj := { cls := Value.type "tuple", data := Data.seq #[] }
noncomputable def ob271 (P : Params) : Obj := { cls := Value.none, data := Data.fields #[] }
noncomputable def ob272 (P : Params) : Obj := { cls := Value.type "tuple", data := Data.seq #[Value.str (Str.ofString "box") 520, Value.str (Str.ofString "many") 521] }
noncomputable def ob273 (P : Params) : Obj := { cls := Value.type "tuple", data := Data.seq #[] }
noncomputable def ob274 (P : Params) : Obj := { cls := Value.none, data := Data.func { name := Str.ofString "_law_take", qualname := Str.ofString "_law_take", params := (recOf (stm 36)).params, body := .stmts (recOf (stm 36)).body, scope := (recOf (stm 36)).scope, globals := 0, closure := [], defaults := Value.none, kwdefaults := Value.none } }
noncomputable def ob275 (P : Params) : Obj := { cls := Value.type "code", data := Data.fields #[Value.str (Str.ofString "_law_take") 517, Value.str (Str.ofString "_law_take") 518, Value.str (Str.ofString "/claim/cut.py") 519, Value.int 155 0, Value.int 2 0, Value.int 0 0, Value.int 0 0, Value.int 3 0, Value.ref 227, Value.bool true, Value.int 181 0, Value.ref 228, Value.none, Value.ref 229, Value.ref 230, Value.ref 231, Value.int 522 0, Value.int 155 0, Value.str (Str.ofString "/claim/cut.py") 523] }
noncomputable def ob276 (P : Params) : Obj := { cls := Value.type "function", data := Data.func { name := Str.ofString "_law_take", qualname := Str.ofString "_law_take", params := (recOf (stm 36)).params, body := .stmts (recOf (stm 36)).body, scope := (recOf (stm 36)).scope, globals := 3, closure := [], defaults := Value.none, kwdefaults := Value.none, pyModule := Value.str (Str.ofString "law_tk0040_01") 492, code := Value.ref 232 } }
noncomputable def ob277 (P : Params) : Obj := { cls := Value.type "tuple", data := Data.seq #[] }
noncomputable def ob278 (P : Params) : Obj := { cls := Value.none, data := Data.fields #[] }
noncomputable def ob279 (P : Params) : Obj := { cls := Value.type "tuple", data := Data.seq #[Value.str (Str.ofString "a") 528, Value.str (Str.ofString "b") 529] }
noncomputable def ob280 (P : Params) : Obj := { cls := Value.type "tuple", data := Data.seq #[] }
noncomputable def ob281 (P : Params) : Obj := { cls := Value.none, data := Data.func { name := Str.ofString "_law_common", qualname := Str.ofString "_law_common", params := (recOf (stm 37)).params, body := .stmts (recOf (stm 37)).body, scope := (recOf (stm 37)).scope, globals := 0, closure := [], defaults := Value.none, kwdefaults := Value.none } }
noncomputable def ob282 (P : Params) : Obj := { cls := Value.type "code", data := Data.fields #[Value.str (Str.ofString "_law_common") 525, Value.str (Str.ofString "_law_common") 526, Value.str (Str.ofString "/claim/cut.py") 527, Value.int 160 0, Value.int 2 0, Value.int 0 0, Value.int 0 0, Value.int 3 0, Value.ref 234, Value.bool true, Value.int 181 0, Value.ref 235, Value.none, Value.ref 236, Value.ref 237, Value.ref 238, Value.int 530 0, Value.int 160 0, Value.str (Str.ofString "/claim/cut.py") 531] }
noncomputable def ob283 (P : Params) : Obj := { cls := Value.type "function", data := Data.func { name := Str.ofString "_law_common", qualname := Str.ofString "_law_common", params := (recOf (stm 37)).params, body := .stmts (recOf (stm 37)).body, scope := (recOf (stm 37)).scope, globals := 3, closure := [], defaults := Value.none, kwdefaults := Value.none, pyModule := Value.str (Str.ofString "law_tk0040_01") 492, code := Value.ref 239 } }
noncomputable def ob284 (P : Params) : Obj := { cls := Value.type "tuple", data := Data.seq #[] }
noncomputable def ob285 (P : Params) : Obj := { cls := Value.none, data := Data.fields #[] }
noncomputable def ob286 (P : Params) : Obj := { cls := Value.type "tuple", data := Data.seq #[Value.str (Str.ofString "d") 536, Value.str (Str.ofString "found") 537, Value.str (Str.ofString "lesser") 538, Value.str (Str.ofString "part") 539, Value.str (Str.ofString "rest") 540, Value.str (Str.ofString "quotient") 541, Value.str (Str.ofString "at") 542, Value.str (Str.ofString "number") 543, Value.str (Str.ofString "spot") 544, Value.str (Str.ofString "one") 545] }
noncomputable def ob287 (P : Params) : Obj := { cls := Value.type "tuple", data := Data.seq #[] }
noncomputable def ob288 (P : Params) : Obj := { cls := Value.none, data := Data.func { name := Str.ofString "_law_own", qualname := Str.ofString "_law_own", params := (recOf (stm 38)).params, body := .stmts (recOf (stm 38)).body, scope := (recOf (stm 38)).scope, globals := 0, closure := [], defaults := Value.none, kwdefaults := Value.none } }
noncomputable def ob289 (P : Params) : Obj := { cls := Value.type "code", data := Data.fields #[Value.str (Str.ofString "_law_own") 533, Value.str (Str.ofString "_law_own") 534, Value.str (Str.ofString "/claim/cut.py") 535, Value.int 164 0, Value.int 1 0, Value.int 0 0, Value.int 0 0, Value.int 3 0, Value.ref 241, Value.bool true, Value.int 181 0, Value.ref 242, Value.none, Value.ref 243, Value.ref 244, Value.ref 245, Value.int 546 0, Value.int 164 0, Value.str (Str.ofString "/claim/cut.py") 547] }
noncomputable def ob290 (P : Params) : Obj := { cls := Value.type "function", data := Data.func { name := Str.ofString "_law_own", qualname := Str.ofString "_law_own", params := (recOf (stm 38)).params, body := .stmts (recOf (stm 38)).body, scope := (recOf (stm 38)).scope, globals := 3, closure := [], defaults := Value.none, kwdefaults := Value.none, pyModule := Value.str (Str.ofString "law_tk0040_01") 492, code := Value.ref 246 } }
noncomputable def ob291 (P : Params) : Obj := { cls := Value.type "tuple", data := Data.seq #[] }
noncomputable def ob292 (P : Params) : Obj := { cls := Value.none, data := Data.fields #[] }
noncomputable def ob293 (P : Params) : Obj := { cls := Value.type "tuple", data := Data.seq #[Value.str (Str.ofString "d") 552, Value.str (Str.ofString "p") 553, Value.str (Str.ofString "t") 554] }
noncomputable def ob294 (P : Params) : Obj := { cls := Value.type "tuple", data := Data.seq #[] }
noncomputable def ob295 (P : Params) : Obj := { cls := Value.none, data := Data.func { name := Str.ofString "_law_degree", qualname := Str.ofString "_law_degree", params := (recOf (stm 39)).params, body := .stmts (recOf (stm 39)).body, scope := (recOf (stm 39)).scope, globals := 0, closure := [], defaults := Value.none, kwdefaults := Value.none } }
noncomputable def ob296 (P : Params) : Obj := { cls := Value.type "code", data := Data.fields #[Value.str (Str.ofString "_law_degree") 549, Value.str (Str.ofString "_law_degree") 550, Value.str (Str.ofString "/claim/cut.py") 551, Value.int 177 0, Value.int 2 0, Value.int 0 0, Value.int 0 0, Value.int 3 0, Value.ref 248, Value.bool true, Value.int 181 0, Value.ref 249, Value.none, Value.ref 250, Value.ref 251, Value.ref 252, Value.int 555 0, Value.int 177 0, Value.str (Str.ofString "/claim/cut.py") 556] }
noncomputable def ob297 (P : Params) : Obj := { cls := Value.type "function", data := Data.func { name := Str.ofString "_law_degree", qualname := Str.ofString "_law_degree", params := (recOf (stm 39)).params, body := .stmts (recOf (stm 39)).body, scope := (recOf (stm 39)).scope, globals := 3, closure := [], defaults := Value.none, kwdefaults := Value.none, pyModule := Value.str (Str.ofString "law_tk0040_01") 492, code := Value.ref 253 } }
noncomputable def ob298 (P : Params) : Obj := { cls := Value.type "tuple", data := Data.seq #[] }
noncomputable def ob299 (P : Params) : Obj := { cls := Value.none, data := Data.fields #[] }
noncomputable def ob300 (P : Params) : Obj := { cls := Value.none, data := Data.func { name := Str.ofString "law", qualname := Str.ofString "law", params := (recOf (stm 40)).params, body := .stmts (recOf (stm 40)).body, scope := (recOf (stm 40)).scope, globals := 0, closure := [], defaults := Value.none, kwdefaults := Value.none } }
noncomputable def ob301 (P : Params) : Obj := { cls := Value.type "code", data := Data.fields #[Value.str (Str.ofString "law") 558, Value.str (Str.ofString "law") 559, Value.str (Str.ofString "/claim/cut.py") 560, Value.int 182 0, Value.int 1 0, Value.int 0 0, Value.int 0 0, Value.int 3 0, Value.ref 255, Value.bool true, Value.int 181 0, Value.ref 256, Value.none, Value.none, Value.none, Value.ref 257, Value.int 561 0, Value.int 182 0, Value.str (Str.ofString "/claim/cut.py") 562] }
noncomputable def ob302 (P : Params) : Obj := { cls := Value.type "function", data := Data.func { name := Str.ofString "law", qualname := Str.ofString "law", params := (recOf (stm 40)).params, body := .stmts (recOf (stm 40)).body, scope := (recOf (stm 40)).scope, globals := 3, closure := [], defaults := Value.none, kwdefaults := Value.none, pyModule := Value.str (Str.ofString "law_tk0040_01") 492, code := Value.ref 258 } }
noncomputable def heapB (P : Params) : Heap := { objs := ⟨[boot_o_0 P, boot_o_1 P, ob49 P, ob50 P, boot_o_4 P, boot_o_5 P, boot_o_6 P, boot_o_7 P, boot_o_8 P, boot_o_9 P, boot_o_10 P, ob43 P, ob51 P, ob45 P, ob46 P, ob52 P, ob53 P, ob54 P, ob55 P, ob56 P, ob57 P, ob58 P, ob59 P, ob60 P, ob61 P, ob62 P, ob63 P, ob64 P, ob65 P, ob66 P, ob67 P, ob68 P, ob69 P, ob70 P, ob71 P, ob72 P, ob73 P, ob74 P, ob75 P, ob76 P, ob77 P, ob78 P, ob79 P, ob80 P, ob81 P, ob82 P, ob83 P, ob84 P, ob85 P, ob86 P, ob87 P, ob88 P, ob89 P, ob90 P, ob91 P, ob92 P, ob93 P, ob94 P, ob95 P, ob96 P, ob97 P, ob98 P, ob99 P]⟩ }
noncomputable def heapC (P : Params) : Heap := { objs := ⟨[boot_o_0 P, boot_o_1 P, ob49 P, ob100 P, boot_o_4 P, boot_o_5 P, boot_o_6 P, boot_o_7 P, boot_o_8 P, boot_o_9 P, boot_o_10 P, ob43 P, ob101 P, ob45 P, ob46 P, ob52 P, ob53 P, ob54 P, ob55 P, ob56 P, ob57 P, ob58 P, ob59 P, ob60 P, ob61 P, ob62 P, ob63 P, ob64 P, ob65 P, ob66 P, ob67 P, ob68 P, ob69 P, ob70 P, ob71 P, ob72 P, ob73 P, ob74 P, ob75 P, ob76 P, ob77 P, ob78 P, ob79 P, ob80 P, ob81 P, ob82 P, ob83 P, ob84 P, ob85 P, ob86 P, ob87 P, ob88 P, ob89 P, ob90 P, ob91 P, ob92 P, ob93 P, ob94 P, ob95 P, ob96 P, ob97 P, ob98 P, ob99 P, ob102 P, ob103 P, ob104 P, ob105 P, ob106 P, ob107 P, ob108 P, ob109 P, ob110 P, ob111 P, ob112 P, ob113 P, ob114 P, ob115 P, ob116 P, ob117 P, ob118 P, ob119 P, ob120 P, ob121 P, ob122 P, ob123 P, ob124 P, ob125 P, ob126 P, ob127 P, ob128 P, ob129 P, ob130 P, ob131 P, ob132 P, ob133 P, ob134 P, ob135 P, ob136 P, ob137 P, ob138 P, ob139 P, ob140 P, ob141 P, ob142 P, ob143 P, ob144 P, ob145 P, ob146 P, ob147 P, ob148 P, ob149 P, ob150 P, ob151 P, ob152 P, ob153 P, ob154 P, ob155 P, ob156 P, ob157 P, ob158 P, ob159 P, ob160 P, ob161 P, ob162 P, ob163 P, ob164 P, ob165 P, ob166 P, ob167 P, ob168 P, ob169 P, ob170 P, ob171 P, ob172 P, ob173 P, ob174 P, ob175 P, ob176 P, ob177 P, ob178 P, ob179 P, ob180 P, ob181 P]⟩ }
noncomputable def heapD (P : Params) : Heap := { objs := ⟨[boot_o_0 P, boot_o_1 P, ob49 P, ob182 P, boot_o_4 P, boot_o_5 P, boot_o_6 P, boot_o_7 P, boot_o_8 P, boot_o_9 P, boot_o_10 P, ob43 P, ob183 P, ob45 P, ob46 P, ob52 P, ob53 P, ob54 P, ob55 P, ob56 P, ob57 P, ob58 P, ob59 P, ob60 P, ob61 P, ob62 P, ob63 P, ob64 P, ob65 P, ob66 P, ob67 P, ob68 P, ob69 P, ob70 P, ob71 P, ob72 P, ob73 P, ob74 P, ob75 P, ob76 P, ob77 P, ob78 P, ob79 P, ob80 P, ob81 P, ob82 P, ob83 P, ob84 P, ob85 P, ob86 P, ob87 P, ob88 P, ob89 P, ob90 P, ob91 P, ob92 P, ob93 P, ob94 P, ob95 P, ob96 P, ob97 P, ob98 P, ob99 P, ob102 P, ob103 P, ob104 P, ob105 P, ob106 P, ob107 P, ob108 P, ob109 P, ob110 P, ob111 P, ob112 P, ob113 P, ob114 P, ob115 P, ob116 P, ob117 P, ob118 P, ob119 P, ob120 P, ob121 P, ob122 P, ob123 P, ob124 P, ob125 P, ob126 P, ob127 P, ob128 P, ob129 P, ob130 P, ob131 P, ob132 P, ob133 P, ob134 P, ob135 P, ob136 P, ob137 P, ob138 P, ob139 P, ob140 P, ob141 P, ob142 P, ob143 P, ob144 P, ob145 P, ob146 P, ob147 P, ob148 P, ob149 P, ob150 P, ob151 P, ob152 P, ob153 P, ob154 P, ob155 P, ob156 P, ob157 P, ob158 P, ob159 P, ob160 P, ob161 P, ob162 P, ob163 P, ob164 P, ob165 P, ob166 P, ob167 P, ob168 P, ob169 P, ob170 P, ob171 P, ob172 P, ob173 P, ob174 P, ob175 P, ob176 P, ob177 P, ob178 P, ob179 P, ob180 P, ob181 P, ob184 P, ob185 P, ob186 P, ob187 P, ob188 P, ob189 P, ob190 P, ob191 P, ob192 P, ob193 P, ob194 P, ob195 P, ob196 P, ob197 P, ob198 P, ob199 P, ob200 P, ob201 P, ob202 P, ob203 P, ob204 P, ob205 P, ob206 P, ob207 P, ob208 P, ob209 P, ob210 P, ob211 P, ob212 P, ob213 P, ob214 P, ob215 P, ob216 P, ob217 P, ob218 P, ob219 P, ob220 P, ob221 P, ob222 P, ob223 P, ob224 P, ob225 P, ob226 P, ob227 P, ob228 P, ob229 P, ob230 P, ob231 P, ob232 P, ob233 P, ob234 P, ob235 P, ob236 P, ob237 P, ob238 P, ob239 P, ob240 P, ob241 P, ob242 P, ob243 P, ob244 P, ob245 P, ob246 P, ob247 P, ob248 P, ob249 P, ob250 P, ob251 P, ob252 P, ob253 P, ob254 P]⟩ }
noncomputable def heapE (P : Params) : Heap := { objs := ⟨[boot_o_0 P, boot_o_1 P, ob49 P, ob255 P, boot_o_4 P, boot_o_5 P, boot_o_6 P, boot_o_7 P, boot_o_8 P, boot_o_9 P, boot_o_10 P, ob43 P, ob256 P, ob45 P, ob46 P, ob52 P, ob53 P, ob54 P, ob55 P, ob56 P, ob57 P, ob58 P, ob59 P, ob60 P, ob61 P, ob62 P, ob63 P, ob64 P, ob65 P, ob66 P, ob67 P, ob68 P, ob69 P, ob70 P, ob71 P, ob72 P, ob73 P, ob74 P, ob75 P, ob76 P, ob77 P, ob78 P, ob79 P, ob80 P, ob81 P, ob82 P, ob83 P, ob84 P, ob85 P, ob86 P, ob87 P, ob88 P, ob89 P, ob90 P, ob91 P, ob92 P, ob93 P, ob94 P, ob95 P, ob96 P, ob97 P, ob98 P, ob99 P, ob102 P, ob103 P, ob104 P, ob105 P, ob106 P, ob107 P, ob108 P, ob109 P, ob110 P, ob111 P, ob112 P, ob113 P, ob114 P, ob115 P, ob116 P, ob117 P, ob118 P, ob119 P, ob120 P, ob121 P, ob122 P, ob123 P, ob124 P, ob125 P, ob126 P, ob127 P, ob128 P, ob129 P, ob130 P, ob131 P, ob132 P, ob133 P, ob134 P, ob135 P, ob136 P, ob137 P, ob138 P, ob139 P, ob140 P, ob141 P, ob142 P, ob143 P, ob144 P, ob145 P, ob146 P, ob147 P, ob148 P, ob149 P, ob150 P, ob151 P, ob152 P, ob153 P, ob154 P, ob155 P, ob156 P, ob157 P, ob158 P, ob159 P, ob160 P, ob161 P, ob162 P, ob163 P, ob164 P, ob165 P, ob166 P, ob167 P, ob168 P, ob169 P, ob170 P, ob171 P, ob172 P, ob173 P, ob174 P, ob175 P, ob176 P, ob177 P, ob178 P, ob179 P, ob180 P, ob181 P, ob184 P, ob185 P, ob186 P, ob187 P, ob188 P, ob189 P, ob190 P, ob191 P, ob192 P, ob193 P, ob194 P, ob195 P, ob196 P, ob197 P, ob198 P, ob199 P, ob200 P, ob201 P, ob202 P, ob203 P, ob204 P, ob205 P, ob206 P, ob207 P, ob208 P, ob209 P, ob210 P, ob211 P, ob212 P, ob213 P, ob214 P, ob215 P, ob216 P, ob217 P, ob218 P, ob219 P, ob220 P, ob221 P, ob222 P, ob223 P, ob224 P, ob225 P, ob226 P, ob227 P, ob228 P, ob229 P, ob230 P, ob231 P, ob232 P, ob233 P, ob234 P, ob235 P, ob236 P, ob237 P, ob238 P, ob239 P, ob240 P, ob241 P, ob242 P, ob243 P, ob244 P, ob245 P, ob246 P, ob247 P, ob248 P, ob249 P, ob250 P, ob251 P, ob252 P, ob253 P, ob254 P, ob257 P, ob258 P, ob259 P, ob260 P, ob261 P, ob262 P, ob263 P, ob264 P, ob265 P, ob266 P, ob267 P, ob268 P, ob269 P, ob270 P, ob271 P, ob272 P, ob273 P, ob274 P, ob275 P, ob276 P, ob277 P, ob278 P, ob279 P, ob280 P, ob281 P, ob282 P, ob283 P, ob284 P, ob285 P, ob286 P, ob287 P, ob288 P, ob289 P, ob290 P, ob291 P, ob292 P, ob293 P, ob294 P, ob295 P, ob296 P, ob297 P, ob298 P, ob299 P, ob300 P, ob301 P, ob302 P]⟩ }
end Mine


/-! part Sg -/
open PySem PySem.W PyProof.Rows
namespace Mine
noncomputable def sts (i k : Nat) : List Stmt := ((behindTheImports pr).drop i).take k
noncomputable def shr (h : Heap) (k : Nat) (os : OsState) : Shared := ⟨h, #[], {}, k, os⟩
noncomputable def pB : Pos := ⟨35, 0, 35, 8⟩
noncomputable def pC : Pos := ⟨91, 0, 93, 52⟩
noncomputable def pD : Pos := ⟨153, 0, 153, 8⟩
noncomputable def pE : Pos := ⟨182, 0, 206, 71⟩
theorem seg1 (w : World) (os : OsState) : segRun treeTable pr w 11 (some (.ref 6)) 1 388 (shr (heapA w.params) 187 os) (piecesOf (sts 0 8) envA codeA p0 [topFrame p0]) = some (.next, shr (heapB w.params) 266 os, codeA, pB) := by kernel_rfl
theorem seg2 (w : World) (os : OsState) : segRun treeTable pr w 11 (some (.ref 6)) 1 393 (shr (heapB w.params) 266 os) (piecesOf (sts 8 13) envA codeA pB [topFrame p0]) = some (.next, shr (heapC w.params) 391 os, codeA, pC) := by kernel_rfl
theorem seg3 (w : World) (os : OsState) : segRun treeTable pr w 11 (some (.ref 6)) 1 361 (shr (heapC w.params) 391 os) (piecesOf (sts 21 14) envA codeA pC [topFrame p0]) = some (.next, shr (heapD w.params) 494 os, codeA, pD) := by kernel_rfl
theorem seg4 (w : World) (os : OsState) : segRun treeTable pr w 11 (some (.ref 6)) 1 212 (shr (heapD w.params) 494 os) (piecesOf (sts 35 6) envA codeA pD [topFrame p0]) = some (.next, shr (heapE w.params) 564 os, codeA, pE) := by kernel_rfl
theorem pre12 (w : World) (os : OsState) : topGo treeTable pr w 11 (some (.ref 6)) 12 ⟨boot_heap w.params, #[], boot_drawn, boot_toks, os⟩ (topStub pr) = some (shr (heapA w.params) 187 os, ⟨denote treeTable codeA, codeA, p0, [topFrame p0]⟩) := by kernel_rfl
theorem blk1 (w : World) (os : OsState) : segRun treeTable pr w 11 (some (.ref 6)) 1 1 (shr (heapA w.params) 187 os) (blockOf (behindTheImports pr) envA codeA p0 [topFrame p0]) = some (.next, shr (heapA w.params) 187 os, codeA, p0) := by kernel_rfl
theorem last2 (w : World) (os : OsState) : topRun treeTable pr w 11 (some (.ref 6)) 2 (shr (heapE w.params) 564 os) ⟨doneF .next, codeA, pE, [topFrame p0]⟩ = some (shr (heapE w.params) 564 os) := by kernel_rfl
theorem all_sts : behindTheImports pr = sts 0 8 ++ (sts 8 13 ++ (sts 21 14 ++ (sts 35 6 ++ []))) := by kernel_rfl
theorem run_all (w : World) (os : OsState) : topRun treeTable pr w 11 (some (.ref 6)) (12 + (1 + (388 + (393 + (361 + (212 + 2)))))) ⟨boot_heap w.params, #[], boot_drawn, boot_toks, os⟩ (topStub pr) = some (shr (heapE w.params) 564 os) := by
  refine go_top (pre12 w os) ?_
  refine piece_block (b := behindTheImports pr) (env := envA) (blk1 w os) ?_
  rw [all_sts]
  refine piece_app (seg1 w os) ?_
  refine piece_app (seg2 w os) ?_
  refine piece_app (seg3 w os) ?_
  refine piece_app (seg4 w os) ?_
  exact piece_nil (last2 w os)
end Mine

/-! part Lk -/
set_option maxHeartbeats 8000000
open PySem PySem.W PyProof.Rows
namespace Mine
noncomputable def keepIdx : List Nat := [1, 3, 4, 5, 6, 8, 9, 10, 11, 12, 13, 14, 15, 16, 17, 19, 20, 22, 24, 25, 26, 27, 28, 29, 30, 31, 32, 33, 35, 36, 37, 38, 39, 40]
noncomputable def view : Program := { PySem.Challenge.pw_tk0040_01 with main := { PySem.Challenge.pw_tk0040_01.main with body := keepIdx.filterMap fun i => PySem.Challenge.pw_tk0040_01.main.body[i]? } }
theorem open0 (w : World) : (fencedOpening treeTable pr w 2826).map (fun s => (s.heap, s.gens, s.drawn, s.toks)) = some (boot_heap w.params, #[], boot_drawn, boot_toks) := by kernel_rfl
theorem size0 (w : World) : ((boot_heap w.params).isNs mainGlobals && (#[] : Array GenState).size == 0, (boot_heap w.params).objs.size, (boot_heap w.params).nsMap mainGlobals "__annotations__") = (true, 11, some (.ref 6)) := by kernel_rfl
theorem look1 (w : World) (os : OsState) : (staticsOk (importedModules pr.main.body) (boot_heap w.params) (heapE w.params) && namesBound pr (heapE w.params) && gensDone (shr (heapE w.params) 564 os) && laidKept (boot_heap w.params) (heapE w.params)) = true := by kernel_rfl
theorem look2 (w : World) (os : OsState) : openSeen view [] (importedModules pr.main.body) (fun s => xlAt view [] s && recOk [] s) true (shr (heapE w.params) 564 os) = openGood view [] := by kernel_rfl
theorem look3 (w : World) (os : OsState) : hook.obs (shr (heapE w.params) 564 os) = hook.val w := by kernel_rfl
theorem left0 : LeftO PySem.Challenge.pw_tk0040_01 view [] (fun s => xlAt view [] s && recOk [] s) hook.obs hook.val 2826 :=
  LeftO.of_pieces (p := pr) (H₀ := boot_heap) (H₁ := heapE) open0 size0 run_all (by decide) fun w => funext fun os => Prod.ext (look1 w os) (Prod.ext (look2 w os) (look3 w os))
end Mine

open PySem PySem.W PyProof.Rows
set_option maxHeartbeats 8000000 in
theorem PySem.Challenge.cw_tk0040_01_holds : PySem.Challenge.rw_tk0040_01.Holds := by
  (w_on; o_law)
  refine holds_open (q := Mine.view) (loose := []) (Xt := fun s => xlAt Mine.view [] s && recOk [] s) (XP := XL Mine.view []) (Yf := Mine.hook.obs) (Ya := Mine.hook.val) (YP := Mine.hook.says) (N := 2826) Mine.left0 Mine.hook.of Mine.hook.keeps (fun s e => xl_of s (Bool.and_eq_true_iff.mp e).1) XL.keeps (by rfl) (by rfl) (by rfl) (fun s e => recFacts_of (Bool.and_eq_true_iff.mp e).2) (by rfl) (by first | assumption | decide +kernel) (by decide +kernel) ⟨rfl, rfl, rfl, rfl, rfl, by decide +kernel⟩ ?hw ?hc
  (case hw => w_witness2)
  w_strict (
  intro w s₀ s₁ mg mb G Y fa o pm cd doc dV kV ho hd hcd hD hmg hg args vals as hpre hlay hrd hwl hlo
  refine Ground.open G ?_
  intro T B D TE TW
  have ht := Mine.hook_says Y T.g
  clear hd hcd hD ho B D TE TW
  wrow_args hpre hlay hrd hwl hlo
  rename_i is _ _ _ _ _ _ _ a vs _ hL _ hW _ hI _ hlen _
  have hf : ∀ x ∈ [Str.ofString "len", Str.ofString "abs", Str.ofString "max", Str.ofString "any", Str.ofString "list", Str.ofString "range", Str.ofString "enumerate"], mg x = none := by
    intro x hx
    refine T.free x ?_ ?_ ?_ ?_ ?_
    all_goals (revert x; decide +kernel)
  have GK := Mine.mk_gok' T (by kernel_rfl) hf ht
  refine (Mine.sound (prog := rw_tk0040_01.row.prog) (w := w) GK 100).c (M := []) (f := 31) (vs := [.lst (is.map Mine.V.int)]) (v := .bool true) (Mine.plain_law is (by omega)) Mine.room_caller hmg (.cons (Mine.arg_vr hL hI hW) .nil) ⟨(fun a h => nomatch h), (fun a h => nomatch h), fun _ _ e => e⟩ fun wv h' tk r hk => ?_
  cases r
  refine GoodW.toG ⟨.inl ⟨.bool true, .bool true, [], rfl, fun cls => rfl, .bool true, Mine.post_true _, fun _ => ⟨List.nodup_nil, (fun a h => nomatch h)⟩⟩, hk, rfl, hg⟩)
