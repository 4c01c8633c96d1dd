import PyProof.Rows.All
import PySem.PyData
import Wide.All
import OpenK.AllK
import Wide.FinOn
import HandS.ForMost
import HandS.Exc
import HandS.ExcOwn
import HandS.TryOnly
import HandS.WordsExc
import HandS.Wide
import HandS.IsInst
import HandS.CallSlots
import HandS.EndBits
import HandS.WideBits
import PySem.Challenge.RW_fourcreases_k05_lengths_and_turns
section
/-! DenCore: data, stores, and what pieces of Python denote over them. Plain Lean, no program in sight. -/
namespace Den
open PySem

inductive D where
  | non
  | bl (b : Bool)
  | int (i : Int)
  | str (x : Str)
  | tup (xs : List D)
  | lst (xs : List D)
  | dct (ks vs : List D)
  | obj (n : Nat)

abbrev Env := List (Option D)
/-- a list that stands in the store: still changing, or frozen -/
inductive MO where
  | lst (xs : List D)
  | frz (xs : List D)
abbrev Sto := List MO
structure Exn where
  cls : String
  fs : List (String × D)

inductive RE (α : Type) where
  | ok (a : α) (S : Sto)
  | exn (x : Exn) (S : Sto)
  | bad
def RE.bind {α β : Type} (r : RE α) (k : α → Sto → RE β) : RE β := match r with
  | .ok a S => k a S
  | .exn x S => .exn x S
  | .bad => .bad
@[simp] theorem RE.bind_ok {α β : Type} (a : α) (S : Sto) (k : α → Sto → RE β) : (RE.ok a S).bind k = k a S := rfl
@[simp] theorem RE.bind_exn {α β : Type} (x : Exn) (S : Sto) (k : α → Sto → RE β) : (RE.exn x S).bind k = .exn x S := rfl
@[simp] theorem RE.bind_bad {α β : Type} (k : α → Sto → RE β) : (RE.bad).bind k = .bad := rfl
/-- the value of a partial operation -/
def RE.of {α : Type} (o : Option α) (S : Sto) : RE α := match o with
  | some a => .ok a S
  | none => .bad
@[simp] theorem RE.of_some {α : Type} (a : α) (S : Sto) : RE.of (some a) S = .ok a S := rfl
@[simp] theorem RE.of_none {α : Type} (S : Sto) : RE.of (none : Option α) S = .bad := rfl

inductive RS where
  | nx (ρ : Env) (S : Sto)
  | rt (d : D) (S : Sto)
  | bk (ρ : Env) (S : Sto)
  | ct (ρ : Env) (S : Sto)
  | exn (x : Exn) (ρ : Env) (S : Sto)
  | bad

abbrev DE := Env → Sto → RE D
abbrev DT := Env → Sto → RE Bool
abbrev DA := Env → Sto → RE (List D)
abbrev DS := Env → Sto → RS
/-- an expression's answer, then a statement's -/
def RE.seq {α : Type} (r : RE α) (ρ : Env) (k : α → Sto → RS) : RS := match r with
  | .ok a S => k a S
  | .exn x S => .exn x ρ S
  | .bad => .bad
@[simp] theorem RE.seq_ok {α : Type} (a : α) (S : Sto) (ρ : Env) (k : α → Sto → RS) : (RE.ok a S).seq ρ k = k a S := rfl
@[simp] theorem RE.seq_exn {α : Type} (x : Exn) (S : Sto) (ρ : Env) (k : α → Sto → RS) : (RE.exn x S).seq ρ k = .exn x ρ S := rfl
@[simp] theorem RE.seq_bad {α : Type} (ρ : Env) (k : α → Sto → RS) : (RE.bad : RE α).seq ρ k = .bad := rfl

/-! ### data -/
mutual
/-- no object of a store within -/
def gnd : D → Bool
  | .non => true
  | .bl _ => true
  | .int _ => true
  | .str _ => true
  | .tup xs => gnds xs
  | .lst xs => gnds xs
  | .dct ks vs => gnds ks && gnds vs
  | .obj _ => false
def gnds : List D → Bool
  | [] => true
  | x :: xs => gnd x && gnds xs
end
def strOk (x : Str) : Bool := x.cps.all (· < 0x110000)
mutual
/-- may be compared (as data): no dict, no object within -/
def cmpOk : D → Bool
  | .non => true
  | .bl _ => true
  | .int _ => true
  | .str x => strOk x
  | .tup xs => cmpOks xs
  | .lst xs => cmpOks xs
  | .dct _ _ => false
  | .obj _ => false
def cmpOks : List D → Bool
  | [] => true
  | x :: xs => cmpOk x && cmpOks xs
end
mutual
def dep : D → Nat
  | .tup xs => deps xs + 1
  | .lst xs => deps xs + 1
  | .non => 0
  | .bl _ => 0
  | .int _ => 0
  | .str _ => 0
  | .dct _ _ => 0
  | .obj _ => 0
def deps : List D → Nat
  | [] => 0
  | x :: xs => max (dep x) (deps xs)
end
mutual
/-- Python's == -/
def eqv : D → D → Bool
  | .non, .non => true
  | .bl a, .bl b => a == b
  | .bl a, .int j => (if a then 1 else 0) == j
  | .int i, .bl b => i == (if b then 1 else 0)
  | .int i, .int j => i == j
  | .str x, .str y => x == y
  | .lst xs, .lst ys => eqvs xs ys
  | .tup xs, .tup ys => eqvs xs ys
  | _, _ => false
def eqvs : List D → List D → Bool
  | [], [] => true
  | x :: xs, y :: ys => eqv x y && eqvs xs ys
  | _, _ => false
end

/-! ### sequences -/
/-- the items of a list or tuple -/
def seqv (S : Sto) : D → Option (List D)
  | .tup xs => some xs
  | .lst xs => some xs
  | .obj n => match S[n]? with
    | some (.lst xs) => some xs
    | some (.frz xs) => some xs
    | none => none
  | _ => none
def ixAt (xs : List D) (i : Int) : Option D :=
  if 0 ≤ i then xs[i.toNat]? else if -(xs.length : Int) ≤ i then xs[(i + xs.length).toNat]? else none
def ixN (n : Nat) (i : Int) : Option Nat := if 0 ≤ i then (if i < n then some i.toNat else none) else if -(n : Int) ≤ i then some (i + n).toNat else none
def sIx (n d : Nat) : Option Int → Nat
  | none => d
  | some v => if v < 0 then (max (v + n) 0).toNat else min v.toNat n
def cut {α : Type} (xs : List α) (lo hi : Option Int) : List α := (xs.drop (sIx xs.length 0 lo)).take (sIx xs.length xs.length hi - sIx xs.length 0 lo)

/-- a ground copy, through lists of the store (not nested) -/
def grnd (S : Sto) (d : D) : Option D := if gnd d then some d else match d with
  | .obj n => match S[n]? with
    | some (.lst xs) => if gnds xs then some (.lst xs) else none
    | some (.frz xs) => if gnds xs then some (.lst xs) else none
    | none => none
  | _ => none

/-! ### expressions -/
def eVar (i : Nat) : DE := fun ρ S => match ρ[i]? with
  | some (some d) => .ok d S
  | _ => .bad
def eC (d : D) : DE := fun _ S => .ok d S
def aNil : DA := fun _ S => .ok [] S
def aCons (a : DE) (as : DA) : DA := fun ρ S => (a ρ S).bind fun x S1 => (as ρ S1).bind fun xs S2 => .ok (x :: xs) S2
/-- an operation by values -/
def eOp (f : Sto → D → D → Option D) (a b : DE) : DE := fun ρ S => (a ρ S).bind fun x S1 => (b ρ S1).bind fun y S2 => RE.of (f S2 x y) S2
def eUn (f : Sto → D → Option D) (a : DE) : DE := fun ρ S => (a ρ S).bind fun x S1 => RE.of (f S1 x) S1
def eTup (as : DA) : DE := fun ρ S => (as ρ S).bind fun xs S1 => .ok (.tup xs) S1
/-- a new list: put into the store (live) or taken as data -/
def mkL (live : Bool) (xs : List D) (S : Sto) : RE D := if live then .ok (.obj S.length) (S ++ [.lst xs]) else .ok (.lst xs) S
def eLst (live : Bool) (as : DA) : DE := fun ρ S => (as ρ S).bind fun xs S1 => mkL live xs S1
def eNew (live : Bool) (f : Sto → D → Option (List D)) (a : DE) : DE := fun ρ S => (a ρ S).bind fun x S1 => (RE.of (f S1 x) S1).bind fun xs S2 => mkL live xs S2
def eIf (t : DT) (a b : DE) : DE := fun ρ S => (t ρ S).bind fun c S1 => if c then a ρ S1 else b ρ S1
def eNot (a : DE) : DE := fun ρ S => (a ρ S).bind fun x S1 => match x with
  | .bl c => .ok (.bl (!c)) S1
  | _ => .bad
def eAnd (a b : DE) : DE := fun ρ S => (a ρ S).bind fun x S1 => match x with
  | .bl c => if c then b ρ S1 else .ok (.bl false) S1
  | _ => .bad
def eOr (a b : DE) : DE := fun ρ S => (a ρ S).bind fun x S1 => match x with
  | .bl c => if c then .ok (.bl true) S1 else b ρ S1
  | _ => .bad
/-! ### tests -/
def tVal (a : DE) : DT := fun ρ S => (a ρ S).bind fun x S1 => match x with
  | .bl c => .ok c S1
  | _ => .bad
/-- truth -/
def tru (S : Sto) : D → Option Bool
  | .non => some false
  | .bl b => some b
  | .int i => some (i != 0)
  | .tup xs => some (!xs.isEmpty)
  | .lst xs => some (!xs.isEmpty)
  | .obj n => (seqv S (.obj n)).map fun xs => !xs.isEmpty
  | _ => none
def tTru (a : DE) : DT := fun ρ S => (a ρ S).bind fun x S1 => RE.of (tru S1 x) S1
def tAnd (a b : DT) : DT := fun ρ S => (a ρ S).bind fun c S1 => if c then b ρ S1 else .ok false S1
def tOr (a b : DT) : DT := fun ρ S => (a ρ S).bind fun c S1 => if c then .ok true S1 else b ρ S1
def tNot (a : DT) : DT := fun ρ S => (a ρ S).bind fun c S1 => .ok (!c) S1

/-! ### operations -/
def oAdd (_ : Sto) : D → D → Option D
  | .int i, .int j => some (.int (i + j))
  | _, _ => none
def oSub (_ : Sto) : D → D → Option D
  | .int i, .int j => some (.int (i - j))
  | _, _ => none
def wMul (i j : Int) : Bool := decide (i.natAbs.log2 + j.natAbs.log2 < 1000000)
def oMul (_ : Sto) : D → D → Option D
  | .int i, .int j => if wMul i j then some (.int (i * j)) else none
  | _, _ => none
def wDiv (j : Int) : Bool := decide (j ≠ 0) && decide (j.natAbs.log2 < 9000)
def oDiv (_ : Sto) : D → D → Option D
  | .int i, .int j => if wDiv j then some (.int (i.fdiv j)) else none
  | _, _ => none
def oMod (_ : Sto) : D → D → Option D
  | .int i, .int j => if j ≠ 0 then some (.int (i.fmod j)) else none
  | _, _ => none
def oPow (_ : Sto) : D → D → Option D
  | .int i, .int j => if 0 ≤ j ∧ j ≤ 1000000 ∧ i.natAbs < 2 ^ 64 then some (.int (i ^ j.toNat)) else none
  | _, _ => none
def oNeg (_ : Sto) : D → Option D
  | .int i => some (.int (-i))
  | _ => none
def oLt (_ : Sto) : D → D → Option D
  | .int i, .int j => some (.bl (decide (i < j)))
  | _, _ => none
def oLe (_ : Sto) : D → D → Option D
  | .int i, .int j => some (.bl (decide (i ≤ j)))
  | _, _ => none
def oGt (_ : Sto) : D → D → Option D
  | .int i, .int j => some (.bl (decide (j < i)))
  | _, _ => none
def oGe (_ : Sto) : D → D → Option D
  | .int i, .int j => some (.bl (decide (j ≤ i)))
  | _, _ => none
def cmpAll (x y : D) : Bool := cmpOk x && cmpOk y && decide (dep x ≤ 64) && decide (dep y ≤ 64)
def oEq (S : Sto) (x y : D) : Option D := match grnd S x, grnd S y with
  | some x, some y => if cmpAll x y then some (.bl (eqv x y)) else none
  | _, _ => none
def oNe (S : Sto) (x y : D) : Option D := match grnd S x, grnd S y with
  | some x, some y => if cmpAll x y then some (.bl (!eqv x y)) else none
  | _, _ => none
def flat : D → Bool
  | .non => true
  | .bl _ => true
  | .int _ => true
  | .str _ => true
  | _ => false
/-- x in a list or tuple of flat things -/
def oIn (S : Sto) (x y : D) : Option D := match seqv S y with
  | some ys => if flat x && ys.all flat then some (.bl (ys.any fun z => eqv z x)) else none
  | none => none
def oNotIn (S : Sto) (x y : D) : Option D := match seqv S y with
  | some ys => if flat x && ys.all flat then some (.bl (!ys.any fun z => eqv z x)) else none
  | none => none
def isN : D → Bool
  | .non => true
  | _ => false
def oIsN (_ : Sto) (x : D) : Option D := some (.bl (isN x))
def oNotN (_ : Sto) (x : D) : Option D := some (.bl (!isN x))
def oIx (S : Sto) (x y : D) : Option D := match seqv S x, y with
  | some xs, .int i => ixAt xs i
  | _, _ => none
def oLen (S : Sto) (x : D) : Option D := match x with
  | .str z => if z.length ≤ 16777216 then some (.int z.length) else none
  | x => (seqv S x).map fun xs => .int xs.length
def oAbs (_ : Sto) : D → Option D
  | .int i => some (.int (if i < 0 then -i else i))
  | _ => none
def oInt (_ : Sto) : D → Option D
  | .int i => some (.int i)
  | .bl b => some (.int (if b then 1 else 0))
  | _ => none
def oMin (_ : Sto) : D → D → Option D
  | .int i, .int j => some (.int (if j < i then j else i))
  | _, _ => none
def oMax (_ : Sto) : D → D → Option D
  | .int i, .int j => some (.int (if j > i then j else i))
  | _, _ => none
inductive Kd where
  | int | bool | str | tuple | list | dict
/-- isinstance of a built-in class -/
def isK : D → Kd → Bool
  | .bl _, .int => true
  | .bl _, .bool => true
  | .int _, .int => true
  | .str _, .str => true
  | .tup _, .tuple => true
  | .lst _, .list => true
  | .obj _, .list => true
  | .dct _ _, .dict => true
  | _, _ => false
def eIsK (ks : List Kd) (a : DE) : DE := eUn (fun _ x => some (.bl (ks.any (isK x)))) a
/-- list(x) -/
def nList (S : Sto) (x : D) : Option (List D) := seqv S x

/-! ### calls -/
abbrev Fn := List D → Sto → RE D
/-- an argument that the callee does not change: data; a list of the store is frozen -/
def fz1 (S : Sto) (d : D) : Option (D × Sto) := if gnd d then some (d, S) else match d with
  | .obj n => match S[n]? with
    | some (.lst xs) => if gnds xs then some (.lst xs, S.set n (.frz xs)) else none
    | some (.frz xs) => if gnds xs then some (.lst xs, S) else none
    | none => none
  | _ => none
def fzs : Sto → List D → Option (List D × Sto)
  | S, [] => some ([], S)
  | S, d :: ds => match fz1 S d with
    | some (d', S1) => match fzs S1 ds with
      | some (ds', S2) => some (d' :: ds', S2)
      | none => none
    | none => none
/-- f(..): nothing that is passed is changed -/
def eCall (F : Fn) (as : DA) : DE := fun ρ S => (as ρ S).bind fun ds S1 => match fzs S1 ds with
  | some (ds', S2) => match F ds' [] with
    | .ok d _ => .ok d S2
    | .exn x _ => .exn x S2
    | .bad => .bad
  | none => .bad
/-- f(l, ..): the first argument, a list of the store, may be changed -/
def eCallM (F : Fn) (as : DA) : DE := fun ρ S => (as ρ S).bind fun ds S1 => match ds with
  | .obj n :: ds => match fzs S1 ds with
    | some (ds', S2) => match S2[n]? with
      | some (.lst xs) => if gnds xs then match F (.obj 0 :: ds') [.lst xs] with
          | .ok d (.lst ys :: _) => if gnds ys then .ok d (S2.set n (.lst ys)) else .bad
          | .exn x (.lst ys :: _) => if gnds ys then .exn x (S2.set n (.lst ys)) else .bad
          | _ => .bad
        else .bad
      | _ => .bad
    | none => .bad
  | _ => .bad

/-! ### statements -/
def sNext : DS := fun ρ S => .nx ρ S
def RS.thn (r : RS) (k : DS) : RS := match r with
  | .nx ρ S => k ρ S
  | r => r
@[simp] theorem RS.thn_nx (ρ : Env) (S : Sto) (k : DS) : (RS.nx ρ S).thn k = k ρ S := rfl
@[simp] theorem RS.thn_rt (d : D) (S : Sto) (k : DS) : (RS.rt d S).thn k = .rt d S := rfl
@[simp] theorem RS.thn_bk (ρ : Env) (S : Sto) (k : DS) : (RS.bk ρ S).thn k = .bk ρ S := rfl
@[simp] theorem RS.thn_ct (ρ : Env) (S : Sto) (k : DS) : (RS.ct ρ S).thn k = .ct ρ S := rfl
@[simp] theorem RS.thn_exn (x : Exn) (ρ : Env) (S : Sto) (k : DS) : (RS.exn x ρ S).thn k = .exn x ρ S := rfl
@[simp] theorem RS.thn_bad (k : DS) : RS.bad.thn k = .bad := rfl
def sSeq (a b : DS) : DS := fun ρ S => (a ρ S).thn b
def sSet (i : Nat) (a : DE) : DS := fun ρ S => (a ρ S).seq ρ fun x S1 => .nx (ρ.set i (some x)) S1
/-- a, b = x, y -/
def sPar (i j : Nat) (as : DA) : DS := fun ρ S => (as ρ S).seq ρ fun vs S1 => match vs with
  | [v, w] => .nx ((ρ.set i (some v)).set j (some w)) S1
  | _ => .bad
def sRet (a : DE) : DS := fun ρ S => (a ρ S).seq ρ fun x S1 => .rt x S1
def sRetN : DS := fun _ S => .rt .non S
def sDrop (a : DE) : DS := fun ρ S => (a ρ S).seq ρ fun _ S1 => .nx ρ S1
def sIf (t : DT) (a b : DS) : DS := fun ρ S => (t ρ S).seq ρ fun c S1 => if c then a ρ S1 else b ρ S1
def sBreak : DS := fun ρ S => .bk ρ S
def sCont : DS := fun ρ S => .ct ρ S
def setIx (xs : List D) (i : Int) (v : D) : Option (List D) := (ixN xs.length i).map fun k => xs.set k v
/-- l[i] = v, l in the store -/
def sSetIx (l i v : DE) : DS := fun ρ S => (v ρ S).seq ρ fun v S1 => (l ρ S1).seq ρ fun l S2 => (i ρ S2).seq ρ fun i S3 => match l, i with
  | .obj n, .int k => match S3[n]? with
    | some (.lst xs) => match setIx xs k v with
      | some ys => .nx ρ (S3.set n (.lst ys))
      | none => .bad
    | _ => .bad
  | _, _ => .bad
/-- l.append(v), l in the store; xs: a bound of its length -/
def eAppend (l v : DE) : DE := fun ρ S => (l ρ S).bind fun l S1 => match l with
  | .obj n => (v ρ S1).bind fun v S2 => match S2[n]? with
    | some (.lst xs) => if xs.length < 16777216 then .ok .non (S2.set n (.lst (xs ++ [v]))) else .bad
    | _ => .bad
  | _ => .bad
/-- raise C(..) -/
def sRaise (c : String) (ns : List String) (as : DA) : DS := fun ρ S => (as ρ S).seq ρ fun ds S1 => match fzs S1 ds with
  | some (ds', S2) => .exn ⟨c, ns.zip ds'⟩ ρ S2
  | none => .bad
/-- try: body except C: suite -/
def RS.calm (r : RS) : RS := match r with
  | .exn _ _ _ => .bad
  | r => r
def sTry (c : String) (a b : DS) : DS := fun ρ S => match a ρ S with
  | .exn x ρ1 S1 => if x.cls = c then (b ρ1 S1).calm else .bad
  | r => r

/-! ### loops -/
abbrev DI := Env → Sto → RE (List D)
/-- for x in a list or tuple (a list of the store is frozen) -/
def iSeq (a : DE) : DI := fun ρ S => (a ρ S).bind fun x S1 => match fz1 S1 x with
  | some (.tup xs, S2) => .ok xs S2
  | some (.lst xs, S2) => .ok xs S2
  | _ => .bad
def rangeD (lo hi : Int) : List D := (List.range (hi - lo).toNat).map fun (k : Nat) => D.int (lo + (k : Int))
def small62 (i : Int) : Bool := decide (-(2 ^ 62) ≤ i) && decide (i < 2 ^ 62)
def iRng1 (a : DE) : DI := fun ρ S => (a ρ S).bind fun x S1 => match x with
  | .int j => if small62 j then .ok (rangeD 0 j) S1 else .bad
  | _ => .bad
def iRng2 (a b : DE) : DI := fun ρ S => (a ρ S).bind fun x S1 => (b ρ S1).bind fun y S2 => match x, y with
  | .int i, .int j => if small62 i && small62 j then .ok (rangeD i j) S2 else .bad
  | _, _ => .bad
abbrev DG := D → Env → Option Env
def gName (i : Nat) : DG := fun x ρ => some (ρ.set i (some x))
def gNames : List Nat → List D → Env → Option Env
  | [], [], ρ => some ρ
  | i :: is, x :: xs, ρ => gNames is xs (ρ.set i (some x))
  | _, _, _ => none
def gTup (is : List Nat) : DG := fun x ρ => match x with
  | .tup xs => gNames is xs ρ
  | _ => none
/-- a, b = a tuple -/
def sUnp (g : DG) (a : DE) : DS := fun ρ S => (a ρ S).seq ρ fun x S1 => match g x ρ with
  | some ρ1 => .nx ρ1 S1
  | none => .bad
def forL (g : DG) (body : DS) : List D → DS
  | [], ρ, S => .nx ρ S
  | x :: xs, ρ, S => match g x ρ with
    | none => .bad
    | some ρ1 => match body ρ1 S with
      | .nx ρ2 S2 => forL g body xs ρ2 S2
      | .ct ρ2 S2 => forL g body xs ρ2 S2
      | .bk ρ2 S2 => .nx ρ2 S2
      | .rt d S2 => .rt d S2
      | .exn x ρ2 S2 => .exn x ρ2 S2
      | .bad => .bad
def sFor (it : DI) (g : DG) (body : DS) : DS := fun ρ S => (it ρ S).seq ρ fun xs S1 => forL g body xs ρ S1
def whileN (t : DT) (body : DS) : Nat → DS
  | 0, _, _ => .bad
  | k + 1, ρ, S => (t ρ S).seq ρ fun c S1 => if c then match body ρ S1 with
      | .nx ρ2 S2 => whileN t body k ρ2 S2
      | .ct ρ2 S2 => whileN t body k ρ2 S2
      | .bk ρ2 S2 => .nx ρ2 S2
      | .rt d S2 => .rt d S2
      | .exn x ρ2 S2 => .exn x ρ2 S2
      | .bad => .bad
    else .nx ρ S1
set_option exponentiation.threshold 2000 in
@[irreducible] def fuel : Nat := 10 ^ 1000
set_option exponentiation.threshold 2000 in
theorem fuel_eq : fuel = 10 ^ 1000 := by unfold fuel; rfl
def sWhile (t : DT) (body : DS) : DS := whileN t body fuel
/-- the slots of a comprehension's own names are emptied behind it -/
def wipe (ρ : Env) : List Nat → Env
  | [] => ρ
  | i :: is => (wipe ρ is).set i none
def compL (g : DG) (c : DT) (e : DE) : List D → Env → Sto → RE (List D)
  | [], _, S => .ok [] S
  | x :: xs, ρ, S => match g x ρ with
    | none => .bad
    | some ρ1 => match c ρ1 S with
      | .ok true S1 => match e ρ1 S1 with
        | .ok y S2 => (compL g c e xs ρ S2).bind fun ys S3 => .ok (y :: ys) S3
        | _ => .bad
      | .ok false S1 => compL g c e xs ρ S1
      | _ => .bad
def tYes : DT := fun _ S => .ok true S
/-- [e for g in it if c] -/
def eComp (live : Bool) (own : List Nat) (it : DI) (g : DG) (c : DT) (e : DE) : DE := fun ρ S =>
  (it ρ S).bind fun xs S1 => if xs.length < 16777216 then (compL g c e xs (wipe ρ own) S1).bind fun ys S2 => mkL live ys S2 else .bad

/-! ### a def -/
def start (n : Nat) (ds : List D) : Env := ds.map some ++ List.replicate (n - ds.length) none
def grndX (S : Sto) : List (String × D) → Option (List (String × D))
  | [] => some []
  | (f, d) :: r => match grnd S d, grndX S r with
    | some d', some r' => some ((f, d') :: r')
    | _, _ => none
/-- a ground copy of an answer: the def's own lists (from place m on) are handed over -/
def grndF (m : Nat) (S : Sto) (d : D) : Option D := if gnd d then some d else match d with
  | .obj n => if m ≤ n then match S[n]? with
    | some (.lst xs) => if gnds xs then some (.lst xs) else none
    | some (.frz xs) => if gnds xs then some (.lst xs) else none
    | none => none
    else none
  | _ => none
/-- what the caller gets: the answer as data, and the lists that were passed (m of them) -/
def fin (m : Nat) (d : D) (S : Sto) : RE D := match grndF m S d with
  | some d' => .ok d' (S.take m)
  | none => .bad
def mGnd : MO → Bool
  | .lst xs => gnds xs
  | .frz _ => false
/-- a def of n names, m lists of whose callers it may change -/
def run (n m : Nat) (body : DS) : Fn := fun ds S => if S.length = m then match body (start n ds) S with
  | .rt d S' => if (S'.take m).all mGnd then fin m d S' else .bad
  | .nx _ S' => if (S'.take m).all mGnd then .ok .non (S'.take m) else .bad
  | .exn x _ S' => if (S'.take m).all mGnd then .exn x (S'.take m) else .bad
  | _ => .bad
  else .bad
/-- .. that hands over a new list, which nothing else holds -/
def runL (n m : Nat) (body : DS) : Fn := fun ds S => if S.length = m then match body (start n ds) S with
  | .rt (.obj k) S' => if m ≤ k ∧ (S'.take m).all mGnd then match S'[k]? with
    | some (.lst xs) => if gnds xs then .ok (.lst xs) (S'.take m) else .bad
    | _ => .bad
    else .bad
  | .exn x _ S' => if (S'.take m).all mGnd then .exn x (S'.take m) else .bad
  | _ => .bad
  else .bad
/-- f(..), f hands over a new list, which is put into the store -/
def eCallL (F : Fn) (as : DA) : DE := fun ρ S => (as ρ S).bind fun ds S1 => match fzs S1 ds with
  | some (ds', S2) => match F ds' [] with
    | .ok (.lst xs) _ => .ok (.obj S2.length) (S2 ++ [.lst xs])
    | .exn x _ => .exn x S2
    | _ => .bad
  | none => .bad
/-- the positional ones, then the keywords' values at their places -/
def permG {α : Type} (np : Nat) (perm : List Nat) (us ws : List α) : List α := if us.length = np then us ++ perm.filterMap fun i => ws[i]? else []
/-- the values in the parameters' order -/
def aKw (np : Nat) (perm : List Nat) (as ks : DA) : DA := fun ρ S => (as ρ S).bind fun ds S1 => (ks ρ S1).bind fun es S2 => .ok (permG np perm ds es) S2
/-- a chain of two comparisons -/
def eChain (f g : Sto → D → D → Option D) (a b c : DE) : DE := fun ρ S => (a ρ S).bind fun x S1 => (b ρ S1).bind fun y S2 => (RE.of (f S2 x y) S2).bind fun z S3 => match z with
  | .bl true => (c ρ S3).bind fun w S4 => RE.of (g S4 y w) S4
  | .bl false => .ok (.bl false) S3
  | _ => .bad
end Den
end

section
set_option maxRecDepth 100000
namespace Den
open PySem
/-- list + list: a new list -/
def oCat (_ : Sto) : D → D → Option D
  | .lst xs, .lst ys => if xs.length + ys.length ≤ 10000 then some (.lst (xs ++ ys)) else none
  | _, _ => none
/-- n.bit_length() -/
def oBits (_ : Sto) : D → Option D
  | .int i => some (.int ((if i == 0 then 0 else i.natAbs.log2 + 1 : Nat) : Int))
  | _ => none
/-- i << j, up to 9000 bits -/
def wShl (i j : Int) : Bool := decide (0 ≤ j) && decide (j ≤ 9000) && decide (i.natAbs.log2 ≤ 9000)
def oShl (_ : Sto) : D → D → Option D
  | .int i, .int j => if wShl i j then some (.int (i * 2 ^ j.toNat)) else none
  | _, _ => none
end Den
end

section
set_option Elab.async false
set_option linter.all false
set_option maxRecDepth 100000
namespace Den
open PySem PySem.Spec PyProof.Rows L2
abbrev ASet := Addr → Prop
abbrev noA : ASet := fun _ => False

/-! ### data in the heap -/
def LstAt (K : PySem.W.Frag) (H : Hp) (φ L : ASet) (a : Addr) (vs : List V) : Prop := (Rd H a (.lst vs) ∧ ¬ φ a ∧ ¬ L a) ∨ SqL K (fun _ => none) a vs
def TupAt (K : PySem.W.Frag) (H : Hp) (L : ASet) (a : Addr) (vs : List V) : Prop := (H a = some (.tup vs) ∧ ¬ L a) ∨ SqT K (fun _ => none) a vs
mutual
def Rep (K : PySem.W.Frag) (φ : ASet) (H : Hp) (L : ASet) (μ : List Addr) : D → V → Prop
  | .non, v => v = .non
  | .bl b, v => v = .bl b
  | .int i, v => v = .int i
  | .str x, v => v = .str x
  | .tup ds, v => ∃ a vs, v = .ref a ∧ TupAt K H L a vs ∧ Reps K φ H L μ ds vs
  | .lst ds, v => ∃ a vs, v = .ref a ∧ LstAt K H φ L a vs ∧ Reps K φ H L μ ds vs
  | .dct ks ws, v => ks = [] ∧ ws = [] ∧ ∃ a, v = .ref a ∧ H a = some (.dK []) ∧ ¬ φ a ∧ ¬ L a
  | .obj n, v => ∃ a, v = .ref a ∧ μ[n]? = some a
def Reps (K : PySem.W.Frag) (φ : ASet) (H : Hp) (L : ASet) (μ : List Addr) : List D → List V → Prop
  | [], vs => vs = []
  | d :: ds, vs => ∃ v r, vs = v :: r ∧ Rep K φ H L μ d v ∧ Reps K φ H L μ ds r
end
/-- what a change of the heap must leave to data -/
structure Keep (φ : ASet) (H : Hp) (L : ASet) (H' : Hp) (L' : ASet) : Prop where
  keep : ∀ a o, H a = some o → ¬ L a → H' a = some o
  out : ∀ a o, H a = some o → ¬ L a → ¬ L' a
section
variable {K : PySem.W.Frag} {φ φ' : ASet} {H H' : Hp} {L L' : ASet} {μ μ' : List Addr}
theorem LstAt.keep {a : Addr} {vs : List V} (k : Keep φ H L H' L') (h : LstAt K H φ L a vs) : LstAt K H' φ L' a vs := by
  rcases h with ⟨r, h1, h2⟩ | h
  · rcases r with r | ⟨o, r⟩
    · exact .inl ⟨.inl (k.keep a _ r h2), h1, k.out a _ r h2⟩
    · exact .inl ⟨.inr ⟨o, k.keep a _ r h2⟩, h1, k.out a _ r h2⟩
  · exact .inr h
theorem LstAt.sq {a : Addr} {vs : List V} (h : LstAt K H φ L a vs) : SqL K H a vs := by
  rcases h with h | h
  · exact .inl h.1
  · rcases h with h | h
    · rcases h with h | ⟨_, h⟩ <;> cases h
    · exact .inr h
theorem TupAt.keep {a : Addr} {vs : List V} (k : Keep φ H L H' L') (h : TupAt K H L a vs) : TupAt K H' L' a vs := by
  rcases h with ⟨r, h2⟩ | r
  · exact .inl ⟨k.keep a _ r h2, k.out a _ r h2⟩
  · exact .inr r
mutual
theorem Rep.keep (k : Keep φ H L H' L') (hμ : ∃ ν, μ' = μ ++ ν) : ∀ (d : D) {v : V}, Rep K φ H L μ d v → Rep K φ H' L' μ' d v
  | .non, _, h => h
  | .bl _, _, h => h
  | .int _, _, h => h
  | .str _, _, h => h
  | .tup ds, _, h => by
    obtain ⟨a, vs, e, t, r⟩ := h
    exact ⟨a, vs, e, t.keep k, Reps.keep k hμ ds r⟩
  | .lst ds, _, h => by
    obtain ⟨a, vs, e, t, r⟩ := h
    exact ⟨a, vs, e, t.keep k, Reps.keep k hμ ds r⟩
  | .dct ks ws, _, h => by
    obtain ⟨e1, e2, a, e, t, h1, h2⟩ := h
    exact ⟨e1, e2, a, e, k.keep a _ t h2, h1, k.out a _ t h2⟩
  | .obj n, _, h => by
    obtain ⟨a, e, h⟩ := h
    obtain ⟨ν, rfl⟩ := hμ
    refine ⟨a, e, ?_⟩
    rw [List.getElem?_append_left (List.getElem?_eq_some_iff.mp h).1]
    exact h
theorem Reps.keep (k : Keep φ H L H' L') (hμ : ∃ ν, μ' = μ ++ ν) : ∀ (ds : List D) {vs : List V}, Reps K φ H L μ ds vs → Reps K φ H' L' μ' ds vs
  | [], _, h => h
  | d :: ds, _, h => by
    obtain ⟨v, r, e, h1, h2⟩ := h
    exact ⟨v, r, e, Rep.keep k hμ d h1, Reps.keep k hμ ds h2⟩
end
/-- ground data lean on no store -/
structure Move (φ : ASet) (H : Hp) (L : ASet) (φ' : ASet) (H' : Hp) (L' : ASet) : Prop where
  keep : ∀ a o, H a = some o → ¬ L a → (¬ φ a ∨ ∃ xs, o = .tup xs) → H' a = some o
  out : ∀ a o, H a = some o → ¬ L a → (¬ φ a ∨ ∃ xs, o = .tup xs) → ¬ L' a
  outl : ∀ a o, H a = some o → ¬ φ a → ¬ L a → ¬ φ' a
mutual
theorem Rep.move (k : Move φ H L φ' H' L') : ∀ (d : D) {v : V}, gnd d = true → Rep K φ H L μ d v → Rep K φ' H' L' μ' d v
  | .non, _, _, h => h
  | .bl _, _, _, h => h
  | .int _, _, _, h => h
  | .str _, _, _, h => h
  | .tup ds, _, g, h => by
    obtain ⟨a, vs, e, t, r⟩ := h
    refine ⟨a, vs, e, ?_, Reps.move k ds (by simpa only [gnd] using g) r⟩
    rcases t with ⟨r, h2⟩ | r
    · exact .inl ⟨k.keep a _ r h2 (.inr ⟨_, rfl⟩), k.out a _ r h2 (.inr ⟨_, rfl⟩)⟩
    · exact .inr r
  | .lst ds, _, g, h => by
    obtain ⟨a, vs, e, t, r⟩ := h
    refine ⟨a, vs, e, ?_, Reps.move k ds (by simpa only [gnd] using g) r⟩
    rcases t with ⟨t, h1, h2⟩ | t
    · rcases t with t | ⟨o, t⟩
      · exact .inl ⟨.inl (k.keep a _ t h2 (.inl h1)), k.outl a _ t h1 h2, k.out a _ t h2 (.inl h1)⟩
      · exact .inl ⟨.inr ⟨o, k.keep a _ t h2 (.inl h1)⟩, k.outl a _ t h1 h2, k.out a _ t h2 (.inl h1)⟩
    · exact .inr t
  | .dct ks ws, _, _, h => by
    obtain ⟨e1, e2, a, e, t, h1, h2⟩ := h
    exact ⟨e1, e2, a, e, k.keep a _ t h2 (.inl h1), k.outl a _ t h1 h2, k.out a _ t h2 (.inl h1)⟩
  | .obj n, _, g, _ => by simp [gnd] at g
theorem Reps.move (k : Move φ H L φ' H' L') : ∀ (ds : List D) {vs : List V}, gnds ds = true → Reps K φ H L μ ds vs → Reps K φ' H' L' μ' ds vs
  | [], _, _, h => h
  | d :: ds, _, g, h => by
    obtain ⟨v, r, e, h1, h2⟩ := h
    have g' : gnd d = true ∧ gnds ds = true := by simpa only [gnds, Bool.and_eq_true] using g
    exact ⟨v, r, e, Rep.move k d g'.1 h1, Reps.move k ds g'.2 h2⟩
end
mutual
theorem Rep.shift (k : Move φ H L φ' H' L') (hμ : ∃ ν, μ' = μ ++ ν) : ∀ (d : D) {v : V}, Rep K φ H L μ d v → Rep K φ' H' L' μ' d v
  | .non, _, h => h
  | .bl _, _, h => h
  | .int _, _, h => h
  | .str _, _, h => h
  | .tup ds, _, h => by
    obtain ⟨a, vs, e, t, r⟩ := h
    refine ⟨a, vs, e, ?_, Reps.shift k hμ ds r⟩
    rcases t with ⟨r, h2⟩ | r
    · exact .inl ⟨k.keep a _ r h2 (.inr ⟨_, rfl⟩), k.out a _ r h2 (.inr ⟨_, rfl⟩)⟩
    · exact .inr r
  | .lst ds, _, h => by
    obtain ⟨a, vs, e, t, r⟩ := h
    refine ⟨a, vs, e, ?_, Reps.shift k hμ ds r⟩
    rcases t with ⟨t, h1, h2⟩ | t
    · rcases t with t | ⟨o, t⟩
      · exact .inl ⟨.inl (k.keep a _ t h2 (.inl h1)), k.outl a _ t h1 h2, k.out a _ t h2 (.inl h1)⟩
      · exact .inl ⟨.inr ⟨o, k.keep a _ t h2 (.inl h1)⟩, k.outl a _ t h1 h2, k.out a _ t h2 (.inl h1)⟩
    · exact .inr t
  | .dct ks ws, _, h => by
    obtain ⟨e1, e2, a, e, t, h1, h2⟩ := h
    exact ⟨e1, e2, a, e, k.keep a _ t h2 (.inl h1), k.outl a _ t h1 h2, k.out a _ t h2 (.inl h1)⟩
  | .obj n, _, h => by
    obtain ⟨a, e, h⟩ := h
    obtain ⟨ν, rfl⟩ := hμ
    refine ⟨a, e, ?_⟩
    rw [List.getElem?_append_left (List.getElem?_eq_some_iff.mp h).1]
    exact h
theorem Reps.shift (k : Move φ H L φ' H' L') (hμ : ∃ ν, μ' = μ ++ ν) : ∀ (ds : List D) {vs : List V}, Reps K φ H L μ ds vs → Reps K φ' H' L' μ' ds vs
  | [], _, h => h
  | d :: ds, _, h => by
    obtain ⟨v, r, e, h1, h2⟩ := h
    exact ⟨v, r, e, Rep.shift k hμ d h1, Reps.shift k hμ ds h2⟩
end
theorem Reps.length : ∀ {ds : List D} {vs : List V}, Reps K φ H L μ ds vs → vs.length = ds.length
  | [], _, h => by
    have e : _ = ([] : List V) := h
    rw [e]
    rfl
  | d :: ds, _, h => by
    obtain ⟨v, r, e, h1, h2⟩ := h
    rw [e]
    simp [Reps.length h2]
theorem Reps.get : ∀ {ds : List D} {vs : List V} {i : Nat} {d : D}, Reps K φ H L μ ds vs → ds[i]? = some d → ∃ v, vs[i]? = some v ∧ Rep K φ H L μ d v
  | [], _, i, d, _, e => by simp at e
  | d' :: ds, _, 0, d, h, e => by
    obtain ⟨v, r, e', h1, h2⟩ := h
    have q : d' = d := by simpa using e
    subst q e'
    exact ⟨v, rfl, h1⟩
  | d' :: ds, _, i + 1, d, h, e => by
    obtain ⟨v, r, e', h1, h2⟩ := h
    obtain ⟨u, q1, q2⟩ := Reps.get (i := i) (d := d) h2 (by simpa using e)
    subst e'
    exact ⟨u, by simpa using q1, q2⟩
theorem Reps.append : ∀ {ds es : List D} {vs ws : List V}, Reps K φ H L μ ds vs → Reps K φ H L μ es ws → Reps K φ H L μ (ds ++ es) (vs ++ ws)
  | [], _, vs, _, h, h' => by
    have e : vs = [] := h
    subst e
    exact h'
  | d :: ds, _, _, _, h, h' => by
    obtain ⟨v, r, e, h1, h2⟩ := h
    subst e
    exact ⟨v, r ++ _, rfl, h1, Reps.append h2 h'⟩
theorem Reps.set {x : D} {u : V} (hx : Rep K φ H L μ x u) : ∀ {ds : List D} {vs : List V} (i : Nat), Reps K φ H L μ ds vs → Reps K φ H L μ (ds.set i x) (vs.set i u)
  | [], vs, i, h => by
    have e : vs = [] := h
    subst e
    exact rfl
  | d :: ds, _, 0, h => by
    obtain ⟨v, r, e, h1, h2⟩ := h
    subst e
    exact ⟨u, r, rfl, hx, h2⟩
  | d :: ds, _, i + 1, h => by
    obtain ⟨v, r, e, h1, h2⟩ := h
    subst e
    exact ⟨v, r.set i u, rfl, h1, Reps.set hx i h2⟩
end

/-! ### the store in the heap -/
def live (S : Sto) (μ : List Addr) : ASet := fun a => ∃ (n : Nat) (xs : List D), S[n]? = some (MO.lst xs) ∧ μ[n]? = some a
/-- a state: the store's addresses, the store, the heap -/
structure Sn where
  μ : List Addr
  S : Sto
  H : Hp
abbrev Sn.L (s : Sn) : ASet := live s.S s.μ
abbrev Sn.Rep (K : PySem.W.Frag) (φ : ASet) (s : Sn) : D → V → Prop := Den.Rep K φ s.H s.L s.μ
abbrev Sn.Reps (K : PySem.W.Frag) (φ : ASet) (s : Sn) : List D → List V → Prop := Den.Reps K φ s.H s.L s.μ
structure StoR (K : PySem.W.Frag) (φ : ASet) (s : Sn) : Prop where
  len : s.S.length = s.μ.length
  nd : s.μ.Nodup
  dis : ∀ a ∈ s.μ, ¬ φ a
  lst : ∀ (n : Nat) (a : Addr) (xs : List D), s.μ[n]? = some a → s.S[n]? = some (MO.lst xs) → ∃ vs, s.H a = some (.lst vs) ∧ s.Reps K φ xs vs
  frz : ∀ (n : Nat) (a : Addr) (xs : List D), s.μ[n]? = some a → s.S[n]? = some (MO.frz xs) → ∃ vs, Rd s.H a (.lst vs) ∧ s.Reps K φ xs vs
  thr : ∀ a, φ a → ∃ o, s.H a = some o
structure Ext (s s' : Sn) : Prop where
  pre : ∃ ν, s'.μ = s.μ ++ ν
  keep : ∀ a o, s.H a = some o → ¬ s.L a → s'.H a = some o
  out : ∀ a o, s.H a = some o → ¬ s.L a → ¬ s'.L a
  fresh : ∀ a, a ∈ s'.μ → a ∉ s.μ → s.H a = none
  grow : ∀ a, s'.H a = none → s.H a = none
theorem Ext.refl (s : Sn) : Ext s s := ⟨⟨[], by simp⟩, fun _ _ h _ => h, fun _ _ _ h => h, fun _ h n => absurd h n, fun _ h => h⟩
theorem Ext.trans {a b c : Sn} (x : Ext a b) (y : Ext b c) : Ext a c := by
  obtain ⟨ν, e⟩ := x.pre
  obtain ⟨ν', e'⟩ := y.pre
  exact ⟨⟨ν ++ ν', by rw [e', e, List.append_assoc]⟩, fun p o h l => y.keep p o (x.keep p o h l) (x.out p o h l), fun p o h l => y.out p o (x.keep p o h l) (x.out p o h l), fun p h n => by
    by_cases hb : p ∈ b.μ
    · exact x.fresh p hb n
    · exact x.grow p (y.fresh p h hb), fun p h => x.grow p (y.grow p h)⟩
section
variable {K : PySem.W.Frag} {φ : ASet} {s s' : Sn}
theorem Ext.kp (x : Ext s s') : Keep φ s.H s.L s'.H s'.L := ⟨x.keep, x.out⟩
theorem Ext.rep (x : Ext s s') {d : D} {v : V} (h : s.Rep K φ d v) : s'.Rep K φ d v := Rep.keep x.kp x.pre d h
theorem Ext.reps (x : Ext s s') {d : List D} {v : List V} (h : s.Reps K φ d v) : s'.Reps K φ d v := Reps.keep x.kp x.pre d h
theorem Ext.move (x : Ext s s') : Move φ s.H s.L φ s'.H s'.L := ⟨fun a o h l _ => x.keep a o h l, fun a o h l _ => x.out a o h l, fun _ _ _ p _ => p⟩
theorem StoR.inj (h : StoR K φ s) {n m : Nat} {a : Addr} (h1 : s.μ[n]? = some a) (h2 : s.μ[m]? = some a) : n = m := by
  obtain ⟨l1, e1⟩ := List.getElem?_eq_some_iff.mp h1
  obtain ⟨l2, e2⟩ := List.getElem?_eq_some_iff.mp h2
  exact (List.getElem_inj h.nd).mp (e1.trans e2.symm)
theorem StoR.notLive (h : StoR K φ s) {n : Nat} {a : Addr} {xs : List D} (h1 : s.μ[n]? = some a) (h2 : s.S[n]? = some (MO.frz xs)) : ¬ s.L a := by
  rintro ⟨m, ys, h3, h4⟩
  have e := h.inj h1 h4
  subst e
  rw [h2] at h3
  cases h3
theorem StoR.liveTracked (h : StoR K φ s) {a : Addr} (l : s.L a) : ∃ vs, s.H a = some (.lst vs) := by
  obtain ⟨n, xs, h1, h2⟩ := l
  obtain ⟨vs, e, _⟩ := h.lst n a xs h2 h1
  exact ⟨vs, e⟩
/-- the heap grows, all that is tracked stays -/
theorem ext_same {μ : List Addr} {S : Sto} {H H' : Hp} (e : Same H H') : Ext ⟨μ, S, H⟩ ⟨μ, S, H'⟩ := ⟨⟨[], by simp⟩, fun a o h _ => e a o h, fun _ _ _ l => l, fun _ h n => absurd h n, fun a h => e.free h⟩
theorem StoR.same {μ : List Addr} {S : Sto} {H H' : Hp} (h : StoR K φ ⟨μ, S, H⟩) (e : Same H H') : StoR K φ ⟨μ, S, H'⟩ where
  len := h.len
  nd := h.nd
  dis := h.dis
  lst := fun n a xs h1 h2 => by
    obtain ⟨vs, q1, q2⟩ := h.lst n a xs h1 h2
    exact ⟨vs, e _ _ q1, (ext_same (μ := μ) (S := S) e).reps q2⟩
  frz := fun n a xs h1 h2 => by
    obtain ⟨vs, q1, q2⟩ := h.frz n a xs h1 h2
    refine ⟨vs, ?_, (ext_same (μ := μ) (S := S) e).reps q2⟩
    rcases q1 with q1 | ⟨o, q1⟩
    · exact .inl (e _ _ q1)
    · exact .inr ⟨o, e _ _ q1⟩
  thr := fun a p => by
    obtain ⟨o, q⟩ := h.thr a p
    exact ⟨o, e _ _ q⟩
theorem same_new {H : Hp} {a : Addr} {o : HO} (h : H a = none) : Same H (upd H a o) := fun b u q => by rw [upd_ne (ne_of_none q h)]; exact q
end
end Den
end

section
set_option Elab.async false
set_option linter.all false
set_option maxRecDepth 100000
namespace Den
open PySem PySem.Spec PyProof.Rows L2

structure EnvR (K : PySem.W.Frag) (φ : ASet) (s : Sn) (ρ : Env) (σ : L2.St) : Prop where
  len : σ.length = ρ.length
  at_ : ∀ (i : Nat) (d : D), ρ[i]? = some (some d) → ∃ v, σ[i]? = some (some v) ∧ s.Rep K φ d v
theorem EnvR.ext {K : PySem.W.Frag} {φ : ASet} {s s' : Sn} {ρ : Env} {σ : L2.St} (h : EnvR K φ s ρ σ) (x : Ext s s') : EnvR K φ s' ρ σ :=
  ⟨h.len, fun i d e => by
    obtain ⟨v, e1, r⟩ := h.at_ i d e
    exact ⟨v, e1, x.rep r⟩⟩
theorem EnvR.set {K : PySem.W.Frag} {φ : ASet} {s : Sn} {ρ : Env} {σ : L2.St} (h : EnvR K φ s ρ σ) {i : Nat} {d : D} {v : V} (r : s.Rep K φ d v) : EnvR K φ s (ρ.set i (some d)) (σ.set i (some v)) := by
  refine ⟨by simp [h.len], fun j e q => ?_⟩
  by_cases hj : j = i
  · subst hj
    by_cases hl : j < ρ.length
    · rw [List.getElem?_set_self hl] at q
      have q' : d = e := by simpa using q
      subst q'
      exact ⟨v, by rw [List.getElem?_set_self (by rw [h.len]; exact hl)], r⟩
    · rw [List.getElem?_eq_none (by simpa using hl)] at q
      cases q
  · rw [List.getElem?_set_ne (Ne.symm hj)] at q
    obtain ⟨u, e1, r1⟩ := h.at_ j e q
    exact ⟨u, by rw [List.getElem?_set_ne (Ne.symm hj)]; exact e1, r1⟩
theorem EnvR.unset {K : PySem.W.Frag} {φ : ASet} {s : Sn} {ρ : Env} {σ : L2.St} (h : EnvR K φ s ρ σ) {i : Nat} {o : Option V} : EnvR K φ s (ρ.set i none) (σ.set i o) := by
  refine ⟨by simp [h.len], fun j e q => ?_⟩
  by_cases hj : j = i
  · subst hj
    by_cases hl : j < ρ.length
    · rw [List.getElem?_set_self hl] at q
      cases q
    · rw [List.getElem?_eq_none (by simpa using hl)] at q
      cases q
  · rw [List.getElem?_set_ne (Ne.symm hj)] at q
    obtain ⟨u, e1, r1⟩ := h.at_ j e q
    exact ⟨u, by rw [List.getElem?_set_ne (Ne.symm hj)]; exact e1, r1⟩
theorem EnvR.wipe {K : PySem.W.Frag} {φ : ASet} {s : Sn} : ∀ (is : List Nat) {ρ : Env} {σ : L2.St}, EnvR K φ s ρ σ → EnvR K φ s (Den.wipe ρ is) (L2.wipe σ is)
  | [], _, _, h => h
  | i :: is, _, _, h => EnvR.unset (EnvR.wipe is h)

/-- an exception, as it lies -/
def ExnAt (mg : Str → Option Value) (x : Exn) (c : Value) (dd : Option Addr) : Prop := ∃ C, mg (Str.ofString x.cls) = some (.ref C) ∧ c = .ref C ∧ x.fs = [] ∧ dd = none

section
variable {α β γ δ : Type} {K : PySem.W.Frag} {mg : Str → Option Value} {φ : ASet}
def Sat (K : PySem.W.Frag) (mg : Str → Option Value) (φ : ASet) (Rl : Sn → α → β → Prop) (W : WX) (σ : L2.St) (s : Sn) (r : RE α) (Q : β → Hp → Prop) : Prop := match r with
  | .ok a S' => ∀ b μ' H', Ext s ⟨μ', S', H'⟩ → StoR K φ ⟨μ', S', H'⟩ → Rl ⟨μ', S', H'⟩ a b → Q b H'
  | .exn x S' => ∀ c dd μ' H', Ext s ⟨μ', S', H'⟩ → StoR K φ ⟨μ', S', H'⟩ → ExnAt mg x c dd → W c dd σ H'
  | .bad => False
theorem Sat.bind {Rl : Sn → α → β → Prop} {Rm : Sn → γ → δ → Prop} {W : WX} {σ : L2.St} {s : Sn} {r : RE α} {k : α → Sto → RE γ} {Q : δ → Hp → Prop} (h : Sat K mg φ Rm W σ s (r.bind k) Q) :
    Sat K mg φ Rl W σ s r (fun b H1 => ∃ μ1 S1 a, Ext s ⟨μ1, S1, H1⟩ ∧ StoR K φ ⟨μ1, S1, H1⟩ ∧ Rl ⟨μ1, S1, H1⟩ a b ∧ Sat K mg φ Rm W σ ⟨μ1, S1, H1⟩ (k a S1) Q) := by
  cases r with
  | bad => exact h
  | exn x S => exact h
  | ok a S =>
    intro b μ1 H1 x1 st rl
    refine ⟨μ1, S, a, x1, st, rl, ?_⟩
    have h' : Sat K mg φ Rm W σ s (k a S) Q := h
    cases e : k a S with
    | bad => rw [e] at h'; exact h'
    | exn x S2 =>
      rw [e] at h'
      intro c dd μ2 H2 x2
      exact h' c dd μ2 H2 (x1.trans x2)
    | ok a2 S2 =>
      rw [e] at h'
      intro c μ2 H2 x2
      exact h' c μ2 H2 (x1.trans x2)
theorem Sat.later {Rl : Sn → α → β → Prop} {W : WX} {σ : L2.St} {s s1 : Sn} {r : RE α} {Q : β → Hp → Prop} (h : Sat K mg φ Rl W σ s r Q) (x : Ext s s1) : Sat K mg φ Rl W σ s1 r Q := by
  cases r with
  | bad => exact h
  | exn z S => exact fun c dd μ' H' y => h c dd μ' H' (x.trans y)
  | ok a S => exact fun b μ' H' y => h b μ' H' (x.trans y)
theorem Sat.imp {Rl : Sn → α → β → Prop} {W : WX} {σ : L2.St} {s : Sn} {r : RE α} {Q Q' : β → Hp → Prop} (h : Sat K mg φ Rl W σ s r Q) (i : ∀ b H, Q b H → Q' b H) : Sat K mg φ Rl W σ s r Q' := by
  cases r with
  | bad => exact h
  | exn x S => exact h
  | ok a S =>
    intro b μ1 H1 x1 st rl
    exact i _ _ (h b μ1 H1 x1 st rl)
end
def tG {α β : Type} (K : PySem.W.Frag) (mg : Str → Option Value) (Rl : ASet → Sn → α → β → Prop) (W : WX) (f : Env → Sto → RE α) : L2.St → Hp → (β → Hp → Prop) → Prop := fun σ H Q =>
  ∃ φ μ ρ S, StoR K φ ⟨μ, S, H⟩ ∧ EnvR K φ ⟨μ, S, H⟩ ρ σ ∧ Sat K mg φ (Rl φ) W σ ⟨μ, S, H⟩ (f ρ S) Q
abbrev tD (K : PySem.W.Frag) (mg : Str → Option Value) (W : WX) (f : DE) : TE := tG K mg (fun φ s => s.Rep K φ) W f
abbrev tT (K : PySem.W.Frag) (mg : Str → Option Value) (W : WX) (f : DT) : TT := tG K mg (fun _ _ a b => b = a) W f
abbrev tA (K : PySem.W.Frag) (mg : Str → Option Value) (W : WX) (f : DA) : TA := tG K mg (fun φ s => s.Reps K φ) W f
abbrev PD (X : Cx) (W : WX) (e : Expr) (f : DE) : Prop := PE X e (tD X.K X.mg W f)
abbrev PDT (X : Cx) (W : WX) (e : Expr) (f : DT) : Prop := PT X e (tT X.K X.mg W f)
abbrev PDA (X : Cx) (W : WX) (es : List Expr) (f : DA) : Prop := PA X es (tA X.K X.mg W f)
theorem pe_imp {X : Cx} {e : Expr} {t t' : TE} (h : PE X e t) (i : ∀ σ H Q, t' σ H Q → t σ H Q) : PE X e t' := ⟨fun pins s σ H Q I q => h.run pins s σ H Q I (i σ H Q q)⟩
theorem pt_imp {X : Cx} {e : Expr} {t t' : TT} (h : PT X e t) (i : ∀ σ H Q, t' σ H Q → t σ H Q) : PT X e t' := ⟨fun pins s σ H Q I q => h.run pins s σ H Q I (i σ H Q q)⟩
theorem pw_imp {X : Cx} {e : Expr} {t t' : TT} (h : PW X e t) (i : ∀ σ H Q, t' σ H Q → t σ H Q) : PW X e t' := ⟨fun wh pins s σ H Q I q => h.run wh pins s σ H Q I (i σ H Q q)⟩
theorem pa_imp {X : Cx} {e : List Expr} {t t' : TA} (h : PA X e t) (i : ∀ σ H Q, t' σ H Q → t σ H Q) : PA X e t' := ⟨fun pos pins s σ H Q I q => h.run pos pins s σ H Q I (i σ H Q q)⟩

section
variable {K : PySem.W.Frag} {mg : Str → Option Value} {W : WX} {α β : Type}
/-- one part first, then the rest from where it left -/
theorem tG.first {γ δ : Type} {Rl : ASet → Sn → α → β → Prop} {Rm : ASet → Sn → γ → δ → Prop} {f : Env → Sto → RE α} {k : Env → α → Sto → RE γ} {σ : L2.St} {H : Hp} {Q : δ → Hp → Prop} {Q1 : β → Hp → Prop}
    (h : tG K mg Rm W (fun ρ S => (f ρ S).bind (k ρ)) σ H Q)
    (hk : ∀ φ μ ρ S a b H1, StoR K φ ⟨μ, S, H1⟩ → EnvR K φ ⟨μ, S, H1⟩ ρ σ → Rl φ ⟨μ, S, H1⟩ a b → Sat K mg φ (Rm φ) W σ ⟨μ, S, H1⟩ (k ρ a S) Q → Q1 b H1) : tG K mg Rl W f σ H Q1 := by
  obtain ⟨φ, μ, ρ, S, st, en, h⟩ := h
  refine ⟨φ, μ, ρ, S, st, en, (Sat.bind h).imp ?_⟩
  rintro b H1 ⟨μ1, S1, a, x, st1, rl, h1⟩
  exact hk φ μ1 ρ S1 a b H1 st1 (en.ext x) rl h1
theorem tG.mk {Rl : ASet → Sn → α → β → Prop} {f : Env → Sto → RE α} {σ : L2.St} {φ : ASet} {μ : List Addr} {ρ : Env} {S : Sto} {H : Hp} {Q : β → Hp → Prop} (st : StoR K φ ⟨μ, S, H⟩) (en : EnvR K φ ⟨μ, S, H⟩ ρ σ)
    (h : Sat K mg φ (Rl φ) W σ ⟨μ, S, H⟩ (f ρ S) Q) : tG K mg Rl W f σ H Q := ⟨φ, μ, ρ, S, st, en, h⟩
/-- an answer at once -/
theorem Sat.here {Rl : Sn → α → β → Prop} {φ : ASet} {σ : L2.St} {μ : List Addr} {S : Sto} {H : Hp} {a : α} {b : β} {Q : β → Hp → Prop} (h : Sat K mg φ Rl W σ ⟨μ, S, H⟩ (.ok a S) Q) (st : StoR K φ ⟨μ, S, H⟩) (r : Rl ⟨μ, S, H⟩ a b) : Q b H :=
  h b μ H (Ext.refl _) st r
/-- .. with a new object of the heap -/
theorem Sat.grown {Rl : Sn → α → β → Prop} {φ : ASet} {σ : L2.St} {μ : List Addr} {S : Sto} {H H' : Hp} {a : α} {b : β} {Q : β → Hp → Prop} (h : Sat K mg φ Rl W σ ⟨μ, S, H⟩ (.ok a S) Q) (st : StoR K φ ⟨μ, S, H⟩) (e : Same H H') (r : Rl ⟨μ, S, H'⟩ a b) : Q b H' :=
  h b μ H' (ext_same e) (st.same e) r
end

/-! ### operations by values -/
/-- f tells what the rule r does, and makes at most new objects -/
def OpD (K : PySem.W.Frag) (f : Sto → D → D → Option D) (r : R2) : Prop :=
  ∀ (φ : ASet) (μ : List Addr) (S : Sto) (H : Hp) (d e z : D) (v w : V) (Q : VK), StoR K φ ⟨μ, S, H⟩ → (Sn.mk μ S H).Rep K φ d v → (Sn.mk μ S H).Rep K φ e w → f S d e = some z →
    (∀ u H', Same H H' → (Sn.mk μ S H').Rep K φ z u → Q u H') → r v w H Q
def UnD (K : PySem.W.Frag) (f : Sto → D → Option D) (r : V → Hp → VK → Prop) : Prop :=
  ∀ (φ : ASet) (μ : List Addr) (S : Sto) (H : Hp) (d z : D) (v : V) (Q : VK), StoR K φ ⟨μ, S, H⟩ → (Sn.mk μ S H).Rep K φ d v → f S d = some z →
    (∀ u H', Same H H' → (Sn.mk μ S H').Rep K φ z u → Q u H') → r v H Q
section
variable {X : Cx} {W : WX} {a b : Expr} {fa fb : DE} {pos : Pos}
theorem of_op {f : Sto → D → D → Option D} {r : R2} (hf : OpD X.K f r) (σ : L2.St) (H : Hp) (Q : VK) (h : tD X.K X.mg W (eOp f fa fb) σ H Q) : tOp r (tD X.K X.mg W fa) (tD X.K X.mg W fb) σ H Q := by
  refine tG.first (f := fa) (k := fun ρ x S1 => (fb ρ S1).bind fun y S2 => RE.of (f S2 x y) S2) h fun φ μ ρ S d v H1 st en rv h1 => ?_
  refine ⟨φ, μ, ρ, S, st, en, (Sat.bind (Rl := (fun s => s.Rep X.K φ)) h1).imp ?_⟩
  rintro w H2 ⟨μ2, S2, e, x2, st2, rw_, h2⟩
  cases q : f S2 d e with
  | none => rw [q] at h2; exact h2.elim
  | some z =>
    rw [q] at h2
    exact hf φ μ2 S2 H2 d e z v w Q st2 (x2.rep rv) rw_ q fun u H' sm ru => Sat.grown h2 st2 sm ru
theorem of_un {f : Sto → D → Option D} {r : V → Hp → VK → Prop} (hf : UnD X.K f r) (σ : L2.St) (H : Hp) (Q : VK) (h : tD X.K X.mg W (eUn f fa) σ H Q) : tD X.K X.mg W fa σ H fun v H1 => r v H1 Q := by
  refine tG.first (f := fa) (k := fun ρ x S1 => RE.of (f S1 x) S1) h fun φ μ ρ S d v H1 st en rv h1 => ?_
  cases q : f S d with
  | none => rw [q] at h1; exact h1.elim
  | some z =>
    rw [q] at h1
    exact hf φ μ S H1 d z v Q st rv q fun u H' sm ru => Sat.grown h1 st sm ru
theorem pd_op {f : Sto → D → D → Option D} {op : Operator} {r : R2} (hf : OpD X.K f r) (ho : OpR X (binaryOp op) r) (ha : PD X W a fa) (hb : PD X W b fb) : PD X W (.BinOp a op b pos) (eOp f fa fb) := pe_imp (pe_op ho ha hb) (of_op hf)
theorem pd_un {f : Sto → D → Option D} {op : UnaryOp} {r : V → Hp → VK → Prop} (hf : UnD X.K f r) (ho : UnR X (unaryOp op) r) (ha : PD X W a fa) : PD X W (.UnaryOp op a pos) (eUn f fa) := pe_imp (pe_un ho ha) (of_un hf)
theorem pd_cmp {f : Sto → D → D → Option D} {op : CmpOp} {r : R2} (hf : OpD X.K f r) (ho : OpR X (compareOp op) r) (ha : PD X W a fa) (hb : PD X W b fb) (hm : behindInMarks op b = false) : PD X W (.Compare a [op] [b] pos) (eOp f fa fb) := pe_imp (pe_cmpR ho ha hb hm) (of_op hf)
theorem of_tval {t : TE} {f : DE} (i : ∀ σ H Q, tD X.K X.mg W f σ H Q → t σ H Q) (σ : L2.St) (H : Hp) (Q : Bool → Hp → Prop) (h : tT X.K X.mg W (tVal f) σ H Q) : tTest t σ H Q := by
  refine i σ H _ ?_
  refine tG.first (f := f) (k := fun _ (x : D) S1 => match x with | .bl c => RE.ok c S1 | _ => .bad) h fun φ μ ρ S d v H1 st en rv h1 => ?_
  cases d with
  | bl c => exact ⟨c, rv, Sat.here h1 st rfl⟩
  | _ => exact h1.elim
theorem pdt_cmp {f : Sto → D → D → Option D} {op : CmpOp} {r : R2} (hf : OpD X.K f r) (ho : OpR X (compareOp op) r) (ha : PD X W a fa) (hb : PD X W b fb) (hm : behindInMarks op b = false) : PDT X W (.Compare a [op] [b] pos) (tVal (eOp f fa fb)) :=
  pt_imp (pt_cmpR ho ha hb hm) (of_tval (of_op hf))
/-- an expression whose value is a flag -/
theorem pdt_val (ha : PD X W a fa) (he : ∀ whole, isTrue a X.env whole = (do let v ← whole; standAt a.pos; holding [v] (truthy v)) := by intro _; rfl) : PDT X W a (tVal fa) := pt_imp (pt_val ha he) (of_tval fun _ _ _ h => h)
/-! ### names, constants -/
theorem pd_var {i : Nat} (h : PE X a (tVar i)) : PD X W a (eVar i) := pe_imp h fun σ H Q q => by
  obtain ⟨φ, μ, ρ, S, st, en, q⟩ := q
  cases e : ρ[i]? with
  | none => rw [show eVar i ρ S = .bad by unfold eVar; rw [e]] at q; exact q.elim
  | some o =>
    cases o with
    | none => rw [show eVar i ρ S = .bad by unfold eVar; rw [e]] at q; exact q.elim
    | some d =>
      rw [show eVar i ρ S = .ok d S by unfold eVar; rw [e]] at q
      obtain ⟨v, e1, r⟩ := en.at_ i d e
      exact ⟨v, e1, Sat.here q st r⟩
theorem pd_c {d : D} {v : V} (h : PE X a (tC v)) (r : ∀ φ s, Sn.Rep X.K φ s d v) : PD X W a (eC d) := pe_imp h fun σ H Q q => by
  obtain ⟨φ, μ, ρ, S, st, en, q⟩ := q
  exact Sat.here q st (r φ _)
theorem pd_int {i : Int} {j pos} : PD X W (.Constant (.int i) j pos) (eC (.int i)) := pd_c pe_int fun _ _ => rfl
theorem pd_bl {i : Bool} {j pos} : PD X W (.Constant (.bool i) j pos) (eC (.bl i)) := pd_c pe_bl fun _ _ => rfl
theorem pd_non {j pos} : PD X W (.Constant .none j pos) (eC .non) := pd_c pe_non fun _ _ => rfl
theorem pd_str {x : Str} {j pos} : PD X W (.Constant (.str x) j pos) (eC (.str x)) := pd_c pe_str fun _ _ => rfl
/-! ### arguments, displays -/
theorem pda_nil : PDA X W [] aNil := pa_imp pa_nil fun σ H Q q => by
  obtain ⟨φ, μ, ρ, S, st, en, q⟩ := q
  exact Sat.here q st rfl
theorem pda_cons {e : Expr} {es : List Expr} {f : DE} {g : DA} (ha : PD X W e f) (hr : PDA X W es g) (hs : starEach (e :: es) X.env = (false, eval e X.env) :: starEach es X.env := by rfl) : PDA X W (e :: es) (aCons f g) := pa_imp (pa_cons ha hr hs) fun σ H Q h => by
  refine tG.first (f := f) (k := fun ρ x S1 => (g ρ S1).bind fun xs S2 => .ok (x :: xs) S2) h fun φ μ ρ S d v H1 st en rv h1 => ?_
  refine ⟨φ, μ, ρ, S, st, en, (Sat.bind (Rl := (fun s => s.Reps X.K φ)) h1).imp ?_⟩
  rintro vs H2 ⟨μ2, S2, ds, x2, st2, rs, h2⟩
  exact Sat.here h2 st2 ⟨v, vs, rfl, x2.rep rv, rs⟩
theorem pd_tup {es : List Expr} {g : DA} {x1} (h : PDA X W es g) (hn : es.length ≤ 1000 := by decide) (hg : ∀ ρ S ds S', g ρ S = .ok ds S' → ds.length = es.length) : PD X W (.Tuple es x1 pos) (eTup g) := pe_imp (pe_tup h) fun σ H Q h => by
  obtain ⟨φ, μ, ρ, S, st, en, h⟩ := h
  refine ⟨φ, μ, ρ, S, st, en, ?_⟩
  have h' : Sat X.K X.mg φ (fun s => s.Rep X.K φ) W σ ⟨μ, S, H⟩ ((g ρ S).bind fun xs S1 => .ok (.tup xs) S1) Q := h
  cases e : g ρ S with
  | bad => rw [e] at h'; exact h'.elim
  | exn x S1 => rw [e] at h'; exact h'
  | ok ds S1 =>
    rw [e] at h'
    intro vs μ1 H1 x1 st1 rs
    refine ⟨?_, fun p hp => ?_⟩
    · rw [rs.length, hg ρ S ds S1 e]
      exact Nat.le_trans hn (by rw [sizeLine_eq]; decide)
    · have sm := same_new (o := .tup vs) hp
      refine h' _ μ1 _ (x1.trans (ext_same sm)) (st1.same sm) ⟨p, vs, rfl, .inl ⟨upd_same, fun l => ?_⟩, (ext_same sm).reps rs⟩
      obtain ⟨ws, e⟩ := st1.liveTracked l
      cases hp.symm.trans e
theorem aNil_len : ∀ ρ S ds S', aNil ρ S = .ok ds S' → ds.length = ([] : List Expr).length := fun _ _ _ _ h => by
  cases h
  rfl
theorem aCons_len {e : Expr} {es : List Expr} {f : DE} {g : DA} (h : ∀ ρ S ds S', g ρ S = .ok ds S' → ds.length = es.length) : ∀ ρ S ds S', aCons f g ρ S = .ok ds S' → ds.length = (e :: es).length := fun ρ S ds S' q => by
  unfold aCons at q
  cases e1 : f ρ S with
  | bad => rw [e1] at q; cases q
  | exn x S1 => rw [e1] at q; cases q
  | ok x S1 =>
    rw [e1] at q
    cases e2 : g ρ S1 with
    | bad => rw [RE.bind_ok, e2] at q; cases q
    | exn x S1 => rw [RE.bind_ok, e2] at q; cases q
    | ok xs S2 =>
      rw [RE.bind_ok, e2] at q
      cases q
      rw [List.length_cons, List.length_cons, h _ _ _ _ e2]
end
end Den
end

section
set_option Elab.async false
set_option linter.all false
set_option maxRecDepth 100000
namespace Den
open PySem PySem.Spec PyProof.Rows L2

def SatS (K : PySem.W.Frag) (mg : Str → Option Value) (φ : ASet) (W : WX) (s : Sn) (r : RS) (D : Ends) : Prop := match r with
  | .nx ρ S' => ∀ σ' μ' H', Ext s ⟨μ', S', H'⟩ → StoR K φ ⟨μ', S', H'⟩ → EnvR K φ ⟨μ', S', H'⟩ ρ σ' → D.nx σ' H'
  | .bk ρ S' => ∀ σ' μ' H', Ext s ⟨μ', S', H'⟩ → StoR K φ ⟨μ', S', H'⟩ → EnvR K φ ⟨μ', S', H'⟩ ρ σ' → D.bk σ' H'
  | .ct ρ S' => ∀ σ' μ' H', Ext s ⟨μ', S', H'⟩ → StoR K φ ⟨μ', S', H'⟩ → EnvR K φ ⟨μ', S', H'⟩ ρ σ' → D.ct σ' H'
  | .rt d S' => ∀ v μ' H', Ext s ⟨μ', S', H'⟩ → StoR K φ ⟨μ', S', H'⟩ → (Sn.mk μ' S' H').Rep K φ d v → D.rt v H'
  | .exn x ρ S' => ∀ c dd σ' μ' H', Ext s ⟨μ', S', H'⟩ → StoR K φ ⟨μ', S', H'⟩ → EnvR K φ ⟨μ', S', H'⟩ ρ σ' → ExnAt mg x c dd → W c dd σ' H'
  | .bad => False
section
variable {K : PySem.W.Frag} {mg : Str → Option Value} {φ : ASet} {W : WX}
theorem SatS.later {s s1 : Sn} {r : RS} {D : Ends} (h : SatS K mg φ W s r D) (x : Ext s s1) : SatS K mg φ W s1 r D := by
  cases r with
  | bad => exact h
  | nx ρ S' => exact fun σ' μ' H' y => h σ' μ' H' (x.trans y)
  | bk ρ S' => exact fun σ' μ' H' y => h σ' μ' H' (x.trans y)
  | ct ρ S' => exact fun σ' μ' H' y => h σ' μ' H' (x.trans y)
  | rt ρ S' => exact fun σ' μ' H' y => h σ' μ' H' (x.trans y)
  | exn z ρ S' => exact fun c dd σ' μ' H' y => h c dd σ' μ' H' (x.trans y)
theorem SatS.seq {α β : Type} {Rl : Sn → α → β → Prop} {σ : L2.St} {ρ : Env} {s : Sn} {r : RE α} {k : α → Sto → RS} {D : Ends} (h : SatS K mg φ W s (r.seq ρ k) D) (en : EnvR K φ s ρ σ) :
    Sat K mg φ Rl W σ s r (fun b H1 => ∃ μ1 S1 a, Ext s ⟨μ1, S1, H1⟩ ∧ StoR K φ ⟨μ1, S1, H1⟩ ∧ Rl ⟨μ1, S1, H1⟩ a b ∧ SatS K mg φ W ⟨μ1, S1, H1⟩ (k a S1) D) := by
  cases r with
  | bad => exact h
  | exn x S => exact fun c dd μ' H' y st ex => h c dd σ μ' H' y st (en.ext y) ex
  | ok a S =>
    intro b μ1 H1 x1 st rl
    exact ⟨μ1, S, a, x1, st, rl, SatS.later (show SatS K mg φ W s (k a S) D from h) x1⟩
end
def tS (K : PySem.W.Frag) (mg : Str → Option Value) (W : WX) (f : DS) : TS := fun D σ H =>
  ∃ φ μ ρ S, StoR K φ ⟨μ, S, H⟩ ∧ EnvR K φ ⟨μ, S, H⟩ ρ σ ∧ SatS K mg φ W ⟨μ, S, H⟩ (f ρ S) D
abbrev PDS (X : Cx) (W : WX) (st : Stmt) (f : DS) : Prop := PS X st (tS X.K X.mg W f)
abbrev PDB (X : Cx) (W : WX) (st : List Stmt) (f : DS) : Prop := PSs X st (tS X.K X.mg W f)
theorem ps_imp {X : Cx} {e : Stmt} {t t' : TS} (h : PS X e t) (i : ∀ D σ H, t' D σ H → t D σ H) : PS X e t' := ⟨fun pins s σ H D I q => h.run pins s σ H D I (i D σ H q)⟩
theorem pss_imp {X : Cx} {e : List Stmt} {t t' : TS} (h : PSs X e t) (i : ∀ D σ H, t' D σ H → t D σ H) : PSs X e t' := ⟨fun pins s σ H D I q => h.run pins s σ H D I (i D σ H q)⟩
section
variable {K : PySem.W.Frag} {mg : Str → Option Value} {W : WX} {α β : Type}
theorem tS.first {Rl : ASet → Sn → α → β → Prop} {f : Env → Sto → RE α} {k : Env → α → Sto → RS} {σ : L2.St} {H : Hp} {D : Ends} {Q1 : β → Hp → Prop} (h : tS K mg W (fun ρ S => (f ρ S).seq ρ (k ρ)) D σ H)
    (hk : ∀ φ μ ρ S a b H1, StoR K φ ⟨μ, S, H1⟩ → EnvR K φ ⟨μ, S, H1⟩ ρ σ → Rl φ ⟨μ, S, H1⟩ a b → SatS K mg φ W ⟨μ, S, H1⟩ (k ρ a S) D → Q1 b H1) : tG K mg Rl W f σ H Q1 := by
  obtain ⟨φ, μ, ρ, S, st, en, h⟩ := h
  refine ⟨φ, μ, ρ, S, st, en, (SatS.seq h en).imp ?_⟩
  rintro b H1 ⟨μ1, S1, a, x, st1, rl, h1⟩
  exact hk φ μ1 ρ S1 a b H1 st1 (en.ext x) rl h1
theorem SatS.nxt {φ : ASet} {μ : List Addr} {ρ : Env} {S : Sto} {H : Hp} {σ : L2.St} {D : Ends} (h : SatS K mg φ W ⟨μ, S, H⟩ (.nx ρ S) D) (st : StoR K φ ⟨μ, S, H⟩) (en : EnvR K φ ⟨μ, S, H⟩ ρ σ) : D.nx σ H := h σ μ H (Ext.refl _) st en
theorem SatS.ret {φ : ASet} {μ : List Addr} {S : Sto} {H : Hp} {v : V} {d : D} {D : Ends} (h : SatS K mg φ W ⟨μ, S, H⟩ (.rt d S) D) (st : StoR K φ ⟨μ, S, H⟩) (r : (Sn.mk μ S H).Rep K φ d v) : D.rt v H := h v μ H (Ext.refl _) st r
end

/-! ### statements -/
section
variable {X : Cx} {W : WX} {st : Stmt} {rest : List Stmt} {f g : DS} {e : Expr} {fe : DE} {pos : Pos}
theorem pdb_nil : PDB X W [] sNext := pss_imp pss_nil fun D σ H h => by
  obtain ⟨φ, μ, ρ, S, st, en, h⟩ := h
  exact SatS.nxt h st en
theorem pdb_one (h : PDS X W st f) : PDB X W [st] f := pss_one h
theorem pdb_cons (h1 : PDS X W st f) (h2 : PDB X W rest g) : PDB X W (st :: rest) (sSeq f g) := pss_imp (pss_cons h1 h2) fun D σ H h => by
  obtain ⟨φ, μ, ρ, S, st, en, h⟩ := h
  refine ⟨φ, μ, ρ, S, st, en, ?_⟩
  have h' : SatS X.K X.mg φ W ⟨μ, S, H⟩ ((f ρ S).thn g) D := h
  cases q : f ρ S with
  | bad => rw [q] at h'; exact h'
  | nx ρ1 S1 =>
    rw [q] at h'
    intro σ' μ' H' x st' en'
    exact ⟨φ, μ', ρ1, S1, st', en', SatS.later (show SatS X.K X.mg φ W ⟨μ, S, H⟩ (g ρ1 S1) D from h') x⟩
  | bk ρ1 S1 => rw [q] at h'; exact h'
  | ct ρ1 S1 => rw [q] at h'; exact h'
  | rt d S1 => rw [q] at h'; exact h'
  | exn x ρ1 S1 => rw [q] at h'; exact h'
theorem pds_pass : PDS X W (.Pass pos) sNext := ps_imp ps_pass fun D σ H h => by
  obtain ⟨φ, μ, ρ, S, st, en, h⟩ := h
  exact SatS.nxt h st en
theorem pds_break : PDS X W (.Break pos) sBreak := ps_imp ps_break fun D σ H h => by
  obtain ⟨φ, μ, ρ, S, st, en, h⟩ := h
  exact h σ μ H (Ext.refl _) st en
theorem pds_continue : PDS X W (.Continue pos) sCont := ps_imp ps_continue fun D σ H h => by
  obtain ⟨φ, μ, ρ, S, st, en, h⟩ := h
  exact h σ μ H (Ext.refl _) st en
theorem pds_set {i : Nat} {x : Str} {pos' : Pos} (hN : X.N.Nodup) (hi : X.N[i]? = some x) (hx : Loc X.env.scope x) (he : PD X W e fe) (hs : swapsWith e (some (.Name x pos')) pos.line X.env = pure false := by rfl) (hf : X.fn x = true ∨ X.env.scope.names.lookup x = some .local := by first | exact .inl rfl | exact .inr rfl | assumption) :
    PDS X W (.Assign [.Name x pos'] e pos) (sSet i fe) := ps_imp (ps_set hN hi hx he hs hf) fun D σ H h => by
  refine tS.first (f := fe) (k := fun ρ x S1 => .nx (ρ.set i (some x)) S1) h fun φ μ ρ S d v H1 st en r h1 => ?_
  exact SatS.nxt h1 st (en.set r)
theorem pds_ret (he : PD X W e fe) : PDS X W (.Return (some e) pos) (sRet fe) := ps_imp (ps_ret he) fun D σ H h => by
  refine tS.first (f := fe) (k := fun ρ x S1 => .rt x S1) h fun φ μ ρ S d v H1 st en r h1 => ?_
  exact SatS.ret h1 st r
theorem pds_retN : PDS X W (.Return none pos) sRetN := ps_imp ps_retN fun D σ H h => by
  obtain ⟨φ, μ, ρ, S, st, en, h⟩ := h
  exact SatS.ret (v := V.non) h st rfl
theorem pds_expr (he : PD X W e fe) (hs : swapsWith e none pos.line X.env = pure false := by rfl) : PDS X W (.Expr e pos) (sDrop fe) := ps_imp (ps_expr he hs) fun D σ H h => by
  refine tS.first (f := fe) (k := fun ρ x S1 => .nx ρ S1) h fun φ μ ρ S d v H1 st en r h1 => ?_
  exact SatS.nxt h1 st en
theorem pds_doc {x j pos pos'} : PDS X W (.Expr (.Constant (.str x) j pos) pos') sNext := ps_imp ps_doc fun D σ H h => by
  obtain ⟨φ, μ, ρ, S, st, en, h⟩ := h
  exact SatS.nxt h st en
theorem pds_if {c : Expr} {a b : List Stmt} {t : DT} (hc : PDT X W c t) (ha : PDB X W a f) (hb : PDB X W b g) : PDS X W (.If c a b pos) (sIf t f g) := ps_imp (ps_if hc ha hb) fun D σ H h => by
  refine tS.first (f := t) (k := fun ρ c S1 => if c then f ρ S1 else g ρ S1) h fun φ μ ρ S c c' H1 st en r h1 => ?_
  have r' : c' = c := r
  subst r'
  cases c' with
  | true => exact ⟨φ, μ, ρ, S, st, en, h1⟩
  | false => exact ⟨φ, μ, ρ, S, st, en, h1⟩
theorem pds_never : PDS X W st (fun _ _ => .bad) := ps_imp ps_never fun D σ H h => by
  obtain ⟨φ, μ, ρ, S, st, en, h⟩ := h
  exact h
/-- a, b = x, y -/
theorem pds_par {i j : Nat} {x y : Str} {a b : Expr} {fa : DA} {px py pt : Pos} {kt k2 pt2} (hP : PS X (.Assign [.Tuple [.Name x px, .Name y py] kt pt] (.Tuple [a, b] k2 pt2) pos) (tPar i j (tA X.K X.mg W fa))) :
    PDS X W (.Assign [.Tuple [.Name x px, .Name y py] kt pt] (.Tuple [a, b] k2 pt2) pos) (sPar i j fa) := ps_imp hP fun D σ H h => by
  refine tS.first (f := fa) (k := fun ρ vs S1 => match vs with | [v, w] => .nx ((ρ.set i (some v)).set j (some w)) S1 | _ => .bad) h fun φ μ ρ S ds vs H1 st en r h1 => ?_
  match ds, r, h1 with
  | [], _, h1 => exact h1.elim
  | [_], _, h1 => exact h1.elim
  | [d1, d2], r, h1 =>
    obtain ⟨v1, r1, e1, q1, v2, r2, e2, q2, e3⟩ := r
    have e3' : r2 = [] := e3
    subst e3' e2 e1
    exact ⟨v1, v2, rfl, SatS.nxt h1 st ((en.set q1).set q2)⟩
  | _ :: _ :: _ :: _, _, h1 => exact h1.elim
end

/-! ### tests -/
section
variable {X : Cx} {W : WX} {a b : Expr} {rest : List Expr} {ta tb : DT} {fa fb : DE} {pos : Pos}
theorem pdt_not (ha : PDT X W a ta) : PDT X W (.UnaryOp .Not a pos) (Den.tNot ta) := pt_imp (L2.pt_not ha) fun σ H Q h => by
  refine tG.first (f := ta) (k := fun ρ c S1 => .ok (!c) S1) h fun φ μ ρ S c c' H1 st en r h1 => ?_
  have r' : c' = c := r
  subst r'
  exact Sat.here h1 st rfl
abbrev PDW (X : Cx) (W : WX) (e : Expr) (f : DT) : Prop := PW X e (tT X.K X.mg W f)
theorem pdw_and1 (ha : PDT X W a ta) : PDW X W (.BoolOp .And [a] pos) ta := pw_and1 ha
theorem pdw_or1 (ha : PDT X W a ta) : PDW X W (.BoolOp .Or [a] pos) ta := pw_or1 ha
theorem pdw_and (ha : PDT X W a ta) (hb : PDW X W (.BoolOp .And (b :: rest) pos) tb) : PDW X W (.BoolOp .And (a :: b :: rest) pos) (Den.tAnd ta tb) := pw_imp (pw_and ha hb) fun σ H Q h => by
  refine tG.first (f := ta) (k := fun ρ c S1 => if c then tb ρ S1 else .ok false S1) h fun φ μ ρ S c c' H1 st en r h1 => ?_
  have r' : c' = c := r
  subst r'
  cases c' with
  | true => exact ⟨φ, μ, ρ, S, st, en, h1⟩
  | false => exact Sat.here h1 st rfl
theorem pdw_or (ha : PDT X W a ta) (hb : PDW X W (.BoolOp .Or (b :: rest) pos) tb) : PDW X W (.BoolOp .Or (a :: b :: rest) pos) (Den.tOr ta tb) := pw_imp (pw_or ha hb) fun σ H Q h => by
  refine tG.first (f := ta) (k := fun ρ c S1 => if c then .ok true S1 else tb ρ S1) h fun φ μ ρ S c c' H1 st en r h1 => ?_
  have r' : c' = c := r
  subst r'
  cases c' with
  | false => exact ⟨φ, μ, ρ, S, st, en, h1⟩
  | true => exact Sat.here h1 st rfl
theorem pd_if {c : Expr} (hc : PDT X W c ta) (ha : PD X W a fa) (hb : PD X W b fb) : PD X W (.IfExp c a b pos) (eIf ta fa fb) := pe_imp (pe_ifExp hc ha hb) fun σ H Q h => by
  refine tG.first (f := ta) (k := fun ρ c S1 => if c then fa ρ S1 else fb ρ S1) h fun φ μ ρ S c c' H1 st en r h1 => ?_
  have r' : c' = c := r
  subst r'
  cases c' with
  | true => exact ⟨φ, μ, ρ, S, st, en, h1⟩
  | false => exact ⟨φ, μ, ρ, S, st, en, h1⟩
theorem pd_not (ha : PD X W a fa) : PD X W (.UnaryOp .Not a pos) (eNot fa) := pe_imp (pe_not ha) fun σ H Q h => by
  refine tG.first (f := fa) (k := fun ρ (x : D) S1 => match x with | .bl c => .ok (D.bl (!c)) S1 | _ => .bad) h fun φ μ ρ S d v H1 st en r h1 => ?_
  cases d with
  | bl c => exact ⟨c, r, Sat.here h1 st rfl⟩
  | _ => exact h1.elim
theorem pd_one {op} (ha : PD X W a fa) : PD X W (.BoolOp op [a] pos) fa := pe_one ha
theorem pd_and (ha : PD X W a fa) (hb : PD X W (.BoolOp .And (b :: rest) pos) fb) : PD X W (.BoolOp .And (a :: b :: rest) pos) (eAnd fa fb) := pe_imp (pe_and ha hb) fun σ H Q h => by
  refine tG.first (f := fa) (k := fun ρ (x : D) S1 => match x with | .bl c => if c then fb ρ S1 else .ok (D.bl false) S1 | _ => .bad) h fun φ μ ρ S d v H1 st en r h1 => ?_
  cases d with
  | bl c =>
    cases c with
    | true => exact ⟨true, r, φ, μ, ρ, S, st, en, h1⟩
    | false => exact ⟨false, r, Sat.here h1 st rfl⟩
  | _ => exact h1.elim
theorem pd_or (ha : PD X W a fa) (hb : PD X W (.BoolOp .Or (b :: rest) pos) fb) : PD X W (.BoolOp .Or (a :: b :: rest) pos) (eOr fa fb) := pe_imp (pe_or ha hb) fun σ H Q h => by
  refine tG.first (f := fa) (k := fun ρ (x : D) S1 => match x with | .bl c => if c then .ok (D.bl true) S1 else fb ρ S1 | _ => .bad) h fun φ μ ρ S d v H1 st en r h1 => ?_
  cases d with
  | bl c =>
    cases c with
    | true => exact ⟨true, r, Sat.here h1 st rfl⟩
    | false => exact ⟨false, r, φ, μ, ρ, S, st, en, h1⟩
  | _ => exact h1.elim
end

/-! ### loops -/
section
variable {X : Cx} {W : WX} {f : DS} {pos : Pos}
theorem pds_while {c : Expr} {body : List Stmt} {t : DT} (hp : PassesOwn (model X.prog X.w) X.A X.env X.xe) (hc : PDT X W c t) (hb : PDB X W body f) : PDS X W (.While c body [] pos) (sWhile t f) := ps_imp (ps_while hp hc hb) fun D σ H h => by
  obtain ⟨φ, μ, ρ, S, st, en, h⟩ := h
  refine ⟨fun m σ H => ∃ μ ρ S, StoR X.K φ ⟨μ, S, H⟩ ∧ EnvR X.K φ ⟨μ, S, H⟩ ρ σ ∧ SatS X.K X.mg φ W ⟨μ, S, H⟩ (whileN t f m ρ S) D, ⟨fuel, μ, ρ, S, st, en, h⟩, ?_⟩
  rintro m σ H ⟨μ, ρ, S, st, en, h⟩
  cases m with
  | zero => exact h.elim
  | succ m =>
    refine ⟨φ, μ, ρ, S, st, en, (SatS.seq (Rl := fun _ a b => b = a) (σ := σ) (show SatS X.K X.mg φ W ⟨μ, S, H⟩ ((t ρ S).seq ρ fun c S1 => if c then match f ρ S1 with
      | .nx ρ2 S2 => whileN t f m ρ2 S2
      | .ct ρ2 S2 => whileN t f m ρ2 S2
      | .bk ρ2 S2 => .nx ρ2 S2
      | .rt d S2 => .rt d S2
      | .exn x ρ2 S2 => .exn x ρ2 S2
      | .bad => .bad
    else .nx ρ S1) D from h) en).imp ?_⟩
    rintro c' H1 ⟨μ1, S1, c, x1, st1, r, h1⟩
    have r' : c' = c := r
    subst r'
    have en1 := en.ext x1
    cases c' with
    | false => exact SatS.nxt h1 st1 en1
    | true =>
      refine ⟨fun σ H => ∃ μ ρ S, StoR X.K φ ⟨μ, S, H⟩ ∧ EnvR X.K φ ⟨μ, S, H⟩ ρ σ ∧ SatS X.K X.mg φ W ⟨μ, S, H⟩ (whileN t f m ρ S) D, fun σ' H' q => ⟨m, Nat.lt_succ_self m, q⟩, φ, μ1, ρ, S1, st1, en1, ?_⟩
      rw [if_pos rfl] at h1
      cases q : f ρ S1 with
      | bad => rw [q] at h1; exact h1
      | nx ρ2 S2 =>
        rw [q] at h1
        exact fun σ' μ' H' y st' en' => ⟨μ', ρ2, S2, st', en', SatS.later h1 y⟩
      | ct ρ2 S2 =>
        rw [q] at h1
        exact fun σ' μ' H' y st' en' => ⟨μ', ρ2, S2, st', en', SatS.later h1 y⟩
      | bk ρ2 S2 => rw [q] at h1; exact h1
      | rt d S2 => rw [q] at h1; exact h1
      | exn z ρ2 S2 => rw [q] at h1; exact h1

/-- what a for walks: the items as data, and the objects that yield them -/
def ItOk (K : PySem.W.Frag) (φ : ASet) (s : Sn) (ds : List D) (J : It) : Prop :=
  ∀ (φ' : ASet) (s' : Sn), Move φ s.H s.L φ' s'.H s'.L → (∃ ν, s'.μ = s.μ ++ ν) → StoR K φ' s' → (J.stop ds.length s'.H) ∧ ∀ (i : Nat) (d : D), ds[i]? = some d → J.go i s'.H ∧ ∀ x H', J.yld i s'.H x H' → ∃ μ' S', S' = s'.S ∧ Ext s' ⟨μ', S', H'⟩ ∧ StoR K φ' ⟨μ', S', H'⟩ ∧ (Sn.mk μ' S' H').Rep K φ' d x
abbrev tI (K : PySem.W.Frag) (mg : Str → Option Value) (W : WX) (f : DI) : TI := tG K mg (fun φ s => ItOk K φ s) W f
abbrev PDI (X : Cx) (W : WX) (tg e : Expr) (f : DI) : Prop := PI X tg e (tI X.K X.mg W f)
/-- a target -/
def GOk (K : PySem.W.Frag) (g : DG) (t : TG) : Prop := ∀ (φ : ASet) (μ : List Addr) (S : Sto) (H : Hp) (d : D) (v : V) (ρ ρ' : Env) (σ : L2.St) (Q : L2.St → Hp → Prop), StoR K φ ⟨μ, S, H⟩ → EnvR K φ ⟨μ, S, H⟩ ρ σ → (Sn.mk μ S H).Rep K φ d v → g d ρ = some ρ' →
  (∀ σ', EnvR K φ ⟨μ, S, H⟩ ρ' σ' → Q σ' H) → t v σ H Q
theorem gk_name {K : PySem.W.Frag} (i : Nat) : GOk K (Den.gName i) (L2.gName i) := fun φ μ S H d v ρ ρ' σ Q st en r e q => by
  cases e
  exact q _ (en.set r)
theorem pds_for {tg iter : Expr} {body : List Stmt} {it : DI} {g : DG} {t : TG} (hg : GOk X.K g t) (hp : PassesOwn (model X.prog X.w) X.A X.env X.xe) (hc : X.calm = true) (hi : PDI X W tg iter it) (ht : PG X tg t) (hb : PDB X W body f)
    (hs : ∀ x, foldedSetIterable iter X.env x = pure x := by intro _; rfl) : PDS X W (.For tg iter body [] pos) (sFor it g f) := ps_imp (ps_for hp hc hi ht hb hs) fun D σ H h => by
  obtain ⟨φ, μ, ρ, S, st, en, h⟩ := h
  refine ⟨φ, μ, ρ, S, st, en, (SatS.seq (Rl := ItOk X.K φ) (σ := σ) (show SatS X.K X.mg φ W ⟨μ, S, H⟩ ((it ρ S).seq ρ fun xs S1 => forL g f xs ρ S1) D from h) en).imp ?_⟩
  rintro J H1 ⟨μ1, S1, ds, x1, st1, ok, h1⟩
  refine ⟨fun i m σ H => ∃ μ ρ S, m = ds.length - i ∧ i ≤ ds.length ∧ Ext ⟨μ1, S1, H1⟩ ⟨μ, S, H⟩ ∧ StoR X.K φ ⟨μ, S, H⟩ ∧ EnvR X.K φ ⟨μ, S, H⟩ ρ σ ∧ SatS X.K X.mg φ W ⟨μ, S, H⟩ (forL g f (ds.drop i) ρ S) D,
    ⟨ds.length, μ1, ρ, S1, by simp, Nat.zero_le _, Ext.refl _, st1, en.ext x1, by simpa using h1⟩, ?_⟩
  rintro i m σ H ⟨μ, ρ, S, em, hi, x2, st, en, h⟩
  obtain ⟨stop, items⟩ := ok φ ⟨μ, S, H⟩ x2.move x2.pre st
  by_cases hlt : i < ds.length
  · have e : ds[i]? = some ds[i] := by simp [hlt]
    obtain ⟨go, yl⟩ := items i _ e
    refine .inr ⟨go, fun σ' H' => ∃ μ ρ S, i + 1 ≤ ds.length ∧ Ext ⟨μ1, S1, H1⟩ ⟨μ, S, H'⟩ ∧ StoR X.K φ ⟨μ, S, H'⟩ ∧ EnvR X.K φ ⟨μ, S, H'⟩ ρ σ' ∧ SatS X.K X.mg φ W ⟨μ, S, H'⟩ (forL g f (ds.drop (i + 1)) ρ S) D,
      fun σ' H' ⟨μ, ρ, S, a1, a2, a3, a4, a5⟩ => ⟨ds.length - (i + 1), by omega, μ, ρ, S, rfl, a1, a2, a3, a4, a5⟩, fun x H' y => ?_⟩
    obtain ⟨μ', S', eS, x3, st3, rx⟩ := yl x H' y
    have eS' : S' = S := eS
    subst eS'
    have hd : ds.drop i = ds[i] :: ds.drop (i + 1) := by rw [List.drop_eq_getElem_cons hlt]
    rw [hd] at h
    unfold forL at h
    cases q : g ds[i] ρ with
    | none => rw [q] at h; exact h.elim
    | some ρ1 =>
      rw [q] at h
      dsimp only at h
      refine hg φ μ' S' H' ds[i] x ρ ρ1 σ _ st3 (en.ext x3) rx q fun σ1 en1 => ?_
      refine ⟨φ, μ', ρ1, S', st3, en1, ?_⟩
      have h := SatS.later h x3
      cases q2 : f ρ1 S' with
      | bad => rw [q2] at h; exact h
      | nx ρ2 S2 =>
        rw [q2] at h
        exact fun σ' μ'' H'' y st' en' => ⟨μ'', ρ2, S2, hlt, (x2.trans x3).trans y, st', en', SatS.later h y⟩
      | ct ρ2 S2 =>
        rw [q2] at h
        exact fun σ' μ'' H'' y st' en' => ⟨μ'', ρ2, S2, hlt, (x2.trans x3).trans y, st', en', SatS.later h y⟩
      | bk ρ2 S2 => rw [q2] at h; exact h
      | rt d S2 => rw [q2] at h; exact h
      | exn z ρ2 S2 => rw [q2] at h; exact h
  · have ei : i = ds.length := by omega
    subst ei
    refine .inl ⟨stop, ?_⟩
    rw [List.drop_length] at h
    exact SatS.nxt h st en
end
end Den
end

section
set_option Elab.async false
set_option linter.all false
set_option maxRecDepth 100000
namespace Den
open PySem PySem.Spec PyProof.Rows L2

/-- a def's promise: what F tells -/
def spF (K : PySem.W.Frag) (mg : Str → Option Value) (np : Nat) (F : Fn) : Sp := fun vs H Q E => ∃ φ μ S ds, StoR K φ ⟨μ, S, H⟩ ∧ ds.length = np ∧ (Sn.mk μ S H).Reps K φ ds vs ∧
  Sat K mg φ (fun s d v => s.Rep K φ d v ∧ gnd d = true) (fun c dd _ H' => E c dd H') [] ⟨μ, S, H⟩ (F ds S) Q
section
variable {K : PySem.W.Frag} {mg : Str → Option Value} {φ : ASet}
theorem env_start {μ : List Addr} {S : Sto} {H : Hp} {ds : List D} {vs : List V} (N : List Str) (r : (Sn.mk μ S H).Reps K φ ds vs) (hl : ds.length ≤ N.length) : EnvR K φ ⟨μ, S, H⟩ (Den.start N.length ds) (L2.start N vs) := by
  have l := r.length
  refine ⟨?_, fun i d e => ?_⟩
  · unfold L2.start Den.start
    simp only [List.length_append, List.length_map, List.length_replicate]
    omega
  · unfold Den.start at e
    by_cases hi : i < ds.length
    · rw [List.getElem?_append_left (by simpa using hi), List.getElem?_map] at e
      cases q : ds[i]? with
      | none => rw [q] at e; cases e
      | some d' =>
        rw [q] at e
        cases e
        obtain ⟨v, q1, q2⟩ := r.get q
        refine ⟨v, ?_, q2⟩
        unfold L2.start
        rw [List.getElem?_append_left (by rw [List.length_map]; omega), List.getElem?_map, q1]
        rfl
    · rw [List.getElem?_append_right (by simpa using hi), List.getElem?_replicate] at e
      split at e <;> cases e
theorem mGnd_at {S : Sto} {m n : Nat} {o : MO} (h : (S.take m).all mGnd = true) (e : (S.take m)[n]? = some o) : ∃ xs, o = .lst xs ∧ gnds xs = true := by
  have q := List.all_eq_true.mp h o (List.mem_of_getElem? e)
  cases o with
  | lst xs => exact ⟨xs, rfl, q⟩
  | frz xs => cases q
theorem take_at {α : Type} {S : List α} {m n : Nat} {o : α} (e : (S.take m)[n]? = some o) : n < m ∧ S[n]? = some o := by
  rw [List.getElem?_take] at e
  split at e
  · exact ⟨by assumption, e⟩
  · cases e
/-- the store of a callee, cut to the lists that were passed -/
theorem cut_sto {μ μ' : List Addr} {S S' : Sto} {H H' : Hp} (st : StoR K φ ⟨μ, S, H⟩) (x : Ext ⟨μ, S, H⟩ ⟨μ', S', H'⟩) (st' : StoR K φ ⟨μ', S', H'⟩) (g : (S'.take S.length).all mGnd = true) :
    StoR K φ ⟨μ, S'.take S.length, H'⟩ ∧ Ext ⟨μ, S, H⟩ ⟨μ, S'.take S.length, H'⟩ ∧ Move φ H' (live S' μ') φ H' (live (S'.take S.length) μ) := by
  obtain ⟨ν, e⟩ := x.pre
  have e : μ' = μ ++ ν := e
  have lS : S.length = μ.length := st.len
  have lS' : S'.length = μ'.length := st'.len
  have up : ∀ (n : Nat) (a : Addr), μ[n]? = some a → μ'[n]? = some a := fun n a h => by
    rw [e, List.getElem?_append_left (List.getElem?_eq_some_iff.mp h).1]
    exact h
  have sub : ∀ a, live (S'.take S.length) μ a → live S' μ' a := fun a ⟨n, xs, h1, h2⟩ => ⟨n, xs, (take_at h1).2, up n a h2⟩
  have mv : Move φ H' (live S' μ') φ H' (live (S'.take S.length) μ) := ⟨fun _ _ h _ _ => h, fun _ _ _ h _ l => h (sub _ l), fun _ _ _ h _ => h⟩
  refine ⟨⟨?_, st.nd, st.dis, fun n a xs h1 h2 => ?_, fun n a xs h1 h2 => ?_, st'.thr⟩, ⟨⟨[], by simp⟩, x.keep, fun a o h l l2 => x.out a o h l (sub a l2), fun _ h n => absurd h n, x.grow⟩, mv⟩
  · show (S'.take S.length).length = μ.length
    rw [List.length_take, lS', e, List.length_append]
    omega
  · obtain ⟨vs, q1, q2⟩ := st'.lst n a xs (up n a h1) (take_at h2).2
    obtain ⟨ys, e1, g1⟩ := mGnd_at g h2
    cases e1
    exact ⟨vs, q1, Reps.move mv xs g1 q2⟩
  · obtain ⟨ys, e1, g1⟩ := mGnd_at g h2
    cases e1
theorem grndF_ok {μ μ' : List Addr} {S S' : Sto} {H H' : Hp} {d d' : D} {v : V} (st : StoR K φ ⟨μ, S, H⟩) (x : Ext ⟨μ, S, H⟩ ⟨μ', S', H'⟩) (st' : StoR K φ ⟨μ', S', H'⟩) (mv : Move φ H' (live S' μ') φ H' (live (S'.take S.length) μ))
    (h : grndF S.length S' d = some d') (r : (Sn.mk μ' S' H').Rep K φ d v) : (Sn.mk μ (S'.take S.length) H').Rep K φ d' v ∧ gnd d' = true := by
  unfold grndF at h
  by_cases g : gnd d = true
  · rw [if_pos g] at h
    cases h
    exact ⟨Rep.move mv d g r, g⟩
  · rw [if_neg g] at h
    cases d with
    | obj n =>
      dsimp only at h
      by_cases hm : S.length ≤ n
      · rw [if_pos hm] at h
        obtain ⟨a, ev, ha⟩ := r
        have ha : μ'[n]? = some a := ha
        have notLive : ¬ live (S'.take S.length) μ a := fun ⟨k, ys, h1, h2⟩ => by
          obtain ⟨ν, e⟩ := x.pre
          have e : μ' = μ ++ ν := e
          have h2' : μ'[k]? = some a := by
            rw [e, List.getElem?_append_left (List.getElem?_eq_some_iff.mp h2).1]
            exact h2
          have := st'.inj (n := k) (m := n) h2' ha
          have := (take_at h1).1
          omega
        have nφ : ¬ φ a := st'.dis a (List.mem_of_getElem? ha)
        cases q : S'[n]? with
        | none => rw [q] at h; cases h
        | some o =>
          rw [q] at h
          cases o with
          | lst xs =>
            dsimp only at h
            by_cases g2 : gnds xs = true
            · rw [if_pos g2] at h
              cases h
              obtain ⟨vs, q1, q2⟩ := st'.lst n a xs ha q
              exact ⟨⟨a, vs, ev, .inl ⟨.inl q1, nφ, notLive⟩, Reps.move mv xs g2 q2⟩, by simpa only [gnd] using g2⟩
            · rw [if_neg g2] at h
              cases h
          | frz xs =>
            dsimp only at h
            by_cases g2 : gnds xs = true
            · rw [if_pos g2] at h
              cases h
              obtain ⟨vs, q1, q2⟩ := st'.frz n a xs ha q
              exact ⟨⟨a, vs, ev, .inl ⟨q1, nφ, notLive⟩, Reps.move mv xs g2 q2⟩, by simpa only [gnd] using g2⟩
            · rw [if_neg g2] at h
              cases h
      · rw [if_neg hm] at h
        cases h
    | _ => cases h
end
section
variable {P : Program} {w : World} {K : PySem.W.Frag} {mg : Str → Option Value} {base : Heap}
/-- THE RULE for a def: its body's meaning g -/
theorem fn_den {x qual : Str} {st : Stmt} {f : Addr} {fd : FuncData} {N ps : List Str} {k : Nat} (F : Fun K x qual st f fd) (Sc : FnScope N ps (defScope st)) (m : Nat) (g : DS)
    (hb : ∀ (cdv : Value) (A : Around) (outer : List PySem.Env) (s : Shared) (H : Hp) (E : XK), Room k (A.deeper (envOfC qual (defScope st) s.heap.objs.size f cdv)) →
      PSs (cxOf (L2.CX P w) P w K mg base N qual (defScope st) f cdv A outer s H E) (defBody st) (tS K mg (fun cls d _ H => E cls d H) g)) :
    FnOk P w K mg base (L2.CX P w) (k + 1) f fd ps (spF K mg ps.length (run N.length m g)) := by
  refine F.okX Sc (fun vs H Q E h => ?_) (fun cdv A outer s H vs Q E hr h => ⟨_, hb cdv A outer s H E hr, ?_⟩)
  · obtain ⟨φ, μ, S, ds, st, hl, r, _⟩ := h
    rw [r.length, hl]
  · obtain ⟨φ, μ, S, ds, st, hl, r, h⟩ := h
    have hpl : ps.length ≤ N.length := by
      have := congrArg List.length Sc.pre
      rw [List.length_take] at this
      omega
    refine ⟨φ, μ, Den.start N.length ds, S, st, env_start N r (by omega), ?_⟩
    unfold run at h
    by_cases hm : S.length = m
    · rw [if_pos hm] at h
      subst hm
      cases q : g (Den.start N.length ds) S with
      | bad => rw [q] at h; exact h
      | bk ρ S' => rw [q] at h; exact h.elim
      | ct ρ S' => rw [q] at h; exact h.elim
      | rt d S' =>
        rw [q] at h
        dsimp only at h
        by_cases g1 : (S'.take S.length).all mGnd = true
        · rw [if_pos g1] at h
          intro v μ' H' x st' rv
          obtain ⟨c1, c2, c3⟩ := cut_sto st x st' g1
          unfold fin at h
          cases q2 : grndF S.length S' d with
          | none => rw [q2] at h; exact h.elim
          | some d' =>
            rw [q2] at h
            exact h v μ H' c2 c1 (grndF_ok st x st' c3 q2 rv)
        · rw [if_neg g1] at h
          exact h.elim
      | nx ρ S' =>
        rw [q] at h
        dsimp only at h
        by_cases g1 : (S'.take S.length).all mGnd = true
        · rw [if_pos g1] at h
          intro σ' μ' H' x st' en'
          obtain ⟨c1, c2, c3⟩ := cut_sto st x st' g1
          exact h .non μ H' c2 c1 ⟨rfl, rfl⟩
        · rw [if_neg g1] at h
          exact h.elim
      | exn z ρ S' =>
        rw [q] at h
        dsimp only at h
        by_cases g1 : (S'.take S.length).all mGnd = true
        · rw [if_pos g1] at h
          intro c dd σ' μ' H' x st' en' ex
          obtain ⟨c1, c2, c3⟩ := cut_sto st x st' g1
          exact h c dd μ H' c2 c1 ex
        · rw [if_neg g1] at h
          exact h.elim
    · rw [if_neg hm] at h
      exact h.elim
end

/-- a list at p: no data of ours -/
abbrev withA (φ : ASet) (p : Addr) : ASet := fun a => φ a ∨ a = p
/-- the promise of a def that hands over a new list -/
def spFL (K : PySem.W.Frag) (mg : Str → Option Value) (np : Nat) (F : Fn) : Sp := fun vs H Q E => ∃ φ μ S ds, StoR K φ ⟨μ, S, H⟩ ∧ ds.length = np ∧ (Sn.mk μ S H).Reps K φ ds vs ∧
  Sat K mg φ (fun s d v => gnd d = true ∧ ∃ a ws xs, d = .lst xs ∧ v = .ref a ∧ s.H a = some (.lst ws) ∧ H a = none ∧ a ∉ s.μ ∧ Den.Reps K (withA φ a) s.H s.L s.μ xs ws) (fun c dd _ H' => E c dd H') [] ⟨μ, S, H⟩ (F ds S) Q
theorem Sat.weak {α β : Type} {K : PySem.W.Frag} {mg : Str → Option Value} {φ : ASet} {Rl Rl' : Sn → α → β → Prop} {W : WX} {σ : L2.St} {s : Sn} {r : RE α} {Q : β → Hp → Prop} (h : Sat K mg φ Rl W σ s r Q)
    (i : ∀ a S' b μ' H', r = .ok a S' → Ext s ⟨μ', S', H'⟩ → StoR K φ ⟨μ', S', H'⟩ → Rl' ⟨μ', S', H'⟩ a b → Rl ⟨μ', S', H'⟩ a b) : Sat K mg φ Rl' W σ s r Q := by
  cases r with
  | bad => exact h
  | exn x S => exact h
  | ok a S => exact fun b μ1 H1 x1 st rl => h b μ1 H1 x1 st (i a S b μ1 H1 rfl x1 st rl)
theorem spFL_of {K : PySem.W.Frag} {mg : Str → Option Value} {np : Nat} {F : Fn} (vs : List V) (H : Hp) (Q : VK) (E : XK) (h : spF K mg np F vs H Q E) : spFL K mg np F vs H Q E := by
  obtain ⟨φ, μ, S, ds, st, hl, r, h⟩ := h
  refine ⟨φ, μ, S, ds, st, hl, r, Sat.weak h fun d S' v μ' H' _ x st' ⟨g, a, ws, xs, ed, ev, ha, hn, nm, rs⟩ => ⟨?_, g⟩⟩
  subst ed
  have gx : gnds xs = true := by simpa only [gnd] using g
  refine ⟨a, ws, ev, .inl ⟨.inl ha, fun z => ?_, fun l => ?_⟩, Reps.move ⟨fun _ _ h _ _ => h, fun _ _ _ l _ => l, fun b o ho f _ z => f (.inl z)⟩ xs gx rs⟩
  · obtain ⟨o, e⟩ := st.thr a z
    cases hn.symm.trans e
  · obtain ⟨n, zs, _, l2⟩ := l
    exact nm (List.mem_of_getElem? l2)
section
variable {P : Program} {w : World} {K : PySem.W.Frag} {mg : Str → Option Value} {base : Heap}
theorem fn_denL {x qual : Str} {st : Stmt} {f : Addr} {fd : FuncData} {N ps : List Str} {k : Nat} (F : Fun K x qual st f fd) (Sc : FnScope N ps (defScope st)) (m : Nat) (g : DS)
    (hb : ∀ (cdv : Value) (A : Around) (outer : List PySem.Env) (s : Shared) (H : Hp) (E : XK), Room k (A.deeper (envOfC qual (defScope st) s.heap.objs.size f cdv)) →
      PSs (cxOf (L2.CX P w) P w K mg base N qual (defScope st) f cdv A outer s H E) (defBody st) (tS K mg (fun cls d _ H => E cls d H) g)) :
    FnOk P w K mg base (L2.CX P w) (k + 1) f fd ps (spFL K mg ps.length (runL N.length m g)) := by
  refine F.okX Sc (fun vs H Q E h => ?_) (fun cdv A outer s H vs Q E hr h => ⟨_, hb cdv A outer s H E hr, ?_⟩)
  · obtain ⟨φ, μ, S, ds, st, hl, r, _⟩ := h
    rw [r.length, hl]
  · obtain ⟨φ, μ, S, ds, st, hl, r, h⟩ := h
    have hpl : ps.length ≤ N.length := by
      have := congrArg List.length Sc.pre
      rw [List.length_take] at this
      omega
    refine ⟨φ, μ, Den.start N.length ds, S, st, env_start N r (by omega), ?_⟩
    unfold runL at h
    by_cases hm : S.length = m
    case neg =>
      rw [if_neg hm] at h
      exact h.elim
    rw [if_pos hm] at h
    subst hm
    cases q : g (Den.start N.length ds) S with
    | bad => rw [q] at h; exact h
    | bk ρ S' => rw [q] at h; exact h.elim
    | ct ρ S' => rw [q] at h; exact h.elim
    | nx ρ S' => rw [q] at h; exact h.elim
    | exn z ρ S' =>
      rw [q] at h
      dsimp only at h
      by_cases g1 : (S'.take S.length).all mGnd = true
      · rw [if_pos g1] at h
        intro c dd σ' μ' H' x st' en' ex
        obtain ⟨c1, c2, c3⟩ := cut_sto st x st' g1
        exact h c dd μ H' c2 c1 ex
      · rw [if_neg g1] at h
        exact h.elim
    | rt d S' =>
      rw [q] at h
      cases d with
      | obj n =>
        dsimp only at h
        by_cases g1 : S.length ≤ n ∧ (S'.take S.length).all mGnd = true
        case neg =>
          rw [if_neg g1] at h
          exact h.elim
        rw [if_pos g1] at h
        obtain ⟨hn, g1⟩ := g1
        cases q2 : S'[n]? with
        | none => rw [q2] at h; exact h.elim
        | some o =>
          rw [q2] at h
          cases o with
          | frz xs => exact h.elim
          | lst xs =>
            dsimp only at h
            by_cases g2 : gnds xs = true
            case neg =>
              rw [if_neg g2] at h
              exact h.elim
            rw [if_pos g2] at h
            intro v μ' H' x st' rv
            obtain ⟨c1, c2, c3⟩ := cut_sto st x st' g1
            obtain ⟨a, ev, ha⟩ := rv
            have ha : μ'[n]? = some a := ha
            obtain ⟨ws, q3, q4⟩ := st'.lst n a xs ha q2
            have nμ : a ∉ μ := fun z => by
              obtain ⟨k, hk⟩ := List.getElem?_of_mem z
              obtain ⟨ν, e⟩ := x.pre
              have e : μ' = μ ++ ν := e
              have hk' : μ'[k]? = some a := by
                rw [e, List.getElem?_append_left (List.getElem?_eq_some_iff.mp hk).1]
                exact hk
              have e2 := st'.inj (n := k) (m := n) hk' ha
              have l1 := (List.getElem?_eq_some_iff.mp hk).1
              have lS : S.length = μ.length := st.len
              omega
            have la : live S' μ' a := ⟨n, xs, q2, ha⟩
            refine h v μ H' c2 c1 ⟨by simpa only [gnd] using g2, a, ws, xs, rfl, ev, q3, x.fresh a (List.mem_of_getElem? ha) nμ, nμ, Reps.move ⟨fun _ _ h _ _ => h, c3.out, fun b o ho f l z => z.elim f fun e => l (by rw [e]; exact la)⟩ xs g2 q4⟩
      | _ => exact h.elim
end
/-! ### arguments frozen -/
section
variable {K : PySem.W.Frag} {mg : Str → Option Value} {φ : ASet}
theorem live_set {S : Sto} {μ : List Addr} {n : Nat} {xs : List D} {a : Addr} (h : live (S.set n (.frz xs)) μ a) : live S μ a := by
  obtain ⟨k, ys, h1, h2⟩ := h
  by_cases e : k = n
  · subst e
    by_cases hl : k < S.length
    · rw [List.getElem?_set_self hl] at h1
      cases h1
    · rw [List.getElem?_eq_none (by simpa using hl)] at h1
      cases h1
  · rw [List.getElem?_set_ne (Ne.symm e)] at h1
    exact ⟨k, ys, h1, h2⟩
theorem frz_sto {μ : List Addr} {S : Sto} {H : Hp} {n : Nat} {xs : List D} (st : StoR K φ ⟨μ, S, H⟩) (q : S[n]? = some (.lst xs)) : StoR K φ ⟨μ, S.set n (.frz xs), H⟩ ∧ Ext ⟨μ, S, H⟩ ⟨μ, S.set n (.frz xs), H⟩ := by
  have x : Ext ⟨μ, S, H⟩ ⟨μ, S.set n (.frz xs), H⟩ := ⟨⟨[], by simp⟩, fun _ _ h _ => h, fun a o _ h l => h (live_set l), fun _ h n => absurd h n, fun _ h => h⟩
  refine ⟨⟨by simpa using st.len, st.nd, st.dis, fun k a ys h1 h2 => ?_, fun k a ys h1 h2 => ?_, st.thr⟩, x⟩
  · by_cases e : k = n
    · subst e
      have hl := (List.getElem?_eq_some_iff.mp q).1
      have h2 : (S.set k (.frz xs))[k]? = some (.lst ys) := h2
      rw [List.getElem?_set_self hl] at h2
      cases h2
    · have h2 : (S.set n (.frz xs))[k]? = some (.lst ys) := h2
      rw [List.getElem?_set_ne (Ne.symm e)] at h2
      obtain ⟨vs, q1, q2⟩ := st.lst k a ys h1 h2
      exact ⟨vs, q1, x.reps q2⟩
  · by_cases e : k = n
    · subst e
      have hl := (List.getElem?_eq_some_iff.mp q).1
      have h2 : (S.set k (.frz xs))[k]? = some (.frz ys) := h2
      rw [List.getElem?_set_self hl] at h2
      cases h2
      obtain ⟨vs, q1, q2⟩ := st.lst k a xs h1 q
      exact ⟨vs, .inl q1, x.reps q2⟩
    · have h2 : (S.set n (.frz xs))[k]? = some (.frz ys) := h2
      rw [List.getElem?_set_ne (Ne.symm e)] at h2
      obtain ⟨vs, q1, q2⟩ := st.frz k a ys h1 h2
      exact ⟨vs, q1, x.reps q2⟩
theorem fz1_ok {μ : List Addr} {S S2 : Sto} {H : Hp} {d d' : D} {v : V} (st : StoR K φ ⟨μ, S, H⟩) (r : (Sn.mk μ S H).Rep K φ d v) (h : fz1 S d = some (d', S2)) :
    StoR K φ ⟨μ, S2, H⟩ ∧ Ext ⟨μ, S, H⟩ ⟨μ, S2, H⟩ ∧ (Sn.mk μ S2 H).Rep K φ d' v ∧ gnd d' = true := by
  unfold fz1 at h
  by_cases g : gnd d = true
  · rw [if_pos g] at h
    cases h
    exact ⟨st, Ext.refl _, r, g⟩
  · rw [if_neg g] at h
    cases d with
    | obj n =>
      dsimp only at h
      obtain ⟨a, ev, ha⟩ := r
      have ha : μ[n]? = some a := ha
      have nφ : ¬ φ a := st.dis a (List.mem_of_getElem? ha)
      cases q : S[n]? with
      | none => rw [q] at h; cases h
      | some o =>
        rw [q] at h
        cases o with
        | lst xs =>
          dsimp only at h
          by_cases g2 : gnds xs = true
          · rw [if_pos g2] at h
            cases h
            obtain ⟨s2, x2⟩ := frz_sto st q
            have hl := (List.getElem?_eq_some_iff.mp q).1
            have q' : (S.set n (.frz xs))[n]? = some (.frz xs) := List.getElem?_set_self hl
            obtain ⟨vs, q1, q2⟩ := s2.frz n a xs ha q'
            exact ⟨s2, x2, ⟨a, vs, ev, .inl ⟨q1, nφ, s2.notLive (n := n) ha q'⟩, q2⟩, by simpa only [gnd] using g2⟩
          · rw [if_neg g2] at h
            cases h
        | frz xs =>
          dsimp only at h
          by_cases g2 : gnds xs = true
          · rw [if_pos g2] at h
            cases h
            obtain ⟨vs, q1, q2⟩ := st.frz n a xs ha q
            exact ⟨st, Ext.refl _, ⟨a, vs, ev, .inl ⟨q1, nφ, st.notLive (n := n) ha q⟩, q2⟩, by simpa only [gnd] using g2⟩
          · rw [if_neg g2] at h
            cases h
    | _ => cases h
theorem fzs_ok : ∀ {ds ds' : List D} {μ : List Addr} {S S2 : Sto} {H : Hp} {vs : List V}, StoR K φ ⟨μ, S, H⟩ → (Sn.mk μ S H).Reps K φ ds vs → fzs S ds = some (ds', S2) →
    StoR K φ ⟨μ, S2, H⟩ ∧ Ext ⟨μ, S, H⟩ ⟨μ, S2, H⟩ ∧ (Sn.mk μ S2 H).Reps K φ ds' vs ∧ gnds ds' = true ∧ ds'.length = ds.length
  | [], ds', μ, S, S2, H, vs, st, r, h => by
    cases h
    exact ⟨st, Ext.refl _, r, rfl, rfl⟩
  | d :: ds, ds', μ, S, S2, H, vs, st, r, h => by
    obtain ⟨v, vr, e, r1, r2⟩ := r
    unfold fzs at h
    cases q1 : fz1 S d with
    | none => rw [q1] at h; cases h
    | some p =>
      obtain ⟨d1, S1⟩ := p
      rw [q1] at h
      dsimp only at h
      cases q2 : fzs S1 ds with
      | none => rw [q2] at h; cases h
      | some p2 =>
        obtain ⟨ds1, S3⟩ := p2
        rw [q2] at h
        cases h
        obtain ⟨a1, a2, a3, a4⟩ := fz1_ok st r1 q1
        obtain ⟨b1, b2, b3, b4, b5⟩ := fzs_ok a1 (a2.reps r2) q2
        exact ⟨b1, a2.trans b2, ⟨v, vr, e, b2.rep a3, b3⟩, by simp only [gnds, a4, b4, Bool.and_self], by simp [b5]⟩
theorem none_live {a : Addr} : ¬ live [] [] a := fun ⟨n, xs, h, _⟩ => by simp at h
end
section
variable {X : Cx} {W : WX} {e : Expr} {fa : DA} {np : Nat} {F : Fn}
theorem pd_call (h : PE X e (tCallS (spF X.K X.mg np F) (WE W) (tA X.K X.mg W fa))) (hn : ∀ ρ S ds S', fa ρ S = .ok ds S' → ds.length = np) : PD X W e (eCall F fa) := pe_imp h fun σ H Q h => by
  obtain ⟨φ, μ0, ρ, S0, st0, en0, h⟩ := h
  refine ⟨φ, μ0, ρ, S0, st0, en0, ?_⟩
  have h' : Sat X.K X.mg φ (fun s => s.Rep X.K φ) W σ ⟨μ0, S0, H⟩ ((fa ρ S0).bind fun ds S1 => match fzs S1 ds with
    | some (ds', S2) => match F ds' [] with
      | .ok d _ => .ok d S2
      | .exn x _ => .exn x S2
      | .bad => .bad
    | none => .bad) Q := h
  cases q0 : fa ρ S0 with
  | bad => rw [q0] at h'; exact h'
  | exn x S1 => rw [q0] at h'; exact h'
  | ok ds S =>
    rw [q0] at h'
    intro vs μ H1 x0 st rs
    rw [RE.bind_ok] at h'
    cases q : fzs S ds with
    | none => rw [q] at h'; exact h'.elim
    | some p =>
      obtain ⟨ds', S2⟩ := p
      rw [q] at h'
      dsimp only at h'
      obtain ⟨b1, b2, b3, b4, b5⟩ := fzs_ok st rs q
      have k2 : ∀ {H'}, Same H1 H' → Ext ⟨μ0, S0, H⟩ ⟨μ, S2, H'⟩ ∧ StoR X.K φ ⟨μ, S2, H'⟩ := fun sm => ⟨(x0.trans b2).trans (ext_same sm), b1.same sm⟩
      refine ⟨fun a => φ a ∨ live S2 μ a, [], [], ds', ⟨rfl, List.nodup_nil, fun a z => (by cases z), fun n a xs z => (by simp at z), fun n a xs z => (by simp at z), fun a z => ?_⟩, by rw [b5]; exact hn ρ S0 ds S q0, ?_, ?_⟩
      · rcases z with z | z
        · exact b1.thr a z
        · obtain ⟨vs, e⟩ := b1.liveTracked z
          exact ⟨_, e⟩
      · exact Reps.move ⟨fun _ _ h _ _ => h, fun _ _ _ _ _ => none_live, fun _ _ _ p l z => z.elim p l⟩ ds' b4 b3
      · have sm : ∀ {μ' S' H'}, Ext ⟨[], [], H1⟩ ⟨μ', S', H'⟩ → Same H1 H' := fun x a o h => x.keep a o h none_live
        cases qf : F ds' [] with
        | bad => rw [qf] at h'; exact h'
        | exn z S3 =>
          rw [qf] at h'
          intro c dd μ' H' x st' ex
          exact h' c dd μ H' (k2 (sm x)).1 (k2 (sm x)).2 ex
        | ok d S3 =>
          rw [qf] at h'
          intro v μ' H' x st' ⟨r, g⟩
          refine h' v μ H' (k2 (sm x)).1 (k2 (sm x)).2 (Rep.move ⟨fun _ _ h _ _ => h, fun a o ho l p z => ?_, fun a o ho p l z => p (.inl z)⟩ d g r)
          rcases p with p | ⟨xs, e⟩
          · exact p (.inr z)
          · obtain ⟨vs, e2⟩ := b1.liveTracked z
            have e3 := sm x _ _ e2
            subst e
            cases (show H' a = _ from ho).symm.trans e3
/-- the list at place n changed -/
theorem set_sto {K : PySem.W.Frag} {φ : ASet} {μ : List Addr} {S : Sto} {H H' : Hp} {n : Nat} {a : Addr} {xs ys : List D} {ws : List V} (st : StoR K φ ⟨μ, S, H⟩) (hμ : μ[n]? = some a) (q : S[n]? = some (.lst xs))
    (keep : ∀ b o, H b = some o → b ≠ a → H' b = some o) (hw : H' a = some (.lst ws)) (r : (Sn.mk μ S H).Reps K φ ys ws) : StoR K φ ⟨μ, S.set n (.lst ys), H'⟩ ∧ Ext ⟨μ, S, H⟩ ⟨μ, S.set n (.lst ys), H'⟩ := by
  have hl := (List.getElem?_eq_some_iff.mp q).1
  have la : live S μ a := ⟨n, xs, q, hμ⟩
  have lv : ∀ b, live (S.set n (.lst ys)) μ b → live S μ b := fun b ⟨k, zs, h1, h2⟩ => by
    by_cases e : k = n
    · subst e
      have : b = a := by
        have h2 : μ[k]? = some b := h2
        rw [hμ] at h2
        cases h2
        rfl
      rw [this]
      exact la
    · rw [List.getElem?_set_ne (Ne.symm e)] at h1
      exact ⟨k, zs, h1, h2⟩
  have x : Ext ⟨μ, S, H⟩ ⟨μ, S.set n (.lst ys), H'⟩ := ⟨⟨[], by simp⟩, fun b o h l => keep b o h fun e => l (by rw [e]; exact la), fun b o _ h l => h (lv b l), fun _ h n => absurd h n, fun b h => by
    by_cases e : b = a
    · rw [e] at h
      cases hw.symm.trans h
    · cases q : H b with
      | none => exact q
      | some o => cases (keep b o q e).symm.trans h⟩
  refine ⟨⟨by simpa using st.len, st.nd, st.dis, fun k b zs h1 h2 => ?_, fun k b zs h1 h2 => ?_, fun b p => ?_⟩, x⟩
  · have h2 : (S.set n (.lst ys))[k]? = some (.lst zs) := h2
    by_cases e : k = n
    · subst e
      rw [List.getElem?_set_self hl] at h2
      cases h2
      have h1 : μ[k]? = some b := h1
      rw [hμ] at h1
      cases h1
      exact ⟨ws, hw, x.reps r⟩
    · rw [List.getElem?_set_ne (Ne.symm e)] at h2
      obtain ⟨vs, q1, q2⟩ := st.lst k b zs h1 h2
      exact ⟨vs, keep b _ q1 (fun z => e (st.inj (a := a) (by rw [← z]; exact h1) hμ)), x.reps q2⟩
  · have h2 : (S.set n (.lst ys))[k]? = some (.frz zs) := h2
    by_cases e : k = n
    · subst e
      rw [List.getElem?_set_self hl] at h2
      cases h2
    · rw [List.getElem?_set_ne (Ne.symm e)] at h2
      obtain ⟨vs, q1, q2⟩ := st.frz k b zs h1 h2
      have ne : b ≠ a := fun z => e (st.inj (a := a) (by rw [← z]; exact h1) hμ)
      refine ⟨vs, ?_, x.reps q2⟩
      rcases q1 with q1 | ⟨o, q1⟩
      · exact .inl (keep b _ q1 ne)
      · exact .inr ⟨o, keep b _ q1 ne⟩
  · obtain ⟨o, e⟩ := st.thr b p
    exact ⟨o, keep b o e fun z => st.dis a (List.mem_of_getElem? hμ) (by rw [← z]; exact p)⟩
theorem pd_callM (h : PE X e (tCallS (spF X.K X.mg np F) (WE W) (tA X.K X.mg W fa))) (hn : ∀ ρ S ds S', fa ρ S = .ok ds S' → ds.length = np) : PD X W e (eCallM F fa) := pe_imp h fun σ H Q h => by
  obtain ⟨φ, μ0, ρ, S0, st0, en0, h⟩ := h
  refine ⟨φ, μ0, ρ, S0, st0, en0, ?_⟩
  have h' : Sat X.K X.mg φ (fun s => s.Rep X.K φ) W σ ⟨μ0, S0, H⟩ ((fa ρ S0).bind fun ds S1 => match ds with
    | .obj n :: ds => match fzs S1 ds with
      | some (ds', S2) => match S2[n]? with
        | some (.lst xs) => if gnds xs then match F (.obj 0 :: ds') [.lst xs] with
            | .ok d (.lst ys :: _) => if gnds ys then .ok d (S2.set n (.lst ys)) else .bad
            | .exn x (.lst ys :: _) => if gnds ys then .exn x (S2.set n (.lst ys)) else .bad
            | _ => .bad
          else .bad
        | _ => .bad
      | none => .bad
    | _ => .bad) Q := h
  cases q0 : fa ρ S0 with
  | bad => rw [q0] at h'; exact h'
  | exn x S1 => rw [q0] at h'; exact h'
  | ok ds S =>
    rw [q0] at h'
    intro vs μ H1 x0 st rs
    have hlen := hn ρ S0 ds S q0
    rw [RE.bind_ok] at h'
    match ds, rs, hlen, h' with
    | .obj n :: ds, rs, hlen, h' =>
      dsimp only at h'
      obtain ⟨v0, vr, ev, r0, rs⟩ := rs
      obtain ⟨a, ev0, ha⟩ := r0
      have ha : μ[n]? = some a := ha
      cases q : fzs S ds with
      | none => rw [q] at h'; exact h'.elim
      | some p =>
        obtain ⟨ds', S2⟩ := p
        rw [q] at h'
        dsimp only at h'
        obtain ⟨b1, b2, b3, b4, b5⟩ := fzs_ok st rs q
        cases q2 : S2[n]? with
        | none => rw [q2] at h'; exact h'.elim
        | some o =>
          rw [q2] at h'
          cases o with
          | frz xs => exact h'.elim
          | lst xs =>
            dsimp only at h'
            by_cases g0 : gnds xs = true
            · rw [if_pos g0] at h'
              obtain ⟨ws, w1, w2⟩ := b1.lst n a xs ha q2
              have nφ : ¬ φ a := b1.dis a (List.mem_of_getElem? ha)
              have la : live S2 μ a := ⟨n, xs, q2, ha⟩
              -- the callee's frame: the others
              have lin : ∀ b, live [MO.lst xs] [a] b → b = a := fun b ⟨k, zs, h1, h2⟩ => by
                cases k with
                | zero => simpa using h2.symm
                | succ k => simp at h2
              have mvIn : Move φ H1 (live S2 μ) (fun b => φ b ∨ (live S2 μ b ∧ b ≠ a)) H1 (live [MO.lst xs] [a]) := ⟨fun _ _ h _ _ => h, fun b o ho l _ z => l (by rw [lin b z]; exact la), fun b o _ p l z => z.elim p fun z => l z.1⟩
              have stIn : StoR X.K (fun b => φ b ∨ (live S2 μ b ∧ b ≠ a)) ⟨[a], [.lst xs], H1⟩ := by
                refine ⟨rfl, by simp, fun b z => ?_, fun k b zs z1 z2 => ?_, fun k b zs z1 z2 => ?_, fun b z => ?_⟩
                · have e : b = a := by simpa using z
                  rw [e]
                  exact fun z => z.elim nφ fun z => z.2 rfl
                · cases k with
                  | succ k => simp at z1
                  | zero =>
                    have e1 : a = b := by simpa using z1
                    have e2 : xs = zs := by simpa using z2
                    subst e1 e2
                    exact ⟨ws, w1, Reps.move mvIn xs g0 w2⟩
                · cases k with
                  | succ k => simp at z1
                  | zero => simp at z2
                · rcases z with z | z
                  · exact b1.thr b z
                  · obtain ⟨vs, e⟩ := b1.liveTracked z.1
                    exact ⟨_, e⟩
              -- behind it
              have fin : ∀ {μ' : List Addr} {ys : List D} {r : Sto} {H' : Hp}, Ext ⟨[a], [.lst xs], H1⟩ ⟨μ', .lst ys :: r, H'⟩ → StoR X.K (fun b => φ b ∨ (live S2 μ b ∧ b ≠ a)) ⟨μ', .lst ys :: r, H'⟩ → gnds ys = true →
                  Ext ⟨μ0, S0, H⟩ ⟨μ, S2.set n (.lst ys), H'⟩ ∧ StoR X.K φ ⟨μ, S2.set n (.lst ys), H'⟩ ∧ Move (fun b => φ b ∨ (live S2 μ b ∧ b ≠ a)) H' (live (.lst ys :: r) μ') φ H' (live (S2.set n (.lst ys)) μ) := fun {μ' ys r H'} x st' gy => by
                have h0 : μ'[0]? = some a := by
                  obtain ⟨ν, e⟩ := x.pre
                  have e : μ' = [a] ++ ν := e
                  rw [e]
                  rfl
                obtain ⟨us, u1, u2⟩ := st'.lst 0 a ys h0 rfl
                have keep : ∀ b o, H1 b = some o → b ≠ a → H' b = some o := fun b o h ne => x.keep b o h fun l => ne (lin b l)
                have la' : live (.lst ys :: r) μ' a := ⟨0, ys, rfl, h0⟩
                have lset : ∀ b, live (S2.set n (.lst ys)) μ b → b = a ∨ (live S2 μ b ∧ b ≠ a) := fun b z => by
                  by_cases e : b = a
                  · exact .inl e
                  · obtain ⟨k, zs, h1, h2⟩ := z
                    refine .inr ⟨?_, e⟩
                    by_cases ek : k = n
                    · subst ek
                      have h2 : μ[k]? = some b := h2
                      rw [ha] at h2
                      cases h2
                      exact absurd rfl e
                    · rw [List.getElem?_set_ne (Ne.symm ek)] at h1
                      exact ⟨k, zs, h1, h2⟩
                have mvOut : Move (fun b => φ b ∨ (live S2 μ b ∧ b ≠ a)) H' (live (.lst ys :: r) μ') φ H' (live (S2.set n (.lst ys)) μ) := by
                  refine ⟨fun _ _ h _ _ => h, fun b o ho l p z => ?_, fun b o ho p l z => p (.inl z)⟩
                  rcases lset b z with e | z
                  · exact l (by rw [e]; exact la')
                  · rcases p with p | ⟨ts, e⟩
                    · exact p (.inr z)
                    · obtain ⟨vs, e2⟩ := b1.liveTracked z.1
                      have e3 := keep b _ e2 z.2
                      subst e
                      cases (show H' b = _ from ho).symm.trans e3
                -- the new items, read over the old heap's frame
                have mvY : Move (fun b => φ b ∨ (live S2 μ b ∧ b ≠ a)) H' (live (.lst ys :: r) μ') φ H' (live (S2.set n (.lst ys)) μ) := mvOut
                have rY : (Sn.mk μ (S2.set n (.lst ys)) H').Reps X.K φ ys us := Reps.move mvY ys gy u2
                have st3 : StoR X.K φ ⟨μ, S2.set n (.lst ys), H'⟩ ∧ Ext ⟨μ, S2, H1⟩ ⟨μ, S2.set n (.lst ys), H'⟩ := by
                  have hl := (List.getElem?_eq_some_iff.mp q2).1
                  have x3 : Ext ⟨μ, S2, H1⟩ ⟨μ, S2.set n (.lst ys), H'⟩ := ⟨⟨[], by simp⟩, fun b o h l => keep b o h fun e => l (by rw [e]; exact la), fun b o _ h l => (lset b l).elim (fun e => h (by rw [e]; exact la)) fun z => h z.1, fun _ h n => absurd h n, fun b h => by
                    by_cases e : b = a
                    · rw [e] at h
                      cases u1.symm.trans h
                    · cases q : H1 b with
                      | none => exact q
                      | some o => cases (keep b o q e).symm.trans h⟩
                  refine ⟨⟨by simpa using b1.len, b1.nd, b1.dis, fun k b zs h1 h2 => ?_, fun k b zs h1 h2 => ?_, fun b p => ?_⟩, x3⟩
                  · have h2 : (S2.set n (.lst ys))[k]? = some (.lst zs) := h2
                    by_cases e : k = n
                    · subst e
                      rw [List.getElem?_set_self hl] at h2
                      cases h2
                      have h1 : μ[k]? = some b := h1
                      rw [ha] at h1
                      cases h1
                      exact ⟨us, u1, rY⟩
                    · rw [List.getElem?_set_ne (Ne.symm e)] at h2
                      obtain ⟨vs, q1, q2⟩ := b1.lst k b zs h1 h2
                      exact ⟨vs, keep b _ q1 (fun z => e (b1.inj (a := a) (by rw [← z]; exact h1) ha)), x3.reps q2⟩
                  · have h2 : (S2.set n (.lst ys))[k]? = some (.frz zs) := h2
                    by_cases e : k = n
                    · subst e
                      rw [List.getElem?_set_self hl] at h2
                      cases h2
                    · rw [List.getElem?_set_ne (Ne.symm e)] at h2
                      obtain ⟨vs, q1, q2⟩ := b1.frz k b zs h1 h2
                      have ne : b ≠ a := fun z => e (b1.inj (a := a) (by rw [← z]; exact h1) ha)
                      refine ⟨vs, ?_, x3.reps q2⟩
                      rcases q1 with q1 | ⟨o, q1⟩
                      · exact .inl (keep b _ q1 ne)
                      · exact .inr ⟨o, keep b _ q1 ne⟩
                  · obtain ⟨o, e⟩ := b1.thr b p
                    exact ⟨o, keep b o e fun z => nφ (by rw [← z]; exact p)⟩
                exact ⟨(x0.trans b2).trans st3.2, st3.1, mvOut⟩
              refine ⟨fun b => φ b ∨ (live S2 μ b ∧ b ≠ a), [a], [.lst xs], .obj 0 :: ds', stIn, by rw [List.length_cons, b5]; exact hlen, ⟨v0, vr, ev, ⟨a, ev0, rfl⟩, Reps.move mvIn ds' b4 b3⟩, ?_⟩
              cases qf : F (.obj 0 :: ds') [.lst xs] with
              | bad => rw [qf] at h'; exact h'
              | exn z S3 =>
                rw [qf] at h'
                match S3, h' with
                | [], h' => exact h'.elim
                | .frz _ :: _, h' => exact h'.elim
                | .lst ys :: r, h' =>
                  dsimp only at h'
                  by_cases gy : gnds ys = true
                  · rw [if_pos gy] at h'
                    intro c dd μ' H' x st' ex
                    obtain ⟨c1, c2, c3⟩ := fin x st' gy
                    exact h' c dd μ H' c1 c2 ex
                  · rw [if_neg gy] at h'
                    exact h'.elim
              | ok d S3 =>
                rw [qf] at h'
                match S3, h' with
                | [], h' => exact h'.elim
                | .frz _ :: _, h' => exact h'.elim
                | .lst ys :: r, h' =>
                  dsimp only at h'
                  by_cases gy : gnds ys = true
                  · rw [if_pos gy] at h'
                    intro v μ' H' x st' ⟨rv, g⟩
                    obtain ⟨c1, c2, c3⟩ := fin x st' gy
                    exact h' v μ H' c1 c2 (Rep.move c3 d g rv)
                  · rw [if_neg gy] at h'
                    exact h'.elim
            · rw [if_neg g0] at h'
              exact h'.elim
    | [], _, _, h' => exact h'.elim
    | .non :: _, _, _, h' => exact h'.elim
    | .bl _ :: _, _, _, h' => exact h'.elim
    | .int _ :: _, _, _, h' => exact h'.elim
    | .str _ :: _, _, _, h' => exact h'.elim
    | .tup _ :: _, _, _, h' => exact h'.elim
    | .lst _ :: _, _, _, h' => exact h'.elim
    | .dct _ _ :: _, _, _, h' => exact h'.elim
theorem none_del {H' : Hp} {a : Addr} {ws : List V} (ha : H' a = some (.lst ws)) : upd (fun b => if b = a then none else H' b) a (.lst ws) = H' := by
  funext b
  by_cases e : b = a
  · rw [e, upd_same]
    exact ha.symm
  · rw [upd_ne e]
    exact if_neg e
end
end Den
end

section
set_option Elab.async false
set_option linter.all false
set_option maxRecDepth 100000
namespace Den
open PySem PySem.Spec PyProof.Rows L2
section
variable {K : PySem.W.Frag} {mg : Str → Option Value} {φ : ASet}
/-! ### ints -/
theorem Same.rfl' (H : Hp) : Same H H := Same.refl H
theorem od_int {f : Sto → D → D → Option D} {g : Int → Int → V} {h : Int → Int → D} {C : Int → Int → Prop} (hf : ∀ S d e z, f S d e = some z → ∃ i j, d = .int i ∧ e = .int j ∧ z = h i j ∧ C i j) (hg : ∀ φ s i j, Sn.Rep K φ s (h i j) (g i j)) : OpD K f (rI C g) := by
  intro φ μ S H d e z v w Q st r1 r2 q k
  obtain ⟨i, j, rfl, rfl, rfl, c⟩ := hf S d e z q
  exact ⟨i, j, r1, r2, c, k _ H (Same.refl H) (hg φ _ i j)⟩
theorem od_int0 {f : Sto → D → D → Option D} {g : Int → Int → V} {h : Int → Int → D} (hf : ∀ S d e z, f S d e = some z → ∃ i j, d = .int i ∧ e = .int j ∧ z = h i j) (hg : ∀ φ s i j, Sn.Rep K φ s (h i j) (g i j)) : OpD K f (rI0 g) := by
  intro φ μ S H d e z v w Q st r1 r2 q k
  obtain ⟨i, j, rfl, rfl, rfl⟩ := hf S d e z q
  exact ⟨i, j, r1, r2, k _ H (Same.refl H) (hg φ _ i j)⟩
theorem od_add : OpD K oAdd (rI0 fun i j => .int (i + j)) := od_int0 (h := fun i j => .int (i + j)) (fun S d e z q => by
  cases d <;> cases e <;> cases q
  exact ⟨_, _, rfl, rfl, rfl⟩) fun _ _ _ _ => rfl
theorem od_sub : OpD K oSub (rI0 fun i j => .int (i - j)) := od_int0 (h := fun i j => .int (i - j)) (fun S d e z q => by
  cases d <;> cases e <;> cases q
  exact ⟨_, _, rfl, rfl, rfl⟩) fun _ _ _ _ => rfl
theorem od_lt : OpD K oLt (rI0 fun i j => .bl (decide (i < j))) := od_int0 (h := fun i j => .bl (decide (i < j))) (fun S d e z q => by
  cases d <;> cases e <;> cases q
  exact ⟨_, _, rfl, rfl, rfl⟩) fun _ _ _ _ => rfl
theorem od_le : OpD K oLe (rI0 fun i j => .bl (decide (i ≤ j))) := od_int0 (h := fun i j => .bl (decide (i ≤ j))) (fun S d e z q => by
  cases d <;> cases e <;> cases q
  exact ⟨_, _, rfl, rfl, rfl⟩) fun _ _ _ _ => rfl
theorem od_gt : OpD K oGt (rI0 fun i j => .bl (decide (j < i))) := od_int0 (h := fun i j => .bl (decide (j < i))) (fun S d e z q => by
  cases d <;> cases e <;> cases q
  exact ⟨_, _, rfl, rfl, rfl⟩) fun _ _ _ _ => rfl
theorem od_ge : OpD K oGe (rI0 fun i j => .bl (decide (j ≤ i))) := od_int0 (h := fun i j => .bl (decide (j ≤ i))) (fun S d e z q => by
  cases d <;> cases e <;> cases q
  exact ⟨_, _, rfl, rfl, rfl⟩) fun _ _ _ _ => rfl
theorem od_mul : OpD K oMul (rI CMulW fun i j => .int (i * j)) := od_int (h := fun i j => .int (i * j)) (fun S d e z q => by
  unfold oMul at q
  split at q
  · rename_i i j
    by_cases c : wMul i j = true
    · rw [if_pos c] at q
      cases q
      exact ⟨_, _, rfl, rfl, rfl, (by unfold CMulW; exact of_decide_eq_true (show decide (i.natAbs.log2 + j.natAbs.log2 < 1000000) = true from c))⟩
    · rw [if_neg c] at q
      cases q
  · cases q) fun _ _ _ _ => rfl
def CDivA (_ j : Int) : Prop := j ≠ 0 ∧ j.natAbs.log2 < 9000
theorem op_fdivA {X : Cx} : OpR X (binaryOp .FloorDiv) (rI CDivA fun i j => .int (i.fdiv j)) := opI fun i j _ _ _ _ _ hc q => floordiv_int hc.1 q (.inl (PyProof.noPylong_of_log2 hc.2))
theorem od_div : OpD K oDiv (rI CDivA fun i j => .int (i.fdiv j)) := od_int (h := fun i j => .int (i.fdiv j)) (fun S d e z q => by
  unfold oDiv at q
  split at q
  · rename_i i j
    by_cases c : wDiv j = true
    · rw [if_pos c] at q
      cases q
      unfold wDiv at c
      rw [Bool.and_eq_true, decide_eq_true_eq, decide_eq_true_eq] at c
      exact ⟨_, _, rfl, rfl, rfl, c⟩
    · rw [if_neg c] at q
      cases q
  · cases q) fun _ _ _ _ => rfl
theorem od_mod : OpD K oMod (rI (fun _ j => j ≠ 0) fun i j => .int (i.fmod j)) := od_int (h := fun i j => .int (i.fmod j)) (fun S d e z q => by
  unfold oMod at q
  split at q
  · rename_i i j
    by_cases c : j ≠ 0
    · rw [if_pos c] at q
      cases q
      exact ⟨_, _, rfl, rfl, rfl, c⟩
    · rw [if_neg c] at q
      cases q
  · cases q) fun _ _ _ _ => rfl
theorem od_pow : OpD K oPow (rI CPow fun i j => .int (i ^ j.toNat)) := od_int (h := fun i j => .int (i ^ j.toNat)) (fun S d e z q => by
  unfold oPow at q
  split at q
  · rename_i i j
    by_cases c : 0 ≤ j ∧ j ≤ 1000000 ∧ i.natAbs < 2 ^ 64
    · rw [if_pos c] at q
      cases q
      exact ⟨_, _, rfl, rfl, rfl, c⟩
    · rw [if_neg c] at q
      cases q
  · cases q) fun _ _ _ _ => rfl
theorem ud_neg : UnD K oNeg (rU fun i => .int (-i)) := by
  intro φ μ S H d z v Q st r q k
  cases d <;> cases q
  exact ⟨_, r, k _ H (Same.refl H) rfl⟩
/-! ### is None -/
theorem rep_non {s : Sn} {d : D} {v : V} (r : s.Rep K φ d v) : decide (v = V.non) = isN d := by
  cases d with
  | non => rw [show v = .non from r]; rfl
  | bl b => rw [show v = .bl b from r]; rfl
  | int b => rw [show v = .int b from r]; rfl
  | str b => rw [show v = .str b from r]; rfl
  | tup ds => obtain ⟨a, vs, e, _⟩ := r; rw [e]; rfl
  | lst ds => obtain ⟨a, vs, e, _⟩ := r; rw [e]; rfl
  | dct ks ws => obtain ⟨_, _, a, e, _⟩ := r; rw [e]; rfl
  | obj n => obtain ⟨a, e, _⟩ := r; rw [e]; rfl
/-! ### sequences -/
/-- the items of what is a list or a tuple, in the heap -/
theorem seqv_at {μ : List Addr} {S : Sto} {H : Hp} {d : D} {xs : List D} {v : V} (st : StoR K φ ⟨μ, S, H⟩) (r : (Sn.mk μ S H).Rep K φ d v) (h : seqv S d = some xs) :
    ∃ a vs, v = .ref a ∧ (SqL K H a vs ∨ SqT K H a vs) ∧ (Sn.mk μ S H).Reps K φ xs vs := by
  cases d with
  | tup ds =>
    cases h
    obtain ⟨a, vs, e, t, rs⟩ := r
    refine ⟨a, vs, e, .inr ?_, rs⟩
    rcases t with ⟨t, _⟩ | t
    · exact .inl (.inl t)
    · rcases t with t | t
      · rcases t with t | ⟨_, t⟩ <;> cases t
      · exact .inr t
  | lst ds =>
    cases h
    obtain ⟨a, vs, e, t, rs⟩ := r
    exact ⟨a, vs, e, .inl t.sq, rs⟩
  | obj n =>
    obtain ⟨a, e, ha⟩ := r
    unfold seqv at h
    cases q : S[n]? with
    | none => simp [q] at h
    | some o =>
      cases o with
      | lst ys =>
        simp [q] at h
        subst h
        obtain ⟨vs, q1, q2⟩ := st.lst n a ys ha q
        exact ⟨a, vs, e, .inl (.inl (.inl q1)), q2⟩
      | frz ys =>
        simp [q] at h
        subst h
        obtain ⟨vs, q1, q2⟩ := st.frz n a ys ha q
        exact ⟨a, vs, e, .inl (.inl q1), q2⟩
  | _ => cases h
theorem ixAt_at {ds : List D} {vs : List V} {s : Sn} {i : Int} {d : D} (r : s.Reps K φ ds vs) (h : ixAt ds i = some d) : ∃ v, atI vs i = some v ∧ s.Rep K φ d v := by
  have l := r.length
  unfold ixAt at h
  unfold atI L2.ixN
  by_cases h0 : 0 ≤ i
  · rw [if_pos h0] at h ⊢
    obtain ⟨v, q1, q2⟩ := r.get h
    have hlt := (List.getElem?_eq_some_iff.mp q1).1
    rw [if_pos (by omega)]
    exact ⟨v, q1, q2⟩
  · rw [if_neg h0] at h ⊢
    by_cases h1 : -(ds.length : Int) ≤ i
    · rw [if_pos h1] at h
      rw [if_pos (by omega)]
      obtain ⟨v, q1, q2⟩ := r.get h
      refine ⟨v, ?_, q2⟩
      show vs[(i + vs.length).toNat]? = some v
      rw [l]
      exact q1
    · rw [if_neg h1] at h
      cases h
theorem od_ix : OpD K oIx (rIx K) := by
  intro φ μ S H d e z v w Q st r1 r2 q k
  unfold oIx at q
  split at q
  · rename_i xs i hs
    obtain ⟨a, vs, ev, t, rs⟩ := seqv_at st r1 hs
    obtain ⟨u, q1, q2⟩ := ixAt_at rs q
    subst ev
    rcases t with t | t
    · exact .inl ⟨a, vs, i, u, rfl, r2, t, q1, k u H (Same.refl H) q2⟩
    · exact .inr (.inl ⟨a, vs, i, u, rfl, r2, t, q1, k u H (Same.refl H) q2⟩)
  · cases q
theorem pd_ix {X : Cx} {W : WX} {a b : Expr} {fa fb : DE} {pos : Pos} (ha : PD X W a fa) (hb : PD X W b fb) (hs : PlainIx b := by exact fun _ _ => rfl) : PD X W (.Subscript a b pos) (eOp oIx fa fb) := pe_imp (pe_ix ix_seq ha hb hs) (of_op od_ix)
/-! ### built-ins by values -/
def CallD1 (K : PySem.W.Frag) (f : Sto → D → Option D) (r : List V → Hp → VK → Prop) : Prop := UnD K f (fun v H Q => r [v] H Q)
def CallD2 (K : PySem.W.Frag) (f : Sto → D → D → Option D) (r : List V → Hp → VK → Prop) : Prop := OpD K f (fun v w H Q => r [v, w] H Q)
theorem pd_b1 {X : Cx} {W : WX} {e : Expr} {fa : DE} {f : Sto → D → Option D} {r : List V → Hp → VK → Prop} (hf : CallD1 X.K f r) (h : PE X e (tCB r (tCons (tD X.K X.mg W fa) L2.tNil))) : PD X W e (eUn f fa) := pe_imp h fun σ H Q q => of_un hf σ H Q q
theorem pd_b2 {X : Cx} {W : WX} {e : Expr} {fa fb : DE} {f : Sto → D → D → Option D} {r : List V → Hp → VK → Prop} (hf : CallD2 X.K f r) (h : PE X e (tCB r (tCons (tD X.K X.mg W fa) (tCons (tD X.K X.mg W fb) L2.tNil)))) : PD X W e (eOp f fa fb) := pe_imp h fun σ H Q q => of_op hf σ H Q q
theorem cd_len : CallD1 K oLen (fun xs H Q => ∃ x n, xs = [x] ∧ LenV K x H n ∧ Q (.int n) H) := by
  intro φ μ S H d z v Q st r q k
  have seqs : ∀ {d}, (Sn.mk μ S H).Rep K φ d v → (seqv S d).map (fun xs => D.int xs.length) = some z → ∃ x n, [v] = [x] ∧ LenV K x H n ∧ Q (.int n) H := fun {d} r q => by
    cases q1 : seqv S d with
    | none => rw [q1] at q; cases q
    | some xs =>
      rw [q1] at q
      cases q
      obtain ⟨a, vs, ev, t, rs⟩ := seqv_at st r q1
      subst ev
      refine ⟨_, vs.length, rfl, ?_, k _ H (Same.refl H) (by rw [rs.length]; rfl)⟩
      rcases t with t | t
      · exact .inl ⟨vs, t, rfl⟩
      · exact .inr ⟨vs, t, rfl⟩
  cases d with
  | str x =>
    unfold oLen at q
    dsimp only at q
    by_cases c : x.length ≤ 16777216
    · rw [if_pos c] at q
      cases q
      rw [show v = .str x from r]
      exact ⟨_, _, rfl, ⟨by rw [sizeLine_eq]; exact c, rfl⟩, k _ H (Same.refl H) rfl⟩
    · rw [if_neg c] at q
      cases q
  | non => exact seqs r q
  | bl _ => exact seqs r q
  | int _ => exact seqs r q
  | tup _ => exact seqs r q
  | lst _ => exact seqs r q
  | dct _ _ => exact seqs r q
  | obj _ => exact seqs r q
theorem cd_abs : CallD1 K oAbs (fun xs H Q => ∃ i, xs = [.int i] ∧ Q (.int (if i < 0 then -i else i)) H) := by
  intro φ μ S H d z v Q st r q k
  cases d <;> cases q
  rw [show v = _ from r]
  exact ⟨_, rfl, k _ H (Same.refl H) rfl⟩
theorem cd_int : CallD1 K oInt (fun xs H Q => (∃ i, xs = [.int i] ∧ Q (.int i) H) ∨ ∃ k, xs = [.bl k] ∧ Q (.int (if k then 1 else 0)) H) := by
  intro φ μ S H d z v Q st r q k
  cases d <;> cases q
  · rw [show v = _ from r]
    exact .inr ⟨_, rfl, k _ H (Same.refl H) rfl⟩
  · rw [show v = _ from r]
    exact .inl ⟨_, rfl, k _ H (Same.refl H) rfl⟩
theorem cd_min : CallD2 K oMin (fun xs H Q => ∃ i j, xs = [.int i, .int j] ∧ Q (.int (if j < i then j else i)) H) := by
  intro φ μ S H d e z v w Q st r1 r2 q k
  cases d <;> cases e <;> cases q
  rw [show v = _ from r1, show w = _ from r2]
  exact ⟨_, _, rfl, k _ H (Same.refl H) rfl⟩
theorem cd_max : CallD2 K oMax (fun xs H Q => ∃ i j, xs = [.int i, .int j] ∧ Q (.int (if j > i then j else i)) H) := by
  intro φ μ S H d e z v w Q st r1 r2 q k
  cases d <;> cases e <;> cases q
  rw [show v = _ from r1, show w = _ from r2]
  exact ⟨_, _, rfl, k _ H (Same.refl H) rfl⟩
/-! ### new lists -/
theorem new_lst {W : WX} {σ : L2.St} {μ : List Addr} {S : Sto} {H : Hp} {live_ : Bool} {ds : List D} {vs : List V} {p : Addr} {Q : VK} (st : StoR K φ ⟨μ, S, H⟩) (rs : (Sn.mk μ S H).Reps K φ ds vs) (hp : H p = none)
    (h : Sat K mg φ (fun s => s.Rep K φ) W σ ⟨μ, S, H⟩ (mkL live_ ds S) Q) : Q (.ref p) (upd H p (.lst vs)) := by
  have sm := same_new (o := .lst vs) hp
  have nφ : ¬ φ p := fun z => by
    obtain ⟨o, e⟩ := st.thr p z
    cases hp.symm.trans e
  cases live_ with
  | false =>
    refine h _ μ _ (ext_same sm) (st.same sm) ⟨p, vs, rfl, .inl ⟨.inl upd_same, nφ, fun l => ?_⟩, (ext_same sm).reps rs⟩
    obtain ⟨ws, e⟩ := st.liveTracked l
    cases hp.symm.trans e
  | true =>
    have lS : S.length = μ.length := st.len
    have nμ : p ∉ μ := fun z => by
      obtain ⟨n, hn⟩ := List.getElem?_of_mem z
      have hlt : n < S.length := by rw [lS]; exact (List.getElem?_eq_some_iff.mp hn).1
      have e : S[n]? = some S[n] := by simp [hlt]
      cases q : S[n] with
      | lst xs =>
        rw [q] at e
        obtain ⟨ws, e2, _⟩ := st.lst n p xs hn e
        cases hp.symm.trans e2
      | frz xs =>
        rw [q] at e
        obtain ⟨ws, e2, _⟩ := st.frz n p xs hn e
        rcases e2 with e2 | ⟨o, e2⟩ <;> cases hp.symm.trans e2
    have lv : ∀ a, live (S ++ [.lst ds]) (μ ++ [p]) a → live S μ a ∨ a = p := fun a ⟨n, xs, h1, h2⟩ => by
      by_cases hn : n < S.length
      · rw [List.getElem?_append_left hn] at h1
        rw [List.getElem?_append_left (by omega)] at h2
        exact .inl ⟨n, xs, h1, h2⟩
      · by_cases hn2 : n = S.length
        · subst hn2
          rw [lS, List.getElem?_append_right (Nat.le_refl _)] at h2
          exact .inr (by simpa using h2.symm)
        · rw [List.getElem?_eq_none (by simp; omega)] at h1
          cases h1
    have x : Ext ⟨μ, S, H⟩ ⟨μ ++ [p], S ++ [.lst ds], upd H p (.lst vs)⟩ := ⟨⟨[p], rfl⟩, fun a o h _ => sm a o h, fun a o h l z => (lv a z).elim l (fun e => by
      rw [e] at h
      cases hp.symm.trans h), (fun a h n => by
      rcases List.mem_append.mp h with h | h
      · exact absurd h n
      · have e : a = p := by simpa using h
        rw [e]
        exact hp), fun a h => sm.free h⟩
    refine h _ (μ ++ [p]) _ x ⟨by simp [lS], ?_, fun a z => ?_, fun n a xs h1 h2 => ?_, fun n a xs h1 h2 => ?_, fun a z => ?_⟩ ⟨p, rfl, ?_⟩
    · exact List.nodup_append.mpr ⟨st.nd, by simp, fun a ha b hb e => nμ (by
        have : b = p := by simpa using hb
        rw [← this, ← e]
        exact ha)⟩
    · rcases List.mem_append.mp z with z | z
      · exact st.dis a z
      · have : a = p := by simpa using z
        rw [this]
        exact nφ
    · have h1 : (μ ++ [p])[n]? = some a := h1
      have h2 : (S ++ [.lst ds])[n]? = some (.lst xs) := h2
      by_cases hn : n < S.length
      · rw [List.getElem?_append_left (by omega)] at h1
        rw [List.getElem?_append_left hn] at h2
        obtain ⟨ws, q1, q2⟩ := st.lst n a xs h1 h2
        exact ⟨ws, sm _ _ q1, x.reps q2⟩
      · by_cases hn2 : n = S.length
        · subst hn2
          rw [lS, List.getElem?_append_right (Nat.le_refl _)] at h1
          rw [List.getElem?_append_right (Nat.le_refl _)] at h2
          have e1 : p = a := by simpa using h1
          have e2 : ds = xs := by simpa using h2
          subst e1 e2
          exact ⟨vs, upd_same, x.reps rs⟩
        · rw [List.getElem?_eq_none (by simp; omega)] at h2
          cases h2
    · have h1 : (μ ++ [p])[n]? = some a := h1
      have h2 : (S ++ [.lst ds])[n]? = some (.frz xs) := h2
      by_cases hn : n < S.length
      · rw [List.getElem?_append_left (by omega)] at h1
        rw [List.getElem?_append_left hn] at h2
        obtain ⟨ws, q1, q2⟩ := st.frz n a xs h1 h2
        refine ⟨ws, ?_, x.reps q2⟩
        rcases q1 with q1 | ⟨o, q1⟩
        · exact .inl (sm _ _ q1)
        · exact .inr ⟨o, sm _ _ q1⟩
      · by_cases hn2 : n = S.length
        · subst hn2
          rw [List.getElem?_append_right (Nat.le_refl _)] at h2
          simp at h2
        · rw [List.getElem?_eq_none (by simp; omega)] at h2
          cases h2
    · obtain ⟨o, e⟩ := st.thr a z
      exact ⟨o, sm _ _ e⟩
    · show (μ ++ [p])[S.length]? = some p
      rw [lS, List.getElem?_append_right (Nat.le_refl _)]
      simp
theorem pd_lst {X : Cx} {W : WX} {es : List Expr} {g : DA} {pos : Pos} (lv : Bool) (h : PDA X W es g) (hn : es.length ≤ 1000 := by decide) (hg : ∀ ρ S ds S', g ρ S = .ok ds S' → ds.length = es.length) : PD X W (.List es pos) (eLst lv g) := pe_imp (pe_lst h) fun σ H Q h => by
  obtain ⟨φ, μ, ρ, S, st, en, h⟩ := h
  refine ⟨φ, μ, ρ, S, st, en, ?_⟩
  have h' : Sat X.K X.mg φ (fun s => s.Rep X.K φ) W σ ⟨μ, S, H⟩ ((g ρ S).bind fun xs S1 => mkL lv xs S1) Q := h
  cases e : g ρ S with
  | bad => rw [e] at h'; exact h'.elim
  | exn x S1 => rw [e] at h'; exact h'
  | ok ds S1 =>
    rw [e] at h'
    intro vs μ1 H1 x1 st1 rs
    refine ⟨?_, fun p hp => ?_⟩
    · rw [rs.length, hg ρ S ds S1 e]
      exact Nat.le_trans hn (by rw [sizeLine_eq]; decide)
    · exact new_lst (W := W) (σ := σ) (live_ := lv) st1 rs hp (Sat.later (show Sat X.K X.mg φ (fun s => s.Rep X.K φ) W σ ⟨μ, S, H⟩ (mkL lv ds S1) Q from h') x1)
/-- list(x) -/
theorem pd_list {X : Cx} {W : WX} {e : Expr} {fa : DE} (lv : Bool) (h : PE X e (tCB (fun xs H Q => ∃ p ys, xs = [.ref p] ∧ (SqL X.K H p ys ∨ SqT X.K H p ys) ∧ ∀ l, H l = none → Q (.ref l) (upd H l (.lst ys))) (tCons (tD X.K X.mg W fa) L2.tNil))) : PD X W e (eNew lv nList fa) := pe_imp h fun σ H Q h => by
  refine tG.first (f := fa) (k := fun ρ x S1 => (RE.of (nList S1 x) S1).bind fun xs S2 => mkL lv xs S2) h fun φ μ ρ S d v H1 st en rv h1 => ?_
  cases q : nList S d with
  | none => rw [q] at h1; exact h1.elim
  | some xs =>
    rw [q] at h1
    obtain ⟨a, vs, ev, t, rs⟩ := seqv_at st rv q
    subst ev
    exact ⟨a, vs, rfl, t, fun l hl => new_lst (W := W) (σ := σ) (live_ := lv) st rs hl h1⟩
/-! ### lists of the store changed -/
theorem ixN_eq (n : Nat) (i : Int) : Den.ixN n i = L2.ixN n i := rfl
theorem pds_setIx {X : Cx} {W : WX} {o i e : Expr} {fo fi fe : DE} {pos tpos : Pos} (ho : PD X W o fo) (hi : PD X W i fi) (he : PD X W e fe)
    (ha : ∀ v, assign (.Subscript o i tpos) X.env v = (do
      let ov ← holding [v] (eval o X.env)
      let iv ← holding [v, ov] (eval i X.env)
      standAt tpos
      holding [v, ov, iv] (setItem ov iv v)
      release [v, ov, iv] []) := by intro _; rfl)
    (hs : swapsWithSole [.Subscript o i tpos] e pos.line X.env = pure false := by rfl) (hw : swappedStores [.Subscript o i tpos] e X.env = pure none := by rfl)
    (h1 : (assignEach [.Subscript o i tpos] X.env).map (·.2) = [assign (.Subscript o i tpos) X.env] := by rfl) : PDS X W (.Assign [.Subscript o i tpos] e pos) (sSetIx fo fi fe) :=
  ps_imp (ps_asg he (pg_sub ho hi set_list ha) hs hw h1) fun D σ H h => by
    obtain ⟨φ, μ, ρ, S, st, en, h⟩ := h
    refine ⟨φ, μ, ρ, S, st, en, (SatS.seq (Rl := fun s => s.Rep X.K φ) h en).imp ?_⟩
    rintro v H1 ⟨μ1, S1, d, x1, st1, r1, h1⟩
    have en1 := en.ext x1
    refine ⟨φ, μ1, ρ, S1, st1, en1, (SatS.seq (Rl := fun s => s.Rep X.K φ) h1 en1).imp ?_⟩
    rintro o2 H2 ⟨μ2, S2, d2, x2, st2, r2, h2⟩
    have en2 := en1.ext x2
    refine ⟨φ, μ2, ρ, S2, st2, en2, (SatS.seq (Rl := fun s => s.Rep X.K φ) h2 en2).imp ?_⟩
    rintro o3 H3 ⟨μ3, S3, d3, x3, st3, r3, h3⟩
    have en3 := en2.ext x3
    have r2' := x3.rep r2
    have r1' := (x2.trans x3).rep r1
    cases d2 with
    | obj n =>
      cases d3 with
      | int k =>
        dsimp only at h3
        obtain ⟨a, ea, ha⟩ := r2'
        have ha : μ3[n]? = some a := ha
        cases q : S3[n]? with
        | none => rw [q] at h3; exact h3.elim
        | some m =>
          rw [q] at h3
          cases m with
          | frz xs => exact h3.elim
          | lst xs =>
            dsimp only at h3
            cases q2 : Den.ixN xs.length k with
            | none =>
              rw [show setIx xs k d = none by unfold setIx; rw [q2]; rfl] at h3
              exact h3.elim
            | some j =>
              rw [show setIx xs k d = some (xs.set j d) by unfold setIx; rw [q2]; rfl] at h3
              obtain ⟨vs, q3, q4⟩ := st3.lst n a xs ha q
              have ev3 : o3 = .int k := r3
              subst ev3 ea
              refine ⟨a, vs, k, j, rfl, rfl, q3, by rw [q4.length]; exact q2, ?_⟩
              obtain ⟨s4, x4⟩ := set_sto (ys := xs.set j d) (ws := vs.set j v) st3 ha q (fun b o h ne => by rw [upd_ne ne]; exact h) upd_same (Reps.set r1' j q4)
              exact h3 σ μ3 _ x4 s4 (en3.ext x4)
      | _ => exact h3.elim
    | _ => cases d3 <;> exact h3.elim
theorem pd_append {X : Cx} {W : WX} {e : Expr} {fo fe : DE} (h : PE X e (tBM X.K "list" rAppend (tD X.K X.mg W fo) (tCons (tD X.K X.mg W fe) L2.tNil))) : PD X W e (eAppend fo fe) := pe_imp h fun σ H Q h => by
  obtain ⟨φ, μ, ρ, S, st, en, h⟩ := h
  refine ⟨φ, μ, ρ, S, st, en, (Sat.bind (Rl := fun s => s.Rep X.K φ) h).imp ?_⟩
  rintro o H1 ⟨μ1, S1, d1, x1, st1, r1, h1⟩
  have en1 := en.ext x1
  cases d1 with
  | obj n =>
    have r1k := r1
    obtain ⟨a, ea, ha⟩ := r1
    have ha : μ1[n]? = some a := ha
    subst ea
    refine ⟨?_, φ, μ1, ρ, S1, st1, en1, (Sat.bind (Rl := fun s => s.Rep X.K φ) h1).imp ?_⟩
    · have lS : S1.length = μ1.length := st1.len
      have hlt : n < S1.length := by rw [lS]; exact (List.getElem?_eq_some_iff.mp ha).1
      have e : S1[n]? = some S1[n] := by simp [hlt]
      cases q : S1[n] with
      | lst xs =>
        rw [q] at e
        obtain ⟨ws, e2, _⟩ := st1.lst n a xs ha e
        exact .inl ⟨rfl, ws, SqL.of e2⟩
      | frz xs =>
        rw [q] at e
        obtain ⟨ws, e2, _⟩ := st1.frz n a xs ha e
        exact .inl ⟨rfl, ws, .inl e2⟩
    · rintro v H2 ⟨μ2, S2, d2, x2, st2, r2, h2⟩
      obtain ⟨a', ea, ha'⟩ := x2.rep r1k
      have ha' : μ2[n]? = some a' := ha'
      cases ea
      dsimp only at h2
      cases q : S2[n]? with
      | none => rw [q] at h2; exact h2.elim
      | some m =>
        rw [q] at h2
        cases m with
        | frz xs => exact h2.elim
        | lst xs =>
          dsimp only at h2
          by_cases hl : xs.length < 16777216
          · rw [if_pos hl] at h2
            obtain ⟨vs, q3, q4⟩ := st2.lst n a xs ha' q
            refine ⟨a, vs, v, rfl, rfl, q3, by rw [q4.length, sizeLine_eq]; exact hl, ?_⟩
            obtain ⟨s4, x4⟩ := set_sto (ys := xs ++ [d2]) (ws := vs ++ [v]) st2 ha' q (fun b o h ne => by rw [upd_ne ne]; exact h) upd_same (Reps.append q4 ⟨v, [], rfl, r2, rfl⟩)
            exact h2 .non μ2 _ x4 s4 rfl
          · rw [if_neg hl] at h2
            exact h2.elim
  | _ => exact h1.elim
/-! ### raise, try -/
/-- X() -/
theorem pmk_own0 {X : Cx} {C : Addr} {bmB : List Value} {B newId initId : String} {x : Str} {p pos : Pos} (F : ExcBaseFacts B newId initId bmB) (q : PySem.W.excIn X.K C bmB newId = true) (gC : X.mg x = some (.ref C)) (kC : PySem.W.keepIn X.K (.ref C) = true) (r : Raises X (.ref C)) (hg : Gl X x)
    (hdb : (x == ("__debug__" : Str)) = false := by decide) : PMk X (.Call (.Name x p) [] [] pos) (fun _ H Q => Q (.ref C) none H) := by
  intro pins s σ H Q I h
  refine wpAny_Call_Name_kw (ld_glob I hg gC ?_ hdb)
  refine PySem.W.callWith_K0 I.kIn kC ?_
  show wpAny _ _ (call (.ref C) []) _ _ _
  obtain ⟨bm, N, nm, qn, bs, hdct, sn, sub, ab, col, dd, k0, k1, k2, k3, k5, mN, hC, hN, hni, T⟩ := exc_obj I.kIn q
  refine wpAny_call_exc_subT F T hC hN hni (fun h' e hm => ?_) (by show 0 ≤ sizeLine; rw [sizeLine_eq]; omega)
  exact mk_of I hm r h (I.hok.gone hm.new)
/-- a class of errors without an __init__ of its own, as the top has it -/
structure ExcT (K : PySem.W.Frag) (mg : Str → Option Value) (x : String) : Prop where
  ex : ∃ C, mg (Str.ofString x) = some (.ref C) ∧ PySem.W.excIn K C [.type "ValueError", .type "Exception", .type "BaseException", .type "object"] "ValueError.__new__" = true ∧ PySem.W.keepIn K (.ref C) = true ∧
    PySem.W.subIn K (.ref C) (.type "BaseException") = some true ∧ PySem.W.typeIn K (.ref C) = some (.type "type")
theorem pds_raise0 {X : Cx} {W : WX} {x : String} {p pos pos2 : Pos} (hc : X.calm = true) (tk : Takes X W) (T : ExcT X.K X.mg x) (hg : Gl X (Str.ofString x) := by rfl) (hdb : (Str.ofString x == ("__debug__" : Str)) = false := by decide) :
    PDS X W (.Raise (some (.Call (.Name (Str.ofString x) p) [] [] pos)) none pos2) (sRaise x [] aNil) := by
  obtain ⟨C, gC, q, kC, sC, tC⟩ := T.ex
  refine ps_imp (ps_raise hc tk (pmk_own0 PySem.F.excBase_ValueError q gC kC (raises_own sC tC) hg hdb)) fun D σ H h => ?_
  obtain ⟨φ, μ, ρ, S, st, en, h⟩ := h
  exact h (.ref C) none σ μ H (Ext.refl _) st en ⟨C, gC, rfl, rfl, rfl⟩
/-- try: body except C: suite (whatever the body raises is a C) -/
theorem pds_try {X : Cx} {W : WX} {x : String} {body suite : List Stmt} {b0 : Stmt} {np pos pos' : Pos} {f g : DS} (hs : X.stack = X.env :: X.outer) (hf : X.env.frame = some X.env.locals) (tk : Takes X W)
    (T : ∃ C, X.mg (Str.ofString x) = some (.ref C) ∧ PySem.W.exmOne X.K (.ref C) (.ref C) = some true)
    (hb : ∀ (W' : WX) (pn : List (Addr × Obj)) (xe : Value → Shared → Prop), Takes (X.tr pn xe) W' → PassesOwn (model X.prog X.w) X.A X.env xe → PSs (X.tr pn xe) body (tS X.K X.mg W' f))
    (hsu : ∀ (a : Addr) (oe : Obj) (cls : Value) (d : Option Addr) (pn : List (Addr × Obj)), Zc cls d oe → (∃ vs, oe.data = .fields vs) → PSs (X.suite a ((a, oe) :: pn)) (b0 :: suite) (tS X.K X.mg (fun _ _ _ _ => False) g))
    (hg : Gl X (Str.ofString x) := by rfl) (hdb : (Str.ofString x == ("__debug__" : Str)) = false := by decide) :
    PDS X W (.Try body [.ExceptHandler (some (.Name (Str.ofString x) np)) none (b0 :: suite) pos'] [] [] pos) (sTry x f g) := by
  obtain ⟨C, gC, exm⟩ := T
  refine ps_imp (ps_try_only (c := .ref C) (tb := fun W' => tS X.K X.mg W' f) (ts := fun _ _ _ => tS X.K X.mg (fun _ _ _ _ => False) g) (Wout := W) hs hf ⟨hg, hdb, .inl gC⟩ tk hb hsu) fun D σ H h => ?_
  obtain ⟨φ, μ, ρ, S, st, en, h⟩ := h
  refine ⟨φ, μ, ρ, S, st, en, ?_⟩
  have h' : SatS X.K X.mg φ W ⟨μ, S, H⟩ (match f ρ S with
    | .exn z ρ1 S1 => if z.cls = x then (g ρ1 S1).calm else .bad
    | r => r) D := h
  cases q : f ρ S with
  | bad => rw [q] at h'; exact h'
  | nx ρ1 S1 => rw [q] at h'; exact h'
  | bk ρ1 S1 => rw [q] at h'; exact h'
  | ct ρ1 S1 => rw [q] at h'; exact h'
  | rt d S1 => rw [q] at h'; exact h'
  | exn z ρ1 S1 =>
    rw [q] at h'
    dsimp only at h'
    by_cases e : z.cls = x
    · rw [if_pos e] at h'
      intro c dd σ' μ' H' y st' en' ex
      obtain ⟨C', g1, ec, _, _⟩ := ex
      rw [e, gC] at g1
      cases g1
      subst ec
      refine ⟨true, exm, fun _ a _ => ⟨φ, μ', ρ1, S1, st', en', ?_⟩, fun z => nomatch z⟩
      have h2 := SatS.later h' y
      cases q2 : g ρ1 S1 with
      | exn z2 ρ2 S2 => rw [q2] at h2; exact h2.elim
      | bad => rw [q2] at h2; exact h2
      | nx ρ1 S1 => rw [q2] at h2; exact h2
      | bk ρ1 S1 => rw [q2] at h2; exact h2
      | ct ρ1 S1 => rw [q2] at h2; exact h2
      | rt d S1 => rw [q2] at h2; exact h2
    · rw [if_neg e] at h'
      exact h'.elim
theorem pd_callL {X : Cx} {W : WX} {e : Expr} {fa : DA} {np : Nat} {F : Fn} (h : PE X e (tCallS (spFL X.K X.mg np F) (WE W) (tA X.K X.mg W fa))) (hn : ∀ ρ S ds S', fa ρ S = .ok ds S' → ds.length = np) : PD X W e (eCallL F fa) := pe_imp h fun σ H Q h => by
  obtain ⟨φ, μ0, ρ, S0, st0, en0, h⟩ := h
  refine ⟨φ, μ0, ρ, S0, st0, en0, ?_⟩
  have h' : Sat X.K X.mg φ (fun s => s.Rep X.K φ) W σ ⟨μ0, S0, H⟩ ((fa ρ S0).bind fun ds S1 => match fzs S1 ds with
    | some (ds', S2) => match F ds' [] with
      | .ok (.lst xs) _ => .ok (.obj S2.length) (S2 ++ [.lst xs])
      | .exn x _ => .exn x S2
      | _ => .bad
    | none => .bad) Q := h
  cases q0 : fa ρ S0 with
  | bad => rw [q0] at h'; exact h'
  | exn x S1 => rw [q0] at h'; exact h'
  | ok ds S =>
    rw [q0] at h'
    intro vs μ H1 x0 st rs
    rw [RE.bind_ok] at h'
    cases q : fzs S ds with
    | none => rw [q] at h'; exact h'.elim
    | some p =>
      obtain ⟨ds', S2⟩ := p
      rw [q] at h'
      dsimp only at h'
      obtain ⟨b1, b2, b3, b4, b5⟩ := fzs_ok st rs q
      have k2 : ∀ {H'}, Same H1 H' → Ext ⟨μ0, S0, H⟩ ⟨μ, S2, H'⟩ ∧ StoR X.K φ ⟨μ, S2, H'⟩ := fun sm => ⟨(x0.trans b2).trans (ext_same sm), b1.same sm⟩
      refine ⟨fun a => φ a ∨ live S2 μ a, [], [], ds', ⟨rfl, List.nodup_nil, fun a z => (by cases z), fun n a xs z => (by simp at z), fun n a xs z => (by simp at z), fun a z => ?_⟩, by rw [b5]; exact hn ρ S0 ds S q0, ?_, ?_⟩
      · rcases z with z | z
        · exact b1.thr a z
        · obtain ⟨vs, e⟩ := b1.liveTracked z
          exact ⟨_, e⟩
      · exact Reps.move ⟨fun _ _ h _ _ => h, fun _ _ _ _ _ => none_live, fun _ _ _ p l z => z.elim p l⟩ ds' b4 b3
      · have sm : ∀ {μ' S' H'}, Ext ⟨[], [], H1⟩ ⟨μ', S', H'⟩ → Same H1 H' := fun x a o h => x.keep a o h none_live
        cases qf : F ds' [] with
        | bad => rw [qf] at h'; exact h'
        | exn z S3 =>
          rw [qf] at h'
          intro c dd μ' H' x st' ex
          exact h' c dd μ H' (k2 (sm x)).1 (k2 (sm x)).2 ex
        | ok d S3 =>
          rw [qf] at h'
          intro v μ' H' x st' ⟨g, a, ws, xs, ed, ev, ha, hn, _, rs'⟩
          subst ed ev
          have gx : gnds xs = true := by simpa only [gnd] using g
          have ha : H' a = some (.lst ws) := ha
          have smd : Same H1 (fun b => if b = a then none else H' b) := fun b o hb => by
            have ne : b ≠ a := fun e => by
              rw [e] at hb
              cases hn.symm.trans hb
            show (if b = a then none else H' b) = some o
            rw [if_neg ne]
            exact sm x b o hb
          have fin := new_lst (W := W) (σ := σ) (live_ := true) (Q := Q) (ds := xs) (vs := ws) (p := a) (k2 smd).2 (Reps.move ⟨fun b o hb l f => ?_, fun b o hb l f z => ?_, fun b o hb f l z => f (.inl (.inl z))⟩ xs gx rs') (if_pos rfl)
            (Sat.later (show Sat X.K X.mg φ (fun s => s.Rep X.K φ) W σ ⟨μ0, S0, H⟩ (mkL true xs S2) Q from h') (k2 smd).1)
          · rw [none_del ha] at fin
            exact fin
          · have ne : b ≠ a := fun e => by
              rcases f with f | ⟨ts, f⟩
              · exact f (.inr e)
              · subst f e
                cases ha.symm.trans hb
            show (if b = a then none else H' b) = some o
            rw [if_neg ne]
            exact hb
          · rcases f with f | ⟨ts, f⟩
            · exact f (.inl (.inr z))
            · obtain ⟨us, e2⟩ := b1.liveTracked z
              have e3 := sm x _ _ e2
              subst f
              cases (show H' b = _ from hb).symm.trans e3
end
end Den
end

section
set_option Elab.async false
set_option linter.all false
set_option maxRecDepth 100000
namespace Den
open PySem PySem.Spec PyProof.Rows L2
/-! ### isinstance of built-in classes -/
def Kd.name : Kd → String
  | .int => "int" | .bool => "bool" | .str => "str" | .tuple => "tuple" | .list => "list" | .dict => "dict"
section
variable {K : PySem.W.Frag} {mg : Str → Option Value} {φ : ASet}
def tyN : D → String
  | .non => "NoneType" | .bl _ => "bool" | .int _ => "int" | .str _ => "str" | .tup _ => "tuple" | .lst _ => "list" | .dct _ _ => "dict" | .obj _ => "list"
theorem ty_of {μ : List Addr} {S : Sto} {H : Hp} {d : D} {v : V} (st : StoR K φ ⟨μ, S, H⟩) (r : (Sn.mk μ S H).Rep K φ d v) : TyX K H v (.type (tyN d)) := by
  cases d with
  | non => rw [show v = _ from r]; exact .base .non
  | bl b => rw [show v = _ from r]; exact .base (.bl b)
  | int i => rw [show v = _ from r]; exact .base (.int i)
  | str x => rw [show v = _ from r]; exact .base (.str x)
  | tup ds =>
    obtain ⟨a, vs, e, t, rs⟩ := r
    subst e
    rcases t with ⟨t, _⟩ | t
    · exact .base (.tup t)
    · rcases t with t | ⟨o, its, n, hk, hc, _⟩
      · rcases t with t | ⟨_, t⟩ <;> cases t
      · exact .kTuple hk hc
  | lst ds =>
    obtain ⟨a, vs, e, t, rs⟩ := r
    subst e
    rcases t with ⟨t, _⟩ | t
    · rcases t with t | ⟨o, t⟩
      · exact .base (.lst t)
      · exact .base (.frz t)
    · rcases t with t | ⟨o, its, n, hk, hc, _⟩
      · rcases t with t | ⟨_, t⟩ <;> cases t
      · exact .kList hk hc
  | dct ks ws =>
    obtain ⟨_, _, a, e, t, _⟩ := r
    subst e
    exact .base (.dK t)
  | obj n =>
    obtain ⟨a, e, ha⟩ := r
    have ha : μ[n]? = some a := ha
    subst e
    have lS : S.length = μ.length := st.len
    have hlt : n < S.length := by rw [lS]; exact (List.getElem?_eq_some_iff.mp ha).1
    have e : S[n]? = some S[n] := by simp [hlt]
    cases q : S[n] with
    | lst xs =>
      rw [q] at e
      obtain ⟨ws, e2, _⟩ := st.lst n a xs ha e
      exact .base (.lst e2)
    | frz xs =>
      rw [q] at e
      obtain ⟨ws, e2, _⟩ := st.frz n a xs ha e
      rcases e2 with e2 | ⟨o, e2⟩
      · exact .base (.lst e2)
      · exact .base (.frz e2)
def isN' (t : String) : Kd → Bool
  | .int => t == "int" || t == "bool"
  | k => t == k.name
theorem isK_eq (d : D) (k : Kd) : isK d k = isN' (tyN d) k := by
  cases d <;> cases k <;> rfl
theorem kit_n : (["NoneType", "bool", "int", "str", "tuple", "list", "dict"].all fun t => [Kd.int, .bool, .str, .tuple, .list, .dict].all fun k => decide (kitB t k.name = some (isN' t k))) = true := by decide +kernel
theorem tyN_mem (d : D) : tyN d ∈ ["NoneType", "bool", "int", "str", "tuple", "list", "dict"] := by cases d <;> simp [tyN]
theorem kd_mem (k : Kd) : k ∈ [Kd.int, .bool, .str, .tuple, .list, .dict] := by cases k <;> simp
theorem kit_k (d : D) (k : Kd) : PySem.W.kitOne K (.type (tyN d)) (.type k.name) = some (isK d k) := by
  rw [isK_eq]
  exact kit_ty (of_decide_eq_true (List.all_eq_true.mp (List.all_eq_true.mp kit_n _ (tyN_mem d)) _ (kd_mem k)))
theorem kit_ks (d : D) : ∀ ks : List Kd, PySem.W.kitAny K (.type (tyN d)) (ks.map fun k => .type k.name) = some (ks.any (isK d))
  | [] => kitAny_nil
  | k :: ks => by
    refine kitAny_cons (kit_k d k) (fun h => ?_) fun h => ?_
    · rw [List.any_cons, h, Bool.false_or]
      exact kit_ks d ks
    · rw [List.any_cons, h, Bool.true_or]
/-- isinstance(x, T) -/
theorem pd_isi1 {X : Cx} {W : WX} {e : Expr} {fa : DE} (k : Kd) (h : PE X e (tCB (rIsi X.K) (tCons (tD X.K X.mg W fa) (tCons (tC (.ty k.name)) L2.tNil)))) : PD X W e (eIsK [k] fa) := pe_imp h fun σ H Q h => by
  refine tG.first (f := fa) (k := fun ρ x S1 => RE.of (some (D.bl ([k].any (isK x)))) S1) h fun φ μ ρ S d v H1 st en rv h1 => ?_
  refine ⟨v, _, _, _, isK d k, rfl, .ty _, ty_of st rv, kit_k d k, ?_⟩
  refine Sat.here h1 st ?_
  show V.bl (isK d k) = V.bl ([k].any (isK d))
  rw [List.any_cons, List.any_nil, Bool.or_false]
/-- isinstance(x, (T1, T2)) -/
theorem pd_isi2 {X : Cx} {W : WX} {e : Expr} {fa : DE} (k1 k2 : Kd) (h : PE X e (tCB (rIsiT X.K) (tCons (tD X.K X.mg W fa) (tCons (tTup (tCons (tC (.ty k1.name)) (tCons (tC (.ty k2.name)) L2.tNil))) L2.tNil)))) : PD X W e (eIsK [k1, k2] fa) := pe_imp h fun σ H Q h => by
  refine tG.first (f := fa) (k := fun ρ x S1 => RE.of (some (D.bl ([k1, k2].any (isK x)))) S1) h fun φ μ ρ S d v H1 st en rv h1 => ?_
  refine ⟨by rw [sizeLine_eq]; show 2 ≤ 16777216; decide, fun p hp => ?_⟩
  have sm := same_new (o := .tup [.ty k1.name, .ty k2.name]) hp
  refine ⟨v, p, _, _, [k1, k2].map fun k => .type k.name, [k1, k2].any (isK d), rfl, upd_same, .cons (.ty _) (.cons (.ty _) .nil), ty_of (st.same sm) ((ext_same sm).rep rv), kit_ks d _, ?_⟩
  exact Sat.grown h1 st sm rfl
/-! ### == and != -/
mutual
def toP : D → PyData
  | .non => .none
  | .bl b => .bool b
  | .int i => .int i
  | .str x => .str x
  | .tup xs => .tuple (toPs xs)
  | .lst xs => .list (toPs xs)
  | .dct _ _ => .none
  | .obj _ => .none
def toPs : List D → List PyData
  | [] => []
  | x :: xs => toP x :: toPs xs
end
mutual
theorem toP_lay : ∀ d : D, cmpOk d = true → (toP d).canLay0 = true ∧ (toP d).depth = dep d
  | .non, _ => ⟨by simp [toP, PyData.canLay0], by simp [toP, PyData.depth, dep]⟩
  | .bl _, _ => ⟨by simp [toP, PyData.canLay0], by simp [toP, PyData.depth, dep]⟩
  | .int _, _ => ⟨by simp [toP, PyData.canLay0], by simp [toP, PyData.depth, dep]⟩
  | .str x, h => ⟨by simpa [toP, PyData.canLay0, PyData.strOk, cmpOk, Den.strOk] using h, by simp [toP, PyData.depth, dep]⟩
  | .tup xs, h => by
    obtain ⟨a, b⟩ := toPs_lay xs (by simpa [cmpOk] using h)
    exact ⟨by simpa [toP, PyData.canLay0] using a, by simp [toP, PyData.depth, dep, b]⟩
  | .lst xs, h => by
    obtain ⟨a, b⟩ := toPs_lay xs (by simpa [cmpOk] using h)
    exact ⟨by simpa [toP, PyData.canLay0] using a, by simp [toP, PyData.depth, dep, b]⟩
  | .dct _ _, h => by simp [cmpOk] at h
  | .obj _, h => by simp [cmpOk] at h
theorem toPs_lay : ∀ ds : List D, cmpOks ds = true → PyData.canLayAll0 (toPs ds) = true ∧ PyData.depthAll (toPs ds) = deps ds
  | [], _ => ⟨by simp [toPs, PyData.canLayAll0], by simp [toPs, PyData.depthAll, deps]⟩
  | d :: ds, h => by
    have h' : cmpOk d = true ∧ cmpOks ds = true := by simpa [cmpOks] using h
    obtain ⟨a1, a2⟩ := toP_lay d h'.1
    obtain ⟨b1, b2⟩ := toPs_lay ds h'.2
    exact ⟨by simp [toPs, PyData.canLayAll0, a1, b1], by simp [toPs, PyData.depthAll, deps, a2, b2]⟩
end
mutual
theorem toP_eqv : ∀ d e : D, cmpOk d = true → cmpOk e = true → PyData.eqv (toP d) (toP e) = eqv d e
  | .tup xs, e, h, h' => by
    cases e with
    | tup ys => simpa [toP, PyData.eqv, eqv] using toPs_eqv xs ys (by simpa [cmpOk] using h) (by simpa [cmpOk] using h')
    | dct _ _ => simp [cmpOk] at h'
    | obj _ => simp [cmpOk] at h'
    | _ => simp [toP, PyData.eqv, eqv]
  | .lst xs, e, h, h' => by
    cases e with
    | lst ys => simpa [toP, PyData.eqv, eqv] using toPs_eqv xs ys (by simpa [cmpOk] using h) (by simpa [cmpOk] using h')
    | dct _ _ => simp [cmpOk] at h'
    | obj _ => simp [cmpOk] at h'
    | _ => simp [toP, PyData.eqv, eqv]
  | .non, e, _, h' => by
    cases e with
    | dct _ _ => simp [cmpOk] at h'
    | obj _ => simp [cmpOk] at h'
    | _ => simp [toP, PyData.eqv, eqv]
  | .bl _, e, _, h' => by
    cases e with
    | dct _ _ => simp [cmpOk] at h'
    | obj _ => simp [cmpOk] at h'
    | _ => simp [toP, PyData.eqv, eqv]
  | .int _, e, _, h' => by
    cases e with
    | dct _ _ => simp [cmpOk] at h'
    | obj _ => simp [cmpOk] at h'
    | _ => simp [toP, PyData.eqv, eqv]
  | .str _, e, _, h' => by
    cases e with
    | dct _ _ => simp [cmpOk] at h'
    | obj _ => simp [cmpOk] at h'
    | _ => simp [toP, PyData.eqv, eqv]
  | .dct _ _, _, h, _ => by simp [cmpOk] at h
  | .obj _, _, h, _ => by simp [cmpOk] at h
theorem toPs_eqv : ∀ ds es : List D, cmpOks ds = true → cmpOks es = true → PyData.eqvAll (toPs ds) (toPs es) = eqvs ds es
  | [], [], _, _ => by simp [toPs, PyData.eqvAll, eqvs]
  | [], _ :: _, _, _ => by simp [toPs, PyData.eqvAll, eqvs]
  | _ :: _, [], _, _ => by simp [toPs, PyData.eqvAll, eqvs]
  | d :: ds, e :: es, h, h' => by
    have g : cmpOk d = true ∧ cmpOks ds = true := by simpa [cmpOks] using h
    have g' : cmpOk e = true ∧ cmpOks es = true := by simpa [cmpOks] using h'
    simp [toPs, PyData.eqvAll, eqvs, toP_eqv d e g.1 g'.1, toPs_eqv ds es g.2 g'.2]
end
mutual
theorem toP_dp {H : Hp} {L : ASet} {μ : List Addr} : ∀ (d : D) {v : V}, cmpOk d = true → Rep K φ H L μ d v → Dp K H v (toP d)
  | .non, _, _, r => by rw [show _ = V.non from r]; exact .non
  | .bl _, _, _, r => by rw [show _ = V.bl _ from r]; exact .bl _
  | .int _, _, _, r => by rw [show _ = V.int _ from r]; exact .int _
  | .str _, _, _, r => by rw [show _ = V.str _ from r]; exact .str _
  | .tup ds, _, h, r => by
    obtain ⟨a, vs, e, t, rs⟩ := r
    subst e
    refine .tup ?_ (toPs_dp ds (by simpa [cmpOk] using h) rs)
    rcases t with ⟨t, _⟩ | t
    · exact .inl (.inl t)
    · rcases t with t | t
      · rcases t with t | ⟨_, t⟩ <;> cases t
      · exact .inr t
  | .lst ds, _, h, r => by
    obtain ⟨a, vs, e, t, rs⟩ := r
    subst e
    exact .lst t.sq (toPs_dp ds (by simpa [cmpOk] using h) rs)
  | .dct _ _, _, h, _ => by simp [cmpOk] at h
  | .obj _, _, h, _ => by simp [cmpOk] at h
theorem toPs_dp {H : Hp} {L : ASet} {μ : List Addr} : ∀ (ds : List D) {vs : List V}, cmpOks ds = true → Reps K φ H L μ ds vs → DpAll K H vs (toPs ds)
  | [], _, _, r => by rw [show _ = ([] : List V) from r]; exact .nil
  | d :: ds, _, h, r => by
    obtain ⟨v, vr, e, r1, r2⟩ := r
    subst e
    have h' : cmpOk d = true ∧ cmpOks ds = true := by simpa [cmpOks] using h
    exact .cons (toP_dp d h'.1 r1) (toPs_dp ds h'.2 r2)
end
theorem grnd_dp {μ : List Addr} {S : Sto} {H : Hp} {d d' : D} {v : V} (st : StoR K φ ⟨μ, S, H⟩) (r : (Sn.mk μ S H).Rep K φ d v) (h : grnd S d = some d') (c : cmpOk d' = true) : Dp K H v (toP d') := by
  unfold grnd at h
  by_cases g : gnd d = true
  · rw [if_pos g] at h
    cases h
    exact toP_dp d c r
  · rw [if_neg g] at h
    cases d with
    | obj n =>
      obtain ⟨a, e, ha⟩ := r
      subst e
      cases q : S[n]? with
      | none => simp [q] at h
      | some o =>
        cases o with
        | lst xs =>
          simp only [q] at h
          by_cases g2 : gnds xs = true
          · rw [if_pos g2] at h
            cases h
            obtain ⟨vs, q1, q2⟩ := st.lst n a xs ha q
            exact .lst (SqL.of q1) (toPs_dp xs (by simpa [cmpOk] using c) q2)
          · rw [if_neg g2] at h
            cases h
        | frz xs =>
          simp only [q] at h
          by_cases g2 : gnds xs = true
          · rw [if_pos g2] at h
            cases h
            obtain ⟨vs, q1, q2⟩ := st.frz n a xs ha q
            exact .lst (.inl q1) (toPs_dp xs (by simpa [cmpOk] using c) q2)
          · rw [if_neg g2] at h
            cases h
    | _ => cases h
theorem shaped_of {d : D} (h : cmpOk d = true) (hd : dep d ≤ 64) : SeqAt.shaped (toP d) = true := by
  obtain ⟨a, b⟩ := toP_lay d h
  unfold SeqAt.shaped
  rw [a, b, Bool.true_and]
  exact decide_eq_true hd
theorem cmpAll_of {x y : D} (h : cmpAll x y = true) : cmpOk x = true ∧ cmpOk y = true ∧ dep x ≤ 64 ∧ dep y ≤ 64 := by
  unfold cmpAll at h
  simp only [Bool.and_eq_true, decide_eq_true_eq] at h
  exact ⟨h.1.1.1, h.1.1.2, h.1.2, h.2⟩
theorem od_eq : OpD K oEq (rEqD K) := by
  intro φ μ S H d e z v w Q st r1 r2 q k
  unfold oEq at q
  cases q1 : grnd S d with
  | none => simp [q1] at q
  | some x =>
    cases q2 : grnd S e with
    | none => simp [q1, q2] at q
    | some y =>
      simp only [q1, q2] at q
      by_cases c : cmpAll x y = true
      · rw [if_pos c] at q
        cases q
        obtain ⟨c1, c2, c3, c4⟩ := cmpAll_of c
        exact ⟨_, _, grnd_dp st r1 q1 c1, grnd_dp st r2 q2 c2, shaped_of c1 c3, shaped_of c2 c4, by rw [toP_eqv x y c1 c2]; exact k _ H (Same.refl H) rfl⟩
      · rw [if_neg c] at q
        cases q
theorem od_ne : OpD K oNe (rNeD K) := by
  intro φ μ S H d e z v w Q st r1 r2 q k
  unfold oNe at q
  cases q1 : grnd S d with
  | none => simp [q1] at q
  | some x =>
    cases q2 : grnd S e with
    | none => simp [q1, q2] at q
    | some y =>
      simp only [q1, q2] at q
      by_cases c : cmpAll x y = true
      · rw [if_pos c] at q
        cases q
        obtain ⟨c1, c2, c3, c4⟩ := cmpAll_of c
        exact ⟨_, _, grnd_dp st r1 q1 c1, grnd_dp st r2 q2 c2, shaped_of c1 c3, shaped_of c2 c4, by rw [toP_eqv x y c1 c2]; exact k _ H (Same.refl H) rfl⟩
      · rw [if_neg c] at q
        cases q
/-! ### x in a row of flat things -/
theorem flat_rep {s : Sn} {d : D} {v : V} (r : s.Rep K φ d v) (h : flat d = true) : flatV v = true := by
  cases d with
  | non => rw [show v = _ from r]; rfl
  | bl _ => rw [show v = _ from r]; rfl
  | int _ => rw [show v = _ from r]; rfl
  | str _ => rw [show v = _ from r]; rfl
  | _ => cases h
theorem eqv_rep {s : Sn} {d e : D} {v w : V} (r : s.Rep K φ d v) (r' : s.Rep K φ e w) (h : flat d = true) (h' : flat e = true) : eqV v w = eqv d e := by
  cases d <;> simp [flat] at h <;> cases e <;> simp [flat] at h' <;> (rw [show v = _ from r, show w = _ from r']; simp [eqV, eqv])
theorem flats_rep {s : Sn} : ∀ {ds : List D} {vs : List V}, s.Reps K φ ds vs → ds.all flat = true → vs.all flatV = true
  | [], _, r, _ => by rw [show _ = ([] : List V) from r]; rfl
  | d :: ds, _, r, h => by
    obtain ⟨v, vr, e, r1, r2⟩ := r
    subst e
    rw [List.all_cons, Bool.and_eq_true] at h
    rw [List.all_cons, flat_rep r1 h.1, flats_rep r2 h.2]
    rfl
theorem inV_rep {s : Sn} {d : D} {v : V} (r : s.Rep K φ d v) (h : flat d = true) : ∀ {ds : List D} {vs : List V}, s.Reps K φ ds vs → ds.all flat = true → inV v vs = ds.any fun z => eqv z d
  | [], _, q, _ => by rw [show _ = ([] : List V) from q]; rfl
  | d' :: ds, _, q, g => by
    obtain ⟨w, wr, e, r1, r2⟩ := q
    subst e
    rw [List.all_cons, Bool.and_eq_true] at g
    have ih := inV_rep r h r2 g.2
    unfold inV at ih ⊢
    rw [List.any_cons, List.any_cons, ih, eqv_rep r1 r g.1 h]
theorem od_in : OpD K oIn (rIn K false) := by
  intro φ μ S H d e z v w Q st r1 r2 q k
  unfold oIn at q
  cases q1 : seqv S e with
  | none => simp [q1] at q
  | some ys =>
    simp only [q1] at q
    by_cases c : (flat d && ys.all flat) = true
    · rw [if_pos c] at q
      cases q
      rw [Bool.and_eq_true] at c
      obtain ⟨a, vs, ev, t, rs⟩ := seqv_at st r2 q1
      exact ⟨a, vs, ev, t, flat_rep r1 c.1, flats_rep rs c.2, by
        simp only [Bool.false_eq_true, if_false]
        rw [inV_rep r1 c.1 rs c.2]
        exact k _ H (Same.refl H) rfl⟩
    · rw [if_neg c] at q
      cases q
theorem od_notIn : OpD K oNotIn (rIn K true) := by
  intro φ μ S H d e z v w Q st r1 r2 q k
  unfold oNotIn at q
  cases q1 : seqv S e with
  | none => simp [q1] at q
  | some ys =>
    simp only [q1] at q
    by_cases c : (flat d && ys.all flat) = true
    · rw [if_pos c] at q
      cases q
      rw [Bool.and_eq_true] at c
      obtain ⟨a, vs, ev, t, rs⟩ := seqv_at st r2 q1
      exact ⟨a, vs, ev, t, flat_rep r1 c.1, flats_rep rs c.2, by
        simp only [if_true]
        rw [inV_rep r1 c.1 rs c.2]
        exact k _ H (Same.refl H) rfl⟩
    · rw [if_neg c] at q
      cases q
/-! ### what a for walks -/
theorem sqL_at {s : Sn} {a : Addr} {vs : List V} (h : LstAt K s.H φ s.L a vs) : SqL K s.H a vs := h.sq
theorem tupAt_sq {H : Hp} {L : ASet} {a : Addr} {vs : List V} (h : TupAt K H L a vs) : SqT K H a vs := by
  rcases h with ⟨t, _⟩ | t
  · exact .inl (.inl t)
  · rcases t with t | t
    · rcases t with t | ⟨_, t⟩ <;> cases t
    · exact .inr t
theorem lstAt_mv {φ' : ASet} {H H' : Hp} {L L' : ASet} {a : Addr} {vs : List V} (k : Move φ H L φ' H' L') (h : LstAt K H φ L a vs) : LstAt K H' φ' L' a vs := by
  rcases h with ⟨t, h1, h2⟩ | h
  · rcases t with t | ⟨o, t⟩
    · exact .inl ⟨.inl (k.keep a _ t h2 (.inl h1)), k.outl a _ t h1 h2, k.out a _ t h2 (.inl h1)⟩
    · exact .inl ⟨.inr ⟨o, k.keep a _ t h2 (.inl h1)⟩, k.outl a _ t h1 h2, k.out a _ t h2 (.inl h1)⟩
  · exact .inr h
theorem tupAt_mv {φ' : ASet} {H H' : Hp} {L L' : ASet} {a : Addr} {vs : List V} (k : Move φ H L φ' H' L') (h : TupAt K H L a vs) : TupAt K H' L' a vs := by
  rcases h with ⟨t, h2⟩ | t
  · exact .inl ⟨k.keep a _ t h2 (.inr ⟨_, rfl⟩), k.out a _ t h2 (.inr ⟨_, rfl⟩)⟩
  · exact .inr t
theorem it_lst {s : Sn} {a : Addr} {vs : List V} {ds : List D} (h : LstAt K s.H φ s.L a vs) (rs : s.Reps K φ ds vs) : ItOk K φ s ds (Itl K a) := by
  intro φ' s' mv pre st'
  have h' : LstAt K s'.H φ' s'.L a vs := lstAt_mv mv h
  have rs' : s'.Reps K φ' ds vs := Reps.shift mv pre ds rs
  refine ⟨⟨vs, sqL_at h', by rw [rs'.length]; exact Nat.le_refl _⟩, fun i d e => ?_⟩
  obtain ⟨v, q1, q2⟩ := rs'.get e
  refine ⟨⟨vs, v, sqL_at h', q1⟩, fun y H' yl => ?_⟩
  obtain ⟨e1, e2⟩ := yl
  have q3 := e2 vs (sqL_at h')
  rw [q1] at q3
  cases q3
  subst e1
  exact ⟨s'.μ, s'.S, rfl, Ext.refl _, st', q2⟩
theorem it_tup {s : Sn} {a : Addr} {vs : List V} {ds : List D} (h : TupAt K s.H s.L a vs) (rs : s.Reps K φ ds vs) : ItOk K φ s ds (Itt K a) := by
  intro φ' s' mv pre st'
  have h' : SqT K s'.H a vs := tupAt_sq (tupAt_mv mv h)
  have rs' : s'.Reps K φ' ds vs := Reps.shift mv pre ds rs
  refine ⟨⟨vs, h', by rw [rs'.length]; exact Nat.le_refl _⟩, fun i d e => ?_⟩
  obtain ⟨v, q1, q2⟩ := rs'.get e
  refine ⟨⟨vs, v, h', q1⟩, fun y H' yl => ?_⟩
  obtain ⟨e1, e2⟩ := yl
  have q3 := e2 vs h'
  rw [q1] at q3
  cases q3
  subst e1
  exact ⟨s'.μ, s'.S, rfl, Ext.refl _, st', q2⟩
/-- a list or a tuple -/
def iSq (K : PySem.W.Frag) (tl : TE) : TI := fun σ H R => tl σ H fun x H1 => ∃ a, x = .ref a ∧ (((∃ xs, SqL K H1 a xs) ∧ R (Itl K a) H1) ∨ ((∃ xs, SqT K H1 a xs) ∧ R (Itt K a) H1))
theorem pi_sq {X : Cx} {tg l : Expr} {tl : TE} (hl : PE X l tl) : PI X tg l (iSq X.K tl) := by
  refine ⟨fun pins s σ H R I h => ?_⟩
  refine thn (hl.run pins s σ H _ I h) fun v s1 ⟨x, H1, I1, r1, q1⟩ => ?_
  obtain ⟨a, e, q⟩ := q1
  subst e
  cases r1
  rcases q with ⟨⟨xs, hq⟩, q⟩ | ⟨⟨xs, hq⟩, q⟩
  · obtain ⟨its, rv, p, hz⟩ := I1.list hq
    refine wpAny_pyIter_list p.isList ?_
    refine ⟨s1.heap.objs.size, [s1.heap.objs.size], _, _, H1, rfl, I1.kept (t' := s1.toks) fun b o e => Heap.get?_push_of_some _ e, turn_list a _, ⟨_, Heap.get?_push_size _ rfl, rfl, rfl⟩, fun b hb => ?_, q⟩
    have e : b = s1.heap.objs.size := by simpa using hb
    subst e
    exact I1.fpOk (Nat.le_refl _) (I1.hok.fresh (Nat.le_refl _))
  · obtain ⟨its, rv, p, hz⟩ := I1.tuple hq
    refine wpAny_pyIter_tuple (show s1.heap.IsTuple a its.toArray from p) ?_
    refine ⟨s1.heap.objs.size, [s1.heap.objs.size], _, _, H1, rfl, I1.kept (t' := s1.toks) fun b o e => Heap.get?_push_of_some _ e, turn_tuple a _, ⟨_, Heap.get?_push_size _ rfl, rfl, rfl⟩, fun b hb => ?_, q⟩
    have e : b = s1.heap.objs.size := by simpa using hb
    subst e
    exact I1.fpOk (Nat.le_refl _) (I1.hok.fresh (Nat.le_refl _))
theorem pi_imp {X : Cx} {tg e : Expr} {t t' : TI} (h : PI X tg e t) (i : ∀ σ H R, t' σ H R → t σ H R) : PI X tg e t' := ⟨fun pins s σ H R I q => h.run pins s σ H R I (i σ H R q)⟩
theorem pdi_seq {X : Cx} {W : WX} {tg l : Expr} {fl : DE} (hl : PD X W l fl) : PDI X W tg l (iSeq fl) := pi_imp (pi_sq hl) fun σ H R h => by
  refine tG.first (f := fl) (k := fun ρ x S1 => match fz1 S1 x with
    | some (.tup xs, S2) => .ok xs S2
    | some (.lst xs, S2) => .ok xs S2
    | _ => .bad) h fun φ μ ρ S d v H1 st en rv h1 => ?_
  cases q : fz1 S d with
  | none => rw [q] at h1; exact h1.elim
  | some p =>
    obtain ⟨d', S2⟩ := p
    rw [q] at h1
    obtain ⟨st2, x2, r2, g2⟩ := fz1_ok st rv q
    cases d' with
    | tup xs =>
      obtain ⟨a, vs, e, t, rs⟩ := r2
      exact ⟨a, e, .inr ⟨⟨vs, tupAt_sq t⟩, h1 _ μ H1 x2 st2 (it_tup t rs)⟩⟩
    | lst xs =>
      obtain ⟨a, vs, e, t, rs⟩ := r2
      exact ⟨a, e, .inl ⟨⟨vs, t.sq⟩, h1 _ μ H1 x2 st2 (it_lst t rs)⟩⟩
    | _ => exact h1.elim
theorem rangeD_len (lo hi : Int) : (rangeD lo hi).length = (hi - lo).toNat := by unfold rangeD; simp
theorem it_rng {s : Sn} {lo hi : Int} {n : Nat} (hn : n = (hi - lo).toNat) : ItOk K φ s (rangeD lo hi) (Itr lo n) := by
  intro φ' s' mv pre st'
  subst hn
  refine ⟨by rw [rangeD_len]; exact Nat.le_refl _, fun i d e => ?_⟩
  have hlt := (List.getElem?_eq_some_iff.mp e).1
  rw [rangeD_len] at hlt
  have ed : d = .int (lo + i) := by
    unfold rangeD at e
    rw [List.getElem?_map, List.getElem?_range hlt] at e
    simpa using e.symm
  subst ed
  refine ⟨hlt, fun y H' yl => ?_⟩
  obtain ⟨e1, e2⟩ := yl
  subst e1 e2
  exact ⟨s'.μ, s'.S, rfl, Ext.refl _, st', rfl⟩
theorem small62_of {i : Int} (h : small62 i = true) : -(2 ^ 62) ≤ i ∧ i < 2 ^ 62 := by
  unfold small62 at h
  rw [Bool.and_eq_true, decide_eq_true_eq, decide_eq_true_eq] at h
  exact h
theorem pdi_rng1 {X : Cx} {W : WX} {tg e : Expr} {fa : DE} (h : PI X tg e (L2.iRng1 (tCons (tD X.K X.mg W fa) L2.tNil))) : PDI X W tg e (Den.iRng1 fa) := pi_imp h fun σ H R h => by
  refine tG.first (f := fa) (k := fun ρ (x : D) S1 => match x with
    | .int j => if small62 j then .ok (rangeD 0 j) S1 else .bad
    | _ => .bad) h fun φ μ ρ S d v H1 st en rv h1 => ?_
  cases d with
  | int j =>
    dsimp only at h1
    by_cases c : small62 j = true
    · rw [if_pos c] at h1
      rw [show v = .int j from rv]
      obtain ⟨c1, c2⟩ := small62_of c
      exact ⟨j, rfl, c1, c2, Sat.here h1 st (it_rng (by simp))⟩
    · rw [if_neg c] at h1
      exact h1.elim
  | _ => exact h1.elim
theorem pdi_rng2 {X : Cx} {W : WX} {tg e : Expr} {fa fb : DE} (h : PI X tg e (L2.iRng2 (tCons (tD X.K X.mg W fa) (tCons (tD X.K X.mg W fb) L2.tNil)))) : PDI X W tg e (Den.iRng2 fa fb) := pi_imp h fun σ H R h => by
  refine tG.first (f := fa) (k := fun ρ x S1 => (fb ρ S1).bind fun y S2 => match x, y with
    | .int i, .int j => if small62 i && small62 j then .ok (rangeD i j) S2 else .bad
    | _, _ => .bad) h fun φ μ ρ S d v H1 st en rv h1 => ?_
  refine ⟨φ, μ, ρ, S, st, en, (Sat.bind (Rl := fun s => s.Rep X.K φ) h1).imp ?_⟩
  rintro w H2 ⟨μ2, S2, e, x2, st2, r2, h2⟩
  have r1 := x2.rep rv
  cases d with
  | int i =>
    cases e with
    | int j =>
      dsimp only at h2
      by_cases c : (small62 i && small62 j) = true
      · rw [if_pos c] at h2
        rw [Bool.and_eq_true] at c
        rw [show v = .int i from r1, show w = .int j from r2]
        obtain ⟨c1, c2⟩ := small62_of c.1
        obtain ⟨c3, c4⟩ := small62_of c.2
        exact ⟨i, j, rfl, ⟨c1, c2, c3, c4⟩, Sat.here h2 st2 (it_rng rfl)⟩
      · rw [if_neg c] at h2
        exact h2.elim
    | _ => exact h2.elim
  | _ => cases e <;> exact h2.elim
end
end Den
end

section
set_option Elab.async false
set_option linter.all false
set_option maxRecDepth 100000
namespace Den
open PySem PySem.Spec PyProof.Rows L2
section
variable {K : PySem.W.Frag} {mg : Str → Option Value} {φ φ' : ASet}
theorem sto_shift {μ : List Addr} {S : Sto} {H H' : Hp} (st : StoR K φ ⟨μ, S, H⟩) (mv : Move φ H (live S μ) φ' H' (live S μ)) (hl : ∀ a vs, a ∈ μ → Rd H a (.lst vs) → Rd H' a (.lst vs)) (hl2 : ∀ a vs, a ∈ μ → H a = some (.lst vs) → H' a = some (.lst vs)) (dis : ∀ a ∈ μ, ¬ φ' a) (thr : ∀ a, φ' a → ∃ o, H' a = some o) : StoR K φ' ⟨μ, S, H'⟩ := by
  refine ⟨st.len, st.nd, dis, fun n a xs h1 h2 => ?_, fun n a xs h1 h2 => ?_, thr⟩
  · obtain ⟨vs, q1, q2⟩ := st.lst n a xs h1 h2
    exact ⟨vs, hl2 a vs (List.mem_of_getElem? h1) q1, Reps.shift mv ⟨[], by simp⟩ xs q2⟩
  · obtain ⟨vs, q1, q2⟩ := st.frz n a xs h1 h2
    exact ⟨vs, hl a vs (List.mem_of_getElem? h1) q1, Reps.shift mv ⟨[], by simp⟩ xs q2⟩
theorem env_shift {μ : List Addr} {S : Sto} {H H' : Hp} {ρ : Env} {σ : L2.St} (en : EnvR K φ ⟨μ, S, H⟩ ρ σ) (mv : Move φ H (live S μ) φ' H' (live S μ)) : EnvR K φ' ⟨μ, S, H'⟩ ρ σ := ⟨en.len, fun i d e => by
  obtain ⟨v, e1, r⟩ := en.at_ i d e
  exact ⟨v, e1, Rep.shift mv ⟨[], by simp⟩ d r⟩⟩
section
variable {μ : List Addr} {S : Sto} {H : Hp} {p : Addr} {vs ws : List V}
theorem fresh_out (st : StoR K φ ⟨μ, S, H⟩) (hp : H p = none) : p ∉ μ := fun z => by
  have lS : S.length = μ.length := st.len
  obtain ⟨n, hn⟩ := List.getElem?_of_mem z
  have hlt : n < S.length := by rw [lS]; exact (List.getElem?_eq_some_iff.mp hn).1
  have e : S[n]? = some S[n] := by simp [hlt]
  cases q : S[n] with
  | lst xs =>
    rw [q] at e
    obtain ⟨ws, e2, _⟩ := st.lst n p xs hn e
    cases hp.symm.trans e2
  | frz xs =>
    rw [q] at e
    obtain ⟨ws, e2, _⟩ := st.frz n p xs hn e
    rcases e2 with e2 | ⟨o, e2⟩ <;> cases hp.symm.trans e2
theorem mv_in (hp : H p = none) : Move φ H (live S μ) (withA φ p) (upd H p (.lst vs)) (live S μ) := ⟨fun a o h _ _ => same_new hp a o h, fun _ _ _ l _ => l, fun a o h f _ z => z.elim f fun e => by
  rw [e] at h
  cases hp.symm.trans h⟩
theorem mv_out : Move (withA φ p) H (live S μ) φ H (live S μ) := ⟨fun a o h _ _ => h, fun _ _ _ l _ => l, fun a o h f _ z => f (.inl z)⟩
theorem mv_poke (hp : H p = some (.lst vs)) : Move (withA φ p) H (live S μ) (withA φ p) (upd H p (.lst ws)) (live S μ) := ⟨fun a o h _ f => by
  have ne : a ≠ p := fun e => by
    rcases f with f | ⟨xs, f⟩
    · exact f (.inr e)
    · subst e f
      cases hp.symm.trans h
  rw [upd_ne ne]
  exact h, fun _ _ _ l _ => l, fun a o h f _ z => f z⟩
theorem sto_in (st : StoR K φ ⟨μ, S, H⟩) (hp : H p = none) : StoR K (withA φ p) ⟨μ, S, upd H p (.lst vs)⟩ := by
  have sm := same_new (o := .lst vs) hp
  refine sto_shift st (mv_in hp) (fun a vs _ h => h.elim (fun h => .inl (sm _ _ h)) fun ⟨o, h⟩ => .inr ⟨o, sm _ _ h⟩) (fun a vs _ h => sm _ _ h) (fun a h z => z.elim (st.dis a h) fun e => fresh_out st hp (by rw [← e]; exact h)) fun a z => ?_
  rcases z with z | z
  · obtain ⟨o, e⟩ := st.thr a z
    exact ⟨o, sm _ _ e⟩
  · rw [z]
    exact ⟨_, upd_same⟩
theorem sto_poke (st : StoR K (withA φ p) ⟨μ, S, H⟩) (hp : H p = some (.lst vs)) : StoR K (withA φ p) ⟨μ, S, upd H p (.lst ws)⟩ := by
  have ne : ∀ a ∈ μ, a ≠ p := fun a h e => st.dis a h (.inr e)
  refine sto_shift st (mv_poke hp) (fun a vs m h => ?_) (fun a vs m h => by rw [upd_ne (ne a m)]; exact h) st.dis fun a z => ?_
  · rcases h with h | ⟨o, h⟩
    · exact .inl (by rw [upd_ne (ne a m)]; exact h)
    · exact .inr ⟨o, by rw [upd_ne (ne a m)]; exact h⟩
  · by_cases e : a = p
    · rw [e]
      exact ⟨_, upd_same⟩
    · obtain ⟨o, e2⟩ := st.thr a z
      exact ⟨o, by rw [upd_ne e]; exact e2⟩
theorem sto_out (st : StoR K (withA φ p) ⟨μ, S, H⟩) : StoR K φ ⟨μ, S, H⟩ := sto_shift st mv_out (fun _ _ _ h => h) (fun _ _ _ h => h) (fun a h z => st.dis a h (.inl z)) fun a z => st.thr a (.inl z)
end
/-- a target whose slots are the comprehension's own -/
def GWp (g : TG) (own : List Nat) : Prop := ∀ (v : V) (σ : L2.St) (H : Hp) (Q : L2.St → Hp → Prop), g v (L2.wipe σ own) H Q → g v (L2.wipe σ own) H fun σ2 H2 => L2.wipe σ2 own = L2.wipe σ own ∧ Q σ2 H2
abbrev tTs (K : PySem.W.Frag) (mg : Str → Option Value) (f : DT) : TT := tT K mg (fun _ _ _ _ => False) f
abbrev PDTs (X : Cx) (ifs : List Expr) (f : DT) : Prop := PTs X ifs (tTs X.K X.mg f)
theorem ptds_nil {X : Cx} : PDTs X [] tYes := ⟨fun pins s σ H Q I h => by
  obtain ⟨φ, μ, ρ, S, st, en, h⟩ := h
  exact pts_nil.run pins s σ H Q I (Sat.here h st rfl)⟩
theorem ptds_one {X : Cx} {c : Expr} {f : DT} (h : PDT X (fun _ _ _ _ => False) c f) : PDTs X [c] f := pts_one h
section
variable {X : Cx} {W : WX}
theorem of_comp {it : DI} {g : DG} {gt : TG} {c : DT} {e : DE} {own : List Nat} (lv : Bool) (hg : GOk X.K g gt) (hw : GWp gt own) (σ : L2.St) (H : Hp) (Q : VK)
    (h : tD X.K X.mg W (eComp lv own it g c e) σ H Q) : tLc (tI X.K X.mg W it) gt (tTs X.K X.mg c) (tD X.K X.mg (fun _ _ _ _ => False) e) own σ H Q := by
  refine tG.first (f := it) (k := fun ρ xs S1 => if xs.length < 16777216 then (compL g c e xs (Den.wipe ρ own) S1).bind fun ys S2 => mkL lv ys S2 else .bad) h fun φ μ1 ρ S1 ds J H1 st1 en1 ok h1 => ?_
  by_cases hlen : ds.length < 16777216
  case neg =>
    rw [if_neg hlen] at h1
    exact h1.elim
  rw [if_pos hlen] at h1
  intro p hp
  have enw := EnvR.wipe own en1
  -- the invariant: i turns are done, ys made so far
  refine ⟨fun i m H => ∃ μ S ys acc, m = ds.length - i ∧ i ≤ ds.length ∧ ys.length ≤ i ∧ H p = some (.lst acc) ∧ Ext ⟨μ1, S1, H1⟩ ⟨μ, S, H⟩ ∧ StoR X.K (withA φ p) ⟨μ, S, H⟩ ∧ Move φ H1 (live S1 μ1) (withA φ p) H (live S μ) ∧
      (Sn.mk μ S H).Reps X.K (withA φ p) ys acc ∧ Sat X.K X.mg φ (fun s => s.Rep X.K φ) W σ ⟨μ1, S1, H1⟩ ((compL g c e (ds.drop i) (Den.wipe ρ own) S).bind fun zs S2 => mkL lv (ys ++ zs) S2) Q,
    ⟨ds.length, μ1, S1, [], [], by simp, Nat.zero_le _, Nat.le_refl _, upd_same, ext_same (same_new hp), sto_in st1 hp, mv_in hp, rfl, by simpa using h1⟩, ?_⟩
  rintro i m H ⟨μ, S, ys, acc, em, hi, hys, hacc, x2, st, mv, rys, h⟩
  have pne : p ∉ μ := fun z => st.dis p z (.inr rfl)
  obtain ⟨stop, items⟩ := ok (withA φ p) ⟨μ, S, H⟩ mv x2.pre st
  by_cases hlt : i < ds.length
  · have ed : ds[i]? = some ds[i] := by simp [hlt]
    obtain ⟨go, yl⟩ := items i _ ed
    refine .inr ⟨go, fun H' => ∃ μ S ys acc, i + 1 ≤ ds.length ∧ ys.length ≤ i + 1 ∧ H' p = some (.lst acc) ∧ Ext ⟨μ1, S1, H1⟩ ⟨μ, S, H'⟩ ∧ StoR X.K (withA φ p) ⟨μ, S, H'⟩ ∧ Move φ H1 (live S1 μ1) (withA φ p) H' (live S μ) ∧
      (Sn.mk μ S H').Reps X.K (withA φ p) ys acc ∧ Sat X.K X.mg φ (fun s => s.Rep X.K φ) W σ ⟨μ1, S1, H1⟩ ((compL g c e (ds.drop (i + 1)) (Den.wipe ρ own) S).bind fun zs S2 => mkL lv (ys ++ zs) S2) Q,
      fun H' ⟨μ, S, ys, acc, a1, a2, a3, a4, a5, a6, a7, a8⟩ => ⟨ds.length - (i + 1), by omega, μ, S, ys, acc, rfl, a1, a2, a3, a4, a5, a6, a7, a8⟩, fun x H' y => ?_⟩
    obtain ⟨μ', S', eS, x3, st3, rx⟩ := yl x H' y
    have eS' : S' = S := eS
    subst eS'
    have hd : ds.drop i = ds[i] :: ds.drop (i + 1) := by rw [List.drop_eq_getElem_cons hlt]
    rw [hd] at h
    unfold compL at h
    have hp3 : H' p = some (.lst acc) := x3.keep p _ hacc fun l => by
      obtain ⟨n, xs, _, l2⟩ := l
      exact pne (List.mem_of_getElem? l2)
    -- what composes with the start
    have mvT : ∀ {μ2 : List Addr} {S2 : Sto} {H2 : Hp}, Ext ⟨μ, S', H⟩ ⟨μ2, S2, H2⟩ → Move φ H1 (live S1 μ1) (withA φ p) H2 (live S2 μ2) := fun x => ⟨fun a o h l f => x.keep a o (mv.keep a o h l f) (mv.out a o h l f), fun a o h l f => x.out a o (mv.keep a o h l f) (mv.out a o h l f), mv.outl⟩
    cases q : g ds[i] (Den.wipe ρ own) with
    | none => rw [q] at h; exact h.elim
    | some ρ1 =>
      rw [q] at h
      dsimp only at h
      have enP : EnvR X.K (withA φ p) ⟨μ', S', H'⟩ (Den.wipe ρ own) (L2.wipe σ own) := ⟨enw.len, fun j d ej => by
        obtain ⟨v, e1, r⟩ := enw.at_ j d ej
        exact ⟨v, e1, Rep.shift (mvT x3) (x2.trans x3).pre d r⟩⟩
      refine hw x σ H' _ (hg (withA φ p) μ' S' H' ds[i] x _ ρ1 _ _ st3 enP rx q fun σ1 en4 => ?_)
      have nolive : ∀ {μ2 : List Addr} {S2 : Sto} {H2 : Hp}, StoR X.K (withA φ p) ⟨μ2, S2, H2⟩ → ¬ live S2 μ2 p := fun st l => by
        obtain ⟨n, xs, _, l2⟩ := l
        exact st.dis p (List.mem_of_getElem? l2) (.inr rfl)
      refine ⟨withA φ p, μ', ρ1, S', st3, en4, ?_⟩
      cases qc : c ρ1 S' with
      | bad => rw [qc] at h; exact h.elim
      | exn z S2 => rw [qc] at h; exact h.elim
      | ok b S2 =>
        rw [qc] at h
        intro b' μ2 H2 x4 st4 rb
        have rb' : b' = b := rb
        subst rb'
        have x24 := x3.trans x4
        cases b' with
        | false =>
          rw [if_neg (by decide)]
          exact ⟨μ2, S2, ys, acc, hlt, by omega, x4.keep p _ hp3 (nolive st3), x2.trans x24, st4, mvT x24, x24.reps rys, h⟩
        | true =>
          rw [if_pos rfl]
          refine ⟨withA φ p, μ2, ρ1, S2, st4, en4.ext x4, ?_⟩
          dsimp only at h
          cases qe : e ρ1 S2 with
          | bad => rw [qe] at h; exact h.elim
          | exn z S3 => rw [qe] at h; exact h.elim
          | ok d S3 =>
            rw [qe] at h
            intro v μ3 H3 x5 st5 rv
            have x35 := x24.trans x5
            have hp5 : H3 p = some (.lst acc) := x5.keep p _ (x4.keep p _ hp3 (nolive st3)) (nolive st4)
            refine ⟨acc, hp5, ?_, ?_⟩
            · rw [rys.length, sizeLine_eq]
              omega
            · have mp := mv_poke (φ := φ) (μ := μ3) (S := S3) (ws := acc ++ [v]) hp5
              refine ⟨μ3, S3, ys ++ [d], acc ++ [v], hlt, by simp; omega, upd_same, ?_, sto_poke st5 hp5, ?_, ?_, ?_⟩
              · have xx := x2.trans x35
                refine ⟨xx.pre, fun a o h l => ?_, xx.out, xx.fresh, fun a h => ?_⟩
                · have ne : a ≠ p := fun ea => by
                    subst ea
                    cases hp.symm.trans h
                  show upd H3 p _ a = some o
                  rw [upd_ne ne]
                  exact xx.keep a o h l
                · by_cases ne : a = p
                  · rw [ne]
                    exact hp
                  · have h : upd H3 p _ a = none := h
                    rw [upd_ne ne] at h
                    exact xx.grow a h
              · have m1 := mvT x35
                exact ⟨fun a o h l f => by
                  have ne : a ≠ p := fun ea => by
                    subst ea
                    cases hp.symm.trans h
                  rw [upd_ne ne]
                  exact m1.keep a o h l f, m1.out, m1.outl⟩
              · exact Reps.append (Reps.shift mp ⟨[], by simp⟩ ys (x35.reps rys)) ⟨v, [], rfl, Rep.shift mp ⟨[], by simp⟩ d rv, rfl⟩
              · have e1 : (compL g c e (ds.drop (i + 1)) (Den.wipe ρ own) S3).bind (fun zs S2 => mkL lv (ys ++ [d] ++ zs) S2) = ((compL g c e (ds.drop (i + 1)) (Den.wipe ρ own) S3).bind fun ys S3 => .ok (d :: ys) S3).bind fun zs S2 => mkL lv (ys ++ zs) S2 := by
                  cases compL g c e (ds.drop (i + 1)) (Den.wipe ρ own) S3 with
                  | bad => rfl
                  | exn z S => rfl
                  | ok zs S => simp [RE.bind]
                rw [e1]
                exact h
  · have ei : i = ds.length := by omega
    subst ei
    refine .inl ⟨stop, ?_⟩
    rw [List.drop_length] at h
    have h : Sat X.K X.mg φ (fun s => s.Rep X.K φ) W σ ⟨μ1, S1, H1⟩ (mkL lv (ys ++ []) S) Q := h
    rw [List.append_nil] at h
    -- the heap without the list that was filled
    have nφ : ¬ φ p := fun z => by
      obtain ⟨o, e⟩ := st1.thr p z
      cases hp.symm.trans e
    have hd : ∀ a, a ≠ p → (fun b => if b = p then none else H b) a = H a := fun a ne => if_neg ne
    have hdp : (fun b => if b = p then (none : Option HO) else H b) p = none := if_pos rfl
    have eH : upd (fun b => if b = p then none else H b) p (.lst acc) = H := by
      funext a
      by_cases e : a = p
      · subst e
        rw [upd_same]
        exact hacc.symm
      · rw [upd_ne e]
        exact hd a e
    have mo : Move (withA φ p) H (live S μ) φ (fun b => if b = p then none else H b) (live S μ) := ⟨fun a o h _ f => by
      have ne : a ≠ p := fun ea => by
        rcases f with f | ⟨xs, f⟩
        · exact f (.inr ea)
        · subst ea f
          cases hacc.symm.trans h
      exact (hd a ne).trans h, fun _ _ _ l _ => l, fun a o h f _ z => f (.inl z)⟩
    have nep : ∀ a ∈ μ, a ≠ p := fun a h e => st.dis a h (.inr e)
    have st' : StoR X.K φ ⟨μ, S, fun b => if b = p then none else H b⟩ := sto_shift st mo (fun a vs m h => by
      rcases h with h | ⟨o, h⟩
      · exact .inl ((hd a (nep a m)).trans h)
      · exact .inr ⟨o, (hd a (nep a m)).trans h⟩) (fun a vs m h => (hd a (nep a m)).trans h) (fun a h z => st.dis a h (.inl z)) fun a z => by
        obtain ⟨o, e⟩ := st.thr a (.inl z)
        exact ⟨o, (hd a (fun e => nφ (by rw [← e]; exact z))).trans e⟩
    have xx : Ext ⟨μ1, S1, H1⟩ ⟨μ, S, fun b => if b = p then none else H b⟩ := ⟨x2.pre, fun a o h l => by
      have ne : a ≠ p := fun ea => by
        subst ea
        cases hp.symm.trans h
      show (if a = p then none else H a) = some o
      rw [if_neg ne]
      exact x2.keep a o h l, x2.out, x2.fresh, fun a h => by
      by_cases ne : a = p
      · rw [ne]
        exact hp
      · have h : (if a = p then none else H a) = none := h
        rw [if_neg ne] at h
        exact x2.grow a h⟩
    have fin := new_lst (W := W) (σ := σ) (live_ := lv) (Q := Q) st' (Reps.shift mo ⟨[], by simp⟩ ys rys) hdp (Sat.later h xx)
    rw [eH] at fin
    exact fin
end
theorem wipe_get (σ : L2.St) (j : Nat) : ∀ is : List Nat, (L2.wipe σ is)[j]? = if j ∈ is then (σ[j]?).map (fun _ => none) else σ[j]?
  | [] => by simp [L2.wipe]
  | i :: is => by
    show ((L2.wipe σ is).set i none)[j]? = _
    by_cases e : j = i
    · subst e
      rw [if_pos List.mem_cons_self]
      by_cases hl : j < σ.length
      · rw [List.getElem?_set_self (by rw [L2.wipe_length]; exact hl)]
        simp [hl]
      · rw [List.getElem?_eq_none (by simp [L2.wipe_length]; omega), List.getElem?_eq_none (by omega)]
        rfl
    · rw [List.getElem?_set_ne (Ne.symm e), wipe_get σ j is]
      by_cases h : j ∈ is
      · rw [if_pos h, if_pos (List.mem_cons_of_mem _ h)]
      · rw [if_neg h, if_neg (by simp [e, h])]
theorem wipe_set {σ : L2.St} {own : List Nat} {i : Nat} (h : i ∈ own) (o : Option V) : L2.wipe (σ.set i o) own = L2.wipe σ own := by
  refine List.ext_getElem? fun j => ?_
  rw [wipe_get, wipe_get]
  by_cases e : j ∈ own
  · rw [if_pos e, if_pos e]
    by_cases hl : j < σ.length
    · simp [hl]
    · rw [List.getElem?_eq_none (by simp; omega), List.getElem?_eq_none (by omega)]
  · rw [if_neg e, if_neg e, List.getElem?_set_ne]
    intro z
    subst z
    exact e h
theorem wipe_wipe (σ : L2.St) (own : List Nat) : L2.wipe (L2.wipe σ own) own = L2.wipe σ own := by
  refine List.ext_getElem? fun j => ?_
  rw [wipe_get, wipe_get]
  by_cases e : j ∈ own
  · rw [if_pos e, if_pos e]
    cases σ[j]? <;> rfl
  · rw [if_neg e, if_neg e]
theorem gw_name (i : Nat) {own : List Nat} (h : i ∈ own := by decide) : GWp (L2.gName i) own := fun v σ H Q q => ⟨by rw [wipe_set h, wipe_wipe], q⟩
/-- tuples as targets -/
def tgNames : List Nat → TGs
  | [] => gNil
  | i :: is => gCons (L2.gName i) (tgNames is)
theorem gk_names : ∀ (is : List Nat) (φ : ASet) (μ : List Addr) (S : Sto) (H : Hp) (ds : List D) (vs : List V) (ρ ρ' : Env) (σ : L2.St) (Q : L2.St → Hp → Prop), StoR K φ ⟨μ, S, H⟩ → EnvR K φ ⟨μ, S, H⟩ ρ σ → (Sn.mk μ S H).Reps K φ ds vs → gNames is ds ρ = some ρ' →
    (∀ σ', EnvR K φ ⟨μ, S, H⟩ ρ' σ' → Q σ' H) → tgNames is vs σ H Q
  | [], φ, μ, S, H, ds, vs, ρ, ρ', σ, Q, st, en, rs, h, q => by
    cases ds with
    | nil =>
      cases h
      have e : vs = [] := rs
      exact ⟨e, q σ en⟩
    | cons d ds => cases h
  | i :: is, φ, μ, S, H, ds, vs, ρ, ρ', σ, Q, st, en, rs, h, q => by
    cases ds with
    | nil => cases h
    | cons d ds =>
      obtain ⟨v, vr, e, r1, r2⟩ := rs
      exact ⟨v, vr, e, gk_names is φ μ S H ds vr _ ρ' _ Q st (en.set r1) r2 h q⟩
theorem gNames_len : ∀ {is : List Nat} {ds : List D} {ρ ρ' : Env}, gNames is ds ρ = some ρ' → ds.length = is.length
  | [], [], _, _, _ => rfl
  | [], _ :: _, _, _, h => by cases h
  | _ :: _, [], _, _, h => by cases h
  | i :: is, d :: ds, ρ, ρ', h => by
    have := gNames_len (is := is) (ds := ds) h
    simp [this]
theorem gk_tup (is : List Nat) : GOk K (Den.gTup is) (L2.gTup K is.length (tgNames is)) := fun φ μ S H d v ρ ρ' σ Q st en r h q => by
  cases d with
  | tup ds =>
    obtain ⟨a, vs, e, t, rs⟩ := r
    have h : gNames is ds ρ = some ρ' := h
    exact ⟨a, vs, e, tupAt_sq t, by rw [rs.length]; exact gNames_len h, gk_names is φ μ S H ds vs ρ ρ' σ Q st en rs h q⟩
  | _ => cases h
theorem gw_names {own : List Nat} : ∀ (is : List Nat) (_ : ∀ i ∈ is, i ∈ own) (vs : List V) (σ0 σ : L2.St) (H : Hp) (Q : L2.St → Hp → Prop), L2.wipe σ own = L2.wipe σ0 own → tgNames is vs σ H Q → tgNames is vs σ H fun σ2 H2 => L2.wipe σ2 own = L2.wipe σ0 own ∧ Q σ2 H2
  | [], _, vs, σ0, σ, H, Q, e, ⟨h1, h2⟩ => ⟨h1, e, h2⟩
  | i :: is, hi, vs, σ0, σ, H, Q, e, ⟨v, r, h1, h2⟩ => ⟨v, r, h1, gw_names is (fun j hj => hi j (List.mem_cons_of_mem _ hj)) r σ0 _ H Q (by rw [wipe_set (hi i List.mem_cons_self), e]) h2⟩
theorem gw_tup (is : List Nat) {own : List Nat} (h : ∀ i ∈ is, i ∈ own := by decide) : GWp (L2.gTup K is.length (tgNames is)) own := fun v σ H Q ⟨a, xs, e, hq, hl, q⟩ => ⟨a, xs, e, hq, hl, gw_names is h xs σ _ H Q (wipe_wipe σ own) q⟩
/-- a, b = e -/
theorem pds_unp {X : Cx} {W : WX} {e : Expr} {fe : DE} {tg : Expr} {pos : Pos} {g : DG} {t : TG} (hg : GOk X.K g t) (he : PD X W e fe) (ht : PG X tg t) (hs : swapsWithSole [tg] e pos.line X.env = pure false := by rfl) (hw : swappedStores [tg] e X.env = pure none := by rfl)
    (h1 : (assignEach [tg] X.env).map (·.2) = [assign tg X.env] := by rfl) : PDS X W (.Assign [tg] e pos) (sUnp g fe) := ps_imp (ps_asg he ht hs hw h1) fun D σ H h => by
  refine tS.first (f := fe) (k := fun ρ x S1 => match g x ρ with | some ρ1 => .nx ρ1 S1 | none => .bad) h fun φ μ ρ S d v H1 st en r h1 => ?_
  cases q : g d ρ with
  | none => rw [q] at h1; exact h1.elim
  | some ρ1 =>
    rw [q] at h1
    exact hg φ μ S H1 d v ρ ρ1 σ _ st en r q fun σ1 en1 => SatS.nxt h1 st en1
end
end Den
end

section
set_option Elab.async false
set_option linter.all false
set_option maxRecDepth 100000
namespace Den
open PySem PySem.Spec PyProof.Rows L2
theorem aNil_n : ∀ ρ S ds S', aNil ρ S = .ok ds S' → ds.length = 0 := fun _ _ _ _ h => by
  cases h
  rfl
theorem aCons_n {n : Nat} {f : DE} {g : DA} (h : ∀ ρ S ds S', g ρ S = .ok ds S' → ds.length = n) : ∀ ρ S ds S', aCons f g ρ S = .ok ds S' → ds.length = n + 1 := fun ρ S ds S' q => by
  unfold aCons at q
  cases e1 : f ρ S with
  | bad => rw [e1] at q; cases q
  | exn x S1 => rw [e1] at q; cases q
  | ok x S1 =>
    rw [e1] at q
    cases e2 : g ρ S1 with
    | bad => rw [RE.bind_ok, e2] at q; cases q
    | exn x S1 => rw [RE.bind_ok, e2] at q; cases q
    | ok xs S2 =>
      rw [RE.bind_ok, e2] at q
      cases q
      rw [List.length_cons, h _ _ _ _ e2]
section
variable {P : Program} {w : World} {K : PySem.W.Frag} {mg : Str → Option Value} {base : Heap}
/-- a def as the top has left it -/
structure DefT (K : PySem.W.Frag) (mg : Str → Option Value) (x : Str) (st : Stmt) (ps : List Str) : Prop where
  ex : ∃ f fd, mg x = some (.ref f) ∧ Fun K x x st f fd ∧ Binds K fd ps []
/-- .. and what it means -/
structure FnAt (P : Program) (w : World) (K : PySem.W.Frag) (mg : Str → Option Value) (base : Heap) (k : Nat) (x : Str) (st : Stmt) (ps : List Str) (F : Fn) : Prop where
  ex : ∃ f fd, mg x = some (.ref f) ∧ Fun K x x st f fd ∧ Binds K fd ps [] ∧ FnOk P w K mg base (L2.CX P w) k f fd ps (spF K mg ps.length F)
structure FnAtL (P : Program) (w : World) (K : PySem.W.Frag) (mg : Str → Option Value) (base : Heap) (k : Nat) (x : Str) (st : Stmt) (ps : List Str) (F : Fn) : Prop where
  ex : ∃ f fd, mg x = some (.ref f) ∧ Fun K x x st f fd ∧ Binds K fd ps [] ∧ FnOk P w K mg base (L2.CX P w) k f fd ps (spFL K mg ps.length F)
theorem FnAtL.frozen {k : Nat} {x : Str} {st : Stmt} {ps : List Str} {F : Fn} (h : FnAtL P w K mg base k x st ps F) : FnAt P w K mg base k x st ps F := by
  obtain ⟨f, fd, h1, h2, h3, h4⟩ := h.ex
  exact ⟨f, fd, h1, h2, h3, h4.imp spFL_of⟩
theorem fn_atL {x : Str} {st : Stmt} {N ps : List Str} {k : Nat} (T : DefT K mg x st ps) (Sc : FnScope N ps (defScope st)) (m : Nat) (g : DS)
    (hb : ∀ (f : Addr) (cdv : Value) (A : Around) (outer : List PySem.Env) (s : Shared) (H : Hp) (E : XK), Room k (A.deeper (envOfC x (defScope st) s.heap.objs.size f cdv)) →
      Takes (cxOf (L2.CX P w) P w K mg base N x (defScope st) f cdv A outer s H E) (fun cls d _ H => E cls d H) →
      PassesOwn (model P w) (cxOf (L2.CX P w) P w K mg base N x (defScope st) f cdv A outer s H E).A (cxOf (L2.CX P w) P w K mg base N x (defScope st) f cdv A outer s H E).env (cxOf (L2.CX P w) P w K mg base N x (defScope st) f cdv A outer s H E).xe →
      PSs (cxOf (L2.CX P w) P w K mg base N x (defScope st) f cdv A outer s H E) (defBody st) (tS K mg (fun cls d _ H => E cls d H) g)) :
    FnAtL P w K mg base (k + 1) x st ps (runL N.length m g) := by
  obtain ⟨f, fd, h1, h2, h3⟩ := T.ex
  exact ⟨f, fd, h1, h2, h3, fn_denL h2 Sc m g fun cdv A outer s H E hr => hb f cdv A outer s H E hr (takes_of rfl rfl rfl rfl) (passes_of rfl)⟩
theorem fn_at {x : Str} {st : Stmt} {N ps : List Str} {k : Nat} (T : DefT K mg x st ps) (Sc : FnScope N ps (defScope st)) (m : Nat) (g : DS)
    (hb : ∀ (f : Addr) (cdv : Value) (A : Around) (outer : List PySem.Env) (s : Shared) (H : Hp) (E : XK), Room k (A.deeper (envOfC x (defScope st) s.heap.objs.size f cdv)) →
      Takes (cxOf (L2.CX P w) P w K mg base N x (defScope st) f cdv A outer s H E) (fun cls d _ H => E cls d H) →
      PassesOwn (model P w) (cxOf (L2.CX P w) P w K mg base N x (defScope st) f cdv A outer s H E).A (cxOf (L2.CX P w) P w K mg base N x (defScope st) f cdv A outer s H E).env (cxOf (L2.CX P w) P w K mg base N x (defScope st) f cdv A outer s H E).xe →
      PSs (cxOf (L2.CX P w) P w K mg base N x (defScope st) f cdv A outer s H E) (defBody st) (tS K mg (fun cls d _ H => E cls d H) g)) :
    FnAt P w K mg base (k + 1) x st ps (run N.length m g) := by
  obtain ⟨f, fd, h1, h2, h3⟩ := T.ex
  exact ⟨f, fd, h1, h2, h3, fn_den h2 Sc m g fun cdv A outer s H E hr => hb f cdv A outer s H E hr (takes_of rfl rfl rfl rfl) (passes_of rfl)⟩
end
section
variable {X : Cx} {W : WX} {k : Nat} {x : Str} {st : Stmt} {ps : List Str} {F : Fn} {e : Expr} {es : List Expr} {p pos : Pos} {fa : DA}
/-- f(..) -/
theorem pd_f (T : FnAt X.prog X.w X.K X.mg X.base k x st ps F) (hr : Room k X.A) (tk : Takes X W) (ha : PDA X W (e :: es) fa) (hn : ∀ ρ S ds S', fa ρ S = .ok ds S' → ds.length = ps.length) (hg : Gl X x := by rfl)
    (hdb : (x == ("__debug__" : Str)) = false := by decide) (he : starEach (e :: es) X.env = (false, eval e X.env) :: starEach es X.env := by rfl) (hpl : (backTo pos (starEach es X.env)).any (·.1) = false := by rfl) :
    PD X W (.Call (.Name x p) (e :: es) [] pos) (eCall F fa) := by
  obtain ⟨f, fd, hm, hF, hb, G⟩ := T.ex
  exact pd_call (pe_callS G hr hg hm hF.kp hb (fun σ => passAt tk σ) ha hdb he hpl) hn
theorem pd_fM (T : FnAt X.prog X.w X.K X.mg X.base k x st ps F) (hr : Room k X.A) (tk : Takes X W) (ha : PDA X W (e :: es) fa) (hn : ∀ ρ S ds S', fa ρ S = .ok ds S' → ds.length = ps.length) (hg : Gl X x := by rfl)
    (hdb : (x == ("__debug__" : Str)) = false := by decide) (he : starEach (e :: es) X.env = (false, eval e X.env) :: starEach es X.env := by rfl) (hpl : (backTo pos (starEach es X.env)).any (·.1) = false := by rfl) :
    PD X W (.Call (.Name x p) (e :: es) [] pos) (eCallM F fa) := by
  obtain ⟨f, fd, hm, hF, hb, G⟩ := T.ex
  exact pd_callM (pe_callS G hr hg hm hF.kp hb (fun σ => passAt tk σ) ha hdb he hpl) hn
end
section
variable {X : Cx} {W : WX} {k : Nat} {x : Str} {st : Stmt} {ps : List Str} {F : Fn} {e : Expr} {es : List Expr} {p pos : Pos} {fa : DA}
theorem pd_fL (T : FnAtL X.prog X.w X.K X.mg X.base k x st ps F) (hr : Room k X.A) (tk : Takes X W) (ha : PDA X W (e :: es) fa) (hn : ∀ ρ S ds S', fa ρ S = .ok ds S' → ds.length = ps.length) (hg : Gl X x := by rfl)
    (hdb : (x == ("__debug__" : Str)) = false := by decide) (he : starEach (e :: es) X.env = (false, eval e X.env) :: starEach es X.env := by rfl) (hpl : (backTo pos (starEach es X.env)).any (·.1) = false := by rfl) :
    PD X W (.Call (.Name x p) (e :: es) [] pos) (eCallL F fa) := by
  obtain ⟨f, fd, hm, hF, hb, G⟩ := T.ex
  exact pd_callL (pe_callS G hr hg hm hF.kp hb (fun σ => passAt tk σ) ha hdb he hpl) hn
end
/-! ### keywords -/
section
variable {X : Cx} {W : WX}
abbrev PDK (X : Cx) (W : WX) (kws : List Keyword) (f : DA) : Prop := PK X kws (tA X.K X.mg W f)
theorem pk_imp {kws : List Keyword} {t t' : TA} (h : PK X kws t) (i : ∀ σ H Q, t' σ H Q → t σ H Q) : PK X kws t' := ⟨fun pos pins s σ H Q I q => h.run pos pins s σ H Q I (i σ H Q q)⟩
theorem pdk_nil : PDK X W [] aNil := pk_imp pk_nil fun σ H Q q => by
  obtain ⟨φ, μ, ρ, S, st, en, q⟩ := q
  exact Sat.here q st rfl
theorem pdk_cons {nm : Option Str} {kpos : Pos} {e : Expr} {kws : List Keyword} {f : DE} {g : DA} (ha : PD X W e f) (hr : PDK X W kws g) : PDK X W (⟨nm, e, kpos⟩ :: kws) (aCons f g) := pk_imp (pk_cons ha hr) fun σ H Q h => by
  refine tG.first (f := f) (k := fun ρ x S1 => (g ρ S1).bind fun xs S2 => .ok (x :: xs) S2) h fun φ μ ρ S d v H1 st en rv h1 => ?_
  refine ⟨φ, μ, ρ, S, st, en, (Sat.bind (Rl := (fun s => s.Reps X.K φ)) h1).imp ?_⟩
  rintro vs H2 ⟨μ2, S2, ds, x2, st2, rs, h2⟩
  exact Sat.here h2 st2 ⟨v, vs, rfl, x2.rep rv, rs⟩
theorem perm_rel {V W : Type} {R : V → W → Prop} (np : Nat) (perm : List Nat) {vs : List V} {us : List W} {zs : List V} {ws : List W} (r : Paired R vs us) (q : Paired R zs ws) : Paired R (permG np perm vs zs) (permG np perm us ws) := by
  unfold permG
  have l : vs.length = us.length := Paired.length r
  rw [l]
  by_cases h : us.length = np
  · rw [if_pos h, if_pos h]
    have app : ∀ {a : List V} {b : List W} {c : List V} {d : List W}, Paired R a b → Paired R c d → Paired R (a ++ c) (b ++ d) := fun r s => by
      induction r with
      | nil => exact s
      | cons r _ ih => exact .cons r ih
    refine app r ?_
    induction perm with
    | nil => exact .nil
    | cons i is ih =>
      have g : ∀ {zs : List V} {ws : List W} (i : Nat), Paired R zs ws → (∃ v w, zs[i]? = some v ∧ ws[i]? = some w ∧ R v w) ∨ (zs[i]? = none ∧ ws[i]? = none) := fun {zs ws} i q => by
        induction q generalizing i with
        | nil => exact .inr ⟨by simp, by simp⟩
        | cons r _ ih =>
          cases i with
          | zero => exact .inl ⟨_, _, rfl, rfl, r⟩
          | succ i => simpa using ih i
      rcases g i q with ⟨v, w, h1, h2, h3⟩ | ⟨h1, h2⟩
      · simp only [List.filterMap_cons, h1, h2]
        exact .cons h3 ih
      · simp only [List.filterMap_cons, h1, h2]
        exact ih
  · rw [if_neg h, if_neg h]
    exact .nil
theorem reps_perm {K : PySem.W.Frag} {φ : ASet} {s : Sn} (np : Nat) (perm : List Nat) {ds es : List D} {vs zs : List V} (r : s.Reps K φ ds vs) (q : s.Reps K φ es zs) : s.Reps K φ (permG np perm ds es) (permG np perm vs zs) := by
  unfold permG
  rw [r.length]
  by_cases h : ds.length = np
  · rw [if_pos h, if_pos h]
    refine Reps.append r ?_
    induction perm with
    | nil => exact rfl
    | cons i is ih =>
      have l := q.length
      cases e : es[i]? with
      | none =>
        have e2 : zs[i]? = none := by
          rw [List.getElem?_eq_none_iff] at e ⊢
          omega
        simp only [List.filterMap_cons, e, e2]
        exact ih
      | some d =>
        obtain ⟨v, q1, q2⟩ := q.get e
        simp only [List.filterMap_cons, e, q1]
        exact ⟨v, _, rfl, q2, ih⟩
  · rw [if_neg h, if_neg h]
    exact rfl
variable {CX : CXT} {k : Nat} {f : Addr} {fd : FuncData} {ps ks : List Str} {sp : Sp} {E : L2.St → XK} {x : Str} {p pos : Pos} {e : Expr} {es : List Expr} {kws : List Keyword} {t tk : TA}
theorem run_fnkS {g : List Value → List Value → List Value} {gV : List V → List V → List V} {pins : List (Addr × Obj)} {σ : L2.St} {H : Hp} {s : Shared} {Q : VK} {us ws : List Value} {vs zs : List V} (F : FnOk X.prog X.w X.K X.mg X.base CX k f fd ps sp) (hr : Room k X.A) (hb : KBinds X.K fd ps ks g gV) (hx : PassesAt CX X σ (E σ))
    (I : Inv X pins σ H s) (r : Vals vs us) (rz : Vals zs ws) (h : sp (gV vs zs) H Q (E σ)) : wpAny (model X.prog X.w) X.A (call (.ref f) us (ks.zip ws)) (EP X pins σ Q) X.xe s := by
  have r2 := hb.rel r rz
  have hl : (g us ws).length = ps.length := by rw [← r2.length]; exact F.len _ _ _ _ h
  refine wpAny_call (codeAny_mono (F.run X.A X.stack s H ⟨us, ks.zip ws⟩ (g us ws) (gV vs zs) Q (E σ) hr I.env0 (hb.to s us ws I.kIn hl) r2 h) fun r s' hq => ?_)
  cases r with
  | error e => exact hx pins H s e s' I hq
  | ok fl =>
    cases fl with
    | ret u => exact I.after hq
    | next => exact False.elim hq
    | brk => exact False.elim hq
    | cont => exact False.elim hq
theorem pe_callKS0 {g : List Value → List Value → List Value} {gV : List V → List V → List V} (F : FnOk X.prog X.w X.K X.mg X.base CX k f fd ps sp) (hr : Room k X.A) (hg : Gl X x) (hm : X.mg x = some (.ref f)) (hk : PySem.W.keepIn X.K (.ref f) = true) (hb : KBinds X.K fd ps ks g gV) (hx : ∀ σ, PassesAt CX X σ (E σ))
    (hkw : PK X kws tk) (hall : (backToKw pos (keywordEach kws X.env)).all (·.1.isSome) = true := by rfl) (hks : (backToKw pos (keywordEach kws X.env)).filterMap (·.1) = ks := by rfl)
    (hdb : (x == ("__debug__" : Str)) = false := by decide)
    (hpl : ((backTo pos (starEach [] X.env)).any (·.1) || (backToKw pos (keywordEach kws X.env)).any (·.1.isNone)) = false := by rfl) :
    PE X (.Call (.Name x p) [] kws pos) (fun σ H Q => tk σ H fun zs H2 => sp (gV [] zs) H2 Q (E σ)) := by
  refine ⟨fun pins s σ H Q I h => ?_⟩
  refine wpAny_Call_Name_kw (ld_glob I hg hm ?_ hdb)
  refine PySem.W.callWith_KW0 (h₀ := X.base) I.ok.mod.kin hk hall ?_ hpl
  refine thn (hkw.run pos pins s σ H _ I h) fun ws s2 ⟨zs, H2, I2, rz, q2⟩ => ⟨I2.kIn, ?_⟩
  rw [hks]
  exact run_fnkS (us := []) F hr hb (hx σ) I2 .nil rz q2
theorem pe_callKS {g : List Value → List Value → List Value} {gV : List V → List V → List V} (F : FnOk X.prog X.w X.K X.mg X.base CX k f fd ps sp) (hr : Room k X.A) (hg : Gl X x) (hm : X.mg x = some (.ref f)) (hk : PySem.W.keepIn X.K (.ref f) = true) (hb : KBinds X.K fd ps ks g gV) (hx : ∀ σ, PassesAt CX X σ (E σ))
    (ha : PA X (e :: es) t) (hkw : PK X kws tk) (hall : (backToKw pos (keywordEach kws X.env)).all (·.1.isSome) = true := by rfl) (hks : (backToKw pos (keywordEach kws X.env)).filterMap (·.1) = ks := by rfl)
    (hdb : (x == ("__debug__" : Str)) = false := by decide) (he : starEach (e :: es) X.env = (false, eval e X.env) :: starEach es X.env := by rfl)
    (hpl : ((backTo pos (starEach (e :: es) X.env)).any (·.1) || (backToKw pos (keywordEach kws X.env)).any (·.1.isNone)) = false := by rfl) :
    PE X (.Call (.Name x p) (e :: es) kws pos) (fun σ H Q => t σ H fun vs H1 => tk σ H1 fun zs H2 => sp (gV vs zs) H2 Q (E σ)) := by
  refine ⟨fun pins s σ H Q I h => ?_⟩
  refine wpAny_Call_Name_kw (ld_glob I hg hm ?_ hdb)
  refine PySem.W.callWith_KW (h₀ := X.base) I.ok.mod.kin hk hall (thn (ha.run pos pins s σ H _ I h) fun us s1 ⟨vs, H1, I1, r, q⟩ => ?_) hpl he
  refine thn (hkw.run pos pins s1 σ H1 _ I1 q) fun ws s2 ⟨zs, H2, I2, rz, q2⟩ => ⟨I2.kIn, ?_⟩
  rw [hks]
  exact run_fnkS F hr hb (hx σ) I2 r rz q2
end
section
variable {X : Cx} {W : WX} {k : Nat} {x : Str} {st : Stmt} {ps ks : List Str} {F : Fn} {e : Expr} {es : List Expr} {kws : List Keyword} {p pos : Pos} {fa fk : DA}
/-- the call's reading, from the arguments' -/
theorem of_callK {np : Nat} {perm : List Nat} {m : Nat} {t : TA} (ht : ∀ σ H Q, tA X.K X.mg W (aKw np perm fa fk) σ H Q → t σ H Q) (hn : ∀ ρ S ds S', aKw np perm fa fk ρ S = .ok ds S' → ds.length = m) (h : PE X e (fun σ H Q => t σ H fun vs H1 => spF X.K X.mg m F vs H1 Q (WE W σ))) : PD X W e (eCall F (aKw np perm fa fk)) :=
  pd_call (np := m) (pe_imp h fun σ H Q q => ht σ H _ q) hn
theorem aKw_len {np m : Nat} {perm : List Nat} {f g : DA} (h : ∀ ρ S ds S', f ρ S = .ok ds S' → ds.length = np) (h2 : ∀ ρ S ds S', g ρ S = .ok ds S' → ds.length = m) (hp : perm.all (· < m) = true) : ∀ ρ S ds S', aKw np perm f g ρ S = .ok ds S' → ds.length = np + perm.length := fun ρ S ds S' q => by
  unfold aKw at q
  cases e1 : f ρ S with
  | bad => rw [e1] at q; cases q
  | exn x S1 => rw [e1] at q; cases q
  | ok xs S1 =>
    rw [e1] at q
    cases e2 : g ρ S1 with
    | bad => rw [RE.bind_ok, e2] at q; cases q
    | exn x S1 => rw [RE.bind_ok, e2] at q; cases q
    | ok ys S2 =>
      rw [RE.bind_ok, e2] at q
      cases q
      have l1 := h _ _ _ _ e1
      have l2 := h2 _ _ _ _ e2
      unfold permG
      rw [if_pos l1, List.length_append, l1]
      have : (perm.filterMap fun i => ys[i]?).length = perm.length := by
        clear e1 e2
        induction perm with
        | nil => rfl
        | cons i is ih =>
          rw [List.all_cons, Bool.and_eq_true, decide_eq_true_eq] at hp
          have e : ys[i]? = some ys[i] := by simp [l2, hp.1]
          simp only [List.filterMap_cons, e, List.length_cons]
          rw [ih hp.2]
      omega
theorem pd_fK0 {np : Nat} {perm : List Nat} (T : FnAt X.prog X.w X.K X.mg X.base k x st ps F) (hb : ∀ f fd, Fun X.K x x st f fd → KBinds X.K fd ps ks (permG 0 perm) (permG 0 perm)) (hr : Room k X.A) (tk : Takes X W) (hkw : PDK X W kws fk) (hn : ∀ ρ S ds S', fk ρ S = .ok ds S' → ds.length = np) (hp : perm.all (· < np) = true) (hps : 0 + perm.length = ps.length) (hg : Gl X x := by rfl)
    (hall : (backToKw pos (keywordEach kws X.env)).all (·.1.isSome) = true := by rfl) (hks : (backToKw pos (keywordEach kws X.env)).filterMap (·.1) = ks := by rfl) (hdb : (x == ("__debug__" : Str)) = false := by decide)
    (hpl : ((backTo pos (starEach [] X.env)).any (·.1) || (backToKw pos (keywordEach kws X.env)).any (·.1.isNone)) = false := by rfl) :
    PD X W (.Call (.Name x p) [] kws pos) (eCall F (aKw 0 perm aNil fk)) := by
  obtain ⟨f, fd, hm, hF, hB, G⟩ := T.ex
  refine of_callK (t := fun σ H Q => tA X.K X.mg W fk σ H fun zs H1 => Q (permG 0 perm [] zs) H1) (fun σ H Q h => ?_) (m := ps.length) (by rw [← hps]; exact aKw_len aNil_n hn hp) (pe_callKS0 G hr hg hm hF.kp (hb f fd hF) (fun σ => passAt tk σ) hkw hall hks hdb hpl)
  obtain ⟨φ, μ, ρ, S, st, en, h⟩ := h
  refine ⟨φ, μ, ρ, S, st, en, ?_⟩
  have h' : Sat X.K X.mg φ (fun s => s.Reps X.K φ) W σ ⟨μ, S, H⟩ ((fk ρ S).bind fun es S2 => .ok (permG 0 perm [] es) S2) Q := h
  refine (Sat.bind (Rl := fun s => s.Reps X.K φ) h').imp ?_
  rintro zs H1 ⟨μ1, S1, ds, x1, st1, rs, h1⟩
  exact Sat.here h1 st1 (reps_perm 0 perm (ds := []) (vs := []) rfl rs)
theorem pd_fK {np nk : Nat} {perm : List Nat} (T : FnAt X.prog X.w X.K X.mg X.base k x st ps F) (hb : ∀ f fd, Fun X.K x x st f fd → KBinds X.K fd ps ks (permG np perm) (permG np perm)) (hr : Room k X.A) (tk : Takes X W) (ha : PDA X W (e :: es) fa) (hkw : PDK X W kws fk) (hna : ∀ ρ S ds S', fa ρ S = .ok ds S' → ds.length = np) (hn : ∀ ρ S ds S', fk ρ S = .ok ds S' → ds.length = nk) (hp : perm.all (· < nk) = true) (hps : np + perm.length = ps.length) (hg : Gl X x := by rfl)
    (hall : (backToKw pos (keywordEach kws X.env)).all (·.1.isSome) = true := by rfl) (hks : (backToKw pos (keywordEach kws X.env)).filterMap (·.1) = ks := by rfl) (hdb : (x == ("__debug__" : Str)) = false := by decide) (he : starEach (e :: es) X.env = (false, eval e X.env) :: starEach es X.env := by rfl)
    (hpl : ((backTo pos (starEach (e :: es) X.env)).any (·.1) || (backToKw pos (keywordEach kws X.env)).any (·.1.isNone)) = false := by rfl) :
    PD X W (.Call (.Name x p) (e :: es) kws pos) (eCall F (aKw np perm fa fk)) := by
  obtain ⟨f, fd, hm, hF, hB, G⟩ := T.ex
  refine of_callK (t := fun σ H Q => tA X.K X.mg W fa σ H fun vs H1 => tA X.K X.mg W fk σ H1 fun zs H2 => Q (permG np perm vs zs) H2) (fun σ H Q h => ?_) (m := ps.length) (by rw [← hps]; exact aKw_len hna hn hp) (pe_callKS G hr hg hm hF.kp (hb f fd hF) (fun σ => passAt tk σ) ha hkw hall hks hdb he hpl)
  obtain ⟨φ, μ, ρ, S, st, en, h⟩ := h
  refine ⟨φ, μ, ρ, S, st, en, (Sat.bind (Rl := fun s => s.Reps X.K φ) (show Sat X.K X.mg φ (fun s => s.Reps X.K φ) W σ ⟨μ, S, H⟩ ((fa ρ S).bind fun ds S1 => (fk ρ S1).bind fun es S2 => .ok (permG np perm ds es) S2) Q from h)).imp ?_⟩
  rintro vs H1 ⟨μ1, S1, ds, x1, st1, rs, h1⟩
  refine ⟨φ, μ1, ρ, S1, st1, en.ext x1, (Sat.bind (Rl := fun s => s.Reps X.K φ) h1).imp ?_⟩
  rintro zs H2 ⟨μ2, S2, es, x2, st2, rs2, h2⟩
  exact Sat.here h2 st2 (reps_perm np perm (x2.reps rs) rs2)
end
/-! ### comprehensions as terms -/
section
variable {X : Cx} {W : WX} {elt tg iter : Expr} {ifs : List Expr} {scope : Scope} {own : List (Str × Nat)} {pos : Pos} {it : DI} {g : DG} {gt : TG} {c : DT} {e : DE}
abbrev W0 : WX := fun _ _ _ _ => False
theorem pd_comp (lv : Bool) (hgk : GOk X.K g gt) (hw : GWp gt (own.map (·.2))) (hc : X.calm = true) (hN : X.N.Nodup) (hi : PDI X W tg iter it) (ok : BlkOk X.N X.env.scope scope own)
    (hg : ∀ (s : Shared) (H : Hp) (C : Addr) (cl : List (Str × Addr)) (fp : List Addr), PG (X.blk s H scope (compEnvC scope cl C X.env) fp) tg gt)
    (ht : ∀ (s : Shared) (H : Hp) (C : Addr) (cl : List (Str × Addr)) (fp : List Addr), PDTs (X.blk s H scope (compEnvC scope cl C X.env) fp) ifs c)
    (he : ∀ (s : Shared) (H : Hp) (C : Addr) (cl : List (Str × Addr)) (fp : List Addr), PD (X.blk s H scope (compEnvC scope cl C X.env) fp) W0 elt e)
    (hs : ∀ x, foldedSetIterable iter X.env x = pure x := by intro _; rfl) : PD X W (.ListComp elt [⟨tg, iter, ifs, 0⟩] scope pos) (eComp lv (own.map (·.2)) it g c e) :=
  pe_imp (pe_lc hc hN hi ok hg ht he hs) (of_comp lv hgk hw)
theorem pds_setComp {i : Nat} {y : Str} {py spos : Pos} (lv : Bool) (hgk : GOk X.K g gt) (hw : GWp gt (own.map (·.2))) (hc : X.calm = true) (hN : X.N.Nodup) (hy : X.N[i]? = some y) (hyl : X.env.scope.names.lookup y = some .local)
    (hsw : swapsWith (.ListComp elt [⟨tg, iter, ifs, 0⟩] scope pos) (some (.Name y py)) spos.line X.env = pure true) (hi : PDI X W tg iter it) (ok : BlkOk X.N X.env.scope scope own)
    (hg : ∀ (s : Shared) (H : Hp) (C : Addr) (cl : List (Str × Addr)) (fp : List Addr), PG (X.blk s H scope (compEnvC scope cl C X.env) fp) tg gt)
    (ht : ∀ (s : Shared) (H : Hp) (C : Addr) (cl : List (Str × Addr)) (fp : List Addr), PDTs (X.blk s H scope (compEnvC scope cl C X.env) fp) ifs c)
    (he : ∀ (s : Shared) (H : Hp) (C : Addr) (cl : List (Str × Addr)) (fp : List Addr), PD (X.blk s H scope (compEnvC scope cl C X.env) fp) W0 elt e)
    (hs : ∀ x, foldedSetIterable iter X.env x = pure x := by intro _; rfl) : PDS X W (.Assign [.Name y py] (.ListComp elt [⟨tg, iter, ifs, 0⟩] scope pos) spos) (sSet i (eComp lv (own.map (·.2)) it g c e)) :=
  ps_imp (ps_setLc hc hN hy hyl hsw hi ok hg ht he hs) fun D σ H h => by
    refine of_comp (c := c) (e := e) lv hgk hw σ H _ ?_
    exact tS.first (f := eComp lv (own.map (·.2)) it g c e) (k := fun ρ x S1 => .nx (ρ.set i (some x)) S1) h fun φ μ ρ S d v H1 st en r h1 => SatS.nxt h1 st (en.set r)
end
/-! ### is None, {}, a module's constants -/
section
variable {X : Cx} {W : WX} {a : Expr} {fa : DE} {pos : Pos}
theorem ud_isN {K : PySem.W.Frag} : UnD K oIsN (fun x H Q => Q (.bl (decide (x = .non))) H) := fun φ μ S H d z v Q st r q k => by
  cases q
  exact k _ H (Same.refl H) (by rw [rep_non r]; rfl)
theorem ud_notN {K : PySem.W.Frag} : UnD K oNotN (fun x H Q => Q (.bl (!decide (x = .non))) H) := fun φ μ S H d z v Q st r q k => by
  cases q
  exact k _ H (Same.refl H) (by rw [rep_non r]; rfl)
theorem pd_isN {j pos'} (ha : PD X W a fa) : PD X W (.Compare a [.Is] [.Constant .none j pos'] pos) (eUn oIsN fa) := pe_imp (pe_cmp (pc_isN ha) rfl) (of_un ud_isN)
theorem pd_notN {j pos'} (ha : PD X W a fa) : PD X W (.Compare a [.IsNot] [.Constant .none j pos'] pos) (eUn oNotN fa) := pe_imp (pe_cmp (pc_notN ha) rfl) (of_un ud_notN)
theorem pdt_isN {j pos'} (ha : PD X W a fa) : PDT X W (.Compare a [.Is] [.Constant .none j pos'] pos) (tVal (eUn oIsN fa)) := pt_imp (pt_cmp (pc_isN ha) rfl) fun σ H Q h => of_tval (of_un ud_isN) σ H Q h
theorem pdt_notN {j pos'} (ha : PD X W a fa) : PDT X W (.Compare a [.IsNot] [.Constant .none j pos'] pos) (tVal (eUn oNotN fa)) := pt_imp (pt_cmp (pc_notN ha) rfl) fun σ H Q h => of_tval (of_un ud_notN) σ H Q h
theorem pd_dct0 : PD X W (.Dict [] [] pos) (eC (.dct [] [])) := pe_imp pe_dnewK fun σ H Q h => by
  obtain ⟨φ, μ, ρ, S, st, en, h⟩ := h
  intro p hp
  have sm := same_new (o := .dK []) hp
  refine Sat.grown h st sm ⟨rfl, rfl, p, rfl, upd_same, fun z => ?_, fun l => ?_⟩
  · obtain ⟨o, e⟩ := st.thr p z
    cases hp.symm.trans e
  · obtain ⟨ws, e⟩ := st.liveTracked l
    cases hp.symm.trans e
def ConstD (K : PySem.W.Frag) (mg : Str → Option Value) (x : Str) (d : D) : Prop := ∃ u v, mg x = some u ∧ RelV v u ∧ ∀ φ s, Sn.Rep K φ s d v
theorem pd_const {x : Str} {d : D} (h : ConstD X.K X.mg x d) (hg : Gl X x := by rfl) (hd : (x == ("__debug__" : Str)) = false := by decide) : PD X W (.Name x pos) (eC d) := by
  obtain ⟨u, v, h1, h2, h3⟩ := h
  exact pd_c (pe_glob hg h1 h2 hd) h3
theorem const_tup {K : PySem.W.Frag} {mg : Str → Option Value} {x : Str} {a : Addr} {dd : Option Addr} {its : List Value} {n : Nat} {sl : Array (Option Value)} {ds : List D} {vs : List V} (h : mg x = some (.ref a)) (l : K.lookup a = some ⟨.type "tuple", dd, .seq its.toArray n, sl⟩)
    (r : Vals vs its) (hz : its.length ≤ 1000) (q : ∀ φ s, Sn.Reps K φ s ds vs) : ConstD K mg x (.tup ds) :=
  ⟨_, .ref a, h, rfl, fun φ s => ⟨a, vs, rfl, .inr (.inr ⟨_, its.toArray, n, l, rfl, rfl, by rw [List.size_toArray, sizeLine_eq]; omega, by simpa using r⟩), q φ s⟩⟩
theorem exm_self {K : PySem.W.Frag} {S : Addr} (h1 : PySem.W.subIn K (.ref S) (.type "BaseException") = some true) (h2 : PySem.W.isClsIn K S = true) (h3 : PySem.W.typeIn K (.ref S) = some (.type "type")) (h4 : PySem.W.subIn K (.ref S) (.ref S) = some true) :
    PySem.W.exmOne K (.ref S) (.ref S) = some true := by
  have e1 : (PySem.W.subIn K (.ref S) (.type "BaseException") == some true) = true := by rw [h1] <;> rfl
  have e2 : ((PySem.W.clsIn K S).isSome && PySem.W.typeIn K (.ref S) == some (.type "type")) = true := by
    have h2' : (PySem.W.clsIn K S).isSome = true := h2
    rw [h2', h3] <;> rfl
  show (if (PySem.W.subIn K (.ref S) (.type "BaseException") == some true) = true then (if ((PySem.W.clsIn K S).isSome && PySem.W.typeIn K (.ref S) == some (.type "type")) = true then PySem.W.subIn K (.ref S) (.ref S) else none) else none) = some true
  rw [if_pos e1, if_pos e2]
  exact h4
end
end Den
end

section
set_option Elab.async false
set_option linter.all false
set_option maxRecDepth 100000
namespace Den
open PySem PySem.Spec PyProof.Rows L2
section
variable {K : PySem.W.Frag} {mg : Str → Option Value} {φ : ASet}
/-! ### list + list -/
def rCatS (K : PySem.W.Frag) : R2 := fun x y H Q => ∃ l b xs zs, x = .ref l ∧ y = .ref b ∧ SqL K H l xs ∧ SqL K H b zs ∧ xs.length + zs.length ≤ sizeLine ∧ ∀ p, H p = none → Q (.ref p) (upd H p (.lst (xs ++ zs)))
theorem op_catS {X : Cx} : OpR X (binaryOp .Add) (rCatS X.K) := by
  intro pins s σ H x y v u Q I rx ry h
  obtain ⟨l, b, xs, zs, rfl, rfl, hH, hB, hz, q⟩ := h
  cases rx
  cases ry
  obtain ⟨its, r, pl, hl⟩ := I.list hH
  obtain ⟨its2, r2, pl2, hl2⟩ := I.list hB
  obtain ⟨⟨cls, dd, data, sl⟩, n, e, hc, hd, hs⟩ := pl
  obtain ⟨⟨cls2, dd2, data2, sl2⟩, n2, e2, hc2, hd2, hs2⟩ := pl2
  simp only at hc hd hs hc2 hd2 hs2
  subst hc hd hs hc2 hd2 hs2
  have ea : its.toArray ++ its2.toArray = (its ++ its2).toArray := by simp
  have z1 := r.length
  have z2 := r2.length
  refine concat_meets ⟨_, e, rfl⟩ ⟨_, e2, rfl⟩ noFill_list_add seq_list_add PySem.F.slot_list_add PySem.F.entry_list_add (PySem.F.args_list_add_2 _ _) (list_addW l b its.toArray its2.toArray n n2 none none sl sl2 (by rw [List.size_toArray, List.size_toArray]; omega)) ⟨e, e2, ?_⟩
  rw [ea]
  exact ⟨.ref _, _, I.lnew (t' := s.toks) (r.append r2) (by rw [List.length_append]; omega), rfl, q _ I.fresh⟩
theorem reps_append {s : Sn} : ∀ {ds es : List D} {vs ws : List V}, s.Reps K φ ds vs → s.Reps K φ es ws → s.Reps K φ (ds ++ es) (vs ++ ws)
  | [], _, _, _, h, g => by
    cases h
    exact g
  | _ :: ds, _, _, _, h, g => by
    obtain ⟨v, r, rfl, h1, h2⟩ := h
    exact ⟨v, _, rfl, h1, reps_append h2 g⟩
theorem od_cat : OpD K oCat (rCatS K) := by
  intro φ μ S H d e z v w Q st r1 r2 q k
  unfold oCat at q
  split at q
  · rename_i xs ys
    by_cases c : xs.length + ys.length ≤ 10000
    · rw [if_pos c] at q
      cases q
      obtain ⟨a, vs, rfl, l1, s1⟩ := r1
      obtain ⟨b, ws, rfl, l2, s2⟩ := r2
      refine ⟨a, b, vs, ws, rfl, rfl, l1.sq, l2.sq, ?_, fun p hp => ?_⟩
      · have e1 : vs.length = xs.length := Reps.length s1
        have e2 : ws.length = ys.length := Reps.length s2
        rw [e1, e2, sizeLine_eq]
        omega
      · have sm := same_new (o := .lst (vs ++ ws)) hp
        have nφ : ¬ φ p := fun z => by
          obtain ⟨o, e⟩ := st.thr p z
          cases hp.symm.trans e
        refine k _ _ sm ⟨p, vs ++ ws, rfl, .inl ⟨.inl upd_same, nφ, fun l => ?_⟩, (ext_same sm).reps (reps_append s1 s2)⟩
        obtain ⟨ws, e⟩ := st.liveTracked l
        cases hp.symm.trans e
    · rw [if_neg c] at q
      cases q
  · cases q
/-! ### bits -/
theorem od_shl : OpD K oShl (rI CShl fun i j => .int (i * 2 ^ j.toNat)) := od_int (h := fun i j => .int (i * 2 ^ j.toNat)) (fun S d e z q => by
  unfold oShl at q
  split at q
  · rename_i i j
    by_cases c : wShl i j = true
    · rw [if_pos c] at q
      cases q
      unfold wShl at c
      rw [Bool.and_eq_true, Bool.and_eq_true, decide_eq_true_eq, decide_eq_true_eq, decide_eq_true_eq] at c
      refine ⟨_, _, rfl, rfl, rfl, c.1.1, ?_⟩
      unfold Builtin.Int.intBits
      have : (2 : Int) ^ 27 = 134217728 := by decide
      rw [this]
      split <;> omega
    · rw [if_neg c] at q
      cases q
  · cases q) fun _ _ _ _ => rfl
theorem pd_bits {X : Cx} {W : WX} {o : Expr} {fo : DE} {apos pos : Pos} (ho : PD X W o fo) (hbase : attributeBase o "bit_length" X.env (eval o X.env) = eval o X.env := by rfl) (hline : (apos.endLine == pos.line) = true := by rfl) : PD X W (.Call (.Attribute o "bit_length" apos) [] [] pos) (eUn oBits fo) := by
  refine pe_imp (pe_bits ho hbase hline) fun σ H Q h => ?_
  refine of_un (f := oBits) (r := fun v H Q => ∃ i, v = .int i ∧ Q (.int (Builtin.Int.intBits i : Nat)) H) (fun φ μ S H d z v Q st r1 q k => ?_) σ H Q h
  unfold oBits at q
  split at q
  · cases q
    exact ⟨_, r1, k _ H (Same.refl H) rfl⟩
  · cases q
end
end Den
end

section
set_option Elab.async false
set_option linter.all false
set_option maxRecDepth 100000
namespace Den
open PySem PySem.Spec PyProof.Rows L2
/-- the law at its address -/
theorem law_at {P : Program} {w : World} {K : PySem.W.Frag} {mg : Str → Option Value} {fa : Addr} {k : Nat} {st : Stmt} {F : Fn} {p : Str} (hfa : mg "law" = some (.ref fa)) (T : DefT K mg "law" st [p]) (G : ∀ base : Heap, FnAt P w K mg base k "law" st [p] F)
    (hb : ∀ (kV doc pm : Value) (an : Option Addr) (cdv ct : Value) (v : Value), ∀ s, BindsTo s (PySem.W.fnOf "law" "law" (defArgs st) (defBody st) (defScope st) .none kV doc pm an cdv ct) ⟨[v], []⟩ [(p, v)]) :
    ∃ fd : FuncData, (∀ (s : Shared) (v : Value), BindsTo s fd ⟨[v], []⟩ [(p, v)]) ∧ ∀ base : Heap, K.In base → base.Ns mainGlobals mg → FnOk P w K mg base (L2.CX P w) k fa fd [p] (spF K mg 1 F) := by
  obtain ⟨f, fd, h1, h2, _⟩ := T.ex
  have e : fa = f := by
    rw [hfa] at h1
    cases h1
    rfl
  subst e
  obtain ⟨oc, od, kV, doc, pm, an, cdv, ct, osl, efd, lk, hcd⟩ := h2.ex
  refine ⟨fd, fun s v => by rw [efd]; exact hb kV doc pm an cdv ct v s, fun base _ _ => ?_⟩
  obtain ⟨f', fd', g1, g2, _, g3⟩ := (G base).ex
  have e : fa = f' := by
    rw [hfa] at g1
    cases g1
    rfl
  subst e
  obtain ⟨oc', od', kV', doc', pm', an', cdv', ct', osl', efd', lk', hcd'⟩ := g2.ex
  have e2 : fd = fd' := by
    rw [lk] at lk'
    cases lk'
    rfl
  rw [e2]
  exact g3
theorem reps_ints {K : PySem.W.Frag} {φ : ASet} {s : Sn} : ∀ ns : List Int, s.Reps K φ (ns.map .int) (ns.map V.int)
  | [] => rfl
  | n :: ns => ⟨_, _, rfl, rfl, reps_ints ns⟩
theorem den_walk {l : PySem.W.OpenLaw} {k : Nat} {F : Fn} {q : Program} {loose : List Str} {XP : (Str → Option Value) → Heap → Prop} {YP : World → Heap → Prop} {d : DefRec} {K : Params → PySem.W.Frag} (hn : l.most = some 63) (hdf : d.params.defaults = []) (hr : Room k callerA)
    (hY : ∀ (w : World) (h : Heap), YP w h → (K w.params).In h)
    (ht : ∀ ns : List Int, ns.length ≤ 63 → (∀ z ∈ ns, Builtin.Int.intBits z ≤ 1048576) → F [.lst (ns.map .int)] [] = .ok (.bl true) [])
    (G : ∀ (w : World) (mg : Str → Option Value) (fa : Addr) (h : Heap), (K w.params).In h → h.Ns mainGlobals mg → mg d.name = some (.ref fa) →
      ∃ fd : FuncData, (∀ (s : Shared) (u : Value), BindsTo s fd ⟨[u], []⟩ [("_law_script", u)]) ∧
        ∀ base : Heap, (K w.params).In base → base.Ns mainGlobals mg → FnOk l.prog w (K w.params) mg base (L2.CX l.prog w) k fa fd ["_law_script"] (spF (K w.params) mg 1 F)) :
    PySem.W.WalkO q loose XP YP l.row.toRowW d [] (fun f vs => PySem.call f vs) := by
  refine L2.walk_ofB (l := l) (n := 63) (k := k) (x := "_law_script") (CX := fun w => L2.CX l.prog w)
    (sp := fun w => fun vs H Q _ => ∃ (a : Addr) (ns : List Int), vs = [.ref a] ∧ SqL (K w.params) H a (ns.map V.int) ∧ ns.length ≤ 63 ∧ (∀ z ∈ ns, Builtin.Int.intBits z ≤ 1048576) ∧ ∀ H', Q (.bl true) H')
    hn (by rw [sizeLine_eq]; decide) hdf hr hY (fun w mg fa h X Gn hfa => ?_) (fun w H a ns h1 h2 _ h3 => ⟨a, ns, rfl, h3, h1, h2, fun _ => rfl⟩) fun w H s e s' z => ?_
  · obtain ⟨fd, hb, hF⟩ := G w mg fa h X Gn hfa
    refine ⟨fd, hb, fun base X2 G2 => (hF base X2 G2).imp fun vs H Q E ⟨a, ns, ev, hS, h1, h2, hQ⟩ => ?_⟩
    subst ev
    refine ⟨noA, [], [], [.lst (ns.map .int)], ⟨rfl, List.nodup_nil, fun a z => (by cases z), fun n a xs z => (by simp at z), fun n a xs z => (by simp at z), fun a z => z.elim⟩, rfl, ⟨.ref a, [], rfl, ⟨a, ns.map V.int, rfl, ?_, reps_ints ns⟩, rfl⟩, ?_⟩
    · rcases hS with hS | hS
      · exact .inl ⟨hS, fun z => z, none_live⟩
      · exact .inr (.inr hS)
    · rw [ht ns h1 h2]
      intro v μ' H' x st ⟨r, _⟩
      rw [show v = .bl true from r]
      exact hQ H'
  · obtain ⟨_, _, _, _, _, _, _, _, _, _, _, _, z⟩ := z
    exact z
end Den
end

section
set_option maxRecDepth 100000
/-! what the pieces give where they are applied: for simp -/
namespace Den
open PySem
section
variable {ρ : Env} {S : Sto}
@[simp] theorem eVar_ap (i : Nat) : eVar i ρ S = match ρ[i]? with | some (some d) => .ok d S | _ => .bad := rfl
@[simp] theorem eC_ap (d : D) : eC d ρ S = .ok d S := rfl
@[simp] theorem aNil_ap : aNil ρ S = .ok [] S := rfl
@[simp] theorem aCons_ap (a : DE) (as : DA) : aCons a as ρ S = (a ρ S).bind fun x S1 => (as ρ S1).bind fun xs S2 => .ok (x :: xs) S2 := rfl
@[simp] theorem eOp_ap (f : Sto → D → D → Option D) (a b : DE) : eOp f a b ρ S = (a ρ S).bind fun x S1 => (b ρ S1).bind fun y S2 => RE.of (f S2 x y) S2 := rfl
@[simp] theorem eUn_ap (f : Sto → D → Option D) (a : DE) : eUn f a ρ S = (a ρ S).bind fun x S1 => RE.of (f S1 x) S1 := rfl
@[simp] theorem eTup_ap (as : DA) : eTup as ρ S = (as ρ S).bind fun xs S1 => .ok (.tup xs) S1 := rfl
@[simp] theorem mkL_false (xs : List D) : mkL false xs S = .ok (.lst xs) S := rfl
@[simp] theorem mkL_true (xs : List D) : mkL true xs S = .ok (.obj S.length) (S ++ [.lst xs]) := rfl
@[simp] theorem eLst_ap (l : Bool) (as : DA) : eLst l as ρ S = (as ρ S).bind fun xs S1 => mkL l xs S1 := rfl
@[simp] theorem eNew_ap (l : Bool) (f : Sto → D → Option (List D)) (a : DE) : eNew l f a ρ S = (a ρ S).bind fun x S1 => (RE.of (f S1 x) S1).bind fun xs S2 => mkL l xs S2 := rfl
@[simp] theorem eIf_ap (t : DT) (a b : DE) : eIf t a b ρ S = (t ρ S).bind fun c S1 => if c then a ρ S1 else b ρ S1 := rfl
@[simp] theorem eNot_ap (a : DE) : eNot a ρ S = (a ρ S).bind fun x S1 => match x with | .bl c => .ok (.bl (!c)) S1 | _ => .bad := rfl
@[simp] theorem eAnd_ap (a b : DE) : eAnd a b ρ S = (a ρ S).bind fun x S1 => match x with | .bl c => if c then b ρ S1 else .ok (.bl false) S1 | _ => .bad := rfl
@[simp] theorem eOr_ap (a b : DE) : eOr a b ρ S = (a ρ S).bind fun x S1 => match x with | .bl c => if c then .ok (.bl true) S1 else b ρ S1 | _ => .bad := rfl
@[simp] theorem tVal_ap (a : DE) : tVal a ρ S = (a ρ S).bind fun x S1 => match x with | .bl c => .ok c S1 | _ => .bad := rfl
@[simp] theorem tAnd_ap (a b : DT) : tAnd a b ρ S = (a ρ S).bind fun c S1 => if c then b ρ S1 else .ok false S1 := rfl
@[simp] theorem tOr_ap (a b : DT) : tOr a b ρ S = (a ρ S).bind fun c S1 => if c then .ok true S1 else b ρ S1 := rfl
@[simp] theorem tNot_ap (a : DT) : tNot a ρ S = (a ρ S).bind fun c S1 => .ok (!c) S1 := rfl
@[simp] theorem tYes_ap : tYes ρ S = .ok true S := rfl
@[simp] theorem eIsK_ap (ks : List Kd) (a : DE) : eIsK ks a ρ S = (a ρ S).bind fun x S1 => .ok (.bl (ks.any (isK x))) S1 := rfl
@[simp] theorem sNext_ap : sNext ρ S = .nx ρ S := rfl
@[simp] theorem sSeq_ap (a b : DS) : sSeq a b ρ S = (a ρ S).thn b := rfl
@[simp] theorem sSet_ap (i : Nat) (a : DE) : sSet i a ρ S = (a ρ S).seq ρ fun x S1 => .nx (ρ.set i (some x)) S1 := rfl
@[simp] theorem sPar_ap (i j : Nat) (as : DA) : sPar i j as ρ S = (as ρ S).seq ρ fun vs S1 => match vs with | [v, w] => .nx ((ρ.set i (some v)).set j (some w)) S1 | _ => .bad := rfl
@[simp] theorem sRet_ap (a : DE) : sRet a ρ S = (a ρ S).seq ρ fun x S1 => .rt x S1 := rfl
@[simp] theorem sRetN_ap : sRetN ρ S = .rt .non S := rfl
@[simp] theorem sDrop_ap (a : DE) : sDrop a ρ S = (a ρ S).seq ρ fun _ S1 => .nx ρ S1 := rfl
@[simp] theorem sIf_ap (t : DT) (a b : DS) : sIf t a b ρ S = (t ρ S).seq ρ fun c S1 => if c then a ρ S1 else b ρ S1 := rfl
@[simp] theorem sBreak_ap : sBreak ρ S = .bk ρ S := rfl
@[simp] theorem sCont_ap : sCont ρ S = .ct ρ S := rfl
@[simp] theorem sSetIx_ap (l i v : DE) : sSetIx l i v ρ S = (v ρ S).seq ρ fun v S1 => (l ρ S1).seq ρ fun l S2 => (i ρ S2).seq ρ fun i S3 => match l, i with
  | .obj n, .int k => match S3[n]? with
    | some (.lst xs) => match setIx xs k v with
      | some ys => .nx ρ (S3.set n (.lst ys))
      | none => .bad
    | _ => .bad
  | _, _ => .bad := rfl
@[simp] theorem eAppend_ap (l v : DE) : eAppend l v ρ S = (l ρ S).bind fun l S1 => match l with
  | .obj n => (v ρ S1).bind fun v S2 => match S2[n]? with
    | some (.lst xs) => if xs.length < 16777216 then .ok .non (S2.set n (.lst (xs ++ [v]))) else .bad
    | _ => .bad
  | _ => .bad := rfl
@[simp] theorem sRaise_ap (c : String) : sRaise c [] aNil ρ S = .exn ⟨c, []⟩ ρ S := rfl
@[simp] theorem calm_nx (ρ : Env) (S : Sto) : (RS.nx ρ S).calm = .nx ρ S := rfl
@[simp] theorem calm_rt (d : D) (S : Sto) : (RS.rt d S).calm = .rt d S := rfl
@[simp] theorem sUnp_ap (g : DG) (a : DE) : sUnp g a ρ S = (a ρ S).seq ρ fun x S1 => match g x ρ with | some ρ1 => .nx ρ1 S1 | none => .bad := rfl
@[simp] theorem sFor_ap (it : DI) (g : DG) (b : DS) : sFor it g b ρ S = (it ρ S).seq ρ fun xs S1 => forL g b xs ρ S1 := rfl
theorem sWhile_ap (t : DT) (b : DS) : sWhile t b ρ S = whileN t b fuel ρ S := rfl
@[simp] theorem gName_ap (i : Nat) (x : D) : gName i x ρ = some (ρ.set i (some x)) := rfl
@[simp] theorem aKw_ap (np : Nat) (perm : List Nat) (as ks : DA) : aKw np perm as ks ρ S = (as ρ S).bind fun ds S1 => (ks ρ S1).bind fun es S2 => .ok (permG np perm ds es) S2 := rfl
end
section
variable {S : Sto} {i j : Int} {b : Bool}
@[simp] theorem oAdd_i : oAdd S (.int i) (.int j) = some (.int (i + j)) := rfl
@[simp] theorem oSub_i : oSub S (.int i) (.int j) = some (.int (i - j)) := rfl
@[simp] theorem oNeg_i : oNeg S (.int i) = some (.int (-i)) := rfl
@[simp] theorem oLt_i : oLt S (.int i) (.int j) = some (.bl (decide (i < j))) := rfl
@[simp] theorem oLe_i : oLe S (.int i) (.int j) = some (.bl (decide (i ≤ j))) := rfl
@[simp] theorem oGt_i : oGt S (.int i) (.int j) = some (.bl (decide (j < i))) := rfl
@[simp] theorem oGe_i : oGe S (.int i) (.int j) = some (.bl (decide (j ≤ i))) := rfl
theorem natAbs_if (x : Int) : (if x < 0 then -x else x) = (x.natAbs : Int) := by
  split <;> omega
@[simp] theorem oAbs_i : oAbs S (.int i) = some (.int (i.natAbs : Int)) := by
  rw [← natAbs_if]
  rfl
@[simp] theorem oInt_i : oInt S (.int i) = some (.int i) := rfl
@[simp] theorem oInt_b : oInt S (.bl b) = some (.int (if b then 1 else 0)) := rfl
@[simp] theorem oMin_i : oMin S (.int i) (.int j) = some (.int (if j < i then j else i)) := rfl
@[simp] theorem oMax_i : oMax S (.int i) (.int j) = some (.int (if j > i then j else i)) := rfl
@[simp] theorem oIsN_ap (d : D) : oIsN S d = some (.bl (isN d)) := rfl
@[simp] theorem oNotN_ap (d : D) : oNotN S d = some (.bl (!isN d)) := rfl
theorem oMul_i (h : i.natAbs.log2 + j.natAbs.log2 < 1000000) : oMul S (.int i) (.int j) = some (.int (i * j)) := by
  unfold oMul wMul
  simp [h]
theorem oDiv_i (h0 : j ≠ 0) (h : j.natAbs.log2 < 9000) : oDiv S (.int i) (.int j) = some (.int (i.fdiv j)) := by
  unfold oDiv wDiv
  simp [h, h0]
theorem oMod_i (h : j ≠ 0) : oMod S (.int i) (.int j) = some (.int (i.fmod j)) := by
  unfold oMod
  simp [h]
theorem oPow_i (h : 0 ≤ j ∧ j ≤ 1000000 ∧ i.natAbs < 2 ^ 64) : oPow S (.int i) (.int j) = some (.int (i ^ j.toNat)) := by
  unfold oPow
  simp [h]
@[simp] theorem oEq_i : oEq S (.int i) (.int j) = some (.bl (i == j)) := by
  simp [oEq, grnd, gnd, cmpAll, cmpOk, dep, eqv]
@[simp] theorem oNe_i : oNe S (.int i) (.int j) = some (.bl (!(i == j))) := by
  simp [oNe, grnd, gnd, cmpAll, cmpOk, dep, eqv]
theorem oEq_g {x y : D} (hx : gnd x = true) (hy : gnd y = true) (h : cmpAll x y = true) : oEq S x y = some (.bl (eqv x y)) := by
  simp [oEq, grnd, hx, hy, h]
theorem oNe_g {x y : D} (hx : gnd x = true) (hy : gnd y = true) (h : cmpAll x y = true) : oNe S x y = some (.bl (!eqv x y)) := by
  simp [oNe, grnd, hx, hy, h]
@[simp] theorem seqv_t (xs : List D) : seqv S (.tup xs) = some xs := rfl
@[simp] theorem seqv_l (xs : List D) : seqv S (.lst xs) = some xs := rfl
theorem seqv_o {n : Nat} {xs : List D} (h : S[n]? = some (.lst xs)) : seqv S (.obj n) = some xs := by simp [seqv, h]
@[simp] theorem oLen_t (xs : List D) : oLen S (.tup xs) = some (.int xs.length) := rfl
@[simp] theorem oLen_l (xs : List D) : oLen S (.lst xs) = some (.int xs.length) := rfl
theorem oIx_s {x : D} {xs : List D} (h : seqv S x = some xs) : oIx S x (.int i) = ixAt xs i := by
  unfold oIx
  rw [h]
@[simp] theorem oIx_t (xs : List D) : oIx S (.tup xs) (.int i) = ixAt xs i := rfl
@[simp] theorem oIx_l (xs : List D) : oIx S (.lst xs) (.int i) = ixAt xs i := rfl
end
@[simp] theorem ixAt_0 {x0 : D} {r : List D} : ixAt (x0 :: r) 0 = some x0 := by simp [ixAt]
@[simp] theorem ixAt_1 {x0 x1 : D} {r : List D} : ixAt (x0 :: x1 :: r) 1 = some x1 := by simp [ixAt]
@[simp] theorem ixAt_2 {x0 x1 x2 : D} {r : List D} : ixAt (x0 :: x1 :: x2 :: r) 2 = some x2 := by simp [ixAt]
@[simp] theorem ixAt_3 {x0 x1 x2 x3 : D} {r : List D} : ixAt (x0 :: x1 :: x2 :: x3 :: r) 3 = some x3 := by simp [ixAt]
@[simp] theorem ixAt_4 {x0 x1 x2 x3 x4 : D} {r : List D} : ixAt (x0 :: x1 :: x2 :: x3 :: x4 :: r) 4 = some x4 := by simp [ixAt]
@[simp] theorem ixAt_5 {x0 x1 x2 x3 x4 x5 : D} {r : List D} : ixAt (x0 :: x1 :: x2 :: x3 :: x4 :: x5 :: r) 5 = some x5 := by simp [ixAt]
@[simp] theorem ixAt_6 {x0 x1 x2 x3 x4 x5 x6 : D} {r : List D} : ixAt (x0 :: x1 :: x2 :: x3 :: x4 :: x5 :: x6 :: r) 6 = some x6 := by simp [ixAt]
@[simp] theorem ixAt_7 {x0 x1 x2 x3 x4 x5 x6 x7 : D} {r : List D} : ixAt (x0 :: x1 :: x2 :: x3 :: x4 :: x5 :: x6 :: x7 :: r) 7 = some x7 := by simp [ixAt]
@[simp] theorem ixAt_8 {x0 x1 x2 x3 x4 x5 x6 x7 x8 : D} {r : List D} : ixAt (x0 :: x1 :: x2 :: x3 :: x4 :: x5 :: x6 :: x7 :: x8 :: r) 8 = some x8 := by simp [ixAt]
@[simp] theorem ixAt_9 {x0 x1 x2 x3 x4 x5 x6 x7 x8 x9 : D} {r : List D} : ixAt (x0 :: x1 :: x2 :: x3 :: x4 :: x5 :: x6 :: x7 :: x8 :: x9 :: r) 9 = some x9 := by simp [ixAt]
@[simp] theorem ixAt_10 {x0 x1 x2 x3 x4 x5 x6 x7 x8 x9 x10 : D} {r : List D} : ixAt (x0 :: x1 :: x2 :: x3 :: x4 :: x5 :: x6 :: x7 :: x8 :: x9 :: x10 :: r) 10 = some x10 := by simp [ixAt]
@[simp] theorem ixAt_11 {x0 x1 x2 x3 x4 x5 x6 x7 x8 x9 x10 x11 : D} {r : List D} : ixAt (x0 :: x1 :: x2 :: x3 :: x4 :: x5 :: x6 :: x7 :: x8 :: x9 :: x10 :: x11 :: r) 11 = some x11 := by simp [ixAt]
@[simp] theorem ixAt_12 {x0 x1 x2 x3 x4 x5 x6 x7 x8 x9 x10 x11 x12 : D} {r : List D} : ixAt (x0 :: x1 :: x2 :: x3 :: x4 :: x5 :: x6 :: x7 :: x8 :: x9 :: x10 :: x11 :: x12 :: r) 12 = some x12 := by simp [ixAt]
@[simp] theorem setIx_0 {x0 v : D} {r : List D} : setIx (x0 :: r) 0 v = some (v :: r) := by
  simp [setIx, Den.ixN]
  try omega
@[simp] theorem setIx_1 {x0 x1 v : D} {r : List D} : setIx (x0 :: x1 :: r) 1 v = some (x0 :: v :: r) := by
  simp [setIx, Den.ixN]
  try omega
@[simp] theorem setIx_2 {x0 x1 x2 v : D} {r : List D} : setIx (x0 :: x1 :: x2 :: r) 2 v = some (x0 :: x1 :: v :: r) := by
  simp [setIx, Den.ixN]
  try omega
@[simp] theorem setIx_3 {x0 x1 x2 x3 v : D} {r : List D} : setIx (x0 :: x1 :: x2 :: x3 :: r) 3 v = some (x0 :: x1 :: x2 :: v :: r) := by
  simp [setIx, Den.ixN]
  try omega
@[simp] theorem setIx_4 {x0 x1 x2 x3 x4 v : D} {r : List D} : setIx (x0 :: x1 :: x2 :: x3 :: x4 :: r) 4 v = some (x0 :: x1 :: x2 :: x3 :: v :: r) := by
  simp [setIx, Den.ixN]
  try omega
@[simp] theorem oIx_o {S : Sto} {n : Nat} {xs : List D} {i : Int} (h : S[n]? = some (.lst xs)) : oIx S (.obj n) (.int i) = ixAt xs i := oIx_s (seqv_o h)
@[simp] theorem oLen_o {S : Sto} {n : Nat} {xs : List D} (h : S[n]? = some (.lst xs)) : oLen S (.obj n) = some (.int xs.length) := by
  show (seqv S (.obj n)).map (fun xs => D.int xs.length) = _
  rw [seqv_o h]
  rfl
/-- a call by what its def gives -/
theorem eCall_of {F : Fn} {as : DA} {ρ : Env} {S S1 S2 : Sto} {ds ds' : List D} {d : D} {S3 : Sto} (h1 : as ρ S = .ok ds S1) (h2 : fzs S1 ds = some (ds', S2)) (h3 : F ds' [] = .ok d S3) : eCall F as ρ S = .ok d S2 := by
  unfold eCall
  rw [h1]
  simp [h2, h3]
theorem fz1_g {S : Sto} {d : D} (h : gnd d = true) : fz1 S d = some (d, S) := by
  unfold fz1
  rw [if_pos h]
theorem fzs_g {S : Sto} : ∀ {ds : List D}, gnds ds = true → fzs S ds = some (ds, S)
  | [], _ => rfl
  | d :: ds, h => by
    have h' : gnd d = true ∧ gnds ds = true := by simpa [gnds] using h
    unfold fzs
    rw [fz1_g h'.1]
    simp [fzs_g h'.2]
theorem gnds_ints (ns : List Int) : gnds (ns.map .int) = true := by
  induction ns with
  | nil => rfl
  | cons n ns ih => simp [gnds, gnd, ih]
theorem gnds_append : ∀ (xs ys : List D), gnds (xs ++ ys) = (gnds xs && gnds ys)
  | [], ys => by simp [gnds]
  | x :: xs, ys => by simp [gnds, gnds_append xs ys, Bool.and_assoc]
end Den
end

section
set_option maxRecDepth 100000
namespace Den
open PySem
/-! ### sizes -/
theorem log2_lt_of {n k : Nat} (hk : 0 < k) (h : n < 2 ^ k) : n.log2 < k := by
  by_cases h0 : n = 0
  · subst h0
    simpa using hk
  · exact (Nat.log2_lt h0).mpr h
theorem oMul_b {S : Sto} {i j : Int} (a b : Nat) (h1 : i.natAbs < 2 ^ a) (h2 : j.natAbs < 2 ^ b) (ha : 0 < a := by decide) (hb : 0 < b := by decide) (h : a + b ≤ 1000000 := by decide) : oMul S (.int i) (.int j) = some (.int (i * j)) := by
  have := log2_lt_of ha h1
  have := log2_lt_of hb h2
  exact oMul_i (by omega)
theorem oDiv_b {S : Sto} {i j : Int} (b : Nat) (h0 : j ≠ 0) (h2 : j.natAbs < 2 ^ b) (hb : 0 < b := by decide) (h : b ≤ 9000 := by decide) : oDiv S (.int i) (.int j) = some (.int (i.fdiv j)) := by
  have := log2_lt_of hb h2
  exact oDiv_i h0 (by omega)
theorem oDiv_p {S : Sto} {i j : Int} (b : Nat) (h0 : 0 < j) (h2 : j.natAbs < 2 ^ b) (hb : 0 < b := by decide) (h : b ≤ 9000 := by decide) : oDiv S (.int i) (.int j) = some (.int (i / j)) := by
  rw [oDiv_b b (by omega) h2 hb h, Int.fdiv_eq_ediv_of_nonneg i (by omega)]
theorem oMod_p {S : Sto} {i j : Int} (h : 0 < j) : oMod S (.int i) (.int j) = some (.int (i % j)) := by
  rw [oMod_i (by omega), Int.fmod_eq_emod_of_nonneg i (by omega)]
/-- what a def without store-lists gives, from its body -/
theorem run_ret {n : Nat} {b : DS} {ds : List D} {d : D} {S' : Sto} (h : b (start n ds) [] = .rt d S') (g : gnd d = true) : run n 0 b ds [] = .ok d [] := by
  unfold run
  rw [if_pos (show ([] : Sto).length = 0 from rfl), h]
  simp [fin, grndF, g]
theorem run_exn {n : Nat} {b : DS} {ds : List D} {x : Exn} {ρ : Env} {S' : Sto} (h : b (start n ds) [] = .exn x ρ S') : run n 0 b ds [] = .exn x [] := by
  unfold run
  rw [if_pos (show ([] : Sto).length = 0 from rfl), h]
  simp
theorem run_ret1 {n : Nat} {b : DS} {ds : List D} {d : D} {xs ys : List D} {S' : Sto} (h : b (start n ds) [.lst xs] = .rt d (.lst ys :: S')) (g : gnd d = true) (gy : gnds ys = true) : run n 1 b ds [.lst xs] = .ok d [.lst ys] := by
  unfold run
  rw [if_pos (show [MO.lst xs].length = 1 from rfl), h]
  simp [fin, grndF, g, mGnd, gy]
theorem runL_ret {n : Nat} {b : DS} {ds : List D} {xs : List D} {k : Nat} {S' : Sto} (h : b (start n ds) [] = .rt (.obj k) S') (hk : S'[k]? = some (.lst xs)) (g : gnds xs = true) : runL n 0 b ds [] = .ok (.lst xs) [] := by
  unfold runL
  rw [if_pos (show ([] : Sto).length = 0 from rfl), h]
  simp [hk, g]
/-- calls by what their defs give -/
theorem call_ok {F : Fn} {as : DA} {ρ : Env} {S S1 : Sto} {ds : List D} {d : D} {S3 : Sto} (h1 : as ρ S = .ok ds S1) (h2 : gnds ds = true) (h3 : F ds [] = .ok d S3) : eCall F as ρ S = .ok d S1 := by
  unfold eCall
  rw [h1]
  simp [fzs_g h2, h3]
theorem call_exn {F : Fn} {as : DA} {ρ : Env} {S S1 : Sto} {ds : List D} {x : Exn} {S3 : Sto} (h1 : as ρ S = .ok ds S1) (h2 : gnds ds = true) (h3 : F ds [] = .exn x S3) : eCall F as ρ S = .exn x S1 := by
  unfold eCall
  rw [h1]
  simp [fzs_g h2, h3]
theorem callM_ok {F : Fn} {as : DA} {ρ : Env} {S S1 : Sto} {n : Nat} {ds : List D} {d : D} {xs ys : List D} {r : Sto} (h1 : as ρ S = .ok (.obj n :: ds) S1) (h2 : gnds ds = true) (hn : S1[n]? = some (.lst xs)) (gx : gnds xs = true) (h3 : F (.obj 0 :: ds) [.lst xs] = .ok d (.lst ys :: r)) (gy : gnds ys = true) :
    eCallM F as ρ S = .ok d (S1.set n (.lst ys)) := by
  unfold eCallM
  rw [h1]
  simp [fzs_g h2, hn, gx, h3, gy]
theorem callL_ok {F : Fn} {as : DA} {ρ : Env} {S S1 : Sto} {ds : List D} {xs : List D} {S3 : Sto} (h1 : as ρ S = .ok ds S1) (h2 : gnds ds = true) (h3 : F ds [] = .ok (.lst xs) S3) : eCallL F as ρ S = .ok (.obj S1.length) (S1 ++ [.lst xs]) := by
  unfold eCallL
  rw [h1]
  simp [fzs_g h2, h3]
end Den
namespace Pre
open Den PySem
def b__law_great : DS :=
  (sSeq (sIf (Den.tAnd (tVal (eOp oLt (eVar 1) (eUn oLen (eVar 0)))) (tVal (eOp oGe (eUn oAbs (eOp oIx (eVar 0) (eVar 1))) (eOp oPow (eC (.int 10)) (eC (.int 18))))))
  (sRet (eUn oAbs (eOp oIx (eVar 0) (eVar 1))))
  sNext)
  (sRet (eC (.int 0))))
def f__law_great : Fn := run 2 0 b__law_great

def b__law_stream : DS :=
  (sSeq (sSet 1 (eNew false nList (eVar 0)))
  (sSeq (sIf (tVal (eOp oEq (eUn oLen (eVar 1)) (eC (.int 0))))
  (sSet 1 (eLst false (aCons (eC (.int 0)) aNil)))
  sNext)
  (sRet (eLst true (aCons (eVar 1) (aCons (eC (.int 0)) (aCons (eCall f__law_great (aCons (eVar 1) (aCons (eC (.int 0)) aNil))) (aCons (eC (.int 0)) aNil))))))))
def f__law_stream : Fn := runL 2 0 b__law_stream

def b__law_mixed : DS :=
  (sSeq (sSet 2 (eOp oMod (eUn oInt (eOp oMul (eOp oAdd (eOp oAdd (eOp oMod (eUn oInt (eVar 0)) (eC (.int 2147483647))) (eOp oMul (eC (.int 7919)) (eVar 1))) (eC (.int 1))) (eC (.int 48271)))) (eC (.int 2147483647))))
  (sSeq (sSet 2 (eOp oMod (eUn oInt (eOp oMul (eVar 2) (eOp oAdd (eOp oDiv (eVar 2) (eC (.int 1009))) (eC (.int 69621))))) (eC (.int 2147483647))))
  (sRet (eOp oMod (eUn oInt (eOp oMul (eVar 2) (eOp oAdd (eOp oDiv (eVar 2) (eC (.int 2003))) (eC (.int 40692))))) (eC (.int 2147483399))))))
def f__law_mixed : Fn := run 3 0 b__law_mixed

def b__law_take : DS :=
  (sSeq (sSet 2 (eOp oIx (eVar 0) (eC (.int 0))))
  (sSeq (sSet 3 (eOp oIx (eVar 0) (eC (.int 1))))
  (sSeq (sSetIx (eVar 0) (eC (.int 3)) (eOp oAdd (eOp oIx (eVar 0) (eC (.int 3))) (eC (.int 1))))
  (sSeq (sIf (tVal (eOp oGt (eOp oIx (eVar 0) (eC (.int 2))) (eC (.int 0))))
  (sSeq (sSet 4 (eOp oMod (eUn oInt (eOp oIx (eVar 0) (eC (.int 2)))) (eVar 1)))
  (sSeq (sSetIx (eVar 0) (eC (.int 2)) (eOp oDiv (eOp oIx (eVar 0) (eC (.int 2))) (eVar 1)))
  (sIf (tVal (eOp oGt (eOp oIx (eVar 0) (eC (.int 2))) (eC (.int 0))))
  (sRet (eVar 4))
  sNext)))
  (sSet 4 (eOp oMod (eCall f__law_mixed (aCons (eOp oIx (eVar 2) (eOp oMod (eUn oInt (eVar 3)) (eUn oLen (eVar 2)))) (aCons (eOp oIx (eVar 0) (eC (.int 3))) aNil))) (eVar 1))))
  (sSeq (sSetIx (eVar 0) (eC (.int 1)) (eOp oAdd (eVar 3) (eC (.int 1))))
  (sSeq (sSetIx (eVar 0) (eC (.int 2)) (eCall f__law_great (aCons (eVar 2) (aCons (eOp oAdd (eVar 3) (eC (.int 1))) aNil))))
  (sRet (eVar 4))))))))
def f__law_take : Fn := run 5 1 b__law_take


/-! ### the stream of draws -/
theorem mixed_ok (c k : Int) (h0 : 0 ≤ k) (h1 : k < 2 ^ 64) : ∃ v, f__law_mixed [.int c, .int k] [] = .ok (.int v) [] := by
  have hx : 0 ≤ c % 2147483647 ∧ c % 2147483647 < 2147483647 := ⟨Int.emod_nonneg _ (by decide), Int.emod_lt_of_pos _ (by decide)⟩
  generalize ea : c % 2147483647 = a at hx
  have m1 : oMul [] (.int 7919) (.int k) = some (.int (7919 * k)) := oMul_b 13 64 (by decide) (by omega)
  have m2 : oMul [] (.int (a + 7919 * k + 1)) (.int 48271) = some (.int ((a + 7919 * k + 1) * 48271)) := oMul_b 90 17 (by omega) (by decide)
  generalize eb : (a + 7919 * k + 1) * 48271 = b at m2
  have hy : 0 ≤ b % 2147483647 ∧ b % 2147483647 < 2147483647 := ⟨Int.emod_nonneg _ (by decide), Int.emod_lt_of_pos _ (by decide)⟩
  generalize ec : b % 2147483647 = d at hy
  have m3 : oMul [] (.int d) (.int (d / 1009 + 69621)) = some (.int (d * (d / 1009 + 69621))) := oMul_b 31 40 (by omega) (by omega)
  generalize ee : d * (d / 1009 + 69621) = e at m3
  have hz : 0 ≤ e % 2147483647 ∧ e % 2147483647 < 2147483647 := ⟨Int.emod_nonneg _ (by decide), Int.emod_lt_of_pos _ (by decide)⟩
  generalize ef : e % 2147483647 = f at hz
  have m4 : oMul [] (.int f) (.int (f / 2003 + 40692)) = some (.int (f * (f / 2003 + 40692))) := oMul_b 31 40 (by omega) (by omega)
  have o1 : oMod [] (.int c) (.int 2147483647) = some (.int a) := by rw [oMod_p (by decide), ea]
  have o2 : oMod [] (.int b) (.int 2147483647) = some (.int d) := by rw [oMod_p (by decide), ec]
  have o3 : oMod [] (.int e) (.int 2147483647) = some (.int f) := by rw [oMod_p (by decide), ef]
  have o4 : ∀ x : Int, oMod [] (.int x) (.int 2147483399) = some (.int (x % 2147483399)) := fun x => oMod_p (by decide)
  have q1 : oDiv [] (.int d) (.int 1009) = some (.int (d / 1009)) := oDiv_p 10 (by decide) (by decide)
  have q2 : oDiv [] (.int f) (.int 2003) = some (.int (f / 2003)) := oDiv_p 11 (by decide) (by decide)
  refine ⟨(f * (f / 2003 + 40692)) % 2147483399, ?_⟩
  unfold f__law_mixed
  refine run_ret (S' := []) ?_ rfl
  unfold b__law_mixed
  simp [Den.start, o1, o2, o3, o4, m1, m2, m3, m4, q1, q2]
theorem ixAt_ints {ns : List Int} {i : Int} (h0 : 0 ≤ i) (h1 : i < ns.length) : ∃ v, ixAt (ns.map .int) i = some (.int v) := by
  have hlt : i.toNat < ns.length := by omega
  refine ⟨ns[i.toNat], ?_⟩
  unfold ixAt
  rw [if_pos h0, List.getElem?_map]
  simp [hlt]
theorem great_ok (ns : List Int) (p : Int) (h0 : 0 ≤ p) : ∃ v, f__law_great [.lst (ns.map .int), .int p] [] = .ok (.int v) [] := by
  unfold f__law_great
  have hp : oPow [] (.int 10) (.int 18) = some (.int 1000000000000000000) := oPow_i (by decide)
  by_cases h : p < ns.length
  · obtain ⟨v, hv⟩ := ixAt_ints h0 h
    by_cases h2 : (1000000000000000000 : Int) ≤ (v.natAbs : Int)
    · refine ⟨v.natAbs, run_ret (S' := []) ?_ rfl⟩
      unfold b__law_great
      simp [Den.start, h, hv, hp, h2]
    · refine ⟨0, run_ret (S' := []) ?_ rfl⟩
      unfold b__law_great
      simp [Den.start, h, hv, hp, h2]
  · refine ⟨0, run_ret (S' := []) ?_ rfl⟩
    unfold b__law_great
    simp [Den.start, h]
/-- the stream: the cells, the place, what is left of a great cell, how many draws -/
def enc (ns : List Int) (p g k : Int) : List D := [.lst (ns.map .int), .int p, .int g, .int k]
theorem gnds_enc (ns : List Int) (p g k : Int) : gnds (enc ns p g k) = true := by simp [enc, gnds, gnd, gnds_ints]
/-- a stream behind at most n draws -/
def Str (n : Nat) (xs : List D) : Prop := ∃ ns p g k, xs = enc ns p g k ∧ ns ≠ [] ∧ 0 ≤ p ∧ 0 ≤ k ∧ k ≤ n
theorem Str.gnd {n : Nat} {xs : List D} (h : Str n xs) : gnds xs = true := by
  obtain ⟨ns, p, g, k, rfl, _⟩ := h
  exact gnds_enc ns p g k
theorem Str.mono {n m : Nat} {xs : List D} (h : Str n xs) (l : n ≤ m) : Str m xs := by
  obtain ⟨ns, p, g, k, e, h1, h2, h3, h4⟩ := h
  exact ⟨ns, p, g, k, e, h1, h2, h3, by omega⟩
theorem stream_ok (ns : List Int) : ∃ xs, f__law_stream [.lst (ns.map .int)] [] = .ok (.lst xs) [] ∧ Str 0 xs := by
  have key : ∀ ms : List Int, ms ≠ [] → ∃ xs, Str 0 xs ∧ (eLst true (aCons (eVar 1) (aCons (eC (.int 0)) (aCons (eCall f__law_great (aCons (eVar 1) (aCons (eC (.int 0)) aNil))) (aCons (eC (.int 0)) aNil))))) [some (.lst (ns.map .int)), some (.lst (ms.map .int))] [] = .ok (.obj 0) [.lst xs] := fun ms hm => by
    obtain ⟨v, hv⟩ := great_ok ms 0 (by decide)
    have hc := call_ok (F := f__law_great) (as := aCons (eVar 1) (aCons (eC (.int 0)) aNil)) (ρ := [some (.lst (ns.map .int)), some (.lst (ms.map .int))]) (S := []) (S1 := []) (ds := [.lst (ms.map .int), .int 0]) (by simp) (by simp [gnds, Den.gnd, gnds_ints]) hv
    refine ⟨enc ms 0 v 0, ⟨ms, 0, v, 0, rfl, hm, by decide, by decide, by decide⟩, ?_⟩
    simp [hc, enc]
  unfold f__law_stream
  by_cases h : ns = []
  · subst h
    obtain ⟨xs, h1, h2⟩ := key [0] (by simp)
    refine ⟨xs, runL_ret (k := 0) (S' := [.lst xs]) ?_ rfl h1.gnd, h1⟩
    unfold b__law_stream
    simp [Den.start, nList] at h2 ⊢
    rw [h2]
    rfl
  · obtain ⟨xs, h1, h2⟩ := key ns h
    refine ⟨xs, runL_ret (k := 0) (S' := [.lst xs]) ?_ rfl h1.gnd, h1⟩
    unfold b__law_stream
    have hl : ¬ (ns.length : Int) = 0 := by
      intro z
      exact h (List.length_eq_zero_iff.mp (by omega))
    simp [Den.start, nList, h] at h2 ⊢
    rw [h2]
    rfl
theorem take_ok {n : Nat} {xs : List D} (h : Str n xs) (many : Int) (h0 : 0 < many) (h1 : many < 2 ^ 100) (hn : n < 1000000000) : ∃ d ys, f__law_take [.obj 0, .int many] [.lst xs] = .ok (.int d) [.lst ys] ∧ Str (n + 1) ys ∧ 0 ≤ d ∧ d < many := by
  obtain ⟨ns, p, g, k, rfl, hne, hp, hk, hkn⟩ := h
  have om : ∀ (S : Sto) (x : Int), oMod S (.int x) (.int many) = some (.int (x % many)) := fun S x => oMod_p h0
  have od : ∀ (S : Sto) (x : Int), oDiv S (.int x) (.int many) = some (.int (x / many)) := fun S x => oDiv_p 100 h0 (by omega)
  have rng : ∀ x : Int, 0 ≤ x % many ∧ x % many < many := fun x => ⟨Int.emod_nonneg _ (by omega), Int.emod_lt_of_pos _ h0⟩
  have hlen : 0 < (ns.length : Int) := by
    have := List.length_pos_iff.mpr hne
    omega
  obtain ⟨g', hg'⟩ := great_ok ns (p + 1) (by omega)
  have cg : ∀ (ρ : Den.Env) (S : Sto), ρ[2]? = some (some (.lst (ns.map .int))) → ρ[3]? = some (some (.int p)) → eCall f__law_great (aCons (eVar 2) (aCons (eOp oAdd (eVar 3) (eC (.int 1))) aNil)) ρ S = .ok (.int g') S := fun ρ S h2 h3 =>
    call_ok (ds := [.lst (ns.map .int), .int (p + 1)]) (by simp [h2, h3]) (by simp [gnds, Den.gnd, gnds_ints]) hg'
  unfold f__law_take
  by_cases hgp : 0 < g
  · by_cases hq : 0 < g / many
    · refine ⟨g % many, enc ns p (g / many) (k + 1), run_ret1 (S' := []) ?_ rfl (gnds_enc _ _ _ _), ⟨ns, p, _, k + 1, rfl, hne, hp, by omega, by omega⟩, rng g⟩
      unfold b__law_take
      simp [Den.start, enc, hgp, om, od, hq]
    · refine ⟨g % many, enc ns (p + 1) g' (k + 1), run_ret1 (S' := []) ?_ rfl (gnds_enc _ _ _ _), ⟨ns, p + 1, _, k + 1, rfl, hne, by omega, by omega, by omega⟩, rng g⟩
      unfold b__law_take
      simp [Den.start, enc, hgp, om, od, hq, cg]
  · obtain ⟨c, hc⟩ := ixAt_ints (ns := ns) (i := p % ns.length) (Int.emod_nonneg _ (by omega)) (Int.emod_lt_of_pos _ hlen)
    obtain ⟨v, hv⟩ := mixed_ok c (k + 1) (by omega) (by omega)
    have ol : ∀ (S : Sto), oMod S (.int p) (.int ns.length) = some (.int (p % ns.length)) := fun S => oMod_p hlen
    refine ⟨v % many, enc ns (p + 1) g' (k + 1), run_ret1 (S' := []) ?_ rfl (gnds_enc _ _ _ _), ⟨ns, p + 1, _, k + 1, rfl, hne, by omega, by omega, by omega⟩, rng v⟩
    have cm : ∀ (ρ : Den.Env) (S : Sto), ρ[2]? = some (some (.lst (ns.map .int))) → ρ[3]? = some (some (.int p)) → ρ[0]? = some (some (.obj 0)) → S = [.lst [.lst (ns.map .int), .int p, .int g, .int (k + 1)]] →
        eCall f__law_mixed (aCons (eOp oIx (eVar 2) (eOp oMod (eUn oInt (eVar 3)) (eUn oLen (eVar 2)))) (aCons (eOp oIx (eVar 0) (eC (.int 3))) aNil)) ρ S = .ok (.int v) S := fun ρ S h2 h3 h4 h5 =>
      call_ok (ds := [.int c, .int (k + 1)]) (by subst h5; simp [h2, h3, h4, ol, hc]) rfl hv
    unfold b__law_take
    simp [Den.start, enc, hgp, om, cg, cm]
def b__law_whole : DS :=
  (sSeq (sSet 1 (eCallM f__law_take (aCons (eVar 0) (aCons (eC (.int 5)) aNil))))
  (sSeq (sSet 2 (eOp oSub (eC (.int 1)) (eOp oMul (eC (.int 2)) (eCallM f__law_take (aCons (eVar 0) (aCons (eC (.int 2)) aNil))))))
  (sSeq (sIf (tVal (eOp oEq (eVar 1) (eC (.int 0))))
  (sRet (eOp oMul (eVar 2) (eCallM f__law_take (aCons (eVar 0) (aCons (eC (.int 4)) aNil)))))
  sNext)
  (sSeq (sIf (tVal (eOp oEq (eVar 1) (eC (.int 1))))
  (sRet (eOp oMul (eVar 2) (eCallM f__law_take (aCons (eVar 0) (aCons (eC (.int 200)) aNil)))))
  sNext)
  (sSeq (sIf (tVal (eOp oEq (eVar 1) (eC (.int 2))))
  (sRet (eOp oMul (eVar 2) (eCallM f__law_take (aCons (eVar 0) (aCons (eOp oPow (eC (.int 10)) (eC (.int 9))) aNil)))))
  sNext)
  (sSeq (sSet 3 (eOp oAdd (eOp oMul (eCallM f__law_take (aCons (eVar 0) (aCons (eOp oPow (eC (.int 10)) (eC (.int 13))) aNil))) (eOp oPow (eC (.int 10)) (eC (.int 13)))) (eCallM f__law_take (aCons (eVar 0) (aCons (eOp oPow (eC (.int 10)) (eC (.int 13))) aNil)))))
  (sSeq (sIf (tVal (eOp oEq (eVar 1) (eC (.int 3))))
  (sRet (eOp oMul (eVar 2) (eVar 3)))
  sNext)
  (sRet (eOp oMul (eVar 2) (eOp oAdd (eOp oMul (eVar 3) (eOp oPow (eC (.int 10)) (eC (.int 13)))) (eCallM f__law_take (aCons (eVar 0) (aCons (eOp oPow (eC (.int 10)) (eC (.int 13))) aNil)))))))))))))
def f__law_whole : Fn := run 4 1 b__law_whole

theorem p8 (S : Sto) : oPow S (.int 10) (.int 8) = some (.int 100000000) := oPow_i (by decide)
theorem p9 (S : Sto) : oPow S (.int 10) (.int 9) = some (.int 1000000000) := oPow_i (by decide)
theorem p13 (S : Sto) : oPow S (.int 10) (.int 13) = some (.int 10000000000000) := oPow_i (by decide)
theorem p18 (S : Sto) : oPow S (.int 10) (.int 18) = some (.int 1000000000000000000) := oPow_i (by decide)
theorem p30 (S : Sto) : oPow S (.int 10) (.int 30) = some (.int 1000000000000000000000000000000) := oPow_i (by decide)
/-- a draw, where it is asked for: by a written number, or any other way -/
theorem takeE {n : Nat} {xs : List D} (h : Str n xs) (many : Int) (h0 : 0 < many) (h1 : many < 2 ^ 100) (hn : n < 1000000000) : ∃ d ys,
    (∀ (i : Nat) (ρ : Den.Env) (S : Sto), ρ[i]? = some (some (.obj 0)) → S[0]? = some (.lst xs) → eCallM f__law_take (aCons (eVar i) (aCons (eC (.int many)) aNil)) ρ S = .ok (.int d) (S.set 0 (.lst ys))) ∧
    (∀ (i : Nat) (a : DE) (ρ : Den.Env) (S : Sto), ρ[i]? = some (some (.obj 0)) → S[0]? = some (.lst xs) → a ρ S = .ok (.int many) S → eCallM f__law_take (aCons (eVar i) (aCons a aNil)) ρ S = .ok (.int d) (S.set 0 (.lst ys))) ∧ Str (n + 1) ys ∧ 0 ≤ d ∧ d < many := by
  obtain ⟨d, ys, e, s, r⟩ := take_ok h many h0 h1 hn
  have g : ∀ (i : Nat) (a : DE) (ρ : Den.Env) (S : Sto), ρ[i]? = some (some (.obj 0)) → S[0]? = some (.lst xs) → a ρ S = .ok (.int many) S → eCallM f__law_take (aCons (eVar i) (aCons a aNil)) ρ S = .ok (.int d) (S.set 0 (.lst ys)) := fun i a ρ S q1 q2 q3 =>
    callM_ok (S1 := S) (ds := [.int many]) (by simp [q1, q3]) rfl q2 h.gnd e s.gnd
  exact ⟨d, ys, fun i ρ S q1 q2 => g i _ ρ S q1 q2 rfl, g, s, r⟩
/-- .. by 10 ** e -/
theorem takeP {n : Nat} {xs : List D} (h : Str n xs) (e : Int) (many : Int) (he : ∀ S, oPow S (.int 10) (.int e) = some (.int many)) (h0 : 0 < many) (h1 : many < 2 ^ 100) (hn : n < 1000000000) : ∃ d ys,
    (∀ (i : Nat) (ρ : Den.Env) (S : Sto), ρ[i]? = some (some (.obj 0)) → S[0]? = some (.lst xs) → eCallM f__law_take (aCons (eVar i) (aCons (eOp oPow (eC (.int 10)) (eC (.int e))) aNil)) ρ S = .ok (.int d) (S.set 0 (.lst ys))) ∧ Str (n + 1) ys ∧ 0 ≤ d ∧ d < many := by
  obtain ⟨d, ys, _, g, s, r⟩ := takeE h many h0 h1 hn
  exact ⟨d, ys, fun i ρ S q1 q2 => g i _ ρ S q1 q2 (by simp [he]), s, r⟩
/-- a def of the stream alone, where it is called -/
theorem strE {F : Fn} {xs ys : List D} {d : D} (e : F [.obj 0] [.lst xs] = .ok d [.lst ys]) (hx : gnds xs = true) (hy : gnds ys = true) : ∀ (i : Nat) (ρ : Den.Env) (S : Sto), ρ[i]? = some (some (.obj 0)) → S[0]? = some (.lst xs) → eCallM F (aCons (eVar i) aNil) ρ S = .ok d (S.set 0 (.lst ys)) := fun i ρ S q1 q2 =>
  callM_ok (S1 := S) (ds := []) (by simp [q1]) rfl q2 hx e hy
set_option maxErrors 3 in
theorem whole_ok {n : Nat} {xs : List D} (h : Str n xs) (hn : n < 100000000) : ∃ v ys, f__law_whole [.obj 0] [.lst xs] = .ok (.int v) [.lst ys] ∧ Str (n + 5) ys ∧ -(10 ^ 39) < v ∧ v < 10 ^ 39 := by
  obtain ⟨d1, x1, e1, _, s1, r1, r1'⟩ := takeE h 5 (by decide) (by decide) (by omega)
  obtain ⟨d2, x2, e2, _, s2, r2, r2'⟩ := takeE s1 2 (by decide) (by decide) (by omega)
  have sg : ∀ (S : Sto), oMul S (.int 2) (.int d2) = some (.int (2 * d2)) := fun S => oMul_b 2 2 (by decide) (by omega)
  generalize hs : 1 - 2 * d2 = s
  have hs1 : -1 ≤ s ∧ s ≤ 1 := by omega
  have mb : ∀ (x : Int), -(10 ^ 39) < x → x < 10 ^ 39 → ∀ S : Sto, oMul S (.int s) (.int x) = some (.int (s * x)) := fun x l1 l2 S => oMul_b 1 130 (by omega) (by omega)
  have mr : ∀ x : Int, 0 ≤ x → x < 10 ^ 39 → -(10 ^ 39) < s * x ∧ s * x < 10 ^ 39 := fun x l1 l2 => by
    have : s = -1 ∨ s = 0 ∨ s = 1 := by omega
    rcases this with z | z | z <;> subst z <;> omega
  have m13 : ∀ (x : Int), 0 ≤ x → x < 10 ^ 26 → ∀ S : Sto, oMul S (.int x) (.int 10000000000000) = some (.int (x * 10000000000000)) := fun x l1 l2 S => oMul_b 100 50 (by omega) (by decide)
  unfold f__law_whole
  by_cases c0 : d1 = 0
  · obtain ⟨d3, x3, e3, _, s3, r3, r3'⟩ := takeE s2 4 (by decide) (by decide) (by omega)
    refine ⟨s * d3, x3, run_ret1 (S' := []) ?_ rfl s3.gnd, s3.mono (by omega), mr d3 (by omega) (by omega)⟩
    unfold b__law_whole
    simp [Den.start, e1, e2, e3, sg, hs, c0, mb d3 (by omega) (by omega)]
  by_cases c1 : d1 = 1
  · obtain ⟨d3, x3, e3, _, s3, r3, r3'⟩ := takeE s2 200 (by decide) (by decide) (by omega)
    refine ⟨s * d3, x3, run_ret1 (S' := []) ?_ rfl s3.gnd, s3.mono (by omega), mr d3 (by omega) (by omega)⟩
    unfold b__law_whole
    simp [Den.start, e1, e2, e3, sg, hs, c1, mb d3 (by omega) (by omega)]
  by_cases c2 : d1 = 2
  · obtain ⟨d3, x3, e3, s3, r3, r3'⟩ := takeP s2 9 1000000000 p9 (by decide) (by decide) (by omega)
    refine ⟨s * d3, x3, run_ret1 (S' := []) ?_ rfl s3.gnd, s3.mono (by omega), mr d3 (by omega) (by omega)⟩
    unfold b__law_whole
    simp [Den.start, e1, e2, e3, sg, hs, c2, p9, mb d3 (by omega) (by omega)]
  obtain ⟨d3, x3, e3, s3, r3, r3'⟩ := takeP s2 13 10000000000000 p13 (by decide) (by decide) (by omega)
  obtain ⟨d4, x4, e4, s4, r4, r4'⟩ := takeP s3 13 10000000000000 p13 (by decide) (by decide) (by omega)
  by_cases c3 : d1 = 3
  · refine ⟨s * (d3 * 10000000000000 + d4), x4, run_ret1 (S' := []) ?_ rfl s4.gnd, s4.mono (by omega), mr _ (by omega) (by omega)⟩
    unfold b__law_whole
    simp [Den.start, e1, e2, e3, e4, sg, hs, c3, p13, m13 d3 (by omega) (by omega), mb (d3 * 10000000000000 + d4) (by omega) (by omega)]
  · obtain ⟨d5, x5, e5, s5, r5, r5'⟩ := takeP s4 13 10000000000000 p13 (by decide) (by decide) (by omega)
    refine ⟨s * ((d3 * 10000000000000 + d4) * 10000000000000 + d5), x5, run_ret1 (S' := []) ?_ rfl s5.gnd, s5.mono (by omega), mr _ (by omega) (by omega)⟩
    unfold b__law_whole
    simp [Den.start, e1, e2, e3, e4, e5, sg, hs, c0, c1, c2, c3, p13, m13 d3 (by omega) (by omega), m13 (d3 * 10000000000000 + d4) (by omega) (by omega), mb ((d3 * 10000000000000 + d4) * 10000000000000 + d5) (by omega) (by omega)]
end Pre
end

section
set_option maxRecDepth 100000
namespace Pre
open Den PySem
def b_is_integer : DS :=
  (sRet (eAnd (eIsK [.int] (eVar 0)) (eNot (eIsK [.bool] (eVar 0)))))
def f_is_integer : Fn := run 1 0 b_is_integer

def b_common_part : DS :=
  (sSeq (sSet 0 (eUn oAbs (eVar 0)))
  (sSeq (sSet 1 (eUn oAbs (eVar 1)))
  (sSeq (sWhile (tVal (eOp oGt (eVar 1) (eC (.int 0))))
  (sPar 0 1 (aCons (eVar 1) (aCons (eOp oMod (eVar 0) (eVar 1)) aNil))))
  (sRet (eVar 0)))))
def f_common_part : Fn := run 2 0 b_common_part

def b_lowest : DS :=
  (sSeq (sSet 2 (eCall f_common_part (aCons (eVar 0) (aCons (eVar 1) aNil))))
  (sSeq (sIf (tVal (eOp oLt (eVar 1) (eC (.int 0))))
  (sSet 2 (eUn oNeg (eVar 2)))
  sNext)
  (sRet (eTup (aCons (eOp oDiv (eVar 0) (eVar 2)) (aCons (eOp oDiv (eVar 1) (eVar 2)) aNil))))))
def f_lowest : Fn := run 3 0 b_lowest

def b__law_is_integer : DS :=
  (sRet (eAnd (eIsK [.int] (eVar 0)) (eNot (eIsK [.bool] (eVar 0)))))
def f__law_is_integer : Fn := run 1 0 b__law_is_integer

def b__law_low : DS :=
  (sSeq (sSet 2 (eUn oAbs (eVar 0)))
  (sSeq (sSet 3 (eUn oAbs (eVar 1)))
  (sSeq (sWhile (tVal (eOp oGt (eVar 3) (eC (.int 0))))
  (sPar 2 3 (aCons (eVar 3) (aCons (eOp oMod (eUn oInt (eVar 2)) (eVar 3)) aNil))))
  (sSeq (sIf (tVal (eOp oLt (eVar 1) (eC (.int 0))))
  (sSet 2 (eUn oNeg (eVar 2)))
  sNext)
  (sRet (eTup (aCons (eOp oDiv (eVar 0) (eVar 2)) (aCons (eOp oDiv (eVar 1) (eVar 2)) aNil))))))))
def f__law_low : Fn := run 4 0 b__law_low

def b__law_is_frac : DS :=
  (sSeq (sIf (Den.tOr (Den.tNot (tVal (eIsK [.tuple] (eVar 0)))) (tVal (eOp oNe (eUn oLen (eVar 0)) (eC (.int 2)))))
  (sRet (eC (.bl false)))
  sNext)
  (sSeq (sIf (Den.tOr (Den.tNot (tVal (eCall f__law_is_integer (aCons (eOp oIx (eVar 0) (eC (.int 0))) aNil)))) (Den.tOr (Den.tNot (tVal (eCall f__law_is_integer (aCons (eOp oIx (eVar 0) (eC (.int 1))) aNil)))) (tVal (eOp oLt (eOp oIx (eVar 0) (eC (.int 1))) (eC (.int 1))))))
  (sRet (eC (.bl false)))
  sNext)
  (sRet (eOp oEq (eCall f__law_low (aCons (eOp oIx (eVar 0) (eC (.int 0))) (aCons (eOp oIx (eVar 0) (eC (.int 1))) aNil))) (eVar 0)))))
def f__law_is_frac : Fn := run 1 0 b__law_is_frac


/-! ### integers -/
def isInt : D → Bool
  | .int _ => true
  | _ => false
theorem is_integer_ok (d : D) : f_is_integer [d] [] = .ok (.bl (isInt d)) [] := by
  refine run_ret (S' := []) ?_ rfl
  cases d <;> simp [b_is_integer, Den.start, isK, isInt]
theorem law_is_integer_ok (d : D) : f__law_is_integer [d] [] = .ok (.bl (isInt d)) [] := by
  refine run_ret (S' := []) ?_ rfl
  cases d <;> simp [b__law_is_integer, Den.start, isK, isInt]
/-! ### Euclid -/
theorem gcd_step (x y : Nat) : Nat.gcd y (x % y) = Nat.gcd x y := by
  rw [Nat.gcd_comm x y, Nat.gcd_rec y x, Nat.gcd_comm]
theorem euclid1 : ∀ (k x y : Nat) (S : Sto), y < k → whileN (tVal (eOp oGt (eVar 1) (eC (.int 0)))) (sPar 0 1 (aCons (eVar 1) (aCons (eOp oMod (eVar 0) (eVar 1)) aNil))) k [some (.int x), some (.int y)] S = .nx [some (.int (Nat.gcd x y)), some (.int 0)] S
  | 0, x, y, S, h => absurd h (Nat.not_lt_zero _)
  | k + 1, x, y, S, h => by
    unfold whileN
    by_cases hy : y = 0
    · subst hy
      simp
    · have hp : (0 : Int) < y := by omega
      have om : oMod S (.int x) (.int y) = some (.int ((x % y : Nat) : Int)) := by rw [oMod_p hp]; rfl
      have ih := euclid1 k y (x % y) S (by have := Nat.mod_lt x (Nat.pos_of_ne_zero hy); omega)
      simp only [tVal_ap, eOp_ap, eVar_ap, eC_ap, RE.bind_ok, oGt_i, RE.of_some, RE.seq_ok, List.getElem?_cons_succ, List.getElem?_cons_zero, sPar_ap, aCons_ap, aNil_ap, om, List.set_cons_zero, List.set_cons_succ, hp, decide_true, if_true]
      rw [ih, gcd_step]
theorem euclid2 : ∀ (k : Nat) (a b : Option D) (x y : Nat) (S : Sto), y < k → whileN (tVal (eOp oGt (eVar 3) (eC (.int 0)))) (sPar 2 3 (aCons (eVar 3) (aCons (eOp oMod (eUn oInt (eVar 2)) (eVar 3)) aNil))) k [a, b, some (.int x), some (.int y)] S = .nx [a, b, some (.int (Nat.gcd x y)), some (.int 0)] S
  | 0, a, b, x, y, S, h => absurd h (Nat.not_lt_zero _)
  | k + 1, a, b, x, y, S, h => by
    unfold whileN
    by_cases hy : y = 0
    · subst hy
      simp
    · have hp : (0 : Int) < y := by omega
      have om : oMod S (.int x) (.int y) = some (.int ((x % y : Nat) : Int)) := by rw [oMod_p hp]; rfl
      have ih := euclid2 k a b y (x % y) S (by have := Nat.mod_lt x (Nat.pos_of_ne_zero hy); omega)
      simp only [tVal_ap, eOp_ap, eUn_ap, oInt_i, eVar_ap, eC_ap, RE.bind_ok, oGt_i, RE.of_some, RE.seq_ok, List.getElem?_cons_succ, List.getElem?_cons_zero, sPar_ap, aCons_ap, aNil_ap, om, List.set_cons_zero, List.set_cons_succ, hp, decide_true, if_true]
      rw [ih, gcd_step]
/-- below what the loops and the divisions can do -/
def Sz (x : Int) : Prop := x.natAbs < 2 ^ 3000
theorem Sz.fuel {x : Int} (h : Sz x) : x.natAbs < fuel := by
  rw [fuel_eq]
  refine Nat.lt_of_lt_of_le h ?_
  decide +kernel
theorem common_part_ok (a b : Int) (h : Sz b) : f_common_part [.int a, .int b] [] = .ok (.int (Int.gcd a b)) [] := by
  refine run_ret (S' := []) ?_ rfl
  have e := euclid1 fuel a.natAbs b.natAbs [] h.fuel
  unfold b_common_part
  simp [Den.start, sWhile_ap, e, Int.gcd]
/-- in lowest terms: what t / b is -/
structure Low (t b x y p : Int) : Prop where
  top : t = p * x
  bot : b = p * y
  pos : 1 ≤ y
  one : Int.gcd x y = 1
  ne : p ≠ 0
theorem low_of (t b : Int) (hb : b ≠ 0) : ∃ x y, Low t b x y (if b < 0 then -(Int.gcd t b : Int) else Int.gcd t b) := by
  have g0 : Int.gcd t b ≠ 0 := fun z => hb (Int.gcd_eq_zero_iff.mp z).2
  obtain ⟨x, hx⟩ := Int.gcd_dvd_left t b
  obtain ⟨y, hy⟩ := Int.gcd_dvd_right t b
  have h1 : Int.gcd x y = 1 := by
    have e : Int.gcd ((Int.gcd t b : Int) * x) ((Int.gcd t b : Int) * y) = (Int.gcd t b) * Int.gcd x y := by
      rw [Int.gcd_mul_left]
      rfl
    rw [← hx, ← hy] at e
    have := Nat.eq_of_mul_eq_mul_left (Nat.pos_of_ne_zero g0) (show Int.gcd t b * Int.gcd x y = Int.gcd t b * 1 by omega)
    exact this
  generalize hg : (Int.gcd t b : Int) = g at hx hy
  have gp : 0 < g := by omega
  by_cases c : b < 0
  · rw [if_pos c]
    refine ⟨-x, -y, by rw [hx, Int.neg_mul_neg], by rw [hy, Int.neg_mul_neg], ?_, by rw [Int.gcd_neg, Int.neg_gcd, h1], by omega⟩
    rw [hy] at c
    by_cases hyn : y < 0
    · omega
    · exact absurd (Int.mul_nonneg (Int.le_of_lt gp) (by omega : 0 ≤ y)) (by omega)
  · rw [if_neg c]
    refine ⟨x, y, hx, hy, ?_, h1, by omega⟩
    by_cases hyp : 0 < y
    · omega
    · have : g * y ≤ 0 := Int.mul_nonpos_of_nonneg_of_nonpos (Int.le_of_lt gp) (by omega)
      omega
theorem gcd_sz {t b : Int} (hb : b ≠ 0) (h : Sz b) : (Int.gcd t b) < 2 ^ 3000 := Nat.lt_of_le_of_lt (Nat.le_of_dvd (by omega) (Nat.gcd_dvd_right t.natAbs b.natAbs)) h
theorem lowest_ok (t b : Int) (hb : b ≠ 0) (h : Sz b) : ∃ x y p, f_lowest [.int t, .int b] [] = .ok (.tup [.int x, .int y]) [] ∧ Low t b x y p := by
  obtain ⟨x, y, l⟩ := low_of t b hb
  have gs := gcd_sz (t := t) hb h
  generalize hp : (if b < 0 then -(Int.gcd t b : Int) else Int.gcd t b) = p at l
  have ps : p.natAbs < 2 ^ 3000 := by
    rw [← hp]
    split <;> omega
  refine ⟨x, y, p, run_ret (S' := []) ?_ rfl, l⟩
  have e := common_part_ok t b h
  have c : ∀ (ρ : Den.Env), ρ[0]? = some (some (.int t)) → ρ[1]? = some (some (.int b)) → eCall f_common_part (aCons (eVar 0) (aCons (eVar 1) aNil)) ρ [] = .ok (.int (Int.gcd t b)) [] := fun ρ h0 h1 => call_ok (S1 := []) (ds := [.int t, .int b]) (by simp [h0, h1]) rfl e
  have d1 : oDiv [] (.int t) (.int p) = some (.int x) := by
    rw [oDiv_b 3000 l.ne ps]
    conv => lhs; rw [l.top]
    rw [Int.mul_fdiv_cancel_left x l.ne]
  have d2 : oDiv [] (.int b) (.int p) = some (.int y) := by
    rw [oDiv_b 3000 l.ne ps]
    conv => lhs; rw [l.bot]
    rw [Int.mul_fdiv_cancel_left y l.ne]
  unfold b_lowest
  by_cases hn : b < 0
  · rw [if_pos hn] at hp
    simp [Den.start, c, hn, hp, d1, d2]
  · rw [if_neg hn] at hp
    simp [Den.start, c, hn, hp, d1, d2]
theorem law_low_ok (t b : Int) (hb : b ≠ 0) (h : Sz b) : ∃ x y p, f__law_low [.int t, .int b] [] = .ok (.tup [.int x, .int y]) [] ∧ Low t b x y p := by
  obtain ⟨x, y, l⟩ := low_of t b hb
  have gs := gcd_sz (t := t) hb h
  generalize hp : (if b < 0 then -(Int.gcd t b : Int) else Int.gcd t b) = p at l
  have ps : p.natAbs < 2 ^ 3000 := by
    rw [← hp]
    split <;> omega
  refine ⟨x, y, p, run_ret (S' := []) ?_ rfl, l⟩
  have e := euclid2 fuel (some (.int t)) (some (.int b)) t.natAbs b.natAbs [] h.fuel
  have hg : (Nat.gcd t.natAbs b.natAbs : Int) = Int.gcd t b := rfl
  have d1 : oDiv [] (.int t) (.int p) = some (.int x) := by
    rw [oDiv_b 3000 l.ne ps]
    conv => lhs; rw [l.top]
    rw [Int.mul_fdiv_cancel_left x l.ne]
  have d2 : oDiv [] (.int b) (.int p) = some (.int y) := by
    rw [oDiv_b 3000 l.ne ps]
    conv => lhs; rw [l.bot]
    rw [Int.mul_fdiv_cancel_left y l.ne]
  unfold b__law_low
  by_cases hn : b < 0
  · rw [if_pos hn] at hp
    simp [Den.start, sWhile_ap, e, hg, hn, hp, d1, d2]
  · rw [if_neg hn] at hp
    simp [Den.start, sWhile_ap, e, hg, hn, hp, d1, d2]
/-- a fraction as data -/
abbrev fr (x y : Int) : D := .tup [.int x, .int y]
theorem Low.self {x y a b p : Int} (l : Low x y a b p) (h1 : 1 ≤ y) (hg : Int.gcd x y = 1) : a = x ∧ b = y := by
  have e : Int.gcd (p * a) (p * b) = p.natAbs * Int.gcd a b := Int.gcd_mul_left p a b
  rw [← l.top, ← l.bot, hg, l.one] at e
  have hp : p = 1 ∨ p = -1 := by omega
  rcases hp with z | z
  · have h1 := l.top
    have h2 := l.bot
    rw [z] at h1 h2
    omega
  · have h2 := l.bot
    have := l.pos
    rw [z] at h2
    omega
theorem law_is_frac_ok (x y : Int) (h1 : 1 ≤ y) (hg : Int.gcd x y = 1) (h : Sz y) : f__law_is_frac [fr x y] [] = .ok (.bl true) [] := by
  obtain ⟨a, b, p, e, l⟩ := law_low_ok x y (by omega) h
  obtain ⟨e1, e2⟩ := l.self h1 hg
  subst e1 e2
  refine run_ret (S' := []) ?_ rfl
  have c1 : ∀ (ρ : Den.Env), ρ[0]? = some (some (fr a b)) → eCall f__law_is_integer (aCons (eOp oIx (eVar 0) (eC (.int 0))) aNil) ρ [] = .ok (.bl true) [] := fun ρ h0 => call_ok (S1 := []) (ds := [.int a]) (by simp [h0]) rfl (law_is_integer_ok _)
  have c2 : ∀ (ρ : Den.Env), ρ[0]? = some (some (fr a b)) → eCall f__law_is_integer (aCons (eOp oIx (eVar 0) (eC (.int 1))) aNil) ρ [] = .ok (.bl true) [] := fun ρ h0 => call_ok (S1 := []) (ds := [.int b]) (by simp [h0]) rfl (law_is_integer_ok _)
  have c3 : ∀ (ρ : Den.Env), ρ[0]? = some (some (fr a b)) → eCall f__law_low (aCons (eOp oIx (eVar 0) (eC (.int 0))) (aCons (eOp oIx (eVar 0) (eC (.int 1))) aNil)) ρ [] = .ok (fr a b) [] := fun ρ h0 => call_ok (S1 := []) (ds := [.int a, .int b]) (by simp [h0]) rfl e
  have q : oEq [] (fr a b) (fr a b) = some (.bl true) := by
    rw [oEq_g (by simp [gnd, gnds]) (by simp [gnd, gnds]) (by simp [cmpAll, cmpOk, cmpOks, dep, deps])]
    simp [eqv, eqvs]
  have hb : ¬ b < 1 := by omega
  unfold b__law_is_frac
  simp [Den.start, isK, c1, c2, c3, q, hb]
end Pre
end

section
set_option maxRecDepth 100000
namespace Pre
open Den PySem
def c_ZERO : D := .tup [.int 0, .int 1]
def b__law_fraction : DS :=
  (sSeq (sSet 1 (eCallM f__law_whole (aCons (eVar 0) aNil)))
  (sRet (eCall f__law_low (aCons (eVar 1) (aCons (eOp oAdd (eC (.int 1)) (eUn oAbs (eCallM f__law_whole (aCons (eVar 0) aNil)))) aNil)))))
def f__law_fraction : Fn := run 2 1 b__law_fraction

def b_is_fraction : DS :=
  (sSeq (sIf (Den.tOr (Den.tNot (tVal (eIsK [.tuple] (eVar 0)))) (tVal (eOp oNe (eUn oLen (eVar 0)) (eC (.int 2)))))
  (sRet (eC (.bl false)))
  sNext)
  (sSeq (sIf (Den.tOr (Den.tNot (tVal (eCall f_is_integer (aCons (eOp oIx (eVar 0) (eC (.int 0))) aNil)))) (Den.tOr (Den.tNot (tVal (eCall f_is_integer (aCons (eOp oIx (eVar 0) (eC (.int 1))) aNil)))) (tVal (eOp oLt (eOp oIx (eVar 0) (eC (.int 1))) (eC (.int 1))))))
  (sRet (eC (.bl false)))
  sNext)
  (sRet (eOp oEq (eCall f_common_part (aCons (eOp oIx (eVar 0) (eC (.int 0))) (aCons (eOp oIx (eVar 0) (eC (.int 1))) aNil))) (eC (.int 1))))))
def f_is_fraction : Fn := run 1 0 b_is_fraction

def b_check_fractions : DS :=
  (sIf (Den.tOr (Den.tNot (tVal (eCall f_is_fraction (aCons (eVar 0) aNil)))) (Den.tNot (tVal (eCall f_is_fraction (aCons (eVar 1) aNil)))))
  (sRaise "NoFraction" [] aNil)
  sNext)
def f_check_fractions : Fn := run 2 0 b_check_fractions

def b_plus : DS :=
  (sSeq (sIf (Den.tAnd (tVal (eOp oEq (eOp oIx (eVar 0) (eC (.int 1))) (eC (.int 1)))) (tVal (eOp oEq (eOp oIx (eVar 1) (eC (.int 1))) (eC (.int 1)))))
  (sRet (eTup (aCons (eOp oAdd (eOp oIx (eVar 0) (eC (.int 0))) (eOp oIx (eVar 1) (eC (.int 0)))) (aCons (eC (.int 1)) aNil))))
  sNext)
  (sRet (eCall f_lowest (aCons (eOp oAdd (eOp oMul (eOp oIx (eVar 0) (eC (.int 0))) (eOp oIx (eVar 1) (eC (.int 1)))) (eOp oMul (eOp oIx (eVar 1) (eC (.int 0))) (eOp oIx (eVar 0) (eC (.int 1))))) (aCons (eOp oMul (eOp oIx (eVar 0) (eC (.int 1))) (eOp oIx (eVar 1) (eC (.int 1)))) aNil)))))
def f_plus : Fn := run 2 0 b_plus

def b_minus : DS :=
  (sRet (eCall f_plus (aCons (eVar 0) (aCons (eTup (aCons (eUn oNeg (eOp oIx (eVar 1) (eC (.int 0)))) (aCons (eOp oIx (eVar 1) (eC (.int 1))) aNil))) aNil))))
def f_minus : Fn := run 2 0 b_minus

def b_product : DS :=
  (sSeq (sIf (Den.tOr (tVal (eOp oEq (eOp oIx (eVar 0) (eC (.int 0))) (eC (.int 0)))) (tVal (eOp oEq (eOp oIx (eVar 1) (eC (.int 0))) (eC (.int 0)))))
  (sRet (eC c_ZERO))
  sNext)
  (sRet (eCall f_lowest (aCons (eOp oMul (eOp oIx (eVar 0) (eC (.int 0))) (eOp oIx (eVar 1) (eC (.int 0)))) (aCons (eOp oMul (eOp oIx (eVar 0) (eC (.int 1))) (eOp oIx (eVar 1) (eC (.int 1)))) aNil)))))
def f_product : Fn := run 2 0 b_product

def b_divided : DS :=
  (sRet (eCall f_lowest (aCons (eOp oMul (eOp oIx (eVar 0) (eC (.int 0))) (eOp oIx (eVar 1) (eC (.int 1)))) (aCons (eOp oMul (eOp oIx (eVar 0) (eC (.int 1))) (eOp oIx (eVar 1) (eC (.int 0)))) aNil))))
def f_divided : Fn := run 2 0 b_divided

def b_order_of : DS :=
  (sSeq (sSet 2 (eOp oMul (eOp oIx (eVar 0) (eC (.int 0))) (eOp oIx (eVar 1) (eC (.int 1)))))
  (sSeq (sSet 3 (eOp oMul (eOp oIx (eVar 1) (eC (.int 0))) (eOp oIx (eVar 0) (eC (.int 1)))))
  (sRet (eOp oSub (eUn oInt (eOp oGt (eVar 2) (eVar 3))) (eUn oInt (eOp oLt (eVar 2) (eVar 3)))))))
def f_order_of : Fn := run 4 0 b_order_of

def b_frac_add : DS :=
  (sSeq (sDrop (eCall f_check_fractions (aCons (eVar 0) (aCons (eVar 1) aNil))))
  (sRet (eCall f_plus (aCons (eVar 0) (aCons (eVar 1) aNil)))))
def f_frac_add : Fn := run 2 0 b_frac_add

def b_frac_sub : DS :=
  (sSeq (sDrop (eCall f_check_fractions (aCons (eVar 0) (aCons (eVar 1) aNil))))
  (sRet (eCall f_minus (aCons (eVar 0) (aCons (eVar 1) aNil)))))
def f_frac_sub : Fn := run 2 0 b_frac_sub

def b_frac_mul : DS :=
  (sSeq (sDrop (eCall f_check_fractions (aCons (eVar 0) (aCons (eVar 1) aNil))))
  (sRet (eCall f_product (aCons (eVar 0) (aCons (eVar 1) aNil)))))
def f_frac_mul : Fn := run 2 0 b_frac_mul

def b_frac_div : DS :=
  (sSeq (sDrop (eCall f_check_fractions (aCons (eVar 0) (aCons (eVar 1) aNil))))
  (sSeq (sIf (tVal (eOp oEq (eOp oIx (eVar 1) (eC (.int 0))) (eC (.int 0))))
  (sRaise "NoFraction" [] aNil)
  sNext)
  (sRet (eCall f_divided (aCons (eVar 0) (aCons (eVar 1) aNil))))))
def f_frac_div : Fn := run 2 0 b_frac_div

def b_frac_sign : DS :=
  (sSeq (sDrop (eCall f_check_fractions (aCons (eVar 0) (aCons (eVar 1) aNil))))
  (sRet (eCall f_order_of (aCons (eVar 0) (aCons (eVar 1) aNil)))))
def f_frac_sign : Fn := run 2 0 b_frac_sign

/-! ### sizes -/
def Sm (x : Int) : Prop := x.natAbs < 2 ^ 1400
theorem Sz.of {n : Nat} {x : Int} (h : x.natAbs < 2 ^ n) (hn : n ≤ 3000 := by decide) : Sz x := Nat.lt_of_lt_of_le h (Nat.pow_le_pow_right (by decide) hn)
theorem nat_mul {a b : Nat} {x y : Int} (hx : x.natAbs < 2 ^ a) (hy : y.natAbs < 2 ^ b) : (x * y).natAbs < 2 ^ (a + b) := by
  rw [Int.natAbs_mul, Nat.pow_add]
  exact Nat.mul_lt_mul'' hx hy
theorem nat_add {a : Nat} {x y : Int} (hx : x.natAbs < 2 ^ a) (hy : y.natAbs < 2 ^ a) : (x + y).natAbs < 2 ^ (a + 1) := by
  have : (x + y).natAbs ≤ x.natAbs + y.natAbs := Int.natAbs_add_le _ _
  rw [Nat.pow_succ]
  omega
theorem nat_sub {a : Nat} {x y : Int} (hx : x.natAbs < 2 ^ a) (hy : y.natAbs < 2 ^ a) : (x - y).natAbs < 2 ^ (a + 1) := by
  have : (x - y).natAbs ≤ x.natAbs + y.natAbs := Int.natAbs_sub_le _ _
  rw [Nat.pow_succ]
  omega
theorem mulS {x y : Int} (hx : Sz x) (hy : Sz y) (S : Sto) : oMul S (.int x) (.int y) = some (.int (x * y)) := oMul_b 3000 3000 hx hy
theorem Low.le {t b x y p : Int} (l : Low t b x y p) : x.natAbs ≤ t.natAbs ∧ y.natAbs ≤ b.natAbs := by
  have := l.ne
  rw [l.top, l.bot, Int.natAbs_mul, Int.natAbs_mul]
  have h : 1 ≤ p.natAbs := by omega
  exact ⟨by have := Nat.mul_le_mul_right x.natAbs h; omega, by have := Nat.mul_le_mul_right y.natAbs h; omega⟩
/-! ### what is a fraction -/
def isFr : D → Bool
  | .tup [.int a, .int b] => decide (1 ≤ b) && decide (Int.gcd a b = 1)
  | _ => false
/-- bottoms that Euclid ends with -/
def Bot : D → Prop
  | .tup [.int _, .int b] => Sz b
  | _ => True
theorem intE {F : Fn} (hF : ∀ d, F [d] [] = .ok (.bl (isInt d)) []) (a : DE) (ρ : Den.Env) (d : D) (g : gnd d = true) (h : a ρ [] = .ok d []) : eCall F (aCons a aNil) ρ [] = .ok (.bl (isInt d)) [] :=
  call_ok (S1 := []) (ds := [d]) (by simp [h]) (by simp [gnds, g]) (hF d)
set_option maxHeartbeats 1000000 in
theorem is_fraction_ok (d : D) (g : gnd d = true) (hb : Bot d) : f_is_fraction [d] [] = .ok (.bl (isFr d)) [] := by
  refine run_ret (S' := []) ?_ rfl
  cases d with
  | tup xs =>
    match xs, g, hb with
    | [], _, _ => simp [b_is_fraction, Den.start, isK, isFr]
    | [a], _, _ => simp [b_is_fraction, Den.start, isK, isFr]
    | a :: b :: c :: r, _, _ =>
      have : ¬ ((r.length : Int) + 1 + 1 + 1 = 2) := by omega
      simp [b_is_fraction, Den.start, isK, isFr, this]
    | [a, b], g, hb =>
      have g' : gnd a = true ∧ gnd b = true := by simpa [Den.gnd, gnds] using g
      have c1 : ∀ ρ : Den.Env, ρ[0]? = some (some (.tup [a, b])) → eCall f_is_integer (aCons (eOp oIx (eVar 0) (eC (.int 0))) aNil) ρ [] = .ok (.bl (isInt a)) [] := fun ρ h => intE is_integer_ok _ ρ a g'.1 (by simp [h])
      have c2 : ∀ ρ : Den.Env, ρ[0]? = some (some (.tup [a, b])) → eCall f_is_integer (aCons (eOp oIx (eVar 0) (eC (.int 1))) aNil) ρ [] = .ok (.bl (isInt b)) [] := fun ρ h => intE is_integer_ok _ ρ b g'.2 (by simp [h])
      cases ha : isInt a
      · have : isFr (.tup [a, b]) = false := by cases a <;> simp_all [isFr, isInt]
        simp -implicitDefEqProofs [b_is_fraction, Den.start, isK, c1, ha, this]
      · cases hb' : isInt b
        · have : isFr (.tup [a, b]) = false := by cases a <;> cases b <;> simp_all [isFr, isInt]
          simp -implicitDefEqProofs [b_is_fraction, Den.start, isK, c1, ha, c2, hb', this]
        · cases a with
          | int x =>
            cases b with
            | int y =>
              have c3 : ∀ ρ : Den.Env, ρ[0]? = some (some (fr x y)) → eCall f_common_part (aCons (eOp oIx (eVar 0) (eC (.int 0))) (aCons (eOp oIx (eVar 0) (eC (.int 1))) aNil)) ρ [] = .ok (.int (Int.gcd x y)) [] := fun ρ h => call_ok (S1 := []) (ds := [.int x, .int y]) (by simp [h]) rfl (common_part_ok x y hb)
              by_cases hy : y < 1
              · have : isFr (fr x y) = false := by simp [isFr]; omega
                simp -implicitDefEqProofs [b_is_fraction, Den.start, isK, c1, ha, c2, hb', hy, this]
              · have h2 : 1 ≤ y := by omega
                have h3 : (((Int.gcd x y : Nat) : Int) == 1) = decide (Int.gcd x y = 1) := by
                  by_cases z : Int.gcd x y = 1
                  · simp [z]
                  · have : ¬ ((Int.gcd x y : Nat) : Int) = 1 := by omega
                    simp [z, this]
                simp -implicitDefEqProofs [b_is_fraction, Den.start, isK, c1, ha, c2, hb', c3, hy, isFr, h2, h3]
            | _ => cases hb'
          | _ => cases ha
  | _ => simp [b_is_fraction, Den.start, isK, isFr]
end Pre
end

section
set_option maxRecDepth 100000
set_option exponentiation.threshold 4000
set_option linter.unusedSimpArgs false
namespace Pre
open Den PySem
theorem isFr_fr {x y : Int} : isFr (fr x y) = true ↔ 1 ≤ y ∧ Int.gcd x y = 1 := by simp [isFr]
theorem isFr_of {d : D} (h : isFr d = true) : ∃ x y, d = fr x y ∧ 1 ≤ y ∧ Int.gcd x y = 1 := by
  unfold isFr at h
  split at h
  · rename_i a b
    exact ⟨a, b, rfl, by simpa using h⟩
  · cases h
theorem gnd_fr (x y : Int) : gnd (fr x y) = true := by simp [Den.gnd, gnds]
theorem Sm.sz {x : Int} (h : Sm x) : Sz x := Sz.of (n := 1400) h
theorem Sm.mul {x y : Int} (hx : Sm x) (hy : Sm y) : Sz (x * y) := Sz.of (n := 2800) (nat_mul (a := 1400) (b := 1400) hx hy)
theorem Sm.neg {x : Int} (h : Sm x) : Sm (-x) := by
  unfold Sm at *
  rwa [Int.natAbs_neg]
theorem law_is_frac_all (d : D) (g : gnd d = true) (hb : Bot d) : f__law_is_frac [d] [] = .ok (.bl (isFr d)) [] := by
  by_cases hf : isFr d = true
  · obtain ⟨x, y, rfl, h1, h2⟩ := isFr_of hf
    rw [hf]
    exact law_is_frac_ok x y h1 h2 hb
  rw [Bool.not_eq_true] at hf
  rw [hf]
  refine run_ret (S' := []) ?_ rfl
  cases d with
  | tup xs =>
    match xs, g, hb with
    | [], _, _ => simp [b__law_is_frac, Den.start, isK]
    | [a], _, _ => simp [b__law_is_frac, Den.start, isK]
    | a :: b :: c :: r, _, _ =>
      have : ¬ ((r.length : Int) + 1 + 1 + 1 = 2) := by omega
      simp [b__law_is_frac, Den.start, isK, this]
    | [a, b], g, hb =>
      have g' : gnd a = true ∧ gnd b = true := by simpa [Den.gnd, gnds] using g
      have c1 : ∀ ρ : Den.Env, ρ[0]? = some (some (.tup [a, b])) → eCall f__law_is_integer (aCons (eOp oIx (eVar 0) (eC (.int 0))) aNil) ρ [] = .ok (.bl (isInt a)) [] := fun ρ h => intE law_is_integer_ok _ ρ a g'.1 (by simp [h])
      have c2 : ∀ ρ : Den.Env, ρ[0]? = some (some (.tup [a, b])) → eCall f__law_is_integer (aCons (eOp oIx (eVar 0) (eC (.int 1))) aNil) ρ [] = .ok (.bl (isInt b)) [] := fun ρ h => intE law_is_integer_ok _ ρ b g'.2 (by simp [h])
      cases ha : isInt a
      · simp -implicitDefEqProofs [b__law_is_frac, Den.start, isK, c1, ha]
      · cases hb' : isInt b
        · simp -implicitDefEqProofs [b__law_is_frac, Den.start, isK, c1, ha, c2, hb']
        · cases a with
          | int x =>
            cases b with
            | int y =>
              by_cases hy : y < 1
              · simp -implicitDefEqProofs [b__law_is_frac, Den.start, isK, c1, ha, c2, hb', hy]
              · obtain ⟨u, v, p, e, l⟩ := law_low_ok x y (by omega) hb
                have c3 : ∀ ρ : Den.Env, ρ[0]? = some (some (fr x y)) → eCall f__law_low (aCons (eOp oIx (eVar 0) (eC (.int 0))) (aCons (eOp oIx (eVar 0) (eC (.int 1))) aNil)) ρ [] = .ok (fr u v) [] := fun ρ h => call_ok (S1 := []) (ds := [.int x, .int y]) (by simp [h]) rfl e
                have ne : ¬ (u = x ∧ v = y) := fun ⟨e1, e2⟩ => by
                  have : isFr (fr x y) = true := isFr_fr.2 ⟨by omega, by rw [← e1, ← e2]; exact l.one⟩
                  rw [this] at hf
                  cases hf
                have q : oEq [] (fr u v) (fr x y) = some (.bl false) := by
                  rw [oEq_g (by simp [Den.gnd, gnds]) (by simp [Den.gnd, gnds]) (by simp [cmpAll, cmpOk, cmpOks, dep, deps])]
                  simp only [eqv, eqvs, Option.some.injEq, D.bl.injEq]
                  simpa using ne
                simp -implicitDefEqProofs [b__law_is_frac, Den.start, isK, c1, ha, c2, hb', c3, hy, q]
            | _ => cases hb'
          | _ => cases ha
  | _ => simp [b__law_is_frac, Den.start, isK]
theorem check_ok (a b : D) (ga : gnd a = true) (gb : gnd b = true) (ba : Bot a) (bb : Bot b) : f_check_fractions [a, b] [] = if (isFr a && isFr b) = true then .ok .non [] else .exn ⟨"NoFraction", []⟩ [] := by
  have c : ∀ (i : Nat) (ρ : Den.Env) (d : D), gnd d = true → Bot d → ρ[i]? = some (some d) → eCall f_is_fraction (aCons (eVar i) aNil) ρ [] = .ok (.bl (isFr d)) [] := fun i ρ d g bt h => call_ok (S1 := []) (ds := [d]) (by simp [h]) (by simp [gnds, g]) (is_fraction_ok d g bt)
  cases ha : isFr a <;> cases hb : isFr b
  · refine run_exn (ρ := [some a, some b]) (S' := []) ?_
    simp [b_check_fractions, Den.start, c 0 _ a ga ba, c 1 _ b gb bb, ha, hb]
  · refine run_exn (ρ := [some a, some b]) (S' := []) ?_
    simp [b_check_fractions, Den.start, c 0 _ a ga ba, c 1 _ b gb bb, ha, hb]
  · refine run_exn (ρ := [some a, some b]) (S' := []) ?_
    simp [b_check_fractions, Den.start, c 0 _ a ga ba, c 1 _ b gb bb, ha, hb]
  · have : b_check_fractions (Den.start 2 [a, b]) [] = .nx [some a, some b] [] := by
      simp [b_check_fractions, Den.start, c 0 _ a ga ba, c 1 _ b gb bb, ha, hb]
    unfold f_check_fractions Den.run
    rw [if_pos (show ([] : Sto).length = 0 from rfl), this]
    simp
/-- a fraction of small numbers -/
structure FrS (x y : Int) : Prop where
  pos : 1 ≤ y
  one : Int.gcd x y = 1
  sx : Sm x
  sy : Sm y
theorem FrS.is {x y : Int} (h : FrS x y) : isFr (fr x y) = true := isFr_fr.2 ⟨h.pos, h.one⟩
theorem lowE {t b : Int} (hb : b ≠ 0) (h : Sz b) : ∃ x y p, (∀ (at' ab : DE) (ρ : Den.Env), at' ρ [] = .ok (.int t) [] → ab ρ [] = .ok (.int b) [] → eCall f_lowest (aCons at' (aCons ab aNil)) ρ [] = .ok (fr x y) []) ∧ Low t b x y p := by
  obtain ⟨x, y, p, e, l⟩ := lowest_ok t b hb h
  exact ⟨x, y, p, fun at' ab ρ h1 h2 => call_ok (S1 := []) (ds := [.int t, .int b]) (by simp [h1, h2]) rfl e, l⟩
theorem one_le_mul {x y : Int} (hx : 1 ≤ x) (hy : 1 ≤ y) : 1 ≤ x * y := Int.mul_pos (by omega : 0 < x) (by omega : 0 < y)
theorem plus_ok {a b c d : Int} (h : FrS a b) (g : FrS c d) : ∃ x y p, f_plus [fr a b, fr c d] [] = .ok (fr x y) [] ∧ Low (a * d + c * b) (b * d) x y p := by
  by_cases h1 : b = 1 ∧ d = 1
  · obtain ⟨rfl, rfl⟩ := h1
    refine ⟨a + c, 1, 1, run_ret (S' := []) ?_ (gnd_fr _ _), ⟨by omega, by omega, by omega, by simp, by omega⟩⟩
    simp [b_plus, Den.start]
  · have ne : b * d ≠ 0 := by have := one_le_mul h.pos g.pos; omega
    obtain ⟨x, y, p, e, l⟩ := lowE (t := a * d + c * b) ne (h.sy.mul g.sy)
    refine ⟨x, y, p, run_ret (S' := []) ?_ (gnd_fr _ _), l⟩
    have e' := e (eOp oAdd (eOp oMul (eOp oIx (eVar 0) (eC (.int 0))) (eOp oIx (eVar 1) (eC (.int 1)))) (eOp oMul (eOp oIx (eVar 1) (eC (.int 0))) (eOp oIx (eVar 0) (eC (.int 1))))) (eOp oMul (eOp oIx (eVar 0) (eC (.int 1))) (eOp oIx (eVar 1) (eC (.int 1)))) [some (fr a b), some (fr c d)]
      (by simp [mulS h.sx.sz g.sy.sz, mulS g.sx.sz h.sy.sz]) (by simp [mulS h.sy.sz g.sy.sz])
    have cases_ : b = 1 → d ≠ 1 := fun q1 q2 => h1 ⟨q1, q2⟩
    by_cases hb : b = 1
    · have hd := cases_ hb
      subst hb
      simp -implicitDefEqProofs [b_plus, Den.start, e', hd]
    · simp -implicitDefEqProofs [b_plus, Den.start, e', hb]
theorem FrS.negate {x y : Int} (h : FrS x y) : FrS (-x) y := ⟨h.pos, by rw [Int.neg_gcd]; exact h.one, h.sx.neg, h.sy⟩
theorem minus_ok {a b c d : Int} (h : FrS a b) (g : FrS c d) : ∃ x y p, f_minus [fr a b, fr c d] [] = .ok (fr x y) [] ∧ Low (a * d - c * b) (b * d) x y p := by
  obtain ⟨x, y, p, e, l⟩ := plus_ok h g.negate
  refine ⟨x, y, p, run_ret (S' := []) ?_ (gnd_fr _ _), by rw [Int.neg_mul] at l; exact l⟩
  have c : eCall f_plus (aCons (eVar 0) (aCons (eTup (aCons (eUn oNeg (eOp oIx (eVar 1) (eC (.int 0)))) (aCons (eOp oIx (eVar 1) (eC (.int 1))) aNil))) aNil)) [some (fr a b), some (fr c d)] [] = .ok (fr x y) [] := call_ok (S1 := []) (ds := [fr a b, fr (-c) d]) (by simp) rfl e
  simp -implicitDefEqProofs [b_minus, Den.start, c]
theorem product_ok {a b c d : Int} (h : FrS a b) (g : FrS c d) : ∃ x y p, f_product [fr a b, fr c d] [] = .ok (fr x y) [] ∧ Low (a * c) (b * d) x y p := by
  have ne : 1 ≤ b * d := one_le_mul h.pos g.pos
  by_cases h1 : a = 0 ∨ c = 0
  · refine ⟨0, 1, b * d, run_ret (S' := []) ?_ (gnd_fr _ _), ⟨?_, by omega, by omega, by simp, by omega⟩⟩
    · by_cases ha : a = 0
      · subst ha
        simp -implicitDefEqProofs [b_product, Den.start, c_ZERO]
      · have hc : c = 0 := by omega
        subst hc
        simp -implicitDefEqProofs [b_product, Den.start, c_ZERO, ha]
    · rcases h1 with z | z <;> subst z <;> simp
  · obtain ⟨x, y, p, e, l⟩ := lowE (t := a * c) (b := b * d) (by omega) (h.sy.mul g.sy)
    refine ⟨x, y, p, run_ret (S' := []) ?_ (gnd_fr _ _), l⟩
    have e' := e (eOp oMul (eOp oIx (eVar 0) (eC (.int 0))) (eOp oIx (eVar 1) (eC (.int 0)))) (eOp oMul (eOp oIx (eVar 0) (eC (.int 1))) (eOp oIx (eVar 1) (eC (.int 1)))) [some (fr a b), some (fr c d)]
      (by simp [mulS h.sx.sz g.sx.sz]) (by simp [mulS h.sy.sz g.sy.sz])
    have ha : a ≠ 0 := fun z => h1 (.inl z)
    have hc : c ≠ 0 := fun z => h1 (.inr z)
    simp -implicitDefEqProofs [b_product, Den.start, e', ha, hc]
theorem divided_ok {a b c d : Int} (h : FrS a b) (g : FrS c d) (hc : c ≠ 0) : ∃ x y p, f_divided [fr a b, fr c d] [] = .ok (fr x y) [] ∧ Low (a * d) (b * c) x y p := by
  have hb := h.pos
  have ne : b * c ≠ 0 := Int.mul_ne_zero (by omega) hc
  obtain ⟨x, y, p, e, l⟩ := lowE (t := a * d) (b := b * c) ne (h.sy.mul g.sx)
  refine ⟨x, y, p, run_ret (S' := []) ?_ (gnd_fr _ _), l⟩
  have e' := e (eOp oMul (eOp oIx (eVar 0) (eC (.int 0))) (eOp oIx (eVar 1) (eC (.int 1)))) (eOp oMul (eOp oIx (eVar 0) (eC (.int 1))) (eOp oIx (eVar 1) (eC (.int 0)))) [some (fr a b), some (fr c d)]
    (by simp [mulS h.sx.sz g.sy.sz]) (by simp [mulS h.sy.sz g.sx.sz])
  simp -implicitDefEqProofs [b_divided, Den.start, e']
/-- -1, 0, 1 -/
def sgn (x : Int) : Int := (if 0 < x then 1 else 0) - (if x < 0 then 1 else 0)
theorem order_ok {a b c d : Int} (h : FrS a b) (g : FrS c d) : f_order_of [fr a b, fr c d] [] = .ok (.int (sgn (a * d - c * b))) [] := by
  refine run_ret (S' := []) ?_ rfl
  have e : sgn (a * d - c * b) = (if c * b < a * d then 1 else 0) - (if a * d < c * b then 1 else 0) := by
    have h1 : (0 < a * d - c * b) ↔ c * b < a * d := by omega
    have h2 : (a * d - c * b < 0) ↔ a * d < c * b := by omega
    unfold sgn
    simp only [h1, h2]
  rw [e]
  simp -implicitDefEqProofs [b_order_of, Den.start, mulS h.sx.sz g.sy.sz, mulS g.sx.sz h.sy.sz]
/-- check, then do -/
theorem checkE (a b : D) (ga : gnd a = true) (gb : gnd b = true) (ba : Bot a) (bb : Bot b) (ρ : Den.Env) (h0 : ρ[0]? = some (some a)) (h1 : ρ[1]? = some (some b)) : eCall f_check_fractions (aCons (eVar 0) (aCons (eVar 1) aNil)) ρ [] = if (isFr a && isFr b) = true then .ok .non [] else .exn ⟨"NoFraction", []⟩ [] := by
  have e := check_ok a b ga gb ba bb
  by_cases c : (isFr a && isFr b) = true
  · rw [if_pos c] at e ⊢
    exact call_ok (S1 := []) (ds := [a, b]) (by simp [h0, h1]) (by simp [gnds, ga, gb]) e
  · rw [if_neg c] at e ⊢
    exact call_exn (S1 := []) (ds := [a, b]) (by simp [h0, h1]) (by simp [gnds, ga, gb]) e
end Pre
end

section
set_option maxRecDepth 100000
set_option exponentiation.threshold 4000
set_option linter.unusedSimpArgs false
namespace Pre
open Den PySem
def noFr : Exn := ⟨"NoFraction", []⟩
theorem ixAt_all {P : D → Prop} {xs : List D} (h : ∀ x ∈ xs, P x) {i : Int} (h0 : 0 ≤ i) (h1 : i < xs.length) : ∃ d, ixAt xs i = some d ∧ P d := by
  obtain ⟨k, rfl⟩ : ∃ k : Nat, i = k := ⟨i.toNat, by omega⟩
  have hk : k < xs.length := by omega
  have e : ixAt xs (k : Int) = xs[k]? := by
    simp only [ixAt]
    have : ¬ ((k : Int) < 0) := by omega
    simp [Den.ixN, hk, this]
  refine ⟨xs[k], by rw [e]; simp [hk], h _ (List.getElem_mem hk)⟩
/-! ### the deeds, at a fraction and at none -/
section
variable {a b : D} (ga : gnd a = true) (gb : gnd b = true) (ba : Bot a) (bb : Bot b) (hn : (isFr a && isFr b) = false)
include ga gb ba bb hn
theorem add_bad : f_frac_add [a, b] [] = .exn noFr [] := by
  refine run_exn (ρ := [some a, some b]) (S' := []) ?_
  simp -implicitDefEqProofs [b_frac_add, Den.start, checkE a b ga gb ba bb, hn, noFr]
theorem sub_bad : f_frac_sub [a, b] [] = .exn noFr [] := by
  refine run_exn (ρ := [some a, some b]) (S' := []) ?_
  simp -implicitDefEqProofs [b_frac_sub, Den.start, checkE a b ga gb ba bb, hn, noFr]
theorem mul_bad : f_frac_mul [a, b] [] = .exn noFr [] := by
  refine run_exn (ρ := [some a, some b]) (S' := []) ?_
  simp -implicitDefEqProofs [b_frac_mul, Den.start, checkE a b ga gb ba bb, hn, noFr]
theorem div_bad : f_frac_div [a, b] [] = .exn noFr [] := by
  refine run_exn (ρ := [some a, some b]) (S' := []) ?_
  simp -implicitDefEqProofs [b_frac_div, Den.start, checkE a b ga gb ba bb, hn, noFr]
theorem sign_bad : f_frac_sign [a, b] [] = .exn noFr [] := by
  refine run_exn (ρ := [some a, some b]) (S' := []) ?_
  simp -implicitDefEqProofs [b_frac_sign, Den.start, checkE a b ga gb ba bb, hn, noFr]
end
section
variable {a b c d : Int} (h : FrS a b) (g : FrS c d)
include h g
theorem chk (ρ : Den.Env) (h0 : ρ[0]? = some (some (fr a b))) (h1 : ρ[1]? = some (some (fr c d))) : eCall f_check_fractions (aCons (eVar 0) (aCons (eVar 1) aNil)) ρ [] = .ok .non [] := by
  rw [checkE (fr a b) (fr c d) (gnd_fr _ _) (gnd_fr _ _) h.sy.sz g.sy.sz ρ h0 h1, h.is, g.is]
  rfl
theorem two {F : Fn} {r : D} (e : F [fr a b, fr c d] [] = .ok r []) (ρ : Den.Env) (h0 : ρ[0]? = some (some (fr a b))) (h1 : ρ[1]? = some (some (fr c d))) : eCall F (aCons (eVar 0) (aCons (eVar 1) aNil)) ρ [] = .ok r [] :=
  call_ok (S1 := []) (ds := [fr a b, fr c d]) (by simp [h0, h1]) rfl e
theorem add_ok : ∃ x y p, f_frac_add [fr a b, fr c d] [] = .ok (fr x y) [] ∧ Low (a * d + c * b) (b * d) x y p := by
  obtain ⟨x, y, p, e, l⟩ := plus_ok h g
  refine ⟨x, y, p, run_ret (S' := []) ?_ (gnd_fr _ _), l⟩
  simp -implicitDefEqProofs [b_frac_add, Den.start, chk h g, two h g e]
theorem sub_ok : ∃ x y p, f_frac_sub [fr a b, fr c d] [] = .ok (fr x y) [] ∧ Low (a * d - c * b) (b * d) x y p := by
  obtain ⟨x, y, p, e, l⟩ := minus_ok h g
  refine ⟨x, y, p, run_ret (S' := []) ?_ (gnd_fr _ _), l⟩
  simp -implicitDefEqProofs [b_frac_sub, Den.start, chk h g, two h g e]
theorem mul_ok : ∃ x y p, f_frac_mul [fr a b, fr c d] [] = .ok (fr x y) [] ∧ Low (a * c) (b * d) x y p := by
  obtain ⟨x, y, p, e, l⟩ := product_ok h g
  refine ⟨x, y, p, run_ret (S' := []) ?_ (gnd_fr _ _), l⟩
  simp -implicitDefEqProofs [b_frac_mul, Den.start, chk h g, two h g e]
theorem div_ok (hc : c ≠ 0) : ∃ x y p, f_frac_div [fr a b, fr c d] [] = .ok (fr x y) [] ∧ Low (a * d) (b * c) x y p := by
  obtain ⟨x, y, p, e, l⟩ := divided_ok h g hc
  refine ⟨x, y, p, run_ret (S' := []) ?_ (gnd_fr _ _), l⟩
  simp -implicitDefEqProofs [b_frac_div, Den.start, chk h g, two h g e, hc]
theorem sign_ok : f_frac_sign [fr a b, fr c d] [] = .ok (.int (sgn (a * d - c * b))) [] := by
  refine run_ret (S' := []) ?_ rfl
  simp -implicitDefEqProofs [b_frac_sign, Den.start, chk h g, two h g (order_ok h g)]
end
theorem div_zero {a b d : Int} (h : FrS a b) (g : FrS 0 d) : f_frac_div [fr a b, fr 0 d] [] = .exn noFr [] := by
  refine run_exn (ρ := [some (fr a b), some (fr 0 d)]) (S' := []) ?_
  simp -implicitDefEqProofs [b_frac_div, Den.start, chk h g, noFr]
theorem Low.val {t b x y p : Int} (l : Low t b x y p) : x * b = t * y := by
  rw [l.top, l.bot, ← Int.mul_assoc, Int.mul_comm x p]
theorem Low.frS {t b x y p : Int} (l : Low t b x y p) (ht : Sm t) (hb : Sm b) : FrS x y := ⟨l.pos, l.one, Nat.lt_of_le_of_lt l.le.1 ht, Nat.lt_of_le_of_lt l.le.2 hb⟩
/-- a drawn fraction: up to 40 digits -/
theorem fraction_ok {n : Nat} {xs : List D} (h : Str n xs) (hn : n < 10000000) : ∃ x y ys, f__law_fraction [.obj 0] [.lst xs] = .ok (fr x y) [.lst ys] ∧ Str (n + 10) ys ∧ FrS x y ∧ x.natAbs < 2 ^ 130 ∧ y.natAbs < 2 ^ 130 := by
  obtain ⟨t, x1, e1, s1, l1, u1⟩ := whole_ok h (by omega)
  obtain ⟨b, x2, e2, s2, l2, u2⟩ := whole_ok s1 (by omega)
  have e1 := strE e1 h.gnd s1.gnd
  have e2 := strE e2 s1.gnd s2.gnd
  have b1 : t.natAbs < 2 ^ 130 := by omega
  have b2 : (1 + (b.natAbs : Int)).natAbs < 2 ^ 130 := by omega
  obtain ⟨x, y, p, e, l⟩ := law_low_ok t (1 + (b.natAbs : Int)) (by omega) (Sz.of b2)
  have lt := l.le
  have c : eCall f__law_low (aCons (eVar 1) (aCons (eOp oAdd (eC (.int 1)) (eUn oAbs (eCallM f__law_whole (aCons (eVar 0) aNil)))) aNil)) [some (.obj 0), some (.int t)] [.lst x1] = .ok (fr x y) [.lst x2] := call_ok (S1 := [.lst x2]) (ds := [.int t, .int (1 + (b.natAbs : Int))]) (by simp [e2]) rfl e
  refine ⟨x, y, x2, run_ret1 (S' := []) ?_ (gnd_fr _ _) s2.gnd, s2, ⟨l.pos, l.one, ?_, ?_⟩, by omega, by omega⟩
  · simp -implicitDefEqProofs [b__law_fraction, Den.start, e1, c]
  · exact Nat.lt_trans (Nat.lt_of_le_of_lt lt.1 b1) (Nat.pow_lt_pow_right (by decide) (by decide))
  · exact Nat.lt_trans (Nat.lt_of_le_of_lt lt.2 b2) (Nat.pow_lt_pow_right (by decide) (by decide))
end Pre
end

section
set_option maxRecDepth 100000
set_option exponentiation.threshold 4000
set_option linter.unusedSimpArgs false
namespace Pre
open Den PySem
/-- a fraction of at most n bits above and below -/
structure FrB (n : Nat) (x y : Int) : Prop where
  pos : 1 ≤ y
  one : Int.gcd x y = 1
  sx : x.natAbs < 2 ^ n
  sy : y.natAbs < 2 ^ n
theorem bit_mono {n m k : Nat} (h : k < 2 ^ n) (l : n ≤ m) : k < 2 ^ m := Nat.lt_of_lt_of_le h (Nat.pow_le_pow_right (by decide) l)
theorem FrB.mono {n m : Nat} {x y : Int} (h : FrB n x y) (l : n ≤ m) : FrB m x y := ⟨h.pos, h.one, bit_mono h.sx l, bit_mono h.sy l⟩
theorem FrB.S {n : Nat} {x y : Int} (h : FrB n x y) (hn : n ≤ 1400) : FrS x y := ⟨h.pos, h.one, bit_mono h.sx hn, bit_mono h.sy hn⟩
theorem Low.frB {n : Nat} {t b x y p : Int} (l : Low t b x y p) (ht : t.natAbs < 2 ^ n) (hb : b.natAbs < 2 ^ n) : FrB n x y := ⟨l.pos, l.one, Nat.lt_of_le_of_lt l.le.1 ht, Nat.lt_of_le_of_lt l.le.2 hb⟩
theorem fr_uniq {x y u v : Int} (h1 : 1 ≤ y) (h2 : Int.gcd x y = 1) (h3 : 1 ≤ v) (h4 : Int.gcd u v = 1) (e : x * v = u * y) : x = u ∧ y = v := by
  have e' : x.natAbs * v.natAbs = u.natAbs * y.natAbs := by rw [← Int.natAbs_mul, ← Int.natAbs_mul, e]
  have c1 : Nat.Coprime y.natAbs x.natAbs := by
    show Nat.gcd _ _ = 1
    rw [Nat.gcd_comm]
    exact h2
  have c2 : Nat.Coprime v.natAbs u.natAbs := by
    show Nat.gcd _ _ = 1
    rw [Nat.gcd_comm]
    exact h4
  have d1 : y.natAbs ∣ v.natAbs := c1.dvd_of_dvd_mul_left ⟨u.natAbs, by rw [e', Nat.mul_comm]⟩
  have d2 : v.natAbs ∣ y.natAbs := c2.dvd_of_dvd_mul_left ⟨x.natAbs, by rw [← e', Nat.mul_comm]⟩
  have := Nat.dvd_antisymm d1 d2
  have yv : y = v := by omega
  subst yv
  exact ⟨Int.eq_of_mul_eq_mul_right (by omega) e, rfl⟩
section
variable {m n : Nat} {a b c d : Int} (h : FrB m a b) (g : FrB n c d) (hm : m ≤ 1400) (hn : n ≤ 1400)
include h g hm hn
theorem addB : ∃ x y, f_frac_add [fr a b, fr c d] [] = .ok (fr x y) [] ∧ FrB (m + n + 1) x y ∧ x * (b * d) = (a * d + c * b) * y := by
  obtain ⟨x, y, p, e, l⟩ := add_ok (h.S hm) (g.S hn)
  have e1 := nat_mul h.sx g.sy
  have e2 := nat_mul g.sx h.sy
  rw [Nat.add_comm] at e2
  exact ⟨x, y, e, l.frB (nat_add e1 e2) (bit_mono (nat_mul h.sy g.sy) (by omega)), l.val⟩
theorem subB : ∃ x y, f_frac_sub [fr a b, fr c d] [] = .ok (fr x y) [] ∧ FrB (m + n + 1) x y ∧ x * (b * d) = (a * d - c * b) * y := by
  obtain ⟨x, y, p, e, l⟩ := sub_ok (h.S hm) (g.S hn)
  have e1 := nat_mul h.sx g.sy
  have e2 := nat_mul g.sx h.sy
  rw [Nat.add_comm] at e2
  exact ⟨x, y, e, l.frB (nat_sub e1 e2) (bit_mono (nat_mul h.sy g.sy) (by omega)), l.val⟩
theorem mulB : ∃ x y, f_frac_mul [fr a b, fr c d] [] = .ok (fr x y) [] ∧ FrB (m + n) x y ∧ x * (b * d) = (a * c) * y := by
  obtain ⟨x, y, p, e, l⟩ := mul_ok (h.S hm) (g.S hn)
  exact ⟨x, y, e, l.frB (nat_mul h.sx g.sx) (nat_mul h.sy g.sy), l.val⟩
theorem divB (hc : c ≠ 0) : ∃ x y, f_frac_div [fr a b, fr c d] [] = .ok (fr x y) [] ∧ FrB (m + n) x y ∧ x * (b * c) = (a * d) * y := by
  obtain ⟨x, y, p, e, l⟩ := div_ok (h.S hm) (g.S hn) hc
  exact ⟨x, y, e, l.frB (nat_mul h.sx g.sy) (nat_mul h.sy g.sx), l.val⟩
theorem signB : f_frac_sign [fr a b, fr c d] [] = .ok (.int (sgn (a * d - c * b))) [] := sign_ok (h.S hm) (g.S hn)
end
/-- a def of two data, where it is called -/
theorem call2 {F : Fn} {x y r : D} (e : F [x, y] [] = .ok r []) (gx : gnd x = true) (gy : gnd y = true) (p q : DE) (ρ : Den.Env) (S : Sto) (h1 : p ρ S = .ok x S) (h2 : q ρ S = .ok y S) : eCall F (aCons p (aCons q aNil)) ρ S = .ok r S :=
  call_ok (S1 := S) (ds := [x, y]) (by simp [h1, h2]) (by simp [gnds, gx, gy]) e
theorem call2f {F : Fn} {a b c d : Int} {r : D} (e : F [fr a b, fr c d] [] = .ok r []) (p q : DE) (ρ : Den.Env) (S : Sto) (h1 : p ρ S = .ok (fr a b) S) (h2 : q ρ S = .ok (fr c d) S) : eCall F (aCons p (aCons q aNil)) ρ S = .ok r S := call2 e (gnd_fr _ _) (gnd_fr _ _) p q ρ S h1 h2
theorem eqv_fr (a b c d : Int) (S : Sto) : oEq S (fr a b) (fr c d) = some (.bl (decide (a = c ∧ b = d))) := by
  rw [oEq_g (gnd_fr _ _) (gnd_fr _ _) (by simp [cmpAll, cmpOk, cmpOks, dep, deps])]
  by_cases h1 : a = c <;> by_cases h2 : b = d <;> simp [eqv, eqvs, h1, h2]
theorem nev_fr (a b c d : Int) (S : Sto) : oNe S (fr a b) (fr c d) = some (.bl (!decide (a = c ∧ b = d))) := by
  rw [oNe_g (gnd_fr _ _) (gnd_fr _ _) (by simp [cmpAll, cmpOk, cmpOks, dep, deps])]
  by_cases h1 : a = c <;> by_cases h2 : b = d <;> simp [eqv, eqvs, h1, h2]
theorem sgn_cases (z : Int) : (z < 0 ∧ sgn z = -1) ∨ (z = 0 ∧ sgn z = 0) ∨ (0 < z ∧ sgn z = 1) := by
  unfold sgn
  by_cases h1 : 0 < z
  · have : ¬ z < 0 := by omega
    simp [h1, this]
  · by_cases h2 : z < 0
    · simp [h1, h2]
    · simp [h1, h2]
      omega
theorem sgn_neg (z : Int) : sgn (-z) = -sgn z := by
  unfold sgn
  by_cases h1 : 0 < z
  · have : ¬ z < 0 := by omega
    simp [h1, this]
  · by_cases h2 : z < 0
    · simp [h1, h2]
    · simp [h1, h2]
theorem sgn_scale {z w p q : Int} (hp : 0 < p) (hq : 0 < q) (e : z * p = w * q) : sgn z = sgn w := by
  rcases sgn_cases z with ⟨h1, h2⟩ | ⟨h1, h2⟩ | ⟨h1, h2⟩ <;> rcases sgn_cases w with ⟨g1, g2⟩ | ⟨g1, g2⟩ | ⟨g1, g2⟩ <;> rw [h2, g2]
  · have := Int.mul_neg_of_neg_of_pos h1 hp
    rw [e, g1, Int.zero_mul] at this
    omega
  · have := Int.mul_neg_of_neg_of_pos h1 hp
    have := Int.mul_pos g1 hq
    omega
  · have := Int.mul_neg_of_neg_of_pos g1 hq
    rw [← e, h1, Int.zero_mul] at this
    omega
  · have := Int.mul_pos g1 hq
    rw [← e, h1, Int.zero_mul] at this
    omega
  · have := Int.mul_pos h1 hp
    have := Int.mul_neg_of_neg_of_pos g1 hq
    omega
  · have := Int.mul_pos h1 hp
    rw [e, g1, Int.zero_mul] at this
    omega
end Pre
end

section
set_option maxRecDepth 100000
set_option exponentiation.threshold 4000
set_option linter.unusedSimpArgs false
namespace Pre
open Den PySem
def b_whole_root : DS :=
  (sSeq (sSet 1 (eC (.int 0)))
  (sSeq (sSet 2 (eC (.int 1)))
  (sSeq (sWhile (tVal (eOp oLe (eOp oMul (eVar 2) (eVar 2)) (eVar 0)))
  (sSet 2 (eOp oMul (eC (.int 2)) (eVar 2))))
  (sSeq (sWhile (tVal (eOp oGt (eOp oSub (eVar 2) (eVar 1)) (eC (.int 1))))
  (sSeq (sSet 3 (eOp oDiv (eOp oAdd (eVar 1) (eVar 2)) (eC (.int 2))))
  (sIf (tVal (eOp oLe (eOp oMul (eVar 3) (eVar 3)) (eVar 0)))
  (sSet 1 (eVar 3))
  (sSet 2 (eVar 3)))))
  (sRet (eIf (tVal (eOp oEq (eOp oMul (eVar 1) (eVar 1)) (eVar 0))) (eVar 1) (eC .non)))))))
def f_whole_root : Fn := run 4 0 b_whole_root

def b_root_of : DS :=
  (sSeq (sIf (tVal (eOp oLt (eOp oIx (eVar 0) (eC (.int 0))) (eC (.int 0))))
  (sRet (eC .non))
  sNext)
  (sSeq (sSet 1 (eCall f_whole_root (aCons (eOp oIx (eVar 0) (eC (.int 0))) aNil)))
  (sSeq (sSet 2 (eCall f_whole_root (aCons (eOp oIx (eVar 0) (eC (.int 1))) aNil)))
  (sSeq (sIf (Den.tOr (tVal (eUn oIsN (eVar 1))) (tVal (eUn oIsN (eVar 2))))
  (sRet (eC .non))
  sNext)
  (sRet (eTup (aCons (eVar 1) (aCons (eVar 2) aNil))))))))
def f_root_of : Fn := run 3 0 b_root_of

def b__law_root : DS :=
  (sSeq (sIf (tVal (eOp oEq (eVar 0) (eC (.int 0))))
  (sRet (eC (.int 0)))
  sNext)
  (sSeq (sSet 1 (eOp oShl (eC (.int 1)) (eOp oDiv (eOp oAdd (eUn oBits (eVar 0)) (eC (.int 1))) (eC (.int 2)))))
  (sSeq (sFor (Den.iRng1 (eOp oAdd (eUn oBits (eVar 0)) (eC (.int 2)))) (gName 2)
  (sSeq (sSet 3 (eOp oDiv (eOp oAdd (eVar 1) (eOp oDiv (eVar 0) (eVar 1))) (eC (.int 2))))
  (sSeq (sIf (tVal (eOp oGe (eVar 3) (eVar 1)))
  sBreak
  sNext)
  (sSet 1 (eVar 3)))))
  (sSeq (sIf (tVal (eOp oEq (eOp oMul (eVar 1) (eVar 1)) (eVar 0)))
  (sRet (eVar 1))
  sNext)
  (sRet (eC .non))))))
def f__law_root : Fn := run 4 0 b__law_root

def b__law_mul : DS :=
  (sRet (eCall f__law_low (aCons (eOp oMul (eOp oIx (eVar 0) (eC (.int 0))) (eOp oIx (eVar 1) (eC (.int 0)))) (aCons (eOp oMul (eOp oIx (eVar 0) (eC (.int 1))) (eOp oIx (eVar 1) (eC (.int 1)))) aNil))))
def f__law_mul : Fn := run 2 0 b__law_mul

/-! ### whole roots -/
/-- the floor of the root -/
def Fl (n r : Int) : Prop := 0 ≤ r ∧ r * r ≤ n ∧ n < (r + 1) * (r + 1)
theorem fl_ex : ∀ n : Nat, ∃ r : Nat, r * r ≤ n ∧ n < (r + 1) * (r + 1)
  | 0 => ⟨0, by decide, by decide⟩
  | n + 1 => by
    obtain ⟨r, h1, h2⟩ := fl_ex n
    by_cases h : n + 1 < (r + 1) * (r + 1)
    · exact ⟨r, by omega, h⟩
    · refine ⟨r + 1, by omega, ?_⟩
      have e : (r + 1 + 1) * (r + 1 + 1) = (r + 1) * (r + 1) + 2 * r + 3 := by grind
      omega
theorem sq_lt {a b : Int} (ha : 0 ≤ a) (hb : 0 ≤ b) (h : a * a < b * b) : a < b := by
  rcases Int.lt_or_le a b with z | z
  · exact z
  · have := Int.mul_le_mul z z hb ha
    omega
theorem sq_le {a b : Int} (ha : 0 ≤ a) (h : a ≤ b) : a * a ≤ b * b := Int.mul_le_mul h h ha (by omega)
theorem Fl.uniq {n r s : Int} (h : Fl n r) (g : Fl n s) : r = s := by
  obtain ⟨a, b, c⟩ := h
  obtain ⟨d, e, f⟩ := g
  have h1 : r < s + 1 := sq_lt a (by omega) (by omega)
  have h2 : s < r + 1 := sq_lt d (by omega) (by omega)
  omega
theorem Fl.sq {n r s : Int} (h : Fl n r) (hs : 0 ≤ s) (e : s * s = n) : r = s := by
  refine h.uniq ⟨hs, by omega, ?_⟩
  have : (s + 1) * (s + 1) = s * s + 2 * s + 1 := by grind
  omega
theorem Fl.small {n r : Int} (h : Fl n r) : r ≤ n := by
  obtain ⟨a, b, c⟩ := h
  by_cases z : r = 0
  · subst z
    simpa using b
  · have := Int.mul_le_mul_of_nonneg_right (show 1 ≤ r by omega) a
    omega
theorem fl_of {n : Int} (h : 0 ≤ n) : ∃ r, Fl n r := by
  obtain ⟨r, h1, h2⟩ := fl_ex n.toNat
  refine ⟨r, by omega, ?_, ?_⟩
  · have : ((r * r : Nat) : Int) ≤ (n.toNat : Nat) := by exact_mod_cast h1
    rw [Int.toNat_of_nonneg h] at this
    exact_mod_cast this
  · have : ((n.toNat : Nat) : Int) < (((r + 1) * (r + 1) : Nat) : Int) := by exact_mod_cast h2
    rw [Int.toNat_of_nonneg h] at this
    exact_mod_cast this
/-- the whole root, or None -/
def rootD (n r : Int) : D := if r * r = n then .int r else .non
theorem gnd_root (n r : Int) : gnd (rootD n r) = true := by
  unfold rootD
  split <;> rfl
/-- up to a power of two above the root -/
theorem up : ∀ (k : Nat) (n : Int) (a b d : Option D) (S : Sto) (hi : Int), 1 ≤ hi → hi ≤ 2 * n + 1 → n.natAbs < 2 ^ 1300 → 0 ≤ n → (n - hi + 1).toNat < k → ∃ hi', 1 ≤ hi' ∧ hi' ≤ 2 * n + 1 ∧ n < hi' * hi' ∧ whileN (tVal (eOp oLe (eOp oMul (eVar 2) (eVar 2)) (eVar 0))) (sSet 2 (eOp oMul (eC (.int 2)) (eVar 2))) k [some (.int n), a, some (.int hi), d] S = .nx [some (.int n), a, some (.int hi'), d] S
  | 0, _, _, _, _, _, _, _, _, _, _, h => absurd h (Nat.not_lt_zero _)
  | k + 1, n, a, b, d, S, hi, h1, h2, hn, h0, hk => by
    unfold whileN
    have sn : n.natAbs < 2 ^ 1300 := hn
    have sh : Sz hi := Sz.of (n := 1302) (by omega)
    by_cases c : hi * hi ≤ n
    · have le : hi ≤ n := by
        have := Int.mul_le_mul_of_nonneg_right h1 (show 0 ≤ hi by omega)
        omega
      obtain ⟨hi', g1, g2, g3, e⟩ := up k n a b d S (2 * hi) (by omega) (by omega) hn h0 (by omega)
      refine ⟨hi', g1, g2, g3, ?_⟩
      rw [← e]
      simp -implicitDefEqProofs [mulS sh sh, mulS (x := 2) (Sz.of (n := 2) (by decide)) sh, c]
    · refine ⟨hi, h1, h2, by omega, ?_⟩
      simp -implicitDefEqProofs [mulS sh sh, c]
theorem halve : ∀ (k : Nat) (n : Int) (d : Option D) (S : Sto) (lo hi : Int), 0 ≤ lo → lo < hi → lo * lo ≤ n → n < hi * hi → hi.natAbs < 2 ^ 1302 → (hi - lo).toNat < k → ∃ r hi' d', Fl n r ∧ whileN (tVal (eOp oGt (eOp oSub (eVar 2) (eVar 1)) (eC (.int 1)))) (sSeq (sSet 3 (eOp oDiv (eOp oAdd (eVar 1) (eVar 2)) (eC (.int 2))))
  (sIf (tVal (eOp oLe (eOp oMul (eVar 3) (eVar 3)) (eVar 0)))
  (sSet 1 (eVar 3))
  (sSet 2 (eVar 3)))) k [some (.int n), some (.int lo), some (.int hi), d] S = .nx [some (.int n), some (.int r), some (.int hi'), d'] S
  | 0, _, _, _, _, _, _, _, _, _, _, h => absurd h (Nat.not_lt_zero _)
  | k + 1, n, d, S, lo, hi, h0, h1, h2, h3, hs, hk => by
    unfold whileN
    by_cases c : 1 < hi - lo
    · have dv : oDiv S (.int (lo + hi)) (.int 2) = some (.int ((lo + hi).fdiv 2)) := oDiv_b 2 (by decide) (by decide)
      have fd : (lo + hi).fdiv 2 = (lo + hi) / 2 := Int.fdiv_eq_ediv_of_nonneg _ (by decide)
      rw [fd] at dv
      generalize hm : (lo + hi) / 2 = m at dv
      have sm : Sz m := Sz.of (n := 1303) (by omega)
      by_cases c2 : m * m ≤ n
      · obtain ⟨r, hi', d', hr, e⟩ := halve k n (some (.int m)) S m hi (by omega) (by omega) c2 h3 hs (by omega)
        refine ⟨r, hi', d', hr, ?_⟩
        rw [← e]
        simp -implicitDefEqProofs [c, dv, mulS sm sm, c2]
      · obtain ⟨r, hi', d', hr, e⟩ := halve k n (some (.int m)) S lo m h0 (by omega) h2 (by omega) (by omega) (by omega)
        refine ⟨r, hi', d', hr, ?_⟩
        rw [← e]
        simp -implicitDefEqProofs [c, dv, mulS sm sm, c2]
    · have : hi = lo + 1 := by omega
      subst this
      refine ⟨lo, lo + 1, d, ⟨h0, h2, h3⟩, ?_⟩
      simp -implicitDefEqProofs [c]
theorem lt_fuel {k n : Nat} (h : k < 2 ^ n) (hn : n ≤ 3000) : k < fuel := by
  have : Sz (k : Int) := Sz.of (n := n) (by simpa using h) hn
  simpa using this.fuel
theorem whole_root_ok {n r : Int} (h : Fl n r) (hn : n.natAbs < 2 ^ 1300) : f_whole_root [.int n] [] = .ok (rootD n r) [] := by
  have n0 : 0 ≤ n := by have := h.small; have := h.1; omega
  obtain ⟨hi, g1, g2, g3, e1⟩ := up fuel n (some (.int 0)) none none [] 1 (by decide) (by omega) hn n0 (lt_fuel (n := 1301) (by omega) (by decide))
  obtain ⟨r', hi', d', hr, e2⟩ := halve fuel n none [] 0 hi (by decide) (by omega) (by simpa using n0) g3 (by omega) (lt_fuel (n := 1302) (by omega) (by decide))
  have := h.uniq hr
  subst this
  refine run_ret (S' := []) ?_ (gnd_root _ _)
  have sr : Sz r := Sz.of (n := 1300) (by have := h.small; have := h.1; omega)
  have fin : (if r * r = n then RE.ok (D.int r) [] else RE.ok D.non []) = RE.ok (rootD n r) ([] : Sto) := by
    unfold rootD
    split <;> rfl
  by_cases c : r * r = n
  · simp -implicitDefEqProofs [b_whole_root, Den.start, sWhile_ap, e1, e2, mulS sr sr, c, rootD]
  · simp -implicitDefEqProofs [b_whole_root, Den.start, sWhile_ap, e1, e2, mulS sr sr, c, rootD]
/-! ### Newton -/
theorem newton {n r : Int} (h : Fl n r) (r1 : 1 ≤ r) : ∀ (ks : List D) (k d : Option D) (S : Sto) (x : Int), r ≤ x → x - r < 2 ^ ks.length → x.natAbs < 2 ^ 1390 → ∃ k' d', forL (gName 2) (sSeq (sSet 3 (eOp oDiv (eOp oAdd (eVar 1) (eOp oDiv (eVar 0) (eVar 1))) (eC (.int 2))))
  (sSeq (sIf (tVal (eOp oGe (eVar 3) (eVar 1)))
  sBreak
  sNext)
  (sSet 1 (eVar 3)))) ks [some (.int n), some (.int x), k, d] S = .nx [some (.int n), some (.int r), k', d'] S
  | [], k, d, S, x, h1, h2, hx => by
    have : x = r := by simp at h2; omega
    subst this
    exact ⟨k, d, rfl⟩
  | j :: ks, k, d, S, x, h1, h2, hx => by
    have d1 : oDiv S (.int n) (.int x) = some (.int (n / x)) := by
      rw [oDiv_b 1390 (by omega) hx, Int.fdiv_eq_ediv_of_nonneg _ (by omega)]
    have d2 : oDiv S (.int (x + n / x)) (.int 2) = some (.int ((x + n / x) / 2)) := by
      rw [oDiv_b 2 (by decide) (by decide), Int.fdiv_eq_ediv_of_nonneg _ (by decide)]
    have A : 2 * r - x ≤ n / x := by
      refine Int.le_ediv_of_mul_le (by omega) ?_
      have e : (2 * r - x) * x = r * r - (x - r) * (x - r) := by grind
      have q := h.2.1
      have : 0 ≤ (x - r) * (x - r) := Int.mul_nonneg (by omega) (by omega)
      omega
    by_cases c : x = r
    · subst c
      have g : x ≤ (x + n / x) / 2 := by omega
      refine ⟨some j, some (.int ((x + n / x) / 2)), ?_⟩
      simp -implicitDefEqProofs [forL, d1, d2, g]
    · have B : n / x < r + 1 := by
        refine Int.ediv_lt_of_lt_mul (by omega) ?_
        have q := h.2.2
        have : (r + 1) * (r + 1) ≤ (r + 1) * x := Int.mul_le_mul_of_nonneg_left (by omega) (by omega)
        omega
      have g : ¬ x ≤ (x + n / x) / 2 := by omega
      rw [List.length_cons, Int.pow_succ] at h2
      obtain ⟨k', d', e⟩ := newton h r1 ks (some j) (some (.int ((x + n / x) / 2))) S ((x + n / x) / 2) (by omega) (by omega) (by omega)
      refine ⟨k', d', ?_⟩
      rw [← e]
      simp -implicitDefEqProofs [forL, d1, d2, g]
theorem pow_mono {a b : Nat} (h : a ≤ b) : (2 : Int) ^ a ≤ 2 ^ b := by
  have := Nat.pow_le_pow_right (n := 2) (by decide) h
  exact_mod_cast this
theorem law_root_ok {n r : Int} (h : Fl n r) (hn : n.natAbs < 2 ^ 1300) : f__law_root [.int n] [] = .ok (rootD n r) [] := by
  have n0 : 0 ≤ n := by have := h.small; have := h.1; omega
  refine run_ret (S' := []) ?_ (gnd_root _ _)
  by_cases z : n = 0
  · subst z
    have : r = 0 := by have := h.small; have := h.1; omega
    subst this
    simp -implicitDefEqProofs [b__law_root, Den.start, rootD]
  have r1 : 1 ≤ r := by
    have h1 := h.1
    have h2 := h.2.2
    by_cases q : r = 0
    · subst q
      omega
    · omega
  generalize hB : n.natAbs.log2 + 1 = B
  have bl : B ≤ 1300 := by
    have : n.natAbs.log2 < 1300 := (Nat.log2_lt (by omega)).2 hn
    omega
  have nb : n.natAbs < 2 ^ B := by
    have := Nat.lt_log2_self (n := n.natAbs)
    rw [← hB]
    exact this
  have ob : ∀ S : Sto, oBits S (.int n) = some (.int (B : Int)) := fun S => by
    have zb : (n == 0) = false := by simpa using z
    simp [oBits, zb, ← hB]
  have dv : ∀ S : Sto, oDiv S (.int ((B : Int) + 1)) (.int 2) = some (.int (((B + 1) / 2 : Nat) : Int)) := fun S => by
    rw [oDiv_b 2 (by decide) (by decide), Int.fdiv_eq_ediv_of_nonneg _ (by decide)]
    congr 1
  generalize hE : (B + 1) / 2 = E at dv
  have sh : ∀ S : Sto, oShl S (.int 1) (.int (E : Int)) = some (.int (2 ^ E)) := fun S => by
    have w : wShl 1 (E : Int) = true := by
      unfold wShl
      have l1 : Nat.log2 1 = 0 := by decide
      simp [l1]
      omega
    simp [oShl, w]
  have x0 : r ≤ 2 ^ E := by
    have e1 : (2 : Int) ^ B ≤ 2 ^ (E + E) := pow_mono (by omega)
    rw [Int.pow_add] at e1
    have e2 : n < 2 ^ B := by
      have : (n.natAbs : Int) < ((2 ^ B : Nat) : Int) := by exact_mod_cast nb
      rw [Int.natAbs_of_nonneg n0] at this
      exact_mod_cast this
    have := sq_lt (a := r) (b := 2 ^ E) h.1 (Int.le_of_lt (Int.pow_pos (by decide))) (by have := h.2.1; omega)
    omega
  have hx : ((2 : Int) ^ E).natAbs < 2 ^ 1390 := by
    have : ((2 : Int) ^ E).natAbs = 2 ^ E := by
      rw [Int.natAbs_pow]
      rfl
    rw [this]
    exact Nat.pow_lt_pow_right (by decide) (by omega)
  obtain ⟨k', d', e⟩ := newton h r1 (rangeD 0 ((B : Int) + 2)) none none [] (2 ^ E) x0 (by
    have e1 : (rangeD 0 ((B : Int) + 2)).length = B + 2 := by
      simp only [rangeD, List.length_map, List.length_range]
      omega
    rw [e1]
    have := pow_mono (a := E) (b := B + 2) (by omega)
    omega) hx
  have sm : small62 ((B : Int) + 2) = true := by
    simp only [small62, Bool.and_eq_true, decide_eq_true_eq]
    omega
  have sr : Sz r := Sz.of (n := 1300) (by have := h.small; have := h.1; omega)
  by_cases c : r * r = n
  · simp -implicitDefEqProofs [b__law_root, Den.start, z, ob, dv, sh, iRng1, sm, e, mulS sr sr, c, rootD]
  · simp -implicitDefEqProofs [b__law_root, Den.start, z, ob, dv, sh, iRng1, sm, e, mulS sr sr, c, rootD]
/-! ### the root of a fraction -/
theorem call1 {F : Fn} {x r : D} (e : F [x] [] = .ok r []) (gx : gnd x = true) (p : DE) (ρ : Den.Env) (S : Sto) (h1 : p ρ S = .ok x S) : eCall F (aCons p aNil) ρ S = .ok r S :=
  call_ok (S1 := S) (ds := [x]) (by simp [h1]) (by simp [gnds, gx]) e
def rootF (t b r s : Int) : D := if t < 0 then .non else if r * r = t ∧ s * s = b then fr r s else .non
theorem gnd_rootF (t b r s : Int) : gnd (rootF t b r s) = true := by
  unfold rootF
  split
  · rfl
  · split
    · exact gnd_fr _ _
    · rfl
theorem root_of_ok {t b r s : Int} (ht : 0 ≤ t → Fl t r) (hb : Fl b s) (st : t.natAbs < 2 ^ 1300) (sb : b.natAbs < 2 ^ 1300) : f_root_of [fr t b] [] = .ok (rootF t b r s) [] := by
  refine run_ret (S' := []) ?_ (gnd_rootF _ _ _ _)
  by_cases z : t < 0
  · simp -implicitDefEqProofs [b_root_of, Den.start, z, rootF]
  have c1 : eCall f_whole_root (aCons (eOp oIx (eVar 0) (eC (.int 0))) aNil) [some (fr t b), none, none] [] = .ok (rootD t r) [] := call1 (whole_root_ok (ht (by omega)) st) rfl _ _ _ (by simp)
  have c2 : ∀ x : D, eCall f_whole_root (aCons (eOp oIx (eVar 0) (eC (.int 1))) aNil) [some (fr t b), some x, none] [] = .ok (rootD b s) [] := fun x => call1 (whole_root_ok hb sb) rfl _ _ _ (by simp)
  by_cases q1 : r * r = t <;> by_cases q2 : s * s = b <;> simp -implicitDefEqProofs [b_root_of, Den.start, z, c1, c2, rootF, rootD, q1, q2, isN]
theorem gcd_sq {r s : Int} (h : Int.gcd (r * r) (s * s) = 1) : Int.gcd r s = 1 := by
  have d : Int.gcd r s ∣ Int.gcd (r * r) (s * s) := by
    refine Nat.dvd_gcd ?_ ?_
    · rw [Int.natAbs_mul]
      exact Nat.dvd_trans (Nat.gcd_dvd_left _ _) ⟨_, rfl⟩
    · rw [Int.natAbs_mul]
      exact Nat.dvd_trans (Nat.gcd_dvd_right _ _) ⟨_, rfl⟩
  rw [h] at d
  exact Nat.dvd_one.1 d
theorem sq_gcd {r s : Int} (h : Int.gcd r s = 1) : Int.gcd (r * r) (s * s) = 1 := by
  have c : Nat.Coprime r.natAbs s.natAbs := h
  show Nat.gcd _ _ = 1
  rw [Int.natAbs_mul, Int.natAbs_mul]
  exact Nat.Coprime.mul_left (c.mul_right c) (c.mul_right c)
end Pre
end

section
set_option maxRecDepth 100000
namespace K05
open Den Pre PySem
def b__law_tame : DS :=
  (sSeq (sSet 1 (eOp oSub (eCallM f__law_take (aCons (eVar 0) (aCons (eC (.int 41)) aNil))) (eC (.int 20))))
  (sRet (eCall f__law_low (aCons (eVar 1) (aCons (eOp oAdd (eC (.int 1)) (eCallM f__law_take (aCons (eVar 0) (aCons (eC (.int 5)) aNil)))) aNil)))))
def f__law_tame : Fn := run 2 1 b__law_tame

def b__law_point : DS :=
  (sSeq (sIf (tVal (eOp oEq (eCallM f__law_take (aCons (eVar 0) (aCons (eC (.int 5)) aNil))) (eC (.int 0))))
  (sSeq (sSet 1 (eCallM f__law_fraction (aCons (eVar 0) aNil)))
  (sRet (eTup (aCons (eVar 1) (aCons (eCallM f__law_fraction (aCons (eVar 0) aNil)) aNil)))))
  sNext)
  (sSeq (sSet 1 (eCallM f__law_tame (aCons (eVar 0) aNil)))
  (sRet (eTup (aCons (eVar 1) (aCons (eCallM f__law_tame (aCons (eVar 0) aNil)) aNil))))))
def f__law_point : Fn := run 2 1 b__law_point

def b__law_add : DS :=
  (sRet (eCall f__law_low (aCons (eOp oAdd (eOp oMul (eOp oIx (eVar 0) (eC (.int 0))) (eOp oIx (eVar 1) (eC (.int 1)))) (eOp oMul (eOp oIx (eVar 1) (eC (.int 0))) (eOp oIx (eVar 0) (eC (.int 1))))) (aCons (eOp oMul (eOp oIx (eVar 0) (eC (.int 1))) (eOp oIx (eVar 1) (eC (.int 1)))) aNil))))
def f__law_add : Fn := run 2 0 b__law_add

def b__law_plus : DS :=
  (sRet (eTup (aCons (eCall f__law_add (aCons (eOp oIx (eVar 0) (eC (.int 0))) (aCons (eOp oIx (eVar 1) (eC (.int 0))) aNil))) (aCons (eCall f__law_add (aCons (eOp oIx (eVar 0) (eC (.int 1))) (aCons (eOp oIx (eVar 1) (eC (.int 1))) aNil))) aNil))))
def f__law_plus : Fn := run 2 0 b__law_plus

def b__law_no_point : DS :=
  (sSeq (sSet 1 (eLst false (aCons (eC .non) (aCons (eC (.bl true)) (aCons (eC (.int 5)) (aCons (eC (.str (Str.ofString "p"))) (aCons (eLst false aNil) (aCons (eTup aNil) (aCons (eTup (aCons (eTup (aCons (eC (.int 0)) (aCons (eC (.int 1)) aNil))) aNil)) (aCons (eTup (aCons (eTup (aCons (eC (.int 0)) (aCons (eC (.int 1)) aNil))) (aCons (eTup (aCons (eC (.int 1)) (aCons (eC (.int 2)) aNil))) (aCons (eTup (aCons (eC (.int 0)) (aCons (eC (.int 1)) aNil))) aNil)))) (aCons (eLst false (aCons (eTup (aCons (eC (.int 0)) (aCons (eC (.int 1)) aNil))) (aCons (eTup (aCons (eC (.int 1)) (aCons (eC (.int 1)) aNil))) aNil))) (aCons (eTup (aCons (eTup (aCons (eC (.int 0)) (aCons (eC (.int 1)) aNil))) (aCons (eTup (aCons (eC (.int 2)) (aCons (eC (.int 4)) aNil))) aNil))) (aCons (eTup (aCons (eC (.int 0)) (aCons (eC (.int 1)) aNil))) aNil)))))))))))))
  (sSeq (sSet 1 (eOp oCat (eVar 1) (eLst false (aCons (eTup (aCons (eTup (aCons (eC (.int 0)) (aCons (eC (.int 1)) aNil))) (aCons (eTup (aCons (eC (.int 1)) (aCons (eC (.int 0)) aNil))) aNil))) (aCons (eTup (aCons (eTup (aCons (eC (.int 0)) (aCons (eC (.int 1)) aNil))) (aCons (eLst false (aCons (eC (.int 1)) (aCons (eC (.int 1)) aNil))) aNil))) (aCons (eTup (aCons (eTup (aCons (eC (.bl true)) (aCons (eC (.int 1)) aNil))) (aCons (eTup (aCons (eC (.int 0)) (aCons (eC (.int 1)) aNil))) aNil))) (aCons (eTup (aCons (eTup (aCons (eC (.int 1)) (aCons (eC (.int 1)) aNil))) (aCons (eC .non) aNil))) (aCons (eC (.dct [] [])) (aCons (eTup (aCons (eTup (aCons (eC (.int 3)) (aCons (eUn oNeg (eC (.int 1))) aNil))) (aCons (eTup (aCons (eC (.int 0)) (aCons (eC (.int 1)) aNil))) aNil))) (aCons (eTup (aCons (eC (.int 1)) (aCons (eTup (aCons (eC (.int 0)) (aCons (eC (.int 1)) aNil))) aNil))) aNil))))))))))
  (sRet (eOp oIx (eVar 1) (eCallM f__law_take (aCons (eVar 0) (aCons (eUn oLen (eVar 1)) aNil)))))))
def f__law_no_point : Fn := run 2 1 b__law_no_point

def b__law_times : DS :=
  (sRet (eTup (aCons (eCall f__law_mul (aCons (eOp oIx (eVar 0) (eC (.int 0))) (aCons (eVar 1) aNil))) (aCons (eCall f__law_mul (aCons (eOp oIx (eVar 0) (eC (.int 1))) (aCons (eVar 1) aNil))) aNil))))
def f__law_times : Fn := run 2 0 b__law_times

def b__law_ray : DS :=
  (sSeq (sSet 1 (eOp oMul (eOp oIx (eVar 0) (eC (.int 0))) (eOp oIx (eVar 0) (eC (.int 0)))))
  (sSeq (sSet 2 (eOp oMul (eOp oIx (eVar 0) (eC (.int 1))) (eOp oIx (eVar 0) (eC (.int 1)))))
  (sRet (eTup (aCons (eCall f__law_low (aCons (eOp oSub (eVar 2) (eVar 1)) (aCons (eOp oAdd (eVar 2) (eVar 1)) aNil))) (aCons (eCall f__law_low (aCons (eOp oMul (eOp oMul (eC (.int 2)) (eOp oIx (eVar 0) (eC (.int 0)))) (eOp oIx (eVar 0) (eC (.int 1)))) (aCons (eOp oAdd (eVar 2) (eVar 1)) aNil))) aNil))))))
def f__law_ray : Fn := run 3 0 b__law_ray

def b__law_slope : DS :=
  (sSeq (sSet 2 (eOp oAdd (eC (.int 1)) (eCallM f__law_take (aCons (eVar 0) (aCons (eVar 1) aNil)))))
  (sRet (eCall f__law_low (aCons (eVar 2) (aCons (eOp oAdd (eC (.int 1)) (eCallM f__law_take (aCons (eVar 0) (aCons (eVar 1) aNil)))) aNil)))))
def f__law_slope : Fn := run 3 1 b__law_slope

def b__law_sub : DS :=
  (sRet (eCall f__law_low (aCons (eOp oSub (eOp oMul (eOp oIx (eVar 0) (eC (.int 0))) (eOp oIx (eVar 1) (eC (.int 1)))) (eOp oMul (eOp oIx (eVar 1) (eC (.int 0))) (eOp oIx (eVar 0) (eC (.int 1))))) (aCons (eOp oMul (eOp oIx (eVar 0) (eC (.int 1))) (eOp oIx (eVar 1) (eC (.int 1)))) aNil))))
def f__law_sub : Fn := run 2 0 b__law_sub

def b__law_minus : DS :=
  (sRet (eTup (aCons (eCall f__law_sub (aCons (eOp oIx (eVar 0) (eC (.int 0))) (aCons (eOp oIx (eVar 1) (eC (.int 0))) aNil))) (aCons (eCall f__law_sub (aCons (eOp oIx (eVar 0) (eC (.int 1))) (aCons (eOp oIx (eVar 1) (eC (.int 1))) aNil))) aNil))))
def f__law_minus : Fn := run 2 0 b__law_minus

def b__law_triple : DS :=
  (sSeq (sSet 1 (eCallM f__law_take (aCons (eVar 0) (aCons (eC (.int 12)) aNil))))
  (sSeq (sSet 2 (eCallM f__law_take (aCons (eVar 0) (aCons (eC (.int 3)) aNil))))
  (sSeq (sSet 3 (eCallM f__law_take (aCons (eVar 0) (aCons (eC (.int 5)) aNil))))
  (sSeq (sSet 4 (eComp true [8] (Den.iRng1 (eC (.int 3))) (gName 8) tYes (eCallM f__law_point (aCons (eVar 0) aNil))))
  (sSeq (sSet 5 (eCallM f__law_tame (aCons (eVar 0) aNil)))
  (sSeq (sSet 6 (eTup (aCons (eVar 5) (aCons (eCallM f__law_tame (aCons (eVar 0) aNil)) aNil))))
  (sSeq (sSet 7 (eCall f__law_low (aCons (eOp oSub (eCallM f__law_take (aCons (eVar 0) (aCons (eC (.int 41)) aNil))) (eC (.int 20))) (aCons (eOp oAdd (eC (.int 1)) (eCallM f__law_take (aCons (eVar 0) (aCons (eC (.int 20)) aNil)))) aNil))))
  (sSeq (sIf (tVal (eOp oEq (eVar 2) (eC (.int 0))))
  (sSeq (sSetIx (eVar 4) (eC (.int 0)) (eVar 6))
  (sSetIx (eVar 4) (eC (.int 1)) (eCall f__law_plus (aCons (eVar 6) (aCons (eCall f__law_times (aCons (eCall f__law_ray (aCons (eVar 7) aNil)) (aCons (eCallM f__law_slope (aCons (eVar 0) (aCons (eC (.int 30)) aNil))) aNil))) aNil)))))
  sNext)
  (sSeq (sIf (tVal (eOp oEq (eVar 3) (eC (.int 0))))
  (sSeq (sSetIx (eVar 4) (eC (.int 0)) (eVar 6))
  (sSeq (sSetIx (eVar 4) (eC (.int 1)) (eTup (aCons (eCallM f__law_tame (aCons (eVar 0) aNil)) (aCons (eVar 5) aNil))))
  (sSetIx (eVar 4) (eC (.int 2)) (eCall f__law_plus (aCons (eVar 6) (aCons (eCall f__law_times (aCons (eCall f__law_minus (aCons (eOp oIx (eVar 4) (eC (.int 1))) (aCons (eVar 6) aNil))) (aCons (eCallM f__law_tame (aCons (eVar 0) aNil)) aNil))) aNil))))))
  sNext)
  (sSeq (sIf (tVal (eOp oEq (eVar 3) (eC (.int 1))))
  (sSetIx (eVar 4) (eC (.int 2)) (eOp oIx (eVar 4) (eCallM f__law_take (aCons (eVar 0) (aCons (eC (.int 2)) aNil)))))
  sNext)
  (sSeq (sIf (tVal (eOp oEq (eVar 3) (eC (.int 2))))
  (sSetIx (eVar 4) (eC (.int 1)) (eOp oIx (eVar 4) (eC (.int 0))))
  sNext)
  (sSeq (sIf (tVal (eOp oLt (eVar 1) (eC (.int 3))))
  (sSetIx (eVar 4) (eVar 1) (eCallM f__law_no_point (aCons (eVar 0) aNil)))
  sNext)
  (sRet (eVar 4))))))))))))))
def f__law_triple : Fn := run 9 1 b__law_triple

def b__law_flat : DS :=
  (sRet (eTup (aCons (eOp oMul (eOp oIx (eOp oIx (eVar 0) (eC (.int 0))) (eC (.int 0))) (eOp oIx (eOp oIx (eVar 0) (eC (.int 1))) (eC (.int 1)))) (aCons (eOp oMul (eOp oIx (eOp oIx (eVar 0) (eC (.int 1))) (eC (.int 0))) (eOp oIx (eOp oIx (eVar 0) (eC (.int 0))) (eC (.int 1)))) (aCons (eOp oMul (eOp oIx (eOp oIx (eVar 0) (eC (.int 0))) (eC (.int 1))) (eOp oIx (eOp oIx (eVar 0) (eC (.int 1))) (eC (.int 1)))) aNil)))))
def f__law_flat : Fn := run 1 0 b__law_flat

def b__law_side : DS :=
  (sSeq (sSet 3 (eCall f__law_flat (aCons (eVar 0) aNil)))
  (sSeq (sSet 4 (eCall f__law_flat (aCons (eVar 1) aNil)))
  (sSeq (sSet 5 (eCall f__law_flat (aCons (eVar 2) aNil)))
  (sSeq (sSet 6 (eOp oSub (eOp oMul (eOp oIx (eVar 3) (eC (.int 0))) (eOp oSub (eOp oMul (eOp oIx (eVar 4) (eC (.int 1))) (eOp oIx (eVar 5) (eC (.int 2)))) (eOp oMul (eOp oIx (eVar 5) (eC (.int 1))) (eOp oIx (eVar 4) (eC (.int 2)))))) (eOp oMul (eOp oIx (eVar 3) (eC (.int 1))) (eOp oSub (eOp oMul (eOp oIx (eVar 4) (eC (.int 0))) (eOp oIx (eVar 5) (eC (.int 2)))) (eOp oMul (eOp oIx (eVar 5) (eC (.int 0))) (eOp oIx (eVar 4) (eC (.int 2))))))))
  (sSeq (sSet 6 (eOp oAdd (eVar 6) (eOp oMul (eOp oIx (eVar 3) (eC (.int 2))) (eOp oSub (eOp oMul (eOp oIx (eVar 4) (eC (.int 0))) (eOp oIx (eVar 5) (eC (.int 1)))) (eOp oMul (eOp oIx (eVar 5) (eC (.int 0))) (eOp oIx (eVar 4) (eC (.int 1))))))))
  (sRet (eOp oSub (eUn oInt (eOp oGt (eVar 6) (eC (.int 0)))) (eUn oInt (eOp oLt (eVar 6) (eC (.int 0)))))))))))
def f__law_side : Fn := run 7 0 b__law_side

def b_whole_triple : DS :=
  (sSeq (sUnp (gTup [1, 2]) (eVar 0))
  (sRet (eTup (aCons (eOp oMul (eOp oIx (eVar 1) (eC (.int 0))) (eOp oIx (eVar 2) (eC (.int 1)))) (aCons (eOp oMul (eOp oIx (eVar 2) (eC (.int 0))) (eOp oIx (eVar 1) (eC (.int 1)))) (aCons (eOp oMul (eOp oIx (eVar 1) (eC (.int 1))) (eOp oIx (eVar 2) (eC (.int 1)))) aNil))))))
def f_whole_triple : Fn := run 3 0 b_whole_triple

def b_side_sign : DS :=
  (sSeq (sUnp (gTup [4, 5, 6]) (eCall f_whole_triple (aCons (eVar 0) aNil)))
  (sSeq (sUnp (gTup [7, 8, 9]) (eCall f_whole_triple (aCons (eVar 1) aNil)))
  (sSeq (sUnp (gTup [10, 11, 12]) (eCall f_whole_triple (aCons (eVar 2) aNil)))
  (sSeq (sSet 3 (eOp oAdd (eOp oSub (eOp oMul (eVar 4) (eOp oSub (eOp oMul (eVar 8) (eVar 12)) (eOp oMul (eVar 11) (eVar 9)))) (eOp oMul (eVar 5) (eOp oSub (eOp oMul (eVar 7) (eVar 12)) (eOp oMul (eVar 10) (eVar 9))))) (eOp oMul (eVar 6) (eOp oSub (eOp oMul (eVar 7) (eVar 11)) (eOp oMul (eVar 10) (eVar 8))))))
  (sRet (eOp oSub (eUn oInt (eOp oGt (eVar 3) (eC (.int 0)))) (eUn oInt (eOp oLt (eVar 3) (eC (.int 0))))))))))
def f_side_sign : Fn := run 13 0 b_side_sign

def b_is_point : DS :=
  (sRet (eAnd (eIsK [.tuple] (eVar 0)) (eAnd (eOp oEq (eUn oLen (eVar 0)) (eC (.int 2))) (eAnd (eCall f_is_fraction (aCons (eOp oIx (eVar 0) (eC (.int 0))) aNil)) (eCall f_is_fraction (aCons (eOp oIx (eVar 0) (eC (.int 1))) aNil))))))
def f_is_point : Fn := run 1 0 b_is_point

def b_turn_of : DS :=
  (sSeq (sIf (Den.tOr (Den.tNot (tVal (eCall f_is_point (aCons (eVar 0) aNil)))) (Den.tOr (Den.tNot (tVal (eCall f_is_point (aCons (eVar 1) aNil)))) (Den.tNot (tVal (eCall f_is_point (aCons (eVar 2) aNil))))))
  (sRaise "NoPoint" [] aNil)
  sNext)
  (sRet (eCall f_side_sign (aCons (eVar 0) (aCons (eVar 1) (aCons (eVar 2) aNil))))))
def f_turn_of : Fn := run 3 0 b_turn_of

def b__law_is_point : DS :=
  (sRet (eAnd (eIsK [.tuple] (eVar 0)) (eAnd (eOp oEq (eUn oLen (eVar 0)) (eC (.int 2))) (eAnd (eCall f__law_is_frac (aCons (eOp oIx (eVar 0) (eC (.int 0))) aNil)) (eCall f__law_is_frac (aCons (eOp oIx (eVar 0) (eC (.int 1))) aNil))))))
def f__law_is_point : Fn := run 1 0 b__law_is_point

def b__law_turn_asked : DS :=
  (sSeq (sSet 2 (eC (.bl false)))
  (sSeq (sSet 3 (eLst true aNil))
  (sSeq (sTry "NoPoint"
  (sSeq (sIf (tVal (eVar 1))
  (sSet 3 (eLst true (aCons (eCall f_turn_of (aKw 0 [2, 1, 0] aNil (aCons (eOp oIx (eVar 0) (eC (.int 2))) (aCons (eOp oIx (eVar 0) (eC (.int 1))) (aCons (eOp oIx (eVar 0) (eC (.int 0))) aNil))))) aNil)))
  (sSet 3 (eLst true (aCons (eCall f_turn_of (aCons (eOp oIx (eVar 0) (eC (.int 0))) (aCons (eOp oIx (eVar 0) (eC (.int 1))) (aCons (eOp oIx (eVar 0) (eC (.int 2))) aNil)))) aNil))))
  (sSeq (sDrop (eAppend (eVar 3) (eCall f_turn_of (aCons (eOp oIx (eVar 0) (eC (.int 1))) (aCons (eOp oIx (eVar 0) (eC (.int 2))) (aCons (eOp oIx (eVar 0) (eC (.int 0))) aNil))))))
  (sDrop (eAppend (eVar 3) (eCall f_turn_of (aCons (eOp oIx (eVar 0) (eC (.int 1))) (aCons (eOp oIx (eVar 0) (eC (.int 0))) (aCons (eOp oIx (eVar 0) (eC (.int 2))) aNil))))))))
  (sSet 2 (eC (.bl true))))
  (sSeq (sIf (Den.tOr (Den.tNot (tVal (eCall f__law_is_point (aCons (eOp oIx (eVar 0) (eC (.int 0))) aNil)))) (Den.tOr (Den.tNot (tVal (eCall f__law_is_point (aCons (eOp oIx (eVar 0) (eC (.int 1))) aNil)))) (Den.tNot (tVal (eCall f__law_is_point (aCons (eOp oIx (eVar 0) (eC (.int 2))) aNil))))))
  (sRet (eVar 2))
  sNext)
  (sSeq (sIf (Den.tOr (tVal (eVar 2)) (Den.tNot (tVal (eCall f__law_is_integer (aCons (eOp oIx (eVar 3) (eC (.int 0))) aNil)))))
  (sRet (eC (.bl false)))
  sNext)
  (sSeq (sSet 4 (eCall f__law_side (aCons (eOp oIx (eVar 0) (eC (.int 0))) (aCons (eOp oIx (eVar 0) (eC (.int 1))) (aCons (eOp oIx (eVar 0) (eC (.int 2))) aNil)))))
  (sRet (eOp oEq (eVar 3) (eLst false (aCons (eVar 4) (aCons (eVar 4) (aCons (eUn oNeg (eVar 4)) aNil))))))))))))
def f__law_turn_asked : Fn := run 5 0 b__law_turn_asked

def b__law_dot : DS :=
  (sRet (eCall f__law_add (aCons (eCall f__law_mul (aCons (eOp oIx (eVar 0) (eC (.int 0))) (aCons (eOp oIx (eVar 1) (eC (.int 0))) aNil))) (aCons (eCall f__law_mul (aCons (eOp oIx (eVar 0) (eC (.int 1))) (aCons (eOp oIx (eVar 1) (eC (.int 1))) aNil))) aNil))))
def f__law_dot : Fn := run 2 0 b__law_dot

def b__law_size : DS :=
  (sSeq (sSet 1 (eCall f__law_dot (aCons (eVar 0) (aCons (eVar 0) aNil))))
  (sSeq (sSet 2 (eCall f__law_root (aCons (eOp oIx (eVar 1) (eC (.int 0))) aNil)))
  (sSeq (sSet 3 (eCall f__law_root (aCons (eOp oIx (eVar 1) (eC (.int 1))) aNil)))
  (sSeq (sIf (Den.tOr (tVal (eUn oIsN (eVar 2))) (tVal (eUn oIsN (eVar 3))))
  (sRet (eC .non))
  sNext)
  (sRet (eTup (aCons (eVar 2) (aCons (eVar 3) aNil))))))))
def f__law_size : Fn := run 4 0 b__law_size

def b_inner_of : DS :=
  (sRet (eCall f_plus (aCons (eCall f_product (aCons (eOp oIx (eVar 0) (eC (.int 0))) (aCons (eOp oIx (eVar 1) (eC (.int 0))) aNil))) (aCons (eCall f_product (aCons (eOp oIx (eVar 0) (eC (.int 1))) (aCons (eOp oIx (eVar 1) (eC (.int 1))) aNil))) aNil))))
def f_inner_of : Fn := run 2 0 b_inner_of

def b_size_of : DS :=
  (sRet (eCall f_root_of (aCons (eCall f_inner_of (aCons (eVar 0) (aCons (eVar 0) aNil))) aNil)))
def f_size_of : Fn := run 1 0 b_size_of

def b_step_of : DS :=
  (sRet (eTup (aCons (eCall f_minus (aCons (eOp oIx (eVar 1) (eC (.int 0))) (aCons (eOp oIx (eVar 0) (eC (.int 0))) aNil))) (aCons (eCall f_minus (aCons (eOp oIx (eVar 1) (eC (.int 1))) (aCons (eOp oIx (eVar 0) (eC (.int 1))) aNil))) aNil))))
def f_step_of : Fn := run 2 0 b_step_of

def b_length_of : DS :=
  (sSeq (sIf (Den.tOr (Den.tNot (tVal (eCall f_is_point (aCons (eVar 0) aNil)))) (Den.tNot (tVal (eCall f_is_point (aCons (eVar 1) aNil)))))
  (sRaise "NoPoint" [] aNil)
  sNext)
  (sRet (eCall f_size_of (aCons (eCall f_step_of (aCons (eVar 0) (aCons (eVar 1) aNil))) aNil))))
def f_length_of : Fn := run 2 0 b_length_of

def b__law_length : DS :=
  (sSeq (sIf (tVal (eVar 2))
  (sRet (eCall f_length_of (aKw 0 [1, 0] aNil (aCons (eVar 1) (aCons (eVar 0) aNil)))))
  sNext)
  (sRet (eCall f_length_of (aCons (eVar 0) (aCons (eVar 1) aNil)))))
def f__law_length : Fn := run 3 0 b__law_length

def b__law_length_asked : DS :=
  (sSeq (sSet 3 (eC (.bl false)))
  (sSeq (sSet 4 (eC .non))
  (sSeq (sSet 5 (eC .non))
  (sSeq (sTry "NoPoint"
  (sSeq (sSet 4 (eCall f__law_length (aCons (eVar 0) (aCons (eVar 1) (aCons (eVar 2) aNil)))))
  (sSet 5 (eCall f_length_of (aCons (eVar 1) (aCons (eVar 0) aNil)))))
  (sSet 3 (eC (.bl true))))
  (sSeq (sIf (Den.tOr (Den.tNot (tVal (eCall f__law_is_point (aCons (eVar 0) aNil)))) (Den.tNot (tVal (eCall f__law_is_point (aCons (eVar 1) aNil)))))
  (sRet (eVar 3))
  sNext)
  (sSeq (sIf (Den.tOr (tVal (eVar 3)) (tVal (eOp oNe (eVar 4) (eVar 5))))
  (sRet (eC (.bl false)))
  sNext)
  (sSeq (sSet 6 (eCall f__law_size (aCons (eCall f__law_minus (aCons (eVar 1) (aCons (eVar 0) aNil))) aNil)))
  (sSeq (sIf (tVal (eUn oIsN (eVar 6)))
  (sRet (eUn oIsN (eVar 4)))
  sNext)
  (sRet (eAnd (eCall f__law_is_frac (aCons (eVar 4) aNil)) (eOp oEq (eVar 4) (eVar 6))))))))))))
def f__law_length_asked : Fn := run 7 0 b__law_length_asked

def b_law : DS :=
  (sSeq (sSet 1 (eCallL f__law_stream (aCons (eVar 0) aNil)))
  (sSeq (sFor (Den.iRng1 (eOp oAdd (eC (.int 1)) (eOp oMin (eC (.int 7)) (eUn oLen (eVar 0))))) (gName 2)
  (sSeq (sSet 3 (eOp oEq (eCallM f__law_take (aCons (eVar 1) (aCons (eC (.int 3)) aNil))) (eC (.int 0))))
  (sSeq (sSet 4 (eCallM f__law_triple (aCons (eVar 1) aNil)))
  (sSeq (sIf (Den.tNot (tVal (eCall f__law_turn_asked (aCons (eVar 4) (aCons (eVar 3) aNil)))))
  (sRet (eC (.bl false)))
  sNext)
  (sFor (Den.iRng1 (eC (.int 3))) (gName 5)
  (sIf (Den.tNot (tVal (eCall f__law_length_asked (aCons (eOp oIx (eVar 4) (eVar 5)) (aCons (eOp oIx (eVar 4) (eOp oMod (eOp oAdd (eVar 5) (eC (.int 1))) (eC (.int 3)))) (aCons (eVar 3) aNil))))))
  (sRet (eC (.bl false)))
  sNext))))))
  (sRet (eC (.bl true)))))
def f_law : Fn := run 6 0 b_law
end K05
end

section
set_option maxRecDepth 100000
set_option maxHeartbeats 4000000
set_option exponentiation.threshold 4000
set_option linter.unusedSimpArgs false
set_option linter.unusedVariables false
namespace K05
open Den Pre PySem
theorem vE {ρ : Den.Env} {S : Sto} {i : Nat} {d : D} (h : ρ[i]? = some (some d)) : eVar i ρ S = .ok d S := by simp [h]
theorem _root_.Pre.FrB.ne {n : Nat} {x y : Int} (h : FrB n x y) : y ≠ 0 := by have := h.pos; omega
abbrev pt (a b c d : Int) : D := .tup [fr a b, fr c d]
theorem gnd_pt (a b c d : Int) : gnd (pt a b c d) = true := by simp [Den.gnd, gnds]
/-! ### fractions of the law -/
theorem lowS {n : Nat} {t b : Int} (hb : b ≠ 0) (h1 : t.natAbs < 2 ^ n) (h2 : b.natAbs < 2 ^ n) (hn : n ≤ 3000) : ∃ x y p, f__law_low [.int t, .int b] [] = .ok (fr x y) [] ∧ FrB n x y ∧ Low t b x y p := by
  obtain ⟨x, y, p, e, l⟩ := law_low_ok t b hb (bit_mono h2 hn)
  exact ⟨x, y, p, e, l.frB h1 h2, l⟩
theorem lowC {F : Fn} {t b : Int} {r : D} (e : F [.int t, .int b] [] = .ok r []) (as : DA) (ρ : Den.Env) (S S1 : Sto) (h : as ρ S = .ok [.int t, .int b] S1) : eCall F as ρ S = .ok r S1 :=
  call_ok (S1 := S1) (ds := [.int t, .int b]) h rfl e
theorem low_uniq {t b x y p u v q : Int} (l : Low t b x y p) (g : Low t b u v q) : x = u ∧ y = v := by
  have hb : b ≠ 0 := by
    rw [l.bot]
    exact Int.mul_ne_zero l.ne (by have := l.pos; omega)
  refine fr_uniq l.pos l.one g.pos g.one (Int.eq_of_mul_eq_mul_right hb ?_)
  have h1 : x * v * b = (x * b) * v := by grind
  have h2 : u * y * b = (u * b) * y := by grind
  rw [h1, h2, l.val, g.val]
  grind
section
variable {m n : Nat} {a b c d : Int} (A : FrB m a b) (B : FrB n c d) (hm : m ≤ 1390) (hn : n ≤ 1390)
include A B hm hn
theorem ladd_ok : ∃ x y p, f__law_add [fr a b, fr c d] [] = .ok (fr x y) [] ∧ FrB (m + n + 1) x y ∧ Low (a * d + c * b) (b * d) x y p := by
  have e2 := nat_mul B.sx A.sy
  rw [Nat.add_comm] at e2
  obtain ⟨x, y, p, e, f, l⟩ := lowS (n := m + n + 1) (t := a * d + c * b) (b := b * d) (Int.mul_ne_zero A.ne B.ne) (nat_add (nat_mul A.sx B.sy) e2) (bit_mono (nat_mul A.sy B.sy) (by omega)) (by omega)
  have sA := A.S (by omega)
  have sB := B.S (by omega)
  refine ⟨x, y, p, run_ret (S' := []) ?_ (gnd_fr _ _), f, l⟩
  have := lowC e (aCons (eOp oAdd (eOp oMul (eOp oIx (eVar 0) (eC (.int 0))) (eOp oIx (eVar 1) (eC (.int 1)))) (eOp oMul (eOp oIx (eVar 1) (eC (.int 0))) (eOp oIx (eVar 0) (eC (.int 1))))) (aCons (eOp oMul (eOp oIx (eVar 0) (eC (.int 1))) (eOp oIx (eVar 1) (eC (.int 1)))) aNil)) [some (fr a b), some (fr c d)] [] [] (by simp [mulS sA.sx.sz sB.sy.sz, mulS sB.sx.sz sA.sy.sz, mulS sA.sy.sz sB.sy.sz])
  simp -implicitDefEqProofs [b__law_add, Den.start, this]
theorem lsub_ok : ∃ x y p, f__law_sub [fr a b, fr c d] [] = .ok (fr x y) [] ∧ FrB (m + n + 1) x y ∧ Low (a * d - c * b) (b * d) x y p := by
  have e2 := nat_mul B.sx A.sy
  rw [Nat.add_comm] at e2
  obtain ⟨x, y, p, e, f, l⟩ := lowS (n := m + n + 1) (t := a * d - c * b) (b := b * d) (Int.mul_ne_zero A.ne B.ne) (nat_sub (nat_mul A.sx B.sy) e2) (bit_mono (nat_mul A.sy B.sy) (by omega)) (by omega)
  have sA := A.S (by omega)
  have sB := B.S (by omega)
  refine ⟨x, y, p, run_ret (S' := []) ?_ (gnd_fr _ _), f, l⟩
  have := lowC e (aCons (eOp oSub (eOp oMul (eOp oIx (eVar 0) (eC (.int 0))) (eOp oIx (eVar 1) (eC (.int 1)))) (eOp oMul (eOp oIx (eVar 1) (eC (.int 0))) (eOp oIx (eVar 0) (eC (.int 1))))) (aCons (eOp oMul (eOp oIx (eVar 0) (eC (.int 1))) (eOp oIx (eVar 1) (eC (.int 1)))) aNil)) [some (fr a b), some (fr c d)] [] [] (by simp [mulS sA.sx.sz sB.sy.sz, mulS sB.sx.sz sA.sy.sz, mulS sA.sy.sz sB.sy.sz])
  simp -implicitDefEqProofs [b__law_sub, Den.start, this]
theorem lmul_ok : ∃ x y p, f__law_mul [fr a b, fr c d] [] = .ok (fr x y) [] ∧ FrB (m + n) x y ∧ Low (a * c) (b * d) x y p := by
  obtain ⟨x, y, p, e, f, l⟩ := lowS (n := m + n) (t := a * c) (b := b * d) (Int.mul_ne_zero A.ne B.ne) (nat_mul A.sx B.sx) (nat_mul A.sy B.sy) (by omega)
  have sA := A.S (by omega)
  have sB := B.S (by omega)
  refine ⟨x, y, p, run_ret (S' := []) ?_ (gnd_fr _ _), f, l⟩
  have := lowC e (aCons (eOp oMul (eOp oIx (eVar 0) (eC (.int 0))) (eOp oIx (eVar 1) (eC (.int 0)))) (aCons (eOp oMul (eOp oIx (eVar 0) (eC (.int 1))) (eOp oIx (eVar 1) (eC (.int 1)))) aNil)) [some (fr a b), some (fr c d)] [] [] (by simp [mulS sA.sx.sz sB.sx.sz, mulS sA.sy.sz sB.sy.sz])
  simp -implicitDefEqProofs [b__law_mul, Den.start, this]
end
/-! ### points -/
structure Pt (n : Nat) (a b c d : Int) : Prop where
  x : FrB n a b
  y : FrB n c d
theorem Pt.mono {n m : Nat} {a b c d : Int} (h : Pt n a b c d) (l : n ≤ m) : Pt m a b c d := ⟨h.x.mono l, h.y.mono l⟩
def IsPt (n : Nat) (p : D) : Prop := ∃ a b c d, p = pt a b c d ∧ Pt n a b c d
theorem IsPt.mono {n m : Nat} {p : D} (h : IsPt n p) (l : n ≤ m) : IsPt m p := by
  obtain ⟨a, b, c, d, e, h⟩ := h
  exact ⟨a, b, c, d, e, h.mono l⟩
theorem IsPt.gnd {n : Nat} {p : D} (h : IsPt n p) : gnd p = true := by
  obtain ⟨a, b, c, d, rfl, h⟩ := h
  exact gnd_pt _ _ _ _
theorem plus_pt {m n : Nat} {p q : D} (hp : IsPt m p) (hq : IsPt n q) (hm : m ≤ 1390) (hn : n ≤ 1390) : ∃ r, f__law_plus [p, q] [] = .ok r [] ∧ IsPt (m + n + 1) r := by
  obtain ⟨a, b, c, d, rfl, hp⟩ := hp
  obtain ⟨e, f, g, h, rfl, hq⟩ := hq
  obtain ⟨x, y, _, e1, f1, _⟩ := ladd_ok hp.x hq.x hm hn
  obtain ⟨u, v, _, e2, f2, _⟩ := ladd_ok hp.y hq.y hm hn
  refine ⟨pt x y u v, run_ret (S' := []) ?_ (gnd_pt _ _ _ _), x, y, u, v, rfl, f1, f2⟩
  have c1 := call2f e1 (eOp oIx (eVar 0) (eC (.int 0))) (eOp oIx (eVar 1) (eC (.int 0))) [some (pt a b c d), some (pt e f g h)] [] (by simp) (by simp)
  have c2 := call2f e2 (eOp oIx (eVar 0) (eC (.int 1))) (eOp oIx (eVar 1) (eC (.int 1))) [some (pt a b c d), some (pt e f g h)] [] (by simp) (by simp)
  simp -implicitDefEqProofs [b__law_plus, Den.start, c1, c2]
theorem lminus_ok {m n : Nat} {a b c d e f g h : Int} (hp : Pt m a b c d) (hq : Pt n e f g h) (hm : m ≤ 1390) (hn : n ≤ 1390) : ∃ x y p u v q, f__law_minus [pt a b c d, pt e f g h] [] = .ok (pt x y u v) [] ∧ Pt (m + n + 1) x y u v ∧ Low (a * f - e * b) (b * f) x y p ∧ Low (c * h - g * d) (d * h) u v q := by
  obtain ⟨x, y, p, e1, f1, l1⟩ := lsub_ok hp.x hq.x hm hn
  obtain ⟨u, v, q, e2, f2, l2⟩ := lsub_ok hp.y hq.y hm hn
  refine ⟨x, y, p, u, v, q, run_ret (S' := []) ?_ (gnd_pt _ _ _ _), ⟨f1, f2⟩, l1, l2⟩
  have c1 := call2f e1 (eOp oIx (eVar 0) (eC (.int 0))) (eOp oIx (eVar 1) (eC (.int 0))) [some (pt a b c d), some (pt e f g h)] [] (by simp) (by simp)
  have c2 := call2f e2 (eOp oIx (eVar 0) (eC (.int 1))) (eOp oIx (eVar 1) (eC (.int 1))) [some (pt a b c d), some (pt e f g h)] [] (by simp) (by simp)
  simp -implicitDefEqProofs [b__law_minus, Den.start, c1, c2]
theorem minus_pt {m n : Nat} {p q : D} (hp : IsPt m p) (hq : IsPt n q) (hm : m ≤ 1390) (hn : n ≤ 1390) : ∃ r, f__law_minus [p, q] [] = .ok r [] ∧ IsPt (m + n + 1) r := by
  obtain ⟨a, b, c, d, rfl, hp⟩ := hp
  obtain ⟨e, f, g, h, rfl, hq⟩ := hq
  obtain ⟨x, y, _, u, v, _, e, f, _⟩ := lminus_ok hp hq hm hn
  exact ⟨_, e, x, y, u, v, rfl, f⟩
theorem times_pt {m n : Nat} {p : D} {e f : Int} (hp : IsPt m p) (hq : FrB n e f) (hm : m ≤ 1390) (hn : n ≤ 1390) : ∃ r, f__law_times [p, fr e f] [] = .ok r [] ∧ IsPt (m + n) r := by
  obtain ⟨a, b, c, d, rfl, hp⟩ := hp
  obtain ⟨x, y, _, e1, f1, _⟩ := lmul_ok hp.x hq hm hn
  obtain ⟨u, v, _, e2, f2, _⟩ := lmul_ok hp.y hq hm hn
  refine ⟨pt x y u v, run_ret (S' := []) ?_ (gnd_pt _ _ _ _), x, y, u, v, rfl, f1, f2⟩
  have c1 := call2f e1 (eOp oIx (eVar 0) (eC (.int 0))) (eVar 1) [some (pt a b c d), some (fr e f)] [] (by simp) (by simp)
  have c2 := call2f e2 (eOp oIx (eVar 0) (eC (.int 1))) (eVar 1) [some (pt a b c d), some (fr e f)] [] (by simp) (by simp)
  simp -implicitDefEqProofs [b__law_times, Den.start, c1, c2]
theorem ray_pt {u v : Int} (h : FrB 8 u v) : ∃ r, f__law_ray [fr u v] [] = .ok r [] ∧ IsPt 20 r := by
  have sh := h.S (by decide)
  have p1 : 0 ≤ u * u := by
    rcases Int.le_total 0 u with z | z
    · exact Int.mul_nonneg z z
    · have := Int.mul_nonneg (show 0 ≤ -u by omega) (show 0 ≤ -u by omega)
      rwa [Int.neg_mul_neg] at this
  have p2 : 1 ≤ v * v := one_le_mul h.pos h.pos
  have b1 : (u * u).natAbs < 2 ^ 16 := nat_mul h.sx h.sx
  have b2 : (v * v).natAbs < 2 ^ 16 := nat_mul h.sy h.sy
  have b3 : (2 * u * v).natAbs < 2 ^ 19 := nat_mul (a := 11) (b := 8) (nat_mul (a := 3) (b := 8) (by decide) h.sx) h.sy
  obtain ⟨x, y, _, e1, f1, _⟩ := lowS (n := 20) (t := v * v - u * u) (b := v * v + u * u) (by omega) (by omega) (by omega) (by decide)
  obtain ⟨z, w, _, e2, f2, _⟩ := lowS (n := 20) (t := 2 * u * v) (b := v * v + u * u) (by omega) (by omega) (by omega) (by decide)
  refine ⟨pt x y z w, run_ret (S' := []) ?_ (gnd_pt _ _ _ _), x, y, z, w, rfl, f1, f2⟩
  have c1 := lowC e1 (aCons (eOp oSub (eVar 2) (eVar 1)) (aCons (eOp oAdd (eVar 2) (eVar 1)) aNil)) [some (fr u v), some (.int (u * u)), some (.int (v * v))] [] [] (by simp)
  have m1 := mulS (x := 2) (y := u) (Sz.of (n := 3) (by decide)) sh.sx.sz
  have m2 := mulS (x := 2 * u) (y := v) (Sz.of (n := 11) (nat_mul (a := 3) (b := 8) (by decide) h.sx)) sh.sy.sz
  have c2 := lowC e2 (aCons (eOp oMul (eOp oMul (eC (.int 2)) (eOp oIx (eVar 0) (eC (.int 0)))) (eOp oIx (eVar 0) (eC (.int 1)))) (aCons (eOp oAdd (eVar 2) (eVar 1)) aNil)) [some (fr u v), some (.int (u * u)), some (.int (v * v))] [] [] (by simp [m1, m2])
  simp -implicitDefEqProofs [b__law_ray, Den.start, mulS sh.sx.sz sh.sx.sz, mulS sh.sy.sz sh.sy.sz, c1, c2]
theorem slope_ok {n : Nat} {xs : List D} (h : Str n xs) (hn : n < 10000000) : ∃ x y ys, f__law_slope [.obj 0, .int 30] [.lst xs] = .ok (fr x y) [.lst ys] ∧ Str (n + 2) ys ∧ FrB 8 x y := by
  obtain ⟨t, x1, _, e1, s1, r1, r1'⟩ := takeE h 30 (by decide) (by decide) (by omega)
  obtain ⟨b, x2, _, e2, s2, r2, r2'⟩ := takeE s1 30 (by decide) (by decide) (by omega)
  obtain ⟨x, y, _, e, f, _⟩ := lowS (n := 8) (t := 1 + t) (b := 1 + b) (by omega) (by omega) (by omega) (by decide)
  have c1 := e1 0 (eVar 1) [some (.obj 0), some (.int 30), none] [.lst xs] rfl rfl rfl
  have c2 := e2 0 (eVar 1) [some (.obj 0), some (.int 30), some (.int (1 + t))] [.lst x1] rfl rfl rfl
  have c : eCall f__law_low (aCons (eVar 2) (aCons (eOp oAdd (eC (.int 1)) (eCallM f__law_take (aCons (eVar 0) (aCons (eVar 1) aNil)))) aNil)) [some (.obj 0), some (.int 30), some (.int (1 + t))] [.lst x1] = .ok (fr x y) [.lst x2] := lowC e _ _ _ _ (by simp [c2])
  refine ⟨x, y, x2, run_ret1 (S' := []) ?_ (gnd_fr _ _) s2.gnd, s2, f⟩
  simp -implicitDefEqProofs [b__law_slope, Den.start, c1, c]
theorem tame_ok {n : Nat} {xs : List D} (h : Str n xs) (hn : n < 10000000) : ∃ x y ys, f__law_tame [.obj 0] [.lst xs] = .ok (fr x y) [.lst ys] ∧ Str (n + 2) ys ∧ FrB 6 x y := by
  obtain ⟨t, x1, e1, _, s1, r1, r1'⟩ := takeE h 41 (by decide) (by decide) (by omega)
  obtain ⟨b, x2, e2, _, s2, r2, r2'⟩ := takeE s1 5 (by decide) (by decide) (by omega)
  obtain ⟨x, y, _, e, f, _⟩ := lowS (n := 6) (t := t - 20) (b := 1 + b) (by omega) (by omega) (by omega) (by decide)
  have c := lowC e (aCons (eVar 1) (aCons (eOp oAdd (eC (.int 1)) (eCallM f__law_take (aCons (eVar 0) (aCons (eC (.int 5)) aNil)))) aNil)) [some (.obj 0), some (.int (t - 20))] [.lst x1] [.lst x2] (by simp [e2])
  refine ⟨x, y, x2, run_ret1 (S' := []) ?_ (gnd_fr _ _) s2.gnd, s2, f⟩
  simp -implicitDefEqProofs [b__law_tame, Den.start, e1, c]
theorem frac_ok {n : Nat} {xs : List D} (h : Str n xs) (hn : n < 10000000) : ∃ x y ys, f__law_fraction [.obj 0] [.lst xs] = .ok (fr x y) [.lst ys] ∧ Str (n + 10) ys ∧ FrB 130 x y := by
  obtain ⟨x, y, ys, e, s, f, lx, ly⟩ := fraction_ok h hn
  exact ⟨x, y, ys, e, s, f.pos, f.one, lx, ly⟩
theorem point_ok {n : Nat} {xs : List D} (h : Str n xs) (hn : n < 1000000) : ∃ p ys, f__law_point [.obj 0] [.lst xs] = .ok p [.lst ys] ∧ Str (n + 21) ys ∧ IsPt 130 p := by
  obtain ⟨t, x1, e1, _, s1, r1, r1'⟩ := takeE h 5 (by decide) (by decide) (by omega)
  by_cases z : t = 0
  · obtain ⟨a, b, x2, e2, s2, f2⟩ := frac_ok s1 (by omega)
    obtain ⟨c, d, x3, e3, s3, f3⟩ := frac_ok s2 (by omega)
    have e2 := strE e2 s1.gnd s2.gnd
    have e3 := strE e3 s2.gnd s3.gnd
    refine ⟨pt a b c d, x3, run_ret1 (S' := []) ?_ (gnd_pt _ _ _ _) s3.gnd, s3.mono (by omega), a, b, c, d, rfl, f2, f3⟩
    simp -implicitDefEqProofs [b__law_point, Den.start, e1, z, e2, e3]
  · obtain ⟨a, b, x2, e2, s2, f2⟩ := tame_ok s1 (by omega)
    obtain ⟨c, d, x3, e3, s3, f3⟩ := tame_ok s2 (by omega)
    have e2 := strE e2 s1.gnd s2.gnd
    have e3 := strE e3 s2.gnd s3.gnd
    refine ⟨pt a b c d, x3, run_ret1 (S' := []) ?_ (gnd_pt _ _ _ _) s3.gnd, s3.mono (by omega), a, b, c, d, rfl, f2.mono (by decide), f3.mono (by decide)⟩
    simp -implicitDefEqProofs [b__law_point, Den.start, e1, z, e2, e3]
/-! ### what is a point -/
def isPt : D → Bool
  | .tup [x, y] => isFr x && isFr y
  | _ => false
def BotP : D → Prop
  | .tup [x, y] => Bot x ∧ Bot y
  | _ => True
theorem point_test {F G : Fn} (hF : ∀ d, gnd d = true → Bot d → F [d] [] = .ok (.bl (isFr d)) []) (d : D) (g : gnd d = true) (hb : BotP d) : run 1 0 (sRet (eAnd (eIsK [.tuple] (eVar 0)) (eAnd (eOp oEq (eUn oLen (eVar 0)) (eC (.int 2))) (eAnd (eCall F (aCons (eOp oIx (eVar 0) (eC (.int 0))) aNil)) (eCall F (aCons (eOp oIx (eVar 0) (eC (.int 1))) aNil)))))) [d] [] = .ok (.bl (isPt d)) [] := by
  refine run_ret (S' := []) ?_ rfl
  cases d with
  | tup xs =>
    match xs, g, hb with
    | [], _, _ => simp [Den.start, isK, isPt]
    | [a], _, _ => simp [Den.start, isK, isPt]
    | a :: b :: c :: r, _, _ =>
      have : ¬ ((r.length : Int) + 1 + 1 + 1 = 2) := by omega
      simp [Den.start, isK, isPt, this]
    | [a, b], g, hb =>
      have g' : gnd a = true ∧ gnd b = true := by simpa [Den.gnd, gnds] using g
      have c1 : eCall F (aCons (eOp oIx (eVar 0) (eC (.int 0))) aNil) [some (.tup [a, b])] [] = .ok (.bl (isFr a)) [] := call1 (hF a g'.1 hb.1) g'.1 _ _ _ (by simp)
      have c2 : eCall F (aCons (eOp oIx (eVar 0) (eC (.int 1))) aNil) [some (.tup [a, b])] [] = .ok (.bl (isFr b)) [] := call1 (hF b g'.2 hb.2) g'.2 _ _ _ (by simp)
      cases ha : isFr a
      · simp -implicitDefEqProofs [Den.start, isK, isPt, c1, ha]
      · simp -implicitDefEqProofs [Den.start, isK, isPt, c1, ha, c2]
  | _ => simp [Den.start, isK, isPt]
theorem is_point_ok (d : D) (g : gnd d = true) (hb : BotP d) : f_is_point [d] [] = .ok (.bl (isPt d)) [] := point_test (G := f_is_point) is_fraction_ok d g hb
theorem law_is_point_ok (d : D) (g : gnd d = true) (hb : BotP d) : f__law_is_point [d] [] = .ok (.bl (isPt d)) [] := point_test (G := f_is_point) law_is_frac_all d g hb
/-- a point, or none -/
def Bad (d : D) : Prop := gnd d = true ∧ isPt d = false ∧ BotP d
def Arg (d : D) : Prop := Bad d ∨ IsPt 130 d
theorem Arg.gnd {d : D} (h : Arg d) : gnd d = true := by
  rcases h with h | h
  · exact h.1
  · exact h.gnd
theorem IsPt.is {n : Nat} {d : D} (h : IsPt n d) : isPt d = true := by
  obtain ⟨a, b, c, e, rfl, h⟩ := h
  show (isFr (fr a b) && isFr (fr c e)) = true
  rw [isFr_fr.2 ⟨h.x.pos, h.x.one⟩, isFr_fr.2 ⟨h.y.pos, h.y.one⟩]
  rfl
theorem Arg.bot {d : D} (h : Arg d) : BotP d := by
  rcases h with h | ⟨a, b, c, e, rfl, h⟩
  · exact h.2.2
  · exact ⟨(h.x.S (by decide)).sy.sz, (h.y.S (by decide)).sy.sz⟩
theorem no_point_ok {n : Nat} {xs : List D} (h : Str n xs) (hn : n < 100000000) : ∃ d ys, f__law_no_point [.obj 0] [.lst xs] = .ok d [.lst ys] ∧ Str (n + 1) ys ∧ Bad d := by
  obtain ⟨t, x1, _, e1, s1, r1, r1'⟩ := takeE h 18 (by decide) (by decide) (by omega)
  have hd := ixAt_all (P := Bad) (xs := [.non, .bl true, .int 5, .str (Str.ofString "p"), .lst [], .tup [], .tup [.tup [.int 0, .int 1]], .tup [.tup [.int 0, .int 1], .tup [.int 1, .int 2], .tup [.int 0, .int 1]], .lst [.tup [.int 0, .int 1], .tup [.int 1, .int 1]], .tup [.tup [.int 0, .int 1], .tup [.int 2, .int 4]], .tup [.int 0, .int 1], .tup [.tup [.int 0, .int 1], .tup [.int 1, .int 0]], .tup [.tup [.int 0, .int 1], .lst [.int 1, .int 1]], .tup [.tup [.bl true, .int 1], .tup [.int 0, .int 1]], .tup [.tup [.int 1, .int 1], .non], .dct [] [], .tup [.tup [.int 3, .int (-1)], .tup [.int 0, .int 1]], .tup [.int 1, .tup [.int 0, .int 1]]]) (i := t) (by
    have z : ∀ k : Int, k.natAbs < 2 ^ 3 → Sz k := fun k h => Sz.of h
    have z1 := z 1 (by decide)
    simp only [List.forall_mem_cons, Bad]
    refine ⟨⟨rfl, rfl, trivial⟩, ⟨rfl, rfl, trivial⟩, ⟨rfl, rfl, trivial⟩, ⟨rfl, rfl, trivial⟩, ⟨rfl, rfl, trivial⟩, ⟨rfl, rfl, trivial⟩, ⟨rfl, rfl, trivial⟩, ⟨rfl, rfl, trivial⟩, ⟨rfl, rfl, trivial⟩, ⟨rfl, by decide, z1, z _ (by decide)⟩, ⟨rfl, rfl, trivial, trivial⟩, ⟨rfl, by decide, z1, z _ (by decide)⟩, ⟨rfl, by decide, z1, trivial⟩, ⟨rfl, by decide, trivial, z1⟩, ⟨rfl, by decide, z1, trivial⟩, ⟨rfl, rfl, trivial⟩, ⟨rfl, by decide, z _ (by decide), z1⟩, ⟨rfl, by decide, trivial, z1⟩, ?_⟩
    intro x hx
    cases hx) r1 (by simp; omega)
  obtain ⟨d, hd, bd⟩ := hd
  refine ⟨d, x1, run_ret1 (S' := []) ?_ bd.1 s1.gnd, s1, bd⟩
  have c : ∀ (ρ : Den.Env) (S : Sto), ρ[0]? = some (some (.obj 0)) → S[0]? = some (.lst xs) → ρ[1]? = some (some (.lst [.non, .bl true, .int 5, .str (Str.ofString "p"), .lst [], .tup [], .tup [.tup [.int 0, .int 1]], .tup [.tup [.int 0, .int 1], .tup [.int 1, .int 2], .tup [.int 0, .int 1]], .lst [.tup [.int 0, .int 1], .tup [.int 1, .int 1]], .tup [.tup [.int 0, .int 1], .tup [.int 2, .int 4]], .tup [.int 0, .int 1], .tup [.tup [.int 0, .int 1], .tup [.int 1, .int 0]], .tup [.tup [.int 0, .int 1], .lst [.int 1, .int 1]], .tup [.tup [.bl true, .int 1], .tup [.int 0, .int 1]], .tup [.tup [.int 1, .int 1], .non], .dct [] [], .tup [.tup [.int 3, .int (-1)], .tup [.int 0, .int 1]], .tup [.int 1, .tup [.int 0, .int 1]]])) →
      eCallM f__law_take (aCons (eVar 0) (aCons (eUn oLen (eVar 1)) aNil)) ρ S = .ok (.int t) (S.set 0 (.lst x1)) := fun ρ S q1 q2 q3 => e1 0 _ ρ S q1 q2 (by simp [q3])
  unfold b__law_no_point
  simp -implicitDefEqProofs [Den.start, c, hd, oCat]
/-! ### three points -/
theorem ev {F : Fn} {x y r : D} (e : F [x, y] [] = .ok r []) (gx : gnd x = true) (gy : gnd y = true) (p q : DE) (ρ : Den.Env) (S S1 S2 : Sto) (h1 : p ρ S = .ok x S1) (h2 : q ρ S1 = .ok y S2) : eCall F (aCons p (aCons q aNil)) ρ S = .ok r S2 :=
  call_ok (S1 := S2) (ds := [x, y]) (by simp [h1, h2]) (by simp [gnds, gx, gy]) e
theorem pts3 : ∀ (ks : List D) (ρ : Den.Env) (n : Nat) (xs : List D), ρ[0]? = some (some (.obj 0)) → Str n xs → n + 30 * ks.length < 100000 → ∃ R ys, compL (gName 8) tYes (eCallM f__law_point (aCons (eVar 0) aNil)) ks ρ [.lst xs] = .ok R [.lst ys] ∧ R.length = ks.length ∧ (∀ d ∈ R, IsPt 130 d) ∧ Str (n + 21 * ks.length) ys
  | [], ρ, n, xs, _, h, _ => ⟨[], xs, rfl, rfl, by simp, h⟩
  | k :: ks, ρ, n, xs, h0, h, hn => by
    rw [List.length_cons] at hn
    obtain ⟨p, x5, e5, s5, hp⟩ := point_ok h (by omega)
    have e5 := strE e5 h.gnd s5.gnd
    obtain ⟨R, ys, ih, hl, hr, hs⟩ := pts3 ks ρ _ x5 h0 s5 (by omega)
    refine ⟨p :: R, ys, ?_, by simp [hl], ?_, hs.mono (by rw [List.length_cons]; omega)⟩
    · have h0' : (ρ.set 8 (some k))[0]? = some (some (.obj 0)) := by
        rw [List.getElem?_set_ne (by decide)]
        exact h0
      simp -implicitDefEqProofs [compL, e5 0 _ [.lst xs] h0' rfl, ih]
    · intro d hd
      rcases List.mem_cons.1 hd with z | z
      · rw [z]; exact hp
      · exact hr d z
/-- three points in the store -/
def Tri (n : Nat) (S : Sto) : Prop := ∃ xs p q r, S = [.lst xs, .lst [p, q, r]] ∧ Str n xs ∧ Arg p ∧ Arg q ∧ Arg r
theorem run_retO {n : Nat} {b : DS} {ds : List D} {xs R ys : List D} (h : b (Den.start n ds) [.lst xs] = .rt (.obj 1) [.lst ys, .lst R]) (g : gnds R = true) (gy : gnds ys = true) : run n 1 b ds [.lst xs] = .ok (.lst R) [.lst ys] := by
  unfold Den.run
  rw [if_pos (show [MO.lst xs].length = 1 from rfl), h]
  simp [fin, grndF, Den.gnd, g, mGnd, gy]
theorem triple_ok {n : Nat} {xs : List D} (h : Str n xs) (hn : n < 10000) : ∃ p q r ys, f__law_triple [.obj 0] [.lst xs] = .ok (.lst [p, q, r]) [.lst ys] ∧ Str (n + 120) ys ∧ Arg p ∧ Arg q ∧ Arg r := by
  obtain ⟨sp, x1, e1, _, s1, r1, r1'⟩ := takeE h 12 (by decide) (by decide) (by omega)
  obtain ⟨sc, x2, e2, _, s2, r2, r2'⟩ := takeE s1 3 (by decide) (by decide) (by omega)
  obtain ⟨th, x3, e3, _, s3, r3, r3'⟩ := takeE s2 5 (by decide) (by decide) (by omega)
  obtain ⟨R, x4, ec, hl, hr, s4⟩ := pts3 (rangeD 0 3) [some (.obj 0), some (.int sp), some (.int sc), some (.int th), none, none, none, none, none] _ x3 rfl s3 (by show _ + 30 * 3 < 100000; omega)
  have s4 : Str (n + 1 + 1 + 1 + 63) x4 := s4
  obtain ⟨na, nb, x5, e5, s5, f5⟩ := tame_ok s4 (by omega)
  obtain ⟨nc, nd, x6, e6, s6, f6⟩ := tame_ok s5 (by omega)
  have e5 := strE e5 s4.gnd s5.gnd
  have e6 := strE e6 s5.gnd s6.gnd
  obtain ⟨t7, x7, e7, _, s7, r7, r7'⟩ := takeE s6 41 (by decide) (by decide) (by omega)
  obtain ⟨t8, x8, e8, _, s8, r8, r8'⟩ := takeE s7 20 (by decide) (by decide) (by omega)
  obtain ⟨su, sv, _, el, fl, _⟩ := lowS (n := 8) (t := t7 - 20) (b := 1 + t8) (by omega) (by omega) (by omega) (by decide)
  obtain ⟨p0, q0, w0, rfl⟩ : ∃ p q r, R = [p, q, r] := by
    match R, hl with
    | [p, q, r], _ => exact ⟨p, q, r, rfl⟩
  have hp0 : Arg p0 := .inr (hr p0 (by simp))
  have hq0 : Arg q0 := .inr (hr q0 (by simp))
  have hw0 : Arg w0 := .inr (hr w0 (by simp))
  have pl : IsPt 6 (pt na nb nc nd) := ⟨_, _, _, _, rfl, f5, f6⟩
  have apl : Arg (pt na nb nc nd) := .inr (pl.mono (by decide))
  generalize hE : ([some (.obj 0), some (.int sp), some (.int sc), some (.int th), some (.obj 1), some (fr na nb), some (pt na nb nc nd), some (fr su sv), none] : Den.Env) = E
  have cc : eComp true [8] (Den.iRng1 (eC (.int 3))) (gName 8) tYes (eCallM f__law_point (aCons (eVar 0) aNil)) [some (.obj 0), some (.int sp), some (.int sc), some (.int th), none, none, none, none, none] [.lst x3] = .ok (.obj 1) [.lst x4, .lst [p0, q0, w0]] := by
    unfold eComp
    simp -implicitDefEqProofs [iRng1, small62, wipe, ec]
    decide
  have cl := lowC el (aCons (eOp oSub (eCallM f__law_take (aCons (eVar 0) (aCons (eC (.int 41)) aNil))) (eC (.int 20))) (aCons (eOp oAdd (eC (.int 1)) (eCallM f__law_take (aCons (eVar 0) (aCons (eC (.int 20)) aNil)))) aNil)) [some (.obj 0), some (.int sp), some (.int sc), some (.int th), some (.obj 1), some (fr na nb), some (pt na nb nc nd), none, none] [.lst x6, .lst [p0, q0, w0]] [.lst x8, .lst [p0, q0, w0]] (by simp [e7, e8])
  have pre : ∀ t : DS, (sSeq (sSet 1 (eCallM f__law_take (aCons (eVar 0) (aCons (eC (.int 12)) aNil))))
  (sSeq (sSet 2 (eCallM f__law_take (aCons (eVar 0) (aCons (eC (.int 3)) aNil))))
  (sSeq (sSet 3 (eCallM f__law_take (aCons (eVar 0) (aCons (eC (.int 5)) aNil))))
  (sSeq (sSet 4 (eComp true [8] (Den.iRng1 (eC (.int 3))) (gName 8) tYes (eCallM f__law_point (aCons (eVar 0) aNil))))
  (sSeq (sSet 5 (eCallM f__law_tame (aCons (eVar 0) aNil)))
  (sSeq (sSet 6 (eTup (aCons (eVar 5) (aCons (eCallM f__law_tame (aCons (eVar 0) aNil)) aNil))))
  (sSeq (sSet 7 (eCall f__law_low (aCons (eOp oSub (eCallM f__law_take (aCons (eVar 0) (aCons (eC (.int 41)) aNil))) (eC (.int 20))) (aCons (eOp oAdd (eC (.int 1)) (eCallM f__law_take (aCons (eVar 0) (aCons (eC (.int 20)) aNil)))) aNil)))) t))))))) (Den.start 9 [.obj 0]) [.lst xs] = t E [.lst x8, .lst [p0, q0, w0]] := fun t => by
    rw [← hE]
    simp -implicitDefEqProofs [Den.start, e1, e2, e3, cc, e5, e6, cl]
  have key1 : ∀ (m : Nat) (S : Sto), Tri m S → m < 20000 → ∃ S', Tri (m + 2) S' ∧ ∀ t : DS, (sSeq (sIf (tVal (eOp oEq (eVar 2) (eC (.int 0))))
  (sSeq (sSetIx (eVar 4) (eC (.int 0)) (eVar 6))
  (sSetIx (eVar 4) (eC (.int 1)) (eCall f__law_plus (aCons (eVar 6) (aCons (eCall f__law_times (aCons (eCall f__law_ray (aCons (eVar 7) aNil)) (aCons (eCallM f__law_slope (aCons (eVar 0) (aCons (eC (.int 30)) aNil))) aNil))) aNil)))))
  sNext) t) E S = t E S' := by
    rintro m _ ⟨ys, p, q, r, rfl, hs, ap, aq, ar⟩ hm
    rw [← hE]
    by_cases z : sc = 0
    · obtain ⟨ry, er, hy⟩ := ray_pt fl
      obtain ⟨a, b, zs, es, hz, fs⟩ := slope_ok hs (by omega)
      obtain ⟨u, eu, hu⟩ := times_pt hy fs (by decide) (by decide)
      obtain ⟨v, ev', hv⟩ := plus_pt pl hu (by decide) (by decide)
      refine ⟨_, ⟨zs, pt na nb nc nd, v, r, rfl, hz, apl, .inr (hv.mono (by decide)), ar⟩, fun t => ?_⟩
      have c1 : ∀ (ρ : Den.Env) (S : Sto), ρ[7]? = some (some (fr su sv)) → eCall f__law_ray (aCons (eVar 7) aNil) ρ S = .ok ry S := fun ρ S h0 => call1 er (gnd_fr _ _) _ ρ S (vE h0)
      have c2 : ∀ (ρ : Den.Env) (S : Sto), ρ[0]? = some (some (.obj 0)) → S[0]? = some (.lst ys) → eCallM f__law_slope (aCons (eVar 0) (aCons (eC (.int 30)) aNil)) ρ S = .ok (fr a b) (S.set 0 (.lst zs)) := fun ρ S q1 q2 => callM_ok (S1 := S) (ds := [.int 30]) (by simp [q1]) rfl q2 hs.gnd es hz.gnd
      have c3 : ∀ (ρ : Den.Env) (S : Sto), ρ[0]? = some (some (.obj 0)) → ρ[7]? = some (some (fr su sv)) → S[0]? = some (.lst ys) → eCall f__law_times (aCons (eCall f__law_ray (aCons (eVar 7) aNil)) (aCons (eCallM f__law_slope (aCons (eVar 0) (aCons (eC (.int 30)) aNil))) aNil)) ρ S = .ok u (S.set 0 (.lst zs)) := fun ρ S q0 q7 q1 => ev eu hy.gnd (gnd_fr _ _) _ _ ρ S S _ (c1 ρ S q7) (c2 ρ S q0 q1)
      have c4 : ∀ (ρ : Den.Env) (S : Sto), ρ[0]? = some (some (.obj 0)) → ρ[6]? = some (some (pt na nb nc nd)) → ρ[7]? = some (some (fr su sv)) → S[0]? = some (.lst ys) → eCall f__law_plus (aCons (eVar 6) (aCons (eCall f__law_times (aCons (eCall f__law_ray (aCons (eVar 7) aNil)) (aCons (eCallM f__law_slope (aCons (eVar 0) (aCons (eC (.int 30)) aNil))) aNil))) aNil)) ρ S = .ok v (S.set 0 (.lst zs)) := fun ρ S q0 q6 q7 q1 => ev ev' (gnd_pt _ _ _ _) hu.gnd _ _ ρ S S _ (vE q6) (c3 ρ S q0 q7 q1)
      simp -implicitDefEqProofs [z, c4]
    · exact ⟨_, ⟨ys, p, q, r, rfl, hs.mono (by omega), ap, aq, ar⟩, fun t => by simp -implicitDefEqProofs [z]⟩
  have key2 : ∀ (m : Nat) (S : Sto), Tri m S → m < 20000 → ∃ S', Tri (m + 4) S' ∧ ∀ t : DS, (sSeq (sIf (tVal (eOp oEq (eVar 3) (eC (.int 0))))
  (sSeq (sSetIx (eVar 4) (eC (.int 0)) (eVar 6))
  (sSeq (sSetIx (eVar 4) (eC (.int 1)) (eTup (aCons (eCallM f__law_tame (aCons (eVar 0) aNil)) (aCons (eVar 5) aNil))))
  (sSetIx (eVar 4) (eC (.int 2)) (eCall f__law_plus (aCons (eVar 6) (aCons (eCall f__law_times (aCons (eCall f__law_minus (aCons (eOp oIx (eVar 4) (eC (.int 1))) (aCons (eVar 6) aNil))) (aCons (eCallM f__law_tame (aCons (eVar 0) aNil)) aNil))) aNil))))))
  sNext) t) E S = t E S' := by
    rintro m _ ⟨ys, p, q, r, rfl, hs, ap, aq, ar⟩ hm
    rw [← hE]
    by_cases z : th = 0
    · obtain ⟨a, b, y1, ea, ha, fa⟩ := tame_ok hs (by omega)
      have ea := strE ea hs.gnd ha.gnd
      have hp1 : IsPt 6 (pt a b na nb) := ⟨_, _, _, _, rfl, fa, f5⟩
      obtain ⟨d, ed, hd⟩ := minus_pt hp1 pl (by decide) (by decide)
      obtain ⟨c, e, y2, eb, hb, fb⟩ := tame_ok ha (by omega)
      have eb := strE eb ha.gnd hb.gnd
      obtain ⟨u, eu, hu⟩ := times_pt hd fb (by decide) (by decide)
      obtain ⟨v, ev', hv⟩ := plus_pt pl hu (by decide) (by decide)
      refine ⟨_, ⟨y2, pt na nb nc nd, pt a b na nb, v, rfl, hb, apl, .inr (hp1.mono (by decide)), .inr (hv.mono (by decide))⟩, fun t => ?_⟩
      have c4 : eCall f__law_plus (aCons (eVar 6) (aCons (eCall f__law_times (aCons (eCall f__law_minus (aCons (eOp oIx (eVar 4) (eC (.int 1))) (aCons (eVar 6) aNil))) (aCons (eCallM f__law_tame (aCons (eVar 0) aNil)) aNil))) aNil)) [some (.obj 0), some (.int sp), some (.int sc), some (.int th), some (.obj 1), some (fr na nb), some (pt na nb nc nd), some (fr su sv), none] [.lst y1, .lst [pt na nb nc nd, pt a b na nb, r]] = .ok v [.lst y2, .lst [pt na nb nc nd, pt a b na nb, r]] :=
        ev ev' (gnd_pt _ _ _ _) hu.gnd _ _ _ _ _ _ rfl (ev eu hd.gnd (gnd_fr _ _) _ _ _ _ _ _ (ev ed hp1.gnd (gnd_pt _ _ _ _) _ _ _ _ _ _ (by simp; rfl) rfl) (eb 0 _ _ rfl rfl))
      simp -implicitDefEqProofs [z] at c4 ⊢
      simp -implicitDefEqProofs [ea, c4]
    · exact ⟨_, ⟨ys, p, q, r, rfl, hs.mono (by omega), ap, aq, ar⟩, fun t => by simp -implicitDefEqProofs [z]⟩
  have key3 : ∀ (m : Nat) (S : Sto), Tri m S → m < 20000 → ∃ S', Tri (m + 1) S' ∧ ∀ t : DS, (sSeq (sIf (tVal (eOp oEq (eVar 3) (eC (.int 1))))
  (sSetIx (eVar 4) (eC (.int 2)) (eOp oIx (eVar 4) (eCallM f__law_take (aCons (eVar 0) (aCons (eC (.int 2)) aNil)))))
  sNext) t) E S = t E S' := by
    rintro m _ ⟨ys, p, q, r, rfl, hs, ap, aq, ar⟩ hm
    rw [← hE]
    by_cases z : th = 1
    · obtain ⟨t1, y1, e1, _, hs1, g1, g1'⟩ := takeE hs 2 (by decide) (by decide) (by omega)
      obtain ⟨d, hd, ad⟩ := ixAt_all (P := Arg) (xs := [p, q, r]) (i := t1) (by
        intro x hx
        simp at hx
        rcases hx with z | z | z <;> rw [z] <;> assumption) g1 (by simp; omega)
      refine ⟨_, ⟨y1, p, q, d, rfl, hs1, ap, aq, ad⟩, fun t => ?_⟩
      simp -implicitDefEqProofs [z, e1, hd]
    · exact ⟨_, ⟨ys, p, q, r, rfl, hs.mono (by omega), ap, aq, ar⟩, fun t => by simp -implicitDefEqProofs [z]⟩
  have key4 : ∀ (m : Nat) (S : Sto), Tri m S → m < 20000 → ∃ S', Tri m S' ∧ ∀ t : DS, (sSeq (sIf (tVal (eOp oEq (eVar 3) (eC (.int 2))))
  (sSetIx (eVar 4) (eC (.int 1)) (eOp oIx (eVar 4) (eC (.int 0))))
  sNext) t) E S = t E S' := by
    rintro m _ ⟨ys, p, q, r, rfl, hs, ap, aq, ar⟩ hm
    rw [← hE]
    by_cases z : th = 2
    · exact ⟨_, ⟨ys, p, p, r, rfl, hs, ap, ap, ar⟩, fun t => by simp -implicitDefEqProofs [z]⟩
    · exact ⟨_, ⟨ys, p, q, r, rfl, hs, ap, aq, ar⟩, fun t => by simp -implicitDefEqProofs [z]⟩
  have key5 : ∀ (m : Nat) (S : Sto), Tri m S → m < 20000 → ∃ S', Tri (m + 1) S' ∧ ∀ t : DS, (sSeq (sIf (tVal (eOp oLt (eVar 1) (eC (.int 3))))
  (sSetIx (eVar 4) (eVar 1) (eCallM f__law_no_point (aCons (eVar 0) aNil)))
  sNext) t) E S = t E S' := by
    rintro m _ ⟨ys, p, q, r, rfl, hs, ap, aq, ar⟩ hm
    rw [← hE]
    obtain ⟨d, y1, e1, hs1, bd⟩ := no_point_ok hs (by omega)
    have e1 := strE e1 hs.gnd hs1.gnd
    have ad : Arg d := .inl bd
    by_cases z0 : sp = 0
    · exact ⟨_, ⟨y1, d, q, r, rfl, hs1, ad, aq, ar⟩, fun t => by simp -implicitDefEqProofs [z0, e1]⟩
    by_cases z1 : sp = 1
    · exact ⟨_, ⟨y1, p, d, r, rfl, hs1, ap, ad, ar⟩, fun t => by simp -implicitDefEqProofs [z1, e1]⟩
    by_cases z2 : sp = 2
    · exact ⟨_, ⟨y1, p, q, d, rfl, hs1, ap, aq, ad⟩, fun t => by simp -implicitDefEqProofs [z2, e1]⟩
    have z3 : ¬ sp < 3 := by omega
    exact ⟨_, ⟨ys, p, q, r, rfl, hs.mono (by omega), ap, aq, ar⟩, fun t => by simp -implicitDefEqProofs [z3]⟩
  obtain ⟨S1, t1, k1⟩ := key1 _ _ ⟨x8, p0, q0, w0, rfl, s8, hp0, hq0, hw0⟩ (by omega)
  obtain ⟨S2, t2, k2⟩ := key2 _ _ t1 (by omega)
  obtain ⟨S3, t3, k3⟩ := key3 _ _ t2 (by omega)
  obtain ⟨S4, t4, k4⟩ := key4 _ _ t3 (by omega)
  obtain ⟨S5, t5, k5⟩ := key5 _ _ t4 (by omega)
  obtain ⟨ys, p, q, r, rfl, hs, ap, aq, ar⟩ := t5
  refine ⟨p, q, r, ys, run_retO ?_ (by simp [gnds, ap.gnd, aq.gnd, ar.gnd]) hs.gnd, hs.mono (by omega), ap, aq, ar⟩
  unfold b__law_triple
  rw [pre, k1, k2, k3, k4, k5, ← hE]
  rfl
/-! ### turns -/
def noPt : Exn := ⟨"NoPoint", []⟩
/-- a point as three whole numbers -/
def X1 (a b c d : Int) : Int := a * d
def det (a b c d e f g h k : Int) : Int := a * (e * k - h * f) - b * (d * k - g * f) + c * (d * h - g * e)
section
variable {a b c d : Int} (h : Pt 130 a b c d)
include h
theorem flat_ok : f__law_flat [pt a b c d] [] = .ok (.tup [.int (a * d), .int (c * b), .int (b * d)]) [] := by
  refine run_ret (S' := []) ?_ (by simp [Den.gnd, gnds])
  have hx := h.x.S (by decide)
  have hy := h.y.S (by decide)
  simp -implicitDefEqProofs [b__law_flat, Den.start, mulS hx.sx.sz hy.sy.sz, mulS hy.sx.sz hx.sy.sz, mulS hx.sy.sz hy.sy.sz]
theorem triple3_ok : f_whole_triple [pt a b c d] [] = .ok (.tup [.int (a * d), .int (c * b), .int (b * d)]) [] := by
  refine run_ret (S' := []) ?_ (by simp [Den.gnd, gnds])
  have hx := h.x.S (by decide)
  have hy := h.y.S (by decide)
  simp -implicitDefEqProofs [b_whole_triple, Den.start, gTup, gNames, mulS hx.sx.sz hy.sy.sz, mulS hy.sx.sz hx.sy.sz, mulS hx.sy.sz hy.sy.sz]
theorem flat_sz : (a * d).natAbs < 2 ^ 260 ∧ (c * b).natAbs < 2 ^ 260 ∧ (b * d).natAbs < 2 ^ 260 := ⟨nat_mul (a := 130) (b := 130) h.x.sx h.y.sy, nat_mul (a := 130) (b := 130) h.y.sx h.x.sy, nat_mul (a := 130) (b := 130) h.x.sy h.y.sy⟩
end
theorem mul26 {x y : Int} (hx : x.natAbs < 2 ^ 260) (hy : y.natAbs < 2 ^ 260) (S : Sto) : oMul S (.int x) (.int y) = some (.int (x * y)) := mulS (Sz.of hx) (Sz.of hy) S
theorem mul27 {x y z u v : Int} (hx : x.natAbs < 2 ^ 260) (hy : y.natAbs < 2 ^ 260) (hz : z.natAbs < 2 ^ 260) (hu : u.natAbs < 2 ^ 260) (hv : v.natAbs < 2 ^ 260) (S : Sto) : oMul S (.int x) (.int (y * z - u * v)) = some (.int (x * (y * z - u * v))) := mulS (Sz.of hx) (Sz.of (n := 521) (nat_sub (nat_mul (a := 260) (b := 260) hy hz) (nat_mul (a := 260) (b := 260) hu hv))) S
theorem sgn_if (z : Int) : (if 0 < z then (1 : Int) else 0) - (if z < 0 then 1 else 0) = sgn z := rfl
theorem side_gen {a b c d e f g h k : Int} (ha : a.natAbs < 2 ^ 260) (hb : b.natAbs < 2 ^ 260) (hc : c.natAbs < 2 ^ 260) (hd : d.natAbs < 2 ^ 260) (he : e.natAbs < 2 ^ 260) (hf : f.natAbs < 2 ^ 260) (hg : g.natAbs < 2 ^ 260) (hh : h.natAbs < 2 ^ 260) (hk : k.natAbs < 2 ^ 260) (p q r : D)
    (gp : gnd p = true) (gq : gnd q = true) (gr : gnd r = true)
    (e1 : f__law_flat [p] [] = .ok (.tup [.int a, .int b, .int c]) []) (e2 : f__law_flat [q] [] = .ok (.tup [.int d, .int e, .int f]) []) (e3 : f__law_flat [r] [] = .ok (.tup [.int g, .int h, .int k]) [])
    (t1 : f_whole_triple [p] [] = .ok (.tup [.int a, .int b, .int c]) []) (t2 : f_whole_triple [q] [] = .ok (.tup [.int d, .int e, .int f]) []) (t3 : f_whole_triple [r] [] = .ok (.tup [.int g, .int h, .int k]) []) :
    f__law_side [p, q, r] [] = .ok (.int (sgn (det a b c d e f g h k))) [] ∧ f_side_sign [p, q, r] [] = .ok (.int (sgn (det a b c d e f g h k))) [] := by
  have c1 : ∀ (i : Nat) (ρ : Den.Env) (x : D) (F : Fn) (v : D), gnd x = true → F [x] [] = .ok v [] → ρ[i]? = some (some x) → eCall F (aCons (eVar i) aNil) ρ [] = .ok v [] := fun i ρ x F v gx e h0 => call1 e gx _ _ _ (vE h0)
  have m1 := mul27 ha he hk hh hf
  have m2 := mul27 hb hd hk hg hf
  have m3 := mul27 hc hd hh hg he
  constructor
  · refine run_ret (S' := []) ?_ rfl
    simp -implicitDefEqProofs [b__law_side, Den.start, c1 0 _ p _ _ gp e1, c1 1 _ q _ _ gq e2, c1 2 _ r _ _ gr e3, mul26 he hk, mul26 hh hf, mul26 hd hk, mul26 hg hf, mul26 hd hh, mul26 hg he, m1, m2, m3]
    rfl
  · refine run_ret (S' := []) ?_ rfl
    simp -implicitDefEqProofs [b_side_sign, Den.start, gTup, gNames, c1 0 _ p _ _ gp t1, c1 1 _ q _ _ gq t2, c1 2 _ r _ _ gr t3, mul26 he hk, mul26 hh hf, mul26 hd hk, mul26 hg hf, mul26 hd hh, mul26 hg he, m1, m2, m3]
    rfl
theorem det_rot (a b c d e f g h k : Int) : det d e f g h k a b c = det a b c d e f g h k := by
  unfold det
  grind
theorem det_swap (a b c d e f g h k : Int) : det d e f a b c g h k = -det a b c d e f g h k := by
  unfold det
  grind
/-- which side: the law's and the program's -/
theorem side_ok {p q r : D} (hp : IsPt 130 p) (hq : IsPt 130 q) (hr : IsPt 130 r) : ∃ z, f__law_side [p, q, r] [] = .ok (.int z) [] ∧ f_side_sign [p, q, r] [] = .ok (.int z) [] ∧ f_side_sign [q, r, p] [] = .ok (.int z) [] ∧ f_side_sign [q, p, r] [] = .ok (.int (-z)) [] := by
  obtain ⟨a1, a2, a3, a4, rfl, hp⟩ := hp
  obtain ⟨b1, b2, b3, b4, rfl, hq⟩ := hq
  obtain ⟨c1, c2, c3, c4, rfl, hr⟩ := hr
  obtain ⟨sa, sb, sc⟩ := flat_sz hp
  obtain ⟨sd, se, sf⟩ := flat_sz hq
  obtain ⟨sg, sh, sk⟩ := flat_sz hr
  have G := @side_gen
  obtain ⟨x1, y1⟩ := side_gen sa sb sc sd se sf sg sh sk _ _ _ (gnd_pt _ _ _ _) (gnd_pt _ _ _ _) (gnd_pt _ _ _ _) (flat_ok hp) (flat_ok hq) (flat_ok hr) (triple3_ok hp) (triple3_ok hq) (triple3_ok hr)
  obtain ⟨_, y2⟩ := side_gen sd se sf sg sh sk sa sb sc _ _ _ (gnd_pt _ _ _ _) (gnd_pt _ _ _ _) (gnd_pt _ _ _ _) (flat_ok hq) (flat_ok hr) (flat_ok hp) (triple3_ok hq) (triple3_ok hr) (triple3_ok hp)
  obtain ⟨_, y3⟩ := side_gen sd se sf sa sb sc sg sh sk _ _ _ (gnd_pt _ _ _ _) (gnd_pt _ _ _ _) (gnd_pt _ _ _ _) (flat_ok hq) (flat_ok hp) (flat_ok hr) (triple3_ok hq) (triple3_ok hp) (triple3_ok hr)
  rw [det_rot] at y2
  rw [det_swap, sgn_neg] at y3
  exact ⟨_, x1, y1, y2, y3⟩
theorem ptE (F : Fn) (hF : ∀ d, gnd d = true → BotP d → F [d] [] = .ok (.bl (isPt d)) []) (i : Nat) (ρ : Den.Env) (S : Sto) (d : D) (g : gnd d = true) (b : BotP d) (h0 : ρ[i]? = some (some d)) : eCall F (aCons (eVar i) aNil) ρ S = .ok (.bl (isPt d)) S := call1 (hF d g b) g _ _ _ (vE h0)
theorem turn_bad {p q r : D} (hp : Arg p) (hq : Arg q) (hr : Arg r) (bad : (isPt p && (isPt q && isPt r)) = false) : f_turn_of [p, q, r] [] = .exn noPt [] := by
  refine run_exn (ρ := [some p, some q, some r]) (S' := []) ?_
  have c := ptE f_is_point is_point_ok
  cases h1 : isPt p
  · simp -implicitDefEqProofs [b_turn_of, Den.start, c 0 _ _ p hp.gnd hp.bot, h1, noPt]
  · cases h2 : isPt q
    · simp -implicitDefEqProofs [b_turn_of, Den.start, c 0 _ _ p hp.gnd hp.bot, h1, c 1 _ _ q hq.gnd hq.bot, h2, noPt]
    · have h3 : isPt r = false := by simpa [h1, h2] using bad
      simp -implicitDefEqProofs [b_turn_of, Den.start, c 0 _ _ p hp.gnd hp.bot, h1, c 1 _ _ q hq.gnd hq.bot, h2, c 2 _ _ r hr.gnd hr.bot, h3, noPt]
theorem turn_good {p q r : D} {z : Int} (hp : IsPt 130 p) (hq : IsPt 130 q) (hr : IsPt 130 r) (e : f_side_sign [p, q, r] [] = .ok (.int z) []) : f_turn_of [p, q, r] [] = .ok (.int z) [] := by
  refine run_ret (S' := []) ?_ rfl
  have c := ptE f_is_point is_point_ok
  have ap : Arg p := .inr hp
  have aq : Arg q := .inr hq
  have ar : Arg r := .inr hr
  have c3 : eCall f_side_sign (aCons (eVar 0) (aCons (eVar 1) (aCons (eVar 2) aNil))) [some p, some q, some r] [] = .ok (.int z) [] := call_ok (S1 := []) (ds := [p, q, r]) rfl (by simp [gnds, hp.gnd, hq.gnd, hr.gnd]) e
  simp -implicitDefEqProofs [b_turn_of, Den.start, c 0 _ _ p ap.gnd ap.bot, hp.is, c 1 _ _ q aq.gnd aq.bot, hq.is, c 2 _ _ r ar.gnd ar.bot, hr.is, c3]
theorem call3 {F : Fn} {x y z r : D} (e : F [x, y, z] [] = .ok r []) (g : gnds [x, y, z] = true) (p : DA) (ρ : Den.Env) (S : Sto) (h : p ρ S = .ok [x, y, z] S) : eCall F p ρ S = .ok r S := call_ok (S1 := S) (ds := [x, y, z]) h g e
theorem call3x {F : Fn} {x y z : D} {r : Exn} (e : F [x, y, z] [] = .exn r []) (g : gnds [x, y, z] = true) (p : DA) (ρ : Den.Env) (S : Sto) (h : p ρ S = .ok [x, y, z] S) : eCall F p ρ S = .exn r S := call_exn (S1 := S) (ds := [x, y, z]) h g e
theorem ptI (F : Fn) (hF : ∀ d, gnd d = true → BotP d → F [d] [] = .ok (.bl (isPt d)) []) (i : Int) (ρ : Den.Env) (S : Sto) (R : List D) (d : D) (g : gnd d = true) (b : BotP d) (h0 : ρ[0]? = some (some (.lst R))) (h1 : ixAt R i = some d) : eCall F (aCons (eOp oIx (eVar 0) (eC (.int i))) aNil) ρ S = .ok (.bl (isPt d)) S := call1 (hF d g b) g _ _ _ (by simp [h0, h1])
theorem turn_asked_bad {p q r : D} (f : Bool) (hp : Arg p) (hq : Arg q) (hr : Arg r) (bad : (isPt p && (isPt q && isPt r)) = false) : f__law_turn_asked [.lst [p, q, r], .bl f] [] = .ok (.bl true) [] := by
  have gg : gnds [p, q, r] = true := by simp [gnds, hp.gnd, hq.gnd, hr.gnd]
  have e := turn_bad hp hq hr bad
  refine run_ret (S' := [.lst []]) ?_ rfl
  have c1 : eCall f_turn_of (aKw 0 [2, 1, 0] aNil (aCons (eOp oIx (eVar 0) (eC (.int 2))) (aCons (eOp oIx (eVar 0) (eC (.int 1))) (aCons (eOp oIx (eVar 0) (eC (.int 0))) aNil)))) [some (.lst [p, q, r]), some (.bl f), some (.bl false), some (.obj 0), none] [.lst []] = .exn noPt [.lst []] := call3x e gg _ _ _ (by simp [permG])
  have c2 : eCall f_turn_of (aCons (eOp oIx (eVar 0) (eC (.int 0))) (aCons (eOp oIx (eVar 0) (eC (.int 1))) (aCons (eOp oIx (eVar 0) (eC (.int 2))) aNil))) [some (.lst [p, q, r]), some (.bl f), some (.bl false), some (.obj 0), none] [.lst []] = .exn noPt [.lst []] := call3x e gg _ _ _ (by simp)
  have ci := fun i ρ S d g b => ptI f__law_is_point law_is_point_ok i ρ S [p, q, r] d g b
  cases h1 : isPt p
  · cases f <;> simp -implicitDefEqProofs [b__law_turn_asked, Den.start, sTry, noPt, c1, c2, ci 0 _ _ p hp.gnd hp.bot, h1]
  · cases h2 : isPt q
    · cases f <;> simp -implicitDefEqProofs [b__law_turn_asked, Den.start, sTry, noPt, c1, c2, ci 0 _ _ p hp.gnd hp.bot, h1, ci 1 _ _ q hq.gnd hq.bot, h2]
    · have h3 : isPt r = false := by simpa [h1, h2] using bad
      cases f <;> simp -implicitDefEqProofs [b__law_turn_asked, Den.start, sTry, noPt, c1, c2, ci 0 _ _ p hp.gnd hp.bot, h1, ci 1 _ _ q hq.gnd hq.bot, h2, ci 2 _ _ r hr.gnd hr.bot, h3]
theorem oEq3 (z : Int) (A : List D) : oEq [.lst A, .lst [.int z, .int z, .int (-z)]] (.obj 1) (.lst [.int z, .int z, .int (-z)]) = some (.bl true) := by
  simp [oEq, grnd, Den.gnd, gnds, cmpAll, cmpOk, cmpOks, dep, deps, eqv, eqvs]
theorem turn_asked_good {p q r : D} (f : Bool) (hp : IsPt 130 p) (hq : IsPt 130 q) (hr : IsPt 130 r) : f__law_turn_asked [.lst [p, q, r], .bl f] [] = .ok (.bl true) [] := by
  have ap : Arg p := .inr hp
  have aq : Arg q := .inr hq
  have ar : Arg r := .inr hr
  have gg : gnds [p, q, r] = true := by simp [gnds, hp.gnd, hq.gnd, hr.gnd]
  have g2 : gnds [q, r, p] = true := by simp [gnds, hp.gnd, hq.gnd, hr.gnd]
  have g3 : gnds [q, p, r] = true := by simp [gnds, hp.gnd, hq.gnd, hr.gnd]
  obtain ⟨z, es, e1, e2, e3⟩ := side_ok hp hq hr
  have t1 := turn_good hp hq hr e1
  have t2 := turn_good hq hr hp e2
  have t3 := turn_good hq hp hr e3
  refine run_ret (S' := [.lst [], .lst [.int z, .int z, .int (-z)]]) ?_ rfl
  have c1 : ∀ (ρ : Den.Env) (S : Sto), ρ[0]? = some (some (.lst [p, q, r])) → eCall f_turn_of (aKw 0 [2, 1, 0] aNil (aCons (eOp oIx (eVar 0) (eC (.int 2))) (aCons (eOp oIx (eVar 0) (eC (.int 1))) (aCons (eOp oIx (eVar 0) (eC (.int 0))) aNil)))) ρ S = .ok (.int z) S := fun ρ S h0 => call3 t1 gg _ _ _ (by simp [h0, permG])
  have c2 : ∀ (ρ : Den.Env) (S : Sto), ρ[0]? = some (some (.lst [p, q, r])) → eCall f_turn_of (aCons (eOp oIx (eVar 0) (eC (.int 0))) (aCons (eOp oIx (eVar 0) (eC (.int 1))) (aCons (eOp oIx (eVar 0) (eC (.int 2))) aNil))) ρ S = .ok (.int z) S := fun ρ S h0 => call3 t1 gg _ _ _ (by simp [h0])
  have c3 : ∀ (ρ : Den.Env) (S : Sto), ρ[0]? = some (some (.lst [p, q, r])) → eCall f_turn_of (aCons (eOp oIx (eVar 0) (eC (.int 1))) (aCons (eOp oIx (eVar 0) (eC (.int 2))) (aCons (eOp oIx (eVar 0) (eC (.int 0))) aNil))) ρ S = .ok (.int z) S := fun ρ S h0 => call3 t2 g2 _ _ _ (by simp [h0])
  have c4 : ∀ (ρ : Den.Env) (S : Sto), ρ[0]? = some (some (.lst [p, q, r])) → eCall f_turn_of (aCons (eOp oIx (eVar 0) (eC (.int 1))) (aCons (eOp oIx (eVar 0) (eC (.int 0))) (aCons (eOp oIx (eVar 0) (eC (.int 2))) aNil))) ρ S = .ok (.int (-z)) S := fun ρ S h0 => call3 t3 g3 _ _ _ (by simp [h0])
  have c5 : ∀ (ρ : Den.Env) (S : Sto), ρ[0]? = some (some (.lst [p, q, r])) → eCall f__law_side (aCons (eOp oIx (eVar 0) (eC (.int 0))) (aCons (eOp oIx (eVar 0) (eC (.int 1))) (aCons (eOp oIx (eVar 0) (eC (.int 2))) aNil))) ρ S = .ok (.int z) S := fun ρ S h0 => call3 es gg _ _ _ (by simp [h0])
  have ci := fun i ρ S d g b => ptI f__law_is_point law_is_point_ok i ρ S [p, q, r] d g b
  have c6 : ∀ (ρ : Den.Env), ρ[3]? = some (some (.obj 1)) → eCall f__law_is_integer (aCons (eOp oIx (eVar 3) (eC (.int 0))) aNil) ρ [.lst [], .lst [.int z, .int z, .int (-z)]] = .ok (.bl true) [.lst [], .lst [.int z, .int z, .int (-z)]] := fun ρ h0 => call1 (law_is_integer_ok (.int z)) rfl _ _ _ (by simp [h0])
  cases f <;> simp -implicitDefEqProofs [b__law_turn_asked, Den.start, sTry, c1, c2, c3, c4, c5, c6, ci 0 _ _ p ap.gnd ap.bot, hp.is, ci 1 _ _ q aq.gnd aq.bot, hq.is, ci 2 _ _ r ar.gnd ar.bot, hr.is, oEq3]
theorem turn_asked_ok {p q r : D} (f : Bool) (hp : Arg p) (hq : Arg q) (hr : Arg r) : f__law_turn_asked [.lst [p, q, r], .bl f] [] = .ok (.bl true) [] := by
  by_cases bad : (isPt p && (isPt q && isPt r)) = false
  · exact turn_asked_bad f hp hq hr bad
  · have g : ∀ d, Arg d → isPt d = true → IsPt 130 d := fun d h q => by
      rcases h with h | h
      · rw [h.2.1] at q
        cases q
      · exact h
    rw [Bool.not_eq_false, Bool.and_eq_true, Bool.and_eq_true] at bad
    exact turn_asked_good f (g p hp bad.1) (g q hq bad.2.1) (g r hr bad.2.2)
/-! ### lengths -/
theorem _root_.Pre.Low.nonneg {t b x y p : Int} (l : Low t b x y p) (ht : 0 ≤ t) (hb : 0 < b) : 0 ≤ x := by
  have hp : 0 < p := by
    rcases Int.lt_trichotomy p 0 with z | z | z
    · have := Int.mul_neg_of_neg_of_pos z (show 0 < y by have := l.pos; omega)
      have := l.bot
      omega
    · exact absurd z l.ne
    · exact z
  rcases Int.lt_or_le x 0 with z | z
  · have := Int.mul_neg_of_pos_of_neg hp z
    have := l.top
    omega
  · exact z
theorem sq_nn (x : Int) : 0 ≤ x * x := by
  rcases Int.le_total 0 x with z | z
  · exact Int.mul_nonneg z z
  · have := Int.mul_nonneg (show 0 ≤ -x by omega) (show 0 ≤ -x by omega)
    rwa [Int.neg_mul_neg] at this
theorem FrB.neg {n : Nat} {x y : Int} (h : FrB n x y) : FrB n (-x) y := ⟨h.pos, by rw [Int.neg_gcd]; exact h.one, by rw [Int.natAbs_neg]; exact h.sx, h.sy⟩
theorem inner_ok {x y u v : Int} (hx : FrB 261 x y) (hu : FrB 261 u v) : ∃ P Q, f_inner_of [pt x y u v, pt x y u v] [] = .ok (fr P Q) [] ∧ f_inner_of [pt (-x) y (-u) v, pt (-x) y (-u) v] [] = .ok (fr P Q) [] ∧ f__law_dot [pt x y u v, pt x y u v] [] = .ok (fr P Q) [] ∧ FrB 1045 P Q ∧ 0 ≤ P := by
  have Sx := hx.S (by decide)
  have Su := hu.S (by decide)
  have nx := (FrB.neg hx).S (by decide)
  have nu := (FrB.neg hu).S (by decide)
  obtain ⟨m1, m2, _, e1, l1⟩ := product_ok Sx Sx
  obtain ⟨m1', m2', _, e1', l1'⟩ := product_ok nx nx
  rw [Int.neg_mul_neg] at l1'
  obtain ⟨rfl, rfl⟩ := low_uniq l1 l1'
  obtain ⟨m1', m2', _, e1'', _, l1''⟩ := lmul_ok hx hx (by decide) (by decide)
  obtain ⟨rfl, rfl⟩ := low_uniq l1 l1''
  obtain ⟨k1, k2, _, e2, l2⟩ := product_ok Su Su
  obtain ⟨k1', k2', _, e2', l2'⟩ := product_ok nu nu
  rw [Int.neg_mul_neg] at l2'
  obtain ⟨rfl, rfl⟩ := low_uniq l2 l2'
  obtain ⟨k1', k2', _, e2'', _, l2''⟩ := lmul_ok hu hu (by decide) (by decide)
  obtain ⟨rfl, rfl⟩ := low_uniq l2 l2''
  have M : FrB 522 m1 m2 := l1.frB (nat_mul hx.sx hx.sx) (nat_mul hx.sy hx.sy)
  have N : FrB 522 k1 k2 := l2.frB (nat_mul hu.sx hu.sx) (nat_mul hu.sy hu.sy)
  obtain ⟨P, Q, _, e3, l3⟩ := plus_ok (M.S (by decide)) (N.S (by decide))
  obtain ⟨P', Q', _, e3', f3, l3'⟩ := ladd_ok M N (by decide) (by decide)
  obtain ⟨rfl, rfl⟩ := low_uniq l3 l3'
  have p1 : 0 < y * y := one_le_mul hx.pos hx.pos
  have p2 : 0 < v * v := one_le_mul hu.pos hu.pos
  have nn1 := l1.nonneg (sq_nn x) p1
  have nn2 := l2.nonneg (sq_nn u) p2
  have mp := M.pos
  have np := N.pos
  have nn3 : 0 ≤ P := l3.nonneg (Int.add_nonneg (Int.mul_nonneg nn1 (by omega)) (Int.mul_nonneg nn2 (by omega))) (one_le_mul mp np)
  refine ⟨P, Q, run_ret (S' := []) ?_ (gnd_fr _ _), run_ret (S' := []) ?_ (gnd_fr _ _), run_ret (S' := []) ?_ (gnd_fr _ _), f3, nn3⟩
  · have c := call2f e3 (eCall f_product (aCons (eOp oIx (eVar 0) (eC (.int 0))) (aCons (eOp oIx (eVar 1) (eC (.int 0))) aNil))) (eCall f_product (aCons (eOp oIx (eVar 0) (eC (.int 1))) (aCons (eOp oIx (eVar 1) (eC (.int 1))) aNil))) [some (pt x y u v), some (pt x y u v)] [] (call2f e1 _ _ _ _ (by simp) (by simp)) (call2f e2 _ _ _ _ (by simp) (by simp))
    simp -implicitDefEqProofs [b_inner_of, Den.start, c]
  · have c := call2f e3 (eCall f_product (aCons (eOp oIx (eVar 0) (eC (.int 0))) (aCons (eOp oIx (eVar 1) (eC (.int 0))) aNil))) (eCall f_product (aCons (eOp oIx (eVar 0) (eC (.int 1))) (aCons (eOp oIx (eVar 1) (eC (.int 1))) aNil))) [some (pt (-x) y (-u) v), some (pt (-x) y (-u) v)] [] (call2f e1' _ _ _ _ (by simp) (by simp)) (call2f e2' _ _ _ _ (by simp) (by simp))
    simp -implicitDefEqProofs [b_inner_of, Den.start, c]
  · have c := call2f e3' (eCall f__law_mul (aCons (eOp oIx (eVar 0) (eC (.int 0))) (aCons (eOp oIx (eVar 1) (eC (.int 0))) aNil))) (eCall f__law_mul (aCons (eOp oIx (eVar 0) (eC (.int 1))) (aCons (eOp oIx (eVar 1) (eC (.int 1))) aNil))) [some (pt x y u v), some (pt x y u v)] [] (call2f e1'' _ _ _ _ (by simp) (by simp)) (call2f e2'' _ _ _ _ (by simp) (by simp))
    simp -implicitDefEqProofs [b__law_dot, Den.start, c]
theorem step_ok {m n : Nat} {a b c d e f g h : Int} (hp : Pt 130 a b c d) (hq : Pt 130 e f g h) : ∃ x y p u v q, f_step_of [pt a b c d, pt e f g h] [] = .ok (pt x y u v) [] ∧ Low (e * b - a * f) (f * b) x y p ∧ Low (g * d - c * h) (h * d) u v q := by
  obtain ⟨x, y, p, e1, l1⟩ := minus_ok (hq.x.S (by decide)) (hp.x.S (by decide))
  obtain ⟨u, v, q, e2, l2⟩ := minus_ok (hq.y.S (by decide)) (hp.y.S (by decide))
  refine ⟨x, y, p, u, v, q, run_ret (S' := []) ?_ (gnd_pt _ _ _ _), l1, l2⟩
  have c1 := call2f e1 (eOp oIx (eVar 1) (eC (.int 0))) (eOp oIx (eVar 0) (eC (.int 0))) [some (pt a b c d), some (pt e f g h)] [] (by simp) (by simp)
  have c2 := call2f e2 (eOp oIx (eVar 1) (eC (.int 1))) (eOp oIx (eVar 0) (eC (.int 1))) [some (pt a b c d), some (pt e f g h)] [] (by simp) (by simp)
  simp -implicitDefEqProofs [b_step_of, Den.start, c1, c2]
theorem Low.neg {t b x y p : Int} (l : Low t b x y p) : Low (-t) b (-x) y p := ⟨by rw [l.top, Int.mul_neg], l.bot, l.pos, by rw [Int.neg_gcd]; exact l.one, l.ne⟩
theorem length_pts {p q : D} (hp : IsPt 130 p) (hq : IsPt 130 q) : ∃ L s, f_length_of [p, q] [] = .ok L [] ∧ f_length_of [q, p] [] = .ok L [] ∧ f__law_minus [q, p] [] = .ok s [] ∧ gnd s = true ∧ f__law_size [s] [] = .ok L [] ∧ gnd L = true ∧ (L = .non ∨ ∃ x y, L = fr x y ∧ FrB 1045 x y) := by
  have ap : Arg p := .inr hp
  have aq : Arg q := .inr hq
  have ip := hp.is
  have iq := hq.is
  obtain ⟨a, b, c, d, rfl, hp⟩ := hp
  obtain ⟨e, f, g, h, rfl, hq⟩ := hq
  obtain ⟨x, y, _, u, v, _, es, hs, l1, l2⟩ := lminus_ok hq hp (by decide) (by decide)
  obtain ⟨x', y', _, u', v', _, e1, g1, g2⟩ := step_ok (m := 0) (n := 0) hp hq
  obtain ⟨rfl, rfl⟩ := low_uniq l1 g1
  obtain ⟨rfl, rfl⟩ := low_uniq l2 g2
  obtain ⟨x', y', _, u', v', _, e2, g1, g2⟩ := step_ok (m := 0) (n := 0) hq hp
  have n1 := Low.neg l1
  have n2 := Low.neg l2
  rw [show -(e * b - a * f) = a * f - e * b by omega, Int.mul_comm f b] at n1
  rw [show -(g * d - c * h) = c * h - g * d by omega, Int.mul_comm h d] at n2
  obtain ⟨rfl, rfl⟩ := low_uniq n1 g1
  obtain ⟨rfl, rfl⟩ := low_uniq n2 g2
  obtain ⟨P, Q, i1, i2, i3, hPQ, P0⟩ := inner_ok hs.x hs.y
  obtain ⟨r, hr⟩ := fl_of P0
  obtain ⟨s, hs'⟩ := fl_of (n := Q) (by have := hPQ.pos; omega)
  have er := root_of_ok (fun _ => hr) hs' (bit_mono hPQ.sx (by decide)) (bit_mono hPQ.sy (by decide))
  have len : ∀ p q w : D, Arg p → Arg q → isPt p = true → isPt q = true → f_step_of [p, q] [] = .ok w [] → gnd w = true → f_inner_of [w, w] [] = .ok (fr P Q) [] → f_length_of [p, q] [] = .ok (rootF P Q r s) [] := fun p q w ap aq ip iq e gw ei => by
    have ez : f_size_of [w] [] = .ok (rootF P Q r s) [] := run_ret (S' := []) (by
      have c := call1 er (gnd_fr _ _) (eCall f_inner_of (aCons (eVar 0) (aCons (eVar 0) aNil))) [some w] [] (call2 ei gw gw _ _ _ _ rfl rfl)
      simp -implicitDefEqProofs [b_size_of, Den.start, c]) (gnd_rootF _ _ _ _)
    refine run_ret (S' := []) ?_ (gnd_rootF _ _ _ _)
    have cp := ptE f_is_point is_point_ok
    have c := call1 ez gw (eCall f_step_of (aCons (eVar 0) (aCons (eVar 1) aNil))) [some p, some q] [] (call2 e ap.gnd aq.gnd _ _ _ _ rfl rfl)
    simp -implicitDefEqProofs [b_length_of, Den.start, cp 0 _ _ p ap.gnd ap.bot, ip, cp 1 _ _ q aq.gnd aq.bot, iq, c]
  have P0' : ¬ P < 0 := by omega
  refine ⟨rootF P Q r s, pt x y u v, len _ _ _ ap aq ip iq e1 (gnd_pt _ _ _ _) i1, len _ _ _ aq ap iq ip e2 (gnd_pt _ _ _ _) i2, es, gnd_pt _ _ _ _, run_ret (S' := []) ?_ (gnd_rootF _ _ _ _), gnd_rootF _ _ _ _, ?_⟩
  · have c1 := call2 i3 (gnd_pt _ _ _ _) (gnd_pt _ _ _ _) (eVar 0) (eVar 0) [some (pt x y u v), none, none, none] [] rfl rfl
    have c2 : eCall f__law_root (aCons (eOp oIx (eVar 1) (eC (.int 0))) aNil) [some (pt x y u v), some (fr P Q), none, none] [] = .ok (rootD P r) [] := call1 (law_root_ok hr (bit_mono hPQ.sx (by decide))) rfl _ _ _ (by simp)
    have c3 : ∀ w : D, eCall f__law_root (aCons (eOp oIx (eVar 1) (eC (.int 1))) aNil) [some (pt x y u v), some (fr P Q), some w, none] [] = .ok (rootD Q s) [] := fun w => call1 (law_root_ok hs' (bit_mono hPQ.sy (by decide))) rfl _ _ _ (by simp)
    by_cases q1 : r * r = P <;> by_cases q2 : s * s = Q <;> simp -implicitDefEqProofs [b__law_size, Den.start, c1, c2, c3, rootF, rootD, q1, q2, isN, P0']
  · unfold rootF
    rw [if_neg P0']
    by_cases q : r * r = P ∧ s * s = Q
    · rw [if_pos q]
      refine .inr ⟨r, s, rfl, ?_, gcd_sq (by rw [q.1, q.2]; exact hPQ.one), ?_, ?_⟩
      · have := hs'.1
        by_cases z : s = 0
        · have q2 := q.2
          rw [z] at q2
          have := hPQ.pos
          omega
        · omega
      · have := hr.small
        have := hr.1
        have := hPQ.sx
        omega
      · have := hs'.small
        have := hs'.1
        have := hPQ.sy
        omega
    · rw [if_neg q]
      exact .inl rfl
theorem length_bad {p q : D} (hp : Arg p) (hq : Arg q) (bad : (isPt p && isPt q) = false) : f_length_of [p, q] [] = .exn noPt [] := by
  refine run_exn (ρ := [some p, some q]) (S' := []) ?_
  have c := ptE f_is_point is_point_ok
  cases h1 : isPt p
  · simp -implicitDefEqProofs [b_length_of, Den.start, c 0 _ _ p hp.gnd hp.bot, h1, noPt]
  · have h2 : isPt q = false := by simpa [h1] using bad
    simp -implicitDefEqProofs [b_length_of, Den.start, c 0 _ _ p hp.gnd hp.bot, h1, c 1 _ _ q hq.gnd hq.bot, h2, noPt]
theorem length_asked_bad {p q : D} (f : Bool) (hp : Arg p) (hq : Arg q) (bad : (isPt p && isPt q) = false) : f__law_length_asked [p, q, .bl f] [] = .ok (.bl true) [] := by
  have e := length_bad hp hq bad
  have gg : gnds [p, q] = true := by simp [gnds, hp.gnd, hq.gnd]
  have e2 : f__law_length [p, q, .bl f] [] = .exn noPt [] := by
    refine run_exn (ρ := [some p, some q, some (.bl f)]) (S' := []) ?_
    have c1 : eCall f_length_of (aKw 0 [1, 0] aNil (aCons (eVar 1) (aCons (eVar 0) aNil))) [some p, some q, some (.bl f)] [] = .exn noPt [] := call_exn (S1 := []) (ds := [p, q]) (by simp [permG]) gg e
    have c2 : eCall f_length_of (aCons (eVar 0) (aCons (eVar 1) aNil)) [some p, some q, some (.bl f)] [] = .exn noPt [] := call_exn (S1 := []) (ds := [p, q]) rfl gg e
    cases f <;> simp -implicitDefEqProofs [b__law_length, Den.start, c1, c2]
  refine run_ret (S' := []) ?_ rfl
  have c1 : eCall f__law_length (aCons (eVar 0) (aCons (eVar 1) (aCons (eVar 2) aNil))) [some p, some q, some (.bl f), some (.bl false), some .non, some .non, none] [] = .exn noPt [] := call_exn (S1 := []) (ds := [p, q, .bl f]) rfl (by simp [gnds, hp.gnd, hq.gnd, Den.gnd]) e2
  have c := ptE f__law_is_point law_is_point_ok
  cases h1 : isPt p
  · simp -implicitDefEqProofs [b__law_length_asked, Den.start, sTry, noPt, c1, c 0 _ _ p hp.gnd hp.bot, h1]
  · have h2 : isPt q = false := by simpa [h1] using bad
    simp -implicitDefEqProofs [b__law_length_asked, Den.start, sTry, noPt, c1, c 0 _ _ p hp.gnd hp.bot, h1, c 1 _ _ q hq.gnd hq.bot, h2]
theorem length_asked_good {p q : D} (f : Bool) (hp : IsPt 130 p) (hq : IsPt 130 q) : f__law_length_asked [p, q, .bl f] [] = .ok (.bl true) [] := by
  have ap : Arg p := .inr hp
  have aq : Arg q := .inr hq
  obtain ⟨L, s, e1, e2, es, gs, ez, gL, hL⟩ := length_pts hp hq
  have gg : gnds [p, q] = true := by simp [gnds, hp.gnd, hq.gnd]
  have e3 : f__law_length [p, q, .bl f] [] = .ok L [] := by
    refine run_ret (S' := []) ?_ gL
    have c1 : eCall f_length_of (aKw 0 [1, 0] aNil (aCons (eVar 1) (aCons (eVar 0) aNil))) [some p, some q, some (.bl f)] [] = .ok L [] := call_ok (S1 := []) (ds := [p, q]) (by simp [permG]) gg e1
    have c2 : eCall f_length_of (aCons (eVar 0) (aCons (eVar 1) aNil)) [some p, some q, some (.bl f)] [] = .ok L [] := call_ok (S1 := []) (ds := [p, q]) rfl gg e1
    cases f <;> simp -implicitDefEqProofs [b__law_length, Den.start, c1, c2]
  refine run_ret (S' := []) ?_ rfl
  have c1 : ∀ ρ : Den.Env, ρ[0]? = some (some p) → ρ[1]? = some (some q) → ρ[2]? = some (some (.bl f)) → eCall f__law_length (aCons (eVar 0) (aCons (eVar 1) (aCons (eVar 2) aNil))) ρ [] = .ok L [] := fun ρ h0 h1 h2 => call_ok (S1 := []) (ds := [p, q, .bl f]) (by simp [h0, h1, h2]) (by simp [gnds, hp.gnd, hq.gnd, Den.gnd]) e3
  have c2 : ∀ ρ : Den.Env, ρ[0]? = some (some p) → ρ[1]? = some (some q) → eCall f_length_of (aCons (eVar 1) (aCons (eVar 0) aNil)) ρ [] = .ok L [] := fun ρ h0 h1 => call2 e2 hq.gnd hp.gnd _ _ _ _ (vE h1) (vE h0)
  have c3 : ∀ ρ : Den.Env, ρ[0]? = some (some p) → ρ[1]? = some (some q) → eCall f__law_size (aCons (eCall f__law_minus (aCons (eVar 1) (aCons (eVar 0) aNil))) aNil) ρ [] = .ok L [] := fun ρ h0 h1 => call1 ez gs _ _ _ (call2 es hq.gnd hp.gnd _ _ _ _ (vE h1) (vE h0))
  have c := ptE f__law_is_point law_is_point_ok
  rcases hL with rfl | ⟨x, y, rfl, hxy⟩
  · have nn : ∀ S : Sto, oNe S .non .non = some (.bl false) := fun S => rfl
    simp -implicitDefEqProofs [b__law_length_asked, Den.start, sTry, c1, c2, c3, c 0 _ _ p ap.gnd ap.bot, hp.is, c 1 _ _ q aq.gnd aq.bot, hq.is, nn, isN]
  · have c4 : ∀ ρ : Den.Env, ρ[4]? = some (some (fr x y)) → eCall f__law_is_frac (aCons (eVar 4) aNil) ρ [] = .ok (.bl true) [] := fun ρ h0 => call1 (law_is_frac_ok x y hxy.pos hxy.one (bit_mono hxy.sy (by decide))) (gnd_fr _ _) _ _ _ (vE h0)
    simp -implicitDefEqProofs [b__law_length_asked, Den.start, sTry, c1, c2, c3, c4, c 0 _ _ p ap.gnd ap.bot, hp.is, c 1 _ _ q aq.gnd aq.bot, hq.is, nev_fr, eqv_fr, isN]
theorem length_asked_ok {p q : D} (f : Bool) (hp : Arg p) (hq : Arg q) : f__law_length_asked [p, q, .bl f] [] = .ok (.bl true) [] := by
  by_cases bad : (isPt p && isPt q) = false
  · exact length_asked_bad f hp hq bad
  · have g : ∀ d, Arg d → isPt d = true → IsPt 130 d := fun d h q => by
      rcases h with h | h
      · rw [h.2.1] at q
        cases q
      · exact h
    rw [Bool.not_eq_false, Bool.and_eq_true] at bad
    exact length_asked_good f (g p hp bad.1) (g q hq bad.2)
/-! ### the law -/
theorem turns : ∀ (ks : List D) (s a b c d : Option D) (n : Nat) (xs : List D), Str n xs → n + 121 * ks.length < 10000 → ∃ a' b' c' d' ys, forL (gName 2) (sSeq (sSet 3 (eOp oEq (eCallM f__law_take (aCons (eVar 1) (aCons (eC (.int 3)) aNil))) (eC (.int 0))))
  (sSeq (sSet 4 (eCallM f__law_triple (aCons (eVar 1) aNil)))
  (sSeq (sIf (Den.tNot (tVal (eCall f__law_turn_asked (aCons (eVar 4) (aCons (eVar 3) aNil)))))
  (sRet (eC (.bl false)))
  sNext)
  (sFor (Den.iRng1 (eC (.int 3))) (gName 5)
  (sIf (Den.tNot (tVal (eCall f__law_length_asked (aCons (eOp oIx (eVar 4) (eVar 5)) (aCons (eOp oIx (eVar 4) (eOp oMod (eOp oAdd (eVar 5) (eC (.int 1))) (eC (.int 3)))) (aCons (eVar 3) aNil))))))
  (sRet (eC (.bl false)))
  sNext))))) ks [s, some (.obj 0), a, b, c, d] [.lst xs] = .nx [s, some (.obj 0), a', b', c', d'] [.lst ys]
  | [], s, a, b, c, d, n, xs, h, _ => ⟨a, b, c, d, xs, rfl⟩
  | k :: ks, s, a, b, c, d, n, xs, h, hn => by
    rw [List.length_cons] at hn
    obtain ⟨t, x1, e1, _, s1, r1, r1'⟩ := takeE h 3 (by decide) (by decide) (by omega)
    obtain ⟨p, q, r, ys, e, hs, ap, aq, ar⟩ := triple_ok s1 (by omega)
    have e := strE e s1.gnd hs.gnd
    obtain ⟨a', b', c', d', zs, ih⟩ := turns ks s (some k) (some (.bl (t == 0))) (some (.lst [p, q, r])) (some (.int 2)) _ ys hs (by omega)
    refine ⟨a', b', c', d', zs, ?_⟩
    rw [← ih]
    have rg : rangeD 0 3 = [.int 0, .int 1, .int 2] := rfl
    have gl : gnd (.lst [p, q, r]) = true := by simp [Den.gnd, gnds, ap.gnd, aq.gnd, ar.gnd]
    have c0 : ∀ (ρ : Den.Env) (S : Sto), ρ[4]? = some (some (.lst [p, q, r])) → ρ[3]? = some (some (.bl (t == 0))) → eCall f__law_turn_asked (aCons (eVar 4) (aCons (eVar 3) aNil)) ρ S = .ok (.bl true) S := fun ρ S h0 h1 => call2 (turn_asked_ok _ ap aq ar) gl rfl _ _ _ _ (vE h0) (vE h1)
    have md : ∀ i : Int, oMod ([] : Sto) (.int i) (.int 3) = some (.int (i.fmod 3)) := fun i => oMod_i (by decide)
    have cl : ∀ (j : Int) (x y : D) (ρ : Den.Env) (S : Sto), Arg x → Arg y → ixAt [p, q, r] j = some x → ixAt [p, q, r] ((j + 1).fmod 3) = some y → ρ[4]? = some (some (.lst [p, q, r])) → ρ[5]? = some (some (.int j)) → ρ[3]? = some (some (.bl (t == 0))) → eCall f__law_length_asked (aCons (eOp oIx (eVar 4) (eVar 5)) (aCons (eOp oIx (eVar 4) (eOp oMod (eOp oAdd (eVar 5) (eC (.int 1))) (eC (.int 3)))) (aCons (eVar 3) aNil))) ρ S = .ok (.bl true) S := fun j x y ρ S ax ay h1 h2 q4 q5 q3 =>
      call_ok (S1 := S) (ds := [x, y, .bl (t == 0)]) (by
        have md : oMod S (.int (j + 1)) (.int 3) = some (.int ((j + 1).fmod 3)) := oMod_i (by decide)
        simp [q4, q5, q3, h1, h2, md]) (by simp [gnds, ax.gnd, ay.gnd, Den.gnd]) (length_asked_ok _ ax ay)
    have l0 := fun ρ S => cl 0 p q ρ S ap aq (by simp) (by rfl)
    have l1 := fun ρ S => cl 1 q r ρ S aq ar (by simp) (by rfl)
    have l2 := fun ρ S => cl 2 r p ρ S ar ap (by simp) (by rfl)
    simp -implicitDefEqProofs [forL, e1, e, iRng1, small62, rg, c0, l0, l1, l2]
theorem law_true (ns : List Int) (h1 : ns.length ≤ 63) : f_law [.lst (ns.map .int)] [] = .ok (.bl true) [] := by
  obtain ⟨xs, es, hs⟩ := stream_ok ns
  obtain ⟨a', b', c', d', ys, ft⟩ := turns (rangeD 0 (1 + (if (ns.length : Int) < 7 then (ns.length : Int) else 7))) (some (.lst (ns.map .int))) none none none none 0 xs hs (by
    simp only [rangeD, List.length_map, List.length_range]
    split <;> omega)
  have c1 : ∀ (ρ : Den.Env), ρ[0]? = some (some (.lst (ns.map .int))) → eCallL f__law_stream (aCons (eVar 0) aNil) ρ [] = .ok (.obj 0) [.lst xs] := fun ρ h0 => callL_ok (S1 := []) (ds := [.lst (ns.map .int)]) (by simp [h0]) (by simp [gnds, Den.gnd, gnds_ints]) es
  have sm : small62 (1 + (if (ns.length : Int) < 7 then (ns.length : Int) else 7)) = true := by
    simp only [small62, Bool.and_eq_true, decide_eq_true_eq]
    split <;> omega
  refine run_ret (S' := [.lst ys]) ?_ rfl
  unfold b_law
  simp -implicitDefEqProofs [Den.start, c1, iRng1, sm, ft]
end K05
end

section
set_option Elab.async false
set_option linter.all false
set_option maxRecDepth 100000
set_option maxHeartbeats 4000000
namespace K05
open Den Pre PySem PySem.Spec PyProof.Rows L2
def top (i : Nat) : Stmt := PySem.Challenge.pw_fourcreases_k05_lengths_and_turns.main.body.getD i (.Pass ⟨0, 0, 0, 0⟩)
abbrev s__law_great : Stmt := top 25
abbrev N__law_great : List Str := ["_law_cells", "_law_place"]
abbrev s__law_stream : Stmt := top 26
abbrev N__law_stream : List Str := ["_law_script", "_law_cells"]
abbrev s__law_mixed : Stmt := top 24
abbrev N__law_mixed : List Str := ["_law_cell", "_law_k", "_law_number"]
abbrev s__law_take : Stmt := top 27
abbrev N__law_take : List Str := ["_law_stream_here", "_law_many", "_law_cells", "_law_place", "_law_digit"]
abbrev s__law_low : Stmt := top 28
abbrev N__law_low : List Str := ["_law_top", "_law_bottom", "_law_one", "_law_other"]
abbrev s__law_tame : Stmt := top 42
abbrev N__law_tame : List Str := ["_law_stream_here", "_law_top"]
abbrev s__law_whole : Stmt := top 40
abbrev N__law_whole : List Str := ["_law_stream_here", "_law_size_here", "_law_sign", "_law_number"]
abbrev s__law_fraction : Stmt := top 41
abbrev N__law_fraction : List Str := ["_law_stream_here", "_law_top"]
abbrev s__law_point : Stmt := top 43
abbrev N__law_point : List Str := ["_law_stream_here", "_law_east"]
abbrev s__law_add : Stmt := top 29
abbrev N__law_add : List Str := ["_law_one", "_law_other"]
abbrev s__law_plus : Stmt := top 32
abbrev N__law_plus : List Str := ["_law_one", "_law_other"]
abbrev s__law_no_point : Stmt := top 47
abbrev N__law_no_point : List Str := ["_law_stream_here", "_law_rows"]
abbrev s__law_mul : Stmt := top 31
abbrev N__law_mul : List Str := ["_law_one", "_law_other"]
abbrev s__law_times : Stmt := top 34
abbrev N__law_times : List Str := ["_law_step", "_law_factor"]
abbrev s__law_ray : Stmt := top 38
abbrev N__law_ray : List Str := ["_law_slope_here", "_law_top", "_law_bottom"]
abbrev s__law_slope : Stmt := top 39
abbrev N__law_slope : List Str := ["_law_stream_here", "_law_most", "_law_top"]
abbrev s__law_sub : Stmt := top 30
abbrev N__law_sub : List Str := ["_law_one", "_law_other"]
abbrev s__law_minus : Stmt := top 33
abbrev N__law_minus : List Str := ["_law_one", "_law_other"]
abbrev s__law_triple : Stmt := top 50
abbrev N__law_triple : List Str := ["_law_stream_here", "_law_spoil", "_law_second", "_law_third", "_law_points", "_law_near", "_law_plain", "_law_slope_here", "_law_k"]
abbrev s__law_flat : Stmt := top 48
abbrev N__law_flat : List Str := ["_law_point_here"]
abbrev s__law_side : Stmt := top 49
abbrev N__law_side : List Str := ["_law_one", "_law_other", "_law_third", "_law_a", "_law_b", "_law_c", "_law_whole_here"]
abbrev s_whole_triple : Stmt := top 19
abbrev N_whole_triple : List Str := ["point", "x", "y"]
abbrev s_side_sign : Stmt := top 20
abbrev N_side_sign : List Str := ["one", "other", "third", "total", "x1", "y1", "w1", "x2", "y2", "w2", "x3", "y3", "w3"]
abbrev s_common_part : Stmt := top 6
abbrev N_common_part : List Str := ["one", "other"]
abbrev s_is_integer : Stmt := top 5
abbrev N_is_integer : List Str := ["thing"]
abbrev s_is_fraction : Stmt := top 8
abbrev N_is_fraction : List Str := ["thing"]
abbrev s_is_point : Stmt := top 15
abbrev N_is_point : List Str := ["thing"]
abbrev s_turn_of : Stmt := top 22
abbrev N_turn_of : List Str := ["one", "other", "third"]
abbrev s__law_is_integer : Stmt := top 44
abbrev N__law_is_integer : List Str := ["_law_thing"]
abbrev s__law_is_frac : Stmt := top 45
abbrev N__law_is_frac : List Str := ["_law_thing"]
abbrev s__law_is_point : Stmt := top 46
abbrev N__law_is_point : List Str := ["_law_thing"]
abbrev s__law_turn_asked : Stmt := top 53
abbrev N__law_turn_asked : List Str := ["_law_points", "_law_by_name", "_law_refused", "_law_told", "_law_due"]
abbrev s__law_dot : Stmt := top 35
abbrev N__law_dot : List Str := ["_law_one", "_law_other"]
abbrev s__law_root : Stmt := top 36
abbrev N__law_root : List Str := ["_law_number", "_law_root_here", "_law_k", "_law_better"]
abbrev s__law_size : Stmt := top 37
abbrev N__law_size : List Str := ["_law_step", "_law_square", "_law_top", "_law_bottom"]
abbrev s_whole_root : Stmt := top 12
abbrev N_whole_root : List Str := ["number", "low", "high", "middle"]
abbrev s_root_of : Stmt := top 13
abbrev N_root_of : List Str := ["one", "top", "bottom"]
abbrev s_lowest : Stmt := top 7
abbrev N_lowest : List Str := ["top", "bottom", "part"]
abbrev s_plus : Stmt := top 9
abbrev N_plus : List Str := ["one", "other"]
abbrev s_product : Stmt := top 11
abbrev N_product : List Str := ["one", "other"]
abbrev s_inner_of : Stmt := top 17
abbrev N_inner_of : List Str := ["one", "other"]
abbrev s_size_of : Stmt := top 18
abbrev N_size_of : List Str := ["step"]
abbrev s_minus : Stmt := top 10
abbrev N_minus : List Str := ["one", "other"]
abbrev s_step_of : Stmt := top 16
abbrev N_step_of : List Str := ["one", "other"]
abbrev s_length_of : Stmt := top 21
abbrev N_length_of : List Str := ["one", "other"]
abbrev s__law_length : Stmt := top 51
abbrev N__law_length : List Str := ["_law_one", "_law_other", "_law_by_name"]
abbrev s__law_length_asked : Stmt := top 52
abbrev N__law_length_asked : List Str := ["_law_one", "_law_other", "_law_by_name", "_law_refused", "_law_told", "_law_again", "_law_due"]
abbrev s_law : Stmt := top 54
abbrev N_law : List Str := ["_law_script", "_law_stream_here", "_law_k", "_law_by_name", "_law_points", "_law_one"]
structure Txt (K : PySem.W.Frag) (mg : Str → Option Value) : Prop where
  d__law_great : DefT K mg "_law_great" s__law_great ["_law_cells", "_law_place"]
  d__law_stream : DefT K mg "_law_stream" s__law_stream ["_law_script"]
  d__law_mixed : DefT K mg "_law_mixed" s__law_mixed ["_law_cell", "_law_k"]
  d__law_take : DefT K mg "_law_take" s__law_take ["_law_stream_here", "_law_many"]
  d__law_low : DefT K mg "_law_low" s__law_low ["_law_top", "_law_bottom"]
  d__law_tame : DefT K mg "_law_tame" s__law_tame ["_law_stream_here"]
  d__law_whole : DefT K mg "_law_whole" s__law_whole ["_law_stream_here"]
  d__law_fraction : DefT K mg "_law_fraction" s__law_fraction ["_law_stream_here"]
  d__law_point : DefT K mg "_law_point" s__law_point ["_law_stream_here"]
  d__law_add : DefT K mg "_law_add" s__law_add ["_law_one", "_law_other"]
  d__law_plus : DefT K mg "_law_plus" s__law_plus ["_law_one", "_law_other"]
  d__law_no_point : DefT K mg "_law_no_point" s__law_no_point ["_law_stream_here"]
  d__law_mul : DefT K mg "_law_mul" s__law_mul ["_law_one", "_law_other"]
  d__law_times : DefT K mg "_law_times" s__law_times ["_law_step", "_law_factor"]
  d__law_ray : DefT K mg "_law_ray" s__law_ray ["_law_slope_here"]
  d__law_slope : DefT K mg "_law_slope" s__law_slope ["_law_stream_here", "_law_most"]
  d__law_sub : DefT K mg "_law_sub" s__law_sub ["_law_one", "_law_other"]
  d__law_minus : DefT K mg "_law_minus" s__law_minus ["_law_one", "_law_other"]
  d__law_triple : DefT K mg "_law_triple" s__law_triple ["_law_stream_here"]
  d__law_flat : DefT K mg "_law_flat" s__law_flat ["_law_point_here"]
  d__law_side : DefT K mg "_law_side" s__law_side ["_law_one", "_law_other", "_law_third"]
  d_whole_triple : DefT K mg "whole_triple" s_whole_triple ["point"]
  d_side_sign : DefT K mg "side_sign" s_side_sign ["one", "other", "third"]
  d_common_part : DefT K mg "common_part" s_common_part ["one", "other"]
  d_is_integer : DefT K mg "is_integer" s_is_integer ["thing"]
  d_is_fraction : DefT K mg "is_fraction" s_is_fraction ["thing"]
  d_is_point : DefT K mg "is_point" s_is_point ["thing"]
  d_turn_of : DefT K mg "turn_of" s_turn_of ["one", "other", "third"]
  d__law_is_integer : DefT K mg "_law_is_integer" s__law_is_integer ["_law_thing"]
  d__law_is_frac : DefT K mg "_law_is_frac" s__law_is_frac ["_law_thing"]
  d__law_is_point : DefT K mg "_law_is_point" s__law_is_point ["_law_thing"]
  d__law_turn_asked : DefT K mg "_law_turn_asked" s__law_turn_asked ["_law_points", "_law_by_name"]
  d__law_dot : DefT K mg "_law_dot" s__law_dot ["_law_one", "_law_other"]
  d__law_root : DefT K mg "_law_root" s__law_root ["_law_number"]
  d__law_size : DefT K mg "_law_size" s__law_size ["_law_step"]
  d_whole_root : DefT K mg "whole_root" s_whole_root ["number"]
  d_root_of : DefT K mg "root_of" s_root_of ["one"]
  d_lowest : DefT K mg "lowest" s_lowest ["top", "bottom"]
  d_plus : DefT K mg "plus" s_plus ["one", "other"]
  d_product : DefT K mg "product" s_product ["one", "other"]
  d_inner_of : DefT K mg "inner_of" s_inner_of ["one", "other"]
  d_size_of : DefT K mg "size_of" s_size_of ["step"]
  d_minus : DefT K mg "minus" s_minus ["one", "other"]
  d_step_of : DefT K mg "step_of" s_step_of ["one", "other"]
  d_length_of : DefT K mg "length_of" s_length_of ["one", "other"]
  d__law_length : DefT K mg "_law_length" s__law_length ["_law_one", "_law_other", "_law_by_name"]
  d__law_length_asked : DefT K mg "_law_length_asked" s__law_length_asked ["_law_one", "_law_other", "_law_by_name"]
  d_law : DefT K mg "law" s_law ["_law_script"]
  b_abs : mg "abs" = none
  b_bool : mg "bool" = none
  b_int : mg "int" = none
  b_isinstance : mg "isinstance" = none
  b_len : mg "len" = none
  b_list : mg "list" = none
  b_min : mg "min" = none
  b_range : mg "range" = none
  b_tuple : mg "tuple" = none
  x_NoPoint : ExcT K mg "NoPoint"
  e_NoPoint : ∃ C, mg (Str.ofString "NoPoint") = some (.ref C) ∧ PySem.W.exmOne K (.ref C) (.ref C) = some true
  c_ZERO : ConstD K mg "ZERO" c_ZERO
section
variable {P : Program} {w : World} {K : PySem.W.Frag} {mg : Str → Option Value} {base : Heap}
theorem kb_turn_of_0 {f : Addr} {fd : FuncData} (F : Fun K "turn_of" "turn_of" s_turn_of f fd) : KBinds K fd ["one", "other", "third"] ["third", "other", "one"] (permG 0 [2, 1, 0]) (permG 0 [2, 1, 0]) := by
  obtain ⟨oc, od, kV, doc, pm, an, cdv, ct, osl, rfl, lk, hcd⟩ := F.ex
  refine ⟨fun s us ws _ hl => ?_, fun r q => perm_rel _ _ r q⟩
  match us, ws, hl with
  | [], _ :: _ :: _ :: _, _ => exact .of_eq rfl
  | [], [], hl => exact absurd hl (by simp [permG])
  | [], [_], hl => exact absurd hl (by simp [permG])
  | [], [_, _], hl => exact absurd hl (by simp [permG])
  | _ :: _, _, hl => exact absurd hl (by simp [permG])
theorem kb_length_of_1 {f : Addr} {fd : FuncData} (F : Fun K "length_of" "length_of" s_length_of f fd) : KBinds K fd ["one", "other"] ["other", "one"] (permG 0 [1, 0]) (permG 0 [1, 0]) := by
  obtain ⟨oc, od, kV, doc, pm, an, cdv, ct, osl, rfl, lk, hcd⟩ := F.ex
  refine ⟨fun s us ws _ hl => ?_, fun r q => perm_rel _ _ r q⟩
  match us, ws, hl with
  | [], _ :: _ :: _, _ => exact .of_eq rfl
  | [], [], hl => exact absurd hl (by simp [permG])
  | [], [_], hl => exact absurd hl (by simp [permG])
  | _ :: _, _, hl => exact absurd hl (by simp [permG])
theorem sc__law_great : FnScope N__law_great ["_law_cells", "_law_place"] (defScope s__law_great) := ⟨rfl, rfl, rfl, by decide +kernel, rfl, by decide +kernel, by decide +kernel⟩
theorem nd__law_great : N__law_great.Nodup := sc__law_great.nd
theorem g__law_great (T : Txt K mg)  : FnAt P w K mg base 1 "_law_great" s__law_great ["_law_cells", "_law_place"] f__law_great :=
  fn_at T.d__law_great sc__law_great 0 b__law_great (fun f cdv A outer s H E hr tk hp => (pdb_cons (pds_if (PW.pt (pdw_and (pdt_cmp od_lt op_lt (pd_var (pv 1)) (pd_b1 cd_len (pe_callB call_len (by rfl) T.b_len PySem.boot_len (pa_cons (pd_var (pv 0)) pa_nil))) (nomark _)) (pdw_and1 (pdt_cmp od_ge op_ge (pd_b1 cd_abs (pe_callB call_abs (by rfl) T.b_abs boot_abs (pa_cons (pd_ix (pd_var (pv 0)) (pd_var (pv 1))) pa_nil))) (pd_op od_pow op_pow pd_int pd_int) (nomark _)))))
  (pdb_one (pds_ret (pd_b1 cd_abs (pe_callB call_abs (by rfl) T.b_abs boot_abs (pa_cons (pd_ix (pd_var (pv 0)) (pd_var (pv 1))) pa_nil)))))
  pdb_nil)
  (pdb_one (pds_ret pd_int))))
theorem sc__law_stream : FnScope N__law_stream ["_law_script"] (defScope s__law_stream) := ⟨rfl, rfl, rfl, by decide +kernel, rfl, by decide +kernel, by decide +kernel⟩
theorem nd__law_stream : N__law_stream.Nodup := sc__law_stream.nd
theorem g__law_stream (T : Txt K mg) (g__law_great : FnAt P w K mg base 1 "_law_great" s__law_great ["_law_cells", "_law_place"] f__law_great) : FnAtL P w K mg base 2 "_law_stream" s__law_stream ["_law_script"] f__law_stream :=
  fn_atL T.d__law_stream sc__law_stream 0 b__law_stream (fun f cdv A outer s H E hr tk hp => (pdb_cons (pds_set (i := 1) nd__law_stream rfl (by first | exact Or.inl rfl | exact Or.inr rfl) (pd_list false (pe_callTy call_list_of (by rfl) T.b_list boot_list (pa_cons (pd_var (pv 0)) pa_nil))))
  (pdb_cons (pds_if (pdt_cmp od_eq (op_eqD hr.units) (pd_b1 cd_len (pe_callB call_len (by rfl) T.b_len PySem.boot_len (pa_cons (pd_var (pv 1)) pa_nil))) pd_int (nomark _))
  (pdb_one (pds_set (i := 1) nd__law_stream rfl (by first | exact Or.inl rfl | exact Or.inr rfl) (pd_lst false (pda_cons pd_int pda_nil) (hg := (aCons_len aNil_len)))))
  pdb_nil)
  (pdb_one (pds_ret (pd_lst true (pda_cons (pd_var (pv 1)) (pda_cons pd_int (pda_cons (pd_f g__law_great (hr.mono (by decide)) tk (pda_cons (pd_var (pv 1)) (pda_cons pd_int pda_nil)) (aCons_n (aCons_n aNil_n))) (pda_cons pd_int pda_nil)))) (hg := (aCons_len (aCons_len (aCons_len (aCons_len aNil_len)))))))))))
theorem sc__law_mixed : FnScope N__law_mixed ["_law_cell", "_law_k"] (defScope s__law_mixed) := ⟨rfl, rfl, rfl, by decide +kernel, rfl, by decide +kernel, by decide +kernel⟩
theorem nd__law_mixed : N__law_mixed.Nodup := sc__law_mixed.nd
theorem g__law_mixed (T : Txt K mg)  : FnAt P w K mg base 1 "_law_mixed" s__law_mixed ["_law_cell", "_law_k"] f__law_mixed :=
  fn_at T.d__law_mixed sc__law_mixed 0 b__law_mixed (fun f cdv A outer s H E hr tk hp => (pdb_cons (pds_set (i := 2) nd__law_mixed rfl (by first | exact Or.inl rfl | exact Or.inr rfl) (pd_op od_mod op_modN (pd_b1 cd_int (pe_callTy call_int1 (by rfl) T.b_int boot_int (pa_cons (pd_op od_mul op_mulW (pd_op od_add op_add (pd_op od_add op_add (pd_op od_mod op_modN (pd_b1 cd_int (pe_callTy call_int1 (by rfl) T.b_int boot_int (pa_cons (pd_var (pv 0)) pa_nil))) pd_int) (pd_op od_mul op_mulW pd_int (pd_var (pv 1)))) pd_int) pd_int) pa_nil))) pd_int))
  (pdb_cons (pds_set (i := 2) nd__law_mixed rfl (by first | exact Or.inl rfl | exact Or.inr rfl) (pd_op od_mod op_modN (pd_b1 cd_int (pe_callTy call_int1 (by rfl) T.b_int boot_int (pa_cons (pd_op od_mul op_mulW (pd_var (pv 2)) (pd_op od_add op_add (pd_op od_div op_fdivA (pd_var (pv 2)) pd_int) pd_int)) pa_nil))) pd_int))
  (pdb_one (pds_ret (pd_op od_mod op_modN (pd_b1 cd_int (pe_callTy call_int1 (by rfl) T.b_int boot_int (pa_cons (pd_op od_mul op_mulW (pd_var (pv 2)) (pd_op od_add op_add (pd_op od_div op_fdivA (pd_var (pv 2)) pd_int) pd_int)) pa_nil))) pd_int))))))
theorem sc__law_take : FnScope N__law_take ["_law_stream_here", "_law_many"] (defScope s__law_take) := ⟨rfl, rfl, rfl, by decide +kernel, rfl, by decide +kernel, by decide +kernel⟩
theorem nd__law_take : N__law_take.Nodup := sc__law_take.nd
theorem g__law_take (T : Txt K mg) (g__law_mixed : FnAt P w K mg base 1 "_law_mixed" s__law_mixed ["_law_cell", "_law_k"] f__law_mixed) (g__law_great : FnAt P w K mg base 1 "_law_great" s__law_great ["_law_cells", "_law_place"] f__law_great) : FnAt P w K mg base 2 "_law_take" s__law_take ["_law_stream_here", "_law_many"] f__law_take :=
  fn_at T.d__law_take sc__law_take 1 b__law_take (fun f cdv A outer s H E hr tk hp => (pdb_cons (pds_set (i := 2) nd__law_take rfl (by first | exact Or.inl rfl | exact Or.inr rfl) (pd_ix (pd_var (pv 0)) pd_int))
  (pdb_cons (pds_set (i := 3) nd__law_take rfl (by first | exact Or.inl rfl | exact Or.inr rfl) (pd_ix (pd_var (pv 0)) pd_int))
  (pdb_cons (pds_setIx (pd_var (pv 0)) pd_int (pd_op od_add op_add (pd_ix (pd_var (pv 0)) pd_int) pd_int))
  (pdb_cons (pds_if (pdt_cmp od_gt op_gt (pd_ix (pd_var (pv 0)) pd_int) pd_int (nomark _))
  (pdb_cons (pds_set (i := 4) nd__law_take rfl (by first | exact Or.inl rfl | exact Or.inr rfl) (pd_op od_mod op_modN (pd_b1 cd_int (pe_callTy call_int1 (by rfl) T.b_int boot_int (pa_cons (pd_ix (pd_var (pv 0)) pd_int) pa_nil))) (pd_var (pv 1))))
  (pdb_cons (pds_setIx (pd_var (pv 0)) pd_int (pd_op od_div op_fdivA (pd_ix (pd_var (pv 0)) pd_int) (pd_var (pv 1))))
  (pdb_one (pds_if (pdt_cmp od_gt op_gt (pd_ix (pd_var (pv 0)) pd_int) pd_int (nomark _))
  (pdb_one (pds_ret (pd_var (pv 4))))
  pdb_nil))))
  (pdb_one (pds_set (i := 4) nd__law_take rfl (by first | exact Or.inl rfl | exact Or.inr rfl) (pd_op od_mod op_modN (pd_f g__law_mixed (hr.mono (by decide)) tk (pda_cons (pd_ix (pd_var (pv 2)) (pd_op od_mod op_modN (pd_b1 cd_int (pe_callTy call_int1 (by rfl) T.b_int boot_int (pa_cons (pd_var (pv 3)) pa_nil))) (pd_b1 cd_len (pe_callB call_len (by rfl) T.b_len PySem.boot_len (pa_cons (pd_var (pv 2)) pa_nil))))) (pda_cons (pd_ix (pd_var (pv 0)) pd_int) pda_nil)) (aCons_n (aCons_n aNil_n))) (pd_var (pv 1))))))
  (pdb_cons (pds_setIx (pd_var (pv 0)) pd_int (pd_op od_add op_add (pd_var (pv 3)) pd_int))
  (pdb_cons (pds_setIx (pd_var (pv 0)) pd_int (pd_f g__law_great (hr.mono (by decide)) tk (pda_cons (pd_var (pv 2)) (pda_cons (pd_op od_add op_add (pd_var (pv 3)) pd_int) pda_nil)) (aCons_n (aCons_n aNil_n))))
  (pdb_one (pds_ret (pd_var (pv 4)))))))))))
theorem sc__law_low : FnScope N__law_low ["_law_top", "_law_bottom"] (defScope s__law_low) := ⟨rfl, rfl, rfl, by decide +kernel, rfl, by decide +kernel, by decide +kernel⟩
theorem nd__law_low : N__law_low.Nodup := sc__law_low.nd
theorem g__law_low (T : Txt K mg)  : FnAt P w K mg base 1 "_law_low" s__law_low ["_law_top", "_law_bottom"] f__law_low :=
  fn_at T.d__law_low sc__law_low 0 b__law_low (fun f cdv A outer s H E hr tk hp => (pdb_cons (pds_set (i := 2) nd__law_low rfl (by first | exact Or.inl rfl | exact Or.inr rfl) (pd_b1 cd_abs (pe_callB call_abs (by rfl) T.b_abs boot_abs (pa_cons (pd_var (pv 0)) pa_nil))))
  (pdb_cons (pds_set (i := 3) nd__law_low rfl (by first | exact Or.inl rfl | exact Or.inr rfl) (pd_b1 cd_abs (pe_callB call_abs (by rfl) T.b_abs boot_abs (pa_cons (pd_var (pv 1)) pa_nil))))
  (pdb_cons (pds_while hp (pdt_cmp od_gt op_gt (pd_var (pv 3)) pd_int (nomark _))
  (pdb_one (pds_par (i := 2) (j := 3) (ps_par rfl nd__law_low rfl rfl (by decide) rfl rfl (pda_cons (pd_var (pv 3)) (pda_cons (pd_op od_mod op_modN (pd_b1 cd_int (pe_callTy call_int1 (by rfl) T.b_int boot_int (pa_cons (pd_var (pv 2)) pa_nil))) (pd_var (pv 3))) pda_nil)) (by rfl)))))
  (pdb_cons (pds_if (pdt_cmp od_lt op_lt (pd_var (pv 1)) pd_int (nomark _))
  (pdb_one (pds_set (i := 2) nd__law_low rfl (by first | exact Or.inl rfl | exact Or.inr rfl) (pd_un ud_neg un_neg (pd_var (pv 2)))))
  pdb_nil)
  (pdb_one (pds_ret (pd_tup (pda_cons (pd_op od_div op_fdivA (pd_var (pv 0)) (pd_var (pv 2))) (pda_cons (pd_op od_div op_fdivA (pd_var (pv 1)) (pd_var (pv 2))) pda_nil)) (hg := (aCons_len (aCons_len aNil_len)))))))))))
theorem sc__law_tame : FnScope N__law_tame ["_law_stream_here"] (defScope s__law_tame) := ⟨rfl, rfl, rfl, by decide +kernel, rfl, by decide +kernel, by decide +kernel⟩
theorem nd__law_tame : N__law_tame.Nodup := sc__law_tame.nd
theorem g__law_tame (T : Txt K mg) (g__law_take : FnAt P w K mg base 2 "_law_take" s__law_take ["_law_stream_here", "_law_many"] f__law_take) (g__law_low : FnAt P w K mg base 1 "_law_low" s__law_low ["_law_top", "_law_bottom"] f__law_low) : FnAt P w K mg base 3 "_law_tame" s__law_tame ["_law_stream_here"] f__law_tame :=
  fn_at T.d__law_tame sc__law_tame 1 b__law_tame (fun f cdv A outer s H E hr tk hp => (pdb_cons (pds_set (i := 1) nd__law_tame rfl (by first | exact Or.inl rfl | exact Or.inr rfl) (pd_op od_sub op_sub (pd_fM g__law_take (hr.mono (by decide)) tk (pda_cons (pd_var (pv 0)) (pda_cons pd_int pda_nil)) (aCons_n (aCons_n aNil_n))) pd_int))
  (pdb_one (pds_ret (pd_f g__law_low (hr.mono (by decide)) tk (pda_cons (pd_var (pv 1)) (pda_cons (pd_op od_add op_add pd_int (pd_fM g__law_take (hr.mono (by decide)) tk (pda_cons (pd_var (pv 0)) (pda_cons pd_int pda_nil)) (aCons_n (aCons_n aNil_n)))) pda_nil)) (aCons_n (aCons_n aNil_n)))))))
theorem sc__law_whole : FnScope N__law_whole ["_law_stream_here"] (defScope s__law_whole) := ⟨rfl, rfl, rfl, by decide +kernel, rfl, by decide +kernel, by decide +kernel⟩
theorem nd__law_whole : N__law_whole.Nodup := sc__law_whole.nd
theorem g__law_whole (T : Txt K mg) (g__law_take : FnAt P w K mg base 2 "_law_take" s__law_take ["_law_stream_here", "_law_many"] f__law_take) : FnAt P w K mg base 3 "_law_whole" s__law_whole ["_law_stream_here"] f__law_whole :=
  fn_at T.d__law_whole sc__law_whole 1 b__law_whole (fun f cdv A outer s H E hr tk hp => (pdb_cons (pds_set (i := 1) nd__law_whole rfl (by first | exact Or.inl rfl | exact Or.inr rfl) (pd_fM g__law_take (hr.mono (by decide)) tk (pda_cons (pd_var (pv 0)) (pda_cons pd_int pda_nil)) (aCons_n (aCons_n aNil_n))))
  (pdb_cons (pds_set (i := 2) nd__law_whole rfl (by first | exact Or.inl rfl | exact Or.inr rfl) (pd_op od_sub op_sub pd_int (pd_op od_mul op_mulW pd_int (pd_fM g__law_take (hr.mono (by decide)) tk (pda_cons (pd_var (pv 0)) (pda_cons pd_int pda_nil)) (aCons_n (aCons_n aNil_n))))))
  (pdb_cons (pds_if (pdt_cmp od_eq (op_eqD hr.units) (pd_var (pv 1)) pd_int (nomark _))
  (pdb_one (pds_ret (pd_op od_mul op_mulW (pd_var (pv 2)) (pd_fM g__law_take (hr.mono (by decide)) tk (pda_cons (pd_var (pv 0)) (pda_cons pd_int pda_nil)) (aCons_n (aCons_n aNil_n))))))
  pdb_nil)
  (pdb_cons (pds_if (pdt_cmp od_eq (op_eqD hr.units) (pd_var (pv 1)) pd_int (nomark _))
  (pdb_one (pds_ret (pd_op od_mul op_mulW (pd_var (pv 2)) (pd_fM g__law_take (hr.mono (by decide)) tk (pda_cons (pd_var (pv 0)) (pda_cons pd_int pda_nil)) (aCons_n (aCons_n aNil_n))))))
  pdb_nil)
  (pdb_cons (pds_if (pdt_cmp od_eq (op_eqD hr.units) (pd_var (pv 1)) pd_int (nomark _))
  (pdb_one (pds_ret (pd_op od_mul op_mulW (pd_var (pv 2)) (pd_fM g__law_take (hr.mono (by decide)) tk (pda_cons (pd_var (pv 0)) (pda_cons (pd_op od_pow op_pow pd_int pd_int) pda_nil)) (aCons_n (aCons_n aNil_n))))))
  pdb_nil)
  (pdb_cons (pds_set (i := 3) nd__law_whole rfl (by first | exact Or.inl rfl | exact Or.inr rfl) (pd_op od_add op_add (pd_op od_mul op_mulW (pd_fM g__law_take (hr.mono (by decide)) tk (pda_cons (pd_var (pv 0)) (pda_cons (pd_op od_pow op_pow pd_int pd_int) pda_nil)) (aCons_n (aCons_n aNil_n))) (pd_op od_pow op_pow pd_int pd_int)) (pd_fM g__law_take (hr.mono (by decide)) tk (pda_cons (pd_var (pv 0)) (pda_cons (pd_op od_pow op_pow pd_int pd_int) pda_nil)) (aCons_n (aCons_n aNil_n)))))
  (pdb_cons (pds_if (pdt_cmp od_eq (op_eqD hr.units) (pd_var (pv 1)) pd_int (nomark _))
  (pdb_one (pds_ret (pd_op od_mul op_mulW (pd_var (pv 2)) (pd_var (pv 3)))))
  pdb_nil)
  (pdb_one (pds_ret (pd_op od_mul op_mulW (pd_var (pv 2)) (pd_op od_add op_add (pd_op od_mul op_mulW (pd_var (pv 3)) (pd_op od_pow op_pow pd_int pd_int)) (pd_fM g__law_take (hr.mono (by decide)) tk (pda_cons (pd_var (pv 0)) (pda_cons (pd_op od_pow op_pow pd_int pd_int) pda_nil)) (aCons_n (aCons_n aNil_n)))))))))))))))
theorem sc__law_fraction : FnScope N__law_fraction ["_law_stream_here"] (defScope s__law_fraction) := ⟨rfl, rfl, rfl, by decide +kernel, rfl, by decide +kernel, by decide +kernel⟩
theorem nd__law_fraction : N__law_fraction.Nodup := sc__law_fraction.nd
theorem g__law_fraction (T : Txt K mg) (g__law_whole : FnAt P w K mg base 3 "_law_whole" s__law_whole ["_law_stream_here"] f__law_whole) (g__law_low : FnAt P w K mg base 1 "_law_low" s__law_low ["_law_top", "_law_bottom"] f__law_low) : FnAt P w K mg base 4 "_law_fraction" s__law_fraction ["_law_stream_here"] f__law_fraction :=
  fn_at T.d__law_fraction sc__law_fraction 1 b__law_fraction (fun f cdv A outer s H E hr tk hp => (pdb_cons (pds_set (i := 1) nd__law_fraction rfl (by first | exact Or.inl rfl | exact Or.inr rfl) (pd_fM g__law_whole (hr.mono (by decide)) tk (pda_cons (pd_var (pv 0)) pda_nil) (aCons_n aNil_n)))
  (pdb_one (pds_ret (pd_f g__law_low (hr.mono (by decide)) tk (pda_cons (pd_var (pv 1)) (pda_cons (pd_op od_add op_add pd_int (pd_b1 cd_abs (pe_callB call_abs (by rfl) T.b_abs boot_abs (pa_cons (pd_fM g__law_whole (hr.mono (by decide)) tk (pda_cons (pd_var (pv 0)) pda_nil) (aCons_n aNil_n)) pa_nil)))) pda_nil)) (aCons_n (aCons_n aNil_n)))))))
theorem sc__law_point : FnScope N__law_point ["_law_stream_here"] (defScope s__law_point) := ⟨rfl, rfl, rfl, by decide +kernel, rfl, by decide +kernel, by decide +kernel⟩
theorem nd__law_point : N__law_point.Nodup := sc__law_point.nd
theorem g__law_point (T : Txt K mg) (g__law_take : FnAt P w K mg base 2 "_law_take" s__law_take ["_law_stream_here", "_law_many"] f__law_take) (g__law_fraction : FnAt P w K mg base 4 "_law_fraction" s__law_fraction ["_law_stream_here"] f__law_fraction) (g__law_tame : FnAt P w K mg base 3 "_law_tame" s__law_tame ["_law_stream_here"] f__law_tame) : FnAt P w K mg base 5 "_law_point" s__law_point ["_law_stream_here"] f__law_point :=
  fn_at T.d__law_point sc__law_point 1 b__law_point (fun f cdv A outer s H E hr tk hp => (pdb_cons (pds_if (pdt_cmp od_eq (op_eqD hr.units) (pd_fM g__law_take (hr.mono (by decide)) tk (pda_cons (pd_var (pv 0)) (pda_cons pd_int pda_nil)) (aCons_n (aCons_n aNil_n))) pd_int (nomark _))
  (pdb_cons (pds_set (i := 1) nd__law_point rfl (by first | exact Or.inl rfl | exact Or.inr rfl) (pd_fM g__law_fraction (hr.mono (by decide)) tk (pda_cons (pd_var (pv 0)) pda_nil) (aCons_n aNil_n)))
  (pdb_one (pds_ret (pd_tup (pda_cons (pd_var (pv 1)) (pda_cons (pd_fM g__law_fraction (hr.mono (by decide)) tk (pda_cons (pd_var (pv 0)) pda_nil) (aCons_n aNil_n)) pda_nil)) (hg := (aCons_len (aCons_len aNil_len)))))))
  pdb_nil)
  (pdb_cons (pds_set (i := 1) nd__law_point rfl (by first | exact Or.inl rfl | exact Or.inr rfl) (pd_fM g__law_tame (hr.mono (by decide)) tk (pda_cons (pd_var (pv 0)) pda_nil) (aCons_n aNil_n)))
  (pdb_one (pds_ret (pd_tup (pda_cons (pd_var (pv 1)) (pda_cons (pd_fM g__law_tame (hr.mono (by decide)) tk (pda_cons (pd_var (pv 0)) pda_nil) (aCons_n aNil_n)) pda_nil)) (hg := (aCons_len (aCons_len aNil_len)))))))))
theorem sc__law_add : FnScope N__law_add ["_law_one", "_law_other"] (defScope s__law_add) := ⟨rfl, rfl, rfl, by decide +kernel, rfl, by decide +kernel, by decide +kernel⟩
theorem nd__law_add : N__law_add.Nodup := sc__law_add.nd
theorem g__law_add (T : Txt K mg) (g__law_low : FnAt P w K mg base 1 "_law_low" s__law_low ["_law_top", "_law_bottom"] f__law_low) : FnAt P w K mg base 2 "_law_add" s__law_add ["_law_one", "_law_other"] f__law_add :=
  fn_at T.d__law_add sc__law_add 0 b__law_add (fun f cdv A outer s H E hr tk hp => (pdb_one (pds_ret (pd_f g__law_low (hr.mono (by decide)) tk (pda_cons (pd_op od_add op_add (pd_op od_mul op_mulW (pd_ix (pd_var (pv 0)) pd_int) (pd_ix (pd_var (pv 1)) pd_int)) (pd_op od_mul op_mulW (pd_ix (pd_var (pv 1)) pd_int) (pd_ix (pd_var (pv 0)) pd_int))) (pda_cons (pd_op od_mul op_mulW (pd_ix (pd_var (pv 0)) pd_int) (pd_ix (pd_var (pv 1)) pd_int)) pda_nil)) (aCons_n (aCons_n aNil_n))))))
theorem sc__law_plus : FnScope N__law_plus ["_law_one", "_law_other"] (defScope s__law_plus) := ⟨rfl, rfl, rfl, by decide +kernel, rfl, by decide +kernel, by decide +kernel⟩
theorem nd__law_plus : N__law_plus.Nodup := sc__law_plus.nd
theorem g__law_plus (T : Txt K mg) (g__law_add : FnAt P w K mg base 2 "_law_add" s__law_add ["_law_one", "_law_other"] f__law_add) : FnAt P w K mg base 3 "_law_plus" s__law_plus ["_law_one", "_law_other"] f__law_plus :=
  fn_at T.d__law_plus sc__law_plus 0 b__law_plus (fun f cdv A outer s H E hr tk hp => (pdb_one (pds_ret (pd_tup (pda_cons (pd_f g__law_add (hr.mono (by decide)) tk (pda_cons (pd_ix (pd_var (pv 0)) pd_int) (pda_cons (pd_ix (pd_var (pv 1)) pd_int) pda_nil)) (aCons_n (aCons_n aNil_n))) (pda_cons (pd_f g__law_add (hr.mono (by decide)) tk (pda_cons (pd_ix (pd_var (pv 0)) pd_int) (pda_cons (pd_ix (pd_var (pv 1)) pd_int) pda_nil)) (aCons_n (aCons_n aNil_n))) pda_nil)) (hg := (aCons_len (aCons_len aNil_len)))))))
theorem sc__law_no_point : FnScope N__law_no_point ["_law_stream_here"] (defScope s__law_no_point) := ⟨rfl, rfl, rfl, by decide +kernel, rfl, by decide +kernel, by decide +kernel⟩
theorem nd__law_no_point : N__law_no_point.Nodup := sc__law_no_point.nd
theorem g__law_no_point (T : Txt K mg) (g__law_take : FnAt P w K mg base 2 "_law_take" s__law_take ["_law_stream_here", "_law_many"] f__law_take) : FnAt P w K mg base 3 "_law_no_point" s__law_no_point ["_law_stream_here"] f__law_no_point :=
  fn_at T.d__law_no_point sc__law_no_point 1 b__law_no_point (fun f cdv A outer s H E hr tk hp => (pdb_cons (pds_set (i := 1) nd__law_no_point rfl (by first | exact Or.inl rfl | exact Or.inr rfl) (pd_lst false (pda_cons pd_non (pda_cons pd_bl (pda_cons pd_int (pda_cons pd_str (pda_cons (pd_lst false pda_nil (hg := aNil_len)) (pda_cons (pd_tup pda_nil (hg := aNil_len)) (pda_cons (pd_tup (pda_cons (pd_tup (pda_cons pd_int (pda_cons pd_int pda_nil)) (hg := (aCons_len (aCons_len aNil_len)))) pda_nil) (hg := (aCons_len aNil_len))) (pda_cons (pd_tup (pda_cons (pd_tup (pda_cons pd_int (pda_cons pd_int pda_nil)) (hg := (aCons_len (aCons_len aNil_len)))) (pda_cons (pd_tup (pda_cons pd_int (pda_cons pd_int pda_nil)) (hg := (aCons_len (aCons_len aNil_len)))) (pda_cons (pd_tup (pda_cons pd_int (pda_cons pd_int pda_nil)) (hg := (aCons_len (aCons_len aNil_len)))) pda_nil))) (hg := (aCons_len (aCons_len (aCons_len aNil_len))))) (pda_cons (pd_lst false (pda_cons (pd_tup (pda_cons pd_int (pda_cons pd_int pda_nil)) (hg := (aCons_len (aCons_len aNil_len)))) (pda_cons (pd_tup (pda_cons pd_int (pda_cons pd_int pda_nil)) (hg := (aCons_len (aCons_len aNil_len)))) pda_nil)) (hg := (aCons_len (aCons_len aNil_len)))) (pda_cons (pd_tup (pda_cons (pd_tup (pda_cons pd_int (pda_cons pd_int pda_nil)) (hg := (aCons_len (aCons_len aNil_len)))) (pda_cons (pd_tup (pda_cons pd_int (pda_cons pd_int pda_nil)) (hg := (aCons_len (aCons_len aNil_len)))) pda_nil)) (hg := (aCons_len (aCons_len aNil_len)))) (pda_cons (pd_tup (pda_cons pd_int (pda_cons pd_int pda_nil)) (hg := (aCons_len (aCons_len aNil_len)))) pda_nil))))))))))) (hg := (aCons_len (aCons_len (aCons_len (aCons_len (aCons_len (aCons_len (aCons_len (aCons_len (aCons_len (aCons_len (aCons_len aNil_len))))))))))))))
  (pdb_cons (pds_set (i := 1) nd__law_no_point rfl (by first | exact Or.inl rfl | exact Or.inr rfl) (pd_op od_cat op_catS (pd_var (pv 1)) (pd_lst false (pda_cons (pd_tup (pda_cons (pd_tup (pda_cons pd_int (pda_cons pd_int pda_nil)) (hg := (aCons_len (aCons_len aNil_len)))) (pda_cons (pd_tup (pda_cons pd_int (pda_cons pd_int pda_nil)) (hg := (aCons_len (aCons_len aNil_len)))) pda_nil)) (hg := (aCons_len (aCons_len aNil_len)))) (pda_cons (pd_tup (pda_cons (pd_tup (pda_cons pd_int (pda_cons pd_int pda_nil)) (hg := (aCons_len (aCons_len aNil_len)))) (pda_cons (pd_lst false (pda_cons pd_int (pda_cons pd_int pda_nil)) (hg := (aCons_len (aCons_len aNil_len)))) pda_nil)) (hg := (aCons_len (aCons_len aNil_len)))) (pda_cons (pd_tup (pda_cons (pd_tup (pda_cons pd_bl (pda_cons pd_int pda_nil)) (hg := (aCons_len (aCons_len aNil_len)))) (pda_cons (pd_tup (pda_cons pd_int (pda_cons pd_int pda_nil)) (hg := (aCons_len (aCons_len aNil_len)))) pda_nil)) (hg := (aCons_len (aCons_len aNil_len)))) (pda_cons (pd_tup (pda_cons (pd_tup (pda_cons pd_int (pda_cons pd_int pda_nil)) (hg := (aCons_len (aCons_len aNil_len)))) (pda_cons pd_non pda_nil)) (hg := (aCons_len (aCons_len aNil_len)))) (pda_cons pd_dct0 (pda_cons (pd_tup (pda_cons (pd_tup (pda_cons pd_int (pda_cons (pd_un ud_neg un_neg pd_int) pda_nil)) (hg := (aCons_len (aCons_len aNil_len)))) (pda_cons (pd_tup (pda_cons pd_int (pda_cons pd_int pda_nil)) (hg := (aCons_len (aCons_len aNil_len)))) pda_nil)) (hg := (aCons_len (aCons_len aNil_len)))) (pda_cons (pd_tup (pda_cons pd_int (pda_cons (pd_tup (pda_cons pd_int (pda_cons pd_int pda_nil)) (hg := (aCons_len (aCons_len aNil_len)))) pda_nil)) (hg := (aCons_len (aCons_len aNil_len)))) pda_nil))))))) (hg := (aCons_len (aCons_len (aCons_len (aCons_len (aCons_len (aCons_len (aCons_len aNil_len)))))))))))
  (pdb_one (pds_ret (pd_ix (pd_var (pv 1)) (pd_fM g__law_take (hr.mono (by decide)) tk (pda_cons (pd_var (pv 0)) (pda_cons (pd_b1 cd_len (pe_callB call_len (by rfl) T.b_len PySem.boot_len (pa_cons (pd_var (pv 1)) pa_nil))) pda_nil)) (aCons_n (aCons_n aNil_n)))))))))
theorem sc__law_mul : FnScope N__law_mul ["_law_one", "_law_other"] (defScope s__law_mul) := ⟨rfl, rfl, rfl, by decide +kernel, rfl, by decide +kernel, by decide +kernel⟩
theorem nd__law_mul : N__law_mul.Nodup := sc__law_mul.nd
theorem g__law_mul (T : Txt K mg) (g__law_low : FnAt P w K mg base 1 "_law_low" s__law_low ["_law_top", "_law_bottom"] f__law_low) : FnAt P w K mg base 2 "_law_mul" s__law_mul ["_law_one", "_law_other"] f__law_mul :=
  fn_at T.d__law_mul sc__law_mul 0 b__law_mul (fun f cdv A outer s H E hr tk hp => (pdb_one (pds_ret (pd_f g__law_low (hr.mono (by decide)) tk (pda_cons (pd_op od_mul op_mulW (pd_ix (pd_var (pv 0)) pd_int) (pd_ix (pd_var (pv 1)) pd_int)) (pda_cons (pd_op od_mul op_mulW (pd_ix (pd_var (pv 0)) pd_int) (pd_ix (pd_var (pv 1)) pd_int)) pda_nil)) (aCons_n (aCons_n aNil_n))))))
theorem sc__law_times : FnScope N__law_times ["_law_step", "_law_factor"] (defScope s__law_times) := ⟨rfl, rfl, rfl, by decide +kernel, rfl, by decide +kernel, by decide +kernel⟩
theorem nd__law_times : N__law_times.Nodup := sc__law_times.nd
theorem g__law_times (T : Txt K mg) (g__law_mul : FnAt P w K mg base 2 "_law_mul" s__law_mul ["_law_one", "_law_other"] f__law_mul) : FnAt P w K mg base 3 "_law_times" s__law_times ["_law_step", "_law_factor"] f__law_times :=
  fn_at T.d__law_times sc__law_times 0 b__law_times (fun f cdv A outer s H E hr tk hp => (pdb_one (pds_ret (pd_tup (pda_cons (pd_f g__law_mul (hr.mono (by decide)) tk (pda_cons (pd_ix (pd_var (pv 0)) pd_int) (pda_cons (pd_var (pv 1)) pda_nil)) (aCons_n (aCons_n aNil_n))) (pda_cons (pd_f g__law_mul (hr.mono (by decide)) tk (pda_cons (pd_ix (pd_var (pv 0)) pd_int) (pda_cons (pd_var (pv 1)) pda_nil)) (aCons_n (aCons_n aNil_n))) pda_nil)) (hg := (aCons_len (aCons_len aNil_len)))))))
theorem sc__law_ray : FnScope N__law_ray ["_law_slope_here"] (defScope s__law_ray) := ⟨rfl, rfl, rfl, by decide +kernel, rfl, by decide +kernel, by decide +kernel⟩
theorem nd__law_ray : N__law_ray.Nodup := sc__law_ray.nd
theorem g__law_ray (T : Txt K mg) (g__law_low : FnAt P w K mg base 1 "_law_low" s__law_low ["_law_top", "_law_bottom"] f__law_low) : FnAt P w K mg base 2 "_law_ray" s__law_ray ["_law_slope_here"] f__law_ray :=
  fn_at T.d__law_ray sc__law_ray 0 b__law_ray (fun f cdv A outer s H E hr tk hp => (pdb_cons (pds_set (i := 1) nd__law_ray rfl (by first | exact Or.inl rfl | exact Or.inr rfl) (pd_op od_mul op_mulW (pd_ix (pd_var (pv 0)) pd_int) (pd_ix (pd_var (pv 0)) pd_int)))
  (pdb_cons (pds_set (i := 2) nd__law_ray rfl (by first | exact Or.inl rfl | exact Or.inr rfl) (pd_op od_mul op_mulW (pd_ix (pd_var (pv 0)) pd_int) (pd_ix (pd_var (pv 0)) pd_int)))
  (pdb_one (pds_ret (pd_tup (pda_cons (pd_f g__law_low (hr.mono (by decide)) tk (pda_cons (pd_op od_sub op_sub (pd_var (pv 2)) (pd_var (pv 1))) (pda_cons (pd_op od_add op_add (pd_var (pv 2)) (pd_var (pv 1))) pda_nil)) (aCons_n (aCons_n aNil_n))) (pda_cons (pd_f g__law_low (hr.mono (by decide)) tk (pda_cons (pd_op od_mul op_mulW (pd_op od_mul op_mulW pd_int (pd_ix (pd_var (pv 0)) pd_int)) (pd_ix (pd_var (pv 0)) pd_int)) (pda_cons (pd_op od_add op_add (pd_var (pv 2)) (pd_var (pv 1))) pda_nil)) (aCons_n (aCons_n aNil_n))) pda_nil)) (hg := (aCons_len (aCons_len aNil_len)))))))))
theorem sc__law_slope : FnScope N__law_slope ["_law_stream_here", "_law_most"] (defScope s__law_slope) := ⟨rfl, rfl, rfl, by decide +kernel, rfl, by decide +kernel, by decide +kernel⟩
theorem nd__law_slope : N__law_slope.Nodup := sc__law_slope.nd
theorem g__law_slope (T : Txt K mg) (g__law_take : FnAt P w K mg base 2 "_law_take" s__law_take ["_law_stream_here", "_law_many"] f__law_take) (g__law_low : FnAt P w K mg base 1 "_law_low" s__law_low ["_law_top", "_law_bottom"] f__law_low) : FnAt P w K mg base 3 "_law_slope" s__law_slope ["_law_stream_here", "_law_most"] f__law_slope :=
  fn_at T.d__law_slope sc__law_slope 1 b__law_slope (fun f cdv A outer s H E hr tk hp => (pdb_cons (pds_set (i := 2) nd__law_slope rfl (by first | exact Or.inl rfl | exact Or.inr rfl) (pd_op od_add op_add pd_int (pd_fM g__law_take (hr.mono (by decide)) tk (pda_cons (pd_var (pv 0)) (pda_cons (pd_var (pv 1)) pda_nil)) (aCons_n (aCons_n aNil_n)))))
  (pdb_one (pds_ret (pd_f g__law_low (hr.mono (by decide)) tk (pda_cons (pd_var (pv 2)) (pda_cons (pd_op od_add op_add pd_int (pd_fM g__law_take (hr.mono (by decide)) tk (pda_cons (pd_var (pv 0)) (pda_cons (pd_var (pv 1)) pda_nil)) (aCons_n (aCons_n aNil_n)))) pda_nil)) (aCons_n (aCons_n aNil_n)))))))
theorem sc__law_sub : FnScope N__law_sub ["_law_one", "_law_other"] (defScope s__law_sub) := ⟨rfl, rfl, rfl, by decide +kernel, rfl, by decide +kernel, by decide +kernel⟩
theorem nd__law_sub : N__law_sub.Nodup := sc__law_sub.nd
theorem g__law_sub (T : Txt K mg) (g__law_low : FnAt P w K mg base 1 "_law_low" s__law_low ["_law_top", "_law_bottom"] f__law_low) : FnAt P w K mg base 2 "_law_sub" s__law_sub ["_law_one", "_law_other"] f__law_sub :=
  fn_at T.d__law_sub sc__law_sub 0 b__law_sub (fun f cdv A outer s H E hr tk hp => (pdb_one (pds_ret (pd_f g__law_low (hr.mono (by decide)) tk (pda_cons (pd_op od_sub op_sub (pd_op od_mul op_mulW (pd_ix (pd_var (pv 0)) pd_int) (pd_ix (pd_var (pv 1)) pd_int)) (pd_op od_mul op_mulW (pd_ix (pd_var (pv 1)) pd_int) (pd_ix (pd_var (pv 0)) pd_int))) (pda_cons (pd_op od_mul op_mulW (pd_ix (pd_var (pv 0)) pd_int) (pd_ix (pd_var (pv 1)) pd_int)) pda_nil)) (aCons_n (aCons_n aNil_n))))))
theorem sc__law_minus : FnScope N__law_minus ["_law_one", "_law_other"] (defScope s__law_minus) := ⟨rfl, rfl, rfl, by decide +kernel, rfl, by decide +kernel, by decide +kernel⟩
theorem nd__law_minus : N__law_minus.Nodup := sc__law_minus.nd
theorem g__law_minus (T : Txt K mg) (g__law_sub : FnAt P w K mg base 2 "_law_sub" s__law_sub ["_law_one", "_law_other"] f__law_sub) : FnAt P w K mg base 3 "_law_minus" s__law_minus ["_law_one", "_law_other"] f__law_minus :=
  fn_at T.d__law_minus sc__law_minus 0 b__law_minus (fun f cdv A outer s H E hr tk hp => (pdb_one (pds_ret (pd_tup (pda_cons (pd_f g__law_sub (hr.mono (by decide)) tk (pda_cons (pd_ix (pd_var (pv 0)) pd_int) (pda_cons (pd_ix (pd_var (pv 1)) pd_int) pda_nil)) (aCons_n (aCons_n aNil_n))) (pda_cons (pd_f g__law_sub (hr.mono (by decide)) tk (pda_cons (pd_ix (pd_var (pv 0)) pd_int) (pda_cons (pd_ix (pd_var (pv 1)) pd_int) pda_nil)) (aCons_n (aCons_n aNil_n))) pda_nil)) (hg := (aCons_len (aCons_len aNil_len)))))))
theorem sc__law_triple : FnScope N__law_triple ["_law_stream_here"] (defScope s__law_triple) := ⟨rfl, rfl, rfl, by decide +kernel, rfl, by decide +kernel, by decide +kernel⟩
theorem nd__law_triple : N__law_triple.Nodup := sc__law_triple.nd
theorem g__law_triple (T : Txt K mg) (g__law_take : FnAt P w K mg base 2 "_law_take" s__law_take ["_law_stream_here", "_law_many"] f__law_take) (g__law_point : FnAt P w K mg base 5 "_law_point" s__law_point ["_law_stream_here"] f__law_point) (g__law_tame : FnAt P w K mg base 3 "_law_tame" s__law_tame ["_law_stream_here"] f__law_tame) (g__law_low : FnAt P w K mg base 1 "_law_low" s__law_low ["_law_top", "_law_bottom"] f__law_low) (g__law_plus : FnAt P w K mg base 3 "_law_plus" s__law_plus ["_law_one", "_law_other"] f__law_plus) (g__law_times : FnAt P w K mg base 3 "_law_times" s__law_times ["_law_step", "_law_factor"] f__law_times) (g__law_slope : FnAt P w K mg base 3 "_law_slope" s__law_slope ["_law_stream_here", "_law_most"] f__law_slope) (g__law_ray : FnAt P w K mg base 2 "_law_ray" s__law_ray ["_law_slope_here"] f__law_ray) (g__law_minus : FnAt P w K mg base 3 "_law_minus" s__law_minus ["_law_one", "_law_other"] f__law_minus) (g__law_no_point : FnAt P w K mg base 3 "_law_no_point" s__law_no_point ["_law_stream_here"] f__law_no_point) : FnAt P w K mg base 6 "_law_triple" s__law_triple ["_law_stream_here"] f__law_triple :=
  fn_at T.d__law_triple sc__law_triple 1 b__law_triple (fun f cdv A outer s H E hr tk hp => (pdb_cons (pds_set (i := 1) nd__law_triple rfl (by first | exact Or.inl rfl | exact Or.inr rfl) (pd_fM g__law_take (hr.mono (by decide)) tk (pda_cons (pd_var (pv 0)) (pda_cons pd_int pda_nil)) (aCons_n (aCons_n aNil_n))))
  (pdb_cons (pds_set (i := 2) nd__law_triple rfl (by first | exact Or.inl rfl | exact Or.inr rfl) (pd_fM g__law_take (hr.mono (by decide)) tk (pda_cons (pd_var (pv 0)) (pda_cons pd_int pda_nil)) (aCons_n (aCons_n aNil_n))))
  (pdb_cons (pds_set (i := 3) nd__law_triple rfl (by first | exact Or.inl rfl | exact Or.inr rfl) (pd_fM g__law_take (hr.mono (by decide)) tk (pda_cons (pd_var (pv 0)) (pda_cons pd_int pda_nil)) (aCons_n (aCons_n aNil_n))))
  (pdb_cons (pds_setComp (own := [("_law_k", 8)]) (i := 4) true (gk_name 8) (gw_name 8) rfl nd__law_triple rfl rfl (sw_true rfl rfl rfl (by decide +kernel)) (pdi_rng1 (pi_range1 rfl T.b_range (pa_cons pd_int pa_nil))) (blkOk_by (own := [("_law_k", 8)]) (N := N__law_triple) (sc := defScope s__law_triple) (by decide +kernel)) (fun _ _ _ _ _ => (pg_name (i := 8) nd__law_triple rfl (by first | exact Or.inl rfl | exact Or.inr rfl))) (fun _ _ _ _ _ => ptds_nil) (fun _ _ _ _ _ => (pd_fM g__law_point (hr.mono (by decide)) takes0 (pda_cons (pd_var (pv 0)) pda_nil) (aCons_n aNil_n))))
  (pdb_cons (pds_set (i := 5) nd__law_triple rfl (by first | exact Or.inl rfl | exact Or.inr rfl) (pd_fM g__law_tame (hr.mono (by decide)) tk (pda_cons (pd_var (pv 0)) pda_nil) (aCons_n aNil_n)))
  (pdb_cons (pds_set (i := 6) nd__law_triple rfl (by first | exact Or.inl rfl | exact Or.inr rfl) (pd_tup (pda_cons (pd_var (pv 5)) (pda_cons (pd_fM g__law_tame (hr.mono (by decide)) tk (pda_cons (pd_var (pv 0)) pda_nil) (aCons_n aNil_n)) pda_nil)) (hg := (aCons_len (aCons_len aNil_len)))))
  (pdb_cons (pds_set (i := 7) nd__law_triple rfl (by first | exact Or.inl rfl | exact Or.inr rfl) (pd_f g__law_low (hr.mono (by decide)) tk (pda_cons (pd_op od_sub op_sub (pd_fM g__law_take (hr.mono (by decide)) tk (pda_cons (pd_var (pv 0)) (pda_cons pd_int pda_nil)) (aCons_n (aCons_n aNil_n))) pd_int) (pda_cons (pd_op od_add op_add pd_int (pd_fM g__law_take (hr.mono (by decide)) tk (pda_cons (pd_var (pv 0)) (pda_cons pd_int pda_nil)) (aCons_n (aCons_n aNil_n)))) pda_nil)) (aCons_n (aCons_n aNil_n))))
  (pdb_cons (pds_if (pdt_cmp od_eq (op_eqD hr.units) (pd_var (pv 2)) pd_int (nomark _))
  (pdb_cons (pds_setIx (pd_var (pv 4)) pd_int (pd_var (pv 6)))
  (pdb_one (pds_setIx (pd_var (pv 4)) pd_int (pd_f g__law_plus (hr.mono (by decide)) tk (pda_cons (pd_var (pv 6)) (pda_cons (pd_f g__law_times (hr.mono (by decide)) tk (pda_cons (pd_f g__law_ray (hr.mono (by decide)) tk (pda_cons (pd_var (pv 7)) pda_nil) (aCons_n aNil_n)) (pda_cons (pd_fM g__law_slope (hr.mono (by decide)) tk (pda_cons (pd_var (pv 0)) (pda_cons pd_int pda_nil)) (aCons_n (aCons_n aNil_n))) pda_nil)) (aCons_n (aCons_n aNil_n))) pda_nil)) (aCons_n (aCons_n aNil_n))))))
  pdb_nil)
  (pdb_cons (pds_if (pdt_cmp od_eq (op_eqD hr.units) (pd_var (pv 3)) pd_int (nomark _))
  (pdb_cons (pds_setIx (pd_var (pv 4)) pd_int (pd_var (pv 6)))
  (pdb_cons (pds_setIx (pd_var (pv 4)) pd_int (pd_tup (pda_cons (pd_fM g__law_tame (hr.mono (by decide)) tk (pda_cons (pd_var (pv 0)) pda_nil) (aCons_n aNil_n)) (pda_cons (pd_var (pv 5)) pda_nil)) (hg := (aCons_len (aCons_len aNil_len)))))
  (pdb_one (pds_setIx (pd_var (pv 4)) pd_int (pd_f g__law_plus (hr.mono (by decide)) tk (pda_cons (pd_var (pv 6)) (pda_cons (pd_f g__law_times (hr.mono (by decide)) tk (pda_cons (pd_f g__law_minus (hr.mono (by decide)) tk (pda_cons (pd_ix (pd_var (pv 4)) pd_int) (pda_cons (pd_var (pv 6)) pda_nil)) (aCons_n (aCons_n aNil_n))) (pda_cons (pd_fM g__law_tame (hr.mono (by decide)) tk (pda_cons (pd_var (pv 0)) pda_nil) (aCons_n aNil_n)) pda_nil)) (aCons_n (aCons_n aNil_n))) pda_nil)) (aCons_n (aCons_n aNil_n)))))))
  pdb_nil)
  (pdb_cons (pds_if (pdt_cmp od_eq (op_eqD hr.units) (pd_var (pv 3)) pd_int (nomark _))
  (pdb_one (pds_setIx (pd_var (pv 4)) pd_int (pd_ix (pd_var (pv 4)) (pd_fM g__law_take (hr.mono (by decide)) tk (pda_cons (pd_var (pv 0)) (pda_cons pd_int pda_nil)) (aCons_n (aCons_n aNil_n))))))
  pdb_nil)
  (pdb_cons (pds_if (pdt_cmp od_eq (op_eqD hr.units) (pd_var (pv 3)) pd_int (nomark _))
  (pdb_one (pds_setIx (pd_var (pv 4)) pd_int (pd_ix (pd_var (pv 4)) pd_int)))
  pdb_nil)
  (pdb_cons (pds_if (pdt_cmp od_lt op_lt (pd_var (pv 1)) pd_int (nomark _))
  (pdb_one (pds_setIx (pd_var (pv 4)) (pd_var (pv 1)) (pd_fM g__law_no_point (hr.mono (by decide)) tk (pda_cons (pd_var (pv 0)) pda_nil) (aCons_n aNil_n))))
  pdb_nil)
  (pdb_one (pds_ret (pd_var (pv 4)))))))))))))))))
theorem sc__law_flat : FnScope N__law_flat ["_law_point_here"] (defScope s__law_flat) := ⟨rfl, rfl, rfl, by decide +kernel, rfl, by decide +kernel, by decide +kernel⟩
theorem nd__law_flat : N__law_flat.Nodup := sc__law_flat.nd
theorem g__law_flat (T : Txt K mg)  : FnAt P w K mg base 1 "_law_flat" s__law_flat ["_law_point_here"] f__law_flat :=
  fn_at T.d__law_flat sc__law_flat 0 b__law_flat (fun f cdv A outer s H E hr tk hp => (pdb_one (pds_ret (pd_tup (pda_cons (pd_op od_mul op_mulW (pd_ix (pd_ix (pd_var (pv 0)) pd_int) pd_int) (pd_ix (pd_ix (pd_var (pv 0)) pd_int) pd_int)) (pda_cons (pd_op od_mul op_mulW (pd_ix (pd_ix (pd_var (pv 0)) pd_int) pd_int) (pd_ix (pd_ix (pd_var (pv 0)) pd_int) pd_int)) (pda_cons (pd_op od_mul op_mulW (pd_ix (pd_ix (pd_var (pv 0)) pd_int) pd_int) (pd_ix (pd_ix (pd_var (pv 0)) pd_int) pd_int)) pda_nil))) (hg := (aCons_len (aCons_len (aCons_len aNil_len))))))))
theorem sc__law_side : FnScope N__law_side ["_law_one", "_law_other", "_law_third"] (defScope s__law_side) := ⟨rfl, rfl, rfl, by decide +kernel, rfl, by decide +kernel, by decide +kernel⟩
theorem nd__law_side : N__law_side.Nodup := sc__law_side.nd
theorem g__law_side (T : Txt K mg) (g__law_flat : FnAt P w K mg base 1 "_law_flat" s__law_flat ["_law_point_here"] f__law_flat) : FnAt P w K mg base 2 "_law_side" s__law_side ["_law_one", "_law_other", "_law_third"] f__law_side :=
  fn_at T.d__law_side sc__law_side 0 b__law_side (fun f cdv A outer s H E hr tk hp => (pdb_cons (pds_set (i := 3) nd__law_side rfl (by first | exact Or.inl rfl | exact Or.inr rfl) (pd_f g__law_flat (hr.mono (by decide)) tk (pda_cons (pd_var (pv 0)) pda_nil) (aCons_n aNil_n)))
  (pdb_cons (pds_set (i := 4) nd__law_side rfl (by first | exact Or.inl rfl | exact Or.inr rfl) (pd_f g__law_flat (hr.mono (by decide)) tk (pda_cons (pd_var (pv 1)) pda_nil) (aCons_n aNil_n)))
  (pdb_cons (pds_set (i := 5) nd__law_side rfl (by first | exact Or.inl rfl | exact Or.inr rfl) (pd_f g__law_flat (hr.mono (by decide)) tk (pda_cons (pd_var (pv 2)) pda_nil) (aCons_n aNil_n)))
  (pdb_cons (pds_set (i := 6) nd__law_side rfl (by first | exact Or.inl rfl | exact Or.inr rfl) (pd_op od_sub op_sub (pd_op od_mul op_mulW (pd_ix (pd_var (pv 3)) pd_int) (pd_op od_sub op_sub (pd_op od_mul op_mulW (pd_ix (pd_var (pv 4)) pd_int) (pd_ix (pd_var (pv 5)) pd_int)) (pd_op od_mul op_mulW (pd_ix (pd_var (pv 5)) pd_int) (pd_ix (pd_var (pv 4)) pd_int)))) (pd_op od_mul op_mulW (pd_ix (pd_var (pv 3)) pd_int) (pd_op od_sub op_sub (pd_op od_mul op_mulW (pd_ix (pd_var (pv 4)) pd_int) (pd_ix (pd_var (pv 5)) pd_int)) (pd_op od_mul op_mulW (pd_ix (pd_var (pv 5)) pd_int) (pd_ix (pd_var (pv 4)) pd_int))))))
  (pdb_cons (pds_set (i := 6) nd__law_side rfl (by first | exact Or.inl rfl | exact Or.inr rfl) (pd_op od_add op_add (pd_var (pv 6)) (pd_op od_mul op_mulW (pd_ix (pd_var (pv 3)) pd_int) (pd_op od_sub op_sub (pd_op od_mul op_mulW (pd_ix (pd_var (pv 4)) pd_int) (pd_ix (pd_var (pv 5)) pd_int)) (pd_op od_mul op_mulW (pd_ix (pd_var (pv 5)) pd_int) (pd_ix (pd_var (pv 4)) pd_int))))))
  (pdb_one (pds_ret (pd_op od_sub op_sub (pd_b1 cd_int (pe_callTy call_int1 (by rfl) T.b_int boot_int (pa_cons (pd_cmp od_gt op_gt (pd_var (pv 6)) pd_int (nomark _)) pa_nil))) (pd_b1 cd_int (pe_callTy call_int1 (by rfl) T.b_int boot_int (pa_cons (pd_cmp od_lt op_lt (pd_var (pv 6)) pd_int (nomark _)) pa_nil))))))))))))
theorem sc_whole_triple : FnScope N_whole_triple ["point"] (defScope s_whole_triple) := ⟨rfl, rfl, rfl, by decide +kernel, rfl, by decide +kernel, by decide +kernel⟩
theorem nd_whole_triple : N_whole_triple.Nodup := sc_whole_triple.nd
theorem g_whole_triple (T : Txt K mg)  : FnAt P w K mg base 1 "whole_triple" s_whole_triple ["point"] f_whole_triple :=
  fn_at T.d_whole_triple sc_whole_triple 0 b_whole_triple (fun f cdv A outer s H E hr tk hp => (pdb_cons (pds_unp (gk_tup [1, 2]) (pd_var (pv 0)) (pg_tup rfl (pgs_cons (pg_name (i := 1) nd_whole_triple rfl (by first | exact Or.inl rfl | exact Or.inr rfl)) (pgs_cons (pg_name (i := 2) nd_whole_triple rfl (by first | exact Or.inl rfl | exact Or.inr rfl)) pgs_nil))))
  (pdb_one (pds_ret (pd_tup (pda_cons (pd_op od_mul op_mulW (pd_ix (pd_var (pv 1)) pd_int) (pd_ix (pd_var (pv 2)) pd_int)) (pda_cons (pd_op od_mul op_mulW (pd_ix (pd_var (pv 2)) pd_int) (pd_ix (pd_var (pv 1)) pd_int)) (pda_cons (pd_op od_mul op_mulW (pd_ix (pd_var (pv 1)) pd_int) (pd_ix (pd_var (pv 2)) pd_int)) pda_nil))) (hg := (aCons_len (aCons_len (aCons_len aNil_len)))))))))
theorem sc_side_sign : FnScope N_side_sign ["one", "other", "third"] (defScope s_side_sign) := ⟨rfl, rfl, rfl, by decide +kernel, rfl, by decide +kernel, by decide +kernel⟩
theorem nd_side_sign : N_side_sign.Nodup := sc_side_sign.nd
theorem g_side_sign (T : Txt K mg) (g_whole_triple : FnAt P w K mg base 1 "whole_triple" s_whole_triple ["point"] f_whole_triple) : FnAt P w K mg base 2 "side_sign" s_side_sign ["one", "other", "third"] f_side_sign :=
  fn_at T.d_side_sign sc_side_sign 0 b_side_sign (fun f cdv A outer s H E hr tk hp => (pdb_cons (pds_unp (gk_tup [4, 5, 6]) (pd_f g_whole_triple (hr.mono (by decide)) tk (pda_cons (pd_var (pv 0)) pda_nil) (aCons_n aNil_n)) (pg_tup rfl (pgs_cons (pg_name (i := 4) nd_side_sign rfl (by first | exact Or.inl rfl | exact Or.inr rfl)) (pgs_cons (pg_name (i := 5) nd_side_sign rfl (by first | exact Or.inl rfl | exact Or.inr rfl)) (pgs_cons (pg_name (i := 6) nd_side_sign rfl (by first | exact Or.inl rfl | exact Or.inr rfl)) pgs_nil)))))
  (pdb_cons (pds_unp (gk_tup [7, 8, 9]) (pd_f g_whole_triple (hr.mono (by decide)) tk (pda_cons (pd_var (pv 1)) pda_nil) (aCons_n aNil_n)) (pg_tup rfl (pgs_cons (pg_name (i := 7) nd_side_sign rfl (by first | exact Or.inl rfl | exact Or.inr rfl)) (pgs_cons (pg_name (i := 8) nd_side_sign rfl (by first | exact Or.inl rfl | exact Or.inr rfl)) (pgs_cons (pg_name (i := 9) nd_side_sign rfl (by first | exact Or.inl rfl | exact Or.inr rfl)) pgs_nil)))))
  (pdb_cons (pds_unp (gk_tup [10, 11, 12]) (pd_f g_whole_triple (hr.mono (by decide)) tk (pda_cons (pd_var (pv 2)) pda_nil) (aCons_n aNil_n)) (pg_tup rfl (pgs_cons (pg_name (i := 10) nd_side_sign rfl (by first | exact Or.inl rfl | exact Or.inr rfl)) (pgs_cons (pg_name (i := 11) nd_side_sign rfl (by first | exact Or.inl rfl | exact Or.inr rfl)) (pgs_cons (pg_name (i := 12) nd_side_sign rfl (by first | exact Or.inl rfl | exact Or.inr rfl)) pgs_nil)))))
  (pdb_cons (pds_set (i := 3) nd_side_sign rfl (by first | exact Or.inl rfl | exact Or.inr rfl) (pd_op od_add op_add (pd_op od_sub op_sub (pd_op od_mul op_mulW (pd_var (pv 4)) (pd_op od_sub op_sub (pd_op od_mul op_mulW (pd_var (pv 8)) (pd_var (pv 12))) (pd_op od_mul op_mulW (pd_var (pv 11)) (pd_var (pv 9))))) (pd_op od_mul op_mulW (pd_var (pv 5)) (pd_op od_sub op_sub (pd_op od_mul op_mulW (pd_var (pv 7)) (pd_var (pv 12))) (pd_op od_mul op_mulW (pd_var (pv 10)) (pd_var (pv 9)))))) (pd_op od_mul op_mulW (pd_var (pv 6)) (pd_op od_sub op_sub (pd_op od_mul op_mulW (pd_var (pv 7)) (pd_var (pv 11))) (pd_op od_mul op_mulW (pd_var (pv 10)) (pd_var (pv 8)))))))
  (pdb_one (pds_ret (pd_op od_sub op_sub (pd_b1 cd_int (pe_callTy call_int1 (by rfl) T.b_int boot_int (pa_cons (pd_cmp od_gt op_gt (pd_var (pv 3)) pd_int (nomark _)) pa_nil))) (pd_b1 cd_int (pe_callTy call_int1 (by rfl) T.b_int boot_int (pa_cons (pd_cmp od_lt op_lt (pd_var (pv 3)) pd_int (nomark _)) pa_nil)))))))))))
theorem sc_common_part : FnScope N_common_part ["one", "other"] (defScope s_common_part) := ⟨rfl, rfl, rfl, by decide +kernel, rfl, by decide +kernel, by decide +kernel⟩
theorem nd_common_part : N_common_part.Nodup := sc_common_part.nd
theorem g_common_part (T : Txt K mg)  : FnAt P w K mg base 1 "common_part" s_common_part ["one", "other"] f_common_part :=
  fn_at T.d_common_part sc_common_part 0 b_common_part (fun f cdv A outer s H E hr tk hp => (pdb_cons (pds_set (i := 0) nd_common_part rfl (by first | exact Or.inl rfl | exact Or.inr rfl) (pd_b1 cd_abs (pe_callB call_abs (by rfl) T.b_abs boot_abs (pa_cons (pd_var (pv 0)) pa_nil))))
  (pdb_cons (pds_set (i := 1) nd_common_part rfl (by first | exact Or.inl rfl | exact Or.inr rfl) (pd_b1 cd_abs (pe_callB call_abs (by rfl) T.b_abs boot_abs (pa_cons (pd_var (pv 1)) pa_nil))))
  (pdb_cons (pds_while hp (pdt_cmp od_gt op_gt (pd_var (pv 1)) pd_int (nomark _))
  (pdb_one (pds_par (i := 0) (j := 1) (ps_par rfl nd_common_part rfl rfl (by decide) rfl rfl (pda_cons (pd_var (pv 1)) (pda_cons (pd_op od_mod op_modN (pd_var (pv 0)) (pd_var (pv 1))) pda_nil)) (by rfl)))))
  (pdb_one (pds_ret (pd_var (pv 0))))))))
theorem sc_is_integer : FnScope N_is_integer ["thing"] (defScope s_is_integer) := ⟨rfl, rfl, rfl, by decide +kernel, rfl, by decide +kernel, by decide +kernel⟩
theorem nd_is_integer : N_is_integer.Nodup := sc_is_integer.nd
theorem g_is_integer (T : Txt K mg)  : FnAt P w K mg base 1 "is_integer" s_is_integer ["thing"] f_is_integer :=
  fn_at T.d_is_integer sc_is_integer 0 b_is_integer (fun f cdv A outer s H E hr tk hp => (pdb_one (pds_ret (pd_and (pd_isi1 .int (pe_callB call_isi (by rfl) T.b_isinstance boot_isinstance (pa_cons (pd_var (pv 0)) (pa_cons (pe_bltn (v := .ty "int") (by rfl) T.b_int (by decide +kernel) rfl) pa_nil)))) (pd_one (pd_not (pd_isi1 .bool (pe_callB call_isi (by rfl) T.b_isinstance boot_isinstance (pa_cons (pd_var (pv 0)) (pa_cons (pe_bltn (v := .ty "bool") (by rfl) T.b_bool (by decide +kernel) rfl) pa_nil))))))))))
theorem sc_is_fraction : FnScope N_is_fraction ["thing"] (defScope s_is_fraction) := ⟨rfl, rfl, rfl, by decide +kernel, rfl, by decide +kernel, by decide +kernel⟩
theorem nd_is_fraction : N_is_fraction.Nodup := sc_is_fraction.nd
theorem g_is_fraction (T : Txt K mg) (g_is_integer : FnAt P w K mg base 1 "is_integer" s_is_integer ["thing"] f_is_integer) (g_common_part : FnAt P w K mg base 1 "common_part" s_common_part ["one", "other"] f_common_part) : FnAt P w K mg base 2 "is_fraction" s_is_fraction ["thing"] f_is_fraction :=
  fn_at T.d_is_fraction sc_is_fraction 0 b_is_fraction (fun f cdv A outer s H E hr tk hp => (pdb_cons (pds_if (PW.pt (pdw_or (pdt_not (pdt_val (pd_isi1 .tuple (pe_callB call_isi (by rfl) T.b_isinstance boot_isinstance (pa_cons (pd_var (pv 0)) (pa_cons (pe_bltn (v := .ty "tuple") (by rfl) T.b_tuple (by decide +kernel) rfl) pa_nil)))))) (pdw_or1 (pdt_cmp od_ne (op_neD hr.units) (pd_b1 cd_len (pe_callB call_len (by rfl) T.b_len PySem.boot_len (pa_cons (pd_var (pv 0)) pa_nil))) pd_int (nomark _)))))
  (pdb_one (pds_ret pd_bl))
  pdb_nil)
  (pdb_cons (pds_if (PW.pt (pdw_or (pdt_not (pdt_val (pd_f g_is_integer (hr.mono (by decide)) tk (pda_cons (pd_ix (pd_var (pv 0)) pd_int) pda_nil) (aCons_n aNil_n)))) (pdw_or (pdt_not (pdt_val (pd_f g_is_integer (hr.mono (by decide)) tk (pda_cons (pd_ix (pd_var (pv 0)) pd_int) pda_nil) (aCons_n aNil_n)))) (pdw_or1 (pdt_cmp od_lt op_lt (pd_ix (pd_var (pv 0)) pd_int) pd_int (nomark _))))))
  (pdb_one (pds_ret pd_bl))
  pdb_nil)
  (pdb_one (pds_ret (pd_cmp od_eq (op_eqD hr.units) (pd_f g_common_part (hr.mono (by decide)) tk (pda_cons (pd_ix (pd_var (pv 0)) pd_int) (pda_cons (pd_ix (pd_var (pv 0)) pd_int) pda_nil)) (aCons_n (aCons_n aNil_n))) pd_int (nomark _)))))))
theorem sc_is_point : FnScope N_is_point ["thing"] (defScope s_is_point) := ⟨rfl, rfl, rfl, by decide +kernel, rfl, by decide +kernel, by decide +kernel⟩
theorem nd_is_point : N_is_point.Nodup := sc_is_point.nd
theorem g_is_point (T : Txt K mg) (g_is_fraction : FnAt P w K mg base 2 "is_fraction" s_is_fraction ["thing"] f_is_fraction) : FnAt P w K mg base 3 "is_point" s_is_point ["thing"] f_is_point :=
  fn_at T.d_is_point sc_is_point 0 b_is_point (fun f cdv A outer s H E hr tk hp => (pdb_one (pds_ret (pd_and (pd_isi1 .tuple (pe_callB call_isi (by rfl) T.b_isinstance boot_isinstance (pa_cons (pd_var (pv 0)) (pa_cons (pe_bltn (v := .ty "tuple") (by rfl) T.b_tuple (by decide +kernel) rfl) pa_nil)))) (pd_and (pd_cmp od_eq (op_eqD hr.units) (pd_b1 cd_len (pe_callB call_len (by rfl) T.b_len PySem.boot_len (pa_cons (pd_var (pv 0)) pa_nil))) pd_int (nomark _)) (pd_and (pd_f g_is_fraction (hr.mono (by decide)) tk (pda_cons (pd_ix (pd_var (pv 0)) pd_int) pda_nil) (aCons_n aNil_n)) (pd_one (pd_f g_is_fraction (hr.mono (by decide)) tk (pda_cons (pd_ix (pd_var (pv 0)) pd_int) pda_nil) (aCons_n aNil_n)))))))))
theorem sc_turn_of : FnScope N_turn_of ["one", "other", "third"] (defScope s_turn_of) := ⟨rfl, rfl, rfl, by decide +kernel, rfl, by decide +kernel, by decide +kernel⟩
theorem nd_turn_of : N_turn_of.Nodup := sc_turn_of.nd
theorem g_turn_of (T : Txt K mg) (g_is_point : FnAt P w K mg base 3 "is_point" s_is_point ["thing"] f_is_point) (g_side_sign : FnAt P w K mg base 2 "side_sign" s_side_sign ["one", "other", "third"] f_side_sign) : FnAt P w K mg base 4 "turn_of" s_turn_of ["one", "other", "third"] f_turn_of :=
  fn_at T.d_turn_of sc_turn_of 0 b_turn_of (fun f cdv A outer s H E hr tk hp => (pdb_cons (pds_if (PW.pt (pdw_or (pdt_not (pdt_val (pd_f g_is_point (hr.mono (by decide)) tk (pda_cons (pd_var (pv 0)) pda_nil) (aCons_n aNil_n)))) (pdw_or (pdt_not (pdt_val (pd_f g_is_point (hr.mono (by decide)) tk (pda_cons (pd_var (pv 1)) pda_nil) (aCons_n aNil_n)))) (pdw_or1 (pdt_not (pdt_val (pd_f g_is_point (hr.mono (by decide)) tk (pda_cons (pd_var (pv 2)) pda_nil) (aCons_n aNil_n))))))))
  (pdb_one (pds_raise0 (x := "NoPoint") rfl tk T.x_NoPoint))
  pdb_nil)
  (pdb_one (pds_ret (pd_f g_side_sign (hr.mono (by decide)) tk (pda_cons (pd_var (pv 0)) (pda_cons (pd_var (pv 1)) (pda_cons (pd_var (pv 2)) pda_nil))) (aCons_n (aCons_n (aCons_n aNil_n))))))))
theorem sc__law_is_integer : FnScope N__law_is_integer ["_law_thing"] (defScope s__law_is_integer) := ⟨rfl, rfl, rfl, by decide +kernel, rfl, by decide +kernel, by decide +kernel⟩
theorem nd__law_is_integer : N__law_is_integer.Nodup := sc__law_is_integer.nd
theorem g__law_is_integer (T : Txt K mg)  : FnAt P w K mg base 1 "_law_is_integer" s__law_is_integer ["_law_thing"] f__law_is_integer :=
  fn_at T.d__law_is_integer sc__law_is_integer 0 b__law_is_integer (fun f cdv A outer s H E hr tk hp => (pdb_one (pds_ret (pd_and (pd_isi1 .int (pe_callB call_isi (by rfl) T.b_isinstance boot_isinstance (pa_cons (pd_var (pv 0)) (pa_cons (pe_bltn (v := .ty "int") (by rfl) T.b_int (by decide +kernel) rfl) pa_nil)))) (pd_one (pd_not (pd_isi1 .bool (pe_callB call_isi (by rfl) T.b_isinstance boot_isinstance (pa_cons (pd_var (pv 0)) (pa_cons (pe_bltn (v := .ty "bool") (by rfl) T.b_bool (by decide +kernel) rfl) pa_nil))))))))))
theorem sc__law_is_frac : FnScope N__law_is_frac ["_law_thing"] (defScope s__law_is_frac) := ⟨rfl, rfl, rfl, by decide +kernel, rfl, by decide +kernel, by decide +kernel⟩
theorem nd__law_is_frac : N__law_is_frac.Nodup := sc__law_is_frac.nd
theorem g__law_is_frac (T : Txt K mg) (g__law_is_integer : FnAt P w K mg base 1 "_law_is_integer" s__law_is_integer ["_law_thing"] f__law_is_integer) (g__law_low : FnAt P w K mg base 1 "_law_low" s__law_low ["_law_top", "_law_bottom"] f__law_low) : FnAt P w K mg base 2 "_law_is_frac" s__law_is_frac ["_law_thing"] f__law_is_frac :=
  fn_at T.d__law_is_frac sc__law_is_frac 0 b__law_is_frac (fun f cdv A outer s H E hr tk hp => (pdb_cons (pds_if (PW.pt (pdw_or (pdt_not (pdt_val (pd_isi1 .tuple (pe_callB call_isi (by rfl) T.b_isinstance boot_isinstance (pa_cons (pd_var (pv 0)) (pa_cons (pe_bltn (v := .ty "tuple") (by rfl) T.b_tuple (by decide +kernel) rfl) pa_nil)))))) (pdw_or1 (pdt_cmp od_ne (op_neD hr.units) (pd_b1 cd_len (pe_callB call_len (by rfl) T.b_len PySem.boot_len (pa_cons (pd_var (pv 0)) pa_nil))) pd_int (nomark _)))))
  (pdb_one (pds_ret pd_bl))
  pdb_nil)
  (pdb_cons (pds_if (PW.pt (pdw_or (pdt_not (pdt_val (pd_f g__law_is_integer (hr.mono (by decide)) tk (pda_cons (pd_ix (pd_var (pv 0)) pd_int) pda_nil) (aCons_n aNil_n)))) (pdw_or (pdt_not (pdt_val (pd_f g__law_is_integer (hr.mono (by decide)) tk (pda_cons (pd_ix (pd_var (pv 0)) pd_int) pda_nil) (aCons_n aNil_n)))) (pdw_or1 (pdt_cmp od_lt op_lt (pd_ix (pd_var (pv 0)) pd_int) pd_int (nomark _))))))
  (pdb_one (pds_ret pd_bl))
  pdb_nil)
  (pdb_one (pds_ret (pd_cmp od_eq (op_eqD hr.units) (pd_f g__law_low (hr.mono (by decide)) tk (pda_cons (pd_ix (pd_var (pv 0)) pd_int) (pda_cons (pd_ix (pd_var (pv 0)) pd_int) pda_nil)) (aCons_n (aCons_n aNil_n))) (pd_var (pv 0)) (nomark _)))))))
theorem sc__law_is_point : FnScope N__law_is_point ["_law_thing"] (defScope s__law_is_point) := ⟨rfl, rfl, rfl, by decide +kernel, rfl, by decide +kernel, by decide +kernel⟩
theorem nd__law_is_point : N__law_is_point.Nodup := sc__law_is_point.nd
theorem g__law_is_point (T : Txt K mg) (g__law_is_frac : FnAt P w K mg base 2 "_law_is_frac" s__law_is_frac ["_law_thing"] f__law_is_frac) : FnAt P w K mg base 3 "_law_is_point" s__law_is_point ["_law_thing"] f__law_is_point :=
  fn_at T.d__law_is_point sc__law_is_point 0 b__law_is_point (fun f cdv A outer s H E hr tk hp => (pdb_one (pds_ret (pd_and (pd_isi1 .tuple (pe_callB call_isi (by rfl) T.b_isinstance boot_isinstance (pa_cons (pd_var (pv 0)) (pa_cons (pe_bltn (v := .ty "tuple") (by rfl) T.b_tuple (by decide +kernel) rfl) pa_nil)))) (pd_and (pd_cmp od_eq (op_eqD hr.units) (pd_b1 cd_len (pe_callB call_len (by rfl) T.b_len PySem.boot_len (pa_cons (pd_var (pv 0)) pa_nil))) pd_int (nomark _)) (pd_and (pd_f g__law_is_frac (hr.mono (by decide)) tk (pda_cons (pd_ix (pd_var (pv 0)) pd_int) pda_nil) (aCons_n aNil_n)) (pd_one (pd_f g__law_is_frac (hr.mono (by decide)) tk (pda_cons (pd_ix (pd_var (pv 0)) pd_int) pda_nil) (aCons_n aNil_n)))))))))
theorem sc__law_turn_asked : FnScope N__law_turn_asked ["_law_points", "_law_by_name"] (defScope s__law_turn_asked) := ⟨rfl, rfl, rfl, by decide +kernel, rfl, by decide +kernel, by decide +kernel⟩
theorem nd__law_turn_asked : N__law_turn_asked.Nodup := sc__law_turn_asked.nd
theorem g__law_turn_asked (T : Txt K mg) (g_turn_of : FnAt P w K mg base 4 "turn_of" s_turn_of ["one", "other", "third"] f_turn_of) (g__law_is_point : FnAt P w K mg base 3 "_law_is_point" s__law_is_point ["_law_thing"] f__law_is_point) (g__law_is_integer : FnAt P w K mg base 1 "_law_is_integer" s__law_is_integer ["_law_thing"] f__law_is_integer) (g__law_side : FnAt P w K mg base 2 "_law_side" s__law_side ["_law_one", "_law_other", "_law_third"] f__law_side) : FnAt P w K mg base 5 "_law_turn_asked" s__law_turn_asked ["_law_points", "_law_by_name"] f__law_turn_asked :=
  fn_at T.d__law_turn_asked sc__law_turn_asked 0 b__law_turn_asked (fun f cdv A outer s H E hr tk hp => (pdb_cons (pds_set (i := 2) nd__law_turn_asked rfl (by first | exact Or.inl rfl | exact Or.inr rfl) pd_bl)
  (pdb_cons (pds_set (i := 3) nd__law_turn_asked rfl (by first | exact Or.inl rfl | exact Or.inr rfl) (pd_lst true pda_nil (hg := aNil_len)))
  (pdb_cons (pds_try (x := "NoPoint") rfl rfl tk T.e_NoPoint (fun W' pn xe tk' hp' => (pdb_cons (pds_if (pdt_val (pd_var (pv 1)))
  (pdb_one (pds_set (i := 3) nd__law_turn_asked rfl (by first | exact Or.inl rfl | exact Or.inr rfl) (pd_lst true (pda_cons (pd_fK0 (np := 3) (perm := [2, 1, 0]) g_turn_of (fun _ _ => kb_turn_of_0) (hr.mono (by decide)) tk' (pdk_cons (pd_ix (pd_var (pv 0)) pd_int) (pdk_cons (pd_ix (pd_var (pv 0)) pd_int) (pdk_cons (pd_ix (pd_var (pv 0)) pd_int) pdk_nil))) (aCons_n (aCons_n (aCons_n aNil_n))) rfl rfl) pda_nil) (hg := (aCons_len aNil_len)))))
  (pdb_one (pds_set (i := 3) nd__law_turn_asked rfl (by first | exact Or.inl rfl | exact Or.inr rfl) (pd_lst true (pda_cons (pd_f g_turn_of (hr.mono (by decide)) tk' (pda_cons (pd_ix (pd_var (pv 0)) pd_int) (pda_cons (pd_ix (pd_var (pv 0)) pd_int) (pda_cons (pd_ix (pd_var (pv 0)) pd_int) pda_nil))) (aCons_n (aCons_n (aCons_n aNil_n)))) pda_nil) (hg := (aCons_len aNil_len))))))
  (pdb_cons (pds_expr (pd_append (pe_bm PySem.F.plainAttrs_list PySem.F.slot_list_append PySem.F.type_list_append mt_append (pd_var (pv 3)) (pa_cons (pd_f g_turn_of (hr.mono (by decide)) tk' (pda_cons (pd_ix (pd_var (pv 0)) pd_int) (pda_cons (pd_ix (pd_var (pv 0)) pd_int) (pda_cons (pd_ix (pd_var (pv 0)) pd_int) pda_nil))) (aCons_n (aCons_n (aCons_n aNil_n)))) pa_nil))))
  (pdb_one (pds_expr (pd_append (pe_bm PySem.F.plainAttrs_list PySem.F.slot_list_append PySem.F.type_list_append mt_append (pd_var (pv 3)) (pa_cons (pd_f g_turn_of (hr.mono (by decide)) tk' (pda_cons (pd_ix (pd_var (pv 0)) pd_int) (pda_cons (pd_ix (pd_var (pv 0)) pd_int) (pda_cons (pd_ix (pd_var (pv 0)) pd_int) pda_nil))) (aCons_n (aCons_n (aCons_n aNil_n)))) pa_nil))))))))
  (fun a oe cls d pn hz hf => (pdb_one (pds_set (i := 2) nd__law_turn_asked rfl (by first | exact Or.inl rfl | exact Or.inr rfl) pd_bl))))
  (pdb_cons (pds_if (PW.pt (pdw_or (pdt_not (pdt_val (pd_f g__law_is_point (hr.mono (by decide)) tk (pda_cons (pd_ix (pd_var (pv 0)) pd_int) pda_nil) (aCons_n aNil_n)))) (pdw_or (pdt_not (pdt_val (pd_f g__law_is_point (hr.mono (by decide)) tk (pda_cons (pd_ix (pd_var (pv 0)) pd_int) pda_nil) (aCons_n aNil_n)))) (pdw_or1 (pdt_not (pdt_val (pd_f g__law_is_point (hr.mono (by decide)) tk (pda_cons (pd_ix (pd_var (pv 0)) pd_int) pda_nil) (aCons_n aNil_n))))))))
  (pdb_one (pds_ret (pd_var (pv 2))))
  pdb_nil)
  (pdb_cons (pds_if (PW.pt (pdw_or (pdt_val (pd_var (pv 2))) (pdw_or1 (pdt_not (pdt_val (pd_f g__law_is_integer (hr.mono (by decide)) tk (pda_cons (pd_ix (pd_var (pv 3)) pd_int) pda_nil) (aCons_n aNil_n)))))))
  (pdb_one (pds_ret pd_bl))
  pdb_nil)
  (pdb_cons (pds_set (i := 4) nd__law_turn_asked rfl (by first | exact Or.inl rfl | exact Or.inr rfl) (pd_f g__law_side (hr.mono (by decide)) tk (pda_cons (pd_ix (pd_var (pv 0)) pd_int) (pda_cons (pd_ix (pd_var (pv 0)) pd_int) (pda_cons (pd_ix (pd_var (pv 0)) pd_int) pda_nil))) (aCons_n (aCons_n (aCons_n aNil_n)))))
  (pdb_one (pds_ret (pd_cmp od_eq (op_eqD hr.units) (pd_var (pv 3)) (pd_lst false (pda_cons (pd_var (pv 4)) (pda_cons (pd_var (pv 4)) (pda_cons (pd_un ud_neg un_neg (pd_var (pv 4))) pda_nil))) (hg := (aCons_len (aCons_len (aCons_len aNil_len))))) (nomark _)))))))))))
theorem sc__law_dot : FnScope N__law_dot ["_law_one", "_law_other"] (defScope s__law_dot) := ⟨rfl, rfl, rfl, by decide +kernel, rfl, by decide +kernel, by decide +kernel⟩
theorem nd__law_dot : N__law_dot.Nodup := sc__law_dot.nd
theorem g__law_dot (T : Txt K mg) (g__law_add : FnAt P w K mg base 2 "_law_add" s__law_add ["_law_one", "_law_other"] f__law_add) (g__law_mul : FnAt P w K mg base 2 "_law_mul" s__law_mul ["_law_one", "_law_other"] f__law_mul) : FnAt P w K mg base 3 "_law_dot" s__law_dot ["_law_one", "_law_other"] f__law_dot :=
  fn_at T.d__law_dot sc__law_dot 0 b__law_dot (fun f cdv A outer s H E hr tk hp => (pdb_one (pds_ret (pd_f g__law_add (hr.mono (by decide)) tk (pda_cons (pd_f g__law_mul (hr.mono (by decide)) tk (pda_cons (pd_ix (pd_var (pv 0)) pd_int) (pda_cons (pd_ix (pd_var (pv 1)) pd_int) pda_nil)) (aCons_n (aCons_n aNil_n))) (pda_cons (pd_f g__law_mul (hr.mono (by decide)) tk (pda_cons (pd_ix (pd_var (pv 0)) pd_int) (pda_cons (pd_ix (pd_var (pv 1)) pd_int) pda_nil)) (aCons_n (aCons_n aNil_n))) pda_nil)) (aCons_n (aCons_n aNil_n))))))
theorem sc__law_root : FnScope N__law_root ["_law_number"] (defScope s__law_root) := ⟨rfl, rfl, rfl, by decide +kernel, rfl, by decide +kernel, by decide +kernel⟩
theorem nd__law_root : N__law_root.Nodup := sc__law_root.nd
theorem g__law_root (T : Txt K mg)  : FnAt P w K mg base 1 "_law_root" s__law_root ["_law_number"] f__law_root :=
  fn_at T.d__law_root sc__law_root 0 b__law_root (fun f cdv A outer s H E hr tk hp => (pdb_cons (pds_if (pdt_cmp od_eq (op_eqD hr.units) (pd_var (pv 0)) pd_int (nomark _))
  (pdb_one (pds_ret pd_int))
  pdb_nil)
  (pdb_cons (pds_set (i := 1) nd__law_root rfl (by first | exact Or.inl rfl | exact Or.inr rfl) (pd_op od_shl op_shlW pd_int (pd_op od_div op_fdivA (pd_op od_add op_add (pd_bits (pd_var (pv 0))) pd_int) pd_int)))
  (pdb_cons (pds_for (gk_name 2) hp rfl (pdi_rng1 (pi_range1 rfl T.b_range (pa_cons (pd_op od_add op_add (pd_bits (pd_var (pv 0))) pd_int) pa_nil))) (pg_name (i := 2) nd__law_root rfl (by first | exact Or.inl rfl | exact Or.inr rfl))
  (pdb_cons (pds_set (i := 3) nd__law_root rfl (by first | exact Or.inl rfl | exact Or.inr rfl) (pd_op od_div op_fdivA (pd_op od_add op_add (pd_var (pv 1)) (pd_op od_div op_fdivA (pd_var (pv 0)) (pd_var (pv 1)))) pd_int))
  (pdb_cons (pds_if (pdt_cmp od_ge op_ge (pd_var (pv 3)) (pd_var (pv 1)) (nomark _))
  (pdb_one pds_break)
  pdb_nil)
  (pdb_one (pds_set (i := 1) nd__law_root rfl (by first | exact Or.inl rfl | exact Or.inr rfl) (pd_var (pv 3)))))))
  (pdb_cons (pds_if (pdt_cmp od_eq (op_eqD hr.units) (pd_op od_mul op_mulW (pd_var (pv 1)) (pd_var (pv 1))) (pd_var (pv 0)) (nomark _))
  (pdb_one (pds_ret (pd_var (pv 1))))
  pdb_nil)
  (pdb_one (pds_ret pd_non)))))))
theorem sc__law_size : FnScope N__law_size ["_law_step"] (defScope s__law_size) := ⟨rfl, rfl, rfl, by decide +kernel, rfl, by decide +kernel, by decide +kernel⟩
theorem nd__law_size : N__law_size.Nodup := sc__law_size.nd
theorem g__law_size (T : Txt K mg) (g__law_dot : FnAt P w K mg base 3 "_law_dot" s__law_dot ["_law_one", "_law_other"] f__law_dot) (g__law_root : FnAt P w K mg base 1 "_law_root" s__law_root ["_law_number"] f__law_root) : FnAt P w K mg base 4 "_law_size" s__law_size ["_law_step"] f__law_size :=
  fn_at T.d__law_size sc__law_size 0 b__law_size (fun f cdv A outer s H E hr tk hp => (pdb_cons (pds_set (i := 1) nd__law_size rfl (by first | exact Or.inl rfl | exact Or.inr rfl) (pd_f g__law_dot (hr.mono (by decide)) tk (pda_cons (pd_var (pv 0)) (pda_cons (pd_var (pv 0)) pda_nil)) (aCons_n (aCons_n aNil_n))))
  (pdb_cons (pds_set (i := 2) nd__law_size rfl (by first | exact Or.inl rfl | exact Or.inr rfl) (pd_f g__law_root (hr.mono (by decide)) tk (pda_cons (pd_ix (pd_var (pv 1)) pd_int) pda_nil) (aCons_n aNil_n)))
  (pdb_cons (pds_set (i := 3) nd__law_size rfl (by first | exact Or.inl rfl | exact Or.inr rfl) (pd_f g__law_root (hr.mono (by decide)) tk (pda_cons (pd_ix (pd_var (pv 1)) pd_int) pda_nil) (aCons_n aNil_n)))
  (pdb_cons (pds_if (PW.pt (pdw_or (pdt_isN (pd_var (pv 2))) (pdw_or1 (pdt_isN (pd_var (pv 3))))))
  (pdb_one (pds_ret pd_non))
  pdb_nil)
  (pdb_one (pds_ret (pd_tup (pda_cons (pd_var (pv 2)) (pda_cons (pd_var (pv 3)) pda_nil)) (hg := (aCons_len (aCons_len aNil_len)))))))))))
theorem sc_whole_root : FnScope N_whole_root ["number"] (defScope s_whole_root) := ⟨rfl, rfl, rfl, by decide +kernel, rfl, by decide +kernel, by decide +kernel⟩
theorem nd_whole_root : N_whole_root.Nodup := sc_whole_root.nd
theorem g_whole_root (T : Txt K mg)  : FnAt P w K mg base 1 "whole_root" s_whole_root ["number"] f_whole_root :=
  fn_at T.d_whole_root sc_whole_root 0 b_whole_root (fun f cdv A outer s H E hr tk hp => (pdb_cons (pds_set (i := 1) nd_whole_root rfl (by first | exact Or.inl rfl | exact Or.inr rfl) pd_int)
  (pdb_cons (pds_set (i := 2) nd_whole_root rfl (by first | exact Or.inl rfl | exact Or.inr rfl) pd_int)
  (pdb_cons (pds_while hp (pdt_cmp od_le op_le (pd_op od_mul op_mulW (pd_var (pv 2)) (pd_var (pv 2))) (pd_var (pv 0)) (nomark _))
  (pdb_one (pds_set (i := 2) nd_whole_root rfl (by first | exact Or.inl rfl | exact Or.inr rfl) (pd_op od_mul op_mulW pd_int (pd_var (pv 2))))))
  (pdb_cons (pds_while hp (pdt_cmp od_gt op_gt (pd_op od_sub op_sub (pd_var (pv 2)) (pd_var (pv 1))) pd_int (nomark _))
  (pdb_cons (pds_set (i := 3) nd_whole_root rfl (by first | exact Or.inl rfl | exact Or.inr rfl) (pd_op od_div op_fdivA (pd_op od_add op_add (pd_var (pv 1)) (pd_var (pv 2))) pd_int))
  (pdb_one (pds_if (pdt_cmp od_le op_le (pd_op od_mul op_mulW (pd_var (pv 3)) (pd_var (pv 3))) (pd_var (pv 0)) (nomark _))
  (pdb_one (pds_set (i := 1) nd_whole_root rfl (by first | exact Or.inl rfl | exact Or.inr rfl) (pd_var (pv 3))))
  (pdb_one (pds_set (i := 2) nd_whole_root rfl (by first | exact Or.inl rfl | exact Or.inr rfl) (pd_var (pv 3))))))))
  (pdb_one (pds_ret (pd_if (pdt_cmp od_eq (op_eqD hr.units) (pd_op od_mul op_mulW (pd_var (pv 1)) (pd_var (pv 1))) (pd_var (pv 0)) (nomark _)) (pd_var (pv 1)) pd_non))))))))
theorem sc_root_of : FnScope N_root_of ["one"] (defScope s_root_of) := ⟨rfl, rfl, rfl, by decide +kernel, rfl, by decide +kernel, by decide +kernel⟩
theorem nd_root_of : N_root_of.Nodup := sc_root_of.nd
theorem g_root_of (T : Txt K mg) (g_whole_root : FnAt P w K mg base 1 "whole_root" s_whole_root ["number"] f_whole_root) : FnAt P w K mg base 2 "root_of" s_root_of ["one"] f_root_of :=
  fn_at T.d_root_of sc_root_of 0 b_root_of (fun f cdv A outer s H E hr tk hp => (pdb_cons (pds_if (pdt_cmp od_lt op_lt (pd_ix (pd_var (pv 0)) pd_int) pd_int (nomark _))
  (pdb_one (pds_ret pd_non))
  pdb_nil)
  (pdb_cons (pds_set (i := 1) nd_root_of rfl (by first | exact Or.inl rfl | exact Or.inr rfl) (pd_f g_whole_root (hr.mono (by decide)) tk (pda_cons (pd_ix (pd_var (pv 0)) pd_int) pda_nil) (aCons_n aNil_n)))
  (pdb_cons (pds_set (i := 2) nd_root_of rfl (by first | exact Or.inl rfl | exact Or.inr rfl) (pd_f g_whole_root (hr.mono (by decide)) tk (pda_cons (pd_ix (pd_var (pv 0)) pd_int) pda_nil) (aCons_n aNil_n)))
  (pdb_cons (pds_if (PW.pt (pdw_or (pdt_isN (pd_var (pv 1))) (pdw_or1 (pdt_isN (pd_var (pv 2))))))
  (pdb_one (pds_ret pd_non))
  pdb_nil)
  (pdb_one (pds_ret (pd_tup (pda_cons (pd_var (pv 1)) (pda_cons (pd_var (pv 2)) pda_nil)) (hg := (aCons_len (aCons_len aNil_len)))))))))))
theorem sc_lowest : FnScope N_lowest ["top", "bottom"] (defScope s_lowest) := ⟨rfl, rfl, rfl, by decide +kernel, rfl, by decide +kernel, by decide +kernel⟩
theorem nd_lowest : N_lowest.Nodup := sc_lowest.nd
theorem g_lowest (T : Txt K mg) (g_common_part : FnAt P w K mg base 1 "common_part" s_common_part ["one", "other"] f_common_part) : FnAt P w K mg base 2 "lowest" s_lowest ["top", "bottom"] f_lowest :=
  fn_at T.d_lowest sc_lowest 0 b_lowest (fun f cdv A outer s H E hr tk hp => (pdb_cons (pds_set (i := 2) nd_lowest rfl (by first | exact Or.inl rfl | exact Or.inr rfl) (pd_f g_common_part (hr.mono (by decide)) tk (pda_cons (pd_var (pv 0)) (pda_cons (pd_var (pv 1)) pda_nil)) (aCons_n (aCons_n aNil_n))))
  (pdb_cons (pds_if (pdt_cmp od_lt op_lt (pd_var (pv 1)) pd_int (nomark _))
  (pdb_one (pds_set (i := 2) nd_lowest rfl (by first | exact Or.inl rfl | exact Or.inr rfl) (pd_un ud_neg un_neg (pd_var (pv 2)))))
  pdb_nil)
  (pdb_one (pds_ret (pd_tup (pda_cons (pd_op od_div op_fdivA (pd_var (pv 0)) (pd_var (pv 2))) (pda_cons (pd_op od_div op_fdivA (pd_var (pv 1)) (pd_var (pv 2))) pda_nil)) (hg := (aCons_len (aCons_len aNil_len)))))))))
theorem sc_plus : FnScope N_plus ["one", "other"] (defScope s_plus) := ⟨rfl, rfl, rfl, by decide +kernel, rfl, by decide +kernel, by decide +kernel⟩
theorem nd_plus : N_plus.Nodup := sc_plus.nd
theorem g_plus (T : Txt K mg) (g_lowest : FnAt P w K mg base 2 "lowest" s_lowest ["top", "bottom"] f_lowest) : FnAt P w K mg base 3 "plus" s_plus ["one", "other"] f_plus :=
  fn_at T.d_plus sc_plus 0 b_plus (fun f cdv A outer s H E hr tk hp => (pdb_cons (pds_if (PW.pt (pdw_and (pdt_cmp od_eq (op_eqD hr.units) (pd_ix (pd_var (pv 0)) pd_int) pd_int (nomark _)) (pdw_and1 (pdt_cmp od_eq (op_eqD hr.units) (pd_ix (pd_var (pv 1)) pd_int) pd_int (nomark _)))))
  (pdb_one (pds_ret (pd_tup (pda_cons (pd_op od_add op_add (pd_ix (pd_var (pv 0)) pd_int) (pd_ix (pd_var (pv 1)) pd_int)) (pda_cons pd_int pda_nil)) (hg := (aCons_len (aCons_len aNil_len))))))
  pdb_nil)
  (pdb_one (pds_ret (pd_f g_lowest (hr.mono (by decide)) tk (pda_cons (pd_op od_add op_add (pd_op od_mul op_mulW (pd_ix (pd_var (pv 0)) pd_int) (pd_ix (pd_var (pv 1)) pd_int)) (pd_op od_mul op_mulW (pd_ix (pd_var (pv 1)) pd_int) (pd_ix (pd_var (pv 0)) pd_int))) (pda_cons (pd_op od_mul op_mulW (pd_ix (pd_var (pv 0)) pd_int) (pd_ix (pd_var (pv 1)) pd_int)) pda_nil)) (aCons_n (aCons_n aNil_n)))))))
theorem sc_product : FnScope N_product ["one", "other"] (defScope s_product) := ⟨rfl, rfl, rfl, by decide +kernel, rfl, by decide +kernel, by decide +kernel⟩
theorem nd_product : N_product.Nodup := sc_product.nd
theorem g_product (T : Txt K mg) (g_lowest : FnAt P w K mg base 2 "lowest" s_lowest ["top", "bottom"] f_lowest) : FnAt P w K mg base 3 "product" s_product ["one", "other"] f_product :=
  fn_at T.d_product sc_product 0 b_product (fun f cdv A outer s H E hr tk hp => (pdb_cons (pds_if (PW.pt (pdw_or (pdt_cmp od_eq (op_eqD hr.units) (pd_ix (pd_var (pv 0)) pd_int) pd_int (nomark _)) (pdw_or1 (pdt_cmp od_eq (op_eqD hr.units) (pd_ix (pd_var (pv 1)) pd_int) pd_int (nomark _)))))
  (pdb_one (pds_ret (pd_const T.c_ZERO)))
  pdb_nil)
  (pdb_one (pds_ret (pd_f g_lowest (hr.mono (by decide)) tk (pda_cons (pd_op od_mul op_mulW (pd_ix (pd_var (pv 0)) pd_int) (pd_ix (pd_var (pv 1)) pd_int)) (pda_cons (pd_op od_mul op_mulW (pd_ix (pd_var (pv 0)) pd_int) (pd_ix (pd_var (pv 1)) pd_int)) pda_nil)) (aCons_n (aCons_n aNil_n)))))))
theorem sc_inner_of : FnScope N_inner_of ["one", "other"] (defScope s_inner_of) := ⟨rfl, rfl, rfl, by decide +kernel, rfl, by decide +kernel, by decide +kernel⟩
theorem nd_inner_of : N_inner_of.Nodup := sc_inner_of.nd
theorem g_inner_of (T : Txt K mg) (g_plus : FnAt P w K mg base 3 "plus" s_plus ["one", "other"] f_plus) (g_product : FnAt P w K mg base 3 "product" s_product ["one", "other"] f_product) : FnAt P w K mg base 4 "inner_of" s_inner_of ["one", "other"] f_inner_of :=
  fn_at T.d_inner_of sc_inner_of 0 b_inner_of (fun f cdv A outer s H E hr tk hp => (pdb_one (pds_ret (pd_f g_plus (hr.mono (by decide)) tk (pda_cons (pd_f g_product (hr.mono (by decide)) tk (pda_cons (pd_ix (pd_var (pv 0)) pd_int) (pda_cons (pd_ix (pd_var (pv 1)) pd_int) pda_nil)) (aCons_n (aCons_n aNil_n))) (pda_cons (pd_f g_product (hr.mono (by decide)) tk (pda_cons (pd_ix (pd_var (pv 0)) pd_int) (pda_cons (pd_ix (pd_var (pv 1)) pd_int) pda_nil)) (aCons_n (aCons_n aNil_n))) pda_nil)) (aCons_n (aCons_n aNil_n))))))
theorem sc_size_of : FnScope N_size_of ["step"] (defScope s_size_of) := ⟨rfl, rfl, rfl, by decide +kernel, rfl, by decide +kernel, by decide +kernel⟩
theorem nd_size_of : N_size_of.Nodup := sc_size_of.nd
theorem g_size_of (T : Txt K mg) (g_root_of : FnAt P w K mg base 2 "root_of" s_root_of ["one"] f_root_of) (g_inner_of : FnAt P w K mg base 4 "inner_of" s_inner_of ["one", "other"] f_inner_of) : FnAt P w K mg base 5 "size_of" s_size_of ["step"] f_size_of :=
  fn_at T.d_size_of sc_size_of 0 b_size_of (fun f cdv A outer s H E hr tk hp => (pdb_one (pds_ret (pd_f g_root_of (hr.mono (by decide)) tk (pda_cons (pd_f g_inner_of (hr.mono (by decide)) tk (pda_cons (pd_var (pv 0)) (pda_cons (pd_var (pv 0)) pda_nil)) (aCons_n (aCons_n aNil_n))) pda_nil) (aCons_n aNil_n)))))
theorem sc_minus : FnScope N_minus ["one", "other"] (defScope s_minus) := ⟨rfl, rfl, rfl, by decide +kernel, rfl, by decide +kernel, by decide +kernel⟩
theorem nd_minus : N_minus.Nodup := sc_minus.nd
theorem g_minus (T : Txt K mg) (g_plus : FnAt P w K mg base 3 "plus" s_plus ["one", "other"] f_plus) : FnAt P w K mg base 4 "minus" s_minus ["one", "other"] f_minus :=
  fn_at T.d_minus sc_minus 0 b_minus (fun f cdv A outer s H E hr tk hp => (pdb_one (pds_ret (pd_f g_plus (hr.mono (by decide)) tk (pda_cons (pd_var (pv 0)) (pda_cons (pd_tup (pda_cons (pd_un ud_neg un_neg (pd_ix (pd_var (pv 1)) pd_int)) (pda_cons (pd_ix (pd_var (pv 1)) pd_int) pda_nil)) (hg := (aCons_len (aCons_len aNil_len)))) pda_nil)) (aCons_n (aCons_n aNil_n))))))
theorem sc_step_of : FnScope N_step_of ["one", "other"] (defScope s_step_of) := ⟨rfl, rfl, rfl, by decide +kernel, rfl, by decide +kernel, by decide +kernel⟩
theorem nd_step_of : N_step_of.Nodup := sc_step_of.nd
theorem g_step_of (T : Txt K mg) (g_minus : FnAt P w K mg base 4 "minus" s_minus ["one", "other"] f_minus) : FnAt P w K mg base 5 "step_of" s_step_of ["one", "other"] f_step_of :=
  fn_at T.d_step_of sc_step_of 0 b_step_of (fun f cdv A outer s H E hr tk hp => (pdb_one (pds_ret (pd_tup (pda_cons (pd_f g_minus (hr.mono (by decide)) tk (pda_cons (pd_ix (pd_var (pv 1)) pd_int) (pda_cons (pd_ix (pd_var (pv 0)) pd_int) pda_nil)) (aCons_n (aCons_n aNil_n))) (pda_cons (pd_f g_minus (hr.mono (by decide)) tk (pda_cons (pd_ix (pd_var (pv 1)) pd_int) (pda_cons (pd_ix (pd_var (pv 0)) pd_int) pda_nil)) (aCons_n (aCons_n aNil_n))) pda_nil)) (hg := (aCons_len (aCons_len aNil_len)))))))
theorem sc_length_of : FnScope N_length_of ["one", "other"] (defScope s_length_of) := ⟨rfl, rfl, rfl, by decide +kernel, rfl, by decide +kernel, by decide +kernel⟩
theorem nd_length_of : N_length_of.Nodup := sc_length_of.nd
theorem g_length_of (T : Txt K mg) (g_is_point : FnAt P w K mg base 3 "is_point" s_is_point ["thing"] f_is_point) (g_size_of : FnAt P w K mg base 5 "size_of" s_size_of ["step"] f_size_of) (g_step_of : FnAt P w K mg base 5 "step_of" s_step_of ["one", "other"] f_step_of) : FnAt P w K mg base 6 "length_of" s_length_of ["one", "other"] f_length_of :=
  fn_at T.d_length_of sc_length_of 0 b_length_of (fun f cdv A outer s H E hr tk hp => (pdb_cons (pds_if (PW.pt (pdw_or (pdt_not (pdt_val (pd_f g_is_point (hr.mono (by decide)) tk (pda_cons (pd_var (pv 0)) pda_nil) (aCons_n aNil_n)))) (pdw_or1 (pdt_not (pdt_val (pd_f g_is_point (hr.mono (by decide)) tk (pda_cons (pd_var (pv 1)) pda_nil) (aCons_n aNil_n)))))))
  (pdb_one (pds_raise0 (x := "NoPoint") rfl tk T.x_NoPoint))
  pdb_nil)
  (pdb_one (pds_ret (pd_f g_size_of (hr.mono (by decide)) tk (pda_cons (pd_f g_step_of (hr.mono (by decide)) tk (pda_cons (pd_var (pv 0)) (pda_cons (pd_var (pv 1)) pda_nil)) (aCons_n (aCons_n aNil_n))) pda_nil) (aCons_n aNil_n))))))
theorem sc__law_length : FnScope N__law_length ["_law_one", "_law_other", "_law_by_name"] (defScope s__law_length) := ⟨rfl, rfl, rfl, by decide +kernel, rfl, by decide +kernel, by decide +kernel⟩
theorem nd__law_length : N__law_length.Nodup := sc__law_length.nd
theorem g__law_length (T : Txt K mg) (g_length_of : FnAt P w K mg base 6 "length_of" s_length_of ["one", "other"] f_length_of) : FnAt P w K mg base 7 "_law_length" s__law_length ["_law_one", "_law_other", "_law_by_name"] f__law_length :=
  fn_at T.d__law_length sc__law_length 0 b__law_length (fun f cdv A outer s H E hr tk hp => (pdb_cons (pds_if (pdt_val (pd_var (pv 2)))
  (pdb_one (pds_ret (pd_fK0 (np := 2) (perm := [1, 0]) g_length_of (fun _ _ => kb_length_of_1) (hr.mono (by decide)) tk (pdk_cons (pd_var (pv 1)) (pdk_cons (pd_var (pv 0)) pdk_nil)) (aCons_n (aCons_n aNil_n)) rfl rfl)))
  pdb_nil)
  (pdb_one (pds_ret (pd_f g_length_of (hr.mono (by decide)) tk (pda_cons (pd_var (pv 0)) (pda_cons (pd_var (pv 1)) pda_nil)) (aCons_n (aCons_n aNil_n)))))))
theorem sc__law_length_asked : FnScope N__law_length_asked ["_law_one", "_law_other", "_law_by_name"] (defScope s__law_length_asked) := ⟨rfl, rfl, rfl, by decide +kernel, rfl, by decide +kernel, by decide +kernel⟩
theorem nd__law_length_asked : N__law_length_asked.Nodup := sc__law_length_asked.nd
theorem g__law_length_asked (T : Txt K mg) (g__law_length : FnAt P w K mg base 7 "_law_length" s__law_length ["_law_one", "_law_other", "_law_by_name"] f__law_length) (g_length_of : FnAt P w K mg base 6 "length_of" s_length_of ["one", "other"] f_length_of) (g__law_is_point : FnAt P w K mg base 3 "_law_is_point" s__law_is_point ["_law_thing"] f__law_is_point) (g__law_size : FnAt P w K mg base 4 "_law_size" s__law_size ["_law_step"] f__law_size) (g__law_minus : FnAt P w K mg base 3 "_law_minus" s__law_minus ["_law_one", "_law_other"] f__law_minus) (g__law_is_frac : FnAt P w K mg base 2 "_law_is_frac" s__law_is_frac ["_law_thing"] f__law_is_frac) : FnAt P w K mg base 8 "_law_length_asked" s__law_length_asked ["_law_one", "_law_other", "_law_by_name"] f__law_length_asked :=
  fn_at T.d__law_length_asked sc__law_length_asked 0 b__law_length_asked (fun f cdv A outer s H E hr tk hp => (pdb_cons (pds_set (i := 3) nd__law_length_asked rfl (by first | exact Or.inl rfl | exact Or.inr rfl) pd_bl)
  (pdb_cons (pds_set (i := 4) nd__law_length_asked rfl (by first | exact Or.inl rfl | exact Or.inr rfl) pd_non)
  (pdb_cons (pds_set (i := 5) nd__law_length_asked rfl (by first | exact Or.inl rfl | exact Or.inr rfl) pd_non)
  (pdb_cons (pds_try (x := "NoPoint") rfl rfl tk T.e_NoPoint (fun W' pn xe tk' hp' => (pdb_cons (pds_set (i := 4) nd__law_length_asked rfl (by first | exact Or.inl rfl | exact Or.inr rfl) (pd_f g__law_length (hr.mono (by decide)) tk' (pda_cons (pd_var (pv 0)) (pda_cons (pd_var (pv 1)) (pda_cons (pd_var (pv 2)) pda_nil))) (aCons_n (aCons_n (aCons_n aNil_n)))))
  (pdb_one (pds_set (i := 5) nd__law_length_asked rfl (by first | exact Or.inl rfl | exact Or.inr rfl) (pd_f g_length_of (hr.mono (by decide)) tk' (pda_cons (pd_var (pv 1)) (pda_cons (pd_var (pv 0)) pda_nil)) (aCons_n (aCons_n aNil_n)))))))
  (fun a oe cls d pn hz hf => (pdb_one (pds_set (i := 3) nd__law_length_asked rfl (by first | exact Or.inl rfl | exact Or.inr rfl) pd_bl))))
  (pdb_cons (pds_if (PW.pt (pdw_or (pdt_not (pdt_val (pd_f g__law_is_point (hr.mono (by decide)) tk (pda_cons (pd_var (pv 0)) pda_nil) (aCons_n aNil_n)))) (pdw_or1 (pdt_not (pdt_val (pd_f g__law_is_point (hr.mono (by decide)) tk (pda_cons (pd_var (pv 1)) pda_nil) (aCons_n aNil_n)))))))
  (pdb_one (pds_ret (pd_var (pv 3))))
  pdb_nil)
  (pdb_cons (pds_if (PW.pt (pdw_or (pdt_val (pd_var (pv 3))) (pdw_or1 (pdt_cmp od_ne (op_neD hr.units) (pd_var (pv 4)) (pd_var (pv 5)) (nomark _)))))
  (pdb_one (pds_ret pd_bl))
  pdb_nil)
  (pdb_cons (pds_set (i := 6) nd__law_length_asked rfl (by first | exact Or.inl rfl | exact Or.inr rfl) (pd_f g__law_size (hr.mono (by decide)) tk (pda_cons (pd_f g__law_minus (hr.mono (by decide)) tk (pda_cons (pd_var (pv 1)) (pda_cons (pd_var (pv 0)) pda_nil)) (aCons_n (aCons_n aNil_n))) pda_nil) (aCons_n aNil_n)))
  (pdb_cons (pds_if (pdt_isN (pd_var (pv 6)))
  (pdb_one (pds_ret (pd_isN (pd_var (pv 4)))))
  pdb_nil)
  (pdb_one (pds_ret (pd_and (pd_f g__law_is_frac (hr.mono (by decide)) tk (pda_cons (pd_var (pv 4)) pda_nil) (aCons_n aNil_n)) (pd_one (pd_cmp od_eq (op_eqD hr.units) (pd_var (pv 4)) (pd_var (pv 6)) (nomark _)))))))))))))))
theorem sc_law : FnScope N_law ["_law_script"] (defScope s_law) := ⟨rfl, rfl, rfl, by decide +kernel, rfl, by decide +kernel, by decide +kernel⟩
theorem nd_law : N_law.Nodup := sc_law.nd
theorem g_law (T : Txt K mg) (g__law_stream : FnAtL P w K mg base 2 "_law_stream" s__law_stream ["_law_script"] f__law_stream) (g__law_take : FnAt P w K mg base 2 "_law_take" s__law_take ["_law_stream_here", "_law_many"] f__law_take) (g__law_triple : FnAt P w K mg base 6 "_law_triple" s__law_triple ["_law_stream_here"] f__law_triple) (g__law_turn_asked : FnAt P w K mg base 5 "_law_turn_asked" s__law_turn_asked ["_law_points", "_law_by_name"] f__law_turn_asked) (g__law_length_asked : FnAt P w K mg base 8 "_law_length_asked" s__law_length_asked ["_law_one", "_law_other", "_law_by_name"] f__law_length_asked) : FnAt P w K mg base 9 "law" s_law ["_law_script"] f_law :=
  fn_at T.d_law sc_law 0 b_law (fun f cdv A outer s H E hr tk hp => (pdb_cons (pds_set (i := 1) nd_law rfl (by first | exact Or.inl rfl | exact Or.inr rfl) (pd_fL g__law_stream (hr.mono (by decide)) tk (pda_cons (pd_var (pv 0)) pda_nil) (aCons_n aNil_n)))
  (pdb_cons (pds_for (gk_name 2) hp rfl (pdi_rng1 (pi_range1 rfl T.b_range (pa_cons (pd_op od_add op_add pd_int (pd_b2 cd_min (pe_callB (call_min2 rfl) (by rfl) T.b_min (by decide +kernel) (pa_cons pd_int (pa_cons (pd_b1 cd_len (pe_callB call_len (by rfl) T.b_len PySem.boot_len (pa_cons (pd_var (pv 0)) pa_nil))) pa_nil))))) pa_nil))) (pg_name (i := 2) nd_law rfl (by first | exact Or.inl rfl | exact Or.inr rfl))
  (pdb_cons (pds_set (i := 3) nd_law rfl (by first | exact Or.inl rfl | exact Or.inr rfl) (pd_cmp od_eq (op_eqD hr.units) (pd_fM g__law_take (hr.mono (by decide)) tk (pda_cons (pd_var (pv 1)) (pda_cons pd_int pda_nil)) (aCons_n (aCons_n aNil_n))) pd_int (nomark _)))
  (pdb_cons (pds_set (i := 4) nd_law rfl (by first | exact Or.inl rfl | exact Or.inr rfl) (pd_fM g__law_triple (hr.mono (by decide)) tk (pda_cons (pd_var (pv 1)) pda_nil) (aCons_n aNil_n)))
  (pdb_cons (pds_if (pdt_not (pdt_val (pd_f g__law_turn_asked (hr.mono (by decide)) tk (pda_cons (pd_var (pv 4)) (pda_cons (pd_var (pv 3)) pda_nil)) (aCons_n (aCons_n aNil_n)))))
  (pdb_one (pds_ret pd_bl))
  pdb_nil)
  (pdb_one (pds_for (gk_name 5) hp rfl (pdi_rng1 (pi_range1 rfl T.b_range (pa_cons pd_int pa_nil))) (pg_name (i := 5) nd_law rfl (by first | exact Or.inl rfl | exact Or.inr rfl))
  (pdb_one (pds_if (pdt_not (pdt_val (pd_f g__law_length_asked (hr.mono (by decide)) tk (pda_cons (pd_ix (pd_var (pv 4)) (pd_var (pv 5))) (pda_cons (pd_ix (pd_var (pv 4)) (pd_op od_mod op_modN (pd_op od_add op_add (pd_var (pv 5)) pd_int) pd_int)) (pda_cons (pd_var (pv 3)) pda_nil))) (aCons_n (aCons_n (aCons_n aNil_n))))))
  (pdb_one (pds_ret pd_bl))
  pdb_nil))))))))
  (pdb_one (pds_ret pd_bl)))))
theorem all_ok (T : Txt K mg) : FnAt P w K mg base 9 "law" s_law ["_law_script"] f_law := by
  have g__law_great := g__law_great (P := P) (w := w) (base := base) T 
  have g__law_stream := g__law_stream (P := P) (w := w) (base := base) T g__law_great
  have g__law_mixed := g__law_mixed (P := P) (w := w) (base := base) T 
  have g__law_take := g__law_take (P := P) (w := w) (base := base) T g__law_mixed g__law_great
  have g__law_low := g__law_low (P := P) (w := w) (base := base) T 
  have g__law_tame := g__law_tame (P := P) (w := w) (base := base) T g__law_take g__law_low
  have g__law_whole := g__law_whole (P := P) (w := w) (base := base) T g__law_take
  have g__law_fraction := g__law_fraction (P := P) (w := w) (base := base) T g__law_whole g__law_low
  have g__law_point := g__law_point (P := P) (w := w) (base := base) T g__law_take g__law_fraction g__law_tame
  have g__law_add := g__law_add (P := P) (w := w) (base := base) T g__law_low
  have g__law_plus := g__law_plus (P := P) (w := w) (base := base) T g__law_add
  have g__law_no_point := g__law_no_point (P := P) (w := w) (base := base) T g__law_take
  have g__law_mul := g__law_mul (P := P) (w := w) (base := base) T g__law_low
  have g__law_times := g__law_times (P := P) (w := w) (base := base) T g__law_mul
  have g__law_ray := g__law_ray (P := P) (w := w) (base := base) T g__law_low
  have g__law_slope := g__law_slope (P := P) (w := w) (base := base) T g__law_take g__law_low
  have g__law_sub := g__law_sub (P := P) (w := w) (base := base) T g__law_low
  have g__law_minus := g__law_minus (P := P) (w := w) (base := base) T g__law_sub
  have g__law_triple := g__law_triple (P := P) (w := w) (base := base) T g__law_take g__law_point g__law_tame g__law_low g__law_plus g__law_times g__law_slope g__law_ray g__law_minus g__law_no_point
  have g__law_flat := g__law_flat (P := P) (w := w) (base := base) T 
  have g__law_side := g__law_side (P := P) (w := w) (base := base) T g__law_flat
  have g_whole_triple := g_whole_triple (P := P) (w := w) (base := base) T 
  have g_side_sign := g_side_sign (P := P) (w := w) (base := base) T g_whole_triple
  have g_common_part := g_common_part (P := P) (w := w) (base := base) T 
  have g_is_integer := g_is_integer (P := P) (w := w) (base := base) T 
  have g_is_fraction := g_is_fraction (P := P) (w := w) (base := base) T g_is_integer g_common_part
  have g_is_point := g_is_point (P := P) (w := w) (base := base) T g_is_fraction
  have g_turn_of := g_turn_of (P := P) (w := w) (base := base) T g_is_point g_side_sign
  have g__law_is_integer := g__law_is_integer (P := P) (w := w) (base := base) T 
  have g__law_is_frac := g__law_is_frac (P := P) (w := w) (base := base) T g__law_is_integer g__law_low
  have g__law_is_point := g__law_is_point (P := P) (w := w) (base := base) T g__law_is_frac
  have g__law_turn_asked := g__law_turn_asked (P := P) (w := w) (base := base) T g_turn_of g__law_is_point g__law_is_integer g__law_side
  have g__law_dot := g__law_dot (P := P) (w := w) (base := base) T g__law_add g__law_mul
  have g__law_root := g__law_root (P := P) (w := w) (base := base) T 
  have g__law_size := g__law_size (P := P) (w := w) (base := base) T g__law_dot g__law_root
  have g_whole_root := g_whole_root (P := P) (w := w) (base := base) T 
  have g_root_of := g_root_of (P := P) (w := w) (base := base) T g_whole_root
  have g_lowest := g_lowest (P := P) (w := w) (base := base) T g_common_part
  have g_plus := g_plus (P := P) (w := w) (base := base) T g_lowest
  have g_product := g_product (P := P) (w := w) (base := base) T g_lowest
  have g_inner_of := g_inner_of (P := P) (w := w) (base := base) T g_plus g_product
  have g_size_of := g_size_of (P := P) (w := w) (base := base) T g_root_of g_inner_of
  have g_minus := g_minus (P := P) (w := w) (base := base) T g_plus
  have g_step_of := g_step_of (P := P) (w := w) (base := base) T g_minus
  have g_length_of := g_length_of (P := P) (w := w) (base := base) T g_is_point g_size_of g_step_of
  have g__law_length := g__law_length (P := P) (w := w) (base := base) T g_length_of
  have g__law_length_asked := g__law_length_asked (P := P) (w := w) (base := base) T g__law_length g_length_of g__law_is_point g__law_size g__law_minus g__law_is_frac
  have g_law := g_law (P := P) (w := w) (base := base) T g__law_stream g__law_take g__law_triple g__law_turn_asked g__law_length_asked
  exact g_law
end
end K05
end

section
set_option Elab.async false
set_option maxHeartbeats 0
set_option linter.all false
set_option maxRecDepth 100000
namespace K05
open Den Pre PySem PySem.Spec PyProof.Rows L2
theorem all_mk {l : PySem.W.OpenLaw} {w : World} {K : PySem.W.Frag} {h : Heap} {mg : Str → Option Value} {fa : Addr} (X : K.In h) (G : h.Ns mainGlobals mg) (hfa : mg "law" = some (.ref fa))
    {f0 : Addr} {oc0 kV0 dc0 pm0 cd0 ct0 : Value} {od0 an0 : Option Addr} {sl0 : Array (Option Value)}
    {f1 : Addr} {oc1 kV1 dc1 pm1 cd1 ct1 : Value} {od1 an1 : Option Addr} {sl1 : Array (Option Value)}
    {f2 : Addr} {oc2 kV2 dc2 pm2 cd2 ct2 : Value} {od2 an2 : Option Addr} {sl2 : Array (Option Value)}
    {f3 : Addr} {oc3 kV3 dc3 pm3 cd3 ct3 : Value} {od3 an3 : Option Addr} {sl3 : Array (Option Value)}
    {f4 : Addr} {oc4 kV4 dc4 pm4 cd4 ct4 : Value} {od4 an4 : Option Addr} {sl4 : Array (Option Value)}
    {f5 : Addr} {oc5 kV5 dc5 pm5 cd5 ct5 : Value} {od5 an5 : Option Addr} {sl5 : Array (Option Value)}
    {f6 : Addr} {oc6 kV6 dc6 pm6 cd6 ct6 : Value} {od6 an6 : Option Addr} {sl6 : Array (Option Value)}
    {f7 : Addr} {oc7 kV7 dc7 pm7 cd7 ct7 : Value} {od7 an7 : Option Addr} {sl7 : Array (Option Value)}
    {f8 : Addr} {oc8 kV8 dc8 pm8 cd8 ct8 : Value} {od8 an8 : Option Addr} {sl8 : Array (Option Value)}
    {f9 : Addr} {oc9 kV9 dc9 pm9 cd9 ct9 : Value} {od9 an9 : Option Addr} {sl9 : Array (Option Value)}
    {f10 : Addr} {oc10 kV10 dc10 pm10 cd10 ct10 : Value} {od10 an10 : Option Addr} {sl10 : Array (Option Value)}
    {f11 : Addr} {oc11 kV11 dc11 pm11 cd11 ct11 : Value} {od11 an11 : Option Addr} {sl11 : Array (Option Value)}
    {f12 : Addr} {oc12 kV12 dc12 pm12 cd12 ct12 : Value} {od12 an12 : Option Addr} {sl12 : Array (Option Value)}
    {f13 : Addr} {oc13 kV13 dc13 pm13 cd13 ct13 : Value} {od13 an13 : Option Addr} {sl13 : Array (Option Value)}
    {f14 : Addr} {oc14 kV14 dc14 pm14 cd14 ct14 : Value} {od14 an14 : Option Addr} {sl14 : Array (Option Value)}
    {f15 : Addr} {oc15 kV15 dc15 pm15 cd15 ct15 : Value} {od15 an15 : Option Addr} {sl15 : Array (Option Value)}
    {f16 : Addr} {oc16 kV16 dc16 pm16 cd16 ct16 : Value} {od16 an16 : Option Addr} {sl16 : Array (Option Value)}
    {f17 : Addr} {oc17 kV17 dc17 pm17 cd17 ct17 : Value} {od17 an17 : Option Addr} {sl17 : Array (Option Value)}
    {f18 : Addr} {oc18 kV18 dc18 pm18 cd18 ct18 : Value} {od18 an18 : Option Addr} {sl18 : Array (Option Value)}
    {f19 : Addr} {oc19 kV19 dc19 pm19 cd19 ct19 : Value} {od19 an19 : Option Addr} {sl19 : Array (Option Value)}
    {f20 : Addr} {oc20 kV20 dc20 pm20 cd20 ct20 : Value} {od20 an20 : Option Addr} {sl20 : Array (Option Value)}
    {f21 : Addr} {oc21 kV21 dc21 pm21 cd21 ct21 : Value} {od21 an21 : Option Addr} {sl21 : Array (Option Value)}
    {f22 : Addr} {oc22 kV22 dc22 pm22 cd22 ct22 : Value} {od22 an22 : Option Addr} {sl22 : Array (Option Value)}
    {f23 : Addr} {oc23 kV23 dc23 pm23 cd23 ct23 : Value} {od23 an23 : Option Addr} {sl23 : Array (Option Value)}
    {f24 : Addr} {oc24 kV24 dc24 pm24 cd24 ct24 : Value} {od24 an24 : Option Addr} {sl24 : Array (Option Value)}
    {f25 : Addr} {oc25 kV25 dc25 pm25 cd25 ct25 : Value} {od25 an25 : Option Addr} {sl25 : Array (Option Value)}
    {f26 : Addr} {oc26 kV26 dc26 pm26 cd26 ct26 : Value} {od26 an26 : Option Addr} {sl26 : Array (Option Value)}
    {f27 : Addr} {oc27 kV27 dc27 pm27 cd27 ct27 : Value} {od27 an27 : Option Addr} {sl27 : Array (Option Value)}
    {f28 : Addr} {oc28 kV28 dc28 pm28 cd28 ct28 : Value} {od28 an28 : Option Addr} {sl28 : Array (Option Value)}
    {f29 : Addr} {oc29 kV29 dc29 pm29 cd29 ct29 : Value} {od29 an29 : Option Addr} {sl29 : Array (Option Value)}
    {f30 : Addr} {oc30 kV30 dc30 pm30 cd30 ct30 : Value} {od30 an30 : Option Addr} {sl30 : Array (Option Value)}
    {f31 : Addr} {oc31 kV31 dc31 pm31 cd31 ct31 : Value} {od31 an31 : Option Addr} {sl31 : Array (Option Value)}
    {f32 : Addr} {oc32 kV32 dc32 pm32 cd32 ct32 : Value} {od32 an32 : Option Addr} {sl32 : Array (Option Value)}
    {f33 : Addr} {oc33 kV33 dc33 pm33 cd33 ct33 : Value} {od33 an33 : Option Addr} {sl33 : Array (Option Value)}
    {f34 : Addr} {oc34 kV34 dc34 pm34 cd34 ct34 : Value} {od34 an34 : Option Addr} {sl34 : Array (Option Value)}
    {f35 : Addr} {oc35 kV35 dc35 pm35 cd35 ct35 : Value} {od35 an35 : Option Addr} {sl35 : Array (Option Value)}
    {f36 : Addr} {oc36 kV36 dc36 pm36 cd36 ct36 : Value} {od36 an36 : Option Addr} {sl36 : Array (Option Value)}
    {f37 : Addr} {oc37 kV37 dc37 pm37 cd37 ct37 : Value} {od37 an37 : Option Addr} {sl37 : Array (Option Value)}
    {f38 : Addr} {oc38 kV38 dc38 pm38 cd38 ct38 : Value} {od38 an38 : Option Addr} {sl38 : Array (Option Value)}
    {f39 : Addr} {oc39 kV39 dc39 pm39 cd39 ct39 : Value} {od39 an39 : Option Addr} {sl39 : Array (Option Value)}
    {f40 : Addr} {oc40 kV40 dc40 pm40 cd40 ct40 : Value} {od40 an40 : Option Addr} {sl40 : Array (Option Value)}
    {f41 : Addr} {oc41 kV41 dc41 pm41 cd41 ct41 : Value} {od41 an41 : Option Addr} {sl41 : Array (Option Value)}
    {f42 : Addr} {oc42 kV42 dc42 pm42 cd42 ct42 : Value} {od42 an42 : Option Addr} {sl42 : Array (Option Value)}
    {f43 : Addr} {oc43 kV43 dc43 pm43 cd43 ct43 : Value} {od43 an43 : Option Addr} {sl43 : Array (Option Value)}
    {f44 : Addr} {oc44 kV44 dc44 pm44 cd44 ct44 : Value} {od44 an44 : Option Addr} {sl44 : Array (Option Value)}
    {f45 : Addr} {oc45 kV45 dc45 pm45 cd45 ct45 : Value} {od45 an45 : Option Addr} {sl45 : Array (Option Value)}
    {f46 : Addr} {oc46 kV46 dc46 pm46 cd46 ct46 : Value} {od46 an46 : Option Addr} {sl46 : Array (Option Value)}
    {f47 : Addr} {oc47 kV47 dc47 pm47 cd47 ct47 : Value} {od47 an47 : Option Addr} {sl47 : Array (Option Value)}
    {C_NoPoint : Addr}
    {A_ZERO : Addr} {dd_ZERO : Option Addr} {n_ZERO : Nat} {sl_ZERO : Array (Option Value)} {t0_ZERO : Tok} {t1_ZERO : Tok}
    (a0 : PySem.W.nsIn K mainGlobals "_law_great" = some (some (.ref f0)))
    (l0 : K.lookup f0 = some ⟨oc0, od0, .func (PySem.W.fnOf "_law_great" "_law_great" (defArgs s__law_great) (defBody s__law_great) (defScope s__law_great) .none kV0 dc0 pm0 an0 cd0 ct0), sl0⟩)
    (c0 : PySem.W.codeIn K cd0 "_law_great" = true)
    (k0 : PySem.W.keepIn K (.ref f0) = true)
    (a1 : PySem.W.nsIn K mainGlobals "_law_stream" = some (some (.ref f1)))
    (l1 : K.lookup f1 = some ⟨oc1, od1, .func (PySem.W.fnOf "_law_stream" "_law_stream" (defArgs s__law_stream) (defBody s__law_stream) (defScope s__law_stream) .none kV1 dc1 pm1 an1 cd1 ct1), sl1⟩)
    (c1 : PySem.W.codeIn K cd1 "_law_stream" = true)
    (k1 : PySem.W.keepIn K (.ref f1) = true)
    (a2 : PySem.W.nsIn K mainGlobals "_law_mixed" = some (some (.ref f2)))
    (l2 : K.lookup f2 = some ⟨oc2, od2, .func (PySem.W.fnOf "_law_mixed" "_law_mixed" (defArgs s__law_mixed) (defBody s__law_mixed) (defScope s__law_mixed) .none kV2 dc2 pm2 an2 cd2 ct2), sl2⟩)
    (c2 : PySem.W.codeIn K cd2 "_law_mixed" = true)
    (k2 : PySem.W.keepIn K (.ref f2) = true)
    (a3 : PySem.W.nsIn K mainGlobals "_law_take" = some (some (.ref f3)))
    (l3 : K.lookup f3 = some ⟨oc3, od3, .func (PySem.W.fnOf "_law_take" "_law_take" (defArgs s__law_take) (defBody s__law_take) (defScope s__law_take) .none kV3 dc3 pm3 an3 cd3 ct3), sl3⟩)
    (c3 : PySem.W.codeIn K cd3 "_law_take" = true)
    (k3 : PySem.W.keepIn K (.ref f3) = true)
    (a4 : PySem.W.nsIn K mainGlobals "_law_low" = some (some (.ref f4)))
    (l4 : K.lookup f4 = some ⟨oc4, od4, .func (PySem.W.fnOf "_law_low" "_law_low" (defArgs s__law_low) (defBody s__law_low) (defScope s__law_low) .none kV4 dc4 pm4 an4 cd4 ct4), sl4⟩)
    (c4 : PySem.W.codeIn K cd4 "_law_low" = true)
    (k4 : PySem.W.keepIn K (.ref f4) = true)
    (a5 : PySem.W.nsIn K mainGlobals "_law_tame" = some (some (.ref f5)))
    (l5 : K.lookup f5 = some ⟨oc5, od5, .func (PySem.W.fnOf "_law_tame" "_law_tame" (defArgs s__law_tame) (defBody s__law_tame) (defScope s__law_tame) .none kV5 dc5 pm5 an5 cd5 ct5), sl5⟩)
    (c5 : PySem.W.codeIn K cd5 "_law_tame" = true)
    (k5 : PySem.W.keepIn K (.ref f5) = true)
    (a6 : PySem.W.nsIn K mainGlobals "_law_whole" = some (some (.ref f6)))
    (l6 : K.lookup f6 = some ⟨oc6, od6, .func (PySem.W.fnOf "_law_whole" "_law_whole" (defArgs s__law_whole) (defBody s__law_whole) (defScope s__law_whole) .none kV6 dc6 pm6 an6 cd6 ct6), sl6⟩)
    (c6 : PySem.W.codeIn K cd6 "_law_whole" = true)
    (k6 : PySem.W.keepIn K (.ref f6) = true)
    (a7 : PySem.W.nsIn K mainGlobals "_law_fraction" = some (some (.ref f7)))
    (l7 : K.lookup f7 = some ⟨oc7, od7, .func (PySem.W.fnOf "_law_fraction" "_law_fraction" (defArgs s__law_fraction) (defBody s__law_fraction) (defScope s__law_fraction) .none kV7 dc7 pm7 an7 cd7 ct7), sl7⟩)
    (c7 : PySem.W.codeIn K cd7 "_law_fraction" = true)
    (k7 : PySem.W.keepIn K (.ref f7) = true)
    (a8 : PySem.W.nsIn K mainGlobals "_law_point" = some (some (.ref f8)))
    (l8 : K.lookup f8 = some ⟨oc8, od8, .func (PySem.W.fnOf "_law_point" "_law_point" (defArgs s__law_point) (defBody s__law_point) (defScope s__law_point) .none kV8 dc8 pm8 an8 cd8 ct8), sl8⟩)
    (c8 : PySem.W.codeIn K cd8 "_law_point" = true)
    (k8 : PySem.W.keepIn K (.ref f8) = true)
    (a9 : PySem.W.nsIn K mainGlobals "_law_add" = some (some (.ref f9)))
    (l9 : K.lookup f9 = some ⟨oc9, od9, .func (PySem.W.fnOf "_law_add" "_law_add" (defArgs s__law_add) (defBody s__law_add) (defScope s__law_add) .none kV9 dc9 pm9 an9 cd9 ct9), sl9⟩)
    (c9 : PySem.W.codeIn K cd9 "_law_add" = true)
    (k9 : PySem.W.keepIn K (.ref f9) = true)
    (a10 : PySem.W.nsIn K mainGlobals "_law_plus" = some (some (.ref f10)))
    (l10 : K.lookup f10 = some ⟨oc10, od10, .func (PySem.W.fnOf "_law_plus" "_law_plus" (defArgs s__law_plus) (defBody s__law_plus) (defScope s__law_plus) .none kV10 dc10 pm10 an10 cd10 ct10), sl10⟩)
    (c10 : PySem.W.codeIn K cd10 "_law_plus" = true)
    (k10 : PySem.W.keepIn K (.ref f10) = true)
    (a11 : PySem.W.nsIn K mainGlobals "_law_no_point" = some (some (.ref f11)))
    (l11 : K.lookup f11 = some ⟨oc11, od11, .func (PySem.W.fnOf "_law_no_point" "_law_no_point" (defArgs s__law_no_point) (defBody s__law_no_point) (defScope s__law_no_point) .none kV11 dc11 pm11 an11 cd11 ct11), sl11⟩)
    (c11 : PySem.W.codeIn K cd11 "_law_no_point" = true)
    (k11 : PySem.W.keepIn K (.ref f11) = true)
    (a12 : PySem.W.nsIn K mainGlobals "_law_mul" = some (some (.ref f12)))
    (l12 : K.lookup f12 = some ⟨oc12, od12, .func (PySem.W.fnOf "_law_mul" "_law_mul" (defArgs s__law_mul) (defBody s__law_mul) (defScope s__law_mul) .none kV12 dc12 pm12 an12 cd12 ct12), sl12⟩)
    (c12 : PySem.W.codeIn K cd12 "_law_mul" = true)
    (k12 : PySem.W.keepIn K (.ref f12) = true)
    (a13 : PySem.W.nsIn K mainGlobals "_law_times" = some (some (.ref f13)))
    (l13 : K.lookup f13 = some ⟨oc13, od13, .func (PySem.W.fnOf "_law_times" "_law_times" (defArgs s__law_times) (defBody s__law_times) (defScope s__law_times) .none kV13 dc13 pm13 an13 cd13 ct13), sl13⟩)
    (c13 : PySem.W.codeIn K cd13 "_law_times" = true)
    (k13 : PySem.W.keepIn K (.ref f13) = true)
    (a14 : PySem.W.nsIn K mainGlobals "_law_ray" = some (some (.ref f14)))
    (l14 : K.lookup f14 = some ⟨oc14, od14, .func (PySem.W.fnOf "_law_ray" "_law_ray" (defArgs s__law_ray) (defBody s__law_ray) (defScope s__law_ray) .none kV14 dc14 pm14 an14 cd14 ct14), sl14⟩)
    (c14 : PySem.W.codeIn K cd14 "_law_ray" = true)
    (k14 : PySem.W.keepIn K (.ref f14) = true)
    (a15 : PySem.W.nsIn K mainGlobals "_law_slope" = some (some (.ref f15)))
    (l15 : K.lookup f15 = some ⟨oc15, od15, .func (PySem.W.fnOf "_law_slope" "_law_slope" (defArgs s__law_slope) (defBody s__law_slope) (defScope s__law_slope) .none kV15 dc15 pm15 an15 cd15 ct15), sl15⟩)
    (c15 : PySem.W.codeIn K cd15 "_law_slope" = true)
    (k15 : PySem.W.keepIn K (.ref f15) = true)
    (a16 : PySem.W.nsIn K mainGlobals "_law_sub" = some (some (.ref f16)))
    (l16 : K.lookup f16 = some ⟨oc16, od16, .func (PySem.W.fnOf "_law_sub" "_law_sub" (defArgs s__law_sub) (defBody s__law_sub) (defScope s__law_sub) .none kV16 dc16 pm16 an16 cd16 ct16), sl16⟩)
    (c16 : PySem.W.codeIn K cd16 "_law_sub" = true)
    (k16 : PySem.W.keepIn K (.ref f16) = true)
    (a17 : PySem.W.nsIn K mainGlobals "_law_minus" = some (some (.ref f17)))
    (l17 : K.lookup f17 = some ⟨oc17, od17, .func (PySem.W.fnOf "_law_minus" "_law_minus" (defArgs s__law_minus) (defBody s__law_minus) (defScope s__law_minus) .none kV17 dc17 pm17 an17 cd17 ct17), sl17⟩)
    (c17 : PySem.W.codeIn K cd17 "_law_minus" = true)
    (k17 : PySem.W.keepIn K (.ref f17) = true)
    (a18 : PySem.W.nsIn K mainGlobals "_law_triple" = some (some (.ref f18)))
    (l18 : K.lookup f18 = some ⟨oc18, od18, .func (PySem.W.fnOf "_law_triple" "_law_triple" (defArgs s__law_triple) (defBody s__law_triple) (defScope s__law_triple) .none kV18 dc18 pm18 an18 cd18 ct18), sl18⟩)
    (c18 : PySem.W.codeIn K cd18 "_law_triple" = true)
    (k18 : PySem.W.keepIn K (.ref f18) = true)
    (a19 : PySem.W.nsIn K mainGlobals "_law_flat" = some (some (.ref f19)))
    (l19 : K.lookup f19 = some ⟨oc19, od19, .func (PySem.W.fnOf "_law_flat" "_law_flat" (defArgs s__law_flat) (defBody s__law_flat) (defScope s__law_flat) .none kV19 dc19 pm19 an19 cd19 ct19), sl19⟩)
    (c19 : PySem.W.codeIn K cd19 "_law_flat" = true)
    (k19 : PySem.W.keepIn K (.ref f19) = true)
    (a20 : PySem.W.nsIn K mainGlobals "_law_side" = some (some (.ref f20)))
    (l20 : K.lookup f20 = some ⟨oc20, od20, .func (PySem.W.fnOf "_law_side" "_law_side" (defArgs s__law_side) (defBody s__law_side) (defScope s__law_side) .none kV20 dc20 pm20 an20 cd20 ct20), sl20⟩)
    (c20 : PySem.W.codeIn K cd20 "_law_side" = true)
    (k20 : PySem.W.keepIn K (.ref f20) = true)
    (a21 : PySem.W.nsIn K mainGlobals "whole_triple" = some (some (.ref f21)))
    (l21 : K.lookup f21 = some ⟨oc21, od21, .func (PySem.W.fnOf "whole_triple" "whole_triple" (defArgs s_whole_triple) (defBody s_whole_triple) (defScope s_whole_triple) .none kV21 dc21 pm21 an21 cd21 ct21), sl21⟩)
    (c21 : PySem.W.codeIn K cd21 "whole_triple" = true)
    (k21 : PySem.W.keepIn K (.ref f21) = true)
    (a22 : PySem.W.nsIn K mainGlobals "side_sign" = some (some (.ref f22)))
    (l22 : K.lookup f22 = some ⟨oc22, od22, .func (PySem.W.fnOf "side_sign" "side_sign" (defArgs s_side_sign) (defBody s_side_sign) (defScope s_side_sign) .none kV22 dc22 pm22 an22 cd22 ct22), sl22⟩)
    (c22 : PySem.W.codeIn K cd22 "side_sign" = true)
    (k22 : PySem.W.keepIn K (.ref f22) = true)
    (a23 : PySem.W.nsIn K mainGlobals "common_part" = some (some (.ref f23)))
    (l23 : K.lookup f23 = some ⟨oc23, od23, .func (PySem.W.fnOf "common_part" "common_part" (defArgs s_common_part) (defBody s_common_part) (defScope s_common_part) .none kV23 dc23 pm23 an23 cd23 ct23), sl23⟩)
    (c23 : PySem.W.codeIn K cd23 "common_part" = true)
    (k23 : PySem.W.keepIn K (.ref f23) = true)
    (a24 : PySem.W.nsIn K mainGlobals "is_integer" = some (some (.ref f24)))
    (l24 : K.lookup f24 = some ⟨oc24, od24, .func (PySem.W.fnOf "is_integer" "is_integer" (defArgs s_is_integer) (defBody s_is_integer) (defScope s_is_integer) .none kV24 dc24 pm24 an24 cd24 ct24), sl24⟩)
    (c24 : PySem.W.codeIn K cd24 "is_integer" = true)
    (k24 : PySem.W.keepIn K (.ref f24) = true)
    (a25 : PySem.W.nsIn K mainGlobals "is_fraction" = some (some (.ref f25)))
    (l25 : K.lookup f25 = some ⟨oc25, od25, .func (PySem.W.fnOf "is_fraction" "is_fraction" (defArgs s_is_fraction) (defBody s_is_fraction) (defScope s_is_fraction) .none kV25 dc25 pm25 an25 cd25 ct25), sl25⟩)
    (c25 : PySem.W.codeIn K cd25 "is_fraction" = true)
    (k25 : PySem.W.keepIn K (.ref f25) = true)
    (a26 : PySem.W.nsIn K mainGlobals "is_point" = some (some (.ref f26)))
    (l26 : K.lookup f26 = some ⟨oc26, od26, .func (PySem.W.fnOf "is_point" "is_point" (defArgs s_is_point) (defBody s_is_point) (defScope s_is_point) .none kV26 dc26 pm26 an26 cd26 ct26), sl26⟩)
    (c26 : PySem.W.codeIn K cd26 "is_point" = true)
    (k26 : PySem.W.keepIn K (.ref f26) = true)
    (a27 : PySem.W.nsIn K mainGlobals "turn_of" = some (some (.ref f27)))
    (l27 : K.lookup f27 = some ⟨oc27, od27, .func (PySem.W.fnOf "turn_of" "turn_of" (defArgs s_turn_of) (defBody s_turn_of) (defScope s_turn_of) .none kV27 dc27 pm27 an27 cd27 ct27), sl27⟩)
    (c27 : PySem.W.codeIn K cd27 "turn_of" = true)
    (k27 : PySem.W.keepIn K (.ref f27) = true)
    (a28 : PySem.W.nsIn K mainGlobals "_law_is_integer" = some (some (.ref f28)))
    (l28 : K.lookup f28 = some ⟨oc28, od28, .func (PySem.W.fnOf "_law_is_integer" "_law_is_integer" (defArgs s__law_is_integer) (defBody s__law_is_integer) (defScope s__law_is_integer) .none kV28 dc28 pm28 an28 cd28 ct28), sl28⟩)
    (c28 : PySem.W.codeIn K cd28 "_law_is_integer" = true)
    (k28 : PySem.W.keepIn K (.ref f28) = true)
    (a29 : PySem.W.nsIn K mainGlobals "_law_is_frac" = some (some (.ref f29)))
    (l29 : K.lookup f29 = some ⟨oc29, od29, .func (PySem.W.fnOf "_law_is_frac" "_law_is_frac" (defArgs s__law_is_frac) (defBody s__law_is_frac) (defScope s__law_is_frac) .none kV29 dc29 pm29 an29 cd29 ct29), sl29⟩)
    (c29 : PySem.W.codeIn K cd29 "_law_is_frac" = true)
    (k29 : PySem.W.keepIn K (.ref f29) = true)
    (a30 : PySem.W.nsIn K mainGlobals "_law_is_point" = some (some (.ref f30)))
    (l30 : K.lookup f30 = some ⟨oc30, od30, .func (PySem.W.fnOf "_law_is_point" "_law_is_point" (defArgs s__law_is_point) (defBody s__law_is_point) (defScope s__law_is_point) .none kV30 dc30 pm30 an30 cd30 ct30), sl30⟩)
    (c30 : PySem.W.codeIn K cd30 "_law_is_point" = true)
    (k30 : PySem.W.keepIn K (.ref f30) = true)
    (a31 : PySem.W.nsIn K mainGlobals "_law_turn_asked" = some (some (.ref f31)))
    (l31 : K.lookup f31 = some ⟨oc31, od31, .func (PySem.W.fnOf "_law_turn_asked" "_law_turn_asked" (defArgs s__law_turn_asked) (defBody s__law_turn_asked) (defScope s__law_turn_asked) .none kV31 dc31 pm31 an31 cd31 ct31), sl31⟩)
    (c31 : PySem.W.codeIn K cd31 "_law_turn_asked" = true)
    (k31 : PySem.W.keepIn K (.ref f31) = true)
    (a32 : PySem.W.nsIn K mainGlobals "_law_dot" = some (some (.ref f32)))
    (l32 : K.lookup f32 = some ⟨oc32, od32, .func (PySem.W.fnOf "_law_dot" "_law_dot" (defArgs s__law_dot) (defBody s__law_dot) (defScope s__law_dot) .none kV32 dc32 pm32 an32 cd32 ct32), sl32⟩)
    (c32 : PySem.W.codeIn K cd32 "_law_dot" = true)
    (k32 : PySem.W.keepIn K (.ref f32) = true)
    (a33 : PySem.W.nsIn K mainGlobals "_law_root" = some (some (.ref f33)))
    (l33 : K.lookup f33 = some ⟨oc33, od33, .func (PySem.W.fnOf "_law_root" "_law_root" (defArgs s__law_root) (defBody s__law_root) (defScope s__law_root) .none kV33 dc33 pm33 an33 cd33 ct33), sl33⟩)
    (c33 : PySem.W.codeIn K cd33 "_law_root" = true)
    (k33 : PySem.W.keepIn K (.ref f33) = true)
    (a34 : PySem.W.nsIn K mainGlobals "_law_size" = some (some (.ref f34)))
    (l34 : K.lookup f34 = some ⟨oc34, od34, .func (PySem.W.fnOf "_law_size" "_law_size" (defArgs s__law_size) (defBody s__law_size) (defScope s__law_size) .none kV34 dc34 pm34 an34 cd34 ct34), sl34⟩)
    (c34 : PySem.W.codeIn K cd34 "_law_size" = true)
    (k34 : PySem.W.keepIn K (.ref f34) = true)
    (a35 : PySem.W.nsIn K mainGlobals "whole_root" = some (some (.ref f35)))
    (l35 : K.lookup f35 = some ⟨oc35, od35, .func (PySem.W.fnOf "whole_root" "whole_root" (defArgs s_whole_root) (defBody s_whole_root) (defScope s_whole_root) .none kV35 dc35 pm35 an35 cd35 ct35), sl35⟩)
    (c35 : PySem.W.codeIn K cd35 "whole_root" = true)
    (k35 : PySem.W.keepIn K (.ref f35) = true)
    (a36 : PySem.W.nsIn K mainGlobals "root_of" = some (some (.ref f36)))
    (l36 : K.lookup f36 = some ⟨oc36, od36, .func (PySem.W.fnOf "root_of" "root_of" (defArgs s_root_of) (defBody s_root_of) (defScope s_root_of) .none kV36 dc36 pm36 an36 cd36 ct36), sl36⟩)
    (c36 : PySem.W.codeIn K cd36 "root_of" = true)
    (k36 : PySem.W.keepIn K (.ref f36) = true)
    (a37 : PySem.W.nsIn K mainGlobals "lowest" = some (some (.ref f37)))
    (l37 : K.lookup f37 = some ⟨oc37, od37, .func (PySem.W.fnOf "lowest" "lowest" (defArgs s_lowest) (defBody s_lowest) (defScope s_lowest) .none kV37 dc37 pm37 an37 cd37 ct37), sl37⟩)
    (c37 : PySem.W.codeIn K cd37 "lowest" = true)
    (k37 : PySem.W.keepIn K (.ref f37) = true)
    (a38 : PySem.W.nsIn K mainGlobals "plus" = some (some (.ref f38)))
    (l38 : K.lookup f38 = some ⟨oc38, od38, .func (PySem.W.fnOf "plus" "plus" (defArgs s_plus) (defBody s_plus) (defScope s_plus) .none kV38 dc38 pm38 an38 cd38 ct38), sl38⟩)
    (c38 : PySem.W.codeIn K cd38 "plus" = true)
    (k38 : PySem.W.keepIn K (.ref f38) = true)
    (a39 : PySem.W.nsIn K mainGlobals "product" = some (some (.ref f39)))
    (l39 : K.lookup f39 = some ⟨oc39, od39, .func (PySem.W.fnOf "product" "product" (defArgs s_product) (defBody s_product) (defScope s_product) .none kV39 dc39 pm39 an39 cd39 ct39), sl39⟩)
    (c39 : PySem.W.codeIn K cd39 "product" = true)
    (k39 : PySem.W.keepIn K (.ref f39) = true)
    (a40 : PySem.W.nsIn K mainGlobals "inner_of" = some (some (.ref f40)))
    (l40 : K.lookup f40 = some ⟨oc40, od40, .func (PySem.W.fnOf "inner_of" "inner_of" (defArgs s_inner_of) (defBody s_inner_of) (defScope s_inner_of) .none kV40 dc40 pm40 an40 cd40 ct40), sl40⟩)
    (c40 : PySem.W.codeIn K cd40 "inner_of" = true)
    (k40 : PySem.W.keepIn K (.ref f40) = true)
    (a41 : PySem.W.nsIn K mainGlobals "size_of" = some (some (.ref f41)))
    (l41 : K.lookup f41 = some ⟨oc41, od41, .func (PySem.W.fnOf "size_of" "size_of" (defArgs s_size_of) (defBody s_size_of) (defScope s_size_of) .none kV41 dc41 pm41 an41 cd41 ct41), sl41⟩)
    (c41 : PySem.W.codeIn K cd41 "size_of" = true)
    (k41 : PySem.W.keepIn K (.ref f41) = true)
    (a42 : PySem.W.nsIn K mainGlobals "minus" = some (some (.ref f42)))
    (l42 : K.lookup f42 = some ⟨oc42, od42, .func (PySem.W.fnOf "minus" "minus" (defArgs s_minus) (defBody s_minus) (defScope s_minus) .none kV42 dc42 pm42 an42 cd42 ct42), sl42⟩)
    (c42 : PySem.W.codeIn K cd42 "minus" = true)
    (k42 : PySem.W.keepIn K (.ref f42) = true)
    (a43 : PySem.W.nsIn K mainGlobals "step_of" = some (some (.ref f43)))
    (l43 : K.lookup f43 = some ⟨oc43, od43, .func (PySem.W.fnOf "step_of" "step_of" (defArgs s_step_of) (defBody s_step_of) (defScope s_step_of) .none kV43 dc43 pm43 an43 cd43 ct43), sl43⟩)
    (c43 : PySem.W.codeIn K cd43 "step_of" = true)
    (k43 : PySem.W.keepIn K (.ref f43) = true)
    (a44 : PySem.W.nsIn K mainGlobals "length_of" = some (some (.ref f44)))
    (l44 : K.lookup f44 = some ⟨oc44, od44, .func (PySem.W.fnOf "length_of" "length_of" (defArgs s_length_of) (defBody s_length_of) (defScope s_length_of) .none kV44 dc44 pm44 an44 cd44 ct44), sl44⟩)
    (c44 : PySem.W.codeIn K cd44 "length_of" = true)
    (k44 : PySem.W.keepIn K (.ref f44) = true)
    (a45 : PySem.W.nsIn K mainGlobals "_law_length" = some (some (.ref f45)))
    (l45 : K.lookup f45 = some ⟨oc45, od45, .func (PySem.W.fnOf "_law_length" "_law_length" (defArgs s__law_length) (defBody s__law_length) (defScope s__law_length) .none kV45 dc45 pm45 an45 cd45 ct45), sl45⟩)
    (c45 : PySem.W.codeIn K cd45 "_law_length" = true)
    (k45 : PySem.W.keepIn K (.ref f45) = true)
    (a46 : PySem.W.nsIn K mainGlobals "_law_length_asked" = some (some (.ref f46)))
    (l46 : K.lookup f46 = some ⟨oc46, od46, .func (PySem.W.fnOf "_law_length_asked" "_law_length_asked" (defArgs s__law_length_asked) (defBody s__law_length_asked) (defScope s__law_length_asked) .none kV46 dc46 pm46 an46 cd46 ct46), sl46⟩)
    (c46 : PySem.W.codeIn K cd46 "_law_length_asked" = true)
    (k46 : PySem.W.keepIn K (.ref f46) = true)
    (a47 : PySem.W.nsIn K mainGlobals "law" = some (some (.ref f47)))
    (l47 : K.lookup f47 = some ⟨oc47, od47, .func (PySem.W.fnOf "law" "law" (defArgs s_law) (defBody s_law) (defScope s_law) .none kV47 dc47 pm47 an47 cd47 ct47), sl47⟩)
    (c47 : PySem.W.codeIn K cd47 "law" = true)
    (k47 : PySem.W.keepIn K (.ref f47) = true)
    (z_abs : PySem.W.nsIn K mainGlobals "abs" = some none)
    (z_bool : PySem.W.nsIn K mainGlobals "bool" = some none)
    (z_int : PySem.W.nsIn K mainGlobals "int" = some none)
    (z_isinstance : PySem.W.nsIn K mainGlobals "isinstance" = some none)
    (z_len : PySem.W.nsIn K mainGlobals "len" = some none)
    (z_list : PySem.W.nsIn K mainGlobals "list" = some none)
    (z_min : PySem.W.nsIn K mainGlobals "min" = some none)
    (z_range : PySem.W.nsIn K mainGlobals "range" = some none)
    (z_tuple : PySem.W.nsIn K mainGlobals "tuple" = some none)
    (y_NoPoint : PySem.W.nsIn K mainGlobals "NoPoint" = some (some (.ref C_NoPoint)))
    (s_NoPoint' : PySem.W.subIn K (.ref C_NoPoint) (.type "BaseException") = some true)
    (t_NoPoint : PySem.W.typeIn K (.ref C_NoPoint) = some (.type "type"))
    (q_NoPoint : PySem.W.excIn K C_NoPoint [.type "ValueError", .type "Exception", .type "BaseException", .type "object"] "ValueError.__new__" = true)
    (p_NoPoint : PySem.W.keepIn K (.ref C_NoPoint) = true)
    (i_NoPoint : PySem.W.isClsIn K C_NoPoint = true)
    (u_NoPoint : PySem.W.subIn K (.ref C_NoPoint) (.ref C_NoPoint) = some true)
    (o_ZERO : PySem.W.nsIn K mainGlobals "ZERO" = some (some (.ref A_ZERO)))
    (m_ZERO : K.lookup A_ZERO = some ⟨.type "tuple", dd_ZERO, .seq #[.int (0) t0_ZERO, .int (1) t1_ZERO] n_ZERO, sl_ZERO⟩) :
    ∃ fd : FuncData, (∀ (s : Shared) (v : Value), BindsTo s fd ⟨[v], []⟩ [("_law_script", v)]) ∧ ∀ base : Heap, K.In base → base.Ns mainGlobals mg → FnOk l.prog w K mg base (L2.CX l.prog w) 9 fa fd ["_law_script"] (spF K mg 1 f_law) := by
  have T : Txt K mg := {
    d__law_great := by
      have F := fun_mk (st := s__law_great) l0 c0 k0
      exact ⟨_, _, PySem.W.mg_of X G a0, F, F.binds fun _ _ _ _ _ _ us hl => match us, hl with | [_, _], _ => rfl⟩
    d__law_stream := by
      have F := fun_mk (st := s__law_stream) l1 c1 k1
      exact ⟨_, _, PySem.W.mg_of X G a1, F, F.binds fun _ _ _ _ _ _ us hl => match us, hl with | [_], _ => rfl⟩
    d__law_mixed := by
      have F := fun_mk (st := s__law_mixed) l2 c2 k2
      exact ⟨_, _, PySem.W.mg_of X G a2, F, F.binds fun _ _ _ _ _ _ us hl => match us, hl with | [_, _], _ => rfl⟩
    d__law_take := by
      have F := fun_mk (st := s__law_take) l3 c3 k3
      exact ⟨_, _, PySem.W.mg_of X G a3, F, F.binds fun _ _ _ _ _ _ us hl => match us, hl with | [_, _], _ => rfl⟩
    d__law_low := by
      have F := fun_mk (st := s__law_low) l4 c4 k4
      exact ⟨_, _, PySem.W.mg_of X G a4, F, F.binds fun _ _ _ _ _ _ us hl => match us, hl with | [_, _], _ => rfl⟩
    d__law_tame := by
      have F := fun_mk (st := s__law_tame) l5 c5 k5
      exact ⟨_, _, PySem.W.mg_of X G a5, F, F.binds fun _ _ _ _ _ _ us hl => match us, hl with | [_], _ => rfl⟩
    d__law_whole := by
      have F := fun_mk (st := s__law_whole) l6 c6 k6
      exact ⟨_, _, PySem.W.mg_of X G a6, F, F.binds fun _ _ _ _ _ _ us hl => match us, hl with | [_], _ => rfl⟩
    d__law_fraction := by
      have F := fun_mk (st := s__law_fraction) l7 c7 k7
      exact ⟨_, _, PySem.W.mg_of X G a7, F, F.binds fun _ _ _ _ _ _ us hl => match us, hl with | [_], _ => rfl⟩
    d__law_point := by
      have F := fun_mk (st := s__law_point) l8 c8 k8
      exact ⟨_, _, PySem.W.mg_of X G a8, F, F.binds fun _ _ _ _ _ _ us hl => match us, hl with | [_], _ => rfl⟩
    d__law_add := by
      have F := fun_mk (st := s__law_add) l9 c9 k9
      exact ⟨_, _, PySem.W.mg_of X G a9, F, F.binds fun _ _ _ _ _ _ us hl => match us, hl with | [_, _], _ => rfl⟩
    d__law_plus := by
      have F := fun_mk (st := s__law_plus) l10 c10 k10
      exact ⟨_, _, PySem.W.mg_of X G a10, F, F.binds fun _ _ _ _ _ _ us hl => match us, hl with | [_, _], _ => rfl⟩
    d__law_no_point := by
      have F := fun_mk (st := s__law_no_point) l11 c11 k11
      exact ⟨_, _, PySem.W.mg_of X G a11, F, F.binds fun _ _ _ _ _ _ us hl => match us, hl with | [_], _ => rfl⟩
    d__law_mul := by
      have F := fun_mk (st := s__law_mul) l12 c12 k12
      exact ⟨_, _, PySem.W.mg_of X G a12, F, F.binds fun _ _ _ _ _ _ us hl => match us, hl with | [_, _], _ => rfl⟩
    d__law_times := by
      have F := fun_mk (st := s__law_times) l13 c13 k13
      exact ⟨_, _, PySem.W.mg_of X G a13, F, F.binds fun _ _ _ _ _ _ us hl => match us, hl with | [_, _], _ => rfl⟩
    d__law_ray := by
      have F := fun_mk (st := s__law_ray) l14 c14 k14
      exact ⟨_, _, PySem.W.mg_of X G a14, F, F.binds fun _ _ _ _ _ _ us hl => match us, hl with | [_], _ => rfl⟩
    d__law_slope := by
      have F := fun_mk (st := s__law_slope) l15 c15 k15
      exact ⟨_, _, PySem.W.mg_of X G a15, F, F.binds fun _ _ _ _ _ _ us hl => match us, hl with | [_, _], _ => rfl⟩
    d__law_sub := by
      have F := fun_mk (st := s__law_sub) l16 c16 k16
      exact ⟨_, _, PySem.W.mg_of X G a16, F, F.binds fun _ _ _ _ _ _ us hl => match us, hl with | [_, _], _ => rfl⟩
    d__law_minus := by
      have F := fun_mk (st := s__law_minus) l17 c17 k17
      exact ⟨_, _, PySem.W.mg_of X G a17, F, F.binds fun _ _ _ _ _ _ us hl => match us, hl with | [_, _], _ => rfl⟩
    d__law_triple := by
      have F := fun_mk (st := s__law_triple) l18 c18 k18
      exact ⟨_, _, PySem.W.mg_of X G a18, F, F.binds fun _ _ _ _ _ _ us hl => match us, hl with | [_], _ => rfl⟩
    d__law_flat := by
      have F := fun_mk (st := s__law_flat) l19 c19 k19
      exact ⟨_, _, PySem.W.mg_of X G a19, F, F.binds fun _ _ _ _ _ _ us hl => match us, hl with | [_], _ => rfl⟩
    d__law_side := by
      have F := fun_mk (st := s__law_side) l20 c20 k20
      exact ⟨_, _, PySem.W.mg_of X G a20, F, F.binds fun _ _ _ _ _ _ us hl => match us, hl with | [_, _, _], _ => rfl⟩
    d_whole_triple := by
      have F := fun_mk (st := s_whole_triple) l21 c21 k21
      exact ⟨_, _, PySem.W.mg_of X G a21, F, F.binds fun _ _ _ _ _ _ us hl => match us, hl with | [_], _ => rfl⟩
    d_side_sign := by
      have F := fun_mk (st := s_side_sign) l22 c22 k22
      exact ⟨_, _, PySem.W.mg_of X G a22, F, F.binds fun _ _ _ _ _ _ us hl => match us, hl with | [_, _, _], _ => rfl⟩
    d_common_part := by
      have F := fun_mk (st := s_common_part) l23 c23 k23
      exact ⟨_, _, PySem.W.mg_of X G a23, F, F.binds fun _ _ _ _ _ _ us hl => match us, hl with | [_, _], _ => rfl⟩
    d_is_integer := by
      have F := fun_mk (st := s_is_integer) l24 c24 k24
      exact ⟨_, _, PySem.W.mg_of X G a24, F, F.binds fun _ _ _ _ _ _ us hl => match us, hl with | [_], _ => rfl⟩
    d_is_fraction := by
      have F := fun_mk (st := s_is_fraction) l25 c25 k25
      exact ⟨_, _, PySem.W.mg_of X G a25, F, F.binds fun _ _ _ _ _ _ us hl => match us, hl with | [_], _ => rfl⟩
    d_is_point := by
      have F := fun_mk (st := s_is_point) l26 c26 k26
      exact ⟨_, _, PySem.W.mg_of X G a26, F, F.binds fun _ _ _ _ _ _ us hl => match us, hl with | [_], _ => rfl⟩
    d_turn_of := by
      have F := fun_mk (st := s_turn_of) l27 c27 k27
      exact ⟨_, _, PySem.W.mg_of X G a27, F, F.binds fun _ _ _ _ _ _ us hl => match us, hl with | [_, _, _], _ => rfl⟩
    d__law_is_integer := by
      have F := fun_mk (st := s__law_is_integer) l28 c28 k28
      exact ⟨_, _, PySem.W.mg_of X G a28, F, F.binds fun _ _ _ _ _ _ us hl => match us, hl with | [_], _ => rfl⟩
    d__law_is_frac := by
      have F := fun_mk (st := s__law_is_frac) l29 c29 k29
      exact ⟨_, _, PySem.W.mg_of X G a29, F, F.binds fun _ _ _ _ _ _ us hl => match us, hl with | [_], _ => rfl⟩
    d__law_is_point := by
      have F := fun_mk (st := s__law_is_point) l30 c30 k30
      exact ⟨_, _, PySem.W.mg_of X G a30, F, F.binds fun _ _ _ _ _ _ us hl => match us, hl with | [_], _ => rfl⟩
    d__law_turn_asked := by
      have F := fun_mk (st := s__law_turn_asked) l31 c31 k31
      exact ⟨_, _, PySem.W.mg_of X G a31, F, F.binds fun _ _ _ _ _ _ us hl => match us, hl with | [_, _], _ => rfl⟩
    d__law_dot := by
      have F := fun_mk (st := s__law_dot) l32 c32 k32
      exact ⟨_, _, PySem.W.mg_of X G a32, F, F.binds fun _ _ _ _ _ _ us hl => match us, hl with | [_, _], _ => rfl⟩
    d__law_root := by
      have F := fun_mk (st := s__law_root) l33 c33 k33
      exact ⟨_, _, PySem.W.mg_of X G a33, F, F.binds fun _ _ _ _ _ _ us hl => match us, hl with | [_], _ => rfl⟩
    d__law_size := by
      have F := fun_mk (st := s__law_size) l34 c34 k34
      exact ⟨_, _, PySem.W.mg_of X G a34, F, F.binds fun _ _ _ _ _ _ us hl => match us, hl with | [_], _ => rfl⟩
    d_whole_root := by
      have F := fun_mk (st := s_whole_root) l35 c35 k35
      exact ⟨_, _, PySem.W.mg_of X G a35, F, F.binds fun _ _ _ _ _ _ us hl => match us, hl with | [_], _ => rfl⟩
    d_root_of := by
      have F := fun_mk (st := s_root_of) l36 c36 k36
      exact ⟨_, _, PySem.W.mg_of X G a36, F, F.binds fun _ _ _ _ _ _ us hl => match us, hl with | [_], _ => rfl⟩
    d_lowest := by
      have F := fun_mk (st := s_lowest) l37 c37 k37
      exact ⟨_, _, PySem.W.mg_of X G a37, F, F.binds fun _ _ _ _ _ _ us hl => match us, hl with | [_, _], _ => rfl⟩
    d_plus := by
      have F := fun_mk (st := s_plus) l38 c38 k38
      exact ⟨_, _, PySem.W.mg_of X G a38, F, F.binds fun _ _ _ _ _ _ us hl => match us, hl with | [_, _], _ => rfl⟩
    d_product := by
      have F := fun_mk (st := s_product) l39 c39 k39
      exact ⟨_, _, PySem.W.mg_of X G a39, F, F.binds fun _ _ _ _ _ _ us hl => match us, hl with | [_, _], _ => rfl⟩
    d_inner_of := by
      have F := fun_mk (st := s_inner_of) l40 c40 k40
      exact ⟨_, _, PySem.W.mg_of X G a40, F, F.binds fun _ _ _ _ _ _ us hl => match us, hl with | [_, _], _ => rfl⟩
    d_size_of := by
      have F := fun_mk (st := s_size_of) l41 c41 k41
      exact ⟨_, _, PySem.W.mg_of X G a41, F, F.binds fun _ _ _ _ _ _ us hl => match us, hl with | [_], _ => rfl⟩
    d_minus := by
      have F := fun_mk (st := s_minus) l42 c42 k42
      exact ⟨_, _, PySem.W.mg_of X G a42, F, F.binds fun _ _ _ _ _ _ us hl => match us, hl with | [_, _], _ => rfl⟩
    d_step_of := by
      have F := fun_mk (st := s_step_of) l43 c43 k43
      exact ⟨_, _, PySem.W.mg_of X G a43, F, F.binds fun _ _ _ _ _ _ us hl => match us, hl with | [_, _], _ => rfl⟩
    d_length_of := by
      have F := fun_mk (st := s_length_of) l44 c44 k44
      exact ⟨_, _, PySem.W.mg_of X G a44, F, F.binds fun _ _ _ _ _ _ us hl => match us, hl with | [_, _], _ => rfl⟩
    d__law_length := by
      have F := fun_mk (st := s__law_length) l45 c45 k45
      exact ⟨_, _, PySem.W.mg_of X G a45, F, F.binds fun _ _ _ _ _ _ us hl => match us, hl with | [_, _, _], _ => rfl⟩
    d__law_length_asked := by
      have F := fun_mk (st := s__law_length_asked) l46 c46 k46
      exact ⟨_, _, PySem.W.mg_of X G a46, F, F.binds fun _ _ _ _ _ _ us hl => match us, hl with | [_, _, _], _ => rfl⟩
    d_law := by
      have F := fun_mk (st := s_law) l47 c47 k47
      exact ⟨_, _, PySem.W.mg_of X G a47, F, F.binds fun _ _ _ _ _ _ us hl => match us, hl with | [_], _ => rfl⟩
    b_abs := PySem.W.mg_none_of X G z_abs
    b_bool := PySem.W.mg_none_of X G z_bool
    b_int := PySem.W.mg_none_of X G z_int
    b_isinstance := PySem.W.mg_none_of X G z_isinstance
    b_len := PySem.W.mg_none_of X G z_len
    b_list := PySem.W.mg_none_of X G z_list
    b_min := PySem.W.mg_none_of X G z_min
    b_range := PySem.W.mg_none_of X G z_range
    b_tuple := PySem.W.mg_none_of X G z_tuple
    x_NoPoint := ⟨C_NoPoint, PySem.W.mg_of X G y_NoPoint, q_NoPoint, p_NoPoint, s_NoPoint', t_NoPoint⟩
    e_NoPoint := ⟨C_NoPoint, PySem.W.mg_of X G y_NoPoint, exm_self s_NoPoint' i_NoPoint t_NoPoint u_NoPoint⟩
    c_ZERO := const_tup (its := [.int (0) t0_ZERO, .int (1) t1_ZERO]) (vs := [.int (0), .int (1)]) (PySem.W.mg_of X G o_ZERO) m_ZERO (.cons ⟨_, rfl⟩ (.cons ⟨_, rfl⟩ .nil)) (by show 2 ≤ 1000; decide) (fun _ _ => ⟨_, _, rfl, rfl, _, _, rfl, rfl, rfl⟩) }
  exact law_at hfa T.d_law (fun base => all_ok (P := l.prog) (w := w) (base := base) T) (fun _ _ _ _ _ _ _ _ => .of_eq rfl)
end K05
open PySem PySem.W PyProof.Rows in
set_option maxRecDepth 100000 in
set_option maxHeartbeats 0 in
theorem PySem.Challenge.cw_fourcreases_k05_lengths_and_turns_holds : PySem.Challenge.rw_fourcreases_k05_lengths_and_turns.Holds := by
  w_on; o_law; k_head; (case hw => w_witness2)
  k_fill
  refine Den.den_walk (l := PySem.Challenge.rw_fourcreases_k05_lengths_and_turns) (k := 9) (F := K05.f_law) rfl rfl ⟨rfl, by decide, by decide⟩ (fun w h Y => PySem.W.kIn_of Y) (fun ns h _ => K05.law_true ns h) ?F
  case F =>
    intro w mg fa h KX G hmg
    refine' K05.all_mk KX G hmg ?a0 ?l0 ?c0 ?k0 ?a1 ?l1 ?c1 ?k1 ?a2 ?l2 ?c2 ?k2 ?a3 ?l3 ?c3 ?k3 ?a4 ?l4 ?c4 ?k4 ?a5 ?l5 ?c5 ?k5 ?a6 ?l6 ?c6 ?k6 ?a7 ?l7 ?c7 ?k7 ?a8 ?l8 ?c8 ?k8 ?a9 ?l9 ?c9 ?k9 ?a10 ?l10 ?c10 ?k10 ?a11 ?l11 ?c11 ?k11 ?a12 ?l12 ?c12 ?k12 ?a13 ?l13 ?c13 ?k13 ?a14 ?l14 ?c14 ?k14 ?a15 ?l15 ?c15 ?k15 ?a16 ?l16 ?c16 ?k16 ?a17 ?l17 ?c17 ?k17 ?a18 ?l18 ?c18 ?k18 ?a19 ?l19 ?c19 ?k19 ?a20 ?l20 ?c20 ?k20 ?a21 ?l21 ?c21 ?k21 ?a22 ?l22 ?c22 ?k22 ?a23 ?l23 ?c23 ?k23 ?a24 ?l24 ?c24 ?k24 ?a25 ?l25 ?c25 ?k25 ?a26 ?l26 ?c26 ?k26 ?a27 ?l27 ?c27 ?k27 ?a28 ?l28 ?c28 ?k28 ?a29 ?l29 ?c29 ?k29 ?a30 ?l30 ?c30 ?k30 ?a31 ?l31 ?c31 ?k31 ?a32 ?l32 ?c32 ?k32 ?a33 ?l33 ?c33 ?k33 ?a34 ?l34 ?c34 ?k34 ?a35 ?l35 ?c35 ?k35 ?a36 ?l36 ?c36 ?k36 ?a37 ?l37 ?c37 ?k37 ?a38 ?l38 ?c38 ?k38 ?a39 ?l39 ?c39 ?k39 ?a40 ?l40 ?c40 ?k40 ?a41 ?l41 ?c41 ?k41 ?a42 ?l42 ?c42 ?k42 ?a43 ?l43 ?c43 ?k43 ?a44 ?l44 ?c44 ?k44 ?a45 ?l45 ?c45 ?k45 ?a46 ?l46 ?c46 ?k46 ?a47 ?l47 ?c47 ?k47 ?z_abs ?z_bool ?z_int ?z_isinstance ?z_len ?z_list ?z_min ?z_range ?z_tuple ?y_NoPoint ?s_NoPoint' ?t_NoPoint ?q_NoPoint ?p_NoPoint ?i_NoPoint ?u_NoPoint ?o_ZERO ?m_ZERO
    (case a0 => k_is)
    (case l0 => k_is)
    (case c0 => k_is)
    (case k0 => k_is)
    (case a1 => k_is)
    (case l1 => k_is)
    (case c1 => k_is)
    (case k1 => k_is)
    (case a2 => k_is)
    (case l2 => k_is)
    (case c2 => k_is)
    (case k2 => k_is)
    (case a3 => k_is)
    (case l3 => k_is)
    (case c3 => k_is)
    (case k3 => k_is)
    (case a4 => k_is)
    (case l4 => k_is)
    (case c4 => k_is)
    (case k4 => k_is)
    (case a5 => k_is)
    (case l5 => k_is)
    (case c5 => k_is)
    (case k5 => k_is)
    (case a6 => k_is)
    (case l6 => k_is)
    (case c6 => k_is)
    (case k6 => k_is)
    (case a7 => k_is)
    (case l7 => k_is)
    (case c7 => k_is)
    (case k7 => k_is)
    (case a8 => k_is)
    (case l8 => k_is)
    (case c8 => k_is)
    (case k8 => k_is)
    (case a9 => k_is)
    (case l9 => k_is)
    (case c9 => k_is)
    (case k9 => k_is)
    (case a10 => k_is)
    (case l10 => k_is)
    (case c10 => k_is)
    (case k10 => k_is)
    (case a11 => k_is)
    (case l11 => k_is)
    (case c11 => k_is)
    (case k11 => k_is)
    (case a12 => k_is)
    (case l12 => k_is)
    (case c12 => k_is)
    (case k12 => k_is)
    (case a13 => k_is)
    (case l13 => k_is)
    (case c13 => k_is)
    (case k13 => k_is)
    (case a14 => k_is)
    (case l14 => k_is)
    (case c14 => k_is)
    (case k14 => k_is)
    (case a15 => k_is)
    (case l15 => k_is)
    (case c15 => k_is)
    (case k15 => k_is)
    (case a16 => k_is)
    (case l16 => k_is)
    (case c16 => k_is)
    (case k16 => k_is)
    (case a17 => k_is)
    (case l17 => k_is)
    (case c17 => k_is)
    (case k17 => k_is)
    (case a18 => k_is)
    (case l18 => k_is)
    (case c18 => k_is)
    (case k18 => k_is)
    (case a19 => k_is)
    (case l19 => k_is)
    (case c19 => k_is)
    (case k19 => k_is)
    (case a20 => k_is)
    (case l20 => k_is)
    (case c20 => k_is)
    (case k20 => k_is)
    (case a21 => k_is)
    (case l21 => k_is)
    (case c21 => k_is)
    (case k21 => k_is)
    (case a22 => k_is)
    (case l22 => k_is)
    (case c22 => k_is)
    (case k22 => k_is)
    (case a23 => k_is)
    (case l23 => k_is)
    (case c23 => k_is)
    (case k23 => k_is)
    (case a24 => k_is)
    (case l24 => k_is)
    (case c24 => k_is)
    (case k24 => k_is)
    (case a25 => k_is)
    (case l25 => k_is)
    (case c25 => k_is)
    (case k25 => k_is)
    (case a26 => k_is)
    (case l26 => k_is)
    (case c26 => k_is)
    (case k26 => k_is)
    (case a27 => k_is)
    (case l27 => k_is)
    (case c27 => k_is)
    (case k27 => k_is)
    (case a28 => k_is)
    (case l28 => k_is)
    (case c28 => k_is)
    (case k28 => k_is)
    (case a29 => k_is)
    (case l29 => k_is)
    (case c29 => k_is)
    (case k29 => k_is)
    (case a30 => k_is)
    (case l30 => k_is)
    (case c30 => k_is)
    (case k30 => k_is)
    (case a31 => k_is)
    (case l31 => k_is)
    (case c31 => k_is)
    (case k31 => k_is)
    (case a32 => k_is)
    (case l32 => k_is)
    (case c32 => k_is)
    (case k32 => k_is)
    (case a33 => k_is)
    (case l33 => k_is)
    (case c33 => k_is)
    (case k33 => k_is)
    (case a34 => k_is)
    (case l34 => k_is)
    (case c34 => k_is)
    (case k34 => k_is)
    (case a35 => k_is)
    (case l35 => k_is)
    (case c35 => k_is)
    (case k35 => k_is)
    (case a36 => k_is)
    (case l36 => k_is)
    (case c36 => k_is)
    (case k36 => k_is)
    (case a37 => k_is)
    (case l37 => k_is)
    (case c37 => k_is)
    (case k37 => k_is)
    (case a38 => k_is)
    (case l38 => k_is)
    (case c38 => k_is)
    (case k38 => k_is)
    (case a39 => k_is)
    (case l39 => k_is)
    (case c39 => k_is)
    (case k39 => k_is)
    (case a40 => k_is)
    (case l40 => k_is)
    (case c40 => k_is)
    (case k40 => k_is)
    (case a41 => k_is)
    (case l41 => k_is)
    (case c41 => k_is)
    (case k41 => k_is)
    (case a42 => k_is)
    (case l42 => k_is)
    (case c42 => k_is)
    (case k42 => k_is)
    (case a43 => k_is)
    (case l43 => k_is)
    (case c43 => k_is)
    (case k43 => k_is)
    (case a44 => k_is)
    (case l44 => k_is)
    (case c44 => k_is)
    (case k44 => k_is)
    (case a45 => k_is)
    (case l45 => k_is)
    (case c45 => k_is)
    (case k45 => k_is)
    (case a46 => k_is)
    (case l46 => k_is)
    (case c46 => k_is)
    (case k46 => k_is)
    (case a47 => k_is)
    (case l47 => k_is)
    (case c47 => k_is)
    (case k47 => k_is)
    (case z_abs => k_is)
    (case z_bool => k_is)
    (case z_int => k_is)
    (case z_isinstance => k_is)
    (case z_len => k_is)
    (case z_list => k_is)
    (case z_min => k_is)
    (case z_range => k_is)
    (case z_tuple => k_is)
    (case y_NoPoint => k_is)
    (case s_NoPoint' => k_is)
    (case t_NoPoint => k_is)
    (case q_NoPoint => k_exc)
    (case p_NoPoint => k_is)
    (case i_NoPoint => k_is)
    (case u_NoPoint => k_is)
    (case o_ZERO => k_is)
    (case m_ZERO => k_is)
#print axioms PySem.Challenge.cw_fourcreases_k05_lengths_and_turns_holds
end
