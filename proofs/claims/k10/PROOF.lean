import PyProof.Rows.All
import Wide.All
import OpenK.AllK
import Wide.FinOn
import HandS.ForMost
import HandS.ForExc
import HandS.Wide
import HandS.TupAny
import HandS.Deep
import HandS.Style
import HandS.Walk
import HandS.NoneIn
import HandS.Small
import HandS.Zip
import KE.GoesEnumKw
import HandS.Words
import HandS.IsInst
import HandS.RaiseMore
import HandS.SetKeys
import KE.GoesZip
import HandS.RevTup
import HandS.OwnEq
import HandS.NamedTupGet
import PyProof.InstNe
import KE.KTupSum
import HandS.Star
import KE.KDictZip
import PyProof.ReprLen
import PySem.Challenge.RW_chainshares_k10_books_changed
section
set_option Elab.async false
set_option linter.all false
/-! Gx, the plain side: values as trees, a store of cells, and what each construct of the language does to them. -/
namespace Gx
open PySem

/-- a value: trees for all that is never written again, ref for a cell of the store -/
inductive Val where
  | non | bl (b : Bool) | int (i : Int) | str (s : Str) | ty (n : String) | gl (a : Addr)
  | tup (xs : List Val)
  | lst (xs : List Val)
  | frz (xs : List Val)
  | dct (kvs : List (L2.Key × Val))
  | obj (C : Addr) (fs : List (Str × Val))
  | ref (n : Nat)

mutual
def Val.beq : Val → Val → Bool
  | .non, .non => true
  | .bl a, .bl b => a == b
  | .int a, .int b => a == b
  | .str a, .str b => a == b
  | .ty a, .ty b => a == b
  | .gl a, .gl b => a == b
  | .tup a, .tup b => Val.beqs a b
  | .lst a, .lst b => Val.beqs a b
  | .frz a, .frz b => Val.beqs a b
  | .dct a, .dct b => Val.beqK a b
  | .obj C a, .obj D b => C == D && Val.beqF a b
  | .ref a, .ref b => a == b
  | _, _ => false
def Val.beqs : List Val → List Val → Bool
  | [], [] => true
  | x :: xs, y :: ys => Val.beq x y && Val.beqs xs ys
  | _, _ => false
def Val.beqK : List (L2.Key × Val) → List (L2.Key × Val) → Bool
  | [], [] => true
  | (k, x) :: xs, (l, y) :: ys => decide (k = l) && Val.beq x y && Val.beqK xs ys
  | _, _ => false
def Val.beqF : List (Str × Val) → List (Str × Val) → Bool
  | [], [] => true
  | (k, x) :: xs, (l, y) :: ys => decide (k = l) && Val.beq x y && Val.beqF xs ys
  | _, _ => false
end
mutual
theorem Val.beq_iff : ∀ (a b : Val), Val.beq a b = true ↔ a = b
  | .non, b => by cases b <;> simp [Val.beq]
  | .bl _, b => by cases b <;> simp [Val.beq]
  | .int _, b => by cases b <;> simp [Val.beq]
  | .str _, b => by cases b <;> simp [Val.beq]
  | .ty _, b => by cases b <;> simp [Val.beq]
  | .gl _, b => by cases b <;> simp [Val.beq]
  | .ref _, b => by cases b <;> simp [Val.beq]
  | .tup xs, b => by cases b <;> simp [Val.beq, Val.beqs_iff xs]
  | .lst xs, b => by cases b <;> simp [Val.beq, Val.beqs_iff xs]
  | .frz xs, b => by cases b <;> simp [Val.beq, Val.beqs_iff xs]
  | .dct xs, b => by cases b <;> simp [Val.beq, Val.beqK_iff xs]
  | .obj C xs, b => by cases b <;> simp [Val.beq, Val.beqF_iff xs]
theorem Val.beqs_iff : ∀ (a b : List Val), Val.beqs a b = true ↔ a = b
  | [], b => by cases b <;> simp [Val.beqs]
  | x :: xs, b => by cases b <;> simp [Val.beqs, Val.beq_iff x, Val.beqs_iff xs]
theorem Val.beqK_iff : ∀ (a b : List (L2.Key × Val)), Val.beqK a b = true ↔ a = b
  | [], b => by cases b <;> simp [Val.beqK]
  | (k, x) :: xs, b => by
    cases b with
    | nil => simp [Val.beqK]
    | cons y ys => obtain ⟨l, y⟩ := y; simp [Val.beqK, Val.beq_iff x, Val.beqK_iff xs]
theorem Val.beqF_iff : ∀ (a b : List (Str × Val)), Val.beqF a b = true ↔ a = b
  | [], b => by cases b <;> simp [Val.beqF]
  | (k, x) :: xs, b => by
    cases b with
    | nil => simp [Val.beqF]
    | cons y ys => obtain ⟨l, y⟩ := y; simp [Val.beqF, Val.beq_iff x, Val.beqF_iff xs]
end
instance : DecidableEq Val := fun a b => decidable_of_iff _ (Val.beq_iff a b)

/-- what is written: a list, a dict, an instance -/
inductive Cell where
  | lst (xs : List Val)
  | dct (kvs : List (L2.Key × Val))
  | ins (C : Addr) (fs : List (Str × Val))
  deriving DecidableEq
abbrev Store := List Cell
abbrev Loc := List (Option Val)

/-- an exception: its class, its attributes -/
structure Exc where
  cls : Addr
  fs : List (Str × Val)
  deriving DecidableEq
inductive R (α : Type) where
  | ok (a : α) (S : Store) | exn (x : Exc) (S : Store) | bad
def R.bind {α β : Type} (r : R α) (f : α → Store → R β) : R β :=
  match r with
  | .ok a S => f a S
  | .exn x S => .exn x S
  | .bad => .bad
inductive RS where
  | nx (L : Loc) (S : Store) | ret (v : Val) (S : Store) | exn (x : Exc) (L : Loc) (S : Store) | bad
abbrev E := Loc → Store → R Val
abbrev T := Loc → Store → R Bool
abbrev A := Loc → Store → R (List Val)
abbrev SS := Loc → Store → RS
@[simp] theorem R.bind_ok {α β : Type} (a : α) (S : Store) (f : α → Store → R β) : (R.ok a S).bind f = f a S := rfl
@[simp] theorem R.bind_exn {α β : Type} (x : Exc) (S : Store) (f : α → Store → R β) : (R.exn x S).bind f = .exn x S := rfl
@[simp] theorem R.bind_bad {α β : Type} (f : α → Store → R β) : (R.bad : R α).bind f = .bad := rfl

/-! ### names, constants, operators -/
def eC (v : Val) : E := fun _ S => .ok v S
def eVar (i : Nat) : E := fun L S => match L[i]? with | some (some v) => .ok v S | _ => .bad
abbrev O := Val → Val → Store → R Val
def eBin (f : O) (a b : E) : E := fun L S => (a L S).bind fun x S1 => (b L S1).bind fun y S2 => f x y S2
def eUn (f : Val → Store → R Val) (a : E) : E := fun L S => (a L S).bind f

def oAdd : O
  | .int i, .int j, S => .ok (.int (i + j)) S
  | .str a, .str b, S => if a.length + b.length ≤ sizeLine then .ok (.str (a ++ b)) S else .bad
  | .tup xs, .tup ys, S => if xs.length + ys.length ≤ sizeLine then .ok (.tup (xs ++ ys)) S else .bad
  | _, _, _ => .bad
def oSub : O
  | .int i, .int j, S => .ok (.int (i - j)) S
  | _, _, _ => .bad
def oMul : O
  | .int i, .int j, S => if i.natAbs.log2 + j.natAbs.log2 < 1000000 then .ok (.int (i * j)) S else .bad
  | _, _, _ => .bad
def oFdiv : O
  | .int i, .int j, S => if 0 < j ∧ j.natAbs.log2 < 9000 then .ok (.int (i / j)) S else .bad
  | _, _, _ => .bad
def oMod : O
  | .int i, .int j, S => if 0 < j then .ok (.int (i % j)) S else .bad
  | _, _, _ => .bad
def oPow : O
  | .int i, .int j, S => if 0 ≤ j ∧ j ≤ 1000000 ∧ i.natAbs < 2 ^ 64 then .ok (.int (i ^ j.toNat)) S else .bad
  | _, _, _ => .bad
def oNeg : Val → Store → R Val
  | .int i, S => .ok (.int (-i)) S
  | _, _ => .bad

/-! ### comparisons -/
def oCmp (p : Int → Int → Bool) : O
  | .int i, .int j, S => .ok (.bl (p i j)) S
  | _, _, _ => .bad
abbrev oLt : O := oCmp fun i j => decide (i < j)
abbrev oLe : O := oCmp fun i j => decide (i ≤ j)
abbrev oGt : O := oCmp fun i j => decide (j < i)
abbrev oGe : O := oCmp fun i j => decide (j ≤ i)

/-- the items of a list or tuple, and whether it is a list -/
def seqOf (S : Store) : Val → Option (Bool × List Val)
  | .tup xs => some (false, xs)
  | .lst xs => some (true, xs)
  | .frz xs => some (true, xs)
  | .ref n => match S[n]? with | some (.lst xs) => some (true, xs) | _ => none
  | _ => none
/-- the items of a list that is not locked -/
def lstOf (S : Store) : Val → Option (List Val)
  | .lst xs => some xs
  | .ref n => match S[n]? with | some (.lst xs) => some xs | _ => none
  | _ => none
mutual
/-- plain data, where it is some -/
def dat : Val → Option PyData
  | .non => some .none
  | .bl b => some (.bool b)
  | .int i => some (.int i)
  | .str s => some (.str s)
  | .tup xs => (dats xs).map .tuple
  | .lst xs => (dats xs).map .list
  | _ => none
def dats : List Val → Option (List PyData)
  | [] => some []
  | x :: xs => match dat x, dats xs with | some d, some ds => some (d :: ds) | _, _ => none
end
/-- .. a list of the store read as it stands, if its items are plain data -/
def datS (S : Store) : Val → Option PyData
  | .ref n => match S[n]? with | some (.lst xs) => dat (.lst xs) | _ => none
  | v => dat v
/-- Python's == where it is known -/
def pyEq (S : Store) (x y : Val) : Option Bool :=
  match x, y with
  | .non, .non => some true
  | .non, .int _ => some false
  | .int _, .non => some false
  | .non, .str _ => some false
  | .str _, .non => some false
  | .int i, .int j => some (decide (i = j))
  | .bl a, .bl b => some (decide (a = b))
  | .str a, .str b => some (decide (a = b))
  | .tup xs, .tup [] => some xs.isEmpty
  | .lst xs, .lst [] => some xs.isEmpty
  | .ref n, .lst [] => match S[n]? with | some (.lst xs) => some xs.isEmpty | _ => none
  | x, y => match datS S x, datS S y with
    | some d, some e => if SeqAt.shaped d && SeqAt.shaped e then some (PyData.eqv d e) else none
    | _, _ => none
def oEq : O := fun x y S => match pyEq S x y with | some b => .ok (.bl b) S | none => .bad
def oNe : O := fun x y S => match pyEq S x y with | some b => .ok (.bl (!b)) S | none => .bad
def oIsN : O := fun x y S => match y with | .non => .ok (.bl (match x with | .non => true | _ => false)) S | _ => .bad
def oNotN : O := fun x y S => match y with | .non => .ok (.bl (match x with | .non => false | _ => true)) S | _ => .bad
def oIsB : O := fun x y S => match x, y with | .bl a, .bl b => .ok (.bl (decide (a = b))) S | _, _ => .bad
def oNotB : O := fun x y S => match x, y with | .bl a, .bl b => .ok (.bl (!decide (a = b))) S | _, _ => .bad
/-- a op1 b op2 c -/
def eChain (f g : O) (a b c : E) : E := fun L S => (a L S).bind fun x S1 => (b L S1).bind fun y S2 => (f x y S2).bind fun z S3 =>
  match z with
  | .bl true => (c L S3).bind fun w S4 => g y w S4
  | .bl false => .ok (.bl false) S3
  | _ => .bad

/-! ### and, or, not, if: of truth values -/
def eAnd (a b : E) : E := fun L S => (a L S).bind fun x S1 => match x with | .bl true => b L S1 | .bl false => .ok (.bl false) S1 | _ => .bad
def eOr (a b : E) : E := fun L S => (a L S).bind fun x S1 => match x with | .bl true => .ok (.bl true) S1 | .bl false => b L S1 | _ => .bad
def eNot (a : E) : E := fun L S => (a L S).bind fun x S1 => match x with | .bl c => .ok (.bl (!c)) S1 | _ => .bad
def tOf (a : E) : T := fun L S => (a L S).bind fun x S1 => match x with | .bl c => .ok c S1 | _ => .bad
def tAnd (a b : T) : T := fun L S => (a L S).bind fun x S1 => if x then b L S1 else .ok false S1
def tOr (a b : T) : T := fun L S => (a L S).bind fun x S1 => if x then .ok true S1 else b L S1
def tNot (a : T) : T := fun L S => (a L S).bind fun x S1 => .ok (!x) S1
def eIf (c : T) (a b : E) : E := fun L S => (c L S).bind fun x S1 => if x then a L S1 else b L S1

/-! ### arguments, displays -/
def aNil : A := fun _ S => .ok [] S
def aCons (e : E) (r : A) : A := fun L S => (e L S).bind fun x S1 => (r L S1).bind fun xs S2 => .ok (x :: xs) S2
def aStar (e : E) (r : A) : A := fun L S => (e L S).bind fun x S1 => match seqOf S1 x with
  | some (_, xs) => (r L S1).bind fun ys S2 => .ok (xs ++ ys) S2
  | none => .bad
def eTup (a : A) : E := fun L S => (a L S).bind fun xs S1 => if xs.length ≤ sizeLine then .ok (.tup xs) S1 else .bad
/-- a new list that is never written -/
def fLst (a : A) : A := fun L S => (a L S).bind fun xs S1 => if xs.length ≤ sizeLine then .ok xs S1 else .bad
/-- a new list, taken as it stands; as a cell -/
def eFr (f : A) : E := fun L S => (f L S).bind fun xs S1 => .ok (.lst xs) S1
def eMk (f : A) : E := fun L S => (f L S).bind fun xs S1 => .ok (.ref S1.length) (S1 ++ [.lst xs])

/-! ### statements -/
def ofE {α : Type} (L : Loc) (r : R α) (f : α → Store → RS) : RS :=
  match r with
  | .ok v S => f v S
  | .exn x S => .exn x L S
  | .bad => .bad
@[simp] theorem ofE_ok {α : Type} (L : Loc) (a : α) (S : Store) (f : α → Store → RS) : ofE L (.ok a S) f = f a S := rfl
@[simp] theorem ofE_exn {α : Type} (L : Loc) (x : Exc) (S : Store) (f : α → Store → RS) : ofE L (.exn x S) f = .exn x L S := rfl
@[simp] theorem ofE_bad {α : Type} (L : Loc) (f : α → Store → RS) : ofE L .bad f = .bad := rfl
def RS.next (r : RS) (f : Loc → Store → RS) : RS :=
  match r with
  | .nx L S => f L S
  | .ret v S => .ret v S
  | .exn x L S => .exn x L S
  | .bad => .bad
@[simp] theorem next_nx (L : Loc) (S : Store) (f : Loc → Store → RS) : (RS.nx L S).next f = f L S := rfl
@[simp] theorem next_ret (v : Val) (S : Store) (f : Loc → Store → RS) : (RS.ret v S).next f = .ret v S := rfl
@[simp] theorem next_exn (x : Exc) (L : Loc) (S : Store) (f : Loc → Store → RS) : (RS.exn x L S).next f = .exn x L S := rfl
@[simp] theorem next_bad (f : Loc → Store → RS) : RS.bad.next f = .bad := rfl
/-- a store's end -/
def RS.plain : RS → RS
  | .ret _ _ => .bad
  | r => r
@[simp] theorem plain_nx (L : Loc) (S : Store) : (RS.nx L S).plain = .nx L S := rfl
@[simp] theorem plain_bad : RS.bad.plain = .bad := rfl
def sNil : SS := fun L S => .nx L S
def sSeq (a b : SS) : SS := fun L S => (a L S).next b
def sDrop (e : E) : SS := fun L S => ofE L (e L S) fun _ S1 => .nx L S1
def sRet (e : E) : SS := fun L S => ofE L (e L S) fun v S1 => .ret v S1
def sRetN : SS := fun _ S => .ret .non S
def sIf (c : T) (a b : SS) : SS := fun L S => ofE L (c L S) fun k S1 => if k then a L S1 else b L S1
def sNever : SS := fun _ _ => .bad
/-- what is stored, and where -/
abbrev G := Val → Loc → Store → RS
abbrev Gs := List Val → Loc → Store → RS
def gName (i : Nat) : G := fun v L S => .nx (L.set i (some v)) S
def gNil : Gs := fun vs L S => match vs with | [] => .nx L S | _ => .bad
def gCons (g : G) (r : Gs) : Gs := fun vs L S => match vs with | v :: vs => (g v L S).plain.next fun L1 S1 => r vs L1 S1 | [] => .bad
def gTup (n : Nat) (g : Gs) : G := fun v L S => match seqOf S v with
  | some (_, xs) => if xs.length = n then (g xs L S).plain else .bad
  | none => .bad
def keyOf : Val → Option L2.Key
  | .int i => some (.inl i)
  | .str s => some (.inr s)
  | _ => none
def putV (kvs : List (L2.Key × Val)) (k : L2.Key) (v : Val) : List (L2.Key × Val) :=
  if kvs.any (fun p => decide (p.1 = k)) then kvs.map (fun p => if p.1 = k then (p.1, v) else p) else kvs ++ [(k, v)]
def getV (kvs : List (L2.Key × Val)) (k : L2.Key) : Option Val := (kvs.find? fun p => decide (p.1 = k)).map (·.2)
def putA (f : Str) (v : Val) : List (Str × Val) → List (Str × Val)
  | [] => [(f, v)]
  | (g, x) :: r => if g = f then (g, v) :: r else (g, x) :: putA f v r
def setItem (o k v : Val) (S : Store) : Option Store :=
  match o with
  | .ref n => match S[n]? with
    | some (.lst xs) => match k with
      | .int i => (L2.ixN xs.length i).map fun j => S.set n (.lst (xs.set j v))
      | _ => none
    | some (.dct kvs) => match keyOf k with
      | some k => if kvs.length < sizeLine then some (S.set n (.dct (putV kvs k v))) else none
      | none => none
    | _ => none
  | _ => none
def gSub (a i : E) : G := fun v L S => ofE L (a L S) fun o S1 => ofE L (i L S1) fun k S2 => match setItem o k v S2 with | some S3 => .nx L S3 | none => .bad
def setAttr (f : Str) (o v : Val) (S : Store) : Option Store :=
  match o with
  | .ref n => match S[n]? with
    | some (.ins C fs) => if fs.length < 1000 then some (S.set n (.ins C (putA f v fs))) else none
    | _ => none
  | _ => none
def gAttr (f : Str) (a : E) : G := fun v L S => ofE L (a L S) fun o S1 => match setAttr f o v S1 with | some S2 => .nx L S2 | none => .bad
def sAsg (e : E) (g : G) : SS := fun L S => ofE L (e L S) fun v S1 => (g v L S1).plain

/-! ### what is walked -/
structure Src where
  stay : List (Nat × Cell)
  items : List Val
def Src.ok (s : Src) (S : Store) : Bool := s.stay.all fun p => decide (S[p.1]? = some p.2)
abbrev I := Loc → Store → R Src
def itOf (S : Store) : Val → Option Src
  | .tup xs => some ⟨[], xs⟩
  | .lst xs => some ⟨[], xs⟩
  | .frz xs => some ⟨[], xs⟩
  | .ref n => match S[n]? with | some (.lst xs) => some ⟨[(n, .lst xs)], xs⟩ | _ => none
  | _ => none
def iVal (e : E) : I := fun L S => (e L S).bind fun v S1 => match itOf S1 v with | some s => .ok s S1 | none => .bad
def iStr (e : E) : I := fun L S => (e L S).bind fun v S1 => match v with | .str z => .ok ⟨[], z.cps.toList.map fun c => .str ⟨#[c]⟩⟩ S1 | _ => .bad
def rangeV (a : Int) (n : Nat) : List Val := (List.range n).map fun (i : Nat) => .int (a + i)
def iRange1 (e : E) : I := fun L S => (e L S).bind fun v S1 => match v with
  | .int j => if -(2 ^ 62) ≤ j ∧ j < 2 ^ 62 then .ok ⟨[], rangeV 0 j.toNat⟩ S1 else .bad
  | _ => .bad
def iRange2 (a b : E) : I := fun L S => (a L S).bind fun v S1 => (b L S1).bind fun w S2 => match v, w with
  | .int i, .int j => if -(2 ^ 62) ≤ i ∧ i < 2 ^ 62 ∧ -(2 ^ 62) ≤ j ∧ j < 2 ^ 62 then .ok ⟨[], rangeV i (j - i).toNat⟩ S2 else .bad
  | _, _ => .bad
def enumV (a : Int) (xs : List Val) : List Val := xs.zipIdx.map fun p => .tup [.int (a + p.2), p.1]
def iEnum (e : E) : I := fun L S => (iVal e L S).bind fun s S1 => .ok ⟨s.stay, enumV 0 s.items⟩ S1
def zipV (xs ys : List Val) : List Val := (xs.zip ys).map fun p => .tup [p.1, p.2]
def iZip (a b : E) : I := fun L S => (a L S).bind fun v S1 => (b L S1).bind fun w S2 => match itOf S2 v, itOf S2 w with
  | some s, some t => .ok ⟨s.stay ++ t.stay, zipV s.items t.items⟩ S2
  | _, _ => .bad
def forGo (stay : Store → Bool) (g : G) (b : SS) : List Val → SS
  | [] => fun L S => if stay S then .nx L S else .bad
  | x :: xs => fun L S => if stay S then (g x L S).plain.next fun L1 S1 => (b L1 S1).next (forGo stay g b xs) else .bad
def sFor (i : I) (g : G) (b : SS) : SS := fun L S => ofE L (i L S) fun s S1 => forGo s.ok g b s.items L S1
def whileN (c : T) (b : SS) : Nat → SS
  | 0 => fun _ _ => .bad
  | n + 1 => fun L S => ofE L (c L S) fun k S1 => if k then (b L S1).next (whileN c b n) else .nx L S1
@[irreducible] def fuel : Nat := Nat.pow 2 4096
def sWhile (c : T) (b : SS) : SS := whileN c b fuel
def wipeL (L : Loc) : List Nat → Loc
  | [] => L
  | i :: r => wipeL (L.set i none) r
/-- nothing may be raised within -/
def calm {α : Type} : R α → R α
  | .ok v S => .ok v S
  | _ => .bad
def tYes : T := fun _ S => .ok true S
def compGo (stay : Store → Bool) (g : G) (c : T) (e : E) (L : Loc) : List Val → Store → R (List Val)
  | [], S => if stay S then .ok [] S else .bad
  | x :: xs, S => if stay S then match g x L S with
    | .nx L1 S1 => (c L1 S1).bind fun k S2 => if k then (e L1 S2).bind fun v S3 => (compGo stay g c e L xs S3).bind fun r S4 => .ok (v :: r) S4 else compGo stay g c e L xs S2
    | _ => .bad
    else .bad
def fComp (own : List Nat) (i : I) (g : G) (c : T) (e : E) : A := fun L S => (i L S).bind fun s S1 => (calm (compGo s.ok g c e (wipeL L own) s.items S1)).bind fun xs S2 => if xs.length ≤ sizeLine then .ok xs S2 else .bad

/-! ### subscripts, slices -/
def oIdx : O := fun x y S => match y with
  | .int i => match x with
    | .str z => if z.length ≤ sizeLine then match L2.atI z.cps.toList i with | some c => .ok (.str ⟨#[c]⟩) S | none => .bad else .bad
    | x => match seqOf S x with
      | some (_, xs) => match L2.atI xs i with | some v => .ok v S | none => .bad
      | none => .bad
  | _ => .bad
def dctOf (S : Store) : Val → Option (List (L2.Key × Val))
  | .dct kvs => some kvs
  | .ref n => match S[n]? with | some (.dct kvs) => some kvs | _ => none
  | _ => none
def oGet : O := fun x y S => match dctOf S x, keyOf y with
  | some kvs, some k => match getV kvs k with | some v => .ok v S | none => .bad
  | _, _ => .bad
def cutL {α : Type} (xs : List α) (lo hi : Option Int) : List α := (xs.drop (HT.sIx xs.length 0 lo)).take (HT.sIx xs.length xs.length hi - HT.sIx xs.length 0 lo)
def partE : Option E → Loc → Store → R (Option Int)
  | none, _, S => .ok none S
  | some e, L, S => (e L S).bind fun v S1 => match v with | .int i => .ok (some i) S1 | _ => .bad
def eSlice (a : E) (lo hi : Option E) : E := fun L S => (a L S).bind fun x S1 => (partE lo L S1).bind fun l S2 => (partE hi L S2).bind fun h S3 => match x with
  | .str z => if z.length ≤ sizeLine then .ok (.str (L2.cutS z l h)) S3 else .bad
  | .tup xs => .ok (.tup (cutL xs l h)) S3
  | x => match seqOf S3 x with
    | some (true, xs) => .ok (.lst (cutL xs l h)) S3
    | _ => .bad
def fSlice (a : E) (lo hi : Option E) : A := fun L S => (a L S).bind fun x S1 => (partE lo L S1).bind fun l S2 => (partE hi L S2).bind fun h S3 => match seqOf S3 x with
    | some (true, xs) => .ok (cutL xs l h) S3
    | _ => .bad

/-! ### attributes, calls -/
def objOf (S : Store) : Val → Option (Addr × List (Str × Val))
  | .obj C fs => some (C, fs)
  | .ref n => match S[n]? with | some (.ins C fs) => some (C, fs) | _ => none
  | _ => none
def eAttr (f : Str) (a : E) : E := fun L S => (a L S).bind fun x S1 => match objOf S1 x with
  | some (_, fs) => match fs.lookup f with | some v => .ok v S1 | none => .bad
  | none => .bad
abbrev F := List Val → Store → R Val
def eCall (f : F) (a : A) : E := fun L S => (a L S).bind f
def eMeth (C : Addr) (m : Str) (f : F) (o : E) (a : A) : E := fun L S => (o L S).bind fun x S1 => match objOf S1 x with
  | some (D, fs) => if D = C ∧ fs.lookup m = none then (a L S1).bind fun xs S2 => f (x :: xs) S2 else .bad
  | none => .bad

/-! ### what a call leaves: the new cells are taken as values that are never written again -/
mutual
def fzV (r : Nat → Option Val) : Val → Option Val
  | .non => some .non
  | .bl b => some (.bl b)
  | .int i => some (.int i)
  | .str s => some (.str s)
  | .ty n => some (.ty n)
  | .gl a => some (.gl a)
  | .tup xs => (fzVs r xs).map .tup
  | .lst xs => (fzVs r xs).map .lst
  | .frz xs => (fzVs r xs).map .frz
  | .dct kvs => (fzVK r kvs).map .dct
  | .obj C fs => (fzVF r fs).map (.obj C)
  | .ref n => r n
def fzVs (r : Nat → Option Val) : List Val → Option (List Val)
  | [] => some []
  | x :: xs => (fzV r x).bind fun y => (fzVs r xs).map (y :: ·)
def fzVK (r : Nat → Option Val) : List (L2.Key × Val) → Option (List (L2.Key × Val))
  | [] => some []
  | (k, x) :: xs => (fzV r x).bind fun y => (fzVK r xs).map ((k, y) :: ·)
def fzVF (r : Nat → Option Val) : List (Str × Val) → Option (List (Str × Val))
  | [] => some []
  | (k, x) :: xs => (fzV r x).bind fun y => (fzVF r xs).map ((k, y) :: ·)
end
def fzR (n : Nat) (S : Store) : Nat → Nat → Option Val
  | 0, m => if m < n then some (.ref m) else none
  | k + 1, m => if m < n then some (.ref m) else match S[m]? with
    | some (.lst xs) => (fzVs (fzR n S k) xs).map .lst
    | some (.dct kvs) => (fzVK (fzR n S k) kvs).map .dct
    | some (.ins C fs) => (fzVF (fzR n S k) fs).map (.obj C)
    | none => none
def belowR (n m : Nat) : Option Val := if m < n then some (.ref m) else none
def Cell.below (n : Nat) : Cell → Bool
  | .lst xs => (fzVs (belowR n) xs).isSome
  | .dct kvs => (fzVK (belowR n) kvs).isSome
  | .ins _ fs => (fzVF (belowR n) fs).isSome
def fits (S S' : Store) : Bool := (List.range S.length).all fun i => match S'[i]? with
  | some c => decide (S[i]? = some c) || c.below S.length
  | none => false
def gcR (d : Nat) (S : Store) : R Val → R Val
  | .ok v S' => match fzV (fzR S.length S' d) v with
    | some v' => if fits S S' then .ok v' (S'.take S.length) else .ok v S'
    | none => .ok v S'
  | r => r
def startL (n : Nat) (args : List Val) : Loc := args.map some ++ List.replicate (n - args.length) none
/-- a def of np parameters with n names, d levels of whose new cells are let go -/
def fnD (np n d : Nat) (b : SS) : F := fun args S => if args.length = np then gcR d S (match b (startL n args) S with
  | .nx _ S1 => .ok .non S1
  | .ret v S1 => .ok v S1
  | .exn x _ S1 => .exn x S1
  | .bad => .bad) else .bad
theorem fnD_arity {np n d : Nat} {b : SS} (args : List Val) (S : Store) (h : args.length ≠ np) : fnD np n d b args S = .bad := if_neg h
end Gx
namespace Gx
open PySem
/-- C(..): a new instance of the class at C, then its __init__ f; it is taken as it stands behind that, where d is more than 0 -/
def eMake (C : Addr) (f : F) (d : Nat) (a : A) : E := fun L S => (a L S).bind fun xs S1 => (f (.ref S1.length :: xs) (S1 ++ [.ins C []])).bind fun v S2 => match v with
  | .non => gcR d S1 (.ok (.ref S1.length) S2)
  | _ => .bad
def aApp (a : A) (ds : List Val) : A := fun L S => (a L S).bind fun xs S1 => .ok (xs ++ ds) S1
/-- the written order of the arguments is turned into that of the parameters -/
def aPick (a : A) (ix : List Nat) : A := fun L S => (a L S).bind fun xs S1 => match ix.mapM (xs[·]?) with
  | some ys => .ok ys S1
  | none => .bad
/-- a.f of an instance of one of the classes at Cs -/
def eFld (Cs : List Addr) (f : Str) (a : E) : E := fun L S => (a L S).bind fun x S1 => match objOf S1 x with
  | some (C, fs) => if C ∈ Cs then match fs.lookup f with | some v => .ok v S1 | none => .bad else .bad
  | none => .bad
end Gx
namespace Gx
open PySem
/-! ### built-in functions by values -/
abbrev FV := List Val → Store → R Val
def bLen : FV := fun xs S => match xs with
  | [x] => match x with
    | .str z => if z.length ≤ sizeLine then .ok (.int z.length) S else .bad
    | x => match seqOf S x with
      | some (_, ys) => .ok (.int ys.length) S
      | none => .bad
  | _ => .bad
def tyNames : List String := ["NoneType", "bool", "int", "str", "tuple", "list", "dict"]
def tyOf (S : Store) : Val → Option (String ⊕ Addr)
  | .non => some (.inl "NoneType")
  | .bl _ => some (.inl "bool")
  | .int _ => some (.inl "int")
  | .str _ => some (.inl "str")
  | .tup _ => some (.inl "tuple")
  | .lst _ => some (.inl "list")
  | .frz _ => some (.inl "list")
  | .dct _ => some (.inl "dict")
  | .obj C _ => some (.inr C)
  | .ref n => match S[n]? with
    | some (.lst _) => some (.inl "list")
    | some (.dct _) => some (.inl "dict")
    | some (.ins C _) => some (.inr C)
    | none => none
  | _ => none
def isiV (t : String ⊕ Addr) : Val → Option Bool
  | .ty n => match t with
    | .inl t => some (decide (t = n) || (decide (t = "bool") && decide (n = "int")))
    | .inr _ => some false
  | .gl C => match t with
    | .inl _ => some false
    | .inr D => some (decide (D = C))
  | _ => none
def okTy (Cs : List Addr) : String ⊕ Addr → Bool
  | .inl t => decide (t ∈ tyNames)
  | .inr C => decide (C ∈ Cs)
def okCl (Cs : List Addr) : Val → Bool
  | .ty n => decide (n ∈ tyNames)
  | .gl C => decide (C ∈ Cs)
  | _ => false
/-- isinstance, own classes being those at Cs -/
def bIsi (Cs : List Addr) : FV := fun xs S => match xs with
  | [x, c] => match tyOf S x with
    | some t => if okTy Cs t && okCl Cs c then
        match isiV t c with | some b => .ok (.bl b) S | none => .bad
      else .bad
    | none => .bad
  | _ => .bad
def bInt : FV := fun xs S => match xs with
  | [.int i] => .ok (.int i) S
  | [.bl b] => .ok (.int (if b then 1 else 0)) S
  | [.str z] => if z.length ≤ 640 then match intText? z with | some n => .ok (.int n) S | none => .bad else .bad
  | _ => .bad
def bStr : FV := fun xs S => match xs with
  | [.int i] => if i.natAbs.log2 < 1920 then .ok (.str (toString i)) S else .bad
  | [.str z] => .ok (.str z) S
  | _ => .bad
def intsOf : List Val → Option (List Int)
  | [] => some []
  | .int i :: xs => (intsOf xs).map (i :: ·)
  | _ :: _ => none
def boolsOf : List Val → Option (List Bool)
  | [] => some []
  | .bl i :: xs => (boolsOf xs).map (i :: ·)
  | _ :: _ => none
def strsOf : List Val → Option (List Str)
  | [] => some []
  | .str i :: xs => (strsOf xs).map (i :: ·)
  | _ :: _ => none
/-- of the items of one list -/
def ofList (g : List Val → Option Val) : FV := fun xs S => match xs with
  | [x] => match seqOf S x with
    | some (true, ys) => match g ys with | some v => .ok v S | none => .bad
    | _ => .bad
  | _ => .bad
def sumV (ys : List Val) : Option Val := (intsOf ys).map fun ns => .int ns.sum
def allV (ys : List Val) : Option Val := (boolsOf ys).map fun bs => .bl (bs.all id)
def anyV (ys : List Val) : Option Val := (boolsOf ys).map fun bs => .bl (bs.any id)
def maxI : List Int → Int
  | [] => 0
  | x :: xs => xs.foldl max x
def minI : List Int → Int
  | [] => 0
  | x :: xs => xs.foldl min x
def maxV (ys : List Val) : Option Val := match intsOf ys with | some (n :: ns) => some (.int (maxI (n :: ns))) | _ => none
def minV (ys : List Val) : Option Val := match intsOf ys with | some (n :: ns) => some (.int (minI (n :: ns))) | _ => none
def bMax2 : FV := fun xs S => match xs with | [.int i, .int j] => .ok (.int (max i j)) S | _ => .bad
def bMin2 : FV := fun xs S => match xs with | [.int i, .int j] => .ok (.int (min i j)) S | _ => .bad
def bTup : FV := fun xs S => match xs with
  | [x] => match seqOf S x with
    | some (_, ys) => .ok (.tup ys) S
    | none => .bad
  | _ => .bad
def fList (e : E) : A := fun L S => (e L S).bind fun x S1 => match seqOf S1 x with
  | some (_, ys) => .ok ys S1
  | none => .bad
/-! ### methods of built-in types -/
abbrev MV := Val → List Val → Store → R Val
def eBm (m : MV) (o : E) (a : A) : E := fun L S => (o L S).bind fun x S1 => (a L S1).bind fun xs S2 => m x xs S2
def mAppend : MV := fun x xs S => match x, xs with
  | .ref n, [v] => match S[n]? with
    | some (.lst ys) => if ys.length < sizeLine then .ok .non (S.set n (.lst (ys ++ [v]))) else .bad
    | _ => .bad
  | _, _ => .bad
def mPop : MV := fun x xs S => match x, xs with
  | .ref n, [] => match S[n]? with
    | some (.lst ys) => match ys[ys.length - 1]? with
      | some v => .ok v (S.set n (.lst ys.dropLast))
      | none => .bad
    | _ => .bad
  | _, _ => .bad
def mExtend : MV := fun x xs S => match x, xs with
  | .ref n, [v] => match S[n]?, lstOf S v with
    | some (.lst ys), some zs => if ys.length + zs.length ≤ sizeLine then .ok .non (S.set n (.lst (ys ++ zs))) else .bad
    | _, _ => .bad
  | _, _ => .bad
/-- x.split(y) -/
def fSplit (a b : E) : A := fun L S => (a L S).bind fun x S1 => match x with
  | .str z => (b L S1).bind fun y S2 => match y with
    | .str s => if (s.length == 0) = false ∧ z.length + 2 ≤ sizeLine then .ok ((Txt.split z s).map .str) S2 else .bad
    | _ => .bad
  | _ => .bad
def mJoin : MV := fun x xs S => match x, xs with
  | .str s, [v] => match seqOf S v with
    | some (_, ys) => match strsOf ys with
      | some zs => if (zs.map (·.length)).sum + zs.length * s.length ≤ 16777216 then .ok (.str (Txt.join s zs)) S else .bad
      | none => .bad
    | none => .bad
  | _, _ => .bad
/-- list + list -/
def fCat (a b : E) : A := fun L S => (a L S).bind fun x S1 => (b L S1).bind fun y S2 => match lstOf S2 x, lstOf S2 y with
  | some xs, some ys => if xs.length + ys.length ≤ sizeLine then .ok (xs ++ ys) S2 else .bad
  | _, _ => .bad
/-- list * int -/
def fRep (a b : E) : A := fun L S => (a L S).bind fun x S1 => (b L S1).bind fun y S2 => match lstOf S2 x, y with
  | some xs, .int k => if -(2 ^ 63) ≤ k ∧ k < 2 ^ 63 ∧ xs.length * k.toNat ≤ sizeLine then .ok (List.replicate k.toNat xs).flatten S2 else .bad
  | _, _ => .bad
end Gx
namespace Gx
open PySem
def oSub2 : O := fun x y S => match dctOf S x with
  | some _ => oGet x y S
  | none => oIdx x y S
/-- x in y: a text's sign, a dict's key, an item of plain data -/
def oIn (neg : Bool) : O := fun x y S => match y with
  | .str z => match x with
    | .str w => if w.cps.size = 1 then .ok (.bl (let b := decide (w.cps.getD 0 0 ∈ z.cps.toList); if neg then !b else b)) S else .bad
    | _ => .bad
  | y => match dctOf S y with
    | some kvs => match keyOf x with
      | some k => .ok (.bl (let b := (getV kvs k).isSome; if neg then !b else b)) S
      | none => .bad
    | none => match datS S x, datS S y with
      | some d, some (.list ds) => if SeqAt.shaped d && SeqAt.shaped (.list ds) then .ok (.bl (let b := ds.any fun z => PyData.eqv z d; if neg then !b else b)) S else .bad
      | some d, some (.tuple ds) => if SeqAt.shaped d && SeqAt.shaped (.tuple ds) then .ok (.bl (let b := ds.any fun z => PyData.eqv z d; if neg then !b else b)) S else .bad
      | _, _ => .bad
/-- what a dict display holds -/
abbrev P := Loc → Store → R (List (Val × Val))
def pNil : P := fun _ S => .ok [] S
def pCons (k v : E) (r : P) : P := fun L S => (k L S).bind fun x S1 => (v L S1).bind fun y S2 => (r L S2).bind fun ps S3 => .ok ((x, y) :: ps) S3
def keysOf : List (Val × Val) → Option (List (L2.Key × Val))
  | [] => some []
  | (k, v) :: r => match keyOf k, keysOf r with | some k, some r => some ((k, v) :: r) | _, _ => none
def mergeV (kvs more : List (L2.Key × Val)) : List (L2.Key × Val) := more.foldl (fun acc kv => putV acc kv.1 kv.2) kvs
/-- {k: v, ..}: m: as a cell -/
def eDict (m : Bool) (p : P) : E := fun L S => (calm (p L S)).bind fun ps S1 => match keysOf ps with
  | some kvs => if kvs.length ≤ 15 then (if m then .ok (.ref S1.length) (S1 ++ [.dct (mergeV [] kvs)]) else .ok (.dct (mergeV [] kvs)) S1) else .bad
  | none => .bad
/-- d.get(k), d.get(k, x) -/
def eGet1 (d k : E) : E := fun L S => (d L S).bind fun x S1 => match dctOf S1 x with
  | some _ => (k L S1).bind fun y S2 => match dctOf S2 x, keyOf y with
    | some kvs, some q => .ok ((getV kvs q).getD .non) S2
    | _, _ => .bad
  | none => .bad
def fRev (e : E) : A := fun L S => (e L S).bind fun x S1 => match seqOf S1 x with
  | some (true, xs) => .ok xs.reverse S1
  | _ => .bad
/-- x op= e at a name -/
def sAug (i : Nat) (f : O) (e : E) : SS := fun L S => match L[i]? with
  | some (some x) => ofE L (e L S) fun y S1 => ofE L (f x y S1) fun z S2 => .nx (L.set i (some z)) S2
  | _ => .bad
/-- a[k] op= e -/
def sAugS (a k : E) (f : O) (e : E) : SS := fun L S => ofE L (a L S) fun o S1 => ofE L (k L S1) fun q S2 => ofE L (oSub2 o q S2) fun x S3 => ofE L (e L S3) fun y S4 => ofE L (f x y S4) fun z S5 =>
  match setItem o q z S5 with | some S6 => .nx L S6 | none => .bad
end Gx
namespace Gx
open PySem
def oAddI : O
  | .int i, .int j, S => .ok (.int (i + j)) S
  | .str a, .str b, S => if a.length + b.length ≤ sizeLine then .ok (.str (a ++ b)) S else .bad
  | _, _, _ => .bad
def sFldC (Cs : List Addr) (f : Str) (o e : E) : SS := fun L S => ofE L (e L S) fun v S1 => ofE L (o L S1) fun q S2 => match q with
  | .ref n => match S2[n]? with
    | some (.ins C fs) => if C ∈ Cs ∧ fs.length < 1000 then .nx L (S2.set n (.ins C (putA f v fs))) else .bad
    | _ => .bad
  | _ => .bad
/-- a list's method -/
def eBmL (m : MV) (o : E) (a : A) : E := fun L S => (o L S).bind fun x S1 => match seqOf S1 x with
  | some (true, _) => (a L S1).bind fun xs S2 => m x xs S2
  | _ => .bad
end Gx
end
section
set_option Elab.async false
set_option linter.all false
set_option maxHeartbeats 1000000
set_option autoImplicit false
/-! Gx: how values and cells lie in the abstract heap; what a step may change; the lifted readings. -/
namespace Gx
open PySem L2

theorem upd_live {H : Hp} {p a : Addr} {o : HO} (h : upd H p o a = none) : H a = none := by
  by_cases e : a = p
  · rw [e, upd_same] at h; cases h
  · rw [upd_ne e] at h; exact h
/-- where the cells lie; what is being made and is written by the machine alone -/
structure Pl where
  c : List Addr
  m : List Addr
def Pl.add (ρ : Pl) (p : Addr) : Pl := ⟨ρ.c ++ [p], ρ.m⟩
/-- u lies at a and is kept by no cell -/
def Fu (ρ : Pl) (H : Hp) (a : Addr) (u : HO) : Prop := H a = some u ∧ a ∉ ρ.c ∧ a ∉ ρ.m
/-- u lies at a and is never written again: locked, or kept by no cell -/
def Fz (ρ : Pl) (H : Hp) (a : Addr) (u : HO) : Prop := (∃ o, H a = some (.frz o u)) ∨ (H a = some u ∧ a ∉ ρ.c ∧ a ∉ ρ.m)
/-- one of the module's own lists -/
def KL (K : PySem.W.Frag) (a : Addr) (ws : List V) : Prop := ∃ (o : Obj) (its : Array Value) (n : Nat), K.lookup a = some o ∧ o.cls = .type "list" ∧ o.dict = none ∧ o.data = .seq its n ∧ its.size ≤ sizeLine ∧ Vals ws its.toList
def FzL (K : PySem.W.Frag) (ρ : Pl) (H : Hp) (a : Addr) (ws : List V) : Prop := Fz ρ H a (.lst ws) ∨ KL K a ws
section
variable (K : PySem.W.Frag) (ρ : Pl) (H : Hp)
mutual
def RV : Val → V → Prop
  | .non, w => w = .non
  | .bl b, w => w = .bl b
  | .int i, w => w = .int i
  | .str s, w => w = .str s
  | .ty n, w => w = .ty n
  | .gl a, w => w = .ref a
  | .tup xs, w => ∃ a ws, w = .ref a ∧ SqT K H a ws ∧ RVs xs ws
  | .lst xs, w => ∃ a ws, w = .ref a ∧ Fu ρ H a (.lst ws) ∧ RVs xs ws
  | .frz xs, w => ∃ a ws, w = .ref a ∧ FzL K ρ H a ws ∧ RVs xs ws
  | .dct kvs, w => ∃ a ws, w = .ref a ∧ Fu ρ H a (.dK ws) ∧ RVK kvs ws
  | .obj C fs, w => ∃ a dx ws, w = .ref a ∧ Fu ρ H a (.ins C dx ws) ∧ RVF fs ws
  | .ref n, w => ∃ a, ρ.c[n]? = some a ∧ w = .ref a
def RVs : List Val → List V → Prop
  | [], ws => ws = []
  | x :: xs, ws => ∃ w r, ws = w :: r ∧ RV x w ∧ RVs xs r
def RVK : List (Key × Val) → List (Key × V) → Prop
  | [], ws => ws = []
  | (k, x) :: xs, ws => ∃ w r, ws = (k, w) :: r ∧ RV x w ∧ RVK xs r
def RVF : List (Str × Val) → List (Str × V) → Prop
  | [], ws => ws = []
  | (k, x) :: xs, ws => ∃ w r, ws = (k, w) :: r ∧ RV x w ∧ RVF xs r
end
def RC (a : Addr) : Cell → Prop
  | .lst xs => ∃ ws, H a = some (.lst ws) ∧ RVs K ρ H xs ws
  | .dct kvs => ∃ ws, H a = some (.dK ws) ∧ RVK K ρ H kvs ws
  | .ins C fs => ∃ dx ws, H a = some (.ins C dx ws) ∧ RVF K ρ H fs ws
structure StOk (S : Store) : Prop where
  len : ρ.c.length = S.length
  nd : ρ.c.Nodup
  bz : ∀ a, a ∈ ρ.m → (∃ o, H a = some o) ∧ a ∉ ρ.c
  cell : ∀ (n : Nat) (c : Cell), S[n]? = some c → ∃ a : Addr, ρ.c[n]? = some a ∧ RC K ρ H a c
end

/-- from (ρ, H) on: new cells, new objects, writes to cells alone -/
structure ExtB (ρ : Pl) (H : Hp) (ρ' : Pl) (H' : Hp) : Prop where
  pre : ∃ r, ρ'.c = ρ.c ++ r
  bus : ∀ a, a ∈ ρ'.m → a ∈ ρ.m ∨ H a = none
  fix : ∀ a o, H a = some o → (a ∉ ρ.c ∨ ¬ Mut (some o)) → H' a = some o
  new : ∀ a, a ∈ ρ'.c → a ∈ ρ.c ∨ H a = none
  live : ∀ a, H' a = none → H a = none
/-- .. and the same is being made -/
structure Ext (ρ : Pl) (H : Hp) (ρ' : Pl) (H' : Hp) : Prop extends ExtB ρ H ρ' H' where
  eqm : ρ'.m = ρ.m
theorem Ext.mk' {ρ ρ' : Pl} {H H' : Hp} (pre : ∃ r, ρ'.c = ρ.c ++ r) (eqm : ρ'.m = ρ.m) (fix : ∀ a o, H a = some o → (a ∉ ρ.c ∨ ¬ Mut (some o)) → H' a = some o) (new : ∀ a, a ∈ ρ'.c → a ∈ ρ.c ∨ H a = none) (live : ∀ a, H' a = none → H a = none) : Ext ρ H ρ' H' :=
  ⟨⟨pre, fun a h => .inl (eqm ▸ h), fix, new, live⟩, eqm⟩
theorem Ext.refl {ρ : Pl} {H : Hp} : Ext ρ H ρ H := .mk' ⟨[], by simp⟩ rfl (fun _ _ h _ => h) (fun _ h => .inl h) fun _ h => h
theorem ExtB.trans {ρ ρ1 ρ2 : Pl} {H H1 H2 : Hp} (a : ExtB ρ H ρ1 H1) (b : ExtB ρ1 H1 ρ2 H2) : ExtB ρ H ρ2 H2 := by
  obtain ⟨r1, e1⟩ := a.pre
  obtain ⟨r2, e2⟩ := b.pre
  refine ⟨⟨r1 ++ r2, by rw [e2, e1, List.append_assoc]⟩, fun p h => ?_, fun p o h q => ?_, fun p h => ?_, fun p h => a.live p (b.live p h)⟩
  · rcases b.bus p h with z | z
    · exact a.bus p z
    · exact .inr (a.live p z)
  · have h1 := a.fix p o h q
    refine b.fix p o h1 ?_
    rcases q with q | q
    · refine .inl fun z => ?_
      rcases a.new p z with z | z
      · exact q z
      · rw [h] at z; cases z
    · exact .inr q
  · rcases b.new p h with z | z
    · exact a.new p z
    · exact .inr (a.live p z)
theorem Ext.trans {ρ ρ1 ρ2 : Pl} {H H1 H2 : Hp} (a : Ext ρ H ρ1 H1) (b : Ext ρ1 H1 ρ2 H2) : Ext ρ H ρ2 H2 := ⟨a.toExtB.trans b.toExtB, b.eqm.trans a.eqm⟩
section
variable {K : PySem.W.Frag} {ρ ρ' : Pl} {H H' : Hp}
theorem ExtB.fz (e : ExtB ρ H ρ' H') {a : Addr} {u : HO} (h : Fz ρ H a u) : Fz ρ' H' a u := by
  rcases h with ⟨o, h⟩ | ⟨h, n, n2⟩
  · exact .inl ⟨o, e.fix a _ h (.inr fun z => z)⟩
  · refine .inr ⟨e.fix a _ h (.inl n), fun z => ?_, fun z => ?_⟩
    rotate_left
    · rcases e.bus a z with z | z
      · exact n2 z
      · rw [h] at z; cases z
    rcases e.new a z with z | z
    · exact n z
    · rw [h] at z; cases z
theorem ExtB.fu (e : ExtB ρ H ρ' H') {a : Addr} {u : HO} (h : Fu ρ H a u) : Fu ρ' H' a u := by
  obtain ⟨h, n, n2⟩ := h
  refine ⟨e.fix a _ h (.inl n), fun z => ?_, fun z => ?_⟩
  · rcases e.new a z with z | z
    · exact n z
    · rw [h] at z; cases z
  · rcases e.bus a z with z | z
    · exact n2 z
    · rw [h] at z; cases z
theorem ExtB.sqt (e : ExtB ρ H ρ' H') {a : Addr} {ws : List V} (h : SqT K H a ws) : SqT K H' a ws := by
  rcases h with (h | ⟨o, h⟩) | h
  · exact .inl (.inl (e.fix a _ h (.inr fun z => z)))
  · exact .inl (.inr ⟨o, e.fix a _ h (.inr fun z => z)⟩)
  · exact .inr h
theorem ExtB.at (e : ExtB ρ H ρ' H') {n : Nat} {a : Addr} (h : ρ.c[n]? = some a) : ρ'.c[n]? = some a := by
  obtain ⟨r, e1⟩ := e.pre
  rw [e1, List.getElem?_append_left (List.getElem?_eq_some_iff.mp h).1]
  exact h
mutual
theorem RV.extB (e : ExtB ρ H ρ' H') : ∀ {x : Val} {w : V}, RV K ρ H x w → RV K ρ' H' x w
  | .non, _, h => h
  | .bl _, _, h => h
  | .int _, _, h => h
  | .str _, _, h => h
  | .ty _, _, h => h
  | .gl _, _, h => h
  | .tup xs, _, h => by
    unfold RV at h ⊢
    obtain ⟨a, ws, h1, h2, h3⟩ := h
    exact ⟨a, ws, h1, e.sqt h2, RVs.extB e h3⟩
  | .lst xs, _, h => by
    unfold RV at h ⊢
    obtain ⟨a, ws, h1, h2, h3⟩ := h
    exact ⟨a, ws, h1, e.fu h2, RVs.extB e h3⟩
  | .frz xs, _, h => by
    unfold RV at h ⊢
    obtain ⟨a, ws, h1, h2, h3⟩ := h
    exact ⟨a, ws, h1, h2.imp e.fz id, RVs.extB e h3⟩
  | .dct xs, _, h => by
    unfold RV at h ⊢
    obtain ⟨a, ws, h1, h2, h3⟩ := h
    exact ⟨a, ws, h1, e.fu h2, RVK.extB e h3⟩
  | .obj C xs, _, h => by
    unfold RV at h ⊢
    obtain ⟨a, dx, ws, h1, h2, h3⟩ := h
    exact ⟨a, dx, ws, h1, e.fu h2, RVF.extB e h3⟩
  | .ref n, _, h => by
    unfold RV at h ⊢
    obtain ⟨a, h1, h2⟩ := h
    exact ⟨a, e.at h1, h2⟩
theorem RVs.extB (e : ExtB ρ H ρ' H') : ∀ {x : List Val} {w : List V}, RVs K ρ H x w → RVs K ρ' H' x w
  | [], _, h => h
  | x :: xs, _, h => by
    unfold RVs at h ⊢
    obtain ⟨w, r, h1, h2, h3⟩ := h
    exact ⟨w, r, h1, RV.extB e h2, RVs.extB e h3⟩
theorem RVK.extB (e : ExtB ρ H ρ' H') : ∀ {x : List (Key × Val)} {w : List (Key × V)}, RVK K ρ H x w → RVK K ρ' H' x w
  | [], _, h => h
  | (k, x) :: xs, _, h => by
    unfold RVK at h ⊢
    obtain ⟨w, r, h1, h2, h3⟩ := h
    exact ⟨w, r, h1, RV.extB e h2, RVK.extB e h3⟩
theorem RVF.extB (e : ExtB ρ H ρ' H') : ∀ {x : List (Str × Val)} {w : List (Str × V)}, RVF K ρ H x w → RVF K ρ' H' x w
  | [], _, h => h
  | (k, x) :: xs, _, h => by
    unfold RVF at h ⊢
    obtain ⟨w, r, h1, h2, h3⟩ := h
    exact ⟨w, r, h1, RV.extB e h2, RVF.extB e h3⟩
end
theorem Ext.fz (e : Ext ρ H ρ' H') {a : Addr} {u : HO} (h : Fz ρ H a u) : Fz ρ' H' a u := e.toExtB.fz h
theorem Ext.sqt (e : Ext ρ H ρ' H') {a : Addr} {ws : List V} (h : SqT K H a ws) : SqT K H' a ws := e.toExtB.sqt h
theorem Ext.at (e : Ext ρ H ρ' H') {n : Nat} {a : Addr} (h : ρ.c[n]? = some a) : ρ'.c[n]? = some a := e.toExtB.at h
theorem RV.ext (e : Ext ρ H ρ' H') {x : Val} {w : V} (h : RV K ρ H x w) : RV K ρ' H' x w := RV.extB e.toExtB h
theorem RVs.ext (e : Ext ρ H ρ' H') {x : List Val} {w : List V} (h : RVs K ρ H x w) : RVs K ρ' H' x w := RVs.extB e.toExtB h
theorem RVK.ext (e : Ext ρ H ρ' H') {x : List (Key × Val)} {w : List (Key × V)} (h : RVK K ρ H x w) : RVK K ρ' H' x w := RVK.extB e.toExtB h
theorem RVF.ext (e : Ext ρ H ρ' H') {x : List (Str × Val)} {w : List (Str × V)} (h : RVF K ρ H x w) : RVF K ρ' H' x w := RVF.extB e.toExtB h
theorem RVs.nil_iff {ws : List V} : RVs K ρ H [] ws ↔ ws = [] := by unfold RVs; exact Iff.rfl
theorem RVs.cons {x : Val} {xs : List Val} {w : V} {ws : List V} (h : RV K ρ H x w) (t : RVs K ρ H xs ws) : RVs K ρ H (x :: xs) (w :: ws) := by
  unfold RVs; exact ⟨w, ws, rfl, h, t⟩
theorem RVs.nil : RVs K ρ H [] [] := by unfold RVs; rfl
theorem RVs.inv {x : Val} {xs : List Val} {ws : List V} (h : RVs K ρ H (x :: xs) ws) : ∃ w r, ws = w :: r ∧ RV K ρ H x w ∧ RVs K ρ H xs r := by
  unfold RVs at h; exact h
theorem RVs.length : ∀ {xs : List Val} {ws : List V}, RVs K ρ H xs ws → ws.length = xs.length
  | [], ws, h => by rw [RVs.nil_iff.mp h] <;> rfl
  | x :: xs, ws, h => by
    obtain ⟨w, r, rfl, _, t⟩ := h.inv
    simp [RVs.length t]
theorem RVs.append : ∀ {xs ys : List Val} {ws us : List V}, RVs K ρ H xs ws → RVs K ρ H ys us → RVs K ρ H (xs ++ ys) (ws ++ us)
  | [], _, ws, _, h, g => by rw [RVs.nil_iff.mp h]; exact g
  | x :: xs, _, ws, _, h, g => by
    obtain ⟨w, r, rfl, hw, t⟩ := h.inv
    exact .cons hw (RVs.append t g)
theorem RVs.drop : ∀ {xs : List Val} {ws : List V} (n : Nat), RVs K ρ H xs ws → RVs K ρ H (xs.drop n) (ws.drop n)
  | _, _, 0, h => h
  | [], ws, n + 1, h => by rw [RVs.nil_iff.mp h]; exact .nil
  | x :: xs, ws, n + 1, h => by
    obtain ⟨w, r, rfl, _, t⟩ := h.inv
    exact RVs.drop n t
theorem RVs.take : ∀ {xs : List Val} {ws : List V} (n : Nat), RVs K ρ H xs ws → RVs K ρ H (xs.take n) (ws.take n)
  | _, _, 0, h => .nil
  | [], ws, n + 1, h => by rw [RVs.nil_iff.mp h]; exact .nil
  | x :: xs, ws, n + 1, h => by
    obtain ⟨w, r, rfl, hw, t⟩ := h.inv
    exact .cons hw (RVs.take n t)
theorem RVs.get : ∀ {xs : List Val} {ws : List V} {n : Nat} {x : Val}, RVs K ρ H xs ws → xs[n]? = some x → ∃ w, ws[n]? = some w ∧ RV K ρ H x w
  | [], _, _, _, _, e => by simp at e
  | x :: xs, ws, 0, y, h, e => by
    obtain ⟨w, r, rfl, hw, t⟩ := h.inv
    simp at e; subst e
    exact ⟨w, rfl, hw⟩
  | x :: xs, ws, n + 1, y, h, e => by
    obtain ⟨w, r, rfl, hw, t⟩ := h.inv
    obtain ⟨u, h1, h2⟩ := RVs.get (n := n) (x := y) t (by simpa using e)
    exact ⟨u, by simpa using h1, h2⟩
theorem RVs.set {x : Val} {w : V} (r : RV K ρ H x w) : ∀ {xs : List Val} {ws : List V} (n : Nat), RVs K ρ H xs ws → RVs K ρ H (xs.set n x) (ws.set n w)
  | [], ws, n, h => by rw [RVs.nil_iff.mp h]; exact .nil
  | y :: xs, ws, 0, h => by
    obtain ⟨u, s, rfl, hw, t⟩ := h.inv
    exact .cons r t
  | y :: xs, ws, n + 1, h => by
    obtain ⟨u, s, rfl, hw, t⟩ := h.inv
    exact .cons hw (RVs.set r n t)
theorem RVs.reverse : ∀ {xs : List Val} {ws : List V}, RVs K ρ H xs ws → RVs K ρ H xs.reverse ws.reverse
  | [], ws, h => by rw [RVs.nil_iff.mp h]; exact .nil
  | x :: xs, ws, h => by
    obtain ⟨w, r, rfl, hw, t⟩ := h.inv
    simp only [List.reverse_cons]
    exact (RVs.reverse t).append (.cons hw .nil)
theorem RV.int_iff {i : Int} {w : V} : RV K ρ H (.int i) w ↔ w = .int i := by unfold RV; exact Iff.rfl
theorem RVs.ints : ∀ (ns : List Int), RVs K ρ H (ns.map Val.int) (ns.map V.int)
  | [] => .nil
  | n :: ns => .cons (by unfold RV; rfl) (RVs.ints ns)

/-! ### the store at a step -/
variable {S : Store}
theorem StOk.mem (h : StOk K ρ H S) {a : Addr} (ha : a ∈ ρ.c) : ∃ o, H a = some o ∧ Mut (some o) := by
  obtain ⟨n, hn, e⟩ := List.mem_iff_getElem.mp ha
  have hs : n < S.length := by rw [← h.len]; exact hn
  obtain ⟨b, hb, rc⟩ := h.cell n S[n] (List.getElem?_eq_getElem hs)
  rw [List.getElem?_eq_getElem hn, e] at hb
  cases hb
  cases q : S[n] with
  | lst xs => rw [q] at rc; obtain ⟨ws, h1, _⟩ := rc; exact ⟨_, h1, True.intro⟩
  | dct xs => rw [q] at rc; obtain ⟨ws, h1, _⟩ := rc; exact ⟨_, h1, True.intro⟩
  | ins C xs => rw [q] at rc; obtain ⟨dx, ws, h1, _⟩ := rc; exact ⟨_, h1, True.intro⟩
theorem StOk.fresh (h : StOk K ρ H S) {p : Addr} (hp : H p = none) : p ∉ ρ.c := fun z => by
  obtain ⟨o, e, _⟩ := h.mem z
  rw [hp] at e; cases e
theorem StOk.ext {S : Store} (h : StOk K ρ H S) (e : Ext ρ H ρ H') (hc : ∀ (n : Nat) (c : Cell), S[n]? = some c → ∀ a : Addr, ρ.c[n]? = some a → H' a = H a) : StOk K ρ H' S := by
  refine ⟨h.len, h.nd, fun a ha => ?_, fun n c hn => ?_⟩
  · obtain ⟨⟨o, ho⟩, hn⟩ := h.bz a ha
    exact ⟨⟨o, e.fix a o ho (.inl hn)⟩, hn⟩
  obtain ⟨a, ha, rc⟩ := h.cell n c hn
  refine ⟨a, ha, ?_⟩
  have q := hc n c hn a ha
  cases c with
  | lst xs => obtain ⟨ws, h1, h2⟩ := rc; exact ⟨ws, q.trans h1, h2.ext e⟩
  | dct xs => obtain ⟨ws, h1, h2⟩ := rc; exact ⟨ws, q.trans h1, h2.ext e⟩
  | ins C xs => obtain ⟨dx, ws, h1, h2⟩ := rc; exact ⟨dx, ws, q.trans h1, h2.ext e⟩
/-- a new object that no cell keeps -/
theorem ext_new {p : Addr} {o : HO} (hp : H p = none) : Ext ρ H ρ (upd H p o) :=
  .mk' ⟨[], by simp⟩ rfl (fun a u h _ => by rw [upd_ne (ne_of_none h hp)]; exact h) (fun _ h => .inl h) fun a h => upd_live h
theorem StOk.new {p : Addr} {o : HO} (h : StOk K ρ H S) (hp : H p = none) : StOk K ρ (upd H p o) S :=
  h.ext (ext_new hp) fun n c hn a ha => upd_ne fun z => h.fresh hp (z ▸ List.mem_of_getElem? ha)
/-- a new object that a new cell keeps -/
theorem ext_cell {p : Addr} {o : HO} (hp : H p = none) : Ext ρ H (ρ.add p) (upd H p o) :=
  .mk' ⟨[p], rfl⟩ rfl (fun a u h _ => by rw [upd_ne (ne_of_none h hp)]; exact h) (fun a h => by
    rcases List.mem_append.mp h with h | h
    · exact .inl h
    · rw [List.mem_singleton.mp h]; exact .inr hp) fun a h => upd_live h
theorem StOk.alloc {p : Addr} {o : HO} {c : Cell} (h : StOk K ρ H S) (hp : H p = none) (hc : RC K (ρ.add p) (upd H p o) p c) : StOk K (ρ.add p) (upd H p o) (S ++ [c]) := by
  refine ⟨by simp [Pl.add, h.len], ?_, fun a ha => ?_, fun n d hn => ?_⟩
  · show (ρ.c ++ [p]).Nodup
    rw [List.nodup_append]
    refine ⟨h.nd, by simp, fun a ha b hb => ?_⟩
    rw [List.mem_singleton.mp hb]
    rintro rfl
    exact h.fresh hp ha
  · obtain ⟨⟨u, hu⟩, hn⟩ := h.bz a ha
    have ne : a ≠ p := ne_of_none hu hp
    refine ⟨⟨u, by rw [upd_ne ne]; exact hu⟩, fun z => ?_⟩
    rcases List.mem_append.mp z with z | z
    · exact hn z
    · exact ne (List.mem_singleton.mp z)
  · by_cases hl : n < S.length
    · rw [List.getElem?_append_left hl] at hn
      obtain ⟨a, ha, rc⟩ := h.cell n d hn
      refine ⟨a, (ext_cell (o := o) hp).at ha, ?_⟩
      have q : upd H p o a = H a := upd_ne fun z => h.fresh hp (z ▸ List.mem_of_getElem? ha)
      cases d with
      | lst xs => obtain ⟨ws, h1, h2⟩ := rc; exact ⟨ws, q.trans h1, h2.ext (ext_cell hp)⟩
      | dct xs => obtain ⟨ws, h1, h2⟩ := rc; exact ⟨ws, q.trans h1, h2.ext (ext_cell hp)⟩
      | ins C xs => obtain ⟨dx, ws, h1, h2⟩ := rc; exact ⟨dx, ws, q.trans h1, h2.ext (ext_cell hp)⟩
    · have e : n = S.length := by
        have := (List.getElem?_eq_some_iff.mp hn).1
        simp at this
        omega
      subst e
      rw [List.getElem?_concat_length] at hn
      cases hn
      refine ⟨p, ?_, hc⟩
      show (ρ.c ++ [p])[S.length]? = some p
      rw [← h.len, List.getElem?_concat_length]
/-- a cell is written -/
theorem ext_write {p : Addr} {o : HO} (hp : p ∈ ρ.c) (hm : Mut (H p)) : Ext ρ H ρ (upd H p o) :=
  .mk' ⟨[], by simp⟩ rfl (fun a u h q => by
    by_cases e : a = p
    · subst e
      rcases q with q | q
      · exact absurd hp q
      · rw [h] at hm; exact absurd hm q
    · rw [upd_ne e]; exact h) (fun _ h => .inl h) fun a h => upd_live h
theorem StOk.write {n : Nat} {p : Addr} {o : HO} {c : Cell} (h : StOk K ρ H S) (hp : ρ.c[n]? = some p) (hc : RC K ρ (upd H p o) p c) : StOk K ρ (upd H p o) (S.set n c) := by
  obtain ⟨u, hu, hm⟩ := h.mem (List.mem_of_getElem? hp)
  have ex : Ext ρ H ρ (upd H p o) := ext_write (List.mem_of_getElem? hp) (by rw [hu]; exact hm)
  refine ⟨by simp [h.len], h.nd, fun a ha => ?_, fun m d hd => ?_⟩
  · obtain ⟨⟨v, hv⟩, hn⟩ := h.bz a ha
    exact ⟨⟨v, ex.fix a v hv (.inl hn)⟩, hn⟩
  by_cases e : m = n
  · subst e
    have hl : m < S.length := by
      have := (List.getElem?_eq_some_iff.mp hd).1
      simpa using this
    rw [List.getElem?_set_self hl] at hd
    cases hd
    exact ⟨p, hp, hc⟩
  · rw [List.getElem?_set_ne (Ne.symm e)] at hd
    obtain ⟨a, ha, rc⟩ := h.cell m d hd
    refine ⟨a, ha, ?_⟩
    have ne : a ≠ p := fun z => by
      subst z
      obtain ⟨h1, e1⟩ := List.getElem?_eq_some_iff.mp ha
      obtain ⟨h2, e2⟩ := List.getElem?_eq_some_iff.mp hp
      exact e ((List.getElem_inj h.nd).mp (e1.trans e2.symm))
    have q : upd H p o a = H a := upd_ne ne
    cases d with
    | lst xs => obtain ⟨ws, h1, h2⟩ := rc; exact ⟨ws, q.trans h1, h2.ext ex⟩
    | dct xs => obtain ⟨ws, h1, h2⟩ := rc; exact ⟨ws, q.trans h1, h2.ext ex⟩
    | ins C xs => obtain ⟨dx, ws, h1, h2⟩ := rc; exact ⟨dx, ws, q.trans h1, h2.ext ex⟩
end

/-! ### names, states -/
def LocOk (K : PySem.W.Frag) (ρ : Pl) (H : Hp) (L : Loc) (σ : St) : Prop :=
  L.length = σ.length ∧ ∀ (i : Nat) (v : Val), L[i]? = some (some v) → ∃ w, σ[i]? = some (some w) ∧ RV K ρ H v w
theorem LocOk.ext {K : PySem.W.Frag} {ρ ρ' : Pl} {H H' : Hp} {L : Loc} {σ : St} (h : LocOk K ρ H L σ) (e : Ext ρ H ρ' H') : LocOk K ρ' H' L σ :=
  ⟨h.1, fun i v q => let ⟨w, a, b⟩ := h.2 i v q; ⟨w, a, b.ext e⟩⟩
theorem LocOk.set {K : PySem.W.Frag} {ρ : Pl} {H : Hp} {L : Loc} {σ : St} {v : Val} {w : V} (h : LocOk K ρ H L σ) (i : Nat) (r : RV K ρ H v w) : LocOk K ρ H (L.set i (some v)) (σ.set i (some w)) := by
  refine ⟨by simp [h.1], fun j u q => ?_⟩
  by_cases e : j = i
  · subst e
    have hl : j < L.length := by
      have := (List.getElem?_eq_some_iff.mp q).1
      simpa using this
    rw [List.getElem?_set_self hl] at q
    cases q
    exact ⟨w, by rw [List.getElem?_set_self (by rw [← h.1]; exact hl)], r⟩
  · rw [List.getElem?_set_ne (Ne.symm e)] at q
    rw [List.getElem?_set_ne (Ne.symm e)]
    exact h.2 j u q
/-- how an exception of ours lies in the heap (its class; its own dict, if it has a value) -/
def XV (K : PySem.W.Frag) (ρ : Pl) (H : Hp) (x : Exc) (c : Value) (d : Option Addr) : Prop :=
  c = .ref x.cls ∧ ((x.fs = [] ∧ d = none) ∨ ∃ a ws, d = some a ∧ H a = some (.xd ws) ∧ RVF K ρ H x.fs ws)
/-- what is wanted of exceptions -/
abbrev XW := Value → Option Addr → St → Hp → Prop
def Post (K : PySem.W.Frag) (W : XW) {α β : Type} (Rel : Pl → Hp → α → β → Prop) (ρ : Pl) (H : Hp) (σ : St) (r : R α) (Q : β → Hp → Prop) : Prop :=
  match r with
  | .ok v S' => ∀ ρ' H' w, Ext ρ H ρ' H' → StOk K ρ' H' S' → Rel ρ' H' v w → Q w H'
  | .exn x S' => ∀ ρ' H' c d, Ext ρ H ρ' H' → StOk K ρ' H' S' → XV K ρ' H' x c d → W c d σ H'
  | .bad => False
section
variable {K : PySem.W.Frag} {W : XW} {α β γ δ : Type} {Rel : Pl → Hp → α → β → Prop} {Rel' : Pl → Hp → γ → δ → Prop} {ρ ρ1 : Pl} {H H1 : Hp} {σ : St} {r : R α} {Q : β → Hp → Prop}
theorem Post.base (h : Post K W Rel ρ H σ r Q) (e : Ext ρ H ρ1 H1) : Post K W Rel ρ1 H1 σ r Q := by
  cases r with
  | ok v S' => exact fun ρ' H' w a b c => h ρ' H' w (e.trans a) b c
  | exn x S' => exact fun ρ' H' c d a b q => h ρ' H' c d (e.trans a) b q
  | bad => exact h
theorem Post.bind {f : α → Store → R γ} {Q' : δ → Hp → Prop} (h : Post K W Rel' ρ H σ (r.bind f) Q')
    (k : ∀ v S1 ρ1 H1 w, r = .ok v S1 → Ext ρ H ρ1 H1 → StOk K ρ1 H1 S1 → Rel ρ1 H1 v w → Post K W Rel' ρ1 H1 σ (f v S1) Q' → Q w H1) : Post K W Rel ρ H σ r Q := by
  cases r with
  | ok v S' => exact fun ρ' H' w a b c => k v S' ρ' H' w rfl a b c (Post.base h a)
  | exn x S' => exact h
  | bad => exact h
end
structure Sim (K : PySem.W.Frag) (ρ : Pl) (H : Hp) (L : Loc) (S : Store) (σ : St) : Prop where
  st : StOk K ρ H S
  loc : LocOk K ρ H L σ
theorem Sim.next {K : PySem.W.Frag} {ρ ρ' : Pl} {H H' : Hp} {L : Loc} {S S' : Store} {σ : St} (h : Sim K ρ H L S σ) (e : Ext ρ H ρ' H') (s : StOk K ρ' H' S') : Sim K ρ' H' L S' σ := ⟨s, h.loc.ext e⟩
/-- a plain expression as a reading -/
def lE (K : PySem.W.Frag) (W : XW) (d : E) : TE := fun σ H Q => ∃ ρ S L, Sim K ρ H L S σ ∧ Post K W (RV K) ρ H σ (d L S) Q
def lT (K : PySem.W.Frag) (W : XW) (d : T) : TT := fun σ H Q => ∃ ρ S L, Sim K ρ H L S σ ∧ Post K W (fun _ _ (a b : Bool) => a = b) ρ H σ (d L S) Q
def lA (K : PySem.W.Frag) (W : XW) (d : A) : TA := fun σ H Q => ∃ ρ S L, Sim K ρ H L S σ ∧ Post K W (RVs K) ρ H σ (d L S) Q
/-- a new list -/
def NewL (K : PySem.W.Frag) (ρ : Pl) (H : Hp) (xs : List Val) (w : V) : Prop := True
def lF (K : PySem.W.Frag) (W : XW) (d : A) : TE := fun σ H Q => ∃ ρ S L, Sim K ρ H L S σ ∧
  Post K W (RVs K) ρ H σ (d L S) fun ws H1 => ∀ p, H1 p = none → Q (.ref p) (upd H1 p (.lst ws))
structure DE (X : Cx) (W : XW) (e : Expr) (d : E) : Prop where
  pe : PE X e (lE X.K W d)
structure DT (X : Cx) (W : XW) (e : Expr) (d : T) : Prop where
  pt : PT X e (lT X.K W d)
structure DA (X : Cx) (W : XW) (es : List Expr) (d : A) : Prop where
  pa : PA X es (lA X.K W d)
structure DF (X : Cx) (W : XW) (e : Expr) (d : A) : Prop where
  pe : PE X e (lF X.K W d)
theorem PE.weak {X : Cx} {e : Expr} {t t' : TE} (h : PE X e t) (k : ∀ σ H Q, t' σ H Q → t σ H Q) : PE X e t' := ⟨fun pins s σ H Q I q => h.run pins s σ H Q I (k σ H Q q)⟩
theorem PT.weak {X : Cx} {e : Expr} {t t' : TT} (h : PT X e t) (k : ∀ σ H Q, t' σ H Q → t σ H Q) : PT X e t' := ⟨fun pins s σ H Q I q => h.run pins s σ H Q I (k σ H Q q)⟩
theorem PA.weak {X : Cx} {e : List Expr} {t t' : TA} (h : PA X e t) (k : ∀ σ H Q, t' σ H Q → t σ H Q) : PA X e t' := ⟨fun pos pins s σ H Q I q => h.run pos pins s σ H Q I (k σ H Q q)⟩
theorem PS.weak {X : Cx} {e : Stmt} {t t' : TS} (h : PS X e t) (k : ∀ D σ H, t' D σ H → t D σ H) : PS X e t' := ⟨fun pins s σ H D I q => h.run pins s σ H D I (k D σ H q)⟩
theorem PSs.weak {X : Cx} {e : List Stmt} {t t' : TS} (h : PSs X e t) (k : ∀ D σ H, t' D σ H → t D σ H) : PSs X e t' := ⟨fun pins s σ H D I q => h.run pins s σ H D I (k D σ H q)⟩
end Gx
end
section
set_option Elab.async false
set_option linter.all false
set_option maxHeartbeats 1000000
set_option autoImplicit false
/-! Gx: the rules of expressions. -/
namespace Gx
open PySem L2
section
variable {X : Cx} {W : XW} {a b c e : Expr} {es : List Expr} {da db dc d : E} {ta tb tc : T} {aa : A} {pos : Pos}

/-! ### names and constants -/
theorem de_var {i : Nat} {x : Str} (hN : X.N[i]? = some x) (hv : Vis X.env.scope x) (hd : (x == ("__debug__" : Str)) = false := by decide) (hcd : (x == ("__classdict__" : Str)) = false := by decide) : DE X W (.Name x pos) (eVar i) := by
  refine ⟨PE.weak (pe_var hN hv hd hcd) fun σ H Q h => ?_⟩
  obtain ⟨ρ, S, L, sim, h⟩ := h
  unfold eVar at h
  cases q : L[i]? with
  | none => rw [q] at h; exact h.elim
  | some o =>
    cases o with
    | none => rw [q] at h; exact h.elim
    | some v =>
      rw [q] at h
      obtain ⟨w, h1, h2⟩ := sim.loc.2 i v q
      exact ⟨w, h1, h ρ H w Ext.refl sim.st h2⟩
theorem de_const {v : Val} {w : V} (h : PE X e (tC w)) (r : ∀ ρ H, RV X.K ρ H v w) : DE X W e (eC v) := by
  refine ⟨PE.weak h fun σ H Q q => ?_⟩
  obtain ⟨ρ, S, L, sim, q⟩ := q
  exact q ρ H w Ext.refl sim.st (r ρ H)
theorem de_int {i : Int} {j} : DE X W (.Constant (.int i) j pos) (eC (.int i)) := de_const pe_int fun _ _ => by unfold RV; rfl
theorem de_bl {b : Bool} {j} : DE X W (.Constant (.bool b) j pos) (eC (.bl b)) := de_const pe_bl fun _ _ => by unfold RV; rfl
theorem de_non {j} : DE X W (.Constant .none j pos) (eC .non) := de_const pe_non fun _ _ => by unfold RV; rfl
theorem de_str {x : Str} {j} : DE X W (.Constant (.str x) j pos) (eC (.str x)) := de_const pe_str fun _ _ => by unfold RV; rfl
/-- a module's constant: an int, a text -/
theorem de_gint {x : Str} {i : Int} {t : Tok} (hg : Gl X x) (hm : X.mg x = some (.int i t)) (hd : (x == ("__debug__" : Str)) = false := by decide) : DE X W (.Name x pos) (eC (.int i)) :=
  de_const (pe_glob hg hm (v := .int i) ⟨t, rfl⟩ hd) fun _ _ => by unfold RV; rfl
theorem de_gstr {x y : Str} {t : Tok} (hg : Gl X x) (hm : X.mg x = some (.str y t)) (hd : (x == ("__debug__" : Str)) = false := by decide) : DE X W (.Name x pos) (eC (.str y)) :=
  de_const (pe_glob hg hm (v := .str y) ⟨t, rfl⟩ hd) fun _ _ => by unfold RV; rfl
/-- a def or a class of the module, as a value -/
theorem de_gref {x : Str} {p : Addr} (hg : Gl X x) (hm : X.mg x = some (.ref p)) (hd : (x == ("__debug__" : Str)) = false := by decide) : DE X W (.Name x pos) (eC (.gl p)) :=
  de_const (pe_glob hg hm (v := .ref p) rfl hd) fun _ _ => by unfold RV; rfl

/-! ### operators -/
/-- an operation of ours, by values, as the layer reads it -/
def lO (K : PySem.W.Frag) (W : XW) (f : O) : R2 := fun wx wy H Q => ∃ σ ρ S x y, StOk K ρ H S ∧ RV K ρ H x wx ∧ RV K ρ H y wy ∧ Post K W (RV K) ρ H σ (f x y S) Q
theorem two {α β : Type} {Rel : Pl → Hp → α → β → Prop} {σ : St} {H : Hp} {ρ : Pl} {S : Store} {L : Loc} {Q : β → Hp → Prop} {K : PySem.W.Frag} {da db : E} {f : Val → Val → Store → R α} (sim : Sim K ρ H L S σ)
    (h : Post K W Rel ρ H σ ((da L S).bind fun x S1 => (db L S1).bind fun y S2 => f x y S2) Q) {Q' : V → V → Hp → Prop}
    (k : ∀ x y S2 ρ2 H2 wx wy, Ext ρ H ρ2 H2 → StOk K ρ2 H2 S2 → RV K ρ2 H2 x wx → RV K ρ2 H2 y wy → Post K W Rel ρ2 H2 σ (f x y S2) Q → Q' wx wy H2) :
    lE K W da σ H fun x H1 => lE K W db σ H1 fun y H2 => Q' x y H2 := by
  refine ⟨ρ, S, L, sim, Post.bind h fun x S1 ρ1 H1 wx _ e1 s1 r1 h1 => ?_⟩
  refine ⟨ρ1, S1, L, sim.next e1 s1, Post.bind h1 fun y S2 ρ2 H2 wy _ e2 s2 r2 h2 => ?_⟩
  exact k x y S2 ρ2 H2 wx wy (e1.trans e2) s2 (r1.ext e2) r2 h2
theorem tOp_of {f : O} {da db : E} {σ : St} {H : Hp} {Q : VK} (h : lE X.K W (eBin f da db) σ H Q) : tOp (lO X.K W f) (lE X.K W da) (lE X.K W db) σ H Q := by
  obtain ⟨ρ, S, L, sim, h⟩ := h
  exact two sim h fun x y S2 ρ2 H2 wx wy _ s2 rx ry h2 => ⟨σ, ρ2, S2, x, y, s2, rx, ry, h2⟩
theorem de_bin {op : Operator} {f : O} (ho : OpR X (binaryOp op) (lO X.K W f)) (ha : DE X W a da) (hb : DE X W b db) : DE X W (.BinOp a op b pos) (eBin f da db) :=
  ⟨PE.weak (pe_op ho ha.pe hb.pe) fun _ _ _ h => tOp_of h⟩
theorem de_cmp {op : CmpOp} {f : O} (ho : OpR X (compareOp op) (lO X.K W f)) (ha : DE X W a da) (hb : DE X W b db) (hm : behindInMarks op b = false) : DE X W (.Compare a [op] [b] pos) (eBin f da db) :=
  ⟨PE.weak (pe_cmpR ho ha.pe hb.pe hm) fun _ _ _ h => tOp_of h⟩
/-- a value that is a truth value, as a test -/
theorem lT_of {K : PySem.W.Frag} {d : E} {t : TE} {σ : St} {H : Hp} {Q : Bool → Hp → Prop} (k : ∀ σ H Q, lE K W d σ H Q → t σ H Q) (h : lT K W (tOf d) σ H Q) : t σ H fun x H' => ∃ k, x = .bl k ∧ Q k H' := by
  obtain ⟨ρ, S, L, sim, h⟩ := h
  refine k σ H _ ⟨ρ, S, L, sim, Post.bind (Rel' := fun _ _ (a b : Bool) => a = b) h fun v S1 ρ1 H1 w _ e1 s1 r1 h1 => ?_⟩
  cases v with
  | bl c =>
    unfold RV at r1
    subst r1
    exact ⟨c, rfl, h1 ρ1 H1 c Ext.refl s1 rfl⟩
  | _ => exact False.elim h1
theorem dt_cmp {op : CmpOp} {f : O} (ho : OpR X (compareOp op) (lO X.K W f)) (ha : DE X W a da) (hb : DE X W b db) (hm : behindInMarks op b = false) : DT X W (.Compare a [op] [b] pos) (tOf (eBin f da db)) :=
  ⟨PT.weak (pt_cmpR ho ha.pe hb.pe hm) fun σ H Q h => lT_of (fun _ _ _ q => tOp_of q) h⟩
theorem tChain_of {f g : O} {σ : St} {H : Hp} {Q : VK} (h : lE X.K W (eChain f g da db dc) σ H Q) : tChain (lO X.K W f) (lO X.K W g) (lE X.K W da) (lE X.K W db) (lE X.K W dc) σ H Q := by
  obtain ⟨ρ, S, L, sim, h⟩ := h
  refine two sim h fun x y S2 ρ2 H2 wx wy e2 s2 rx ry h2 => ?_
  refine ⟨σ, ρ2, S2, x, y, s2, rx, ry, Post.bind h2 fun z S3 ρ3 H3 wz _ e3 s3 rz h3 => ?_⟩
  cases z with
  | bl k =>
    unfold RV at rz
    subst rz
    refine ⟨k, rfl, ?_⟩
    cases k with
    | true =>
      rw [if_pos rfl]
      refine ⟨ρ3, S3, L, sim.next (e2.trans e3) s3, Post.bind h3 fun w S4 ρ4 H4 ww _ e4 s4 rw' h4 => ?_⟩
      exact ⟨σ, ρ4, S4, y, w, s4, (ry.ext e3).ext e4, rw', h4⟩
    | false =>
      rw [if_neg (by simp)]
      exact h3 ρ3 H3 _ Ext.refl s3 (by unfold RV; rfl)
  | _ => exact False.elim h3
theorem de_chain {op op' : CmpOp} {f g : O} (ho : OpR X (compareOp op) (lO X.K W f)) (ho' : OpR X (compareOp op') (lO X.K W g)) (ha : DE X W a da) (hb : DE X W b db) (hc : DE X W c dc)
    (hm : lastMarks [op, op'] [b, c] = false := by with_unfolding_all rfl) : DE X W (.Compare a [op, op'] [b, c] pos) (eChain f g da db dc) :=
  ⟨PE.weak (pe_chain ho ho' ha.pe hb.pe hc.pe hm) fun _ _ _ h => tChain_of h⟩
theorem dt_chain {op op' : CmpOp} {f g : O} (ho : OpR X (compareOp op) (lO X.K W f)) (ho' : OpR X (compareOp op') (lO X.K W g)) (ha : DE X W a da) (hb : DE X W b db) (hc : DE X W c dc)
    (hm : lastMarks [op, op'] [b, c] = false := by with_unfolding_all rfl) : DT X W (.Compare a [op, op'] [b, c] pos) (tOf (eChain f g da db dc)) :=
  ⟨PT.weak (pt_chain ho ho' ha.pe hb.pe hc.pe hm) fun σ H Q h => lT_of (fun _ _ _ q => tChain_of q) h⟩

/-! ### and, or, not, if -/
theorem dt_val (h : DE X W a da) (he : ∀ whole, isTrue a X.env whole = (do let v ← whole; standAt a.pos; holding [v] (truthy v)) := by intro _; rfl) : DT X W a (tOf da) :=
  ⟨PT.weak (pt_val h.pe he) fun σ H Q h => lT_of (fun _ _ _ q => q) h⟩
theorem dt_not (h : DT X W a ta) : DT X W (.UnaryOp .Not a pos) (tNot ta) := by
  refine ⟨PT.weak (pt_not h.pt) fun σ H Q h => ?_⟩
  obtain ⟨ρ, S, L, sim, h⟩ := h
  refine ⟨ρ, S, L, sim, Post.bind (Rel' := fun _ _ (a b : Bool) => a = b) h fun v S1 ρ1 H1 w _ e1 s1 r1 h1 => ?_⟩
  subst r1
  exact h1 ρ1 H1 _ Ext.refl s1 rfl
structure DW (X : Cx) (W : XW) (e : Expr) (d : T) : Prop where
  pw : PW X e (lT X.K W d)
theorem PW.weak {X : Cx} {e : Expr} {t t' : TT} (h : PW X e t) (k : ∀ σ H Q, t' σ H Q → t σ H Q) : PW X e t' := ⟨fun wh pins s σ H Q I q => h.run wh pins s σ H Q I (k σ H Q q)⟩
theorem dw_and1 (h : DT X W a ta) : DW X W (.BoolOp .And [a] pos) ta := ⟨pw_and1 h.pt⟩
theorem dw_or1 (h : DT X W a ta) : DW X W (.BoolOp .Or [a] pos) ta := ⟨pw_or1 h.pt⟩
theorem dw_and {rest : List Expr} (ha : DT X W a ta) (hb : DW X W (.BoolOp .And (b :: rest) pos) tb) : DW X W (.BoolOp .And (a :: b :: rest) pos) (tAnd ta tb) := by
  refine ⟨PW.weak (pw_and ha.pt hb.pw) fun σ H Q h => ?_⟩
  obtain ⟨ρ, S, L, sim, h⟩ := h
  refine ⟨ρ, S, L, sim, Post.bind (Rel' := fun _ _ (a b : Bool) => a = b) h fun v S1 ρ1 H1 w _ e1 s1 r1 h1 => ?_⟩
  subst r1
  cases v with
  | true => rw [if_pos rfl]; exact ⟨ρ1, S1, L, sim.next e1 s1, h1⟩
  | false => rw [if_neg (by simp)]; exact h1 ρ1 H1 _ Ext.refl s1 rfl
theorem dw_or {rest : List Expr} (ha : DT X W a ta) (hb : DW X W (.BoolOp .Or (b :: rest) pos) tb) : DW X W (.BoolOp .Or (a :: b :: rest) pos) (tOr ta tb) := by
  refine ⟨PW.weak (pw_or ha.pt hb.pw) fun σ H Q h => ?_⟩
  obtain ⟨ρ, S, L, sim, h⟩ := h
  refine ⟨ρ, S, L, sim, Post.bind (Rel' := fun _ _ (a b : Bool) => a = b) h fun v S1 ρ1 H1 w _ e1 s1 r1 h1 => ?_⟩
  subst r1
  cases v with
  | true => rw [if_pos rfl]; exact h1 ρ1 H1 _ Ext.refl s1 rfl
  | false => rw [if_neg (by simp)]; exact ⟨ρ1, S1, L, sim.next e1 s1, h1⟩
theorem dt_w (h : DW X W a ta) : DT X W a ta := ⟨h.pw.pt⟩
theorem de_one {op : PySem.BoolOp} (h : DE X W a da) : DE X W (.BoolOp op [a] pos) da := ⟨pe_one h.pe⟩
theorem de_and {rest : List Expr} (ha : DE X W a da) (hb : DE X W (.BoolOp .And (b :: rest) pos) db) : DE X W (.BoolOp .And (a :: b :: rest) pos) (eAnd da db) := by
  refine ⟨PE.weak (pe_and ha.pe hb.pe) fun σ H Q h => ?_⟩
  obtain ⟨ρ, S, L, sim, h⟩ := h
  refine ⟨ρ, S, L, sim, Post.bind h fun v S1 ρ1 H1 w _ e1 s1 r1 h1 => ?_⟩
  cases v with
  | bl k =>
    unfold RV at r1
    subst r1
    refine ⟨k, rfl, ?_⟩
    cases k with
    | true => rw [if_pos rfl]; exact ⟨ρ1, S1, L, sim.next e1 s1, h1⟩
    | false => rw [if_neg (by simp)]; exact h1 ρ1 H1 _ Ext.refl s1 (by unfold RV; rfl)
  | _ => exact False.elim h1
theorem de_or {rest : List Expr} (ha : DE X W a da) (hb : DE X W (.BoolOp .Or (b :: rest) pos) db) : DE X W (.BoolOp .Or (a :: b :: rest) pos) (eOr da db) := by
  refine ⟨PE.weak (pe_or ha.pe hb.pe) fun σ H Q h => ?_⟩
  obtain ⟨ρ, S, L, sim, h⟩ := h
  refine ⟨ρ, S, L, sim, Post.bind h fun v S1 ρ1 H1 w _ e1 s1 r1 h1 => ?_⟩
  cases v with
  | bl k =>
    unfold RV at r1
    subst r1
    refine ⟨k, rfl, ?_⟩
    cases k with
    | true => rw [if_pos rfl]; exact h1 ρ1 H1 _ Ext.refl s1 (by unfold RV; rfl)
    | false => rw [if_neg (by simp)]; exact ⟨ρ1, S1, L, sim.next e1 s1, h1⟩
  | _ => exact False.elim h1
theorem de_not (ha : DE X W a da) : DE X W (.UnaryOp .Not a pos) (eNot da) := by
  refine ⟨PE.weak (pe_not ha.pe) fun σ H Q h => ?_⟩
  obtain ⟨ρ, S, L, sim, h⟩ := h
  refine ⟨ρ, S, L, sim, Post.bind h fun v S1 ρ1 H1 w _ e1 s1 r1 h1 => ?_⟩
  cases v with
  | bl k =>
    unfold RV at r1
    subst r1
    exact ⟨k, rfl, h1 ρ1 H1 _ Ext.refl s1 (by unfold RV; rfl)⟩
  | _ => exact False.elim h1
theorem de_if (hc : DT X W c tc) (ha : DE X W a da) (hb : DE X W b db) : DE X W (.IfExp c a b pos) (eIf tc da db) := by
  refine ⟨PE.weak (pe_ifExp hc.pt ha.pe hb.pe) fun σ H Q h => ?_⟩
  obtain ⟨ρ, S, L, sim, h⟩ := h
  refine ⟨ρ, S, L, sim, Post.bind (Rel' := RV X.K) h fun v S1 ρ1 H1 w _ e1 s1 r1 h1 => ?_⟩
  subst r1
  cases v with
  | true => rw [if_pos rfl]; exact ⟨ρ1, S1, L, sim.next e1 s1, h1⟩
  | false => rw [if_neg (by simp)]; exact ⟨ρ1, S1, L, sim.next e1 s1, h1⟩

/-! ### arguments, displays -/
theorem da_nil : DA X W [] aNil := by
  refine ⟨PA.weak pa_nil fun σ H Q h => ?_⟩
  obtain ⟨ρ, S, L, sim, h⟩ := h
  exact h ρ H [] Ext.refl sim.st .nil
theorem da_cons (ha : DE X W e d) (hr : DA X W es aa) (hs : starEach (e :: es) X.env = (false, eval e X.env) :: starEach es X.env := by rfl) : DA X W (e :: es) (aCons d aa) := by
  refine ⟨PA.weak (pa_cons ha.pe hr.pa hs) fun σ H Q h => ?_⟩
  obtain ⟨ρ, S, L, sim, h⟩ := h
  refine ⟨ρ, S, L, sim, Post.bind (Rel' := RVs X.K) h fun x S1 ρ1 H1 w _ e1 s1 r1 h1 => ?_⟩
  refine ⟨ρ1, S1, L, sim.next e1 s1, Post.bind h1 fun xs S2 ρ2 H2 ws _ e2 s2 r2 h2 => ?_⟩
  exact h2 ρ2 H2 _ Ext.refl s2 (.cons (r1.ext e2) r2)
/-- a list of ours is read -/
theorem Fz.sqL {K : PySem.W.Frag} {ρ : Pl} {H : Hp} {p : Addr} {ws : List V} (h : Fz ρ H p (.lst ws)) : SqL K H p ws := by
  rcases h with ⟨o, h⟩ | ⟨h, _⟩
  · exact .inl (.inr ⟨o, h⟩)
  · exact .inl (.inl h)
theorem FzL.sqL {K : PySem.W.Frag} {ρ : Pl} {H : Hp} {p : Addr} {ws : List V} (h : FzL K ρ H p ws) : SqL K H p ws := by
  rcases h with h | h
  · exact h.sqL
  · exact .inr h
theorem Fu.sqL {K : PySem.W.Frag} {ρ : Pl} {H : Hp} {p : Addr} {ws : List V} (h : Fu ρ H p (.lst ws)) : SqL K H p ws := .inl (.inl h.1)
theorem seq_read {K : PySem.W.Frag} {ρ : Pl} {H : Hp} {S : Store} {v : Val} {w : V} {k : Bool} {xs : List Val} (st : StOk K ρ H S) (r : RV K ρ H v w) (h : seqOf S v = some (k, xs)) :
    ∃ p ws, w = .ref p ∧ RVs K ρ H xs ws ∧ (if k then SqL K H p ws else SqT K H p ws) := by
  cases v with
  | tup ys =>
    simp only [seqOf, Option.some.injEq, Prod.mk.injEq] at h
    obtain ⟨rfl, rfl⟩ := h
    unfold RV at r
    obtain ⟨p, ws, rfl, h1, h2⟩ := r
    exact ⟨p, ws, rfl, h2, h1⟩
  | lst ys =>
    simp only [seqOf, Option.some.injEq, Prod.mk.injEq] at h
    obtain ⟨rfl, rfl⟩ := h
    unfold RV at r
    obtain ⟨p, ws, rfl, h1, h2⟩ := r
    exact ⟨p, ws, rfl, h2, h1.sqL⟩
  | frz ys =>
    simp only [seqOf, Option.some.injEq, Prod.mk.injEq] at h
    obtain ⟨rfl, rfl⟩ := h
    unfold RV at r
    obtain ⟨p, ws, rfl, h1, h2⟩ := r
    exact ⟨p, ws, rfl, h2, h1.sqL⟩
  | ref n =>
    simp only [seqOf] at h
    unfold RV at r
    obtain ⟨p, hp, rfl⟩ := r
    cases q : S[n]? with
    | none => rw [q] at h; cases h
    | some c =>
      rw [q] at h
      obtain ⟨p', hp', rc⟩ := st.cell n c q
      rw [hp] at hp'; cases hp'
      cases c with
      | lst ys =>
        simp only [Option.some.injEq, Prod.mk.injEq] at h
        obtain ⟨rfl, rfl⟩ := h
        obtain ⟨ws, h1, h2⟩ := rc
        exact ⟨p, ws, rfl, h2, .inl (.inl h1)⟩
      | dct _ => cases h
      | ins _ _ => cases h
  | _ => simp [seqOf] at h
theorem seq_either {K : PySem.W.Frag} {H : Hp} {p : Addr} {ws : List V} {k : Bool} (h : if k then SqL K H p ws else SqT K H p ws) : SqL K H p ws ∨ SqT K H p ws := by
  cases k
  · exact .inr (by simpa using h)
  · exact .inl (by simpa using h)
theorem de_tup {k : Nat} (h : DA X W es aa) : DE X W (.Tuple es k pos) (eTup aa) := by
  refine ⟨PE.weak (pe_tup h.pa) fun σ H Q h => ?_⟩
  obtain ⟨ρ, S, L, sim, h⟩ := h
  refine ⟨ρ, S, L, sim, Post.bind (Rel' := RV X.K) h fun xs S1 ρ1 H1 ws _ e1 s1 r1 h1 => ?_⟩
  split at h1
  · rename_i hz
    refine ⟨by rw [r1.length]; exact hz, fun p hp => ?_⟩
    refine h1 ρ1 _ _ (ext_new hp) (s1.new hp) ?_
    unfold RV
    exact ⟨p, ws, rfl, .of upd_same, r1.ext (ext_new hp)⟩
  · exact h1.elim
theorem df_lst (h : DA X W es aa) : DF X W (.List es pos) (fLst aa) := by
  refine ⟨PE.weak (pe_lst h.pa) fun σ H Q h => ?_⟩
  obtain ⟨ρ, S, L, sim, h⟩ := h
  refine ⟨ρ, S, L, sim, Post.bind (Rel' := RVs X.K) h fun xs S1 ρ1 H1 ws _ e1 s1 r1 h1 => ?_⟩
  split at h1
  · rename_i hz
    exact ⟨by rw [r1.length]; exact hz, fun p hp => h1 ρ1 H1 ws Ext.refl s1 r1 p hp⟩
  · exact h1.elim
/-- a new list taken as it stands -/
theorem lF_of_fr {K : PySem.W.Frag} {W : XW} {aa : A} {σ : St} {H : Hp} {Q : VK} (h : lE K W (eFr aa) σ H Q) : lF K W aa σ H Q := by
  obtain ⟨ρ, S, L, sim, h⟩ := h
  refine ⟨ρ, S, L, sim, Post.bind (Rel' := RV K) h fun xs S1 ρ1 H1 ws _ e1 s1 r1 h1 => ?_⟩
  intro p hp
  refine h1 ρ1 _ _ (ext_new hp) (s1.new hp) ?_
  unfold RV
  exact ⟨p, ws, rfl, ⟨upd_same, s1.fresh hp, fun z => ne_of_none (s1.bz p z).1.choose_spec hp rfl⟩, r1.ext (ext_new hp)⟩
theorem de_fr (h : DF X W e aa) : DE X W e (eFr aa) := ⟨PE.weak h.pe fun _ _ _ h => lF_of_fr h⟩
/-- .. as a cell -/
theorem lF_of_mk {K : PySem.W.Frag} {W : XW} {aa : A} {σ : St} {H : Hp} {Q : VK} (h : lE K W (eMk aa) σ H Q) : lF K W aa σ H Q := by
  obtain ⟨ρ, S, L, sim, h⟩ := h
  refine ⟨ρ, S, L, sim, Post.bind (Rel' := RV K) h fun xs S1 ρ1 H1 ws _ e1 s1 r1 h1 => ?_⟩
  intro p hp
  refine h1 (ρ1.add p) _ _ (ext_cell hp) (s1.alloc hp ⟨ws, upd_same, r1.ext (ext_cell hp)⟩) ?_
  unfold RV
  exact ⟨p, by show (ρ1.c ++ [p])[S1.length]? = some p; rw [← s1.len, List.getElem?_concat_length], rfl⟩
theorem de_mk (h : DF X W e aa) : DE X W e (eMk aa) := ⟨PE.weak h.pe fun _ _ _ h => lF_of_mk h⟩
end
end Gx
end
section
set_option Elab.async false
set_option linter.all false
set_option maxHeartbeats 1000000
set_option autoImplicit false
/-! Gx: operators by values. -/
namespace Gx
open PySem L2
theorem RV.int_inv {K : PySem.W.Frag} {ρ : Pl} {H : Hp} {i : Int} {w : V} (h : RV K ρ H (.int i) w) : w = .int i := by unfold RV at h; exact h
theorem RV.bl_inv {K : PySem.W.Frag} {ρ : Pl} {H : Hp} {i : Bool} {w : V} (h : RV K ρ H (.bl i) w) : w = .bl i := by unfold RV at h; exact h
theorem RV.str_inv {K : PySem.W.Frag} {ρ : Pl} {H : Hp} {i : Str} {w : V} (h : RV K ρ H (.str i) w) : w = .str i := by unfold RV at h; exact h
theorem RV.non_inv {K : PySem.W.Frag} {ρ : Pl} {H : Hp} {w : V} (h : RV K ρ H .non w) : w = .non := by unfold RV at h; exact h
theorem RV.tup_inv {K : PySem.W.Frag} {ρ : Pl} {H : Hp} {xs : List Val} {w : V} (h : RV K ρ H (.tup xs) w) : ∃ a ws, w = .ref a ∧ SqT K H a ws ∧ RVs K ρ H xs ws := by unfold RV at h; exact h
theorem RV.lst_inv {K : PySem.W.Frag} {ρ : Pl} {H : Hp} {xs : List Val} {w : V} (h : RV K ρ H (.lst xs) w) : ∃ a ws, w = .ref a ∧ Fu ρ H a (.lst ws) ∧ RVs K ρ H xs ws := by unfold RV at h; exact h
theorem RV.frz_inv {K : PySem.W.Frag} {ρ : Pl} {H : Hp} {xs : List Val} {w : V} (h : RV K ρ H (.frz xs) w) : ∃ a ws, w = .ref a ∧ FzL K ρ H a ws ∧ RVs K ρ H xs ws := by unfold RV at h; exact h
theorem RV.ref_inv {K : PySem.W.Frag} {ρ : Pl} {H : Hp} {n : Nat} {w : V} (h : RV K ρ H (.ref n) w) : ∃ a, ρ.c[n]? = some a ∧ w = .ref a := by unfold RV at h; exact h
theorem RV.mk_int {K : PySem.W.Frag} {ρ : Pl} {H : Hp} (i : Int) : RV K ρ H (.int i) (.int i) := by unfold RV; rfl
theorem RV.mk_bl {K : PySem.W.Frag} {ρ : Pl} {H : Hp} (i : Bool) : RV K ρ H (.bl i) (.bl i) := by unfold RV; rfl
theorem RV.mk_str {K : PySem.W.Frag} {ρ : Pl} {H : Hp} (i : Str) : RV K ρ H (.str i) (.str i) := by unfold RV; rfl
theorem RV.mk_non {K : PySem.W.Frag} {ρ : Pl} {H : Hp} : RV K ρ H .non .non := by unfold RV; rfl
theorem RV.mk_tup {K : PySem.W.Frag} {ρ : Pl} {H : Hp} {xs : List Val} {a : Addr} {ws : List V} (h : SqT K H a ws) (r : RVs K ρ H xs ws) : RV K ρ H (.tup xs) (.ref a) := by unfold RV; exact ⟨a, ws, rfl, h, r⟩
section
variable {X : Cx} {W : XW}
theorem op_two_ints {g : Value → Value → Sem Value} {f : O} (C : Int → Int → Prop) (z : Int → Int → V) (zz : Int → Int → Val) (hz : ∀ ρ H i j, RV X.K ρ H (zz i j) (z i j)) (ho : OpR X g (rI C z))
    (hf : ∀ x y S, f x y S = .bad ∨ ∃ i j, x = .int i ∧ y = .int j ∧ C i j ∧ f x y S = .ok (zz i j) S) : OpR X g (lO X.K W f) := by
  intro pins s σ H wx wy v u Q I rx ry h
  obtain ⟨σ', ρ, S, x, y, st, hx, hy, post⟩ := h
  rcases hf x y S with e | ⟨i, j, rfl, rfl, hc, e⟩
  · rw [e] at post; exact post.elim
  · rw [e] at post
    have e1 := hx.int_inv
    have e2 := hy.int_inv
    exact ho pins s σ H wx wy v u Q I rx ry ⟨i, j, e1, e2, hc, post ρ H _ Ext.refl st (hz ρ H i j)⟩
theorem rI_true {g : Value → Value → Sem Value} {z : Int → Int → V} (ho : OpR X g (rI0 z)) : OpR X g (rI (fun _ _ => True) z) :=
  fun pins s σ H x y v u Q I rx ry ⟨i, j, a, b, _, c⟩ => ho pins s σ H x y v u Q I rx ry ⟨i, j, a, b, c⟩
theorem od_sub : OpR X (binaryOp .Sub) (lO X.K W oSub) :=
  op_two_ints (fun _ _ => True) _ (fun i j => .int (i - j)) (fun _ _ _ _ => .mk_int _) (rI_true op_sub) fun x y S => by
    unfold oSub; split
    · exact .inr ⟨_, _, rfl, rfl, True.intro, rfl⟩
    · exact .inl rfl
theorem od_mul : OpR X (binaryOp .Mult) (lO X.K W oMul) :=
  op_two_ints CMulW _ (fun i j => .int (i * j)) (fun _ _ _ _ => .mk_int _) op_mulW fun x y S => by
    unfold oMul; split
    · split
      · rename_i h; exact .inr ⟨_, _, rfl, rfl, h, rfl⟩
      · exact .inl rfl
    · exact .inl rfl
theorem od_fdiv : OpR X (binaryOp .FloorDiv) (lO X.K W oFdiv) :=
  op_two_ints CDivW _ (fun i j => .int (i / j)) (fun _ _ _ _ => .mk_int _) op_fdivW fun x y S => by
    unfold oFdiv; split
    · split
      · rename_i h; exact .inr ⟨_, _, rfl, rfl, h, rfl⟩
      · exact .inl rfl
    · exact .inl rfl
theorem od_mod : OpR X (binaryOp .Mod) (lO X.K W oMod) :=
  op_two_ints (fun _ j => 0 < j) _ (fun i j => .int (i % j)) (fun _ _ _ _ => .mk_int _) op_mod fun x y S => by
    unfold oMod; split
    · split
      · rename_i h; exact .inr ⟨_, _, rfl, rfl, h, rfl⟩
      · exact .inl rfl
    · exact .inl rfl
theorem od_pow : OpR X (binaryOp .Pow) (lO X.K W oPow) :=
  op_two_ints CPow _ (fun i j => .int (i ^ j.toNat)) (fun _ _ _ _ => .mk_int _) op_pow fun x y S => by
    unfold oPow; split
    · split
      · rename_i h; exact .inr ⟨_, _, rfl, rfl, h, rfl⟩
      · exact .inl rfl
    · exact .inl rfl
theorem cmp_ints (p : Int → Int → Bool) (x y : Val) (S : Store) : oCmp p x y S = .bad ∨ ∃ i j, x = .int i ∧ y = .int j ∧ True ∧ oCmp p x y S = .ok (.bl (p i j)) S := by
  unfold oCmp; split
  · exact .inr ⟨_, _, rfl, rfl, True.intro, rfl⟩
  · exact .inl rfl
theorem od_lt : OpR X (compareOp .Lt) (lO X.K W oLt) := op_two_ints _ _ (fun i j => .bl (decide (i < j))) (fun _ _ _ _ => .mk_bl _) (rI_true op_lt) (cmp_ints _)
theorem od_le : OpR X (compareOp .LtE) (lO X.K W oLe) := op_two_ints _ _ (fun i j => .bl (decide (i ≤ j))) (fun _ _ _ _ => .mk_bl _) (rI_true op_le) (cmp_ints _)
theorem od_gt : OpR X (compareOp .Gt) (lO X.K W oGt) := op_two_ints _ _ (fun i j => .bl (decide (j < i))) (fun _ _ _ _ => .mk_bl _) (rI_true op_gt) (cmp_ints _)
theorem od_ge : OpR X (compareOp .GtE) (lO X.K W oGe) := op_two_ints _ _ (fun i j => .bl (decide (j ≤ i))) (fun _ _ _ _ => .mk_bl _) (rI_true op_ge) (cmp_ints _)
theorem od_add : OpR X (binaryOp .Add) (lO X.K W oAdd) := by
  intro pins s σ H wx wy v u Q I rx ry h
  obtain ⟨σ', ρ, S, x, y, st, hx, hy, post⟩ := h
  unfold oAdd at post
  split at post
  · exact op_add pins s σ H wx wy v u Q I rx ry ⟨_, _, hx.int_inv, hy.int_inv, post ρ H _ Ext.refl st (.mk_int _)⟩
  · split at post
    · rename_i hz
      exact op_add_str pins s σ H wx wy v u Q I rx ry ⟨_, _, hx.str_inv, hy.str_inv, hz, post ρ H _ Ext.refl st (.mk_str _)⟩
    · exact post.elim
  · split at post
    · rename_i hz
      obtain ⟨p, ws, e1, h1, g1⟩ := hx.tup_inv
      obtain ⟨q, us, e2, h2, g2⟩ := hy.tup_inv
      refine op_catA pins s σ H wx wy v u Q I rx ry ⟨p, q, ws, us, e1, e2, h1, h2, by rw [g1.length, g2.length]; exact hz, fun e => ?_, fun e e' => ?_, fun e e' r hr => ?_⟩
      · subst e
        exact post ρ H _ Ext.refl st (.mk_tup h2 (by
          have := g1.append g2
          simpa using this))
      · subst e'
        exact post ρ H _ Ext.refl st (.mk_tup h1 (by
          have := g1.append g2
          simpa using this))
      · exact post ρ _ _ (ext_new hr) (st.new hr) (.mk_tup (.of upd_same) ((g1.append g2).ext (ext_new hr)))
    · exact post.elim
  · exact post.elim
def lU (K : PySem.W.Frag) (W : XW) (f : Val → Store → R Val) : V → Hp → VK → Prop := fun wx H Q => ∃ σ ρ S x, StOk K ρ H S ∧ RV K ρ H x wx ∧ Post K W (RV K) ρ H σ (f x S) Q
theorem de_un {op : UnaryOp} {f : Val → Store → R Val} {a : Expr} {da : E} {pos : Pos} (ho : UnR X (unaryOp op) (lU X.K W f)) (ha : DE X W a da) : DE X W (.UnaryOp op a pos) (eUn f da) := by
  refine ⟨PE.weak (pe_un ho ha.pe) fun σ H Q h => ?_⟩
  obtain ⟨ρ, S, L, sim, h⟩ := h
  refine ⟨ρ, S, L, sim, Post.bind (Rel' := RV X.K) h fun x S1 ρ1 H1 w _ e1 s1 r1 h1 => ?_⟩
  exact ⟨σ, ρ1, S1, x, s1, r1, h1⟩
theorem od_neg : UnR X (unaryOp .USub) (lU X.K W oNeg) := by
  intro pins s σ H wx v Q I rx h
  obtain ⟨σ', ρ, S, x, st, hx, post⟩ := h
  unfold oNeg at post
  split at post
  · exact un_neg pins s σ H wx v Q I rx ⟨_, hx.int_inv, post ρ H _ Ext.refl st (.mk_int _)⟩
  · exact post.elim
/-! ### is -/
theorem od_isN : OpR X (compareOp .Is) (lO X.K W oIsN) := by
  intro pins s σ H wx wy v u Q I rx ry h
  obtain ⟨σ', ρ, S, x, y, st, hx, hy, post⟩ := h
  unfold oIsN at post
  split at post
  · refine op_isN pins s σ H wx wy v u Q I rx ry ⟨hy.non_inv, ?_⟩
    have q := post ρ H _ Ext.refl st (.mk_bl _)
    cases x with
    | non => rw [hx.non_inv]; exact q
    | bl _ => rw [hx.bl_inv]; exact q
    | int _ => rw [hx.int_inv]; exact q
    | str _ => rw [hx.str_inv]; exact q
    | ty _ => unfold RV at hx; rw [hx]; exact q
    | gl _ => unfold RV at hx; rw [hx]; exact q
    | tup _ => obtain ⟨_, _, e, _⟩ := hx.tup_inv; rw [e]; exact q
    | lst _ => obtain ⟨_, _, e, _⟩ := hx.lst_inv; rw [e]; exact q
    | frz _ => obtain ⟨_, _, e, _⟩ := hx.frz_inv; rw [e]; exact q
    | dct _ => unfold RV at hx; obtain ⟨_, _, e, _⟩ := hx; rw [e]; exact q
    | obj _ _ => unfold RV at hx; obtain ⟨_, _, _, e, _⟩ := hx; rw [e]; exact q
    | ref _ => obtain ⟨_, _, e⟩ := hx.ref_inv; rw [e]; exact q
  · exact post.elim
theorem od_notN : OpR X (compareOp .IsNot) (lO X.K W oNotN) := by
  intro pins s σ H wx wy v u Q I rx ry h
  obtain ⟨σ', ρ, S, x, y, st, hx, hy, post⟩ := h
  unfold oNotN at post
  split at post
  · refine op_notN pins s σ H wx wy v u Q I rx ry ⟨hy.non_inv, ?_⟩
    have q := post ρ H _ Ext.refl st (.mk_bl _)
    cases x with
    | non => rw [hx.non_inv]; exact q
    | bl _ => rw [hx.bl_inv]; exact q
    | int _ => rw [hx.int_inv]; exact q
    | str _ => rw [hx.str_inv]; exact q
    | ty _ => unfold RV at hx; rw [hx]; exact q
    | gl _ => unfold RV at hx; rw [hx]; exact q
    | tup _ => obtain ⟨_, _, e, _⟩ := hx.tup_inv; rw [e]; exact q
    | lst _ => obtain ⟨_, _, e, _⟩ := hx.lst_inv; rw [e]; exact q
    | frz _ => obtain ⟨_, _, e, _⟩ := hx.frz_inv; rw [e]; exact q
    | dct _ => unfold RV at hx; obtain ⟨_, _, e, _⟩ := hx; rw [e]; exact q
    | obj _ _ => unfold RV at hx; obtain ⟨_, _, _, e, _⟩ := hx; rw [e]; exact q
    | ref _ => obtain ⟨_, _, e⟩ := hx.ref_inv; rw [e]; exact q
  · exact post.elim
theorem od_isB : OpR X (compareOp .Is) (lO X.K W oIsB) := by
  intro pins s σ H wx wy v u Q I rx ry h
  obtain ⟨σ', ρ, S, x, y, st, hx, hy, post⟩ := h
  unfold oIsB at post
  split at post
  · exact op_isBl pins s σ H wx wy v u Q I rx ry ⟨_, _, hx.bl_inv, hy.bl_inv, post ρ H _ Ext.refl st (.mk_bl _)⟩
  · exact post.elim
theorem od_notB : OpR X (compareOp .IsNot) (lO X.K W oNotB) := by
  intro pins s σ H wx wy v u Q I rx ry h
  obtain ⟨σ', ρ, S, x, y, st, hx, hy, post⟩ := h
  unfold oNotB at post
  split at post
  · exact op_notBl pins s σ H wx wy v u Q I rx ry ⟨_, _, hx.bl_inv, hy.bl_inv, post ρ H _ Ext.refl st (.mk_bl _)⟩
  · exact post.elim

/-! ### == -/
mutual
theorem dat_dp {K : PySem.W.Frag} {ρ : Pl} {H : Hp} : ∀ {v : Val} {w : V} {d : PyData}, RV K ρ H v w → dat v = some d → Dp K H w d
  | .non, w, d, h, e => by simp only [dat, Option.some.injEq] at e; subst e; rw [h.non_inv]; exact .non
  | .bl b, w, d, h, e => by simp only [dat, Option.some.injEq] at e; subst e; rw [h.bl_inv]; exact .bl _
  | .int b, w, d, h, e => by simp only [dat, Option.some.injEq] at e; subst e; rw [h.int_inv]; exact .int _
  | .str b, w, d, h, e => by simp only [dat, Option.some.injEq] at e; subst e; rw [h.str_inv]; exact .str _
  | .tup xs, w, d, h, e => by
    obtain ⟨a, ws, rfl, h1, h2⟩ := h.tup_inv
    simp only [dat, Option.map_eq_some_iff] at e
    obtain ⟨ds, e1, rfl⟩ := e
    exact .tup h1 (dats_dp h2 e1)
  | .lst xs, w, d, h, e => by
    obtain ⟨a, ws, rfl, h1, h2⟩ := h.lst_inv
    simp only [dat, Option.map_eq_some_iff] at e
    obtain ⟨ds, e1, rfl⟩ := e
    exact .lst h1.sqL (dats_dp h2 e1)
  | .ty _, w, d, h, e => by simp [dat] at e
  | .frz _, w, d, h, e => by simp [dat] at e
  | .gl _, w, d, h, e => by simp [dat] at e
  | .dct _, w, d, h, e => by simp [dat] at e
  | .obj _ _, w, d, h, e => by simp [dat] at e
  | .ref _, w, d, h, e => by simp [dat] at e
theorem dats_dp {K : PySem.W.Frag} {ρ : Pl} {H : Hp} : ∀ {xs : List Val} {ws : List V} {ds : List PyData}, RVs K ρ H xs ws → dats xs = some ds → DpAll K H ws ds
  | [], ws, ds, h, e => by simp only [dats, Option.some.injEq] at e; subst e; rw [RVs.nil_iff.mp h]; exact .nil
  | x :: xs, ws, ds, h, e => by
    obtain ⟨w, r, rfl, hw, t⟩ := h.inv
    unfold dats at e
    cases e1 : dat x with
    | none => rw [e1] at e; simp at e
    | some d1 =>
      cases e2 : dats xs with
      | none => rw [e1, e2] at e; simp at e
      | some ds1 =>
        rw [e1, e2] at e
        simp only [Option.some.injEq] at e
        subst e
        exact .cons (dat_dp hw e1) (dats_dp t e2)
end
theorem datS_dp {K : PySem.W.Frag} {ρ : Pl} {H : Hp} {S : Store} (st : StOk K ρ H S) {v : Val} {w : V} {d : PyData} (h : RV K ρ H v w) (e : datS S v = some d) : Dp K H w d := by
  unfold datS at e
  split at e
  · rename_i n
    obtain ⟨a, ha, rfl⟩ := h.ref_inv
    split at e
    · rename_i xs q
      obtain ⟨a', ha', rc⟩ := st.cell n _ q
      rw [ha] at ha'; cases ha'
      obtain ⟨ws, h1, h2⟩ := rc
      simp only [dat, Option.map_eq_some_iff] at e
      obtain ⟨ds, e1, rfl⟩ := e
      exact .lst (.of h1) (dats_dp h2 e1)
    · cases e
  · exact dat_dp h e
/-- a sequence beside an empty one of its kind -/
theorem eq_empty {neg : Bool} {pins : List (Addr × Obj)} {s : Shared} {σ : St} {H : Hp} {a b : Addr} {ws : List V} {k : Bool} {Q : VK} (hu : X.A.units < cLine) (I : Inv X pins σ H s) (h1 : if k then SqL X.K H a ws else SqT X.K H a ws) (h2 : if k then SqL X.K H b [] else SqT X.K H b [])
    (q : Q (.bl (if neg then !ws.isEmpty else ws.isEmpty)) H) : wpAny (model X.prog X.w) X.A (compareOp (if neg then .NotEq else .Eq) (.ref a) (.ref b)) (EP X pins σ Q) X.xe s := by
  have fin : ∀ z : Bool, z = (if neg then !ws.isEmpty else ws.isEmpty) → EP X pins σ Q (.bool z) s := fun z e => ⟨.bl z, H, I, rfl, by rw [e]; exact q⟩
  cases k with
  | true =>
    obtain ⟨its, r1, p1, _⟩ := I.list (by simpa using h1)
    obtain ⟨it2, r2, p2, _⟩ := I.list (xs := []) (by simpa using h2)
    cases r2
    by_cases hz : its = []
    · have hw : ws = [] := List.eq_nil_of_length_eq_zero (by rw [r1.length, hz]; rfl)
      cases neg with
      | true => exact SeqAt.RcNeAt.lists p1.isList p2.isList (by simp [hz]) hu (e := fun _ => true) (fun j h1 => by simp [hz] at h1) _ _ _ _ (fin _ (by simp [hw, hz]))
      | false => exact SeqAt.RcAt.lists p1.isList p2.isList (by simp [hz]) hu (e := fun _ => true) (fun j h1 => by simp [hz] at h1) _ _ _ _ (fin _ (by simp [hw, hz]))
    · have hw : ws ≠ [] := fun e => hz (List.eq_nil_of_length_eq_zero (by rw [← r1.length, e]; rfl))
      cases neg with
      | true => exact SeqAt.RcNeAt.lists_lengths p1.isList p2.isList (by simp [hz]) hu _ _ _ _ (fin _ (by simp [hw]))
      | false => exact SeqAt.RcAt.lists_lengths p1.isList p2.isList (by simp [hz]) hu _ _ _ _ (fin _ (by simp [hw]))
  | false =>
    obtain ⟨its, r1, p1, _⟩ := I.tuple (by simpa using h1)
    obtain ⟨it2, r2, p2, _⟩ := I.tuple (xs := []) (by simpa using h2)
    cases r2
    have hw : ws.isEmpty = its.isEmpty := by
      have := r1.length
      cases ws <;> cases its <;> simp_all
    cases neg with
    | true => exact SeqAt.RcNeAt.tuples ⟨_, p1.choose_spec.1, p1.choose_spec.2.1, _, p1.choose_spec.2.2.choose_spec⟩ ⟨_, p2.choose_spec.1, p2.choose_spec.2.1, _, p2.choose_spec.2.2.choose_spec⟩ hu (e := fun _ => true) (fun j _ h2 => by simp at h2) _ _ _ _ (fin _ (by cases its <;> simp_all))
    | false => exact SeqAt.RcAt.tuples ⟨_, p1.choose_spec.1, p1.choose_spec.2.1, _, p1.choose_spec.2.2.choose_spec⟩ ⟨_, p2.choose_spec.1, p2.choose_spec.2.1, _, p2.choose_spec.2.2.choose_spec⟩ hu (e := fun _ => true) (fun j _ h2 => by simp at h2) _ _ _ _ (fin _ (by cases its <;> simp_all))
def oEqN (neg : Bool) : O := fun x y S => match pyEq S x y with | some b => .ok (.bl (if neg then !b else b)) S | none => .bad
theorem od_eqN (neg : Bool) (hu : X.A.units + 64 < cLine) : OpR X (compareOp (if neg then .NotEq else .Eq)) (lO X.K W (oEqN neg)) := by
  intro pins s σ H wx wy v u Q I rx ry h
  obtain ⟨σ', ρ, S, x, y, st, hx, hy, post⟩ := h
  unfold oEqN at post
  have hu0 : X.A.units < cLine := by omega
  -- a scalar's answer
  have flat : ∀ b : Bool, scal wx wy = true → decide (wx = wy) = b → Post X.K W (RV X.K) ρ H σ' (R.ok (.bl (if neg then !b else b)) S) Q → wpAny (model X.prog X.w) X.A (compareOp (if neg then .NotEq else .Eq) v u) (EP X pins σ Q) X.xe s := by
    intro b h1 h2 p
    have q := p ρ H _ Ext.refl st (.mk_bl _)
    cases neg with
    | true => exact op_ne pins s σ H wx wy v u Q I rx ry ⟨h1, by rw [h2]; exact q⟩
    | false => exact op_eq pins s σ H wx wy v u Q I rx ry ⟨h1, by rw [h2]; exact q⟩
  have deep : ∀ b : Bool, (match datS S x, datS S y with
    | some d, some e => if SeqAt.shaped d && SeqAt.shaped e then some (PyData.eqv d e) else none
    | _, _ => none) = some b → Post X.K W (RV X.K) ρ H σ' (R.ok (.bl (if neg then !b else b)) S) Q → wpAny (model X.prog X.w) X.A (compareOp (if neg then .NotEq else .Eq) v u) (EP X pins σ Q) X.xe s := by
    intro b h1 p
    have q := p ρ H _ Ext.refl st (.mk_bl _)
    split at h1
    · rename_i d e e1 e2
      split at h1
      · rename_i hs
        rw [Bool.and_eq_true] at hs
        simp only [Option.some.injEq] at h1
        subst h1
        cases neg with
        | true => exact op_neD hu pins s σ H wx wy v u Q I rx ry ⟨d, e, datS_dp st hx e1, datS_dp st hy e2, hs.1, hs.2, q⟩
        | false => exact op_eqD hu pins s σ H wx wy v u Q I rx ry ⟨d, e, datS_dp st hx e1, datS_dp st hy e2, hs.1, hs.2, q⟩
      · cases h1
    · cases h1
  have empt : ∀ (k : Bool) (xs : List Val), seqOf S x = some (k, xs) → seqOf S y = some (k, []) → Post X.K W (RV X.K) ρ H σ' (R.ok (.bl (if neg then !xs.isEmpty else xs.isEmpty)) S) Q → wpAny (model X.prog X.w) X.A (compareOp (if neg then .NotEq else .Eq) v u) (EP X pins σ Q) X.xe s := by
    intro k xs h1 h2 p
    have q := p ρ H _ Ext.refl st (.mk_bl _)
    obtain ⟨a, ws, rfl, r1, l1⟩ := seq_read st hx h1
    obtain ⟨b, us, rfl, r2, l2⟩ := seq_read st hy h2
    have e2 := RVs.nil_iff.mp r2
    subst e2
    have ew : ws.isEmpty = xs.isEmpty := by
      have := r1.length
      cases ws <;> cases xs <;> simp_all
    cases rx; cases ry
    refine eq_empty hu0 I l1 l2 ?_
    rw [ew]; exact q
  unfold pyEq at post
  split at post
  · rename_i b hb
    split at hb
    · cases hb; exact flat _ (by rw [hx.non_inv, hy.non_inv]; rfl) (by rw [hx.non_inv, hy.non_inv]; rfl) post
    · cases hb; exact flat _ (by rw [hx.non_inv, hy.int_inv]; rfl) (by rw [hx.non_inv, hy.int_inv]; rfl) post
    · cases hb; exact flat _ (by rw [hx.int_inv, hy.non_inv]; rfl) (by rw [hx.int_inv, hy.non_inv]; rfl) post
    · cases hb; exact flat _ (by rw [hx.non_inv, hy.str_inv]; rfl) (by rw [hx.non_inv, hy.str_inv]; rfl) post
    · cases hb; exact flat _ (by rw [hx.str_inv, hy.non_inv]; rfl) (by rw [hx.str_inv, hy.non_inv]; rfl) post
    · cases hb; exact flat _ (by rw [hx.int_inv, hy.int_inv]; rfl) (by rw [hx.int_inv, hy.int_inv]; simp) post
    · cases hb; exact flat _ (by rw [hx.bl_inv, hy.bl_inv]; rfl) (by rw [hx.bl_inv, hy.bl_inv]; simp) post
    · cases hb; exact flat _ (by rw [hx.str_inv, hy.str_inv]; rfl) (by rw [hx.str_inv, hy.str_inv]; simp) post
    · cases hb; exact empt false _ rfl rfl post
    · cases hb; exact empt true _ rfl rfl post
    · rename_i n
      split at hb
      · rename_i xs q
        cases hb; exact empt true xs (by simp [seqOf, q]) rfl post
      · cases hb
    · exact deep b hb post
  · exact post.elim
theorem od_eq (hu : X.A.units + 64 < cLine) : OpR X (compareOp .Eq) (lO X.K W oEq) := od_eqN false hu
theorem od_ne (hu : X.A.units + 64 < cLine) : OpR X (compareOp .NotEq) (lO X.K W oNe) := od_eqN true hu
end
end Gx
end
section
set_option Elab.async false
set_option linter.all false
set_option maxHeartbeats 1000000
set_option autoImplicit false
/-! Gx: the rules of statements, loops, comprehensions. -/
namespace Gx
open PySem L2
def PostS (K : PySem.W.Frag) (W : XW) (ρ : Pl) (H : Hp) (r : RS) (D : Ends) : Prop :=
  match r with
  | .nx L' S' => ∀ ρ' H' σ', Ext ρ H ρ' H' → Sim K ρ' H' L' S' σ' → D.nx σ' H'
  | .ret v S' => ∀ ρ' H' w, Ext ρ H ρ' H' → StOk K ρ' H' S' → RV K ρ' H' v w → D.rt w H'
  | .exn x L' S' => ∀ ρ' H' σ' c d, Ext ρ H ρ' H' → Sim K ρ' H' L' S' σ' → XV K ρ' H' x c d → W c d σ' H'
  | .bad => False
def lS (K : PySem.W.Frag) (W : XW) (d : SS) : TS := fun D σ H => ∃ ρ S L, Sim K ρ H L S σ ∧ PostS K W ρ H (d L S) D
structure DS (X : Cx) (W : XW) (s : Stmt) (d : SS) : Prop where
  ps : PS X s (lS X.K W d)
structure DSs (X : Cx) (W : XW) (s : List Stmt) (d : SS) : Prop where
  ps : PSs X s (lS X.K W d)
section
variable {K : PySem.W.Frag} {W : XW} {ρ ρ1 : Pl} {H H1 : Hp} {D : Ends} {r : RS}
theorem PostS.base (h : PostS K W ρ H r D) (e : Ext ρ H ρ1 H1) : PostS K W ρ1 H1 r D := by
  cases r with
  | nx L S => exact fun ρ' H' σ' a b => h ρ' H' σ' (e.trans a) b
  | ret v S => exact fun ρ' H' w a b c => h ρ' H' w (e.trans a) b c
  | exn x L S => exact fun ρ' H' σ' c d a b q => h ρ' H' σ' c d (e.trans a) b q
  | bad => exact h
theorem PostS.next {f : Loc → Store → RS} (h : PostS K W ρ H (r.next f) D) {N : St → Hp → Prop}
    (k : ∀ L1 S1 ρ1 H1 σ1, r = .nx L1 S1 → Ext ρ H ρ1 H1 → Sim K ρ1 H1 L1 S1 σ1 → PostS K W ρ1 H1 (f L1 S1) D → N σ1 H1) : PostS K W ρ H r { D with nx := N } := by
  cases r with
  | nx L S => exact fun ρ' H' σ' a b => k L S ρ' H' σ' rfl a b (PostS.base h a)
  | ret v S => exact h
  | exn x L S => exact h
  | bad => exact h
theorem PostS.ofE {α β : Type} {Rel : Pl → Hp → α → β → Prop} {L : Loc} {S : Store} {σ : St} {r : R α} {f : α → Store → RS} (sim : Sim K ρ H L S σ) (h : PostS K W ρ H (ofE L r f) D) {Q : β → Hp → Prop}
    (k : ∀ v S1 ρ1 H1 w, r = .ok v S1 → Ext ρ H ρ1 H1 → StOk K ρ1 H1 S1 → Rel ρ1 H1 v w → PostS K W ρ1 H1 (f v S1) D → Q w H1) : Post K W Rel ρ H σ r Q := by
  cases r with
  | ok v S' => exact fun ρ' H' w a b c => k v S' ρ' H' w rfl a b c (PostS.base h a)
  | exn x S' => exact fun ρ' H' c d a b q => h ρ' H' σ c d a (sim.next a b) q
  | bad => exact h
theorem PostS.weak {D' : Ends} (h : PostS K W ρ H r D) (h1 : ∀ σ H, D.nx σ H → D'.nx σ H) (h2 : ∀ w H, D.rt w H → D'.rt w H) : PostS K W ρ H r D' := by
  cases r with
  | nx L S => exact fun ρ' H' σ' a b => h1 _ _ (h ρ' H' σ' a b)
  | ret v S => exact fun ρ' H' w a b c => h2 _ _ (h ρ' H' w a b c)
  | exn x L S => exact h
  | bad => exact h
end

/-! ### targets -/
/-- a target of names: what it stores lies within the slots vs -/
structure GoodG (K : PySem.W.Frag) (vs : List Nat) (g : G) (t : TG) : Prop where
  run : ∀ ρ H L S σ v w, Sim K ρ H L S σ → RV K ρ H v w → match g v L S with
    | .nx L' S' => S' = S ∧ ∃ σ', Sim K ρ H L' S σ' ∧ wipe σ' vs = wipe σ vs ∧ ∀ Q : St → Hp → Prop, Q σ' H → t w σ H Q
    | .bad => True
    | _ => False
structure GoodGs (K : PySem.W.Frag) (vs : List Nat) (g : Gs) (t : TGs) : Prop where
  run : ∀ ρ H L S σ xs ws, Sim K ρ H L S σ → RVs K ρ H xs ws → match g xs L S with
    | .nx L' S' => S' = S ∧ ∃ σ', Sim K ρ H L' S σ' ∧ wipe σ' vs = wipe σ vs ∧ ∀ Q : St → Hp → Prop, Q σ' H → t ws σ H Q
    | .bad => True
    | _ => False
theorem wipe_set_out {x : Option V} {i : Nat} : ∀ {vs : List Nat} {σ : St}, i ∉ vs → wipe (σ.set i x) vs = (wipe σ vs).set i x
  | [], _, _ => rfl
  | j :: vs, σ, h => by
    have h1 : i ≠ j := fun e => h (by simp [e])
    have h2 : i ∉ vs := fun e => h (by simp [e])
    show (wipe (σ.set i x) vs).set j none = ((wipe σ vs).set j none).set i x
    rw [wipe_set_out h2, List.set_comm _ _ h1]
theorem wipe_set {x : Option V} {i : Nat} : ∀ {vs : List Nat} {σ : St}, i ∈ vs → wipe (σ.set i x) vs = wipe σ vs
  | [], _, h => by simp at h
  | j :: vs, σ, h => by
    show (wipe (σ.set i x) vs).set j none = (wipe σ vs).set j none
    by_cases e : i ∈ vs
    · rw [wipe_set e]
    · have ej : i = j := by
        rcases List.mem_cons.mp h with z | z
        · exact z
        · exact absurd z e
      subst ej
      rw [wipe_set_out e, List.set_set]
theorem good_name {K : PySem.W.Frag} {vs : List Nat} (i : Nat) (hi : i ∈ vs) : GoodG K vs (gName i) (L2.gName i) :=
  ⟨fun ρ H L S σ v w sim r => ⟨rfl, σ.set i (some w), ⟨sim.st, sim.loc.set i r⟩, wipe_set hi, fun Q q => q⟩⟩
theorem good_nil {K : PySem.W.Frag} {vs : List Nat} : GoodGs K vs gNil L2.gNil := by
  refine ⟨fun ρ H L S σ xs ws sim r => ?_⟩
  cases xs with
  | nil => exact ⟨rfl, σ, sim, rfl, fun Q q => ⟨RVs.nil_iff.mp r, q⟩⟩
  | cons _ _ => exact True.intro
theorem good_cons {K : PySem.W.Frag} {vs : List Nat} {g : G} {t : TG} {gs : Gs} {ts : TGs} (h1 : GoodG K vs g t) (h2 : GoodGs K vs gs ts) : GoodGs K vs (gCons g gs) (L2.gCons t ts) := by
  refine ⟨fun ρ H L S σ xs ws sim r => ?_⟩
  cases xs with
  | nil => exact True.intro
  | cons x xs =>
    obtain ⟨w, wr, rfl, rw', rt⟩ := r.inv
    have a := h1.run ρ H L S σ x w sim rw'
    simp only [gCons]
    cases e : g x L S with
    | nx L1 S1 =>
      rw [e] at a
      obtain ⟨rfl, σ1, sim1, wp1, k1⟩ := a
      have b := h2.run ρ H L1 S1 σ1 xs wr sim1 rt
      simp only [plain_nx, next_nx]
      cases e2 : gs xs L1 S1 with
      | nx L2 S2 =>
        rw [e2] at b
        obtain ⟨rfl, σ2, sim2, wp2, k2⟩ := b
        exact ⟨rfl, σ2, sim2, wp2.trans wp1, fun Q q => ⟨w, wr, rfl, k1 _ (k2 Q q)⟩⟩
      | bad => exact True.intro
      | ret _ _ => rw [e2] at b; exact b.elim
      | exn _ _ _ => rw [e2] at b; exact b.elim
    | bad => exact True.intro
    | ret _ _ => rw [e] at a; exact a.elim
    | exn _ _ _ => rw [e] at a; exact a.elim
/-- a tuple or a list into names -/
def gSeq (K : PySem.W.Frag) (n : Nat) (t : TGs) : TG := fun v σ H Q => L2.gTup K n t v σ H Q ∨ gUnl K n t v σ H Q
theorem good_tup {K : PySem.W.Frag} {vs : List Nat} {n : Nat} {gs : Gs} {ts : TGs} (h : GoodGs K vs gs ts) : GoodG K vs (gTup n gs) (gSeq K n ts) := by
  refine ⟨fun ρ H L S σ x w sim r => ?_⟩
  unfold gTup
  cases e : seqOf S x with
  | none => exact True.intro
  | some p =>
    obtain ⟨k, xs⟩ := p
    obtain ⟨a, ws, rfl, h1, h2⟩ := seq_read sim.st r e
    simp only []
    by_cases hl : xs.length = n
    · rw [if_pos hl]
      have b := h.run ρ H L S σ xs ws sim h1
      cases e2 : gs xs L S with
      | nx L2 S2 =>
        rw [e2] at b
        obtain ⟨rfl, σ2, sim2, wp2, k2⟩ := b
        refine ⟨rfl, σ2, sim2, wp2, fun Q q => ?_⟩
        cases k with
        | true => exact .inr ⟨a, ws, rfl, by simpa using h2, by rw [h1.length]; exact hl, k2 Q q⟩
        | false => exact .inl ⟨a, ws, rfl, by simpa using h2, by rw [h1.length]; exact hl, k2 Q q⟩
      | bad => exact True.intro
      | ret _ _ => rw [e2] at b; exact b.elim
      | exn _ _ _ => rw [e2] at b; exact b.elim
    · rw [if_neg hl]; exact True.intro
theorem pg_seq {X : Cx} {es : List Expr} {k : Nat} {t : TGs} {n : Nat} {pos : Pos} (hc : X.calm = true) (h : PGs X es t)
    (hn : (assignEach es X.env).length = n := by rfl) (hst : (assignEach es X.env).findIdx? (·.1) = none := by rfl) : PG X (.Tuple es k pos) (gSeq X.K n t) := by
  refine ⟨fun pins s σ H v u Q I r hw => ?_⟩
  rcases hw with hw | hw
  · exact (pg_tup hc h hn hst).run pins s σ H v u Q I r hw
  · exact (pg_unl hc h hn hst).run pins s σ H v u Q I r hw
/-- any target -/
def lG (K : PySem.W.Frag) (W : XW) (g : G) : TG := fun w σ H Q => ∃ ρ S L v, Sim K ρ H L S σ ∧ RV K ρ H v w ∧ PostS K W ρ H (g v L S).plain { nx := Q, rt := fun _ _ => False }
structure DG (X : Cx) (W : XW) (tg : Expr) (g : G) : Prop where
  pg : PG X tg (lG X.K W g)
theorem PG.weak {X : Cx} {e : Expr} {t t' : TG} (h : PG X e t) (k : ∀ w σ H Q, t' w σ H Q → t w σ H Q) : PG X e t' := ⟨fun pins s σ H v u Q I r q => h.run pins s σ H v u Q I r (k v σ H Q q)⟩
theorem dg_good {X : Cx} {W : XW} {tg : Expr} {g : G} {t : TG} {vs : List Nat} (h : PG X tg t) (k : GoodG X.K vs g t) : DG X W tg g := by
  refine ⟨PG.weak h fun w σ H Q q => ?_⟩
  obtain ⟨ρ, S, L, v, sim, r, q⟩ := q
  have a := k.run ρ H L S σ v w sim r
  cases e : g v L S with
  | nx L1 S1 =>
    rw [e] at a q
    obtain ⟨rfl, σ1, sim1, _, k1⟩ := a
    exact k1 Q (q ρ H σ1 Ext.refl sim1)
  | bad => rw [e] at q; exact q.elim
  | ret _ _ => rw [e] at a; exact a.elim
  | exn _ _ _ => rw [e] at a; exact a.elim

section
variable {X : Cx} {W : XW} {c e : Expr} {s : Stmt} {ss : List Stmt} {d : E} {tc : T} {da db : SS} {g : G} {pos : Pos}
/-! ### blocks and small statements -/
theorem dss_nil : DSs X W [] sNil := by
  refine ⟨PSs.weak pss_nil fun D σ H h => ?_⟩
  obtain ⟨ρ, S, L, sim, h⟩ := h
  exact h ρ H σ Ext.refl sim
theorem dss_cons (h1 : DS X W s da) (h2 : DSs X W ss db) : DSs X W (s :: ss) (sSeq da db) := by
  refine ⟨PSs.weak (pss_cons h1.ps h2.ps) fun D σ H h => ?_⟩
  obtain ⟨ρ, S, L, sim, h⟩ := h
  exact ⟨ρ, S, L, sim, PostS.next h fun L1 S1 ρ1 H1 σ1 _ e1 sim1 h1 => ⟨ρ1, S1, L1, sim1, h1⟩⟩
theorem dss_one (h1 : DS X W s da) : DSs X W [s] da := ⟨pss_one h1.ps⟩
theorem ds_pass : DS X W (.Pass pos) sNil := by
  refine ⟨PS.weak ps_pass fun D σ H h => ?_⟩
  obtain ⟨ρ, S, L, sim, h⟩ := h
  exact h ρ H σ Ext.refl sim
theorem ds_expr (he : DE X W e d) (hs : swapsWith e none pos.line X.env = pure false := by rfl) : DS X W (.Expr e pos) (sDrop d) := by
  refine ⟨PS.weak (ps_expr he.pe hs) fun D σ H h => ?_⟩
  obtain ⟨ρ, S, L, sim, h⟩ := h
  exact ⟨ρ, S, L, sim, PostS.ofE sim h fun v S1 ρ1 H1 w _ e1 s1 _ h1 => h1 ρ1 H1 σ Ext.refl (sim.next e1 s1)⟩
theorem ds_ret (he : DE X W e d) : DS X W (.Return (some e) pos) (sRet d) := by
  refine ⟨PS.weak (ps_ret he.pe) fun D σ H h => ?_⟩
  obtain ⟨ρ, S, L, sim, h⟩ := h
  exact ⟨ρ, S, L, sim, PostS.ofE sim h fun v S1 ρ1 H1 w _ e1 s1 r1 h1 => h1 ρ1 H1 w Ext.refl s1 r1⟩
theorem ds_retN : DS X W (.Return none pos) sRetN := by
  refine ⟨PS.weak ps_retN fun D σ H h => ?_⟩
  obtain ⟨ρ, S, L, sim, h⟩ := h
  exact h ρ H .non Ext.refl sim.st .mk_non
theorem ds_if {a b : List Stmt} (hc : DT X W c tc) (ha : DSs X W a da) (hb : DSs X W b db) : DS X W (.If c a b pos) (sIf tc da db) := by
  refine ⟨PS.weak (ps_if hc.pt ha.ps hb.ps) fun D σ H h => ?_⟩
  obtain ⟨ρ, S, L, sim, h⟩ := h
  refine ⟨ρ, S, L, sim, PostS.ofE sim h fun v S1 ρ1 H1 w _ e1 s1 r1 h1 => ?_⟩
  subst r1
  cases v with
  | true => rw [if_pos rfl]; exact ⟨ρ1, S1, L, sim.next e1 s1, h1⟩
  | false => rw [if_neg (by simp)]; exact ⟨ρ1, S1, L, sim.next e1 s1, h1⟩
theorem ds_never : DS X W s sNever := ⟨PS.weak ps_never fun D σ H h => by obtain ⟨_, _, _, _, h⟩ := h; exact h⟩
theorem dss_never : DSs X W ss sNever := ⟨PSs.weak pss_never fun D σ H h => by obtain ⟨_, _, _, _, h⟩ := h; exact h⟩
theorem lAsg {σ : St} {H : Hp} {D : Ends} (h : lS X.K W (sAsg d g) D σ H) : L2.tAsg (lE X.K W d) (lG X.K W g) D σ H := by
  obtain ⟨ρ, S, L, sim, h⟩ := h
  refine ⟨ρ, S, L, sim, PostS.ofE sim h fun v S1 ρ1 H1 w _ e1 s1 r1 h1 => ⟨ρ1, S1, L, v, sim.next e1 s1, r1, ?_⟩⟩
  cases q : g v L S1 with
  | ret _ _ => rw [q] at h1; exact h1.elim
  | nx L2 S2 => rw [q] at h1; exact h1
  | exn _ _ _ => rw [q] at h1; exact h1
  | bad => rw [q] at h1; exact h1.elim
theorem ds_asg {tg : Expr} (he : DE X W e d) (hg : DG X W tg g) (hs : swapsWithSole [tg] e pos.line X.env = pure false := by rfl) (hw : swappedStores [tg] e X.env = pure none := by rfl)
    (h1 : (assignEach [tg] X.env).map (·.2) = [assign tg X.env] := by rfl) : DS X W (.Assign [tg] e pos) (sAsg d g) :=
  ⟨PS.weak (ps_asg he.pe hg.pg hs hw h1) fun _ _ _ h => lAsg h⟩
theorem dg_name {i : Nat} {x : Str} (hN : X.N.Nodup) (hi : X.N[i]? = some x) (hx : L2.Loc X.env.scope x) (hf : X.fn x = true ∨ X.env.scope.names.lookup x = some .local := by first | exact .inl rfl | exact .inr rfl | assumption) : DG X W (.Name x pos) (gName i) :=
  dg_good (pg_name hN hi hx hf) (good_name (vs := [i]) i (by simp))
end
end Gx
end
section
set_option Elab.async false
set_option linter.all false
set_option maxHeartbeats 1000000
set_option autoImplicit false
/-! Gx: loops and comprehensions. -/
namespace Gx
open PySem L2
/-- what an iterator of the layer gives: our items, while the cells it leans on stand -/
def Serves (K : PySem.W.Frag) (ρ : Pl) (H : Hp) (src : Src) (J : It) : Prop :=
  ∀ ρ1 H1 S1, ExtB ρ H ρ1 H1 → StOk K ρ1 H1 S1 → src.ok S1 = true →
    (∀ i x, src.items[i]? = some x → J.go i H1 ∧ ∀ w H2, J.yld i H1 w H2 → Ext ρ1 H1 ρ1 H2 ∧ StOk K ρ1 H2 S1 ∧ RV K ρ1 H2 x w ∧ ∀ a o, H1 a = some o → H2 a = some o) ∧ J.stop src.items.length H1
theorem Serves.ext {K : PySem.W.Frag} {ρ ρ1 : Pl} {H H1 : Hp} {src : Src} {J : It} (h : Serves K ρ H src J) (e : Ext ρ H ρ1 H1) : Serves K ρ1 H1 src J := fun ρ2 H2 S2 e2 s2 k => h ρ2 H2 S2 (e.toExtB.trans e2) s2 k
def lI (K : PySem.W.Frag) (W : XW) (d : I) : TI := fun σ H R => ∃ ρ S L, Sim K ρ H L S σ ∧ Post K W (Serves K) ρ H σ (d L S) R
structure DI (X : Cx) (W : XW) (tg iter : Expr) (d : I) : Prop where
  pi : PI X tg iter (lI X.K W d)
theorem PI.weak {X : Cx} {tg e : Expr} {t t' : TI} (h : PI X tg e t) (k : ∀ σ H Q, t' σ H Q → t σ H Q) : PI X tg e t' := ⟨fun pins s σ H Q I q => h.run pins s σ H Q I (k σ H Q q)⟩
section
variable {X : Cx} {W : XW} {c e iter tg : Expr} {body : List Stmt} {di : I} {tc : T} {db : SS} {g : G} {t : TG} {vs : List Nat} {pos : Pos}
theorem ds_for (hp : PassesOwn (model X.prog X.w) X.A X.env X.xe) (hc : X.calm = true) (hi : DI X W tg iter di) (hg : PG X tg t) (gg : GoodG X.K vs g t) (hb : DSs X W body db)
    (hs : ∀ x, foldedSetIterable iter X.env x = pure x := by intro _; rfl) : DS X W (.For tg iter body [] pos) (sFor di g db) := by
  refine ⟨PS.weak (ps_for hp hc hi.pi hg hb.ps hs) fun D σ H h => ?_⟩
  obtain ⟨ρ, S, L, sim, h⟩ := h
  refine ⟨ρ, S, L, sim, PostS.ofE sim h fun src S1 ρ1 H1 J _ e1 s1 sv h1 => ?_⟩
  refine ⟨fun i m σ' H' => m = src.items.length - i ∧ i ≤ src.items.length ∧ ∃ ρ2 L2 S2, Ext ρ1 H1 ρ2 H' ∧ Sim X.K ρ2 H' L2 S2 σ' ∧ PostS X.K W ρ2 H' (forGo src.ok g db (src.items.drop i) L2 S2) D,
    ⟨src.items.length, by simp, Nat.zero_le _, ρ1, L, S1, Ext.refl, sim.next e1 s1, h1⟩, ?_⟩
  rintro i m σ' H' ⟨rfl, hi', ρ2, L2, S2, e2, sim2, h2⟩
  by_cases hlt : i < src.items.length
  · have ed : src.items.drop i = src.items[i] :: src.items.drop (i + 1) := List.drop_eq_getElem_cons hlt
    rw [ed] at h2
    unfold forGo at h2
    split at h2
    · rename_i ok
      obtain ⟨go, yld⟩ := (sv ρ2 H' S2 e2.toExtB sim2.st ok).1 i _ (List.getElem?_eq_getElem hlt)
      refine .inr ⟨go, fun σ3 H3 => ∃ ρ3 L3 S3, Ext ρ1 H1 ρ3 H3 ∧ Sim X.K ρ3 H3 L3 S3 σ3 ∧ PostS X.K W ρ3 H3 (forGo src.ok g db (src.items.drop (i + 1)) L3 S3) D, fun σ3 H3 n => ⟨src.items.length - (i + 1), by omega, rfl, hlt, n⟩, fun w H3 y => ?_⟩
      obtain ⟨e3, s3, r3, _⟩ := yld w H3 y
      have sim3 : Sim X.K ρ2 H3 L2 S2 σ' := sim2.next e3 s3
      have a := gg.run ρ2 H3 L2 S2 σ' _ w sim3 r3
      have h3 := PostS.base h2 e3
      cases q : g src.items[i] L2 S2 with
      | nx L4 S4 =>
        rw [q] at a h3
        simp only [plain_nx, next_nx] at h3
        obtain ⟨rfl, σ4, sim4, _, k4⟩ := a
        refine k4 _ ⟨ρ2, _, L4, sim4, ?_⟩
        refine PostS.weak (PostS.next (N := fun σ5 H5 => ∃ ρ3 L3 S3, Ext ρ1 H1 ρ3 H5 ∧ Sim X.K ρ3 H5 L3 S3 σ5 ∧ PostS X.K W ρ3 H5 (forGo src.ok g db (src.items.drop (i + 1)) L3 S3) D) h3 fun L5 S5 ρ5 H5 σ5 _ e5 sim5 h5 => ⟨ρ5, L5, S5, (e2.trans e3).trans e5, sim5, h5⟩) (fun _ _ z => z) (fun _ _ z => z)
      | bad => rw [q] at h3; exact h3.elim
      | ret _ _ => rw [q] at a; exact a.elim
      | exn _ _ _ => rw [q] at a; exact a.elim
    · exact h2.elim
  · have ei : i = src.items.length := by omega
    subst ei
    rw [List.drop_length] at h2
    unfold forGo at h2
    split at h2
    · rename_i ok
      exact .inl ⟨(sv ρ2 H' S2 e2.toExtB sim2.st ok).2, h2 ρ2 H' σ' Ext.refl sim2⟩
    · exact h2.elim
theorem ds_while (hp : PassesOwn (model X.prog X.w) X.A X.env X.xe) (hc : DT X W c tc) (hb : DSs X W body db) : DS X W (.While c body [] pos) (sWhile tc db) := by
  refine ⟨PS.weak (ps_while hp hc.pt hb.ps) fun D σ H h => ?_⟩
  obtain ⟨ρ, S, L, sim, h⟩ := h
  refine ⟨fun m σ' H' => ∃ ρ2 L2 S2, Sim X.K ρ2 H' L2 S2 σ' ∧ PostS X.K W ρ2 H' (whileN tc db m L2 S2) D, ⟨fuel, ρ, L, S, sim, h⟩, ?_⟩
  rintro m σ' H' ⟨ρ2, L2, S2, sim2, h2⟩
  cases m with
  | zero => exact h2.elim
  | succ m =>
    unfold whileN at h2
    refine ⟨ρ2, S2, L2, sim2, PostS.ofE sim2 h2 fun v S3 ρ3 H3 w _ e3 s3 r3 h3 => ?_⟩
    subst r3
    cases v with
    | true =>
      rw [if_pos rfl]
      refine ⟨fun σ5 H5 => ∃ ρ5 L5 S5, Sim X.K ρ5 H5 L5 S5 σ5 ∧ PostS X.K W ρ5 H5 (whileN tc db m L5 S5) D, fun σ5 H5 n => ⟨m, Nat.lt_succ_self m, n⟩, ρ3, S3, L2, sim2.next e3 s3, ?_⟩
      exact PostS.weak (PostS.next (N := fun σ5 H5 => ∃ ρ5 L5 S5, Sim X.K ρ5 H5 L5 S5 σ5 ∧ PostS X.K W ρ5 H5 (whileN tc db m L5 S5) D) h3 fun L5 S5 ρ5 H5 σ5 _ e5 sim5 h5 => ⟨ρ5, L5, S5, sim5, h5⟩) (fun _ _ z => z) (fun _ _ z => z)
    | false =>
      rw [if_neg (by simp)]
      exact h3 ρ3 H3 σ' Ext.refl (sim2.next e3 s3)

/-! ### comprehensions -/
/-- nothing is raised -/
def W0 : XW := fun _ _ _ _ => False
structure DTs (X : Cx) (W : XW) (es : List Expr) (d : T) : Prop where
  pts : PTs X es (lT X.K W d)
theorem PTs.weak {X : Cx} {e : List Expr} {t t' : TT} (h : PTs X e t) (k : ∀ σ H Q, t' σ H Q → t σ H Q) : PTs X e t' := ⟨fun pins s σ H Q I q => h.run pins s σ H Q I (k σ H Q q)⟩
theorem dts_nil : DTs X W [] tYes := by
  refine ⟨PTs.weak pts_nil fun σ H Q h => ?_⟩
  obtain ⟨ρ, S, L, sim, h⟩ := h
  exact h ρ H true Ext.refl sim.st rfl
theorem dts_one (h : DT X W c tc) : DTs X W [c] tc := ⟨pts_one h.pt⟩
theorem wipeL_get : ∀ {vs : List Nat} {L : Loc} {i : Nat} {v : Val}, (wipeL L vs)[i]? = some (some v) → L[i]? = some (some v) ∧ i ∉ vs
  | [], _, _, _, h => ⟨h, by simp⟩
  | j :: vs, L, i, v, h => by
    obtain ⟨h1, h2⟩ := wipeL_get (vs := vs) (L := L.set j none) h
    by_cases e : i = j
    · subst e
      have hl : i < L.length := by
        have := (List.getElem?_eq_some_iff.mp h1).1
        simpa using this
      rw [List.getElem?_set_self hl] at h1
      cases h1
    · rw [List.getElem?_set_ne (Ne.symm e)] at h1
      exact ⟨h1, by simp [e, h2]⟩
theorem wipeL_length : ∀ (vs : List Nat) (L : Loc), (wipeL L vs).length = L.length
  | [], _ => rfl
  | j :: vs, L => by
    show (wipeL (L.set j none) vs).length = L.length
    rw [wipeL_length vs, List.length_set]
theorem LocOk.wipe {K : PySem.W.Frag} {ρ : Pl} {H : Hp} {L : Loc} {σ : St} (h : LocOk K ρ H L σ) (vs : List Nat) : LocOk K ρ H (wipeL L vs) (L2.wipe σ vs) := by
  refine ⟨by rw [wipeL_length, wipe_length]; exact h.1, fun i v q => ?_⟩
  obtain ⟨q1, q2⟩ := wipeL_get q
  obtain ⟨w, h1, h2⟩ := h.2 i v q1
  exact ⟨w, by rw [wipe_out q2]; exact h1, h2⟩
/-- an object D is being made -/
theorem ext_busy {ρ : Pl} {H : Hp} {D : Addr} {o : HO} (hD : H D = none) : ExtB ρ H ⟨ρ.c, D :: ρ.m⟩ (upd H D o) :=
  ⟨⟨[], by simp⟩, fun a h => by
    rcases List.mem_cons.mp h with z | z
    · exact .inr (z ▸ hD)
    · exact .inl z, fun a u h _ => by rw [upd_ne (ne_of_none h hD)]; exact h, fun _ h => .inl h, fun a h => upd_live h⟩
theorem fz_free {ρ : Pl} {H : Hp} {a : Addr} {u : HO} {m : List Addr} (hm : ∀ a, a ∈ m → a ∈ ρ.m) (h : Fz ρ H a u) : Fz ⟨ρ.c, m⟩ H a u := by
  rcases h with h | ⟨h, h1, h2⟩
  · exact .inl h
  · exact .inr ⟨h, h1, fun z => h2 (hm a z)⟩
theorem fu_made {ρ : Pl} {H : Hp} {D a : Addr} {u : HO} {ws : List V} (hm : D ∈ ρ.m) (h : Fu ρ H a u) : Fu ρ (upd H D (.lst ws)) a u :=
  ⟨by rw [upd_ne (fun z => h.2.2 (by rw [z]; exact hm))]; exact h.1, h.2.1, h.2.2⟩
theorem fz_made {ρ : Pl} {H : Hp} {D a : Addr} {u : HO} {us ws : List V} (hm : D ∈ ρ.m) (hD : H D = some (.lst us)) (h : Fz ρ H a u) : Fz ρ (upd H D (.lst ws)) a u := by
  rcases h with ⟨o, h⟩ | ⟨h, h1, h2⟩
  · exact .inl ⟨o, by rw [upd_ne (ne_of h hD (by intro z; cases z))]; exact h⟩
  · exact .inr ⟨by rw [upd_ne (fun z => h2 (by rw [z]; exact hm))]; exact h, h1, h2⟩
theorem sqt_made {K : PySem.W.Frag} {H : Hp} {D a : Addr} {o : HO} {ws us : List V} (hD : H D = some (.lst us)) (h : SqT K H a ws) : SqT K (upd H D o) a ws := by
  rcases h with (h | ⟨b, h⟩) | h
  · exact .inl (.inl (by rw [upd_ne (ne_of h hD (by intro z; cases z))]; exact h))
  · exact .inl (.inr ⟨b, by rw [upd_ne (ne_of h hD (by intro z; cases z))]; exact h⟩)
  · exact .inr h
mutual
theorem RV.map {K : PySem.W.Frag} {ρ ρ' : Pl} {H H' : Hp} (f : ∀ a u, Fz ρ H a u → Fz ρ' H' a u) (f2 : ∀ a u, Fu ρ H a u → Fu ρ' H' a u) (ft : ∀ a ws, SqT K H a ws → SqT K H' a ws) (fc : ρ'.c = ρ.c) : ∀ {x : Val} {w : V}, RV K ρ H x w → RV K ρ' H' x w
  | .non, _, h => h
  | .bl _, _, h => h
  | .int _, _, h => h
  | .str _, _, h => h
  | .ty _, _, h => h
  | .gl _, _, h => h
  | .tup xs, _, h => by
    unfold RV at h ⊢
    obtain ⟨a, ws, h1, h2, h3⟩ := h
    exact ⟨a, ws, h1, ft _ _ h2, RVs.map f f2 ft fc h3⟩
  | .lst xs, _, h => by
    unfold RV at h ⊢
    obtain ⟨a, ws, h1, h2, h3⟩ := h
    exact ⟨a, ws, h1, f2 _ _ h2, RVs.map f f2 ft fc h3⟩
  | .frz xs, _, h => by
    unfold RV at h ⊢
    obtain ⟨a, ws, h1, h2, h3⟩ := h
    exact ⟨a, ws, h1, h2.imp (f _ _) id, RVs.map f f2 ft fc h3⟩
  | .dct xs, _, h => by
    unfold RV at h ⊢
    obtain ⟨a, ws, h1, h2, h3⟩ := h
    exact ⟨a, ws, h1, f2 _ _ h2, RVK.map f f2 ft fc h3⟩
  | .obj C xs, _, h => by
    unfold RV at h ⊢
    obtain ⟨a, dx, ws, h1, h2, h3⟩ := h
    exact ⟨a, dx, ws, h1, f2 _ _ h2, RVF.map f f2 ft fc h3⟩
  | .ref n, _, h => by
    unfold RV at h ⊢
    rw [fc]; exact h
theorem RVs.map {K : PySem.W.Frag} {ρ ρ' : Pl} {H H' : Hp} (f : ∀ a u, Fz ρ H a u → Fz ρ' H' a u) (f2 : ∀ a u, Fu ρ H a u → Fu ρ' H' a u) (ft : ∀ a ws, SqT K H a ws → SqT K H' a ws) (fc : ρ'.c = ρ.c) : ∀ {x : List Val} {w : List V}, RVs K ρ H x w → RVs K ρ' H' x w
  | [], _, h => h
  | x :: xs, _, h => by
    unfold RVs at h ⊢
    obtain ⟨w, r, h1, h2, h3⟩ := h
    exact ⟨w, r, h1, RV.map f f2 ft fc h2, RVs.map f f2 ft fc h3⟩
theorem RVK.map {K : PySem.W.Frag} {ρ ρ' : Pl} {H H' : Hp} (f : ∀ a u, Fz ρ H a u → Fz ρ' H' a u) (f2 : ∀ a u, Fu ρ H a u → Fu ρ' H' a u) (ft : ∀ a ws, SqT K H a ws → SqT K H' a ws) (fc : ρ'.c = ρ.c) : ∀ {x : List (Key × Val)} {w : List (Key × V)}, RVK K ρ H x w → RVK K ρ' H' x w
  | [], _, h => h
  | (k, x) :: xs, _, h => by
    unfold RVK at h ⊢
    obtain ⟨w, r, h1, h2, h3⟩ := h
    exact ⟨w, r, h1, RV.map f f2 ft fc h2, RVK.map f f2 ft fc h3⟩
theorem RVF.map {K : PySem.W.Frag} {ρ ρ' : Pl} {H H' : Hp} (f : ∀ a u, Fz ρ H a u → Fz ρ' H' a u) (f2 : ∀ a u, Fu ρ H a u → Fu ρ' H' a u) (ft : ∀ a ws, SqT K H a ws → SqT K H' a ws) (fc : ρ'.c = ρ.c) : ∀ {x : List (Str × Val)} {w : List (Str × V)}, RVF K ρ H x w → RVF K ρ' H' x w
  | [], _, h => h
  | (k, x) :: xs, _, h => by
    unfold RVF at h ⊢
    obtain ⟨w, r, h1, h2, h3⟩ := h
    exact ⟨w, r, h1, RV.map f f2 ft fc h2, RVF.map f f2 ft fc h3⟩
end
theorem RC.map {K : PySem.W.Frag} {ρ ρ' : Pl} {H H' : Hp} (f : ∀ a u, Fz ρ H a u → Fz ρ' H' a u) (f2 : ∀ a u, Fu ρ H a u → Fu ρ' H' a u) (ft : ∀ a ws, SqT K H a ws → SqT K H' a ws) (fc : ρ'.c = ρ.c) {a : Addr} (ha : H' a = H a) {c : Cell} (h : RC K ρ H a c) : RC K ρ' H' a c := by
  cases c with
  | lst xs => obtain ⟨ws, h1, h2⟩ := h; exact ⟨ws, ha.trans h1, h2.map f f2 ft fc⟩
  | dct xs => obtain ⟨ws, h1, h2⟩ := h; exact ⟨ws, ha.trans h1, h2.map f f2 ft fc⟩
  | ins C xs => obtain ⟨dx, ws, h1, h2⟩ := h; exact ⟨dx, ws, ha.trans h1, h2.map f f2 ft fc⟩
theorem StOk.map {K : PySem.W.Frag} {ρ ρ' : Pl} {H H' : Hp} {S : Store} (f : ∀ a u, Fz ρ H a u → Fz ρ' H' a u) (f2 : ∀ a u, Fu ρ H a u → Fu ρ' H' a u) (ft : ∀ a ws, SqT K H a ws → SqT K H' a ws) (fc : ρ'.c = ρ.c) (hh : ∀ a, a ∈ ρ.c → H' a = H a) (hb : ∀ a, a ∈ ρ'.m → (∃ o, H' a = some o) ∧ a ∉ ρ'.c) (h : StOk K ρ H S) : StOk K ρ' H' S :=
  ⟨by rw [fc]; exact h.len, by rw [fc]; exact h.nd, hb, fun n c hn => let ⟨a, ha, rc⟩ := h.cell n c hn; ⟨a, by rw [fc]; exact ha, rc.map f f2 ft fc (hh a (List.mem_of_getElem? ha))⟩⟩
/-- what is made is written by the machine: nothing of ours leans on it -/
theorem StOk.made {K : PySem.W.Frag} {ρ : Pl} {H : Hp} {S : Store} {D : Addr} {us ws : List V} (hm : D ∈ ρ.m) (hD : H D = some (.lst us)) (h : StOk K ρ H S) : StOk K ρ (upd H D (.lst ws)) S :=
  h.map (fun _ _ => fz_made hm hD) (fun _ _ => fu_made hm) (fun _ _ => sqt_made hD) rfl (fun a ha => upd_ne fun z => (h.bz D hm).2 (z ▸ ha)) fun a ha => by
    obtain ⟨⟨o, ho⟩, hn⟩ := h.bz a ha
    refine ⟨?_, hn⟩
    by_cases e : a = D
    · subst e; exact ⟨_, upd_same⟩
    · exact ⟨o, by rw [upd_ne e]; exact ho⟩
theorem ext_made {ρ ρ1 : Pl} {H H1 : Hp} {D : Addr} {us ws : List V} (hn : H D = none) (hD : H1 D = some (.lst us)) (e : ExtB ρ H ρ1 H1) : ExtB ρ H ρ1 (upd H1 D (.lst ws)) :=
  ⟨e.pre, e.bus, fun a o h k => by rw [upd_ne (ne_of_none h hn)]; exact e.fix a o h k, e.new, fun a h => e.live a (upd_live h)⟩

/-! ### a comprehension's reading -/
theorem lc_lift {wi : I} {tt : T} {ee : E} {own : List Nat} (gg : GoodG X.K own g t) {σ : St} {H : Hp} {Q : VK} (h : lF X.K W (fComp own wi g tt ee) σ H Q) :
    tLc (lI X.K W wi) t (lT X.K W0 tt) (lE X.K W0 ee) own σ H Q := by
  obtain ⟨ρ, S, L, sim, h⟩ := h
  refine ⟨ρ, S, L, sim, Post.bind (Rel' := RVs X.K) h fun src S1 ρ1 H1 J _ e1 s1 sv h1 => ?_⟩
  intro D hD
  -- the comprehension ends well
  obtain ⟨xs, S9, ee9, hz, h9⟩ : ∃ xs S9, compGo src.ok g tt ee (wipeL L own) src.items S1 = .ok xs S9 ∧ xs.length ≤ sizeLine ∧ Post X.K W (RVs X.K) ρ1 H1 σ (R.ok xs S9) fun ws H1 => ∀ p, H1 p = none → Q (.ref p) (upd H1 p (.lst ws)) := by
    cases q : compGo src.ok g tt ee (wipeL L own) src.items S1 with
    | ok xs S9 =>
      rw [q] at h1
      simp only [calm, R.bind_ok] at h1
      split at h1
      · rename_i hz; exact ⟨xs, S9, rfl, hz, h1⟩
      · exact h1.elim
    | exn _ _ => rw [q] at h1; exact h1.elim
    | bad => rw [q] at h1; exact h1.elim
  have locW := (sim.loc.ext e1).wipe own
  -- the invariant
  refine ⟨fun i m H2 => m = src.items.length - i ∧ i ≤ src.items.length ∧ ∃ ρ2 S2 acc ws rest, ExtB ρ1 H1 ρ2 H2 ∧ ρ2.m = D :: ρ1.m ∧ StOk X.K ρ2 H2 S2 ∧ H2 D = some (.lst ws) ∧ RVs X.K ρ2 H2 acc ws ∧
    compGo src.ok g tt ee (wipeL L own) (src.items.drop i) S2 = .ok rest S9 ∧ xs = acc ++ rest, ⟨src.items.length, by simp, Nat.zero_le _, ⟨ρ1.c, D :: ρ1.m⟩, S1, [], [], xs, ext_busy hD, rfl, ?_, upd_same, .nil, ee9, rfl⟩, ?_⟩
  · have a : StOk X.K ρ1 (upd H1 D (.lst [])) S1 := s1.new hD
    refine ⟨a.len, a.nd, fun b hb => ?_, fun n c hn => ?_⟩
    · rcases List.mem_cons.mp hb with z | z
      · subst z; exact ⟨⟨_, upd_same⟩, s1.fresh hD⟩
      · exact a.bz b z
    · obtain ⟨p, hp, rc⟩ := s1.cell n c hn
      exact ⟨p, hp, RC.map (fun a u q => (ext_busy hD).fz q) (fun a u q => (ext_busy hD).fu q) (fun a ws q => (ext_busy (ρ := ρ1) hD).sqt q) rfl (upd_ne fun z => s1.fresh hD (z ▸ List.mem_of_getElem? hp)) rc⟩
  · rintro i m H2 ⟨rfl, hi, ρ2, S2, acc, ws, rest, e2, m2, s2, hD2, racc, ec, ex⟩
    have hDm : D ∈ ρ2.m := by rw [m2]; exact List.mem_cons_self
    have hDc : D ∉ ρ2.c := (s2.bz D hDm).2
    by_cases hlt : i < src.items.length
    · rw [List.drop_eq_getElem_cons hlt] at ec
      unfold compGo at ec
      split at ec
      · rename_i ok
        obtain ⟨go, yld⟩ := (sv ρ2 H2 S2 e2 s2 ok).1 i _ (List.getElem?_eq_getElem hlt)
        refine .inr ⟨go, fun H5 => ∃ ρ5 S5 acc5 ws5 rest5, ExtB ρ1 H1 ρ5 H5 ∧ ρ5.m = D :: ρ1.m ∧ StOk X.K ρ5 H5 S5 ∧ H5 D = some (.lst ws5) ∧ RVs X.K ρ5 H5 acc5 ws5 ∧
          compGo src.ok g tt ee (wipeL L own) (src.items.drop (i + 1)) S5 = .ok rest5 S9 ∧ xs = acc5 ++ rest5, fun H5 n => ⟨src.items.length - (i + 1), by omega, rfl, hlt, n⟩, fun w H3 y => ?_⟩
        obtain ⟨e3, s3, r3, k3⟩ := yld w H3 y
        have sim3 : Sim X.K ρ2 H3 (wipeL L own) S2 (L2.wipe σ own) := ⟨s3, ⟨locW.1, fun i v q => let ⟨w, a, b⟩ := locW.2 i v q; ⟨w, a, (b.extB e2).ext e3⟩⟩⟩
        have a := gg.run ρ2 H3 (wipeL L own) S2 _ _ w sim3 r3
        cases q : g src.items[i] (wipeL L own) S2 with
        | nx L4 S4 =>
          rw [q] at a ec
          dsimp only at ec
          obtain ⟨rfl, σ4, sim4, wp4, k4⟩ := a
          have ww : ∀ (vs : List Nat) (σ : St), L2.wipe (L2.wipe σ vs) vs = L2.wipe σ vs := by
            intro vs σ
            apply List.ext_getElem?
            intro j
            by_cases hj : j ∈ vs
            · have z : ∀ σ' : St, (L2.wipe σ' vs)[j]? = if j < σ'.length then some none else none := by
                intro σ'
                split
                · rename_i hl
                  cases zz : (L2.wipe σ' vs)[j]? with
                  | none =>
                    have := List.getElem?_eq_none_iff.mp zz
                    rw [wipe_length] at this
                    omega
                  | some o =>
                    cases o with
                    | none => rfl
                    | some v => exact absurd hj (wipe_some zz).2
                · rename_i hl
                  exact List.getElem?_eq_none_iff.mpr (by rw [wipe_length]; omega)
              rw [z, z, wipe_length]
            · rw [wipe_out hj]
          refine k4 _ ⟨wp4.trans (ww own σ), ρ2, _, L4, sim4, ?_⟩
          cases qc : tt L4 S4 with
          | bad => rw [qc] at ec; cases ec
          | exn _ _ => rw [qc] at ec; cases ec
          | ok k S5 =>
            rw [qc] at ec
            simp only [R.bind_ok] at ec
            intro ρ5 H5 k' e5 s5 ek
            subst ek
            have m5 : ρ5.m = D :: ρ1.m := e5.eqm.trans m2
            have e15 : ExtB ρ1 H1 ρ5 H5 := (e2.trans e3.toExtB).trans e5.toExtB
            have hD3 : H3 D = some (.lst ws) := k3 D _ hD2
            have hD5 : H5 D = some (.lst ws) := e5.fix D _ hD3 (.inl hDc)
            have racc5 : RVs X.K ρ5 H5 acc ws := (racc.ext e3).ext e5
            cases k with
            | true =>
              rw [if_pos rfl] at ec ⊢
              refine ⟨ρ5, S5, L4, sim4.next e5 s5, ?_⟩
              cases qe : ee L4 S5 with
              | bad => rw [qe] at ec; cases ec
              | exn _ _ => rw [qe] at ec; cases ec
              | ok v S6 =>
                rw [qe] at ec
                simp only [R.bind_ok] at ec
                cases qr : compGo src.ok g tt ee (wipeL L own) (src.items.drop (i + 1)) S6 with
                | bad => rw [qr] at ec; cases ec
                | exn _ _ => rw [qr] at ec; cases ec
                | ok r S7 =>
                  rw [qr] at ec
                  simp only [R.bind_ok, R.ok.injEq] at ec
                  obtain ⟨rfl, rfl⟩ := ec
                  intro ρ6 H6 w6 e6 s6 r6
                  have m6 : ρ6.m = D :: ρ1.m := e6.eqm.trans m5
                  have hD5c : D ∉ ρ5.c := (s5.bz D (by rw [m5]; exact List.mem_cons_self)).2
                  have hD6 : H6 D = some (.lst ws) := e6.fix D _ hD5 (.inl hD5c)
                  have hDm6 : D ∈ ρ6.m := by rw [m6]; exact List.mem_cons_self
                  have racc6 := racc5.ext e6
                  refine ⟨ws, hD6, ?_, ρ6, S6, acc ++ [v], ws ++ [w6], r, ext_made hD hD6 (e15.trans e6.toExtB), m6, s6.made hDm6 hD6, upd_same, ?_, qr, by rw [ex]; simp⟩
                  · have l1 := racc.length
                    have l2 : xs.length = acc.length + (r.length + 1) := by rw [ex]; simp
                    omega
                  · exact (racc6.append (.cons r6 .nil)).map (fun _ _ => fz_made hDm6 hD6) (fun _ _ => fu_made hDm6) (fun _ _ => sqt_made hD6) rfl
            | false =>
              rw [if_neg (by simp)] at ec ⊢
              exact ⟨ρ5, S5, acc, ws, rest, e15, m5, s5, hD5, racc5, ec, ex⟩
        | bad => rw [q] at ec; cases ec
        | ret _ _ => rw [q] at a; exact a.elim
        | exn _ _ _ => rw [q] at a; exact a.elim
      · cases ec
    · have ei : i = src.items.length := by omega
      subst ei
      rw [List.drop_length] at ec
      unfold compGo at ec
      split at ec
      · rename_i ok
        simp only [R.ok.injEq] at ec
        obtain ⟨rfl, rfl⟩ := ec
        refine .inl ⟨(sv ρ2 H2 S2 e2 s2 ok).2, ?_⟩
        -- the end: what was made at D is let go as a new list
        have eH : (upd (fun a => if a = D then none else H2 a) D (.lst ws)) = H2 := by
          funext a
          by_cases ea : a = D
          · rw [ea, upd_same, hD2]
          · rw [upd_ne ea]; exact if_neg ea
        have fz : ∀ a u, Fz ρ2 H2 a u → Fz ⟨ρ2.c, ρ1.m⟩ (fun a => if a = D then none else H2 a) a u := fun a u q => by
          rcases q with ⟨o, q⟩ | ⟨q, q1, q2⟩
          · exact .inl ⟨o, (if_neg (ne_of q hD2 (by intro z; cases z))).trans q⟩
          · exact .inr ⟨(if_neg fun z => q2 (by rw [z]; exact hDm)).trans q, q1, fun z => q2 (by rw [m2]; exact List.mem_cons_of_mem _ z)⟩
        have fu : ∀ a u, Fu ρ2 H2 a u → Fu ⟨ρ2.c, ρ1.m⟩ (fun a => if a = D then none else H2 a) a u := fun a u ⟨q, q1, q2⟩ =>
          ⟨(if_neg fun z => q2 (by rw [z]; exact hDm)).trans q, q1, fun z => q2 (by rw [m2]; exact List.mem_cons_of_mem _ z)⟩
        have sq : ∀ a us, SqT X.K H2 a us → SqT X.K (fun a => if a = D then none else H2 a) a us := fun a us q => by
          rcases q with (q | ⟨b, q⟩) | q
          · exact .inl (.inl ((if_neg (ne_of q hD2 (by intro z; cases z))).trans q))
          · exact .inl (.inr ⟨b, (if_neg (ne_of q hD2 (by intro z; cases z))).trans q⟩)
          · exact .inr q
        have ne1 : ∀ a o, H1 a = some o → a ≠ D := fun a o q => ne_of_none q hD
        have z := h9 ⟨ρ2.c, ρ1.m⟩ (fun a => if a = D then none else H2 a) ws (.mk' e2.pre rfl (fun a o q k => (if_neg (ne1 a o q)).trans (e2.fix a o q k)) e2.new fun a q => ?_)
          (s2.map fz fu sq rfl (fun a ha => if_neg fun (z : a = D) => hDc (by rw [← z]; exact ha)) fun a ha => ?_) ?_ D (if_pos rfl)
        · rw [eH] at z; exact z
        · by_cases ea : a = D
          · rw [ea]; exact hD
          · rw [if_neg ea] at q; exact e2.live a q
        · obtain ⟨⟨o, ho⟩, hn⟩ := s2.bz a (by rw [m2]; exact List.mem_cons_of_mem _ ha)
          obtain ⟨⟨o1, ho1⟩, _⟩ := s1.bz a ha
          exact ⟨⟨o, (if_neg (ne1 a o1 ho1)).trans ho⟩, hn⟩
        · rw [ex, List.append_nil]
          exact racc.map fz fu sq rfl
      · cases ec
end
/-- a list comprehension -/
theorem df_comp {X : Cx} {W : XW} {elt tg iter : Expr} {ifs : List Expr} {scope : Scope} {own : List (Str × Nat)} {pos : Pos} {wi : I} {g : G} {t : TG} {tt : T} {ee : E} (hc : X.calm = true) (hN : X.N.Nodup) (hi : DI X W tg iter wi) (ok : BlkOk X.N X.env.scope scope own)
    (hg : ∀ (s : Shared) (H : Hp) (C : Addr) (cl : List (Str × Addr)) (fp : List Addr), PG (X.blk s H scope (compEnvC scope cl C X.env) fp) tg t) (gg : GoodG X.K (own.map (·.2)) g t)
    (ht : ∀ (s : Shared) (H : Hp) (C : Addr) (cl : List (Str × Addr)) (fp : List Addr), DTs (X.blk s H scope (compEnvC scope cl C X.env) fp) W0 ifs tt)
    (he : ∀ (s : Shared) (H : Hp) (C : Addr) (cl : List (Str × Addr)) (fp : List Addr), DE (X.blk s H scope (compEnvC scope cl C X.env) fp) W0 elt ee) (hs : ∀ x, foldedSetIterable iter X.env x = pure x := by intro _; rfl) :
    DF X W (.ListComp elt [⟨tg, iter, ifs, 0⟩] scope pos) (fComp (own.map (·.2)) wi g tt ee) :=
  ⟨PE.weak (pe_lc (te := lE X.K W0 ee) (tt := lT X.K W0 tt) hc hN hi.pi ok hg (fun s H C cl fp => (ht s H C cl fp).pts) (fun s H C cl fp => (he s H C cl fp).pe) hs) fun _ _ _ h => lc_lift gg h⟩
/-- name = [..] -/
theorem ds_setLc {X : Cx} {W : XW} {i : Nat} {y : Str} {py : Pos} {elt tg iter : Expr} {ifs : List Expr} {scope : Scope} {own : List (Str × Nat)} {pos spos : Pos} {wi : I} {g : G} {t : TG} {tt : T} {ee : E} (hc : X.calm = true) (hN : X.N.Nodup) (hy : X.N[i]? = some y) (hyl : X.env.scope.names.lookup y = some .local)
    (hsw : swapsWith (.ListComp elt [⟨tg, iter, ifs, 0⟩] scope pos) (some (.Name y py)) spos.line X.env = pure true) (hi : DI X W tg iter wi) (ok : BlkOk X.N X.env.scope scope own)
    (hg : ∀ (s : Shared) (H : Hp) (C : Addr) (cl : List (Str × Addr)) (fp : List Addr), PG (X.blk s H scope (compEnvC scope cl C X.env) fp) tg t) (gg : GoodG X.K (own.map (·.2)) g t)
    (ht : ∀ (s : Shared) (H : Hp) (C : Addr) (cl : List (Str × Addr)) (fp : List Addr), DTs (X.blk s H scope (compEnvC scope cl C X.env) fp) W0 ifs tt)
    (he : ∀ (s : Shared) (H : Hp) (C : Addr) (cl : List (Str × Addr)) (fp : List Addr), DE (X.blk s H scope (compEnvC scope cl C X.env) fp) W0 elt ee) (k : Bool) (hs : ∀ x, foldedSetIterable iter X.env x = pure x := by intro _; rfl) :
    DS X W (.Assign [.Name y py] (.ListComp elt [⟨tg, iter, ifs, 0⟩] scope pos) spos) (sAsg ((if k then eMk else eFr) (fComp (own.map (·.2)) wi g tt ee)) (gName i)) := by
  refine ⟨PS.weak (ps_setLc (te := lE X.K W0 ee) (tt := lT X.K W0 tt) hc hN hy hyl hsw hi.pi ok hg (fun s H C cl fp => (ht s H C cl fp).pts) (fun s H C cl fp => (he s H C cl fp).pe) hs) fun D σ H h => ?_⟩
  refine lc_lift gg ?_
  have fin : ∀ d : E, lS X.K W (sAsg d (gName i)) D σ H → lE X.K W d σ H fun x H1 => L2.gName i x σ H1 D.nx := fun d h => by
    obtain ⟨ρ, S, L, sim, h⟩ := h
    refine ⟨ρ, S, L, sim, PostS.ofE sim h fun v S1 ρ1 H1 w _ e1 s1 r1 h1 => ?_⟩
    exact h1 ρ1 H1 _ Ext.refl ⟨s1, (sim.loc.ext e1).set i r1⟩
  cases k with
  | true => exact lF_of_mk (fin _ (by simpa using h))
  | false => exact lF_of_fr (fin _ (by simpa using h))
end Gx
end
section
set_option Elab.async false
set_option linter.all false
set_option maxHeartbeats 1000000
set_option autoImplicit false
/-! Gx: what is walked. -/
namespace Gx
open PySem L2
section
variable {X : Cx} {W : XW} {c e a b iter tg : Expr} {d da db : E} {pos p : Pos}
/-! ### lists and tuples -/
theorem it_read {K : PySem.W.Frag} {ρ : Pl} {H : Hp} {S : Store} {v : Val} {w : V} {src : Src} (st : StOk K ρ H S) (r : RV K ρ H v w) (h : itOf S v = some src) :
    ∃ p k, w = .ref p ∧ seqOf S v = some (k, src.items) ∧ ∀ ρ1 H1 S1, ExtB ρ H ρ1 H1 → StOk K ρ1 H1 S1 → src.ok S1 = true → ∃ ws, RVs K ρ1 H1 src.items ws ∧ (if k then SqL K H1 p ws else SqT K H1 p ws) := by
  cases v with
  | tup xs =>
    simp only [itOf, Option.some.injEq] at h
    subst h
    obtain ⟨p, ws, rfl, h1, h2⟩ := r.tup_inv
    exact ⟨p, false, rfl, rfl, fun ρ1 H1 S1 e s k => ⟨ws, h2.extB e, by simpa using e.sqt h1⟩⟩
  | lst xs =>
    simp only [itOf, Option.some.injEq] at h
    subst h
    obtain ⟨p, ws, rfl, h1, h2⟩ := r.lst_inv
    exact ⟨p, true, rfl, rfl, fun ρ1 H1 S1 e s k => ⟨ws, h2.extB e, by simpa using (e.fu h1).sqL⟩⟩
  | frz xs =>
    simp only [itOf, Option.some.injEq] at h
    subst h
    obtain ⟨p, ws, rfl, h1, h2⟩ := r.frz_inv
    exact ⟨p, true, rfl, rfl, fun ρ1 H1 S1 e s k => ⟨ws, h2.extB e, by simpa using (show FzL K ρ1 H1 p ws from h1.imp e.fz id).sqL⟩⟩
  | ref n =>
    simp only [itOf] at h
    obtain ⟨p, hp, rfl⟩ := r.ref_inv
    cases q : S[n]? with
    | none => rw [q] at h; cases h
    | some cl =>
      rw [q] at h
      cases cl with
      | lst xs =>
        simp only [Option.some.injEq] at h
        subst h
        refine ⟨p, true, rfl, by simp [seqOf, q], fun ρ1 H1 S1 e s k => ?_⟩
        have k1 : S1[n]? = some (.lst xs) := by simpa [Src.ok] using k
        obtain ⟨p', hp', rc⟩ := s.cell n _ k1
        rw [e.at hp] at hp'; cases hp'
        obtain ⟨ws, h1, h2⟩ := rc
        exact ⟨ws, h2, by simpa using SqL.of h1⟩
      | dct _ => cases h
      | ins _ _ => cases h
  | _ => simp [itOf] at h
/-- a list or a tuple at p -/
def ItA (K : PySem.W.Frag) (p : Addr) (k : Bool) : It := if k then Itl K p else Itt K p
theorem serves_seq {K : PySem.W.Frag} {ρ : Pl} {H : Hp} {p : Addr} {k : Bool} {src : Src} (h : ∀ ρ1 H1 S1, ExtB ρ H ρ1 H1 → StOk K ρ1 H1 S1 → src.ok S1 = true → ∃ ws, RVs K ρ1 H1 src.items ws ∧ (if k then SqL K H1 p ws else SqT K H1 p ws)) :
    Serves K ρ H src (ItA K p k) := by
  intro ρ1 H1 S1 e s ok
  obtain ⟨ws, r, q⟩ := h ρ1 H1 S1 e s ok
  cases k with
  | true =>
    have q : SqL K H1 p ws := by simpa using q
    refine ⟨fun i x hx => ?_, ?_⟩
    · obtain ⟨w, hw, rw'⟩ := r.get hx
      refine ⟨⟨ws, w, q, hw⟩, fun u H2 y => ?_⟩
      obtain ⟨rfl, y⟩ := y
      have e1 := y ws q
      rw [hw] at e1; cases e1
      exact ⟨Ext.refl, s, rw', fun _ _ z => z⟩
    · exact ⟨ws, q, by rw [r.length]; exact Nat.le_refl _⟩
  | false =>
    have q : SqT K H1 p ws := by simpa using q
    refine ⟨fun i x hx => ?_, ?_⟩
    · obtain ⟨w, hw, rw'⟩ := r.get hx
      refine ⟨⟨ws, w, q, hw⟩, fun u H2 y => ?_⟩
      obtain ⟨rfl, y⟩ := y
      have e1 := y ws q
      rw [hw] at e1; cases e1
      exact ⟨Ext.refl, s, rw', fun _ _ z => z⟩
    · exact ⟨ws, q, by rw [r.length]; exact Nat.le_refl _⟩
theorem PI.or {e : Expr} {t1 t2 : TI} (h1 : PI X tg e t1) (h2 : PI X tg e t2) : PI X tg e (fun σ H R => t1 σ H R ∨ t2 σ H R) :=
  ⟨fun pins s σ H R I h => h.elim (h1.run pins s σ H R I) (h2.run pins s σ H R I)⟩
theorem di_val (h : DE X W e d) : DI X W tg e (iVal d) := by
  refine ⟨PI.weak (PI.or (pi_list h.pe) (pi_tup h.pe)) fun σ H RR q => ?_⟩
  obtain ⟨ρ, S, L, sim, q⟩ := q
  unfold iVal at q
  cases qd : d L S with
  | bad => rw [qd] at q; exact q.elim
  | exn x S1 => rw [qd] at q; exact .inl ⟨ρ, S, L, sim, by rw [qd]; exact q⟩
  | ok v S1 =>
    rw [qd] at q
    simp only [R.bind_ok] at q
    cases qi : itOf S1 v with
    | none => rw [qi] at q; exact q.elim
    | some src =>
      rw [qi] at q
      by_cases hk : ∃ xs, v = .tup xs
      · right
        refine ⟨ρ, S, L, sim, ?_⟩
        rw [qd]
        intro ρ1 H1 w e1 s1 r1
        obtain ⟨p, k, rfl, sq, g⟩ := it_read s1 r1 qi
        obtain ⟨xs, rfl⟩ := hk
        simp only [seqOf, Option.some.injEq, Prod.mk.injEq] at sq
        obtain ⟨rfl, _⟩ := sq
        have ok1 : src.ok S1 = true := by simp only [itOf, Option.some.injEq] at qi; subst qi; rfl
        obtain ⟨ws, _, hq⟩ := g ρ1 H1 S1 Ext.refl.toExtB s1 ok1
        exact ⟨p, rfl, ⟨ws, by simpa using hq⟩, q ρ1 H1 _ e1 s1 (serves_seq g)⟩
      · left
        refine ⟨ρ, S, L, sim, ?_⟩
        rw [qd]
        intro ρ1 H1 w e1 s1 r1
        obtain ⟨p, k, rfl, sq, g⟩ := it_read s1 r1 qi
        have ek : k = true := by
          cases v with
          | tup xs => exact absurd ⟨xs, rfl⟩ hk
          | lst xs => simp only [seqOf, Option.some.injEq, Prod.mk.injEq] at sq; exact sq.1.symm
          | frz xs => simp only [seqOf, Option.some.injEq, Prod.mk.injEq] at sq; exact sq.1.symm
          | ref n =>
            simp only [seqOf] at sq
            split at sq
            · simp only [Option.some.injEq, Prod.mk.injEq] at sq; exact sq.1.symm
            · cases sq
          | _ => simp [seqOf] at sq
        subst ek
        have ok1 : src.ok S1 = true := by
          cases v with
          | lst xs => simp only [itOf, Option.some.injEq] at qi; subst qi; rfl
          | frz xs => simp only [itOf, Option.some.injEq] at qi; subst qi; rfl
          | ref n =>
            simp only [itOf] at qi
            split at qi
            · rename_i xs q2
              simp only [Option.some.injEq] at qi
              subst qi
              simp [Src.ok, q2]
            · cases qi
          | tup xs => exact absurd ⟨xs, rfl⟩ hk
          | _ => simp [itOf] at qi
        obtain ⟨ws, _, hq⟩ := g ρ1 H1 S1 Ext.refl.toExtB s1 ok1
        exact ⟨p, rfl, ⟨ws, by simpa using hq⟩, q ρ1 H1 _ e1 s1 (serves_seq g)⟩
/-- a new list, walked -/
theorem di_new {aa : A} (h : DF X W e aa) : DI X W tg e (fun L S => (aa L S).bind fun xs S1 => .ok ⟨[], xs⟩ S1) := by
  refine ⟨PI.weak (pi_list h.pe) fun σ H RR q => ?_⟩
  obtain ⟨ρ, S, L, sim, q⟩ := q
  refine ⟨ρ, S, L, sim, Post.bind (Rel' := Serves X.K) q fun xs S1 ρ1 H1 ws _ e1 s1 r1 h1 => ?_⟩
  intro p hp
  refine ⟨p, rfl, ⟨ws, .of upd_same⟩, h1 ρ1 _ _ (ext_new hp) (s1.new hp) ?_⟩
  refine serves_seq (k := true) fun ρ2 H2 S2 e2 s2 _ => ⟨ws, (r1.ext (ext_new hp)).extB e2, ?_⟩
  have : Fu ρ1 (upd H1 p (.lst ws)) p (.lst ws) := ⟨upd_same, s1.fresh hp, fun z => ne_of_none (s1.bz p z).1.choose_spec hp rfl⟩
  simpa using (e2.fu this).sqL
/-! ### texts -/
theorem di_str (h : DE X W e d) : DI X W tg e (iStr d) := by
  refine ⟨PI.weak (pi_str h.pe) fun σ H RR q => ?_⟩
  obtain ⟨ρ, S, L, sim, q⟩ := q
  refine ⟨ρ, S, L, sim, Post.bind (Rel' := Serves X.K) q fun v S1 ρ1 H1 w _ e1 s1 r1 h1 => ?_⟩
  cases v with
  | str z =>
    refine ⟨z, r1.str_inv, h1 ρ1 H1 _ Ext.refl s1 ?_⟩
    intro ρ2 H2 S2 e2 s2 _
    have hl : (z.cps.toList.map fun c => Val.str ⟨#[c]⟩).length = z.cps.size := by simp
    refine ⟨fun i x hx => ?_, by rw [hl]; exact walk_str.stops _ True.intro⟩
    have hi : i < z.cps.size := by
      have := (List.getElem?_eq_some_iff.mp hx).1
      rw [hl] at this
      exact this
    refine ⟨walk_str.goes i H2 hi True.intro, fun u H3 y => ?_⟩
    obtain ⟨rfl, c, hc, rfl⟩ := walk_str.yields i H2 u H3 hi True.intro y
    refine ⟨Ext.refl, s2, ?_, fun _ _ z => z⟩
    rw [List.getElem?_map] at hx
    have : z.cps.toList[i]? = some c := by simpa using hc
    rw [this] at hx
    simp only [Option.map_some, Option.some.injEq] at hx
    subst hx
    exact .mk_str _
  | _ => exact h1.elim
/-! ### ranges -/
theorem range_serves {K : PySem.W.Frag} {ρ : Pl} {H : Hp} (a : Int) (n : Nat) : Serves K ρ H ⟨[], rangeV a n⟩ (Itr a n) := by
  intro ρ2 H2 S2 e2 s2 _
  have hl : (rangeV a n).length = n := by simp [rangeV]
  refine ⟨fun i x hx => ?_, by show (Itr a n).stop (rangeV a n).length H2; rw [hl]; exact Nat.le_refl n⟩
  have hi : i < n := by
    have := (List.getElem?_eq_some_iff.mp hx).1
    rw [hl] at this
    exact this
  refine ⟨hi, fun u H3 y => ?_⟩
  obtain ⟨rfl, rfl⟩ := y
  refine ⟨Ext.refl, s2, ?_, fun _ _ z => z⟩
  have hx : (rangeV a n)[i]? = some x := hx
  unfold rangeV at hx
  rw [List.getElem?_map, List.getElem?_range hi] at hx
  simp only [Option.map_some, Option.some.injEq] at hx
  subst hx
  exact .mk_int _
theorem di_range1 (hg : Gl X "range") (hm : X.mg "range" = none) (ha : DE X W a da) (hs : starEach [a] X.env = [(false, eval a X.env)] := by rfl) : DI X W tg (.Call (.Name "range" p) [a] [] pos) (iRange1 da) := by
  refine ⟨PI.weak (pi_range1 hg hm (pa_cons ha.pe pa_nil hs) hs) fun σ H RR q => ?_⟩
  obtain ⟨ρ, S, L, sim, q⟩ := q
  refine ⟨ρ, S, L, sim, Post.bind (Rel' := Serves X.K) q fun v S1 ρ1 H1 w _ e1 s1 r1 h1 => ?_⟩
  cases v with
  | int j =>
    dsimp only at h1
    split at h1
    · rename_i hb
      exact ⟨j, by rw [r1.int_inv], hb.1, hb.2, h1 ρ1 H1 _ Ext.refl s1 (range_serves 0 _)⟩
    · exact h1.elim
  | _ => exact h1.elim
theorem di_range2 (hg : Gl X "range") (hm : X.mg "range" = none) (ha : DE X W a da) (hb : DE X W b db) (hs : starEach [a, b] X.env = [(false, eval a X.env), (false, eval b X.env)] := by rfl) (hs2 : starEach [b] X.env = [(false, eval b X.env)] := by rfl) :
    DI X W tg (.Call (.Name "range" p) [a, b] [] pos) (iRange2 da db) := by
  refine ⟨PI.weak (pi_range2 hg hm (pa_cons ha.pe (pa_cons hb.pe pa_nil hs2) (by rw [hs, hs2])) hs hs2) fun σ H RR q => ?_⟩
  obtain ⟨ρ, S, L, sim, q⟩ := q
  refine two sim q fun x y S2 ρ2 H2 wx wy e2 s2 rx ry h2 => ?_
  cases x with
  | int i =>
    cases y with
    | int j =>
      dsimp only at h2
      split at h2
      · rename_i hb
        exact ⟨i, j, by rw [rx.int_inv, ry.int_inv], hb, h2 ρ2 H2 _ Ext.refl s2 (range_serves i _)⟩
      · exact h2.elim
    | _ => exact h2.elim
  | _ => exact h2.elim
end
end Gx
end
section
set_option Elab.async false
set_option linter.all false
set_option maxHeartbeats 1000000
set_option autoImplicit false
/-! Gx: what a call leaves, defs and their promises, calls. -/
namespace Gx
open PySem L2

/-! ### cells that are let go -/
section
variable {K : PySem.W.Frag} {ρ ρ' : Pl} {H' : Hp}
mutual
theorem RV.fz {r : Nat → Option Val} (fz : ∀ a u, Fz ρ' H' a u → Fz ρ H' a u) (fu : ∀ a u, Fu ρ' H' a u → Fu ρ H' a u) (hr : ∀ m u a, r m = some u → ρ'.c[m]? = some a → RV K ρ H' u (.ref a)) : ∀ {x y : Val} {w : V}, RV K ρ' H' x w → fzV r x = some y → RV K ρ H' y w
  | .non, y, w, h, e => by simp only [fzV, Option.some.injEq] at e; subst e; exact h
  | .bl _, y, w, h, e => by simp only [fzV, Option.some.injEq] at e; subst e; exact h
  | .int _, y, w, h, e => by simp only [fzV, Option.some.injEq] at e; subst e; exact h
  | .str _, y, w, h, e => by simp only [fzV, Option.some.injEq] at e; subst e; exact h
  | .ty _, y, w, h, e => by simp only [fzV, Option.some.injEq] at e; subst e; exact h
  | .gl _, y, w, h, e => by simp only [fzV, Option.some.injEq] at e; subst e; exact h
  | .tup xs, y, w, h, e => by
    simp only [fzV, Option.map_eq_some_iff] at e
    obtain ⟨ys, e1, rfl⟩ := e
    unfold RV at h ⊢
    obtain ⟨a, ws, h1, h2, h3⟩ := h
    exact ⟨a, ws, h1, h2, RVs.fz fz fu hr h3 e1⟩
  | .lst xs, y, w, h, e => by
    simp only [fzV, Option.map_eq_some_iff] at e
    obtain ⟨ys, e1, rfl⟩ := e
    unfold RV at h ⊢
    obtain ⟨a, ws, h1, h2, h3⟩ := h
    exact ⟨a, ws, h1, fu _ _ h2, RVs.fz fz fu hr h3 e1⟩
  | .frz xs, y, w, h, e => by
    simp only [fzV, Option.map_eq_some_iff] at e
    obtain ⟨ys, e1, rfl⟩ := e
    unfold RV at h ⊢
    obtain ⟨a, ws, h1, h2, h3⟩ := h
    exact ⟨a, ws, h1, h2.imp (fz _ _) id, RVs.fz fz fu hr h3 e1⟩
  | .dct xs, y, w, h, e => by
    simp only [fzV, Option.map_eq_some_iff] at e
    obtain ⟨ys, e1, rfl⟩ := e
    unfold RV at h ⊢
    obtain ⟨a, ws, h1, h2, h3⟩ := h
    exact ⟨a, ws, h1, fu _ _ h2, RVK.fz fz fu hr h3 e1⟩
  | .obj C xs, y, w, h, e => by
    simp only [fzV, Option.map_eq_some_iff] at e
    obtain ⟨ys, e1, rfl⟩ := e
    unfold RV at h ⊢
    obtain ⟨a, dx, ws, h1, h2, h3⟩ := h
    exact ⟨a, dx, ws, h1, fu _ _ h2, RVF.fz fz fu hr h3 e1⟩
  | .ref n, y, w, h, e => by
    simp only [fzV] at e
    obtain ⟨a, h1, rfl⟩ := h.ref_inv
    exact hr n y a e h1
theorem RVs.fz {r : Nat → Option Val} (fz : ∀ a u, Fz ρ' H' a u → Fz ρ H' a u) (fu : ∀ a u, Fu ρ' H' a u → Fu ρ H' a u) (hr : ∀ m u a, r m = some u → ρ'.c[m]? = some a → RV K ρ H' u (.ref a)) : ∀ {x y : List Val} {w : List V}, RVs K ρ' H' x w → fzVs r x = some y → RVs K ρ H' y w
  | [], y, w, h, e => by simp only [fzVs, Option.some.injEq] at e; subst e; rw [RVs.nil_iff.mp h]; exact .nil
  | x :: xs, y, w, h, e => by
    simp only [fzVs, Option.bind_eq_some_iff, Option.map_eq_some_iff] at e
    obtain ⟨y1, e1, ys, e2, rfl⟩ := e
    obtain ⟨u, s, rfl, h1, h2⟩ := h.inv
    exact .cons (RV.fz fz fu hr h1 e1) (RVs.fz fz fu hr h2 e2)
theorem RVK.fz {r : Nat → Option Val} (fz : ∀ a u, Fz ρ' H' a u → Fz ρ H' a u) (fu : ∀ a u, Fu ρ' H' a u → Fu ρ H' a u) (hr : ∀ m u a, r m = some u → ρ'.c[m]? = some a → RV K ρ H' u (.ref a)) : ∀ {x y : List (Key × Val)} {w : List (Key × V)}, RVK K ρ' H' x w → fzVK r x = some y → RVK K ρ H' y w
  | [], y, w, h, e => by simp only [fzVK, Option.some.injEq] at e; subst e; exact h
  | (k, x) :: xs, y, w, h, e => by
    simp only [fzVK, Option.bind_eq_some_iff, Option.map_eq_some_iff] at e
    obtain ⟨y1, e1, ys, e2, rfl⟩ := e
    unfold RVK at h ⊢
    obtain ⟨u, s, rfl, h1, h2⟩ := h
    exact ⟨u, s, rfl, RV.fz fz fu hr h1 e1, RVK.fz fz fu hr h2 e2⟩
theorem RVF.fz {r : Nat → Option Val} (fz : ∀ a u, Fz ρ' H' a u → Fz ρ H' a u) (fu : ∀ a u, Fu ρ' H' a u → Fu ρ H' a u) (hr : ∀ m u a, r m = some u → ρ'.c[m]? = some a → RV K ρ H' u (.ref a)) : ∀ {x y : List (Str × Val)} {w : List (Str × V)}, RVF K ρ' H' x w → fzVF r x = some y → RVF K ρ H' y w
  | [], y, w, h, e => by simp only [fzVF, Option.some.injEq] at e; subst e; exact h
  | (k, x) :: xs, y, w, h, e => by
    simp only [fzVF, Option.bind_eq_some_iff, Option.map_eq_some_iff] at e
    obtain ⟨y1, e1, ys, e2, rfl⟩ := e
    unfold RVF at h ⊢
    obtain ⟨u, s, rfl, h1, h2⟩ := h
    exact ⟨u, s, rfl, RV.fz fz fu hr h1 e1, RVF.fz fz fu hr h2 e2⟩
end
/-! values whose cells lie below n are what they are -/
mutual
theorem fz_id {n : Nat} : ∀ {x y : Val}, fzV (belowR n) x = some y → y = x
  | .non, y, e => by simp only [fzV, Option.some.injEq] at e; exact e.symm
  | .bl _, y, e => by simp only [fzV, Option.some.injEq] at e; exact e.symm
  | .int _, y, e => by simp only [fzV, Option.some.injEq] at e; exact e.symm
  | .str _, y, e => by simp only [fzV, Option.some.injEq] at e; exact e.symm
  | .ty _, y, e => by simp only [fzV, Option.some.injEq] at e; exact e.symm
  | .gl _, y, e => by simp only [fzV, Option.some.injEq] at e; exact e.symm
  | .tup xs, y, e => by simp only [fzV, Option.map_eq_some_iff] at e; obtain ⟨ys, e1, rfl⟩ := e; rw [fzs_id e1]
  | .lst xs, y, e => by simp only [fzV, Option.map_eq_some_iff] at e; obtain ⟨ys, e1, rfl⟩ := e; rw [fzs_id e1]
  | .frz xs, y, e => by simp only [fzV, Option.map_eq_some_iff] at e; obtain ⟨ys, e1, rfl⟩ := e; rw [fzs_id e1]
  | .dct xs, y, e => by simp only [fzV, Option.map_eq_some_iff] at e; obtain ⟨ys, e1, rfl⟩ := e; rw [fzK_id e1]
  | .obj C xs, y, e => by simp only [fzV, Option.map_eq_some_iff] at e; obtain ⟨ys, e1, rfl⟩ := e; rw [fzF_id e1]
  | .ref m, y, e => by
    simp only [fzV, belowR] at e
    split at e
    · cases e; rfl
    · cases e
theorem fzs_id {n : Nat} : ∀ {x y : List Val}, fzVs (belowR n) x = some y → y = x
  | [], y, e => by simp only [fzVs, Option.some.injEq] at e; exact e.symm
  | x :: xs, y, e => by
    simp only [fzVs, Option.bind_eq_some_iff, Option.map_eq_some_iff] at e
    obtain ⟨y1, e1, ys, e2, rfl⟩ := e
    rw [fz_id e1, fzs_id e2]
theorem fzK_id {n : Nat} : ∀ {x y : List (Key × Val)}, fzVK (belowR n) x = some y → y = x
  | [], y, e => by simp only [fzVK, Option.some.injEq] at e; exact e.symm
  | (k, x) :: xs, y, e => by
    simp only [fzVK, Option.bind_eq_some_iff, Option.map_eq_some_iff] at e
    obtain ⟨y1, e1, ys, e2, rfl⟩ := e
    rw [fz_id e1, fzK_id e2]
theorem fzF_id {n : Nat} : ∀ {x y : List (Str × Val)}, fzVF (belowR n) x = some y → y = x
  | [], y, e => by simp only [fzVF, Option.some.injEq] at e; exact e.symm
  | (k, x) :: xs, y, e => by
    simp only [fzVF, Option.bind_eq_some_iff, Option.map_eq_some_iff] at e
    obtain ⟨y1, e1, ys, e2, rfl⟩ := e
    rw [fz_id e1, fzF_id e2]
end
mutual
theorem RV.below {ρ : Pl} {H : Hp} {n : Nat} (hn : ρ.c.length = n) : ∀ {x : Val} {w : V}, RV K ρ H x w → fzV (belowR n) x = some x
  | .non, w, h => rfl
  | .bl _, w, h => rfl
  | .int _, w, h => rfl
  | .str _, w, h => rfl
  | .ty _, w, h => rfl
  | .gl _, w, h => rfl
  | .tup xs, w, h => by unfold RV at h; obtain ⟨a, ws, _, _, h3⟩ := h; simp only [fzV, RVs.below hn h3, Option.map_some]
  | .lst xs, w, h => by unfold RV at h; obtain ⟨a, ws, _, _, h3⟩ := h; simp only [fzV, RVs.below hn h3, Option.map_some]
  | .frz xs, w, h => by unfold RV at h; obtain ⟨a, ws, _, _, h3⟩ := h; simp only [fzV, RVs.below hn h3, Option.map_some]
  | .dct xs, w, h => by unfold RV at h; obtain ⟨a, ws, _, _, h3⟩ := h; simp only [fzV, RVK.below hn h3, Option.map_some]
  | .obj C xs, w, h => by unfold RV at h; obtain ⟨a, dx, ws, _, _, h3⟩ := h; simp only [fzV, RVF.below hn h3, Option.map_some]
  | .ref m, w, h => by
    obtain ⟨a, h1, _⟩ := h.ref_inv
    have := (List.getElem?_eq_some_iff.mp h1).1
    simp only [fzV, belowR]
    rw [if_pos (by omega)]
theorem RVs.below {ρ : Pl} {H : Hp} {n : Nat} (hn : ρ.c.length = n) : ∀ {x : List Val} {w : List V}, RVs K ρ H x w → fzVs (belowR n) x = some x
  | [], w, h => rfl
  | x :: xs, w, h => by
    obtain ⟨u, s, rfl, h1, h2⟩ := h.inv
    simp only [fzVs, RV.below hn h1, Option.bind_some, RVs.below hn h2, Option.map_some]
theorem RVK.below {ρ : Pl} {H : Hp} {n : Nat} (hn : ρ.c.length = n) : ∀ {x : List (Key × Val)} {w : List (Key × V)}, RVK K ρ H x w → fzVK (belowR n) x = some x
  | [], w, h => rfl
  | (k, x) :: xs, w, h => by
    unfold RVK at h
    obtain ⟨u, s, rfl, h1, h2⟩ := h
    simp only [fzVK, RV.below hn h1, Option.bind_some, RVK.below hn h2, Option.map_some]
theorem RVF.below {ρ : Pl} {H : Hp} {n : Nat} (hn : ρ.c.length = n) : ∀ {x : List (Str × Val)} {w : List (Str × V)}, RVF K ρ H x w → fzVF (belowR n) x = some x
  | [], w, h => rfl
  | (k, x) :: xs, w, h => by
    unfold RVF at h
    obtain ⟨u, s, rfl, h1, h2⟩ := h
    simp only [fzVF, RV.below hn h1, Option.bind_some, RVF.below hn h2, Option.map_some]
end
theorem RC.below {ρ : Pl} {H : Hp} {a : Addr} {c : Cell} (h : RC K ρ H a c) : c.below ρ.c.length = true := by
  cases c with
  | lst xs => obtain ⟨ws, _, h2⟩ := h; simp [Cell.below, RVs.below rfl h2]
  | dct xs => obtain ⟨ws, _, h2⟩ := h; simp [Cell.below, RVK.below rfl h2]
  | ins C xs => obtain ⟨dx, ws, _, h2⟩ := h; simp [Cell.below, RVF.below rfl h2]
/-- what gc leaves is held at the cells from before -/
theorem gc_ok {H : Hp} {S S' S2 : Store} {d : Nat} {v v2 : Val} {w : V} (st : StOk K ρ H S) (e : Ext ρ H ρ' H') (st' : StOk K ρ' H' S') (rv : RV K ρ' H' v w) (h : gcR d S (.ok v S') = .ok v2 S2) :
    ∃ ρ2, Ext ρ H ρ2 H' ∧ StOk K ρ2 H' S2 ∧ RV K ρ2 H' v2 w := by
  have stay : R.ok v S' = R.ok v2 S2 → ∃ ρ2, Ext ρ H ρ2 H' ∧ StOk K ρ2 H' S2 ∧ RV K ρ2 H' v2 w := fun q => by
    cases q; exact ⟨ρ', e, st', rv⟩
  unfold gcR at h
  dsimp only at h
  split at h
  · rename_i v' hv
    split at h
    · rename_i hf
      simp only [R.ok.injEq] at h
      obtain ⟨rfl, rfl⟩ := h
      obtain ⟨r, er⟩ := e.pre
      have hl : ρ.c.length = S.length := st.len
      have cm : ∀ a, a ∈ ρ.c → a ∈ ρ'.c := fun a ha => by rw [er]; exact List.mem_append_left _ ha
      have fz : ∀ a u, Fz ρ' H' a u → Fz ρ H' a u := fun a u q => by
        rcases q with q | ⟨q, q1, q2⟩
        · exact .inl q
        · exact .inr ⟨q, fun z => q1 (cm a z), by rw [← e.eqm]; exact q2⟩
      have fu : ∀ a u, Fu ρ' H' a u → Fu ρ H' a u := fun a u ⟨q, q1, q2⟩ => ⟨q, fun z => q1 (cm a z), by rw [← e.eqm]; exact q2⟩
      have hb : ∀ m u a, belowR S.length m = some u → ρ'.c[m]? = some a → RV K ρ H' u (.ref a) := fun m u a q qa => by
        unfold belowR at q
        split at q
        · rename_i hm
          cases q
          unfold RV
          refine ⟨a, ?_, rfl⟩
          rw [er, List.getElem?_append_left (by omega)] at qa
          exact qa
        · cases q
      have hr : ∀ (k m : Nat) (u : Val) (a : Addr), fzR S.length S' k m = some u → ρ'.c[m]? = some a → RV K ρ H' u (.ref a) := fun k => by
        induction k with
        | zero => exact fun m u a q qa => hb m u a q qa
        | succ k ih =>
          intro m u a q qa
          unfold fzR at q
          split at q
          · rename_i hm
            exact hb m u a (by unfold belowR; rw [if_pos hm]; exact q) qa
          · rename_i hm
            have free : a ∉ ρ.c := fun z => by
              obtain ⟨j, hj, ej⟩ := List.mem_iff_getElem.mp z
              obtain ⟨h1, e1⟩ := List.getElem?_eq_some_iff.mp qa
              have hj' : j < ρ'.c.length := by rw [er]; simp; omega
              have e2 : ρ'.c[j] = a := by
                have : ρ'.c[j]? = some a := by rw [er, List.getElem?_append_left hj, List.getElem?_eq_getElem hj, ej]
                rw [List.getElem?_eq_getElem hj'] at this
                exact Option.some.inj this
              have := (List.getElem_inj st'.nd).mp (e2.trans e1.symm)
              omega
            have nm : a ∉ ρ.m := fun z => (st'.bz a (by rw [e.eqm]; exact z)).2 (List.mem_of_getElem? qa)
            cases qc : S'[m]? with
            | none => rw [qc] at q; cases q
            | some c =>
              rw [qc] at q
              obtain ⟨a', ha', rc⟩ := st'.cell m c qc
              rw [qa] at ha'; cases ha'
              cases c with
              | lst xs =>
                simp only [Option.map_eq_some_iff] at q
                obtain ⟨ys, q1, rfl⟩ := q
                obtain ⟨ws, h1, h2⟩ := rc
                unfold RV
                exact ⟨a, ws, rfl, ⟨h1, free, nm⟩, h2.fz fz fu (ih) q1⟩
              | dct xs =>
                simp only [Option.map_eq_some_iff] at q
                obtain ⟨ys, q1, rfl⟩ := q
                obtain ⟨ws, h1, h2⟩ := rc
                unfold RV
                exact ⟨a, ws, rfl, ⟨h1, free, nm⟩, h2.fz fz fu (ih) q1⟩
              | ins C xs =>
                simp only [Option.map_eq_some_iff] at q
                obtain ⟨ys, q1, rfl⟩ := q
                obtain ⟨dx, ws, h1, h2⟩ := rc
                unfold RV
                exact ⟨a, dx, ws, rfl, ⟨h1, free, nm⟩, h2.fz fz fu (ih) q1⟩
      refine ⟨ρ, ⟨⟨⟨[], by simp⟩, fun _ h => .inl h, e.fix, fun _ h => .inl h, e.live⟩, rfl⟩, ⟨?_, st.nd, fun a ha => ?_, fun n c hn => ?_⟩, rv.fz fz fu (hr d) hv⟩
      · have : ρ'.c.length = S'.length := st'.len
        rw [er] at this
        simp at this ⊢
        omega
      · obtain ⟨z1, z2⟩ := st'.bz a (by rw [e.eqm]; exact ha)
        exact ⟨z1, fun z => z2 (cm a z)⟩
      · have hn1 : n < S.length := by
          have := (List.getElem?_eq_some_iff.mp hn).1
          simp at this
          omega
        rw [List.getElem?_take_of_lt hn1] at hn
        obtain ⟨a, ha, rc⟩ := st'.cell n c hn
        have ha2 : ρ.c[n]? = some a := by
          rw [er, List.getElem?_append_left (by omega)] at ha
          exact ha
        refine ⟨a, ha2, ?_⟩
        have cb : c.below S.length = true := by
          have q := List.all_eq_true.mp hf n (List.mem_range.mpr hn1)
          rw [hn] at q
          dsimp only at q
          rcases Bool.or_eq_true_iff.mp q with q | q
          · have q := of_decide_eq_true q
            obtain ⟨b, _, rc2⟩ := st.cell n c q
            have := rc2.below
            rw [hl] at this
            exact this
          · exact q
        cases c with
        | lst xs =>
          obtain ⟨ws, h1, h2⟩ := rc
          obtain ⟨ys, q1⟩ := Option.isSome_iff_exists.mp cb
          have := fzs_id q1
          subst this
          exact ⟨ws, h1, h2.fz fz fu hb q1⟩
        | dct xs =>
          obtain ⟨ws, h1, h2⟩ := rc
          obtain ⟨ys, q1⟩ := Option.isSome_iff_exists.mp cb
          have := fzK_id q1
          subst this
          exact ⟨ws, h1, h2.fz fz fu hb q1⟩
        | ins C xs =>
          obtain ⟨dx, ws, h1, h2⟩ := rc
          obtain ⟨ys, q1⟩ := Option.isSome_iff_exists.mp cb
          have := fzF_id q1
          subst this
          exact ⟨dx, ws, h1, h2.fz fz fu hb q1⟩
    · exact stay h
  · exact stay h
end
end Gx
end
section
set_option Elab.async false
set_option linter.all false
set_option maxHeartbeats 1000000
set_option autoImplicit false
/-! Gx: defs and their promises, calls, instances. -/
namespace Gx
open PySem PySem.Spec PyProof.Rows L2
/-- a def's promise: what f gives -/
def spOf (K : PySem.W.Frag) (f : F) (n : Nat) : Sp := fun vs H Q E => ∃ ρ S args, StOk K ρ H S ∧ RVs K ρ H args vs ∧ args.length = n ∧ Post K (fun c d _ H' => E c d H') (RV K) ρ H [] (f args S) Q
theorem spOf_len {K : PySem.W.Frag} {f : F} {n : Nat} {vs : List V} {H : Hp} {Q : VK} {E : XK} (h : spOf K f n vs H Q E) : vs.length = n := by
  obtain ⟨ρ, S, args, _, r, l, _⟩ := h
  rw [r.length]; exact l
theorem start_loc {K : PySem.W.Frag} {ρ : Pl} {H : Hp} {args : List Val} {vs : List V} (N : List Str) (r : RVs K ρ H args vs) : LocOk K ρ H (startL N.length args) (L2.start N vs) := by
  have hl := r.length
  refine ⟨by simp [startL, L2.start, hl], fun i v q => ?_⟩
  unfold startL at q
  by_cases hi : i < args.length
  · rw [List.getElem?_append_left (by simpa using hi), List.getElem?_map] at q
    cases e : args[i]? with
    | none => rw [e] at q; simp at q
    | some a =>
      rw [e] at q
      simp only [Option.map_some, Option.some.injEq] at q
      subst q
      obtain ⟨w, h1, h2⟩ := r.get e
      refine ⟨w, ?_, h2⟩
      unfold L2.start
      rw [List.getElem?_append_left (by simpa [hl] using hi), List.getElem?_map, h1]
      rfl
  · rw [List.getElem?_append_right (by simpa using hi), List.getElem?_replicate] at q
    split at q <;> simp at q
/-- the body's end, then what gc leaves -/
theorem body_end {K : PySem.W.Frag} {ρ : Pl} {H : Hp} {S : Store} {d : Nat} {r : RS} {Q : VK} {W : XW} (st : StOk K ρ H S)
    (h : Post K W (RV K) ρ H [] (gcR d S (match r with
      | .nx _ S1 => .ok .non S1
      | .ret v S1 => .ok v S1
      | .exn x _ S1 => .exn x S1
      | .bad => .bad)) Q) : PostS K (fun c d _ H' => W c d [] H') ρ H r { nx := fun _ H' => Q .non H', rt := Q } := by
  have fin : ∀ v S1, Post K W (RV K) ρ H [] (gcR d S (.ok v S1)) Q → ∀ ρ' H' w, Ext ρ H ρ' H' → StOk K ρ' H' S1 → RV K ρ' H' v w → Q w H' := fun v S1 p ρ' H' w e s rv => by
    cases q : gcR d S (R.ok v S1) with
    | ok v2 S2 =>
      rw [q] at p
      obtain ⟨ρ2, e2, s2, r2⟩ := gc_ok st e s rv q
      exact p ρ2 H' w e2 s2 r2
    | exn x S2 =>
      unfold gcR at q
      dsimp only at q
      split at q
      · split at q <;> cases q
      · cases q
    | bad =>
      unfold gcR at q
      dsimp only at q
      split at q
      · split at q <;> cases q
      · cases q
  cases r with
  | nx L S1 => exact fun ρ' H' σ' e s => fin .non S1 h ρ' H' .non e s.st .mk_non
  | ret v S1 => exact fin v S1 h
  | exn x L S1 => exact fun ρ' H' σ' c dd e s xv => h ρ' H' c dd e s.st xv
  | bad => exact h
section
variable {P : Program} {w : World} {K : PySem.W.Frag} {mg : Str → Option Value} {base : Heap}
/-- THE RULE for a def from which nothing is raised -/
theorem fn_ok {x qual : Str} {st : Stmt} {f : Addr} {fd : FuncData} {N ps : List Str} {k d : Nat} {db : SS} (F : Fun K x qual st f fd) (S : FnScope N ps (defScope st))
    (hb : ∀ (cdv : Value) (A : Around) (outer : List Env) (s : Shared) (H : Hp) (E : XK), Room k (A.deeper (envOfC qual (defScope st) s.heap.objs.size f cdv)) →
      DSs (cxOf CX0 P w K mg base N qual (defScope st) f cdv A outer s H E).nox W0 (defBody st) db) : FnOk P w K mg base CX0 (k + 1) f fd ps (fun vs H Q _ => spOf K (fnD ps.length N.length d db) ps.length vs H Q E0) := by
  refine F.ok S (fun vs H Q E h => spOf_len h) fun cdv A outer s H vs Q E hr h => ?_
  refine ⟨_, (hb cdv A outer s H E hr).ps, ?_⟩
  obtain ⟨ρ, S, args, st, r, l, p⟩ := h
  rw [fnD, if_pos l] at p
  exact ⟨ρ, S, startL N.length args, ⟨st, start_loc N r⟩, body_end (W := fun _ _ _ _ => False) st p⟩
end
/-- a def that may be called by its name: f of n arguments, the last ones being ds where they are not given -/
structure Cal (X : Cx) (k : Nat) (x : Str) (f : F) (n : Nat) (ds : List Val) : Prop where
  bad : ∀ args S, args.length ≠ n → f args S = .bad
  ex : ∃ (a : Addr) (fd : FuncData) (ps : List Str) (dvs : List V) (dus : List Value), ps.length = n ∧ FnOk X.prog X.w X.K X.mg X.base CX0 k a fd ps (fun vs H Q _ => spOf X.K f n vs H Q E0) ∧ X.mg x = some (.ref a) ∧ PySem.W.keepIn X.K (.ref a) = true ∧ Binds X.K fd ps dus ∧ Vals dvs dus ∧ ∀ ρ H, RVs X.K ρ H ds dvs
section
variable {X : Cx} {W : XW} {e o : Expr} {es : List Expr} {x m : Str} {f : F} {n k j : Nat} {ds : List Val} {aa : A} {d : E} {pos p apos : Pos}
theorem PostW.weak {K : PySem.W.Frag} {W W' : XW} {α β : Type} {Rel : Pl → Hp → α → β → Prop} {ρ : Pl} {H : Hp} {σ σ' : L2.St} {r : R α} {Q : β → Hp → Prop} (h : Post K W Rel ρ H σ r Q) (hW : ∀ c d H', W c d σ H' → W' c d σ' H') : Post K W' Rel ρ H σ' r Q := by
  cases r with
  | ok v S => exact h
  | exn x S => exact fun ρ' H' c d a b q => hW _ _ _ (h ρ' H' c d a b q)
  | bad => exact h
theorem de_call (c : Cal X k x f n ds) (hr : Room k X.A) (hg : Gl X x) (ha : DA X W0 (e :: es) aa) (hdb : (x == ("__debug__" : Str)) = false := by decide)
    (he : starEach (e :: es) X.env = (false, eval e X.env) :: starEach es X.env := by rfl) (hpl : (backTo pos (starEach es X.env)).any (·.1) = false := by rfl) : DE X W0 (.Call (.Name x p) (e :: es) [] pos) (eCall f (aApp aa ds)) := by
  obtain ⟨a, fd, ps, dvs, dus, hn, F, hm, hk, hb, hd, hds⟩ := c.ex
  refine ⟨PE.weak (pe_call F hr hg hm hk hb hd pass0 ha.pa hdb he hpl) fun σ H Q h => ?_⟩
  obtain ⟨ρ, S, L, sim, h⟩ := h
  have h : Post X.K W0 (RV X.K) ρ H σ ((aa L S).bind fun xs S1 => f (xs ++ ds) S1) Q := by
    unfold eCall aApp at h
    cases q : aa L S with
    | ok xs S1 => rw [q] at h; exact h
    | exn x S1 => rw [q] at h; exact h
    | bad => rw [q] at h; exact h
  refine ⟨ρ, S, L, sim, Post.bind h fun xs S1 ρ1 H1 vs _ e1 s1 r1 h1 => ?_⟩
  by_cases hl : (xs ++ ds).length = n
  · exact ⟨ρ1, S1, xs ++ ds, s1, r1.append (hds ρ1 H1), hl, PostW.weak h1 fun _ _ _ z => z⟩
  · rw [c.bad _ _ hl] at h1
    exact h1.elim
theorem aNil_app {ds : List Val} {L : Loc} {S : Store} : aApp aNil ds L S = .ok ds S := rfl
theorem de_call0 (c : Cal X k x f n ds) (hr : Room k X.A) (hg : Gl X x) (hdb : (x == ("__debug__" : Str)) = false := by decide) : DE X W0 (.Call (.Name x p) [] [] pos) (eCall f (aApp aNil ds)) := by
  obtain ⟨a, fd, ps, dvs, dus, hn, F, hm, hk, hb, hd, hds⟩ := c.ex
  refine ⟨PE.weak (pe_call0 F hr hg hm hk hb hd pass0 hdb) fun σ H Q h => ?_⟩
  obtain ⟨ρ, S, L, sim, h⟩ := h
  have h : Post X.K W0 (RV X.K) ρ H σ (f ds S) Q := h
  by_cases hl : ds.length = n
  · exact ⟨ρ, S, ds, sim.st, hds ρ H, hl, PostW.weak h fun _ _ _ z => z⟩
  · rw [c.bad _ _ hl] at h
    exact h.elim

/-! ### instances -/
theorem obj_read {K : PySem.W.Frag} {ρ : Pl} {H : Hp} {S : Store} {v : Val} {w : V} {C : Addr} {fs : List (Str × Val)} (st : StOk K ρ H S) (r : RV K ρ H v w) (h : objOf S v = some (C, fs)) :
    ∃ q dx ws, w = .ref q ∧ H q = some (.ins C dx ws) ∧ RVF K ρ H fs ws := by
  cases v with
  | obj D gs =>
    simp only [objOf, Option.some.injEq, Prod.mk.injEq] at h
    obtain ⟨rfl, rfl⟩ := h
    unfold RV at r
    obtain ⟨q, dx, ws, rfl, h1, h2⟩ := r
    exact ⟨q, dx, ws, rfl, h1.1, h2⟩
  | ref m =>
    simp only [objOf] at h
    obtain ⟨q, hq, rfl⟩ := r.ref_inv
    split at h
    · rename_i D gs qc
      simp only [Option.some.injEq, Prod.mk.injEq] at h
      obtain ⟨rfl, rfl⟩ := h
      obtain ⟨q', hq', rc⟩ := st.cell m _ qc
      rw [hq] at hq'; cases hq'
      obtain ⟨dx, ws, h1, h2⟩ := rc
      exact ⟨q, dx, ws, rfl, h1, h2⟩
    · cases h
  | _ => simp [objOf] at h
theorem RVF.lookup {K : PySem.W.Frag} {ρ : Pl} {H : Hp} {f : Str} : ∀ {fs : List (Str × Val)} {ws : List (Str × V)}, RVF K ρ H fs ws → match fs.lookup f with | some v => ∃ w, ws.lookup f = some w ∧ RV K ρ H v w | none => ws.lookup f = none
  | [], ws, h => by unfold RVF at h; subst h; rfl
  | (g, x) :: fs, ws, h => by
    unfold RVF at h
    obtain ⟨w, r, rfl, h1, h2⟩ := h
    simp only [List.lookup]
    cases q : f == g with
    | true => exact ⟨w, rfl, h1⟩
    | false => exact RVF.lookup h2
theorem de_fld {Cs : List Addr} (hC : ∀ C, C ∈ Cs → Cls X.K C ∧ NoAttr X.K C m) (he : DE X W e d) (hb : attributeBase e m X.env (eval e X.env) = eval e X.env := by rfl) : DE X W (.Attribute e m pos) (eFld Cs m d) := by
  refine ⟨PE.weak (pe_fld he.pe hb) fun σ H Q h => ?_⟩
  obtain ⟨ρ, S, L, sim, h⟩ := h
  refine ⟨ρ, S, L, sim, Post.bind h fun v S1 ρ1 H1 w _ e1 s1 r1 h1 => ?_⟩
  cases q : objOf S1 v with
  | none => rw [q] at h1; exact h1.elim
  | some pr =>
    obtain ⟨C, fs⟩ := pr
    rw [q] at h1
    dsimp only at h1
    split at h1
    · rename_i hin
      obtain ⟨a, dx, ws, rfl, ha, hf⟩ := obj_read s1 r1 q
      have hl := hf.lookup (f := m)
      cases ql : fs.lookup m with
      | none => rw [ql] at h1; exact h1.elim
      | some u =>
        rw [ql] at h1 hl
        obtain ⟨w, hw, rw'⟩ := hl
        exact ⟨a, C, dx, ws, w, rfl, ha, (hC C hin).1, (hC C hin).2, hw, h1 ρ1 H1 w Ext.refl s1 rw'⟩
    · exact h1.elim
/-- a method of the class at C -/
structure Met (X : Cx) (k : Nat) (C : Addr) (m : Str) (f : F) (n : Nat) (ds : List Val) : Prop where
  bad : ∀ args S, args.length ≠ n → f args S = .bad
  cls : Cls X.K C
  ex : ∃ (a : Addr) (fd : FuncData) (ps : List Str) (dvs : List V) (dus : List Value), ps.length = n ∧ FnOk X.prog X.w X.K X.mg X.base CX0 k a fd ps (fun vs H Q _ => spOf X.K f n vs H Q E0) ∧ Meth X.K C m a ∧ Binds X.K fd ps dus ∧ Vals dvs dus ∧ ∀ ρ H, RVs X.K ρ H ds dvs
theorem de_meth {pl : Sem Bool} {C : Addr} (c : Met X k C m f n ds) (hr : Room k X.A) (ho : DE X W0 o d) (ha : DA X W0 (e :: es) aa)
    (hst : starEach (e :: es) X.env = (false, eval e X.env) :: starEach es X.env := by rfl) (hpl : (backTo pos (starEach es X.env)).any (·.1) = false := by rfl)
    (ht : eval (.Call (.Attribute o m apos) (e :: es) [] pos) X.env = (do
      let ov ← eval o X.env
      standAt apos.atName
      let (f, first) ← holding [ov] (getMethod ov m pl)
      callWith pos f first (backTo pos (starEach (e :: es) X.env)) (backToKw pos (keywordEach [] X.env))) := by rfl) : DE X W0 (.Call (.Attribute o m apos) (e :: es) [] pos) (eMeth C m f d (aApp aa ds)) := by
  obtain ⟨a, fd, ps, dvs, dus, hn, F, hm, hb, hd, hds⟩ := c.ex
  refine ⟨PE.weak (pe_meth (pl := pl) ho.pe c.cls hm F hr hb hd pass0 ha.pa hst hpl ht) fun σ H Q h => ?_⟩
  obtain ⟨ρ, S, L, sim, h⟩ := h
  refine ⟨ρ, S, L, sim, Post.bind h fun v S1 ρ1 H1 w _ e1 s1 r1 h1 => ?_⟩
  cases q : objOf S1 v with
  | none => rw [q] at h1; exact h1.elim
  | some pr =>
    obtain ⟨D, fs⟩ := pr
    rw [q] at h1
    dsimp only at h1
    split at h1
    · rename_i hin
      obtain ⟨rfl, hlk⟩ := hin
      obtain ⟨b, dx, ws, rfl, hb', hf⟩ := obj_read s1 r1 q
      have hl := hf.lookup (f := m)
      rw [hlk] at hl
      refine ⟨b, dx, ws, rfl, hb', hl, ?_⟩
      have h1 : Post X.K W0 (RV X.K) ρ1 H1 σ ((aa L S1).bind fun xs S2 => f (v :: (xs ++ ds)) S2) Q := by
        unfold aApp at h1
        cases q : aa L S1 with
        | ok xs S2 => rw [q] at h1; exact h1
        | exn x S2 => rw [q] at h1; exact h1
        | bad => rw [q] at h1; exact h1
      refine ⟨ρ1, S1, L, sim.next e1 s1, Post.bind h1 fun xs S2 ρ2 H2 vs _ e2 s2 r2 h2 => ?_⟩
      by_cases hl : (v :: (xs ++ ds)).length = n
      · exact ⟨ρ2, S2, v :: (xs ++ ds), s2, .cons (r1.ext e2) (r2.append (hds ρ2 H2)), hl, PostW.weak h2 fun _ _ _ z => z⟩
      · rw [c.bad _ _ hl] at h2
        exact h2.elim
    · exact h1.elim
theorem de_meth0 {pl : Sem Bool} {C : Addr} (c : Met X k C m f n ds) (hr : Room k X.A) (ho : DE X W0 o d)
    (ht : eval (.Call (.Attribute o m apos) [] [] pos) X.env = (do
      let ov ← eval o X.env
      standAt apos.atName
      let (f, first) ← holding [ov] (getMethod ov m pl)
      callWith pos f first (backTo pos (starEach [] X.env)) (backToKw pos (keywordEach [] X.env))) := by rfl) : DE X W0 (.Call (.Attribute o m apos) [] [] pos) (eMeth C m f d (aApp aNil ds)) := by
  obtain ⟨a, fd, ps, dvs, dus, hn, F, hm, hb, hd, hds⟩ := c.ex
  refine ⟨PE.weak (pe_meth0 (pl := pl) ho.pe c.cls hm F hr hb hd pass0 ht) fun σ H Q h => ?_⟩
  obtain ⟨ρ, S, L, sim, h⟩ := h
  refine ⟨ρ, S, L, sim, Post.bind h fun v S1 ρ1 H1 w _ e1 s1 r1 h1 => ?_⟩
  cases q : objOf S1 v with
  | none => rw [q] at h1; exact h1.elim
  | some pr =>
    obtain ⟨D, fs⟩ := pr
    rw [q] at h1
    dsimp only at h1
    split at h1
    · rename_i hin
      obtain ⟨rfl, hlk⟩ := hin
      obtain ⟨b, dx, ws, rfl, hb', hf⟩ := obj_read s1 r1 q
      have hl := hf.lookup (f := m)
      rw [hlk] at hl
      refine ⟨b, dx, ws, rfl, hb', hl, ?_⟩
      have h2 : Post X.K W0 (RV X.K) ρ1 H1 σ (f (v :: ds) S1) Q := h1
      by_cases hl : (v :: ds).length = n
      · exact ⟨ρ1, S1, v :: ds, s1, .cons r1 (hds ρ1 H1), hl, PostW.weak h2 fun _ _ _ z => z⟩
      · rw [c.bad _ _ hl] at h2
        exact h2.elim
    · exact h1.elim
/-- a class that may be made by its name -/
structure Mak (X : Cx) (k : Nat) (x : Str) (C : Addr) (f : F) (n : Nat) (ds : List Val) : Prop where
  bad : ∀ args S, args.length ≠ n → f args S = .bad
  ex : ∃ (a : Addr) (fd : FuncData) (ps : List Str) (dvs : List V) (dus : List Value), ps.length = n ∧ FnOk X.prog X.w X.K X.mg X.base CX0 k a fd ps (fun vs H Q _ => spOf X.K f n vs H Q E0) ∧ Mk X.K C a ∧ X.mg x = some (.ref C) ∧ Binds X.K fd ps dus ∧ Vals dvs dus ∧ ∀ ρ H, RVs X.K ρ H ds dvs
theorem make_end {K : PySem.W.Frag} {ρ : Pl} {H : Hp} {S : Store} {σ : L2.St} {C : Addr} {f : F} {g : Nat} {xs : List Val} {vs : List V} {Q : VK} (st : StOk K ρ H S) (r : RVs K ρ H xs vs)
    (h : Post K W0 (RV K) ρ H σ ((f (.ref S.length :: xs) (S ++ [.ins C []])).bind fun v S2 => match v with
      | .non => gcR g S (.ok (.ref S.length) S2)
      | _ => .bad) Q) (x dx : Addr) (hx : H x = none) (hdx : H dx = none) (hne : dx ≠ x) :
    ∃ ρ1 S1, StOk K ρ1 (upd (upd H dx (.own x)) x (.ins C dx [])) S1 ∧ RVs K ρ1 (upd (upd H dx (.own x)) x (.ins C dx [])) (.ref S.length :: xs) (.ref x :: vs) ∧
      Post K (fun _ _ _ _ => False) (RV K) ρ1 (upd (upd H dx (.own x)) x (.ins C dx [])) [] (f (.ref S.length :: xs) S1) (fun v H2 => v = .non ∧ Q (.ref x) H2) := by
  have hx2 : upd H dx (.own x) x = none := by rw [upd_ne (Ne.symm hne)]; exact hx
  have e1 : Ext ρ H ρ (upd H dx (.own x)) := ext_new hdx
  have s1 : StOk K ρ (upd H dx (.own x)) S := st.new hdx
  have e2 : Ext ρ (upd H dx (.own x)) (ρ.add x) (upd (upd H dx (.own x)) x (.ins C dx [])) := ext_cell hx2
  have s2 : StOk K (ρ.add x) (upd (upd H dx (.own x)) x (.ins C dx [])) (S ++ [.ins C []]) := s1.alloc hx2 ⟨dx, [], upd_same, by unfold RVF; rfl⟩
  have r0 : RV K (ρ.add x) (upd (upd H dx (.own x)) x (.ins C dx [])) (.ref S.length) (.ref x) := by
    unfold RV
    exact ⟨x, by show (ρ.c ++ [x])[S.length]? = some x; rw [← st.len, List.getElem?_concat_length], rfl⟩
  refine ⟨ρ.add x, S ++ [.ins C []], s2, .cons r0 ((r.ext e1).ext e2), ?_⟩
  cases qf : f (.ref S.length :: xs) (S ++ [.ins C []]) with
  | bad => rw [qf] at h; exact h.elim
  | exn y S3 =>
    rw [qf] at h
    exact fun ρ' H' c d e s q => h ρ' H' c d ((e1.trans e2).trans e) s q
  | ok v S3 =>
    rw [qf] at h
    simp only [R.bind_ok] at h
    intro ρ3 H3 w e3 s3 r3
    cases v with
    | non =>
      refine ⟨r3.non_inv, ?_⟩
      dsimp only at h
      have r4 : RV K ρ3 H3 (.ref S.length) (.ref x) := r0.ext e3
      cases q : gcR g S (R.ok (.ref S.length) S3) with
      | ok v2 S4 =>
        rw [q] at h
        obtain ⟨ρ4, e4, s4, r5⟩ := gc_ok st ((e1.trans e2).trans e3) s3 r4 q
        exact h ρ4 H3 _ e4 s4 r5
      | exn y S2 =>
        unfold gcR at q
        dsimp only at q
        split at q
        · split at q <;> cases q
        · cases q
      | bad =>
        rw [q] at h; exact h.elim
    | _ => exact h.elim
theorem mk_arity {C : Addr} {g : Nat} {xs : List Val} {S : Store} (c : ∀ args S, args.length ≠ n → f args S = .bad) {K : PySem.W.Frag} {ρ : Pl} {H : Hp} {σ : L2.St} {Q : VK}
    (h : Post K W0 (RV K) ρ H σ ((f (.ref S.length :: xs) (S ++ [.ins C []])).bind fun v S2 => match v with
      | .non => gcR g S (.ok (.ref S.length) S2)
      | _ => .bad) Q) : (Val.ref S.length :: xs).length = n := by
  by_cases hl : (Val.ref S.length :: xs).length = n
  · exact hl
  · rw [c _ _ hl] at h
    exact h.elim
theorem de_make {C : Addr} {g : Nat} (c : Mak X k x C f n ds) (hr : Room (k + 1) X.A) (hg : Gl X x) (ha : DA X W0 (e :: es) aa) (hdb : (x == ("__debug__" : Str)) = false := by decide)
    (he : starEach (e :: es) X.env = (false, eval e X.env) :: starEach es X.env := by rfl) (hpl : (backTo pos (starEach es X.env)).any (·.1) = false := by rfl) : DE X W0 (.Call (.Name x p) (e :: es) [] pos) (eMake C f g (aApp aa ds)) := by
  obtain ⟨a, fd, ps, dvs, dus, hn, F, M, hm, hb, hd, hds⟩ := c.ex
  refine ⟨PE.weak (pe_make M F hr hg hm hb hd pass0 ha.pa hdb he hpl) fun σ H Q h => ?_⟩
  obtain ⟨ρ, S, L, sim, h⟩ := h
  have h : Post X.K W0 (RV X.K) ρ H σ ((aa L S).bind fun xs S1 => (f (.ref S1.length :: (xs ++ ds)) (S1 ++ [.ins C []])).bind fun v S2 => match v with
      | .non => gcR g S1 (.ok (.ref S1.length) S2)
      | _ => .bad) Q := by
    unfold eMake aApp at h
    cases q : aa L S with
    | ok xs S1 => rw [q] at h; exact h
    | exn x S1 => rw [q] at h; exact h
    | bad => rw [q] at h; exact h
  refine ⟨ρ, S, L, sim, Post.bind h fun xs S1 ρ1 H1 vs _ e1 s1 r1 h1 => ?_⟩
  intro y dx hy hdx hne
  obtain ⟨ρ2, S2, s2, r2, p2⟩ := make_end s1 (r1.append (hds ρ1 H1)) h1 y dx hy hdx hne
  exact ⟨ρ2, S2, _, s2, r2, mk_arity c.bad h1, PostW.weak p2 fun _ _ _ z => z⟩
theorem de_make0 {C : Addr} {g : Nat} (c : Mak X k x C f n ds) (hr : Room (k + 1) X.A) (hg : Gl X x) (hdb : (x == ("__debug__" : Str)) = false := by decide) : DE X W0 (.Call (.Name x p) [] [] pos) (eMake C f g (aApp aNil ds)) := by
  obtain ⟨a, fd, ps, dvs, dus, hn, F, M, hm, hb, hd, hds⟩ := c.ex
  refine ⟨PE.weak (pe_make0 M F hr hg hm hb hd pass0 hdb) fun σ H Q h => ?_⟩
  obtain ⟨ρ, S, L, sim, h⟩ := h
  have h1 : Post X.K W0 (RV X.K) ρ H σ ((f (.ref S.length :: ds) (S ++ [.ins C []])).bind fun v S2 => match v with
      | .non => gcR g S (.ok (.ref S.length) S2)
      | _ => .bad) Q := h
  intro y dx hy hdx hne
  obtain ⟨ρ2, S2, s2, r2, p2⟩ := make_end sim.st (hds ρ H) h1 y dx hy hdx hne
  exact ⟨ρ2, S2, _, s2, r2, mk_arity c.bad h1, PostW.weak p2 fun _ _ _ z => z⟩
end
end Gx
end
section
set_option Elab.async false
set_option linter.all false
set_option maxHeartbeats 1000000
set_option autoImplicit false
/-! Gx: built-in functions, methods, subscripts. -/
namespace Gx
open PySem PySem.Spec PyProof.Rows L2
def lC (K : PySem.W.Frag) (W : XW) (f : FV) : List V → Hp → VK → Prop := fun ws H Q => ∃ σ ρ S xs, StOk K ρ H S ∧ RVs K ρ H xs ws ∧ Post K W (RV K) ρ H σ (f xs S) Q
section
variable {X : Cx} {W : XW} {e o a b : Expr} {es : List Expr} {x : Str} {f : FV} {aa : A} {d da db : E} {id T : String} {pos p apos : Pos}
theorem de_callB (hc : CallR X (.builtin id) (lC X.K W f)) (hg : Gl X x) (hm : X.mg x = none) (hv : bootBuiltins x = some (.builtin id)) (ha : DA X W (e :: es) aa) (hn : x ≠ "__name__" := by decide) (hdb : (x == ("__debug__" : Str)) = false := by decide)
    (he : starEach (e :: es) X.env = (false, eval e X.env) :: starEach es X.env := by rfl) (hpl : (backTo pos (starEach es X.env)).any (·.1) = false := by rfl) : DE X W (.Call (.Name x p) (e :: es) [] pos) (eCall f aa) := by
  refine ⟨PE.weak (pe_callB hc hg hm hv ha.pa hn hdb he hpl) fun σ H Q h => ?_⟩
  obtain ⟨ρ, S, L, sim, h⟩ := h
  exact ⟨ρ, S, L, sim, Post.bind h fun xs S1 ρ1 H1 ws _ e1 s1 r1 h1 => ⟨σ, ρ1, S1, xs, s1, r1, h1⟩⟩
theorem de_callTy (hc : CallR X (.type T) (lC X.K W f)) (hg : Gl X x) (hm : X.mg x = none) (hv : bootBuiltins x = some (.type T)) (ha : DA X W (e :: es) aa) (hn : x ≠ "__name__" := by decide) (hdb : (x == ("__debug__" : Str)) = false := by decide)
    (he : starEach (e :: es) X.env = (false, eval e X.env) :: starEach es X.env := by rfl) (hpl : (backTo pos (starEach es X.env)).any (·.1) = false := by rfl) : DE X W (.Call (.Name x p) (e :: es) [] pos) (eCall f aa) := by
  refine ⟨PE.weak (pe_callTy hc hg hm hv ha.pa hn hdb he hpl) fun σ H Q h => ?_⟩
  obtain ⟨ρ, S, L, sim, h⟩ := h
  exact ⟨ρ, S, L, sim, Post.bind h fun xs S1 ρ1 H1 ws _ e1 s1 r1 h1 => ⟨σ, ρ1, S1, xs, s1, r1, h1⟩⟩
theorem de_ty {n : String} (hg : Gl X x) (hm : X.mg x = none) (hv : bootBuiltins x = some (.type n)) (hn : x ≠ "__name__" := by decide) (hd : (x == ("__debug__" : Str)) = false := by decide) : DE X W (.Name x pos) (eC (.ty n)) :=
  de_const (pe_bltn hg hm hv (v := .ty n) rfl hn hd) fun _ _ => by unfold RV; rfl
theorem rvs1 {K : PySem.W.Frag} {ρ : Pl} {H : Hp} {x : Val} {ws : List V} (h : RVs K ρ H [x] ws) : ∃ w, ws = [w] ∧ RV K ρ H x w := by
  obtain ⟨w, r, rfl, h1, h2⟩ := h.inv
  rw [RVs.nil_iff.mp h2]
  exact ⟨w, rfl, h1⟩
theorem rvs2 {K : PySem.W.Frag} {ρ : Pl} {H : Hp} {x y : Val} {ws : List V} (h : RVs K ρ H [x, y] ws) : ∃ w u, ws = [w, u] ∧ RV K ρ H x w ∧ RV K ρ H y u := by
  obtain ⟨w, r, rfl, h1, h2⟩ := h.inv
  obtain ⟨u, rfl, h3⟩ := rvs1 h2
  exact ⟨w, u, rfl, h1, h3⟩
theorem cd_len : CallR X (.builtin "len") (lC X.K W bLen) := by
  intro pins s σ H ws us Q I r h
  obtain ⟨σ', ρ, S, xs, st, rv, post⟩ := h
  unfold bLen at post
  split at post
  · rename_i x
    obtain ⟨w, rfl, rw'⟩ := rvs1 rv
    split at post
    · rename_i z
      split at post
      · rename_i hz
        exact call_len pins s σ H _ us Q I r ⟨w, z.length, rfl, by rw [rw'.str_inv]; exact ⟨hz, rfl⟩, post ρ H _ Ext.refl st (.mk_int _)⟩
      · exact post.elim
    · split at post
      · rename_i k ys q
        obtain ⟨p, vs, rfl, r1, l1⟩ := seq_read st rw' q
        refine call_len pins s σ H _ us Q I r ⟨.ref p, ys.length, rfl, ?_, post ρ H _ Ext.refl st (.mk_int _)⟩
        rcases seq_either l1 with z | z
        · exact .inl ⟨vs, z, r1.length.symm⟩
        · exact .inr ⟨vs, z, r1.length.symm⟩
      · exact post.elim
  · exact post.elim
theorem cd_int : CallR X (.type "int") (lC X.K W bInt) := by
  intro pins s σ H ws us Q I r h
  obtain ⟨σ', ρ, S, xs, st, rv, post⟩ := h
  unfold bInt at post
  split at post
  · obtain ⟨w, rfl, rw'⟩ := rvs1 rv
    exact call_int1 pins s σ H _ us Q I r (.inl ⟨_, by rw [rw'.int_inv], post ρ H _ Ext.refl st (.mk_int _)⟩)
  · obtain ⟨w, rfl, rw'⟩ := rvs1 rv
    exact call_int1 pins s σ H _ us Q I r (.inr ⟨_, by rw [rw'.bl_inv], post ρ H _ Ext.refl st (.mk_int _)⟩)
  · obtain ⟨w, rfl, rw'⟩ := rvs1 rv
    split at post
    · rename_i hz
      split at post
      · rename_i n q
        exact call_int_str pins s σ H _ us Q I r ⟨_, n, by rw [rw'.str_inv], q, hz, post ρ H _ Ext.refl st (.mk_int _)⟩
      · exact post.elim
    · exact post.elim
  · exact post.elim
theorem cd_str : CallR X (.type "str") (lC X.K W bStr) := by
  intro pins s σ H ws us Q I r h
  obtain ⟨σ', ρ, S, xs, st, rv, post⟩ := h
  unfold bStr at post
  split at post
  · obtain ⟨w, rfl, rw'⟩ := rvs1 rv
    split at post
    · rename_i hz
      exact call_str_int pins s σ H _ us Q I r ⟨_, by rw [rw'.int_inv], hz, post ρ H _ Ext.refl st (.mk_str _)⟩
    · exact post.elim
  · obtain ⟨w, rfl, rw'⟩ := rvs1 rv
    exact SkE.call_str_str pins s σ H _ us Q I r ⟨_, by rw [rw'.str_inv], post ρ H _ Ext.refl st (.mk_str _)⟩
  · exact post.elim
theorem rvs_ints {K : PySem.W.Frag} {ρ : Pl} {H : Hp} : ∀ {xs : List Val} {ns : List Int} {ws : List V}, intsOf xs = some ns → RVs K ρ H xs ws → ws = ns.map V.int
  | [], ns, ws, e, h => by simp only [intsOf, Option.some.injEq] at e; subst e; exact RVs.nil_iff.mp h
  | x :: xs, ns, ws, e, h => by
    obtain ⟨w, r, rfl, h1, h2⟩ := h.inv
    cases x with
    | int i =>
      simp only [intsOf, Option.map_eq_some_iff] at e
      obtain ⟨ms, e1, rfl⟩ := e
      rw [h1.int_inv, rvs_ints e1 h2]
      rfl
    | _ => simp [intsOf] at e
theorem rvs_bools {K : PySem.W.Frag} {ρ : Pl} {H : Hp} : ∀ {xs : List Val} {ns : List Bool} {ws : List V}, boolsOf xs = some ns → RVs K ρ H xs ws → ws = ns.map V.bl
  | [], ns, ws, e, h => by simp only [boolsOf, Option.some.injEq] at e; subst e; exact RVs.nil_iff.mp h
  | x :: xs, ns, ws, e, h => by
    obtain ⟨w, r, rfl, h1, h2⟩ := h.inv
    cases x with
    | bl i =>
      simp only [boolsOf, Option.map_eq_some_iff] at e
      obtain ⟨ms, e1, rfl⟩ := e
      rw [h1.bl_inv, rvs_bools e1 h2]
      rfl
    | _ => simp [boolsOf] at e
theorem rvs_strs {K : PySem.W.Frag} {ρ : Pl} {H : Hp} : ∀ {xs : List Val} {ns : List Str} {ws : List V}, strsOf xs = some ns → RVs K ρ H xs ws → ws = ns.map V.str
  | [], ns, ws, e, h => by simp only [strsOf, Option.some.injEq] at e; subst e; exact RVs.nil_iff.mp h
  | x :: xs, ns, ws, e, h => by
    obtain ⟨w, r, rfl, h1, h2⟩ := h.inv
    cases x with
    | str i =>
      simp only [strsOf, Option.map_eq_some_iff] at e
      obtain ⟨ms, e1, rfl⟩ := e
      rw [h1.str_inv, rvs_strs e1 h2]
      rfl
    | _ => simp [strsOf] at e
/-- a built-in of one list -/
theorem cd_list {g : List Val → Option Val} {id : String} (h1 : ∀ (pins : List (Addr × Obj)) (s : Shared) (σ : L2.St) (H : Hp) (us : List Value) (Q : VK) (p : Addr) (ys : List Val) (vs : List V) (v : Val) (ρ : Pl), L2.Inv X pins σ H s → Vals [.ref p] us → RVs X.K ρ H ys vs → SqL X.K H p vs → g ys = some v →
      (∀ w, RV X.K ρ H v w → Q w H) → wpAny (model X.prog X.w) X.A (call (.builtin id) us) (EP X pins σ Q) X.xe s) : CallR X (.builtin id) (lC X.K W (ofList g)) := by
  intro pins s σ H ws us Q I r h
  obtain ⟨σ', ρ, S, xs, st, rv, post⟩ := h
  unfold ofList at post
  split at post
  · obtain ⟨w, rfl, rw'⟩ := rvs1 rv
    split at post
    · rename_i ys q
      obtain ⟨p, vs, rfl, r1, l1⟩ := seq_read st rw' q
      split at post
      · rename_i v gv
        exact h1 pins s σ H us Q p ys vs v ρ I r r1 (by simpa using l1) gv fun w hw => post ρ H w Ext.refl st hw
      · exact post.elim
    · exact post.elim
  · exact post.elim
theorem cd_sum (hc : X.calm = true) : CallR X (.builtin "sum") (lC X.K W (ofList sumV)) := cd_list fun pins s σ H us Q p ys vs v ρ I r r1 l1 gv k => by
  simp only [sumV, Option.map_eq_some_iff] at gv
  obtain ⟨ns, e, rfl⟩ := gv
  have := rvs_ints e r1
  subst this
  exact cr_sum hc pins s σ H _ us Q I r ⟨p, ns, rfl, l1, k _ (.mk_int _)⟩
theorem cd_all (hc : X.calm = true) : CallR X (.builtin "all") (lC X.K W (ofList allV)) := cd_list fun pins s σ H us Q p ys vs v ρ I r r1 l1 gv k => by
  simp only [allV, Option.map_eq_some_iff] at gv
  obtain ⟨ns, e, rfl⟩ := gv
  have := rvs_bools e r1
  subst this
  exact cr_all hc pins s σ H _ us Q I r ⟨p, ns, rfl, l1, k _ (.mk_bl _)⟩
theorem cd_any (hc : X.calm = true) : CallR X (.builtin "any") (lC X.K W (ofList anyV)) := cd_list fun pins s σ H us Q p ys vs v ρ I r r1 l1 gv k => by
  simp only [anyV, Option.map_eq_some_iff] at gv
  obtain ⟨ns, e, rfl⟩ := gv
  have := rvs_bools e r1
  subst this
  exact cr_any hc pins s σ H _ us Q I r ⟨p, ns, rfl, l1, k _ (.mk_bl _)⟩
theorem foldl_max : ∀ (ns : List Int) (a : Int), (ns.foldl max a ∈ a :: ns) ∧ ∀ y, y ∈ a :: ns → y ≤ ns.foldl max a
  | [], a => ⟨by simp, fun y h => by simp at h; subst h; exact Int.le_refl _⟩
  | n :: ns, a => by
    obtain ⟨h1, h2⟩ := foldl_max ns (max a n)
    show ns.foldl max (max a n) ∈ a :: n :: ns ∧ ∀ y, y ∈ a :: n :: ns → y ≤ ns.foldl max (max a n)
    refine ⟨?_, fun y hy => ?_⟩
    · rcases List.mem_cons.mp h1 with z | z
      · rw [z]
        rcases Int.le_total a n with q | q
        · rw [Int.max_eq_right q]; simp
        · rw [Int.max_eq_left q]; simp
      · simp [z]
    · have h3 : max a n ≤ ns.foldl max (max a n) := h2 _ (by simp)
      rcases List.mem_cons.mp hy with z | z
      · subst z; omega
      · rcases List.mem_cons.mp z with z | z
        · subst z; omega
        · exact h2 y (by simp [z])
theorem foldl_min : ∀ (ns : List Int) (a : Int), (ns.foldl min a ∈ a :: ns) ∧ ∀ y, y ∈ a :: ns → ns.foldl min a ≤ y
  | [], a => ⟨by simp, fun y h => by simp at h; subst h; exact Int.le_refl _⟩
  | n :: ns, a => by
    obtain ⟨h1, h2⟩ := foldl_min ns (min a n)
    show ns.foldl min (min a n) ∈ a :: n :: ns ∧ ∀ y, y ∈ a :: n :: ns → ns.foldl min (min a n) ≤ y
    refine ⟨?_, fun y hy => ?_⟩
    · rcases List.mem_cons.mp h1 with z | z
      · rw [z]
        rcases Int.le_total a n with q | q
        · rw [Int.min_eq_left q]; simp
        · rw [Int.min_eq_right q]; simp
      · simp [z]
    · have h3 : ns.foldl min (min a n) ≤ min a n := h2 _ (by simp)
      rcases List.mem_cons.mp hy with z | z
      · subst z; omega
      · rcases List.mem_cons.mp z with z | z
        · subst z; omega
        · exact h2 y (by simp [z])
theorem cd_max (hc : X.calm = true) : CallR X (.builtin "max") (lC X.K W (ofList maxV)) := cd_list fun pins s σ H us Q p ys vs v ρ I r r1 l1 gv k => by
  unfold maxV at gv
  split at gv
  · rename_i n ns e
    cases gv
    have := rvs_ints e r1
    subst this
    refine cr_max hc pins s σ H _ us Q I r ⟨p, n :: ns, rfl, l1, by simp, fun m hm hle => ?_⟩
    obtain ⟨h1, h2⟩ := foldl_max ns n
    have e1 : m = maxI (n :: ns) := Int.le_antisymm (h2 m hm) (hle _ h1)
    rw [e1]
    exact k _ (.mk_int _)
  · cases gv
theorem cd_min (hc : X.calm = true) : CallR X (.builtin "min") (lC X.K W (ofList minV)) := cd_list fun pins s σ H us Q p ys vs v ρ I r r1 l1 gv k => by
  unfold minV at gv
  split at gv
  · rename_i n ns e
    cases gv
    have := rvs_ints e r1
    subst this
    refine cr_min hc pins s σ H _ us Q I r ⟨p, n :: ns, rfl, l1, by simp, fun m hm hle => ?_⟩
    obtain ⟨h1, h2⟩ := foldl_min ns n
    have e1 : m = minI (n :: ns) := Int.le_antisymm (hle _ h1) (h2 m hm)
    rw [e1]
    exact k _ (.mk_int _)
  · cases gv
theorem cd_max2 (hc : X.calm = true) : CallR X (.builtin "max") (lC X.K W bMax2) := by
  intro pins s σ H ws us Q I r h
  obtain ⟨σ', ρ, S, xs, st, rv, post⟩ := h
  unfold bMax2 at post
  split at post
  · rename_i i j
    obtain ⟨w, u, rfl, r1, r2⟩ := rvs2 rv
    refine call_max2 hc pins s σ H _ us Q I r ⟨i, j, by rw [r1.int_inv, r2.int_inv], ?_⟩
    have q := post ρ H _ Ext.refl st (.mk_int _)
    have e : (if j > i then j else i) = max i j := by split <;> omega
    rw [e]; exact q
  · exact post.elim
theorem cd_min2 (hc : X.calm = true) : CallR X (.builtin "min") (lC X.K W bMin2) := by
  intro pins s σ H ws us Q I r h
  obtain ⟨σ', ρ, S, xs, st, rv, post⟩ := h
  unfold bMin2 at post
  split at post
  · rename_i i j
    obtain ⟨w, u, rfl, r1, r2⟩ := rvs2 rv
    refine call_min2 hc pins s σ H _ us Q I r ⟨i, j, by rw [r1.int_inv, r2.int_inv], ?_⟩
    have q := post ρ H _ Ext.refl st (.mk_int _)
    have e : (if j < i then j else i) = min i j := by split <;> omega
    rw [e]; exact q
  · exact post.elim
theorem cd_tup : CallR X (.type "tuple") (lC X.K W bTup) := by
  intro pins s σ H ws us Q I r h
  obtain ⟨σ', ρ, S, xs, st, rv, post⟩ := h
  unfold bTup at post
  split at post
  · obtain ⟨w, rfl, rw'⟩ := rvs1 rv
    split at post
    · rename_i k ys q
      obtain ⟨p, vs, rfl, r1, l1⟩ := seq_read st rw' q
      refine call_tuple_of pins s σ H _ us Q I r ⟨p, vs, rfl, ?_⟩
      cases k with
      | true => exact .inl ⟨by simpa using l1, fun l hl => post ρ _ _ (ext_new hl) (st.new hl) (.mk_tup (.of upd_same) (r1.ext (ext_new hl)))⟩
      | false => exact .inr ⟨by simpa using l1, post ρ H _ Ext.refl st (.mk_tup (by simpa using l1) r1)⟩
    · exact post.elim
  · exact post.elim
end
end Gx
end
section
set_option Elab.async false
set_option linter.all false
set_option maxHeartbeats 1000000
set_option autoImplicit false
/-! Gx: subscripts, slices, dicts, methods, stores. -/
namespace Gx
open PySem PySem.Spec PyProof.Rows L2
section
variable {X : Cx} {W : XW} {e o a b i k : Expr} {es : List Expr} {x : Str} {aa : A} {d da db dk de : E} {id T : String} {pos p apos cpos p2 : Pos}
theorem PE.or {e : Expr} {t1 t2 : TE} (h1 : PE X e t1) (h2 : PE X e t2) : PE X e (fun σ H Q => t1 σ H Q ∨ t2 σ H Q) :=
  ⟨fun pins s σ H Q I h => h.elim (h1.run pins s σ H Q I) (h2.run pins s σ H Q I)⟩
/-! ### subscripts -/
theorem atI_get {K : PySem.W.Frag} {ρ : Pl} {H : Hp} {xs : List Val} {ws : List V} {i : Int} {v : Val} (r : RVs K ρ H xs ws) (h : atI xs i = some v) : ∃ w, atI ws i = some w ∧ RV K ρ H v w := by
  unfold atI at h ⊢
  rw [r.length]
  cases q : ixN xs.length i with
  | none => rw [q] at h; simp at h
  | some j => rw [q] at h; exact r.get (by simpa using h)
theorem ix_ok : IxR X (lO X.K W oIdx) := by
  intro value slice pins s σ H wx wy v u Q I rx ry h hs
  obtain ⟨σ', ρ, S, x, y, st, hx, hy, post⟩ := h
  refine ix_seq value slice pins s σ H wx wy v u Q I rx ry ?_ hs
  unfold oIdx at post
  split at post
  · rename_i i
    split at post
    · rename_i z
      split at post
      · rename_i hz
        split at post
        · rename_i c hc
          exact .inr (.inr ⟨z, i, c, hx.str_inv, hy.int_inv, hz, hc, post ρ H _ Ext.refl st (.mk_str _)⟩)
        · exact post.elim
      · exact post.elim
    · split at post
      · rename_i kk ys q
        split at post
        · rename_i v hv
          obtain ⟨p, ws, e1, r1, l1⟩ := seq_read st hx q
          obtain ⟨w, h1, h2⟩ := atI_get r1 hv
          cases kk with
          | true => exact .inl ⟨p, ws, i, w, e1, hy.int_inv, by simpa using l1, h1, post ρ H _ Ext.refl st h2⟩
          | false => exact .inr (.inl ⟨p, ws, i, w, e1, hy.int_inv, by simpa using l1, h1, post ρ H _ Ext.refl st h2⟩)
        · exact post.elim
      · exact post.elim
  · exact post.elim
theorem dct_read {K : PySem.W.Frag} {ρ : Pl} {H : Hp} {S : Store} {v : Val} {w : V} {kvs : List (Key × Val)} (st : StOk K ρ H S) (r : RV K ρ H v w) (h : dctOf S v = some kvs) :
    ∃ p ws, w = .ref p ∧ H p = some (.dK ws) ∧ RVK K ρ H kvs ws := by
  cases v with
  | dct ys =>
    simp only [dctOf, Option.some.injEq] at h
    subst h
    unfold RV at r
    obtain ⟨p, ws, rfl, h1, h2⟩ := r
    exact ⟨p, ws, rfl, h1.1, h2⟩
  | ref n =>
    simp only [dctOf] at h
    obtain ⟨p, hp, rfl⟩ := r.ref_inv
    split at h
    · rename_i kv q
      cases h
      obtain ⟨p', hp', rc⟩ := st.cell n _ q
      rw [hp] at hp'; cases hp'
      obtain ⟨ws, h1, h2⟩ := rc
      exact ⟨p, ws, rfl, h1, h2⟩
    · cases h
  | _ => simp [dctOf] at h
theorem key_rv {K : PySem.W.Frag} {ρ : Pl} {H : Hp} {v : Val} {w : V} {k : Key} (r : RV K ρ H v w) (h : keyOf v = some k) : w = kV k := by
  unfold keyOf at h
  split at h
  · cases h; exact r.int_inv
  · cases h; exact r.str_inv
  · cases h
theorem RVK.find {K : PySem.W.Frag} {ρ : Pl} {H : Hp} {k : Key} : ∀ {kvs : List (Key × Val)} {ws : List (Key × V)}, RVK K ρ H kvs ws → match getV kvs k with | some v => ∃ w, valV ws k = some w ∧ RV K ρ H v w | none => valV ws k = none
  | [], ws, h => by unfold RVK at h; subst h; rfl
  | (g, x) :: fs, ws, h => by
    unfold RVK at h
    obtain ⟨w, r, rfl, h1, h2⟩ := h
    have ih := RVK.find (k := k) h2
    unfold getV valV at ih ⊢
    simp only [List.find?_cons]
    cases q : decide (g = k) with
    | true => exact ⟨w, rfl, h1⟩
    | false => exact ih
theorem RVK.any {K : PySem.W.Frag} {ρ : Pl} {H : Hp} {k : Key} : ∀ {kvs : List (Key × Val)} {ws : List (Key × V)}, RVK K ρ H kvs ws → (ws.any fun p => decide (p.1 = k)) = (kvs.any fun p => decide (p.1 = k))
  | [], ws, h => by unfold RVK at h; subst h; rfl
  | (g, x) :: fs, ws, h => by
    unfold RVK at h
    obtain ⟨w, r, rfl, h1, h2⟩ := h
    simp only [List.any_cons, RVK.any h2]
theorem RVK.app {K : PySem.W.Frag} {ρ : Pl} {H : Hp} {k : Key} {v : Val} {u : V} (rv : RV K ρ H v u) : ∀ {kvs : List (Key × Val)} {ws : List (Key × V)}, RVK K ρ H kvs ws → RVK K ρ H (kvs ++ [(k, v)]) (ws ++ [(k, u)])
  | [], ws, h => by unfold RVK at h; subst h; exact ⟨u, [], rfl, rv, by unfold RVK; rfl⟩
  | (g, x) :: fs, ws, h => by
    unfold RVK at h
    obtain ⟨w, r, rfl, h1, h2⟩ := h
    show RVK K ρ H ((g, x) :: (fs ++ [(k, v)])) ((g, w) :: (r ++ [(k, u)]))
    unfold RVK
    exact ⟨w, _, rfl, h1, RVK.app rv h2⟩
theorem RVK.rep {K : PySem.W.Frag} {ρ : Pl} {H : Hp} {k : Key} {v : Val} {u : V} (rv : RV K ρ H v u) : ∀ {kvs : List (Key × Val)} {ws : List (Key × V)}, RVK K ρ H kvs ws → RVK K ρ H (kvs.map fun p => if p.1 = k then (p.1, v) else p) (ws.map fun p => if p.1 = k then (p.1, u) else p)
  | [], ws, h => by unfold RVK at h; subst h; unfold RVK; rfl
  | (g, x) :: fs, ws, h => by
    unfold RVK at h
    obtain ⟨w, r, rfl, h1, h2⟩ := h
    simp only [List.map_cons]
    by_cases q : g = k
    · rw [if_pos q, if_pos q]
      unfold RVK
      exact ⟨u, _, rfl, rv, RVK.rep rv h2⟩
    · rw [if_neg q, if_neg q]
      unfold RVK
      exact ⟨w, _, rfl, h1, RVK.rep rv h2⟩
theorem RVK.put {K : PySem.W.Frag} {ρ : Pl} {H : Hp} {k : Key} {v : Val} {u : V} (rv : RV K ρ H v u) {kvs : List (Key × Val)} {ws : List (Key × V)} (h : RVK K ρ H kvs ws) : RVK K ρ H (putV kvs k v) (putK ws k u) := by
  unfold putV putK
  rw [h.any]
  split
  · exact h.rep rv
  · exact h.app rv
theorem RVK.len {K : PySem.W.Frag} {ρ : Pl} {H : Hp} : ∀ {kvs : List (Key × Val)} {ws : List (Key × V)}, RVK K ρ H kvs ws → ws.length = kvs.length
  | [], ws, h => by unfold RVK at h; subst h; rfl
  | (g, x) :: fs, ws, h => by
    unfold RVK at h
    obtain ⟨w, r, rfl, h1, h2⟩ := h
    simp [RVK.len h2]
theorem de_sub (hu : X.A.units + 1 < cLine) (ha : DE X W a da) (hb : DE X W b db) (hs : PlainIx b) : DE X W (.Subscript a b pos) (eBin oSub2 da db) := by
  refine ⟨PE.weak (PE.or (pe_ix (ix_ok (W := W)) ha.pe hb.pe hs) (pe_dget hu ha.pe hb.pe hs)) fun σ H Q h => ?_⟩
  obtain ⟨ρ, S, L, sim, h⟩ := h
  unfold eBin at h
  -- what is read tells which
  cases qa : da L S with
  | bad => rw [qa] at h; exact h.elim
  | exn y S1 => rw [qa] at h; exact .inl ⟨ρ, S, L, sim, by rw [qa]; exact h⟩
  | ok v S1 =>
    rw [qa] at h
    simp only [R.bind_ok] at h
    cases qb : db L S1 with
    | bad => rw [qb] at h; exact h.elim
    | exn y S2 =>
      rw [qb] at h
      refine .inl ⟨ρ, S, L, sim, ?_⟩
      rw [qa]
      intro ρ1 H1 w e1 s1 r1
      refine ⟨ρ1, S1, L, sim.next e1 s1, ?_⟩
      rw [qb]
      exact Post.base (r := (R.exn y S2 : R Val)) (Rel := RV X.K) h e1
    | ok u S2 =>
      rw [qb] at h
      simp only [R.bind_ok] at h
      unfold oSub2 at h
      cases qd : dctOf S2 v with
      | none =>
        rw [qd] at h
        dsimp only at h
        left
        refine ⟨ρ, S, L, sim, ?_⟩
        rw [qa]
        intro ρ1 H1 w e1 s1 r1
        refine ⟨ρ1, S1, L, sim.next e1 s1, ?_⟩
        rw [qb]
        intro ρ2 H2 w2 e2 s2 r2
        exact ⟨σ, ρ2, S2, v, u, s2, r1.ext e2, r2, Post.base h (e1.trans e2)⟩
      | some kvs =>
        rw [qd] at h
        dsimp only at h
        right
        refine ⟨ρ, S, L, sim, ?_⟩
        rw [qa]
        intro ρ1 H1 w e1 s1 r1
        refine ⟨ρ1, S1, L, sim.next e1 s1, ?_⟩
        rw [qb]
        intro ρ2 H2 w2 e2 s2 r2
        unfold oGet at h
        rw [qd] at h
        cases qk : keyOf u with
        | none => rw [qk] at h; exact h.elim
        | some kk =>
          rw [qk] at h
          dsimp only at h
          obtain ⟨p, ws, rfl, h1, h2⟩ := dct_read s2 (r1.ext e2) qd
          have hf := h2.find (k := kk)
          cases qg : getV kvs kk with
          | none => rw [qg] at h; exact h.elim
          | some z =>
            rw [qg] at h hf
            obtain ⟨wz, hz, rz⟩ := hf
            have ek := key_rv r2 qk
            subst ek
            exact ⟨p, wz, rfl, by rw [← hz]; exact DGet.k h1, h ρ2 H2 wz (e1.trans e2) s2 rz⟩

/-! ### slices -/
def lP (K : PySem.W.Frag) (W : XW) (d : Loc → Store → R (Option Int)) : TO := fun σ H Q => ∃ ρ S L, Sim K ρ H L S σ ∧ Post K W (fun _ _ (a b : Option Int) => a = b) ρ H σ (d L S) Q
structure DP (X : Cx) (W : XW) (e : Option Expr) (d : Option E) : Prop where
  po : PO X e (lP X.K W (partE d))
theorem PO.weak {e : Option Expr} {t t' : TO} (h : PO X e t) (k : ∀ σ H Q, t' σ H Q → t σ H Q) : PO X e t' := ⟨fun pins s σ H Q I q => h.run pins s σ H Q I (k σ H Q q)⟩
theorem dp_none : DP X W none none := by
  refine ⟨PO.weak po_none fun σ H Q h => ?_⟩
  obtain ⟨ρ, S, L, sim, h⟩ := h
  exact h ρ H none Ext.refl sim.st rfl
theorem dp_some (he : DE X W e d) : DP X W (some e) (some d) := by
  refine ⟨PO.weak (po_some he.pe) fun σ H Q h => ?_⟩
  obtain ⟨ρ, S, L, sim, h⟩ := h
  unfold partE at h
  refine ⟨ρ, S, L, sim, Post.bind (Rel' := fun _ _ (a b : Option Int) => a = b) h fun v S1 ρ1 H1 w _ e1 s1 r1 h1 => ?_⟩
  cases v with
  | int i => exact ⟨i, r1.int_inv, h1 ρ1 H1 _ Ext.refl s1 rfl⟩
  | _ => exact h1.elim
theorem RVs.cut {K : PySem.W.Frag} {ρ : Pl} {H : Hp} {xs : List Val} {ws : List V} (lo hi : Option Int) (r : RVs K ρ H xs ws) : RVs K ρ H (cutL xs lo hi) (cutV ws lo hi) := by
  unfold cutL cutV
  rw [r.length]
  exact (r.drop _).take _
def rSlAll (K : PySem.W.Frag) : V → Option Int → Option Int → Hp → VK → Prop := fun x lo hi H Q => (rSlL K x lo hi H Q ∨ rSlA K x lo hi H Q) ∨ rSlS x lo hi H Q
theorem sl_all : SlR X (rSlAll X.K) := SlR.or (SlR.or sl_list sl_tupA) sl_str
theorem tSl_of {K : PySem.W.Frag} {α : Type} {Rel : Pl → Hp → α → V → Prop} {lo hi : Option E} {f : Val → Option Int → Option Int → Store → R α} {σ : L2.St} {H : Hp} {Q : VK} {ρ : Pl} {S : Store} {L : Loc} (sim : Sim K ρ H L S σ)
    (h : Post K W Rel ρ H σ ((da L S).bind fun x S1 => (partE lo L S1).bind fun l S2 => (partE hi L S2).bind fun h S3 => f x l h S3) Q) {r : V → Option Int → Option Int → Hp → VK → Prop}
    (g : ∀ x l h S3 ρ3 H3 w, Ext ρ H ρ3 H3 → StOk K ρ3 H3 S3 → RV K ρ3 H3 x w → Post K W Rel ρ3 H3 σ (f x l h S3) Q → r w l h H3 Q) : tSl r (lE K W da) (lP K W (partE lo)) (lP K W (partE hi)) σ H Q := by
  refine ⟨ρ, S, L, sim, Post.bind h fun x S1 ρ1 H1 w _ e1 s1 r1 h1 => ?_⟩
  refine ⟨ρ1, S1, L, sim.next e1 s1, Post.bind h1 fun l S2 ρ2 H2 l' _ e2 s2 r2 h2 => ?_⟩
  refine ⟨ρ2, S2, L, (sim.next e1 s1).next e2 s2, Post.bind h2 fun u S3 ρ3 H3 u' _ e3 s3 r3 h3 => ?_⟩
  subst r2 r3
  exact g x l u S3 ρ3 H3 w ((e1.trans e2).trans e3) s3 ((r1.ext e2).ext e3) h3
theorem fz_new {K : PySem.W.Frag} {ρ : Pl} {H : Hp} {S : Store} {p : Addr} {o : HO} (s : StOk K ρ H S) (hp : H p = none) : Fu ρ (upd H p o) p o :=
  ⟨upd_same, s.fresh hp, fun z => ne_of_none (s.bz p z).1.choose_spec hp rfl⟩
theorem mk_lst {K : PySem.W.Frag} {ρ : Pl} {H : Hp} {xs : List Val} {p : Addr} {ws : List V} (h : Fu ρ H p (.lst ws)) (r : RVs K ρ H xs ws) : RV K ρ H (.lst xs) (.ref p) := by
  unfold RV; exact ⟨p, ws, rfl, h, r⟩
theorem de_slice {lo hi : Option Expr} {dlo dhi : Option E} (ha : DE X W a da) (hl : DP X W lo dlo) (hh : DP X W hi dhi) : DE X W (.Subscript a (.Slice lo hi none p2) pos) (eSlice da dlo dhi) := by
  refine ⟨PE.weak (pe_slice (sl_all (X := X)) ha.pe hl.po hh.po) fun σ H Q h => ?_⟩
  obtain ⟨ρ, S, L, sim, h⟩ := h
  refine tSl_of (Rel := RV X.K) sim h fun x l u S3 ρ3 H3 w e3 s3 r3 h3 => ?_
  split at h3
  · rename_i z
    split at h3
    · rename_i hz
      exact .inr ⟨z, r3.str_inv, hz, h3 ρ3 H3 _ Ext.refl s3 (.mk_str _)⟩
    · exact h3.elim
  · rename_i xs
    obtain ⟨p, ws, rfl, h1, h2⟩ := r3.tup_inv
    refine .inl (.inr ⟨p, ws, rfl, h1, fun q => ?_, fun q p' hp => ?_⟩)
    · refine h3 ρ3 H3 _ Ext.refl s3 (.mk_tup h1 ?_)
      have e : cutL xs l u = xs := by
        unfold cutL
        rw [← h2.length, q.1, q.2]
        simp [h2.length]
      rw [e]; exact h2
    · exact h3 ρ3 _ _ (ext_new hp) (s3.new hp) (.mk_tup (.of upd_same) ((h2.cut l u).ext (ext_new hp)))
  · split at h3
    · rename_i xs q
      obtain ⟨p, ws, rfl, r1, l1⟩ := seq_read s3 r3 q
      exact .inl (.inl ⟨p, ws, rfl, by simpa using l1, fun p' hp => h3 ρ3 _ _ (ext_new hp) (s3.new hp) (mk_lst (fz_new s3 hp) ((r1.cut l u).ext (ext_new hp)))⟩)
    · exact h3.elim
theorem df_slice {lo hi : Option Expr} {dlo dhi : Option E} (ha : DE X W a da) (hl : DP X W lo dlo) (hh : DP X W hi dhi) : DF X W (.Subscript a (.Slice lo hi none p2) pos) (fSlice da dlo dhi) := by
  refine ⟨PE.weak (pe_slice (sl_list (X := X)) ha.pe hl.po hh.po) fun σ H Q h => ?_⟩
  obtain ⟨ρ, S, L, sim, h⟩ := h
  -- the list's items go to a new list
  refine ⟨ρ, S, L, sim, Post.bind (Rel' := RVs X.K) h fun x S1 ρ1 H1 w _ e1 s1 r1 h1 => ?_⟩
  refine ⟨ρ1, S1, L, sim.next e1 s1, Post.bind h1 fun l S2 ρ2 H2 l' _ e2 s2 r2 h2 => ?_⟩
  refine ⟨ρ2, S2, L, (sim.next e1 s1).next e2 s2, Post.bind h2 fun u S3 ρ3 H3 u' _ e3 s3 r3 h3 => ?_⟩
  subst r2 r3
  split at h3
  · rename_i xs q
    obtain ⟨p, ws, rfl, r1, l1⟩ := seq_read s3 ((r1.ext e2).ext e3) q
    exact ⟨p, ws, rfl, by simpa using l1, fun p' hp => h3 ρ3 H3 _ Ext.refl s3 (r1.cut l u) p' hp⟩
  · exact h3.elim
theorem df_rev {kk : Nat} {p1 p2 p3 : Pos} (ha : DE X W a da) : DF X W (.Subscript a (.Slice none none (some (.UnaryOp .USub (.Constant (.int 1) kk p1) p2)) p3) pos) (fRev da) := by
  refine ⟨PE.weak (pe_revL ha.pe) fun σ H Q h => ?_⟩
  obtain ⟨ρ, S, L, sim, h⟩ := h
  refine ⟨ρ, S, L, sim, Post.bind (Rel' := RVs X.K) h fun x S1 ρ1 H1 w _ e1 s1 r1 h1 => ?_⟩
  split at h1
  · rename_i xs q
    obtain ⟨p, ws, rfl, r1, l1⟩ := seq_read s1 r1 q
    exact ⟨p, ws, rfl, by simpa using l1, fun p' hp => h1 ρ1 H1 _ Ext.refl s1 r1.reverse p' hp⟩
  · exact h1.elim
end
end Gx
end
section
set_option Elab.async false
set_option linter.all false
set_option maxHeartbeats 1000000
set_option autoImplicit false
/-! Gx: stores, methods, displays. -/
namespace Gx
open PySem PySem.Spec PyProof.Rows L2
section
variable {X : Cx} {W : XW} {e o a b i k : Expr} {es : List Expr} {x y : Str} {aa : A} {d da db dk dd : E} {id T : String} {pos p apos cpos p2 : Pos}
/-! ### stores -/
theorem PSet.or {t1 t2 : TSet} (h1 : PSet X t1) (h2 : PSet X t2) : PSet X (fun o i v H Q => t1 o i v H Q ∨ t2 o i v H Q) := by
  intro pins s σ H o i v ov iv u Q I r1 r2 r3 h
  rcases h with h | h
  · exact h1 pins s σ H o i v ov iv u Q I r1 r2 r3 h
  · exact h2 pins s σ H o i v ov iv u Q I r1 r2 r3 h
theorem set_read {K : PySem.W.Frag} {ρ : Pl} {H : Hp} {S S3 : Store} {o k v : Val} {wo wk wv : V} {Q : Hp → Prop} (st : StOk K ρ H S) (ro : RV K ρ H o wo) (rk : RV K ρ H k wk) (rv : RV K ρ H v wv) (h : setItem o k v S = some S3)
    (q : ∀ H', Ext ρ H ρ H' → StOk K ρ H' S3 → Q H') : rSetL wo wk wv H Q ∨ rSetD wo wk wv H Q := by
  unfold setItem at h
  split at h
  · rename_i n
    obtain ⟨p, hp, rfl⟩ := ro.ref_inv
    split at h
    · rename_i xs qn
      obtain ⟨p', hp', rc⟩ := st.cell n _ qn
      rw [hp] at hp'; cases hp'
      obtain ⟨ws, h1, h2⟩ := rc
      split at h
      · rename_i j
        simp only [Option.map_eq_some_iff] at h
        obtain ⟨m, hm, rfl⟩ := h
        left
        refine ⟨p, ws, j, m, rfl, rk.int_inv, h1, by rw [h2.length]; exact hm, ?_⟩
        have ex : Ext ρ H ρ (upd H p (.lst (ws.set m wv))) := ext_write (List.mem_of_getElem? hp) (by rw [h1]; trivial)
        exact q _ ex (st.write hp ⟨_, upd_same, (h2.set rv m).ext ex⟩)
      · cases h
    · rename_i kvs qn
      obtain ⟨p', hp', rc⟩ := st.cell n _ qn
      rw [hp] at hp'; cases hp'
      obtain ⟨ws, h1, h2⟩ := rc
      split at h
      · rename_i kk hk
        split at h
        · rename_i hz
          cases h
          right
          have ek := key_rv rk hk
          subst ek
          have ex : Ext ρ H ρ (upd H p (.dK (putK ws kk wv))) := ext_write (List.mem_of_getElem? hp) (by rw [h1]; trivial)
          exact ⟨p, _, rfl, DPut.k h1 (by rw [h2.len]; exact hz), q _ ex (st.write hp ⟨_, upd_same, (RVK.put rv h2).ext ex⟩)⟩
        · cases h
      · cases h
    · cases h
  · cases h
theorem dg_sub (hu : X.A.units + 1 < cLine) (ho : DE X W o dd) (hi : DE X W i dk)
    (ha : ∀ v, assign (.Subscript o i pos) X.env v = (do
      let ov ← holding [v] (eval o X.env)
      let iv ← holding [v, ov] (eval i X.env)
      standAt pos
      holding [v, ov, iv] (PySem.setItem ov iv v)
      release [v, ov, iv] []) := by intro _; rfl) : DG X W (.Subscript o i pos) (gSub dd dk) := by
  refine ⟨PG.weak (pg_sub ho.pe hi.pe (PSet.or set_list (set_dict hu)) ha) fun w σ H Q h => ?_⟩
  obtain ⟨ρ, S, L, v, sim, rv, h⟩ := h
  unfold gSub at h
  have h : PostS X.K W ρ H (ofE L (dd L S) fun o S1 => ofE L (dk L S1) fun k S2 => match Gx.setItem o k v S2 with | some S3 => .nx L S3 | none => .bad) { nx := Q, rt := fun _ _ => False } := by
    cases q1 : dd L S with
    | bad => rw [q1] at h; exact h
    | exn _ _ => rw [q1] at h; exact h
    | ok o1 S1 =>
      rw [q1] at h
      simp only [ofE_ok] at h ⊢
      cases q2 : dk L S1 with
      | bad => rw [q2] at h; exact h
      | exn _ _ => rw [q2] at h; exact h
      | ok k1 S2 =>
        rw [q2] at h
        simp only [ofE_ok] at h ⊢
        cases q3 : Gx.setItem o1 k1 v S2 with
        | none => rw [q3] at h; exact h
        | some S3 => rw [q3] at h; exact h
  refine ⟨ρ, S, L, sim, PostS.ofE sim h fun o1 S1 ρ1 H1 wo _ e1 s1 r1 h1 => ?_⟩
  have sim1 := sim.next e1 s1
  refine ⟨ρ1, S1, L, sim1, PostS.ofE sim1 h1 fun k1 S2 ρ2 H2 wk _ e2 s2 r2 h2 => ?_⟩
  cases q3 : Gx.setItem o1 k1 v S2 with
  | none => rw [q3] at h2; exact h2.elim
  | some S3 =>
    rw [q3] at h2
    exact set_read s2 (r1.ext e2) r2 ((rv.ext e1).ext e2) q3 fun H' e3 s3 => h2 ρ2 H' σ e3 ((sim1.next e2 s2).next e3 s3)
theorem RVF.put {K : PySem.W.Frag} {ρ : Pl} {H : Hp} {f : Str} {v : Val} {u : V} (rv : RV K ρ H v u) : ∀ {fs : List (Str × Val)} {ws : List (Str × V)}, RVF K ρ H fs ws → RVF K ρ H (putA f v fs) (putF f u ws)
  | [], ws, h => by unfold RVF at h; subst h; unfold putA putF RVF; exact ⟨u, [], rfl, rv, by unfold RVF; rfl⟩
  | (g, x) :: fs, ws, h => by
    unfold RVF at h
    obtain ⟨w, r, rfl, h1, h2⟩ := h
    unfold putA putF
    by_cases q : g = f
    · rw [if_pos q, if_pos q]
      unfold RVF
      exact ⟨u, _, rfl, rv, h2⟩
    · rw [if_neg q, if_neg q]
      unfold RVF
      exact ⟨w, _, rfl, h1, RVF.put rv h2⟩
theorem RVF.len {K : PySem.W.Frag} {ρ : Pl} {H : Hp} : ∀ {fs : List (Str × Val)} {ws : List (Str × V)}, RVF K ρ H fs ws → ws.length = fs.length
  | [], ws, h => by unfold RVF at h; subst h; rfl
  | (g, x) :: fs, ws, h => by
    unfold RVF at h
    obtain ⟨w, r, rfl, h1, h2⟩ := h
    simp [RVF.len h2]
/-- o.f = e: the classes at Cs -/
theorem ds_fld {Cs : List Addr} {f : Str} {pos' : Pos} (hC : ∀ C, C ∈ Cs → Cls X.K C ∧ NoAttr X.K C f) (ho : DE X W o dd) (he : DE X W e d) (hs : swapsWith e (some (.Attribute o f pos')) pos.line X.env = pure false := by rfl) :
    DS X W (.Assign [.Attribute o f pos'] e pos) (sFldC Cs f dd d) := by
  refine ⟨PS.weak (ps_fld ho.pe he.pe hs) fun D σ H h => ?_⟩
  obtain ⟨ρ, S, L, sim, h⟩ := h
  unfold sFldC at h
  refine ⟨ρ, S, L, sim, PostS.ofE sim h fun v S1 ρ1 H1 w _ e1 s1 r1 h1 => ?_⟩
  have sim1 := sim.next e1 s1
  refine ⟨ρ1, S1, L, sim1, PostS.ofE sim1 h1 fun o1 S2 ρ2 H2 wo _ e2 s2 r2 h2 => ?_⟩
  cases o1 with
  | ref n =>
    dsimp only at h2
    obtain ⟨q, hq, rfl⟩ := r2.ref_inv
    split at h2
    · rename_i C fs qn
      obtain ⟨q', hq', rc⟩ := s2.cell n _ qn
      rw [hq] at hq'; cases hq'
      obtain ⟨dx, ws, g1, g2⟩ := rc
      split at h2
      · rename_i hz
        have ex : Ext ρ2 H2 ρ2 (upd H2 q (.ins C dx (putF f w ws))) := ext_write (List.mem_of_getElem? hq) (by rw [g1]; trivial)
        refine ⟨q, C, dx, ws, rfl, g1, (hC C hz.1).1, (hC C hz.1).2, by rw [g2.len]; exact hz.2, h2 ρ2 _ σ ex ((sim1.next e2 s2).next ex (s2.write hq ⟨dx, _, upd_same, (RVF.put (r1.ext e2) g2).ext ex⟩))⟩
      · exact h2.elim
    · exact h2.elim
  | _ => exact h2.elim
/-! ### a, b = x, y -/
theorem ds_par {i j : Nat} {px py pt : Pos} {kt k2 pt2} (hc : X.calm = true) (hN : X.N.Nodup) (hi : X.N[i]? = some x) (hj : X.N[j]? = some y) (hij : i ≠ j)
    (hx : X.env.scope.names.lookup x = some .local) (hy : X.env.scope.names.lookup y = some .local) (ha : DA X W [a, b] aa)
    (hw : swappedStores [.Tuple [.Name x px, .Name y py] kt pt] (.Tuple [a, b] k2 pt2) X.env = pure (some [x, y]))
    (hs : swapsWithSole [.Tuple [.Name x px, .Name y py] kt pt] (.Tuple [a, b] k2 pt2) pos.line X.env = pure false := by rfl) :
    DS X W (.Assign [.Tuple [.Name x px, .Name y py] kt pt] (.Tuple [a, b] k2 pt2) pos) (sAsg (eTup aa) (gTup 2 (gCons (gName i) (gCons (gName j) gNil)))) := by
  refine ⟨PS.weak (ps_par hc hN hi hj hij hx hy ha.pa hw hs) fun D σ H h => ?_⟩
  obtain ⟨ρ, S, L, sim, h⟩ := h
  have h : PostS X.K W ρ H (ofE L (aa L S) fun xs S1 => if xs.length ≤ sizeLine then (gTup 2 (gCons (gName i) (gCons (gName j) gNil)) (.tup xs) L S1).plain else .bad) D := by
    unfold sAsg eTup at h
    cases q : aa L S with
    | bad => rw [q] at h; exact h
    | exn _ _ => rw [q] at h; exact h
    | ok xs S1 =>
      rw [q] at h
      simp only [R.bind_ok, ofE_ok] at h ⊢
      split
      · rename_i hz; rw [if_pos hz] at h; exact h
      · rename_i hz; rw [if_neg hz] at h; exact h
  refine ⟨ρ, S, L, sim, PostS.ofE sim h fun xs S1 ρ1 H1 ws _ e1 s1 r1 h1 => ?_⟩
  split at h1
  · match xs, r1, h1 with
    | [u, v], r1, h1 =>
      obtain ⟨w1, w2, rfl, q1, q2⟩ := rvs2 r1
      exact ⟨w1, w2, rfl, h1 ρ1 H1 _ Ext.refl ⟨s1, ((sim.loc.ext e1).set i q1).set j q2⟩⟩
    | [], _, h1 => exact h1.elim
    | [_], _, h1 => exact h1.elim
    | _ :: _ :: _ :: _, _, h1 =>
      unfold gTup at h1
      simp only [seqOf, List.length_cons] at h1
      rw [if_neg (by omega)] at h1
      exact h1.elim
  · exact h1.elim
theorem ds_par3 {z : Str} {c : Expr} {i j l : Nat} {px py pz pt : Pos} {kt k2 pt2} (hc : X.calm = true) (hN : X.N.Nodup) (hi : X.N[i]? = some x) (hj : X.N[j]? = some y) (hl : X.N[l]? = some z) (hij : i ≠ j) (hil : i ≠ l) (hjl : j ≠ l)
    (hx : X.env.scope.names.lookup x = some .local) (hy : X.env.scope.names.lookup y = some .local) (hz : X.env.scope.names.lookup z = some .local) (ha : DA X W [a, b, c] aa)
    (hw : swappedStores [.Tuple [.Name x px, .Name y py, .Name z pz] kt pt] (.Tuple [a, b, c] k2 pt2) X.env = pure (some [x, y, z]))
    (hs : swapsWithSole [.Tuple [.Name x px, .Name y py, .Name z pz] kt pt] (.Tuple [a, b, c] k2 pt2) pos.line X.env = pure false := by rfl) :
    DS X W (.Assign [.Tuple [.Name x px, .Name y py, .Name z pz] kt pt] (.Tuple [a, b, c] k2 pt2) pos) (sAsg (eTup aa) (gTup 3 (gCons (gName i) (gCons (gName j) (gCons (gName l) gNil))))) := by
  refine ⟨PS.weak (L2.ps_par3 hc hN hi hj hl hij hil hjl hx hy hz ha.pa hw hs) fun D σ H h => ?_⟩
  obtain ⟨ρ, S, L, sim, h⟩ := h
  have h : PostS X.K W ρ H (ofE L (aa L S) fun xs S1 => if xs.length ≤ sizeLine then (gTup 3 (gCons (gName i) (gCons (gName j) (gCons (gName l) gNil))) (.tup xs) L S1).plain else .bad) D := by
    unfold sAsg eTup at h
    cases q : aa L S with
    | bad => rw [q] at h; exact h
    | exn _ _ => rw [q] at h; exact h
    | ok xs S1 =>
      rw [q] at h
      simp only [R.bind_ok, ofE_ok] at h ⊢
      split
      · rename_i hz; rw [if_pos hz] at h; exact h
      · rename_i hz; rw [if_neg hz] at h; exact h
  refine ⟨ρ, S, L, sim, PostS.ofE sim h fun xs S1 ρ1 H1 ws _ e1 s1 r1 h1 => ?_⟩
  split at h1
  · match xs, r1, h1 with
    | [u, v, t], r1, h1 =>
      obtain ⟨w1, r, rfl, q1, r⟩ := r1.inv
      obtain ⟨w2, w3, rfl, q2, q3⟩ := rvs2 r
      exact ⟨w1, w2, w3, rfl, h1 ρ1 H1 _ Ext.refl ⟨s1, (((sim.loc.ext e1).set i q1).set j q2).set l q3⟩⟩
    | [], _, h1 => exact h1.elim
    | [_], _, h1 => exact h1.elim
    | [_, _], _, h1 => exact h1.elim
    | _ :: _ :: _ :: _ :: _, _, h1 =>
      unfold gTup at h1
      simp only [seqOf, List.length_cons] at h1
      rw [if_neg (by omega)] at h1
      exact h1.elim
  · exact h1.elim
/-! ### x op= e, a[k] op= e -/
theorem iod_add : OpR X (inplaceOp .Add) (lO X.K W oAddI) := by
  intro pins s σ H wx wy v u Q I rx ry h
  obtain ⟨σ', ρ, S, x, y, st, hx, hy, post⟩ := h
  unfold oAddI at post
  split at post
  · exact iop_add pins s σ H wx wy v u Q I rx ry ⟨_, _, hx.int_inv, hy.int_inv, post ρ H _ Ext.refl st (.mk_int _)⟩
  · split at post
    · rename_i hz
      exact iop_add_str pins s σ H wx wy v u Q I rx ry ⟨_, _, hx.str_inv, hy.str_inv, hz, post ρ H _ Ext.refl st (.mk_str _)⟩
    · exact post.elim
  · exact post.elim
theorem iod_sub : OpR X (inplaceOp .Sub) (lO X.K W oSub) :=
  op_two_ints (fun _ _ => True) _ (fun i j => .int (i - j)) (fun _ _ _ _ => .mk_int _) (rI_true iop_sub) fun x y S => by
    unfold oSub; split
    · exact .inr ⟨_, _, rfl, rfl, True.intro, rfl⟩
    · exact .inl rfl
theorem ds_aug {i : Nat} {f : O} {op : Operator} {pos' : Pos} (hN : X.N.Nodup) (hi : X.N[i]? = some x) (hx : L2.Loc X.env.scope x) (he : DE X W e d) (ho : OpR X (inplaceOp op) (lO X.K W f)) (hf : X.fn x = true ∨ X.env.scope.names.lookup x = some .local := by first | exact .inl rfl | exact .inr rfl | assumption) :
    DS X W (.AugAssign (.Name x pos') op e pos) (sAug i f d) := by
  refine ⟨PS.weak (ps_aug (ti := lO X.K W f) hN hi hx he.pe (fun pins s σ H x y v u Q I r1 r2 h => ho pins s σ H x y v u Q I r1 r2 h) hf) fun D σ H h => ?_⟩
  obtain ⟨ρ, S, L, sim, h⟩ := h
  unfold sAug at h
  split at h
  · rename_i v qv
    obtain ⟨w, h1, h2⟩ := sim.loc.2 i v qv
    refine ⟨w, h1, ρ, S, L, sim, PostS.ofE sim h fun y S1 ρ1 H1 wy _ e1 s1 r1 g1 => ?_⟩
    have sim1 := sim.next e1 s1
    refine ⟨σ, ρ1, S1, v, y, s1, h2.ext e1, r1, PostS.ofE sim1 g1 fun z S2 ρ2 H2 wz _ e2 s2 r2 g2 => ?_⟩
    exact g2 ρ2 H2 _ Ext.refl ⟨s2, ((sim1.loc.ext e2).set i r2)⟩
  · exact h.elim
/-! ### methods of lists and texts -/
def lM (K : PySem.W.Frag) (W : XW) (f : MV) : V → List V → Hp → VK → Prop := fun wx ws H Q => ∃ σ ρ S x xs, StOk K ρ H S ∧ RV K ρ H x wx ∧ RVs K ρ H xs ws ∧ Post K W (RV K) ρ H σ (f x xs S) Q
theorem ty_list {K : PySem.W.Frag} {ρ : Pl} {H : Hp} {S : Store} {v : Val} {w : V} {xs : List Val} (st : StOk K ρ H S) (r : RV K ρ H v w) (h : seqOf S v = some (true, xs)) : tyV K "list" w H := by
  obtain ⟨p, ws, rfl, r1, l1⟩ := seq_read st r h
  exact .inl ⟨rfl, ws, by simpa using l1⟩
/-- a method of a list with arguments -/
theorem de_bmL {name : Str} {m : MV} (pa : PlainAttrs "list") (slot : Slot "list" name id) (hty : typeOf (.builtin id) = pure (.type "method_descriptor")) (hm : MtR X id (lM X.K W m)) (ho : DE X W o dd) (ha : DA X W (e :: es) aa)
    (hbase : attributeBase o name X.env (eval o X.env) = eval o X.env := by rfl)
    (hfew : ((backTo cpos (starEach (e :: es) X.env)).all (fun x => !x.1) && (backToKw cpos (keywordEach [] X.env)).all (fun x => x.1.isSome)
      && decide ((e :: es).length + ([] : List Keyword).length + (if ([] : List Keyword).isEmpty then 0 else 1) < 30)) = true := by rfl)
    (hline : (apos.endLine == cpos.line) = true := by rfl) (hs : starEach (e :: es) X.env = (false, eval e X.env) :: starEach es X.env := by rfl) (hplain : (backTo cpos (starEach es X.env)).any (·.1) = false := by rfl) :
    DE X W (.Call (.Attribute o name apos) (e :: es) [] cpos) (eBmL m dd aa) := by
  refine ⟨PE.weak (pe_bm pa slot hty hm ho.pe ha.pa hbase hfew hline hs hplain) fun σ H Q h => ?_⟩
  obtain ⟨ρ, S, L, sim, h⟩ := h
  refine ⟨ρ, S, L, sim, Post.bind h fun v S1 ρ1 H1 w _ e1 s1 r1 h1 => ?_⟩
  split at h1
  · rename_i ys q
    refine ⟨ty_list s1 r1 q, ρ1, S1, L, sim.next e1 s1, Post.bind h1 fun xs S2 ρ2 H2 ws _ e2 s2 r2 h2 => ?_⟩
    exact ⟨σ, ρ2, S2, v, xs, s2, r1.ext e2, r2, h2⟩
  · exact h1.elim
theorem de_bmL0 {name : Str} {m : MV} (pa : PlainAttrs "list") (slot : Slot "list" name id) (hty : typeOf (.builtin id) = pure (.type "method_descriptor")) (hm : MtR X id (lM X.K W m)) (ho : DE X W o dd)
    (hbase : attributeBase o name X.env (eval o X.env) = eval o X.env := by rfl) (hline : (apos.endLine == cpos.line) = true := by rfl) :
    DE X W (.Call (.Attribute o name apos) [] [] cpos) (eBmL m dd aNil) := by
  refine ⟨PE.weak (pe_bm0 pa slot hty hm ho.pe hbase hline) fun σ H Q h => ?_⟩
  obtain ⟨ρ, S, L, sim, h⟩ := h
  refine ⟨ρ, S, L, sim, Post.bind h fun v S1 ρ1 H1 w _ e1 s1 r1 h1 => ?_⟩
  split at h1
  · rename_i ys q
    exact ⟨ty_list s1 r1 q, σ, ρ1, S1, v, [], s1, r1, .nil, h1⟩
  · exact h1.elim
theorem md_append : MtR X "list.append" (lM X.K W mAppend) := by
  intro pins s σ H wx ws v us Q I rx rs h
  obtain ⟨σ', ρ, S, x, xs, st, hx, hs, post⟩ := h
  unfold mAppend at post
  split at post
  · rename_i n y
    obtain ⟨w, rfl, ry⟩ := rvs1 hs
    obtain ⟨q, hq, rfl⟩ := hx.ref_inv
    split at post
    · rename_i ys qn
      obtain ⟨q', hq', rc⟩ := st.cell n _ qn
      rw [hq] at hq'; cases hq'
      obtain ⟨vs, h1, h2⟩ := rc
      split at post
      · rename_i hz
        have ex : Ext ρ H ρ (upd H q (.lst (vs ++ [w]))) := ext_write (List.mem_of_getElem? hq) (by rw [h1]; trivial)
        exact mt_append pins s σ H _ _ v us Q I rx rs ⟨q, vs, w, rfl, rfl, h1, by rw [h2.length]; exact hz, post ρ _ _ ex (st.write hq ⟨_, upd_same, (h2.append (.cons ry .nil)).ext ex⟩) .mk_non⟩
      · exact post.elim
    · exact post.elim
  · exact post.elim
theorem RVs.dropLast {K : PySem.W.Frag} {ρ : Pl} {H : Hp} {xs : List Val} {ws : List V} (r : RVs K ρ H xs ws) : RVs K ρ H xs.dropLast ws.dropLast := by
  rw [List.dropLast_eq_take, List.dropLast_eq_take, r.length]
  exact r.take _
theorem md_pop : MtR X "list.pop" (lM X.K W mPop) := by
  intro pins s σ H wx ws v us Q I rx rs h
  obtain ⟨σ', ρ, S, x, xs, st, hx, hs, post⟩ := h
  unfold mPop at post
  split at post
  · rename_i n
    have e0 := RVs.nil_iff.mp hs
    subst e0
    obtain ⟨q, hq, rfl⟩ := hx.ref_inv
    split at post
    · rename_i ys qn
      obtain ⟨q', hq', rc⟩ := st.cell n _ qn
      rw [hq] at hq'; cases hq'
      obtain ⟨vs, h1, h2⟩ := rc
      split at post
      · rename_i y qy
        obtain ⟨w, hw, rw'⟩ := h2.get qy
        have ex : Ext ρ H ρ (upd H q (.lst vs.dropLast)) := ext_write (List.mem_of_getElem? hq) (by rw [h1]; trivial)
        exact mt_pop pins s σ H _ _ v us Q I rx rs ⟨q, vs, w, rfl, rfl, h1, by rw [h2.length]; exact hw, post ρ _ _ ex (st.write hq ⟨_, upd_same, h2.dropLast.ext ex⟩) (rw'.ext ex)⟩
      · exact post.elim
    · exact post.elim
  · exact post.elim
theorem lst_read {K : PySem.W.Frag} {ρ : Pl} {H : Hp} {S : Store} {v : Val} {w : V} {xs : List Val} (st : StOk K ρ H S) (r : RV K ρ H v w) (h : lstOf S v = some xs) :
    ∃ p ws, w = .ref p ∧ RVs K ρ H xs ws ∧ H p = some (.lst ws) := by
  cases v with
  | lst ys =>
    simp only [lstOf, Option.some.injEq] at h
    subst h
    obtain ⟨p, ws, rfl, h1, h2⟩ := r.lst_inv
    exact ⟨p, ws, rfl, h2, h1.1⟩
  | ref n =>
    simp only [lstOf] at h
    obtain ⟨p, hp, rfl⟩ := r.ref_inv
    split at h
    · rename_i ys q
      cases h
      obtain ⟨p', hp', rc⟩ := st.cell n _ q
      rw [hp] at hp'; cases hp'
      obtain ⟨ws, h1, h2⟩ := rc
      exact ⟨p, ws, rfl, h2, h1⟩
    · cases h
  | _ => simp [lstOf] at h
/-- l.extend(z), z a list of ours: only where the walked one is no locked object -/
theorem md_extend : MtR X "list.extend" (lM X.K W mExtend) := by
  intro pins s σ H wx ws v us Q I rx rs h
  obtain ⟨σ', ρ, S, x, xs, st, hx, hs, post⟩ := h
  unfold mExtend at post
  split at post
  · rename_i n y
    obtain ⟨w, rfl, ry⟩ := rvs1 hs
    obtain ⟨q, hq, rfl⟩ := hx.ref_inv
    split at post
    · rename_i ys zs qn qz
      obtain ⟨q', hq', rc⟩ := st.cell n _ qn
      rw [hq] at hq'; cases hq'
      obtain ⟨vs, h1, h2⟩ := rc
      obtain ⟨b, us2, rfl, r1, l1⟩ := lst_read st ry qz
      split at post
      · rename_i hz
        have ex : Ext ρ H ρ (upd H q (.lst (vs ++ us2))) := ext_write (List.mem_of_getElem? hq) (by rw [h1]; trivial)
        exact mt_extend pins s σ H _ _ v us Q I rx rs ⟨q, b, vs, us2, rfl, rfl, h1, l1, by rw [h2.length, r1.length]; exact hz, post ρ _ _ ex (st.write hq ⟨_, upd_same, (h2.append r1).ext ex⟩) .mk_non⟩
      · exact post.elim
    · exact post.elim
  · exact post.elim
end
end Gx
end
section
set_option Elab.async false
set_option linter.all false
set_option maxHeartbeats 1000000
set_option autoImplicit false
/-! Gx: new lists, dict displays, in, isinstance. -/
namespace Gx
open PySem PySem.Spec PyProof.Rows L2
section
variable {X : Cx} {W : XW} {e o a b i k : Expr} {es : List Expr} {x y : Str} {aa : A} {d da db dk dd : E} {id T : String} {pos p apos cpos p2 : Pos}
/-! ### new lists -/
theorem df_list (hg : Gl X "list") (hm : X.mg "list" = none) (ha : DE X W e d) (hs : starEach [e] X.env = (false, eval e X.env) :: starEach [] X.env := by rfl) : DF X W (.Call (.Name "list" p) [e] [] pos) (fList d) := by
  refine ⟨PE.weak (pe_callTy call_list_of hg hm boot_list (pa_cons ha.pe pa_nil hs) (by decide) (by decide) hs) fun σ H Q h => ?_⟩
  obtain ⟨ρ, S, L, sim, h⟩ := h
  refine ⟨ρ, S, L, sim, Post.bind (Rel' := RVs X.K) h fun v S1 ρ1 H1 w _ e1 s1 r1 h1 => ?_⟩
  split at h1
  · rename_i kk ys q
    obtain ⟨p, vs, rfl, r2, l1⟩ := seq_read s1 r1 q
    exact ⟨p, vs, rfl, seq_either l1, fun l hl => h1 ρ1 H1 vs Ext.refl s1 r2 l hl⟩
  · exact h1.elim
theorem df_cat (ha : DE X W a da) (hb : DE X W b db) : DF X W (.BinOp a .Add b pos) (fCat da db) := by
  refine ⟨PE.weak (pe_op op_cat ha.pe hb.pe) fun σ H Q h => ?_⟩
  obtain ⟨ρ, S, L, sim, h⟩ := h
  refine two sim h fun x y S2 ρ2 H2 wx wy e2 s2 rx ry h2 => ?_
  split at h2
  · rename_i xs ys q1 q2
    obtain ⟨p1, v1, rfl, r1, l1⟩ := lst_read s2 rx q1
    obtain ⟨p3, v3, rfl, r3, l3⟩ := lst_read s2 ry q2
    split at h2
    · rename_i hz
      exact ⟨p1, p3, v1, v3, rfl, rfl, l1, l3, by rw [r1.length, r3.length]; exact hz, fun p hp => h2 ρ2 H2 _ Ext.refl s2 (r1.append r3) p hp⟩
    · exact h2.elim
  · exact h2.elim
theorem RVs.rep {K : PySem.W.Frag} {ρ : Pl} {H : Hp} {xs : List Val} {ws : List V} (r : RVs K ρ H xs ws) : ∀ n : Nat, RVs K ρ H (List.replicate n xs).flatten (List.replicate n ws).flatten
  | 0 => .nil
  | n + 1 => by
    rw [List.replicate_succ, List.replicate_succ, List.flatten_cons, List.flatten_cons]
    exact r.append (RVs.rep r n)
theorem df_rep (ha : DE X W a da) (hb : DE X W b db) : DF X W (.BinOp a .Mult b pos) (fRep da db) := by
  refine ⟨PE.weak (pe_op op_rep ha.pe hb.pe) fun σ H Q h => ?_⟩
  obtain ⟨ρ, S, L, sim, h⟩ := h
  refine two sim h fun x y S2 ρ2 H2 wx wy e2 s2 rx ry h2 => ?_
  split at h2
  · rename_i xs kk q1
    obtain ⟨p1, v1, rfl, r1, l1⟩ := lst_read s2 rx q1
    split at h2
    · rename_i hz
      exact ⟨p1, kk, v1, rfl, ry.int_inv, l1, hz.1, hz.2.1, by rw [r1.length]; exact hz.2.2, fun p hp => h2 ρ2 H2 _ Ext.refl s2 (r1.rep _) p hp⟩
    · exact h2.elim
  · exact h2.elim
theorem RVs.strs {K : PySem.W.Frag} {ρ : Pl} {H : Hp} : ∀ (ns : List Str), RVs K ρ H (ns.map Val.str) (ns.map V.str)
  | [] => .nil
  | n :: ns => .cons (.mk_str n) (RVs.strs ns)
theorem df_split (ho : DE X W o dd) (he : DE X W e d) (hs : starEach [e] X.env = [(false, eval e X.env)] := by rfl) (hbase : attributeBase o "split" X.env (eval o X.env) = eval o X.env := by rfl) (hline : (apos.endLine == pos.line) = true := by rfl) :
    DF X W (.Call (.Attribute o "split" apos) [e] [] pos) (fSplit dd d) := by
  refine ⟨PE.weak (pe_split ho.pe he.pe hs hbase hline) fun σ H Q h => ?_⟩
  obtain ⟨ρ, S, L, sim, h⟩ := h
  refine ⟨ρ, S, L, sim, Post.bind (Rel' := RVs X.K) h fun v S1 ρ1 H1 w _ e1 s1 r1 h1 => ?_⟩
  split at h1
  · rename_i z _
    obtain rfl := r1.str_inv
    refine ⟨⟨z, rfl⟩, ρ1, S1, L, sim.next e1 s1, Post.bind (Rel' := RVs X.K) h1 fun v2 S2 ρ2 H2 w2 _ e2 s2 r2 h2 => ?_⟩
    split at h2
    · rename_i s _
      obtain rfl := r2.str_inv
      split at h2
      · rename_i hz
        exact ⟨z, s, rfl, rfl, hz.1, hz.2, fun p hp => h2 ρ2 H2 _ Ext.refl s2 (RVs.strs _) p hp⟩
      · exact h2.elim
    · exact h2.elim
  · exact h1.elim
/-! ### a dict display -/
def lPairs (K : PySem.W.Frag) (W : XW) : List (E × E) → List (TE × TE)
  | [] => []
  | (k, v) :: r => (lE K W k, lE K W v) :: lPairs K W r
def pOf : List (E × E) → Gx.P
  | [] => pNil
  | (k, v) :: r => pCons k v (pOf r)
structure DPs (X : Cx) (W : XW) (pos : Pos) (keys : List (Option Expr)) (values : List Expr) (ds : List (E × E)) : Prop where
  pps : PPs X pos keys values (lPairs X.K W ds)
theorem dps_nil : DPs X W pos [] [] [] := ⟨pps_nil⟩
theorem dps_cons {kk v : Expr} {ks : List (Option Expr)} {vs : List Expr} {dk dv : E} {ds : List (E × E)} (hk : DE X W kk dk) (hv : DE X W v dv) (hr : DPs X W pos ks vs ds) : DPs X W pos (some kk :: ks) (v :: vs) ((dk, dv) :: ds) := ⟨pps_cons hk.pe hv.pe hr.pps⟩
/-- pairs of ours beside pairs of the layer -/
def RVP (K : PySem.W.Frag) (ρ : Pl) (H : Hp) : List (Val × Val) → List (V × V) → Prop
  | [], ws => ws = []
  | (k, x) :: xs, ws => ∃ u w r, ws = (u, w) :: r ∧ RV K ρ H k u ∧ RV K ρ H x w ∧ RVP K ρ H xs r
theorem RVP.ext {K : PySem.W.Frag} {ρ ρ' : Pl} {H H' : Hp} (e : ExtB ρ H ρ' H') : ∀ {xs : List (Val × Val)} {ws : List (V × V)}, RVP K ρ H xs ws → RVP K ρ' H' xs ws
  | [], _, h => h
  | (k, x) :: xs, _, h => by
    obtain ⟨u, w, r, rfl, h1, h2, h3⟩ := h
    exact ⟨u, w, r, rfl, h1.extB e, h2.extB e, RVP.ext e h3⟩
theorem pairs_lift {K : PySem.W.Frag} {σ : L2.St} : ∀ {ds : List (E × E)} {ρ : Pl} {H : Hp} {S : Store} {L : Loc} {Q : List (V × V) → Hp → Prop}, Sim K ρ H L S σ → Post K W (RVP K) ρ H σ (pOf ds L S) Q → tPairs (lPairs K W ds) σ H Q
  | [], ρ, H, S, L, Q, sim, h => h ρ H [] Ext.refl sim.st rfl
  | (dk, dv) :: ds, ρ, H, S, L, Q, sim, h => by
    refine two sim h fun x y S2 ρ2 H2 wx wy e2 s2 rx ry h2 => ?_
    refine pairs_lift (sim.next e2 s2) (Post.bind (Rel' := RVP K) h2 fun ps S3 ρ3 H3 ws _ e3 s3 r3 h3 => ?_)
    exact h3 ρ3 H3 _ Ext.refl s3 ⟨wx, wy, ws, rfl, rx.ext e3, ry.ext e3, r3⟩
theorem keys_rvp {K : PySem.W.Frag} {ρ : Pl} {H : Hp} : ∀ {ps : List (Val × Val)} {kvs : List (Key × Val)} {ws : List (V × V)}, keysOf ps = some kvs → RVP K ρ H ps ws → ∃ us : List (Key × V), ws = us.map (fun kv => (kV kv.1, kv.2)) ∧ RVK K ρ H kvs us
  | [], kvs, ws, e, h => by
    simp only [keysOf, Option.some.injEq] at e
    subst e
    have h : ws = [] := h
    subst h
    exact ⟨[], rfl, by unfold RVK; rfl⟩
  | (k, v) :: r, kvs, ws, e, h => by
    obtain ⟨u, w, rr, rfl, h1, h2, h3⟩ := h
    unfold keysOf at e
    split at e
    · rename_i kk rk e1 e2
      cases e
      obtain ⟨us, rfl, h4⟩ := keys_rvp e2 h3
      refine ⟨(kk, w) :: us, by rw [key_rv h1 e1]; rfl, ?_⟩
      unfold RVK
      exact ⟨w, us, rfl, h2, h4⟩
    · cases e
theorem RVK.merge {K : PySem.W.Frag} {ρ : Pl} {H : Hp} : ∀ {more : List (Key × Val)} {us : List (Key × V)} {kvs : List (Key × Val)} {ws : List (Key × V)}, RVK K ρ H more us → RVK K ρ H kvs ws → RVK K ρ H (mergeV kvs more) (mergeK ws us)
  | [], us, kvs, ws, h, g => by unfold RVK at h; subst h; exact g
  | (k, v) :: r, us, kvs, ws, h, g => by
    unfold RVK at h
    obtain ⟨w, rr, rfl, h1, h2⟩ := h
    exact RVK.merge (kvs := putV kvs k v) (ws := putK ws k w) h2 (RVK.put h1 g)
/-- what was being made at D is let go: as if D had not been there -/
theorem let_go {K : PySem.W.Frag} {ρ1 ρ2 : Pl} {H1 H2 : Hp} {D : Addr} {S1 S2 : Store} {o : HO} (s1 : StOk K ρ1 H1 S1) (hD : H1 D = none) (e2 : ExtB ρ1 H1 ρ2 H2) (m2 : ρ2.m = D :: ρ1.m) (s2 : StOk K ρ2 H2 S2) (hD2 : H2 D = some o) (hn : Mut (some o)) :
    ∃ H0 : Hp, H0 D = none ∧ (∀ u, upd H0 D u = upd H2 D u) ∧ Ext ρ1 H1 ⟨ρ2.c, ρ1.m⟩ H0 ∧ StOk K ⟨ρ2.c, ρ1.m⟩ H0 S2 ∧ (∀ x w, RV K ρ2 H2 x w → RV K ⟨ρ2.c, ρ1.m⟩ H0 x w) ∧ ∀ xs ws, RVK K ρ2 H2 xs ws → RVK K ⟨ρ2.c, ρ1.m⟩ H0 xs ws := by
  have hDm : D ∈ ρ2.m := by rw [m2]; exact List.mem_cons_self
  have hDc : D ∉ ρ2.c := (s2.bz D hDm).2
  have nd : ∀ {a : Addr} {u : HO}, H2 a = some u → ¬ Mut (some u) → a ≠ D := fun q nm z => by subst z; rw [hD2] at q; cases q; exact nm hn
  have fz : ∀ a u, Fz ρ2 H2 a u → Fz ⟨ρ2.c, ρ1.m⟩ (fun a => if a = D then none else H2 a) a u := fun a u q => by
    rcases q with ⟨o, q⟩ | ⟨q, q1, q2⟩
    · exact .inl ⟨o, (if_neg (nd q (by intro z; exact z))).trans q⟩
    · exact .inr ⟨(if_neg fun z => q2 (by rw [z]; exact hDm)).trans q, q1, fun z => q2 (by rw [m2]; exact List.mem_cons_of_mem _ z)⟩
  have fu : ∀ a u, Fu ρ2 H2 a u → Fu ⟨ρ2.c, ρ1.m⟩ (fun a => if a = D then none else H2 a) a u := fun a u ⟨q, q1, q2⟩ =>
    ⟨(if_neg fun z => q2 (by rw [z]; exact hDm)).trans q, q1, fun z => q2 (by rw [m2]; exact List.mem_cons_of_mem _ z)⟩
  have sq : ∀ a us, SqT K H2 a us → SqT K (fun a => if a = D then none else H2 a) a us := fun a us q => by
    rcases q with (q | ⟨b, q⟩) | q
    · exact .inl (.inl ((if_neg (nd q (by intro z; exact z))).trans q))
    · exact .inl (.inr ⟨b, (if_neg (nd q (by intro z; exact z))).trans q⟩)
    · exact .inr q
  have ne1 : ∀ a o, H1 a = some o → a ≠ D := fun a o q => ne_of_none q hD
  refine ⟨fun a => if a = D then none else H2 a, if_pos rfl, fun u => ?_, .mk' e2.pre rfl (fun a o q k => (if_neg (ne1 a o q)).trans (e2.fix a o q k)) e2.new (fun a q => ?_),
    s2.map fz fu sq rfl (fun a ha => if_neg fun (z : a = D) => hDc (by rw [← z]; exact ha)) (fun a ha => ?_), fun x w h => h.map fz fu sq rfl, fun xs ws h => h.map fz fu sq rfl⟩
  · funext a
    by_cases ea : a = D
    · rw [ea, upd_same, upd_same]
    · rw [upd_ne ea, upd_ne ea]; exact if_neg ea
  · by_cases ea : a = D
    · rw [ea]; exact hD
    · rw [if_neg ea] at q; exact e2.live a q
  · obtain ⟨⟨o, ho⟩, hn⟩ := s2.bz a (by rw [m2]; exact List.mem_cons_of_mem _ ha)
    obtain ⟨⟨o1, ho1⟩, _⟩ := s1.bz a ha
    exact ⟨⟨o, (if_neg (ne1 a o1 ho1)).trans ho⟩, hn⟩
theorem start_busy {K : PySem.W.Frag} {ρ : Pl} {H : Hp} {D : Addr} {S : Store} {L : Loc} {σ : L2.St} {o : HO} (sim : Sim K ρ H L S σ) (hD : H D = none) : Sim K ⟨ρ.c, D :: ρ.m⟩ (upd H D o) L S σ := by
  have a : StOk K ρ (upd H D o) S := sim.st.new hD
  refine ⟨⟨a.len, a.nd, fun b hb => ?_, fun n c hn => ?_⟩, ⟨sim.loc.1, fun i v q => ?_⟩⟩
  · rcases List.mem_cons.mp hb with z | z
    · subst z; exact ⟨⟨_, upd_same⟩, sim.st.fresh hD⟩
    · exact a.bz b z
  · obtain ⟨p, hp, rc⟩ := sim.st.cell n c hn
    exact ⟨p, hp, RC.map (fun a u q => (ext_busy hD).fz q) (fun a u q => (ext_busy hD).fu q) (fun a ws q => (ext_busy (ρ := ρ) hD).sqt q) rfl (upd_ne fun z => sim.st.fresh hD (z ▸ List.mem_of_getElem? hp)) rc⟩
  · obtain ⟨w, q1, q2⟩ := sim.loc.2 i v q
    exact ⟨w, q1, q2.extB (ext_busy hD)⟩
theorem de_dict {keys : List (Option Expr)} {values : List Expr} {ds : List (E × E)} (m : Bool) (h : DPs X W pos keys values ds) (hall : keys.all (·.isSome) = true) (hl : keys.length = values.length) (h0 : keys ≠ []) (h15 : keys.length ≤ 15) : DE X W (.Dict keys values pos) (eDict m (pOf ds)) := by
  refine ⟨PE.weak (pe_disp h.pps hall hl h0 h15) fun σ H Q h => ?_⟩
  obtain ⟨ρ, S, L, sim, h⟩ := h
  intro D hD
  have sim1 : Sim X.K ⟨ρ.c, D :: ρ.m⟩ (upd H D (.dK [])) L S σ := start_busy sim hD
  have eb : ExtB ρ H ⟨ρ.c, D :: ρ.m⟩ (upd H D (.dK [])) := ext_busy hD
  refine pairs_lift sim1 ?_
  unfold eDict at h
  cases q : pOf ds L S with
  | bad => rw [q] at h; exact h.elim
  | exn y S1 => rw [q] at h; exact h.elim
  | ok ps S1 =>
    rw [q] at h
    simp only [calm, R.bind_ok] at h
    intro ρ2 H2 ws e2 s2 rp
    have hD2 : H2 D = some (.dK []) := e2.fix D _ upd_same (.inl (sim1.st.bz D (List.mem_cons_self)).2)
    refine ⟨hD2, ?_⟩
    split at h
    · rename_i kvs ek
      split at h
      · rename_i hz
        obtain ⟨us, rfl, rk⟩ := keys_rvp ek rp
        obtain ⟨H0, g0, g1, g2, g3, g4, g5⟩ := let_go sim.st hD (eb.trans e2.toExtB) e2.eqm s2 hD2 trivial
        refine ⟨us, rfl, by rw [rk.len]; exact hz, ?_⟩
        rw [← g1]
        have rm : RVK X.K ⟨ρ2.c, ρ.m⟩ H0 (mergeV [] kvs) (mergeK [] us) := RVK.merge (g5 _ _ rk) (by unfold RVK; rfl)
        cases m with
        | true =>
          rw [if_pos rfl] at h
          refine h _ _ _ (g2.trans (ext_cell g0)) (g3.alloc g0 ⟨_, upd_same, rm.ext (ext_cell g0)⟩) ?_
          unfold RV
          exact ⟨D, by show (ρ2.c ++ [D])[S1.length]? = some D; rw [show S1.length = ρ2.c.length from g3.len.symm, List.getElem?_concat_length], rfl⟩
        | false =>
          rw [if_neg (by simp)] at h
          refine h _ _ _ (g2.trans (ext_new g0)) (g3.new g0) ?_
          unfold RV
          exact ⟨D, _, rfl, fz_new g3 g0, rm.ext (ext_new g0)⟩
      · exact h.elim
    · exact h.elim
end
end Gx
end
section
set_option Elab.async false
set_option linter.all false
set_option maxHeartbeats 1000000
set_option autoImplicit false
/-! Gx: repr of data; frames in which no repr runs. -/
namespace Gx
open PySem PySem.Spec PyProof.Rows L2
/-! ### a value as data -/
def pdKey : L2.Key → PyData
  | .inl i => .int i
  | .inr x => .str x
mutual
def pdV (r : Nat → Option PyData) : Val → Option PyData
  | .non => some .none
  | .bl b => some (.bool b)
  | .int i => some (.int i)
  | .str s => some (.str s)
  | .ty _ => none
  | .gl _ => none
  | .tup xs => (pdVs r xs).map .tuple
  | .lst xs => (pdVs r xs).map .list
  | .frz xs => (pdVs r xs).map .list
  | .dct kvs => (pdVK r kvs).map .dict
  | .obj _ _ => none
  | .ref n => r n
def pdVs (r : Nat → Option PyData) : List Val → Option (List PyData)
  | [] => some []
  | x :: xs => (pdV r x).bind fun y => (pdVs r xs).map (y :: ·)
def pdVK (r : Nat → Option PyData) : List (L2.Key × Val) → Option (List (PyData × PyData))
  | [] => some []
  | (k, x) :: xs => (pdV r x).bind fun y => (pdVK r xs).map ((pdKey k, y) :: ·)
end
def pdR (S : Store) : Nat → Nat → Option PyData
  | 0, _ => none
  | k + 1, n => match S[n]? with
    | some (.lst xs) => (pdVs (pdR S k) xs).map .list
    | some (.dct kvs) => (pdVK (pdR S k) kvs).map .dict
    | _ => none
def bRepr : FV := fun xs S => match xs with
  | [v] => match pdV (pdR S 8) v with
    | some d => if d.showable = true ∧ d.depth ≤ 100 ∧ d.shown.length ≤ sizeLine then .ok (.str d.shown) S else .bad
    | none => .bad
  | _ => .bad

/-- sys.modules lies in the base -/
def SysB (base : Heap) : Prop := ∃ m, base.Ns sysModules m
section
variable {X : Cx} {pins : List (Addr × Obj)} {σ : L2.St} {H : Hp} {s : Shared} {ρ : Pl} {S : Store}
theorem held_ne (I : Inv X pins σ H s) (hM : SysB X.base) {a : Addr} {u : HO} (h : H a = some u) : a ≠ sysModules := fun z => by
  obtain ⟨m, o, es, ep, ho, _⟩ := hM
  have q := (I.bs _ _ ho).2
  rw [← z, h] at q; cases q
/-- a value that is read in the heap -/
def RdAs (s : Shared) (w : V) (d : PyData) : Prop := ∀ u, RelV w u → ∃ as, Reads s.heap u d as ∧ sysModules ∉ as
def RdAll (s : Shared) (ws : List V) (ds : List PyData) : Prop := ∀ us, Vals ws us → ∃ as, ReadsAll s.heap us ds as ∧ sysModules ∉ as
theorem rd_list (I : Inv X pins σ H s) (hM : SysB X.base) {a : Addr} {ws : List V} {ds : List PyData} (h : SqL X.K H a ws) (hr : RdAll s ws ds) : RdAs s (.ref a) (.list ds) := fun u ru => by
  obtain rfl : u = Value.ref a := ru
  obtain ⟨its, r, ⟨o, n, e1, e2, e3, e4⟩, _⟩ := I.list h
  obtain ⟨as, q1, q2⟩ := hr _ r
  have ne : a ≠ sysModules := by
    rintro rfl
    obtain ⟨m, o', es, ep, ho, hd, _⟩ := hM
    have q := (I.bs _ _ ho).1
    rw [e1] at q; cases q
    rw [e4] at hd; cases hd
  exact ⟨a :: as, .list e1 e2 e4 (by simpa using q1), fun z => by rcases List.mem_cons.mp z with z | z; exact ne z.symm; exact q2 z⟩
theorem rd_tuple (I : Inv X pins σ H s) {a : Addr} {ws : List V} {ds : List PyData} (h : SqT X.K H a ws) (hr : RdAll s ws ds) : RdAs s (.ref a) (.tuple ds) := fun u ru => by
  obtain rfl : u = Value.ref a := ru
  obtain ⟨its, r, ⟨o, e1, e2, n, e4⟩, _⟩ := I.tuple h
  obtain ⟨as, q1, q2⟩ := hr _ r
  exact ⟨as, .tuple e1 e2 e4 (by simpa using q1), q2⟩
theorem reads_keys {P : Program} {w : World} {h : Heap} : ∀ {es : List DictEntry} {kvs : List (Key × Value)}, Pairs (mixKind P w) es kvs → ReadsAll h (es.map (·.key)) (kvs.map fun kv => pdKey kv.1) []
  | _, _, .nil => .nil
  | _, _, .cons (e := e) (kv := kv) h1 h2 h3 => by
    have : Reads h e.key (pdKey kv.1) [] := by
      rcases keyIs_shape h1 with ⟨i, t, e1, e2⟩ | ⟨x, t, e1, e2⟩
      · rw [e1, e2]; exact .int i t
      · rw [e1, e2]; exact .str x t
    simpa using ReadsAll.cons this (reads_keys h3)
theorem pairs_vals {P : Program} {w : World} : ∀ {es : List DictEntry} {kvs : List (Key × Value)}, Pairs (mixKind P w) es kvs → es.map (·.val) = kvs.map (·.2)
  | _, _, .nil => rfl
  | _, _, .cons h1 h2 h3 => by simp only [List.map_cons, h2, pairs_vals h3]
theorem kv_vals : ∀ {ws : List (Key × V)} {vs : List (Key × Value)}, KV ws vs → Vals (ws.map (·.2)) (vs.map (·.2)) ∧ ws.map (·.1) = vs.map (·.1)
  | _, _, .nil => ⟨.nil, rfl⟩
  | _, _, .cons h t => ⟨.cons h.2 (kv_vals t).1, by simp only [List.map_cons, h.1, (kv_vals t).2]⟩
theorem rd_dict (I : Inv X pins σ H s) {a : Addr} {ws : List (Key × V)} {ds : List (PyData × PyData)} (h : H a = some (.dK ws)) (hk : ds.map (·.1) = ws.map fun kv => pdKey kv.1) (hr : RdAll s (ws.map (·.2)) (ds.map (·.2))) : RdAs s (.ref a) (.dict ds) := fun u ru => by
  obtain rfl : u = Value.ref a := ru
  obtain ⟨_, hd, vs, kv, o, es, ep, e1, e2, e3, e4, e5, e6⟩ := dk_of I.hok h
  obtain ⟨r1, r2⟩ := kv_vals kv
  obtain ⟨as, q1, q2⟩ := hr _ r1
  refine ⟨a :: [] ++ as, .dict e1 e2.1 e3 ?_ ?_, fun z => ?_⟩
  · have := reads_keys (h := s.heap) e5
    rw [hk]
    have e : (ws.map fun kv => pdKey kv.1) = vs.map fun kv => pdKey kv.1 := by
      have := congrArg (List.map pdKey) r2
      simpa only [List.map_map, Function.comp_def] using this
    rw [e]
    simpa using this
  · rw [← pairs_vals e5] at q1
    simpa using q1
  · rcases List.mem_cons.mp z with z | z
    · subst z; simp at hd
    · exact q2 z
mutual
theorem pd_reads (I : Inv X pins σ H s) (hM : SysB X.base) {r : Nat → Option PyData} (hr : ∀ n d a, r n = some d → ρ.c[n]? = some a → RdAs s (.ref a) d) : ∀ {v : Val} {w : V} {d : PyData}, RV X.K ρ H v w → pdV r v = some d → RdAs s w d
  | .non, w, d, h, e => by
    simp only [pdV, Option.some.injEq] at e; subst e
    obtain rfl := h.non_inv
    intro u ru; obtain rfl : u = Value.none := ru
    exact ⟨[], .none, by simp⟩
  | .bl b, w, d, h, e => by
    simp only [pdV, Option.some.injEq] at e; subst e
    obtain rfl := h.bl_inv
    intro u ru; obtain rfl : u = Value.bool b := ru
    exact ⟨[], .bool b, by simp⟩
  | .int i, w, d, h, e => by
    simp only [pdV, Option.some.injEq] at e; subst e
    obtain rfl := h.int_inv
    intro u ru; obtain ⟨t, rfl⟩ := ru
    exact ⟨[], .int i t, by simp⟩
  | .str x, w, d, h, e => by
    simp only [pdV, Option.some.injEq] at e; subst e
    obtain rfl := h.str_inv
    intro u ru; obtain ⟨t, rfl⟩ := ru
    exact ⟨[], .str x t, by simp⟩
  | .ty _, w, d, h, e => by simp only [pdV] at e; cases e
  | .gl _, w, d, h, e => by simp only [pdV] at e; cases e
  | .obj _ _, w, d, h, e => by simp only [pdV] at e; cases e
  | .tup xs, w, d, h, e => by
    simp only [pdV, Option.map_eq_some_iff] at e
    obtain ⟨ds, e, rfl⟩ := e
    obtain ⟨a, ws, rfl, h1, h2⟩ := h.tup_inv
    exact rd_tuple I h1 (pds_reads I hM hr h2 e)
  | .lst xs, w, d, h, e => by
    simp only [pdV, Option.map_eq_some_iff] at e
    obtain ⟨ds, e, rfl⟩ := e
    obtain ⟨a, ws, rfl, h1, h2⟩ := h.lst_inv
    exact rd_list I hM (.inl (.inl h1.1)) (pds_reads I hM hr h2 e)
  | .frz xs, w, d, h, e => by
    simp only [pdV, Option.map_eq_some_iff] at e
    obtain ⟨ds, e, rfl⟩ := e
    obtain ⟨a, ws, rfl, h1, h2⟩ := h.frz_inv
    exact rd_list I hM h1.sqL (pds_reads I hM hr h2 e)
  | .dct kvs, w, d, h, e => by
    simp only [pdV, Option.map_eq_some_iff] at e
    obtain ⟨ds, e, rfl⟩ := e
    unfold RV at h
    obtain ⟨a, ws, rfl, h1, h2⟩ := h
    obtain ⟨k1, k2⟩ := pdk_reads I hM hr h2 e
    exact rd_dict I h1.1 k1 k2
  | .ref n, w, d, h, e => by
    simp only [pdV] at e
    obtain ⟨a, h1, rfl⟩ := h.ref_inv
    exact hr n d a e h1
theorem pds_reads (I : Inv X pins σ H s) (hM : SysB X.base) {r : Nat → Option PyData} (hr : ∀ n d a, r n = some d → ρ.c[n]? = some a → RdAs s (.ref a) d) : ∀ {v : List Val} {w : List V} {d : List PyData}, RVs X.K ρ H v w → pdVs r v = some d → RdAll s w d
  | [], w, d, h, e => by
    simp only [pdVs, Option.some.injEq] at e; subst e
    unfold RVs at h; subst h
    intro us r; cases r
    exact ⟨[], .nil, by simp⟩
  | x :: xs, w, d, h, e => by
    simp only [pdVs, Option.bind_eq_some_iff, Option.map_eq_some_iff] at e
    obtain ⟨y, e1, ys, e2, rfl⟩ := e
    obtain ⟨u, ws, rfl, h1, h2⟩ := h.inv
    intro us r
    cases r with
    | cons r1 r2 =>
      obtain ⟨as, q1, q2⟩ := pd_reads I hM hr h1 e1 _ r1
      obtain ⟨bs, q3, q4⟩ := pds_reads I hM hr h2 e2 _ r2
      exact ⟨as ++ bs, .cons q1 q3, by simp [q2, q4]⟩
theorem pdk_reads (I : Inv X pins σ H s) (hM : SysB X.base) {r : Nat → Option PyData} (hr : ∀ n d a, r n = some d → ρ.c[n]? = some a → RdAs s (.ref a) d) : ∀ {v : List (Key × Val)} {w : List (Key × V)} {d : List (PyData × PyData)}, RVK X.K ρ H v w → pdVK r v = some d → (d.map (·.1) = w.map fun kv => pdKey kv.1) ∧ RdAll s (w.map (·.2)) (d.map (·.2))
  | [], w, d, h, e => by
    simp only [pdVK, Option.some.injEq] at e; subst e
    unfold RVK at h; subst h
    refine ⟨rfl, fun us r => ?_⟩
    cases r
    exact ⟨[], .nil, by simp⟩
  | (k, x) :: xs, w, d, h, e => by
    simp only [pdVK, Option.bind_eq_some_iff, Option.map_eq_some_iff] at e
    obtain ⟨y, e1, ys, e2, rfl⟩ := e
    unfold RVK at h
    obtain ⟨u, ws, rfl, h1, h2⟩ := h
    obtain ⟨k1, k2⟩ := pdk_reads I hM hr h2 e2
    refine ⟨by simp only [List.map_cons, k1], fun us r => ?_⟩
    cases r with
    | cons r1 r2 =>
      obtain ⟨as, q1, q2⟩ := pd_reads I hM hr h1 e1 _ r1
      obtain ⟨bs, q3, q4⟩ := k2 _ r2
      exact ⟨as ++ bs, .cons q1 q3, by simp [q2, q4]⟩
end
theorem pdr_reads (I : Inv X pins σ H s) (hM : SysB X.base) (st : StOk X.K ρ H S) : ∀ (k n : Nat) (d : PyData) (a : Addr), pdR S k n = some d → ρ.c[n]? = some a → RdAs s (.ref a) d
  | 0, n, d, a, e, _ => by unfold pdR at e; cases e
  | k + 1, n, d, a, e, h => by
    unfold pdR at e
    split at e
    · rename_i xs q
      obtain ⟨a', ha, ws, h1, h2⟩ := st.cell n _ q
      rw [h] at ha; cases ha
      simp only [Option.map_eq_some_iff] at e
      obtain ⟨ds, e, rfl⟩ := e
      exact rd_list I hM (.inl (.inl h1)) (pds_reads I hM (pdr_reads I hM st k) h2 e)
    · rename_i xs q
      obtain ⟨a', ha, ws, h1, h2⟩ := st.cell n _ q
      rw [h] at ha; cases ha
      simp only [Option.map_eq_some_iff] at e
      obtain ⟨ds, e, rfl⟩ := e
      obtain ⟨k1, k2⟩ := pdk_reads I hM (pdr_reads I hM st k) h2 e
      exact rd_dict I h1 k1 k2
    · cases e
end
theorem repr_leaf {X : Cx} {pins : List (Addr × Obj)} {σ : L2.St} {H : Hp} {s : Shared} {Q : VK} {d : PyData} {u : Value} {as : List Addr} (I : Inv X pins σ H s) (hg : X.A.guards = some []) (hu : X.A.units + 128 < cLine) (r : Reads s.heap u d as) (hM : sysModules ∉ as)
    (hs : d.showable = true) (hd : d.depth ≤ 100) (hz : d.shown.length ≤ sizeLine) (h : Q (.str d.shown) H) : wpAny (model X.prog X.w) X.A (call (.builtin "repr") [u]) (EP X pins σ Q) X.xe s := by
  have fin : ∀ h' u tk, (∀ b o, s.heap.get? b = some o → h'.get? b = some o) → EP X pins σ Q (.str d.shown u) { s with heap := h', toks := tk } := fun h' u tk k => ⟨.str d.shown, H, I.kept k, ⟨_, rfl⟩, h⟩
  have fin1 : ∀ d' : PyData, d'.shown = d.shown → EP X pins σ Q (.str d'.shown s.toks) { s with toks := s.toks + 1 } := fun d' e => by rw [e]; exact fin s.heap _ _ fun _ _ e => e
  cases r with
  | none => exact PySem.P.repr_of_none (by simpa [PyData.shown] using fin1 .none rfl)
  | bool b => exact PySem.P.repr_of_bool (by simpa [PyData.shown] using fin1 (.bool b) rfl)
  | int i t => exact PySem.P.repr_of_int (by simpa [PyData.showable] using hs) (by simpa [PyData.shown] using fin1 (.int i) rfl)
  | str x t => exact PySem.P.repr_of_str (by simpa [PyData.shown] using fin1 (.str x) rfl) (by simpa [PyData.shown] using hz)
  | list h1 h2 h3 h4 => exact repr_of_reads' (.list h1 h2 h3 h4) hs (fun _ => hM) hg (by omega) (fun _ _ e => e) fin hz
  | tuple h1 h2 h3 h4 => exact repr_of_reads' (.tuple h1 h2 h3 h4) hs (fun _ => hM) hg (by omega) (fun _ _ e => e) fin hz
  | dict h1 h2 h3 h4 h5 => exact repr_of_reads' (.dict h1 h2 h3 h4 h5) hs (fun _ => hM) hg (by omega) (fun _ _ e => e) fin hz
theorem cd_repr {X : Cx} {W : XW} (hg : X.A.guards = some []) (hu : X.A.units + 128 < cLine) (hM : SysB X.base) : CallR X (.builtin "repr") (lC X.K W bRepr) := by
  intro pins s σ H ws us Q I r h
  obtain ⟨σ', ρ, S, xs, st, rv, post⟩ := h
  unfold bRepr at post
  split at post
  · rename_i v
    obtain ⟨w, rfl, rw'⟩ := rvs1 rv
    split at post
    · rename_i d e
      split at post
      · rename_i hz
        obtain ⟨u, rfl, ru⟩ := vals1 r
        obtain ⟨as, q1, q2⟩ := pd_reads I hM (pdr_reads I hM st 8) rw' e u ru
        exact repr_leaf I hg hu q1 q2 hz.1 hz.2.1 hz.2.2 (post ρ H _ Ext.refl st (.mk_str _))
      · exact post.elim
    · exact post.elim
  · exact post.elim
end Gx
end
section
set_option Elab.async false
set_option linter.all false
set_option maxHeartbeats 1000000
set_option autoImplicit false
/-! Gx: defs that are run where no repr runs. -/
namespace Gx
open PySem PySem.Spec PyProof.Rows L2
/-- a def's promise, kept in every frame with no repr below it -/
structure GFn (P : Program) (w : World) (K : PySem.W.Frag) (mg : Str → Option Value) (base : Heap) (CX : CXT) (k : Nat) (f : Addr) (fd : FuncData) (ps : List Str) (sp : Sp) : Prop where
  len : ∀ vs H Q E, sp vs H Q E → vs.length = ps.length
  run : ∀ (A : Around) (outer : List Env) (s : Shared) (H : Hp) (args : Args) (us : List Value) (vs : List V) (Q : VK) (E : XK), A.guards = some [] → Room k A → Env0 P w K mg base A outer s H → BindsTo s fd args (ps.zip us) → Vals vs us → sp vs H Q E →
    codeAny (model P w) A (.call (.ref f) args) (CR CX outer P w H s Q E) s
section
variable {P : Program} {w : World} {K : PySem.W.Frag} {mg : Str → Option Value} {base : Heap} {CX : CXT}
theorem guards_deeper {A : Around} {env : Env} (h : A.guards = some []) : (A.deeper env).guards = some [] := by
  first | exact h | simpa [Around.deeper] using h
theorem gfn_of {k : Nat} {f : Addr} {name qual : Str} {params : Arguments} {body : List Stmt} {scope : Scope} {dV kV doc pm cdv ct oc : Value} {an od : Option Addr}
    {osl : Array (Option Value)} {N ps : List Str} {sp : Sp} (lk : K.lookup f = some ⟨oc, od, .func (PySem.W.fnOf name qual params body scope dV kV doc pm an cdv ct), osl⟩) (hcd : PySem.W.codeIn K cdv qual = true) (S : FnScope N ps scope)
    (len : ∀ vs H Q E, sp vs H Q E → vs.length = ps.length)
    (hbody : ∀ (A : Around) (outer : List Env) (s : Shared) (H : Hp) (vs : List V) (Q : VK) (E : XK), (A.deeper (envOfC qual scope s.heap.objs.size f cdv)).guards = some [] → Room k (A.deeper (envOfC qual scope s.heap.objs.size f cdv)) → sp vs H Q E →
      ∃ t, PSs (cxOf CX P w K mg base N qual scope f cdv A outer s H E) body t ∧ t { nx := fun _ H' => Q .non H', rt := Q } (L2.start N vs) H) :
    GFn P w K mg base CX (k + 1) f (PySem.W.fnOf name qual params body scope dV kV doc pm an cdv ct) ps sp := by
  refine ⟨len, fun A outer s H args us vs Q E gd hr e0 hb r q0 => ?_⟩
  have keep : ∀ b o, base.get? b = some o → s.heap.get? b = some o := fun b o z => (e0.bs b o z).1
  have kin := e0.mod.kin.keeps keep
  have lim := e0.mod.nolimit.keeps keep
  have kinds : ∀ y ∈ ps.zip us, scope.names.lookup y.1 = some .local ∨ (scope.names.lookup y.1 = some .cell ∧ ((cellsFrom (s.heap.objs.size + 1) scope.names []).lookup y.1).isSome = true) := by
    rintro ⟨n, v⟩ hy
    rcases S.par n (List.of_mem_zip hy).1 with q | q
    · exact .inl q
    · exact .inr ⟨q, PySem.W.cellsFrom_some _ _ _ (.inl q)⟩
  refine codeAny_call_function hr.depth (kin _ _ lk) rfl S.co S.gen rfl (PySem.W.codeRec_of kin hcd) (hb _ _ _ _ (wpAny_newFunctionEnv_cells S.kind kinds fun env he s1 x => ?_))
  subst he
  obtain ⟨t, ht, hq⟩ := hbody A outer s H vs Q E (guards_deeper gd) (hr.deeper _) q0
  have J := inv_start (CX := CX) (E := E) S hr.hd e0 (len _ _ _ _ q0) r x
  refine ⟨lim.keeps x.toInCall.keep, codeAny_func (wpAny_mono (ht.run [] s1 (L2.start N vs) H _ J hq) (fun fl s' hs => ?_) fun e s' hs => hs)⟩
  cases fl with
  | ret u => obtain ⟨v, σ', H', J1, rv, z⟩ := hs; exact ⟨v, H', J1.os, J1.bare, J1.base, J1.hok, rv, z⟩
  | next => obtain ⟨σ', H', J1, z⟩ := hs; exact ⟨.non, H', J1.os, J1.bare, J1.base, J1.hok, rfl, z⟩
  | brk => obtain ⟨_, _, _, z⟩ := hs; exact z.elim
  | cont => obtain ⟨_, _, _, z⟩ := hs; exact z.elim
theorem GFn.of {k : Nat} {f : Addr} {fd : FuncData} {ps : List Str} {sp : Sp} (F : FnOk P w K mg base CX k f fd ps sp) : GFn P w K mg base CX k f fd ps sp := ⟨F.len, fun A outer s H args us vs Q E _ => F.run A outer s H args us vs Q E⟩
/-- THE RULE for a def from which nothing is raised -/
theorem gfn_ok {x qual : Str} {st : Stmt} {f : Addr} {fd : FuncData} {N ps : List Str} {k d : Nat} {db : SS} (F : Fun K x qual st f fd) (S : FnScope N ps (defScope st))
    (hb : ∀ (cdv : Value) (A : Around) (outer : List Env) (s : Shared) (H : Hp) (E : XK), (A.deeper (envOfC qual (defScope st) s.heap.objs.size f cdv)).guards = some [] → Room k (A.deeper (envOfC qual (defScope st) s.heap.objs.size f cdv)) →
      DSs (cxOf CX0 P w K mg base N qual (defScope st) f cdv A outer s H E).nox W0 (defBody st) db) : GFn P w K mg base CX0 (k + 1) f fd ps (fun vs H Q _ => spOf K (fnD ps.length N.length d db) ps.length vs H Q E0) := by
  obtain ⟨oc, od, kV, doc, pm, an, cdv, ct, osl, rfl, lk, hcd⟩ := F.ex
  refine gfn_of lk hcd S (fun vs H Q E h => spOf_len h) fun A outer s H vs Q E gd hr h => ?_
  refine ⟨_, (hb cdv A outer s H E gd hr).ps.nox, ?_⟩
  obtain ⟨ρ, S, args, st, r, l, p⟩ := h
  rw [fnD, if_pos l] at p
  exact ⟨ρ, S, startL N.length args, ⟨st, start_loc N r⟩, body_end (W := fun _ _ _ _ => False) st p⟩
end
/-- a def that may be called by its name, all its arguments given -/
structure CalG (X : Cx) (k : Nat) (x : Str) (f : F) (n : Nat) : Prop where
  bad : ∀ args S, args.length ≠ n → f args S = .bad
  ex : ∃ (a : Addr) (fd : FuncData) (ps : List Str), ps.length = n ∧ GFn X.prog X.w X.K X.mg X.base CX0 k a fd ps (fun vs H Q _ => spOf X.K f n vs H Q E0) ∧ X.mg x = some (.ref a) ∧ PySem.W.keepIn X.K (.ref a) = true ∧ Binds X.K fd ps []
section
variable {X : Cx} {W : XW} {e o : Expr} {es : List Expr} {x m : Str} {f : F} {n k j : Nat} {aa : A} {d : E} {pos p apos : Pos}
theorem run_gfn {fa : Addr} {fd : FuncData} {ps : List Str} {sp : Sp} {pins : List (Addr × Obj)} {σ : L2.St} {H : Hp} {s : Shared} {Q : VK} {us : List Value} {vs : List V} (F : GFn X.prog X.w X.K X.mg X.base CX0 k fa fd ps sp) (hg : X.A.guards = some []) (hr : Room k X.A) (hb : Binds X.K fd ps [])
    (I : Inv X pins σ H s) (r : Vals vs us) (h : sp vs H Q E0) : wpAny (model X.prog X.w) X.A (call (.ref fa) us) (EP X pins σ Q) X.xe s := by
  have b := hb s us I.kIn (by rw [List.append_nil, ← r.length]; exact F.len _ _ _ _ h)
  rw [List.append_nil] at b
  refine wpAny_call (codeAny_mono (F.run X.A X.stack s H ⟨us, []⟩ us vs Q E0 hg hr I.env0 b r h) fun rr s' z => ?_)
  match rr, z with
  | .error e, z => exact z.elim
  | .ok (.ret u), z => exact I.after z
  | .ok .next, z => exact z.elim
  | .ok .brk, z => exact z.elim
  | .ok .cont, z => exact z.elim
theorem de_callG (c : CalG X k x f n) (gd : X.A.guards = some []) (hr : Room k X.A) (hg : Gl X x) (ha : DA X W0 (e :: es) aa) (hdb : (x == ("__debug__" : Str)) = false := by decide)
    (he : starEach (e :: es) X.env = (false, eval e X.env) :: starEach es X.env := by rfl) (hpl : (backTo pos (starEach es X.env)).any (·.1) = false := by rfl) : DE X W0 (.Call (.Name x p) (e :: es) [] pos) (eCall f aa) := by
  obtain ⟨a, fd, ps, hn, F, hm, hk, hb⟩ := c.ex
  refine ⟨⟨fun pins s σ H Q I h => wpAny_Call_Name_kw (ld_glob I hg hm ?_ hdb)⟩⟩
  obtain ⟨ρ, S, L, sim, h⟩ := h
  have q : lA X.K W0 aa σ H fun vs H1 => (fun vs H Q _ => spOf X.K f n vs H Q E0) vs H1 Q E0 := by
    refine ⟨ρ, S, L, sim, Post.bind h fun xs S1 ρ1 H1 vs _ e1 s1 r1 h1 => ?_⟩
    by_cases hl : xs.length = n
    · exact ⟨ρ1, S1, xs, s1, r1, hl, PostW.weak h1 fun _ _ _ z => z⟩
    · rw [c.bad _ _ hl] at h1; exact h1.elim
  exact PySem.W.callWith_K (h₀ := X.base) I.ok.mod.kin hk (thn (ha.pa.run pos pins s σ H _ I q) fun us s1 ⟨vs, H1, I1, r, q1⟩ => ⟨I1.kIn, run_gfn F gd hr hb I1 r q1⟩) he hpl
theorem de_callG0 (c : CalG X k x f n) (gd : X.A.guards = some []) (hr : Room k X.A) (hg : Gl X x) (hdb : (x == ("__debug__" : Str)) = false := by decide) : DE X W0 (.Call (.Name x p) [] [] pos) (eCall f aNil) := by
  obtain ⟨a, fd, ps, hn, F, hm, hk, hb⟩ := c.ex
  refine ⟨⟨fun pins s σ H Q I h => wpAny_Call_Name_kw (ld_glob I hg hm ?_ hdb)⟩⟩
  obtain ⟨ρ, S, L, sim, h⟩ := h
  have h : Post X.K W0 (RV X.K) ρ H σ (f [] S) Q := h
  by_cases hl : ([] : List Val).length = n
  · exact PySem.W.callWith_K0 I.kIn hk (run_gfn (us := []) F gd hr hb I .nil ⟨ρ, S, [], sim.st, .nil, hl, PostW.weak h fun _ _ _ z => z⟩)
  · rw [c.bad _ _ hl] at h; exact h.elim
end
/-! ### the law's own call -/
theorem ns_sys {P : Program} {l : List Str} {mean : ExcName → Option Value} {mg mb : Str → Option Value} {h : Heap} (T : Top P l mean mg mb h) (hi : importsNone P = true) : SysB h := by
  obtain ⟨_, ⟨m, e, _⟩, _⟩ := T.seer hi
  exact ⟨m, e⟩
theorem ns_hid {h : Heap} {H : Hp} {a b : Addr} {vs : Array Value} {m : Str → Option Value} (ha : h.get? a = some { cls := .type "list", data := .seq vs }) (hA : ∀ b, H b ≠ none → b = a) (n : h.Ns b m) : (hidT h H).Ns b m := by
  obtain ⟨o, es, ep, e, d, r⟩ := n
  refine ⟨o, es, ep, hidT_get e ?_, d, r⟩
  cases q : H b with
  | none => rfl
  | some u =>
    have : b = a := hA b (by simp [q])
    subst this
    rw [ha] at e; cases e; cases d
theorem law_core {P : Program} {w : World} {K : PySem.W.Frag} {mg mb : Str → Option Value} {k : Nat} {fa a : Addr} {fd : FuncData} {x : Str} {sp : Sp} {s₁ : Shared} {vs : List Value} {H : Hp}
    (KX : K.In s₁.heap) (hns : s₁.heap.Ns mainGlobals mg) (hM : SysB s₁.heap) (hb : s₁.heap.Ns builtinsNs mb) (hbb : ∀ x : Str, x ≠ "__name__" → mb x = bootBuiltins x) (hlim : s₁.heap.NoLimit) (hg : s₁.gens = #[])
    (ha : s₁.heap.get? a = some { cls := .type "list", data := .seq vs.toArray }) (hr : Room k callerA)
    (F : ∀ base : Heap, K.In base → base.Ns mainGlobals mg → SysB base → GFn P w K mg base CX0 k fa fd [x] sp) (hbind : ∀ (s : Shared) (u : Value), BindsTo s fd ⟨[u], []⟩ [(x, u)])
    (hsp : sp [.ref a] H (fun v _ => v = .bl true) E0) (hO : Only H) (hok : HOk P w H s₁.heap) (hA : ∀ b, H b ≠ none → b = a) (hK : H a ≠ none → K.lookup a = none) :
    codeAny (model P w) callerA (.call (.ref fa) ⟨[.ref a], []⟩) (fun r s' => r = .ok (.ret (.bool true)) ∧ OldK s₁.heap s'.heap ∧ s'.os = s₁.os ∧ AllBare s'.gens) s₁ := by
  have nsH : ∀ {b : Addr} {m : Str → Option Value}, s₁.heap.Ns b m → (hidT s₁.heap H).Ns b m := fun n => ns_hid ha hA n
  have kin : K.In (hidT s₁.heap H) := fun b o e => by
    refine hidT_get (KX b o e) ?_
    by_cases z : H b = none
    · exact z
    · have := hA b z
      subst this
      rw [hK z] at e; cases e
  have lim : (hidT s₁.heap H).NoLimit := by obtain ⟨mc, h1, h2⟩ := hlim; exact ⟨mc, nsH h1, h2⟩
  have sys : SysB (hidT s₁.heap H) := by obtain ⟨m, n⟩ := hM; exact ⟨m, nsH n⟩
  have env : Env0 P w K mg (hidT s₁.heap H) callerA [] s₁ H := by
    refine ⟨rfl, ⟨kin, nsH hns, ⟨mb, nsH hb, hbb⟩, lim⟩, fun b o e => of_hidT e, Nat.le_of_eq (hidT_size _ _), trivial, ?_, hok, .of_eq hg⟩
    intro b z
    cases z
  have run := (F _ kin (nsH hns) sys).run callerA [] s₁ H ⟨[.ref a], []⟩ [.ref a] [.ref a] _ _ rfl hr env (hbind s₁ (.ref a)) (.cons rfl .nil) hsp
  refine codeAny_mono run fun r s' h => ?_
  match r, h with
  | .error e, h => exact h.elim
  | .ok .next, h => exact h.elim
  | .ok .brk, h => exact h.elim
  | .ok .cont, h => exact h.elim
  | .ok (.ret u), ⟨v, H', os, bare, un, hok', r', q⟩ =>
    have q' : v = .bl true := q
    subst q'
    obtain rfl : u = Value.bool true := r'
    refine ⟨rfl, OldK.of_keep fun b o e => ?_, os, bare⟩
    rcases hO b with z | ⟨ob, xs, z⟩
    · exact un.keep b o e z (by intro y; cases y) (by simp)
    · obtain ⟨e1, _⟩ := hok b _ z
      obtain ⟨e2, _⟩ := hok' b _ (un.frzs b ob _ z)
      rw [e] at e1; cases e1
      exact e2
/-- THE HEAD: what f gives of the script's numbers, as the law's promise -/
theorem walkG {l : PySem.W.OpenLaw} {n k : Nat} {q : Program} {loose : List Str} {XP : (Str → Option Value) → Heap → Prop} {YP : World → Heap → Prop} {d : DefRec} {K : Params → PySem.W.Frag} {f : PySem.W.Frag → F} {x : Str}
    (hn : l.most = some n) (hn2 : n ≤ sizeLine) (hdf : d.params.defaults = []) (hr : Room k callerA) (hi : importsNone q = true)
    (hY : ∀ (w : World) (h : Heap), YP w h → (K w.params).In h)
    (F : ∀ (w : World) (mg : Str → Option Value) (fa : Addr) (h : Heap), (K w.params).In h → h.Ns mainGlobals mg → mg d.name = some (.ref fa) →
      ∃ fd : FuncData, (∀ (s : Shared) (u : Value), BindsTo s fd ⟨[u], []⟩ [(x, u)]) ∧
        ∀ base : Heap, (K w.params).In base → base.Ns mainGlobals mg → SysB base → GFn l.prog w (K w.params) mg base CX0 k fa fd [x] (fun vs H Q _ => spOf (K w.params) (f (K w.params)) 1 vs H Q E0))
    (law : ∀ (K : PySem.W.Frag) (ns : List Int), ns.length ≤ n → ∃ S, f K [.frz (ns.map .int)] [] = .ok (.bl true) S) :
    PySem.W.WalkO q loose XP YP l.row.toRowW d [] (fun f vs => PySem.call f vs) := by
  refine Att.attach_call hn hdf fun w s₀ s₁ mg mb fa o pm cd doc a vs ns G Y ho hd hcd hmg hobj hints hlen hg => ?_
  have KX := hY w _ Y
  obtain ⟨fd, hb, hF⟩ := F w mg fa _ KX G.T.g hmg
  have rv := vals_ints hints
  have lenV := hints.length
  obtain ⟨S, hS⟩ := law (K w.params) ns hlen
  have rvn : ∀ (ρ : Pl) (H : Hp) (ns : List Int), RVs (K w.params) ρ H (ns.map .int) (ns.map .int) := fun ρ H ns => by
    induction ns with
    | nil => exact .nil
    | cons n ns ih => exact .cons (by unfold RV; rfl) ih
  have sp : ∀ H : Hp, SqL (K w.params) H a (ns.map V.int) → (∀ u, H a = some u → ∃ o v, u = .frz o v) → spOf (K w.params) (f (K w.params)) 1 [.ref a] H (fun v _ => v = .bl true) E0 := fun H hl hz => by
    refine ⟨⟨[], []⟩, [], [.frz (ns.map .int)], ⟨rfl, List.nodup_nil, fun _ z => (nomatch z), fun _ _ z => (nomatch z)⟩, .cons ?_ .nil, rfl, ?_⟩
    · unfold RV
      refine ⟨a, _, rfl, ?_, rvn _ _ _⟩
      rcases hl with (z | z) | z
      · obtain ⟨_, _, e⟩ := hz _ z; cases e
      · exact .inl (.inl z)
      · exact .inr z
    · rw [hS]
      intro ρ' H' w' _ _ r
      exact r.bl_inv
  cases hk : (K w.params).lookup a with
  | some o =>
    have e := KX a o hk
    rw [hobj] at e
    cases e
    refine law_core KX G.T.g (ns_sys G.T hi) G.T.b G.T.builtins G.T.nolimit hg hobj hr hF hb (H := fun _ => none) (sp _ (.inr ⟨_, vs.toArray, _, hk, rfl, rfl, rfl, by rw [List.size_toArray, lenV]; omega, by simpa using rv⟩) fun u z => nomatch z) (fun _ => .inl rfl) (fun b u z => nomatch z) (fun b z => absurd rfl z) fun z => absurd rfl z
  | none =>
    refine law_core KX G.T.g (ns_sys G.T hi) G.T.b G.T.builtins G.T.nolimit hg hobj hr hF hb (H := fun b => if b = a then some (.frz { cls := .type "list", data := .seq vs.toArray } (.lst (ns.map V.int))) else none)
      (sp _ (.inl (.inr ⟨{ cls := .type "list", data := .seq vs.toArray }, if_pos rfl⟩)) fun u z => by simp at z; exact ⟨_, _, z.symm⟩) (fun b => ?_) (fun b u z => ?_) (fun b z => ?_) fun _ => hk
    · by_cases hb : b = a
      · exact .inr ⟨_, _, if_pos hb⟩
      · exact .inl (if_neg hb)
    · by_cases hb : b = a
      · subst hb
        simp only [if_true, Option.some.injEq] at z
        subst z
        exact ⟨hobj, by rw [List.length_map]; omega, vs, _, rv, hobj⟩
      · simp [hb] at z
    · by_cases hb : b = a
      · exact hb
      · simp [hb] at z
end Gx
end
section
set_option Elab.async false
set_option linter.all false
set_option maxHeartbeats 1000000
set_option autoImplicit false
/-! Gx: in, isinstance. -/
namespace Gx
open PySem PySem.Spec PyProof.Rows L2
section
variable {X : Cx} {W : XW}
theorem od_inN (neg : Bool) (hu : X.A.units + 65 < cLine) : OpR X (compareOp (if neg then .NotIn else .In)) (lO X.K W (oIn neg)) := by
  intro pins s σ H wx wy v u Q I rx ry h
  obtain ⟨σ', ρ, S, x, y, st, hx, hy, post⟩ := h
  unfold oIn at post
  split at post
  · rename_i z
    split at post
    · rename_i w
      split at post
      · rename_i hw
        have ew : w = ⟨#[w.cps.getD 0 0]⟩ := by
          obtain ⟨⟨l⟩⟩ := w
          match l, hw with
          | [c], _ => rfl
        have q := post ρ H _ Ext.refl st (.mk_bl _)
        obtain rfl := hx.str_inv
        obtain rfl := hy.str_inv
        cases neg with
        | true => exact op_notIn_sign pins s σ H _ _ v u Q I rx ry ⟨_, z, by rw [ew], rfl, by simpa using q⟩
        | false => exact op_in_sign pins s σ H _ _ v u Q I rx ry ⟨_, z, by rw [ew], rfl, by simpa using q⟩
      · exact post.elim
    · exact post.elim
  · split at post
    · rename_i kvs ek
      split at post
      · rename_i k e2
        have q := post ρ H _ Ext.refl st (.mk_bl _)
        obtain ⟨p, ws, rfl, h1, h2⟩ := dct_read st hy ek
        obtain rfl : u = Value.ref p := ry
        have g : DGet H p wx (valV ws k) := .inl ⟨ws, k, .inl h1, key_rv hx e2, rfl⟩
        have e : (valV ws k).isSome = (getV kvs k).isSome := by
          have := RVK.find (k := k) h2
          split at this
          · rename_i z; obtain ⟨w, e1, _⟩ := this; rw [e1, z]; rfl
          · rename_i z; rw [this, z]; rfl
        cases neg with
        | true => exact d_notIn (by omega) I g rx fun s' I' => ⟨.bl _, H, I', rfl, by rw [e]; exact q⟩
        | false => exact d_in (by omega) I g rx fun s' I' => ⟨.bl _, H, I', rfl, by rw [e]; exact q⟩
      · exact post.elim
    · split at post
      · rename_i d ds e1 e2
        split at post
        · rename_i hs
          rw [Bool.and_eq_true] at hs
          have q := post ρ H _ Ext.refl st (.mk_bl _)
          cases neg with
          | true => exact op_notInD hu pins s σ H wx wy v u Q I rx ry ⟨d, ds, datS_dp st hx e1, datS_dp st hy e2, hs.1, hs.2, q⟩
          | false => exact op_inD hu pins s σ H wx wy v u Q I rx ry ⟨d, ds, datS_dp st hx e1, datS_dp st hy e2, hs.1, hs.2, q⟩
        · exact post.elim
      · rename_i d ds e1 e2
        split at post
        · rename_i hs
          rw [Bool.and_eq_true] at hs
          have q := post ρ H _ Ext.refl st (.mk_bl _)
          obtain ⟨as, r1⟩ := Dp.reads I d wx v (datS_dp st hx e1) rx
          obtain ⟨bs, r2⟩ := Dp.reads I (.tuple ds) wy u (datS_dp st hy e2) ry
          have c1 : PyData.canLayAll0 ds = true := SeqAt.canLay_of_shaped hs.2
          cases neg with
          | true => exact SeqAt.notIn_tuple_reads r2 r1 c1 (SeqAt.canLay_of_shaped hs.1) (room_in_shaped hs.1 hu) ⟨.bl _, H, I, rfl, q⟩
          | false => exact SeqAt.in_tuple_reads r2 r1 c1 (SeqAt.canLay_of_shaped hs.1) (room_in_shaped hs.1 hu) ⟨.bl _, H, I, rfl, q⟩
        · exact post.elim
      · exact post.elim
theorem od_in (hu : X.A.units + 65 < cLine) : OpR X (compareOp .In) (lO X.K W (oIn false)) := od_inN false hu
theorem od_notIn (hu : X.A.units + 65 < cLine) : OpR X (compareOp .NotIn) (lO X.K W (oIn true)) := od_inN true hu
end
/-- what isinstance has to know of the own classes at Cs -/
structure Isi (K : PySem.W.Frag) (Cs : List Addr) : Prop where
  cl : ∀ C ∈ Cs, Cls K C
  ha : ∀ C ∈ Cs, PySem.W.findIn K (.ref C) "__class__" = some (some (.builtin "object.__class__"))
  hm : ∀ C ∈ Cs, PySem.W.mroIn K C (.type "object") = some true
  hn : Cs ≠ [] → PySem.W.specialIn K (.builtin "object.__class__") "__get__" = some (some (.builtin "getset_descriptor.__get__"))
  ht : Cs ≠ [] → PySem.W.takesIn K (.builtin "object.__class__") = some true
  oo : ∀ C ∈ Cs, ∀ D ∈ Cs, PySem.W.kitOne K (.ref C) (.ref D) = some (decide (C = D))
  to : ∀ t ∈ tyNames, ∀ C ∈ Cs, PySem.W.kitOne K (.type t) (.ref C) = some false
  ot : ∀ C ∈ Cs, ∀ t ∈ tyNames, PySem.W.kitOne K (.ref C) (.type t) = some false
theorem kit_tab : ∀ t ∈ tyNames, ∀ n ∈ tyNames, kitB t n = some (decide (t = n) || (decide (t = "bool") && decide (n = "int"))) := by decide +kernel
def tyV : String ⊕ Addr → Value
  | .inl t => .type t
  | .inr C => .ref C
theorem ty_of {K : PySem.W.Frag} {ρ : Pl} {H : Hp} {S : Store} {Cs : List Addr} {v : Val} {w : V} {t : String ⊕ Addr} (T : Isi K Cs) (st : StOk K ρ H S) (r : RV K ρ H v w) (e : tyOf S v = some t) (hk : okTy Cs t = true) : TyX K H w (tyV t) := by
  have own : ∀ {a C dx : Addr} {fs : List (Str × V)}, H a = some (.ins C dx fs) → C ∈ Cs → TyX K H (.ref a) (.ref C) := fun q hC => .base (.ins q (T.cl _ hC) (T.ha _ hC) (T.hn (List.ne_nil_of_mem hC)) (T.ht (List.ne_nil_of_mem hC)) (T.hm _ hC))
  cases v with
  | non => simp only [tyOf, Option.some.injEq] at e; subst e; rw [r.non_inv]; exact .base .non
  | bl b => simp only [tyOf, Option.some.injEq] at e; subst e; rw [r.bl_inv]; exact .base (.bl b)
  | int i => simp only [tyOf, Option.some.injEq] at e; subst e; rw [r.int_inv]; exact .base (.int i)
  | str x => simp only [tyOf, Option.some.injEq] at e; subst e; rw [r.str_inv]; exact .base (.str x)
  | ty _ => simp [tyOf] at e
  | gl _ => simp [tyOf] at e
  | tup xs =>
    simp only [tyOf, Option.some.injEq] at e; subst e
    obtain ⟨a, ws, rfl, h1, _⟩ := r.tup_inv
    rcases h1 with (q | ⟨o, q⟩) | ⟨o, its, n, q, c, _⟩
    · exact .base (.tup q)
    · exact .fTuple q
    · exact .kTuple q c
  | lst xs =>
    simp only [tyOf, Option.some.injEq] at e; subst e
    obtain ⟨a, ws, rfl, h1, _⟩ := r.lst_inv
    exact .base (.lst h1.1)
  | frz xs =>
    simp only [tyOf, Option.some.injEq] at e; subst e
    obtain ⟨a, ws, rfl, h1, _⟩ := r.frz_inv
    rcases h1 with (⟨o, q⟩ | ⟨q, _⟩) | ⟨o, its, n, q, c, _⟩
    · exact .base (.frz q)
    · exact .base (.lst q)
    · exact .kList q c
  | dct kvs =>
    simp only [tyOf, Option.some.injEq] at e; subst e
    unfold RV at r
    obtain ⟨a, ws, rfl, h1, _⟩ := r
    exact .base (.dK h1.1)
  | obj C fs =>
    simp only [tyOf, Option.some.injEq] at e; subst e
    unfold RV at r
    obtain ⟨a, dx, ws, rfl, h1, _⟩ := r
    exact own h1.1 (of_decide_eq_true hk)
  | ref n =>
    simp only [tyOf] at e
    obtain ⟨a, hp, rfl⟩ := r.ref_inv
    split at e
    · rename_i xs q
      cases e
      obtain ⟨a', ha', ws, h1, _⟩ := st.cell n _ q
      rw [hp] at ha'; cases ha'
      exact .base (.lst h1)
    · rename_i xs q
      cases e
      obtain ⟨a', ha', ws, h1, _⟩ := st.cell n _ q
      rw [hp] at ha'; cases ha'
      exact .base (.dK h1)
    · rename_i C xs q
      cases e
      obtain ⟨a', ha', dx, ws, h1, _⟩ := st.cell n _ q
      rw [hp] at ha'; cases ha'
      exact own h1 (of_decide_eq_true hk)
    · cases e
theorem cd_isi {X : Cx} {W : XW} {Cs : List Addr} (T : Isi X.K Cs) : CallR X (.builtin "isinstance") (lC X.K W (bIsi Cs)) := by
  intro pins s σ H ws us Q I r h
  obtain ⟨σ', ρ, S, xs, st, rv, post⟩ := h
  unfold bIsi at post
  split at post
  · rename_i x c
    obtain ⟨w1, w2, rfl, r1, r2⟩ : ∃ w1 w2, ws = [w1, w2] ∧ RV X.K ρ H x w1 ∧ RV X.K ρ H c w2 := by
      obtain ⟨w1, _, rfl, r1, t⟩ := rv.inv
      obtain ⟨w2, _, rfl, r2, t⟩ := t.inv
      have := RVs.nil_iff.mp t
      subst this
      exact ⟨w1, w2, rfl, r1, r2⟩
    split at post
    · rename_i t e
      split at post
      · rename_i hk
        rw [Bool.and_eq_true] at hk
        split at post
        · rename_i b eb
          have tx := ty_of T st r1 e hk.1
          have q := post ρ H _ Ext.refl st (.mk_bl _)
          cases c with
          | ty n =>
            have hn : n ∈ tyNames := by simpa [okCl] using hk.2
            have e2 : w2 = .ty n := by unfold RV at r2; exact r2
            subst e2
            cases t with
            | inl m =>
              have hm : m ∈ tyNames := by simpa [okTy] using hk.1
              simp only [isiV, Option.some.injEq] at eb
              subst eb
              exact call_isi pins s σ H _ us Q I r ⟨w1, _, _, _, _, rfl, .ty n, tx, kit_ty (kit_tab m hm n hn), q⟩
            | inr C =>
              have hC : C ∈ Cs := by simpa [okTy] using hk.1
              simp only [isiV, Option.some.injEq] at eb
              subst eb
              exact call_isi pins s σ H _ us Q I r ⟨w1, _, _, _, _, rfl, .ty n, tx, T.ot C hC n hn, q⟩
          | gl D =>
            have hD : D ∈ Cs := by simpa [okCl] using hk.2
            have e2 : w2 = .ref D := by unfold RV at r2; exact r2
            subst e2
            cases t with
            | inl m =>
              have hm : m ∈ tyNames := by simpa [okTy] using hk.1
              simp only [isiV, Option.some.injEq] at eb
              subst eb
              exact call_isi pins s σ H _ us Q I r ⟨w1, _, _, _, _, rfl, .own D, tx, T.to m hm D hD, q⟩
            | inr C =>
              have hC : C ∈ Cs := by simpa [okTy] using hk.1
              simp only [isiV, Option.some.injEq] at eb
              subst eb
              exact call_isi pins s σ H _ us Q I r ⟨w1, _, _, _, _, rfl, .own D, tx, T.oo C hC D hD, q⟩
          | _ => simp [okCl] at hk
        · exact post.elim
      · exact post.elim
    · exact post.elim
  · exact post.elim
theorem isi0 (K : PySem.W.Frag) : Isi K [] := ⟨by simp, by simp, by simp, by simp, by simp, by simp, by simp, by simp⟩
end Gx
end
section
set_option Elab.async false
set_option linter.all false
set_option maxHeartbeats 1000000
set_option autoImplicit false
/-! Gx: enumerate. -/
namespace Gx
open PySem PySem.Spec PyProof.Rows L2
section
variable {prog : Program} {w : World} {A : Around} {E : Value → Shared → Prop} {s : Shared}
theorem meets_enum1 {v : Value} {o : Obj} {G : Heap → Prop} (B : Begins v o G) :
    Meets (Builtin.«enumerate.__new__» ⟨[.type "enumerate", v], []⟩) (fun _ R s => G s.heap ∧
      R (.ok (.ret (.ref (s.heap.push o).objs.size))) { s with heap := (s.heap.push o).push { cls := .type "enumerate", data := .fields #[.none, .bool false, .ref s.heap.objs.size, rawInt 0, .none, .none] } }) := by
  refine .of_wp fun P ww A1 R s hh => ?_
  obtain ⟨hp, gs, dr, tk, os⟩ := s
  obtain ⟨g1, fin⟩ := hh
  have sub := sub_enumerate
  have start : ∀ {A' : Around} {E : Value → Shared → Prop} {Q : Value → Shared → Prop}, Q (.ref hp.objs.size) ⟨hp.push o, gs, dr, tk, os⟩ → wpAny (model P ww) A' (pyIter v) Q E ⟨hp, gs, dr, tk, os⟩ :=
    fun q => B.iter P ww _ _ ⟨hp, gs, dr, tk, os⟩ _ g1 q
  wp_walk using start
  refine wpAny_stack_any fun sk => wpAny_pure ?_
  split
  · rename_i cc _ _ _ _ _
    cases (cc == Value.type "enumerate") <;> (wp_walk using start; exact ⟨_, rfl, fin⟩)
  · wp_walk using start; exact ⟨_, rfl, fin⟩
/-- enumerate(v): its two new cells -/
theorem enum_begins1 {v : Value} {o : Obj} {G : Heap → Prop} {Q : Value → Shared → Prop} (B : Begins v o G) (h1 : G s.heap)
    (h : ∀ h', IsEnum h' (s.heap.objs.size + 1) s.heap.objs.size 0 .none → h'.get? s.heap.objs.size = some o → h'.objs.size = s.heap.objs.size + 2 →
      (∀ b o, s.heap.get? b = some o → h'.get? b = some o) → Q (.ref (s.heap.objs.size + 1)) { s with heap := h' }) :
    wpAny (model prog w) A (call (.type "enumerate") [v]) Q E s := by
  refine callType_new F.called_enumerate (by decide) (F.typeCall_enumerate_1 _) (F.newCall_enumerate_1 _) (fun obj => F.args_object_init_2 obj _) F.entry_enumerate_new (meets_enum1 B) ⟨h1, ?_⟩
  have hz : (s.heap.push o).objs.size = s.heap.objs.size + 1 := Heap.size_push ..
  have e1 := Heap.get?_push_size (s.heap.push o) (o := { cls := .type "enumerate", data := .fields #[.none, .bool false, .ref s.heap.objs.size, rawInt 0, .none, .none] }) rfl
  show _ ∧ _
  rw [hz] at e1 ⊢
  exact ⟨⟨_, e1, rfl⟩, h _ e1 (Heap.get?_push_of_some _ (Heap.get?_push_size _ B.free)) (by rw [Heap.size_push, hz]) fun b ob q => Heap.get?_push_of_some _ (Heap.get?_push_of_some _ q)⟩
end
/-- a list (k) or a tuple at a, read -/
def SqA (K : PySem.W.Frag) (H : Hp) (a : Addr) (k : Bool) (xs : List V) : Prop := if k then SqL K H a xs else SqT K H a xs
def SqO : Bool → Addr → Array Value → Heap → Prop
  | true => fun a its h => h.IsList a its
  | false => fun a its h => h.IsTuple a its
def ItO : Bool → Addr → Addr → Nat → Heap → Prop
  | true => fun it a i h => h.IsListIter it a i
  | false => fun it a i h => h.IsTupleIter it a i
theorem R.assoc {α β γ : Type} (r : Gx.R α) (f : α → Store → Gx.R β) (g : β → Store → Gx.R γ) : (r.bind f).bind g = r.bind fun x S => (f x S).bind g := by cases r <;> rfl
theorem it_ok {S : Store} {v : Val} {src : Src} (h : itOf S v = some src) : src.ok S = true := by
  unfold itOf at h
  split at h
  · cases h; rfl
  · cases h; rfl
  · cases h; rfl
  · split at h
    · rename_i q
      cases h
      simp [Src.ok, q]
    · cases h
  · cases h
theorem sq_obj {X : Cx} {pins : List (Addr × Obj)} {σ : L2.St} {H : Hp} {s : Shared} {a : Addr} {k : Bool} {xs : List V} (I : Inv X pins σ H s) (h : SqA X.K H a k xs) : ∃ its : List Value, Vals xs its ∧ SqO k a its.toArray s.heap := by
  cases k with
  | true => obtain ⟨its, r, p, _⟩ := I.list (by simpa [SqA] using h); exact ⟨its, r, p.isList⟩
  | false => obtain ⟨its, r, p, _⟩ := I.tuple (by simpa [SqA] using h); exact ⟨its, r, p⟩
theorem sq_inj {X : Cx} {pins : List (Addr × Obj)} {σ : L2.St} {H : Hp} {s : Shared} {a : Addr} {k : Bool} {xs ys : List V} (I : Inv X pins σ H s) (h : SqA X.K H a k xs) (g : SqA X.K H a k ys) : xs = ys := by
  cases k with
  | true => exact I.list_inj (by simpa [SqA] using h) (by simpa [SqA] using g)
  | false => exact I.tuple_inj (by simpa [SqA] using h) (by simpa [SqA] using g)
theorem draws_sq {prog : Program} {w : World} {A : Around} (hh : A.handled = none) (k : Bool) (it a : Addr) (hne : a ≠ it) (its : Array Value) :
    Draws prog w A it [it, a] its.size (fun i v => its[i]? = some v) (fun i h => ItO k it a i h ∧ SqO k a its h) := by
  cases k with
  | true => exact Draws.list hh it a hne its
  | false => exact Draws.tuple hh it a hne its
theorem begins_sq (k : Bool) (a : Addr) (its : Array Value) : ∃ o : Obj, Begins (.ref a) o (SqO k a its) ∧ ∀ (h : Heap) (it : Addr), h.get? it = some o → ItO k it a 0 h := by
  cases k with
  | true => exact ⟨_, begins_list a its, fun h it e => (⟨_, e, rfl, rfl⟩ : h.IsListIter it a 0)⟩
  | false => exact ⟨_, begins_tuple a its, fun h it e => (⟨_, e, rfl, rfl⟩ : h.IsTupleIter it a 0)⟩
theorem ItO.at {k : Bool} {it a : Addr} {i : Nat} {h h' : Heap} (x : ItO k it a i h) (e : ∀ o, h.get? it = some o → h'.get? it = some o) : ItO k it a i h' := by
  cases k with
  | true => exact (show h.IsListIter it a i from x).at e
  | false => exact (show h.IsTupleIter it a i from x).at e
theorem ItO.obj {k : Bool} {it a : Addr} {i : Nat} {h : Heap} (x : ItO k it a i h) : ∃ o, h.get? it = some o ∧ ∀ v, o.data ≠ .cell v := by
  cases k with
  | true => obtain ⟨o, e, _, d⟩ := (show h.IsListIter it a i from x); exact ⟨o, e, fun v q => by rw [d] at q; cases q⟩
  | false => obtain ⟨o, e, _, d⟩ := (show h.IsTupleIter it a i from x); exact ⟨o, e, fun v q => by rw [d] at q; cases q⟩
theorem SqO.lt {k : Bool} {a : Addr} {its : Array Value} {h : Heap} (x : SqO k a its h) : a < h.objs.size := by
  cases k with
  | true => obtain ⟨o, e, _⟩ := (show h.IsList a its from x); exact Heap.lt_size e
  | false => obtain ⟨o, e, _⟩ := (show h.IsTuple a its from x); exact Heap.lt_size e
/-- each item in a new pair behind its number, from c on -/
def ItE (K : PySem.W.Frag) (a : Addr) (k : Bool) (c : Int) : It :=
  ⟨fun i H => ∃ (xs : List V) (x : V), SqA K H a k xs ∧ xs[i]? = some x,
    fun i H v H' => ∃ T x, v = .ref T ∧ H T = none ∧ H' = upd H T (.tup [.int (c + (i : Nat)), x]) ∧ ∀ xs, SqA K H a k xs → xs[i]? = some x,
    fun i H => ∃ xs : List V, SqA K H a k xs ∧ xs.length = i⟩
theorem turn_enumA {P : Program} {w : World} {K : PySem.W.Frag} {elts : List Expr} {kk : Nat} {tpos : Pos} (k : Bool) (c : Int) (a e it : Addr) :
    Turn P w K (.Tuple elts kk tpos) (ItE K a k c) [e, it] e (fun i h => (∃ old, IsEnum h e it (c + (i : Nat)) old) ∧ ItO k it a i h ∧ e ≠ it ∧ e ≠ a ∧ a ≠ it) where
  mem := by simp
  obj := fun i h st b hb => by
    obtain ⟨⟨old, he⟩, hi, _⟩ := st
    rcases (show b = e ∨ b = it by simpa using hb) with z | z
    · subst z; exact ⟨_, he, fun v q => nomatch q⟩
    · subst z; exact hi.obj
  keep := fun i h h' st k => by
    obtain ⟨⟨old, he⟩, hi, n⟩ := st
    exact ⟨⟨old, k e (by simp) _ he⟩, hi.at fun o q => k it (by simp) o q, n⟩
  item := by
    intro X hP hw hK hc i pins s σ H E I hf st hg
    subst hP hw hK
    obtain ⟨⟨old, he⟩, hit, n1, n2, n3⟩ := st
    obtain ⟨xs, x, hq, hx⟩ := hg
    obtain ⟨its, rv, p⟩ := sq_obj I hq
    have hlen := rv.length
    have hi : i < its.toArray.size := by
      have := (List.getElem?_eq_some_iff.mp hx).1
      simp; omega
    have lts : ∀ b, b ∈ [e, it] → b < s.heap.objs.size := fun b hb => by
      rcases (show b = e ∨ b = it by simpa using hb) with z | z
      · subst z; exact Heap.lt_size he
      · subst z; obtain ⟨o, q, _⟩ := hit.obj; exact Heap.lt_size q
    have hel := lts e (by simp)
    refine wpAny_pyNext_enum_itemC (draws_sq (A := X.A.in1) (I.ok.hd hc) k it a n3 its.toArray) he ⟨hit, p⟩ hi n1 (by simp [n1, n2]) fun y h' tk hy ho hst hT hsz hk => ?_
    obtain ⟨u, hu, ru⟩ := rv.get hx
    obtain rfl : y = u := by
      have : its[i]? = some y := by simpa using hy
      rw [hu] at this; exact (Option.some.inj this).symm
    refine ⟨_, rfl, wpAny_letOwnedTupleGo_enum (s := { s with heap := h', toks := tk + 1 }) ho fun h'' he' sb => ?_⟩
    have hT2 := (sb.2 _ (Nat.ne_of_gt hel)).trans hT
    have fresh : ∀ b, b ∈ [e, it] → b ≠ s.heap.objs.size := fun b hb => Nat.ne_of_lt (lts b hb)
    have I1 : Inv X pins σ (upd H s.heap.objs.size (.tup [.int (c + (i : Nat)), x])) { s with heap := h'', toks := tk + 1 } :=
      I.turnedNew (ch := [e, it]) (fun b ob hb q => (sb.2 b (fun z => hb (by simp [z]))).trans (hk b ob (fun z => hb (by simp [z])) (fun z => hb (by simp [z])) q)) hf (Nat.le_refl _)
        ⟨by show 2 ≤ sizeLine; decide, [.int (c + (i : Nat)) tk, y], .cons ⟨_, rfl⟩ (.cons ru .nil), ⟨_, hT2, rfl, _, rfl⟩⟩
    refine ⟨.ref s.heap.objs.size, _, I1, rfl, ⟨_, x, rfl, I.hok.fresh (Nat.le_refl _), rfl, fun ys hy => by rw [sq_inj I hy hq]; exact hx⟩, ⟨⟨y, ?_⟩, hst.1.at fun o q => (sb.2 it (Ne.symm n1)).trans q, n1, n2, n3⟩, fun b hb => ?_⟩
    · rw [show c + ((i + 1 : Nat) : Int) = c + (i : Nat) + 1 by omega]; exact he'
    · rw [upd_ne (fresh b hb)]; exact (hf b hb).1
  done := by
    intro X hP hw hK hc i pins s σ H E I hf st hg
    subst hP hw hK
    obtain ⟨⟨old, he⟩, hit, n1, n2, n3⟩ := st
    obtain ⟨xs, hq, hx⟩ := hg
    obtain ⟨its, rv, p⟩ := sq_obj I hq
    have hlen := rv.length
    obtain ⟨f0, f1, f2, f3, f4, f5⟩ := hf it (by simp)
    have e1 : i = its.toArray.size := by simp; omega
    subst e1
    exact wpAny_pyNext_enum_endD (draws_sq (A := X.A.in1) (I.ok.hd hc) k it a n3 its.toArray) he ⟨hit, p⟩ fun h' eb => ⟨rfl, I.turned (t' := s.toks) (fun b o hb q => eb b o hb q) f0 f1 f3 f4 f5⟩
  self := fun A i s Q E st h => let ⟨⟨_, he⟩, _⟩ := st; wpAny_pyIter_enum he h
section
variable {X : Cx} {W : XW} {e : Expr} {d : E} {pos p tpos : Pos} {elts : List Expr} {kk : Nat}
/-- behind the making of an enumerate -/
theorem enum_pie {pins : List (Addr × Obj)} {σ : L2.St} {H : Hp} {s : Shared} {h' : Heap} {R : It → Hp → Prop} {a : Addr} {k : Bool} {c : Int} {its : Array Value} {o : Obj} (I : Inv X pins σ H s) (pp : SqO k a its s.heap) (ho : ∀ (h : Heap) (it : Addr), h.get? it = some o → ItO k it a 0 h)
    (he : IsEnum h' (s.heap.objs.size + 1) s.heap.objs.size c .none) (hit : h'.get? s.heap.objs.size = some o) (hk : ∀ b o, s.heap.get? b = some o → h'.get? b = some o) (q : R (ItE X.K a k c) H) :
    wpAny (model X.prog X.w) X.A (pyIter (.ref (s.heap.objs.size + 1))) (PIE X pins σ (.Tuple elts kk tpos) R) X.xe { s with heap := h' } := by
  refine wpAny_pyIter_enum he ?_
  have hl := pp.lt
  refine ⟨s.heap.objs.size + 1, [s.heap.objs.size + 1, s.heap.objs.size], _, _, H, rfl, I.kept (t' := s.toks) hk, turn_enumA k c a (s.heap.objs.size + 1) s.heap.objs.size, ⟨⟨.none, by simpa using he⟩, ho _ _ hit, Nat.succ_ne_self _, Nat.ne_of_gt (Nat.lt_succ_of_lt hl), Nat.ne_of_lt hl⟩, fun b hb => ?_, q⟩
  have hle : s.heap.objs.size ≤ b := by
    rcases (show b = s.heap.objs.size + 1 ∨ b = s.heap.objs.size by simpa using hb) with z | z
    · rw [z]; exact Nat.le_succ _
    · rw [z]; exact Nat.le_refl _
  exact I.fpOk hle (I.hok.fresh hle)
theorem serves_enum {K : PySem.W.Frag} {ρ : Pl} {H : Hp} {a : Addr} {k : Bool} {src : Src} {c : Int} (h : ∀ ρ1 H1 S1, ExtB ρ H ρ1 H1 → StOk K ρ1 H1 S1 → src.ok S1 = true → ∃ ws, RVs K ρ1 H1 src.items ws ∧ (if k then SqL K H1 a ws else SqT K H1 a ws)) :
    Serves K ρ H ⟨src.stay, enumV c src.items⟩ (ItE K a k c) := by
  intro ρ1 H1 S1 e s ok
  obtain ⟨ws, r, q⟩ := h ρ1 H1 S1 e s ok
  have hl : (enumV c src.items).length = src.items.length := by simp [enumV]
  refine ⟨fun i x hx => ?_, ⟨ws, q, by rw [hl, r.length]⟩⟩
  have hi : i < src.items.length := by rw [← hl]; exact (List.getElem?_eq_some_iff.mp hx).1
  obtain ⟨y, hy⟩ : ∃ y, src.items[i]? = some y := ⟨_, List.getElem?_eq_getElem hi⟩
  have ex : x = .tup [.int (c + (i : Nat)), y] := by
    have : (enumV c src.items)[i]? = some (.tup [.int (c + (i : Nat)), y]) := by simp [enumV, hy]
    rw [this] at hx; exact (Option.some.inj hx).symm
  subst ex
  obtain ⟨w, hw, rw'⟩ := r.get hy
  refine ⟨⟨ws, w, q, hw⟩, fun u H2 z => ?_⟩
  obtain ⟨T, x, rfl, hT, rfl, hx⟩ := z
  have := hx ws q
  rw [hw] at this; cases this
  refine ⟨ext_new hT, s.new hT, ?_, fun b o hb => ?_⟩
  · unfold RV
    exact ⟨T, _, rfl, .of upd_same, .cons (.mk_int _) (.cons (rw'.ext (ext_new hT)) .nil)⟩
  · rw [upd_ne (ne_of_none hb hT)]; exact hb
/-- enumerate(e), e a list or a tuple -/
theorem di_enum (hg : Gl X "enumerate") (hm : X.mg "enumerate" = none) (ha : DE X W e d) (hs : starEach [e] X.env = (false, eval e X.env) :: starEach [] X.env := by rfl) (hpl : (backTo pos (starEach [] X.env)).any (·.1) = false := by rfl) :
    DI X W (.Tuple elts kk tpos) (.Call (.Name "enumerate" p) [e] [] pos) (iEnum d) := by
  refine ⟨⟨fun pins s σ H R I h => ?_⟩⟩
  obtain ⟨ρ, S, L, sim, h⟩ := h
  refine Call_ (ld_blt I hg hm boot_enumerate (PyProof.Rows.callWith_type1 (thn ((pa_cons ha.pe pa_nil hs).run pos pins s σ H (fun vs H1 => ∃ a k c xs, vs = [.ref a] ∧ c = (0 : Int) ∧ SqA X.K H1 a k xs ∧ R (ItE X.K a k c) H1) I ⟨ρ, S, L, sim, ?_⟩) fun us s1 ⟨vs, H1, I1, r1, a, k, c, xs, ex, ec, hq, q⟩ => ?_) hs hpl))
  · unfold iEnum iVal at h
    rw [Gx.R.assoc] at h
    refine Post.bind (Rel' := Serves X.K) h fun v S1 ρ1 H1 w _ e1 s1 r1 h1 => ?_
    cases qi : itOf S1 v with
    | none => rw [qi] at h1; exact h1.elim
    | some src =>
      rw [qi] at h1
      obtain ⟨a, k, rfl, sq, g⟩ := it_read s1 r1 qi
      obtain ⟨ws, _, hq⟩ := g ρ1 H1 S1 Ext.refl.toExtB s1 (it_ok qi)
      exact ⟨a, k, 0, ws, rfl, rfl, hq, h1 ρ1 H1 _ Ext.refl s1 (serves_enum g)⟩
  · subst ex ec
    obtain ⟨u, rfl, r⟩ := vals1 r1
    obtain rfl : u = Value.ref a := r
    obtain ⟨its, rv, pp⟩ := sq_obj I1 hq
    obtain ⟨o, B, ho⟩ := begins_sq k a its.toArray
    exact enum_begins1 B pp fun h' he hit hsz hk => enum_pie I1 pp ho he hit hk q
end
end Gx
end
section
set_option Elab.async false
set_option linter.all false
set_option maxHeartbeats 1000000
set_option autoImplicit false
/-! Gx: zip of two, lists or tuples. -/
namespace Gx
open PySem PySem.Spec PyProof.Rows L2
/-- the items side by side in new pairs -/
def ItZ (K : PySem.W.Frag) (a b : Addr) (k j : Bool) : It :=
  ⟨fun i H => ∃ (xs ys : List V) (x y : V), SqA K H a k xs ∧ SqA K H b j ys ∧ xs[i]? = some x ∧ ys[i]? = some y,
    fun i H v H' => ∃ T x y, v = .ref T ∧ H T = none ∧ H' = upd H T (.tup [x, y]) ∧ (∀ xs, SqA K H a k xs → xs[i]? = some x) ∧ ∀ ys, SqA K H b j ys → ys[i]? = some y,
    fun i H => ∃ xs ys : List V, SqA K H a k xs ∧ SqA K H b j ys ∧ i = min xs.length ys.length⟩
theorem turn_zipA {P : Program} {w : World} {K : PySem.W.Frag} {elts : List Expr} {kk : Nat} {tpos : Pos} (k j : Bool) (a b z TI TO i1 i2 : Addr) :
    Turn P w K (.Tuple elts kk tpos) (ItZ K a b k j) [z, TI, TO, i1, i2] z (fun i h => IsZip h z TI TO .none ∧ IsTupOf2 h TI (.ref i1) (.ref i2) ∧ (∃ x y, IsTupOf2 h TO x y) ∧ ItO k i1 a i h ∧ ItO j i2 b i h ∧ ZipSep2 z TI TO i1 i2 [i1, a] [i2, b] ∧ a ≠ i1 ∧ b ≠ i2) where
  mem := by simp
  obj := fun i h st c hc => by
    obtain ⟨hz, hTI, ⟨x, y, hTO⟩, h1, h2, _⟩ := st
    rcases (show c = z ∨ c = TI ∨ c = TO ∨ c = i1 ∨ c = i2 by simpa using hc) with q | q | q | q | q
    · subst q; exact ⟨_, hz, fun v q => nomatch q⟩
    · subst q; exact ⟨_, hTI, fun v q => nomatch q⟩
    · subst q; exact ⟨_, hTO, fun v q => nomatch q⟩
    · subst q; exact h1.obj
    · subst q; exact h2.obj
  keep := fun i h h' st kp => by
    obtain ⟨hz, hTI, ⟨x, y, hTO⟩, h1, h2, r⟩ := st
    exact ⟨kp z (by simp) _ hz, kp TI (by simp) _ hTI, ⟨x, y, kp TO (by simp) _ hTO⟩, h1.at fun o q => kp i1 (by simp) o q, h2.at fun o q => kp i2 (by simp) o q, r⟩
  item := by
    intro X hP hw hK hc i pins s σ H E I hf st hg
    subst hP hw hK
    obtain ⟨hz, hTI, ⟨x0, y0, hTO⟩, h1, h2, D, n1, n2⟩ := st
    obtain ⟨xs, ys, x, y, hqx, hqy, hx, hy⟩ := hg
    obtain ⟨its, rv, p1⟩ := sq_obj I hqx
    obtain ⟨its2, rv2, p2⟩ := sq_obj I hqy
    have l1 := rv.length
    have l2 := rv2.length
    have b1 := (List.getElem?_eq_some_iff.mp hx).1
    have b2 := (List.getElem?_eq_some_iff.mp hy).1
    have all : ∀ c, c ∈ [z, TI, TO, i1, i2] → c < s.heap.objs.size := fun c hcm => by
      rcases (show c = z ∨ c = TI ∨ c = TO ∨ c = i1 ∨ c = i2 by simpa using hcm) with q | q | q | q | q
      · subst q; exact Heap.lt_size hz
      · subst q; exact Heap.lt_size hTI
      · subst q; exact Heap.lt_size hTO
      · subst q; obtain ⟨o, e, _⟩ := h1.obj; exact Heap.lt_size e
      · subst q; obtain ⟨o, e, _⟩ := h2.obj; exact Heap.lt_size e
    refine wpAny_pyNext_zipD2_item D (draws_sq (A := X.A.in1) (I.ok.hd hc) k i1 a n1 its.toArray) (draws_sq (A := X.A.in1) (I.ok.hd hc) j i2 b n2 its2.toArray) hz hTI hTO ⟨h1, p1⟩ ⟨h2, p2⟩ (by simp; omega) (by simp; omega) fun u v h' tk hu hv hz' hTO' s1 s2 hT hsz hk => ?_
    obtain ⟨u', hu', ru⟩ := rv.get hx
    obtain rfl : u = u' := by
      have : its[i]? = some u := by simpa using hu
      rw [hu'] at this; exact (Option.some.inj this).symm
    obtain ⟨v', hv', rv'⟩ := rv2.get hy
    obtain rfl : v = v' := by
      have : its2[i]? = some v := by simpa using hv
      rw [hv'] at this; exact (Option.some.inj this).symm
    refine ⟨_, rfl, wpAny_letOwnedTupleGo_zip (s := { s with heap := h', toks := tk }) hz' fun h'' z'' sb => ?_⟩
    have hzl := all z (by simp)
    have hT2 := (sb.2 _ (Nat.ne_of_gt hzl)).trans hT
    have stay : ∀ c o, c ∉ [z, TI, TO, i1, i2] → s.heap.get? c = some o → h''.get? c = some o := fun c o hb q =>
      (sb.2 c (fun q' => hb (by simp [q']))).trans (hk c o (fun q' => hb (by simp [q'])) (fun q' => hb (by simp [q'])) (fun q' => hb (by simp [q'])) (fun q' => hb (by simp [q'])) q)
    have I1 : Inv X pins σ (upd H s.heap.objs.size (.tup [x, y])) { s with heap := h'', toks := tk } :=
      I.turnedNew (t' := tk) (ch := [z, TI, TO, i1, i2]) stay hf (Nat.le_refl _) ⟨by show 2 ≤ sizeLine; decide, [u, v], .cons ru (.cons rv' .nil), ⟨_, hT2, rfl, _, rfl⟩⟩
    refine ⟨.ref s.heap.objs.size, _, I1, rfl, ⟨_, x, y, rfl, I.hok.fresh (Nat.le_refl _), rfl, fun l hl => by rw [sq_inj I hl hqx]; exact hx, fun l hl => by rw [sq_inj I hl hqy]; exact hy⟩, ⟨z'', ?_, ⟨u, v, ?_⟩, ?_, ?_, D, n1, n2⟩, fun c hcm => ?_⟩
    · exact (sb.2 _ D.TIz).trans (hk _ _ D.TIz D.TITO D.TIi1 D.TIi2 hTI)
    · exact (sb.2 _ D.TOz).trans hTO'
    · exact s1.1.at fun o q => (sb.2 _ (Ne.symm D.zi1)).trans q
    · exact s2.1.at fun o q => (sb.2 _ (Ne.symm D.zi2)).trans q
    · rw [upd_ne (Nat.ne_of_lt (all c hcm))]; exact (hf c hcm).1
  done := by
    intro X hP hw hK hc i pins s σ H E I hf st hg
    subst hP hw hK
    obtain ⟨hz, hTI, ⟨x0, y0, hTO⟩, h1, h2, D, n1, n2⟩ := st
    obtain ⟨xs, ys, hqx, hqy, hend⟩ := hg
    obtain ⟨its, rv, p1⟩ := sq_obj I hqx
    obtain ⟨its2, rv2, p2⟩ := sq_obj I hqy
    have l1 := rv.length
    have l2 := rv2.length
    refine wpAny_pyNext_zipD2_end D (draws_sq (A := X.A.in1) (I.ok.hd hc) k i1 a n1 its.toArray) (draws_sq (A := X.A.in1) (I.ok.hd hc) j i2 b n2 its2.toArray) hz hTI hTO ⟨h1, p1⟩ ⟨h2, p2⟩ (by simp; omega) (by simp; omega) (by simp; omega) fun h' tk hk => ⟨rfl, ?_⟩
    exact I.turnedL (t' := tk) (ch := [z, TI, TO, i1, i2]) (fun c o hb q => hk c o (fun q' => hb (by simp [q'])) (fun q' => hb (by simp [q'])) (fun q' => hb (by simp [q'])) (fun q' => hb (by simp [q'])) q) hf
  self := fun A i s Q E st h => wpAny_pyIter_zip st.1 h
section
variable {X : Cx} {W : XW} {e e2 : Expr} {d d2 : E} {pos p tpos : Pos} {elts : List Expr} {kk : Nat}
theorem serves_zip {K : PySem.W.Frag} {ρ : Pl} {H : Hp} {a b : Addr} {k j : Bool} {src src2 : Src} (h : ∀ ρ1 H1 S1, ExtB ρ H ρ1 H1 → StOk K ρ1 H1 S1 → src.ok S1 = true → ∃ ws, RVs K ρ1 H1 src.items ws ∧ (if k then SqL K H1 a ws else SqT K H1 a ws))
    (h2 : ∀ ρ1 H1 S1, ExtB ρ H ρ1 H1 → StOk K ρ1 H1 S1 → src2.ok S1 = true → ∃ ws, RVs K ρ1 H1 src2.items ws ∧ (if j then SqL K H1 b ws else SqT K H1 b ws)) :
    Serves K ρ H ⟨src.stay ++ src2.stay, zipV src.items src2.items⟩ (ItZ K a b k j) := by
  intro ρ1 H1 S1 e s ok
  have ok : src.ok S1 = true ∧ src2.ok S1 = true := by simpa [Src.ok, List.all_append] using ok
  obtain ⟨ws, r, q⟩ := h ρ1 H1 S1 e s ok.1
  obtain ⟨us, r2, q2⟩ := h2 ρ1 H1 S1 e s ok.2
  have hl : (zipV src.items src2.items).length = min src.items.length src2.items.length := by simp [zipV]
  refine ⟨fun i x hx => ?_, ⟨ws, us, q, q2, by rw [hl, r.length, r2.length]⟩⟩
  have hi : i < min src.items.length src2.items.length := by rw [← hl]; exact (List.getElem?_eq_some_iff.mp hx).1
  obtain ⟨y, hy⟩ : ∃ y, src.items[i]? = some y := ⟨_, List.getElem?_eq_getElem (by omega)⟩
  obtain ⟨u, hu⟩ : ∃ y, src2.items[i]? = some y := ⟨_, List.getElem?_eq_getElem (by omega)⟩
  have ex : x = .tup [y, u] := by
    have zz : (src.items.zip src2.items)[i]? = some (y, u) := List.getElem?_zip_eq_some.mpr ⟨hy, hu⟩
    have : (zipV src.items src2.items)[i]? = some (.tup [y, u]) := by simp [zipV, zz]
    rw [this] at hx; exact (Option.some.inj hx).symm
  subst ex
  obtain ⟨w, hw, rw'⟩ := r.get hy
  obtain ⟨w2, hw2, rw2⟩ := r2.get hu
  refine ⟨⟨ws, us, w, w2, q, q2, hw, hw2⟩, fun v H2 z => ?_⟩
  obtain ⟨T, x, y', rfl, hT, rfl, hx1, hx2⟩ := z
  have e1 := hx1 ws q
  rw [hw] at e1; cases e1
  have e2 := hx2 us q2
  rw [hw2] at e2; cases e2
  refine ⟨ext_new hT, s.new hT, ?_, fun b o hb => ?_⟩
  · unfold RV
    exact ⟨T, _, rfl, .of upd_same, .cons (rw'.ext (ext_new hT)) (.cons (rw2.ext (ext_new hT)) .nil)⟩
  · rw [upd_ne (ne_of_none hb hT)]; exact hb
theorem zip_pie {pins : List (Addr × Obj)} {σ : L2.St} {H : Hp} {s : Shared} {h' : Heap} {RR : It → Hp → Prop} {a b : Addr} {k j : Bool} {its its2 : Array Value} {o o2 : Obj} (I : Inv X pins σ H s) (p1 : SqO k a its s.heap) (p2 : SqO j b its2 s.heap) (ho : ∀ (h : Heap) (it : Addr), h.get? it = some o → ItO k it a 0 h) (ho2 : ∀ (h : Heap) (it : Addr), h.get? it = some o2 → ItO j it b 0 h)
    (hz : IsZip h' (s.heap.objs.size + 4) (s.heap.objs.size + 2) (s.heap.objs.size + 3) .none) (hTI : IsTupOf2 h' (s.heap.objs.size + 2) (.ref s.heap.objs.size) (.ref (s.heap.objs.size + 1))) (hTO : IsTupOf2 h' (s.heap.objs.size + 3) .none .none)
    (h1 : h'.get? s.heap.objs.size = some o) (h2 : h'.get? (s.heap.objs.size + 1) = some o2) (hk : ∀ c o, s.heap.get? c = some o → h'.get? c = some o) (q : RR (ItZ X.K a b k j) H) :
    wpAny (model X.prog X.w) X.A (pyIter (.ref (s.heap.objs.size + 4))) (PIE X pins σ (.Tuple elts kk tpos) RR) X.xe { s with heap := h' } := by
  refine wpAny_pyIter_zip hz ?_
  have la := p1.lt
  have lb := p2.lt
  have D := zip_sep2 (N := s.heap.objs.size) (fp1 := [a]) (fp2 := [b]) (by simpa using la) (by simpa using lb)
  refine ⟨s.heap.objs.size + 4, [s.heap.objs.size + 4, s.heap.objs.size + 2, s.heap.objs.size + 3, s.heap.objs.size, s.heap.objs.size + 1], _, _, H, rfl, I.kept (t' := s.toks) hk, turn_zipA k j a b _ (s.heap.objs.size + 2) (s.heap.objs.size + 3) s.heap.objs.size (s.heap.objs.size + 1),
    ⟨hz, hTI, ⟨_, _, hTO⟩, ho _ _ h1, ho2 _ _ h2, D, Nat.ne_of_lt la, Nat.ne_of_lt (Nat.lt_succ_of_lt lb)⟩, fun c hc => ?_, q⟩
  have hle : s.heap.objs.size ≤ c := by
    rcases (show c = s.heap.objs.size + 4 ∨ c = s.heap.objs.size + 2 ∨ c = s.heap.objs.size + 3 ∨ c = s.heap.objs.size ∨ c = s.heap.objs.size + 1 by simpa using hc) with z | z | z | z | z <;> (rw [z]; first | exact Nat.le_refl _ | exact Nat.le_add_right _ _)
  exact I.fpOk hle (I.hok.fresh hle)
/-- zip(e, e2) -/
theorem di_zip (hg : Gl X "zip") (hm : X.mg "zip" = none) (ha : DE X W e d) (hb : DE X W e2 d2) (hs : starEach [e, e2] X.env = (false, eval e X.env) :: starEach [e2] X.env := by rfl) (hs2 : starEach [e2] X.env = (false, eval e2 X.env) :: starEach [] X.env := by rfl) (hpl : (backTo pos (starEach [e2] X.env)).any (·.1) = false := by rfl) :
    DI X W (.Tuple elts kk tpos) (.Call (.Name "zip" p) [e, e2] [] pos) (iZip d d2) := by
  refine ⟨⟨fun pins s σ H RR I h => ?_⟩⟩
  obtain ⟨ρ, S, L, sim, h⟩ := h
  refine Call_ (ld_blt I hg hm PyProof.Rows.boot_zip (PyProof.Rows.callWith_type1 (thn ((pa_cons ha.pe (pa_cons hb.pe pa_nil hs2) hs).run pos pins s σ H (fun vs H1 => ∃ a b k j xs ys, vs = [.ref a, .ref b] ∧ SqA X.K H1 a k xs ∧ SqA X.K H1 b j ys ∧ RR (ItZ X.K a b k j) H1) I ?_) fun us s1 ⟨vs, H1, I1, r1, a, b, k, j, xs, ys, ex, hq, hq2, q⟩ => ?_) hs hpl))
  · refine two sim h fun v u S2 ρ2 H2 wv wu e2 s2 rv ru h2 => ?_
    cases qi : itOf S2 v with
    | none => rw [qi] at h2; exact h2.elim
    | some src =>
      cases qj : itOf S2 u with
      | none => rw [qi, qj] at h2; exact h2.elim
      | some src2 =>
        rw [qi, qj] at h2
        obtain ⟨a, k, rfl, sq, g⟩ := it_read s2 rv qi
        obtain ⟨b, j, rfl, sq2, g2⟩ := it_read s2 ru qj
        obtain ⟨ws, _, hq⟩ := g ρ2 H2 S2 Ext.refl.toExtB s2 (it_ok qi)
        obtain ⟨vs, _, hq2⟩ := g2 ρ2 H2 S2 Ext.refl.toExtB s2 (it_ok qj)
        exact ⟨a, b, k, j, ws, vs, rfl, hq, hq2, h2 ρ2 H2 _ Ext.refl s2 (serves_zip g g2)⟩
  · subst ex
    obtain ⟨u1, u2, rfl, r, r'⟩ := vals2 r1
    obtain rfl : u1 = Value.ref a := r
    obtain rfl : u2 = Value.ref b := r'
    obtain ⟨its, rv, p1⟩ := sq_obj I1 hq
    obtain ⟨its2, rv2, p2⟩ := sq_obj I1 hq2
    obtain ⟨o, B, ho⟩ := begins_sq k a its.toArray
    obtain ⟨o2, B2, ho2⟩ := begins_sq j b its2.toArray
    exact zip_begins2 B B2 p1 p2 fun h' hz hTI hTO h1 h2 hsz hk => zip_pie I1 p1 p2 ho ho2 hz hTI hTO h1 h2 hk q
end
end Gx
end
section
set_option Elab.async false
set_option linter.all false
set_option maxHeartbeats 1000000
set_option autoImplicit false
/-! Gx: t[::-1], calls by keywords. -/
namespace Gx
open PySem PySem.Spec PyProof.Rows L2
/-! ### t[::-1] -/
section
variable {prog : Program} {w : World} {A : Around} {E : Value → Shared → Prop} {s : Shared}
theorem rev_adjust (n : Nat) : Builtin.Slice.sliceAdjust none none (-1) (n : Int) = ((n : Int) - 1, -1) := by
  first | rfl | simp [Builtin.Slice.sliceAdjust]
theorem rev_places (n : Nat) : Builtin.Slice.slicePlaces ((n : Int) - 1) (-1) (-1) = n := by
  unfold Builtin.Slice.slicePlaces
  simp
  try omega
theorem rev_pick (xs : Array Value) : ((List.range xs.size).filterMap fun (k : Nat) => xs[((xs.size : Int) - 1 + (k : Int) * (-1)).toNat]?) = xs.toList.reverse := by
  apply List.ext_getElem?
  intro i
  have e : ∀ n ≤ xs.size, (List.range n).filterMap (fun (k : Nat) => xs[((xs.size : Int) - 1 + (k : Int) * (-1)).toNat]?) = xs.toList.reverse.take n := by
    intro n hn
    induction n with
    | zero => simp
    | succ n ih =>
      rw [List.range_succ, List.filterMap_append, ih (by omega)]
      have : ((xs.size : Int) - 1 + (n : Int) * (-1)).toNat = xs.size - 1 - n := by omega
      simp only [List.filterMap_cons, List.filterMap_nil, this]
      have hl : xs.size - 1 - n < xs.size := by omega
      rw [Array.getElem?_eq_getElem hl]
      rw [List.take_succ, List.getElem?_reverse (by simp; omega)]
      congr 1
      rw [List.getElem?_eq_getElem (by simp; omega)]
      simp
  rw [e xs.size (Nat.le_refl _), List.take_of_length_le (by simp)]
theorem slice_rev {sl : Addr} {vl vu vs : Value} {n : Nat} {Q : Int × Int × Nat → Shared → Prop} (hs : s.heap.IsSliceOf sl vl vu vs) (pl : IsPart vl none) (pu : IsPart vu none) (ps : IsPart vs (some (-1)))
    (h : Q ((n : Int) - 1, -1, n) s) : wpAny (model prog w) A (Builtin.Slice.sliceApplied (.ref sl) (pure (n : Int))) Q E s := by
  obtain ⟨so, g1, _, g3⟩ := id hs
  unfold Builtin.Slice.sliceApplied Builtin.Slice.sliceFields
  refine wpAny_bind (wpAny_bind (wpAny_field g1 g3 (x := vl) rfl (wpAny_bind (wpAny_field g1 g3 (x := vu) rfl (wpAny_bind (wpAny_field g1 g3 (x := vs) rfl (wpAny_pure ?_)))))))
  refine wpAny_bind (HT.slicePart_ ps ?_)
  show wpAny _ _ (if ((-1 : Int) == 0) = true then _ else _) _ _ s
  rw [if_neg (by decide)]
  refine wpAny_bind (HT.slicePart_ pl (wpAny_bind (HT.slicePart_ pu (wpAny_bind (wpAny_pure ?_)))))
  show wpAny _ _ (match Builtin.Slice.sliceAdjust none none (-1) (n : Int) with | (a, b) => pure (a, (-1 : Int), Builtin.Slice.slicePlaces a b (-1))) _ _ s
  rw [rev_adjust]
  show wpAny _ _ (pure ((n : Int) - 1, (-1 : Int), Builtin.Slice.slicePlaces ((n : Int) - 1) (-1) (-1))) _ _ s
  rw [rev_places]
  exact wpAny_pure h
theorem getItem_rev {t sl : Addr} {items : Array Value} {vl vu vs : Value} {Q : Value → Shared → Prop} (ht : IsTup s.heap t items) (hs : s.heap.IsSliceOf sl vl vu vs) (pl : IsPart vl none) (pu : IsPart vu none) (ps : IsPart vs (some (-1)))
    (h : Q (.ref s.heap.objs.size) { s with heap := s.heap.push { cls := .type "tuple", data := .seq items.toList.reverse.toArray } })
    (hsz : items.size ≤ sizeLine) : wpAny (model prog w) A (getItem (.ref t) (.ref sl)) Q E s := by
  have fit : sizeOk (.seq items.toList.reverse.toArray) := by
    show items.toList.reverse.toArray.size ≤ sizeLine
    simpa using hsz
  obtain ⟨so, g1, g2, _⟩ := id hs
  have ty : s.TypeIs (.ref sl) "slice" := ⟨so, g1, g2⟩
  unfold getItem
  try with_reducible refine wpAny_holding ?_
  first | refine wpAny_bind (wpAny_pure ?_) | skip
  refine wpAny_bind (wpAny_sequenceKey ht.typeIs (by decide) (wpAny_bind (wpAny_callSpecial?_slot (name := Str.ofString "__getitem__") ht.typeIs PyProof.Rows.slot_tuple_getitem
    (wpAny_call_entry PyProof.Rows.slot_tuple_getitem ht.typeIs entry_tuple_getitem ?_ (args_tuple_getitem _ _)))))
  show wpAny _ _ (Builtin.Tuple.tupleItemsOf (.ref t) >>= _) _ _ s
  refine wpAny_bind (tupleItemsOf_ ht (wpAny_bind (wpAny_typeOf ty ?_)))
  rw [if_pos (by decide)]
  refine wpAny_bind (slice_rev hs pl pu ps ?_)
  have no : ¬ ((((items.size : Int) - 1) == 0 && (-1 : Int) == 1 && items.size == items.size) = true) := by simp
  show wpAny _ _ (if ((((items.size : Int) - 1) == 0 && (-1 : Int) == 1 && items.size == items.size) = true) then _ else _) _ _ s
  rw [if_neg no, rev_pick]
  first
    | exact wpAny_bind (m := Builtin.Tuple.tupleExact _) (wpAny_newObj_type (wpAny_pure ⟨_, rfl, wpAny_pure h⟩) fit)
    | exact wpAny_bind (m := Builtin.Tuple.tupleExact _) (wpAny_newObj_type (wpAny_bind (wpAny_pure (wpAny_pure ⟨_, rfl, wpAny_pure h⟩))) fit)
    | exact wpAny_bind (wpAny_bind (m := Builtin.Tuple.tupleExact _) (wpAny_newObj_type (wpAny_pure (wpAny_pure ⟨_, rfl, wpAny_pure h⟩)) fit))
    | exact wpAny_bind (wpAny_bind (m := Builtin.Tuple.tupleExact _) (wpAny_newObj_type (wpAny_pure ⟨_, rfl, wpAny_pure h⟩) fit))
end
section
variable {X : Cx} {W : XW} {e o : Expr} {es : List Expr} {x m : Str} {f : F} {n k j : Nat} {aa kk : A} {d : E} {pos p apos kpos : Pos}
def tRevT (K : PySem.W.Frag) (te : TE) : TE := fun σ H Q => te σ H fun x H1 => ∃ a xs, x = .ref a ∧ SqT K H1 a xs ∧ ∀ p, H1 p = none → Q (.ref p) (upd H1 p (.tup xs.reverse))
theorem pe_revT {te : TE} {q : Nat} {p1 p2 p3 : Pos} (he : PE X e te) : PE X (.Subscript e (.Slice none none (some (.UnaryOp .USub (.Constant (.int 1) q p1) p2)) p3) pos) (tRevT X.K te) := by
  refine ⟨fun pins s σ H Q I h => Subscript_ (thn (he.run pins s σ H _ I h) fun v s1 ⟨x, H1, I1, r1, a, xs, ex, hx, q1⟩ => ?_)⟩
  subst ex
  cases r1
  have part : PO X (some (.UnaryOp .USub (.Constant (.int 1) q p1) p2)) (tPart (tUn (rU fun i => .int (-i)) (tC (.int 1)))) := po_some (pe_un un_neg pe_int)
  refine wpAny_Slice (thn (po_none.run pins s1 σ H1 (fun o H2 => o = none ∧ H2 = H1) I1 ⟨rfl, rfl⟩) fun vl s2 ⟨l, H2, I2, pl, el, e2⟩ => ?_)
  subst el e2
  refine thn (po_none.run pins s2 σ H2 (fun o H3 => o = none ∧ H3 = H2) I2 ⟨rfl, rfl⟩) fun vu s3 ⟨u, H3, I3, pu, eu, e3⟩ => ?_
  subst eu e3
  refine thn (part.run pins s3 σ H3 (fun o H4 => o = some (-1) ∧ H4 = H3) I3 ⟨1, rfl, -1, rfl, rfl, rfl⟩) fun vs s4 ⟨o, H4, I4, ps, eo, e4⟩ => ?_
  subst eo e4
  have I5 : Inv X pins σ H4 { s4 with heap := s4.heap.push { cls := .type "slice", data := .fields #[vl, vu, vs] } } := I4.kept (t' := s4.toks) fun b ob z => Heap.get?_push_of_some _ z
  obtain ⟨its, r, ht, hz⟩ := I5.tuple hx
  have hlen := r.length
  show wpAny (model X.prog X.w) X.A (subscriptTail e (.Slice none none (some (.UnaryOp .USub (.Constant (.int 1) q p1) p2)) p3) (.ref a) (.ref s4.heap.objs.size)) (EP X pins σ Q) X.xe { s4 with heap := s4.heap.push { cls := .type "slice", data := .fields #[vl, vu, vs] } }
  refine tail_any (ops := [.ref a, .ref s4.heap.objs.size]) ht.typeIs (PyProof.Rows.slot_tuple_getitem.lookup) ?_ (by with_unfolding_all rfl)
  refine getItem_rev ht (Heap.IsSliceOf.new _ vl vu vs) pl pu ps ⟨.ref _, _, I5.laid (t' := s4.toks) (o := .tup xs.reverse) (fun b ob z => Heap.get?_push_of_some _ z) (Nat.le_refl _) ?_, rfl, q1 _ (I5.hok.fresh (Nat.le_refl _))⟩ (by rw [List.size_toArray]; omega)
  exact ⟨by rw [List.length_reverse]; exact hz, _, r.reverse, ⟨_, Heap.get?_push_size _ rfl, rfl, 0, by simp⟩⟩
/-- t[::-1], t a tuple -/
def eRevT (d : E) : E := fun L S => (d L S).bind fun v S1 => match v with
  | .tup xs => .ok (.tup xs.reverse) S1
  | _ => .bad
theorem de_revT {q : Nat} {p1 p2 p3 : Pos} (he : DE X W e d) : DE X W (.Subscript e (.Slice none none (some (.UnaryOp .USub (.Constant (.int 1) q p1) p2)) p3) pos) (eRevT d) := by
  refine ⟨PE.weak (pe_revT he.pe) fun σ H Q h => ?_⟩
  obtain ⟨ρ, S, L, sim, h⟩ := h
  refine ⟨ρ, S, L, sim, Post.bind h fun v S1 ρ1 H1 w _ e1 s1 r1 h1 => ?_⟩
  split at h1
  · obtain ⟨a, ws, rfl, l1, r2⟩ := r1.tup_inv
    refine ⟨a, ws, rfl, l1, fun p hp => h1 ρ1 _ _ (ext_new hp) (s1.new hp) ?_⟩
    unfold RV
    exact ⟨p, _, rfl, .of upd_same, (r2.reverse).ext (ext_new hp)⟩
  · exact h1.elim
/-! ### keywords -/
structure DK (X : Cx) (W : XW) (kws : List Keyword) (d : A) : Prop where
  pk : PK X kws (lA X.K W d)
theorem dk_nil : DK X W [] aNil := ⟨⟨fun pos pins s σ H Q I h => by
  obtain ⟨ρ, S, L, sim, h⟩ := h
  exact pk_nil.run pos pins s σ H Q I (h ρ H _ Ext.refl sim.st .nil)⟩⟩
theorem dk_cons {kws : List Keyword} {nm : Option Str} (he : DE X W e d) (hr : DK X W kws kk) : DK X W (⟨nm, e, kpos⟩ :: kws) (aCons d kk) := ⟨⟨fun pos pins s σ H Q I h => by
  refine (pk_cons he.pe hr.pk).run pos pins s σ H Q I ?_
  obtain ⟨ρ, S, L, sim, h⟩ := h
  refine ⟨ρ, S, L, sim, Post.bind (Rel' := RVs X.K) h fun x S1 ρ1 H1 w _ e1 s1 r1 h1 => ?_⟩
  refine ⟨ρ1, S1, L, sim.next e1 s1, Post.bind h1 fun xs S2 ρ2 H2 ws _ e2 s2 r2 h2 => ?_⟩
  exact h2 ρ2 H2 _ Ext.refl s2 (.cons (r1.ext e2) r2)⟩⟩
/-- the keywords' values in the parameters' order -/
def KwB (K : PySem.W.Frag) (fd : FuncData) (ps ks : List Str) (ix : List Nat) : Prop :=
  ∀ (s : Shared) (ws us : List Value), K.In s.heap → ws.length = ks.length → ix.mapM (ws[·]?) = some us → BindsTo s fd ⟨[], ks.zip ws⟩ (ps.zip us)
theorem picks {K : PySem.W.Frag} {ρ : Pl} {H : Hp} {xs : List Val} {ws : List V} {us : List Value} (r : RVs K ρ H xs ws) (v : Vals ws us) : ∀ {ix : List Nat} {ys : List Val}, ix.mapM (xs[·]?) = some ys →
    ∃ vs zs, RVs K ρ H ys vs ∧ Vals vs zs ∧ ix.mapM (us[·]?) = some zs
  | [], ys, h => by
    simp at h; subst h
    exact ⟨[], [], .nil, .nil, by simp⟩
  | i :: ix, ys, h => by
    rw [List.mapM_cons] at h
    simp only [bind, Option.bind_eq_some_iff, pure, Option.some.injEq] at h
    obtain ⟨y, hy, yr, hr, rfl⟩ := h
    obtain ⟨vs, zs, a, b, c⟩ := picks r v hr
    obtain ⟨w, hw, rw'⟩ := r.get hy
    obtain ⟨u, hu, ru⟩ := v.get hw
    exact ⟨w :: vs, u :: zs, .cons rw' a, .cons ru b, by rw [List.mapM_cons, hu, c]; rfl⟩
def aKw (a : A) (n : Nat) (ix : List Nat) : A := fun L S => (a L S).bind fun xs S1 => if xs.length = n then (match ix.mapM (xs[·]?) with
  | some ys => .ok ys S1
  | none => .bad) else .bad
/-- a def called by its name, all arguments by keywords -/
structure CalK (X : Cx) (k : Nat) (x : Str) (f : F) (n : Nat) (ks : List Str) (ix : List Nat) : Prop where
  bad : ∀ args S, args.length ≠ n → f args S = .bad
  ex : ∃ (a : Addr) (fd : FuncData) (ps : List Str), ps.length = n ∧ FnOk X.prog X.w X.K X.mg X.base CX0 k a fd ps (fun vs H Q _ => spOf X.K f n vs H Q E0) ∧ X.mg x = some (.ref a) ∧ PySem.W.keepIn X.K (.ref a) = true ∧ KwB X.K fd ps ks ix
theorem run_kw {fa : Addr} {fd : FuncData} {ps ks : List Str} {sp : Sp} {pins : List (Addr × Obj)} {σ : L2.St} {H : Hp} {s : Shared} {Q : VK} {us ws : List Value} {vs : List V} {first : List Value} (F : FnOk X.prog X.w X.K X.mg X.base CX0 k fa fd ps sp) (hr : Room k X.A)
    (I : Inv X pins σ H s) (b : BindsTo s fd ⟨first, ks.zip ws⟩ (ps.zip us)) (r : Vals vs us) (h : sp vs H Q E0) : wpAny (model X.prog X.w) X.A (call (.ref fa) first (ks.zip ws)) (EP X pins σ Q) X.xe s := by
  refine wpAny_call (codeAny_mono (F.run X.A X.stack s H ⟨first, ks.zip ws⟩ us vs Q E0 hr I.env0 b r h) fun rr s' z => ?_)
  match rr, z with
  | .error e, z => exact z.elim
  | .ok (.ret u), z => exact I.after z
  | .ok .next, z => exact z.elim
  | .ok .brk, z => exact z.elim
  | .ok .cont, z => exact z.elim
theorem de_callK {kws : List Keyword} {ks : List Str} {ix : List Nat} (c : CalK X k x f n ks ix) (hr : Room k X.A) (hg : Gl X x) (ha : DK X W0 kws aa) (hall : (backToKw pos (keywordEach kws X.env)).all (·.1.isSome) = true := by rfl) (hks : (backToKw pos (keywordEach kws X.env)).filterMap (·.1) = ks := by rfl)
    (hdb : (x == ("__debug__" : Str)) = false := by decide) (hpl : ((backTo pos (starEach [] X.env)).any (·.1) || (backToKw pos (keywordEach kws X.env)).any (·.1.isNone)) = false := by rfl) :
    DE X W0 (.Call (.Name x p) [] kws pos) (eCall f (aKw aa ks.length ix)) := by
  obtain ⟨a, fd, ps, hn, F, hm, hk, hb⟩ := c.ex
  refine ⟨⟨fun pins s σ H Q I h => wpAny_Call_Name_kw (ld_glob I hg hm ?_ hdb)⟩⟩
  obtain ⟨ρ, S, L, sim, h⟩ := h
  have h2 : lA X.K W0 aa σ H fun ws H1 => ∃ ρ1 S1 xs ys, StOk X.K ρ1 H1 S1 ∧ RVs X.K ρ1 H1 xs ws ∧ xs.length = ks.length ∧ ix.mapM (xs[·]?) = some ys ∧ Post X.K (fun c d _ H' => E0 c d H') (RV X.K) ρ1 H1 [] (f ys S1) Q := by
    unfold eCall aKw at h
    rw [Gx.R.assoc] at h
    refine ⟨ρ, S, L, sim, Post.bind (Rel' := RV X.K) h fun xs S1 ρ1 H1 ws _ e1 s1 r1 h1 => ?_⟩
    by_cases hl : xs.length = ks.length
    · rw [if_pos hl] at h1
      cases q : ix.mapM (xs[·]?) with
      | none => rw [q] at h1; exact h1.elim
      | some ys => rw [q] at h1; exact ⟨ρ1, S1, xs, ys, s1, r1, hl, q, PostW.weak h1 fun _ _ _ z => z⟩
    · rw [if_neg hl] at h1; exact h1.elim
  refine PySem.W.callWith_KW0 (h₀ := X.base) I.ok.mod.kin hk hall (thn (ha.pk.run pos pins s σ H _ I h2) fun us s1 ⟨vs, H1, I1, r, ρ1, S1, xs, ys, st, rx, hxl, q, post⟩ => ⟨I1.kIn, ?_⟩) hpl
  rw [hks]
  obtain ⟨ws, zs, g1, g2, g3⟩ := picks rx r q
  by_cases hl : ys.length = n
  · have hul : us.length = ks.length := by rw [← r.length, rx.length, hxl]
    exact run_kw F hr I1 (hb s1 us zs I1.kIn hul g3) g2 ⟨ρ1, S1, ys, st, g1, hl, post⟩
  · rw [c.bad _ _ hl] at post; exact post.elim
end
end Gx
end
section
set_option Elab.async false
set_option linter.all false
set_option maxHeartbeats 1000000
set_option autoImplicit false
/-! Gx: what a generated text leans on. -/
namespace Gx
open PySem PySem.Spec PyProof.Rows L2
theorem u128 {k : Nat} {A : Around} (r : Room k A) : A.units + 128 < cLine := by have := r.un; omega
theorem u1 {n m : Nat} (h : n + 128 < m) : n + 1 < m := by omega
theorem u64 {n m : Nat} (h : n + 128 < m) : n + 64 < m := by omega
theorem u65 {n m : Nat} (h : n + 128 < m) : n + 65 < m := by omega
def iNew (a : A) : I := fun L S => (a L S).bind fun xs S1 => .ok ⟨[], xs⟩ S1
def eDict0 (m : Bool) : E := fun _ S => if m then .ok (.ref S.length) (S ++ [.dct []]) else .ok (.dct []) S
section
variable {X : Cx} {W : XW} {e tg : Expr} {aa : A} {pos : Pos}
theorem T_gint {x : Str} {i : Int} (hg : Gl X x) (h : ∃ t, X.mg x = some (.int i t)) (hd : (x == ("__debug__" : Str)) = false := by decide) : DE X W (.Name x pos) (eC (.int i)) := by
  obtain ⟨t, h⟩ := h
  exact de_gint hg h hd
theorem T_gstr {x y : Str} (hg : Gl X x) (h : ∃ t, X.mg x = some (.str y t)) (hd : (x == ("__debug__" : Str)) = false := by decide) : DE X W (.Name x pos) (eC (.str y)) := by
  obtain ⟨t, h⟩ := h
  exact de_gstr hg h hd
theorem gl_of {x : Str} (h : X.env.kindOf x = some .globalImplicit) : Gl X x := h
theorem dv_l {i : Nat} {x : Str} (hN : X.N[i]? = some x) (h : X.env.scope.names.lookup x = some .local) (hd : (x == ("__debug__" : Str)) = false := by decide) (hcd : (x == ("__classdict__" : Str)) = false := by decide) : DE X W (.Name x pos) (eVar i) := de_var hN (.inl h) hd hcd
theorem dv_c {i : Nat} {x : Str} (hN : X.N[i]? = some x) (h : X.env.scope.names.lookup x = some .cell) (hd : (x == ("__debug__" : Str)) = false := by decide) (hcd : (x == ("__classdict__" : Str)) = false := by decide) : DE X W (.Name x pos) (eVar i) := de_var hN (.inr (.inl h)) hd hcd
theorem dv_f {i : Nat} {x : Str} (hN : X.N[i]? = some x) (h : X.env.scope.names.lookup x = some .free) (hd : (x == ("__debug__" : Str)) = false := by decide) (hcd : (x == ("__classdict__" : Str)) = false := by decide) : DE X W (.Name x pos) (eVar i) := de_var hN (.inr (.inr h)) hd hcd
theorem pg_l {i : Nat} {x : Str} (hN : X.N.Nodup) (hi : X.N[i]? = some x) (h : X.env.scope.names.lookup x = some .local) : PG X (.Name x pos) (L2.gName i) := pg_name hN hi (.inl h) (.inr h)
theorem pg_c {i : Nat} {x : Str} (hN : X.N.Nodup) (hi : X.N[i]? = some x) (h : X.env.scope.names.lookup x = some .cell) (hf : X.fn x = true) : PG X (.Name x pos) (L2.gName i) := pg_name hN hi (.inr h) (.inl hf)
theorem dg_l {i : Nat} {x : Str} (hN : X.N.Nodup) (hi : X.N[i]? = some x) (h : X.env.scope.names.lookup x = some .local) : DG X W (.Name x pos) (gName i) := dg_name hN hi (.inl h) (.inr h)
theorem dg_c {i : Nat} {x : Str} (hN : X.N.Nodup) (hi : X.N[i]? = some x) (h : X.env.scope.names.lookup x = some .cell) (hf : X.fn x = true) : DG X W (.Name x pos) (gName i) := dg_name hN hi (.inr h) (.inl hf)
theorem di_fresh (h : DF X W e aa) : DI X W tg e (iNew aa) := di_new h
theorem de_dict0 (m : Bool) : DE X W (.Dict [] [] pos) (eDict0 m) := by
  refine ⟨PE.weak pe_dnewK fun σ H Q h p hp => ?_⟩
  obtain ⟨ρ, S, L, sim, h⟩ := h
  cases m with
  | true =>
    refine h _ _ _ (ext_cell hp) (sim.st.alloc hp ⟨[], upd_same, by unfold RVK; rfl⟩) ?_
    unfold RV
    exact ⟨p, by show (ρ.c ++ [p])[S.length]? = some p; rw [show S.length = ρ.c.length from sim.st.len.symm, List.getElem?_concat_length], rfl⟩
  | false =>
    refine h _ _ _ (ext_new hp) (sim.st.new hp) ?_
    unfold RV
    exact ⟨p, [], rfl, fz_new sim.st hp, by unfold RVK; rfl⟩
theorem passes_nox {X : Cx} : PassesOwn (model X.nox.prog X.nox.w) X.nox.A X.nox.env X.nox.xe := by
  first
    | exact ⟨fun _ _ h => h.elim⟩
    | exact fun _ _ h => h.elim
    | (intro e s h; exact h.elim)
end
/-- a def of the module: its promise, under its name -/
structure FOk (P : Program) (w : World) (K : PySem.W.Frag) (mg : Str → Option Value) (base : Heap) (k : Nat) (x : Str) (f : F) (n : Nat) : Prop where
  bad : ∀ args S, args.length ≠ n → f args S = .bad
  ex : ∃ (a : Addr) (fd : FuncData) (ps : List Str), ps.length = n ∧ FnOk P w K mg base CX0 k a fd ps (fun vs H Q _ => spOf K f n vs H Q E0) ∧ mg x = some (.ref a) ∧ PySem.W.keepIn K (.ref a) = true ∧ Binds K fd ps []
structure GOk (P : Program) (w : World) (K : PySem.W.Frag) (mg : Str → Option Value) (base : Heap) (k : Nat) (x : Str) (f : F) (n : Nat) : Prop where
  bad : ∀ args S, args.length ≠ n → f args S = .bad
  ex : ∃ (a : Addr) (fd : FuncData) (ps : List Str), ps.length = n ∧ GFn P w K mg base CX0 k a fd ps (fun vs H Q _ => spOf K f n vs H Q E0) ∧ mg x = some (.ref a) ∧ PySem.W.keepIn K (.ref a) = true ∧ Binds K fd ps []
structure KOk (P : Program) (w : World) (K : PySem.W.Frag) (mg : Str → Option Value) (base : Heap) (k : Nat) (x : Str) (f : F) (n : Nat) (ks : List Str) (ix : List Nat) : Prop where
  bad : ∀ args S, args.length ≠ n → f args S = .bad
  ex : ∃ (a : Addr) (fd : FuncData) (ps : List Str), ps.length = n ∧ FnOk P w K mg base CX0 k a fd ps (fun vs H Q _ => spOf K f n vs H Q E0) ∧ mg x = some (.ref a) ∧ PySem.W.keepIn K (.ref a) = true ∧ KwB K fd ps ks ix
section
variable {X : Cx} {k n : Nat} {x : Str} {f : F} {ks : List Str} {ix : List Nat}
theorem FOk.cal (h : FOk X.prog X.w X.K X.mg X.base k x f n) : Cal X k x f n [] := by
  refine ⟨h.bad, ?_⟩
  obtain ⟨a, fd, ps, h1, h2, h3, h4, h5⟩ := h.ex
  exact ⟨a, fd, ps, [], [], h1, h2, h3, h4, h5, .nil, fun _ _ => .nil⟩
theorem GOk.cal (h : GOk X.prog X.w X.K X.mg X.base k x f n) : CalG X k x f n := ⟨h.bad, h.ex⟩
theorem KOk.cal (h : KOk X.prog X.w X.K X.mg X.base k x f n ks ix) : CalK X k x f n ks ix := ⟨h.bad, h.ex⟩
end
section
variable {P : Program} {w : World} {K : PySem.W.Frag} {mg : Str → Option Value} {base : Heap} {k j n d m : Nat} {x : Str} {f : F} {ks ps : List Str} {ix : List Nat} {a : Addr} {fd : FuncData} {db : SS}
theorem de_kw {X : Cx} {aa : A} {pos p : Pos} {kws : List Keyword} (c : KOk X.prog X.w X.K X.mg X.base k x f n ks ix) (hm : ks.length = m) (hr : Room k X.A) (hg : Gl X x) (ha : DK X W0 kws aa) (hall : (backToKw pos (keywordEach kws X.env)).all (·.1.isSome) = true) (hks : (backToKw pos (keywordEach kws X.env)).filterMap (·.1) = ks)
    (hpl : ((backTo pos (starEach [] X.env)).any (·.1) || (backToKw pos (keywordEach kws X.env)).any (·.1.isNone)) = false) (hdb : (x == ("__debug__" : Str)) = false := by decide) :
    DE X W0 (.Call (.Name x p) [] kws pos) (eCall f (aKw aa m ix)) := by
  subst hm
  exact de_callK c.cal hr hg ha hall hks hdb hpl
theorem FOk.mono (h : FOk P w K mg base j x f n) (q : j ≤ k) : FOk P w K mg base k x f n := by
  refine ⟨h.bad, ?_⟩
  obtain ⟨a, fd, ps, h1, h2, h3⟩ := h.ex
  exact ⟨a, fd, ps, h1, h2.mono q, h3⟩
theorem fok_mk (F : FnOk P w K mg base CX0 k a fd ps (fun vs H Q _ => spOf K (fnD ps.length m d db) ps.length vs H Q E0)) (h1 : mg x = some (.ref a)) (h2 : PySem.W.keepIn K (.ref a) = true) (h3 : Binds K fd ps []) : FOk P w K mg base k x (fnD ps.length m d db) ps.length :=
  ⟨fun args S h => fnD_arity args S h, a, fd, ps, rfl, F, h1, h2, h3⟩
theorem gok_mk (F : GFn P w K mg base CX0 k a fd ps (fun vs H Q _ => spOf K (fnD ps.length m d db) ps.length vs H Q E0)) (h1 : mg x = some (.ref a)) (h2 : PySem.W.keepIn K (.ref a) = true) (h3 : Binds K fd ps []) : GOk P w K mg base k x (fnD ps.length m d db) ps.length :=
  ⟨fun args S h => fnD_arity args S h, a, fd, ps, rfl, F, h1, h2, h3⟩
theorem kok_mk (F : FnOk P w K mg base CX0 k a fd ps (fun vs H Q _ => spOf K (fnD ps.length m d db) ps.length vs H Q E0)) (h1 : mg x = some (.ref a)) (h2 : PySem.W.keepIn K (.ref a) = true) (h3 : KwB K fd ps ks ix) : KOk P w K mg base k x (fnD ps.length m d db) ps.length ks ix :=
  ⟨fun args S h => fnD_arity args S h, a, fd, ps, rfl, F, h1, h2, h3⟩
theorem fun_kw {qual : Str} {st : Stmt} {fd : FuncData} (F : Fun K x qual st a fd)
    (h : ∀ (kV doc pm : Value) (an : Option Addr) (cdv ct : Value) (ws us : List Value), ws.length = ks.length → ix.mapM (ws[·]?) = some us → bindArgs (PySem.W.fnOf x qual (defArgs st) (defBody st) (defScope st) .none kV doc pm an cdv ct) ⟨[], ks.zip ws⟩ = pure (ps.zip us)) : KwB K fd ps ks ix := by
  obtain ⟨oc, od, kV, doc, pm, an, cdv, ct, osl, rfl, lk, hcd⟩ := F.ex
  exact fun s ws us _ hl hp => .of_eq (h kV doc pm an cdv ct ws us hl hp)
theorem room_of {k : Nat} (h : (decide (callerA.depth + 3 * k + 5 < recursionLimit) && decide (callerA.units + 16 * k + 200 < cLine)) = true) : Room k callerA := by
  rw [Bool.and_eq_true, decide_eq_true_eq, decide_eq_true_eq] at h
  exact ⟨rfl, h.1, h.2⟩
theorem gok_bad (n : Nat) (h : ∃ (a : Addr) (fd : FuncData) (ps : List Str), ps.length = n ∧ mg x = some (.ref a) ∧ PySem.W.keepIn K (.ref a) = true ∧ Binds K fd ps []) : GOk P w K mg base k x (fun _ _ => .bad) n := by
  obtain ⟨a, fd, ps, h1, h2, h3, h4⟩ := h
  refine ⟨fun _ _ _ => rfl, a, fd, ps, h1, ⟨fun vs H Q E z => ?_, fun A outer s H args us vs Q E _ _ _ _ _ z => ?_⟩, h2, h3, h4⟩
  · rw [h1]; exact spOf_len z
  · obtain ⟨ρ, S, xs, _, _, _, z⟩ := z; exact z.elim
theorem gok_of (h : GOk P w K mg base k x f n) (hm : mg x = some (.ref a)) : ∃ (fd : FuncData) (ps : List Str), ps.length = n ∧ GFn P w K mg base CX0 k a fd ps (fun vs H Q _ => spOf K f n vs H Q E0) := by
  obtain ⟨a', fd, ps, h1, h2, h3, h4, h5⟩ := h.ex
  rw [h3] at hm; cases hm
  exact ⟨fd, ps, h1, h2⟩
/-- nothing is promised of a function that is bad everywhere -/
theorem fok_bad (n : Nat) (h : ∃ (a : Addr) (fd : FuncData) (ps : List Str), ps.length = n ∧ mg x = some (.ref a) ∧ PySem.W.keepIn K (.ref a) = true ∧ Binds K fd ps []) : FOk P w K mg base k x (fun _ _ => .bad) n := by
  obtain ⟨a, fd, ps, h1, h2, h3, h4⟩ := h
  refine ⟨fun _ _ _ => rfl, a, fd, ps, h1, ⟨fun vs H Q E z => ?_, fun A outer s H args us vs Q E _ _ _ _ z => ?_⟩, h2, h3, h4⟩
  · rw [h1]; exact spOf_len z
  · obtain ⟨ρ, S, xs, _, _, _, z⟩ := z; exact z.elim
end
end Gx
end
section
set_option Elab.async false
set_option linter.all false
set_option maxHeartbeats 1000000
set_option autoImplicit false
/-! Gx: len, == and != of instances of own classes. -/
namespace Gx
open PySem PySem.Spec PyProof.Rows L2
/-- len, instances of the class at C by their own __len__ -/
def bLenO (C : Addr) (f : F) : FV := fun xs S => match xs with
  | [x] => match objOf S x with
    | some (D, _) => if D = C then (f [x] S).bind fun v S1 => match v with | .int i => if 0 ≤ i ∧ i < 2 ^ 62 then .ok (.int i) S1 else .bad | _ => .bad else .bad
    | none => bLen [x] S
  | _ => .bad
/-- a method's own run, its arguments in hand -/
theorem met_run {X : Cx} {k : Nat} {C : Addr} {m : Str} {f : F} {n : Nat} (c : Met X k C m f n []) : ∃ (a : Addr), Meth X.K C m a ∧
    ∀ {A : Around} {pins : List (Addr × Obj)} {s : Shared} {σ : L2.St} {H : Hp} {us : List Value} {ws : List V} {xs : List Val} {ρ : Pl} {S : Store} {Q : VK}, Room k A → Env0 X.prog X.w X.K X.mg X.base A X.stack s H → Inv X pins σ H s → Vals ws us → StOk X.K ρ H S → RVs X.K ρ H xs ws →
      Post X.K W0 (RV X.K) ρ H [] (f xs S) Q → wpAny (model X.prog X.w) A (call (.ref a) us) (EP X pins σ Q) X.xe s := by
  obtain ⟨a, fd, ps, dvs, dus, hn, F, hm, hb, hd, hds⟩ := c.ex
  have e1 : dvs = [] := RVs.nil_iff.mp (hds ⟨[], []⟩ (fun _ => none))
  subst e1
  have e2 : dus = [] := by cases hd; rfl
  subst e2
  refine ⟨a, hm, fun {A pins s σ H us ws xs ρ S Q} hr e0 I r st rv post => ?_⟩
  by_cases hl : xs.length = n
  · have hsp : spOf X.K f n ws H Q E0 := ⟨ρ, S, xs, st, rv, hl, PostW.weak post fun _ _ _ z => z⟩
    have hlen : us.length = ps.length := by have h1 := r.length; have h2 := rv.length; omega
    have hbb := hb s us I.kIn (by simpa using hlen)
    rw [List.append_nil] at hbb
    refine wpAny_call (codeAny_mono (F.run A X.stack s H ⟨us, []⟩ us ws Q E0 hr e0 hbb r hsp) fun rr s' hq => ?_)
    match rr, hq with
    | .error e, hq => exact hq.elim
    | .ok (.ret u), hq => exact I.after hq
    | .ok .next, hq => exact hq.elim
    | .ok .brk, hq => exact hq.elim
    | .ok .cont, hq => exact hq.elim
  · rw [c.bad _ _ hl] at post
    exact post.elim
theorem cd_lenO {X : Cx} {k : Nat} {C : Addr} {f : F} (c : Met X k C "__len__" f 1 []) (hr : Room (k + 1) X.A) : CallR X (.builtin "len") (lC X.K W0 (bLenO C f)) := by
  intro pins s σ H ws us Q I r h
  obtain ⟨σ', ρ, S, xs, st, rv, post⟩ := h
  obtain ⟨a, hm, run⟩ := met_run c
  unfold bLenO at post
  split at post
  · rename_i x
    obtain ⟨w, rfl, rw'⟩ := rvs1 rv
    split at post
    · rename_i D fs qo
      split at post
      · rename_i hD
        subst hD
        obtain ⟨q, dx, vs, rfl, hq, hf⟩ := obj_read st rw' qo
        obtain ⟨u, rfl, ru⟩ := vals1 r
        obtain rfl : u = Value.ref q := ru
        obtain ⟨mA, J, _⟩ := ins_get I.hok hq
        obtain ⟨od, J, _⟩ := J.look
        refine Calls.call_function_entry kind_len plain_len entry_len (args_len1 _) ?_
        unfold Builtin.«len»
        refine wpAny_bind (m := oneArg "len" _) (wpAny_pure ?_)
        have p2 : Post X.K W0 (RV X.K) ρ H [] (f [x] S) (fun v H1 => ∃ i : Int, v = .int i ∧ 0 ≤ i ∧ i < 2 ^ 62 ∧ Q (.int i) H1) := by
          cases e : f [x] S with
          | ok v S1 =>
            rw [e] at post
            simp only [R.bind_ok] at post
            intro ρ1 H1 w1 e1 s1 r1
            split at post
            · rename_i i
              split at post
              · rename_i hi
                have := post ρ1 H1 _ e1 s1 (.mk_int i)
                exact ⟨i, r1.int_inv, hi.1, hi.2, this⟩
              · exact post.elim
            · exact post.elim
          | exn y S1 => rw [e] at post; exact PostW.weak post fun _ _ _ z => z
          | bad => rw [e] at post; exact post.elim
        refine wpAny_bind (m := callSpecial? (.ref q) (PySem.Str.ofString "__len__")) (PySem.W.special_fn I.kIn J hm.at_ (beq_iff_eq.mp hm.fn) (wpAny_mono (run (us := [.ref q]) (Room.in1 hr) I.env0.in1 I r st rv p2) (fun u s1 hu => ?_) fun _ _ z => z))
        obtain ⟨v, H1, I1, ru, i, rfl, hi0, hi1, hq1⟩ := hu
        obtain ⟨t, rfl⟩ := (show ∃ t, u = Value.int i t from ru)
        refine wpAny_bind (wpAny_holding (wpAny_pure ?_))
        refine wpAny_bind (wpAny_letGo ?_)
        show wpAny _ _ (if i < 0 then _ else _) _ _ _
        rw [if_neg (by omega)]
        show wpAny _ _ (if i ≥ 2 ^ 63 then _ else _) _ _ _
        rw [if_neg (by omega)]
        exact wpAny_bind (wpAny_mkInt (wpAny_pure ⟨_, rfl, .int i, H1, I1.tok _, ⟨_, rfl⟩, hq1⟩))
      · exact post.elim
    · exact cd_len pins s σ H _ us Q I r ⟨σ', ρ, S, [x], st, rv, post⟩
  · exact post.elim
end Gx
end
section
set_option Elab.async false
set_option linter.all false
set_option maxHeartbeats 1000000
set_option autoImplicit false
namespace Gx
open PySem PySem.Spec PyProof.Rows L2
section
variable {prog : Program} {w : World} {A : Around} {E : Value → Shared → Prop} {s : Shared} {K : PySem.W.Frag} {x C f : Addr} {ox : Obj} {od : Option Obj} {b tb : Value}
/-- what comparisons ask of the class at C -/
structure EqC (K : PySem.W.Frag) (Cs : List Addr) (C : Addr) : Prop where
  isi : Isi K Cs
  mem : C ∈ Cs
  own : ∀ D ∈ Cs, PySem.W.notFirst K C (.ref D) = true
  bui : ∀ t ∈ tyNames, PySem.W.notFirst K C (.type t) = true
  ne : PySem.W.findIn K (.ref C) "__ne__" = some (some (.builtin "object.__ne__"))
theorem ne_run (hu : A.units + 1 < cLine) (X : K.In s.heap) (I : PySem.W.InstAt s.heap x ox C od) (hb : PySem.W.Looks (model prog w) s.heap (typeOf b) tb) (hn : PySem.W.notFirst K C tb = true)
    (hne : PySem.W.findIn K (.ref C) "__ne__" = some (some (.builtin "object.__ne__"))) (hm : PySem.W.mroIn K C (.type "object") = some true) (hs : PySem.W.findIn K (.ref C) "__eq__" = some (some (.ref f))) (hf : PySem.W.isFn K (.ref f) = true)
    {Q : Value → Shared → Prop} (h : wpAny (model prog w) A.in1 (call (.ref f) [.ref x, b]) (fun v s' => ∃ c, v = .bool c ∧ Q (.bool (!c)) s') E s) : wpAny (model prog w) A (richCompare .NotEq (.ref x) b) Q E s := by
  have inst : PySem.W.Looks (model prog w) s.heap (isInstance (.ref x) (.type "object")) true := I.type.andThen (PySem.W.looks_mroIn X hm)
  have body : wpAny (model prog w) A.in1 (Builtin.«object.__ne__» ⟨[.ref x, b], []⟩) (fun fin s' => ∃ c, fin = .done (.ret (.bool c)) ∧ Q (.bool c) s') E s := by
    obtain ⟨hp, g, d, t, os⟩ := s
    unfold Builtin.«object.__ne__»
    have hu1 : A.in1.units < cLine := hu
    repeat (first
      | with_reducible refine wpAny_cRoomFor hu1 ?_
      | (refine wpAny_bind (m := callSpecialIfBound? (.ref x) (Str.ofString "__eq__") [b]) (PySem.W.ifBound_K X I hs hf (wpAny_mono h (fun r s' hr => ?_) fun _ _ e => e)); obtain ⟨c, hc, hq⟩ := hr; subst hc)
      | exact ⟨_, rfl, hq⟩
      | exact wpAny_pure ⟨_, rfl, hq⟩
      | (refine wpAny_bind (m := truthy (.bool _)) (wpAny_truthy_bool ?_))
      | wp_step)
  have run : wpAny (model prog w) A (call (.builtin "object.__ne__") [.ref x, b]) (fun r s' => ∃ c, r = .bool c ∧ Q (.bool c) s') E s := by
    refine wpAny_call (codeAny_call_builtin F.cmp_object.ne.plain F.cmpEntry_ne (@PySem.W.check_slot (model prog w) _ _ _ "object.__ne__" "object" "__ne__" (.ref x) [b] [] _ (by decide +kernel) (by decide +kernel) inst (F.cmpArgs_ne _ _) ?_))
    refine wpAny_mono body (fun fin s' hq => ?_) fun _ _ e => e
    obtain ⟨c, rfl, hq⟩ := hq
    exact ⟨c, rfl, hq⟩
  have one : wpAny (model prog w) A (tryCompare (.ref x) (cmpInfo .NotEq).2.1 b) (fun r s' => ∃ c, r = some (.bool c) ∧ Q (.bool c) s') E s := by
    show wpAny (model prog w) A (tryCompare (.ref x) "__ne__" b) (fun r s' => ∃ c, r = some (.bool c) ∧ Q (.bool c) s') E s
    unfold tryCompare
    refine wpAny_bind (m := callSpecialIfBound? (.ref x) (Str.ofString "__ne__") [b]) ?_
    simp only [callSpecialIfBound?, bindSpecialIfBound?]
    have fin : wpAny (model prog w) A (call (.builtin "object.__ne__") ([.ref x] ++ [b]) >>= fun v => pure (some v)) (fun r s' => wpAny (model prog w) A (match r with | some .notImplemented | none => pure none | some v => pure (some v)) (fun r s' => ∃ c, r = some (.bool c) ∧ Q (.bool c) s') E s') E s := by
      refine wpAny_bind (wpAny_mono run (fun v s' hv => ?_) fun _ _ e => e)
      obtain ⟨c, rfl, hq⟩ := hv
      exact wpAny_pure (wpAny_pure ⟨c, rfl, hq⟩)
    refine wpAny_holding (wpAny_bind (wpAny_bind (wpAny_bind (I.type.here ((PySem.W.looks_findIn X hne).here ?_)))))
    refine wpAny_bind (wpAny_askSetting (wpAny_ite ?_))
    simp only [F.cmp_object.ne.bind _]
    split
    · exact wpAny_bind (wpAny_pure (wpAny_pure (by exact fin)))
    · exact wpAny_tryCatch (wpAny_bind (wpAny_pure (wpAny_pure (by exact fin))))
  unfold richCompare
  simp only [oneThing_ref]
  refine wpAny_holding (wpAny_bind (wpAny_cRoomFor (by omega) ?_))
  refine wpAny_bind (I.type.here (wpAny_bind (hb.here ?_)))
  split
  · rename_i q
    have e : PySem.W.subIn K tb (.ref C) = some false := by
      rcases Bool.or_eq_true_iff.mp hn with e | e
      · rw [beq_iff_eq.mp e] at q; simp at q
      · exact beq_iff_eq.mp e
    refine wpAny_bind ((PySem.W.looks_subIn X e).here ?_)
    simp only [Bool.false_eq_true, if_false]
    refine wpAny_bind (wpAny_mono one (fun r s' z => ?_) fun _ _ e => e)
    obtain ⟨v, rfl, hq⟩ := z
    exact wpAny_pure hq
  · refine wpAny_bind (wpAny_pure ?_)
    simp only [Bool.false_eq_true, if_false]
    refine wpAny_bind (wpAny_mono one (fun r s' z => ?_) fun _ _ e => e)
    obtain ⟨v, rfl, hq⟩ := z
    exact wpAny_pure hq
end
/-- == (or !=), instances of the class at C by their own __eq__ -/
def oEqO (neg : Bool) (Cs : List Addr) (C : Addr) (f : F) : O := fun x y S => match objOf S x with
  | some (D, _) => if D = C then (match tyOf S y with
    | some t => if okTy Cs t then (f [x, y] S).bind fun v S1 => match v with | .bl c => .ok (.bl (if neg then !c else c)) S1 | _ => .bad else .bad
    | none => .bad) else .bad
  | none => if neg then oNe x y S else oEq x y S
theorem od_eqO {X : Cx} {k : Nat} {Cs : List Addr} {C : Addr} {f : F} (neg : Bool) (c : Met X k C "__eq__" f 2 []) (q : EqC X.K Cs C) (hr : Room (k + 1) X.A) (hu : X.A.units + 64 < cLine) : OpR X (compareOp (if neg then .NotEq else .Eq)) (lO X.K W0 (oEqO neg Cs C f)) := by
  intro pins s σ H wx wy v u Q I rx ry h
  obtain ⟨σ', ρ, S, x, y, st, hx, hy, post⟩ := h
  obtain ⟨a, hm, run⟩ := met_run c
  unfold oEqO at post
  split at post
  · rename_i D fs qo
    split at post
    · rename_i hD
      subst hD
      split at post
      · rename_i t qt
        split at post
        · rename_i hk
          obtain ⟨p, dx, vs, rfl, hq, hf⟩ := obj_read st hx qo
          obtain rfl : v = Value.ref p := rx
          obtain ⟨mA, J, _⟩ := ins_get I.hok hq
          obtain ⟨od, J, _⟩ := J.look
          have tx := ty_of q.isi st hy qt hk
          obtain ⟨Pp, KX, hP, _⟩ := kit_of I ry tx
          obtain ⟨m, hF⟩ := I.fr
          have nf : PySem.W.notFirst X.K D (tyV t) = true := by
            cases t with
            | inl n => exact q.bui n (by simpa [okTy] using hk)
            | inr D' => exact q.own D' (by simpa [okTy] using hk)
          have p2 : Post X.K W0 (RV X.K) ρ H [] (f [x, y] S) (fun v H1 => ∃ c : Bool, v = .bl c ∧ Q (.bl (if neg then !c else c)) H1) := by
            cases e : f [x, y] S with
            | ok v S1 =>
              rw [e] at post
              simp only [R.bind_ok] at post
              intro ρ1 H1 w1 e1 s1 r1
              split at post
              · rename_i i
                exact ⟨i, r1.bl_inv, post ρ1 H1 _ e1 s1 (.mk_bl _)⟩
              · exact post.elim
            | exn z S1 => rw [e] at post; exact PostW.weak post fun _ _ _ z => z
            | bad => rw [e] at post; exact post.elim
          cases neg with
          | true =>
            show wpAny (model X.prog X.w) X.A (richCompare .NotEq (.ref p) u) (EP X pins σ Q) X.xe s
            refine ne_run (by omega) I.kIn J (KX.ty _ _ I.kIn hP) nf q.ne (q.isi.hm D q.mem) hm.at_ hm.fn ?_
            refine wpAny_mono (run (us := [.ref p, u]) (Room.in1 hr) I.env0.in1 I (.cons (show RelV (.ref p) (.ref p) from rfl) (.cons ry .nil)) st (.cons hx (.cons hy .nil)) p2) (fun r s1 hu => ?_) fun _ _ z => z
            obtain ⟨v, H1, I1, ru, i, rfl, hq1⟩ := hu
            obtain rfl : r = Value.bool i := ru
            exact ⟨i, rfl, .bl (!i), H1, I1, rfl, hq1⟩
          | false =>
            show wpAny (model X.prog X.w) X.A (richCompare .Eq (.ref p) u) (EP X pins σ Q) X.xe s
            refine PySem.W.cmp_K (op := .Eq) (tb := tyV t) (by omega) hF I.ok.mod.kin J (KX.ty _ _ I.kIn hP) nf hm.at_ hm.fn ?_
            refine wpAny_mono (run (us := [.ref p, u]) (hr.mono (Nat.le_succ k)) I.env0 I (.cons (show RelV (.ref p) (.ref p) from rfl) (.cons ry .nil)) st (.cons hx (.cons hy .nil)) p2) (fun r s1 hu => ?_) fun _ _ z => z
            obtain ⟨v, H1, I1, ru, i, rfl, hq1⟩ := hu
            obtain rfl : r = Value.bool i := ru
            exact ⟨.bl i, H1, I1, rfl, hq1⟩
        · exact post.elim
      · exact post.elim
    · exact post.elim
  · cases neg with
    | true => exact od_ne hu pins s σ H wx wy v u Q I rx ry ⟨σ', ρ, S, x, y, st, hx, hy, post⟩
    | false => exact od_eq hu pins s σ H wx wy v u Q I rx ry ⟨σ', ρ, S, x, y, st, hx, hy, post⟩
end Gx
end
section
set_option Elab.async false
set_option linter.all false
set_option maxHeartbeats 1000000
set_option maxRecDepth 100000
set_option autoImplicit false
/-! Gx: own classes in a generated text. -/
namespace Gx
open PySem PySem.Spec PyProof.Rows L2
def clsAt (s : Stmt) (j : Nat) : Stmt := match s with
  | .ClassDef (body := b) .. => b.getD j (.Pass ⟨0, 0, 0, 0⟩)
  | _ => .Pass ⟨0, 0, 0, 0⟩
/-- where the name's class lies -/
def clsOf (K : PySem.W.Frag) (x : Str) : Addr := match PySem.W.nsIn K mainGlobals x with
  | some (some (.ref a)) => a
  | _ => 0
theorem clsOf_eq {K : PySem.W.Frag} {x : Str} {a : Addr} (h : PySem.W.nsIn K mainGlobals x = some (some (.ref a))) : clsOf K x = a := by unfold clsOf; rw [h]
/-- a def, maybe with defaults, as it stands behind the top -/
structure FunV (K : PySem.W.Frag) (x qual : Str) (st : Stmt) (dV : Value) (f : Addr) (fd : FuncData) : Prop where
  ex : ∃ (oc : Value) (od : Option Addr) (kV doc pm : Value) (an : Option Addr) (cdv ct : Value) (osl : Array (Option Value)),
    fd = PySem.W.fnOf x qual (defArgs st) (defBody st) (defScope st) dV kV doc pm an cdv ct ∧ K.lookup f = some ⟨oc, od, .func fd, osl⟩ ∧ PySem.W.codeIn K cdv qual = true
section
variable {P : Program} {w : World} {K : PySem.W.Frag} {mg : Str → Option Value} {base : Heap} {x qual m : Str} {st : Stmt} {dV : Value} {f C : Addr} {fd : FuncData} {N ps ks : List Str} {ix : List Nat} {k d n : Nat} {db : SS}
theorem fnV_ok (F : FunV K x qual st dV f fd) (S : FnScope N ps (defScope st))
    (hb : ∀ (cdv : Value) (A : Around) (outer : List Env) (s : Shared) (H : Hp) (E : XK), Room k (A.deeper (envOfC qual (defScope st) s.heap.objs.size f cdv)) →
      DSs (cxOf CX0 P w K mg base N qual (defScope st) f cdv A outer s H E).nox W0 (defBody st) db) : FnOk P w K mg base CX0 (k + 1) f fd ps (fun vs H Q _ => spOf K (fnD ps.length N.length d db) ps.length vs H Q E0) := by
  obtain ⟨oc, od, kV, doc, pm, an, cdv, ct, osl, rfl, lk, hcd⟩ := F.ex
  refine fn_of lk hcd S (fun vs H Q E h => spOf_len h) fun A outer s H vs Q E hr h => ?_
  refine ⟨_, (hb cdv A outer s H E hr).ps.nox, ?_⟩
  obtain ⟨ρ, S, args, st, r, l, p⟩ := h
  rw [fnD, if_pos l] at p
  exact ⟨ρ, S, startL N.length args, ⟨st, start_loc N r⟩, body_end (W := fun _ _ _ _ => False) st p⟩
theorem funV_mk {oc : Value} {od an : Option Addr} {osl : Array (Option Value)} {kV doc pm cdv ct : Value} (l : K.lookup f = some ⟨oc, od, .func (PySem.W.fnOf x qual (defArgs st) (defBody st) (defScope st) dV kV doc pm an cdv ct), osl⟩)
    (c : PySem.W.codeIn K cdv qual = true) : FunV K x qual st dV f (PySem.W.fnOf x qual (defArgs st) (defBody st) (defScope st) dV kV doc pm an cdv ct) := ⟨⟨oc, od, kV, doc, pm, an, cdv, ct, osl, rfl, l, c⟩⟩
theorem FunV.binds (F : FunV K x qual st .none f fd)
    (h : ∀ (kV doc pm : Value) (an : Option Addr) (cdv ct : Value) (us : List Value), us.length = ps.length → bindArgs (PySem.W.fnOf x qual (defArgs st) (defBody st) (defScope st) .none kV doc pm an cdv ct) ⟨us, []⟩ = pure (ps.zip us)) : Binds K fd ps [] := by
  obtain ⟨oc, od, kV, doc, pm, an, cdv, ct, osl, rfl, lk, hcd⟩ := F.ex
  exact .all (h kV doc pm an cdv ct)
/-- the last parameters' values are those of the defaults -/
theorem FunV.bindsD {T : Addr} {o : Obj} {items : Array Value} {z : Nat} {ds : List Value} (F : FunV K x qual st (.ref T) f fd) (ho : K.lookup T = some o) (hs : o.data = .seq items z)
    (h : ∀ (kV doc pm : Value) (an : Option Addr) (cdv ct : Value) (us : List Value), (us ++ ds).length = ps.length → ∃ k, bindArgs (PySem.W.fnOf x qual (defArgs st) (defBody st) (defScope st) (.ref T) kV doc pm an cdv ct) ⟨us, []⟩ = seqItems? (.ref T) >>= k ∧ k (some items) = pure (ps.zip (us ++ ds))) : Binds K fd ps ds := by
  obtain ⟨oc, od, kV, doc, pm, an, cdv, ct, osl, rfl, lk, hcd⟩ := F.ex
  intro s us X hl
  obtain ⟨k, e1, e2⟩ := h kV doc pm an cdv ct us hl
  exact PySem.W.binds_K X rfl ho hs e1 e2
/-- self, and the keywords' values in the parameters' order -/
def KwBM (K : PySem.W.Frag) (fd : FuncData) (ps ks : List Str) (ix : List Nat) : Prop :=
  ∀ (s : Shared) (v : Value) (ws us : List Value), K.In s.heap → ws.length = ks.length → ix.mapM (ws[·]?) = some us → BindsTo s fd ⟨[v], ks.zip ws⟩ (ps.zip (v :: us))
theorem FunV.kw (F : FunV K x qual st .none f fd)
    (h : ∀ (kV doc pm : Value) (an : Option Addr) (cdv ct v : Value) (ws us : List Value), ws.length = ks.length → ix.mapM (ws[·]?) = some us → bindArgs (PySem.W.fnOf x qual (defArgs st) (defBody st) (defScope st) .none kV doc pm an cdv ct) ⟨[v], ks.zip ws⟩ = pure (ps.zip (v :: us))) : KwBM K fd ps ks ix := by
  obtain ⟨oc, od, kV, doc, pm, an, cdv, ct, osl, rfl, lk, hcd⟩ := F.ex
  exact fun s v ws us _ hl hp => .of_eq (h kV doc pm an cdv ct v ws us hl hp)
/-- a method of the class at C: its promise -/
structure MOk (P : Program) (w : World) (K : PySem.W.Frag) (mg : Str → Option Value) (base : Heap) (k : Nat) (C : Addr) (m : Str) (f : F) (n : Nat) : Prop where
  bad : ∀ args S, args.length ≠ n → f args S = .bad
  cls : Cls K C
  ex : ∃ (a : Addr) (fd : FuncData) (ps : List Str), ps.length = n ∧ FnOk P w K mg base CX0 k a fd ps (fun vs H Q _ => spOf K f n vs H Q E0) ∧ Meth K C m a ∧ Binds K fd ps []
structure MKOk (P : Program) (w : World) (K : PySem.W.Frag) (mg : Str → Option Value) (base : Heap) (k : Nat) (C : Addr) (m : Str) (f : F) (n : Nat) (ks : List Str) (ix : List Nat) : Prop where
  bad : ∀ args S, args.length ≠ n → f args S = .bad
  cls : Cls K C
  ex : ∃ (a : Addr) (fd : FuncData) (ps : List Str), ps.length = n ∧ FnOk P w K mg base CX0 k a fd ps (fun vs H Q _ => spOf K f n vs H Q E0) ∧ Meth K C m a ∧ KwBM K fd ps ks ix
/-- a class, made by its name -/
structure COk (P : Program) (w : World) (K : PySem.W.Frag) (mg : Str → Option Value) (base : Heap) (k : Nat) (x : Str) (C : Addr) (f : F) (n : Nat) (ds : List Val) : Prop where
  bad : ∀ args S, args.length ≠ n → f args S = .bad
  ex : ∃ (a : Addr) (fd : FuncData) (ps : List Str) (dvs : List V) (dus : List Value), ps.length = n ∧ FnOk P w K mg base CX0 k a fd ps (fun vs H Q _ => spOf K f n vs H Q E0) ∧ Mk K C a ∧ mg x = some (.ref C) ∧ Binds K fd ps dus ∧ Vals dvs dus ∧ ∀ ρ H, RVs K ρ H ds dvs
end
section
variable {P : Program} {w : World} {K : PySem.W.Frag} {mg : Str → Option Value} {base : Heap} {x m : Str} {f C a : Addr} {fd : FuncData} {ps ks : List Str} {ix : List Nat} {k d n : Nat} {db : SS}
theorem mok_mk (F : FnOk P w K mg base CX0 k a fd ps (fun vs H Q _ => spOf K (fnD ps.length n d db) ps.length vs H Q E0)) (c : Cls K C) (h2 : Meth K C m a) (h3 : Binds K fd ps []) : MOk P w K mg base k C m (fnD ps.length n d db) ps.length :=
  ⟨fun args S h => fnD_arity args S h, c, a, fd, ps, rfl, F, h2, h3⟩
theorem mkok_mk (F : FnOk P w K mg base CX0 k a fd ps (fun vs H Q _ => spOf K (fnD ps.length n d db) ps.length vs H Q E0)) (c : Cls K C) (h2 : Meth K C m a) (h3 : KwBM K fd ps ks ix) : MKOk P w K mg base k C m (fnD ps.length n d db) ps.length ks ix :=
  ⟨fun args S h => fnD_arity args S h, c, a, fd, ps, rfl, F, h2, h3⟩
theorem cok_mk {ds : List Val} {dvs : List V} {dus : List Value} (F : FnOk P w K mg base CX0 k a fd ps (fun vs H Q _ => spOf K (fnD ps.length n d db) ps.length vs H Q E0)) (c : Mk K C a) (h1 : mg x = some (.ref C)) (h3 : Binds K fd ps dus) (h4 : Vals dvs dus) (h5 : ∀ ρ H, RVs K ρ H ds dvs) : COk P w K mg base k x C (fnD ps.length n d db) ps.length ds :=
  ⟨fun args S h => fnD_arity args S h, a, fd, ps, dvs, dus, rfl, F, c, h1, h3, h4, h5⟩
end
section
variable {X : Cx} {k n j : Nat} {x m : Str} {f : F} {ks : List Str} {ix : List Nat} {C : Addr} {ds : List Val} {o : Expr} {d : E} {aa : A} {pos apos p : Pos} {kws : List Keyword}
theorem MOk.met (h : MOk X.prog X.w X.K X.mg X.base k C m f n) : Met X k C m f n [] := by
  refine ⟨h.bad, h.cls, ?_⟩
  obtain ⟨a, fd, ps, h1, h2, h3, h4⟩ := h.ex
  exact ⟨a, fd, ps, [], [], h1, h2, h3, h4, .nil, fun _ _ => .nil⟩
theorem COk.mak (h : COk X.prog X.w X.K X.mg X.base k x C f n ds) : Mak X k x C f n ds := ⟨h.bad, h.ex⟩
/-- o.m(k = e, ..) -/
theorem de_methK {pl : Sem Bool} (c : MKOk X.prog X.w X.K X.mg X.base k C m f n ks ix) (hl0 : ks.length = j) (hr : Room k X.A) (ho : DE X W0 o d) (ha : DK X W0 kws aa) (hall : (backToKw pos (keywordEach kws X.env)).all (·.1.isSome) = true) (hks : (backToKw pos (keywordEach kws X.env)).filterMap (·.1) = ks)
    (hpl : ((backTo pos (starEach [] X.env)).any (·.1) || (backToKw pos (keywordEach kws X.env)).any (·.1.isNone)) = false)
    (ht : eval (.Call (.Attribute o m apos) [] kws pos) X.env = (do
      let ov ← eval o X.env
      standAt apos.atName
      let (f, first) ← holding [ov] (getMethod ov m pl)
      callWith pos f first (backTo pos (starEach [] X.env)) (backToKw pos (keywordEach kws X.env))) := by rfl) : DE X W0 (.Call (.Attribute o m apos) [] kws pos) (eMeth C m f d (aKw aa j ix)) := by
  subst hl0
  obtain ⟨a, fd, ps, hn, F, hm, hb⟩ := c.ex
  refine ⟨⟨fun pins s σ H Q I h => ?_⟩⟩
  obtain ⟨ρ, S, L, sim, h⟩ := h
  have h2 : lE X.K W0 d σ H fun w H1 => ∃ b dx fs, w = .ref b ∧ H1 b = some (.ins C dx fs) ∧ fs.lookup m = none ∧ lA X.K W0 aa σ H1 fun ws H2 => ∃ ρ2 S2 v xs ys, StOk X.K ρ2 H2 S2 ∧ RV X.K ρ2 H2 v (.ref b) ∧ RVs X.K ρ2 H2 xs ws ∧ xs.length = ks.length ∧ ix.mapM (xs[·]?) = some ys ∧ Post X.K (fun c d _ H' => E0 c d H') (RV X.K) ρ2 H2 [] (f (v :: ys) S2) Q := by
    refine ⟨ρ, S, L, sim, Post.bind h fun v S1 ρ1 H1 w _ e1 s1 r1 h1 => ?_⟩
    cases q : objOf S1 v with
    | none => rw [q] at h1; exact h1.elim
    | some pr =>
      obtain ⟨D, fs⟩ := pr
      rw [q] at h1
      dsimp only at h1
      split at h1
      · rename_i hin
        obtain ⟨rfl, hlk⟩ := hin
        obtain ⟨b, dx, ws, rfl, hb', hf⟩ := obj_read s1 r1 q
        have hl := hf.lookup (f := m)
        rw [hlk] at hl
        refine ⟨b, dx, ws, rfl, hb', hl, ?_⟩
        unfold aKw at h1
        rw [Gx.R.assoc] at h1
        refine ⟨ρ1, S1, L, sim.next e1 s1, Post.bind (Rel' := RV X.K) h1 fun xs S2 ρ2 H2 us _ e2 s2 r2 h2 => ?_⟩
        by_cases hl : xs.length = ks.length
        · rw [if_pos hl] at h2
          cases q : ix.mapM (xs[·]?) with
          | none => rw [q] at h2; exact h2.elim
          | some ys => rw [q] at h2; exact ⟨ρ2, S2, v, xs, ys, s2, r1.ext e2, r2, hl, q, PostW.weak h2 fun _ _ _ z => z⟩
        · rw [if_neg hl] at h2; exact h2.elim
      · exact h1.elim
  refine PySem.W.methodCall_KW (pl := pl) (thn (ho.pe.run pins s σ H _ I h2) fun u s1 ⟨x, H1, I1, rx, b, dx, fs, ex, hb', hl, q⟩ => ?_) ht
  subst ex
  obtain rfl : u = Value.ref b := rx
  refine getmeth_ok I1 hb' c.cls hm hl ?_
  refine PySem.W.callWith_KW0 (first := [.ref b]) I1.kIn hm.kp hall (thn (ha.pk.run pos pins s1 σ H1 _ I1 q) fun us s2 ⟨vs, H2, I2, r, ρ2, S2, v, xs, ys, st, rv, rx, hxl, q, post⟩ => ⟨I2.kIn, ?_⟩) hpl
  rw [hks]
  obtain ⟨ws, zs, g1, g2, g3⟩ := picks rx r q
  by_cases hl : (v :: ys).length = n
  · have hul : us.length = ks.length := by rw [← r.length, rx.length, hxl]
    exact run_kw (first := [.ref b]) F hr I2 (hb s2 (.ref b) us zs I2.kIn hul g3) (.cons (show RelV (V.ref b) (Value.ref b) from rfl) g2) ⟨ρ2, S2, v :: ys, st, .cons rv g1, hl, post⟩
  · rw [c.bad _ _ hl] at post; exact post.elim
end
/-! ### what is asked of a class, word by word -/
structure ClF (K : PySem.W.Frag) (C : Addr) : Prop where
  pg : PySem.W.plainGet K C Str.empty = true
  hd : PySem.W.hasDictIn K C = true
  po : PySem.W.plainOver K C = true
  sa : PySem.W.findIn K (.ref C) "__setattr__" = some (some (.builtin "object.__setattr__"))
  ha : PySem.W.findIn K (.ref C) "__class__" = some (some (.builtin "object.__class__"))
  hm : PySem.W.mroIn K C (.type "object") = some true
  hn : PySem.W.specialIn K (.builtin "object.__class__") "__get__" = some (some (.builtin "getset_descriptor.__get__"))
  ht : PySem.W.takesIn K (.builtin "object.__class__") = some true
  ne : PySem.W.findIn K (.ref C) "__ne__" = some (some (.builtin "object.__ne__"))
  cl : PySem.W.isClsIn K C = true
  tp : PySem.W.typeIn K (.ref C) = some (.type "type")
  t0 : PySem.W.subIn K (.type "NoneType") (.ref C) = some false
  t1 : PySem.W.subIn K (.type "bool") (.ref C) = some false
  t2 : PySem.W.subIn K (.type "int") (.ref C) = some false
  t3 : PySem.W.subIn K (.type "str") (.ref C) = some false
  t4 : PySem.W.subIn K (.type "tuple") (.ref C) = some false
  t5 : PySem.W.subIn K (.type "list") (.ref C) = some false
  t6 : PySem.W.subIn K (.type "dict") (.ref C) = some false
  u0 : PySem.W.subIn K (.ref C) (.type "NoneType") = some false
  u1 : PySem.W.subIn K (.ref C) (.type "bool") = some false
  u2 : PySem.W.subIn K (.ref C) (.type "int") = some false
  u3 : PySem.W.subIn K (.ref C) (.type "str") = some false
  u4 : PySem.W.subIn K (.ref C) (.type "tuple") = some false
  u5 : PySem.W.subIn K (.ref C) (.type "list") = some false
  u6 : PySem.W.subIn K (.ref C) (.type "dict") = some false
theorem kit_sub {K : PySem.W.Frag} {t : Value} {C : Addr} {b : Bool} (h1 : PySem.W.isClsIn K C = true) (h2 : PySem.W.typeIn K (.ref C) = some (.type "type")) (hne : (t == Value.ref C) = false) (h : PySem.W.subIn K t (.ref C) = some b) : PySem.W.kitOne K t (.ref C) = some b := by
  unfold PySem.W.kitOne PySem.W.kitCls
  rw [if_neg (by rw [hne]; decide)]
  dsimp only
  rw [if_pos (by rw [h2]; unfold PySem.W.isClsIn at h1; rw [h1]; rfl)]
  exact h
theorem kit_sub2 {K : PySem.W.Frag} {t : String} {C : Addr} {b : Bool} (hm : PySem.W.kitMeta t = true) (h : PySem.W.subIn K (.ref C) (.type t) = some b) : PySem.W.kitOne K (.ref C) (.type t) = some b := by
  unfold PySem.W.kitOne PySem.W.kitCls
  rw [if_neg (by intro q; cases (beq_iff_eq.mp q))]
  dsimp only
  rw [if_pos hm]
  exact h
section
variable {K : PySem.W.Frag} {C : Addr}
theorem ClF.cls (h : ClF K C) : Cls K C := ⟨h.pg, h.hd, h.po, h.sa⟩
theorem ClF.ts (h : ClF K C) : ∀ t ∈ tyNames, PySem.W.subIn K (.type t) (.ref C) = some false := by
  intro t ht
  simp only [tyNames, List.mem_cons, List.not_mem_nil, or_false] at ht
  rcases ht with rfl | rfl | rfl | rfl | rfl | rfl | rfl
  · exact h.t0
  · exact h.t1
  · exact h.t2
  · exact h.t3
  · exact h.t4
  · exact h.t5
  · exact h.t6
theorem ClF.us (h : ClF K C) : ∀ t ∈ tyNames, PySem.W.subIn K (.ref C) (.type t) = some false := by
  intro t ht
  simp only [tyNames, List.mem_cons, List.not_mem_nil, or_false] at ht
  rcases ht with rfl | rfl | rfl | rfl | rfl | rfl | rfl
  · exact h.u0
  · exact h.u1
  · exact h.u2
  · exact h.u3
  · exact h.u4
  · exact h.u5
  · exact h.u6
theorem meta_tys : ∀ t ∈ tyNames, PySem.W.kitMeta t = true := by decide +kernel
theorem ClF.isi (h : ClF K C) : Isi K [C] where
  cl := fun D hD => by obtain rfl := List.mem_singleton.mp hD; exact h.cls
  ha := fun D hD => by obtain rfl := List.mem_singleton.mp hD; exact h.ha
  hm := fun D hD => by obtain rfl := List.mem_singleton.mp hD; exact h.hm
  hn := fun _ => h.hn
  ht := fun _ => h.ht
  oo := fun D hD E hE => by
    obtain rfl := List.mem_singleton.mp hD
    obtain rfl := List.mem_singleton.mp hE
    unfold PySem.W.kitOne
    rw [if_pos (beq_self_eq_true _)]
    simp
  to := fun t ht D hD => by
    obtain rfl := List.mem_singleton.mp hD
    exact kit_sub h.cl h.tp (by rw [beq_eq_false_iff_ne]; intro q; cases q) (h.ts t ht)
  ot := fun D hD t ht => by
    obtain rfl := List.mem_singleton.mp hD
    exact kit_sub2 (meta_tys t ht) (h.us t ht)
theorem ClF.eqc (h : ClF K C) : EqC K [C] C where
  isi := h.isi
  mem := by simp
  own := fun D hD => by
    obtain rfl := List.mem_singleton.mp hD
    unfold PySem.W.notFirst
    rw [beq_self_eq_true, Bool.true_or]
  bui := fun t ht => by
    unfold PySem.W.notFirst
    rw [h.ts t ht]
    simp
  ne := h.ne
theorem ClF.fld {m : Str} (h : ClF K C) (n : PySem.W.findIn K (.ref C) m = some none) : ∀ D, D ∈ [C] → Cls K D ∧ NoAttr K D m := fun D hD => by
  obtain rfl := List.mem_singleton.mp hD
  exact ⟨h.cls, n⟩
end
end Gx
end
section
set_option Elab.async false
set_option linter.all false
set_option maxHeartbeats 1000000
set_option autoImplicit false
/-! Gx: sum of a list or a tuple of ints. -/
namespace Gx
open PySem PySem.Spec PyProof.Rows L2
def bSum : FV := fun xs S => match xs with
  | [x] => match seqOf S x with
    | some (_, ys) => match sumV ys with | some v => .ok v S | none => .bad
    | none => .bad
  | _ => .bad
theorem sum_tup {prog : Program} {w : World} {A : Around} {E : Value → Shared → Prop} {s : Shared} {l : Addr} {its : List Value} {ns : List Int} {Q : Value → Shared → Prop} (hh : A.handled = none) (hl : s.heap.IsTuple l its.toArray) (hi : IntsAre its ns)
    (h : ∀ h' tk t', (∀ b o, s.heap.get? b = some o → h'.get? b = some o) → Q (.int ns.sum t') { s with heap := h', toks := tk }) : wpAny (model prog w) A (call (.builtin "sum") [.ref l]) Q E s := by
  obtain ⟨xs, e⟩ := hi.allInts.items
  have hn : numsOf (intItems xs).toList = ns := by rw [← e]; exact hi.numsOf
  rw [nums_intItems] at hn
  rw [e] at hl
  refine PySem.W.ktm_sumG hh hl fun h' tk t' hk => ?_
  have := h h' tk t' hk
  rw [preSum_eq, List.take_of_length_le (by simp), hn]; exact this
theorem cd_sumS {X : Cx} {W : XW} (hc : X.calm = true) : CallR X (.builtin "sum") (lC X.K W bSum) := by
  intro pins s σ H ws us Q I r h
  obtain ⟨σ', ρ, S, xs, st, rv, post⟩ := h
  unfold bSum at post
  split at post
  · obtain ⟨w, rfl, rw'⟩ := rvs1 rv
    split at post
    · rename_i k ys q
      obtain ⟨p, vs, rfl, r1, l1⟩ := seq_read st rw' q
      split at post
      · rename_i v gv
        simp only [sumV, Option.map_eq_some_iff] at gv
        obtain ⟨ns, e, rfl⟩ := gv
        have := rvs_ints e r1
        subst this
        cases k with
        | true => exact cr_sum hc pins s σ H _ us Q I r ⟨p, ns, rfl, by simpa using l1, post ρ H _ Ext.refl st (.mk_int _)⟩
        | false =>
          obtain ⟨its, rv, hl, _⟩ := I.tuple (by simpa using l1)
          rw [Vals.ref1 r]
          exact sum_tup (I.ok.hd hc) hl rv.ints fun h' tk t' hk => ⟨.int _, H, I.kept hk, ⟨_, rfl⟩, post ρ H _ Ext.refl st (.mk_int _)⟩
      · exact post.elim
    · exact post.elim
  · exact post.elim
end Gx
end
section
set_option Elab.async false
set_option linter.all false
set_option maxHeartbeats 1000000
set_option autoImplicit false
/-! Gx: stars in displays. -/
namespace Gx
open PySem PySem.Spec PyProof.Rows L2
section
variable {X : Cx} {W : XW} {e : Expr} {es : List Expr} {d : E} {aa : A} {p : Pos}
theorem da_star (he : DE X W e d) (hr : DA X W es aa) (hs : starEach (.Starred e p :: es) X.env = (true, eval e X.env) :: starEach es X.env := by rfl) : DA X W (.Starred e p :: es) (aStar d aa) := by
  refine ⟨PA.weak (StX.pa_star he.pe hr.pa hs) fun σ H Q h => ?_⟩
  obtain ⟨ρ, S, L, sim, h⟩ := h
  refine ⟨ρ, S, L, sim, Post.bind (Rel' := RVs X.K) h fun x S1 ρ1 H1 w _ e1 s1 r1 h1 => ?_⟩
  split at h1
  · rename_i k xs q
    obtain ⟨a, vs, rfl, r2, l1⟩ := seq_read s1 r1 q
    refine ⟨a, vs, rfl, ?_, ρ1, S1, L, sim.next e1 s1, Post.bind h1 fun ys S2 ρ2 H2 ws _ e2 s2 r3 h2 => ?_⟩
    · cases k with
      | true => exact .inr (by simpa using l1)
      | false => exact .inl (by simpa using l1)
    · exact h2 ρ2 H2 _ Ext.refl s2 ((r2.ext e2).append r3)
  · exact h1.elim
/-- a default that is the empty tuple -/
theorem rv_tup0 {K : PySem.W.Frag} {ρ : Pl} {H : Hp} {a : Addr} {od : Option Addr} {n : Nat} {sl : Array (Option Value)} (h : K.lookup a = some ⟨.type "tuple", od, .seq #[] n, sl⟩) : RV K ρ H (.tup []) (.ref a) := by
  unfold RV
  exact ⟨a, [], rfl, .inr ⟨_, #[], n, h, rfl, rfl, by simp, .nil⟩, .nil⟩
end
end Gx
end
section
set_option Elab.async false
set_option linter.all false
set_option maxHeartbeats 1000000
set_option maxRecDepth 100000
set_option autoImplicit false
/-! Gx: zip(.., strict=True) of two of one length, drawn into a tuple. -/
namespace Gx
open PySem PySem.Spec PyProof.Rows L2
open Sem (wp)
/-- a strict zip: f0 the tuple that is out, f1 whether it is known to be held -/
abbrev IsZs (h : Heap) (z TI TO : Addr) (f0 : Value) (f1 : Bool) : Prop :=
  h.get? z = some { cls := .type "zip", dict := none, data := .fields #[f0, .bool f1, .bool true, .ref TI, .ref TO], slots := #[] }
section
variable {prog : Program} {w : World} {A : Around} {E : Value → Shared → Prop} {s : Shared} {z TI TO T i1 i2 it : Addr} {fp fp1 fp2 : List Addr} {n i : Nat} {P P1 P2 : Nat → Value → Prop} {St St1 St2 : Nat → Heap → Prop} {a1 a2 : Value}
theorem noe_item {Q : Option Value → Shared → Prop} (D : Draws prog w A it fp n P St) (hi : i < n) (st : St i s.heap)
    (h : ∀ x h' tk, P i x → St (i + 1) h' → Heap.SameBut it s.heap h' → Q (some x) { s with heap := h', toks := tk }) : wpAny (model prog w) A (Builtin.SmallTypes.nextOrEnd (.ref it)) Q E s := by
  unfold Builtin.SmallTypes.nextOrEnd
  exact wpAny_bind (wpAny_attempt (D.item i s _ _ hi st fun x h' tk a b c => wpAny_pure (h x h' tk a b c)))
theorem noe_done {Q : Option Value → Shared → Prop} (D : Draws prog w A it fp n P St) (st : St n s.heap)
    (h : ∀ h', Heap.ExtBut it s.heap h' → Q none { s with heap := h' }) : wpAny (model prog w) A (Builtin.SmallTypes.nextOrEnd (.ref it)) Q E s := by
  unfold Builtin.SmallTypes.nextOrEnd
  refine wpAny_bind (wpAny_attempt (D.done s _ _ st fun h' e k he => ?_))
  obtain ⟨o, ho, hc⟩ := he
  exact wpAny_bind (wpAny_isInstance (T := "StopIteration") (b := true) ⟨o, ho, hc⟩ isSubtype_stop (wpAny_pure (h h' k)))
theorem zs_item_held {Q : Value → Shared → Prop} {f : Bool} {oT : Obj} (D : ZipSep2 z TI TO i1 i2 fp1 fp2) (D1 : Draws prog w A i1 fp1 n P1 St1) (D2 : Draws prog w A i2 fp2 n P2 St2)
    (hz : IsZs s.heap z TI TO (rawInt T) f) (hT : s.heap.get? T = some oT) (hTI : IsTupOf2 s.heap TI (.ref i1) (.ref i2)) (st1 : St1 i s.heap) (st2 : St2 i s.heap) (hlt : i < n)
    (hQ : ∀ x1 x2 h' tk, P1 i x1 → P2 i x2 → IsZs h' z TI TO (rawInt T) true → St1 (i + 1) h' → St2 (i + 1) h' → IsTupOf2 h' s.heap.objs.size x1 x2 → h'.objs.size = s.heap.objs.size + 1 →
      (∀ c o, c ≠ z → c ≠ i1 → c ≠ i2 → s.heap.get? c = some o → h'.get? c = some o) → Q (.ref s.heap.objs.size) { s with heap := h', toks := tk }) :
    wpAny (model prog w) A (Builtin.«zip.__next__» ⟨[.ref z], []⟩) (fun fin s' => ∃ v, fin = .done (.ret v) ∧ Q v s') E s := by
  obtain ⟨hp, g, d, tk0, os⟩ := s
  show wpAny _ _ (field (.ref z) 2 >>= _) _ _ _
  refine wpAny_bind (wpAny_field hz rfl (x := .bool true) rfl ?_)
  show wpAny _ _ (field (.ref z) 3 >>= _) _ _ _
  refine wpAny_bind (wpAny_field hz rfl (x := .ref TI) rfl ?_)
  refine wpAny_bind (wpAny_seqItems hTI rfl ?_)
  show wpAny _ _ (Builtin.SmallTypes.ownedTupleIsFree (.ref z) >>= _) _ _ _
  have held : ∀ {R : Bool → Shared → Prop}, (∀ h', IsZs h' z TI TO (rawInt T) true → Heap.SameBut z hp h' → R false ⟨h', g, d, tk0, os⟩) → wpAny (model prog w) A (Builtin.SmallTypes.ownedTupleIsFree (.ref z)) R E ⟨hp, g, d, tk0, os⟩ := fun {R} h => by
    unfold Builtin.SmallTypes.ownedTupleIsFree
    refine wpAny_bind (wpAny_field hz rfl (x := rawInt T) rfl ?_)
    show wpAny _ _ (loadIfAlive ((T : Int).toNat) >>= _) _ _ _
    rw [Int.toNat_natCast]
    refine wpAny_bind (PySem.W.kdx_alive hT ?_)
    simp only [Option.isNone_some, Bool.false_eq_true, if_false]
    refine wpAny_bind (wpAny_field hz rfl (x := .bool f) rfl ?_)
    cases f with
    | true =>
      rw [if_neg (show ¬ ((Value.bool true != Value.bool true) = true) from Bool.false_ne_true)]
      exact wpAny_pure (h hp hz (Heap.SameBut.refl _ _))
    | false =>
      rw [if_pos (show (Value.bool false != Value.bool true) = true from rfl)]
      exact wpAny_bind (wpAny_setField_rec hz (by simp) fun h₁ hz₁ hs₁ => wpAny_pure (h h₁ hz₁ hs₁))
  refine wpAny_bind (held fun h1 hz1 hs1 => ?_)
  simp only [Bool.false_eq_true, if_false]
  refine wpAny_bind ?_
  rw [← Array.forIn_toList]
  simp only [List.forIn_cons, List.forIn_nil]
  refine wpAny_bind (wpAny_bind (wpAny_holding ?_))
  show wpAny _ _ (Builtin.SmallTypes.nextOrEnd (.ref i1)) _ _ ⟨h1, g, d, tk0, os⟩
  refine noe_item D1 hlt (D1.over st1 hs1 D.zf1) fun x1 p1 tk1 hx1 sn1 hp1 => ?_
  replace hp1 : Heap.SameBut i1 h1 p1 := hp1
  refine wpAny_pure ?_
  refine wpAny_bind (wpAny_bind (wpAny_holding ?_))
  show wpAny _ _ (Builtin.SmallTypes.nextOrEnd (.ref i2)) _ _ ⟨p1, g, d, tk1, os⟩
  refine noe_item D2 hlt (D2.over (D2.over st2 hs1 D.zf2) hp1 D.sep1_2) fun x2 p2 tk2 hx2 sn2 hp2 => ?_
  replace hp2 : Heap.SameBut i2 p1 p2 := hp2
  refine wpAny_pure (wpAny_pure ?_)
  show wpAny _ _ (newTuple [x1, x2] >>= _) _ _ _
  refine wpAny_bind (wpAny_newTuple ?_)
  have hsz : p2.objs.size = hp.objs.size := by rw [hp2.1, hp1.1, hs1.1]
  have hz2 : IsZs p2 z TI TO (rawInt T) true := hp2.extBut _ _ D.zi2 (hp1.extBut _ _ D.zi1 hz1)
  have hk : ∀ c o, c ≠ z → c ≠ i1 → c ≠ i2 → hp.get? c = some o → p2.get? c = some o := fun c o c1 c2 c3 e => hp2.extBut _ _ c3 (hp1.extBut _ _ c2 (hs1.extBut _ _ c1 e))
  refine wpAny_pure ⟨_, rfl, ?_⟩
  show Q (.ref p2.objs.size) _
  have up : ∀ c o, p2.get? c = some o → (p2.push { cls := .type "tuple", data := .seq #[x1, x2] }).get? c = some o := fun c o e => Heap.get?_push_of_some _ e
  have hpr : IsTupOf2 (p2.push { cls := .type "tuple", data := .seq #[x1, x2] }) p2.objs.size x1 x2 := Heap.get?_push_size _ rfl
  have hz4 : (p2.push { cls := .type "tuple", data := .seq #[x1, x2] }).objs.size = p2.objs.size + 1 := Heap.size_push ..
  rw [hsz] at hpr hz4 ⊢
  exact hQ x1 x2 _ tk2 hx1 hx2 (up _ _ hz2) (D1.frame _ _ _ (D1.over sn1 hp2 D.sep2_1) fun b _ o e => up b o e) (D2.frame _ _ _ sn2 fun b _ o e => up b o e) hpr hz4 fun c o c1 c2 c3 e => up _ _ (hk c o c1 c2 c3 e)
theorem zs_end_held {Q : Fin → Shared → Prop} {f : Bool} {oT : Obj} (hh : A.handled = none) (D : ZipSep2 z TI TO i1 i2 fp1 fp2) (D1 : Draws prog w A i1 fp1 n P1 St1) (D2 : Draws prog w A i2 fp2 n P2 St2)
    (hz : IsZs s.heap z TI TO (rawInt T) f) (hT : s.heap.get? T = some oT) (hTI : IsTupOf2 s.heap TI (.ref i1) (.ref i2)) (st1 : St1 n s.heap) (st2 : St2 n s.heap)
    (hE : ∀ h' e tk, (∀ c o, c ≠ z → c ≠ i1 → c ≠ i2 → s.heap.get? c = some o → h'.get? c = some o) → (∃ o, h'.get? e = some o ∧ o.cls = .type "StopIteration") → E (.ref e) { s with heap := h', toks := tk }) :
    wpAny (model prog w) A (Builtin.«zip.__next__» ⟨[.ref z], []⟩) Q E s := by
  obtain ⟨hp, g, d, tk0, os⟩ := s
  show wpAny _ _ (field (.ref z) 2 >>= _) _ _ _
  refine wpAny_bind (wpAny_field hz rfl (x := .bool true) rfl ?_)
  show wpAny _ _ (field (.ref z) 3 >>= _) _ _ _
  refine wpAny_bind (wpAny_field hz rfl (x := .ref TI) rfl ?_)
  refine wpAny_bind (wpAny_seqItems hTI rfl ?_)
  show wpAny _ _ (Builtin.SmallTypes.ownedTupleIsFree (.ref z) >>= _) _ _ _
  have held : ∀ {R : Bool → Shared → Prop}, (∀ h', IsZs h' z TI TO (rawInt T) true → Heap.SameBut z hp h' → R false ⟨h', g, d, tk0, os⟩) → wpAny (model prog w) A (Builtin.SmallTypes.ownedTupleIsFree (.ref z)) R E ⟨hp, g, d, tk0, os⟩ := fun {R} h => by
    unfold Builtin.SmallTypes.ownedTupleIsFree
    refine wpAny_bind (wpAny_field hz rfl (x := rawInt T) rfl ?_)
    show wpAny _ _ (loadIfAlive ((T : Int).toNat) >>= _) _ _ _
    rw [Int.toNat_natCast]
    refine wpAny_bind (PySem.W.kdx_alive hT ?_)
    simp only [Option.isNone_some, Bool.false_eq_true, if_false]
    refine wpAny_bind (wpAny_field hz rfl (x := .bool f) rfl ?_)
    cases f with
    | true =>
      rw [if_neg (show ¬ ((Value.bool true != Value.bool true) = true) from Bool.false_ne_true)]
      exact wpAny_pure (h hp hz (Heap.SameBut.refl _ _))
    | false =>
      rw [if_pos (show (Value.bool false != Value.bool true) = true from rfl)]
      exact wpAny_bind (wpAny_setField_rec hz (by simp) fun h₁ hz₁ hs₁ => wpAny_pure (h h₁ hz₁ hs₁))
  refine wpAny_bind (held fun h1 hz1 hs1 => ?_)
  simp only [Bool.false_eq_true, if_false]
  refine wpAny_bind ?_
  rw [← Array.forIn_toList]
  simp only [List.forIn_cons, List.forIn_nil]
  refine wpAny_bind (wpAny_bind (wpAny_holding ?_))
  show wpAny _ _ (Builtin.SmallTypes.nextOrEnd (.ref i1)) _ _ ⟨h1, g, d, tk0, os⟩
  refine noe_done D1 (D1.over st1 hs1 D.zf1) fun p1 hp1 => ?_
  replace hp1 : Heap.ExtBut i1 h1 p1 := hp1
  have st2' : St2 n p1 := D2.frame _ _ _ (D2.over st2 hs1 D.zf2) fun b hb o e => hp1 b o (fun q => D.sep1_2 (q ▸ hb)) e
  have two : ∀ {R : Option Value → Shared → Prop}, (∀ h', Heap.ExtBut i2 p1 h' → R none ⟨h', g, d, tk0, os⟩) → wpAny (model prog w) A (Builtin.SmallTypes.nextOrEnd (.ref i2)) R E ⟨p1, g, d, tk0, os⟩ := fun {R} h => noe_done (s := ⟨p1, g, d, tk0, os⟩) D2 st2' h
  refine wpAny_bind ?_
  wp_walk using two
  intro p2 hp2
  rw [if_neg (show ¬ ((none : Option Value).isSome = true) from Bool.false_ne_true)]
  wp_walk using two
  refine wpAny_raiseNew_none hh ?_
  exact hE _ _ tk0 (fun c o c1 c2 c3 e => Heap.get?_push_of_some _ (Heap.get?_push_of_some _ (hp2 _ _ c3 (hp1 _ _ c2 (hs1.extBut _ _ c1 e))))) ⟨_, Heap.get?_push_size _ rfl, rfl⟩
theorem zs_item_free {Q : Value → Shared → Prop} (D : ZipSep2 z TI TO i1 i2 fp1 fp2) (D1 : Draws prog w A i1 fp1 n P1 St1) (D2 : Draws prog w A i2 fp2 n P2 St2)
    (hz : IsZs s.heap z TI TO .none false) (hTI : IsTupOf2 s.heap TI (.ref i1) (.ref i2)) (hTO : IsTupOf2 s.heap TO a1 a2) (st1 : St1 i s.heap) (st2 : St2 i s.heap) (hlt : i < n)
    (hQ : ∀ x1 x2 h' tk, P1 i x1 → P2 i x2 → IsZs h' z TI TO (rawInt s.heap.objs.size) false → IsTupOf2 h' TO x1 x2 → St1 (i + 1) h' → St2 (i + 1) h' → IsTupOf2 h' s.heap.objs.size x1 x2 → h'.objs.size = s.heap.objs.size + 1 →
      (∀ c o, c ≠ z → c ≠ TO → c ≠ i1 → c ≠ i2 → s.heap.get? c = some o → h'.get? c = some o) → Q (.ref s.heap.objs.size) { s with heap := h', toks := tk }) :
    wpAny (model prog w) A (Builtin.«zip.__next__» ⟨[.ref z], []⟩) (fun fin s' => ∃ v, fin = .done (.ret v) ∧ Q v s') E s := by
  obtain ⟨hp, g, d, tk0, os⟩ := s
  show wpAny _ _ (field (.ref z) 2 >>= _) _ _ _
  refine wpAny_bind (wpAny_field hz rfl (x := .bool true) rfl ?_)
  show wpAny _ _ (field (.ref z) 3 >>= _) _ _ _
  refine wpAny_bind (wpAny_field hz rfl (x := .ref TI) rfl ?_)
  refine wpAny_bind (wpAny_seqItems hTI rfl ?_)
  show wpAny _ _ (Builtin.SmallTypes.ownedTupleIsFree (.ref z) >>= _) _ _ _
  refine wpAny_bind ?_
  unfold Builtin.SmallTypes.ownedTupleIsFree
  refine wpAny_bind (wpAny_field hz rfl (x := .none) rfl (wpAny_pure ?_))
  simp only [if_true]
  refine wpAny_bind (wpAny_rule ?_)
  refine wpAny_bind (wpAny_field hz rfl (x := .ref TO) rfl ?_)
  refine wpAny_bind (wpAny_setField_rec hz (by simp) fun g0 hz0 hs0 => ?_)
  replace hz0 : IsZs g0 z TI TO .ellipsis false := hz0
  replace hs0 : Heap.SameBut z hp g0 := hs0
  refine wpAny_bind ?_
  simp only [List.zipIdx_cons, List.zipIdx_nil, List.forIn_cons, List.forIn_nil]
  refine wpAny_bind (wpAny_bind (wpAny_onRaise ?_))
  show wpAny _ _ (Builtin.SmallTypes.nextOrEnd (.ref i1)) _ _ ⟨g0, g, d, tk0, os⟩
  refine noe_item D1 hlt (D1.over st1 hs0 D.zf1) fun x1 p1 tk1 hx1 sn1 hp1 => ?_
  replace hp1 : Heap.SameBut i1 g0 p1 := hp1
  have hU1 : IsTupOf2 p1 TO a1 a2 := hp1.extBut _ _ D.Ti1 (hs0.extBut _ _ D.TOz hTO)
  refine wpAny_bind (wpAny_seqItems (s := ⟨p1, g, d, tk1, os⟩) hU1 rfl ?_)
  refine wpAny_bind (updateSeq_IsTupOf2 (s := ⟨p1, g, d, tk1, os⟩) hU1 fun g1 hT1 hs1 => ?_)
  replace hT1 : IsTupOf2 g1 TO x1 a2 := hT1
  replace hs1 : Heap.SameBut TO p1 g1 := hs1
  refine wpAny_bind (wpAny_letGo (wpAny_pure ?_))
  refine wpAny_bind (wpAny_bind (wpAny_onRaise ?_))
  show wpAny _ _ (Builtin.SmallTypes.nextOrEnd (.ref i2)) _ _ ⟨g1, g, d, tk1, os⟩
  refine noe_item D2 hlt (D2.over (D2.over (D2.over st2 hs0 D.zf2) hp1 D.sep1_2) hs1 D.Tf2) fun x2 p2 tk2 hx2 sn2 hp2 => ?_
  replace hp2 : Heap.SameBut i2 g1 p2 := hp2
  have hU2 : IsTupOf2 p2 TO x1 a2 := hp2.extBut _ _ D.Ti2 hT1
  refine wpAny_bind (wpAny_seqItems (s := ⟨p2, g, d, tk2, os⟩) hU2 rfl ?_)
  refine wpAny_bind (updateSeq_IsTupOf2 (s := ⟨p2, g, d, tk2, os⟩) hU2 fun g2 hT2 hs2 => ?_)
  replace hT2 : IsTupOf2 g2 TO x1 x2 := hT2
  replace hs2 : Heap.SameBut TO p2 g2 := hs2
  refine wpAny_bind (wpAny_letGo (wpAny_pure (wpAny_pure ?_)))
  refine wpAny_bind (wpAny_seqItems (s := ⟨g2, g, d, tk2, os⟩) hT2 rfl ?_)
  refine wpAny_bind (wpAny_newTuple ?_)
  have hsz : g2.objs.size = hp.objs.size := by rw [hs2.1, hp2.1, hs1.1, hp1.1, hs0.1]
  have hzz : IsZs g2 z TI TO .ellipsis false := (hs2.extBut _ _ D.TOz.symm (hp2.extBut _ _ D.zi2 (hs1.extBut _ _ D.TOz.symm (hp1.extBut _ _ D.zi1 hz0))))
  have hkk : ∀ c o, c ≠ z → c ≠ TO → c ≠ i1 → c ≠ i2 → hp.get? c = some o → g2.get? c = some o := fun c o cz cT c1 c2 e =>
    (hs2.extBut _ _ cT (hp2.extBut _ _ c2 (hs1.extBut _ _ cT (hp1.extBut _ _ c1 (hs0.extBut _ _ cz e)))))
  have hj1 : St1 (i + 1) g2 := (D1.over (D1.over (D1.over sn1 hs1 D.Tf1) hp2 D.sep2_1) hs2 D.Tf1)
  have hj2 : St2 (i + 1) g2 := (D2.over sn2 hs2 D.Tf2)
  have hzlt : z < g2.objs.size := Heap.lt_size hzz
  show wpAny _ _ (Builtin.SmallTypes.ownedTupleHandOut (.ref z) (.ref g2.objs.size) >>= _) _ _ ⟨g2.push { cls := .type "tuple", data := .seq #[x1, x2] }, g, d, tk2, os⟩
  refine wpAny_bind ?_
  unfold Builtin.SmallTypes.ownedTupleHandOut
  have hz6 : IsZs (g2.push { cls := .type "tuple", data := .seq #[x1, x2] }) z TI TO .ellipsis false := Heap.get?_push_of_some _ hzz
  refine wpAny_bind (wpAny_setField_rec hz6 (by simp) fun h7 hz7 hs7 => ?_)
  replace hz7 : IsZs h7 z TI TO (rawInt g2.objs.size) false := hz7
  refine wpAny_setField_rec hz7 (by simp) fun h8 hz8 hs8 => ?_
  replace hz8 : IsZs h8 z TI TO (rawInt g2.objs.size) false := hz8
  replace hs7 : Heap.SameBut z (g2.push { cls := .type "tuple", data := .seq #[x1, x2] }) h7 := hs7
  replace hs8 : Heap.SameBut z h7 h8 := hs8
  have up : ∀ c o, c ≠ z → g2.get? c = some o → h8.get? c = some o := fun c o c1 e => hs8.extBut _ _ c1 (hs7.extBut _ _ c1 (Heap.get?_push_of_some _ e))
  have hT8 : IsTupOf2 h8 g2.objs.size x1 x2 := hs8.extBut _ _ (Nat.ne_of_gt hzlt) (hs7.extBut _ _ (Nat.ne_of_gt hzlt) (Heap.get?_push_size _ rfl))
  have hz9 : h8.objs.size = g2.objs.size + 1 := by rw [hs8.1, hs7.1, Heap.size_push]
  rw [hsz] at hz8 hT8 hz9
  refine wpAny_pure ⟨_, rfl, ?_⟩
  show Q (.ref g2.objs.size) ⟨h8, g, d, tk2, os⟩
  rw [hsz]
  exact hQ x1 x2 h8 tk2 hx1 hx2 hz8 (up _ _ D.TOz hT2) (D1.frame _ _ _ hj1 fun b hb o e => up b o (fun q => D.zf1 (q ▸ hb)) e) (D2.frame _ _ _ hj2 fun b hb o e => up b o (fun q => D.zf2 (q ▸ hb)) e) hT8 hz9 fun c o cz cT c1 c2 e => up c o cz (hkk c o cz cT c1 c2 e)
theorem zs_end_free {Q : Fin → Shared → Prop} (hh : A.handled = none) (D : ZipSep2 z TI TO i1 i2 fp1 fp2) (D1 : Draws prog w A i1 fp1 n P1 St1) (D2 : Draws prog w A i2 fp2 n P2 St2)
    (hz : IsZs s.heap z TI TO .none false) (hTI : IsTupOf2 s.heap TI (.ref i1) (.ref i2)) (hTO : IsTupOf2 s.heap TO a1 a2) (st1 : St1 n s.heap) (st2 : St2 n s.heap)
    (hE : ∀ h' e tk, (∀ c o, c ≠ z → c ≠ i1 → c ≠ i2 → s.heap.get? c = some o → h'.get? c = some o) → (∃ o, h'.get? e = some o ∧ o.cls = .type "StopIteration") → E (.ref e) { s with heap := h', toks := tk }) :
    wpAny (model prog w) A (Builtin.«zip.__next__» ⟨[.ref z], []⟩) Q E s := by
  obtain ⟨hp, g, d, tk0, os⟩ := s
  show wpAny _ _ (field (.ref z) 2 >>= _) _ _ _
  refine wpAny_bind (wpAny_field hz rfl (x := .bool true) rfl ?_)
  show wpAny _ _ (field (.ref z) 3 >>= _) _ _ _
  refine wpAny_bind (wpAny_field hz rfl (x := .ref TI) rfl ?_)
  refine wpAny_bind (wpAny_seqItems hTI rfl ?_)
  show wpAny _ _ (Builtin.SmallTypes.ownedTupleIsFree (.ref z) >>= _) _ _ _
  refine wpAny_bind ?_
  unfold Builtin.SmallTypes.ownedTupleIsFree
  refine wpAny_bind (wpAny_field hz rfl (x := .none) rfl (wpAny_pure ?_))
  simp only [if_true]
  refine wpAny_bind (wpAny_rule ?_)
  refine wpAny_bind (wpAny_field hz rfl (x := .ref TO) rfl ?_)
  refine wpAny_bind (wpAny_setField_rec hz (by simp) fun g0 hz0 hs0 => ?_)
  replace hz0 : IsZs g0 z TI TO .ellipsis false := hz0
  replace hs0 : Heap.SameBut z hp g0 := hs0
  refine wpAny_bind ?_
  simp only [List.zipIdx_cons, List.zipIdx_nil, List.forIn_cons, List.forIn_nil]
  refine wpAny_bind (wpAny_bind (wpAny_onRaise ?_))
  show wpAny _ _ (Builtin.SmallTypes.nextOrEnd (.ref i1)) _ _ ⟨g0, g, d, tk0, os⟩
  refine noe_done D1 (D1.over st1 hs0 D.zf1) fun p1 hp1 => ?_
  replace hp1 : Heap.ExtBut i1 g0 p1 := hp1
  have hz1 : IsZs p1 z TI TO .ellipsis false := hp1 _ _ D.zi1 hz0
  show wpAny _ _ (setField (.ref z) 0 .none >>= _) _ _ ⟨p1, g, d, tk0, os⟩
  refine wpAny_bind (wpAny_setField_rec (s := ⟨p1, g, d, tk0, os⟩) hz1 (by simp) fun p2 hz2 hs2 => ?_)
  replace hs2 : Heap.SameBut z p1 p2 := hs2
  have st2' : St2 n p2 := D2.over (D2.frame _ _ _ (D2.over st2 hs0 D.zf2) fun b hb o e => hp1 b o (fun q => D.sep1_2 (q ▸ hb)) e) hs2 D.zf2
  have two : ∀ {R : Option Value → Shared → Prop}, (∀ h', Heap.ExtBut i2 p2 h' → R none ⟨h', g, d, tk0, os⟩) → wpAny (model prog w) A (Builtin.SmallTypes.nextOrEnd (.ref i2)) R E ⟨p2, g, d, tk0, os⟩ := fun {R} h => noe_done (s := ⟨p2, g, d, tk0, os⟩) D2 st2' h
  refine wpAny_bind ?_
  wp_walk using two
  intro p3 hp3
  rw [if_neg (show ¬ ((none : Option Value).isSome = true) from Bool.false_ne_true)]
  wp_walk using two
  refine wpAny_raiseNew_none hh ?_
  exact hE _ _ tk0 (fun c o c1 c2 c3 e => Heap.get?_push_of_some _ (Heap.get?_push_of_some _ (hp3 _ _ c3 (hs2.extBut _ _ c1 (hp1 _ _ c2 (hs0.extBut _ _ c1 e)))))) ⟨_, Heap.get?_push_size _ rfl, rfl⟩
end
end Gx
end
section
set_option Elab.async false
set_option linter.all false
set_option maxHeartbeats 1000000
set_option maxRecDepth 100000
set_option autoImplicit false
namespace Gx
open PySem PySem.Spec PyProof.Rows L2
open Sem (wp)
abbrev kws1 : List (Str × Value) := [(Str.ofString "strict", .bool true)]
theorem typeCall_zip_s (a b : Value) : checkTypeCall "zip" ⟨[a, b], kws1⟩ = pure () := by kernel_rfl
theorem newCall_zip_s (a b : Value) : checkBuiltinCall "zip.__new__" ⟨[.type "zip", a, b], kws1⟩ = pure () := by kernel_rfl
theorem args_init_zip_s (obj a b : Value) : argsOk "object.__init__" ⟨[obj, a, b], kws1⟩ := by unfold argsOk; kernel_rfl
abbrev gsZ2 (h : Heap) (o1 o2 : Obj) : Heap := (gzO2 h o1 o2).push { cls := .type "zip", data := .fields #[.none, .bool false, .bool true, .ref ((h.push o1).push o2).objs.size, .ref (gzT2 h o1 o2).objs.size] }
theorem meets_zip_newS {v1 v2 : Value} {o1 o2 : Obj} {H1 H2 : Heap → Prop} (B1 : Begins v1 o1 H1) (B2 : Begins v2 o2 H2) :
    Meets (Builtin.«zip.__new__» ⟨[.type "zip", v1, v2], kws1⟩) (fun _ R s => (H1 s.heap ∧ H2 s.heap) ∧
      R (.ok (.ret (.ref (gzO2 s.heap o1 o2).objs.size))) { s with heap := gsZ2 s.heap o1 o2 }) := by
  refine .of_wp fun prog w A R s hh => ?_
  obtain ⟨hp, g, d, tk, os⟩ := s
  obtain ⟨⟨h1, h2⟩, fin⟩ := hh
  have hsub := sub_zip
  have q1 : ∀ {A' : Around} {E : Value → Shared → Prop} {Q : Value → Shared → Prop}, Q (.ref hp.objs.size) ⟨(hp.push o1), g, d, tk, os⟩ → wpAny (model prog w) A' (pyIter v1) Q E ⟨hp, g, d, tk, os⟩ :=
    fun q => B1.iter prog w _ _ ⟨hp, g, d, tk, os⟩ _ (B1.keeps _ _ h1 fun b o' e => e) q
  have q2 : ∀ {A' : Around} {E : Value → Shared → Prop} {Q : Value → Shared → Prop}, Q (.ref (hp.push o1).objs.size) ⟨((hp.push o1).push o2), g, d, tk, os⟩ → wpAny (model prog w) A' (pyIter v2) Q E ⟨(hp.push o1), g, d, tk, os⟩ :=
    fun q => B2.iter prog w _ _ ⟨(hp.push o1), g, d, tk, os⟩ _ (B2.keeps _ _ h2 fun b o' e => (Heap.get?_push_of_some _ e)) q
  have hs : (Str.ofString "strict" != Str.ofString "strict") = false := by decide +kernel
  wp_walk using q1, q2
  exact ⟨_, rfl, fin⟩
section
variable {prog : Program} {w : World} {A : Around} {E : Value → Shared → Prop} {s : Shared} {z TI TO T i1 i2 : Addr} {fp1 fp2 : List Addr} {n i : Nat} {P1 P2 : Nat → Value → Prop} {St1 St2 : Nat → Heap → Prop}
theorem zs_begins {v1 v2 : Value} {o1 o2 : Obj} {H1 H2 : Heap → Prop} {Q : Value → Shared → Prop} (B1 : Begins v1 o1 H1) (B2 : Begins v2 o2 H2) (h1 : H1 s.heap) (h2 : H2 s.heap)
    (h : ∀ h', IsZs h' (s.heap.objs.size + 4) (s.heap.objs.size + 2) (s.heap.objs.size + 3) .none false → IsTupOf2 h' (s.heap.objs.size + 2) (.ref s.heap.objs.size) (.ref (s.heap.objs.size + 1)) →
      IsTupOf2 h' (s.heap.objs.size + 3) .none .none → h'.get? s.heap.objs.size = some o1 → h'.get? (s.heap.objs.size + 1) = some o2 → h'.objs.size = s.heap.objs.size + 5 →
      (∀ c o, s.heap.get? c = some o → h'.get? c = some o) → Q (.ref (s.heap.objs.size + 4)) { s with heap := h' }) :
    wpAny (model prog w) A (call (.type "zip") [v1, v2] kws1) Q E s := by
  refine callType_newKw F.called_zip (by decide) (typeCall_zip_s _ _) (newCall_zip_s _ _) (fun obj => args_init_zip_s obj _ _) F.entry_zip_new
    (meets_zip_newS B1 B2) ⟨⟨h1, h2⟩, ?_⟩
  have z1 : (s.heap.push o1).objs.size = s.heap.objs.size + 1 := by rw [Heap.size_push]
  have z2 : ((s.heap.push o1).push o2).objs.size = s.heap.objs.size + 2 := by rw [Heap.size_push, z1]
  have zT : (gzT2 s.heap o1 o2).objs.size = s.heap.objs.size + 3 := by rw [Heap.size_push, z2]
  have zO : (gzO2 s.heap o1 o2).objs.size = s.heap.objs.size + 4 := by rw [Heap.size_push, zT]
  have zZ : (gsZ2 s.heap o1 o2).objs.size = s.heap.objs.size + 5 := by rw [Heap.size_push, zO]
  have gZ : (gsZ2 s.heap o1 o2).get? (gzO2 s.heap o1 o2).objs.size = some { cls := .type "zip", data := .fields #[.none, .bool false, .bool true, .ref ((s.heap.push o1).push o2).objs.size, .ref (gzT2 s.heap o1 o2).objs.size] } := Heap.get?_push_size _ rfl
  have gO : (gsZ2 s.heap o1 o2).get? (gzT2 s.heap o1 o2).objs.size = some { cls := .type "tuple", data := .seq #[.none, .none] } := Heap.get?_push_of_some _ (Heap.get?_push_size _ rfl)
  have gT : (gsZ2 s.heap o1 o2).get? ((s.heap.push o1).push o2).objs.size = some { cls := .type "tuple", data := .seq #[.ref s.heap.objs.size, .ref (s.heap.push o1).objs.size] } := Heap.get?_push_of_some _ (Heap.get?_push_of_some _ (Heap.get?_push_size _ rfl))
  have g1 : (gsZ2 s.heap o1 o2).get? s.heap.objs.size = some o1 := Heap.get?_push_of_some _ (Heap.get?_push_of_some _ (Heap.get?_push_of_some _ (Heap.get?_push_of_some _ (Heap.get?_push_size _ B1.free))))
  have g2 : (gsZ2 s.heap o1 o2).get? (s.heap.push o1).objs.size = some o2 := Heap.get?_push_of_some _ (Heap.get?_push_of_some _ (Heap.get?_push_of_some _ (Heap.get?_push_size _ B2.free)))
  rw [zO, zT, z2] at gZ
  rw [zT] at gO
  rw [z2, z1] at gT
  rw [z1] at g2
  show _ ∧ _
  rw [zO]
  exact ⟨⟨_, gZ, rfl⟩, h _ gZ gT gO g1 g2 zZ fun c o e => Heap.get?_push_of_some _ (Heap.get?_push_of_some _ (Heap.get?_push_of_some _ (Heap.get?_push_of_some _ (Heap.get?_push_of_some _ e))))⟩
/-- a strict zip between two draws -/
structure ZSt (z TI TO i1 i2 : Addr) (St1 St2 : Nat → Heap → Prop) (i : Nat) (h : Heap) : Prop where
  zs : IsZs h z TI TO .none false ∨ ∃ (T : Addr) (f : Bool) (oT : Obj), IsZs h z TI TO (rawInt T) f ∧ h.get? T = some oT ∧ T ≠ z ∧ T ≠ i1 ∧ T ≠ i2
  ti : IsTupOf2 h TI (.ref i1) (.ref i2)
  to : ∃ a1 a2, IsTupOf2 h TO a1 a2
  s1 : St1 i h
  s2 : St2 i h
theorem zs_next {Q : Option Value → Shared → Prop} (D : ZipSep2 z TI TO i1 i2 fp1 fp2) (D1 : Draws prog w A.in1 i1 fp1 n P1 St1) (D2 : Draws prog w A.in1 i2 fp2 n P2 St2) (st : ZSt z TI TO i1 i2 St1 St2 i s.heap) (hlt : i < n)
    (hQ : ∀ x1 x2 h' tk, P1 i x1 → P2 i x2 → ZSt z TI TO i1 i2 St1 St2 (i + 1) h' → IsTupOf2 h' s.heap.objs.size x1 x2 → h'.objs.size = s.heap.objs.size + 1 →
      (∀ c o, c ∉ [z, TO, i1, i2] → s.heap.get? c = some o → h'.get? c = some o) → Q (some (.ref s.heap.objs.size)) { s with heap := h', toks := tk }) :
    wpAny (model prog w) A (pyNext (.ref z)) Q E s := by
  obtain ⟨hz, hTI, ⟨a1, a2, hTO⟩, st1, st2⟩ := st
  have nt : ∀ {c : Addr} {o : Obj}, s.heap.get? c = some o → s.heap.objs.size ≠ c := fun e => Nat.ne_of_gt (Heap.lt_size e)
  have l1 : s.heap.objs.size ≠ i1 := by obtain ⟨_, e⟩ := D1.live _ _ st1; exact nt e
  have l2 : s.heap.objs.size ≠ i2 := by obtain ⟨_, e⟩ := D2.live _ _ st2; exact nt e
  rcases hz with hz | ⟨T, f, oT, hz, hT, t1, t2, t3⟩
  · have hTy : s.TypeIs (.ref z) "zip" := ⟨_, hz, rfl⟩
    unfold pyNext
    refine wpAny_bind (wpAny_attempt (wpAny_callSpecial?_slot (name := Str.ofString "__next__") hTy F.slot_zip_next (wpAny_call_entry F.slot_zip_next hTy F.entry_zip_next
      (zs_item_free D D1 D2 hz hTI hTO st1 st2 hlt fun x1 x2 h' tk p1 p2 z' to' d1 d2 pr sz k => wpAny_pure ?_) (F.args_zip_next_1 _))))
    exact hQ x1 x2 h' tk p1 p2 ⟨.inr ⟨_, _, _, z', pr, nt hz, l1, l2⟩, k _ _ D.TIz D.TITO D.TIi1 D.TIi2 hTI, ⟨_, _, to'⟩, d1, d2⟩ pr sz fun c o hc e => k c o (fun q => hc (by simp [q])) (fun q => hc (by simp [q])) (fun q => hc (by simp [q])) (fun q => hc (by simp [q])) e
  · have hTy : s.TypeIs (.ref z) "zip" := ⟨_, hz, rfl⟩
    unfold pyNext
    refine wpAny_bind (wpAny_attempt (wpAny_callSpecial?_slot (name := Str.ofString "__next__") hTy F.slot_zip_next (wpAny_call_entry F.slot_zip_next hTy F.entry_zip_next
      (zs_item_held D D1 D2 hz hT hTI st1 st2 hlt fun x1 x2 h' tk p1 p2 z' d1 d2 pr sz k => wpAny_pure ?_) (F.args_zip_next_1 _))))
    exact hQ x1 x2 h' tk p1 p2 ⟨.inr ⟨T, true, _, z', k _ _ t1 t2 t3 hT, t1, t2, t3⟩, k _ _ D.TIz D.TIi1 D.TIi2 hTI, ⟨a1, a2, k _ _ D.TOz D.Ti1 D.Ti2 hTO⟩, d1, d2⟩ pr sz fun c o hc e => k c o (fun q => hc (by simp [q])) (fun q => hc (by simp [q])) (fun q => hc (by simp [q])) e
theorem zs_fin {Q : Option Value → Shared → Prop} (hh : A.handled = none) (D : ZipSep2 z TI TO i1 i2 fp1 fp2) (D1 : Draws prog w A.in1 i1 fp1 n P1 St1) (D2 : Draws prog w A.in1 i2 fp2 n P2 St2) (st : ZSt z TI TO i1 i2 St1 St2 n s.heap)
    (hQ : ∀ h' tk, (∀ c o, c ∉ [z, TO, i1, i2] → s.heap.get? c = some o → h'.get? c = some o) → Q none { s with heap := h', toks := tk }) : wpAny (model prog w) A (pyNext (.ref z)) Q E s := by
  obtain ⟨hz, hTI, ⟨a1, a2, hTO⟩, st1, st2⟩ := st
  have kk : ∀ {h' : Heap}, (∀ c o, c ≠ z → c ≠ i1 → c ≠ i2 → s.heap.get? c = some o → h'.get? c = some o) → ∀ c o, c ∉ [z, TO, i1, i2] → s.heap.get? c = some o → h'.get? c = some o := fun k c o hc e => k c o (fun q => hc (by simp [q])) (fun q => hc (by simp [q])) (fun q => hc (by simp [q])) e
  rcases hz with hz | ⟨T, f, oT, hz, hT, t1, t2, t3⟩
  · have hTy : s.TypeIs (.ref z) "zip" := ⟨_, hz, rfl⟩
    unfold pyNext
    refine wpAny_bind (wpAny_attempt (wpAny_callSpecial?_slot (name := Str.ofString "__next__") hTy F.slot_zip_next (wpAny_call_entry F.slot_zip_next hTy F.entry_zip_next
      (zs_end_free hh D D1 D2 hz hTI hTO st1 st2 fun h' e tk k he => ?_) (F.args_zip_next_1 _))))
    obtain ⟨o, ho, hc⟩ := he
    refine wpAny_bind (wpAny_isInstance (T := "StopIteration") (b := true) ⟨o, ho, hc⟩ isSubtype_stop ?_)
    exact wpAny_pure (hQ _ _ (kk k))
  · have hTy : s.TypeIs (.ref z) "zip" := ⟨_, hz, rfl⟩
    unfold pyNext
    refine wpAny_bind (wpAny_attempt (wpAny_callSpecial?_slot (name := Str.ofString "__next__") hTy F.slot_zip_next (wpAny_call_entry F.slot_zip_next hTy F.entry_zip_next
      (zs_end_held hh D D1 D2 hz hT hTI st1 st2 fun h' e tk k he => ?_) (F.args_zip_next_1 _))))
    obtain ⟨o, ho, hc⟩ := he
    refine wpAny_bind (wpAny_isInstance (T := "StopIteration") (b := true) ⟨o, ho, hc⟩ isSubtype_stop ?_)
    exact wpAny_pure (hQ _ _ (kk k))
end
end Gx
end
section
set_option Elab.async false
set_option linter.all false
set_option maxHeartbeats 1000000
set_option maxRecDepth 100000
set_option autoImplicit false
namespace Gx
open PySem PySem.Spec PyProof.Rows L2
open Sem (wp)
/-! ### drawn into a tuple -/
theorem fp_put {X : Cx} {pins : List (Addr × Obj)} {H : Hp} {b T : Addr} {u : HO} (h : FpOk X pins H b) (ne : b ≠ T) : FpOk X pins (upd H T u) b := ⟨by rw [upd_ne ne]; exact h.1, h.2⟩
def HExt (H H' : Hp) : Prop := ∀ b u, H b = some u → H' b = some u
section
variable {X : Cx} {pins : List (Addr × Obj)} {σ : L2.St} {z TI TO S i1 i2 a b : Addr} {k j : Bool} {xs ys : List V} {its its2 : List Value} {n : Nat} {R : Result → Shared → Prop} {B : Around}
/-- what is drawn so far: pairs of the items -/
structure Drawn2 (H : Hp) (xs ys : List V) (i : Nat) (ts : List Addr) : Prop where
  len : ts.length = i
  at_ : ∀ (q : Nat) (T : Addr), ts[q]? = some T → ∃ x y, H T = some (.tup [x, y]) ∧ xs[q]? = some x ∧ ys[q]? = some y
theorem ext_zs (hh : B.in1.handled = none) (D : ZipSep2 z TI TO i1 i2 [i1, a] [i2, b]) (n1 : a ≠ i1) (n2 : b ≠ i2) (hS : S ∉ [z, TI, TO, i1, i2, a, b]) (rv : Vals xs its) (rv2 : Vals ys its2) (hx : its.length = n) (hy : its2.length = n) (hn : n ≤ sizeLine) (H : Hp) (res : Value) :
    ∀ (c i : Nat) (H1 : Hp) (s : Shared) (ts : List Addr) (m : Nat), n - i = c → i ≤ n → Inv X pins σ H1 s → HExt H H1 → (∀ q ∈ [S, z, TO, i1, i2], FpOk X pins H1 q) → ZSt z TI TO i1 i2 (fun i h => ItO k i1 a i h ∧ SqO k a its.toArray h) (fun i h => ItO j i2 b i h ∧ SqO j b its2.toArray h) i s.heap →
      s.heap.get? S = some { cls := .type "list", dict := none, data := .seq (ts.map Value.ref).toArray m, slots := #[] } → Drawn2 H1 xs ys i ts →
      (∀ H' s' ts' m', Inv X pins σ H' s' → HExt H H' → s'.heap.get? S = some { cls := .type "list", dict := none, data := .seq (ts'.map Value.ref).toArray m', slots := #[] } → Drawn2 H' xs ys n ts' → R (.ok (.ret res)) s') →
      codeAny (model X.prog X.w) B (.builtin "list.extend.loop" ⟨[.ref S, .ref z, res], []⟩) R s := by
  have D1 : Draws X.prog X.w B.in1.in1 i1 [i1, a] n (fun i v => its.toArray[i]? = some v) (fun i h => ItO k i1 a i h ∧ SqO k a its.toArray h) := by
    have := draws_sq (prog := X.prog) (w := X.w) (A := B.in1.in1) hh k i1 a n1 its.toArray
    rwa [List.size_toArray, hx] at this
  have D2 : Draws X.prog X.w B.in1.in1 i2 [i2, b] n (fun i v => its2.toArray[i]? = some v) (fun i h => ItO j i2 b i h ∧ SqO j b its2.toArray h) := by
    have := draws_sq (prog := X.prog) (w := X.w) (A := B.in1.in1) hh j i2 b n2 its2.toArray
    rwa [List.size_toArray, hy] at this
  intro c
  induction c with
  | zero =>
    intro i H1 s ts m hc hi I ex hf st hl dr hR
    have hin : i = n := by omega
    subst hin
    refine codeAny_builtin F.entry_extend_loop ?_
    rw [Around.under_plainId F.plain_extend_loop _]
    show wpAny _ B.in1 (pyNext (.ref z) >>= _) _ _ s
    refine wpAny_bind (zs_fin hh D D1 D2 st fun h' tk k' => ?_)
    refine wpAny_pure (hR H1 _ ts m (I.turnedL (t' := tk) (ch := [z, TO, i1, i2]) k' fun q hq => hf q (List.mem_cons_of_mem _ hq)) ex (k' _ _ (fun q => hS (by simp only [List.mem_cons, List.not_mem_nil, or_false] at q ⊢; rcases q with q | q | q | q <;> simp [q])) hl) dr)
  | succ c ih =>
    intro i H1 s ts m hc hi I ex hf st hl dr hR
    have hlt : i < n := by omega
    refine codeAny_builtin F.entry_extend_loop ?_
    rw [Around.under_plainId F.plain_extend_loop _]
    show wpAny _ B.in1 (pyNext (.ref z) >>= _) _ _ s
    refine wpAny_bind (zs_next D D1 D2 st hlt fun x1 x2 h' tk p1 p2 st' pr sz k' => ?_)
    show wpAny _ B.in1 (updateSeq S (·.push (.ref s.heap.objs.size)) >>= _) _ _ _
    have hS' := k' _ _ (fun q => hS (by simp only [List.mem_cons, List.not_mem_nil, or_false] at q ⊢; rcases q with q | q | q | q <;> simp [q])) hl
    have hle1 : (ts.map Value.ref).toArray.size ≤ sizeLine := by have := dr.len; simp; omega
    have hle2 : ((ts.map Value.ref).toArray.push (.ref s.heap.objs.size)).size ≤ sizeLine + 1 := by rw [Array.size_push]; omega
    have hb1 := (List.getElem?_eq_some_iff.mp (show its[i]? = some x1 by simpa using p1)).1
    obtain ⟨x, hxi, rx⟩ : ∃ x, xs[i]? = some x ∧ RelV x x1 := by
      have hl1 := rv.length
      obtain ⟨u, hu, ru⟩ := rv.get (show xs[i]? = some xs[i] from List.getElem?_eq_getElem (by omega))
      rw [show its[i]? = some x1 by simpa using p1] at hu; cases hu
      exact ⟨_, List.getElem?_eq_getElem (by omega), ru⟩
    obtain ⟨y, hyi, ry⟩ : ∃ y, ys[i]? = some y ∧ RelV y x2 := by
      have hl1 := rv2.length
      obtain ⟨u, hu, ru⟩ := rv2.get (show ys[i]? = some ys[i] from List.getElem?_eq_getElem (by omega))
      rw [show its2[i]? = some x2 by simpa using p2] at hu; cases hu
      exact ⟨_, List.getElem?_eq_getElem (by omega), ru⟩
    have nH : H1 s.heap.objs.size = none := I.hok.fresh (Nat.le_refl _)
    have I2 : Inv X pins σ (upd H1 s.heap.objs.size (.tup [x, y])) { s with heap := h', toks := tk } :=
      I.turnedNew (t' := tk) (ch := [z, TO, i1, i2]) k' (fun q hq => hf q (List.mem_cons_of_mem _ hq)) (Nat.le_refl _) ⟨by show 2 ≤ sizeLine; decide, [x1, x2], .cons rx (.cons ry .nil), ⟨_, pr, rfl, _, rfl⟩⟩
    have hlen : (ts ++ [s.heap.objs.size]).map Value.ref = ts.map Value.ref ++ [.ref s.heap.objs.size] := by simp
    have hSn : ∀ q ∈ [z, TI, TO, i1, i2, a, b], q ≠ S := fun q hq e => hS (e ▸ hq)
    have keepS : ∀ {h2 : Heap} (c : Addr) (o : Obj), (∀ c o, c ≠ S → h'.get? c = some o → h2.get? c = some o) → c ≠ S → h'.get? c = some o → h2.get? c = some o := fun c o k h => k c o h
    have hk2 : ∀ c o, c ≠ S → h'.get? c = some o → (h'.update S (Obj.mapSeq (·.push (.ref s.heap.objs.size)))).get? c = some o := fun c o hc e => (Heap.get?_update_other _ _ (Ne.symm hc)).trans e
    have hS2 : (h'.update S (Obj.mapSeq (·.push (.ref s.heap.objs.size)))).get? S = some _ := Heap.get?_update_self _ hS' rfl
    have e1 : ((ts.map Value.ref).toArray.push (.ref s.heap.objs.size)) = ((ts ++ [s.heap.objs.size]).map Value.ref).toArray := by simp
    have hS3 : ∃ m', (h'.update S (Obj.mapSeq (·.push (.ref s.heap.objs.size)))).get? S = some { cls := .type "list", dict := none, data := .seq ((ts ++ [s.heap.objs.size]).map Value.ref).toArray m', slots := #[] } := ⟨_, by rw [hS2, ← e1]; rfl⟩
    obtain ⟨m', hS3⟩ := hS3
    obtain ⟨zz, zti, ⟨b1, b2, zto⟩, ⟨zs1, zs2⟩, zs3, zs4⟩ := st'
    have st2 : ZSt z TI TO i1 i2 (fun i h => ItO k i1 a i h ∧ SqO k a its.toArray h) (fun i h => ItO j i2 b i h ∧ SqO j b its2.toArray h) (i + 1) (h'.update S (Obj.mapSeq (·.push (.ref s.heap.objs.size)))) := by
      refine ⟨?_, hk2 _ _ (hSn _ (by simp)) zti, ⟨b1, b2, hk2 _ _ (hSn _ (by simp)) zto⟩, ?_, ?_⟩
      · rcases zz with zz | ⟨T, f, oT, zz, zT, q1, q2, q3⟩
        · exact .inl (hk2 _ _ (hSn _ (by simp)) zz)
        · by_cases hTS : T = S
          · subst hTS
            exact .inr ⟨T, f, _, hk2 _ _ (hSn _ (by simp)) zz, hS3, q1, q2, q3⟩
          · exact .inr ⟨T, f, oT, hk2 _ _ (hSn _ (by simp)) zz, hk2 _ _ hTS zT, q1, q2, q3⟩
      · exact D1.frame (i + 1) h' _ ⟨zs1, zs2⟩ fun c hc o e => hk2 c o (hSn c (by simp at hc; rcases hc with q | q <;> simp [q])) e
      · exact D2.frame (i + 1) h' _ ⟨zs3, zs4⟩ fun c hc o e => hk2 c o (hSn c (by simp at hc; rcases hc with q | q <;> simp [q])) e
    have nq : ∀ q ∈ [S, z, TO, i1, i2], q ≠ s.heap.objs.size := fun q hq e => by
      have : q < s.heap.objs.size := by
        simp only [List.mem_cons, List.not_mem_nil, or_false] at hq
        rcases hq with rfl | rfl | rfl | rfl | rfl
        · exact Heap.lt_size hl
        · rcases st.zs with q | ⟨_, _, _, q, _⟩ <;> exact Heap.lt_size q
        · obtain ⟨_, _, q⟩ := st.to; exact Heap.lt_size q
        · obtain ⟨_, q, _⟩ := st.s1.1.obj; exact Heap.lt_size q
        · obtain ⟨_, q, _⟩ := st.s2.1.obj; exact Heap.lt_size q
      exact absurd this (by rw [e]; exact Nat.lt_irrefl _)
    refine wpAny_bind ?_
    refine wpAny_updateSeq (s := { s with heap := h', toks := tk }) (o := { cls := .type "list", dict := none, data := .seq (ts.map Value.ref).toArray m, slots := #[] }) (xs := (ts.map Value.ref).toArray) (n := m) (f := (·.push (.ref s.heap.objs.size))) hS' rfl ?_ hle1 hle2
    refine wpAny_pure ⟨plainId_quiet F.plain_extend_loop _, ih (i + 1) (upd H1 s.heap.objs.size (.tup [x, y])) _ (ts ++ [s.heap.objs.size]) m' (by omega) hlt (I2.turnedL (t' := tk) (ch := [S]) (fun c o hc e => hk2 c o (fun q => hc (by simp [q])) e) fun q hq => ?_) (fun b u e => ?_) (fun q hq => ?_) st2 hS3 ?_ hR⟩
    · have e : q = S := by simpa using hq
      subst e
      exact fp_put (hf q (by simp)) (nq q (by simp))
    · have := ex b u e
      rw [upd_ne (fun q => by rw [q] at this; rw [nH] at this; cases this)]
      exact this
    · exact fp_put (hf q hq) (nq q hq)
    · refine ⟨by simp [dr.len], fun q T hq => ?_⟩
      rcases Nat.lt_or_ge q ts.length with hq2 | hq2
      · rw [List.getElem?_append_left hq2] at hq
        obtain ⟨x', y', hT, g1, g2⟩ := dr.at_ q T hq
        exact ⟨x', y', by rw [upd_ne (fun q => by rw [q, nH] at hT; cases hT)]; exact hT, g1, g2⟩
      · rw [List.getElem?_append_right hq2] at hq
        have hq0 : q - ts.length = 0 := by
          rcases Nat.eq_zero_or_pos (q - ts.length) with e | e
          · exact e
          · rw [List.getElem?_eq_none (by simp; omega)] at hq; cases hq
        rw [hq0] at hq
        simp at hq
        subst hq
        have hqi : q = i := by have := dr.len; omega
        subst hqi
        exact ⟨x, y, upd_same, hxi, hyi⟩
theorem zip_no_len : typeLookup (.type "zip") "__len__" = pure none := by rw [typeLookup_type, builtinLookup_eq_fast]; kernel_rfl
theorem zip_no_hint : typeLookup (.type "zip") "__length_hint__" = pure none := by rw [typeLookup_type, builtinLookup_eq_fast]; kernel_rfl
theorem zst_frame {St1 St2 : Nat → Heap → Prop} {i : Nat} {h h' : Heap} (st : ZSt z TI TO i1 i2 St1 St2 i h) (f1 : St1 i h → St1 i h') (f2 : St2 i h → St2 i h') (hk : ∀ c ∈ [z, TI, TO], ∀ o, h.get? c = some o → h'.get? c = some o) (hT : ∀ T o, h.get? T = some o → ∃ o', h'.get? T = some o') : ZSt z TI TO i1 i2 St1 St2 i h' := by
  obtain ⟨zz, zti, ⟨b1, b2, zto⟩, zs1, zs2⟩ := st
  refine ⟨?_, hk _ (by simp) _ zti, ⟨b1, b2, hk _ (by simp) _ zto⟩, f1 zs1, f2 zs2⟩
  rcases zz with zz | ⟨T, f, oT, zz, zT, q⟩
  · exact .inl (hk _ (by simp) _ zz)
  · obtain ⟨o', ho'⟩ := hT T oT zT
    exact .inr ⟨T, f, o', hk _ (by simp) _ zz, ho', q⟩
theorem zs_iter {s : Shared} {Q : Value → Shared → Prop} {E : Value → Shared → Prop} {St1 St2 : Nat → Heap → Prop} {i : Nat} (st : ZSt z TI TO i1 i2 St1 St2 i s.heap) (h : Q (.ref z) s) : wpAny (model X.prog X.w) B (pyIter (.ref z)) Q E s := by
  have hT : s.TypeIs (.ref z) "zip" := by
    rcases st.zs with q | ⟨_, _, _, q, _⟩
    · exact ⟨_, q, rfl⟩
    · exact ⟨_, q, rfl⟩
  unfold pyIter
  refine wpAny_pyIter_slot hT F.slot_zip_iter (wpAny_call_entry F.slot_zip_iter hT F.entry_zip_iter ?_ (F.args_zip_iter_1 _))
  show wpAny _ _ (ret (.ref z)) _ _ s
  exact wpAny_pure ⟨_, rfl, "zip", _, hT, F.slot_zip_next.lookup, h⟩
theorem collect_zs {s : Shared} {H : Hp} {Q : List Value → Shared → Prop} {E : Value → Shared → Prop} (hh : B.handled = none) (D : ZipSep2 z TI TO i1 i2 [i1, a] [i2, b]) (n1 : a ≠ i1) (n2 : b ≠ i2) (rv : Vals xs its) (rv2 : Vals ys its2) (hx : its.length = n) (hy : its2.length = n) (hn : n ≤ sizeLine)
    (I : Inv X pins σ H s) (hf : ∀ q ∈ [z, TO, i1, i2], FpOk X pins H q) (hlt : ∀ q ∈ [z, TI, TO, i1, i2, a, b], q < s.heap.objs.size) (st : ZSt z TI TO i1 i2 (fun i h => ItO k i1 a i h ∧ SqO k a its.toArray h) (fun i h => ItO j i2 b i h ∧ SqO j b its2.toArray h) 0 s.heap)
    (hQ : ∀ H' s' ts', Inv X pins σ H' s' → HExt H H' → Drawn2 H' xs ys n ts' → Q (ts'.map Value.ref) s') : wpAny (model X.prog X.w) B (collect (.ref z)) Q E s := by
  have hS : s.heap.objs.size ∉ [z, TI, TO, i1, i2, a, b] := fun q => Nat.lt_irrefl _ (hlt _ q)
  have hSz : s.heap.objs.size ≠ z := fun e => hS (by simp [e])
  have hT : s.TypeIs (.ref z) "zip" := by
    rcases st.zs with q | ⟨_, _, _, q, _⟩
    · exact ⟨_, q, rfl⟩
    · exact ⟨_, q, rfl⟩
  unfold collect
  refine wpAny_bind (wpAny_runValue (codeAny_builtin F.entry_proto_collect ?_))
  rw [Around.under_plainId F.plain_proto_collect _]
  show wpAny _ B.in1 (newList [] >>= fun l => again (.builtin "list.__iadd__" ⟨[l, .ref z], []⟩)) _ _ s
  refine wpAny_bind (wpAny_newObj_type ?_)
  refine wpAny_pure ⟨plainId_quiet F.plain_list_iadd _, codeAny_builtin F.entry_list_iadd ?_⟩
  rw [Around.under_plainId F.plain_list_iadd _]
  have up : ∀ c o, s.heap.get? c = some o → (s.heap.push { cls := .type "list", data := .seq ([] : List Value).toArray }).get? c = some o := fun c o e => Heap.get?_push_of_some _ e
  have I1 : Inv X pins σ H { s with heap := s.heap.push { cls := .type "list", data := .seq ([] : List Value).toArray } } := I.kept (t' := s.toks) up
  have st1 : ZSt z TI TO i1 i2 (fun i h => ItO k i1 a i h ∧ SqO k a its.toArray h) (fun i h => ItO j i2 b i h ∧ SqO j b its2.toArray h) 0 (s.heap.push { cls := .type "list", data := .seq ([] : List Value).toArray }) := by
    refine zst_frame st (fun q => ?_) (fun q => ?_) (fun c _ o e => up c o e) fun T o e => ⟨o, up T o e⟩
    · exact (draws_sq (prog := X.prog) (w := X.w) (A := B) hh k i1 a n1 its.toArray).frame _ _ _ q fun c _ o e => up c o e
    · exact (draws_sq (prog := X.prog) (w := X.w) (A := B) hh j i2 b n2 its2.toArray).frame _ _ _ q fun c _ o e => up c o e
  have hT1 : ({ s with heap := s.heap.push { cls := .type "list", data := .seq ([] : List Value).toArray } } : Shared).TypeIs (.ref z) "zip" := by
    obtain ⟨o, ho, hc⟩ := hT
    exact ⟨o, up _ _ ho, hc⟩
  show wpAny _ B.in1 (Builtin.List.listExtendWith (.ref s.heap.objs.size) (.ref z) (.ref s.heap.objs.size)) _ _ _
  unfold Builtin.List.listExtendWith
  refine wpAny_bind (wpAny_typeOf hT1 ?_)
  have h1 : Builtin.List.listSameRef (.ref s.heap.objs.size) (.ref z) = false := by simp [Builtin.List.listSameRef, hSz]
  have h2 : (Value.type "zip" == Value.type "list") = false := by decide
  have h3 : (Value.type "zip" == Value.type "tuple") = false := by decide
  simp only [h1, h2, h3, Bool.or_false, Bool.false_eq_true, if_false]
  refine wpAny_bind (zs_iter st1 ?_)
  refine wpAny_bind (wpAny_holding ?_)
  unfold Builtin.List.listLengthHint
  refine wpAny_bind (wpAny_specialOf hT1 zip_no_len ?_)
  show wpAny _ B.in1 (specialOf (Value.ref z) (Str.ofString "__length_hint__") >>= _) _ _ _
  refine wpAny_bind (wpAny_specialOf hT1 zip_no_hint ?_)
  refine wpAny_pure ?_
  show wpAny _ B.in1 (rule "list.extend.makes-room" >>= fun _ => Builtin.List.listTouch (.ref s.heap.objs.size) >>= fun _ =>
    again (.builtin "list.extend.loop" ⟨[.ref s.heap.objs.size, .ref z, .ref s.heap.objs.size], []⟩)) _ _ _
  refine wpAny_bind (wpAny_rule ?_)
  have hS1 : (s.heap.push { cls := .type "list", data := .seq ([] : List Value).toArray }).get? s.heap.objs.size = some { cls := .type "list", data := .seq ([] : List Value).toArray } := Heap.get?_push_size _ rfl
  refine wpAny_bind ?_
  show wpAny _ B.in1 (updateSeq s.heap.objs.size (·.push .none) >>= fun _ => updateSeq s.heap.objs.size (·.pop)) _ _ _
  refine wpAny_bind (wpAny_updateSeq hS1 rfl ?_)
  have hS2 := Heap.get?_update_self (Obj.mapSeq (·.push Value.none)) hS1 rfl
  refine wpAny_updateSeq hS2 rfl ?_
  have hS3 := Heap.get?_update_self (Obj.mapSeq (·.pop)) hS2 rfl
  have oth : ∀ c o, c ≠ s.heap.objs.size → (s.heap.push { cls := .type "list", data := .seq ([] : List Value).toArray }).get? c = some o →
      (((s.heap.push { cls := .type "list", data := .seq ([] : List Value).toArray }).update s.heap.objs.size (Obj.mapSeq (·.push Value.none))).update s.heap.objs.size (Obj.mapSeq (·.pop))).get? c = some o :=
    fun c o hc e => (Heap.get?_update_other _ _ (Ne.symm hc)).trans ((Heap.get?_update_other _ _ (Ne.symm hc)).trans e)
  have fS : FpOk X pins H s.heap.objs.size := I.fpOk (Nat.le_refl _) (I.hok.fresh (Nat.le_refl _))
  have I2 : Inv X pins σ H { s with heap := ((s.heap.push { cls := .type "list", data := .seq ([] : List Value).toArray }).update s.heap.objs.size (Obj.mapSeq (·.push Value.none))).update s.heap.objs.size (Obj.mapSeq (·.pop)), toks := s.toks } :=
    Inv.turnedL (s := { s with heap := s.heap.push { cls := .type "list", data := .seq ([] : List Value).toArray } }) I1 (t' := s.toks) (ch := [s.heap.objs.size]) (fun c o hc e => oth c o (fun q => hc (by simp [q])) e) fun q hq => by
      have e : q = s.heap.objs.size := by simpa using hq
      subst e; exact fS
  have nS : ∀ c ∈ [z, TI, TO, i1, i2, a, b], c ≠ s.heap.objs.size := fun c hc e => hS (e ▸ hc)
  have st2 : ZSt z TI TO i1 i2 (fun i h => ItO k i1 a i h ∧ SqO k a its.toArray h) (fun i h => ItO j i2 b i h ∧ SqO j b its2.toArray h) 0 (((s.heap.push { cls := .type "list", data := .seq ([] : List Value).toArray }).update s.heap.objs.size (Obj.mapSeq (·.push Value.none))).update s.heap.objs.size (Obj.mapSeq (·.pop))) := by
    refine zst_frame st1 (fun q => ?_) (fun q => ?_) (fun c hc o e => oth c o (nS c (by simp at hc; rcases hc with q | q | q <;> simp [q])) e) fun T o e => ?_
    · exact (draws_sq (prog := X.prog) (w := X.w) (A := B) hh k i1 a n1 its.toArray).frame _ _ _ q fun c hc o e => oth c o (nS c (by simp at hc; rcases hc with q | q <;> simp [q])) e
    · exact (draws_sq (prog := X.prog) (w := X.w) (A := B) hh j i2 b n2 its2.toArray).frame _ _ _ q fun c hc o e => oth c o (nS c (by simp at hc; rcases hc with q | q <;> simp [q])) e
    · by_cases hq : T = s.heap.objs.size
      · subst hq; exact ⟨_, hS3⟩
      · exact ⟨o, oth T o hq e⟩
  refine wpAny_pure ⟨plainId_quiet F.plain_extend_loop _, ext_zs (H := H) (B := B) hh D n1 n2 hS rv rv2 hx hy hn _ n 0 H _ [] _ rfl (Nat.zero_le _) I2 (fun _ _ e => e) (fun q hq => ?_) st2 hS3 ⟨rfl, fun q T h => by simp at h⟩ fun H' s' ts' m' I' ex' hl' dr' => ?_⟩
  · rcases List.mem_cons.mp hq with rfl | hq
    · exact fS
    · exact hf q hq
  show wpAny _ B (load s.heap.objs.size >>= _) _ _ s'
  refine wpAny_bind (wpAny_load hl' ?_)
  exact wpAny_pure (by simpa using hQ H' s' ts' I' ex' dr')
end
end Gx
end
section
set_option Elab.async false
set_option linter.all false
set_option maxHeartbeats 1000000
set_option maxRecDepth 100000
set_option autoImplicit false
/-! Gx: tuple(zip(e, e2, strict=True)). -/
namespace Gx
open PySem PySem.Spec PyProof.Rows L2
open Sem (wp)
section
variable {X : Cx} {pins : List (Addr × Obj)} {σ : L2.St} {z TI TO i1 i2 a b : Addr} {k j : Bool} {xs ys : List V} {its its2 : List Value} {n : Nat} {A : Around}
theorem SqO.up {k : Bool} {a : Addr} {its : Array Value} {h h' : Heap} (x : SqO k a its h) (e : ∀ c o, h.get? c = some o → h'.get? c = some o) : SqO k a its h' := by
  cases k with
  | true => exact Heap.IsList.at (show h.IsList a its from x) fun o q => e a o q
  | false => exact Heap.IsTuple.at (show h.IsTuple a its from x) fun o q => e a o q
theorem sq_size {H : Hp} {s : Shared} {a : Addr} {k : Bool} {xs : List V} (I : Inv X pins σ H s) (h : SqA X.K H a k xs) : xs.length ≤ sizeLine := by
  cases k with
  | true => obtain ⟨its, r, p, q⟩ := I.list (by simpa [SqA] using h); have := r.length; omega
  | false => obtain ⟨its, r, p, q⟩ := I.tuple (by simpa [SqA] using h); have := r.length; omega
theorem vals_refs : ∀ (ts : List Addr), Vals (ts.map V.ref) (ts.map Value.ref)
  | [] => .nil
  | _ :: ts => .cons rfl (vals_refs ts)
theorem code_tuple_zs {s : Shared} {H : Hp} {Q₁ : Value → Shared → Prop} {E : Value → Shared → Prop} (hh : A.handled = none) (D : ZipSep2 z TI TO i1 i2 [i1, a] [i2, b]) (n1 : a ≠ i1) (n2 : b ≠ i2) (rv : Vals xs its) (rv2 : Vals ys its2) (hx : its.length = n) (hy : its2.length = n) (hn : n ≤ sizeLine)
    (I : Inv X pins σ H s) (hf : ∀ q ∈ [z, TO, i1, i2], FpOk X pins H q) (hlt : ∀ q ∈ [z, TI, TO, i1, i2, a, b], q < s.heap.objs.size) (st : ZSt z TI TO i1 i2 (fun i h => ItO k i1 a i h ∧ SqO k a its.toArray h) (fun i h => ItO j i2 b i h ∧ SqO j b its2.toArray h) 0 s.heap)
    (h : ∀ H' s' ts' p, Inv X pins σ (upd H' p (.tup (ts'.map V.ref))) s' → H' p = none → HExt H H' → Drawn2 H' xs ys n ts' → s'.TypeIs (.ref p) "tuple" → Q₁ (.ref p) s') :
    codeAny (model X.prog X.w) A (.call (.builtin "tuple.__new__") ⟨[.type "tuple", .ref z], []⟩) (wants Q₁ E) s := by
  refine codeAny_of_tree ?_
  show wpAny _ A.in1 (do checkBuiltinCall "tuple.__new__" ⟨[.type "tuple", .ref z], []⟩; again (.builtin "tuple.__new__" ⟨[.type "tuple", .ref z], []⟩)) _ _ s
  refine wpAny_bind (wpAny_of_eq (F.newCall_tuple_1 _) (wpAny_pure ⟨plainId_quiet F.plain_tuple_new _, codeAny_builtin F.entry_tuple_new ?_⟩))
  rw [Around.under_plainId F.plain_tuple_new _]
  have hsub := sub_tuple_self
  have hinit := init_tuple_lookup
  have hmh := madeHere_tuple
  have hTI : s.TypeIs (.ref z) "zip" := by
    rcases st.zs with q | ⟨_, _, _, q, _⟩
    · exact ⟨_, q, rfl⟩
    · exact ⟨_, q, rfl⟩
  have hh1 : A.in1.handled = none := hh
  have hcz := fun (Q : List Value → Shared → Prop) (E : Value → Shared → Prop) hQ => collect_zs (Q := Q) (E := E) (B := A.in1) hh1 D n1 n2 rv rv2 hx hy hn I hf hlt st hQ
  unfold Builtin.«tuple.__new__»
  wp_walk using wpAny_typeOf hTI, hcz
  intro H' s' ts' I' ex' dr'
  show wpAny _ _ (Builtin.Tuple.tupleExact (ts'.map Value.ref).toArray >>= fun v => ret v) _ _ _
  unfold Builtin.Tuple.tupleExact
  refine wpAny_bind (wpAny_newObj_type ?_ (by show (ts'.map Value.ref).toArray.size ≤ sizeLine; simp [dr'.len]; exact hn))
  refine wpAny_pure ?_
  have I2 : Inv X pins σ (upd H' s'.heap.objs.size (.tup (ts'.map V.ref))) { s' with heap := s'.heap.push { cls := .type "tuple", data := .seq (ts'.map Value.ref).toArray }, toks := s'.toks } :=
    I'.laid (t' := s'.toks) (fun c o e => Heap.get?_push_of_some _ e) (Nat.le_refl _) (show ObjOk X.prog X.w _ _ _ (.tup (ts'.map V.ref)) from ⟨by simp [dr'.len]; exact hn, ts'.map Value.ref, vals_refs ts', IsTup.new _ _⟩)
  exact h H' _ ts' _ I2 (I'.hok.fresh (Nat.le_refl _)) ex' dr' ⟨_, Heap.get?_push_size _ rfl, rfl⟩
theorem call_tuple_zs {s : Shared} {H : Hp} {Q : Value → Shared → Prop} {E : Value → Shared → Prop} (hh : A.handled = none) (D : ZipSep2 z TI TO i1 i2 [i1, a] [i2, b]) (n1 : a ≠ i1) (n2 : b ≠ i2) (rv : Vals xs its) (rv2 : Vals ys its2) (hx : its.length = n) (hy : its2.length = n) (hn : n ≤ sizeLine)
    (I : Inv X pins σ H s) (hf : ∀ q ∈ [z, TO, i1, i2], FpOk X pins H q) (hlt : ∀ q ∈ [z, TI, TO, i1, i2, a, b], q < s.heap.objs.size) (st : ZSt z TI TO i1 i2 (fun i h => ItO k i1 a i h ∧ SqO k a its.toArray h) (fun i h => ItO j i2 b i h ∧ SqO j b its2.toArray h) 0 s.heap)
    (hQ : ∀ H' s' ts' p, Inv X pins σ (upd H' p (.tup (ts'.map V.ref))) s' → H' p = none → HExt H H' → Drawn2 H' xs ys n ts' → Q (.ref p) s') :
    wpAny (model X.prog X.w) A (call (.type "tuple") [.ref z]) Q E s := by
  refine callType_codes (Q₁ := fun obj s₁ => s₁.TypeIs obj "tuple" ∧ Q obj s₁) F.called_tuple (F.typeCall_tuple_1 _) F.entry_object_init
    (code_tuple_zs (A := A.in1) hh D n1 n2 rv rv2 hx hy hn I hf hlt st fun H' s' ts' p i np ex dr ty => ⟨ty, hQ H' s' ts' p i np ex dr⟩) fun obj s₁ h₁ => ?_
  exact ⟨h₁.1, F.args_object_init_2 obj _, object_init_meets F.called_tuple.init.lookup F.called_tuple.made (by decide) X.prog X.w A.in1 _ s₁ ⟨h₁.1, rfl, h₁.2⟩⟩
/-- a type called with keywords -/
theorem callWith_typeK {M : Model} {env : Env} {pos : Pos} {T : String} {e : Expr} {rest : List Expr} {kws : List Keyword} {s : Shared} {Q : Value → Shared → Prop} {E : Value → Shared → Prop}
    (h : wpAny M A (spliced (backTo pos (starEach (e :: rest) env))) (fun vs s₁ => wpAny M A (evalAll ((backToKw pos (keywordEach kws env)).map (·.2)))
      (fun kvs s₂ => wpAny M A (call (.type T) vs (((backToKw pos (keywordEach kws env)).filterMap (·.1)).zip kvs)) Q E s₂) E s₁) E s)
    (he : backTo pos (starEach (e :: rest) env) = (false, eval e env) :: backTo pos (starEach rest env))
    (hplain : (backTo pos (starEach (e :: rest) env)).any (·.1) = false)
    (hall : (backToKw pos (keywordEach kws env)).all (·.1.isSome) = true)
    (hkw : (backToKw pos (keywordEach kws env)).any (·.1.isNone) = false) :
    wpAny M A (callWith pos (.type T) [] (backTo pos (starEach (e :: rest) env)) (backToKw pos (keywordEach kws env))) Q E s := by
  have h2 : wpAny M A (evalArgs (.type T) true (backTo pos (starEach (e :: rest) env)) (backToKw pos (keywordEach kws env))) (fun a s₁ => wpAny M A (call (.type T) ([] ++ a.pos) a.kw) Q E s₁) E s := by
    rw [he] at h ⊢
    exact evalArgs_kwB hall h
  unfold callWith
  refine wpAny_bind (wpAny_holding (wpAny_mono h2 (fun a s₁ h₁ => wpAny_bind (wpAny_standAt ?_)) fun _ _ x => x))
  simp only [hplain, hkw, Bool.or_false]
  refine wpAny_bind (wpAny_pure ?_)
  exact wpAny_bind (wpAny_mono h₁ (fun r s₂ hr => wpAny_bind (wpAny_holding (wpAny_point (wpAny_pure hr)))) fun _ _ x => x)
end
def eTupZip (d d2 : E) : E := fun L S => (d L S).bind fun v S1 => (d2 L S1).bind fun u S2 => match itOf S2 v, itOf S2 u with
  | some src, some src2 => if src.items.length = src2.items.length then .ok (.tup (zipV src.items src2.items)) S2 else .bad
  | _, _ => .bad
theorem StOk.hext {K : PySem.W.Frag} {ρ : Pl} {H H' : Hp} {S : Store} (h : StOk K ρ H S) (e : HExt H H') : Ext ρ H ρ H' ∧ StOk K ρ H' S := by
  have x : Ext ρ H ρ H' := .mk' ⟨[], by simp⟩ rfl (fun a o q _ => e a o q) (fun _ q => .inl q) fun q z => by
    cases w : H q with
    | none => rfl
    | some o => rw [e q o w] at z; cases z
  refine ⟨x, h.ext x fun n c hn q hq => ?_⟩
  obtain ⟨o, ho, _⟩ := h.mem (List.mem_of_getElem? hq)
  rw [ho, e q o ho]
theorem RVs.of_at {K : PySem.W.Frag} {ρ : Pl} {H : Hp} : ∀ {xs : List Val} {ws : List V}, xs.length = ws.length → (∀ (i : Nat) x w, xs[i]? = some x → ws[i]? = some w → RV K ρ H x w) → RVs K ρ H xs ws
  | [], [], _, _ => .nil
  | [], _ :: _, h, _ => by simp at h
  | _ :: _, [], h, _ => by simp at h
  | x :: xs, w :: ws, h, f => .cons (f 0 x w rfl rfl) (RVs.of_at (by simpa using h) fun i y v h1 h2 => f (i + 1) y v (by simpa using h1) (by simpa using h2))
section
variable {X : Cx} {W : XW} {e e2 : Expr} {d d2 : E} {pos p p2 p3 p4 kpos : Pos} {kk : Nat}
/-- tuple(zip(e, e2, strict=True)) -/
theorem de_tupZip (hc : X.calm = true) (gt : Gl X "tuple") (mt : X.mg "tuple" = none) (hg : Gl X "zip") (hm : X.mg "zip" = none) (ha : DE X W e d) (hb : DE X W e2 d2)
    (na : starEach [.Call (.Name "zip" p2) [e, e2] [⟨some "strict", .Constant (.bool true) kk p3, kpos⟩] p4] X.env = (false, eval (.Call (.Name "zip" p2) [e, e2] [⟨some "strict", .Constant (.bool true) kk p3, kpos⟩] p4) X.env) :: starEach [] X.env := by rfl)
    (hs : starEach [e, e2] X.env = (false, eval e X.env) :: starEach [e2] X.env := by rfl) (hs2 : starEach [e2] X.env = (false, eval e2 X.env) :: starEach [] X.env := by rfl)
    (he : backTo p4 (starEach [e, e2] X.env) = (false, eval e X.env) :: backTo p4 (starEach [e2] X.env) := by rfl) (hpl : (backTo p4 (starEach [e, e2] X.env)).any (·.1) = false := by rfl) :
    DE X W (.Call (.Name "tuple" p) [.Call (.Name "zip" p2) [e, e2] [⟨some "strict", .Constant (.bool true) kk p3, kpos⟩] p4] [] pos) (eTupZip d d2) := by
  refine ⟨⟨fun pins s σ H Q I h => ?_⟩⟩
  obtain ⟨ρ, S, L, sim, h⟩ := h
  refine Call_ (ld_blt I gt mt boot_tuple (PyProof.Rows.callWith_type1 (args_cons ?_ na) na))
  refine wpAny_Call_Name_kw (ld_blt I hg hm PyProof.Rows.boot_zip ?_)
  refine callWith_typeK (thn ((pa_cons ha.pe (pa_cons hb.pe pa_nil hs2) hs).run p4 pins s σ H (fun vs H1 => ∃ ρ2 S2 a b k j xs ys src src2, vs = [.ref a, .ref b] ∧ StOk X.K ρ2 H1 S2 ∧ SqA X.K H1 a k xs ∧ SqA X.K H1 b j ys ∧ RVs X.K ρ2 H1 src xs ∧ RVs X.K ρ2 H1 src2 ys ∧ src.length = src2.length ∧ 
      (∀ ρ' H' w, Ext ρ2 H1 ρ' H' → StOk X.K ρ' H' S2 → RV X.K ρ' H' (.tup (zipV src src2)) w → Q w H')) I ?_) fun us s1 ⟨vs, H1, I1, r1, ρ2, S2, a, b, k, j, xs, ys, src, src2, ex, st, hq, hq2, rx, ry, hlen, q⟩ => thn (((pk_cons pe_bl pk_nil).run p4 pins s1 σ H1 (fun vs H2 => vs = [.bl true] ∧ H2 = H1) I1 ⟨rfl, rfl⟩)) fun kvs s2 ⟨ks, H2, I2, r2, ek, eH⟩ => ?_) he hpl (by rfl) (by rfl)
  · refine two sim h fun v u S2 ρ2 H2 wv wu e2 s2 rv ru h2 => ?_
    cases qi : itOf S2 v with
    | none => rw [qi] at h2; exact h2.elim
    | some src =>
      cases qj : itOf S2 u with
      | none => rw [qi, qj] at h2; exact h2.elim
      | some src2 =>
        rw [qi, qj] at h2
        dsimp only at h2
        by_cases hl : src.items.length = src2.items.length
        · rw [if_pos hl] at h2
          obtain ⟨a, k, rfl, sq, g⟩ := it_read s2 rv qi
          obtain ⟨b, j, rfl, sq2, g2⟩ := it_read s2 ru qj
          obtain ⟨ws, rws, hq⟩ := g ρ2 H2 S2 Ext.refl.toExtB s2 (it_ok qi)
          obtain ⟨vs, rvs, hq2⟩ := g2 ρ2 H2 S2 Ext.refl.toExtB s2 (it_ok qj)
          exact ⟨ρ2, S2, a, b, k, j, ws, vs, _, _, rfl, s2, hq, hq2, rws, rvs, hl, h2⟩
        · rw [if_neg hl] at h2; exact h2.elim
  · subst ex ek eH
    obtain ⟨u1, u2, rfl, r, r'⟩ := vals2 r1
    obtain rfl : u1 = Value.ref a := r
    obtain rfl : u2 = Value.ref b := r'
    obtain ⟨u3, rfl, r3⟩ := vals1 r2
    obtain rfl : u3 = Value.bool true := r3
    obtain ⟨its, rv, p1⟩ := sq_obj I2 hq
    obtain ⟨its2, rv2, p2⟩ := sq_obj I2 hq2
    obtain ⟨o, B, ho⟩ := begins_sq k a its.toArray
    obtain ⟨o2, B2, ho2⟩ := begins_sq j b its2.toArray
    show wpAny _ _ (call (.type "zip") [.ref a, .ref b] kws1) _ _ _
    refine zs_begins B B2 p1 p2 fun h' hz hTI hTO h1 h2 hsz hk => ?_
    have la := p1.lt
    have lb := p2.lt
    have D := zip_sep2 (N := s2.heap.objs.size) (fp1 := [a]) (fp2 := [b]) (by simpa using la) (by simpa using lb)
    have n1 : a ≠ s2.heap.objs.size := Nat.ne_of_lt la
    have n2 : b ≠ s2.heap.objs.size + 1 := Nat.ne_of_lt (Nat.lt_succ_of_lt lb)
    have l1 := rv.length
    have l2 := rv2.length
    have l3 := rx.length
    have l4 := ry.length
    have I3 : Inv X pins σ H2 { s2 with heap := h', toks := s2.toks } := I2.kept (t' := s2.toks) hk
    have hnz : its.length ≤ sizeLine := by have := sq_size I2 hq; omega
    refine args_nil (call_tuple_zs (n := its.length) (A := X.A) (I2.ok.hd hc) D n1 n2 rv rv2 rfl (by omega) hnz I3 (fun q hq => ?_) (fun q hq => ?_) ⟨.inl hz, hTI, ⟨_, _, hTO⟩, ⟨ho _ _ h1, SqO.up p1 hk⟩, ⟨ho2 _ _ h2, SqO.up p2 hk⟩⟩ fun H' s' ts' p I' np ex dr => ?_)
    · have hle : s2.heap.objs.size ≤ q := by
        simp only [List.mem_cons, List.not_mem_nil, or_false] at hq
        rcases hq with z | z | z | z <;> (rw [z]; first | exact Nat.le_refl _ | exact Nat.le_add_right _ _)
      exact I2.fpOk hle (I2.hok.fresh hle)
    · show q < h'.objs.size
      rw [hsz]
      simp only [List.mem_cons, List.not_mem_nil, or_false] at hq
      have la' : a < s2.heap.objs.size := la
      have lb' : b < s2.heap.objs.size := lb
      clear la lb
      rcases hq with z | z | z | z | z | z | z <;> (rw [z]; first | exact Nat.add_lt_add_left (by decide) _ | exact Nat.lt_add_of_pos_right (by decide) | exact Nat.lt_of_lt_of_le la' (Nat.le_add_right _ _) | exact Nat.lt_of_lt_of_le lb' (Nat.le_add_right _ _))
    · obtain ⟨e1, st1⟩ := st.hext ex
      refine ⟨.ref p, _, I', rfl, q ρ2 _ _ (e1.trans (ext_new np)) (st1.new np) ?_⟩
      unfold RV
      refine ⟨p, _, rfl, .of upd_same, RVs.of_at (by simp [zipV, dr.len]; omega) fun i x w hx hw => ?_⟩
      obtain ⟨T, hT, rfl⟩ : ∃ T, ts'[i]? = some T ∧ w = .ref T := by
        rw [List.getElem?_map] at hw
        cases e : ts'[i]? with
        | none => rw [e] at hw; cases hw
        | some T => rw [e] at hw; exact ⟨T, rfl, (Option.some.inj hw).symm⟩
      obtain ⟨y, u, hH, hy, hu⟩ := dr.at_ i T hT
      obtain ⟨g, gy⟩ : ∃ g, src[i]? = some g := ⟨_, List.getElem?_eq_getElem (by have := (List.getElem?_eq_some_iff.mp hy).1; omega)⟩
      obtain ⟨g2, gu⟩ : ∃ g, src2[i]? = some g := ⟨_, List.getElem?_eq_getElem (by have := (List.getElem?_eq_some_iff.mp hu).1; omega)⟩
      have exx : x = .tup [g, g2] := by
        have zz : (src.zip src2)[i]? = some (g, g2) := List.getElem?_zip_eq_some.mpr ⟨gy, gu⟩
        have : (zipV src src2)[i]? = some (.tup [g, g2]) := by simp [zipV, zz]
        rw [this] at hx; exact (Option.some.inj hx).symm
      subst exx
      obtain ⟨w1, hw1, rw1⟩ := rx.get gy
      rw [hy] at hw1; cases hw1
      obtain ⟨w2, hw2, rw2⟩ := ry.get gu
      rw [hu] at hw2; cases hw2
      have e2 := e1.trans (ext_new np (o := .tup (ts'.map V.ref)))
      unfold RV
      exact ⟨T, _, rfl, .of (by rw [upd_ne (ne_of_none hH np)]; exact hH), .cons (rw1.ext e2) (.cons (rw2.ext e2) .nil)⟩
end
end Gx
end
section
set_option linter.all false
set_option autoImplicit false
/-! Gx: what holds behind a run (results, returns, errors); stores that end in a deck. -/
namespace Gx
open PySem
/-- (the simplifier goes into the run alone: its type names the rest) -/
abbrev RQ {α : Type} (_ : α → Store → Prop) (_ : Exc → Store → Prop) : Type := R α
abbrev RSQ (_ : Loc → Store → Prop) (_ : Val → Store → Prop) (_ : Exc → Store → Prop) : Type := RS
/-- the run ends well with Q, or in an error with X -/
def wR {α : Type} (Q : α → Store → Prop) (X : Exc → Store → Prop) (r : RQ Q X) : Prop :=
  match (r : R α) with
  | .ok a S => Q a S
  | .exn x S => X x S
  | .bad => False
/-- .. of statements: N behind them, T at a return -/
def wS (N : Loc → Store → Prop) (T : Val → Store → Prop) (X : Exc → Store → Prop) (r : RSQ N T X) : Prop :=
  match (r : RS) with
  | .nx L S => N L S
  | .ret v S => T v S
  | .exn x _ S => X x S
  | .bad => False
theorem wR_ok {α : Type} (a : α) (S : Store) (Q : α → Store → Prop) (X : Exc → Store → Prop) : wR Q X (.ok a S) = Q a S := id rfl
theorem wR_exn {α : Type} (x : Exc) (S : Store) (Q : α → Store → Prop) (X : Exc → Store → Prop) : wR Q X (.exn x S) = X x S := id rfl
theorem wR_bind {α β : Type} (r : R α) (f : α → Store → R β) (Q : β → Store → Prop) (X : Exc → Store → Prop) : wR Q X (r.bind f) = wR (fun a S => wR Q X (f a S)) X r := by cases r <;> rfl
theorem wS_nx (L : Loc) (S : Store) (N : Loc → Store → Prop) (T : Val → Store → Prop) (X : Exc → Store → Prop) : wS N T X (.nx L S) = N L S := id rfl
theorem wS_ret (v : Val) (S : Store) (N : Loc → Store → Prop) (T : Val → Store → Prop) (X : Exc → Store → Prop) : wS N T X (.ret v S) = T v S := id rfl
theorem wS_exn (x : Exc) (L : Loc) (S : Store) (N : Loc → Store → Prop) (T : Val → Store → Prop) (X : Exc → Store → Prop) : wS N T X (.exn x L S) = X x S := id rfl
theorem wS_next (r : RS) (f : Loc → Store → RS) (N : Loc → Store → Prop) (T : Val → Store → Prop) (X : Exc → Store → Prop) : wS N T X (r.next f) = wS (fun L S => wS N T X (f L S)) T X r := by cases r <;> rfl
theorem wS_ofE {α : Type} (L : Loc) (r : R α) (f : α → Store → RS) (N : Loc → Store → Prop) (T : Val → Store → Prop) (X : Exc → Store → Prop) : wS N T X (ofE L r f) = wR (fun a S => wS N T X (f a S)) X r := by cases r <;> rfl
theorem wS_plain (r : RS) (N : Loc → Store → Prop) (T : Val → Store → Prop) (X : Exc → Store → Prop) : wS N T X r.plain = wS N (fun _ _ => False) X r := by cases r <;> rfl
theorem wR_mono {α : Type} {r : R α} {Q Q' : α → Store → Prop} {X : Exc → Store → Prop} (h : wR Q X r) (hQ : ∀ a S, Q a S → Q' a S) : wR Q' X r := by
  cases r
  · exact hQ _ _ h
  · exact h
  · exact h
theorem wS_mono {r : RS} {N N' : Loc → Store → Prop} {T T' : Val → Store → Prop} {X : Exc → Store → Prop} (h : wS N T X r) (hN : ∀ L S, N L S → N' L S) (hT : ∀ v S, T v S → T' v S) : wS N' T' X r := by
  cases r
  · exact hN _ _ h
  · exact hT _ _ h
  · exact h
  · exact h
theorem wR_ok_of {α : Type} {r : R α} {Q : α → Store → Prop} (h : wR Q (fun _ _ => False) r) : ∃ a S, r = .ok a S ∧ Q a S := by
  cases r with
  | ok a S => exact ⟨a, S, rfl, h⟩
  | exn x S => exact h.elim
  | bad => exact h.elim
theorem wR_eq {α : Type} {r : R α} {a : α} {S : Store} {Q : α → Store → Prop} {X : Exc → Store → Prop} (e : r = .ok a S) (h : Q a S) : wR Q X r := by rw [e]; exact h
theorem wS_if {c : Bool} {a b : RS} {N : Loc → Store → Prop} {T : Val → Store → Prop} {X : Exc → Store → Prop} (h1 : c = true → wS N T X a) (h2 : c = false → wS N T X b) : wS N T X (if c = true then a else b) := by
  cases c
  · exact h2 rfl
  · exact h1 rfl
theorem wR_if {α : Type} {c : Bool} {a b : R α} {Q : α → Store → Prop} {X : Exc → Store → Prop} (h1 : c = true → wR Q X a) (h2 : c = false → wR Q X b) : wR Q X (if c = true then a else b) := by
  cases c
  · exact h2 rfl
  · exact h1 rfl
theorem prop_if {c : Bool} {a b : Prop} (h1 : c = true → a) (h2 : c = false → b) : if c = true then a else b := by
  cases c
  · exact h2 rfl
  · exact h1 rfl
theorem wR_ifp {α : Type} {p : Prop} [Decidable p] {a : R α} {Q : α → Store → Prop} {X : Exc → Store → Prop} (hp : p) (h1 : wR Q X a) : wR Q X (if p then a else .bad) := by rw [if_pos hp]; exact h1
/-- what the simplifier shall leave as it stands -/
structure Tk (p : Prop) : Type where
@[irreducible] def Hold (p : Prop) (_ : Tk p) : Prop := p
theorem hold {p : Prop} (h : p) : Hold p ⟨⟩ := by unfold Hold; exact h
theorem held {p : Prop} {t : Tk p} (h : Hold p t) : p := by unfold Hold at h; exact h
/-- a for's loop -/
theorem wS_for {stay : Store → Bool} {g : G} {b : SS} {xs : List Val} {N : Loc → Store → Prop} {T : Val → Store → Prop} {X : Exc → Store → Prop} {L : Loc} {S : Store} (J : Nat → Loc → Store → Prop)
    (h0 : J 0 L S) (hs : ∀ i L S, J i L S → stay S = true)
    (step : ∀ i x L S, xs[i]? = some x → i < xs.length → J i L S → wS (fun L1 S1 => wS (fun L2 S2 => Hold (J (i + 1) L2 S2) ⟨⟩) T X (b L1 S1)) (fun _ _ => False) X (g x L S))
    (hN : ∀ L S, J xs.length L S → N L S) : wS N T X (forGo stay g b xs L S) := by
  have go : ∀ (k : Nat) (ys : List Val), (∀ i, ys[i]? = xs[k + i]?) → k + ys.length = xs.length → ∀ {L : Loc} {S : Store}, J k L S → wS N T X (forGo stay g b ys L S) := by
    intro k ys
    induction ys generalizing k with
    | nil => intro _ hl L S h; unfold forGo; rw [if_pos (hs _ _ _ h)]; exact hN _ _ (by rw [← hl]; exact h)
    | cons y ys ih =>
      intro he hl L S h
      have e0 : xs[k]? = some y := by have := he 0; simpa using this.symm
      unfold forGo
      rw [if_pos (hs _ _ _ h), wS_next, wS_plain]
      refine wS_mono (step k y L S e0 (by simp at hl; omega) h) (fun L1 S1 h1 => ?_) (fun _ _ q => q.elim)
      rw [wS_next]
      refine wS_mono h1 (fun L2 S2 h2' => ?_) (fun _ _ q => q)
      have h2 := held h2'
      exact ih (k + 1) (fun i => by have := he (i + 1); simp only [List.getElem?_cons_succ] at this; rw [this]; congr 1; omega) (by simp at hl; omega) h2
  exact go 0 xs (fun i => by simp) (by simp) h0
/-- a comprehension's loop -/
theorem wR_comp {stay : Store → Bool} {g : G} {c : T} {e : E} {xs : List Val} {L : Loc} {S : Store} {Q : List Val → Store → Prop} {X : Exc → Store → Prop} (J : Nat → List Val → Store → Prop)
    (h0 : J 0 [] S) (hs : ∀ i r S, J i r S → stay S = true)
    (step : ∀ i x r S, xs[i]? = some x → i < xs.length → J i r S → wS (fun L1 S1 => wR (fun k S2 => if k = true then wR (fun v S3 => Hold (J (i + 1) (r ++ [v]) S3) ⟨⟩) (fun _ _ => False) (e L1 S2) else Hold (J (i + 1) r S2) ⟨⟩) (fun _ _ => False) (c L1 S1)) (fun _ _ => False) (fun _ _ => False) (g x L S))
    (hN : ∀ r S, J xs.length r S → Q r S) : wR Q X (calm (compGo stay g c e L xs S)) := by
  have go : ∀ (k : Nat) (ys : List Val), (∀ i, ys[i]? = xs[k + i]?) → k + ys.length = xs.length → ∀ {r : List Val} {S : Store}, J k r S → wR (fun r' S' => J xs.length (r ++ r') S') (fun _ _ => False) (compGo stay g c e L ys S) := by
    intro k ys
    induction ys generalizing k with
    | nil => intro _ hl r S h; unfold compGo; rw [if_pos (hs _ _ _ h)]; show J xs.length (r ++ []) S; rw [← hl, List.append_nil]; exact h
    | cons y ys ih =>
      intro he hl r S h
      have e0 : xs[k]? = some y := by have := he 0; simpa using this.symm
      have he' : ∀ i, ys[i]? = xs[k + 1 + i]? := fun i => by have := he (i + 1); simp only [List.getElem?_cons_succ] at this; rw [this]; congr 1; omega
      have hl' : k + 1 + ys.length = xs.length := by simp at hl; omega
      have hst := step k y r S e0 (by simp at hl; omega) h
      unfold compGo
      rw [if_pos (hs _ _ _ h)]
      cases e1 : g y L S with
      | nx L1 S1 =>
        rw [e1] at hst
        simp only [wR_bind]
        refine wR_mono hst fun q S2 h2 => ?_
        cases q with
        | true =>
          simp only [if_true] at h2
          simp only [if_true, wR_bind]
          refine wR_mono h2 fun v S3 h3' => ?_
          have h3 := held h3'
          simp only [wR_bind]
          refine wR_mono (ih (k + 1) he' hl' h3) fun r' S4 h4 => ?_
          show J xs.length (r ++ (v :: r')) S4
          simpa using h4
        | false =>
          simp only [Bool.false_eq_true, if_false] at h2
          simp only [Bool.false_eq_true, if_false]
          exact ih (k + 1) he' hl' (held h2)
      | ret v S1 => rw [e1] at hst; exact hst.elim
      | exn x L1 S1 => rw [e1] at hst; exact hst.elim
      | bad => rw [e1] at hst; exact hst.elim
  obtain ⟨r, S', e1, h1⟩ := wR_ok_of (go 0 xs (fun i => by simp) (by simp) h0)
  rw [e1]
  exact hN _ _ (by simpa using h1)
/-- a def -/
theorem wR_fn {np n k : Nat} {b : SS} {args : List Val} {S : Store} {Q : Val → Store → Prop} {X : Exc → Store → Prop} (hl : args.length = np)
    (h : wS (fun _ S1 => wR Q X (gcR k S (.ok .non S1))) (fun v S1 => wR Q X (gcR k S (.ok v S1))) X (b (startL n args) S)) : wR Q X (fnD np n k b args S) := by
  unfold fnD
  rw [if_pos hl]
  cases e : b (startL n args) S with
  | nx L S1 => rw [e] at h; exact h
  | ret v S1 => rw [e] at h; exact h
  | exn x L S1 => rw [e] at h; exact h
  | bad => rw [e] at h; exact h.elim

/-! ### trees -/
mutual
def tree : Val → Bool
  | .ref _ => false
  | .tup xs => trees xs
  | .lst xs => trees xs
  | .frz xs => trees xs
  | .dct kvs => treeK kvs
  | .obj _ fs => treeF fs
  | _ => true
def trees : List Val → Bool
  | [] => true
  | x :: xs => tree x && trees xs
def treeK : List (L2.Key × Val) → Bool
  | [] => true
  | (_, x) :: xs => tree x && treeK xs
def treeF : List (Str × Val) → Bool
  | [] => true
  | (_, x) :: xs => tree x && treeF xs
end
mutual
theorem fz_tree (r : Nat → Option Val) : ∀ v : Val, tree v = true → fzV r v = some v
  | .non, _ => rfl
  | .bl _, _ => rfl
  | .int _, _ => rfl
  | .str _, _ => rfl
  | .ty _, _ => rfl
  | .gl _, _ => rfl
  | .tup xs, h => by simp only [fzV, fz_trees r xs (by simpa [tree] using h), Option.map_some]
  | .lst xs, h => by simp only [fzV, fz_trees r xs (by simpa [tree] using h), Option.map_some]
  | .frz xs, h => by simp only [fzV, fz_trees r xs (by simpa [tree] using h), Option.map_some]
  | .dct xs, h => by simp only [fzV, fz_treeK r xs (by simpa [tree] using h), Option.map_some]
  | .obj C xs, h => by simp only [fzV, fz_treeF r xs (by simpa [tree] using h), Option.map_some]
  | .ref _, h => by simp [tree] at h
theorem fz_trees (r : Nat → Option Val) : ∀ v : List Val, trees v = true → fzVs r v = some v
  | [], _ => rfl
  | x :: xs, h => by
    simp only [trees, Bool.and_eq_true] at h
    simp only [fzVs, fz_tree r x h.1, fz_trees r xs h.2, Option.bind_some, Option.map_some]
theorem fz_treeK (r : Nat → Option Val) : ∀ v : List (L2.Key × Val), treeK v = true → fzVK r v = some v
  | [], _ => rfl
  | (k, x) :: xs, h => by
    simp only [treeK, Bool.and_eq_true] at h
    simp only [fzVK, fz_tree r x h.1, fz_treeK r xs h.2, Option.bind_some, Option.map_some]
theorem fz_treeF (r : Nat → Option Val) : ∀ v : List (Str × Val), treeF v = true → fzVF r v = some v
  | [], _ => rfl
  | (k, x) :: xs, h => by
    simp only [treeF, Bool.and_eq_true] at h
    simp only [fzVF, fz_tree r x h.1, fz_treeF r xs h.2, Option.bind_some, Option.map_some]
end
theorem trees_iff : ∀ {xs : List Val}, trees xs = true ↔ ∀ v ∈ xs, tree v = true
  | [] => by simp [trees]
  | x :: xs => by simp [trees, trees_iff (xs := xs)]
theorem trees_mem {xs : List Val} {v : Val} (h : trees xs = true) (hv : v ∈ xs) : tree v = true := trees_iff.mp h v hv
theorem trees_append {xs ys : List Val} : trees (xs ++ ys) = (trees xs && trees ys) := by
  induction xs with
  | nil => simp [trees]
  | cons x xs ih => simp [trees, ih, Bool.and_assoc]
theorem trees_map {α : Type} (f : α → Val) (xs : List α) (h : ∀ x ∈ xs, tree (f x) = true) : trees (xs.map f) = true := trees_iff.mpr fun v hv => by
  obtain ⟨x, hx, rfl⟩ := List.mem_map.mp hv
  exact h x hx
theorem trees_ints (ns : List Int) : trees (ns.map .int) = true := trees_map _ _ fun _ _ => rfl

/-! ### decks -/
/-- what a deck holds -/
structure Dx where
  m : Int
  t : Int
  ms : List Int
/-- k draws may still be done -/
structure Dx.Ok (k : Nat) (X : Dx) : Prop where
  m0 : 0 ≤ X.m
  m1 : X.m < 2147483647
  t0 : 0 ≤ X.t
  t1 : X.t + k ≤ 999999999
  ms : X.ms.length ≤ 64
theorem Dx.Ok.le {k k' : Nat} {X : Dx} (h : X.Ok k) (hk : k' ≤ k) : X.Ok k' := ⟨h.m0, h.m1, h.t0, by have := h.t1; omega, h.ms⟩
abbrev kc : L2.Key := .inr (Str.ofString "cells")
abbrev km : L2.Key := .inr (Str.ofString "mixed")
abbrev kd : L2.Key := .inr (Str.ofString "draws")
abbrev dkc (c : Nat) (X : Dx) : Cell := .dct [(kc, .ref c), (km, .int X.m), (kd, .int X.t)]
/-- the store with the deck X: its dict at d, its cells at c -/
def Dk (d c : Nat) (X : Dx) (S : Store) : Store := (S.set d (dkc c X)).set c (.lst (X.ms.map .int))
/-- where the deck lies -/
structure In (d c : Nat) (S : Store) : Prop where
  ne : d ≠ c
  d : d < S.length
  c : c < S.length
theorem In.app {d c : Nat} {S T : Store} (h : In d c S) : In d c (S ++ T) := ⟨h.ne, by simp; have := h.d; omega, by simp; have := h.c; omega⟩
theorem In.len {d c : Nat} {S T : Store} (h : In d c S) (hl : T.length = S.length) : In d c T := ⟨h.ne, by rw [hl]; exact h.d, by rw [hl]; exact h.c⟩
theorem In.set {d c j : Nat} {S : Store} {x : Cell} (h : In d c S) : In d c (S.set j x) := h.len (by simp)
theorem Dk_len {d c : Nat} {X : Dx} {S : Store} : (Dk d c X S).length = S.length := by simp [Dk]
theorem In.dk {d c : Nat} {S : Store} {X : Dx} (h : In d c S) : In d c (Dk d c X S) := h.len Dk_len
theorem Dk_app {d c : Nat} {X : Dx} {S T : Store} (h : In d c S) : Dk d c X S ++ T = Dk d c X (S ++ T) := by
  unfold Dk
  rw [List.set_append_left _ _ (by exact h.d), List.set_append_left _ _ (by simpa using h.c)]
theorem Dk_get {d c j : Nat} {X : Dx} {S : Store} (h1 : j ≠ d) (h2 : j ≠ c) : (Dk d c X S)[j]? = S[j]? := by
  unfold Dk
  rw [List.getElem?_set_ne (Ne.symm h2), List.getElem?_set_ne (Ne.symm h1)]
theorem Dk_d {d c : Nat} {X : Dx} {S : Store} (h : In d c S) : (Dk d c X S)[d]? = some (dkc c X) := by
  unfold Dk
  rw [List.getElem?_set_ne (Ne.symm h.ne)]; simp [h.d]
theorem Dk_c {d c : Nat} {X : Dx} {S : Store} (h : In d c S) : (Dk d c X S)[c]? = some (.lst (X.ms.map .int)) := by
  unfold Dk
  simp [h.c]
theorem Dk_set {d c j : Nat} {X : Dx} {S : Store} {x : Cell} (h1 : j ≠ d) (h2 : j ≠ c) : (Dk d c X S).set j x = Dk d c X (S.set j x) := by
  unfold Dk
  rw [List.set_comm _ _ (Ne.symm h2), List.set_comm _ _ (Ne.symm h1)]
theorem Dk_Dk {d c : Nat} {X Y : Dx} {S : Store} : Dk d c X (Dk d c Y S) = Dk d c X S := by
  apply List.ext_getElem?
  intro i
  unfold Dk
  by_cases h1 : c = i
  · subst h1; simp [List.getElem?_set]
  · rw [List.getElem?_set_ne h1, List.getElem?_set_ne h1]
    by_cases h2 : d = i
    · subst h2; simp [List.getElem?_set]
    · rw [List.getElem?_set_ne h2, List.getElem?_set_ne h2, List.getElem?_set_ne h1, List.getElem?_set_ne h2]
theorem fz_ints (r : Nat → Option Val) (ms : List Int) : fzVs r (ms.map .int) = some (ms.map .int) := fz_trees r _ (trees_ints ms)
theorem fits_app {S T : Store} : fits S (S ++ T) = true := by
  unfold fits
  rw [List.all_eq_true]
  intro i hi
  have hi := List.mem_range.mp hi
  rw [List.getElem?_append_left hi, List.getElem?_eq_getElem hi]
  simp
theorem fits_dk {d c : Nat} {X Y : Dx} {S T : Store} (h : In d c S) : fits (Dk d c X S) (Dk d c Y (S ++ T)) = true := by
  unfold fits
  rw [List.all_eq_true]
  intro i hi
  have hi := List.mem_range.mp hi
  rw [Dk_len] at hi
  by_cases e1 : i = d
  · subst e1
    rw [Dk_d h.app]
    simp [Cell.below, fzVK, fzV, belowR, Dk_len, h.c]
  · by_cases e2 : i = c
    · subst e2
      rw [Dk_c h.app]
      simp [Cell.below, fz_ints]
    · rw [Dk_get e1 e2, List.getElem?_append_left hi, Dk_get e1 e2, List.getElem?_eq_getElem hi]
      simp
theorem take_app {S T : Store} : (S ++ T).take S.length = S := by simp
/-- a plain def's end -/
theorem gc_app {k : Nat} {S T : Store} {v v' : Val} (hv : fzV (fzR S.length (S ++ T) k) v = some v') : gcR k S (.ok v (S ++ T)) = .ok v' S := by
  unfold gcR
  simp only [hv, fits_app, if_true, take_app]
theorem gc_dk {d c k : Nat} {X Y : Dx} {S T : Store} {v v' : Val} (h : In d c S) (hv : fzV (fzR S.length (Dk d c Y (S ++ T)) k) v = some v') : gcR k (Dk d c X S) (.ok v (Dk d c Y (S ++ T))) = .ok v' (Dk d c Y S) := by
  unfold gcR
  simp only [Dk_len, hv, fits_dk h, if_true]
  rw [← Dk_app h, show S.length = (Dk d c Y S).length from Dk_len.symm, List.take_left]
theorem wR_gc {k : Nat} {S T : Store} {v v' : Val} {Q : Val → Store → Prop} {X : Exc → Store → Prop} (hv : fzV (fzR S.length (S ++ T) k) v = some v') (h : Q v' S) : wR Q X (gcR k S (.ok v (S ++ T))) := by
  rw [gc_app hv]; exact h
theorem wR_gcT {k : Nat} {S T : Store} {v : Val} {Q : Val → Store → Prop} {X : Exc → Store → Prop} (hv : tree v = true) (h : Q v S) : wR Q X (gcR k S (.ok v (S ++ T))) := wR_gc (fz_tree _ v hv) h
theorem wR_gc0 {k : Nat} {S : Store} {v : Val} {Q : Val → Store → Prop} {X : Exc → Store → Prop} (hv : tree v = true) (h : Q v S) : wR Q X (gcR k S (.ok v S)) := by
  have := wR_gcT (k := k) (S := S) (T := []) (X := X) hv h
  rwa [List.append_nil] at this
theorem wR_gcD {d c k : Nat} {Y Z : Dx} {S T : Store} {v v' : Val} {Q : Val → Store → Prop} {X : Exc → Store → Prop} (hi : In d c S) (hv : fzV (fzR S.length (Dk d c Y (S ++ T)) k) v = some v') (h : Q v' (Dk d c Y S)) : wR Q X (gcR k (Dk d c Z S) (.ok v (Dk d c Y (S ++ T)))) := by
  rw [gc_dk hi hv]; exact h
theorem wR_gcDT {d c k : Nat} {Y Z : Dx} {S T : Store} {v : Val} {Q : Val → Store → Prop} {X : Exc → Store → Prop} (hi : In d c S) (hv : tree v = true) (h : Q v (Dk d c Y S)) : wR Q X (gcR k (Dk d c Z S) (.ok v (Dk d c Y (S ++ T)))) := wR_gcD hi (fz_tree _ v hv) h
theorem wR_gcD0 {d c k : Nat} {Y Z : Dx} {S : Store} {v : Val} {Q : Val → Store → Prop} {X : Exc → Store → Prop} (hi : In d c S) (hv : tree v = true) (h : Q v (Dk d c Y S)) : wR Q X (gcR k (Dk d c Z S) (.ok v (Dk d c Y S))) := by
  have := wR_gcDT (k := k) (S := S) (T := []) (Y := Y) (Z := Z) (X := X) hi hv h
  rwa [List.append_nil] at this
end Gx
end
section
set_option linter.all false
set_option autoImplicit false
/-! Gx: one rule for each construct. -/
namespace Gx
open PySem L2
section
variable {α : Type} {L : Loc} {S : Store} {N : Loc → Store → Prop} {T : Val → Store → Prop} {X : Exc → Store → Prop} {Q : Val → Store → Prop} {QB : Bool → Store → Prop} {QA : List Val → Store → Prop} {QI : Src → Store → Prop}
theorem wR_q {r : R α} {Q1 Q2 : α → Store → Prop} (h : ∀ a S, Q1 a S = Q2 a S) : wR Q1 X r = wR Q2 X r := by
  have : Q1 = Q2 := funext fun a => funext fun S => h a S
  rw [this]
theorem wR_gd {p : Prop} [Decidable p] {r : R α} {QX : α → Store → Prop} : wR QX X (if p then r else .bad) = (p ∧ wR QX X r) := by
  by_cases h : p
  · rw [if_pos h]; simp [h]
  · rw [if_neg h]; simp [h, wR]
theorem wS_gd {p : Prop} [Decidable p] {r : RS} : wS N T X (if p then r else .bad) = (p ∧ wS N T X r) := by
  by_cases h : p
  · rw [if_pos h]; simp [h]
  · rw [if_neg h]; simp [h, wS]
/-! ### statements -/
theorem w_seq {a b : SS} : wS N T X (sSeq a b L S) = wS (fun L1 S1 => wS N T X (b L1 S1)) T X (a L S) := wS_next _ _ _ _ _
theorem w_nil : wS N T X (sNil L S) = N L S := id rfl
theorem w_drop {e : E} : wS N T X (sDrop e L S) = wR (fun _ S1 => N L S1) X (e L S) := wS_ofE _ _ _ _ _ _
theorem w_ret {e : E} : wS N T X (sRet e L S) = wR T X (e L S) := wS_ofE _ _ _ _ _ _
theorem w_retN : wS N T X (sRetN L S) = T .non S := id rfl
theorem w_if {c : Gx.T} {a b : SS} {N : Loc → Store → Prop} {U : Val → Store → Prop} : wS N U X (sIf c a b L S) = wR (fun k S1 => wS N U X (if k = true then a L S1 else b L S1)) X (c L S) := wS_ofE _ _ _ _ _ _
theorem w_asg {e : E} {g : G} : wS N T X (sAsg e g L S) = wR (fun v S1 => wS N (fun _ _ => False) X (g v L S1)) X (e L S) := by
  unfold sAsg
  rw [wS_ofE]
  exact wR_q fun _ _ => wS_plain _ _ _ _
theorem w_name {i : Nat} {v : Val} : wS N T X (gName i v L S) = N (L.set i (some v)) S := id rfl
theorem w_gnil : wS N T X (gNil [] L S) = N L S := id rfl
theorem w_gcons {g : G} {r : Gs} {v : Val} {vs : List Val} : wS N T X (gCons g r (v :: vs) L S) = wS (fun L1 S1 => wS N T X (r vs L1 S1)) (fun _ _ => False) X (g v L S) := by
  show wS N T X ((g v L S).plain.next fun L1 S1 => r vs L1 S1) = _
  rw [wS_next, wS_plain]
theorem w_gtup {n : Nat} {g : Gs} {xs : List Val} : wS N T X (gTup n g (.tup xs) L S) = (xs.length = n ∧ wS N (fun _ _ => False) X (g xs L S)) := by
  unfold gTup
  simp only [seqOf]
  by_cases h : xs.length = n
  · rw [if_pos h, wS_plain]; simp [h]
  · rw [if_neg h]; simp [h, wS]
theorem w_gsub {a i : E} {v : Val} : wS N T X (gSub a i v L S) = wR (fun o S1 => wR (fun k S2 => wS N T X (match setItem o k v S2 with | some S3 => .nx L S3 | none => .bad)) X (i L S1)) X (a L S) := by
  unfold gSub
  rw [wS_ofE]
  exact wR_q fun _ _ => wS_ofE _ _ _ _ _ _
theorem w_for {i : I} {g : G} {b : SS} : wS N T X (sFor i g b L S) = wR (fun s S1 => wS N T X (forGo s.ok g b s.items L S1)) X (i L S) := wS_ofE _ _ _ _ _ _
theorem w_aug {i : Nat} {f : O} {e : E} : wS N T X (sAug i f e L S) = (match L[i]? with | some (some x) => wR (fun y S1 => wR (fun z S2 => N (L.set i (some z)) S2) X (f x y S1)) X (e L S) | _ => False) := by
  unfold sAug
  cases h : L[i]? with
  | none => rfl
  | some o => cases o with
    | none => rfl
    | some v => 
      simp only [wS_ofE]
      exact wR_q fun _ _ => (wS_ofE _ _ _ _ _ _)
theorem w_augS {a k e : E} {f : O} : wS N T X (sAugS a k f e L S) = wR (fun o S1 => wR (fun q S2 => wR (fun x S3 => wR (fun y S4 => wR (fun z S5 => wS N T X (match setItem o q z S5 with | some S6 => .nx L S6 | none => .bad)) X (f x y S4)) X (e L S3)) X (oSub2 o q S2)) X (k L S1)) X (a L S) := by
  unfold sAugS
  rw [wS_ofE]
  refine wR_q fun _ _ => ?_
  rw [wS_ofE]
  refine wR_q fun _ _ => ?_
  rw [wS_ofE]
  refine wR_q fun _ _ => ?_
  rw [wS_ofE]
  exact wR_q fun _ _ => wS_ofE _ _ _ _ _ _
/-! ### expressions -/
theorem w_c {v : Val} : wR Q X (eC v L S) = Q v S := id rfl
theorem w_bin {f : O} {a b : E} : wR Q X (eBin f a b L S) = wR (fun x S1 => wR (fun y S2 => wR Q X (f x y S2)) X (b L S1)) X (a L S) := by
  unfold eBin
  rw [wR_bind]; exact wR_q fun _ _ => wR_bind _ _ _ _
theorem w_un {f : Val → Store → R Val} {a : E} : wR Q X (eUn f a L S) = wR (fun x S1 => wR Q X (f x S1)) X (a L S) := wR_bind _ _ _ _
theorem w_chain {f g : O} {a b c : E} : wR Q X (eChain f g a b c L S) = wR (fun x S1 => wR (fun y S2 => wR (fun z S3 => wR Q X (match z with
  | .bl true => (c L S3).bind fun w S4 => g y w S4
  | .bl false => .ok (.bl false) S3
  | _ => .bad)) X (f x y S2)) X (b L S1)) X (a L S) := by
  unfold eChain
  rw [wR_bind]
  refine wR_q fun _ _ => ?_
  rw [wR_bind]
  exact wR_q fun _ _ => wR_bind _ _ _ _
theorem w_chainB {k : Bool} {A B : R Val} : wR Q X (match Val.bl k with
  | .bl true => A
  | .bl false => B
  | _ => .bad) = wR Q X (if k = true then A else B) := by cases k <;> rfl
theorem w_and {a b : E} : wR Q X (eAnd a b L S) = wR (fun x S1 => wR Q X (match x with | .bl true => b L S1 | .bl false => .ok (.bl false) S1 | _ => .bad)) X (a L S) := wR_bind _ _ _ _
theorem w_or {a b : E} : wR Q X (eOr a b L S) = wR (fun x S1 => wR Q X (match x with | .bl true => .ok (.bl true) S1 | .bl false => b L S1 | _ => .bad)) X (a L S) := wR_bind _ _ _ _
theorem w_not {a : E} : wR Q X (eNot a L S) = wR (fun x S1 => wR Q X (match x with | .bl c => .ok (.bl (!c)) S1 | _ => .bad)) X (a L S) := wR_bind _ _ _ _
theorem w_of {a : E} : wR QB X (tOf a L S) = wR (fun x S1 => wR QB X (match x with | .bl c => .ok c S1 | _ => .bad)) X (a L S) := wR_bind _ _ _ _
theorem w_tand {a b : Gx.T} : wR QB X (tAnd a b L S) = wR (fun x S1 => wR QB X (if x = true then b L S1 else .ok false S1)) X (a L S) := wR_bind _ _ _ _
theorem w_tor {a b : Gx.T} : wR QB X (tOr a b L S) = wR (fun x S1 => wR QB X (if x = true then .ok true S1 else b L S1)) X (a L S) := wR_bind _ _ _ _
theorem w_tnot {a : Gx.T} : wR QB X (tNot a L S) = wR (fun x S1 => QB (!x) S1) X (a L S) := by unfold tNot; rw [wR_bind]; rfl
theorem w_tyes : wR QB X (tYes L S) = QB true S := id rfl
theorem w_eif {c : Gx.T} {a b : E} : wR Q X (eIf c a b L S) = wR (fun k S1 => wR Q X (if k = true then a L S1 else b L S1)) X (c L S) := wR_bind _ _ _ _
theorem w_call {f : F} {a : A} : wR Q X (eCall f a L S) = wR (fun xs S1 => wR Q X (f xs S1)) X (a L S) := wR_bind _ _ _ _
theorem w_attr {f : Str} {a : E} : wR Q X (eAttr f a L S) = wR (fun x S1 => wR Q X (match objOf S1 x with
  | some (_, fs) => match fs.lookup f with | some v => .ok v S1 | none => .bad
  | none => .bad)) X (a L S) := wR_bind _ _ _ _
theorem w_fld {Cs : List Addr} {f : Str} {a : E} : wR Q X (eFld Cs f a L S) = wR (fun x S1 => wR Q X (match objOf S1 x with
  | some (C, fs) => if C ∈ Cs then match fs.lookup f with | some v => .ok v S1 | none => .bad else .bad
  | none => .bad)) X (a L S) := wR_bind _ _ _ _
theorem w_bm {m : MV} {o : E} {a : A} : wR Q X (eBm m o a L S) = wR (fun x S1 => wR (fun xs S2 => wR Q X (m x xs S2)) X (a L S1)) X (o L S) := by unfold eBm; rw [wR_bind]; exact wR_q fun _ _ => wR_bind _ _ _ _
theorem w_bmL {m : MV} {o : E} {a : A} : wR Q X (eBmL m o a L S) = wR (fun x S1 => wR Q X (match seqOf S1 x with
  | some (true, _) => (a L S1).bind fun xs S2 => m x xs S2
  | _ => .bad)) X (o L S) := wR_bind _ _ _ _
/-! ### arguments, displays -/
theorem w_anil : wR QA X (aNil L S) = QA [] S := id rfl
theorem w_acons {e : E} {r : A} : wR QA X (aCons e r L S) = wR (fun x S1 => wR (fun xs S2 => QA (x :: xs) S2) X (r L S1)) X (e L S) := by
  unfold aCons
  rw [wR_bind]; exact wR_q fun _ _ => wR_bind _ _ _ _
theorem w_astar {e : E} {r : A} : wR QA X (aStar e r L S) = wR (fun x S1 => wR QA X (match seqOf S1 x with | some (_, xs) => (r L S1).bind fun ys S2 => .ok (xs ++ ys) S2 | none => .bad)) X (e L S) := wR_bind _ _ _ _
theorem w_app0 {a : A} : wR QA X (aApp a [] L S) = wR QA X (a L S) := by
  unfold aApp
  rw [wR_bind]; exact wR_q fun xs S1 => by show QA (xs ++ []) S1 = _; rw [List.append_nil]
theorem w_kw {a : A} {n : Nat} {ix : List Nat} : wR QA X (aKw a n ix L S) = wR (fun xs S1 => wR QA X (if xs.length = n then (match ix.mapM (xs[·]?) with
  | some ys => .ok ys S1
  | none => .bad) else .bad)) X (a L S) := wR_bind _ _ _ _
theorem w_tup {a : A} : wR Q X (eTup a L S) = wR (fun xs S1 => xs.length ≤ sizeLine ∧ Q (.tup xs) S1) X (a L S) := by
  unfold eTup
  rw [wR_bind]
  congr; funext xs S1
  by_cases h : xs.length ≤ sizeLine
  · rw [if_pos h]; simp [h, wR]
  · rw [if_neg h]; simp [h, wR]
theorem w_flst {a : A} : wR QA X (fLst a L S) = wR (fun xs S1 => xs.length ≤ sizeLine ∧ QA xs S1) X (a L S) := by
  unfold fLst
  rw [wR_bind]
  congr; funext xs S1
  by_cases h : xs.length ≤ sizeLine
  · rw [if_pos h]; simp [h, wR]
  · rw [if_neg h]; simp [h, wR]
theorem w_fr {f : A} : wR Q X (eFr f L S) = wR (fun xs S1 => Q (.lst xs) S1) X (f L S) := by unfold eFr; rw [wR_bind]; rfl
theorem w_mk {f : A} : wR Q X (eMk f L S) = wR (fun xs S1 => Q (.ref S1.length) (S1 ++ [.lst xs])) X (f L S) := by unfold eMk; rw [wR_bind]; rfl
theorem w_flist {e : E} : wR QA X (fList e L S) = wR (fun x S1 => wR QA X (match seqOf S1 x with | some (_, ys) => .ok ys S1 | none => .bad)) X (e L S) := wR_bind _ _ _ _
theorem w_frev {e : E} : wR QA X (fRev e L S) = wR (fun x S1 => wR QA X (match seqOf S1 x with | some (true, xs) => .ok xs.reverse S1 | _ => .bad)) X (e L S) := wR_bind _ _ _ _
theorem w_fcat {a b : E} : wR QA X (fCat a b L S) = wR (fun x S1 => wR (fun y S2 => wR QA X (match lstOf S2 x, lstOf S2 y with
  | some xs, some ys => if xs.length + ys.length ≤ sizeLine then .ok (xs ++ ys) S2 else .bad
  | _, _ => .bad)) X (b L S1)) X (a L S) := by unfold fCat; rw [wR_bind]; exact wR_q fun _ _ => wR_bind _ _ _ _
theorem w_frep {a b : E} : wR QA X (fRep a b L S) = wR (fun x S1 => wR (fun y S2 => wR QA X (match lstOf S2 x, y with
  | some xs, .int k => if -(2 ^ 63) ≤ k ∧ k < 2 ^ 63 ∧ xs.length * k.toNat ≤ sizeLine then .ok (List.replicate k.toNat xs).flatten S2 else .bad
  | _, _ => .bad)) X (b L S1)) X (a L S) := by unfold fRep; rw [wR_bind]; exact wR_q fun _ _ => wR_bind _ _ _ _
theorem w_part0 {QO : Option Int → Store → Prop} : wR QO X (partE none L S) = QO none S := id rfl
theorem w_part {e : E} {QO : Option Int → Store → Prop} : wR QO X (partE (some e) L S) = wR (fun v S1 => wR QO X (match v with | .int i => .ok (some i) S1 | _ => .bad)) X (e L S) := wR_bind _ _ _ _
theorem w_slice {a : E} {lo hi : Option E} : wR Q X (eSlice a lo hi L S) = wR (fun x S1 => wR (fun l S2 => wR (fun h S3 => wR Q X (match x with
  | .str z => if z.length ≤ sizeLine then .ok (.str (L2.cutS z l h)) S3 else .bad
  | .tup xs => .ok (.tup (cutL xs l h)) S3
  | x => match seqOf S3 x with
    | some (true, xs) => .ok (.lst (cutL xs l h)) S3
    | _ => .bad)) X (partE hi L S2)) X (partE lo L S1)) X (a L S) := by
  unfold eSlice
  rw [wR_bind]
  refine wR_q fun _ _ => ?_
  rw [wR_bind]
  exact wR_q fun _ _ => wR_bind _ _ _ _
theorem w_fslice {a : E} {lo hi : Option E} : wR QA X (fSlice a lo hi L S) = wR (fun x S1 => wR (fun l S2 => wR (fun h S3 => wR QA X (match seqOf S3 x with
    | some (true, xs) => .ok (cutL xs l h) S3
    | _ => .bad)) X (partE hi L S2)) X (partE lo L S1)) X (a L S) := by
  unfold fSlice
  rw [wR_bind]
  refine wR_q fun _ _ => ?_
  rw [wR_bind]
  exact wR_q fun _ _ => wR_bind _ _ _ _
theorem w_revT {d : E} : wR Q X (eRevT d L S) = wR (fun v S1 => wR Q X (match v with | .tup xs => .ok (.tup xs.reverse) S1 | _ => .bad)) X (d L S) := wR_bind _ _ _ _
theorem w_dict0 {m : Bool} : wR Q X (eDict0 m L S) = if m = true then Q (.ref S.length) (S ++ [.dct []]) else Q (.dct []) S := by cases m <;> rfl
theorem wR_calm {α : Type} {Q : α → Store → Prop} {r : R α} : wR Q X (calm r) = wR Q (fun _ _ => False) r := by cases r <;> rfl
theorem w_dict {m : Bool} {p : P} : wR Q X (eDict m p L S) = wR (fun ps S1 => wR Q X (match keysOf ps with
  | some kvs => if kvs.length ≤ 15 then (if m then .ok (.ref S1.length) (S1 ++ [.dct (mergeV [] kvs)]) else .ok (.dct (mergeV [] kvs)) S1) else .bad
  | none => .bad)) (fun _ _ => False) (p L S) := by
  unfold eDict
  rw [wR_bind, wR_calm]
  all_goals (cases p L S <;> rfl)
theorem w_pnil {QP : List (Val × Val) → Store → Prop} : wR QP X (pNil L S) = QP [] S := id rfl
theorem w_pcons {QP : List (Val × Val) → Store → Prop} {k v : E} {r : P} : wR QP X (pCons k v r L S) = wR (fun x S1 => wR (fun y S2 => wR (fun ps S3 => QP ((x, y) :: ps) S3) X (r L S2)) X (v L S1)) X (k L S) := by
  unfold pCons
  rw [wR_bind]
  refine wR_q fun _ _ => ?_
  rw [wR_bind]
  exact wR_q fun _ _ => wR_bind _ _ _ _
/-! ### what is walked -/
theorem w_ival {e : E} : wR QI X (iVal e L S) = wR (fun v S1 => wR QI X (match itOf S1 v with | some s => .ok s S1 | none => .bad)) X (e L S) := wR_bind _ _ _ _
theorem w_range1 {e : E} : wR QI X (iRange1 e L S) = wR (fun v S1 => wR QI X (match v with
  | .int j => if -(2 ^ 62) ≤ j ∧ j < 2 ^ 62 then .ok ⟨[], rangeV 0 j.toNat⟩ S1 else .bad
  | _ => .bad)) X (e L S) := wR_bind _ _ _ _
theorem w_range1i {j : Int} : wR QI X (match (Val.int j) with
  | .int j => if -(2 ^ 62) ≤ j ∧ j < 2 ^ 62 then .ok ⟨[], rangeV 0 j.toNat⟩ S else .bad
  | _ => .bad) = ((-4611686018427387904 ≤ j ∧ j < 4611686018427387904) ∧ QI ⟨[], rangeV 0 j.toNat⟩ S) := by
  by_cases h : -(2 ^ 62) ≤ j ∧ j < 2 ^ 62
  · simp only [if_pos h, wR_ok]
    have h' : (-4611686018427387904 ≤ j ∧ j < 4611686018427387904) := h
    simp [h']
  · simp only [if_neg h]
    have h' : ¬ (-4611686018427387904 ≤ j ∧ j < 4611686018427387904) := h
    simp [h', wR]
theorem w_range2 {a b : E} : wR QI X (iRange2 a b L S) = wR (fun v S1 => wR (fun w S2 => wR QI X (match v, w with
  | .int i, .int j => if -(2 ^ 62) ≤ i ∧ i < 2 ^ 62 ∧ -(2 ^ 62) ≤ j ∧ j < 2 ^ 62 then .ok ⟨[], rangeV i (j - i).toNat⟩ S2 else .bad
  | _, _ => .bad)) X (b L S1)) X (a L S) := by unfold iRange2; rw [wR_bind]; exact wR_q fun _ _ => wR_bind _ _ _ _
theorem w_range2i {i j : Int} : wR QI X (match (Val.int i), (Val.int j) with
  | .int i, .int j => if -(2 ^ 62) ≤ i ∧ i < 2 ^ 62 ∧ -(2 ^ 62) ≤ j ∧ j < 2 ^ 62 then .ok ⟨[], rangeV i (j - i).toNat⟩ S else .bad
  | _, _ => .bad) = ((-4611686018427387904 ≤ i ∧ i < 4611686018427387904 ∧ -4611686018427387904 ≤ j ∧ j < 4611686018427387904) ∧ QI ⟨[], rangeV i (j - i).toNat⟩ S) := by
  by_cases h : -(2 ^ 62) ≤ i ∧ i < 2 ^ 62 ∧ -(2 ^ 62) ≤ j ∧ j < 2 ^ 62
  · simp only [if_pos h, wR_ok]
    have h' : (-4611686018427387904 ≤ i ∧ i < 4611686018427387904 ∧ -4611686018427387904 ≤ j ∧ j < 4611686018427387904) := h
    simp [h']
  · simp only [if_neg h]
    have h' : ¬ (-4611686018427387904 ≤ i ∧ i < 4611686018427387904 ∧ -4611686018427387904 ≤ j ∧ j < 4611686018427387904) := h
    simp [h', wR]
theorem w_enum {e : E} : wR QI X (iEnum e L S) = wR (fun s S1 => QI ⟨s.stay, enumV 0 s.items⟩ S1) X (iVal e L S) := by unfold iEnum; rw [wR_bind]; rfl
theorem w_zip {a b : E} : wR QI X (iZip a b L S) = wR (fun v S1 => wR (fun w S2 => wR QI X (match itOf S2 v, itOf S2 w with
  | some s, some t => .ok ⟨s.stay ++ t.stay, zipV s.items t.items⟩ S2
  | _, _ => .bad)) X (b L S1)) X (a L S) := by unfold iZip; rw [wR_bind]; exact wR_q fun _ _ => wR_bind _ _ _ _
theorem w_inew {a : A} : wR QI X (iNew a L S) = wR (fun xs S1 => QI ⟨[], xs⟩ S1) X (a L S) := by unfold iNew; rw [wR_bind]; rfl
theorem w_comp {own : List Nat} {i : I} {g : G} {c : Gx.T} {e : E} : wR QA X (fComp own i g c e L S) = wR (fun s S1 => wR (fun xs S2 => xs.length ≤ sizeLine ∧ QA xs S2) X (calm (compGo s.ok g c e (wipeL L own) s.items S1))) X (i L S) := by
  unfold fComp
  rw [wR_bind]
  congr; funext s S1
  rw [wR_bind]
  congr; funext xs S2
  by_cases h : xs.length ≤ sizeLine
  · rw [if_pos h]; simp [h, wR]
  · rw [if_neg h]; simp [h, wR]
/-! ### cells of one's own -/
theorem dg0 {d c : Nat} {Y : Dx} {S T : Store} {a : Cell} (h : In d c S) : (Dk d c Y (S ++ (a :: T)))[S.length]? = some a := by
  rw [Dk_get (by have := h.d; omega) (by have := h.c; omega)]; simp
theorem dg1 {d c : Nat} {Y : Dx} {S T : Store} {a b : Cell} (h : In d c S) : (Dk d c Y (S ++ (a :: b :: T)))[S.length + 1]? = some b := by
  rw [Dk_get (by have := h.d; omega) (by have := h.c; omega)]; simp
theorem sg0 {S T : Store} {a : Cell} : (S ++ (a :: T))[S.length]? = some a := by simp
theorem sg1 {S T : Store} {a b : Cell} : (S ++ (a :: b :: T))[S.length + 1]? = some b := by simp
theorem ss0 {S T : Store} {a x : Cell} : (S ++ (a :: T)).set S.length x = S ++ (x :: T) := by
  rw [List.set_append_right _ _ (Nat.le_refl _)]; simp
theorem ss1 {S T : Store} {a b x : Cell} : (S ++ (a :: b :: T)).set (S.length + 1) x = S ++ (a :: x :: T) := by
  rw [List.set_append_right _ _ (by omega)]; simp
theorem ds0 {d c : Nat} {Y : Dx} {S T : Store} {a x : Cell} (h : In d c S) : (Dk d c Y (S ++ (a :: T))).set S.length x = Dk d c Y (S ++ (x :: T)) := by
  rw [Dk_set (by have := h.d; omega) (by have := h.c; omega), ss0]
theorem ds1 {d c : Nat} {Y : Dx} {S T : Store} {a b x : Cell} (h : In d c S) : (Dk d c Y (S ++ (a :: b :: T))).set (S.length + 1) x = Dk d c Y (S ++ (a :: x :: T)) := by
  rw [Dk_set (by have := h.d; omega) (by have := h.c; omega), ss1]
/-! ### operators -/
theorem atI_some {xs : List Val} {r : Int} (h0 : 0 ≤ r) (h1 : r < xs.length) : ∃ v, v ∈ xs ∧ L2.atI xs r = some v := by
  have hr : r.toNat < xs.length := by omega
  refine ⟨xs[r.toNat], List.getElem_mem hr, ?_⟩
  unfold L2.atI L2.ixN
  rw [if_pos h0]
  simp [h1, hr]
theorem o_idxT {xs : List Val} {r : Int} (h0 : 0 ≤ r) (h1 : r < xs.length) (h : ∀ v, v ∈ xs → L2.atI xs r = some v → Q v S) : wR Q X (oIdx (.tup xs) (.int r) S) := by
  obtain ⟨v, hv, e⟩ := atI_some h0 h1
  refine wR_eq (a := v) (S := S) ?_ (h v hv e)
  simp only [oIdx, seqOf, e]
theorem o_idxL {xs : List Val} {r : Int} (h0 : 0 ≤ r) (h1 : r < xs.length) (h : ∀ v, v ∈ xs → L2.atI xs r = some v → Q v S) : wR Q X (oIdx (.lst xs) (.int r) S) := by
  obtain ⟨v, hv, e⟩ := atI_some h0 h1
  refine wR_eq (a := v) (S := S) ?_ (h v hv e)
  simp only [oIdx, seqOf, e]
theorem atI_0 {x : Val} {xs : List Val} : L2.atI (x :: xs) 0 = some x := by
  unfold L2.atI L2.ixN
  simp
theorem atI_1 {x y : Val} {xs : List Val} : L2.atI (x :: y :: xs) 1 = some y := by
  unfold L2.atI L2.ixN
  have h : (1 : Int) < ((x :: y :: xs).length : Nat) := by simp; omega
  rw [if_pos (by decide), if_pos h]
  rfl
theorem atI_2 {x y z : Val} {xs : List Val} : L2.atI (x :: y :: z :: xs) 2 = some z := by
  unfold L2.atI L2.ixN
  have h : (2 : Int) < ((x :: y :: z :: xs).length : Nat) := by simp; omega
  rw [if_pos (by decide), if_pos h]
  rfl
theorem atI_3 {x y z u : Val} {xs : List Val} : L2.atI (x :: y :: z :: u :: xs) 3 = some u := by
  unfold L2.atI L2.ixN
  have h : (3 : Int) < ((x :: y :: z :: u :: xs).length : Nat) := by simp; omega
  rw [if_pos (by decide), if_pos h]
  rfl
theorem o_sub2T {xs : List Val} {y : Val} : oSub2 (.tup xs) y S = oIdx (.tup xs) y S := id rfl
theorem o_sub2L {xs : List Val} {y : Val} : oSub2 (.lst xs) y S = oIdx (.lst xs) y S := id rfl
theorem o_sub2F {xs : List Val} {y : Val} : oSub2 (.frz xs) y S = oIdx (.frz xs) y S := id rfl
theorem o_sub2S {xs : Str} {y : Val} : oSub2 (.str xs) y S = oIdx (.str xs) y S := id rfl
theorem o_sub2D {kvs : List (L2.Key × Val)} {y : Val} : oSub2 (.dct kvs) y S = (match Gx.keyOf y with | some k => (match getV kvs k with | some v => R.ok v S | none => R.bad) | none => R.bad) := by
  show oGet (.dct kvs) y S = _
  unfold oGet
  simp only [dctOf]
  cases Gx.keyOf y <;> rfl
theorem o_sub2R {n : Nat} {y : Val} : oSub2 (.ref n) y S = (match S[n]? with
    | some (.dct kvs) => (match Gx.keyOf y with | some k => (match getV kvs k with | some v => R.ok v S | none => R.bad) | none => R.bad)
    | _ => oIdx (.ref n) y S) := by
  unfold oSub2 oGet dctOf
  cases h : S[n]? with
  | none => simp only [h]
  | some c =>
    cases c with
    | dct kvs =>
      simp only [h]
      cases Gx.keyOf y <;> rfl
    | _ => simp only [h]
theorem idxT {xs : List Val} {i : Int} : oIdx (.tup xs) (.int i) S = (match L2.atI xs i with | some v => R.ok v S | none => R.bad) := id rfl
theorem idxL {xs : List Val} {i : Int} : oIdx (.lst xs) (.int i) S = (match L2.atI xs i with | some v => R.ok v S | none => R.bad) := id rfl
theorem idxT0 {x : Val} {xs : List Val} : oIdx (.tup (x :: xs)) (.int 0) S = .ok x S := by rw [idxT, atI_0]
theorem idxT1 {x y : Val} {xs : List Val} : oIdx (.tup (x :: y :: xs)) (.int 1) S = .ok y S := by rw [idxT, atI_1]
theorem idxT2 {x y z : Val} {xs : List Val} : oIdx (.tup (x :: y :: z :: xs)) (.int 2) S = .ok z S := by rw [idxT, atI_2]
theorem idxT3 {x y z u : Val} {xs : List Val} : oIdx (.tup (x :: y :: z :: u :: xs)) (.int 3) S = .ok u S := by rw [idxT, atI_3]
theorem idxL0 {x : Val} {xs : List Val} : oIdx (.lst (x :: xs)) (.int 0) S = .ok x S := by rw [idxL, atI_0]
theorem idxR {n : Nat} {i : Int} : oIdx (.ref n) (.int i) S = (match S[n]? with | some (.lst xs) => (match L2.atI xs i with | some v => R.ok v S | none => R.bad) | _ => R.bad) := by
  show (match seqOf S (.ref n) with | some (_, xs) => (match L2.atI xs i with | some v => R.ok v S | none => R.bad) | none => R.bad) = _
  unfold seqOf
  cases h : S[n]? with
  | none => simp only [h]
  | some c => cases c <;> simp only [h]
theorem o_add {i j : Int} : wR Q X (oAdd (.int i) (.int j) S) = Q (.int (i + j)) S := id rfl
theorem o_sub {i j : Int} : wR Q X (oSub (.int i) (.int j) S) = Q (.int (i - j)) S := id rfl
theorem o_neg {i : Int} : wR Q X (oNeg (.int i) S) = Q (.int (-i)) S := id rfl
theorem o_addT {xs ys : List Val} : wR Q X (oAdd (.tup xs) (.tup ys) S) = (xs.length + ys.length ≤ sizeLine ∧ Q (.tup (xs ++ ys)) S) := by
  show wR Q X (if xs.length + ys.length ≤ sizeLine then _ else _) = _
  by_cases h : xs.length + ys.length ≤ sizeLine
  · rw [if_pos h]; simp [h, wR]
  · rw [if_neg h]; simp [h, wR]
theorem o_addS {x y : Str} : wR Q X (oAdd (.str x) (.str y) S) = (x.length + y.length ≤ sizeLine ∧ Q (.str (x ++ y)) S) := by
  show wR Q X (if x.length + y.length ≤ sizeLine then _ else _) = _
  by_cases h : x.length + y.length ≤ sizeLine
  · rw [if_pos h]; simp [h, wR]
  · rw [if_neg h]; simp [h, wR]
theorem o_cmp {p : Int → Int → Bool} {i j : Int} : wR Q X (oCmp p (.int i) (.int j) S) = Q (.bl (p i j)) S := id rfl
theorem o_eq {x y : Val} : wR Q X (oEq x y S) = wR Q X (match pyEq S x y with | some b => .ok (.bl b) S | none => .bad) := id rfl
theorem o_ne {x y : Val} : wR Q X (oNe x y S) = wR Q X (match pyEq S x y with | some b => .ok (.bl (!b)) S | none => .bad) := id rfl
theorem eq_int {i j : Int} : pyEq S (.int i) (.int j) = some (decide (i = j)) := id rfl
theorem eq_bl {i j : Bool} : pyEq S (.bl i) (.bl j) = some (decide (i = j)) := id rfl
theorem eq_str {i j : Str} : pyEq S (.str i) (.str j) = some (decide (i = j)) := id rfl
theorem eq_tup0 {xs : List Val} : pyEq S (.tup xs) (.tup []) = some xs.isEmpty := id rfl
theorem eq_lst0 {xs : List Val} : pyEq S (.lst xs) (.lst []) = some xs.isEmpty := id rfl
theorem eq_ref0 {n : Nat} : pyEq S (.ref n) (.lst []) = match S[n]? with | some (.lst xs) => some xs.isEmpty | _ => none := id rfl
theorem b_int {i : Int} : wR Q X (bInt [.int i] S) = Q (.int i) S := id rfl
theorem b_intB {b : Bool} : wR Q X (bInt [.bl b] S) = Q (.int (if b = true then 1 else 0)) S := id rfl
end
/-! ### slices -/
theorem cut_to {α : Type} (xs : List α) (k : Nat) : cutL xs none (some (k : Int)) = xs.take k := by
  unfold cutL
  rw [HT.sIx_none, HT.sIx_nat, List.drop_zero, Nat.sub_zero]
  by_cases h : k ≤ xs.length
  · rw [Nat.min_eq_left h]
  · rw [Nat.min_eq_right (by omega), List.take_of_length_le (Nat.le_refl _), List.take_of_length_le (by omega)]
theorem cut_from {α : Type} (xs : List α) (k : Nat) : cutL xs (some (k : Int)) none = xs.drop k := by
  unfold cutL
  rw [HT.sIx_none, HT.sIx_nat]
  by_cases h : k ≤ xs.length
  · rw [Nat.min_eq_left h, List.take_of_length_le (by simp)]
  · rw [Nat.min_eq_right (by omega), List.drop_of_length_le (Nat.le_refl _), List.drop_of_length_le (by omega)]; simp
theorem cut_mid {α : Type} (xs : List α) (j k : Nat) : cutL xs (some (j : Int)) (some (k : Int)) = (xs.take k).drop j := by
  unfold cutL
  rw [HT.sIx_nat, HT.sIx_nat, List.drop_take]
  by_cases h : j ≤ xs.length
  · rw [Nat.min_eq_left h]
    by_cases h2 : k ≤ xs.length
    · rw [Nat.min_eq_left h2]
    · rw [Nat.min_eq_right (by omega), List.take_of_length_le (by simp), List.take_of_length_le (by simp; omega)]
  · rw [Nat.min_eq_right (by omega : xs.length ≤ j), List.drop_of_length_le (Nat.le_refl _), List.drop_of_length_le (by omega : xs.length ≤ j)]; simp
end Gx
end
section
set_option linter.all false
set_option autoImplicit false
/-! Gx: plain data, and runs that leave the store as it is. -/
namespace Gx
open PySem L2
theorem ok_of_w {α : Type} {r : R α} {a : α} {S : Store} (h : wR (fun v S' => Hold (v = a ∧ S' = S) ⟨⟩) (fun _ _ => False) r) : r = .ok a S := by
  obtain ⟨v, S', e, q⟩ := wR_ok_of h
  obtain ⟨rfl, rfl⟩ := held q
  exact e
theorem comp_pure {stay : Store → Bool} {g : G} {c : T} {e : E} {L : Loc} {S : Store} (Lx : Val → Loc) (p : Val → Bool) (f : Val → Val) : ∀ {xs : List Val}, stay S = true → (∀ x ∈ xs, g x L S = .nx (Lx x) S) → (∀ x ∈ xs, c (Lx x) S = .ok (p x) S) → (∀ x ∈ xs, p x = true → e (Lx x) S = .ok (f x) S) →
    compGo stay g c e L xs S = .ok ((xs.filter p).map f) S
  | [], hs, _, _, _ => by unfold compGo; rw [if_pos hs]; rfl
  | x :: xs, hs, h1, h2, h3 => by
    have ih := comp_pure (stay := stay) (g := g) (c := c) (e := e) (L := L) (S := S) Lx p f (xs := xs) hs (fun y hy => h1 y (List.mem_cons_of_mem _ hy)) (fun y hy => h2 y (List.mem_cons_of_mem _ hy)) (fun y hy => h3 y (List.mem_cons_of_mem _ hy))
    unfold compGo
    rw [if_pos hs, h1 x List.mem_cons_self]
    simp only [h2 x List.mem_cons_self, R.bind_ok]
    cases hp : p x with
    | true => simp only [if_true, h3 x List.mem_cons_self hp, R.bind_ok, ih, List.filter_cons, hp, List.map_cons]
    | false => simp only [Bool.false_eq_true, if_false, ih, List.filter_cons, hp]
/-! plain data, all of it there -/
mutual
def dtv : Val → Bool
  | .non => true
  | .bl _ => true
  | .int _ => true
  | .str _ => true
  | .tup xs => decide (xs.length ≤ 16777216) && dtvs xs
  | .lst xs => decide (xs.length ≤ 16777216) && dtvs xs
  | .frz xs => decide (xs.length ≤ 16777216) && dtvs xs
  | .dct kvs => dtvK kvs
  | _ => false
def dtvs : List Val → Bool
  | [] => true
  | x :: xs => dtv x && dtvs xs
def dtvK : List (L2.Key × Val) → Bool
  | [] => true
  | (_, x) :: xs => dtv x && dtvK xs
end
theorem dtvs_iff : ∀ {xs : List Val}, dtvs xs = true ↔ ∀ v ∈ xs, dtv v = true
  | [] => by simp [dtvs]
  | x :: xs => by simp [dtvs, dtvs_iff (xs := xs)]
mutual
theorem dt_tree : ∀ v : Val, dtv v = true → tree v = true
  | .non, _ => rfl
  | .bl _, _ => rfl
  | .int _, _ => rfl
  | .str _, _ => rfl
  | .tup xs, h => by simp only [tree]; exact dt_trees xs (by simp only [dtv, Bool.and_eq_true] at h; exact h.2)
  | .lst xs, h => by simp only [tree]; exact dt_trees xs (by simp only [dtv, Bool.and_eq_true] at h; exact h.2)
  | .frz xs, h => by simp only [tree]; exact dt_trees xs (by simp only [dtv, Bool.and_eq_true] at h; exact h.2)
  | .dct xs, h => by simp only [tree]; exact dt_treeK xs (by simpa [dtv] using h)
theorem dt_trees : ∀ v : List Val, dtvs v = true → trees v = true
  | [], _ => rfl
  | x :: xs, h => by
    simp only [dtvs, Bool.and_eq_true] at h
    simp only [trees, dt_tree x h.1, dt_trees xs h.2, Bool.and_self]
theorem dt_treeK : ∀ v : List (L2.Key × Val), dtvK v = true → treeK v = true
  | [], _ => rfl
  | (k, x) :: xs, h => by
    simp only [dtvK, Bool.and_eq_true] at h
    simp only [treeK, dt_tree x h.1, dt_treeK xs h.2, Bool.and_self]
end
def isTup : Val → Bool | .tup _ => true | _ => false
def isInt : Val → Bool | .int _ => true | .bl _ => true | _ => false
def isBool : Val → Bool | .bl _ => true | _ => false
def isStr : Val → Bool | .str _ => true | _ => false
theorem isi_tup {v : Val} {S : Store} {Cs : List Addr} (h : dtv v = true) : bIsi Cs [v, .ty "tuple"] S = .ok (.bl (isTup v)) S := by
  cases v <;> first | rfl | cases h
theorem isi_int {v : Val} {S : Store} {Cs : List Addr} (h : dtv v = true) : bIsi Cs [v, .ty "int"] S = .ok (.bl (isInt v)) S := by
  cases v <;> first | rfl | cases h
theorem isi_bool {v : Val} {S : Store} {Cs : List Addr} (h : dtv v = true) : bIsi Cs [v, .ty "bool"] S = .ok (.bl (isBool v)) S := by
  cases v <;> first | rfl | cases h
theorem isi_str {v : Val} {S : Store} {Cs : List Addr} (h : dtv v = true) : bIsi Cs [v, .ty "str"] S = .ok (.bl (isStr v)) S := by
  cases v <;> first | rfl | cases h
/-- an integer that is no bool, from lo on -/
def intB (lo : Int) : Val → Bool | .int i => decide (lo ≤ i) | _ => false
theorem wR_tt {α : Type} {c : Bool} {a b : R α} {Q : α → Store → Prop} {X : Exc → Store → Prop} (hc : c = true) (h : wR Q X a) : wR Q X (if c = true then a else b) := by rw [if_pos hc]; exact h
theorem wR_comp_pure {stay : Store → Bool} {g : G} {c : T} {e : E} {L : Loc} {S : Store} {xs : List Val} {Q : List Val → Store → Prop} {X : Exc → Store → Prop} (Lx : Val → Loc) (p : Val → Bool) (f : Val → Val) (hs : stay S = true) (hg : ∀ x ∈ xs, g x L S = .nx (Lx x) S) (hc : ∀ x ∈ xs, c (Lx x) S = .ok (p x) S) (he : ∀ x ∈ xs, p x = true → e (Lx x) S = .ok (f x) S)
    (h : Q ((xs.filter p).map f) S) : wR Q X (calm (compGo stay g c e L xs S)) := by
  rw [comp_pure Lx p f hs hg hc he]; exact h
theorem wR_comp_map {stay : Store → Bool} {g : G} {e : E} {L : Loc} {S : Store} {xs : List Val} {Q : List Val → Store → Prop} {X : Exc → Store → Prop} (Lx : Val → Loc) (f : Val → Val) (hs : stay S = true) (hg : ∀ x ∈ xs, g x L S = .nx (Lx x) S) (he : ∀ x ∈ xs, e (Lx x) S = .ok (f x) S)
    (h : Q (xs.map f) S) : wR Q X (calm (compGo stay g tYes e L xs S)) :=
  wR_comp_pure Lx (fun _ => true) f hs hg (fun _ _ => rfl) (fun x hx _ => he x hx) (by rw [List.filter_eq_self.mpr (fun _ _ => rfl)]; exact h)
theorem bools_map {α : Type} (f : α → Bool) : ∀ xs : List α, boolsOf (xs.map fun x => Val.bl (f x)) = some (xs.map f)
  | [] => rfl
  | x :: xs => by simp only [List.map_cons, boolsOf, bools_map f xs, Option.map_some]
theorem all_map {α : Type} {f : α → Bool} {xs : List α} {S : Store} : ofList allV [.lst (xs.map fun x => Val.bl (f x))] S = .ok (.bl (xs.all f)) S := by
  simp only [ofList, seqOf, allV, bools_map, Option.map_some]
  simp [List.all_map, Function.comp_def]
theorem any_map {α : Type} {f : α → Bool} {xs : List α} {S : Store} : ofList anyV [.lst (xs.map fun x => Val.bl (f x))] S = .ok (.bl (xs.any f)) S := by
  simp only [ofList, seqOf, anyV, bools_map, Option.map_some]
  simp [List.any_map, Function.comp_def]
theorem cut_1 {xs : List Val} : cutL xs (some 1) none = xs.drop 1 := cut_from xs 1
theorem g2_set {i j : Nat} {a b : Val} {L : Loc} {S : Store} : gTup 2 (gCons (gName i) (gCons (gName j) gNil)) (.tup [a, b]) L S = .nx ((L.set i (some a)).set j (some b)) S := rfl
def Lx2 (i j : Nat) (L : Loc) : Val → Loc
  | .tup [a, b] => (L.set i (some a)).set j (some b)
  | _ => L
theorem zip_mem {xs ys : List Val} {v : Val} (h : v ∈ zipV xs ys) : ∃ a b, v = .tup [a, b] ∧ (a, b) ∈ xs.zip ys := by
  obtain ⟨p, hp, rfl⟩ := List.mem_map.mp h
  exact ⟨p.1, p.2, rfl, hp⟩
theorem enum_mem {xs : List Val} {v : Val} (h : v ∈ enumV 0 xs) : ∃ (i : Nat) (b : Val), v = .tup [.int i, b] ∧ (b, i) ∈ xs.zipIdx := by
  obtain ⟨p, hp, rfl⟩ := List.mem_map.mp h
  exact ⟨p.2, p.1, by simp, hp⟩
theorem pick_nil {xs : List Val} : List.mapM (fun x => xs[x]?) ([] : List Nat) = some [] := by simp
theorem pick_cons {xs : List Val} {i : Nat} {ix : List Nat} : List.mapM (fun x => xs[x]?) (i :: ix) = (xs[i]?).bind fun y => (List.mapM (fun x => xs[x]?) ix).map (y :: ·) := by
  rw [List.mapM_cons]
  cases xs[i]? with
  | none => rfl
  | some y => 
    simp only [bind, Option.bind_some, pure]
    cases List.mapM (fun x => xs[x]?) ix <;> rfl
end Gx
end
section
set_option linter.all false
set_option autoImplicit false
/-! Gx: sizes of plain data, and their repr. -/
namespace Gx
open PySem L2
def okS (s : Str) : Bool := s.cps.toList.all fun c => decide (c < 16 ^ 8)
def smKey (b : Nat) : L2.Key → Bool | .inl i => decide (i.natAbs < 2 ^ b) | .inr s => okS s
def szKey : L2.Key → Nat | .inl _ => 150 | .inr s => s.length
/-! ints below 2 ^ b -/
mutual
def sm (b : Nat) : Val → Bool
  | .int i => decide (i.natAbs < 2 ^ b)
  | .str s => okS s
  | .tup xs => sms b xs
  | .lst xs => sms b xs
  | .frz xs => sms b xs
  | .dct kvs => smK b kvs
  | _ => true
def sms (b : Nat) : List Val → Bool
  | [] => true
  | x :: xs => sm b x && sms b xs
def smK (b : Nat) : List (L2.Key × Val) → Bool
  | [] => true
  | (k, x) :: xs => smKey b k && sm b x && smK b xs
end
mutual
def dep : Val → Nat
  | .tup xs => deps xs + 1
  | .lst xs => deps xs + 1
  | .frz xs => deps xs + 1
  | .dct kvs => depK kvs + 1
  | _ => 0
def deps : List Val → Nat
  | [] => 0
  | x :: xs => max (dep x) (deps xs)
def depK : List (L2.Key × Val) → Nat
  | [] => 0
  | (_, x) :: xs => max (dep x) (depK xs)
end
mutual
def sz : Val → Nat
  | .int _ => 150
  | .str s => s.length
  | .tup xs => szs xs
  | .lst xs => szs xs
  | .frz xs => szs xs
  | .dct kvs => szK kvs
  | _ => 0
def szs : List Val → Nat
  | [] => 0
  | x :: xs => sz x + 1 + szs xs
def szK : List (L2.Key × Val) → Nat
  | [] => 0
  | (k, x) :: xs => szKey k + sz x + 2 + szK xs
end
mutual
def pd : Val → PyData
  | .bl b => .bool b
  | .int i => .int i
  | .str s => .str s
  | .tup xs => .tuple (pds xs)
  | .lst xs => .list (pds xs)
  | .frz xs => .list (pds xs)
  | .dct kvs => .dict (pdK kvs)
  | _ => .none
def pds : List Val → List PyData
  | [] => []
  | x :: xs => pd x :: pds xs
def pdK : List (L2.Key × Val) → List (PyData × PyData)
  | [] => []
  | (k, x) :: xs => (pdKey k, pd x) :: pdK xs
end
mutual
theorem pdV_eq (r : Nat → Option PyData) : ∀ v : Val, dtv v = true → pdV r v = some (pd v)
  | .non, _ => rfl
  | .bl _, _ => rfl
  | .int _, _ => rfl
  | .str _, _ => rfl
  | .tup xs, h => by simp only [pdV, pd, pdVs_eq r xs (by simp only [dtv, Bool.and_eq_true] at h; exact h.2), Option.map_some]
  | .lst xs, h => by simp only [pdV, pd, pdVs_eq r xs (by simp only [dtv, Bool.and_eq_true] at h; exact h.2), Option.map_some]
  | .frz xs, h => by simp only [pdV, pd, pdVs_eq r xs (by simp only [dtv, Bool.and_eq_true] at h; exact h.2), Option.map_some]
  | .dct kvs, h => by simp only [pdV, pd, pdVK_eq r kvs (by simpa [dtv] using h), Option.map_some]
theorem pdVs_eq (r : Nat → Option PyData) : ∀ v : List Val, dtvs v = true → pdVs r v = some (pds v)
  | [], _ => rfl
  | x :: xs, h => by
    simp only [dtvs, Bool.and_eq_true] at h
    simp only [pdVs, pds, pdV_eq r x h.1, pdVs_eq r xs h.2, Option.bind_some, Option.map_some]
theorem pdVK_eq (r : Nat → Option PyData) : ∀ v : List (L2.Key × Val), dtvK v = true → pdVK r v = some (pdK v)
  | [], _ => rfl
  | (k, x) :: xs, h => by
    simp only [dtvK, Bool.and_eq_true] at h
    simp only [pdVK, pdK, pdV_eq r x h.1, pdVK_eq r xs h.2, Option.bind_some, Option.map_some]
end
theorem log_lt {n b : Nat} (hb : 0 < b) (h : n < 2 ^ b) : n.log2 < b := by
  by_cases z : n = 0
  · subst z; simpa using hb
  · exact (Nat.log2_lt z).mpr h
/-- what is needed to show it -/
structure PdOk (b : Nat) (d : PyData) (n m : Nat) : Prop where
  shw : d.showable = true
  dep : d.depth ≤ n
  lvs : d.leavesShort (b + 2) = true
  wgt : d.weight ≤ m
theorem pd_int {b : Nat} (hb : 0 < b) (hb2 : b ≤ 150) {i : Int} (h : i.natAbs < 2 ^ b) : PdOk b (.int i) 0 150 := by
  have hl := log_lt hb h
  refine ⟨by simp only [PyData.showable, decide_eq_true_eq]; omega, by simp [PyData.depth], ?_, ?_⟩
  · have := int_text_length_le hb hl
    show decide ((Str.ofString (toString i)).length ≤ b + 2) = true
    rw [decide_eq_true_eq, ofString_length]; omega
  · simp only [PyData.weight]
    split <;> omega
theorem pd_str {b : Nat} {s : Str} (h : okS s = true) : PdOk b (.str s) 0 s.length :=
  ⟨rfl, by simp [PyData.depth], by simpa [PyData.leavesShort, okS] using h, by simp [PyData.weight]; exact Nat.le_refl _⟩
theorem pd_key {b : Nat} (hb : 0 < b) (hb2 : b ≤ 150) {k : L2.Key} (h : smKey b k = true) : PdOk b (pdKey k) 0 (szKey k) := by
  cases k with
  | inl i => exact pd_int hb hb2 (by simpa [smKey] using h)
  | inr s => exact pd_str (by simpa [smKey] using h)
mutual
theorem pd_ok {b : Nat} (hb : 0 < b) (hb2 : b ≤ 150) : ∀ v : Val, sm b v = true → PdOk b (pd v) (dep v) (sz v)
  | .non, _ => ⟨rfl, by simp [pd, PyData.depth], rfl, by simp [pd, PyData.weight]⟩
  | .bl _, _ => ⟨rfl, by simp [pd, PyData.depth], rfl, by simp [pd, PyData.weight]⟩
  | .ty _, _ => ⟨rfl, by simp [pd, PyData.depth], rfl, by simp [pd, PyData.weight]⟩
  | .gl _, _ => ⟨rfl, by simp [pd, PyData.depth], rfl, by simp [pd, PyData.weight]⟩
  | .ref _, _ => ⟨rfl, by simp [pd, PyData.depth], rfl, by simp [pd, PyData.weight]⟩
  | .obj _ _, _ => ⟨rfl, by simp [pd, PyData.depth], rfl, by simp [pd, PyData.weight]⟩
  | .int i, h => by simpa [pd, dep, sz] using pd_int hb hb2 (by simpa [sm] using h)
  | .str s, h => by simpa [pd, dep, sz] using pd_str (by simpa [sm] using h)
  | .tup xs, h => by
    obtain ⟨h1, h2, h3, h4⟩ := pds_ok hb hb2 xs (by simpa [sm] using h)
    exact ⟨by simpa [pd, PyData.showable] using h1, by simp only [pd, dep, PyData.depth]; omega, by simpa [pd, PyData.leavesShort] using h3, by simpa [pd, sz, PyData.weight] using h4⟩
  | .lst xs, h => by
    obtain ⟨h1, h2, h3, h4⟩ := pds_ok hb hb2 xs (by simpa [sm] using h)
    exact ⟨by simpa [pd, PyData.showable] using h1, by simp only [pd, dep, PyData.depth]; omega, by simpa [pd, PyData.leavesShort] using h3, by simpa [pd, sz, PyData.weight] using h4⟩
  | .frz xs, h => by
    obtain ⟨h1, h2, h3, h4⟩ := pds_ok hb hb2 xs (by simpa [sm] using h)
    exact ⟨by simpa [pd, PyData.showable] using h1, by simp only [pd, dep, PyData.depth]; omega, by simpa [pd, PyData.leavesShort] using h3, by simpa [pd, sz, PyData.weight] using h4⟩
  | .dct kvs, h => by
    obtain ⟨h1, h2, h3, h4⟩ := pdK_ok hb hb2 kvs (by simpa [sm] using h)
    exact ⟨by simpa [pd, PyData.showable] using h1, by simp only [pd, dep, PyData.depth]; omega, by simpa [pd, PyData.leavesShort] using h3, by simpa [pd, sz, PyData.weight] using h4⟩
theorem pds_ok {b : Nat} (hb : 0 < b) (hb2 : b ≤ 150) : ∀ v : List Val, sms b v = true → PyData.showableAll (pds v) = true ∧ PyData.depthAll (pds v) ≤ deps v ∧ PyData.leavesShortAll (b + 2) (pds v) = true ∧ PyData.weightAll (pds v) ≤ szs v
  | [], _ => ⟨rfl, by simp [pds, PyData.depthAll], rfl, by simp [pds, PyData.weightAll]⟩
  | x :: xs, h => by
    simp only [sms, Bool.and_eq_true] at h
    obtain ⟨h1, h2, h3, h4⟩ := pds_ok hb hb2 xs h.2
    obtain ⟨g1, g2, g3, g4⟩ := pd_ok hb hb2 x h.1
    exact ⟨by simp [pds, PyData.showableAll, g1, h1], by simp only [pds, PyData.depthAll, deps]; omega, by simp [pds, PyData.leavesShortAll, g3, h3], by simp only [pds, PyData.weightAll, szs]; omega⟩
theorem pdK_ok {b : Nat} (hb : 0 < b) (hb2 : b ≤ 150) : ∀ v : List (L2.Key × Val), smK b v = true → PyData.showableKv (pdK v) = true ∧ PyData.depthKv (pdK v) ≤ depK v ∧ PyData.leavesShortKv (b + 2) (pdK v) = true ∧ PyData.weightKv (pdK v) ≤ szK v
  | [], _ => ⟨rfl, by simp [pdK, PyData.depthKv], rfl, by simp [pdK, PyData.weightKv]⟩
  | (k, x) :: xs, h => by
    simp only [smK, Bool.and_eq_true] at h
    obtain ⟨h1, h2, h3, h4⟩ := pdK_ok hb hb2 xs h.2
    obtain ⟨g1, g2, g3, g4⟩ := pd_ok hb hb2 x h.1.2
    obtain ⟨k1, k2, k3, k4⟩ := pd_key hb hb2 h.1.1
    exact ⟨by simp [pdK, PyData.showableKv, g1, h1, k1], by simp only [pdK, PyData.depthKv, depK]; omega, by simp [pdK, PyData.leavesShortKv, g3, h3, k3], by simp only [pdK, PyData.weightKv, szK]; omega⟩
end
/-- plain data of a bounded size: ints of b bits, n deep, of the size m -/
structure Dt (b n m : Nat) (v : Val) : Prop where
  dt : dtv v = true
  sm : sm b v = true
  dep : dep v ≤ n
  sz : sz v ≤ m
theorem repr_ok {b n m : Nat} {v : Val} (h : Dt b n m v) (hb : 6 ≤ b) (hb2 : b ≤ 150) (hn : n ≤ 90) (hm : (b + 4) * m + b + 2 ≤ 16777216) (S : Store) : bRepr [v] S = .ok (.str (pd v).shown) S := by
  obtain ⟨h1, h2, h3, h4⟩ := pd_ok (by omega) hb2 v h.sm
  have h5 := PyData.shown_le (b + 2) (by omega) (pd v) h3
  have h6 : (b + 2 + 2) * (pd v).weight ≤ (b + 4) * m := Nat.mul_le_mul (Nat.le_refl _) (Nat.le_trans h4 h.sz)
  have h7 := h.dep
  unfold bRepr
  simp only [pdV_eq _ v h.dt]
  rw [if_pos ⟨h1, by omega, by rw [sizeLine_eq]; omega⟩]
theorem Dt.le {b n m n' m' : Nat} {v : Val} (h : Dt b n m v) (hn : n ≤ n') (hm : m ≤ m') : Dt b n' m' v := ⟨h.dt, h.sm, Nat.le_trans h.dep hn, Nat.le_trans h.sz hm⟩
/-- .. of a row of values -/
structure Dts (b n m : Nat) (vs : List Val) : Prop where
  dt : dtvs vs = true
  sm : sms b vs = true
  dep : deps vs ≤ n
  sz : szs vs ≤ m
theorem sms_iff {b : Nat} : ∀ {xs : List Val}, sms b xs = true ↔ ∀ v ∈ xs, Gx.sm b v = true
  | [] => by simp [sms]
  | x :: xs => by simp [sms, sms_iff (xs := xs)]
theorem deps_iff {n : Nat} : ∀ {xs : List Val}, deps xs ≤ n ↔ ∀ v ∈ xs, Gx.dep v ≤ n
  | [] => by simp [deps]
  | x :: xs => by simp [deps, deps_iff (xs := xs), Nat.max_le]
theorem szs_append : ∀ {xs ys : List Val}, szs (xs ++ ys) = szs xs + szs ys
  | [], ys => by simp [szs]
  | x :: xs, ys => by simp [szs, szs_append (xs := xs)]; omega
theorem szs_len : ∀ {xs : List Val}, xs.length ≤ szs xs
  | [] => by simp [szs]
  | x :: xs => by have := szs_len (xs := xs); simp [szs]; omega
theorem Dts.nil {b n : Nat} : Dts b n 0 [] := ⟨rfl, rfl, by simp [deps], by simp [szs]⟩
theorem Dts.cons {b n m k : Nat} {x : Val} {xs : List Val} (h : Dt b n m x) (g : Dts b n k xs) : Dts b n (m + 1 + k) (x :: xs) :=
  ⟨by simp [dtvs, h.dt, g.dt], by simp [sms, h.sm, g.sm], by simp only [deps]; have := h.dep; have := g.dep; omega, by simp only [szs]; have := h.sz; have := g.sz; omega⟩
theorem Dts.mem {b n m : Nat} {x : Val} {xs : List Val} (h : Dts b n m xs) (hx : x ∈ xs) : Dt b n (m - 1) x := by
  refine ⟨dtvs_iff.mp h.dt x hx, sms_iff.mp h.sm x hx, deps_iff.mp h.dep x hx, ?_⟩
  obtain ⟨s, t, rfl⟩ := List.append_of_mem hx
  have := h.sz
  rw [szs_append] at this
  simp only [szs] at this
  omega
theorem Dts.append {b n m k : Nat} {xs ys : List Val} (h : Dts b n m xs) (g : Dts b n k ys) : Dts b n (m + k) (xs ++ ys) := by
  refine ⟨dtvs_iff.mpr fun v hv => ?_, sms_iff.mpr fun v hv => ?_, deps_iff.mpr fun v hv => ?_, by rw [szs_append]; have := h.sz; have := g.sz; omega⟩
  · exact (List.mem_append.mp hv).elim (dtvs_iff.mp h.dt v) (dtvs_iff.mp g.dt v)
  · exact (List.mem_append.mp hv).elim (sms_iff.mp h.sm v) (sms_iff.mp g.sm v)
  · exact (List.mem_append.mp hv).elim (deps_iff.mp h.dep v) (deps_iff.mp g.dep v)
theorem Dts.le {b n m n' m' : Nat} {v : List Val} (h : Dts b n m v) (hn : n ≤ n') (hm : m ≤ m') : Dts b n' m' v := ⟨h.dt, h.sm, Nat.le_trans h.dep hn, Nat.le_trans h.sz hm⟩
theorem Dts.sub {b n m : Nat} {xs ys : List Val} (h : Dts b n m xs) (hm : ∀ v ∈ ys, v ∈ xs) (hz : szs ys ≤ szs xs) : Dts b n m ys :=
  ⟨dtvs_iff.mpr fun v hv => dtvs_iff.mp h.dt v (hm v hv), sms_iff.mpr fun v hv => sms_iff.mp h.sm v (hm v hv), deps_iff.mpr fun v hv => deps_iff.mp h.dep v (hm v hv), Nat.le_trans hz h.sz⟩
theorem Dts.take {b n m k : Nat} {xs : List Val} (h : Dts b n m xs) : Dts b n m (xs.take k) := h.sub (fun v hv => List.mem_of_mem_take hv) (by
  have := szs_append (xs := xs.take k) (ys := xs.drop k)
  rw [List.take_append_drop] at this
  omega)
theorem Dts.drop {b n m k : Nat} {xs : List Val} (h : Dts b n m xs) : Dts b n m (xs.drop k) := h.sub (fun v hv => List.mem_of_mem_drop hv) (by
  have := szs_append (xs := xs.take k) (ys := xs.drop k)
  rw [List.take_append_drop] at this
  omega)
theorem szs_rev : ∀ {xs : List Val}, szs xs.reverse = szs xs
  | [] => rfl
  | x :: xs => by rw [List.reverse_cons, szs_append, szs_rev (xs := xs)]; simp [szs]; omega
theorem Dts.rev {b n m : Nat} {xs : List Val} (h : Dts b n m xs) : Dts b n m xs.reverse := h.sub (fun v hv => List.mem_reverse.mp hv) (by rw [szs_rev]; omega)
theorem Dts.tup {b n m : Nat} {xs : List Val} (h : Dts b n m xs) (hm : m ≤ 16777216) : Dt b (n + 1) m (.tup xs) :=
  ⟨by simp only [dtv, h.dt, Bool.and_true, decide_eq_true_eq]; have := szs_len (xs := xs); have := h.sz; omega, by simpa [Gx.sm] using h.sm, by simp only [Gx.dep]; have := h.dep; omega, by simpa [Gx.sz] using h.sz⟩
theorem Dts.lst {b n m : Nat} {xs : List Val} (h : Dts b n m xs) (hm : m ≤ 16777216) : Dt b (n + 1) m (.lst xs) :=
  ⟨by simp only [dtv, h.dt, Bool.and_true, decide_eq_true_eq]; have := szs_len (xs := xs); have := h.sz; omega, by simpa [Gx.sm] using h.sm, by simp only [Gx.dep]; have := h.dep; omega, by simpa [Gx.sz] using h.sz⟩
theorem Dt.tup {b n m : Nat} {xs : List Val} (h : Dt b n m (.tup xs)) : 1 ≤ n ∧ Dts b (n - 1) m xs := by
  have h1 := h.dep
  have h2 := h.dt
  simp only [Gx.dep] at h1
  simp only [dtv, Bool.and_eq_true] at h2
  exact ⟨by omega, h2.2, by simpa [Gx.sm] using h.sm, by omega, by simpa [Gx.sz] using h.sz⟩
theorem Dt.int {b n : Nat} {i : Int} (h : i.natAbs < 2 ^ b) : Dt b n 150 (.int i) := ⟨rfl, by simpa [Gx.sm] using h, by simp [Gx.dep], by simp [Gx.sz]⟩
theorem Dt.bl {b n : Nat} {c : Bool} : Dt b n 0 (.bl c) := ⟨rfl, rfl, by simp [Gx.dep], by simp [Gx.sz]⟩
theorem Dt.non {b n : Nat} : Dt b n 0 .non := ⟨rfl, rfl, by simp [Gx.dep], by simp [Gx.sz]⟩
theorem Dt.str {b n : Nat} {s : Str} (h : okS s = true) : Dt b n s.length (.str s) := ⟨rfl, by simpa [Gx.sm] using h, by simp [Gx.dep], by simp [Gx.sz]⟩
theorem smKey_le {b b' : Nat} (h : b ≤ b') {k : L2.Key} (hk : smKey b k = true) : smKey b' k = true := by
  cases k with
  | inl i => simp only [smKey, decide_eq_true_eq] at hk ⊢; exact Nat.lt_of_lt_of_le hk (Nat.pow_le_pow_right (by omega) h)
  | inr s => exact hk
mutual
theorem sm_le {b b' : Nat} (h : b ≤ b') : ∀ v : Val, sm b v = true → sm b' v = true
  | .non, _ => rfl
  | .bl _, _ => rfl
  | .ty _, _ => rfl
  | .gl _, _ => rfl
  | .ref _, _ => rfl
  | .obj _ _, _ => rfl
  | .int i, hv => by simp only [sm, decide_eq_true_eq] at hv ⊢; exact Nat.lt_of_lt_of_le hv (Nat.pow_le_pow_right (by omega) h)
  | .str s, hv => hv
  | .tup xs, hv => by simp only [sm] at hv ⊢; exact sms_le h xs hv
  | .lst xs, hv => by simp only [sm] at hv ⊢; exact sms_le h xs hv
  | .frz xs, hv => by simp only [sm] at hv ⊢; exact sms_le h xs hv
  | .dct kvs, hv => by simp only [sm] at hv ⊢; exact smK_le h kvs hv
theorem sms_le {b b' : Nat} (h : b ≤ b') : ∀ v : List Val, sms b v = true → sms b' v = true
  | [], _ => rfl
  | x :: xs, hv => by simp only [sms, Bool.and_eq_true] at hv ⊢; exact ⟨sm_le h x hv.1, sms_le h xs hv.2⟩
theorem smK_le {b b' : Nat} (h : b ≤ b') : ∀ v : List (L2.Key × Val), smK b v = true → smK b' v = true
  | [], _ => rfl
  | (k, x) :: xs, hv => by simp only [smK, Bool.and_eq_true] at hv ⊢; exact ⟨⟨smKey_le h hv.1.1, sm_le h x hv.1.2⟩, smK_le h xs hv.2⟩
end
theorem Dt.sm' {b b' n m : Nat} {v : Val} (h : Dt b n m v) (hb : b ≤ b') : Dt b' n m v := ⟨h.dt, sm_le hb v h.sm, h.dep, h.sz⟩
theorem Dts.sm' {b b' n m : Nat} {v : List Val} (h : Dts b n m v) (hb : b ≤ b') : Dts b' n m v := ⟨h.dt, sms_le hb v h.sm, h.dep, h.sz⟩
theorem okS_of (s : String) : okS (Str.ofString s) = true := by
  unfold okS
  rw [Str.ofString_eq_toList]
  simp only [List.all_map, List.all_eq_true, Function.comp_apply, decide_eq_true_eq]
  intro c _
  have := c.valid
  have h : c.toNat < 1114112 := by
    rcases this with h | ⟨_, h⟩
    · exact Nat.lt_trans h (by decide)
    · exact h
  omega
theorem Dt.intStr {b n : Nat} {i : Int} (hb : 0 < b) (h : i.natAbs < 2 ^ b) : Dt b n (b + 1) (.str (toString i : String)) := by
  refine (Dt.str (okS_of _)).le (Nat.le_refl _) ?_
  rw [ofString_length]
  exact int_text_length_le hb (log_lt hb h)
theorem atI_nat {xs : List Val} {r : Nat} : L2.atI xs (r : Int) = xs[r]? := by
  unfold L2.atI L2.ixN
  rw [if_pos (by omega)]
  by_cases h : r < xs.length
  · rw [if_pos (by omega)]; simp
  · rw [if_neg (by omega)]; simp; omega
theorem szs_at {xs : List Val} {r : Nat} {v : Val} (h : xs[r]? = some v) : szs xs = szs (xs.take r) + (sz v + 1) + szs (xs.drop (r + 1)) := by
  obtain ⟨hr, e⟩ := List.getElem?_eq_some_iff.mp h
  have h1 := szs_append (xs := xs.take r) (ys := xs.drop r)
  rw [List.take_append_drop, List.drop_eq_getElem_cons hr, e] at h1
  simp only [szs] at h1
  omega
theorem Dts.one {b n m : Nat} {v : Val} (h : Dt b n m v) : Dts b n (m + 1) [v] := (Dts.nil.cons h).le (Nat.le_refl _) (by omega)
end Gx
end
section
set_option Elab.async false
set_option linter.all false
set_option maxHeartbeats 1000000
set_option maxRecDepth 100000
set_option autoImplicit false
/-! Gx: lists of ints in plain laws; makings of instances. -/
namespace Gx
open PySem L2
theorem dats_ints : ∀ ns : List Int, dats (ns.map .int) = some (ns.map .int)
  | [] => rfl
  | n :: ns => by simp only [List.map_cons, dats, dats_ints ns, dat]
theorem dep_ints : ∀ ns : List Int, PyData.depthAll (ns.map .int) ≤ 1
  | [] => by simp [PyData.depthAll]
  | n :: ns => by have := dep_ints ns; simp only [List.map_cons, PyData.depthAll, PyData.depth]; omega
theorem lay_ints : ∀ ns : List Int, PyData.canLayAll0 (ns.map .int) = true
  | [] => rfl
  | n :: ns => by simp [PyData.canLayAll0, PyData.canLay0, lay_ints ns]
theorem shaped_ints (ns : List Int) : SeqAt.shaped (.tuple (ns.map .int)) = true := by
  have h1 := dep_ints ns
  have h2 : (PyData.tuple (ns.map .int)).depth ≤ 64 := by simp only [PyData.depth]; omega
  have h3 : (PyData.tuple (ns.map .int)).canLay0 = true := by simp only [PyData.canLay0, lay_ints]
  unfold SeqAt.shaped
  rw [h3, decide_eq_true h2]; rfl
theorem eqv_ints : ∀ (a b : List Int), PyData.eqvAll (a.map .int) (b.map .int) = decide (a = b)
  | [], [] => by simp [PyData.eqvAll]
  | [], _ :: _ => by simp [PyData.eqvAll]
  | _ :: _, [] => by simp [PyData.eqvAll]
  | x :: xs, y :: ys => by
    simp only [List.map_cons, PyData.eqvAll, PyData.eqv, eqv_ints xs ys]
    by_cases h : x = y <;> by_cases g : xs = ys <;> simp [h, g]
theorem eq_ints {S : Store} {a b : List Int} : pyEq S (.tup (a.map .int)) (.tup (b.map .int)) = some (decide (a = b)) := by
  have gen : (match datS S (.tup (a.map .int)), datS S (.tup (b.map .int)) with
    | some d, some e => if SeqAt.shaped d && SeqAt.shaped e then some (PyData.eqv d e) else none
    | _, _ => none) = some (decide (a = b)) := by
    simp only [datS, dat, dats_ints, Option.map_some, shaped_ints, Bool.and_self, if_true, PyData.eqv, eqv_ints]
  cases b with
  | nil =>
    show some (a.map Val.int).isEmpty = _
    cases a <;> simp
  | cons y ys => exact gen
theorem any_ints (j : Int) : ∀ ts : List Int, ((ts.map PyData.int).any fun z => PyData.eqv z (.int j)) = decide (j ∈ ts)
  | [] => by simp
  | t :: ts => by
    simp only [List.map_cons, List.any_cons, any_ints j ts, PyData.eqv]
    by_cases h : t = j
    · subst h; simp
    · have h' : ¬ j = t := fun q => h q.symm
      simp [h, h']
theorem in_ints {S : Store} {j : Int} {ts : List Int} : oIn false (.int j) (.tup (ts.map .int)) S = .ok (.bl (decide (j ∈ ts))) S := by
  show (match datS S (.int j), datS S (.tup (ts.map .int)) with
      | some d, some (.list ds) => if SeqAt.shaped d && SeqAt.shaped (.list ds) then R.ok (Val.bl (let b := ds.any fun z => PyData.eqv z d; if false = true then !b else b)) S else .bad
      | some d, some (.tuple ds) => if SeqAt.shaped d && SeqAt.shaped (.tuple ds) then R.ok (Val.bl (let b := ds.any fun z => PyData.eqv z d; if false = true then !b else b)) S else .bad
      | _, _ => .bad) = _
  have hj : SeqAt.shaped (.int j) = true := by simp [SeqAt.shaped, PyData.canLay0, PyData.depth]
  simp only [datS, dat, dats_ints, Option.map_some, shaped_ints, hj, Bool.and_self, if_true, any_ints, Bool.false_eq_true, if_false]
theorem ints_map : ∀ ns : List Int, intsOf (ns.map .int) = some ns
  | [] => rfl
  | n :: ns => by simp [intsOf, ints_map ns]
theorem sum_ints {S : Store} {ns : List Int} : bSum [.tup (ns.map .int)] S = .ok (.int ns.sum) S := by
  simp only [bSum, seqOf, sumV, ints_map, Option.map_some]
theorem dts_ints {ns : List Int} (h : ∀ n ∈ ns, n.natAbs < 2 ^ 64) : Dts 64 0 (151 * ns.length) (ns.map .int) := by
  induction ns with
  | nil => exact Dts.nil
  | cons n ns ih =>
    exact (Dts.cons (Dt.int (n := 0) (h n (by simp))) (ih fun m hm => h m (by simp [hm]))).le (Nat.le_refl _) (by simp; omega)
theorem repr_ints {S : Store} {ns : List Int} (h : ∀ n ∈ ns, n.natAbs < 2 ^ 64) (hl : ns.length ≤ 1000) : bRepr [.tup (ns.map .int)] S = .ok (.str (pd (.tup (ns.map .int))).shown) S :=
  repr_ok ((dts_ints h).tup (by omega)) (by omega) (by omega) (by omega) (by omega) S
theorem at_ints {ns : List Int} {j : Nat} (h : j < ns.length) : L2.atI (ns.map Val.int) (j : Int) = some (.int (ns.getD j 0)) := by
  unfold L2.atI L2.ixN
  rw [if_pos (by omega), List.length_map, if_pos (by omega)]
  simp [h]
theorem idx_intsT {S : Store} {ns : List Int} {j : Nat} (h : j < ns.length) : oIdx (.tup (ns.map .int)) (.int j) S = .ok (.int (ns.getD j 0)) S := by
  simp only [oIdx, seqOf, at_ints h]
theorem idx_intsL {S : Store} {ns : List Int} {j : Nat} (h : j < ns.length) : oIdx (.lst (ns.map .int)) (.int j) S = .ok (.int (ns.getD j 0)) S := by
  simp only [oIdx, seqOf, at_ints h]
/-! ### instances -/
section
variable {L : Loc} {S : Store} {N : Loc → Store → Prop} {T : Val → Store → Prop} {X : Exc → Store → Prop} {Q : Val → Store → Prop}
theorem eq_of_w {α : Type} {r : R α} {a : α} {S1 : Store} (h : wR (fun v S' => Hold (v = a ∧ S' = S1) ⟨⟩) (fun _ _ => False) r) : r = .ok a S1 := by
  obtain ⟨v, S', e, q⟩ := wR_ok_of h
  obtain ⟨rfl, rfl⟩ := held q
  exact e
theorem w_fldC {Cs : List Addr} {f : Str} {o e : E} : wS N T X (sFldC Cs f o e L S) = wR (fun v S1 => wR (fun q S2 => wS N T X (match q with
  | .ref n => match S2[n]? with
    | some (.ins C fs) => if C ∈ Cs ∧ fs.length < 1000 then .nx L (S2.set n (.ins C (putA f v fs))) else .bad
    | _ => .bad
  | _ => .bad)) X (o L S1)) X (e L S) := by
  unfold sFldC
  rw [wS_ofE]
  exact wR_q fun _ _ => wS_ofE _ _ _ _ _ _
theorem w_tupzip {d d2 : E} : wR Q X (eTupZip d d2 L S) = wR (fun v S1 => wR (fun u S2 => wR Q X (match itOf S2 v, itOf S2 u with
  | some src, some src2 => if src.items.length = src2.items.length then .ok (.tup (zipV src.items src2.items)) S2 else .bad
  | _, _ => .bad)) X (d2 L S1)) X (d L S) := by
  unfold eTupZip
  rw [wR_bind]; exact wR_q fun _ _ => wR_bind _ _ _ _
def mkR (C : Addr) (f : F) (d : Nat) (xs : List Val) (S : Store) : R Val := (f (.ref S.length :: xs) (S ++ [.ins C []])).bind fun v S2 => match v with
  | .non => gcR d S (.ok (.ref S.length) S2)
  | _ => .bad
theorem w_make {C : Addr} {f : F} {d : Nat} {a : A} : wR Q X (eMake C f d a L S) = wR (fun xs S1 => wR Q X (mkR C f d xs S1)) X (a L S) := wR_bind _ _ _ _
theorem w_meth {C : Addr} {m : Str} {f : F} {o : E} {a : A} : wR Q X (eMeth C m f o a L S) = wR (fun x S1 => wR Q X (match objOf S1 x with
  | some (D, fs) => if D = C ∧ fs.lookup m = none then (a L S1).bind fun xs S2 => f (x :: xs) S2 else .bad
  | none => .bad)) X (o L S) := wR_bind _ _ _ _
theorem gc_self {C : Addr} {k : Nat} {c : Cell} {fs : List (Str × Val)} (h : treeF fs = true) : gcR k (S ++ [c]) (.ok .non (S ++ [.ins C fs])) = .ok .non (S ++ [.ins C fs]) := by
  have hf : fits (S ++ [c]) (S ++ [.ins C fs]) = true := by
    unfold fits
    rw [List.all_eq_true]
    intro i hi
    have hi := List.mem_range.mp hi
    rw [List.length_append, List.length_singleton] at hi
    rcases Nat.lt_or_ge i S.length with q | q
    · rw [List.getElem?_append_left q, List.getElem?_append_left q, List.getElem?_eq_getElem q]; simp
    · obtain rfl : i = S.length := by omega
      simp [Cell.below, fz_treeF _ _ h]
  unfold gcR
  simp only [fzV, hf, if_true]
  rw [List.take_of_length_le (by simp)]
theorem gc_make {C : Addr} {k : Nat} {fs : List (Str × Val)} (h : treeF fs = true) : gcR (k + 1) S (.ok (.ref S.length) (S ++ [.ins C fs])) = .ok (.obj C fs) S := by
  refine gc_app ?_
  simp only [fzV, fzR]
  rw [if_neg (Nat.lt_irrefl _)]
  simp [fz_treeF _ _ h]
theorem mkR_eq {C : Addr} {f : F} {k : Nat} {xs : List Val} {fs : List (Str × Val)} (hf : treeF fs = true) (h : f (.ref S.length :: xs) (S ++ [.ins C []]) = .ok .non (S ++ [.ins C fs])) : mkR C f (k + 1) xs S = .ok (.obj C fs) S := by
  unfold mkR
  rw [h]
  exact gc_make hf
end
end Gx
end
section
set_option Elab.async false
set_option linter.all false
set_option maxHeartbeats 4000000
set_option maxRecDepth 100000
set_option autoImplicit false
namespace K10
open PySem PySem.Spec PyProof.Rows L2 Gx
def top (i : Nat) : Stmt := PySem.Challenge.pw_chainshares_k10_books_changed.main.body.getD i (.Pass ⟨0, 0, 0, 0⟩)
structure Tx (K : PySem.W.Frag) (mg : Str → Option Value) (cBook : Addr) : Prop where
  z_all : mg "all" = none
  z_bool : mg "bool" = none
  z_enumerate : mg "enumerate" = none
  z_int : mg "int" = none
  z_isinstance : mg "isinstance" = none
  z_len : mg "len" = none
  z_list : mg "list" = none
  z_max : mg "max" = none
  z_range : mg "range" = none
  z_repr : mg "repr" = none
  z_sum : mg "sum" = none
  z_tuple : mg "tuple" = none
  z_zip : mg "zip" = none
  c_NOBODY : ∃ t, mg "NOBODY" = some (.int (-1) t)
  q_Book : ClF K cBook
  f_Book_ups : PySem.W.findIn K (.ref cBook) "ups" = some none
  f_Book_buys : PySem.W.findIn K (.ref cBook) "buys" = some none
  f_Book_pairs_kept : PySem.W.findIn K (.ref cBook) "pairs_kept" = some none
  f_Book_sales : PySem.W.findIn K (.ref cBook) "sales" = some none
  g_Book : mg "Book" = some (.ref cBook)
/-! ### meanings -/
def b_w_deck (cBook : Addr) : SS :=
  sSeq (sAsg (eTup (aCons (eFr (fList (eFr (fSlice (eVar 0) (none) (some (eC (.int 63))))))) (aCons (eC (.int 1085310)) (aNil)))) (gTup 2 (gCons (gName 1) (gCons (gName 2) (gNil))))) (sSeq (sFor (iVal (eVar 1)) (gName 3) (sAsg (eBin oMod (eCall bInt (aCons (eBin oAdd (eBin oAdd (eBin oMul (eVar 2) (eC (.int 48271))) (eBin oMod (eCall bInt (aCons (eVar 3) (aNil))) (eC (.int 2147483629)))) (eC (.int 210))) (aNil))) (eC (.int 2147483587))) (gName 2))) (sRet (eDict true (pOf [(eC (.str "cells"), eMk (fRev (eVar 1))), (eC (.str "mixed"), eVar 2), (eC (.str "draws"), eC (.int 0))]))))
def f_w_deck (cBook : Addr) : F := fnD 1 4 0 (b_w_deck cBook)
def b_w_draw (cBook : Addr) : SS :=
  sSeq (sAsg (eBin oAdd (eBin oSub2 (eVar 0) (eC (.str "draws"))) (eC (.int 1))) (gSub (eVar 0) (eC (.str "draws")))) (sSeq (sAsg (eTup (aCons (eBin oSub2 (eVar 0) (eC (.str "draws"))) (aCons (eBin oSub2 (eVar 0) (eC (.str "mixed"))) (aNil)))) (gTup 2 (gCons (gName 2) (gCons (gName 3) (gNil))))) (sSeq (sIf (tOf (eBin oNe (eBin oSub2 (eVar 0) (eC (.str "cells"))) (eFr (fLst (aNil))))) (sSeq (sAsg (eCall bInt (aCons (eBmL mPop (eBin oSub2 (eVar 0) (eC (.str "cells"))) aNil) (aNil))) (gName 4)) (sSeq (sIf (tOf (eBin oGe (eVar 4) (eBin oPow (eC (.int 10)) (eC (.int 18))))) (sSeq (sDrop (eBmL mAppend (eBin oSub2 (eVar 0) (eC (.str "cells"))) (aCons (eBin oFdiv (eVar 4) (eVar 1)) (aNil)))) (sRet (eBin oMod (eVar 4) (eVar 1)))) (sNil)) (sAsg (eBin oAdd (eVar 3) (eBin oMod (eVar 4) (eC (.int 2147483563)))) (gName 3)))) (sNil)) (sSeq (sAsg (eBin oMod (eBin oMul (eCall bInt (aCons (eBin oAdd (eBin oAdd (eVar 3) (eBin oMul (eBin oMul (eC (.int 51190)) (eVar 2)) (eVar 2))) (eC (.int 13))) (aNil))) (eC (.int 40692))) (eC (.int 2147483647))) (gName 3)) (sSeq (sAsg (eBin oMod (eCall bInt (aCons (eBin oAdd (eBin oAdd (eBin oMul (eVar 3) (eVar 3)) (eBin oMul (eC (.int 69621)) (eVar 2))) (eC (.int 27))) (aNil))) (eC (.int 2147483579))) (gName 3)) (sRet (eBin oMod (eBin oFdiv (eBin oMod (eCall bInt (aCons (eBin oMul (eVar 3) (eC (.int 39373))) (aNil))) (eC (.int 2147483549))) (eC (.int 64))) (eVar 1)))))))
def f_w_draw (cBook : Addr) : F := fnD 2 5 3 (b_w_draw cBook)
def b_w_kit (cBook : Addr) : SS :=
  sSeq (sAsg (eTup (aCons (eBin oAdd (eC (.int 1)) (eCall (f_w_draw cBook) (aApp (aCons (eVar 0) (aCons (eVar 1) (aNil))) []))) (aCons (eBin oAdd (eC (.int 1)) (eCall (f_w_draw cBook) (aApp (aCons (eVar 0) (aCons (eBin oAdd (eVar 2) (eC (.int 1))) (aNil))) []))) (aNil)))) (gTup 2 (gCons (gName 3) (gCons (gName 4) (gNil))))) (sSeq (sAsg (eTup (aCons (eBin oAdd (eC (.int 1)) (eCall (f_w_draw cBook) (aApp (aCons (eVar 0) (aCons (eC (.int 20)) (aNil))) []))) (aCons (eCall (f_w_draw cBook) (aApp (aCons (eVar 0) (aCons (eC (.int 3)) (aNil))) [])) (aCons (eFr (fComp [9] (iRange1 (eVar 4)) (gName 9) (tYes) (eCall (f_w_draw cBook) (aApp (aCons (eVar 0) (aCons (eC (.int 120)) (aNil))) [])))) (aNil))))) (gTup 3 (gCons (gName 5) (gCons (gName 6) (gCons (gName 7) (gNil)))))) (sSeq (sAsg (eMk (fLst (aCons (eTup (aCons (eVar 5) (aCons (eC (.int 0)) (aCons (eVar 6) (aCons (eCall bTup (aCons (eVar 7) (aNil))) (aNil)))))) (aNil)))) (gName 8)) (sSeq (sFor (iRange2 (eC (.int 1)) (eVar 3)) (gName 9) (sSeq (sAsg (eTup (aCons (eBin oAdd (eBin oAdd (eVar 5) (eC (.int 1))) (eCall (f_w_draw cBook) (aApp (aCons (eVar 0) (aCons (eC (.int 15)) (aNil))) []))) (aCons (eBin oAdd (eVar 6) (eCall (f_w_draw cBook) (aApp (aCons (eVar 0) (aCons (eC (.int 6)) (aNil))) []))) (aNil)))) (gTup 2 (gCons (gName 5) (gCons (gName 6) (gNil))))) (sSeq (sAsg ((if false then eMk else eFr) (fComp [10] (iVal (eVar 7)) (gName 10) (tYes) (eBin oAdd (eVar 10) (eBin oMul (eCall (f_w_draw cBook) (aApp (aCons (eVar 0) (aCons (eC (.int 60)) (aNil))) [])) (eCall bInt (aCons (eBin oEq (eCall (f_w_draw cBook) (aApp (aCons (eVar 0) (aCons (eC (.int 2)) (aNil))) [])) (eC (.int 0))) (aNil))))))) (gName 7)) (sDrop (eBmL mAppend (eVar 8) (aCons (eTup (aCons (eVar 5) (aCons (eBin oAdd (eC (.int 1)) (eCall (f_w_draw cBook) (aApp (aCons (eVar 0) (aCons (eC (.int 3)) (aNil))) []))) (aCons (eVar 6) (aCons (eCall bTup (aCons (eVar 7) (aNil))) (aNil)))))) (aNil))))))) (sRet (eCall bTup (aCons (eVar 8) (aNil)))))))
def f_w_kit (cBook : Addr) : F := fnD 3 11 3 (b_w_kit cBook)
def b_w_pick (cBook : Addr) : SS :=
  sRet (eBin oSub2 (eVar 1) (eCall (f_w_draw cBook) (aApp (aCons (eVar 0) (aCons (eCall bLen (aCons (eVar 1) (aNil))) (aNil))) [])))
def f_w_pick (cBook : Addr) : F := fnD 2 2 3 (b_w_pick cBook)
def b_w_world (cBook : Addr) : SS :=
  sSeq (sAsg (eDict false (pOf [(eC (.str "from"), eMk (fLst (aNil))), (eC (.str "spent"), eMk (fLst (aNil)))])) (gName 3)) (sSeq (sAsg (eFr (fCat (eFr (fCat (eFr (fComp [7] (iVal (eVar 1)) (gName 7) (tYes) (eBin oSub2 (eVar 7) (eC (.int 0))))) (eFr (fComp [7] (iVal (eVar 1)) (gName 7) (tYes) (eBin oAdd (eBin oSub2 (eVar 7) (eC (.int 0))) (eC (.int 1))))))) (eFr (fLst (aCons (eBin oAdd (eBin oSub2 (eBin oSub2 (eVar 1) (eUn oNeg (eC (.int 1)))) (eC (.int 0))) (eC (.int 40))) (aNil)))))) (gName 4)) (sSeq (sFor (iRange1 (eCall (f_w_draw cBook) (aApp (aCons (eVar 0) (aCons (eBin oAdd (eVar 2) (eC (.int 1))) (aNil))) []))) (gName 5) (sSeq (sAsg (eIf (tOf (eBin oGt (eCall (f_w_draw cBook) (aApp (aCons (eVar 0) (aCons (eC (.int 4)) (aNil))) [])) (eC (.int 0)))) (eCall bMax2 (aCons (eC (.int 0)) (aCons (eBin oSub (eBin oSub (eVar 5) (eC (.int 1))) (eCall (f_w_draw cBook) (aApp (aCons (eVar 0) (aCons (eC (.int 4)) (aNil))) []))) (aNil)))) (eBin oSub (eCall (f_w_draw cBook) (aApp (aCons (eVar 0) (aCons (eBin oAdd (eVar 5) (eC (.int 1))) (aNil))) [])) (eC (.int 1)))) (gName 6)) (sSeq (sDrop (eBmL mAppend (eBin oSub2 (eVar 3) (eC (.str "from"))) (aCons (eIf (tOf (eBin oGt (eVar 5) (eC (.int 0)))) (eVar 6) (eUn oNeg (eC (.int 1)))) (aNil)))) (sDrop (eBmL mAppend (eBin oSub2 (eVar 3) (eC (.str "spent"))) (aCons (eCall (f_w_pick cBook) (aApp (aCons (eVar 0) (aCons (eVar 4) (aNil))) [])) (aNil))))))) (sRet (eVar 3))))
def f_w_world (cBook : Addr) : F := fnD 3 8 3 (b_w_world cBook)
def b_p_is_integer (cBook : Addr) : SS :=
  sRet (eAnd (eCall (bIsi []) (aCons (eVar 0) (aCons (eC (.ty "int")) (aNil)))) (eNot (eCall (bIsi []) (aCons (eVar 0) (aCons (eC (.ty "bool")) (aNil))))))
def f_p_is_integer (cBook : Addr) : F := fnD 1 1 3 (b_p_is_integer cBook)
def b_p_are_ups (cBook : Addr) : SS :=
  sSeq (sIf (tNot (tOf (eCall (bIsi []) (aCons (eVar 0) (aCons (eC (.ty "tuple")) (aNil)))))) (sRet (eC (.bl false))) (sNil)) (sRet (eCall (ofList allV) (aCons (eFr (fComp [1, 2] (iEnum (eVar 0)) (gTup 2 (gCons (gName 1) (gCons (gName 2) (gNil)))) (tYes) (eAnd (eCall (f_p_is_integer cBook) (aApp (aCons (eVar 2) (aNil)) [])) (eChain oLe oLt (eC (.int (-1))) (eVar 2) (eVar 1))))) (aNil))))
def f_p_are_ups (cBook : Addr) : F := fnD 1 3 3 (b_p_are_ups cBook)
def b_p_is_integer_from (cBook : Addr) : SS :=
  sRet (eAnd (eCall (f_p_is_integer cBook) (aApp (aCons (eVar 1) (aNil)) [])) (eBin oGe (eVar 1) (eVar 0)))
def f_p_is_integer_from (cBook : Addr) : F := fnD 2 2 3 (b_p_is_integer_from cBook)
def b_p_are_buys (cBook : Addr) : SS :=
  sRet (eAnd (eCall (bIsi []) (aCons (eVar 1) (aCons (eC (.ty "tuple")) (aNil)))) (eAnd (eBin oEq (eCall bLen (aCons (eVar 1) (aNil))) (eVar 0)) (eCall (ofList allV) (aCons (eFr (fComp [2] (iVal (eVar 1)) (gName 2) (tYes) (eCall (f_p_is_integer_from cBook) (aApp (aCons (eC (.int 1)) (aCons (eVar 2) (aNil))) [])))) (aNil)))))
def f_p_are_buys (cBook : Addr) : F := fnD 2 3 3 (b_p_are_buys cBook)
def b_p_Book___init__ (cBook : Addr) : SS :=
  sSeq (sIf (tNot (tOf (eCall (f_p_are_ups cBook) (aApp (aCons (eVar 1) (aNil)) [])))) (sNever) (sNil)) (sSeq (sIf (tNot (tOf (eCall (f_p_are_buys cBook) (aApp (aCons (eCall bLen (aCons (eVar 1) (aNil))) (aCons (eVar 2) (aNil))) [])))) (sNever) (sNil)) (sSeq (sFldC [cBook] "ups" (eVar 0) (eVar 1)) (sSeq (sFldC [cBook] "buys" (eVar 0) (eVar 2)) (sSeq (sFldC [cBook] "pairs_kept" (eVar 0) (eTupZip (eVar 1) (eVar 2))) (sFldC [cBook] "sales" (eVar 0) (eCall bSum (aCons (eVar 2) (aNil))))))))
def f_p_Book___init__ (cBook : Addr) : F := fnD 3 3 3 (b_p_Book___init__ cBook)
def b_w_code (cBook : Addr) : SS :=
  sRet (eMake cBook (f_p_Book___init__ cBook) 3 (aApp (aCons (eCall bTup (aCons (eBin oSub2 (eVar 0) (eC (.str "from"))) (aNil))) (aCons (eCall bTup (aCons (eBin oSub2 (eVar 0) (eC (.str "spent"))) (aNil))) (aNil))) []))
def f_w_code (cBook : Addr) : F := fnD 1 1 3 (b_w_code cBook)
def b_p_Book_with_member (cBook : Addr) : SS :=
  sRet (eMake cBook (f_p_Book___init__ cBook) 3 (aApp (aCons (eTup (aStar (eFld [cBook] "ups" (eVar 0)) (aCons (eVar 1) (aNil)))) (aCons (eTup (aStar (eFld [cBook] "buys" (eVar 0)) (aCons (eVar 2) (aNil)))) (aNil))) []))
def f_p_Book_with_member (cBook : Addr) : F := fnD 3 3 3 (b_p_Book_with_member cBook)
def b_p_Book___eq__ (cBook : Addr) : SS :=
  sRet (eAnd (eCall (bIsi [cBook]) (aCons (eVar 1) (aCons (eC (.gl cBook)) (aNil)))) (eAnd (eBin oEq (eFld [cBook] "ups" (eVar 0)) (eFld [cBook] "ups" (eVar 1))) (eBin oEq (eFld [cBook] "buys" (eVar 0)) (eFld [cBook] "buys" (eVar 1)))))
def f_p_Book___eq__ (cBook : Addr) : F := fnD 2 2 3 (b_p_Book___eq__ cBook)
def b_p_Book_without (cBook : Addr) : SS :=
  sSeq (sAsg (eMk (fLst (aNil))) (gName 2)) (sSeq (sFor (iEnum (eFld [cBook] "ups" (eVar 0))) (gTup 2 (gCons (gName 3) (gCons (gName 4) (gNil)))) (sIf (tOf (eBin oNe (eVar 3) (eVar 1))) (sSeq (sAsg (eIf (tOf (eBin oEq (eVar 4) (eVar 1))) (eBin oSub2 (eFld [cBook] "ups" (eVar 0)) (eVar 1)) (eVar 4)) (gName 5)) (sDrop (eBmL mAppend (eVar 2) (aCons (eBin oSub (eVar 5) (eCall bInt (aCons (eBin oGt (eVar 5) (eVar 1)) (aNil)))) (aNil))))) (sNil))) (sRet (eMake cBook (f_p_Book___init__ cBook) 3 (aApp (aCons (eCall bTup (aCons (eVar 2) (aNil))) (aCons (eTup (aStar (eSlice (eFld [cBook] "buys" (eVar 0)) (none) (some (eVar 1))) (aStar (eSlice (eFld [cBook] "buys" (eVar 0)) (some (eBin oAdd (eVar 1) (eC (.int 1)))) (none)) (aNil)))) (aNil))) []))))
def f_p_Book_without (cBook : Addr) : F := fnD 2 6 3 (b_p_Book_without cBook)
def b_p_Book_with_buy (cBook : Addr) : SS :=
  sRet (eMake cBook (f_p_Book___init__ cBook) 3 (aApp (aCons (eFld [cBook] "ups" (eVar 0)) (aCons (eTup (aStar (eSlice (eFld [cBook] "buys" (eVar 0)) (none) (some (eVar 1))) (aCons (eVar 2) (aStar (eSlice (eFld [cBook] "buys" (eVar 0)) (some (eBin oAdd (eVar 1) (eC (.int 1)))) (none)) (aNil))))) (aNil))) []))
def f_p_Book_with_buy (cBook : Addr) : F := fnD 3 3 3 (b_p_Book_with_buy cBook)
def b_w_gone (cBook : Addr) : SS :=
  sSeq (sAsg (eMk (fLst (aNil))) (gName 2)) (sSeq (sFor (iEnum (eBin oSub2 (eVar 0) (eC (.str "from")))) (gTup 2 (gCons (gName 3) (gCons (gName 4) (gNil)))) (sSeq (sAsg (eIf (tOf (eBin oEq (eVar 4) (eVar 1))) (eBin oSub2 (eBin oSub2 (eVar 0) (eC (.str "from"))) (eVar 1)) (eVar 4)) (gName 5)) (sDrop (eBmL mAppend (eVar 2) (aCons (eIf (tOf (eBin oGt (eVar 5) (eVar 1))) (eBin oSub (eVar 5) (eC (.int 1))) (eVar 5)) (aNil)))))) (sRet (eDict false (pOf [(eC (.str "from"), eFr (fCat (eFr (fSlice (eVar 2) (none) (some (eVar 1)))) (eFr (fSlice (eVar 2) (some (eBin oAdd (eVar 1) (eC (.int 1)))) (none))))), (eC (.str "spent"), eFr (fCat (eFr (fSlice (eBin oSub2 (eVar 0) (eC (.str "spent"))) (none) (some (eVar 1)))) (eFr (fSlice (eBin oSub2 (eVar 0) (eC (.str "spent"))) (some (eBin oAdd (eVar 1) (eC (.int 1)))) (none)))))]))))
def f_w_gone (cBook : Addr) : F := fnD 2 6 3 (b_w_gone cBook)
def b_w_is_made (cBook : Addr) : SS :=
  sRet (eAnd (eCall (bIsi [cBook]) (aCons (eVar 0) (aCons (eC (.gl cBook)) (aNil)))) (eBin oEq (eCall bRepr (aCons (eFr (fLst (aCons (eFld [cBook] "ups" (eVar 0)) (aCons (eFld [cBook] "buys" (eVar 0)) (aNil))))) (aNil))) (eCall bRepr (aCons (eFr (fLst (aCons (eCall bTup (aCons (eBin oSub2 (eVar 1) (eC (.str "from"))) (aNil))) (aCons (eCall bTup (aCons (eBin oSub2 (eVar 1) (eC (.str "spent"))) (aNil))) (aNil))))) (aNil)))))
def f_w_is_made (cBook : Addr) : F := fnD 2 2 3 (b_w_is_made cBook)
def b_w_step_right (cBook : Addr) : SS :=
  sSeq (sAsg (eTup (aCons (eCall (f_w_code cBook) (aApp (aCons (eVar 1) (aNil)) [])) (aCons (eCall (f_w_draw cBook) (aApp (aCons (eVar 0) (aCons (eC (.int 3)) (aNil))) [])) (aCons (eCall bLen (aCons (eBin oSub2 (eVar 1) (eC (.str "from"))) (aNil))) (aNil))))) (gTup 3 (gCons (gName 2) (gCons (gName 3) (gCons (gName 4) (gNil)))))) (sSeq (sAsg (eBin oAdd (eC (.int 1)) (eCall (f_w_draw cBook) (aApp (aCons (eVar 0) (aCons (eC (.int 60)) (aNil))) []))) (gName 5)) (sSeq (sIf (tOr (tOf (eBin oEq (eVar 3) (eC (.int 0)))) (tOf (eBin oEq (eVar 4) (eC (.int 0))))) (sSeq (sAsg (eBin oSub (eCall (f_w_draw cBook) (aApp (aCons (eVar 0) (aCons (eBin oAdd (eVar 4) (eC (.int 1))) (aNil))) [])) (eC (.int 1))) (gName 6)) (sSeq (sAsg (eDict false (pOf [(eC (.str "from"), eFr (fCat (eBin oSub2 (eVar 1) (eC (.str "from"))) (eFr (fLst (aCons (eVar 6) (aNil)))))), (eC (.str "spent"), eFr (fCat (eBin oSub2 (eVar 1) (eC (.str "spent"))) (eFr (fLst (aCons (eVar 5) (aNil))))))])) (gName 7)) (sSeq (sAsg (eFr (fLst (aCons (eMeth cBook "with_member" (f_p_Book_with_member cBook) (eVar 2) (aApp (aCons (eVar 6) (aCons (eVar 5) (aNil))) [])) (aCons (eMeth cBook "with_member" (f_p_Book_with_member cBook) (eVar 2) (aKw (aCons (eVar 5) (aCons (eVar 6) (aNil))) 2 [1, 0])) (aNil))))) (gName 8)) (sIf (tNot (tOf (eBin (oEqO false [cBook] cBook (f_p_Book___eq__ cBook)) (eMeth cBook "without" (f_p_Book_without cBook) (eBin oSub2 (eVar 8) (eC (.int 0))) (aApp (aCons (eVar 4) (aNil)) [])) (eVar 2)))) (sRet (eTup (aCons (eC (.bl false)) (aCons (eVar 7) (aNil))))) (sNil))))) (sIf (tOf (eBin oEq (eVar 3) (eC (.int 1)))) (sSeq (sAsg (eCall (f_w_draw cBook) (aApp (aCons (eVar 0) (aCons (eVar 4) (aNil))) [])) (gName 9)) (sSeq (sAsg (eDict false (pOf [(eC (.str "from"), eBin oSub2 (eVar 1) (eC (.str "from"))), (eC (.str "spent"), eFr (fCat (eFr (fCat (eFr (fSlice (eBin oSub2 (eVar 1) (eC (.str "spent"))) (none) (some (eVar 9)))) (eFr (fLst (aCons (eVar 5) (aNil)))))) (eFr (fSlice (eBin oSub2 (eVar 1) (eC (.str "spent"))) (some (eBin oAdd (eVar 9) (eC (.int 1)))) (none)))))])) (gName 7)) (sAsg (eFr (fLst (aCons (eMeth cBook "with_buy" (f_p_Book_with_buy cBook) (eVar 2) (aApp (aCons (eVar 9) (aCons (eVar 5) (aNil))) [])) (aCons (eMeth cBook "with_buy" (f_p_Book_with_buy cBook) (eVar 2) (aKw (aCons (eVar 5) (aCons (eVar 9) (aNil))) 2 [1, 0])) (aNil))))) (gName 8)))) (sSeq (sAsg (eCall (f_w_draw cBook) (aApp (aCons (eVar 0) (aCons (eVar 4) (aNil))) [])) (gName 9)) (sAsg (eTup (aCons (eCall (f_w_gone cBook) (aApp (aCons (eVar 1) (aCons (eVar 9) (aNil))) [])) (aCons (eFr (fLst (aCons (eMeth cBook "without" (f_p_Book_without cBook) (eVar 2) (aApp (aCons (eVar 9) (aNil)) [])) (aCons (eMeth cBook "without" (f_p_Book_without cBook) (eVar 2) (aKw (aCons (eVar 9) (aNil)) 1 [0])) (aNil))))) (aNil)))) (gTup 2 (gCons (gName 7) (gCons (gName 8) (gNil)))))))) (sSeq (sAsg (eBin oEq (eFr (fComp [11] (iVal (eVar 8)) (gName 11) (tOr (tNot (tOf (eCall (f_w_is_made cBook) (aCons (eVar 11) (aCons (eVar 7) (aNil)))))) (tOf (eBin oNe (eFld [cBook] "sales" (eVar 11)) (eCall bSum (aCons (eBin oSub2 (eVar 7) (eC (.str "spent"))) (aNil)))))) (eVar 11))) (eFr (fLst (aNil)))) (gName 10)) (sRet (eTup (aCons (eAnd (eVar 10) (eCall (f_w_is_made cBook) (aCons (eVar 2) (aCons (eVar 1) (aNil))))) (aCons (eVar 7) (aNil))))))))
def f_w_step_right (cBook : Addr) : F := fnD 2 12 3 (b_w_step_right cBook)
def b_p_Book_with_book (cBook : Addr) : SS :=
  sSeq (sAsg (eCall bLen (aCons (eFld [cBook] "ups" (eVar 0)) (aNil))) (gName 2)) (sSeq (sAsg (eCall bTup (aCons (eFr (fComp [4] (iVal (eFld [cBook] "ups" (eVar 1))) (gName 4) (tYes) (eIf (tOf (eBin oEq (eVar 4) (eC (.int (-1))))) (eC (.int (-1))) (eBin oAdd (eVar 4) (eVar 2))))) (aNil))) (gName 3)) (sRet (eMake cBook (f_p_Book___init__ cBook) 3 (aApp (aCons (eBin oAdd (eFld [cBook] "ups" (eVar 0)) (eVar 3)) (aCons (eBin oAdd (eFld [cBook] "buys" (eVar 0)) (eFld [cBook] "buys" (eVar 1))) (aNil))) []))))
def f_p_Book_with_book (cBook : Addr) : F := fnD 2 5 3 (b_p_Book_with_book cBook)
def b_w_beside (cBook : Addr) : SS :=
  sSeq (sAsg ((if false then eMk else eFr) (fComp [3] (iVal (eBin oSub2 (eVar 1) (eC (.str "from")))) (gName 3) (tYes) (eIf (tOf (eBin oGe (eVar 3) (eC (.int 0)))) (eBin oAdd (eVar 3) (eCall bLen (aCons (eBin oSub2 (eVar 0) (eC (.str "from"))) (aNil)))) (eVar 3)))) (gName 2)) (sRet (eDict false (pOf [(eC (.str "from"), eFr (fCat (eBin oSub2 (eVar 0) (eC (.str "from"))) (eVar 2))), (eC (.str "spent"), eFr (fCat (eBin oSub2 (eVar 0) (eC (.str "spent"))) (eBin oSub2 (eVar 1) (eC (.str "spent")))))])))
def f_w_beside (cBook : Addr) : F := fnD 2 4 3 (b_w_beside cBook)
def b_law (cBook : Addr) : SS :=
  sSeq (sAsg (eCall (f_w_deck cBook) (aApp (aCons (eVar 0) (aNil)) [])) (gName 1)) (sSeq (sFor (iRange1 (eC (.int 5))) (gName 2) (sSeq (sAsg (eCall (f_w_kit cBook) (aApp (aCons (eVar 1) (aCons (eC (.int 2)) (aCons (eC (.int 1)) (aNil)))) [])) (gName 3)) (sSeq (sAsg (eTup (aCons (eCall (f_w_world cBook) (aApp (aCons (eVar 1) (aCons (eVar 3) (aCons (eC (.int 16)) (aNil)))) [])) (aCons (eCall (f_w_world cBook) (aApp (aCons (eVar 1) (aCons (eVar 3) (aCons (eC (.int 8)) (aNil)))) [])) (aNil)))) (gTup 2 (gCons (gName 4) (gCons (gName 5) (gNil))))) (sSeq (sFor (iRange1 (eC (.int 12))) (gName 6) (sSeq (sAsg (eCall (f_w_step_right cBook) (aCons (eVar 1) (aCons (eVar 4) (aNil)))) (gTup 2 (gCons (gName 7) (gCons (gName 4) (gNil))))) (sIf (tNot (tOf (eVar 7))) (sRet (eC (.bl false))) (sNil)))) (sSeq (sAsg (eMeth cBook "with_book" (f_p_Book_with_book cBook) (eCall (f_w_code cBook) (aApp (aCons (eVar 4) (aNil)) [])) (aKw (aCons (eCall (f_w_code cBook) (aApp (aCons (eVar 5) (aNil)) [])) (aNil)) 1 [0])) (gName 8)) (sSeq (sIf (tOr (tNot (tOf (eCall (f_w_is_made cBook) (aCons (eVar 8) (aCons (eCall (f_w_beside cBook) (aApp (aCons (eVar 4) (aCons (eVar 5) (aNil))) [])) (aNil)))))) (tNot (tOf (eBin (oEqO false [cBook] cBook (f_p_Book___eq__ cBook)) (eMeth cBook "with_book" (f_p_Book_with_book cBook) (eCall (f_w_code cBook) (aApp (aCons (eVar 4) (aNil)) [])) (aApp (aCons (eMake cBook (f_p_Book___init__ cBook) 3 (aApp aNil [.tup [], .tup []])) (aNil)) [])) (eCall (f_w_code cBook) (aApp (aCons (eVar 4) (aNil)) [])))))) (sRet (eC (.bl false))) (sNil)) (sIf (tNot (tOf (eBin (oEqO false [cBook] cBook (f_p_Book___eq__ cBook)) (eMeth cBook "with_book" (f_p_Book_with_book cBook) (eMake cBook (f_p_Book___init__ cBook) 3 (aApp aNil [.tup [], .tup []])) (aApp (aCons (eCall (f_w_code cBook) (aApp (aCons (eVar 5) (aNil)) [])) (aNil)) [])) (eCall (f_w_code cBook) (aApp (aCons (eVar 5) (aNil)) []))))) (sRet (eC (.bl false))) (sNil)))))))) (sSeq (sAsg (eMake cBook (f_p_Book___init__ cBook) 3 (aApp (aCons (eTup (aCons (eUn oNeg (eC (.int 1))) (aCons (eC (.int 0)) (aCons (eC (.int 0)) (aCons (eC (.int 1)) (aNil)))))) (aCons (eTup (aCons (eC (.int 30)) (aCons (eC (.int 10)) (aCons (eC (.int 20)) (aCons (eC (.int 10)) (aNil)))))) (aNil))) [])) (gName 9)) (sRet (eAnd (eBin (oEqO false [cBook] cBook (f_p_Book___eq__ cBook)) (eMeth cBook "without" (f_p_Book_without cBook) (eVar 9) (aApp (aCons (eC (.int 1)) (aNil)) [])) (eMake cBook (f_p_Book___init__ cBook) 3 (aApp (aCons (eTup (aCons (eUn oNeg (eC (.int 1))) (aCons (eC (.int 0)) (aCons (eC (.int 0)) (aNil))))) (aCons (eTup (aCons (eC (.int 30)) (aCons (eC (.int 20)) (aCons (eC (.int 10)) (aNil))))) (aNil))) []))) (eBin (oEqO false [cBook] cBook (f_p_Book___eq__ cBook)) (eMeth cBook "without" (f_p_Book_without cBook) (eVar 9) (aApp (aCons (eC (.int 0)) (aNil)) [])) (eMake cBook (f_p_Book___init__ cBook) 3 (aApp (aCons (eTup (aCons (eUn oNeg (eC (.int 1))) (aCons (eUn oNeg (eC (.int 1))) (aCons (eC (.int 0)) (aNil))))) (aCons (eTup (aCons (eC (.int 10)) (aCons (eC (.int 20)) (aCons (eC (.int 10)) (aNil))))) (aNil))) [])))))))
def f_law (cBook : Addr) : F := fnD 1 10 3 (b_law cBook)
/-! ### derivations -/
section
variable {P : Program} {w : World} {K : PySem.W.Frag} {mg : Str → Option Value} {base : Heap} {cBook : Addr}
theorem sc_w_deck : FnScope ["_law_script", "_law_cells", "_law_mixed", "_law_cell"] ["_law_script"] (defScope (top 28)) := ⟨rfl, rfl, rfl, by decide +kernel, rfl, by decide +kernel, by decide +kernel⟩
theorem nd_w_deck : (["_law_script", "_law_cells", "_law_mixed", "_law_cell"] : List Str).Nodup := by decide +kernel
theorem ok_w_deck {f : Addr} {fd : FuncData} (F : Fun K "_law_deck" "_law_deck" (top 28) f fd) (T : Tx K mg cBook) : FnOk P w K mg base CX0 1 f fd ["_law_script"] (fun vs H Q _ => spOf K (fnD 1 4 0 (b_w_deck cBook)) 1 vs H Q E0) := by
  refine fn_ok (k := 0) F sc_w_deck fun cdv A outer s H E hr => ?_
  have hu := u128 hr
  refine dss_cons ?_ ?_
  · exact ds_par (i := 1) (j := 2) rfl nd_w_deck rfl rfl (by decide) rfl rfl (da_cons (de_fr (df_list (gl_of (by kernel_rfl)) T.z_list (de_fr (df_slice (dv_l (i := 0) (by kernel_rfl) (by kernel_rfl)) (dp_none) (dp_some (de_int)))))) (da_cons (de_int) (da_nil))) rfl
  refine dss_cons ?_ ?_
  · refine ds_for (vs := [3]) PassesOwn.never rfl (di_val (dv_l (i := 1) (by kernel_rfl) (by kernel_rfl))) (pg_l (i := 3) nd_w_deck (by kernel_rfl) (by kernel_rfl)) (good_name 3 (by decide)) ?_
    refine dss_one ?_
    exact ds_asg (de_bin od_mod (de_callTy cd_int (gl_of (by kernel_rfl)) T.z_int rfl (da_cons (de_bin od_add (de_bin od_add (de_bin od_mul (dv_l (i := 2) (by kernel_rfl) (by kernel_rfl)) (de_int)) (de_bin od_mod (de_callTy cd_int (gl_of (by kernel_rfl)) T.z_int rfl (da_cons (dv_l (i := 3) (by kernel_rfl) (by kernel_rfl)) (da_nil))) (de_int))) (de_int)) (da_nil))) (de_int)) (dg_l (i := 2) nd_w_deck (by kernel_rfl) (by kernel_rfl))
  refine dss_one ?_
  exact ds_ret (de_dict true (dps_cons (de_str) (de_mk (df_rev (dv_l (i := 1) (by kernel_rfl) (by kernel_rfl)))) (dps_cons (de_str) (dv_l (i := 2) (by kernel_rfl) (by kernel_rfl)) (dps_cons (de_str) (de_int) (dps_nil)))) rfl rfl (by simp) (by decide))
theorem sc_w_draw : FnScope ["_law_deck_here", "_law_below", "_law_turn", "_law_made", "_law_cell"] ["_law_deck_here", "_law_below"] (defScope (top 29)) := ⟨rfl, rfl, rfl, by decide +kernel, rfl, by decide +kernel, by decide +kernel⟩
theorem nd_w_draw : (["_law_deck_here", "_law_below", "_law_turn", "_law_made", "_law_cell"] : List Str).Nodup := by decide +kernel
theorem ok_w_draw {f : Addr} {fd : FuncData} (F : Fun K "_law_draw" "_law_draw" (top 29) f fd) (T : Tx K mg cBook) : FnOk P w K mg base CX0 1 f fd ["_law_deck_here", "_law_below"] (fun vs H Q _ => spOf K (fnD 2 5 3 (b_w_draw cBook)) 2 vs H Q E0) := by
  refine fn_ok (k := 0) F sc_w_draw fun cdv A outer s H E hr => ?_
  have hu := u128 hr
  refine dss_cons ?_ ?_
  · exact ds_asg (de_bin od_add (de_sub (u1 hu) (dv_l (i := 0) (by kernel_rfl) (by kernel_rfl)) (de_str) (fun _ _ => by rfl)) (de_int)) (dg_sub (u1 hu) (dv_l (i := 0) (by kernel_rfl) (by kernel_rfl)) (de_str))
  refine dss_cons ?_ ?_
  · exact ds_par (i := 2) (j := 3) rfl nd_w_draw rfl rfl (by decide) rfl rfl (da_cons (de_sub (u1 hu) (dv_l (i := 0) (by kernel_rfl) (by kernel_rfl)) (de_str) (fun _ _ => by rfl)) (da_cons (de_sub (u1 hu) (dv_l (i := 0) (by kernel_rfl) (by kernel_rfl)) (de_str) (fun _ _ => by rfl)) (da_nil))) rfl
  refine dss_cons ?_ ?_
  · refine ds_if (dt_cmp (od_ne (u64 hu)) (de_sub (u1 hu) (dv_l (i := 0) (by kernel_rfl) (by kernel_rfl)) (de_str) (fun _ _ => by rfl)) (de_fr (df_lst (da_nil))) rfl) ?_ ?_
    · refine dss_cons ?_ ?_
      · exact ds_asg (de_callTy cd_int (gl_of (by kernel_rfl)) T.z_int rfl (da_cons (de_bmL0 PySem.F.plainAttrs_list PySem.F.slot_list_pop PySem.F.type_list_pop md_pop (de_sub (u1 hu) (dv_l (i := 0) (by kernel_rfl) (by kernel_rfl)) (de_str) (fun _ _ => by rfl))) (da_nil))) (dg_l (i := 4) nd_w_draw (by kernel_rfl) (by kernel_rfl))
      refine dss_cons ?_ ?_
      · refine ds_if (dt_cmp (od_ge) (dv_l (i := 4) (by kernel_rfl) (by kernel_rfl)) (de_bin od_pow (de_int) (de_int)) rfl) ?_ ?_
        · refine dss_cons ?_ ?_
          · exact ds_expr (de_bmL PySem.F.plainAttrs_list PySem.F.slot_list_append PySem.F.type_list_append md_append (de_sub (u1 hu) (dv_l (i := 0) (by kernel_rfl) (by kernel_rfl)) (de_str) (fun _ _ => by rfl)) (da_cons (de_bin od_fdiv (dv_l (i := 4) (by kernel_rfl) (by kernel_rfl)) (dv_l (i := 1) (by kernel_rfl) (by kernel_rfl))) (da_nil)))
          refine dss_one ?_
          exact ds_ret (de_bin od_mod (dv_l (i := 4) (by kernel_rfl) (by kernel_rfl)) (dv_l (i := 1) (by kernel_rfl) (by kernel_rfl)))
        · exact dss_nil
      refine dss_one ?_
      exact ds_asg (de_bin od_add (dv_l (i := 3) (by kernel_rfl) (by kernel_rfl)) (de_bin od_mod (dv_l (i := 4) (by kernel_rfl) (by kernel_rfl)) (de_int))) (dg_l (i := 3) nd_w_draw (by kernel_rfl) (by kernel_rfl))
    · exact dss_nil
  refine dss_cons ?_ ?_
  · exact ds_asg (de_bin od_mod (de_bin od_mul (de_callTy cd_int (gl_of (by kernel_rfl)) T.z_int rfl (da_cons (de_bin od_add (de_bin od_add (dv_l (i := 3) (by kernel_rfl) (by kernel_rfl)) (de_bin od_mul (de_bin od_mul (de_int) (dv_l (i := 2) (by kernel_rfl) (by kernel_rfl))) (dv_l (i := 2) (by kernel_rfl) (by kernel_rfl)))) (de_int)) (da_nil))) (de_int)) (de_int)) (dg_l (i := 3) nd_w_draw (by kernel_rfl) (by kernel_rfl))
  refine dss_cons ?_ ?_
  · exact ds_asg (de_bin od_mod (de_callTy cd_int (gl_of (by kernel_rfl)) T.z_int rfl (da_cons (de_bin od_add (de_bin od_add (de_bin od_mul (dv_l (i := 3) (by kernel_rfl) (by kernel_rfl)) (dv_l (i := 3) (by kernel_rfl) (by kernel_rfl))) (de_bin od_mul (de_int) (dv_l (i := 2) (by kernel_rfl) (by kernel_rfl)))) (de_int)) (da_nil))) (de_int)) (dg_l (i := 3) nd_w_draw (by kernel_rfl) (by kernel_rfl))
  refine dss_one ?_
  exact ds_ret (de_bin od_mod (de_bin od_fdiv (de_bin od_mod (de_callTy cd_int (gl_of (by kernel_rfl)) T.z_int rfl (da_cons (de_bin od_mul (dv_l (i := 3) (by kernel_rfl) (by kernel_rfl)) (de_int)) (da_nil))) (de_int)) (de_int)) (dv_l (i := 1) (by kernel_rfl) (by kernel_rfl)))
theorem sc_w_kit : FnScope ["_law_deck_here", "_law_most", "_law_deep", "_law_count", "_law_size", "_law_low", "_law_extra", "_law_lot", "_law_found", "_law_k", "_law_x"] ["_law_deck_here", "_law_most", "_law_deep"] (defScope (top 31)) := ⟨rfl, rfl, rfl, by decide +kernel, rfl, by decide +kernel, by decide +kernel⟩
theorem nd_w_kit : (["_law_deck_here", "_law_most", "_law_deep", "_law_count", "_law_size", "_law_low", "_law_extra", "_law_lot", "_law_found", "_law_k", "_law_x"] : List Str).Nodup := by decide +kernel
theorem ok_w_kit {f : Addr} {fd : FuncData} (F : Fun K "_law_kit" "_law_kit" (top 31) f fd) (T : Tx K mg cBook) (d_w_draw : FOk P w K mg base 1 "_law_draw" (f_w_draw cBook) 2) : FnOk P w K mg base CX0 2 f fd ["_law_deck_here", "_law_most", "_law_deep"] (fun vs H Q _ => spOf K (fnD 3 11 3 (b_w_kit cBook)) 3 vs H Q E0) := by
  refine fn_ok (k := 1) F sc_w_kit fun cdv A outer s H E hr => ?_
  have hu := u128 hr
  refine dss_cons ?_ ?_
  · exact ds_par (i := 3) (j := 4) rfl nd_w_kit rfl rfl (by decide) rfl rfl (da_cons (de_bin od_add (de_int) (de_call (d_w_draw.cal) (hr.mono (by decide)) (gl_of (by kernel_rfl)) (da_cons (dv_c (i := 0) (by kernel_rfl) (by kernel_rfl)) (da_cons (dv_l (i := 1) (by kernel_rfl) (by kernel_rfl)) (da_nil))))) (da_cons (de_bin od_add (de_int) (de_call (d_w_draw.cal) (hr.mono (by decide)) (gl_of (by kernel_rfl)) (da_cons (dv_c (i := 0) (by kernel_rfl) (by kernel_rfl)) (da_cons (de_bin od_add (dv_l (i := 2) (by kernel_rfl) (by kernel_rfl)) (de_int)) (da_nil))))) (da_nil))) rfl
  refine dss_cons ?_ ?_
  · exact ds_par3 (i := 5) (j := 6) (l := 7) rfl nd_w_kit rfl rfl rfl (by decide) (by decide) (by decide) rfl rfl rfl (da_cons (de_bin od_add (de_int) (de_call (d_w_draw.cal) (hr.mono (by decide)) (gl_of (by kernel_rfl)) (da_cons (dv_c (i := 0) (by kernel_rfl) (by kernel_rfl)) (da_cons (de_int) (da_nil))))) (da_cons (de_call (d_w_draw.cal) (hr.mono (by decide)) (gl_of (by kernel_rfl)) (da_cons (dv_c (i := 0) (by kernel_rfl) (by kernel_rfl)) (da_cons (de_int) (da_nil)))) (da_cons (de_fr (df_comp (own := [("_law_k", 9)]) rfl nd_w_kit (di_range1 (gl_of (by kernel_rfl)) T.z_range (dv_l (i := 4) (by kernel_rfl) (by kernel_rfl))) (blkOk_by (by kernel_rfl)) (fun s H C cl fp => pg_l (i := 9) nd_w_kit (by kernel_rfl) (by kernel_rfl)) (good_name 9 (by decide)) (fun s H C cl fp => dts_nil) (fun s H C cl fp => de_call (d_w_draw.cal) (hr.mono (by decide)) (gl_of (by kernel_rfl)) (da_cons (dv_c (i := 0) (by kernel_rfl) (by kernel_rfl)) (da_cons (de_int) (da_nil)))))) (da_nil)))) rfl
  refine dss_cons ?_ ?_
  · exact ds_asg (de_mk (df_lst (da_cons (de_tup (da_cons (dv_l (i := 5) (by kernel_rfl) (by kernel_rfl)) (da_cons (de_int) (da_cons (dv_l (i := 6) (by kernel_rfl) (by kernel_rfl)) (da_cons (de_callTy cd_tup (gl_of (by kernel_rfl)) T.z_tuple rfl (da_cons (dv_l (i := 7) (by kernel_rfl) (by kernel_rfl)) (da_nil))) (da_nil)))))) (da_nil)))) (dg_l (i := 8) nd_w_kit (by kernel_rfl) (by kernel_rfl))
  refine dss_cons ?_ ?_
  · refine ds_for (vs := [9]) PassesOwn.never rfl (di_range2 (gl_of (by kernel_rfl)) T.z_range (de_int) (dv_l (i := 3) (by kernel_rfl) (by kernel_rfl))) (pg_l (i := 9) nd_w_kit (by kernel_rfl) (by kernel_rfl)) (good_name 9 (by decide)) ?_
    refine dss_cons ?_ ?_
    · exact ds_par (i := 5) (j := 6) rfl nd_w_kit rfl rfl (by decide) rfl rfl (da_cons (de_bin od_add (de_bin od_add (dv_l (i := 5) (by kernel_rfl) (by kernel_rfl)) (de_int)) (de_call (d_w_draw.cal) (hr.mono (by decide)) (gl_of (by kernel_rfl)) (da_cons (dv_c (i := 0) (by kernel_rfl) (by kernel_rfl)) (da_cons (de_int) (da_nil))))) (da_cons (de_bin od_add (dv_l (i := 6) (by kernel_rfl) (by kernel_rfl)) (de_call (d_w_draw.cal) (hr.mono (by decide)) (gl_of (by kernel_rfl)) (da_cons (dv_c (i := 0) (by kernel_rfl) (by kernel_rfl)) (da_cons (de_int) (da_nil))))) (da_nil))) rfl
    refine dss_cons ?_ ?_
    · exact ds_setLc (own := [("_law_x", 10)]) (i := 7) rfl nd_w_kit rfl rfl rfl (di_val (dv_l (i := 7) (by kernel_rfl) (by kernel_rfl))) (blkOk_by (by kernel_rfl)) (fun s H C cl fp => pg_l (i := 10) nd_w_kit (by kernel_rfl) (by kernel_rfl)) (good_name 10 (by decide)) (fun s H C cl fp => dts_nil) (fun s H C cl fp => de_bin od_add (dv_l (i := 10) (by kernel_rfl) (by kernel_rfl)) (de_bin od_mul (de_call (d_w_draw.cal) (hr.mono (by decide)) (gl_of (by kernel_rfl)) (da_cons (dv_c (i := 0) (by kernel_rfl) (by kernel_rfl)) (da_cons (de_int) (da_nil)))) (de_callTy cd_int (gl_of (by kernel_rfl)) T.z_int rfl (da_cons (de_cmp (od_eq (u64 hu)) (de_call (d_w_draw.cal) (hr.mono (by decide)) (gl_of (by kernel_rfl)) (da_cons (dv_c (i := 0) (by kernel_rfl) (by kernel_rfl)) (da_cons (de_int) (da_nil)))) (de_int) rfl) (da_nil))))) false
    refine dss_one ?_
    exact ds_expr (de_bmL PySem.F.plainAttrs_list PySem.F.slot_list_append PySem.F.type_list_append md_append (dv_l (i := 8) (by kernel_rfl) (by kernel_rfl)) (da_cons (de_tup (da_cons (dv_l (i := 5) (by kernel_rfl) (by kernel_rfl)) (da_cons (de_bin od_add (de_int) (de_call (d_w_draw.cal) (hr.mono (by decide)) (gl_of (by kernel_rfl)) (da_cons (dv_c (i := 0) (by kernel_rfl) (by kernel_rfl)) (da_cons (de_int) (da_nil))))) (da_cons (dv_l (i := 6) (by kernel_rfl) (by kernel_rfl)) (da_cons (de_callTy cd_tup (gl_of (by kernel_rfl)) T.z_tuple rfl (da_cons (dv_l (i := 7) (by kernel_rfl) (by kernel_rfl)) (da_nil))) (da_nil)))))) (da_nil)))
  refine dss_one ?_
  exact ds_ret (de_callTy cd_tup (gl_of (by kernel_rfl)) T.z_tuple rfl (da_cons (dv_l (i := 8) (by kernel_rfl) (by kernel_rfl)) (da_nil)))
theorem sc_w_pick : FnScope ["_law_deck_here", "_law_some"] ["_law_deck_here", "_law_some"] (defScope (top 30)) := ⟨rfl, rfl, rfl, by decide +kernel, rfl, by decide +kernel, by decide +kernel⟩
theorem nd_w_pick : (["_law_deck_here", "_law_some"] : List Str).Nodup := by decide +kernel
theorem ok_w_pick {f : Addr} {fd : FuncData} (F : Fun K "_law_pick" "_law_pick" (top 30) f fd) (T : Tx K mg cBook) (d_w_draw : FOk P w K mg base 1 "_law_draw" (f_w_draw cBook) 2) : FnOk P w K mg base CX0 2 f fd ["_law_deck_here", "_law_some"] (fun vs H Q _ => spOf K (fnD 2 2 3 (b_w_pick cBook)) 2 vs H Q E0) := by
  refine fn_ok (k := 1) F sc_w_pick fun cdv A outer s H E hr => ?_
  have hu := u128 hr
  refine dss_one ?_
  exact ds_ret (de_sub (u1 hu) (dv_l (i := 1) (by kernel_rfl) (by kernel_rfl)) (de_call (d_w_draw.cal) (hr.mono (by decide)) (gl_of (by kernel_rfl)) (da_cons (dv_l (i := 0) (by kernel_rfl) (by kernel_rfl)) (da_cons (de_callB (cd_len) (gl_of (by kernel_rfl)) T.z_len rfl (da_cons (dv_l (i := 1) (by kernel_rfl) (by kernel_rfl)) (da_nil))) (da_nil)))) (fun _ _ => by rfl))
theorem sc_w_world : FnScope ["_law_deck_here", "_law_kit_here", "_law_most", "_law_w", "_law_lots", "_law_k", "_law_near", "_law_line"] ["_law_deck_here", "_law_kit_here", "_law_most"] (defScope (top 32)) := ⟨rfl, rfl, rfl, by decide +kernel, rfl, by decide +kernel, by decide +kernel⟩
theorem nd_w_world : (["_law_deck_here", "_law_kit_here", "_law_most", "_law_w", "_law_lots", "_law_k", "_law_near", "_law_line"] : List Str).Nodup := by decide +kernel
theorem ok_w_world {f : Addr} {fd : FuncData} (F : Fun K "_law_world" "_law_world" (top 32) f fd) (T : Tx K mg cBook) (d_w_draw : FOk P w K mg base 1 "_law_draw" (f_w_draw cBook) 2) (d_w_pick : FOk P w K mg base 2 "_law_pick" (f_w_pick cBook) 2) : FnOk P w K mg base CX0 3 f fd ["_law_deck_here", "_law_kit_here", "_law_most"] (fun vs H Q _ => spOf K (fnD 3 8 3 (b_w_world cBook)) 3 vs H Q E0) := by
  refine fn_ok (k := 2) F sc_w_world fun cdv A outer s H E hr => ?_
  have hu := u128 hr
  refine dss_cons ?_ ?_
  · exact ds_asg (de_dict false (dps_cons (de_str) (de_mk (df_lst (da_nil))) (dps_cons (de_str) (de_mk (df_lst (da_nil))) (dps_nil))) rfl rfl (by simp) (by decide)) (dg_l (i := 3) nd_w_world (by kernel_rfl) (by kernel_rfl))
  refine dss_cons ?_ ?_
  · exact ds_asg (de_fr (df_cat (de_fr (df_cat (de_fr (df_comp (own := [("_law_line", 7)]) rfl nd_w_world (di_val (dv_l (i := 1) (by kernel_rfl) (by kernel_rfl))) (blkOk_by (by kernel_rfl)) (fun s H C cl fp => pg_l (i := 7) nd_w_world (by kernel_rfl) (by kernel_rfl)) (good_name 7 (by decide)) (fun s H C cl fp => dts_nil) (fun s H C cl fp => de_sub (u1 hu) (dv_l (i := 7) (by kernel_rfl) (by kernel_rfl)) (de_int) (fun _ _ => by rfl)))) (de_fr (df_comp (own := [("_law_line", 7)]) rfl nd_w_world (di_val (dv_l (i := 1) (by kernel_rfl) (by kernel_rfl))) (blkOk_by (by kernel_rfl)) (fun s H C cl fp => pg_l (i := 7) nd_w_world (by kernel_rfl) (by kernel_rfl)) (good_name 7 (by decide)) (fun s H C cl fp => dts_nil) (fun s H C cl fp => de_bin od_add (de_sub (u1 hu) (dv_l (i := 7) (by kernel_rfl) (by kernel_rfl)) (de_int) (fun _ _ => by rfl)) (de_int)))))) (de_fr (df_lst (da_cons (de_bin od_add (de_sub (u1 hu) (de_sub (u1 hu) (dv_l (i := 1) (by kernel_rfl) (by kernel_rfl)) (de_un od_neg (de_int)) (fun _ _ => by rfl)) (de_int) (fun _ _ => by rfl)) (de_int)) (da_nil)))))) (dg_l (i := 4) nd_w_world (by kernel_rfl) (by kernel_rfl))
  refine dss_cons ?_ ?_
  · refine ds_for (vs := [5]) PassesOwn.never rfl (di_range1 (gl_of (by kernel_rfl)) T.z_range (de_call (d_w_draw.cal) (hr.mono (by decide)) (gl_of (by kernel_rfl)) (da_cons (dv_l (i := 0) (by kernel_rfl) (by kernel_rfl)) (da_cons (de_bin od_add (dv_l (i := 2) (by kernel_rfl) (by kernel_rfl)) (de_int)) (da_nil))))) (pg_l (i := 5) nd_w_world (by kernel_rfl) (by kernel_rfl)) (good_name 5 (by decide)) ?_
    refine dss_cons ?_ ?_
    · exact ds_asg (de_if (dt_cmp (od_gt) (de_call (d_w_draw.cal) (hr.mono (by decide)) (gl_of (by kernel_rfl)) (da_cons (dv_l (i := 0) (by kernel_rfl) (by kernel_rfl)) (da_cons (de_int) (da_nil)))) (de_int) rfl) (de_callB (cd_max2 rfl) (gl_of (by kernel_rfl)) T.z_max rfl (da_cons (de_int) (da_cons (de_bin od_sub (de_bin od_sub (dv_l (i := 5) (by kernel_rfl) (by kernel_rfl)) (de_int)) (de_call (d_w_draw.cal) (hr.mono (by decide)) (gl_of (by kernel_rfl)) (da_cons (dv_l (i := 0) (by kernel_rfl) (by kernel_rfl)) (da_cons (de_int) (da_nil))))) (da_nil)))) (de_bin od_sub (de_call (d_w_draw.cal) (hr.mono (by decide)) (gl_of (by kernel_rfl)) (da_cons (dv_l (i := 0) (by kernel_rfl) (by kernel_rfl)) (da_cons (de_bin od_add (dv_l (i := 5) (by kernel_rfl) (by kernel_rfl)) (de_int)) (da_nil)))) (de_int))) (dg_l (i := 6) nd_w_world (by kernel_rfl) (by kernel_rfl))
    refine dss_cons ?_ ?_
    · exact ds_expr (de_bmL PySem.F.plainAttrs_list PySem.F.slot_list_append PySem.F.type_list_append md_append (de_sub (u1 hu) (dv_l (i := 3) (by kernel_rfl) (by kernel_rfl)) (de_str) (fun _ _ => by rfl)) (da_cons (de_if (dt_cmp (od_gt) (dv_l (i := 5) (by kernel_rfl) (by kernel_rfl)) (de_int) rfl) (dv_l (i := 6) (by kernel_rfl) (by kernel_rfl)) (de_un od_neg (de_int))) (da_nil)))
    refine dss_one ?_
    exact ds_expr (de_bmL PySem.F.plainAttrs_list PySem.F.slot_list_append PySem.F.type_list_append md_append (de_sub (u1 hu) (dv_l (i := 3) (by kernel_rfl) (by kernel_rfl)) (de_str) (fun _ _ => by rfl)) (da_cons (de_call (d_w_pick.cal) (hr.mono (by decide)) (gl_of (by kernel_rfl)) (da_cons (dv_l (i := 0) (by kernel_rfl) (by kernel_rfl)) (da_cons (dv_l (i := 4) (by kernel_rfl) (by kernel_rfl)) (da_nil)))) (da_nil)))
  refine dss_one ?_
  exact ds_ret (dv_l (i := 3) (by kernel_rfl) (by kernel_rfl))
theorem sc_p_is_integer : FnScope ["thing"] ["thing"] (defScope (top 8)) := ⟨rfl, rfl, rfl, by decide +kernel, rfl, by decide +kernel, by decide +kernel⟩
theorem nd_p_is_integer : (["thing"] : List Str).Nodup := by decide +kernel
theorem ok_p_is_integer {f : Addr} {fd : FuncData} (F : Fun K "is_integer" "is_integer" (top 8) f fd) (T : Tx K mg cBook) : FnOk P w K mg base CX0 1 f fd ["thing"] (fun vs H Q _ => spOf K (fnD 1 1 3 (b_p_is_integer cBook)) 1 vs H Q E0) := by
  refine fn_ok (k := 0) F sc_p_is_integer fun cdv A outer s H E hr => ?_
  have hu := u128 hr
  refine dss_one ?_
  exact ds_ret (de_and (de_callB (cd_isi (isi0 _)) (gl_of (by kernel_rfl)) T.z_isinstance rfl (da_cons (dv_l (i := 0) (by kernel_rfl) (by kernel_rfl)) (da_cons (de_ty (gl_of (by kernel_rfl)) T.z_int rfl) (da_nil)))) (de_one (de_not (de_callB (cd_isi (isi0 _)) (gl_of (by kernel_rfl)) T.z_isinstance rfl (da_cons (dv_l (i := 0) (by kernel_rfl) (by kernel_rfl)) (da_cons (de_ty (gl_of (by kernel_rfl)) T.z_bool rfl) (da_nil)))))))
theorem sc_p_are_ups : FnScope ["thing", "member", "up"] ["thing"] (defScope (top 19)) := ⟨rfl, rfl, rfl, by decide +kernel, rfl, by decide +kernel, by decide +kernel⟩
theorem nd_p_are_ups : (["thing", "member", "up"] : List Str).Nodup := by decide +kernel
theorem ok_p_are_ups {f : Addr} {fd : FuncData} (F : Fun K "are_ups" "are_ups" (top 19) f fd) (T : Tx K mg cBook) (d_p_is_integer : FOk P w K mg base 1 "is_integer" (f_p_is_integer cBook) 1) : FnOk P w K mg base CX0 2 f fd ["thing"] (fun vs H Q _ => spOf K (fnD 1 3 3 (b_p_are_ups cBook)) 1 vs H Q E0) := by
  refine fn_ok (k := 1) F sc_p_are_ups fun cdv A outer s H E hr => ?_
  have hu := u128 hr
  refine dss_cons ?_ ?_
  · refine ds_if (dt_not (dt_val (de_callB (cd_isi (isi0 _)) (gl_of (by kernel_rfl)) T.z_isinstance rfl (da_cons (dv_l (i := 0) (by kernel_rfl) (by kernel_rfl)) (da_cons (de_ty (gl_of (by kernel_rfl)) T.z_tuple rfl) (da_nil)))))) ?_ ?_
    · refine dss_one ?_
      exact ds_ret (de_bl)
    · exact dss_nil
  refine dss_one ?_
  exact ds_ret (de_callB (cd_all rfl) (gl_of (by kernel_rfl)) T.z_all rfl (da_cons (de_fr (df_comp (own := [("member", 1), ("up", 2)]) rfl nd_p_are_ups (di_enum (gl_of (by kernel_rfl)) T.z_enumerate (dv_l (i := 0) (by kernel_rfl) (by kernel_rfl))) (blkOk_by (by kernel_rfl)) (fun s H C cl fp => pg_seq rfl (pgs_cons (pg_l (i := 1) nd_p_are_ups (by kernel_rfl) (by kernel_rfl)) (pgs_cons (pg_l (i := 2) nd_p_are_ups (by kernel_rfl) (by kernel_rfl)) (pgs_nil)))) (good_tup (good_cons (good_name 1 (by decide)) (good_cons (good_name 2 (by decide)) (good_nil)))) (fun s H C cl fp => dts_nil) (fun s H C cl fp => de_and (de_call (d_p_is_integer.cal) (hr.mono (by decide)) (gl_of (by kernel_rfl)) (da_cons (dv_l (i := 2) (by kernel_rfl) (by kernel_rfl)) (da_nil))) (de_one (de_chain (od_le) (od_lt) (T_gint (gl_of (by kernel_rfl)) T.c_NOBODY) (dv_l (i := 2) (by kernel_rfl) (by kernel_rfl)) (dv_l (i := 1) (by kernel_rfl) (by kernel_rfl))))))) (da_nil)))
theorem sc_p_is_integer_from : FnScope ["least", "thing"] ["least", "thing"] (defScope (top 9)) := ⟨rfl, rfl, rfl, by decide +kernel, rfl, by decide +kernel, by decide +kernel⟩
theorem nd_p_is_integer_from : (["least", "thing"] : List Str).Nodup := by decide +kernel
theorem ok_p_is_integer_from {f : Addr} {fd : FuncData} (F : Fun K "is_integer_from" "is_integer_from" (top 9) f fd) (T : Tx K mg cBook) (d_p_is_integer : FOk P w K mg base 1 "is_integer" (f_p_is_integer cBook) 1) : FnOk P w K mg base CX0 2 f fd ["least", "thing"] (fun vs H Q _ => spOf K (fnD 2 2 3 (b_p_is_integer_from cBook)) 2 vs H Q E0) := by
  refine fn_ok (k := 1) F sc_p_is_integer_from fun cdv A outer s H E hr => ?_
  have hu := u128 hr
  refine dss_one ?_
  exact ds_ret (de_and (de_call (d_p_is_integer.cal) (hr.mono (by decide)) (gl_of (by kernel_rfl)) (da_cons (dv_l (i := 1) (by kernel_rfl) (by kernel_rfl)) (da_nil))) (de_one (de_cmp (od_ge) (dv_l (i := 1) (by kernel_rfl) (by kernel_rfl)) (dv_l (i := 0) (by kernel_rfl) (by kernel_rfl)) rfl)))
theorem sc_p_are_buys : FnScope ["many", "thing", "buy"] ["many", "thing"] (defScope (top 20)) := ⟨rfl, rfl, rfl, by decide +kernel, rfl, by decide +kernel, by decide +kernel⟩
theorem nd_p_are_buys : (["many", "thing", "buy"] : List Str).Nodup := by decide +kernel
theorem ok_p_are_buys {f : Addr} {fd : FuncData} (F : Fun K "are_buys" "are_buys" (top 20) f fd) (T : Tx K mg cBook) (d_p_is_integer_from : FOk P w K mg base 2 "is_integer_from" (f_p_is_integer_from cBook) 2) : FnOk P w K mg base CX0 3 f fd ["many", "thing"] (fun vs H Q _ => spOf K (fnD 2 3 3 (b_p_are_buys cBook)) 2 vs H Q E0) := by
  refine fn_ok (k := 2) F sc_p_are_buys fun cdv A outer s H E hr => ?_
  have hu := u128 hr
  refine dss_one ?_
  exact ds_ret (de_and (de_callB (cd_isi (isi0 _)) (gl_of (by kernel_rfl)) T.z_isinstance rfl (da_cons (dv_l (i := 1) (by kernel_rfl) (by kernel_rfl)) (da_cons (de_ty (gl_of (by kernel_rfl)) T.z_tuple rfl) (da_nil)))) (de_and (de_cmp (od_eq (u64 hu)) (de_callB (cd_len) (gl_of (by kernel_rfl)) T.z_len rfl (da_cons (dv_l (i := 1) (by kernel_rfl) (by kernel_rfl)) (da_nil))) (dv_l (i := 0) (by kernel_rfl) (by kernel_rfl)) rfl) (de_one (de_callB (cd_all rfl) (gl_of (by kernel_rfl)) T.z_all rfl (da_cons (de_fr (df_comp (own := [("buy", 2)]) rfl nd_p_are_buys (di_val (dv_l (i := 1) (by kernel_rfl) (by kernel_rfl))) (blkOk_by (by kernel_rfl)) (fun s H C cl fp => pg_l (i := 2) nd_p_are_buys (by kernel_rfl) (by kernel_rfl)) (good_name 2 (by decide)) (fun s H C cl fp => dts_nil) (fun s H C cl fp => de_call (d_p_is_integer_from.cal) (hr.mono (by decide)) (gl_of (by kernel_rfl)) (da_cons (de_int) (da_cons (dv_l (i := 2) (by kernel_rfl) (by kernel_rfl)) (da_nil)))))) (da_nil))))))
theorem sc_p_Book___init__ : FnScope ["self", "ups", "buys"] ["self", "ups", "buys"] (defScope (clsAt (top 21) 0)) := ⟨rfl, rfl, rfl, by decide +kernel, rfl, by decide +kernel, by decide +kernel⟩
theorem nd_p_Book___init__ : (["self", "ups", "buys"] : List Str).Nodup := by decide +kernel
theorem ok_p_Book___init__ {f : Addr} {fd : FuncData} {dV : Value} (F : FunV K "__init__" "Book.__init__" (clsAt (top 21) 0) dV f fd) (T : Tx K mg cBook) (d_p_are_ups : FOk P w K mg base 2 "are_ups" (f_p_are_ups cBook) 1) (d_p_are_buys : FOk P w K mg base 3 "are_buys" (f_p_are_buys cBook) 2) : FnOk P w K mg base CX0 4 f fd ["self", "ups", "buys"] (fun vs H Q _ => spOf K (fnD 3 3 3 (b_p_Book___init__ cBook)) 3 vs H Q E0) := by
  refine fnV_ok (k := 3) F sc_p_Book___init__ fun cdv A outer s H E hr => ?_
  have hu := u128 hr
  refine dss_cons ?_ ?_
  · refine ds_if (dt_not (dt_val (de_call (d_p_are_ups.cal) (hr.mono (by decide)) (gl_of (by kernel_rfl)) (da_cons (dv_l (i := 1) (by kernel_rfl) (by kernel_rfl)) (da_nil))))) ?_ ?_
    · refine dss_one ?_
      exact ds_never
    · exact dss_nil
  refine dss_cons ?_ ?_
  · refine ds_if (dt_not (dt_val (de_call (d_p_are_buys.cal) (hr.mono (by decide)) (gl_of (by kernel_rfl)) (da_cons (de_callB (cd_len) (gl_of (by kernel_rfl)) T.z_len rfl (da_cons (dv_l (i := 1) (by kernel_rfl) (by kernel_rfl)) (da_nil))) (da_cons (dv_l (i := 2) (by kernel_rfl) (by kernel_rfl)) (da_nil)))))) ?_ ?_
    · refine dss_one ?_
      exact ds_never
    · exact dss_nil
  refine dss_cons ?_ ?_
  · exact ds_fld (T.q_Book.fld T.f_Book_ups) (dv_l (i := 0) (by kernel_rfl) (by kernel_rfl)) (dv_l (i := 1) (by kernel_rfl) (by kernel_rfl))
  refine dss_cons ?_ ?_
  · exact ds_fld (T.q_Book.fld T.f_Book_buys) (dv_l (i := 0) (by kernel_rfl) (by kernel_rfl)) (dv_l (i := 2) (by kernel_rfl) (by kernel_rfl))
  refine dss_cons ?_ ?_
  · exact ds_fld (T.q_Book.fld T.f_Book_pairs_kept) (dv_l (i := 0) (by kernel_rfl) (by kernel_rfl)) (de_tupZip rfl (gl_of (by kernel_rfl)) T.z_tuple (gl_of (by kernel_rfl)) T.z_zip (dv_l (i := 1) (by kernel_rfl) (by kernel_rfl)) (dv_l (i := 2) (by kernel_rfl) (by kernel_rfl)))
  refine dss_one ?_
  exact ds_fld (T.q_Book.fld T.f_Book_sales) (dv_l (i := 0) (by kernel_rfl) (by kernel_rfl)) (de_callB (cd_sumS rfl) (gl_of (by kernel_rfl)) T.z_sum rfl (da_cons (dv_l (i := 2) (by kernel_rfl) (by kernel_rfl)) (da_nil)))
theorem sc_w_code : FnScope ["_law_w"] ["_law_w"] (defScope (top 33)) := ⟨rfl, rfl, rfl, by decide +kernel, rfl, by decide +kernel, by decide +kernel⟩
theorem nd_w_code : (["_law_w"] : List Str).Nodup := by decide +kernel
theorem ok_w_code {f : Addr} {fd : FuncData} (F : Fun K "_law_code" "_law_code" (top 33) f fd) (T : Tx K mg cBook) (k_p_Book___init__0 : COk P w K mg base 4 "Book" cBook (f_p_Book___init__ cBook) 3 []) : FnOk P w K mg base CX0 6 f fd ["_law_w"] (fun vs H Q _ => spOf K (fnD 1 1 3 (b_w_code cBook)) 1 vs H Q E0) := by
  refine fn_ok (k := 5) F sc_w_code fun cdv A outer s H E hr => ?_
  have hu := u128 hr
  refine dss_one ?_
  exact ds_ret (de_make k_p_Book___init__0.mak (hr.mono (by decide)) (gl_of (by kernel_rfl)) (da_cons (de_callTy cd_tup (gl_of (by kernel_rfl)) T.z_tuple rfl (da_cons (de_sub (u1 hu) (dv_l (i := 0) (by kernel_rfl) (by kernel_rfl)) (de_str) (fun _ _ => by rfl)) (da_nil))) (da_cons (de_callTy cd_tup (gl_of (by kernel_rfl)) T.z_tuple rfl (da_cons (de_sub (u1 hu) (dv_l (i := 0) (by kernel_rfl) (by kernel_rfl)) (de_str) (fun _ _ => by rfl)) (da_nil))) (da_nil))))
theorem sc_p_Book_with_member : FnScope ["self", "up", "buy"] ["self", "up", "buy"] (defScope (clsAt (top 21) 14)) := ⟨rfl, rfl, rfl, by decide +kernel, rfl, by decide +kernel, by decide +kernel⟩
theorem nd_p_Book_with_member : (["self", "up", "buy"] : List Str).Nodup := by decide +kernel
theorem ok_p_Book_with_member {f : Addr} {fd : FuncData} {dV : Value} (F : FunV K "with_member" "Book.with_member" (clsAt (top 21) 14) dV f fd) (T : Tx K mg cBook) (k_p_Book___init__0 : COk P w K mg base 4 "Book" cBook (f_p_Book___init__ cBook) 3 []) : FnOk P w K mg base CX0 6 f fd ["self", "up", "buy"] (fun vs H Q _ => spOf K (fnD 3 3 3 (b_p_Book_with_member cBook)) 3 vs H Q E0) := by
  refine fnV_ok (k := 5) F sc_p_Book_with_member fun cdv A outer s H E hr => ?_
  have hu := u128 hr
  refine dss_one ?_
  exact ds_ret (de_make k_p_Book___init__0.mak (hr.mono (by decide)) (gl_of (by kernel_rfl)) (da_cons (de_tup (da_star (de_fld (T.q_Book.fld T.f_Book_ups) (dv_l (i := 0) (by kernel_rfl) (by kernel_rfl))) (da_cons (dv_l (i := 1) (by kernel_rfl) (by kernel_rfl)) (da_nil)))) (da_cons (de_tup (da_star (de_fld (T.q_Book.fld T.f_Book_buys) (dv_l (i := 0) (by kernel_rfl) (by kernel_rfl))) (da_cons (dv_l (i := 2) (by kernel_rfl) (by kernel_rfl)) (da_nil)))) (da_nil))))
theorem sc_p_Book___eq__ : FnScope ["self", "other"] ["self", "other"] (defScope (clsAt (top 21) 4)) := ⟨rfl, rfl, rfl, by decide +kernel, rfl, by decide +kernel, by decide +kernel⟩
theorem nd_p_Book___eq__ : (["self", "other"] : List Str).Nodup := by decide +kernel
theorem ok_p_Book___eq__ {f : Addr} {fd : FuncData} {dV : Value} (F : FunV K "__eq__" "Book.__eq__" (clsAt (top 21) 4) dV f fd) (T : Tx K mg cBook) : FnOk P w K mg base CX0 1 f fd ["self", "other"] (fun vs H Q _ => spOf K (fnD 2 2 3 (b_p_Book___eq__ cBook)) 2 vs H Q E0) := by
  refine fnV_ok (k := 0) F sc_p_Book___eq__ fun cdv A outer s H E hr => ?_
  have hu := u128 hr
  refine dss_one ?_
  exact ds_ret (de_and (de_callB (cd_isi T.q_Book.isi) (gl_of (by kernel_rfl)) T.z_isinstance rfl (da_cons (dv_l (i := 1) (by kernel_rfl) (by kernel_rfl)) (da_cons (de_gref (gl_of (by kernel_rfl)) T.g_Book) (da_nil)))) (de_and (de_cmp (od_eq (u64 hu)) (de_fld (T.q_Book.fld T.f_Book_ups) (dv_l (i := 0) (by kernel_rfl) (by kernel_rfl))) (de_fld (T.q_Book.fld T.f_Book_ups) (dv_l (i := 1) (by kernel_rfl) (by kernel_rfl))) rfl) (de_one (de_cmp (od_eq (u64 hu)) (de_fld (T.q_Book.fld T.f_Book_buys) (dv_l (i := 0) (by kernel_rfl) (by kernel_rfl))) (de_fld (T.q_Book.fld T.f_Book_buys) (dv_l (i := 1) (by kernel_rfl) (by kernel_rfl))) rfl))))
theorem sc_p_Book_without : FnScope ["self", "member", "ups", "other", "up", "here"] ["self", "member"] (defScope (clsAt (top 21) 16)) := ⟨rfl, rfl, rfl, by decide +kernel, rfl, by decide +kernel, by decide +kernel⟩
theorem nd_p_Book_without : (["self", "member", "ups", "other", "up", "here"] : List Str).Nodup := by decide +kernel
theorem ok_p_Book_without {f : Addr} {fd : FuncData} {dV : Value} (F : FunV K "without" "Book.without" (clsAt (top 21) 16) dV f fd) (T : Tx K mg cBook) (k_p_Book___init__0 : COk P w K mg base 4 "Book" cBook (f_p_Book___init__ cBook) 3 []) : FnOk P w K mg base CX0 6 f fd ["self", "member"] (fun vs H Q _ => spOf K (fnD 2 6 3 (b_p_Book_without cBook)) 2 vs H Q E0) := by
  refine fnV_ok (k := 5) F sc_p_Book_without fun cdv A outer s H E hr => ?_
  have hu := u128 hr
  refine dss_cons ?_ ?_
  · exact ds_asg (de_mk (df_lst (da_nil))) (dg_l (i := 2) nd_p_Book_without (by kernel_rfl) (by kernel_rfl))
  refine dss_cons ?_ ?_
  · refine ds_for (vs := [3, 4]) PassesOwn.never rfl (di_enum (gl_of (by kernel_rfl)) T.z_enumerate (de_fld (T.q_Book.fld T.f_Book_ups) (dv_l (i := 0) (by kernel_rfl) (by kernel_rfl)))) (pg_seq rfl (pgs_cons (pg_l (i := 3) nd_p_Book_without (by kernel_rfl) (by kernel_rfl)) (pgs_cons (pg_l (i := 4) nd_p_Book_without (by kernel_rfl) (by kernel_rfl)) (pgs_nil)))) (good_tup (good_cons (good_name 3 (by decide)) (good_cons (good_name 4 (by decide)) (good_nil)))) ?_
    refine dss_one ?_
    refine ds_if (dt_cmp (od_ne (u64 hu)) (dv_l (i := 3) (by kernel_rfl) (by kernel_rfl)) (dv_l (i := 1) (by kernel_rfl) (by kernel_rfl)) rfl) ?_ ?_
    · refine dss_cons ?_ ?_
      · exact ds_asg (de_if (dt_cmp (od_eq (u64 hu)) (dv_l (i := 4) (by kernel_rfl) (by kernel_rfl)) (dv_l (i := 1) (by kernel_rfl) (by kernel_rfl)) rfl) (de_sub (u1 hu) (de_fld (T.q_Book.fld T.f_Book_ups) (dv_l (i := 0) (by kernel_rfl) (by kernel_rfl))) (dv_l (i := 1) (by kernel_rfl) (by kernel_rfl)) (fun _ _ => by rfl)) (dv_l (i := 4) (by kernel_rfl) (by kernel_rfl))) (dg_l (i := 5) nd_p_Book_without (by kernel_rfl) (by kernel_rfl))
      refine dss_one ?_
      exact ds_expr (de_bmL PySem.F.plainAttrs_list PySem.F.slot_list_append PySem.F.type_list_append md_append (dv_l (i := 2) (by kernel_rfl) (by kernel_rfl)) (da_cons (de_bin od_sub (dv_l (i := 5) (by kernel_rfl) (by kernel_rfl)) (de_callTy cd_int (gl_of (by kernel_rfl)) T.z_int rfl (da_cons (de_cmp (od_gt) (dv_l (i := 5) (by kernel_rfl) (by kernel_rfl)) (dv_l (i := 1) (by kernel_rfl) (by kernel_rfl)) rfl) (da_nil)))) (da_nil)))
    · exact dss_nil
  refine dss_one ?_
  exact ds_ret (de_make k_p_Book___init__0.mak (hr.mono (by decide)) (gl_of (by kernel_rfl)) (da_cons (de_callTy cd_tup (gl_of (by kernel_rfl)) T.z_tuple rfl (da_cons (dv_l (i := 2) (by kernel_rfl) (by kernel_rfl)) (da_nil))) (da_cons (de_tup (da_star (de_slice (de_fld (T.q_Book.fld T.f_Book_buys) (dv_l (i := 0) (by kernel_rfl) (by kernel_rfl))) (dp_none) (dp_some (dv_l (i := 1) (by kernel_rfl) (by kernel_rfl)))) (da_star (de_slice (de_fld (T.q_Book.fld T.f_Book_buys) (dv_l (i := 0) (by kernel_rfl) (by kernel_rfl))) (dp_some (de_bin od_add (dv_l (i := 1) (by kernel_rfl) (by kernel_rfl)) (de_int))) (dp_none)) (da_nil)))) (da_nil))))
theorem sc_p_Book_with_buy : FnScope ["self", "member", "buy"] ["self", "member", "buy"] (defScope (clsAt (top 21) 15)) := ⟨rfl, rfl, rfl, by decide +kernel, rfl, by decide +kernel, by decide +kernel⟩
theorem nd_p_Book_with_buy : (["self", "member", "buy"] : List Str).Nodup := by decide +kernel
theorem ok_p_Book_with_buy {f : Addr} {fd : FuncData} {dV : Value} (F : FunV K "with_buy" "Book.with_buy" (clsAt (top 21) 15) dV f fd) (T : Tx K mg cBook) (k_p_Book___init__0 : COk P w K mg base 4 "Book" cBook (f_p_Book___init__ cBook) 3 []) : FnOk P w K mg base CX0 6 f fd ["self", "member", "buy"] (fun vs H Q _ => spOf K (fnD 3 3 3 (b_p_Book_with_buy cBook)) 3 vs H Q E0) := by
  refine fnV_ok (k := 5) F sc_p_Book_with_buy fun cdv A outer s H E hr => ?_
  have hu := u128 hr
  refine dss_one ?_
  exact ds_ret (de_make k_p_Book___init__0.mak (hr.mono (by decide)) (gl_of (by kernel_rfl)) (da_cons (de_fld (T.q_Book.fld T.f_Book_ups) (dv_l (i := 0) (by kernel_rfl) (by kernel_rfl))) (da_cons (de_tup (da_star (de_slice (de_fld (T.q_Book.fld T.f_Book_buys) (dv_l (i := 0) (by kernel_rfl) (by kernel_rfl))) (dp_none) (dp_some (dv_l (i := 1) (by kernel_rfl) (by kernel_rfl)))) (da_cons (dv_l (i := 2) (by kernel_rfl) (by kernel_rfl)) (da_star (de_slice (de_fld (T.q_Book.fld T.f_Book_buys) (dv_l (i := 0) (by kernel_rfl) (by kernel_rfl))) (dp_some (de_bin od_add (dv_l (i := 1) (by kernel_rfl) (by kernel_rfl)) (de_int))) (dp_none)) (da_nil))))) (da_nil))))
theorem sc_w_gone : FnScope ["_law_w", "_law_k", "_law_ups_now", "_law_j", "_law_x", "_law_here"] ["_law_w", "_law_k"] (defScope (top 34)) := ⟨rfl, rfl, rfl, by decide +kernel, rfl, by decide +kernel, by decide +kernel⟩
theorem nd_w_gone : (["_law_w", "_law_k", "_law_ups_now", "_law_j", "_law_x", "_law_here"] : List Str).Nodup := by decide +kernel
theorem ok_w_gone {f : Addr} {fd : FuncData} (F : Fun K "_law_gone" "_law_gone" (top 34) f fd) (T : Tx K mg cBook) : FnOk P w K mg base CX0 1 f fd ["_law_w", "_law_k"] (fun vs H Q _ => spOf K (fnD 2 6 3 (b_w_gone cBook)) 2 vs H Q E0) := by
  refine fn_ok (k := 0) F sc_w_gone fun cdv A outer s H E hr => ?_
  have hu := u128 hr
  refine dss_cons ?_ ?_
  · exact ds_asg (de_mk (df_lst (da_nil))) (dg_l (i := 2) nd_w_gone (by kernel_rfl) (by kernel_rfl))
  refine dss_cons ?_ ?_
  · refine ds_for (vs := [3, 4]) PassesOwn.never rfl (di_enum (gl_of (by kernel_rfl)) T.z_enumerate (de_sub (u1 hu) (dv_l (i := 0) (by kernel_rfl) (by kernel_rfl)) (de_str) (fun _ _ => by rfl))) (pg_seq rfl (pgs_cons (pg_l (i := 3) nd_w_gone (by kernel_rfl) (by kernel_rfl)) (pgs_cons (pg_l (i := 4) nd_w_gone (by kernel_rfl) (by kernel_rfl)) (pgs_nil)))) (good_tup (good_cons (good_name 3 (by decide)) (good_cons (good_name 4 (by decide)) (good_nil)))) ?_
    refine dss_cons ?_ ?_
    · exact ds_asg (de_if (dt_cmp (od_eq (u64 hu)) (dv_l (i := 4) (by kernel_rfl) (by kernel_rfl)) (dv_l (i := 1) (by kernel_rfl) (by kernel_rfl)) rfl) (de_sub (u1 hu) (de_sub (u1 hu) (dv_l (i := 0) (by kernel_rfl) (by kernel_rfl)) (de_str) (fun _ _ => by rfl)) (dv_l (i := 1) (by kernel_rfl) (by kernel_rfl)) (fun _ _ => by rfl)) (dv_l (i := 4) (by kernel_rfl) (by kernel_rfl))) (dg_l (i := 5) nd_w_gone (by kernel_rfl) (by kernel_rfl))
    refine dss_one ?_
    exact ds_expr (de_bmL PySem.F.plainAttrs_list PySem.F.slot_list_append PySem.F.type_list_append md_append (dv_l (i := 2) (by kernel_rfl) (by kernel_rfl)) (da_cons (de_if (dt_cmp (od_gt) (dv_l (i := 5) (by kernel_rfl) (by kernel_rfl)) (dv_l (i := 1) (by kernel_rfl) (by kernel_rfl)) rfl) (de_bin od_sub (dv_l (i := 5) (by kernel_rfl) (by kernel_rfl)) (de_int)) (dv_l (i := 5) (by kernel_rfl) (by kernel_rfl))) (da_nil)))
  refine dss_one ?_
  exact ds_ret (de_dict false (dps_cons (de_str) (de_fr (df_cat (de_fr (df_slice (dv_l (i := 2) (by kernel_rfl) (by kernel_rfl)) (dp_none) (dp_some (dv_l (i := 1) (by kernel_rfl) (by kernel_rfl))))) (de_fr (df_slice (dv_l (i := 2) (by kernel_rfl) (by kernel_rfl)) (dp_some (de_bin od_add (dv_l (i := 1) (by kernel_rfl) (by kernel_rfl)) (de_int))) (dp_none))))) (dps_cons (de_str) (de_fr (df_cat (de_fr (df_slice (de_sub (u1 hu) (dv_l (i := 0) (by kernel_rfl) (by kernel_rfl)) (de_str) (fun _ _ => by rfl)) (dp_none) (dp_some (dv_l (i := 1) (by kernel_rfl) (by kernel_rfl))))) (de_fr (df_slice (de_sub (u1 hu) (dv_l (i := 0) (by kernel_rfl) (by kernel_rfl)) (de_str) (fun _ _ => by rfl)) (dp_some (de_bin od_add (dv_l (i := 1) (by kernel_rfl) (by kernel_rfl)) (de_int))) (dp_none))))) (dps_nil))) rfl rfl (by simp) (by decide))
theorem sc_w_is_made : FnScope ["_law_made", "_law_w"] ["_law_made", "_law_w"] (defScope (top 35)) := ⟨rfl, rfl, rfl, by decide +kernel, rfl, by decide +kernel, by decide +kernel⟩
theorem nd_w_is_made : (["_law_made", "_law_w"] : List Str).Nodup := by decide +kernel
theorem ok_w_is_made {f : Addr} {fd : FuncData} (F : Fun K "_law_is_made" "_law_is_made" (top 35) f fd) (T : Tx K mg cBook) (hb : SysB base) : GFn P w K mg base CX0 1 f fd ["_law_made", "_law_w"] (fun vs H Q _ => spOf K (fnD 2 2 3 (b_w_is_made cBook)) 2 vs H Q E0) := by
  refine gfn_ok (k := 0) F sc_w_is_made fun cdv A outer s H E gd hr => ?_
  have hu := u128 hr
  refine dss_one ?_
  exact ds_ret (de_and (de_callB (cd_isi T.q_Book.isi) (gl_of (by kernel_rfl)) T.z_isinstance rfl (da_cons (dv_l (i := 0) (by kernel_rfl) (by kernel_rfl)) (da_cons (de_gref (gl_of (by kernel_rfl)) T.g_Book) (da_nil)))) (de_one (de_cmp (od_eq (u64 hu)) (de_callB (cd_repr gd hu hb) (gl_of (by kernel_rfl)) T.z_repr rfl (da_cons (de_fr (df_lst (da_cons (de_fld (T.q_Book.fld T.f_Book_ups) (dv_l (i := 0) (by kernel_rfl) (by kernel_rfl))) (da_cons (de_fld (T.q_Book.fld T.f_Book_buys) (dv_l (i := 0) (by kernel_rfl) (by kernel_rfl))) (da_nil))))) (da_nil))) (de_callB (cd_repr gd hu hb) (gl_of (by kernel_rfl)) T.z_repr rfl (da_cons (de_fr (df_lst (da_cons (de_callTy cd_tup (gl_of (by kernel_rfl)) T.z_tuple rfl (da_cons (de_sub (u1 hu) (dv_l (i := 1) (by kernel_rfl) (by kernel_rfl)) (de_str) (fun _ _ => by rfl)) (da_nil))) (da_cons (de_callTy cd_tup (gl_of (by kernel_rfl)) T.z_tuple rfl (da_cons (de_sub (u1 hu) (dv_l (i := 1) (by kernel_rfl) (by kernel_rfl)) (de_str) (fun _ _ => by rfl)) (da_nil))) (da_nil))))) (da_nil))) rfl)))
theorem sc_w_step_right : FnScope ["_law_deck_here", "_law_w", "_law_code_here", "_law_way", "_law_size", "_law_price", "_law_near", "_law_v", "_law_some", "_law_k", "_law_is_good", "_law_it"] ["_law_deck_here", "_law_w"] (defScope (top 37)) := ⟨rfl, rfl, rfl, by decide +kernel, rfl, by decide +kernel, by decide +kernel⟩
theorem nd_w_step_right : (["_law_deck_here", "_law_w", "_law_code_here", "_law_way", "_law_size", "_law_price", "_law_near", "_law_v", "_law_some", "_law_k", "_law_is_good", "_law_it"] : List Str).Nodup := by decide +kernel
theorem ok_w_step_right {f : Addr} {fd : FuncData} (F : Fun K "_law_step_right" "_law_step_right" (top 37) f fd) (T : Tx K mg cBook) (hb : SysB base) (d_w_code : FOk P w K mg base 6 "_law_code" (f_w_code cBook) 1) (d_w_draw : FOk P w K mg base 1 "_law_draw" (f_w_draw cBook) 2) (m_p_Book_with_member : MOk P w K mg base 6 cBook "with_member" (f_p_Book_with_member cBook) 3) (mk_p_Book_with_member : MKOk P w K mg base 6 cBook "with_member" (f_p_Book_with_member cBook) 3 ["buy", "up"] [1, 0]) (m_p_Book___eq__ : MOk P w K mg base 1 cBook "__eq__" (f_p_Book___eq__ cBook) 2) (m_p_Book_without : MOk P w K mg base 6 cBook "without" (f_p_Book_without cBook) 2) (m_p_Book_with_buy : MOk P w K mg base 6 cBook "with_buy" (f_p_Book_with_buy cBook) 3) (mk_p_Book_with_buy : MKOk P w K mg base 6 cBook "with_buy" (f_p_Book_with_buy cBook) 3 ["buy", "member"] [1, 0]) (d_w_gone : FOk P w K mg base 1 "_law_gone" (f_w_gone cBook) 2) (mk_p_Book_without : MKOk P w K mg base 6 cBook "without" (f_p_Book_without cBook) 2 ["member"] [0]) (d_w_is_made : GOk P w K mg base 1 "_law_is_made" (f_w_is_made cBook) 2) : GFn P w K mg base CX0 7 f fd ["_law_deck_here", "_law_w"] (fun vs H Q _ => spOf K (fnD 2 12 3 (b_w_step_right cBook)) 2 vs H Q E0) := by
  refine gfn_ok (k := 6) F sc_w_step_right fun cdv A outer s H E gd hr => ?_
  have hu := u128 hr
  refine dss_cons ?_ ?_
  · exact ds_par3 (i := 2) (j := 3) (l := 4) rfl nd_w_step_right rfl rfl rfl (by decide) (by decide) (by decide) rfl rfl rfl (da_cons (de_call (d_w_code.cal) (hr.mono (by decide)) (gl_of (by kernel_rfl)) (da_cons (dv_l (i := 1) (by kernel_rfl) (by kernel_rfl)) (da_nil))) (da_cons (de_call (d_w_draw.cal) (hr.mono (by decide)) (gl_of (by kernel_rfl)) (da_cons (dv_l (i := 0) (by kernel_rfl) (by kernel_rfl)) (da_cons (de_int) (da_nil)))) (da_cons (de_callB (cd_len) (gl_of (by kernel_rfl)) T.z_len rfl (da_cons (de_sub (u1 hu) (dv_l (i := 1) (by kernel_rfl) (by kernel_rfl)) (de_str) (fun _ _ => by rfl)) (da_nil))) (da_nil)))) rfl
  refine dss_cons ?_ ?_
  · exact ds_asg (de_bin od_add (de_int) (de_call (d_w_draw.cal) (hr.mono (by decide)) (gl_of (by kernel_rfl)) (da_cons (dv_l (i := 0) (by kernel_rfl) (by kernel_rfl)) (da_cons (de_int) (da_nil))))) (dg_l (i := 5) nd_w_step_right (by kernel_rfl) (by kernel_rfl))
  refine dss_cons ?_ ?_
  · refine ds_if (dt_w (dw_or (dt_cmp (od_eq (u64 hu)) (dv_l (i := 3) (by kernel_rfl) (by kernel_rfl)) (de_int) rfl) (dw_or1 (dt_cmp (od_eq (u64 hu)) (dv_l (i := 4) (by kernel_rfl) (by kernel_rfl)) (de_int) rfl)))) ?_ ?_
    · refine dss_cons ?_ ?_
      · exact ds_asg (de_bin od_sub (de_call (d_w_draw.cal) (hr.mono (by decide)) (gl_of (by kernel_rfl)) (da_cons (dv_l (i := 0) (by kernel_rfl) (by kernel_rfl)) (da_cons (de_bin od_add (dv_l (i := 4) (by kernel_rfl) (by kernel_rfl)) (de_int)) (da_nil)))) (de_int)) (dg_l (i := 6) nd_w_step_right (by kernel_rfl) (by kernel_rfl))
      refine dss_cons ?_ ?_
      · exact ds_asg (de_dict false (dps_cons (de_str) (de_fr (df_cat (de_sub (u1 hu) (dv_l (i := 1) (by kernel_rfl) (by kernel_rfl)) (de_str) (fun _ _ => by rfl)) (de_fr (df_lst (da_cons (dv_l (i := 6) (by kernel_rfl) (by kernel_rfl)) (da_nil)))))) (dps_cons (de_str) (de_fr (df_cat (de_sub (u1 hu) (dv_l (i := 1) (by kernel_rfl) (by kernel_rfl)) (de_str) (fun _ _ => by rfl)) (de_fr (df_lst (da_cons (dv_l (i := 5) (by kernel_rfl) (by kernel_rfl)) (da_nil)))))) (dps_nil))) rfl rfl (by simp) (by decide)) (dg_c (i := 7) nd_w_step_right (by kernel_rfl) (by kernel_rfl) (by kernel_rfl))
      refine dss_cons ?_ ?_
      · exact ds_asg (de_fr (df_lst (da_cons (de_meth m_p_Book_with_member.met (hr.mono (by decide)) (dv_l (i := 2) (by kernel_rfl) (by kernel_rfl)) (da_cons (dv_l (i := 6) (by kernel_rfl) (by kernel_rfl)) (da_cons (dv_l (i := 5) (by kernel_rfl) (by kernel_rfl)) (da_nil)))) (da_cons (de_methK mk_p_Book_with_member rfl (hr.mono (by decide)) (dv_l (i := 2) (by kernel_rfl) (by kernel_rfl)) (dk_cons (dv_l (i := 5) (by kernel_rfl) (by kernel_rfl)) (dk_cons (dv_l (i := 6) (by kernel_rfl) (by kernel_rfl)) (dk_nil))) (by kernel_rfl) (by kernel_rfl) (by kernel_rfl)) (da_nil))))) (dg_l (i := 8) nd_w_step_right (by kernel_rfl) (by kernel_rfl))
      refine dss_one ?_
      refine ds_if (dt_not (dt_cmp (od_eqO false m_p_Book___eq__.met T.q_Book.eqc (hr.mono (by decide)) (u64 hu)) (de_meth m_p_Book_without.met (hr.mono (by decide)) (de_sub (u1 hu) (dv_l (i := 8) (by kernel_rfl) (by kernel_rfl)) (de_int) (fun _ _ => by rfl)) (da_cons (dv_l (i := 4) (by kernel_rfl) (by kernel_rfl)) (da_nil))) (dv_l (i := 2) (by kernel_rfl) (by kernel_rfl)) rfl)) ?_ ?_
      · refine dss_one ?_
        exact ds_ret (de_tup (da_cons (de_bl) (da_cons (dv_c (i := 7) (by kernel_rfl) (by kernel_rfl)) (da_nil))))
      · exact dss_nil
    · refine dss_one ?_
      refine ds_if (dt_cmp (od_eq (u64 hu)) (dv_l (i := 3) (by kernel_rfl) (by kernel_rfl)) (de_int) rfl) ?_ ?_
      · refine dss_cons ?_ ?_
        · exact ds_asg (de_call (d_w_draw.cal) (hr.mono (by decide)) (gl_of (by kernel_rfl)) (da_cons (dv_l (i := 0) (by kernel_rfl) (by kernel_rfl)) (da_cons (dv_l (i := 4) (by kernel_rfl) (by kernel_rfl)) (da_nil)))) (dg_l (i := 9) nd_w_step_right (by kernel_rfl) (by kernel_rfl))
        refine dss_cons ?_ ?_
        · exact ds_asg (de_dict false (dps_cons (de_str) (de_sub (u1 hu) (dv_l (i := 1) (by kernel_rfl) (by kernel_rfl)) (de_str) (fun _ _ => by rfl)) (dps_cons (de_str) (de_fr (df_cat (de_fr (df_cat (de_fr (df_slice (de_sub (u1 hu) (dv_l (i := 1) (by kernel_rfl) (by kernel_rfl)) (de_str) (fun _ _ => by rfl)) (dp_none) (dp_some (dv_l (i := 9) (by kernel_rfl) (by kernel_rfl))))) (de_fr (df_lst (da_cons (dv_l (i := 5) (by kernel_rfl) (by kernel_rfl)) (da_nil)))))) (de_fr (df_slice (de_sub (u1 hu) (dv_l (i := 1) (by kernel_rfl) (by kernel_rfl)) (de_str) (fun _ _ => by rfl)) (dp_some (de_bin od_add (dv_l (i := 9) (by kernel_rfl) (by kernel_rfl)) (de_int))) (dp_none))))) (dps_nil))) rfl rfl (by simp) (by decide)) (dg_c (i := 7) nd_w_step_right (by kernel_rfl) (by kernel_rfl) (by kernel_rfl))
        refine dss_one ?_
        exact ds_asg (de_fr (df_lst (da_cons (de_meth m_p_Book_with_buy.met (hr.mono (by decide)) (dv_l (i := 2) (by kernel_rfl) (by kernel_rfl)) (da_cons (dv_l (i := 9) (by kernel_rfl) (by kernel_rfl)) (da_cons (dv_l (i := 5) (by kernel_rfl) (by kernel_rfl)) (da_nil)))) (da_cons (de_methK mk_p_Book_with_buy rfl (hr.mono (by decide)) (dv_l (i := 2) (by kernel_rfl) (by kernel_rfl)) (dk_cons (dv_l (i := 5) (by kernel_rfl) (by kernel_rfl)) (dk_cons (dv_l (i := 9) (by kernel_rfl) (by kernel_rfl)) (dk_nil))) (by kernel_rfl) (by kernel_rfl) (by kernel_rfl)) (da_nil))))) (dg_l (i := 8) nd_w_step_right (by kernel_rfl) (by kernel_rfl))
      · refine dss_cons ?_ ?_
        · exact ds_asg (de_call (d_w_draw.cal) (hr.mono (by decide)) (gl_of (by kernel_rfl)) (da_cons (dv_l (i := 0) (by kernel_rfl) (by kernel_rfl)) (da_cons (dv_l (i := 4) (by kernel_rfl) (by kernel_rfl)) (da_nil)))) (dg_l (i := 9) nd_w_step_right (by kernel_rfl) (by kernel_rfl))
        refine dss_one ?_
        exact ds_asg (de_tup (da_cons (de_call (d_w_gone.cal) (hr.mono (by decide)) (gl_of (by kernel_rfl)) (da_cons (dv_l (i := 1) (by kernel_rfl) (by kernel_rfl)) (da_cons (dv_l (i := 9) (by kernel_rfl) (by kernel_rfl)) (da_nil)))) (da_cons (de_fr (df_lst (da_cons (de_meth m_p_Book_without.met (hr.mono (by decide)) (dv_l (i := 2) (by kernel_rfl) (by kernel_rfl)) (da_cons (dv_l (i := 9) (by kernel_rfl) (by kernel_rfl)) (da_nil))) (da_cons (de_methK mk_p_Book_without rfl (hr.mono (by decide)) (dv_l (i := 2) (by kernel_rfl) (by kernel_rfl)) (dk_cons (dv_l (i := 9) (by kernel_rfl) (by kernel_rfl)) (dk_nil)) (by kernel_rfl) (by kernel_rfl) (by kernel_rfl)) (da_nil))))) (da_nil)))) (dg_good (vs := [7, 8]) (pg_seq rfl (pgs_cons (pg_c (i := 7) nd_w_step_right (by kernel_rfl) (by kernel_rfl) (by kernel_rfl)) (pgs_cons (pg_l (i := 8) nd_w_step_right (by kernel_rfl) (by kernel_rfl)) (pgs_nil)))) (good_tup (good_cons (good_name 7 (by decide)) (good_cons (good_name 8 (by decide)) (good_nil)))))
  refine dss_cons ?_ ?_
  · exact ds_asg (de_cmp (od_eq (u64 hu)) (de_fr (df_comp (own := [("_law_it", 11)]) rfl nd_w_step_right (di_val (dv_l (i := 8) (by kernel_rfl) (by kernel_rfl))) (blkOk_by (by kernel_rfl)) (fun s H C cl fp => pg_l (i := 11) nd_w_step_right (by kernel_rfl) (by kernel_rfl)) (good_name 11 (by decide)) (fun s H C cl fp => dts_one (dt_w (dw_or (dt_not (dt_val (de_callG (d_w_is_made.cal) gd (hr.mono (by decide)) (gl_of (by kernel_rfl)) (da_cons (dv_l (i := 11) (by kernel_rfl) (by kernel_rfl)) (da_cons (dv_c (i := 7) (by kernel_rfl) (by kernel_rfl)) (da_nil)))))) (dw_or1 (dt_cmp (od_ne (u64 hu)) (de_fld (T.q_Book.fld T.f_Book_sales) (dv_l (i := 11) (by kernel_rfl) (by kernel_rfl))) (de_callB (cd_sumS rfl) (gl_of (by kernel_rfl)) T.z_sum rfl (da_cons (de_sub (u1 hu) (dv_c (i := 7) (by kernel_rfl) (by kernel_rfl)) (de_str) (fun _ _ => by rfl)) (da_nil))) rfl))))) (fun s H C cl fp => dv_l (i := 11) (by kernel_rfl) (by kernel_rfl)))) (de_fr (df_lst (da_nil))) rfl) (dg_l (i := 10) nd_w_step_right (by kernel_rfl) (by kernel_rfl))
  refine dss_one ?_
  exact ds_ret (de_tup (da_cons (de_and (dv_l (i := 10) (by kernel_rfl) (by kernel_rfl)) (de_one (de_callG (d_w_is_made.cal) gd (hr.mono (by decide)) (gl_of (by kernel_rfl)) (da_cons (dv_l (i := 2) (by kernel_rfl) (by kernel_rfl)) (da_cons (dv_l (i := 1) (by kernel_rfl) (by kernel_rfl)) (da_nil)))))) (da_cons (dv_c (i := 7) (by kernel_rfl) (by kernel_rfl)) (da_nil))))
theorem sc_p_Book_with_book : FnScope ["self", "other", "by", "ups", "up"] ["self", "other"] (defScope (clsAt (top 21) 17)) := ⟨rfl, rfl, rfl, by decide +kernel, rfl, by decide +kernel, by decide +kernel⟩
theorem nd_p_Book_with_book : (["self", "other", "by", "ups", "up"] : List Str).Nodup := by decide +kernel
theorem ok_p_Book_with_book {f : Addr} {fd : FuncData} {dV : Value} (F : FunV K "with_book" "Book.with_book" (clsAt (top 21) 17) dV f fd) (T : Tx K mg cBook) (k_p_Book___init__0 : COk P w K mg base 4 "Book" cBook (f_p_Book___init__ cBook) 3 []) : FnOk P w K mg base CX0 6 f fd ["self", "other"] (fun vs H Q _ => spOf K (fnD 2 5 3 (b_p_Book_with_book cBook)) 2 vs H Q E0) := by
  refine fnV_ok (k := 5) F sc_p_Book_with_book fun cdv A outer s H E hr => ?_
  have hu := u128 hr
  refine dss_cons ?_ ?_
  · exact ds_asg (de_callB (cd_len) (gl_of (by kernel_rfl)) T.z_len rfl (da_cons (de_fld (T.q_Book.fld T.f_Book_ups) (dv_l (i := 0) (by kernel_rfl) (by kernel_rfl))) (da_nil))) (dg_c (i := 2) nd_p_Book_with_book (by kernel_rfl) (by kernel_rfl) (by kernel_rfl))
  refine dss_cons ?_ ?_
  · exact ds_asg (de_callTy cd_tup (gl_of (by kernel_rfl)) T.z_tuple rfl (da_cons (de_fr (df_comp (own := [("up", 4)]) rfl nd_p_Book_with_book (di_val (de_fld (T.q_Book.fld T.f_Book_ups) (dv_l (i := 1) (by kernel_rfl) (by kernel_rfl)))) (blkOk_by (by kernel_rfl)) (fun s H C cl fp => pg_l (i := 4) nd_p_Book_with_book (by kernel_rfl) (by kernel_rfl)) (good_name 4 (by decide)) (fun s H C cl fp => dts_nil) (fun s H C cl fp => de_if (dt_cmp (od_eq (u64 hu)) (dv_l (i := 4) (by kernel_rfl) (by kernel_rfl)) (T_gint (gl_of (by kernel_rfl)) T.c_NOBODY) rfl) (T_gint (gl_of (by kernel_rfl)) T.c_NOBODY) (de_bin od_add (dv_l (i := 4) (by kernel_rfl) (by kernel_rfl)) (dv_c (i := 2) (by kernel_rfl) (by kernel_rfl)))))) (da_nil))) (dg_l (i := 3) nd_p_Book_with_book (by kernel_rfl) (by kernel_rfl))
  refine dss_one ?_
  exact ds_ret (de_make k_p_Book___init__0.mak (hr.mono (by decide)) (gl_of (by kernel_rfl)) (da_cons (de_bin od_add (de_fld (T.q_Book.fld T.f_Book_ups) (dv_l (i := 0) (by kernel_rfl) (by kernel_rfl))) (dv_l (i := 3) (by kernel_rfl) (by kernel_rfl))) (da_cons (de_bin od_add (de_fld (T.q_Book.fld T.f_Book_buys) (dv_l (i := 0) (by kernel_rfl) (by kernel_rfl))) (de_fld (T.q_Book.fld T.f_Book_buys) (dv_l (i := 1) (by kernel_rfl) (by kernel_rfl)))) (da_nil))))
theorem sc_w_beside : FnScope ["_law_w", "_law_v", "_law_far", "_law_x"] ["_law_w", "_law_v"] (defScope (top 36)) := ⟨rfl, rfl, rfl, by decide +kernel, rfl, by decide +kernel, by decide +kernel⟩
theorem nd_w_beside : (["_law_w", "_law_v", "_law_far", "_law_x"] : List Str).Nodup := by decide +kernel
theorem ok_w_beside {f : Addr} {fd : FuncData} (F : Fun K "_law_beside" "_law_beside" (top 36) f fd) (T : Tx K mg cBook) : FnOk P w K mg base CX0 1 f fd ["_law_w", "_law_v"] (fun vs H Q _ => spOf K (fnD 2 4 3 (b_w_beside cBook)) 2 vs H Q E0) := by
  refine fn_ok (k := 0) F sc_w_beside fun cdv A outer s H E hr => ?_
  have hu := u128 hr
  refine dss_cons ?_ ?_
  · exact ds_setLc (own := [("_law_x", 3)]) (i := 2) rfl nd_w_beside rfl rfl rfl (di_val (de_sub (u1 hu) (dv_l (i := 1) (by kernel_rfl) (by kernel_rfl)) (de_str) (fun _ _ => by rfl))) (blkOk_by (by kernel_rfl)) (fun s H C cl fp => pg_l (i := 3) nd_w_beside (by kernel_rfl) (by kernel_rfl)) (good_name 3 (by decide)) (fun s H C cl fp => dts_nil) (fun s H C cl fp => de_if (dt_cmp (od_ge) (dv_l (i := 3) (by kernel_rfl) (by kernel_rfl)) (de_int) rfl) (de_bin od_add (dv_l (i := 3) (by kernel_rfl) (by kernel_rfl)) (de_callB (cd_len) (gl_of (by kernel_rfl)) T.z_len rfl (da_cons (de_sub (u1 hu) (dv_c (i := 0) (by kernel_rfl) (by kernel_rfl)) (de_str) (fun _ _ => by rfl)) (da_nil)))) (dv_l (i := 3) (by kernel_rfl) (by kernel_rfl))) false
  refine dss_one ?_
  exact ds_ret (de_dict false (dps_cons (de_str) (de_fr (df_cat (de_sub (u1 hu) (dv_c (i := 0) (by kernel_rfl) (by kernel_rfl)) (de_str) (fun _ _ => by rfl)) (dv_l (i := 2) (by kernel_rfl) (by kernel_rfl)))) (dps_cons (de_str) (de_fr (df_cat (de_sub (u1 hu) (dv_c (i := 0) (by kernel_rfl) (by kernel_rfl)) (de_str) (fun _ _ => by rfl)) (de_sub (u1 hu) (dv_l (i := 1) (by kernel_rfl) (by kernel_rfl)) (de_str) (fun _ _ => by rfl)))) (dps_nil))) rfl rfl (by simp) (by decide))
theorem sc_law : FnScope ["_law_script", "_law_deck_here", "_law_go", "_law_kit_here", "_law_w", "_law_v", "_law_step", "_law_is_good", "_law_both", "_law_page"] ["_law_script"] (defScope (top 38)) := ⟨rfl, rfl, rfl, by decide +kernel, rfl, by decide +kernel, by decide +kernel⟩
theorem nd_law : (["_law_script", "_law_deck_here", "_law_go", "_law_kit_here", "_law_w", "_law_v", "_law_step", "_law_is_good", "_law_both", "_law_page"] : List Str).Nodup := by decide +kernel
theorem ok_law {f : Addr} {fd : FuncData} (F : Fun K "law" "law" (top 38) f fd) (T : Tx K mg cBook) (hb : SysB base) (d_w_deck : FOk P w K mg base 1 "_law_deck" (f_w_deck cBook) 1) (d_w_kit : FOk P w K mg base 2 "_law_kit" (f_w_kit cBook) 3) (d_w_world : FOk P w K mg base 3 "_law_world" (f_w_world cBook) 3) (d_w_step_right : GOk P w K mg base 7 "_law_step_right" (f_w_step_right cBook) 2) (mk_p_Book_with_book : MKOk P w K mg base 6 cBook "with_book" (f_p_Book_with_book cBook) 2 ["other"] [0]) (d_w_code : FOk P w K mg base 6 "_law_code" (f_w_code cBook) 1) (d_w_is_made : GOk P w K mg base 1 "_law_is_made" (f_w_is_made cBook) 2) (d_w_beside : FOk P w K mg base 1 "_law_beside" (f_w_beside cBook) 2) (m_p_Book___eq__ : MOk P w K mg base 1 cBook "__eq__" (f_p_Book___eq__ cBook) 2) (m_p_Book_with_book : MOk P w K mg base 6 cBook "with_book" (f_p_Book_with_book cBook) 2) (k_p_Book___init__2 : COk P w K mg base 4 "Book" cBook (f_p_Book___init__ cBook) 3 [.tup [], .tup []]) (k_p_Book___init__0 : COk P w K mg base 4 "Book" cBook (f_p_Book___init__ cBook) 3 []) (m_p_Book_without : MOk P w K mg base 6 cBook "without" (f_p_Book_without cBook) 2) : GFn P w K mg base CX0 8 f fd ["_law_script"] (fun vs H Q _ => spOf K (fnD 1 10 3 (b_law cBook)) 1 vs H Q E0) := by
  refine gfn_ok (k := 7) F sc_law fun cdv A outer s H E gd hr => ?_
  have hu := u128 hr
  refine dss_cons ?_ ?_
  · exact ds_asg (de_call (d_w_deck.cal) (hr.mono (by decide)) (gl_of (by kernel_rfl)) (da_cons (dv_l (i := 0) (by kernel_rfl) (by kernel_rfl)) (da_nil))) (dg_l (i := 1) nd_law (by kernel_rfl) (by kernel_rfl))
  refine dss_cons ?_ ?_
  · refine ds_for (vs := [2]) PassesOwn.never rfl (di_range1 (gl_of (by kernel_rfl)) T.z_range (de_int)) (pg_l (i := 2) nd_law (by kernel_rfl) (by kernel_rfl)) (good_name 2 (by decide)) ?_
    refine dss_cons ?_ ?_
    · exact ds_asg (de_call (d_w_kit.cal) (hr.mono (by decide)) (gl_of (by kernel_rfl)) (da_cons (dv_l (i := 1) (by kernel_rfl) (by kernel_rfl)) (da_cons (de_int) (da_cons (de_int) (da_nil))))) (dg_l (i := 3) nd_law (by kernel_rfl) (by kernel_rfl))
    refine dss_cons ?_ ?_
    · exact ds_par (i := 4) (j := 5) rfl nd_law rfl rfl (by decide) rfl rfl (da_cons (de_call (d_w_world.cal) (hr.mono (by decide)) (gl_of (by kernel_rfl)) (da_cons (dv_l (i := 1) (by kernel_rfl) (by kernel_rfl)) (da_cons (dv_l (i := 3) (by kernel_rfl) (by kernel_rfl)) (da_cons (de_int) (da_nil))))) (da_cons (de_call (d_w_world.cal) (hr.mono (by decide)) (gl_of (by kernel_rfl)) (da_cons (dv_l (i := 1) (by kernel_rfl) (by kernel_rfl)) (da_cons (dv_l (i := 3) (by kernel_rfl) (by kernel_rfl)) (da_cons (de_int) (da_nil))))) (da_nil))) rfl
    refine dss_cons ?_ ?_
    · refine ds_for (vs := [6]) PassesOwn.never rfl (di_range1 (gl_of (by kernel_rfl)) T.z_range (de_int)) (pg_l (i := 6) nd_law (by kernel_rfl) (by kernel_rfl)) (good_name 6 (by decide)) ?_
      refine dss_cons ?_ ?_
      · exact ds_asg (de_callG (d_w_step_right.cal) gd (hr.mono (by decide)) (gl_of (by kernel_rfl)) (da_cons (dv_l (i := 1) (by kernel_rfl) (by kernel_rfl)) (da_cons (dv_l (i := 4) (by kernel_rfl) (by kernel_rfl)) (da_nil)))) (dg_good (vs := [7, 4]) (pg_seq rfl (pgs_cons (pg_l (i := 7) nd_law (by kernel_rfl) (by kernel_rfl)) (pgs_cons (pg_l (i := 4) nd_law (by kernel_rfl) (by kernel_rfl)) (pgs_nil)))) (good_tup (good_cons (good_name 7 (by decide)) (good_cons (good_name 4 (by decide)) (good_nil)))))
      refine dss_one ?_
      refine ds_if (dt_not (dt_val (dv_l (i := 7) (by kernel_rfl) (by kernel_rfl)))) ?_ ?_
      · refine dss_one ?_
        exact ds_ret (de_bl)
      · exact dss_nil
    refine dss_cons ?_ ?_
    · exact ds_asg (de_methK mk_p_Book_with_book rfl (hr.mono (by decide)) (de_call (d_w_code.cal) (hr.mono (by decide)) (gl_of (by kernel_rfl)) (da_cons (dv_l (i := 4) (by kernel_rfl) (by kernel_rfl)) (da_nil))) (dk_cons (de_call (d_w_code.cal) (hr.mono (by decide)) (gl_of (by kernel_rfl)) (da_cons (dv_l (i := 5) (by kernel_rfl) (by kernel_rfl)) (da_nil))) (dk_nil)) (by kernel_rfl) (by kernel_rfl) (by kernel_rfl)) (dg_l (i := 8) nd_law (by kernel_rfl) (by kernel_rfl))
    refine dss_cons ?_ ?_
    · refine ds_if (dt_w (dw_or (dt_not (dt_val (de_callG (d_w_is_made.cal) gd (hr.mono (by decide)) (gl_of (by kernel_rfl)) (da_cons (dv_l (i := 8) (by kernel_rfl) (by kernel_rfl)) (da_cons (de_call (d_w_beside.cal) (hr.mono (by decide)) (gl_of (by kernel_rfl)) (da_cons (dv_l (i := 4) (by kernel_rfl) (by kernel_rfl)) (da_cons (dv_l (i := 5) (by kernel_rfl) (by kernel_rfl)) (da_nil)))) (da_nil)))))) (dw_or1 (dt_not (dt_cmp (od_eqO false m_p_Book___eq__.met T.q_Book.eqc (hr.mono (by decide)) (u64 hu)) (de_meth m_p_Book_with_book.met (hr.mono (by decide)) (de_call (d_w_code.cal) (hr.mono (by decide)) (gl_of (by kernel_rfl)) (da_cons (dv_l (i := 4) (by kernel_rfl) (by kernel_rfl)) (da_nil))) (da_cons (de_make0 k_p_Book___init__2.mak (hr.mono (by decide)) (gl_of (by kernel_rfl))) (da_nil))) (de_call (d_w_code.cal) (hr.mono (by decide)) (gl_of (by kernel_rfl)) (da_cons (dv_l (i := 4) (by kernel_rfl) (by kernel_rfl)) (da_nil))) rfl))))) ?_ ?_
      · refine dss_one ?_
        exact ds_ret (de_bl)
      · exact dss_nil
    refine dss_one ?_
    refine ds_if (dt_not (dt_cmp (od_eqO false m_p_Book___eq__.met T.q_Book.eqc (hr.mono (by decide)) (u64 hu)) (de_meth m_p_Book_with_book.met (hr.mono (by decide)) (de_make0 k_p_Book___init__2.mak (hr.mono (by decide)) (gl_of (by kernel_rfl))) (da_cons (de_call (d_w_code.cal) (hr.mono (by decide)) (gl_of (by kernel_rfl)) (da_cons (dv_l (i := 5) (by kernel_rfl) (by kernel_rfl)) (da_nil))) (da_nil))) (de_call (d_w_code.cal) (hr.mono (by decide)) (gl_of (by kernel_rfl)) (da_cons (dv_l (i := 5) (by kernel_rfl) (by kernel_rfl)) (da_nil))) rfl)) ?_ ?_
    · refine dss_one ?_
      exact ds_ret (de_bl)
    · exact dss_nil
  refine dss_cons ?_ ?_
  · exact ds_asg (de_make k_p_Book___init__0.mak (hr.mono (by decide)) (gl_of (by kernel_rfl)) (da_cons (de_tup (da_cons (de_un od_neg (de_int)) (da_cons (de_int) (da_cons (de_int) (da_cons (de_int) (da_nil)))))) (da_cons (de_tup (da_cons (de_int) (da_cons (de_int) (da_cons (de_int) (da_cons (de_int) (da_nil)))))) (da_nil)))) (dg_l (i := 9) nd_law (by kernel_rfl) (by kernel_rfl))
  refine dss_one ?_
  exact ds_ret (de_and (de_cmp (od_eqO false m_p_Book___eq__.met T.q_Book.eqc (hr.mono (by decide)) (u64 hu)) (de_meth m_p_Book_without.met (hr.mono (by decide)) (dv_l (i := 9) (by kernel_rfl) (by kernel_rfl)) (da_cons (de_int) (da_nil))) (de_make k_p_Book___init__0.mak (hr.mono (by decide)) (gl_of (by kernel_rfl)) (da_cons (de_tup (da_cons (de_un od_neg (de_int)) (da_cons (de_int) (da_cons (de_int) (da_nil))))) (da_cons (de_tup (da_cons (de_int) (da_cons (de_int) (da_cons (de_int) (da_nil))))) (da_nil)))) rfl) (de_one (de_cmp (od_eqO false m_p_Book___eq__.met T.q_Book.eqc (hr.mono (by decide)) (u64 hu)) (de_meth m_p_Book_without.met (hr.mono (by decide)) (dv_l (i := 9) (by kernel_rfl) (by kernel_rfl)) (da_cons (de_int) (da_nil))) (de_make k_p_Book___init__0.mak (hr.mono (by decide)) (gl_of (by kernel_rfl)) (da_cons (de_tup (da_cons (de_un od_neg (de_int)) (da_cons (de_un od_neg (de_int)) (da_cons (de_int) (da_nil))))) (da_cons (de_tup (da_cons (de_int) (da_cons (de_int) (da_cons (de_int) (da_nil))))) (da_nil)))) rfl)))
end
/-! ### the head -/
theorem all_mk {l : PySem.W.OpenLaw} {w : World} {K : PySem.W.Frag} {h : Heap} {mg : Str → Option Value} {fa : Addr} (X : K.In h) (G : h.Ns mainGlobals mg) (hfa : mg "law" = some (.ref fa))
    {cBook : Addr} (g_Book : PySem.W.nsIn K mainGlobals "Book" = some (some (.ref cBook))) (q_Book : ClF K cBook) (mk_Book : PySem.W.makesIn K cBook = true) (kp_Book : PySem.W.keepIn K (.ref cBook) = true)
    (f_Book_ups : PySem.W.findIn K (.ref cBook) "ups" = some none)
    (f_Book_buys : PySem.W.findIn K (.ref cBook) "buys" = some none)
    (f_Book_pairs_kept : PySem.W.findIn K (.ref cBook) "pairs_kept" = some none)
    (f_Book_sales : PySem.W.findIn K (.ref cBook) "sales" = some none)
    {fa0 : Addr} {od0 an0 : Option Addr} {sl0 : Array (Option Value)} {oc0 kV0 dc0 pm0 cd0 ct0 : Value}
    (a0 : PySem.W.nsIn K mainGlobals "_law_deck" = some (some (.ref fa0))) (l0 : K.lookup fa0 = some ⟨oc0, od0, .func (PySem.W.fnOf "_law_deck" "_law_deck" (defArgs (top 28)) (defBody (top 28)) (defScope (top 28)) .none kV0 dc0 pm0 an0 cd0 ct0), sl0⟩) (c0 : PySem.W.codeIn K cd0 "_law_deck" = true) (k0 : PySem.W.keepIn K (.ref fa0) = true)
    {fa1 : Addr} {od1 an1 : Option Addr} {sl1 : Array (Option Value)} {oc1 kV1 dc1 pm1 cd1 ct1 : Value}
    (a1 : PySem.W.nsIn K mainGlobals "_law_draw" = some (some (.ref fa1))) (l1 : K.lookup fa1 = some ⟨oc1, od1, .func (PySem.W.fnOf "_law_draw" "_law_draw" (defArgs (top 29)) (defBody (top 29)) (defScope (top 29)) .none kV1 dc1 pm1 an1 cd1 ct1), sl1⟩) (c1 : PySem.W.codeIn K cd1 "_law_draw" = true) (k1 : PySem.W.keepIn K (.ref fa1) = true)
    {fa2 : Addr} {od2 an2 : Option Addr} {sl2 : Array (Option Value)} {oc2 kV2 dc2 pm2 cd2 ct2 : Value}
    (a2 : PySem.W.nsIn K mainGlobals "_law_kit" = some (some (.ref fa2))) (l2 : K.lookup fa2 = some ⟨oc2, od2, .func (PySem.W.fnOf "_law_kit" "_law_kit" (defArgs (top 31)) (defBody (top 31)) (defScope (top 31)) .none kV2 dc2 pm2 an2 cd2 ct2), sl2⟩) (c2 : PySem.W.codeIn K cd2 "_law_kit" = true) (k2 : PySem.W.keepIn K (.ref fa2) = true)
    {fa3 : Addr} {od3 an3 : Option Addr} {sl3 : Array (Option Value)} {oc3 kV3 dc3 pm3 cd3 ct3 : Value}
    (a3 : PySem.W.nsIn K mainGlobals "_law_pick" = some (some (.ref fa3))) (l3 : K.lookup fa3 = some ⟨oc3, od3, .func (PySem.W.fnOf "_law_pick" "_law_pick" (defArgs (top 30)) (defBody (top 30)) (defScope (top 30)) .none kV3 dc3 pm3 an3 cd3 ct3), sl3⟩) (c3 : PySem.W.codeIn K cd3 "_law_pick" = true) (k3 : PySem.W.keepIn K (.ref fa3) = true)
    {fa4 : Addr} {od4 an4 : Option Addr} {sl4 : Array (Option Value)} {oc4 kV4 dc4 pm4 cd4 ct4 : Value}
    (a4 : PySem.W.nsIn K mainGlobals "_law_world" = some (some (.ref fa4))) (l4 : K.lookup fa4 = some ⟨oc4, od4, .func (PySem.W.fnOf "_law_world" "_law_world" (defArgs (top 32)) (defBody (top 32)) (defScope (top 32)) .none kV4 dc4 pm4 an4 cd4 ct4), sl4⟩) (c4 : PySem.W.codeIn K cd4 "_law_world" = true) (k4 : PySem.W.keepIn K (.ref fa4) = true)
    {fa5 : Addr} {od5 an5 : Option Addr} {sl5 : Array (Option Value)} {oc5 kV5 dc5 pm5 cd5 ct5 : Value}
    (a5 : PySem.W.nsIn K mainGlobals "is_integer" = some (some (.ref fa5))) (l5 : K.lookup fa5 = some ⟨oc5, od5, .func (PySem.W.fnOf "is_integer" "is_integer" (defArgs (top 8)) (defBody (top 8)) (defScope (top 8)) .none kV5 dc5 pm5 an5 cd5 ct5), sl5⟩) (c5 : PySem.W.codeIn K cd5 "is_integer" = true) (k5 : PySem.W.keepIn K (.ref fa5) = true)
    {fa6 : Addr} {od6 an6 : Option Addr} {sl6 : Array (Option Value)} {oc6 kV6 dc6 pm6 cd6 ct6 : Value}
    (a6 : PySem.W.nsIn K mainGlobals "are_ups" = some (some (.ref fa6))) (l6 : K.lookup fa6 = some ⟨oc6, od6, .func (PySem.W.fnOf "are_ups" "are_ups" (defArgs (top 19)) (defBody (top 19)) (defScope (top 19)) .none kV6 dc6 pm6 an6 cd6 ct6), sl6⟩) (c6 : PySem.W.codeIn K cd6 "are_ups" = true) (k6 : PySem.W.keepIn K (.ref fa6) = true)
    {fa7 : Addr} {od7 an7 : Option Addr} {sl7 : Array (Option Value)} {oc7 kV7 dc7 pm7 cd7 ct7 : Value}
    (a7 : PySem.W.nsIn K mainGlobals "is_integer_from" = some (some (.ref fa7))) (l7 : K.lookup fa7 = some ⟨oc7, od7, .func (PySem.W.fnOf "is_integer_from" "is_integer_from" (defArgs (top 9)) (defBody (top 9)) (defScope (top 9)) .none kV7 dc7 pm7 an7 cd7 ct7), sl7⟩) (c7 : PySem.W.codeIn K cd7 "is_integer_from" = true) (k7 : PySem.W.keepIn K (.ref fa7) = true)
    {fa8 : Addr} {od8 an8 : Option Addr} {sl8 : Array (Option Value)} {oc8 kV8 dc8 pm8 cd8 ct8 : Value}
    (a8 : PySem.W.nsIn K mainGlobals "are_buys" = some (some (.ref fa8))) (l8 : K.lookup fa8 = some ⟨oc8, od8, .func (PySem.W.fnOf "are_buys" "are_buys" (defArgs (top 20)) (defBody (top 20)) (defScope (top 20)) .none kV8 dc8 pm8 an8 cd8 ct8), sl8⟩) (c8 : PySem.W.codeIn K cd8 "are_buys" = true) (k8 : PySem.W.keepIn K (.ref fa8) = true)
    {fa9 : Addr} {od9 an9 : Option Addr} {sl9 : Array (Option Value)} {oc9 kV9 dc9 pm9 cd9 ct9 : Value} {T9 : Addr} {tc9 : Value} {td9 : Option Addr} {y9_0 y9_1 : Addr} {tn9 : Nat} {ts9 : Array (Option Value)} 
    (a9 : PySem.W.findIn K (.ref cBook) "__init__" = some (some (.ref fa9))) (l9 : K.lookup fa9 = some ⟨oc9, od9, .func (PySem.W.fnOf "__init__" "Book.__init__" (defArgs (clsAt (top 21) 0)) (defBody (clsAt (top 21) 0)) (defScope (clsAt (top 21) 0)) (.ref T9) kV9 dc9 pm9 an9 cd9 ct9), sl9⟩) (c9 : PySem.W.codeIn K cd9 "Book.__init__" = true) (k9 : PySem.W.keepIn K (.ref fa9) = true) (n9 : PySem.W.isFn K (.ref fa9) = true)
    (t9 : K.lookup T9 = some ⟨tc9, td9, .seq #[.ref y9_0, .ref y9_1] tn9, ts9⟩)
    {wd9_0 : Option Addr} {wn9_0 : Nat} {ws9_0 : Array (Option Value)} (w9_0 : K.lookup y9_0 = some ⟨.type "tuple", wd9_0, .seq #[] wn9_0, ws9_0⟩)
    {wd9_1 : Option Addr} {wn9_1 : Nat} {ws9_1 : Array (Option Value)} (w9_1 : K.lookup y9_1 = some ⟨.type "tuple", wd9_1, .seq #[] wn9_1, ws9_1⟩)
    {fa10 : Addr} {od10 an10 : Option Addr} {sl10 : Array (Option Value)} {oc10 kV10 dc10 pm10 cd10 ct10 : Value}
    (a10 : PySem.W.nsIn K mainGlobals "_law_code" = some (some (.ref fa10))) (l10 : K.lookup fa10 = some ⟨oc10, od10, .func (PySem.W.fnOf "_law_code" "_law_code" (defArgs (top 33)) (defBody (top 33)) (defScope (top 33)) .none kV10 dc10 pm10 an10 cd10 ct10), sl10⟩) (c10 : PySem.W.codeIn K cd10 "_law_code" = true) (k10 : PySem.W.keepIn K (.ref fa10) = true)
    {fa11 : Addr} {od11 an11 : Option Addr} {sl11 : Array (Option Value)} {oc11 kV11 dc11 pm11 cd11 ct11 : Value} 
    (a11 : PySem.W.findIn K (.ref cBook) "with_member" = some (some (.ref fa11))) (l11 : K.lookup fa11 = some ⟨oc11, od11, .func (PySem.W.fnOf "with_member" "Book.with_member" (defArgs (clsAt (top 21) 14)) (defBody (clsAt (top 21) 14)) (defScope (clsAt (top 21) 14)) .none kV11 dc11 pm11 an11 cd11 ct11), sl11⟩) (c11 : PySem.W.codeIn K cd11 "Book.with_member" = true) (k11 : PySem.W.keepIn K (.ref fa11) = true) (n11 : PySem.W.isFn K (.ref fa11) = true)
    {fa12 : Addr} {od12 an12 : Option Addr} {sl12 : Array (Option Value)} {oc12 kV12 dc12 pm12 cd12 ct12 : Value} 
    (a12 : PySem.W.findIn K (.ref cBook) "__eq__" = some (some (.ref fa12))) (l12 : K.lookup fa12 = some ⟨oc12, od12, .func (PySem.W.fnOf "__eq__" "Book.__eq__" (defArgs (clsAt (top 21) 4)) (defBody (clsAt (top 21) 4)) (defScope (clsAt (top 21) 4)) .none kV12 dc12 pm12 an12 cd12 ct12), sl12⟩) (c12 : PySem.W.codeIn K cd12 "Book.__eq__" = true) (k12 : PySem.W.keepIn K (.ref fa12) = true) (n12 : PySem.W.isFn K (.ref fa12) = true)
    {fa13 : Addr} {od13 an13 : Option Addr} {sl13 : Array (Option Value)} {oc13 kV13 dc13 pm13 cd13 ct13 : Value} 
    (a13 : PySem.W.findIn K (.ref cBook) "without" = some (some (.ref fa13))) (l13 : K.lookup fa13 = some ⟨oc13, od13, .func (PySem.W.fnOf "without" "Book.without" (defArgs (clsAt (top 21) 16)) (defBody (clsAt (top 21) 16)) (defScope (clsAt (top 21) 16)) .none kV13 dc13 pm13 an13 cd13 ct13), sl13⟩) (c13 : PySem.W.codeIn K cd13 "Book.without" = true) (k13 : PySem.W.keepIn K (.ref fa13) = true) (n13 : PySem.W.isFn K (.ref fa13) = true)
    {fa14 : Addr} {od14 an14 : Option Addr} {sl14 : Array (Option Value)} {oc14 kV14 dc14 pm14 cd14 ct14 : Value} 
    (a14 : PySem.W.findIn K (.ref cBook) "with_buy" = some (some (.ref fa14))) (l14 : K.lookup fa14 = some ⟨oc14, od14, .func (PySem.W.fnOf "with_buy" "Book.with_buy" (defArgs (clsAt (top 21) 15)) (defBody (clsAt (top 21) 15)) (defScope (clsAt (top 21) 15)) .none kV14 dc14 pm14 an14 cd14 ct14), sl14⟩) (c14 : PySem.W.codeIn K cd14 "Book.with_buy" = true) (k14 : PySem.W.keepIn K (.ref fa14) = true) (n14 : PySem.W.isFn K (.ref fa14) = true)
    {fa15 : Addr} {od15 an15 : Option Addr} {sl15 : Array (Option Value)} {oc15 kV15 dc15 pm15 cd15 ct15 : Value}
    (a15 : PySem.W.nsIn K mainGlobals "_law_gone" = some (some (.ref fa15))) (l15 : K.lookup fa15 = some ⟨oc15, od15, .func (PySem.W.fnOf "_law_gone" "_law_gone" (defArgs (top 34)) (defBody (top 34)) (defScope (top 34)) .none kV15 dc15 pm15 an15 cd15 ct15), sl15⟩) (c15 : PySem.W.codeIn K cd15 "_law_gone" = true) (k15 : PySem.W.keepIn K (.ref fa15) = true)
    {fa16 : Addr} {od16 an16 : Option Addr} {sl16 : Array (Option Value)} {oc16 kV16 dc16 pm16 cd16 ct16 : Value}
    (a16 : PySem.W.nsIn K mainGlobals "_law_is_made" = some (some (.ref fa16))) (l16 : K.lookup fa16 = some ⟨oc16, od16, .func (PySem.W.fnOf "_law_is_made" "_law_is_made" (defArgs (top 35)) (defBody (top 35)) (defScope (top 35)) .none kV16 dc16 pm16 an16 cd16 ct16), sl16⟩) (c16 : PySem.W.codeIn K cd16 "_law_is_made" = true) (k16 : PySem.W.keepIn K (.ref fa16) = true)
    {fa17 : Addr} {od17 an17 : Option Addr} {sl17 : Array (Option Value)} {oc17 kV17 dc17 pm17 cd17 ct17 : Value}
    (a17 : PySem.W.nsIn K mainGlobals "_law_step_right" = some (some (.ref fa17))) (l17 : K.lookup fa17 = some ⟨oc17, od17, .func (PySem.W.fnOf "_law_step_right" "_law_step_right" (defArgs (top 37)) (defBody (top 37)) (defScope (top 37)) .none kV17 dc17 pm17 an17 cd17 ct17), sl17⟩) (c17 : PySem.W.codeIn K cd17 "_law_step_right" = true) (k17 : PySem.W.keepIn K (.ref fa17) = true)
    {fa18 : Addr} {od18 an18 : Option Addr} {sl18 : Array (Option Value)} {oc18 kV18 dc18 pm18 cd18 ct18 : Value} 
    (a18 : PySem.W.findIn K (.ref cBook) "with_book" = some (some (.ref fa18))) (l18 : K.lookup fa18 = some ⟨oc18, od18, .func (PySem.W.fnOf "with_book" "Book.with_book" (defArgs (clsAt (top 21) 17)) (defBody (clsAt (top 21) 17)) (defScope (clsAt (top 21) 17)) .none kV18 dc18 pm18 an18 cd18 ct18), sl18⟩) (c18 : PySem.W.codeIn K cd18 "Book.with_book" = true) (k18 : PySem.W.keepIn K (.ref fa18) = true) (n18 : PySem.W.isFn K (.ref fa18) = true)
    {fa19 : Addr} {od19 an19 : Option Addr} {sl19 : Array (Option Value)} {oc19 kV19 dc19 pm19 cd19 ct19 : Value}
    (a19 : PySem.W.nsIn K mainGlobals "_law_beside" = some (some (.ref fa19))) (l19 : K.lookup fa19 = some ⟨oc19, od19, .func (PySem.W.fnOf "_law_beside" "_law_beside" (defArgs (top 36)) (defBody (top 36)) (defScope (top 36)) .none kV19 dc19 pm19 an19 cd19 ct19), sl19⟩) (c19 : PySem.W.codeIn K cd19 "_law_beside" = true) (k19 : PySem.W.keepIn K (.ref fa19) = true)
    {fa20 : Addr} {od20 an20 : Option Addr} {sl20 : Array (Option Value)} {oc20 kV20 dc20 pm20 cd20 ct20 : Value}
    (a20 : PySem.W.nsIn K mainGlobals "law" = some (some (.ref fa20))) (l20 : K.lookup fa20 = some ⟨oc20, od20, .func (PySem.W.fnOf "law" "law" (defArgs (top 38)) (defBody (top 38)) (defScope (top 38)) .none kV20 dc20 pm20 an20 cd20 ct20), sl20⟩) (c20 : PySem.W.codeIn K cd20 "law" = true) (k20 : PySem.W.keepIn K (.ref fa20) = true)
    {t_NOBODY : Tok} (v_NOBODY : PySem.W.nsIn K mainGlobals "NOBODY" = some (some (.int (-1) t_NOBODY)))
    (z_all : PySem.W.nsIn K mainGlobals "all" = some none)
    (z_bool : PySem.W.nsIn K mainGlobals "bool" = some none)
    (z_enumerate : PySem.W.nsIn K mainGlobals "enumerate" = some none)
    (z_int : PySem.W.nsIn K mainGlobals "int" = some none)
    (z_isinstance : PySem.W.nsIn K mainGlobals "isinstance" = some none)
    (z_len : PySem.W.nsIn K mainGlobals "len" = some none)
    (z_list : PySem.W.nsIn K mainGlobals "list" = some none)
    (z_max : PySem.W.nsIn K mainGlobals "max" = some none)
    (z_range : PySem.W.nsIn K mainGlobals "range" = some none)
    (z_repr : PySem.W.nsIn K mainGlobals "repr" = some none)
    (z_sum : PySem.W.nsIn K mainGlobals "sum" = some none)
    (z_tuple : PySem.W.nsIn K mainGlobals "tuple" = some none)
    (z_zip : PySem.W.nsIn K mainGlobals "zip" = some none) :
    ∃ fd : FuncData, (∀ (s : Shared) (v : Value), BindsTo s fd ⟨[v], []⟩ [("_law_script", v)]) ∧ ∀ base : Heap, K.In base → base.Ns mainGlobals mg → SysB base → GFn l.prog w K mg base CX0 8 fa fd ["_law_script"] (fun vs H Q _ => spOf K (f_law (clsOf K "Book")) 1 vs H Q E0) := by
  rw [clsOf_eq g_Book]
  have T : Tx K mg cBook := ⟨PySem.W.mg_none_of X G z_all, PySem.W.mg_none_of X G z_bool, PySem.W.mg_none_of X G z_enumerate, PySem.W.mg_none_of X G z_int, PySem.W.mg_none_of X G z_isinstance, PySem.W.mg_none_of X G z_len, PySem.W.mg_none_of X G z_list, PySem.W.mg_none_of X G z_max, PySem.W.mg_none_of X G z_range, PySem.W.mg_none_of X G z_repr, PySem.W.mg_none_of X G z_sum, PySem.W.mg_none_of X G z_tuple, PySem.W.mg_none_of X G z_zip, ⟨_, PySem.W.mg_of X G v_NOBODY⟩, q_Book, f_Book_ups, f_Book_buys, f_Book_pairs_kept, f_Book_sales, PySem.W.mg_of X G g_Book⟩
  have F0 := fun_mk (st := (top 28)) l0 c0 k0
  have b0 := F0.binds (ps := ["_law_script"]) fun _ _ _ _ _ _ us hl => match us, hl with | [_], _ => rfl
  have m0 := PySem.W.mg_of X G a0
  have F1 := fun_mk (st := (top 29)) l1 c1 k1
  have b1 := F1.binds (ps := ["_law_deck_here", "_law_below"]) fun _ _ _ _ _ _ us hl => match us, hl with | [_, _], _ => rfl
  have m1 := PySem.W.mg_of X G a1
  have F2 := fun_mk (st := (top 31)) l2 c2 k2
  have b2 := F2.binds (ps := ["_law_deck_here", "_law_most", "_law_deep"]) fun _ _ _ _ _ _ us hl => match us, hl with | [_, _, _], _ => rfl
  have m2 := PySem.W.mg_of X G a2
  have F3 := fun_mk (st := (top 30)) l3 c3 k3
  have b3 := F3.binds (ps := ["_law_deck_here", "_law_some"]) fun _ _ _ _ _ _ us hl => match us, hl with | [_, _], _ => rfl
  have m3 := PySem.W.mg_of X G a3
  have F4 := fun_mk (st := (top 32)) l4 c4 k4
  have b4 := F4.binds (ps := ["_law_deck_here", "_law_kit_here", "_law_most"]) fun _ _ _ _ _ _ us hl => match us, hl with | [_, _, _], _ => rfl
  have m4 := PySem.W.mg_of X G a4
  have F5 := fun_mk (st := (top 8)) l5 c5 k5
  have b5 := F5.binds (ps := ["thing"]) fun _ _ _ _ _ _ us hl => match us, hl with | [_], _ => rfl
  have m5 := PySem.W.mg_of X G a5
  have F6 := fun_mk (st := (top 19)) l6 c6 k6
  have b6 := F6.binds (ps := ["thing"]) fun _ _ _ _ _ _ us hl => match us, hl with | [_], _ => rfl
  have m6 := PySem.W.mg_of X G a6
  have F7 := fun_mk (st := (top 9)) l7 c7 k7
  have b7 := F7.binds (ps := ["least", "thing"]) fun _ _ _ _ _ _ us hl => match us, hl with | [_, _], _ => rfl
  have m7 := PySem.W.mg_of X G a7
  have F8 := fun_mk (st := (top 20)) l8 c8 k8
  have b8 := F8.binds (ps := ["many", "thing"]) fun _ _ _ _ _ _ us hl => match us, hl with | [_, _], _ => rfl
  have m8 := PySem.W.mg_of X G a8
  have F9 := funV_mk (st := (clsAt (top 21) 0)) l9 c9
  have F10 := fun_mk (st := (top 33)) l10 c10 k10
  have b10 := F10.binds (ps := ["_law_w"]) fun _ _ _ _ _ _ us hl => match us, hl with | [_], _ => rfl
  have m10 := PySem.W.mg_of X G a10
  have F11 := funV_mk (st := (clsAt (top 21) 14)) l11 c11
  have b11 := F11.binds (ps := ["self", "up", "buy"]) fun _ _ _ _ _ _ us hl => match us, hl with | [_, _, _], _ => rfl
  have F12 := funV_mk (st := (clsAt (top 21) 4)) l12 c12
  have b12 := F12.binds (ps := ["self", "other"]) fun _ _ _ _ _ _ us hl => match us, hl with | [_, _], _ => rfl
  have F13 := funV_mk (st := (clsAt (top 21) 16)) l13 c13
  have b13 := F13.binds (ps := ["self", "member"]) fun _ _ _ _ _ _ us hl => match us, hl with | [_, _], _ => rfl
  have F14 := funV_mk (st := (clsAt (top 21) 15)) l14 c14
  have b14 := F14.binds (ps := ["self", "member", "buy"]) fun _ _ _ _ _ _ us hl => match us, hl with | [_, _, _], _ => rfl
  have F15 := fun_mk (st := (top 34)) l15 c15 k15
  have b15 := F15.binds (ps := ["_law_w", "_law_k"]) fun _ _ _ _ _ _ us hl => match us, hl with | [_, _], _ => rfl
  have m15 := PySem.W.mg_of X G a15
  have F16 := fun_mk (st := (top 35)) l16 c16 k16
  have b16 := F16.binds (ps := ["_law_made", "_law_w"]) fun _ _ _ _ _ _ us hl => match us, hl with | [_, _], _ => rfl
  have m16 := PySem.W.mg_of X G a16
  have F17 := fun_mk (st := (top 37)) l17 c17 k17
  have b17 := F17.binds (ps := ["_law_deck_here", "_law_w"]) fun _ _ _ _ _ _ us hl => match us, hl with | [_, _], _ => rfl
  have m17 := PySem.W.mg_of X G a17
  have F18 := funV_mk (st := (clsAt (top 21) 17)) l18 c18
  have b18 := F18.binds (ps := ["self", "other"]) fun _ _ _ _ _ _ us hl => match us, hl with | [_, _], _ => rfl
  have F19 := fun_mk (st := (top 36)) l19 c19 k19
  have b19 := F19.binds (ps := ["_law_w", "_law_v"]) fun _ _ _ _ _ _ us hl => match us, hl with | [_, _], _ => rfl
  have m19 := PySem.W.mg_of X G a19
  have F20 := fun_mk (st := (top 38)) l20 c20 k20
  have b20 := F20.binds (ps := ["_law_script"]) fun _ _ _ _ _ _ us hl => match us, hl with | [_], _ => rfl
  have m20 := PySem.W.mg_of X G a20
  obtain rfl : fa20 = fa := by have e := m20.symm.trans hfa; simpa using e
  refine ⟨PySem.W.fnOf "law" "law" (defArgs (top 38)) (defBody (top 38)) (defScope (top 38)) .none kV20 dc20 pm20 an20 cd20 ct20, fun s v => .of_eq rfl, fun base _ _ hb => ?_⟩
  have o_w_deck := ok_w_deck (P := l.prog) (w := w) (base := base) F0 T
  have d_w_deck : FOk l.prog w K mg base 1 "_law_deck" (f_w_deck cBook) 1 := fok_mk o_w_deck m0 k0 b0
  have o_w_draw := ok_w_draw (P := l.prog) (w := w) (base := base) F1 T
  have d_w_draw : FOk l.prog w K mg base 1 "_law_draw" (f_w_draw cBook) 2 := fok_mk o_w_draw m1 k1 b1
  have o_w_kit := ok_w_kit (P := l.prog) (w := w) (base := base) F2 T d_w_draw
  have d_w_kit : FOk l.prog w K mg base 2 "_law_kit" (f_w_kit cBook) 3 := fok_mk o_w_kit m2 k2 b2
  have o_w_pick := ok_w_pick (P := l.prog) (w := w) (base := base) F3 T d_w_draw
  have d_w_pick : FOk l.prog w K mg base 2 "_law_pick" (f_w_pick cBook) 2 := fok_mk o_w_pick m3 k3 b3
  have o_w_world := ok_w_world (P := l.prog) (w := w) (base := base) F4 T d_w_draw d_w_pick
  have d_w_world : FOk l.prog w K mg base 3 "_law_world" (f_w_world cBook) 3 := fok_mk o_w_world m4 k4 b4
  have o_p_is_integer := ok_p_is_integer (P := l.prog) (w := w) (base := base) F5 T
  have d_p_is_integer : FOk l.prog w K mg base 1 "is_integer" (f_p_is_integer cBook) 1 := fok_mk o_p_is_integer m5 k5 b5
  have o_p_are_ups := ok_p_are_ups (P := l.prog) (w := w) (base := base) F6 T d_p_is_integer
  have d_p_are_ups : FOk l.prog w K mg base 2 "are_ups" (f_p_are_ups cBook) 1 := fok_mk o_p_are_ups m6 k6 b6
  have o_p_is_integer_from := ok_p_is_integer_from (P := l.prog) (w := w) (base := base) F7 T d_p_is_integer
  have d_p_is_integer_from : FOk l.prog w K mg base 2 "is_integer_from" (f_p_is_integer_from cBook) 2 := fok_mk o_p_is_integer_from m7 k7 b7
  have o_p_are_buys := ok_p_are_buys (P := l.prog) (w := w) (base := base) F8 T d_p_is_integer_from
  have d_p_are_buys : FOk l.prog w K mg base 3 "are_buys" (f_p_are_buys cBook) 2 := fok_mk o_p_are_buys m8 k8 b8
  have o_p_Book___init__ := ok_p_Book___init__ (P := l.prog) (w := w) (base := base) F9 T d_p_are_ups d_p_are_buys
  have b9_0 : Binds K _ ["self", "ups", "buys"] [] := F9.bindsD t9 rfl fun _ _ _ _ _ _ us hl => match us, (show us.length = 3 by simp at hl; omega) with | [_, _, _], _ => ⟨_, rfl, rfl⟩
  have k_p_Book___init__0 : COk l.prog w K mg base 4 "Book" cBook (f_p_Book___init__ cBook) 3 [] := cok_mk o_p_Book___init__ ⟨mk_Book, a9, n9, kp_Book⟩ (PySem.W.mg_of X G g_Book) b9_0 .nil (fun _ _ => .nil)
  have o_w_code := ok_w_code (P := l.prog) (w := w) (base := base) F10 T k_p_Book___init__0
  have d_w_code : FOk l.prog w K mg base 6 "_law_code" (f_w_code cBook) 1 := fok_mk o_w_code m10 k10 b10
  have o_p_Book_with_member := ok_p_Book_with_member (P := l.prog) (w := w) (base := base) F11 T k_p_Book___init__0
  have o_p_Book___eq__ := ok_p_Book___eq__ (P := l.prog) (w := w) (base := base) F12 T
  have o_p_Book_without := ok_p_Book_without (P := l.prog) (w := w) (base := base) F13 T k_p_Book___init__0
  have o_p_Book_with_buy := ok_p_Book_with_buy (P := l.prog) (w := w) (base := base) F14 T k_p_Book___init__0
  have o_w_gone := ok_w_gone (P := l.prog) (w := w) (base := base) F15 T
  have d_w_gone : FOk l.prog w K mg base 1 "_law_gone" (f_w_gone cBook) 2 := fok_mk o_w_gone m15 k15 b15
  have o_w_is_made := ok_w_is_made (P := l.prog) (w := w) (base := base) F16 T hb
  have d_w_is_made : GOk l.prog w K mg base 1 "_law_is_made" (f_w_is_made cBook) 2 := gok_mk o_w_is_made m16 k16 b16
  have m_p_Book_with_member : MOk l.prog w K mg base 6 cBook "with_member" (f_p_Book_with_member cBook) 3 := mok_mk o_p_Book_with_member q_Book.cls ⟨a11, n11, k11⟩ b11
  have mk_p_Book_with_member_w_step_right : MKOk l.prog w K mg base 6 cBook "with_member" (f_p_Book_with_member cBook) 3 ["buy", "up"] [1, 0] := by
    refine mkok_mk o_p_Book_with_member q_Book.cls ⟨a11, n11, k11⟩ (F11.kw fun _ _ _ _ _ _ _ ws us hl hp => ?_)
    match ws, hl with
    | [x0, x1], _ => simp at hp; subst hp; rfl
  have m_p_Book___eq__ : MOk l.prog w K mg base 1 cBook "__eq__" (f_p_Book___eq__ cBook) 2 := mok_mk o_p_Book___eq__ q_Book.cls ⟨a12, n12, k12⟩ b12
  have m_p_Book_without : MOk l.prog w K mg base 6 cBook "without" (f_p_Book_without cBook) 2 := mok_mk o_p_Book_without q_Book.cls ⟨a13, n13, k13⟩ b13
  have m_p_Book_with_buy : MOk l.prog w K mg base 6 cBook "with_buy" (f_p_Book_with_buy cBook) 3 := mok_mk o_p_Book_with_buy q_Book.cls ⟨a14, n14, k14⟩ b14
  have mk_p_Book_with_buy_w_step_right : MKOk l.prog w K mg base 6 cBook "with_buy" (f_p_Book_with_buy cBook) 3 ["buy", "member"] [1, 0] := by
    refine mkok_mk o_p_Book_with_buy q_Book.cls ⟨a14, n14, k14⟩ (F14.kw fun _ _ _ _ _ _ _ ws us hl hp => ?_)
    match ws, hl with
    | [x0, x1], _ => simp at hp; subst hp; rfl
  have mk_p_Book_without_w_step_right : MKOk l.prog w K mg base 6 cBook "without" (f_p_Book_without cBook) 2 ["member"] [0] := by
    refine mkok_mk o_p_Book_without q_Book.cls ⟨a13, n13, k13⟩ (F13.kw fun _ _ _ _ _ _ _ ws us hl hp => ?_)
    match ws, hl with
    | [x0], _ => simp at hp; subst hp; rfl
  have o_w_step_right := ok_w_step_right (P := l.prog) (w := w) (base := base) F17 T hb d_w_code d_w_draw m_p_Book_with_member mk_p_Book_with_member_w_step_right m_p_Book___eq__ m_p_Book_without m_p_Book_with_buy mk_p_Book_with_buy_w_step_right d_w_gone mk_p_Book_without_w_step_right d_w_is_made
  have d_w_step_right : GOk l.prog w K mg base 7 "_law_step_right" (f_w_step_right cBook) 2 := gok_mk o_w_step_right m17 k17 b17
  have o_p_Book_with_book := ok_p_Book_with_book (P := l.prog) (w := w) (base := base) F18 T k_p_Book___init__0
  have o_w_beside := ok_w_beside (P := l.prog) (w := w) (base := base) F19 T
  have d_w_beside : FOk l.prog w K mg base 1 "_law_beside" (f_w_beside cBook) 2 := fok_mk o_w_beside m19 k19 b19
  have mk_p_Book_with_book_law : MKOk l.prog w K mg base 6 cBook "with_book" (f_p_Book_with_book cBook) 2 ["other"] [0] := by
    refine mkok_mk o_p_Book_with_book q_Book.cls ⟨a18, n18, k18⟩ (F18.kw fun _ _ _ _ _ _ _ ws us hl hp => ?_)
    match ws, hl with
    | [x0], _ => simp at hp; subst hp; rfl
  have m_p_Book_with_book : MOk l.prog w K mg base 6 cBook "with_book" (f_p_Book_with_book cBook) 2 := mok_mk o_p_Book_with_book q_Book.cls ⟨a18, n18, k18⟩ b18
  have b9_2 : Binds K _ ["self", "ups", "buys"] [.ref y9_0, .ref y9_1] := F9.bindsD t9 rfl fun _ _ _ _ _ _ us hl => match us, (show us.length = 1 by simp at hl; omega) with | [_], _ => ⟨_, rfl, rfl⟩
  have k_p_Book___init__2 : COk l.prog w K mg base 4 "Book" cBook (f_p_Book___init__ cBook) 3 [.tup [], .tup []] := cok_mk o_p_Book___init__ ⟨mk_Book, a9, n9, kp_Book⟩ (PySem.W.mg_of X G g_Book) b9_2 (.cons (show RelV (V.ref y9_0) (Value.ref y9_0) from rfl) (.cons (show RelV (V.ref y9_1) (Value.ref y9_1) from rfl) .nil)) (fun _ _ => (.cons (rv_tup0 w9_0) (.cons (rv_tup0 w9_1) .nil)))
  have o_law := ok_law (P := l.prog) (w := w) (base := base) F20 T hb d_w_deck d_w_kit d_w_world d_w_step_right mk_p_Book_with_book_law d_w_code d_w_is_made d_w_beside m_p_Book___eq__ m_p_Book_with_book k_p_Book___init__2 k_p_Book___init__0 m_p_Book_without
  exact o_law
end K10
end
section
set_option maxHeartbeats 1000000
set_option maxRecDepth 100000
set_option linter.all false
set_option autoImplicit false
namespace K10
open Gx
variable {cB : PySem.Addr}
theorem n_cm : (PySem.Str.ofString "cells" = PySem.Str.ofString "mixed") = False := by simp only [eq_iff_iff, iff_false]; decide +kernel
theorem n_cd : (PySem.Str.ofString "cells" = PySem.Str.ofString "draws") = False := by simp only [eq_iff_iff, iff_false]; decide +kernel
theorem n_mc : (PySem.Str.ofString "mixed" = PySem.Str.ofString "cells") = False := by simp only [eq_iff_iff, iff_false]; decide +kernel
theorem n_md : (PySem.Str.ofString "mixed" = PySem.Str.ofString "draws") = False := by simp only [eq_iff_iff, iff_false]; decide +kernel
theorem n_dc : (PySem.Str.ofString "draws" = PySem.Str.ofString "cells") = False := by simp only [eq_iff_iff, iff_false]; decide +kernel
theorem n_dm : (PySem.Str.ofString "draws" = PySem.Str.ofString "mixed") = False := by simp only [eq_iff_iff, iff_false]; decide +kernel
theorem kd0 : (Sum.inr (PySem.Str.ofString "draws") : L2.Key) = kd := rfl
theorem km0 : (Sum.inr (PySem.Str.ofString "mixed") : L2.Key) = km := rfl
theorem kc0 : (Sum.inr (PySem.Str.ofString "cells") : L2.Key) = kc := rfl
theorem put_d (c : Nat) (m t u : Int) : putV [(kc, Val.ref c), (km, .int m), (kd, .int t)] kd (.int u) = [(kc, .ref c), (km, .int m), (kd, .int u)] := by
  simp [putV, n_cm, n_cd, n_mc, n_md, n_dc, n_dm]
theorem get_d (c : Nat) (m t : Int) : getV [(kc, Val.ref c), (km, .int m), (kd, .int t)] kd = some (.int t) := by simp [getV, List.find?, n_cm, n_cd, n_mc, n_md, n_dc, n_dm]
theorem get_m (c : Nat) (m t : Int) : getV [(kc, Val.ref c), (km, .int m), (kd, .int t)] km = some (.int m) := by simp [getV, List.find?, n_cm, n_cd, n_mc, n_md, n_dc, n_dm]
theorem get_c (c : Nat) (m t : Int) : getV [(kc, Val.ref c), (km, .int m), (kd, .int t)] kc = some (.ref c) := by simp [getV, List.find?]
theorem set_d {d c : Nat} {m t : Int} {X : Dx} {S : Store} (h : In d c S) : (Dk d c X S).set d (.dct [(kc, .ref c), (km, .int m), (kd, .int t)]) = Dk d c ⟨m, t, X.ms⟩ S := by
  unfold Dk
  rw [List.set_comm _ _ h.ne.symm, List.set_set]
theorem set_c {d c : Nat} {ns : List Int} {X : Dx} {S : Store} : (Dk d c X S).set c (.lst (ns.map .int)) = Dk d c ⟨X.m, X.t, ns⟩ S := by
  unfold Dk
  rw [List.set_set]
theorem lg_small {n : Nat} (hn : n ≤ 1000000000000000000000000000000) : n.log2 < 110 := by
  by_cases z : n = 0
  · subst z; decide
  · rw [Nat.log2_lt z]; omega
theorem wmul {a b : Int} {S : Store} {Q : Val → Store → Prop} {X : Exc → Store → Prop} (ha : a.natAbs ≤ 1000000000000000000000000000000) (hb : b.natAbs ≤ 1000000000000000000000000000000) (h : Q (.int (a * b)) S) : wR Q X (oMul (.int a) (.int b) S) :=
  wR_eq (if_pos (by have := lg_small ha; have := lg_small hb; omega)) h
theorem wmod {a b : Int} {S : Store} {Q : Val → Store → Prop} {X : Exc → Store → Prop} (hb : 0 < b) (h : ∀ r, r = a % b → 0 ≤ r → r < b → Q (.int r) S) : wR Q X (oMod (.int a) (.int b) S) := wR_eq (if_pos hb) (h _ rfl (Int.emod_nonneg _ (by omega)) (Int.emod_lt_of_pos _ hb))
theorem wfdiv {a b : Int} {S : Store} {Q : Val → Store → Prop} {X : Exc → Store → Prop} (hb : 0 < b) (hb2 : b.natAbs ≤ 1000000000000000000000000000000) (h : Q (.int (a / b)) S) : wR Q X (oFdiv (.int a) (.int b) S) := wR_eq (if_pos ⟨hb, Nat.lt_trans (lg_small hb2) (by decide)⟩) h
theorem wpow {a : Int} {n : Nat} {S : Store} {Q : Val → Store → Prop} {X : Exc → Store → Prop} (ha : a.natAbs < 2 ^ 64) (hn : n ≤ 1000) (h : Q (.int (a ^ n)) S) : wR Q X (oPow (.int a) (.int n) S) := wR_eq (if_pos ⟨by omega, by omega, ha⟩) (by simpa using h)
theorem draw_w {d c : Nat} {k : Nat} {n : Int} {Y : Dx} {S : Store} {Q : Val → Store → Prop} {X : Exc → Store → Prop} (hY : Y.Ok k) (hk : 1 ≤ k) (hI : In d c S) (hn : 0 < n) (hn2 : n ≤ 1000000000000)
    (h : ∀ r Y', 0 ≤ r → r < n → Dx.Ok (k - 1) Y' → Q (.int r) (Dk d c Y' S)) : wR Q X (f_w_draw cB [.ref d, .int n] (Dk d c Y S)) := by
  obtain ⟨m, t, ms⟩ := Y
  obtain ⟨y0, y1, y2, y3, y4⟩ := hY
  simp only at y0 y1 y2 y3 y4
  unfold f_w_draw
  refine wR_fn rfl ?_
  show wS _ _ _ (b_w_draw cB [some (.ref d), some (.int n), none, none, none] _)
  unfold b_w_draw
  simp -implicitDefEqProofs only [w_seq, wR_gd, wS_gd, w_nil, w_drop, w_ret, w_retN, w_if, w_asg, w_name, w_gnil, w_gcons, w_gtup, w_gsub, w_for, w_aug, w_augS, w_c, w_bin, w_un, w_chain, w_chainB, w_and, w_or, w_not,  w_of, w_tand, w_tor, w_tnot, w_tyes, w_eif, w_call, w_attr, w_fld, w_bm, w_bmL, w_anil, w_acons, w_astar, w_app0, w_kw, pick_nil, pick_cons, Option.bind_some, w_tup, w_flst, w_fr, w_mk, w_flist, w_frev, w_fcat, w_frep, w_part0, w_part, w_slice, w_fslice, w_revT, w_dict0, w_dict, w_pnil, w_pcons, pOf, keysOf, w_ival, w_range1, w_range2, w_enum, w_zip, w_inew, w_comp, wipeL, o_add, o_sub, o_neg, o_addT, o_addS, o_cmp, o_eq, o_ne, eq_int, eq_bl, eq_str, eq_tup0, eq_lst0, eq_ref0, b_int, b_intB, wR_bind, wR_ok, wS_nx, wS_ret, wS_next, wS_ofE, wS_plain, eVar, seqOf, lstOf, itOf, o_sub2T, o_sub2L, o_sub2F, o_sub2S, o_sub2D, o_sub2R, idxT0, idxT1, idxT2, idxT3, idxL0, idxR, Gx.keyOf, Gx.setItem, mPop, mAppend, mExtend, bLen, bTup, List.getElem?_cons_zero, List.getElem?_cons_succ, List.set_cons_zero, List.set_cons_succ, List.length_cons, List.length_nil, List.nil_append, List.cons_append, Nat.reduceAdd, Int.cast_ofNat_Int, Int.reduceEq, List.isEmpty_nil, List.isEmpty_cons, Int.natCast_zero, Int.natCast_one, PySem.sizeLine_eq, Nat.reduceLT, Nat.reduceLeDiff, Nat.reduceEqDiff, if_true, if_false, Bool.false_eq_true, Bool.true_eq_false, decide_true, decide_false, Bool.not_true, Bool.not_false, eq_self, true_and, and_true, Nat.zero_add, Dk_app, In.app, Dk_len, List.append_assoc, List.length_append, Option.map_some, Option.map_none, dg0, dg1, ds0, ds1, sg0, sg1, ss0, ss1, Dk_d hI, Dk_c hI, kd0, km0, kc0, put_d, get_d, get_m, get_c, set_d hI]
  have fin : ∀ (r : Int) (Z : Dx), 0 ≤ r → r < n → 0 ≤ Z.m → Z.m < 2147483647 → Z.t = t + 1 → Z.ms.length ≤ 64 → wR Q X (gcR 3 (Dk d c ⟨m, t, ms⟩ S) (.ok (.int r) (Dk d c Z S))) := fun r Z a1 a2 a3 a4 a5 a6 =>
    wR_gcD0 hI rfl (h r Z a1 a2 ⟨a3, a4, by omega, by omega, a6⟩)
  refine wS_mono (N := fun L1 S1 => ∃ (mm : Int) (l4 : Option Val) (Z : Dx), L1 = [some (.ref d), some (.int n), some (.int (t + 1)), some (.int mm), l4] ∧ S1 = Dk d c Z S ∧ 0 ≤ mm ∧ mm < 2147483647 * 2 ∧ 0 ≤ Z.m ∧ Z.m < 2147483647 ∧ Z.t = t + 1 ∧ Z.ms.length ≤ 64) ?_ ?_ (fun _ _ q => q)
  · rcases List.eq_nil_or_concat ms with rfl | ⟨ns, x, rfl⟩
    · simp -implicitDefEqProofs only [w_seq, wR_gd, wS_gd, w_nil, w_drop, w_ret, w_retN, w_if, w_asg, w_name, w_gnil, w_gcons, w_gtup, w_gsub, w_for, w_aug, w_augS, w_c, w_bin, w_un, w_chain, w_chainB, w_and, w_or, w_not,  w_of, w_tand, w_tor, w_tnot, w_tyes, w_eif, w_call, w_attr, w_fld, w_bm, w_bmL, w_anil, w_acons, w_astar, w_app0, w_kw, pick_nil, pick_cons, Option.bind_some, w_tup, w_flst, w_fr, w_mk, w_flist, w_frev, w_fcat, w_frep, w_part0, w_part, w_slice, w_fslice, w_revT, w_dict0, w_dict, w_pnil, w_pcons, pOf, keysOf, w_ival, w_range1, w_range2, w_enum, w_zip, w_inew, w_comp, wipeL, o_add, o_sub, o_neg, o_addT, o_addS, o_cmp, o_eq, o_ne, eq_int, eq_bl, eq_str, eq_tup0, eq_lst0, eq_ref0, b_int, b_intB, wR_bind, wR_ok, wS_nx, wS_ret, wS_next, wS_ofE, wS_plain, eVar, seqOf, lstOf, itOf, o_sub2T, o_sub2L, o_sub2F, o_sub2S, o_sub2D, o_sub2R, idxT0, idxT1, idxT2, idxT3, idxL0, idxR, Gx.keyOf, Gx.setItem, mPop, mAppend, mExtend, bLen, bTup, List.getElem?_cons_zero, List.getElem?_cons_succ, List.set_cons_zero, List.set_cons_succ, List.length_cons, List.length_nil, List.nil_append, List.cons_append, Nat.reduceAdd, Int.cast_ofNat_Int, Int.reduceEq, List.isEmpty_nil, List.isEmpty_cons, Int.natCast_zero, Int.natCast_one, PySem.sizeLine_eq, Nat.reduceLT, Nat.reduceLeDiff, Nat.reduceEqDiff, if_true, if_false, Bool.false_eq_true, Bool.true_eq_false, decide_true, decide_false, Bool.not_true, Bool.not_false, eq_self, true_and, and_true, Nat.zero_add, Dk_app, In.app, Dk_len, List.append_assoc, List.length_append, Option.map_some, Option.map_none, dg0, dg1, ds0, ds1, sg0, sg1, ss0, ss1, List.map_nil, List.isEmpty_nil]
      exact ⟨m, none, _, rfl, rfl, y0, by omega, y0, y1, rfl, y4⟩
    · have g0 : ((ns ++ [x]).map Val.int)[((ns ++ [x]).map Val.int).length - 1]? = some (.int x) := by simp
      have g1 : ((ns ++ [x]).map Val.int).dropLast = ns.map .int := by simp
      have g2 : ((ns ++ [x]).map Val.int).isEmpty = false := by simp
      have g3 : ns.map Val.int ++ [.int (x / n)] = (ns ++ [x / n]).map .int := by simp
      have hl : ns.length < 64 := by simp at y4; omega
      have hl2 : (ns.map Val.int).length < 16777216 := by simp; omega
      simp only [List.concat_eq_append, w_seq, wR_gd, wS_gd, w_nil, w_drop, w_ret, w_retN, w_if, w_asg, w_name, w_gnil, w_gcons, w_gtup, w_gsub, w_for, w_aug, w_augS, w_c, w_bin, w_un, w_chain, w_chainB, w_and, w_or, w_not,  w_of, w_tand, w_tor, w_tnot, w_tyes, w_eif, w_call, w_attr, w_fld, w_bm, w_bmL, w_anil, w_acons, w_astar, w_app0, w_kw, pick_nil, pick_cons, Option.bind_some, w_tup, w_flst, w_fr, w_mk, w_flist, w_frev, w_fcat, w_frep, w_part0, w_part, w_slice, w_fslice, w_revT, w_dict0, w_dict, w_pnil, w_pcons, pOf, keysOf, w_ival, w_range1, w_range2, w_enum, w_zip, w_inew, w_comp, wipeL, o_add, o_sub, o_neg, o_addT, o_addS, o_cmp, o_eq, o_ne, eq_int, eq_bl, eq_str, eq_tup0, eq_lst0, eq_ref0, b_int, b_intB, wR_bind, wR_ok, wS_nx, wS_ret, wS_next, wS_ofE, wS_plain, eVar, seqOf, lstOf, itOf, o_sub2T, o_sub2L, o_sub2F, o_sub2S, o_sub2D, o_sub2R, idxT0, idxT1, idxT2, idxT3, idxL0, idxR, Gx.keyOf, Gx.setItem, mPop, mAppend, mExtend, bLen, bTup, List.getElem?_cons_zero, List.getElem?_cons_succ, List.set_cons_zero, List.set_cons_succ, List.length_cons, List.length_nil, List.nil_append, List.cons_append, Nat.reduceAdd, Int.cast_ofNat_Int, Int.reduceEq, List.isEmpty_nil, List.isEmpty_cons, Int.natCast_zero, Int.natCast_one, PySem.sizeLine_eq, Nat.reduceLT, Nat.reduceLeDiff, Nat.reduceEqDiff, if_true, if_false, Bool.false_eq_true, Bool.true_eq_false, decide_true, decide_false, Bool.not_true, Bool.not_false, eq_self, true_and, and_true, Nat.zero_add, Dk_app, In.app, Dk_len, List.append_assoc, List.length_append, Option.map_some, Option.map_none, dg0, dg1, ds0, ds1, sg0, sg1, ss0, ss1, Dk_c hI, Dk_d hI, g0, g1, g2, kd0, km0, kc0, get_c, set_c]
      refine wpow (n := 18) (by decide) (by decide) ?_
      simp -implicitDefEqProofs only [w_seq, wR_gd, wS_gd, w_nil, w_drop, w_ret, w_retN, w_if, w_asg, w_name, w_gnil, w_gcons, w_gtup, w_gsub, w_for, w_aug, w_augS, w_c, w_bin, w_un, w_chain, w_chainB, w_and, w_or, w_not,  w_of, w_tand, w_tor, w_tnot, w_tyes, w_eif, w_call, w_attr, w_fld, w_bm, w_bmL, w_anil, w_acons, w_astar, w_app0, w_kw, pick_nil, pick_cons, Option.bind_some, w_tup, w_flst, w_fr, w_mk, w_flist, w_frev, w_fcat, w_frep, w_part0, w_part, w_slice, w_fslice, w_revT, w_dict0, w_dict, w_pnil, w_pcons, pOf, keysOf, w_ival, w_range1, w_range2, w_enum, w_zip, w_inew, w_comp, wipeL, o_add, o_sub, o_neg, o_addT, o_addS, o_cmp, o_eq, o_ne, eq_int, eq_bl, eq_str, eq_tup0, eq_lst0, eq_ref0, b_int, b_intB, wR_bind, wR_ok, wS_nx, wS_ret, wS_next, wS_ofE, wS_plain, eVar, seqOf, lstOf, itOf, o_sub2T, o_sub2L, o_sub2F, o_sub2S, o_sub2D, o_sub2R, idxT0, idxT1, idxT2, idxT3, idxL0, idxR, Gx.keyOf, Gx.setItem, mPop, mAppend, mExtend, bLen, bTup, List.getElem?_cons_zero, List.getElem?_cons_succ, List.set_cons_zero, List.set_cons_succ, List.length_cons, List.length_nil, List.nil_append, List.cons_append, Nat.reduceAdd, Int.cast_ofNat_Int, Int.reduceEq, List.isEmpty_nil, List.isEmpty_cons, Int.natCast_zero, Int.natCast_one, PySem.sizeLine_eq, Nat.reduceLT, Nat.reduceLeDiff, Nat.reduceEqDiff, if_true, if_false, Bool.false_eq_true, Bool.true_eq_false, decide_true, decide_false, Bool.not_true, Bool.not_false, eq_self, true_and, and_true, Nat.zero_add, Dk_app, In.app, Dk_len, List.append_assoc, List.length_append, Option.map_some, Option.map_none, dg0, dg1, ds0, ds1, sg0, sg1, ss0, ss1]
      refine wS_if (fun q => ?_) fun q => ?_
      · simp -implicitDefEqProofs only [w_seq, wR_gd, wS_gd, w_nil, w_drop, w_ret, w_retN, w_if, w_asg, w_name, w_gnil, w_gcons, w_gtup, w_gsub, w_for, w_aug, w_augS, w_c, w_bin, w_un, w_chain, w_chainB, w_and, w_or, w_not,  w_of, w_tand, w_tor, w_tnot, w_tyes, w_eif, w_call, w_attr, w_fld, w_bm, w_bmL, w_anil, w_acons, w_astar, w_app0, w_kw, pick_nil, pick_cons, Option.bind_some, w_tup, w_flst, w_fr, w_mk, w_flist, w_frev, w_fcat, w_frep, w_part0, w_part, w_slice, w_fslice, w_revT, w_dict0, w_dict, w_pnil, w_pcons, pOf, keysOf, w_ival, w_range1, w_range2, w_enum, w_zip, w_inew, w_comp, wipeL, o_add, o_sub, o_neg, o_addT, o_addS, o_cmp, o_eq, o_ne, eq_int, eq_bl, eq_str, eq_tup0, eq_lst0, eq_ref0, b_int, b_intB, wR_bind, wR_ok, wS_nx, wS_ret, wS_next, wS_ofE, wS_plain, eVar, seqOf, lstOf, itOf, o_sub2T, o_sub2L, o_sub2F, o_sub2S, o_sub2D, o_sub2R, idxT0, idxT1, idxT2, idxT3, idxL0, idxR, Gx.keyOf, Gx.setItem, mPop, mAppend, mExtend, bLen, bTup, List.getElem?_cons_zero, List.getElem?_cons_succ, List.set_cons_zero, List.set_cons_succ, List.length_cons, List.length_nil, List.nil_append, List.cons_append, Nat.reduceAdd, Int.cast_ofNat_Int, Int.reduceEq, List.isEmpty_nil, List.isEmpty_cons, Int.natCast_zero, Int.natCast_one, PySem.sizeLine_eq, Nat.reduceLT, Nat.reduceLeDiff, Nat.reduceEqDiff, if_true, if_false, Bool.false_eq_true, Bool.true_eq_false, decide_true, decide_false, Bool.not_true, Bool.not_false, eq_self, true_and, and_true, Nat.zero_add, Dk_app, In.app, Dk_len, List.append_assoc, List.length_append, Option.map_some, Option.map_none, dg0, dg1, ds0, ds1, sg0, sg1, ss0, ss1, Dk_c hI, Dk_d hI, kd0, km0, kc0, get_c, set_c]
        refine wfdiv hn (by omega) ?_
        simp -implicitDefEqProofs only [w_seq, wR_gd, wS_gd, w_nil, w_drop, w_ret, w_retN, w_if, w_asg, w_name, w_gnil, w_gcons, w_gtup, w_gsub, w_for, w_aug, w_augS, w_c, w_bin, w_un, w_chain, w_chainB, w_and, w_or, w_not,  w_of, w_tand, w_tor, w_tnot, w_tyes, w_eif, w_call, w_attr, w_fld, w_bm, w_bmL, w_anil, w_acons, w_astar, w_app0, w_kw, pick_nil, pick_cons, Option.bind_some, w_tup, w_flst, w_fr, w_mk, w_flist, w_frev, w_fcat, w_frep, w_part0, w_part, w_slice, w_fslice, w_revT, w_dict0, w_dict, w_pnil, w_pcons, pOf, keysOf, w_ival, w_range1, w_range2, w_enum, w_zip, w_inew, w_comp, wipeL, o_add, o_sub, o_neg, o_addT, o_addS, o_cmp, o_eq, o_ne, eq_int, eq_bl, eq_str, eq_tup0, eq_lst0, eq_ref0, b_int, b_intB, wR_bind, wR_ok, wS_nx, wS_ret, wS_next, wS_ofE, wS_plain, eVar, seqOf, lstOf, itOf, o_sub2T, o_sub2L, o_sub2F, o_sub2S, o_sub2D, o_sub2R, idxT0, idxT1, idxT2, idxT3, idxL0, idxR, Gx.keyOf, Gx.setItem, mPop, mAppend, mExtend, bLen, bTup, List.getElem?_cons_zero, List.getElem?_cons_succ, List.set_cons_zero, List.set_cons_succ, List.length_cons, List.length_nil, List.nil_append, List.cons_append, Nat.reduceAdd, Int.cast_ofNat_Int, Int.reduceEq, List.isEmpty_nil, List.isEmpty_cons, Int.natCast_zero, Int.natCast_one, PySem.sizeLine_eq, Nat.reduceLT, Nat.reduceLeDiff, Nat.reduceEqDiff, if_true, if_false, Bool.false_eq_true, Bool.true_eq_false, decide_true, decide_false, Bool.not_true, Bool.not_false, eq_self, true_and, and_true, Nat.zero_add, Dk_app, In.app, Dk_len, List.append_assoc, List.length_append, Option.map_some, Option.map_none, dg0, dg1, ds0, ds1, sg0, sg1, ss0, ss1, Dk_c hI, Dk_d hI, set_c, hl2, g3]
        refine wmod hn fun r _ r0 r1 => ?_
        exact fin r _ r0 r1 y0 y1 rfl (by simp; omega)
      · simp -implicitDefEqProofs only [w_seq, wR_gd, wS_gd, w_nil, w_drop, w_ret, w_retN, w_if, w_asg, w_name, w_gnil, w_gcons, w_gtup, w_gsub, w_for, w_aug, w_augS, w_c, w_bin, w_un, w_chain, w_chainB, w_and, w_or, w_not,  w_of, w_tand, w_tor, w_tnot, w_tyes, w_eif, w_call, w_attr, w_fld, w_bm, w_bmL, w_anil, w_acons, w_astar, w_app0, w_kw, pick_nil, pick_cons, Option.bind_some, w_tup, w_flst, w_fr, w_mk, w_flist, w_frev, w_fcat, w_frep, w_part0, w_part, w_slice, w_fslice, w_revT, w_dict0, w_dict, w_pnil, w_pcons, pOf, keysOf, w_ival, w_range1, w_range2, w_enum, w_zip, w_inew, w_comp, wipeL, o_add, o_sub, o_neg, o_addT, o_addS, o_cmp, o_eq, o_ne, eq_int, eq_bl, eq_str, eq_tup0, eq_lst0, eq_ref0, b_int, b_intB, wR_bind, wR_ok, wS_nx, wS_ret, wS_next, wS_ofE, wS_plain, eVar, seqOf, lstOf, itOf, o_sub2T, o_sub2L, o_sub2F, o_sub2S, o_sub2D, o_sub2R, idxT0, idxT1, idxT2, idxT3, idxL0, idxR, Gx.keyOf, Gx.setItem, mPop, mAppend, mExtend, bLen, bTup, List.getElem?_cons_zero, List.getElem?_cons_succ, List.set_cons_zero, List.set_cons_succ, List.length_cons, List.length_nil, List.nil_append, List.cons_append, Nat.reduceAdd, Int.cast_ofNat_Int, Int.reduceEq, List.isEmpty_nil, List.isEmpty_cons, Int.natCast_zero, Int.natCast_one, PySem.sizeLine_eq, Nat.reduceLT, Nat.reduceLeDiff, Nat.reduceEqDiff, if_true, if_false, Bool.false_eq_true, Bool.true_eq_false, decide_true, decide_false, Bool.not_true, Bool.not_false, eq_self, true_and, and_true, Nat.zero_add, Dk_app, In.app, Dk_len, List.append_assoc, List.length_append, Option.map_some, Option.map_none, dg0, dg1, ds0, ds1, sg0, sg1, ss0, ss1]
        refine wmod (by decide) fun r _ r0 r1 => ?_
        simp -implicitDefEqProofs only [w_seq, wR_gd, wS_gd, w_nil, w_drop, w_ret, w_retN, w_if, w_asg, w_name, w_gnil, w_gcons, w_gtup, w_gsub, w_for, w_aug, w_augS, w_c, w_bin, w_un, w_chain, w_chainB, w_and, w_or, w_not,  w_of, w_tand, w_tor, w_tnot, w_tyes, w_eif, w_call, w_attr, w_fld, w_bm, w_bmL, w_anil, w_acons, w_astar, w_app0, w_kw, pick_nil, pick_cons, Option.bind_some, w_tup, w_flst, w_fr, w_mk, w_flist, w_frev, w_fcat, w_frep, w_part0, w_part, w_slice, w_fslice, w_revT, w_dict0, w_dict, w_pnil, w_pcons, pOf, keysOf, w_ival, w_range1, w_range2, w_enum, w_zip, w_inew, w_comp, wipeL, o_add, o_sub, o_neg, o_addT, o_addS, o_cmp, o_eq, o_ne, eq_int, eq_bl, eq_str, eq_tup0, eq_lst0, eq_ref0, b_int, b_intB, wR_bind, wR_ok, wS_nx, wS_ret, wS_next, wS_ofE, wS_plain, eVar, seqOf, lstOf, itOf, o_sub2T, o_sub2L, o_sub2F, o_sub2S, o_sub2D, o_sub2R, idxT0, idxT1, idxT2, idxT3, idxL0, idxR, Gx.keyOf, Gx.setItem, mPop, mAppend, mExtend, bLen, bTup, List.getElem?_cons_zero, List.getElem?_cons_succ, List.set_cons_zero, List.set_cons_succ, List.length_cons, List.length_nil, List.nil_append, List.cons_append, Nat.reduceAdd, Int.cast_ofNat_Int, Int.reduceEq, List.isEmpty_nil, List.isEmpty_cons, Int.natCast_zero, Int.natCast_one, PySem.sizeLine_eq, Nat.reduceLT, Nat.reduceLeDiff, Nat.reduceEqDiff, if_true, if_false, Bool.false_eq_true, Bool.true_eq_false, decide_true, decide_false, Bool.not_true, Bool.not_false, eq_self, true_and, and_true, Nat.zero_add, Dk_app, In.app, Dk_len, List.append_assoc, List.length_append, Option.map_some, Option.map_none, dg0, dg1, ds0, ds1, sg0, sg1, ss0, ss1]
        exact ⟨m + r, _, _, rfl, rfl, by omega, by omega, y0, y1, rfl, by simp; omega⟩
  · rintro _ _ ⟨mm, l4, Z, rfl, rfl, z0, z1, z2, z3, z4, z5⟩
    have q2 : 51190 * (t + 1) ≤ 51190000000000 := by omega
    have p1 : 0 ≤ 51190 * (t + 1) * (t + 1) := Int.mul_nonneg (by omega) (by omega)
    have p2 : 51190 * (t + 1) * (t + 1) ≤ 51190000000000 * 1000000000 := Int.mul_le_mul q2 (by omega) (by omega) (by decide)
    simp -implicitDefEqProofs only [w_seq, wR_gd, wS_gd, w_nil, w_drop, w_ret, w_retN, w_if, w_asg, w_name, w_gnil, w_gcons, w_gtup, w_gsub, w_for, w_aug, w_augS, w_c, w_bin, w_un, w_chain, w_chainB, w_and, w_or, w_not,  w_of, w_tand, w_tor, w_tnot, w_tyes, w_eif, w_call, w_attr, w_fld, w_bm, w_bmL, w_anil, w_acons, w_astar, w_app0, w_kw, pick_nil, pick_cons, Option.bind_some, w_tup, w_flst, w_fr, w_mk, w_flist, w_frev, w_fcat, w_frep, w_part0, w_part, w_slice, w_fslice, w_revT, w_dict0, w_dict, w_pnil, w_pcons, pOf, keysOf, w_ival, w_range1, w_range2, w_enum, w_zip, w_inew, w_comp, wipeL, o_add, o_sub, o_neg, o_addT, o_addS, o_cmp, o_eq, o_ne, eq_int, eq_bl, eq_str, eq_tup0, eq_lst0, eq_ref0, b_int, b_intB, wR_bind, wR_ok, wS_nx, wS_ret, wS_next, wS_ofE, wS_plain, eVar, seqOf, lstOf, itOf, o_sub2T, o_sub2L, o_sub2F, o_sub2S, o_sub2D, o_sub2R, idxT0, idxT1, idxT2, idxT3, idxL0, idxR, Gx.keyOf, Gx.setItem, mPop, mAppend, mExtend, bLen, bTup, List.getElem?_cons_zero, List.getElem?_cons_succ, List.set_cons_zero, List.set_cons_succ, List.length_cons, List.length_nil, List.nil_append, List.cons_append, Nat.reduceAdd, Int.cast_ofNat_Int, Int.reduceEq, List.isEmpty_nil, List.isEmpty_cons, Int.natCast_zero, Int.natCast_one, PySem.sizeLine_eq, Nat.reduceLT, Nat.reduceLeDiff, Nat.reduceEqDiff, if_true, if_false, Bool.false_eq_true, Bool.true_eq_false, decide_true, decide_false, Bool.not_true, Bool.not_false, eq_self, true_and, and_true, Nat.zero_add, Dk_app, In.app, Dk_len, List.append_assoc, List.length_append, Option.map_some, Option.map_none, dg0, dg1, ds0, ds1, sg0, sg1, ss0, ss1]
    repeat (first | (refine wmul (by omega) (by omega) ?_) | (refine wmod (by omega) fun _ _ _ _ => ?_) | (refine wfdiv (by omega) (by omega) ?_) | simp -implicitDefEqProofs only [w_seq, wR_gd, wS_gd, w_nil, w_drop, w_ret, w_retN, w_if, w_asg, w_name, w_gnil, w_gcons, w_gtup, w_gsub, w_for, w_aug, w_augS, w_c, w_bin, w_un, w_chain, w_chainB, w_and, w_or, w_not,  w_of, w_tand, w_tor, w_tnot, w_tyes, w_eif, w_call, w_attr, w_fld, w_bm, w_bmL, w_anil, w_acons, w_astar, w_app0, w_kw, pick_nil, pick_cons, Option.bind_some, w_tup, w_flst, w_fr, w_mk, w_flist, w_frev, w_fcat, w_frep, w_part0, w_part, w_slice, w_fslice, w_revT, w_dict0, w_dict, w_pnil, w_pcons, pOf, keysOf, w_ival, w_range1, w_range2, w_enum, w_zip, w_inew, w_comp, wipeL, o_add, o_sub, o_neg, o_addT, o_addS, o_cmp, o_eq, o_ne, eq_int, eq_bl, eq_str, eq_tup0, eq_lst0, eq_ref0, b_int, b_intB, wR_bind, wR_ok, wS_nx, wS_ret, wS_next, wS_ofE, wS_plain, eVar, seqOf, lstOf, itOf, o_sub2T, o_sub2L, o_sub2F, o_sub2S, o_sub2D, o_sub2R, idxT0, idxT1, idxT2, idxT3, idxL0, idxR, Gx.keyOf, Gx.setItem, mPop, mAppend, mExtend, bLen, bTup, List.getElem?_cons_zero, List.getElem?_cons_succ, List.set_cons_zero, List.set_cons_succ, List.length_cons, List.length_nil, List.nil_append, List.cons_append, Nat.reduceAdd, Int.cast_ofNat_Int, Int.reduceEq, List.isEmpty_nil, List.isEmpty_cons, Int.natCast_zero, Int.natCast_one, PySem.sizeLine_eq, Nat.reduceLT, Nat.reduceLeDiff, Nat.reduceEqDiff, if_true, if_false, Bool.false_eq_true, Bool.true_eq_false, decide_true, decide_false, Bool.not_true, Bool.not_false, eq_self, true_and, and_true, Nat.zero_add, Dk_app, In.app, Dk_len, List.append_assoc, List.length_append, Option.map_some, Option.map_none, dg0, dg1, ds0, ds1, sg0, sg1, ss0, ss1])
    exact fin _ _ (by assumption) (by assumption) z2 z3 z4 z5
theorem pick_w {d c k : Nat} {xs : List Val} {Y : Dx} {S : Store} {Q : Val → Store → Prop} {X : Exc → Store → Prop} (hY : Y.Ok k) (hk : 1 ≤ k) (hI : In d c S) (hn : xs ≠ []) (hl : xs.length ≤ 1000000) (ht : trees xs = true)
    (h : ∀ v Y', v ∈ xs → Dx.Ok (k - 1) Y' → Q v (Dk d c Y' S)) : wR Q X (f_w_pick cB [.ref d, .lst xs] (Dk d c Y S)) := by
  have hp : 0 < xs.length := List.length_pos_iff.mpr hn
  unfold f_w_pick
  refine wR_fn rfl ?_
  show wS _ _ _ (b_w_pick cB [some (.ref d), some (.lst xs)] _)
  unfold b_w_pick
  simp -implicitDefEqProofs only [w_seq, wR_gd, wS_gd, w_nil, w_drop, w_ret, w_retN, w_if, w_asg, w_name, w_gnil, w_gcons, w_gtup, w_gsub, w_for, w_aug, w_augS, w_c, w_bin, w_un, w_chain, w_chainB, w_and, w_or, w_not,  w_of, w_tand, w_tor, w_tnot, w_tyes, w_eif, w_call, w_attr, w_fld, w_bm, w_bmL, w_anil, w_acons, w_astar, w_app0, w_kw, pick_nil, pick_cons, Option.bind_some, w_tup, w_flst, w_fr, w_mk, w_flist, w_frev, w_fcat, w_frep, w_part0, w_part, w_slice, w_fslice, w_revT, w_dict0, w_dict, w_pnil, w_pcons, pOf, keysOf, w_ival, w_range1, w_range2, w_enum, w_zip, w_inew, w_comp, wipeL, o_add, o_sub, o_neg, o_addT, o_addS, o_cmp, o_eq, o_ne, eq_int, eq_bl, eq_str, eq_tup0, eq_lst0, eq_ref0, b_int, b_intB, wR_bind, wR_ok, wS_nx, wS_ret, wS_next, wS_ofE, wS_plain, eVar, seqOf, lstOf, itOf, o_sub2T, o_sub2L, o_sub2F, o_sub2S, o_sub2D, o_sub2R, idxT0, idxT1, idxT2, idxT3, idxL0, idxR, Gx.keyOf, Gx.setItem, mPop, mAppend, mExtend, bLen, bTup, List.getElem?_cons_zero, List.getElem?_cons_succ, List.set_cons_zero, List.set_cons_succ, List.length_cons, List.length_nil, List.nil_append, List.cons_append, Nat.reduceAdd, Int.cast_ofNat_Int, Int.reduceEq, List.isEmpty_nil, List.isEmpty_cons, Int.natCast_zero, Int.natCast_one, PySem.sizeLine_eq, Nat.reduceLT, Nat.reduceLeDiff, Nat.reduceEqDiff, if_true, if_false, Bool.false_eq_true, Bool.true_eq_false, decide_true, decide_false, Bool.not_true, Bool.not_false, eq_self, true_and, and_true, Nat.zero_add, Dk_app, In.app, Dk_len, List.append_assoc, List.length_append, Option.map_some, Option.map_none, dg0, dg1, ds0, ds1, sg0, sg1, ss0, ss1]
  refine draw_w hY hk hI (by omega) (by omega) fun r Y' r0 r1 hY' => ?_
  try simp -implicitDefEqProofs only [w_seq, wR_gd, wS_gd, w_nil, w_drop, w_ret, w_retN, w_if, w_asg, w_name, w_gnil, w_gcons, w_gtup, w_gsub, w_for, w_aug, w_augS, w_c, w_bin, w_un, w_chain, w_chainB, w_and, w_or, w_not,  w_of, w_tand, w_tor, w_tnot, w_tyes, w_eif, w_call, w_attr, w_fld, w_bm, w_bmL, w_anil, w_acons, w_astar, w_app0, w_kw, pick_nil, pick_cons, Option.bind_some, w_tup, w_flst, w_fr, w_mk, w_flist, w_frev, w_fcat, w_frep, w_part0, w_part, w_slice, w_fslice, w_revT, w_dict0, w_dict, w_pnil, w_pcons, pOf, keysOf, w_ival, w_range1, w_range2, w_enum, w_zip, w_inew, w_comp, wipeL, o_add, o_sub, o_neg, o_addT, o_addS, o_cmp, o_eq, o_ne, eq_int, eq_bl, eq_str, eq_tup0, eq_lst0, eq_ref0, b_int, b_intB, wR_bind, wR_ok, wS_nx, wS_ret, wS_next, wS_ofE, wS_plain, eVar, seqOf, lstOf, itOf, o_sub2T, o_sub2L, o_sub2F, o_sub2S, o_sub2D, o_sub2R, idxT0, idxT1, idxT2, idxT3, idxL0, idxR, Gx.keyOf, Gx.setItem, mPop, mAppend, mExtend, bLen, bTup, List.getElem?_cons_zero, List.getElem?_cons_succ, List.set_cons_zero, List.set_cons_succ, List.length_cons, List.length_nil, List.nil_append, List.cons_append, Nat.reduceAdd, Int.cast_ofNat_Int, Int.reduceEq, List.isEmpty_nil, List.isEmpty_cons, Int.natCast_zero, Int.natCast_one, PySem.sizeLine_eq, Nat.reduceLT, Nat.reduceLeDiff, Nat.reduceEqDiff, if_true, if_false, Bool.false_eq_true, Bool.true_eq_false, decide_true, decide_false, Bool.not_true, Bool.not_false, eq_self, true_and, and_true, Nat.zero_add, Dk_app, In.app, Dk_len, List.append_assoc, List.length_append, Option.map_some, Option.map_none, dg0, dg1, ds0, ds1, sg0, sg1, ss0, ss1]
  refine o_idxL r0 r1 fun v hv _ => ?_
  exact wR_gcD0 hI (trees_mem ht hv) (h v Y' hv hY')
theorem pickT_w {d c k : Nat} {xs : List Val} {Y : Dx} {S : Store} {Q : Val → Store → Prop} {X : Exc → Store → Prop} (hY : Y.Ok k) (hk : 1 ≤ k) (hI : In d c S) (hn : xs ≠ []) (hl : xs.length ≤ 1000000) (ht : trees xs = true)
    (h : ∀ v Y', v ∈ xs → Dx.Ok (k - 1) Y' → Q v (Dk d c Y' S)) : wR Q X (f_w_pick cB [.ref d, .tup xs] (Dk d c Y S)) := by
  have hp : 0 < xs.length := List.length_pos_iff.mpr hn
  unfold f_w_pick
  refine wR_fn rfl ?_
  show wS _ _ _ (b_w_pick cB [some (.ref d), some (.tup xs)] _)
  unfold b_w_pick
  simp -implicitDefEqProofs only [w_seq, wR_gd, wS_gd, w_nil, w_drop, w_ret, w_retN, w_if, w_asg, w_name, w_gnil, w_gcons, w_gtup, w_gsub, w_for, w_aug, w_augS, w_c, w_bin, w_un, w_chain, w_chainB, w_and, w_or, w_not,  w_of, w_tand, w_tor, w_tnot, w_tyes, w_eif, w_call, w_attr, w_fld, w_bm, w_bmL, w_anil, w_acons, w_astar, w_app0, w_kw, pick_nil, pick_cons, Option.bind_some, w_tup, w_flst, w_fr, w_mk, w_flist, w_frev, w_fcat, w_frep, w_part0, w_part, w_slice, w_fslice, w_revT, w_dict0, w_dict, w_pnil, w_pcons, pOf, keysOf, w_ival, w_range1, w_range2, w_enum, w_zip, w_inew, w_comp, wipeL, o_add, o_sub, o_neg, o_addT, o_addS, o_cmp, o_eq, o_ne, eq_int, eq_bl, eq_str, eq_tup0, eq_lst0, eq_ref0, b_int, b_intB, wR_bind, wR_ok, wS_nx, wS_ret, wS_next, wS_ofE, wS_plain, eVar, seqOf, lstOf, itOf, o_sub2T, o_sub2L, o_sub2F, o_sub2S, o_sub2D, o_sub2R, idxT0, idxT1, idxT2, idxT3, idxL0, idxR, Gx.keyOf, Gx.setItem, mPop, mAppend, mExtend, bLen, bTup, List.getElem?_cons_zero, List.getElem?_cons_succ, List.set_cons_zero, List.set_cons_succ, List.length_cons, List.length_nil, List.nil_append, List.cons_append, Nat.reduceAdd, Int.cast_ofNat_Int, Int.reduceEq, List.isEmpty_nil, List.isEmpty_cons, Int.natCast_zero, Int.natCast_one, PySem.sizeLine_eq, Nat.reduceLT, Nat.reduceLeDiff, Nat.reduceEqDiff, if_true, if_false, Bool.false_eq_true, Bool.true_eq_false, decide_true, decide_false, Bool.not_true, Bool.not_false, eq_self, true_and, and_true, Nat.zero_add, Dk_app, In.app, Dk_len, List.append_assoc, List.length_append, Option.map_some, Option.map_none, dg0, dg1, ds0, ds1, sg0, sg1, ss0, ss1]
  refine draw_w hY hk hI (by omega) (by omega) fun r Y' r0 r1 hY' => ?_
  try simp -implicitDefEqProofs only [w_seq, wR_gd, wS_gd, w_nil, w_drop, w_ret, w_retN, w_if, w_asg, w_name, w_gnil, w_gcons, w_gtup, w_gsub, w_for, w_aug, w_augS, w_c, w_bin, w_un, w_chain, w_chainB, w_and, w_or, w_not,  w_of, w_tand, w_tor, w_tnot, w_tyes, w_eif, w_call, w_attr, w_fld, w_bm, w_bmL, w_anil, w_acons, w_astar, w_app0, w_kw, pick_nil, pick_cons, Option.bind_some, w_tup, w_flst, w_fr, w_mk, w_flist, w_frev, w_fcat, w_frep, w_part0, w_part, w_slice, w_fslice, w_revT, w_dict0, w_dict, w_pnil, w_pcons, pOf, keysOf, w_ival, w_range1, w_range2, w_enum, w_zip, w_inew, w_comp, wipeL, o_add, o_sub, o_neg, o_addT, o_addS, o_cmp, o_eq, o_ne, eq_int, eq_bl, eq_str, eq_tup0, eq_lst0, eq_ref0, b_int, b_intB, wR_bind, wR_ok, wS_nx, wS_ret, wS_next, wS_ofE, wS_plain, eVar, seqOf, lstOf, itOf, o_sub2T, o_sub2L, o_sub2F, o_sub2S, o_sub2D, o_sub2R, idxT0, idxT1, idxT2, idxT3, idxL0, idxR, Gx.keyOf, Gx.setItem, mPop, mAppend, mExtend, bLen, bTup, List.getElem?_cons_zero, List.getElem?_cons_succ, List.set_cons_zero, List.set_cons_succ, List.length_cons, List.length_nil, List.nil_append, List.cons_append, Nat.reduceAdd, Int.cast_ofNat_Int, Int.reduceEq, List.isEmpty_nil, List.isEmpty_cons, Int.natCast_zero, Int.natCast_one, PySem.sizeLine_eq, Nat.reduceLT, Nat.reduceLeDiff, Nat.reduceEqDiff, if_true, if_false, Bool.false_eq_true, Bool.true_eq_false, decide_true, decide_false, Bool.not_true, Bool.not_false, eq_self, true_and, and_true, Nat.zero_add, Dk_app, In.app, Dk_len, List.append_assoc, List.length_append, Option.map_some, Option.map_none, dg0, dg1, ds0, ds1, sg0, sg1, ss0, ss1]
  refine o_idxT r0 r1 fun v hv _ => ?_
  exact wR_gcD0 hI (trees_mem ht hv) (h v Y' hv hY')
theorem intsOf_eq : ∀ {xs : List Val} {ns : List Int}, intsOf xs = some ns → xs = ns.map .int
  | [], ns, h => by simp [intsOf] at h; subst h; rfl
  | x :: xs, ns, h => by
    cases x with
    | int i =>
      simp only [intsOf, Option.map_eq_some_iff] at h
      obtain ⟨r, hr, rfl⟩ := h
      simp [intsOf_eq hr]
    | _ => simp [intsOf] at h
theorem pickI_w {d c k : Nat} {xs : List Val} {ns : List Int} {Y : Dx} {S : Store} {Q : Val → Store → Prop} {X : Exc → Store → Prop} (hx : intsOf xs = some ns) (hY : Y.Ok k) (hk : 1 ≤ k) (hI : In d c S) (hn : xs ≠ []) (hl : xs.length ≤ 1000000)
    (h : ∀ z Y', z ∈ ns → Dx.Ok (k - 1) Y' → Q (.int z) (Dk d c Y' S)) : wR Q X (f_w_pick cB [.ref d, .lst xs] (Dk d c Y S)) := by
  have := intsOf_eq hx
  subst this
  refine pick_w hY hk hI hn hl (trees_ints _) fun v Y' hv hY' => ?_
  obtain ⟨z, hz, rfl⟩ := List.mem_map.mp hv
  exact h z Y' hz hY'
theorem deck_w {ns : List Int} {Q : Val → Store → Prop} {X : Exc → Store → Prop} (hl : ns.length ≤ 63) (h : ∀ Y, Dx.Ok 900000000 Y → Q (.ref 1) (Dk 1 0 Y [.lst [], .lst []])) : wR Q X (f_w_deck cB [.frz (ns.map .int)] []) := by
  unfold f_w_deck
  refine wR_fn rfl ?_
  show wS _ _ _ (b_w_deck cB [some (.frz (ns.map .int)), none, none, none] _)
  unfold b_w_deck
  simp -implicitDefEqProofs only [w_seq, wR_gd, wS_gd, w_nil, w_drop, w_ret, w_retN, w_if, w_asg, w_name, w_gnil, w_gcons, w_gtup, w_gsub, w_for, w_aug, w_augS, w_c, w_bin, w_un, w_chain, w_chainB, w_and, w_or, w_not,  w_of, w_tand, w_tor, w_tnot, w_tyes, w_eif, w_call, w_attr, w_fld, w_bm, w_bmL, w_anil, w_acons, w_astar, w_app0, w_kw, pick_nil, pick_cons, Option.bind_some, w_tup, w_flst, w_fr, w_mk, w_flist, w_frev, w_fcat, w_frep, w_part0, w_part, w_slice, w_fslice, w_revT, w_dict0, w_dict, w_pnil, w_pcons, pOf, keysOf, w_ival, w_range1, w_range2, w_enum, w_zip, w_inew, w_comp, wipeL, o_add, o_sub, o_neg, o_addT, o_addS, o_cmp, o_eq, o_ne, eq_int, eq_bl, eq_str, eq_tup0, eq_lst0, eq_ref0, b_int, b_intB, wR_bind, wR_ok, wS_nx, wS_ret, wS_next, wS_ofE, wS_plain, eVar, seqOf, lstOf, itOf, o_sub2T, o_sub2L, o_sub2F, o_sub2S, o_sub2D, o_sub2R, idxT0, idxT1, idxT2, idxT3, idxL0, idxR, Gx.keyOf, Gx.setItem, mPop, mAppend, mExtend, bLen, bTup, List.getElem?_cons_zero, List.getElem?_cons_succ, List.set_cons_zero, List.set_cons_succ, List.length_cons, List.length_nil, List.nil_append, List.cons_append, Nat.reduceAdd, Int.cast_ofNat_Int, Int.reduceEq, List.isEmpty_nil, List.isEmpty_cons, Int.natCast_zero, Int.natCast_one, PySem.sizeLine_eq, Nat.reduceLT, Nat.reduceLeDiff, Nat.reduceEqDiff, if_true, if_false, Bool.false_eq_true, Bool.true_eq_false, decide_true, decide_false, Bool.not_true, Bool.not_false, eq_self, true_and, and_true, Nat.zero_add, Dk_app, In.app, Dk_len, List.append_assoc, List.length_append, Option.map_some, Option.map_none, dg0, dg1, ds0, ds1, sg0, sg1, ss0, ss1]
  have hc : cutL (ns.map Val.int) none (some 63) = ns.map .int := by
    rw [show (63 : Int) = ((63 : Nat) : Int) from rfl, cut_to, List.take_of_length_le (by simpa using hl)]
  simp -implicitDefEqProofs only [w_seq, wR_gd, wS_gd, w_nil, w_drop, w_ret, w_retN, w_if, w_asg, w_name, w_gnil, w_gcons, w_gtup, w_gsub, w_for, w_aug, w_augS, w_c, w_bin, w_un, w_chain, w_chainB, w_and, w_or, w_not,  w_of, w_tand, w_tor, w_tnot, w_tyes, w_eif, w_call, w_attr, w_fld, w_bm, w_bmL, w_anil, w_acons, w_astar, w_app0, w_kw, pick_nil, pick_cons, Option.bind_some, w_tup, w_flst, w_fr, w_mk, w_flist, w_frev, w_fcat, w_frep, w_part0, w_part, w_slice, w_fslice, w_revT, w_dict0, w_dict, w_pnil, w_pcons, pOf, keysOf, w_ival, w_range1, w_range2, w_enum, w_zip, w_inew, w_comp, wipeL, o_add, o_sub, o_neg, o_addT, o_addS, o_cmp, o_eq, o_ne, eq_int, eq_bl, eq_str, eq_tup0, eq_lst0, eq_ref0, b_int, b_intB, wR_bind, wR_ok, wS_nx, wS_ret, wS_next, wS_ofE, wS_plain, eVar, seqOf, lstOf, itOf, o_sub2T, o_sub2L, o_sub2F, o_sub2S, o_sub2D, o_sub2R, idxT0, idxT1, idxT2, idxT3, idxL0, idxR, Gx.keyOf, Gx.setItem, mPop, mAppend, mExtend, bLen, bTup, List.getElem?_cons_zero, List.getElem?_cons_succ, List.set_cons_zero, List.set_cons_succ, List.length_cons, List.length_nil, List.nil_append, List.cons_append, Nat.reduceAdd, Int.cast_ofNat_Int, Int.reduceEq, List.isEmpty_nil, List.isEmpty_cons, Int.natCast_zero, Int.natCast_one, PySem.sizeLine_eq, Nat.reduceLT, Nat.reduceLeDiff, Nat.reduceEqDiff, if_true, if_false, Bool.false_eq_true, Bool.true_eq_false, decide_true, decide_false, Bool.not_true, Bool.not_false, eq_self, true_and, and_true, Nat.zero_add, Dk_app, In.app, Dk_len, List.append_assoc, List.length_append, Option.map_some, Option.map_none, dg0, dg1, ds0, ds1, sg0, sg1, ss0, ss1, hc]
  refine wS_for (fun _ L S => ∃ (m : Int) (l3 : Option Val), 0 ≤ m ∧ m < 2147483647 ∧ S = [] ∧ L = [some (.frz (ns.map .int)), some (.lst (ns.map .int)), some (.int m), l3]) ?_ ?_ ?_ ?_
  · exact ⟨1085310, none, by decide, by decide, rfl, rfl⟩
  · intros; rfl
  · rintro i x _ _ hx hi ⟨m, l3, m0, m1, rfl, rfl⟩
    obtain ⟨z, rfl⟩ : ∃ z : Int, x = .int z := by
      rw [List.getElem?_map] at hx
      obtain ⟨z, _, rfl⟩ := Option.map_eq_some_iff.mp hx
      exact ⟨z, rfl⟩
    repeat (first | simp -implicitDefEqProofs only [w_seq, wR_gd, wS_gd, w_nil, w_drop, w_ret, w_retN, w_if, w_asg, w_name, w_gnil, w_gcons, w_gtup, w_gsub, w_for, w_aug, w_augS, w_c, w_bin, w_un, w_chain, w_chainB, w_and, w_or, w_not,  w_of, w_tand, w_tor, w_tnot, w_tyes, w_eif, w_call, w_attr, w_fld, w_bm, w_bmL, w_anil, w_acons, w_astar, w_app0, w_kw, pick_nil, pick_cons, Option.bind_some, w_tup, w_flst, w_fr, w_mk, w_flist, w_frev, w_fcat, w_frep, w_part0, w_part, w_slice, w_fslice, w_revT, w_dict0, w_dict, w_pnil, w_pcons, pOf, keysOf, w_ival, w_range1, w_range2, w_enum, w_zip, w_inew, w_comp, wipeL, o_add, o_sub, o_neg, o_addT, o_addS, o_cmp, o_eq, o_ne, eq_int, eq_bl, eq_str, eq_tup0, eq_lst0, eq_ref0, b_int, b_intB, wR_bind, wR_ok, wS_nx, wS_ret, wS_next, wS_ofE, wS_plain, eVar, seqOf, lstOf, itOf, o_sub2T, o_sub2L, o_sub2F, o_sub2S, o_sub2D, o_sub2R, idxT0, idxT1, idxT2, idxT3, idxL0, idxR, Gx.keyOf, Gx.setItem, mPop, mAppend, mExtend, bLen, bTup, List.getElem?_cons_zero, List.getElem?_cons_succ, List.set_cons_zero, List.set_cons_succ, List.length_cons, List.length_nil, List.nil_append, List.cons_append, Nat.reduceAdd, Int.cast_ofNat_Int, Int.reduceEq, List.isEmpty_nil, List.isEmpty_cons, Int.natCast_zero, Int.natCast_one, PySem.sizeLine_eq, Nat.reduceLT, Nat.reduceLeDiff, Nat.reduceEqDiff, if_true, if_false, Bool.false_eq_true, Bool.true_eq_false, decide_true, decide_false, Bool.not_true, Bool.not_false, eq_self, true_and, and_true, Nat.zero_add, Dk_app, In.app, Dk_len, List.append_assoc, List.length_append, Option.map_some, Option.map_none, dg0, dg1, ds0, ds1, sg0, sg1, ss0, ss1] | ((with_reducible refine And.intro ?_ ?_); (· ((try simp only [PySem.sizeLine_eq, List.length_map, List.length_append, List.length_cons, List.length_nil, List.length_take, List.length_drop]); omega))) | ((with_reducible refine wmul ?_ ?_ ?_); (· omega); (· omega)) | ((with_reducible refine wmod ?_ fun _ _ _ _ => ?_); (· omega)) | ((with_reducible refine wfdiv ?_ ?_ ?_); (· omega); (· omega)) | ((with_reducible refine draw_w (by assumption) ?_ ?_ ?_ ?_ fun _ _ _ _ _ => ?_); (· omega); (· (first | assumption | exact In.app (by assumption))); (· omega); (· omega)) | ((with_reducible refine pickI_w (by with_unfolding_all rfl) (by assumption) ?_ ?_ ?_ ?_ fun _ _ _ _ => ?_); (· omega); (· (first | assumption | exact In.app (by assumption))); (· simp); (· simp)))
    exact hold ⟨_, _, by assumption, by omega, rfl, rfl⟩
  · rintro _ _ ⟨m, l3, m0, m1, rfl, rfl⟩
    simp -implicitDefEqProofs only [w_seq, wR_gd, wS_gd, w_nil, w_drop, w_ret, w_retN, w_if, w_asg, w_name, w_gnil, w_gcons, w_gtup, w_gsub, w_for, w_aug, w_augS, w_c, w_bin, w_un, w_chain, w_chainB, w_and, w_or, w_not,  w_of, w_tand, w_tor, w_tnot, w_tyes, w_eif, w_call, w_attr, w_fld, w_bm, w_bmL, w_anil, w_acons, w_astar, w_app0, w_kw, pick_nil, pick_cons, Option.bind_some, w_tup, w_flst, w_fr, w_mk, w_flist, w_frev, w_fcat, w_frep, w_part0, w_part, w_slice, w_fslice, w_revT, w_dict0, w_dict, w_pnil, w_pcons, pOf, keysOf, w_ival, w_range1, w_range2, w_enum, w_zip, w_inew, w_comp, wipeL, o_add, o_sub, o_neg, o_addT, o_addS, o_cmp, o_eq, o_ne, eq_int, eq_bl, eq_str, eq_tup0, eq_lst0, eq_ref0, b_int, b_intB, wR_bind, wR_ok, wS_nx, wS_ret, wS_next, wS_ofE, wS_plain, eVar, seqOf, lstOf, itOf, o_sub2T, o_sub2L, o_sub2F, o_sub2S, o_sub2D, o_sub2R, idxT0, idxT1, idxT2, idxT3, idxL0, idxR, Gx.keyOf, Gx.setItem, mPop, mAppend, mExtend, bLen, bTup, List.getElem?_cons_zero, List.getElem?_cons_succ, List.set_cons_zero, List.set_cons_succ, List.length_cons, List.length_nil, List.nil_append, List.cons_append, Nat.reduceAdd, Int.cast_ofNat_Int, Int.reduceEq, List.isEmpty_nil, List.isEmpty_cons, Int.natCast_zero, Int.natCast_one, PySem.sizeLine_eq, Nat.reduceLT, Nat.reduceLeDiff, Nat.reduceEqDiff, if_true, if_false, Bool.false_eq_true, Bool.true_eq_false, decide_true, decide_false, Bool.not_true, Bool.not_false, eq_self, true_and, and_true, Nat.zero_add, Dk_app, In.app, Dk_len, List.append_assoc, List.length_append, Option.map_some, Option.map_none, dg0, dg1, ds0, ds1, sg0, sg1, ss0, ss1, mergeV, List.foldl_cons, List.foldl_nil, putV, List.any_nil, List.any_cons, n_cm, n_mc, n_cd, n_md, Bool.or_false, Sum.inr.injEq]
    have e : gcR 0 [] (R.ok (Val.ref 1) [Cell.lst (List.map Val.int ns).reverse, Cell.dct [(kc, Val.ref 0), (km, Val.int m), (kd, Val.int 0)]]) = R.ok (Val.ref 1) (Dk 1 0 ⟨m, 0, ns.reverse⟩ [.lst [], .lst []]) := by
      rw [← List.map_reverse]; rfl
    exact wR_eq e (h _ ⟨m0, m1, Int.le_refl 0, by show (0 : Int) + _ ≤ _; omega, by simp; omega⟩)
end K10
end
section
set_option maxHeartbeats 1000000
set_option maxRecDepth 100000
set_option linter.all false
set_option autoImplicit false
namespace K10
open Gx
variable {cB : PySem.Addr}
/-- a row of _law_terms -/
def Row (v : Val) : Prop := ∃ (a b g : Int) (cuts : List Int), v = .tup [.int a, .int b, .int g, .tup (cuts.map .int)] ∧ 1 ≤ a ∧ a ≤ 100
theorem row_tree {v : Val} (h : Row v) : tree v = true := by
  obtain ⟨a, b, g, cuts, rfl, _, _⟩ := h
  simp [tree, trees, trees_ints]
theorem src0 {S : Store} {xs : List Val} : Src.ok ⟨[], xs⟩ S = true := rfl
theorem range_at {a : Int} {n i : Nat} {x : Val} (h : (rangeV a n)[i]? = some x) : x = .int (a + i) ∧ i < n := by
  by_cases hi : i < n
  · simp [rangeV, hi] at h; exact ⟨h.symm, hi⟩
  · simp [rangeV, hi] at h
theorem range_len {a : Int} {n : Nat} : (rangeV a n).length = n := by simp [rangeV]
theorem ints_ext {xs : List Int} {c : Int} : xs.map Val.int ++ [.int c] = (xs ++ [c]).map .int := by simp
/-- a list of draws -/
theorem cuts_w {d c k w : Nat} {e : E} {n : Nat} {Y : Dx} {S : Store} {L : Loc} {Q : List Val → Store → Prop} {X : Exc → Store → Prop} (hY : Y.Ok k) (hk : w + 1 ≤ k) (hI : In d c S) (hw : w ≤ 100)
    (he : ∀ (i : Nat) (Y' : Dx) (Q : Val → Store → Prop), i < w → Y'.Ok (k - i) → (∀ z Y2, Dx.Ok (k - i - 1) Y2 → Q (.int z) (Dk d c Y2 S)) → wR Q (fun _ _ => False) (e (L.set n (some (.int i))) (Dk d c Y' S)))
    (h : ∀ (cs : List Int) Y', cs.length = w → Dx.Ok (k - w) Y' → Q (cs.map .int) (Dk d c Y' S)) : wR Q X (calm (compGo (Src.ok ⟨[], rangeV 0 w⟩) (gName n) tYes e L (rangeV 0 w) (Dk d c Y S))) := by
  refine wR_comp (fun i r S1 => ∃ (cs : List Int) (Y1 : Dx), r = cs.map .int ∧ cs.length = i ∧ Y1.Ok (k - i) ∧ S1 = Dk d c Y1 S) ?_ ?_ ?_ ?_
  · exact ⟨[], Y, rfl, rfl, hY, rfl⟩
  · intros; rfl
  · rintro i x r S1 hx hi ⟨cs, Y1, rfl, e1, h1, rfl⟩
    obtain ⟨rfl, hi2⟩ := range_at hx
    simp -implicitDefEqProofs only [w_seq, wR_gd, wS_gd, w_nil, w_drop, w_ret, w_retN, w_if, w_asg, w_name, w_gnil, w_gcons, w_gtup, w_gsub, w_for, w_aug, w_augS, w_c, w_bin, w_un, w_chain, w_chainB, w_and, w_or, w_not,  w_of, w_tand, w_tor, w_tnot, w_tyes, w_eif, w_call, w_attr, w_fld, w_bm, w_bmL, w_anil, w_acons, w_astar, w_app0, w_kw, pick_nil, pick_cons, Option.bind_some, w_tup, w_flst, w_fr, w_mk, w_flist, w_frev, w_fcat, w_frep, w_part0, w_part, w_slice, w_fslice, w_revT, w_dict0, w_dict, w_pnil, w_pcons, pOf, keysOf, w_ival, w_range1, w_range2, w_enum, w_zip, w_inew, w_comp, wipeL, o_add, o_sub, o_neg, o_addT, o_addS, o_cmp, o_eq, o_ne, eq_int, eq_bl, eq_str, eq_tup0, eq_lst0, eq_ref0, b_int, b_intB, wR_bind, wR_ok, wS_nx, wS_ret, wS_next, wS_ofE, wS_plain, eVar, seqOf, lstOf, itOf, o_sub2T, o_sub2L, o_sub2F, o_sub2S, o_sub2D, o_sub2R, idxT0, idxT1, idxT2, idxT3, idxL0, idxR, Gx.keyOf, Gx.setItem, mPop, mAppend, mExtend, bLen, bTup, List.getElem?_cons_zero, List.getElem?_cons_succ, List.set_cons_zero, List.set_cons_succ, List.length_cons, List.length_nil, List.nil_append, List.cons_append, Nat.reduceAdd, Int.cast_ofNat_Int, Int.reduceEq, List.isEmpty_nil, List.isEmpty_cons, Int.natCast_zero, Int.natCast_one, PySem.sizeLine_eq, Nat.reduceLT, Nat.reduceLeDiff, Nat.reduceEqDiff, if_true, if_false, Bool.false_eq_true, Bool.true_eq_false, decide_true, decide_false, Bool.not_true, Bool.not_false, eq_self, true_and, and_true, Nat.zero_add, Dk_app, In.app, Dk_len, List.append_assoc, List.length_append, Option.map_some, Option.map_none, dg0, dg1, ds0, ds1, sg0, sg1, ss0, ss1, Int.zero_add]
    refine he i Y1 _ hi2 h1 fun z Y2 h2 => ?_
    exact hold ⟨cs ++ [z], Y2, ints_ext, by simp [e1], by simpa [Nat.sub_sub] using h2, rfl⟩
  · rintro r S1 ⟨cs, Y1, rfl, e1, h1, rfl⟩
    rw [range_len] at e1 h1
    exact h cs Y1 e1 h1
/-- a list of draws, one for each item -/
theorem cuts_w2 {d c k u : Nat} {e : E} {n : Nat} {Y : Dx} {S : Store} {L : Loc} {cs : List Int} {Q : List Val → Store → Prop} {X : Exc → Store → Prop} (hY : Y.Ok k) (hk : u * cs.length ≤ k) (hI : In d c S)
    (he : ∀ (i : Nat) (z : Int) (Y' : Dx) (Q : Val → Store → Prop), i < cs.length → Y'.Ok (k - u * i) → (∀ z Y2, Dx.Ok (k - u * i - u) Y2 → Q (.int z) (Dk d c Y2 S)) → wR Q (fun _ _ => False) (e (L.set n (some (.int z))) (Dk d c Y' S)))
    (h : ∀ (cs' : List Int) Y', cs'.length = cs.length → Dx.Ok (k - u * cs.length) Y' → Q (cs'.map .int) (Dk d c Y' S)) : wR Q X (calm (compGo (Src.ok ⟨[], cs.map .int⟩) (gName n) tYes e L (cs.map .int) (Dk d c Y S))) := by
  refine wR_comp (fun i r S1 => ∃ (cs' : List Int) (Y1 : Dx), r = cs'.map .int ∧ cs'.length = i ∧ Y1.Ok (k - u * i) ∧ S1 = Dk d c Y1 S) ?_ ?_ ?_ ?_
  · exact ⟨[], Y, rfl, rfl, hY, rfl⟩
  · intros; rfl
  · rintro i x r S1 hx hi ⟨cs', Y1, rfl, e1, h1, rfl⟩
    obtain ⟨z, rfl⟩ : ∃ z : Int, x = .int z := by
      rw [List.getElem?_map] at hx
      obtain ⟨z, _, rfl⟩ := Option.map_eq_some_iff.mp hx
      exact ⟨z, rfl⟩
    simp -implicitDefEqProofs only [w_seq, wR_gd, wS_gd, w_nil, w_drop, w_ret, w_retN, w_if, w_asg, w_name, w_gnil, w_gcons, w_gtup, w_gsub, w_for, w_aug, w_augS, w_c, w_bin, w_un, w_chain, w_chainB, w_and, w_or, w_not,  w_of, w_tand, w_tor, w_tnot, w_tyes, w_eif, w_call, w_attr, w_fld, w_bm, w_bmL, w_anil, w_acons, w_astar, w_app0, w_kw, pick_nil, pick_cons, Option.bind_some, w_tup, w_flst, w_fr, w_mk, w_flist, w_frev, w_fcat, w_frep, w_part0, w_part, w_slice, w_fslice, w_revT, w_dict0, w_dict, w_pnil, w_pcons, pOf, keysOf, w_ival, w_range1, w_range2, w_enum, w_zip, w_inew, w_comp, wipeL, o_add, o_sub, o_neg, o_addT, o_addS, o_cmp, o_eq, o_ne, eq_int, eq_bl, eq_str, eq_tup0, eq_lst0, eq_ref0, b_int, b_intB, wR_bind, wR_ok, wS_nx, wS_ret, wS_next, wS_ofE, wS_plain, eVar, seqOf, lstOf, itOf, o_sub2T, o_sub2L, o_sub2F, o_sub2S, o_sub2D, o_sub2R, idxT0, idxT1, idxT2, idxT3, idxL0, idxR, Gx.keyOf, Gx.setItem, mPop, mAppend, mExtend, bLen, bTup, List.getElem?_cons_zero, List.getElem?_cons_succ, List.set_cons_zero, List.set_cons_succ, List.length_cons, List.length_nil, List.nil_append, List.cons_append, Nat.reduceAdd, Int.cast_ofNat_Int, Int.reduceEq, List.isEmpty_nil, List.isEmpty_cons, Int.natCast_zero, Int.natCast_one, PySem.sizeLine_eq, Nat.reduceLT, Nat.reduceLeDiff, Nat.reduceEqDiff, if_true, if_false, Bool.false_eq_true, Bool.true_eq_false, decide_true, decide_false, Bool.not_true, Bool.not_false, eq_self, true_and, and_true, Nat.zero_add, Dk_app, In.app, Dk_len, List.append_assoc, List.length_append, Option.map_some, Option.map_none, dg0, dg1, ds0, ds1, sg0, sg1, ss0, ss1]
    refine he i z Y1 _ (by simpa using hi) h1 fun z Y2 h2 => ?_
    refine hold ⟨cs' ++ [z], Y2, ints_ext, by simp [e1], h2.le ?_, rfl⟩
    rw [Nat.mul_add, Nat.mul_one]; omega
  · rintro r S1 ⟨cs', Y1, rfl, e1, h1, rfl⟩
    rw [List.length_map] at e1 h1
    exact h cs' Y1 e1 h1
theorem kit_w {d c k m : Nat} {Y : Dx} {S : Store} {Q : Val → Store → Prop} {X : Exc → Store → Prop} (hY : Y.Ok k) (hk : 100 ≤ k) (hm : 1 ≤ m) (hm2 : m ≤ 5) (hI : In d c S)
    (h : ∀ rows Y', rows ≠ [] → rows.length ≤ m → (∀ r ∈ rows, Row r) → Dx.Ok (k - 100) Y' → Q (.tup rows) (Dk d c Y' S)) : wR Q X (f_w_kit cB [.ref d, .int m, .int 1] (Dk d c Y S)) := by
  unfold f_w_kit
  refine wR_fn rfl ?_
  show wS _ _ _ (b_w_kit cB [some (.ref d), some (.int m), some (.int 1), none, none, none, none, none, none, none, none] _)
  unfold b_w_kit
  repeat (first | simp -implicitDefEqProofs only [w_seq, wR_gd, wS_gd, w_nil, w_drop, w_ret, w_retN, w_if, w_asg, w_name, w_gnil, w_gcons, w_gtup, w_gsub, w_for, w_aug, w_augS, w_c, w_bin, w_un, w_chain, w_chainB, w_and, w_or, w_not,  w_of, w_tand, w_tor, w_tnot, w_tyes, w_eif, w_call, w_attr, w_fld, w_bm, w_bmL, w_anil, w_acons, w_astar, w_app0, w_kw, pick_nil, pick_cons, Option.bind_some, w_tup, w_flst, w_fr, w_mk, w_flist, w_frev, w_fcat, w_frep, w_part0, w_part, w_slice, w_fslice, w_revT, w_dict0, w_dict, w_pnil, w_pcons, pOf, keysOf, w_ival, w_range1, w_range2, w_enum, w_zip, w_inew, w_comp, wipeL, o_add, o_sub, o_neg, o_addT, o_addS, o_cmp, o_eq, o_ne, eq_int, eq_bl, eq_str, eq_tup0, eq_lst0, eq_ref0, b_int, b_intB, wR_bind, wR_ok, wS_nx, wS_ret, wS_next, wS_ofE, wS_plain, eVar, seqOf, lstOf, itOf, o_sub2T, o_sub2L, o_sub2F, o_sub2S, o_sub2D, o_sub2R, idxT0, idxT1, idxT2, idxT3, idxL0, idxR, Gx.keyOf, Gx.setItem, mPop, mAppend, mExtend, bLen, bTup, List.getElem?_cons_zero, List.getElem?_cons_succ, List.set_cons_zero, List.set_cons_succ, List.length_cons, List.length_nil, List.nil_append, List.cons_append, Nat.reduceAdd, Int.cast_ofNat_Int, Int.reduceEq, List.isEmpty_nil, List.isEmpty_cons, Int.natCast_zero, Int.natCast_one, PySem.sizeLine_eq, Nat.reduceLT, Nat.reduceLeDiff, Nat.reduceEqDiff, if_true, if_false, Bool.false_eq_true, Bool.true_eq_false, decide_true, decide_false, Bool.not_true, Bool.not_false, eq_self, true_and, and_true, Nat.zero_add, Dk_app, In.app, Dk_len, List.append_assoc, List.length_append, Option.map_some, Option.map_none, dg0, dg1, ds0, ds1, sg0, sg1, ss0, ss1, hI] | ((with_reducible refine And.intro ?_ ?_); (· ((try simp only [PySem.sizeLine_eq, List.length_map, List.length_append, List.length_cons, List.length_nil, List.length_take, List.length_drop]); omega))) | ((with_reducible refine wmul ?_ ?_ ?_); (· omega); (· omega)) | ((with_reducible refine wmod ?_ fun _ _ _ _ => ?_); (· omega)) | ((with_reducible refine wfdiv ?_ ?_ ?_); (· omega); (· omega)) | ((with_reducible refine draw_w (by assumption) ?_ ?_ ?_ ?_ fun _ _ _ _ _ => ?_); (· omega); (· (first | assumption | exact In.app (by assumption))); (· omega); (· omega)) | ((with_reducible refine pickI_w (by with_unfolding_all rfl) (by assumption) ?_ ?_ ?_ ?_ fun _ _ _ _ => ?_); (· omega); (· (first | assumption | exact In.app (by assumption))); (· simp); (· simp)))
  refine cuts_w (k := k - 1 - 1 - 1 - 1) (by assumption) (by omega) hI (by omega) (fun i Y' Q hi hY' hq => ?_) fun cs Y' hc hY' => ?_
  · repeat (first | simp -implicitDefEqProofs only [w_seq, wR_gd, wS_gd, w_nil, w_drop, w_ret, w_retN, w_if, w_asg, w_name, w_gnil, w_gcons, w_gtup, w_gsub, w_for, w_aug, w_augS, w_c, w_bin, w_un, w_chain, w_chainB, w_and, w_or, w_not,  w_of, w_tand, w_tor, w_tnot, w_tyes, w_eif, w_call, w_attr, w_fld, w_bm, w_bmL, w_anil, w_acons, w_astar, w_app0, w_kw, pick_nil, pick_cons, Option.bind_some, w_tup, w_flst, w_fr, w_mk, w_flist, w_frev, w_fcat, w_frep, w_part0, w_part, w_slice, w_fslice, w_revT, w_dict0, w_dict, w_pnil, w_pcons, pOf, keysOf, w_ival, w_range1, w_range2, w_enum, w_zip, w_inew, w_comp, wipeL, o_add, o_sub, o_neg, o_addT, o_addS, o_cmp, o_eq, o_ne, eq_int, eq_bl, eq_str, eq_tup0, eq_lst0, eq_ref0, b_int, b_intB, wR_bind, wR_ok, wS_nx, wS_ret, wS_next, wS_ofE, wS_plain, eVar, seqOf, lstOf, itOf, o_sub2T, o_sub2L, o_sub2F, o_sub2S, o_sub2D, o_sub2R, idxT0, idxT1, idxT2, idxT3, idxL0, idxR, Gx.keyOf, Gx.setItem, mPop, mAppend, mExtend, bLen, bTup, List.getElem?_cons_zero, List.getElem?_cons_succ, List.set_cons_zero, List.set_cons_succ, List.length_cons, List.length_nil, List.nil_append, List.cons_append, Nat.reduceAdd, Int.cast_ofNat_Int, Int.reduceEq, List.isEmpty_nil, List.isEmpty_cons, Int.natCast_zero, Int.natCast_one, PySem.sizeLine_eq, Nat.reduceLT, Nat.reduceLeDiff, Nat.reduceEqDiff, if_true, if_false, Bool.false_eq_true, Bool.true_eq_false, decide_true, decide_false, Bool.not_true, Bool.not_false, eq_self, true_and, and_true, Nat.zero_add, Dk_app, In.app, Dk_len, List.append_assoc, List.length_append, Option.map_some, Option.map_none, dg0, dg1, ds0, ds1, sg0, sg1, ss0, ss1] | ((with_reducible refine And.intro ?_ ?_); (· ((try simp only [PySem.sizeLine_eq, List.length_map, List.length_append, List.length_cons, List.length_nil, List.length_take, List.length_drop]); omega))) | ((with_reducible refine wmul ?_ ?_ ?_); (· omega); (· omega)) | ((with_reducible refine wmod ?_ fun _ _ _ _ => ?_); (· omega)) | ((with_reducible refine wfdiv ?_ ?_ ?_); (· omega); (· omega)) | ((with_reducible refine draw_w (by assumption) ?_ ?_ ?_ ?_ fun _ _ _ _ _ => ?_); (· omega); (· (first | assumption | exact In.app (by assumption))); (· omega); (· omega)) | ((with_reducible refine pickI_w (by with_unfolding_all rfl) (by assumption) ?_ ?_ ?_ ?_ fun _ _ _ _ => ?_); (· omega); (· (first | assumption | exact In.app (by assumption))); (· simp); (· simp)))
    exact hq _ _ (by assumption)
  repeat (first | simp -implicitDefEqProofs only [w_seq, wR_gd, wS_gd, w_nil, w_drop, w_ret, w_retN, w_if, w_asg, w_name, w_gnil, w_gcons, w_gtup, w_gsub, w_for, w_aug, w_augS, w_c, w_bin, w_un, w_chain, w_chainB, w_and, w_or, w_not,  w_of, w_tand, w_tor, w_tnot, w_tyes, w_eif, w_call, w_attr, w_fld, w_bm, w_bmL, w_anil, w_acons, w_astar, w_app0, w_kw, pick_nil, pick_cons, Option.bind_some, w_tup, w_flst, w_fr, w_mk, w_flist, w_frev, w_fcat, w_frep, w_part0, w_part, w_slice, w_fslice, w_revT, w_dict0, w_dict, w_pnil, w_pcons, pOf, keysOf, w_ival, w_range1, w_range2, w_enum, w_zip, w_inew, w_comp, wipeL, o_add, o_sub, o_neg, o_addT, o_addS, o_cmp, o_eq, o_ne, eq_int, eq_bl, eq_str, eq_tup0, eq_lst0, eq_ref0, b_int, b_intB, wR_bind, wR_ok, wS_nx, wS_ret, wS_next, wS_ofE, wS_plain, eVar, seqOf, lstOf, itOf, o_sub2T, o_sub2L, o_sub2F, o_sub2S, o_sub2D, o_sub2R, idxT0, idxT1, idxT2, idxT3, idxL0, idxR, Gx.keyOf, Gx.setItem, mPop, mAppend, mExtend, bLen, bTup, List.getElem?_cons_zero, List.getElem?_cons_succ, List.set_cons_zero, List.set_cons_succ, List.length_cons, List.length_nil, List.nil_append, List.cons_append, Nat.reduceAdd, Int.cast_ofNat_Int, Int.reduceEq, List.isEmpty_nil, List.isEmpty_cons, Int.natCast_zero, Int.natCast_one, PySem.sizeLine_eq, Nat.reduceLT, Nat.reduceLeDiff, Nat.reduceEqDiff, if_true, if_false, Bool.false_eq_true, Bool.true_eq_false, decide_true, decide_false, Bool.not_true, Bool.not_false, eq_self, true_and, and_true, Nat.zero_add, Dk_app, In.app, Dk_len, List.append_assoc, List.length_append, Option.map_some, Option.map_none, dg0, dg1, ds0, ds1, sg0, sg1, ss0, ss1, hI] | ((with_reducible refine And.intro ?_ ?_); (· ((try simp only [PySem.sizeLine_eq, List.length_map, List.length_append, List.length_cons, List.length_nil, List.length_take, List.length_drop]); omega))) | ((with_reducible refine wmul ?_ ?_ ?_); (· omega); (· omega)) | ((with_reducible refine wmod ?_ fun _ _ _ _ => ?_); (· omega)) | ((with_reducible refine wfdiv ?_ ?_ ?_); (· omega); (· omega)) | ((with_reducible refine draw_w (by assumption) ?_ ?_ ?_ ?_ fun _ _ _ _ _ => ?_); (· omega); (· (first | assumption | exact In.app (by assumption))); (· omega); (· omega)) | ((with_reducible refine pickI_w (by with_unfolding_all rfl) (by assumption) ?_ ?_ ?_ ?_ fun _ _ _ _ => ?_); (· omega); (· (first | assumption | exact In.app (by assumption))); (· simp); (· simp)))
  refine wS_for (fun i L S1 => ∃ (lo ex : Int) (cs : List Int) (rows : List Val) (l3 l4 l9 : Option Val) (Y1 : Dx), L = [some (.ref d), some (.int m), some (.int 1), l3, l4, some (.int lo), some (.int ex), some (.lst (cs.map .int)), some (.ref S.length), l9, none] ∧
      S1 = Dk d c Y1 (S ++ [.lst rows]) ∧ Y1.Ok (k - 10 - 20 * i) ∧ cs.length ≤ 4 ∧ 1 ≤ lo ∧ lo ≤ 20 + 20 * i ∧ rows.length = i + 1 ∧ ∀ r ∈ rows, Row r) ?_ ?_ ?_ ?_
  · exact ⟨_, _, cs, _, _, _, _, Y', rfl, rfl, hY'.le (by omega), by omega, by omega, by omega, rfl, fun r hr => by
      rw [List.mem_singleton.mp hr]; exact ⟨_, _, _, _, rfl, by omega, by omega⟩⟩
  · intros; rfl
  · rintro i x _ _ hx hi ⟨lo, ex, cs, rows, l3, l4, l9, Y1, rfl, rfl, h1, h2, h3, h4, h5, h6⟩
    obtain ⟨rfl, hi2⟩ := range_at hx
    repeat (first | simp -implicitDefEqProofs only [w_seq, wR_gd, wS_gd, w_nil, w_drop, w_ret, w_retN, w_if, w_asg, w_name, w_gnil, w_gcons, w_gtup, w_gsub, w_for, w_aug, w_augS, w_c, w_bin, w_un, w_chain, w_chainB, w_and, w_or, w_not,  w_of, w_tand, w_tor, w_tnot, w_tyes, w_eif, w_call, w_attr, w_fld, w_bm, w_bmL, w_anil, w_acons, w_astar, w_app0, w_kw, pick_nil, pick_cons, Option.bind_some, w_tup, w_flst, w_fr, w_mk, w_flist, w_frev, w_fcat, w_frep, w_part0, w_part, w_slice, w_fslice, w_revT, w_dict0, w_dict, w_pnil, w_pcons, pOf, keysOf, w_ival, w_range1, w_range2, w_enum, w_zip, w_inew, w_comp, wipeL, o_add, o_sub, o_neg, o_addT, o_addS, o_cmp, o_eq, o_ne, eq_int, eq_bl, eq_str, eq_tup0, eq_lst0, eq_ref0, b_int, b_intB, wR_bind, wR_ok, wS_nx, wS_ret, wS_next, wS_ofE, wS_plain, eVar, seqOf, lstOf, itOf, o_sub2T, o_sub2L, o_sub2F, o_sub2S, o_sub2D, o_sub2R, idxT0, idxT1, idxT2, idxT3, idxL0, idxR, Gx.keyOf, Gx.setItem, mPop, mAppend, mExtend, bLen, bTup, List.getElem?_cons_zero, List.getElem?_cons_succ, List.set_cons_zero, List.set_cons_succ, List.length_cons, List.length_nil, List.nil_append, List.cons_append, Nat.reduceAdd, Int.cast_ofNat_Int, Int.reduceEq, List.isEmpty_nil, List.isEmpty_cons, Int.natCast_zero, Int.natCast_one, PySem.sizeLine_eq, Nat.reduceLT, Nat.reduceLeDiff, Nat.reduceEqDiff, if_true, if_false, Bool.false_eq_true, Bool.true_eq_false, decide_true, decide_false, Bool.not_true, Bool.not_false, eq_self, true_and, and_true, Nat.zero_add, Dk_app, In.app, Dk_len, List.append_assoc, List.length_append, Option.map_some, Option.map_none, dg0, dg1, ds0, ds1, sg0, sg1, ss0, ss1, hI] | ((with_reducible refine And.intro ?_ ?_); (· ((try simp only [PySem.sizeLine_eq, List.length_map, List.length_append, List.length_cons, List.length_nil, List.length_take, List.length_drop]); omega))) | ((with_reducible refine wmul ?_ ?_ ?_); (· omega); (· omega)) | ((with_reducible refine wmod ?_ fun _ _ _ _ => ?_); (· omega)) | ((with_reducible refine wfdiv ?_ ?_ ?_); (· omega); (· omega)) | ((with_reducible refine draw_w (by assumption) ?_ ?_ ?_ ?_ fun _ _ _ _ _ => ?_); (· omega); (· (first | assumption | exact In.app (by assumption))); (· omega); (· omega)) | ((with_reducible refine pickI_w (by with_unfolding_all rfl) (by assumption) ?_ ?_ ?_ ?_ fun _ _ _ _ => ?_); (· omega); (· (first | assumption | exact In.app (by assumption))); (· simp); (· simp)))
    refine cuts_w2 (u := 2) (by assumption) (by omega) hI.app (fun i z Y' Q hi hY' hq => ?_) fun cs' Y' hc hY' => ?_
    · repeat (first | simp -implicitDefEqProofs only [w_seq, wR_gd, wS_gd, w_nil, w_drop, w_ret, w_retN, w_if, w_asg, w_name, w_gnil, w_gcons, w_gtup, w_gsub, w_for, w_aug, w_augS, w_c, w_bin, w_un, w_chain, w_chainB, w_and, w_or, w_not,  w_of, w_tand, w_tor, w_tnot, w_tyes, w_eif, w_call, w_attr, w_fld, w_bm, w_bmL, w_anil, w_acons, w_astar, w_app0, w_kw, pick_nil, pick_cons, Option.bind_some, w_tup, w_flst, w_fr, w_mk, w_flist, w_frev, w_fcat, w_frep, w_part0, w_part, w_slice, w_fslice, w_revT, w_dict0, w_dict, w_pnil, w_pcons, pOf, keysOf, w_ival, w_range1, w_range2, w_enum, w_zip, w_inew, w_comp, wipeL, o_add, o_sub, o_neg, o_addT, o_addS, o_cmp, o_eq, o_ne, eq_int, eq_bl, eq_str, eq_tup0, eq_lst0, eq_ref0, b_int, b_intB, wR_bind, wR_ok, wS_nx, wS_ret, wS_next, wS_ofE, wS_plain, eVar, seqOf, lstOf, itOf, o_sub2T, o_sub2L, o_sub2F, o_sub2S, o_sub2D, o_sub2R, idxT0, idxT1, idxT2, idxT3, idxL0, idxR, Gx.keyOf, Gx.setItem, mPop, mAppend, mExtend, bLen, bTup, List.getElem?_cons_zero, List.getElem?_cons_succ, List.set_cons_zero, List.set_cons_succ, List.length_cons, List.length_nil, List.nil_append, List.cons_append, Nat.reduceAdd, Int.cast_ofNat_Int, Int.reduceEq, List.isEmpty_nil, List.isEmpty_cons, Int.natCast_zero, Int.natCast_one, PySem.sizeLine_eq, Nat.reduceLT, Nat.reduceLeDiff, Nat.reduceEqDiff, if_true, if_false, Bool.false_eq_true, Bool.true_eq_false, decide_true, decide_false, Bool.not_true, Bool.not_false, eq_self, true_and, and_true, Nat.zero_add, Dk_app, In.app, Dk_len, List.append_assoc, List.length_append, Option.map_some, Option.map_none, dg0, dg1, ds0, ds1, sg0, sg1, ss0, ss1] | ((with_reducible refine And.intro ?_ ?_); (· ((try simp only [PySem.sizeLine_eq, List.length_map, List.length_append, List.length_cons, List.length_nil, List.length_take, List.length_drop]); omega))) | ((with_reducible refine wmul ?_ ?_ ?_); (· omega); (· omega)) | ((with_reducible refine wmod ?_ fun _ _ _ _ => ?_); (· omega)) | ((with_reducible refine wfdiv ?_ ?_ ?_); (· omega); (· omega)) | ((with_reducible refine draw_w (by assumption) ?_ ?_ ?_ ?_ fun _ _ _ _ _ => ?_); (· omega); (· (first | assumption | exact In.app (by assumption))); (· omega); (· omega)) | ((with_reducible refine pickI_w (by with_unfolding_all rfl) (by assumption) ?_ ?_ ?_ ?_ fun _ _ _ _ => ?_); (· omega); (· (first | assumption | exact In.app (by assumption))); (· simp); (· simp)))
      exact hq _ _ ((by assumption : Dx.Ok _ _).le (by omega))
    repeat (first | simp -implicitDefEqProofs only [w_seq, wR_gd, wS_gd, w_nil, w_drop, w_ret, w_retN, w_if, w_asg, w_name, w_gnil, w_gcons, w_gtup, w_gsub, w_for, w_aug, w_augS, w_c, w_bin, w_un, w_chain, w_chainB, w_and, w_or, w_not,  w_of, w_tand, w_tor, w_tnot, w_tyes, w_eif, w_call, w_attr, w_fld, w_bm, w_bmL, w_anil, w_acons, w_astar, w_app0, w_kw, pick_nil, pick_cons, Option.bind_some, w_tup, w_flst, w_fr, w_mk, w_flist, w_frev, w_fcat, w_frep, w_part0, w_part, w_slice, w_fslice, w_revT, w_dict0, w_dict, w_pnil, w_pcons, pOf, keysOf, w_ival, w_range1, w_range2, w_enum, w_zip, w_inew, w_comp, wipeL, o_add, o_sub, o_neg, o_addT, o_addS, o_cmp, o_eq, o_ne, eq_int, eq_bl, eq_str, eq_tup0, eq_lst0, eq_ref0, b_int, b_intB, wR_bind, wR_ok, wS_nx, wS_ret, wS_next, wS_ofE, wS_plain, eVar, seqOf, lstOf, itOf, o_sub2T, o_sub2L, o_sub2F, o_sub2S, o_sub2D, o_sub2R, idxT0, idxT1, idxT2, idxT3, idxL0, idxR, Gx.keyOf, Gx.setItem, mPop, mAppend, mExtend, bLen, bTup, List.getElem?_cons_zero, List.getElem?_cons_succ, List.set_cons_zero, List.set_cons_succ, List.length_cons, List.length_nil, List.nil_append, List.cons_append, Nat.reduceAdd, Int.cast_ofNat_Int, Int.reduceEq, List.isEmpty_nil, List.isEmpty_cons, Int.natCast_zero, Int.natCast_one, PySem.sizeLine_eq, Nat.reduceLT, Nat.reduceLeDiff, Nat.reduceEqDiff, if_true, if_false, Bool.false_eq_true, Bool.true_eq_false, decide_true, decide_false, Bool.not_true, Bool.not_false, eq_self, true_and, and_true, Nat.zero_add, Dk_app, In.app, Dk_len, List.append_assoc, List.length_append, Option.map_some, Option.map_none, dg0, dg1, ds0, ds1, sg0, sg1, ss0, ss1, hI] | ((with_reducible refine And.intro ?_ ?_); (· ((try simp only [PySem.sizeLine_eq, List.length_map, List.length_append, List.length_cons, List.length_nil, List.length_take, List.length_drop]); omega))) | ((with_reducible refine wmul ?_ ?_ ?_); (· omega); (· omega)) | ((with_reducible refine wmod ?_ fun _ _ _ _ => ?_); (· omega)) | ((with_reducible refine wfdiv ?_ ?_ ?_); (· omega); (· omega)) | ((with_reducible refine draw_w (by assumption) ?_ ?_ ?_ ?_ fun _ _ _ _ _ => ?_); (· omega); (· (first | assumption | exact In.app (by assumption))); (· omega); (· omega)) | ((with_reducible refine pickI_w (by with_unfolding_all rfl) (by assumption) ?_ ?_ ?_ ?_ fun _ _ _ _ => ?_); (· omega); (· (first | assumption | exact In.app (by assumption))); (· simp); (· simp)))
    exact hold ⟨_, _, cs', _, _, _, _, _, rfl, rfl, (by assumption : Dx.Ok _ _).le (by omega), by omega, by omega, by omega, by simp [h5], fun r hr => by
        rcases List.mem_append.mp hr with hr | hr
        · exact h6 r hr
        · rw [List.mem_singleton.mp hr]; exact ⟨_, _, _, _, rfl, by omega, by omega⟩⟩
  · rintro _ _ ⟨lo, ex, cs, rows, l3, l4, l9, Y1, rfl, rfl, h1, h2, h3, h4, h5, h6⟩
    repeat (first | simp -implicitDefEqProofs only [w_seq, wR_gd, wS_gd, w_nil, w_drop, w_ret, w_retN, w_if, w_asg, w_name, w_gnil, w_gcons, w_gtup, w_gsub, w_for, w_aug, w_augS, w_c, w_bin, w_un, w_chain, w_chainB, w_and, w_or, w_not,  w_of, w_tand, w_tor, w_tnot, w_tyes, w_eif, w_call, w_attr, w_fld, w_bm, w_bmL, w_anil, w_acons, w_astar, w_app0, w_kw, pick_nil, pick_cons, Option.bind_some, w_tup, w_flst, w_fr, w_mk, w_flist, w_frev, w_fcat, w_frep, w_part0, w_part, w_slice, w_fslice, w_revT, w_dict0, w_dict, w_pnil, w_pcons, pOf, keysOf, w_ival, w_range1, w_range2, w_enum, w_zip, w_inew, w_comp, wipeL, o_add, o_sub, o_neg, o_addT, o_addS, o_cmp, o_eq, o_ne, eq_int, eq_bl, eq_str, eq_tup0, eq_lst0, eq_ref0, b_int, b_intB, wR_bind, wR_ok, wS_nx, wS_ret, wS_next, wS_ofE, wS_plain, eVar, seqOf, lstOf, itOf, o_sub2T, o_sub2L, o_sub2F, o_sub2S, o_sub2D, o_sub2R, idxT0, idxT1, idxT2, idxT3, idxL0, idxR, Gx.keyOf, Gx.setItem, mPop, mAppend, mExtend, bLen, bTup, List.getElem?_cons_zero, List.getElem?_cons_succ, List.set_cons_zero, List.set_cons_succ, List.length_cons, List.length_nil, List.nil_append, List.cons_append, Nat.reduceAdd, Int.cast_ofNat_Int, Int.reduceEq, List.isEmpty_nil, List.isEmpty_cons, Int.natCast_zero, Int.natCast_one, PySem.sizeLine_eq, Nat.reduceLT, Nat.reduceLeDiff, Nat.reduceEqDiff, if_true, if_false, Bool.false_eq_true, Bool.true_eq_false, decide_true, decide_false, Bool.not_true, Bool.not_false, eq_self, true_and, and_true, Nat.zero_add, Dk_app, In.app, Dk_len, List.append_assoc, List.length_append, Option.map_some, Option.map_none, dg0, dg1, ds0, ds1, sg0, sg1, ss0, ss1, hI] | ((with_reducible refine And.intro ?_ ?_); (· ((try simp only [PySem.sizeLine_eq, List.length_map, List.length_append, List.length_cons, List.length_nil, List.length_take, List.length_drop]); omega))) | ((with_reducible refine wmul ?_ ?_ ?_); (· omega); (· omega)) | ((with_reducible refine wmod ?_ fun _ _ _ _ => ?_); (· omega)) | ((with_reducible refine wfdiv ?_ ?_ ?_); (· omega); (· omega)) | ((with_reducible refine draw_w (by assumption) ?_ ?_ ?_ ?_ fun _ _ _ _ _ => ?_); (· omega); (· (first | assumption | exact In.app (by assumption))); (· omega); (· omega)) | ((with_reducible refine pickI_w (by with_unfolding_all rfl) (by assumption) ?_ ?_ ?_ ?_ fun _ _ _ _ => ?_); (· omega); (· (first | assumption | exact In.app (by assumption))); (· simp); (· simp)))
    rw [range_len] at h1 h5
    refine wR_gcDT hI (by simpa [tree] using trees_iff.mpr fun r hr => row_tree (h6 r hr)) (h rows Y1 (fun z => ?_) (by omega) h6 (h1.le (by omega)))
    subst z; simp at h5
end K10
end
section
set_option maxHeartbeats 1000000
set_option maxRecDepth 100000
set_option linter.all false
set_option autoImplicit false
namespace K10
open Gx
variable {cB : PySem.Addr}
abbrev kf : L2.Key := Sum.inr (PySem.Str.ofString "from")
abbrev ks : L2.Key := Sum.inr (PySem.Str.ofString "spent")
theorem n_fs : (PySem.Str.ofString "from" = PySem.Str.ofString "spent") = False := by simp only [eq_iff_iff, iff_false]; decide +kernel
theorem n_sf : (PySem.Str.ofString "spent" = PySem.Str.ofString "from") = False := by simp only [eq_iff_iff, iff_false]; decide +kernel
theorem mg2 {a b : Val} : mergeV [] [(kf, a), (ks, b)] = [(kf, a), (ks, b)] := by simp [mergeV, putV, n_fs, n_sf]
theorem get_f {a b : Val} : getV [(kf, a), (ks, b)] kf = some a := by simp [getV, List.find?, n_fs, n_sf]
theorem get_s {a b : Val} : getV [(kf, a), (ks, b)] ks = some b := by simp [getV, List.find?, n_fs, n_sf]
/-- a world -/
@[irreducible] def enW (fs bs : List Int) : Val := .dct [(kf, .lst (fs.map .int)), (ks, .lst (bs.map .int))]
theorem enW_def {fs bs : List Int} : enW fs bs = .dct [(kf, .lst (fs.map .int)), (ks, .lst (bs.map .int))] := by unfold enW; rfl
theorem sub_f {fs bs : List Int} {S : Store} : oSub2 (enW fs bs) (.str (PySem.Str.ofString "from")) S = .ok (.lst (fs.map .int)) S := by
  rw [enW_def, o_sub2D]; simp only [Gx.keyOf, get_f]
theorem sub_s {fs bs : List Int} {S : Store} : oSub2 (enW fs bs) (.str (PySem.Str.ofString "spent")) S = .ok (.lst (bs.map .int)) S := by
  rw [enW_def, o_sub2D]; simp only [Gx.keyOf, get_s]
theorem tree_W {fs bs : List Int} : tree (enW fs bs) = true := by
  rw [enW_def]; simp [tree, treeK, trees_ints]
structure Wd (fs bs : List Int) : Prop where
  len : bs.length = fs.length
  fr : ∀ (i : Nat) (x : Int), fs[i]? = some x → -1 ≤ x ∧ x < i
  sp : ∀ b ∈ bs, 1 ≤ b ∧ b ≤ 1000
theorem fzR_at {n k m : Nat} {S : Store} {xs : List Int} (hm : n ≤ m) (h : S[m]? = some (.lst (xs.map .int))) : fzR n S (k + 1) m = some (.lst (xs.map .int)) := by
  simp only [fzR]
  rw [if_neg (by omega), h]
  simp only [fz_ints, Option.map_some]
theorem gc_world {d c : Nat} {Y : Dx} {S T : Store} {fs bs : List Int} (hI : In d c S) : fzV (fzR S.length (Dk d c Y (S ++ .lst (fs.map .int) :: .lst (bs.map .int) :: T)) 3) (.dct [(kf, .ref S.length), (ks, .ref (S.length + 1))]) = some (enW fs bs) := by
  simp only [fzV, fzVK]
  rw [enW_def, fzR_at (xs := fs) (Nat.le_refl _) (dg0 hI), fzR_at (xs := bs) (Nat.le_succ _) (dg1 hI)]
  rfl
def lowV : Val → Int | .tup (.int a :: _) => a | _ => 0
theorem row_low {v : Val} (h : Row v) : 1 ≤ lowV v ∧ lowV v ≤ 100 := by
  obtain ⟨a, b, g, cuts, rfl, h1, h2⟩ := h
  exact ⟨h1, h2⟩
theorem b_max2 {a b : Int} {S : Store} {Q : Val → Store → Prop} {X : Exc → Store → Prop} : wR Q X (bMax2 [.int a, .int b] S) = Q (.int (max a b)) S := id rfl
theorem o_idxTm {xs : List Val} {S : Store} {Q : Val → Store → Prop} {X : Exc → Store → Prop} (hne : xs ≠ []) (h : ∀ v, v ∈ xs → Q v S) : wR Q X (oIdx (.tup xs) (.int (-1)) S) := by
  have hl : 0 < xs.length := List.length_pos_iff.mpr hne
  have e : L2.atI xs (-1) = some (xs[xs.length - 1]'(by omega)) := by
    unfold L2.atI L2.ixN
    rw [if_neg (by decide), if_pos (by omega)]
    simp only [Option.bind_some]
    rw [show ((-1 : Int) + xs.length).toNat = xs.length - 1 by omega, List.getElem?_eq_getElem (by omega)]
  refine wR_eq (a := xs[xs.length - 1]'(by omega)) (S := S) ?_ (h _ (List.getElem_mem _))
  simp only [oIdx, seqOf, e]
theorem wd_ext {fs bs : List Int} {z b : Int} (h : Wd fs bs) (h1 : -1 ≤ z ∧ z < fs.length) (h2 : 1 ≤ b ∧ b ≤ 1000) : Wd (fs ++ [z]) (bs ++ [b]) := by
  refine ⟨by simp [h.len], fun j x hj => ?_, fun x hx => ?_⟩
  · rcases Nat.lt_or_ge j fs.length with q | q
    · rw [List.getElem?_append_left q] at hj; exact h.fr j x hj
    · rw [List.getElem?_append_right q] at hj
      rcases Nat.eq_zero_or_pos (j - fs.length) with e | e
      · rw [e] at hj; simp at hj; omega
      · rw [List.getElem?_eq_none (by simp; omega)] at hj; cases hj
  · rcases List.mem_append.mp hx with hx | hx
    · exact h.sp x hx
    · rw [List.mem_singleton.mp hx]; omega
theorem world_w {d c k M : Nat} {rows : List Val} {Y : Dx} {S : Store} {Q : Val → Store → Prop} {X : Exc → Store → Prop} (hY : Y.Ok k) (hk : 300 ≤ k) (hM : M ≤ 60) (hI : In d c S) (hne : rows ≠ []) (hrl : rows.length ≤ 5) (hr : ∀ r ∈ rows, Row r)
    (h : ∀ fs bs Y', fs.length ≤ M → Wd fs bs → Dx.Ok (k - 300) Y' → Q (enW fs bs) (Dk d c Y' S)) : wR Q X (f_w_world cB [.ref d, .tup rows, .int M] (Dk d c Y S)) := by
  unfold f_w_world
  refine wR_fn rfl ?_
  show wS _ _ _ (b_w_world cB [some (.ref d), some (.tup rows), some (.int M), none, none, none, none, none] _)
  unfold b_w_world
  repeat (first | simp -implicitDefEqProofs only [w_seq, wR_gd, wS_gd, w_nil, w_drop, w_ret, w_retN, w_if, w_asg, w_name, w_gnil, w_gcons, w_gtup, w_gsub, w_for, w_aug, w_augS, w_c, w_bin, w_un, w_chain, w_chainB, w_and, w_or, w_not,  w_of, w_tand, w_tor, w_tnot, w_tyes, w_eif, w_call, w_attr, w_fld, w_bm, w_bmL, w_anil, w_acons, w_astar, w_app0, w_kw, pick_nil, pick_cons, Option.bind_some, w_tup, w_flst, w_fr, w_mk, w_flist, w_frev, w_fcat, w_frep, w_part0, w_part, w_slice, w_fslice, w_revT, w_dict0, w_dict, w_pnil, w_pcons, pOf, keysOf, w_ival, w_range1, w_range2, w_enum, w_zip, w_inew, w_comp, wipeL, o_add, o_sub, o_neg, o_addT, o_addS, o_cmp, o_eq, o_ne, eq_int, eq_bl, eq_str, eq_tup0, eq_lst0, eq_ref0, b_int, b_intB, wR_bind, wR_ok, wS_nx, wS_ret, wS_next, wS_ofE, wS_plain, eVar, seqOf, lstOf, itOf, o_sub2T, o_sub2L, o_sub2F, o_sub2S, o_sub2D, o_sub2R, idxT0, idxT1, idxT2, idxT3, idxL0, idxR, Gx.keyOf, Gx.setItem, mPop, mAppend, mExtend, bLen, bTup, List.getElem?_cons_zero, List.getElem?_cons_succ, List.set_cons_zero, List.set_cons_succ, List.length_cons, List.length_nil, List.nil_append, List.cons_append, Nat.reduceAdd, Int.cast_ofNat_Int, Int.reduceEq, List.isEmpty_nil, List.isEmpty_cons, Int.natCast_zero, Int.natCast_one, PySem.sizeLine_eq, Nat.reduceLT, Nat.reduceLeDiff, Nat.reduceEqDiff, if_true, if_false, Bool.false_eq_true, Bool.true_eq_false, decide_true, decide_false, Bool.not_true, Bool.not_false, eq_self, true_and, and_true, Nat.zero_add, Dk_app, In.app, Dk_len, List.append_assoc, List.length_append, Option.map_some, Option.map_none, dg0, dg1, ds0, ds1, sg0, sg1, ss0, ss1, hI, mg2] | ((with_reducible refine And.intro ?_ ?_); (· ((try simp only [PySem.sizeLine_eq, List.length_map, List.length_append, List.length_cons, List.length_nil, List.length_take, List.length_drop]); omega))) | ((with_reducible refine wmul ?_ ?_ ?_); (· omega); (· omega)) | ((with_reducible refine wmod ?_ fun _ _ _ _ => ?_); (· omega)) | ((with_reducible refine wfdiv ?_ ?_ ?_); (· omega); (· omega)) | ((with_reducible refine draw_w (by assumption) ?_ ?_ ?_ ?_ fun _ _ _ _ _ => ?_); (· omega); (· (first | assumption | exact In.app (by assumption))); (· omega); (· omega)) | ((with_reducible refine pickI_w (by with_unfolding_all rfl) (by assumption) ?_ ?_ ?_ ?_ fun _ _ _ _ => ?_); (· omega); (· (first | assumption | exact In.app (by assumption))); (· simp); (· simp)))
  refine wR_comp_map (fun x => [some (.ref d), some (.tup rows), some (.int M), some (.dct [(kf, .ref S.length), (ks, .ref (S.length + 1))]), none, none, none, some x]) (fun x => .int (lowV x)) rfl (fun x _ => rfl) (fun x hx => ?_) ?_
  · obtain ⟨a, b, g, cuts, rfl, _⟩ := hr x hx
    refine ok_of_w ?_
    repeat (first | simp -implicitDefEqProofs only [w_seq, wR_gd, wS_gd, w_nil, w_drop, w_ret, w_retN, w_if, w_asg, w_name, w_gnil, w_gcons, w_gtup, w_gsub, w_for, w_aug, w_augS, w_c, w_bin, w_un, w_chain, w_chainB, w_and, w_or, w_not,  w_of, w_tand, w_tor, w_tnot, w_tyes, w_eif, w_call, w_attr, w_fld, w_bm, w_bmL, w_anil, w_acons, w_astar, w_app0, w_kw, pick_nil, pick_cons, Option.bind_some, w_tup, w_flst, w_fr, w_mk, w_flist, w_frev, w_fcat, w_frep, w_part0, w_part, w_slice, w_fslice, w_revT, w_dict0, w_dict, w_pnil, w_pcons, pOf, keysOf, w_ival, w_range1, w_range2, w_enum, w_zip, w_inew, w_comp, wipeL, o_add, o_sub, o_neg, o_addT, o_addS, o_cmp, o_eq, o_ne, eq_int, eq_bl, eq_str, eq_tup0, eq_lst0, eq_ref0, b_int, b_intB, wR_bind, wR_ok, wS_nx, wS_ret, wS_next, wS_ofE, wS_plain, eVar, seqOf, lstOf, itOf, o_sub2T, o_sub2L, o_sub2F, o_sub2S, o_sub2D, o_sub2R, idxT0, idxT1, idxT2, idxT3, idxL0, idxR, Gx.keyOf, Gx.setItem, mPop, mAppend, mExtend, bLen, bTup, List.getElem?_cons_zero, List.getElem?_cons_succ, List.set_cons_zero, List.set_cons_succ, List.length_cons, List.length_nil, List.nil_append, List.cons_append, Nat.reduceAdd, Int.cast_ofNat_Int, Int.reduceEq, List.isEmpty_nil, List.isEmpty_cons, Int.natCast_zero, Int.natCast_one, PySem.sizeLine_eq, Nat.reduceLT, Nat.reduceLeDiff, Nat.reduceEqDiff, if_true, if_false, Bool.false_eq_true, Bool.true_eq_false, decide_true, decide_false, Bool.not_true, Bool.not_false, eq_self, true_and, and_true, Nat.zero_add, Dk_app, In.app, Dk_len, List.append_assoc, List.length_append, Option.map_some, Option.map_none, dg0, dg1, ds0, ds1, sg0, sg1, ss0, ss1] | ((with_reducible refine And.intro ?_ ?_); (· ((try simp only [PySem.sizeLine_eq, List.length_map, List.length_append, List.length_cons, List.length_nil, List.length_take, List.length_drop]); omega))) | ((with_reducible refine wmul ?_ ?_ ?_); (· omega); (· omega)) | ((with_reducible refine wmod ?_ fun _ _ _ _ => ?_); (· omega)) | ((with_reducible refine wfdiv ?_ ?_ ?_); (· omega); (· omega)) | ((with_reducible refine draw_w (by assumption) ?_ ?_ ?_ ?_ fun _ _ _ _ _ => ?_); (· omega); (· (first | assumption | exact In.app (by assumption))); (· omega); (· omega)) | ((with_reducible refine pickI_w (by with_unfolding_all rfl) (by assumption) ?_ ?_ ?_ ?_ fun _ _ _ _ => ?_); (· omega); (· (first | assumption | exact In.app (by assumption))); (· simp); (· simp)))
    exact hold ⟨rfl, rfl⟩
  repeat (first | simp -implicitDefEqProofs only [w_seq, wR_gd, wS_gd, w_nil, w_drop, w_ret, w_retN, w_if, w_asg, w_name, w_gnil, w_gcons, w_gtup, w_gsub, w_for, w_aug, w_augS, w_c, w_bin, w_un, w_chain, w_chainB, w_and, w_or, w_not,  w_of, w_tand, w_tor, w_tnot, w_tyes, w_eif, w_call, w_attr, w_fld, w_bm, w_bmL, w_anil, w_acons, w_astar, w_app0, w_kw, pick_nil, pick_cons, Option.bind_some, w_tup, w_flst, w_fr, w_mk, w_flist, w_frev, w_fcat, w_frep, w_part0, w_part, w_slice, w_fslice, w_revT, w_dict0, w_dict, w_pnil, w_pcons, pOf, keysOf, w_ival, w_range1, w_range2, w_enum, w_zip, w_inew, w_comp, wipeL, o_add, o_sub, o_neg, o_addT, o_addS, o_cmp, o_eq, o_ne, eq_int, eq_bl, eq_str, eq_tup0, eq_lst0, eq_ref0, b_int, b_intB, wR_bind, wR_ok, wS_nx, wS_ret, wS_next, wS_ofE, wS_plain, eVar, seqOf, lstOf, itOf, o_sub2T, o_sub2L, o_sub2F, o_sub2S, o_sub2D, o_sub2R, idxT0, idxT1, idxT2, idxT3, idxL0, idxR, Gx.keyOf, Gx.setItem, mPop, mAppend, mExtend, bLen, bTup, List.getElem?_cons_zero, List.getElem?_cons_succ, List.set_cons_zero, List.set_cons_succ, List.length_cons, List.length_nil, List.nil_append, List.cons_append, Nat.reduceAdd, Int.cast_ofNat_Int, Int.reduceEq, List.isEmpty_nil, List.isEmpty_cons, Int.natCast_zero, Int.natCast_one, PySem.sizeLine_eq, Nat.reduceLT, Nat.reduceLeDiff, Nat.reduceEqDiff, if_true, if_false, Bool.false_eq_true, Bool.true_eq_false, decide_true, decide_false, Bool.not_true, Bool.not_false, eq_self, true_and, and_true, Nat.zero_add, Dk_app, In.app, Dk_len, List.append_assoc, List.length_append, Option.map_some, Option.map_none, dg0, dg1, ds0, ds1, sg0, sg1, ss0, ss1, hI, mg2] | ((with_reducible refine And.intro ?_ ?_); (· ((try simp only [PySem.sizeLine_eq, List.length_map, List.length_append, List.length_cons, List.length_nil, List.length_take, List.length_drop]); omega))) | ((with_reducible refine wmul ?_ ?_ ?_); (· omega); (· omega)) | ((with_reducible refine wmod ?_ fun _ _ _ _ => ?_); (· omega)) | ((with_reducible refine wfdiv ?_ ?_ ?_); (· omega); (· omega)) | ((with_reducible refine draw_w (by assumption) ?_ ?_ ?_ ?_ fun _ _ _ _ _ => ?_); (· omega); (· (first | assumption | exact In.app (by assumption))); (· omega); (· omega)) | ((with_reducible refine pickI_w (by with_unfolding_all rfl) (by assumption) ?_ ?_ ?_ ?_ fun _ _ _ _ => ?_); (· omega); (· (first | assumption | exact In.app (by assumption))); (· simp); (· simp)))
  refine wR_comp_map (fun x => [some (.ref d), some (.tup rows), some (.int M), some (.dct [(kf, .ref S.length), (ks, .ref (S.length + 1))]), none, none, none, some x]) (fun x => .int (lowV x + 1)) rfl (fun x _ => rfl) (fun x hx => ?_) ?_
  · obtain ⟨a, b, g, cuts, rfl, _⟩ := hr x hx
    refine ok_of_w ?_
    repeat (first | simp -implicitDefEqProofs only [w_seq, wR_gd, wS_gd, w_nil, w_drop, w_ret, w_retN, w_if, w_asg, w_name, w_gnil, w_gcons, w_gtup, w_gsub, w_for, w_aug, w_augS, w_c, w_bin, w_un, w_chain, w_chainB, w_and, w_or, w_not,  w_of, w_tand, w_tor, w_tnot, w_tyes, w_eif, w_call, w_attr, w_fld, w_bm, w_bmL, w_anil, w_acons, w_astar, w_app0, w_kw, pick_nil, pick_cons, Option.bind_some, w_tup, w_flst, w_fr, w_mk, w_flist, w_frev, w_fcat, w_frep, w_part0, w_part, w_slice, w_fslice, w_revT, w_dict0, w_dict, w_pnil, w_pcons, pOf, keysOf, w_ival, w_range1, w_range2, w_enum, w_zip, w_inew, w_comp, wipeL, o_add, o_sub, o_neg, o_addT, o_addS, o_cmp, o_eq, o_ne, eq_int, eq_bl, eq_str, eq_tup0, eq_lst0, eq_ref0, b_int, b_intB, wR_bind, wR_ok, wS_nx, wS_ret, wS_next, wS_ofE, wS_plain, eVar, seqOf, lstOf, itOf, o_sub2T, o_sub2L, o_sub2F, o_sub2S, o_sub2D, o_sub2R, idxT0, idxT1, idxT2, idxT3, idxL0, idxR, Gx.keyOf, Gx.setItem, mPop, mAppend, mExtend, bLen, bTup, List.getElem?_cons_zero, List.getElem?_cons_succ, List.set_cons_zero, List.set_cons_succ, List.length_cons, List.length_nil, List.nil_append, List.cons_append, Nat.reduceAdd, Int.cast_ofNat_Int, Int.reduceEq, List.isEmpty_nil, List.isEmpty_cons, Int.natCast_zero, Int.natCast_one, PySem.sizeLine_eq, Nat.reduceLT, Nat.reduceLeDiff, Nat.reduceEqDiff, if_true, if_false, Bool.false_eq_true, Bool.true_eq_false, decide_true, decide_false, Bool.not_true, Bool.not_false, eq_self, true_and, and_true, Nat.zero_add, Dk_app, In.app, Dk_len, List.append_assoc, List.length_append, Option.map_some, Option.map_none, dg0, dg1, ds0, ds1, sg0, sg1, ss0, ss1] | ((with_reducible refine And.intro ?_ ?_); (· ((try simp only [PySem.sizeLine_eq, List.length_map, List.length_append, List.length_cons, List.length_nil, List.length_take, List.length_drop]); omega))) | ((with_reducible refine wmul ?_ ?_ ?_); (· omega); (· omega)) | ((with_reducible refine wmod ?_ fun _ _ _ _ => ?_); (· omega)) | ((with_reducible refine wfdiv ?_ ?_ ?_); (· omega); (· omega)) | ((with_reducible refine draw_w (by assumption) ?_ ?_ ?_ ?_ fun _ _ _ _ _ => ?_); (· omega); (· (first | assumption | exact In.app (by assumption))); (· omega); (· omega)) | ((with_reducible refine pickI_w (by with_unfolding_all rfl) (by assumption) ?_ ?_ ?_ ?_ fun _ _ _ _ => ?_); (· omega); (· (first | assumption | exact In.app (by assumption))); (· simp); (· simp)))
    exact hold ⟨rfl, rfl⟩
  repeat (first | simp -implicitDefEqProofs only [w_seq, wR_gd, wS_gd, w_nil, w_drop, w_ret, w_retN, w_if, w_asg, w_name, w_gnil, w_gcons, w_gtup, w_gsub, w_for, w_aug, w_augS, w_c, w_bin, w_un, w_chain, w_chainB, w_and, w_or, w_not,  w_of, w_tand, w_tor, w_tnot, w_tyes, w_eif, w_call, w_attr, w_fld, w_bm, w_bmL, w_anil, w_acons, w_astar, w_app0, w_kw, pick_nil, pick_cons, Option.bind_some, w_tup, w_flst, w_fr, w_mk, w_flist, w_frev, w_fcat, w_frep, w_part0, w_part, w_slice, w_fslice, w_revT, w_dict0, w_dict, w_pnil, w_pcons, pOf, keysOf, w_ival, w_range1, w_range2, w_enum, w_zip, w_inew, w_comp, wipeL, o_add, o_sub, o_neg, o_addT, o_addS, o_cmp, o_eq, o_ne, eq_int, eq_bl, eq_str, eq_tup0, eq_lst0, eq_ref0, b_int, b_intB, wR_bind, wR_ok, wS_nx, wS_ret, wS_next, wS_ofE, wS_plain, eVar, seqOf, lstOf, itOf, o_sub2T, o_sub2L, o_sub2F, o_sub2S, o_sub2D, o_sub2R, idxT0, idxT1, idxT2, idxT3, idxL0, idxR, Gx.keyOf, Gx.setItem, mPop, mAppend, mExtend, bLen, bTup, List.getElem?_cons_zero, List.getElem?_cons_succ, List.set_cons_zero, List.set_cons_succ, List.length_cons, List.length_nil, List.nil_append, List.cons_append, Nat.reduceAdd, Int.cast_ofNat_Int, Int.reduceEq, List.isEmpty_nil, List.isEmpty_cons, Int.natCast_zero, Int.natCast_one, PySem.sizeLine_eq, Nat.reduceLT, Nat.reduceLeDiff, Nat.reduceEqDiff, if_true, if_false, Bool.false_eq_true, Bool.true_eq_false, decide_true, decide_false, Bool.not_true, Bool.not_false, eq_self, true_and, and_true, Nat.zero_add, Dk_app, In.app, Dk_len, List.append_assoc, List.length_append, Option.map_some, Option.map_none, dg0, dg1, ds0, ds1, sg0, sg1, ss0, ss1, hI, mg2] | ((with_reducible refine And.intro ?_ ?_); (· ((try simp only [PySem.sizeLine_eq, List.length_map, List.length_append, List.length_cons, List.length_nil, List.length_take, List.length_drop]); omega))) | ((with_reducible refine wmul ?_ ?_ ?_); (· omega); (· omega)) | ((with_reducible refine wmod ?_ fun _ _ _ _ => ?_); (· omega)) | ((with_reducible refine wfdiv ?_ ?_ ?_); (· omega); (· omega)) | ((with_reducible refine draw_w (by assumption) ?_ ?_ ?_ ?_ fun _ _ _ _ _ => ?_); (· omega); (· (first | assumption | exact In.app (by assumption))); (· omega); (· omega)) | ((with_reducible refine pickI_w (by with_unfolding_all rfl) (by assumption) ?_ ?_ ?_ ?_ fun _ _ _ _ => ?_); (· omega); (· (first | assumption | exact In.app (by assumption))); (· simp); (· simp)))
  refine o_idxTm hne fun v hv => ?_
  obtain ⟨l0, _, _, _, rfl, l1, l2⟩ := hr v hv
  repeat (first | simp -implicitDefEqProofs only [w_seq, wR_gd, wS_gd, w_nil, w_drop, w_ret, w_retN, w_if, w_asg, w_name, w_gnil, w_gcons, w_gtup, w_gsub, w_for, w_aug, w_augS, w_c, w_bin, w_un, w_chain, w_chainB, w_and, w_or, w_not,  w_of, w_tand, w_tor, w_tnot, w_tyes, w_eif, w_call, w_attr, w_fld, w_bm, w_bmL, w_anil, w_acons, w_astar, w_app0, w_kw, pick_nil, pick_cons, Option.bind_some, w_tup, w_flst, w_fr, w_mk, w_flist, w_frev, w_fcat, w_frep, w_part0, w_part, w_slice, w_fslice, w_revT, w_dict0, w_dict, w_pnil, w_pcons, pOf, keysOf, w_ival, w_range1, w_range2, w_enum, w_zip, w_inew, w_comp, wipeL, o_add, o_sub, o_neg, o_addT, o_addS, o_cmp, o_eq, o_ne, eq_int, eq_bl, eq_str, eq_tup0, eq_lst0, eq_ref0, b_int, b_intB, wR_bind, wR_ok, wS_nx, wS_ret, wS_next, wS_ofE, wS_plain, eVar, seqOf, lstOf, itOf, o_sub2T, o_sub2L, o_sub2F, o_sub2S, o_sub2D, o_sub2R, idxT0, idxT1, idxT2, idxT3, idxL0, idxR, Gx.keyOf, Gx.setItem, mPop, mAppend, mExtend, bLen, bTup, List.getElem?_cons_zero, List.getElem?_cons_succ, List.set_cons_zero, List.set_cons_succ, List.length_cons, List.length_nil, List.nil_append, List.cons_append, Nat.reduceAdd, Int.cast_ofNat_Int, Int.reduceEq, List.isEmpty_nil, List.isEmpty_cons, Int.natCast_zero, Int.natCast_one, PySem.sizeLine_eq, Nat.reduceLT, Nat.reduceLeDiff, Nat.reduceEqDiff, if_true, if_false, Bool.false_eq_true, Bool.true_eq_false, decide_true, decide_false, Bool.not_true, Bool.not_false, eq_self, true_and, and_true, Nat.zero_add, Dk_app, In.app, Dk_len, List.append_assoc, List.length_append, Option.map_some, Option.map_none, dg0, dg1, ds0, ds1, sg0, sg1, ss0, ss1, hI] | ((with_reducible refine And.intro ?_ ?_); (· ((try simp only [PySem.sizeLine_eq, List.length_map, List.length_append, List.length_cons, List.length_nil, List.length_take, List.length_drop]); omega))) | ((with_reducible refine wmul ?_ ?_ ?_); (· omega); (· omega)) | ((with_reducible refine wmod ?_ fun _ _ _ _ => ?_); (· omega)) | ((with_reducible refine wfdiv ?_ ?_ ?_); (· omega); (· omega)) | ((with_reducible refine draw_w (by assumption) ?_ ?_ ?_ ?_ fun _ _ _ _ _ => ?_); (· omega); (· (first | assumption | exact In.app (by assumption))); (· omega); (· omega)) | ((with_reducible refine pickI_w (by with_unfolding_all rfl) (by assumption) ?_ ?_ ?_ ?_ fun _ _ _ _ => ?_); (· omega); (· (first | assumption | exact In.app (by assumption))); (· simp); (· simp)))
  rename_i r Y1 r0 r1 hY1
  have e : rows.map (fun x => Val.int (lowV x)) ++ (rows.map (fun x => Val.int (lowV x + 1)) ++ [Val.int (l0 + 40)]) = (rows.map lowV ++ rows.map (fun x => lowV x + 1) ++ [l0 + 40]).map .int := by simp [Function.comp_def]
  rw [e]
  have z1 : ∀ z ∈ rows.map lowV ++ rows.map (fun x => lowV x + 1) ++ [l0 + 40], 1 ≤ z ∧ z ≤ 200 := by
    intro z hz
    rcases List.mem_append.mp hz with hz | hz
    · rcases List.mem_append.mp hz with hz | hz
      · obtain ⟨x, hx, rfl⟩ := List.mem_map.mp hz
        have := row_low (hr x hx); omega
      · obtain ⟨x, hx, rfl⟩ := List.mem_map.mp hz
        have := row_low (hr x hx); omega
    · rw [List.mem_singleton.mp hz]; omega
  have z2 : (rows.map lowV ++ rows.map (fun x => lowV x + 1) ++ [l0 + 40]).length ≤ 11 := by simp; omega
  have z3 : rows.map lowV ++ rows.map (fun x => lowV x + 1) ++ [l0 + 40] ≠ [] := by simp
  generalize rows.map lowV ++ rows.map (fun x => lowV x + 1) ++ [l0 + 40] = zs at z1 z2 z3 ⊢
  refine wS_for (fun i L S1 => ∃ (fs bs : List Int) (l5 l6 : Option Val) (Y1 : Dx), L = [some (.ref d), some (.tup rows), some (.int M), some (.dct [(kf, .ref S.length), (ks, .ref (S.length + 1))]), some (.lst (zs.map .int)), l5, l6, none] ∧
      S1 = Dk d c Y1 (S ++ [.lst (fs.map .int), .lst (bs.map .int)]) ∧ Y1.Ok (k - 1 - 3 * i) ∧ fs.length = i ∧ Wd fs bs) ?_ ?_ ?_ ?_
  · exact ⟨[], [], _, _, Y1, rfl, rfl, hY1.le (by omega), rfl, rfl, fun i x h => by simp at h, by simp⟩
  · intros; rfl
  · rintro i x _ _ hx hi ⟨fs, bs, l5, l6, Y2, rfl, rfl, h1, h2, h3⟩
    obtain ⟨rfl, hi2⟩ := range_at hx
    have zp : ∀ {Y3 : Dx} {k3 : Nat} {S3 : Store} {Q : Val → Store → Prop} {X : Exc → Store → Prop}, Y3.Ok k3 → 1 ≤ k3 → In d c S3 → (∀ z Y', 1 ≤ z ∧ z ≤ 200 → Dx.Ok (k3 - 1) Y' → Q (.int z) (Dk d c Y' S3)) → wR Q X (f_w_pick cB [.ref d, .lst (zs.map .int)] (Dk d c Y3 S3)) := fun a1 a2 a3 a4 =>
      pick_w a1 a2 a3 (by simpa using z3) (by simp; omega) (trees_ints _) fun v Y' hv hY' => by
        obtain ⟨z, hz, rfl⟩ := List.mem_map.mp hv
        exact a4 z Y' (z1 z hz) hY'
    repeat (first | simp -implicitDefEqProofs only [w_seq, wR_gd, wS_gd, w_nil, w_drop, w_ret, w_retN, w_if, w_asg, w_name, w_gnil, w_gcons, w_gtup, w_gsub, w_for, w_aug, w_augS, w_c, w_bin, w_un, w_chain, w_chainB, w_and, w_or, w_not,  w_of, w_tand, w_tor, w_tnot, w_tyes, w_eif, w_call, w_attr, w_fld, w_bm, w_bmL, w_anil, w_acons, w_astar, w_app0, w_kw, pick_nil, pick_cons, Option.bind_some, w_tup, w_flst, w_fr, w_mk, w_flist, w_frev, w_fcat, w_frep, w_part0, w_part, w_slice, w_fslice, w_revT, w_dict0, w_dict, w_pnil, w_pcons, pOf, keysOf, w_ival, w_range1, w_range2, w_enum, w_zip, w_inew, w_comp, wipeL, o_add, o_sub, o_neg, o_addT, o_addS, o_cmp, o_eq, o_ne, eq_int, eq_bl, eq_str, eq_tup0, eq_lst0, eq_ref0, b_int, b_intB, wR_bind, wR_ok, wS_nx, wS_ret, wS_next, wS_ofE, wS_plain, eVar, seqOf, lstOf, itOf, o_sub2T, o_sub2L, o_sub2F, o_sub2S, o_sub2D, o_sub2R, idxT0, idxT1, idxT2, idxT3, idxL0, idxR, Gx.keyOf, Gx.setItem, mPop, mAppend, mExtend, bLen, bTup, List.getElem?_cons_zero, List.getElem?_cons_succ, List.set_cons_zero, List.set_cons_succ, List.length_cons, List.length_nil, List.nil_append, List.cons_append, Nat.reduceAdd, Int.cast_ofNat_Int, Int.reduceEq, List.isEmpty_nil, List.isEmpty_cons, Int.natCast_zero, Int.natCast_one, PySem.sizeLine_eq, Nat.reduceLT, Nat.reduceLeDiff, Nat.reduceEqDiff, if_true, if_false, Bool.false_eq_true, Bool.true_eq_false, decide_true, decide_false, Bool.not_true, Bool.not_false, eq_self, true_and, and_true, Nat.zero_add, Dk_app, In.app, Dk_len, List.append_assoc, List.length_append, Option.map_some, Option.map_none, dg0, dg1, ds0, ds1, sg0, sg1, ss0, ss1, hI] | ((with_reducible refine And.intro ?_ ?_); (· ((try simp only [PySem.sizeLine_eq, List.length_map, List.length_append, List.length_cons, List.length_nil, List.length_take, List.length_drop]); omega))) | ((with_reducible refine wmul ?_ ?_ ?_); (· omega); (· omega)) | ((with_reducible refine wmod ?_ fun _ _ _ _ => ?_); (· omega)) | ((with_reducible refine wfdiv ?_ ?_ ?_); (· omega); (· omega)) | ((with_reducible refine draw_w (by assumption) ?_ ?_ ?_ ?_ fun _ _ _ _ _ => ?_); (· omega); (· (first | assumption | exact In.app (by assumption))); (· omega); (· omega)) | ((with_reducible refine pickI_w (by with_unfolding_all rfl) (by assumption) ?_ ?_ ?_ ?_ fun _ _ _ _ => ?_); (· omega); (· (first | assumption | exact In.app (by assumption))); (· simp); (· simp)))
    refine wR_mono (Q := fun v S1 => ∃ (z : Int) (Y3 : Dx), v = .int z ∧ S1 = Dk d c Y3 (S ++ [.lst (fs.map .int), .lst (bs.map .int)]) ∧ (0 < i → -1 ≤ z ∧ z < i) ∧ Y3.Ok (k - 3 - 3 * i)) ?_ ?_
    · (first | refine wS_if (fun q => ?_) fun q => ?_ | refine wR_if (fun q => ?_) fun q => ?_ | refine prop_if (fun q => ?_) fun q => ?_)
      · repeat (first | simp -implicitDefEqProofs only [w_seq, wR_gd, wS_gd, w_nil, w_drop, w_ret, w_retN, w_if, w_asg, w_name, w_gnil, w_gcons, w_gtup, w_gsub, w_for, w_aug, w_augS, w_c, w_bin, w_un, w_chain, w_chainB, w_and, w_or, w_not,  w_of, w_tand, w_tor, w_tnot, w_tyes, w_eif, w_call, w_attr, w_fld, w_bm, w_bmL, w_anil, w_acons, w_astar, w_app0, w_kw, pick_nil, pick_cons, Option.bind_some, w_tup, w_flst, w_fr, w_mk, w_flist, w_frev, w_fcat, w_frep, w_part0, w_part, w_slice, w_fslice, w_revT, w_dict0, w_dict, w_pnil, w_pcons, pOf, keysOf, w_ival, w_range1, w_range2, w_enum, w_zip, w_inew, w_comp, wipeL, o_add, o_sub, o_neg, o_addT, o_addS, o_cmp, o_eq, o_ne, eq_int, eq_bl, eq_str, eq_tup0, eq_lst0, eq_ref0, b_int, b_intB, wR_bind, wR_ok, wS_nx, wS_ret, wS_next, wS_ofE, wS_plain, eVar, seqOf, lstOf, itOf, o_sub2T, o_sub2L, o_sub2F, o_sub2S, o_sub2D, o_sub2R, idxT0, idxT1, idxT2, idxT3, idxL0, idxR, Gx.keyOf, Gx.setItem, mPop, mAppend, mExtend, bLen, bTup, List.getElem?_cons_zero, List.getElem?_cons_succ, List.set_cons_zero, List.set_cons_succ, List.length_cons, List.length_nil, List.nil_append, List.cons_append, Nat.reduceAdd, Int.cast_ofNat_Int, Int.reduceEq, List.isEmpty_nil, List.isEmpty_cons, Int.natCast_zero, Int.natCast_one, PySem.sizeLine_eq, Nat.reduceLT, Nat.reduceLeDiff, Nat.reduceEqDiff, if_true, if_false, Bool.false_eq_true, Bool.true_eq_false, decide_true, decide_false, Bool.not_true, Bool.not_false, eq_self, true_and, and_true, Nat.zero_add, Dk_app, In.app, Dk_len, List.append_assoc, List.length_append, Option.map_some, Option.map_none, dg0, dg1, ds0, ds1, sg0, sg1, ss0, ss1, b_max2] | ((with_reducible refine And.intro ?_ ?_); (· ((try simp only [PySem.sizeLine_eq, List.length_map, List.length_append, List.length_cons, List.length_nil, List.length_take, List.length_drop]); omega))) | ((with_reducible refine wmul ?_ ?_ ?_); (· omega); (· omega)) | ((with_reducible refine wmod ?_ fun _ _ _ _ => ?_); (· omega)) | ((with_reducible refine wfdiv ?_ ?_ ?_); (· omega); (· omega)) | ((with_reducible refine draw_w (by assumption) ?_ ?_ ?_ ?_ fun _ _ _ _ _ => ?_); (· omega); (· (first | assumption | exact In.app (by assumption))); (· omega); (· omega)) | ((with_reducible refine pickI_w (by with_unfolding_all rfl) (by assumption) ?_ ?_ ?_ ?_ fun _ _ _ _ => ?_); (· omega); (· (first | assumption | exact In.app (by assumption))); (· simp); (· simp)))
        exact ⟨_, _, rfl, rfl, by omega, (by assumption : Dx.Ok _ _).le (by omega)⟩
      · repeat (first | simp -implicitDefEqProofs only [w_seq, wR_gd, wS_gd, w_nil, w_drop, w_ret, w_retN, w_if, w_asg, w_name, w_gnil, w_gcons, w_gtup, w_gsub, w_for, w_aug, w_augS, w_c, w_bin, w_un, w_chain, w_chainB, w_and, w_or, w_not,  w_of, w_tand, w_tor, w_tnot, w_tyes, w_eif, w_call, w_attr, w_fld, w_bm, w_bmL, w_anil, w_acons, w_astar, w_app0, w_kw, pick_nil, pick_cons, Option.bind_some, w_tup, w_flst, w_fr, w_mk, w_flist, w_frev, w_fcat, w_frep, w_part0, w_part, w_slice, w_fslice, w_revT, w_dict0, w_dict, w_pnil, w_pcons, pOf, keysOf, w_ival, w_range1, w_range2, w_enum, w_zip, w_inew, w_comp, wipeL, o_add, o_sub, o_neg, o_addT, o_addS, o_cmp, o_eq, o_ne, eq_int, eq_bl, eq_str, eq_tup0, eq_lst0, eq_ref0, b_int, b_intB, wR_bind, wR_ok, wS_nx, wS_ret, wS_next, wS_ofE, wS_plain, eVar, seqOf, lstOf, itOf, o_sub2T, o_sub2L, o_sub2F, o_sub2S, o_sub2D, o_sub2R, idxT0, idxT1, idxT2, idxT3, idxL0, idxR, Gx.keyOf, Gx.setItem, mPop, mAppend, mExtend, bLen, bTup, List.getElem?_cons_zero, List.getElem?_cons_succ, List.set_cons_zero, List.set_cons_succ, List.length_cons, List.length_nil, List.nil_append, List.cons_append, Nat.reduceAdd, Int.cast_ofNat_Int, Int.reduceEq, List.isEmpty_nil, List.isEmpty_cons, Int.natCast_zero, Int.natCast_one, PySem.sizeLine_eq, Nat.reduceLT, Nat.reduceLeDiff, Nat.reduceEqDiff, if_true, if_false, Bool.false_eq_true, Bool.true_eq_false, decide_true, decide_false, Bool.not_true, Bool.not_false, eq_self, true_and, and_true, Nat.zero_add, Dk_app, In.app, Dk_len, List.append_assoc, List.length_append, Option.map_some, Option.map_none, dg0, dg1, ds0, ds1, sg0, sg1, ss0, ss1] | ((with_reducible refine And.intro ?_ ?_); (· ((try simp only [PySem.sizeLine_eq, List.length_map, List.length_append, List.length_cons, List.length_nil, List.length_take, List.length_drop]); omega))) | ((with_reducible refine wmul ?_ ?_ ?_); (· omega); (· omega)) | ((with_reducible refine wmod ?_ fun _ _ _ _ => ?_); (· omega)) | ((with_reducible refine wfdiv ?_ ?_ ?_); (· omega); (· omega)) | ((with_reducible refine draw_w (by assumption) ?_ ?_ ?_ ?_ fun _ _ _ _ _ => ?_); (· omega); (· (first | assumption | exact In.app (by assumption))); (· omega); (· omega)) | ((with_reducible refine pickI_w (by with_unfolding_all rfl) (by assumption) ?_ ?_ ?_ ?_ fun _ _ _ _ => ?_); (· omega); (· (first | assumption | exact In.app (by assumption))); (· simp); (· simp)))
        exact ⟨_, _, rfl, rfl, by omega, (by assumption : Dx.Ok _ _).le (by omega)⟩
    rintro _ _ ⟨z, Y3, rfl, rfl, hz, h4⟩
    have hbl := h3.len
    repeat (first | simp -implicitDefEqProofs only [w_seq, wR_gd, wS_gd, w_nil, w_drop, w_ret, w_retN, w_if, w_asg, w_name, w_gnil, w_gcons, w_gtup, w_gsub, w_for, w_aug, w_augS, w_c, w_bin, w_un, w_chain, w_chainB, w_and, w_or, w_not,  w_of, w_tand, w_tor, w_tnot, w_tyes, w_eif, w_call, w_attr, w_fld, w_bm, w_bmL, w_anil, w_acons, w_astar, w_app0, w_kw, pick_nil, pick_cons, Option.bind_some, w_tup, w_flst, w_fr, w_mk, w_flist, w_frev, w_fcat, w_frep, w_part0, w_part, w_slice, w_fslice, w_revT, w_dict0, w_dict, w_pnil, w_pcons, pOf, keysOf, w_ival, w_range1, w_range2, w_enum, w_zip, w_inew, w_comp, wipeL, o_add, o_sub, o_neg, o_addT, o_addS, o_cmp, o_eq, o_ne, eq_int, eq_bl, eq_str, eq_tup0, eq_lst0, eq_ref0, b_int, b_intB, wR_bind, wR_ok, wS_nx, wS_ret, wS_next, wS_ofE, wS_plain, eVar, seqOf, lstOf, itOf, o_sub2T, o_sub2L, o_sub2F, o_sub2S, o_sub2D, o_sub2R, idxT0, idxT1, idxT2, idxT3, idxL0, idxR, Gx.keyOf, Gx.setItem, mPop, mAppend, mExtend, bLen, bTup, List.getElem?_cons_zero, List.getElem?_cons_succ, List.set_cons_zero, List.set_cons_succ, List.length_cons, List.length_nil, List.nil_append, List.cons_append, Nat.reduceAdd, Int.cast_ofNat_Int, Int.reduceEq, List.isEmpty_nil, List.isEmpty_cons, Int.natCast_zero, Int.natCast_one, PySem.sizeLine_eq, Nat.reduceLT, Nat.reduceLeDiff, Nat.reduceEqDiff, if_true, if_false, Bool.false_eq_true, Bool.true_eq_false, decide_true, decide_false, Bool.not_true, Bool.not_false, eq_self, true_and, and_true, Nat.zero_add, Dk_app, In.app, Dk_len, List.append_assoc, List.length_append, Option.map_some, Option.map_none, dg0, dg1, ds0, ds1, sg0, sg1, ss0, ss1, hI, get_f, get_s] | ((with_reducible refine And.intro ?_ ?_); (· ((try simp only [PySem.sizeLine_eq, List.length_map, List.length_append, List.length_cons, List.length_nil, List.length_take, List.length_drop]); omega))) | ((with_reducible refine wmul ?_ ?_ ?_); (· omega); (· omega)) | ((with_reducible refine wmod ?_ fun _ _ _ _ => ?_); (· omega)) | ((with_reducible refine wfdiv ?_ ?_ ?_); (· omega); (· omega)) | ((with_reducible refine draw_w (by assumption) ?_ ?_ ?_ ?_ fun _ _ _ _ _ => ?_); (· omega); (· (first | assumption | exact In.app (by assumption))); (· omega); (· omega)) | ((with_reducible refine pickI_w (by with_unfolding_all rfl) (by assumption) ?_ ?_ ?_ ?_ fun _ _ _ _ => ?_); (· omega); (· (first | assumption | exact In.app (by assumption))); (· simp); (· simp)))
    (first | refine wS_if (fun q => ?_) fun q => ?_ | refine wR_if (fun q => ?_) fun q => ?_ | refine prop_if (fun q => ?_) fun q => ?_)
    · repeat (first | simp -implicitDefEqProofs only [w_seq, wR_gd, wS_gd, w_nil, w_drop, w_ret, w_retN, w_if, w_asg, w_name, w_gnil, w_gcons, w_gtup, w_gsub, w_for, w_aug, w_augS, w_c, w_bin, w_un, w_chain, w_chainB, w_and, w_or, w_not,  w_of, w_tand, w_tor, w_tnot, w_tyes, w_eif, w_call, w_attr, w_fld, w_bm, w_bmL, w_anil, w_acons, w_astar, w_app0, w_kw, pick_nil, pick_cons, Option.bind_some, w_tup, w_flst, w_fr, w_mk, w_flist, w_frev, w_fcat, w_frep, w_part0, w_part, w_slice, w_fslice, w_revT, w_dict0, w_dict, w_pnil, w_pcons, pOf, keysOf, w_ival, w_range1, w_range2, w_enum, w_zip, w_inew, w_comp, wipeL, o_add, o_sub, o_neg, o_addT, o_addS, o_cmp, o_eq, o_ne, eq_int, eq_bl, eq_str, eq_tup0, eq_lst0, eq_ref0, b_int, b_intB, wR_bind, wR_ok, wS_nx, wS_ret, wS_next, wS_ofE, wS_plain, eVar, seqOf, lstOf, itOf, o_sub2T, o_sub2L, o_sub2F, o_sub2S, o_sub2D, o_sub2R, idxT0, idxT1, idxT2, idxT3, idxL0, idxR, Gx.keyOf, Gx.setItem, mPop, mAppend, mExtend, bLen, bTup, List.getElem?_cons_zero, List.getElem?_cons_succ, List.set_cons_zero, List.set_cons_succ, List.length_cons, List.length_nil, List.nil_append, List.cons_append, Nat.reduceAdd, Int.cast_ofNat_Int, Int.reduceEq, List.isEmpty_nil, List.isEmpty_cons, Int.natCast_zero, Int.natCast_one, PySem.sizeLine_eq, Nat.reduceLT, Nat.reduceLeDiff, Nat.reduceEqDiff, if_true, if_false, Bool.false_eq_true, Bool.true_eq_false, decide_true, decide_false, Bool.not_true, Bool.not_false, eq_self, true_and, and_true, Nat.zero_add, Dk_app, In.app, Dk_len, List.append_assoc, List.length_append, Option.map_some, Option.map_none, dg0, dg1, ds0, ds1, sg0, sg1, ss0, ss1, hI, get_f, get_s] | ((with_reducible refine And.intro ?_ ?_); (· ((try simp only [PySem.sizeLine_eq, List.length_map, List.length_append, List.length_cons, List.length_nil, List.length_take, List.length_drop]); omega))) | ((with_reducible refine wmul ?_ ?_ ?_); (· omega); (· omega)) | ((with_reducible refine wmod ?_ fun _ _ _ _ => ?_); (· omega)) | ((with_reducible refine wfdiv ?_ ?_ ?_); (· omega); (· omega)) | ((with_reducible refine draw_w (by assumption) ?_ ?_ ?_ ?_ fun _ _ _ _ _ => ?_); (· omega); (· (first | assumption | exact In.app (by assumption))); (· omega); (· omega)) | ((with_reducible refine pickI_w (by with_unfolding_all rfl) (by assumption) ?_ ?_ ?_ ?_ fun _ _ _ _ => ?_); (· omega); (· (first | assumption | exact In.app (by assumption))); (· simp); (· simp)))
      refine zp h4 (by omega) hI.app fun b Y4 hb h5 => ?_
      repeat (first | simp -implicitDefEqProofs only [w_seq, wR_gd, wS_gd, w_nil, w_drop, w_ret, w_retN, w_if, w_asg, w_name, w_gnil, w_gcons, w_gtup, w_gsub, w_for, w_aug, w_augS, w_c, w_bin, w_un, w_chain, w_chainB, w_and, w_or, w_not,  w_of, w_tand, w_tor, w_tnot, w_tyes, w_eif, w_call, w_attr, w_fld, w_bm, w_bmL, w_anil, w_acons, w_astar, w_app0, w_kw, pick_nil, pick_cons, Option.bind_some, w_tup, w_flst, w_fr, w_mk, w_flist, w_frev, w_fcat, w_frep, w_part0, w_part, w_slice, w_fslice, w_revT, w_dict0, w_dict, w_pnil, w_pcons, pOf, keysOf, w_ival, w_range1, w_range2, w_enum, w_zip, w_inew, w_comp, wipeL, o_add, o_sub, o_neg, o_addT, o_addS, o_cmp, o_eq, o_ne, eq_int, eq_bl, eq_str, eq_tup0, eq_lst0, eq_ref0, b_int, b_intB, wR_bind, wR_ok, wS_nx, wS_ret, wS_next, wS_ofE, wS_plain, eVar, seqOf, lstOf, itOf, o_sub2T, o_sub2L, o_sub2F, o_sub2S, o_sub2D, o_sub2R, idxT0, idxT1, idxT2, idxT3, idxL0, idxR, Gx.keyOf, Gx.setItem, mPop, mAppend, mExtend, bLen, bTup, List.getElem?_cons_zero, List.getElem?_cons_succ, List.set_cons_zero, List.set_cons_succ, List.length_cons, List.length_nil, List.nil_append, List.cons_append, Nat.reduceAdd, Int.cast_ofNat_Int, Int.reduceEq, List.isEmpty_nil, List.isEmpty_cons, Int.natCast_zero, Int.natCast_one, PySem.sizeLine_eq, Nat.reduceLT, Nat.reduceLeDiff, Nat.reduceEqDiff, if_true, if_false, Bool.false_eq_true, Bool.true_eq_false, decide_true, decide_false, Bool.not_true, Bool.not_false, eq_self, true_and, and_true, Nat.zero_add, Dk_app, In.app, Dk_len, List.append_assoc, List.length_append, Option.map_some, Option.map_none, dg0, dg1, ds0, ds1, sg0, sg1, ss0, ss1, hI, get_f, get_s] | ((with_reducible refine And.intro ?_ ?_); (· ((try simp only [PySem.sizeLine_eq, List.length_map, List.length_append, List.length_cons, List.length_nil, List.length_take, List.length_drop]); omega))) | ((with_reducible refine wmul ?_ ?_ ?_); (· omega); (· omega)) | ((with_reducible refine wmod ?_ fun _ _ _ _ => ?_); (· omega)) | ((with_reducible refine wfdiv ?_ ?_ ?_); (· omega); (· omega)) | ((with_reducible refine draw_w (by assumption) ?_ ?_ ?_ ?_ fun _ _ _ _ _ => ?_); (· omega); (· (first | assumption | exact In.app (by assumption))); (· omega); (· omega)) | ((with_reducible refine pickI_w (by with_unfolding_all rfl) (by assumption) ?_ ?_ ?_ ?_ fun _ _ _ _ => ?_); (· omega); (· (first | assumption | exact In.app (by assumption))); (· simp); (· simp)))
      simp at q
      exact hold ⟨fs ++ [z], bs ++ [b], _, _, Y4, rfl, by simp, h5.le (by omega), by simp [h2], wd_ext h3 (by omega) (by omega)⟩
    · repeat (first | simp -implicitDefEqProofs only [w_seq, wR_gd, wS_gd, w_nil, w_drop, w_ret, w_retN, w_if, w_asg, w_name, w_gnil, w_gcons, w_gtup, w_gsub, w_for, w_aug, w_augS, w_c, w_bin, w_un, w_chain, w_chainB, w_and, w_or, w_not,  w_of, w_tand, w_tor, w_tnot, w_tyes, w_eif, w_call, w_attr, w_fld, w_bm, w_bmL, w_anil, w_acons, w_astar, w_app0, w_kw, pick_nil, pick_cons, Option.bind_some, w_tup, w_flst, w_fr, w_mk, w_flist, w_frev, w_fcat, w_frep, w_part0, w_part, w_slice, w_fslice, w_revT, w_dict0, w_dict, w_pnil, w_pcons, pOf, keysOf, w_ival, w_range1, w_range2, w_enum, w_zip, w_inew, w_comp, wipeL, o_add, o_sub, o_neg, o_addT, o_addS, o_cmp, o_eq, o_ne, eq_int, eq_bl, eq_str, eq_tup0, eq_lst0, eq_ref0, b_int, b_intB, wR_bind, wR_ok, wS_nx, wS_ret, wS_next, wS_ofE, wS_plain, eVar, seqOf, lstOf, itOf, o_sub2T, o_sub2L, o_sub2F, o_sub2S, o_sub2D, o_sub2R, idxT0, idxT1, idxT2, idxT3, idxL0, idxR, Gx.keyOf, Gx.setItem, mPop, mAppend, mExtend, bLen, bTup, List.getElem?_cons_zero, List.getElem?_cons_succ, List.set_cons_zero, List.set_cons_succ, List.length_cons, List.length_nil, List.nil_append, List.cons_append, Nat.reduceAdd, Int.cast_ofNat_Int, Int.reduceEq, List.isEmpty_nil, List.isEmpty_cons, Int.natCast_zero, Int.natCast_one, PySem.sizeLine_eq, Nat.reduceLT, Nat.reduceLeDiff, Nat.reduceEqDiff, if_true, if_false, Bool.false_eq_true, Bool.true_eq_false, decide_true, decide_false, Bool.not_true, Bool.not_false, eq_self, true_and, and_true, Nat.zero_add, Dk_app, In.app, Dk_len, List.append_assoc, List.length_append, Option.map_some, Option.map_none, dg0, dg1, ds0, ds1, sg0, sg1, ss0, ss1, hI, get_f, get_s] | ((with_reducible refine And.intro ?_ ?_); (· ((try simp only [PySem.sizeLine_eq, List.length_map, List.length_append, List.length_cons, List.length_nil, List.length_take, List.length_drop]); omega))) | ((with_reducible refine wmul ?_ ?_ ?_); (· omega); (· omega)) | ((with_reducible refine wmod ?_ fun _ _ _ _ => ?_); (· omega)) | ((with_reducible refine wfdiv ?_ ?_ ?_); (· omega); (· omega)) | ((with_reducible refine draw_w (by assumption) ?_ ?_ ?_ ?_ fun _ _ _ _ _ => ?_); (· omega); (· (first | assumption | exact In.app (by assumption))); (· omega); (· omega)) | ((with_reducible refine pickI_w (by with_unfolding_all rfl) (by assumption) ?_ ?_ ?_ ?_ fun _ _ _ _ => ?_); (· omega); (· (first | assumption | exact In.app (by assumption))); (· simp); (· simp)))
      refine zp h4 (by omega) hI.app fun b Y4 hb h5 => ?_
      repeat (first | simp -implicitDefEqProofs only [w_seq, wR_gd, wS_gd, w_nil, w_drop, w_ret, w_retN, w_if, w_asg, w_name, w_gnil, w_gcons, w_gtup, w_gsub, w_for, w_aug, w_augS, w_c, w_bin, w_un, w_chain, w_chainB, w_and, w_or, w_not,  w_of, w_tand, w_tor, w_tnot, w_tyes, w_eif, w_call, w_attr, w_fld, w_bm, w_bmL, w_anil, w_acons, w_astar, w_app0, w_kw, pick_nil, pick_cons, Option.bind_some, w_tup, w_flst, w_fr, w_mk, w_flist, w_frev, w_fcat, w_frep, w_part0, w_part, w_slice, w_fslice, w_revT, w_dict0, w_dict, w_pnil, w_pcons, pOf, keysOf, w_ival, w_range1, w_range2, w_enum, w_zip, w_inew, w_comp, wipeL, o_add, o_sub, o_neg, o_addT, o_addS, o_cmp, o_eq, o_ne, eq_int, eq_bl, eq_str, eq_tup0, eq_lst0, eq_ref0, b_int, b_intB, wR_bind, wR_ok, wS_nx, wS_ret, wS_next, wS_ofE, wS_plain, eVar, seqOf, lstOf, itOf, o_sub2T, o_sub2L, o_sub2F, o_sub2S, o_sub2D, o_sub2R, idxT0, idxT1, idxT2, idxT3, idxL0, idxR, Gx.keyOf, Gx.setItem, mPop, mAppend, mExtend, bLen, bTup, List.getElem?_cons_zero, List.getElem?_cons_succ, List.set_cons_zero, List.set_cons_succ, List.length_cons, List.length_nil, List.nil_append, List.cons_append, Nat.reduceAdd, Int.cast_ofNat_Int, Int.reduceEq, List.isEmpty_nil, List.isEmpty_cons, Int.natCast_zero, Int.natCast_one, PySem.sizeLine_eq, Nat.reduceLT, Nat.reduceLeDiff, Nat.reduceEqDiff, if_true, if_false, Bool.false_eq_true, Bool.true_eq_false, decide_true, decide_false, Bool.not_true, Bool.not_false, eq_self, true_and, and_true, Nat.zero_add, Dk_app, In.app, Dk_len, List.append_assoc, List.length_append, Option.map_some, Option.map_none, dg0, dg1, ds0, ds1, sg0, sg1, ss0, ss1, hI, get_f, get_s] | ((with_reducible refine And.intro ?_ ?_); (· ((try simp only [PySem.sizeLine_eq, List.length_map, List.length_append, List.length_cons, List.length_nil, List.length_take, List.length_drop]); omega))) | ((with_reducible refine wmul ?_ ?_ ?_); (· omega); (· omega)) | ((with_reducible refine wmod ?_ fun _ _ _ _ => ?_); (· omega)) | ((with_reducible refine wfdiv ?_ ?_ ?_); (· omega); (· omega)) | ((with_reducible refine draw_w (by assumption) ?_ ?_ ?_ ?_ fun _ _ _ _ _ => ?_); (· omega); (· (first | assumption | exact In.app (by assumption))); (· omega); (· omega)) | ((with_reducible refine pickI_w (by with_unfolding_all rfl) (by assumption) ?_ ?_ ?_ ?_ fun _ _ _ _ => ?_); (· omega); (· (first | assumption | exact In.app (by assumption))); (· simp); (· simp)))
      simp at q
      exact hold ⟨fs ++ [-1], bs ++ [b], _, _, Y4, rfl, by simp, h5.le (by omega), by simp [h2], wd_ext h3 (by omega) (by omega)⟩
  · rintro _ _ ⟨fs, bs, l5, l6, Y2, rfl, rfl, h1, h2, h3⟩
    repeat (first | simp -implicitDefEqProofs only [w_seq, wR_gd, wS_gd, w_nil, w_drop, w_ret, w_retN, w_if, w_asg, w_name, w_gnil, w_gcons, w_gtup, w_gsub, w_for, w_aug, w_augS, w_c, w_bin, w_un, w_chain, w_chainB, w_and, w_or, w_not,  w_of, w_tand, w_tor, w_tnot, w_tyes, w_eif, w_call, w_attr, w_fld, w_bm, w_bmL, w_anil, w_acons, w_astar, w_app0, w_kw, pick_nil, pick_cons, Option.bind_some, w_tup, w_flst, w_fr, w_mk, w_flist, w_frev, w_fcat, w_frep, w_part0, w_part, w_slice, w_fslice, w_revT, w_dict0, w_dict, w_pnil, w_pcons, pOf, keysOf, w_ival, w_range1, w_range2, w_enum, w_zip, w_inew, w_comp, wipeL, o_add, o_sub, o_neg, o_addT, o_addS, o_cmp, o_eq, o_ne, eq_int, eq_bl, eq_str, eq_tup0, eq_lst0, eq_ref0, b_int, b_intB, wR_bind, wR_ok, wS_nx, wS_ret, wS_next, wS_ofE, wS_plain, eVar, seqOf, lstOf, itOf, o_sub2T, o_sub2L, o_sub2F, o_sub2S, o_sub2D, o_sub2R, idxT0, idxT1, idxT2, idxT3, idxL0, idxR, Gx.keyOf, Gx.setItem, mPop, mAppend, mExtend, bLen, bTup, List.getElem?_cons_zero, List.getElem?_cons_succ, List.set_cons_zero, List.set_cons_succ, List.length_cons, List.length_nil, List.nil_append, List.cons_append, Nat.reduceAdd, Int.cast_ofNat_Int, Int.reduceEq, List.isEmpty_nil, List.isEmpty_cons, Int.natCast_zero, Int.natCast_one, PySem.sizeLine_eq, Nat.reduceLT, Nat.reduceLeDiff, Nat.reduceEqDiff, if_true, if_false, Bool.false_eq_true, Bool.true_eq_false, decide_true, decide_false, Bool.not_true, Bool.not_false, eq_self, true_and, and_true, Nat.zero_add, Dk_app, In.app, Dk_len, List.append_assoc, List.length_append, Option.map_some, Option.map_none, dg0, dg1, ds0, ds1, sg0, sg1, ss0, ss1, hI] | ((with_reducible refine And.intro ?_ ?_); (· ((try simp only [PySem.sizeLine_eq, List.length_map, List.length_append, List.length_cons, List.length_nil, List.length_take, List.length_drop]); omega))) | ((with_reducible refine wmul ?_ ?_ ?_); (· omega); (· omega)) | ((with_reducible refine wmod ?_ fun _ _ _ _ => ?_); (· omega)) | ((with_reducible refine wfdiv ?_ ?_ ?_); (· omega); (· omega)) | ((with_reducible refine draw_w (by assumption) ?_ ?_ ?_ ?_ fun _ _ _ _ _ => ?_); (· omega); (· (first | assumption | exact In.app (by assumption))); (· omega); (· omega)) | ((with_reducible refine pickI_w (by with_unfolding_all rfl) (by assumption) ?_ ?_ ?_ ?_ fun _ _ _ _ => ?_); (· omega); (· (first | assumption | exact In.app (by assumption))); (· simp); (· simp)))
    rw [range_len] at h1 h2
    refine wR_gcD hI (gc_world hI) (h fs bs Y2 (by omega) h3 (h1.le (by omega)))
end K10
end
section
set_option maxHeartbeats 1000000
set_option maxRecDepth 100000
set_option linter.all false
set_option autoImplicit false
namespace K10
open Gx
variable {cB : PySem.Addr}
theorem p_int {i : Int} {S : Store} : f_p_is_integer cB [.int i] S = .ok (.bl true) S := by
  refine ok_of_w ?_
  unfold f_p_is_integer
  refine wR_fn rfl ?_
  show wS _ _ _ (b_p_is_integer cB [some (.int i)] _)
  unfold b_p_is_integer
  simp -implicitDefEqProofs only [isTup, isInt, isBool, isStr, w_seq, wR_gd, wS_gd, w_nil, w_drop, w_ret, w_retN, w_if, w_asg, w_name, w_gnil, w_gcons, w_gtup, w_gsub, w_for, w_aug, w_augS, w_c, w_bin, w_un, w_chain, w_chainB, w_and, w_or, w_not,  w_of, w_tand, w_tor, w_tnot, w_tyes, w_eif, w_call, w_attr, w_fld, w_bm, w_bmL, w_anil, w_acons, w_astar, w_app0, w_kw, pick_nil, pick_cons, Option.bind_some, w_tup, w_flst, w_fr, w_mk, w_flist, w_frev, w_fcat, w_frep, w_part0, w_part, w_slice, w_fslice, w_revT, w_dict0, w_dict, w_pnil, w_pcons, pOf, keysOf, w_ival, w_range1, w_range2, w_enum, w_zip, w_inew, w_comp, wipeL, o_add, o_sub, o_neg, o_addT, o_addS, o_cmp, o_eq, o_ne, eq_int, eq_bl, eq_str, eq_tup0, eq_lst0, eq_ref0, b_int, b_intB, wR_bind, wR_ok, wS_nx, wS_ret, wS_next, wS_ofE, wS_plain, eVar, seqOf, lstOf, itOf, o_sub2T, o_sub2L, o_sub2F, o_sub2S, o_sub2D, o_sub2R, idxT0, idxT1, idxT2, idxT3, idxL0, idxR, Gx.keyOf, Gx.setItem, mPop, mAppend, mExtend, bLen, bTup, List.getElem?_cons_zero, List.getElem?_cons_succ, List.set_cons_zero, List.set_cons_succ, List.length_cons, List.length_nil, List.nil_append, List.cons_append, Nat.reduceAdd, Int.cast_ofNat_Int, Int.reduceEq, List.isEmpty_nil, List.isEmpty_cons, Int.natCast_zero, Int.natCast_one, PySem.sizeLine_eq, Nat.reduceLT, Nat.reduceLeDiff, Nat.reduceEqDiff, if_true, if_false, Bool.false_eq_true, Bool.true_eq_false, decide_true, decide_false, Bool.not_true, Bool.not_false, eq_self, true_and, and_true, Nat.zero_add, Dk_app, In.app, Dk_len, List.append_assoc, List.length_append, Option.map_some, Option.map_none, dg0, dg1, ds0, ds1, sg0, sg1, ss0, ss1, isi_int (v := .int i) rfl, isi_bool (v := .int i) rfl]
  exact wR_gc0 rfl (hold ⟨rfl, rfl⟩)
theorem p_from {i lo : Int} {S : Store} (h : lo ≤ i) : f_p_is_integer_from cB [.int lo, .int i] S = .ok (.bl true) S := by
  refine ok_of_w ?_
  unfold f_p_is_integer_from
  refine wR_fn rfl ?_
  show wS _ _ _ (b_p_is_integer_from cB [some (.int lo), some (.int i)] _)
  unfold b_p_is_integer_from
  simp -implicitDefEqProofs only [isTup, isInt, isBool, isStr, w_seq, wR_gd, wS_gd, w_nil, w_drop, w_ret, w_retN, w_if, w_asg, w_name, w_gnil, w_gcons, w_gtup, w_gsub, w_for, w_aug, w_augS, w_c, w_bin, w_un, w_chain, w_chainB, w_and, w_or, w_not,  w_of, w_tand, w_tor, w_tnot, w_tyes, w_eif, w_call, w_attr, w_fld, w_bm, w_bmL, w_anil, w_acons, w_astar, w_app0, w_kw, pick_nil, pick_cons, Option.bind_some, w_tup, w_flst, w_fr, w_mk, w_flist, w_frev, w_fcat, w_frep, w_part0, w_part, w_slice, w_fslice, w_revT, w_dict0, w_dict, w_pnil, w_pcons, pOf, keysOf, w_ival, w_range1, w_range2, w_enum, w_zip, w_inew, w_comp, wipeL, o_add, o_sub, o_neg, o_addT, o_addS, o_cmp, o_eq, o_ne, eq_int, eq_bl, eq_str, eq_tup0, eq_lst0, eq_ref0, b_int, b_intB, wR_bind, wR_ok, wS_nx, wS_ret, wS_next, wS_ofE, wS_plain, eVar, seqOf, lstOf, itOf, o_sub2T, o_sub2L, o_sub2F, o_sub2S, o_sub2D, o_sub2R, idxT0, idxT1, idxT2, idxT3, idxL0, idxR, Gx.keyOf, Gx.setItem, mPop, mAppend, mExtend, bLen, bTup, List.getElem?_cons_zero, List.getElem?_cons_succ, List.set_cons_zero, List.set_cons_succ, List.length_cons, List.length_nil, List.nil_append, List.cons_append, Nat.reduceAdd, Int.cast_ofNat_Int, Int.reduceEq, List.isEmpty_nil, List.isEmpty_cons, Int.natCast_zero, Int.natCast_one, PySem.sizeLine_eq, Nat.reduceLT, Nat.reduceLeDiff, Nat.reduceEqDiff, if_true, if_false, Bool.false_eq_true, Bool.true_eq_false, decide_true, decide_false, Bool.not_true, Bool.not_false, eq_self, true_and, and_true, Nat.zero_add, Dk_app, In.app, Dk_len, List.append_assoc, List.length_append, Option.map_some, Option.map_none, dg0, dg1, ds0, ds1, sg0, sg1, ss0, ss1, p_int]
  exact wR_gc0 rfl (hold ⟨by simp [h], rfl⟩)
structure Ups (fs : List Int) : Prop where
  len : fs.length ≤ 1000
  fr : ∀ (i : Nat) (x : Int), fs[i]? = some x → -1 ≤ x ∧ x < i
theorem p_ups {fs : List Int} {S : Store} (h : Ups fs) : f_p_are_ups cB [.tup (fs.map .int)] S = .ok (.bl true) S := by
  have hl := h.len
  have hd : dtv (.tup (fs.map .int)) = true := by
    simp only [dtv, Bool.and_eq_true, decide_eq_true_eq, List.length_map]
    exact ⟨by omega, dtvs_iff.mpr fun v hv => by obtain ⟨z, _, rfl⟩ := List.mem_map.mp hv; rfl⟩
  refine ok_of_w ?_
  unfold f_p_are_ups
  refine wR_fn rfl ?_
  show wS _ _ _ (b_p_are_ups cB [some (.tup (fs.map .int)), none, none] _)
  unfold b_p_are_ups
  repeat (first | simp -implicitDefEqProofs only [w_seq, wR_gd, wS_gd, w_nil, w_drop, w_ret, w_retN, w_if, w_asg, w_name, w_gnil, w_gcons, w_gtup, w_gsub, w_for, w_aug, w_augS, w_c, w_bin, w_un, w_chain, w_chainB, w_and, w_or, w_not,  w_of, w_tand, w_tor, w_tnot, w_tyes, w_eif, w_call, w_attr, w_fld, w_bm, w_bmL, w_anil, w_acons, w_astar, w_app0, w_kw, pick_nil, pick_cons, Option.bind_some, w_tup, w_flst, w_fr, w_mk, w_flist, w_frev, w_fcat, w_frep, w_part0, w_part, w_slice, w_fslice, w_revT, w_dict0, w_dict, w_pnil, w_pcons, pOf, keysOf, w_ival, w_range1, w_range2, w_enum, w_zip, w_inew, w_comp, wipeL, o_add, o_sub, o_neg, o_addT, o_addS, o_cmp, o_eq, o_ne, eq_int, eq_bl, eq_str, eq_tup0, eq_lst0, eq_ref0, b_int, b_intB, wR_bind, wR_ok, wS_nx, wS_ret, wS_next, wS_ofE, wS_plain, eVar, seqOf, lstOf, itOf, o_sub2T, o_sub2L, o_sub2F, o_sub2S, o_sub2D, o_sub2R, idxT0, idxT1, idxT2, idxT3, idxL0, idxR, Gx.keyOf, Gx.setItem, mPop, mAppend, mExtend, bLen, bTup, List.getElem?_cons_zero, List.getElem?_cons_succ, List.set_cons_zero, List.set_cons_succ, List.length_cons, List.length_nil, List.nil_append, List.cons_append, Nat.reduceAdd, Int.cast_ofNat_Int, Int.reduceEq, List.isEmpty_nil, List.isEmpty_cons, Int.natCast_zero, Int.natCast_one, PySem.sizeLine_eq, Nat.reduceLT, Nat.reduceLeDiff, Nat.reduceEqDiff, if_true, if_false, Bool.false_eq_true, Bool.true_eq_false, decide_true, decide_false, Bool.not_true, Bool.not_false, eq_self, true_and, and_true, Nat.zero_add, Dk_app, In.app, Dk_len, List.append_assoc, List.length_append, Option.map_some, Option.map_none, dg0, dg1, ds0, ds1, sg0, sg1, ss0, ss1, isTup, isi_tup hd] | ((with_reducible refine And.intro ?_ ?_); (· ((try simp only [PySem.sizeLine_eq, List.length_map, List.length_append, List.length_cons, List.length_nil, List.length_take, List.length_drop]); omega))) | ((with_reducible refine wmul ?_ ?_ ?_); (· omega); (· omega)) | ((with_reducible refine wmod ?_ fun _ _ _ _ => ?_); (· omega)) | ((with_reducible refine wfdiv ?_ ?_ ?_); (· omega); (· omega)) | ((with_reducible refine draw_w (by assumption) ?_ ?_ ?_ ?_ fun _ _ _ _ _ => ?_); (· omega); (· (first | assumption | exact In.app (by assumption))); (· omega); (· omega)) | ((with_reducible refine pickI_w (by with_unfolding_all rfl) (by assumption) ?_ ?_ ?_ ?_ fun _ _ _ _ => ?_); (· omega); (· (first | assumption | exact In.app (by assumption))); (· simp); (· simp)))
  refine wR_comp_map (fun x => Lx2 1 2 [some (.tup (fs.map .int)), none, none] x) (fun x => .bl true) rfl (fun x hx => ?_) (fun x hx => ?_) ?_
  · obtain ⟨i, b, rfl, hm⟩ := enum_mem hx
    rfl
  · obtain ⟨i, b, rfl, hm⟩ := enum_mem hx
    obtain ⟨z, rfl, hz⟩ : ∃ z, b = .int z ∧ fs[i]? = some z := by
      rw [List.mem_zipIdx_iff_getElem?] at hm
      simp only [List.getElem?_map, Option.map_eq_some_iff] at hm
      obtain ⟨z, hz, rfl⟩ := hm
      exact ⟨z, rfl, hz⟩
    have hz := h.fr i z hz
    refine ok_of_w ?_
    repeat (first | simp -implicitDefEqProofs only [w_seq, wR_gd, wS_gd, w_nil, w_drop, w_ret, w_retN, w_if, w_asg, w_name, w_gnil, w_gcons, w_gtup, w_gsub, w_for, w_aug, w_augS, w_c, w_bin, w_un, w_chain, w_chainB, w_and, w_or, w_not,  w_of, w_tand, w_tor, w_tnot, w_tyes, w_eif, w_call, w_attr, w_fld, w_bm, w_bmL, w_anil, w_acons, w_astar, w_app0, w_kw, pick_nil, pick_cons, Option.bind_some, w_tup, w_flst, w_fr, w_mk, w_flist, w_frev, w_fcat, w_frep, w_part0, w_part, w_slice, w_fslice, w_revT, w_dict0, w_dict, w_pnil, w_pcons, pOf, keysOf, w_ival, w_range1, w_range2, w_enum, w_zip, w_inew, w_comp, wipeL, o_add, o_sub, o_neg, o_addT, o_addS, o_cmp, o_eq, o_ne, eq_int, eq_bl, eq_str, eq_tup0, eq_lst0, eq_ref0, b_int, b_intB, wR_bind, wR_ok, wS_nx, wS_ret, wS_next, wS_ofE, wS_plain, eVar, seqOf, lstOf, itOf, o_sub2T, o_sub2L, o_sub2F, o_sub2S, o_sub2D, o_sub2R, idxT0, idxT1, idxT2, idxT3, idxL0, idxR, Gx.keyOf, Gx.setItem, mPop, mAppend, mExtend, bLen, bTup, List.getElem?_cons_zero, List.getElem?_cons_succ, List.set_cons_zero, List.set_cons_succ, List.length_cons, List.length_nil, List.nil_append, List.cons_append, Nat.reduceAdd, Int.cast_ofNat_Int, Int.reduceEq, List.isEmpty_nil, List.isEmpty_cons, Int.natCast_zero, Int.natCast_one, PySem.sizeLine_eq, Nat.reduceLT, Nat.reduceLeDiff, Nat.reduceEqDiff, if_true, if_false, Bool.false_eq_true, Bool.true_eq_false, decide_true, decide_false, Bool.not_true, Bool.not_false, eq_self, true_and, and_true, Nat.zero_add, Dk_app, In.app, Dk_len, List.append_assoc, List.length_append, Option.map_some, Option.map_none, dg0, dg1, ds0, ds1, sg0, sg1, ss0, ss1, Lx2, p_int] | ((with_reducible refine And.intro ?_ ?_); (· ((try simp only [PySem.sizeLine_eq, List.length_map, List.length_append, List.length_cons, List.length_nil, List.length_take, List.length_drop]); omega))) | ((with_reducible refine wmul ?_ ?_ ?_); (· omega); (· omega)) | ((with_reducible refine wmod ?_ fun _ _ _ _ => ?_); (· omega)) | ((with_reducible refine wfdiv ?_ ?_ ?_); (· omega); (· omega)) | ((with_reducible refine draw_w (by assumption) ?_ ?_ ?_ ?_ fun _ _ _ _ _ => ?_); (· omega); (· (first | assumption | exact In.app (by assumption))); (· omega); (· omega)) | ((with_reducible refine pickI_w (by with_unfolding_all rfl) (by assumption) ?_ ?_ ?_ ?_ fun _ _ _ _ => ?_); (· omega); (· (first | assumption | exact In.app (by assumption))); (· simp); (· simp)))
    refine wR_if (fun q => ?_) fun q => ?_
    · repeat (first | simp -implicitDefEqProofs only [w_seq, wR_gd, wS_gd, w_nil, w_drop, w_ret, w_retN, w_if, w_asg, w_name, w_gnil, w_gcons, w_gtup, w_gsub, w_for, w_aug, w_augS, w_c, w_bin, w_un, w_chain, w_chainB, w_and, w_or, w_not,  w_of, w_tand, w_tor, w_tnot, w_tyes, w_eif, w_call, w_attr, w_fld, w_bm, w_bmL, w_anil, w_acons, w_astar, w_app0, w_kw, pick_nil, pick_cons, Option.bind_some, w_tup, w_flst, w_fr, w_mk, w_flist, w_frev, w_fcat, w_frep, w_part0, w_part, w_slice, w_fslice, w_revT, w_dict0, w_dict, w_pnil, w_pcons, pOf, keysOf, w_ival, w_range1, w_range2, w_enum, w_zip, w_inew, w_comp, wipeL, o_add, o_sub, o_neg, o_addT, o_addS, o_cmp, o_eq, o_ne, eq_int, eq_bl, eq_str, eq_tup0, eq_lst0, eq_ref0, b_int, b_intB, wR_bind, wR_ok, wS_nx, wS_ret, wS_next, wS_ofE, wS_plain, eVar, seqOf, lstOf, itOf, o_sub2T, o_sub2L, o_sub2F, o_sub2S, o_sub2D, o_sub2R, idxT0, idxT1, idxT2, idxT3, idxL0, idxR, Gx.keyOf, Gx.setItem, mPop, mAppend, mExtend, bLen, bTup, List.getElem?_cons_zero, List.getElem?_cons_succ, List.set_cons_zero, List.set_cons_succ, List.length_cons, List.length_nil, List.nil_append, List.cons_append, Nat.reduceAdd, Int.cast_ofNat_Int, Int.reduceEq, List.isEmpty_nil, List.isEmpty_cons, Int.natCast_zero, Int.natCast_one, PySem.sizeLine_eq, Nat.reduceLT, Nat.reduceLeDiff, Nat.reduceEqDiff, if_true, if_false, Bool.false_eq_true, Bool.true_eq_false, decide_true, decide_false, Bool.not_true, Bool.not_false, eq_self, true_and, and_true, Nat.zero_add, Dk_app, In.app, Dk_len, List.append_assoc, List.length_append, Option.map_some, Option.map_none, dg0, dg1, ds0, ds1, sg0, sg1, ss0, ss1] | ((with_reducible refine And.intro ?_ ?_); (· ((try simp only [PySem.sizeLine_eq, List.length_map, List.length_append, List.length_cons, List.length_nil, List.length_take, List.length_drop]); omega))) | ((with_reducible refine wmul ?_ ?_ ?_); (· omega); (· omega)) | ((with_reducible refine wmod ?_ fun _ _ _ _ => ?_); (· omega)) | ((with_reducible refine wfdiv ?_ ?_ ?_); (· omega); (· omega)) | ((with_reducible refine draw_w (by assumption) ?_ ?_ ?_ ?_ fun _ _ _ _ _ => ?_); (· omega); (· (first | assumption | exact In.app (by assumption))); (· omega); (· omega)) | ((with_reducible refine pickI_w (by with_unfolding_all rfl) (by assumption) ?_ ?_ ?_ ?_ fun _ _ _ _ => ?_); (· omega); (· (first | assumption | exact In.app (by assumption))); (· simp); (· simp)))
      exact hold ⟨by simp; omega, rfl⟩
    · simp at q; omega
  · repeat (first | simp -implicitDefEqProofs only [w_seq, wR_gd, wS_gd, w_nil, w_drop, w_ret, w_retN, w_if, w_asg, w_name, w_gnil, w_gcons, w_gtup, w_gsub, w_for, w_aug, w_augS, w_c, w_bin, w_un, w_chain, w_chainB, w_and, w_or, w_not,  w_of, w_tand, w_tor, w_tnot, w_tyes, w_eif, w_call, w_attr, w_fld, w_bm, w_bmL, w_anil, w_acons, w_astar, w_app0, w_kw, pick_nil, pick_cons, Option.bind_some, w_tup, w_flst, w_fr, w_mk, w_flist, w_frev, w_fcat, w_frep, w_part0, w_part, w_slice, w_fslice, w_revT, w_dict0, w_dict, w_pnil, w_pcons, pOf, keysOf, w_ival, w_range1, w_range2, w_enum, w_zip, w_inew, w_comp, wipeL, o_add, o_sub, o_neg, o_addT, o_addS, o_cmp, o_eq, o_ne, eq_int, eq_bl, eq_str, eq_tup0, eq_lst0, eq_ref0, b_int, b_intB, wR_bind, wR_ok, wS_nx, wS_ret, wS_next, wS_ofE, wS_plain, eVar, seqOf, lstOf, itOf, o_sub2T, o_sub2L, o_sub2F, o_sub2S, o_sub2D, o_sub2R, idxT0, idxT1, idxT2, idxT3, idxL0, idxR, Gx.keyOf, Gx.setItem, mPop, mAppend, mExtend, bLen, bTup, List.getElem?_cons_zero, List.getElem?_cons_succ, List.set_cons_zero, List.set_cons_succ, List.length_cons, List.length_nil, List.nil_append, List.cons_append, Nat.reduceAdd, Int.cast_ofNat_Int, Int.reduceEq, List.isEmpty_nil, List.isEmpty_cons, Int.natCast_zero, Int.natCast_one, PySem.sizeLine_eq, Nat.reduceLT, Nat.reduceLeDiff, Nat.reduceEqDiff, if_true, if_false, Bool.false_eq_true, Bool.true_eq_false, decide_true, decide_false, Bool.not_true, Bool.not_false, eq_self, true_and, and_true, Nat.zero_add, Dk_app, In.app, Dk_len, List.append_assoc, List.length_append, Option.map_some, Option.map_none, dg0, dg1, ds0, ds1, sg0, sg1, ss0, ss1, all_map] | ((with_reducible refine And.intro ?_ ?_); (· ((try simp only [PySem.sizeLine_eq, List.length_map, List.length_append, List.length_cons, List.length_nil, List.length_take, List.length_drop]); omega))) | ((with_reducible refine wmul ?_ ?_ ?_); (· omega); (· omega)) | ((with_reducible refine wmod ?_ fun _ _ _ _ => ?_); (· omega)) | ((with_reducible refine wfdiv ?_ ?_ ?_); (· omega); (· omega)) | ((with_reducible refine draw_w (by assumption) ?_ ?_ ?_ ?_ fun _ _ _ _ _ => ?_); (· omega); (· (first | assumption | exact In.app (by assumption))); (· omega); (· omega)) | ((with_reducible refine pickI_w (by with_unfolding_all rfl) (by assumption) ?_ ?_ ?_ ?_ fun _ _ _ _ => ?_); (· omega); (· (first | assumption | exact In.app (by assumption))); (· simp); (· simp)))
    refine ⟨by simp [enumV]; omega, ?_⟩
    repeat (first | simp -implicitDefEqProofs only [w_seq, wR_gd, wS_gd, w_nil, w_drop, w_ret, w_retN, w_if, w_asg, w_name, w_gnil, w_gcons, w_gtup, w_gsub, w_for, w_aug, w_augS, w_c, w_bin, w_un, w_chain, w_chainB, w_and, w_or, w_not,  w_of, w_tand, w_tor, w_tnot, w_tyes, w_eif, w_call, w_attr, w_fld, w_bm, w_bmL, w_anil, w_acons, w_astar, w_app0, w_kw, pick_nil, pick_cons, Option.bind_some, w_tup, w_flst, w_fr, w_mk, w_flist, w_frev, w_fcat, w_frep, w_part0, w_part, w_slice, w_fslice, w_revT, w_dict0, w_dict, w_pnil, w_pcons, pOf, keysOf, w_ival, w_range1, w_range2, w_enum, w_zip, w_inew, w_comp, wipeL, o_add, o_sub, o_neg, o_addT, o_addS, o_cmp, o_eq, o_ne, eq_int, eq_bl, eq_str, eq_tup0, eq_lst0, eq_ref0, b_int, b_intB, wR_bind, wR_ok, wS_nx, wS_ret, wS_next, wS_ofE, wS_plain, eVar, seqOf, lstOf, itOf, o_sub2T, o_sub2L, o_sub2F, o_sub2S, o_sub2D, o_sub2R, idxT0, idxT1, idxT2, idxT3, idxL0, idxR, Gx.keyOf, Gx.setItem, mPop, mAppend, mExtend, bLen, bTup, List.getElem?_cons_zero, List.getElem?_cons_succ, List.set_cons_zero, List.set_cons_succ, List.length_cons, List.length_nil, List.nil_append, List.cons_append, Nat.reduceAdd, Int.cast_ofNat_Int, Int.reduceEq, List.isEmpty_nil, List.isEmpty_cons, Int.natCast_zero, Int.natCast_one, PySem.sizeLine_eq, Nat.reduceLT, Nat.reduceLeDiff, Nat.reduceEqDiff, if_true, if_false, Bool.false_eq_true, Bool.true_eq_false, decide_true, decide_false, Bool.not_true, Bool.not_false, eq_self, true_and, and_true, Nat.zero_add, Dk_app, In.app, Dk_len, List.append_assoc, List.length_append, Option.map_some, Option.map_none, dg0, dg1, ds0, ds1, sg0, sg1, ss0, ss1, all_map] | ((with_reducible refine And.intro ?_ ?_); (· ((try simp only [PySem.sizeLine_eq, List.length_map, List.length_append, List.length_cons, List.length_nil, List.length_take, List.length_drop]); omega))) | ((with_reducible refine wmul ?_ ?_ ?_); (· omega); (· omega)) | ((with_reducible refine wmod ?_ fun _ _ _ _ => ?_); (· omega)) | ((with_reducible refine wfdiv ?_ ?_ ?_); (· omega); (· omega)) | ((with_reducible refine draw_w (by assumption) ?_ ?_ ?_ ?_ fun _ _ _ _ _ => ?_); (· omega); (· (first | assumption | exact In.app (by assumption))); (· omega); (· omega)) | ((with_reducible refine pickI_w (by with_unfolding_all rfl) (by assumption) ?_ ?_ ?_ ?_ fun _ _ _ _ => ?_); (· omega); (· (first | assumption | exact In.app (by assumption))); (· simp); (· simp)))
    refine wR_gc0 rfl (hold ⟨?_, rfl⟩)
    simp
theorem p_buys {bs : List Int} {n : Int} {S : Store} (hl : bs.length ≤ 1000) (hn : n = bs.length) (h : ∀ b ∈ bs, 1 ≤ b) : f_p_are_buys cB [.int n, .tup (bs.map .int)] S = .ok (.bl true) S := by
  subst hn
  have hd : dtv (.tup (bs.map .int)) = true := by
    simp only [dtv, Bool.and_eq_true, decide_eq_true_eq, List.length_map]
    exact ⟨by omega, dtvs_iff.mpr fun v hv => by obtain ⟨z, _, rfl⟩ := List.mem_map.mp hv; rfl⟩
  refine ok_of_w ?_
  unfold f_p_are_buys
  refine wR_fn rfl ?_
  show wS _ _ _ (b_p_are_buys cB [some (.int bs.length), some (.tup (bs.map .int)), none] _)
  unfold b_p_are_buys
  repeat (first | simp -implicitDefEqProofs only [w_seq, wR_gd, wS_gd, w_nil, w_drop, w_ret, w_retN, w_if, w_asg, w_name, w_gnil, w_gcons, w_gtup, w_gsub, w_for, w_aug, w_augS, w_c, w_bin, w_un, w_chain, w_chainB, w_and, w_or, w_not,  w_of, w_tand, w_tor, w_tnot, w_tyes, w_eif, w_call, w_attr, w_fld, w_bm, w_bmL, w_anil, w_acons, w_astar, w_app0, w_kw, pick_nil, pick_cons, Option.bind_some, w_tup, w_flst, w_fr, w_mk, w_flist, w_frev, w_fcat, w_frep, w_part0, w_part, w_slice, w_fslice, w_revT, w_dict0, w_dict, w_pnil, w_pcons, pOf, keysOf, w_ival, w_range1, w_range2, w_enum, w_zip, w_inew, w_comp, wipeL, o_add, o_sub, o_neg, o_addT, o_addS, o_cmp, o_eq, o_ne, eq_int, eq_bl, eq_str, eq_tup0, eq_lst0, eq_ref0, b_int, b_intB, wR_bind, wR_ok, wS_nx, wS_ret, wS_next, wS_ofE, wS_plain, eVar, seqOf, lstOf, itOf, o_sub2T, o_sub2L, o_sub2F, o_sub2S, o_sub2D, o_sub2R, idxT0, idxT1, idxT2, idxT3, idxL0, idxR, Gx.keyOf, Gx.setItem, mPop, mAppend, mExtend, bLen, bTup, List.getElem?_cons_zero, List.getElem?_cons_succ, List.set_cons_zero, List.set_cons_succ, List.length_cons, List.length_nil, List.nil_append, List.cons_append, Nat.reduceAdd, Int.cast_ofNat_Int, Int.reduceEq, List.isEmpty_nil, List.isEmpty_cons, Int.natCast_zero, Int.natCast_one, PySem.sizeLine_eq, Nat.reduceLT, Nat.reduceLeDiff, Nat.reduceEqDiff, if_true, if_false, Bool.false_eq_true, Bool.true_eq_false, decide_true, decide_false, Bool.not_true, Bool.not_false, eq_self, true_and, and_true, Nat.zero_add, Dk_app, In.app, Dk_len, List.append_assoc, List.length_append, Option.map_some, Option.map_none, dg0, dg1, ds0, ds1, sg0, sg1, ss0, ss1, isTup, isi_tup hd, List.length_map] | ((with_reducible refine And.intro ?_ ?_); (· ((try simp only [PySem.sizeLine_eq, List.length_map, List.length_append, List.length_cons, List.length_nil, List.length_take, List.length_drop]); omega))) | ((with_reducible refine wmul ?_ ?_ ?_); (· omega); (· omega)) | ((with_reducible refine wmod ?_ fun _ _ _ _ => ?_); (· omega)) | ((with_reducible refine wfdiv ?_ ?_ ?_); (· omega); (· omega)) | ((with_reducible refine draw_w (by assumption) ?_ ?_ ?_ ?_ fun _ _ _ _ _ => ?_); (· omega); (· (first | assumption | exact In.app (by assumption))); (· omega); (· omega)) | ((with_reducible refine pickI_w (by with_unfolding_all rfl) (by assumption) ?_ ?_ ?_ ?_ fun _ _ _ _ => ?_); (· omega); (· (first | assumption | exact In.app (by assumption))); (· simp); (· simp)))
  refine wR_comp_map (fun x => [some (.int bs.length), some (.tup (bs.map .int)), some x]) (fun x => .bl true) rfl (fun x hx => rfl) (fun x hx => ?_) ?_
  · obtain ⟨z, hz, rfl⟩ := List.mem_map.mp hx
    have hz := h z hz
    refine ok_of_w ?_
    repeat (first | simp -implicitDefEqProofs only [w_seq, wR_gd, wS_gd, w_nil, w_drop, w_ret, w_retN, w_if, w_asg, w_name, w_gnil, w_gcons, w_gtup, w_gsub, w_for, w_aug, w_augS, w_c, w_bin, w_un, w_chain, w_chainB, w_and, w_or, w_not,  w_of, w_tand, w_tor, w_tnot, w_tyes, w_eif, w_call, w_attr, w_fld, w_bm, w_bmL, w_anil, w_acons, w_astar, w_app0, w_kw, pick_nil, pick_cons, Option.bind_some, w_tup, w_flst, w_fr, w_mk, w_flist, w_frev, w_fcat, w_frep, w_part0, w_part, w_slice, w_fslice, w_revT, w_dict0, w_dict, w_pnil, w_pcons, pOf, keysOf, w_ival, w_range1, w_range2, w_enum, w_zip, w_inew, w_comp, wipeL, o_add, o_sub, o_neg, o_addT, o_addS, o_cmp, o_eq, o_ne, eq_int, eq_bl, eq_str, eq_tup0, eq_lst0, eq_ref0, b_int, b_intB, wR_bind, wR_ok, wS_nx, wS_ret, wS_next, wS_ofE, wS_plain, eVar, seqOf, lstOf, itOf, o_sub2T, o_sub2L, o_sub2F, o_sub2S, o_sub2D, o_sub2R, idxT0, idxT1, idxT2, idxT3, idxL0, idxR, Gx.keyOf, Gx.setItem, mPop, mAppend, mExtend, bLen, bTup, List.getElem?_cons_zero, List.getElem?_cons_succ, List.set_cons_zero, List.set_cons_succ, List.length_cons, List.length_nil, List.nil_append, List.cons_append, Nat.reduceAdd, Int.cast_ofNat_Int, Int.reduceEq, List.isEmpty_nil, List.isEmpty_cons, Int.natCast_zero, Int.natCast_one, PySem.sizeLine_eq, Nat.reduceLT, Nat.reduceLeDiff, Nat.reduceEqDiff, if_true, if_false, Bool.false_eq_true, Bool.true_eq_false, decide_true, decide_false, Bool.not_true, Bool.not_false, eq_self, true_and, and_true, Nat.zero_add, Dk_app, In.app, Dk_len, List.append_assoc, List.length_append, Option.map_some, Option.map_none, dg0, dg1, ds0, ds1, sg0, sg1, ss0, ss1, p_from hz] | ((with_reducible refine And.intro ?_ ?_); (· ((try simp only [PySem.sizeLine_eq, List.length_map, List.length_append, List.length_cons, List.length_nil, List.length_take, List.length_drop]); omega))) | ((with_reducible refine wmul ?_ ?_ ?_); (· omega); (· omega)) | ((with_reducible refine wmod ?_ fun _ _ _ _ => ?_); (· omega)) | ((with_reducible refine wfdiv ?_ ?_ ?_); (· omega); (· omega)) | ((with_reducible refine draw_w (by assumption) ?_ ?_ ?_ ?_ fun _ _ _ _ _ => ?_); (· omega); (· (first | assumption | exact In.app (by assumption))); (· omega); (· omega)) | ((with_reducible refine pickI_w (by with_unfolding_all rfl) (by assumption) ?_ ?_ ?_ ?_ fun _ _ _ _ => ?_); (· omega); (· (first | assumption | exact In.app (by assumption))); (· simp); (· simp)))
    exact hold ⟨rfl, rfl⟩
  · repeat (first | simp -implicitDefEqProofs only [w_seq, wR_gd, wS_gd, w_nil, w_drop, w_ret, w_retN, w_if, w_asg, w_name, w_gnil, w_gcons, w_gtup, w_gsub, w_for, w_aug, w_augS, w_c, w_bin, w_un, w_chain, w_chainB, w_and, w_or, w_not,  w_of, w_tand, w_tor, w_tnot, w_tyes, w_eif, w_call, w_attr, w_fld, w_bm, w_bmL, w_anil, w_acons, w_astar, w_app0, w_kw, pick_nil, pick_cons, Option.bind_some, w_tup, w_flst, w_fr, w_mk, w_flist, w_frev, w_fcat, w_frep, w_part0, w_part, w_slice, w_fslice, w_revT, w_dict0, w_dict, w_pnil, w_pcons, pOf, keysOf, w_ival, w_range1, w_range2, w_enum, w_zip, w_inew, w_comp, wipeL, o_add, o_sub, o_neg, o_addT, o_addS, o_cmp, o_eq, o_ne, eq_int, eq_bl, eq_str, eq_tup0, eq_lst0, eq_ref0, b_int, b_intB, wR_bind, wR_ok, wS_nx, wS_ret, wS_next, wS_ofE, wS_plain, eVar, seqOf, lstOf, itOf, o_sub2T, o_sub2L, o_sub2F, o_sub2S, o_sub2D, o_sub2R, idxT0, idxT1, idxT2, idxT3, idxL0, idxR, Gx.keyOf, Gx.setItem, mPop, mAppend, mExtend, bLen, bTup, List.getElem?_cons_zero, List.getElem?_cons_succ, List.set_cons_zero, List.set_cons_succ, List.length_cons, List.length_nil, List.nil_append, List.cons_append, Nat.reduceAdd, Int.cast_ofNat_Int, Int.reduceEq, List.isEmpty_nil, List.isEmpty_cons, Int.natCast_zero, Int.natCast_one, PySem.sizeLine_eq, Nat.reduceLT, Nat.reduceLeDiff, Nat.reduceEqDiff, if_true, if_false, Bool.false_eq_true, Bool.true_eq_false, decide_true, decide_false, Bool.not_true, Bool.not_false, eq_self, true_and, and_true, Nat.zero_add, Dk_app, In.app, Dk_len, List.append_assoc, List.length_append, Option.map_some, Option.map_none, dg0, dg1, ds0, ds1, sg0, sg1, ss0, ss1, all_map] | ((with_reducible refine And.intro ?_ ?_); (· ((try simp only [PySem.sizeLine_eq, List.length_map, List.length_append, List.length_cons, List.length_nil, List.length_take, List.length_drop]); omega))) | ((with_reducible refine wmul ?_ ?_ ?_); (· omega); (· omega)) | ((with_reducible refine wmod ?_ fun _ _ _ _ => ?_); (· omega)) | ((with_reducible refine wfdiv ?_ ?_ ?_); (· omega); (· omega)) | ((with_reducible refine draw_w (by assumption) ?_ ?_ ?_ ?_ fun _ _ _ _ _ => ?_); (· omega); (· (first | assumption | exact In.app (by assumption))); (· omega); (· omega)) | ((with_reducible refine pickI_w (by with_unfolding_all rfl) (by assumption) ?_ ?_ ?_ ?_ fun _ _ _ _ => ?_); (· omega); (· (first | assumption | exact In.app (by assumption))); (· simp); (· simp)))
    refine wR_gc0 rfl (hold ⟨?_, rfl⟩)
    simp
def flds (fs bs : List Int) : List (PySem.Str × Val) := [("ups", .tup (fs.map .int)), ("buys", .tup (bs.map .int)), ("pairs_kept", .tup (zipV (fs.map .int) (bs.map .int))), ("sales", .int bs.sum)]
@[irreducible] def bookV (C : PySem.Addr) (fs bs : List Int) : Val := .obj C (flds fs bs)
theorem book_def {C : PySem.Addr} {fs bs : List Int} : bookV C fs bs = .obj C (flds fs bs) := by unfold bookV; rfl
theorem put1 {v : Val} : putA "ups" v [] = ([("ups", v)] : List (PySem.Str × Val)) := rfl
theorem put2 {a v : Val} : putA "buys" v ([("ups", a)] : List (PySem.Str × Val)) = ([("ups", a), ("buys", v)] : List (PySem.Str × Val)) := by simp only [putA]; rw [if_neg (by decide +kernel)]
theorem put3 {a b v : Val} : putA "pairs_kept" v ([("ups", a), ("buys", b)] : List (PySem.Str × Val)) = ([("ups", a), ("buys", b), ("pairs_kept", v)] : List (PySem.Str × Val)) := by simp only [putA]; rw [if_neg (by decide +kernel), if_neg (by decide +kernel)]
theorem put4 {a b c v : Val} : putA "sales" v ([("ups", a), ("buys", b), ("pairs_kept", c)] : List (PySem.Str × Val)) = ([("ups", a), ("buys", b), ("pairs_kept", c), ("sales", v)] : List (PySem.Str × Val)) := by simp only [putA]; rw [if_neg (by decide +kernel), if_neg (by decide +kernel), if_neg (by decide +kernel)]
/-- what a Book may be made of -/
structure Bk (fs bs : List Int) : Prop where
  ups : Ups fs
  len : bs.length = fs.length
  sp : ∀ b ∈ bs, 1 ≤ b
theorem tree_flds {fs bs : List Int} : treeF (flds fs bs) = true := by
  have : trees (zipV (fs.map .int) (bs.map .int)) = true := trees_iff.mpr fun v hv => by
    obtain ⟨a, b, rfl, hm⟩ := zip_mem hv
    have h1 := (List.of_mem_zip hm).1
    have h2 := (List.of_mem_zip hm).2
    obtain ⟨x, _, rfl⟩ := List.mem_map.mp h1
    obtain ⟨y, _, rfl⟩ := List.mem_map.mp h2
    rfl
  simp [treeF, flds, tree, trees_ints, this]
theorem init_eq {S : Store} {fs bs : List Int} (h : Bk fs bs) : f_p_Book___init__ cB [.ref S.length, .tup (fs.map .int), .tup (bs.map .int)] (S ++ [.ins cB []]) = .ok .non (S ++ [.ins cB (flds fs bs)]) := by
  have hl := h.ups.len
  have hn := h.len
  have e1 : ∀ {S : Store}, f_p_are_buys cB [.int fs.length, .tup (bs.map .int)] S = .ok (.bl true) S := p_buys (by omega) (by omega) h.sp
  have e2 : ∀ {S : Store}, f_p_are_ups cB [.tup (fs.map .int)] S = .ok (.bl true) S := p_ups h.ups
  refine eq_of_w ?_
  unfold f_p_Book___init__
  refine wR_fn rfl ?_
  show wS _ _ _ (b_p_Book___init__ cB [some (.ref S.length), some (.tup (fs.map .int)), some (.tup (bs.map .int))] _)
  unfold b_p_Book___init__
  repeat (first | simp -implicitDefEqProofs only [w_seq, wR_gd, wS_gd, w_nil, w_drop, w_ret, w_retN, w_if, w_asg, w_name, w_gnil, w_gcons, w_gtup, w_gsub, w_for, w_aug, w_augS, w_c, w_bin, w_un, w_chain, w_chainB, w_and, w_or, w_not,  w_of, w_tand, w_tor, w_tnot, w_tyes, w_eif, w_call, w_attr, w_fld, w_bm, w_bmL, w_anil, w_acons, w_astar, w_app0, w_kw, pick_nil, pick_cons, Option.bind_some, w_tup, w_flst, w_fr, w_mk, w_flist, w_frev, w_fcat, w_frep, w_part0, w_part, w_slice, w_fslice, w_revT, w_dict0, w_dict, w_pnil, w_pcons, pOf, keysOf, w_ival, w_range1, w_range2, w_enum, w_zip, w_inew, w_comp, wipeL, o_add, o_sub, o_neg, o_addT, o_addS, o_cmp, o_eq, o_ne, eq_int, eq_bl, eq_str, eq_tup0, eq_lst0, eq_ref0, b_int, b_intB, wR_bind, wR_ok, wS_nx, wS_ret, wS_next, wS_ofE, wS_plain, eVar, seqOf, lstOf, itOf, o_sub2T, o_sub2L, o_sub2F, o_sub2S, o_sub2D, o_sub2R, idxT0, idxT1, idxT2, idxT3, idxL0, idxR, Gx.keyOf, Gx.setItem, mPop, mAppend, mExtend, bLen, bTup, List.getElem?_cons_zero, List.getElem?_cons_succ, List.set_cons_zero, List.set_cons_succ, List.length_cons, List.length_nil, List.nil_append, List.cons_append, Nat.reduceAdd, Int.cast_ofNat_Int, Int.reduceEq, List.isEmpty_nil, List.isEmpty_cons, Int.natCast_zero, Int.natCast_one, PySem.sizeLine_eq, Nat.reduceLT, Nat.reduceLeDiff, Nat.reduceEqDiff, if_true, if_false, Bool.false_eq_true, Bool.true_eq_false, decide_true, decide_false, Bool.not_true, Bool.not_false, eq_self, true_and, and_true, Nat.zero_add, Dk_app, In.app, Dk_len, List.append_assoc, List.length_append, Option.map_some, Option.map_none, dg0, dg1, ds0, ds1, sg0, sg1, ss0, ss1, e1, e2, w_fldC, w_tupzip, List.length_map, put1, put2, put3, put4, List.mem_singleton, hn, sum_ints] | ((with_reducible refine And.intro ?_ ?_); (· ((try simp only [PySem.sizeLine_eq, List.length_map, List.length_append, List.length_cons, List.length_nil, List.length_take, List.length_drop]); omega))) | ((with_reducible refine wmul ?_ ?_ ?_); (· omega); (· omega)) | ((with_reducible refine wmod ?_ fun _ _ _ _ => ?_); (· omega)) | ((with_reducible refine wfdiv ?_ ?_ ?_); (· omega); (· omega)) | ((with_reducible refine draw_w (by assumption) ?_ ?_ ?_ ?_ fun _ _ _ _ _ => ?_); (· omega); (· (first | assumption | exact In.app (by assumption))); (· omega); (· omega)) | ((with_reducible refine pickI_w (by with_unfolding_all rfl) (by assumption) ?_ ?_ ?_ ?_ fun _ _ _ _ => ?_); (· omega); (· (first | assumption | exact In.app (by assumption))); (· simp); (· simp)))
  rw [show ([("ups", .tup (fs.map .int)), ("buys", .tup (bs.map .int)), ("pairs_kept", .tup (zipV (fs.map .int) (bs.map .int))), ("sales", .int bs.sum)] : List (PySem.Str × Val)) = flds fs bs from rfl]
  exact wR_eq (gc_self tree_flds) (hold ⟨rfl, rfl⟩)
theorem mk_book {S : Store} {fs bs : List Int} (h : Bk fs bs) : mkR cB (f_p_Book___init__ cB) 3 [.tup (fs.map .int), .tup (bs.map .int)] S = .ok (bookV cB fs bs) S := by
  rw [book_def]; exact mkR_eq tree_flds (init_eq h)
theorem tree_book {fs bs : List Int} : tree (bookV cB fs bs) = true := by
  rw [book_def]; exact tree_flds
theorem code_eq {S : Store} {fs bs : List Int} (h : Bk fs bs) : f_w_code cB [enW fs bs] S = .ok (bookV cB fs bs) S := by
  refine ok_of_w ?_
  unfold f_w_code
  refine wR_fn rfl ?_
  show wS _ _ _ (b_w_code cB [some (enW fs bs)] _)
  unfold b_w_code
  repeat (first | simp -implicitDefEqProofs only [w_seq, wR_gd, wS_gd, w_nil, w_drop, w_ret, w_retN, w_if, w_asg, w_name, w_gnil, w_gcons, w_gtup, w_gsub, w_for, w_aug, w_augS, w_c, w_bin, w_un, w_chain, w_chainB, w_and, w_or, w_not,  w_of, w_tand, w_tor, w_tnot, w_tyes, w_eif, w_call, w_attr, w_fld, w_bm, w_bmL, w_anil, w_acons, w_astar, w_app0, w_kw, pick_nil, pick_cons, Option.bind_some, w_tup, w_flst, w_fr, w_mk, w_flist, w_frev, w_fcat, w_frep, w_part0, w_part, w_slice, w_fslice, w_revT, w_dict0, w_dict, w_pnil, w_pcons, pOf, keysOf, w_ival, w_range1, w_range2, w_enum, w_zip, w_inew, w_comp, wipeL, o_add, o_sub, o_neg, o_addT, o_addS, o_cmp, o_eq, o_ne, eq_int, eq_bl, eq_str, eq_tup0, eq_lst0, eq_ref0, b_int, b_intB, wR_bind, wR_ok, wS_nx, wS_ret, wS_next, wS_ofE, wS_plain, eVar, seqOf, lstOf, itOf, o_sub2T, o_sub2L, o_sub2F, o_sub2S, o_sub2D, o_sub2R, idxT0, idxT1, idxT2, idxT3, idxL0, idxR, Gx.keyOf, Gx.setItem, mPop, mAppend, mExtend, bLen, bTup, List.getElem?_cons_zero, List.getElem?_cons_succ, List.set_cons_zero, List.set_cons_succ, List.length_cons, List.length_nil, List.nil_append, List.cons_append, Nat.reduceAdd, Int.cast_ofNat_Int, Int.reduceEq, List.isEmpty_nil, List.isEmpty_cons, Int.natCast_zero, Int.natCast_one, PySem.sizeLine_eq, Nat.reduceLT, Nat.reduceLeDiff, Nat.reduceEqDiff, if_true, if_false, Bool.false_eq_true, Bool.true_eq_false, decide_true, decide_false, Bool.not_true, Bool.not_false, eq_self, true_and, and_true, Nat.zero_add, Dk_app, In.app, Dk_len, List.append_assoc, List.length_append, Option.map_some, Option.map_none, dg0, dg1, ds0, ds1, sg0, sg1, ss0, ss1, w_make, sub_f, sub_s, mk_book h] | ((with_reducible refine And.intro ?_ ?_); (· ((try simp only [PySem.sizeLine_eq, List.length_map, List.length_append, List.length_cons, List.length_nil, List.length_take, List.length_drop]); omega))) | ((with_reducible refine wmul ?_ ?_ ?_); (· omega); (· omega)) | ((with_reducible refine wmod ?_ fun _ _ _ _ => ?_); (· omega)) | ((with_reducible refine wfdiv ?_ ?_ ?_); (· omega); (· omega)) | ((with_reducible refine draw_w (by assumption) ?_ ?_ ?_ ?_ fun _ _ _ _ _ => ?_); (· omega); (· (first | assumption | exact In.app (by assumption))); (· omega); (· omega)) | ((with_reducible refine pickI_w (by with_unfolding_all rfl) (by assumption) ?_ ?_ ?_ ?_ fun _ _ _ _ => ?_); (· omega); (· (first | assumption | exact In.app (by assumption))); (· simp); (· simp)))
  exact wR_gc0 tree_book (hold ⟨rfl, rfl⟩)
theorem obj_book {C : PySem.Addr} {fs bs : List Int} {S : Store} : objOf S (bookV C fs bs) = some (C, flds fs bs) := by rw [book_def]; rfl
theorem lk_ups {fs bs : List Int} : List.lookup (PySem.Str.ofString "ups") (flds fs bs) = some (.tup (fs.map .int)) := by
  simp only [flds, List.lookup]; rw [show ((PySem.Str.ofString "ups") == (PySem.Str.ofString "ups")) = true by decide +kernel]
theorem lk_buys {fs bs : List Int} : List.lookup (PySem.Str.ofString "buys") (flds fs bs) = some (.tup (bs.map .int)) := by
  simp only [flds, List.lookup]; rw [show ((PySem.Str.ofString "buys") == (PySem.Str.ofString "ups")) = false by decide +kernel, show ((PySem.Str.ofString "buys") == (PySem.Str.ofString "buys")) = true by decide +kernel]
theorem lk_sales {fs bs : List Int} : List.lookup (PySem.Str.ofString "sales") (flds fs bs) = some (.int bs.sum) := by
  simp only [flds, List.lookup]; rw [show ((PySem.Str.ofString "sales") == (PySem.Str.ofString "ups")) = false by decide +kernel, show ((PySem.Str.ofString "sales") == (PySem.Str.ofString "buys")) = false by decide +kernel, show ((PySem.Str.ofString "sales") == (PySem.Str.ofString "pairs_kept")) = false by decide +kernel, show ((PySem.Str.ofString "sales") == (PySem.Str.ofString "sales")) = true by decide +kernel]
theorem lk_no {m : PySem.Str} {fs bs : List Int} (h1 : (m == PySem.Str.ofString "ups") = false) (h2 : (m == PySem.Str.ofString "buys") = false) (h3 : (m == PySem.Str.ofString "pairs_kept") = false) (h4 : (m == PySem.Str.ofString "sales") = false) : List.lookup m (flds fs bs) = none := by
  simp only [flds, List.lookup, h1, h2, h3, h4]
theorem ty_book {C : PySem.Addr} {fs bs : List Int} {S : Store} : tyOf S (bookV C fs bs) = some (.inr C) := by rw [book_def]; rfl
theorem isi_book {C : PySem.Addr} {fs bs : List Int} {S : Store} : bIsi [C] [bookV C fs bs, .gl C] S = .ok (.bl true) S := by
  simp [bIsi, ty_book, okTy, okCl, isiV]
theorem beq_eq {S : Store} {fs bs gs cs : List Int} : f_p_Book___eq__ cB [bookV cB fs bs, bookV cB gs cs] S = .ok (.bl (decide (fs = gs ∧ bs = cs))) S := by
  refine ok_of_w ?_
  unfold f_p_Book___eq__
  refine wR_fn rfl ?_
  show wS _ _ _ (b_p_Book___eq__ cB [some (bookV cB fs bs), some (bookV cB gs cs)] _)
  unfold b_p_Book___eq__
  repeat (first | simp -implicitDefEqProofs only [w_seq, wR_gd, wS_gd, w_nil, w_drop, w_ret, w_retN, w_if, w_asg, w_name, w_gnil, w_gcons, w_gtup, w_gsub, w_for, w_aug, w_augS, w_c, w_bin, w_un, w_chain, w_chainB, w_and, w_or, w_not,  w_of, w_tand, w_tor, w_tnot, w_tyes, w_eif, w_call, w_attr, w_fld, w_bm, w_bmL, w_anil, w_acons, w_astar, w_app0, w_kw, pick_nil, pick_cons, Option.bind_some, w_tup, w_flst, w_fr, w_mk, w_flist, w_frev, w_fcat, w_frep, w_part0, w_part, w_slice, w_fslice, w_revT, w_dict0, w_dict, w_pnil, w_pcons, pOf, keysOf, w_ival, w_range1, w_range2, w_enum, w_zip, w_inew, w_comp, wipeL, o_add, o_sub, o_neg, o_addT, o_addS, o_cmp, o_eq, o_ne, eq_int, eq_bl, eq_str, eq_tup0, eq_lst0, eq_ref0, b_int, b_intB, wR_bind, wR_ok, wS_nx, wS_ret, wS_next, wS_ofE, wS_plain, eVar, seqOf, lstOf, itOf, o_sub2T, o_sub2L, o_sub2F, o_sub2S, o_sub2D, o_sub2R, idxT0, idxT1, idxT2, idxT3, idxL0, idxR, Gx.keyOf, Gx.setItem, mPop, mAppend, mExtend, bLen, bTup, List.getElem?_cons_zero, List.getElem?_cons_succ, List.set_cons_zero, List.set_cons_succ, List.length_cons, List.length_nil, List.nil_append, List.cons_append, Nat.reduceAdd, Int.cast_ofNat_Int, Int.reduceEq, List.isEmpty_nil, List.isEmpty_cons, Int.natCast_zero, Int.natCast_one, PySem.sizeLine_eq, Nat.reduceLT, Nat.reduceLeDiff, Nat.reduceEqDiff, if_true, if_false, Bool.false_eq_true, Bool.true_eq_false, decide_true, decide_false, Bool.not_true, Bool.not_false, eq_self, true_and, and_true, Nat.zero_add, Dk_app, In.app, Dk_len, List.append_assoc, List.length_append, Option.map_some, Option.map_none, dg0, dg1, ds0, ds1, sg0, sg1, ss0, ss1, isi_book, obj_book, lk_ups, lk_buys, List.mem_singleton, eq_ints] | ((with_reducible refine And.intro ?_ ?_); (· ((try simp only [PySem.sizeLine_eq, List.length_map, List.length_append, List.length_cons, List.length_nil, List.length_take, List.length_drop]); omega))) | ((with_reducible refine wmul ?_ ?_ ?_); (· omega); (· omega)) | ((with_reducible refine wmod ?_ fun _ _ _ _ => ?_); (· omega)) | ((with_reducible refine wfdiv ?_ ?_ ?_); (· omega); (· omega)) | ((with_reducible refine draw_w (by assumption) ?_ ?_ ?_ ?_ fun _ _ _ _ _ => ?_); (· omega); (· (first | assumption | exact In.app (by assumption))); (· omega); (· omega)) | ((with_reducible refine pickI_w (by with_unfolding_all rfl) (by assumption) ?_ ?_ ?_ ?_ fun _ _ _ _ => ?_); (· omega); (· (first | assumption | exact In.app (by assumption))); (· simp); (· simp)))
  by_cases h : fs = gs
  · repeat (first | simp -implicitDefEqProofs only [w_seq, wR_gd, wS_gd, w_nil, w_drop, w_ret, w_retN, w_if, w_asg, w_name, w_gnil, w_gcons, w_gtup, w_gsub, w_for, w_aug, w_augS, w_c, w_bin, w_un, w_chain, w_chainB, w_and, w_or, w_not,  w_of, w_tand, w_tor, w_tnot, w_tyes, w_eif, w_call, w_attr, w_fld, w_bm, w_bmL, w_anil, w_acons, w_astar, w_app0, w_kw, pick_nil, pick_cons, Option.bind_some, w_tup, w_flst, w_fr, w_mk, w_flist, w_frev, w_fcat, w_frep, w_part0, w_part, w_slice, w_fslice, w_revT, w_dict0, w_dict, w_pnil, w_pcons, pOf, keysOf, w_ival, w_range1, w_range2, w_enum, w_zip, w_inew, w_comp, wipeL, o_add, o_sub, o_neg, o_addT, o_addS, o_cmp, o_eq, o_ne, eq_int, eq_bl, eq_str, eq_tup0, eq_lst0, eq_ref0, b_int, b_intB, wR_bind, wR_ok, wS_nx, wS_ret, wS_next, wS_ofE, wS_plain, eVar, seqOf, lstOf, itOf, o_sub2T, o_sub2L, o_sub2F, o_sub2S, o_sub2D, o_sub2R, idxT0, idxT1, idxT2, idxT3, idxL0, idxR, Gx.keyOf, Gx.setItem, mPop, mAppend, mExtend, bLen, bTup, List.getElem?_cons_zero, List.getElem?_cons_succ, List.set_cons_zero, List.set_cons_succ, List.length_cons, List.length_nil, List.nil_append, List.cons_append, Nat.reduceAdd, Int.cast_ofNat_Int, Int.reduceEq, List.isEmpty_nil, List.isEmpty_cons, Int.natCast_zero, Int.natCast_one, PySem.sizeLine_eq, Nat.reduceLT, Nat.reduceLeDiff, Nat.reduceEqDiff, if_true, if_false, Bool.false_eq_true, Bool.true_eq_false, decide_true, decide_false, Bool.not_true, Bool.not_false, eq_self, true_and, and_true, Nat.zero_add, Dk_app, In.app, Dk_len, List.append_assoc, List.length_append, Option.map_some, Option.map_none, dg0, dg1, ds0, ds1, sg0, sg1, ss0, ss1, isi_book, obj_book, lk_ups, lk_buys, List.mem_singleton, eq_ints, h] | ((with_reducible refine And.intro ?_ ?_); (· ((try simp only [PySem.sizeLine_eq, List.length_map, List.length_append, List.length_cons, List.length_nil, List.length_take, List.length_drop]); omega))) | ((with_reducible refine wmul ?_ ?_ ?_); (· omega); (· omega)) | ((with_reducible refine wmod ?_ fun _ _ _ _ => ?_); (· omega)) | ((with_reducible refine wfdiv ?_ ?_ ?_); (· omega); (· omega)) | ((with_reducible refine draw_w (by assumption) ?_ ?_ ?_ ?_ fun _ _ _ _ _ => ?_); (· omega); (· (first | assumption | exact In.app (by assumption))); (· omega); (· omega)) | ((with_reducible refine pickI_w (by with_unfolding_all rfl) (by assumption) ?_ ?_ ?_ ?_ fun _ _ _ _ => ?_); (· omega); (· (first | assumption | exact In.app (by assumption))); (· simp); (· simp)))
    exact wR_gc0 rfl (hold ⟨by simp [h], rfl⟩)
  · repeat (first | simp -implicitDefEqProofs only [w_seq, wR_gd, wS_gd, w_nil, w_drop, w_ret, w_retN, w_if, w_asg, w_name, w_gnil, w_gcons, w_gtup, w_gsub, w_for, w_aug, w_augS, w_c, w_bin, w_un, w_chain, w_chainB, w_and, w_or, w_not,  w_of, w_tand, w_tor, w_tnot, w_tyes, w_eif, w_call, w_attr, w_fld, w_bm, w_bmL, w_anil, w_acons, w_astar, w_app0, w_kw, pick_nil, pick_cons, Option.bind_some, w_tup, w_flst, w_fr, w_mk, w_flist, w_frev, w_fcat, w_frep, w_part0, w_part, w_slice, w_fslice, w_revT, w_dict0, w_dict, w_pnil, w_pcons, pOf, keysOf, w_ival, w_range1, w_range2, w_enum, w_zip, w_inew, w_comp, wipeL, o_add, o_sub, o_neg, o_addT, o_addS, o_cmp, o_eq, o_ne, eq_int, eq_bl, eq_str, eq_tup0, eq_lst0, eq_ref0, b_int, b_intB, wR_bind, wR_ok, wS_nx, wS_ret, wS_next, wS_ofE, wS_plain, eVar, seqOf, lstOf, itOf, o_sub2T, o_sub2L, o_sub2F, o_sub2S, o_sub2D, o_sub2R, idxT0, idxT1, idxT2, idxT3, idxL0, idxR, Gx.keyOf, Gx.setItem, mPop, mAppend, mExtend, bLen, bTup, List.getElem?_cons_zero, List.getElem?_cons_succ, List.set_cons_zero, List.set_cons_succ, List.length_cons, List.length_nil, List.nil_append, List.cons_append, Nat.reduceAdd, Int.cast_ofNat_Int, Int.reduceEq, List.isEmpty_nil, List.isEmpty_cons, Int.natCast_zero, Int.natCast_one, PySem.sizeLine_eq, Nat.reduceLT, Nat.reduceLeDiff, Nat.reduceEqDiff, if_true, if_false, Bool.false_eq_true, Bool.true_eq_false, decide_true, decide_false, Bool.not_true, Bool.not_false, eq_self, true_and, and_true, Nat.zero_add, Dk_app, In.app, Dk_len, List.append_assoc, List.length_append, Option.map_some, Option.map_none, dg0, dg1, ds0, ds1, sg0, sg1, ss0, ss1, isi_book, obj_book, lk_ups, lk_buys, List.mem_singleton, eq_ints, h] | ((with_reducible refine And.intro ?_ ?_); (· ((try simp only [PySem.sizeLine_eq, List.length_map, List.length_append, List.length_cons, List.length_nil, List.length_take, List.length_drop]); omega))) | ((with_reducible refine wmul ?_ ?_ ?_); (· omega); (· omega)) | ((with_reducible refine wmod ?_ fun _ _ _ _ => ?_); (· omega)) | ((with_reducible refine wfdiv ?_ ?_ ?_); (· omega); (· omega)) | ((with_reducible refine draw_w (by assumption) ?_ ?_ ?_ ?_ fun _ _ _ _ _ => ?_); (· omega); (· (first | assumption | exact In.app (by assumption))); (· omega); (· omega)) | ((with_reducible refine pickI_w (by with_unfolding_all rfl) (by assumption) ?_ ?_ ?_ ?_ fun _ _ _ _ => ?_); (· omega); (· (first | assumption | exact In.app (by assumption))); (· simp); (· simp)))
    exact wR_gc0 rfl (hold ⟨by simp [h], rfl⟩)
theorem eqO_book {S : Store} {fs bs gs cs : List Int} {neg : Bool} : oEqO neg [cB] cB (f_p_Book___eq__ cB) (bookV cB fs bs) (bookV cB gs cs) S = .ok (.bl (if neg then !decide (fs = gs ∧ bs = cs) else decide (fs = gs ∧ bs = cs))) S := by
  simp [oEqO, obj_book, ty_book, okTy, beq_eq, R.bind]
end K10
end
section
set_option maxHeartbeats 1000000
set_option maxRecDepth 100000
set_option linter.all false
set_option autoImplicit false
namespace K10
open Gx
variable {cB : PySem.Addr}
theorem bk_len {fs bs : List Int} (h : Bk fs bs) : fs.length ≤ 1000 ∧ bs.length = fs.length := ⟨h.ups.len, h.len⟩
theorem member_eq {S : Store} {fs bs : List Int} {u b : Int} (ok : Bk (fs ++ [u]) (bs ++ [b])) : f_p_Book_with_member cB [bookV cB fs bs, .int u, .int b] S = .ok (bookV cB (fs ++ [u]) (bs ++ [b])) S := by
  have hl := bk_len ok
  simp only [List.length_append, List.length_singleton] at hl
  refine ok_of_w ?_
  unfold f_p_Book_with_member
  refine wR_fn rfl ?_
  show wS _ _ _ (b_p_Book_with_member cB [some (bookV cB fs bs), some (.int u), some (.int b)] _)
  unfold b_p_Book_with_member
  repeat (first | simp -implicitDefEqProofs only [w_seq, wR_gd, wS_gd, w_nil, w_drop, w_ret, w_retN, w_if, w_asg, w_name, w_gnil, w_gcons, w_gtup, w_gsub, w_for, w_aug, w_augS, w_c, w_bin, w_un, w_chain, w_chainB, w_and, w_or, w_not,  w_of, w_tand, w_tor, w_tnot, w_tyes, w_eif, w_call, w_attr, w_fld, w_bm, w_bmL, w_anil, w_acons, w_astar, w_app0, w_kw, pick_nil, pick_cons, Option.bind_some, w_tup, w_flst, w_fr, w_mk, w_flist, w_frev, w_fcat, w_frep, w_part0, w_part, w_slice, w_fslice, w_revT, w_dict0, w_dict, w_pnil, w_pcons, pOf, keysOf, w_ival, w_range1, w_range2, w_enum, w_zip, w_inew, w_comp, wipeL, o_add, o_sub, o_neg, o_addT, o_addS, o_cmp, o_eq, o_ne, eq_int, eq_bl, eq_str, eq_tup0, eq_lst0, eq_ref0, b_int, b_intB, wR_bind, wR_ok, wS_nx, wS_ret, wS_next, wS_ofE, wS_plain, eVar, seqOf, lstOf, itOf, o_sub2T, o_sub2L, o_sub2F, o_sub2S, o_sub2D, o_sub2R, idxT0, idxT1, idxT2, idxT3, idxL0, idxR, Gx.keyOf, Gx.setItem, mPop, mAppend, mExtend, bLen, bTup, List.getElem?_cons_zero, List.getElem?_cons_succ, List.set_cons_zero, List.set_cons_succ, List.length_cons, List.length_nil, List.nil_append, List.cons_append, Nat.reduceAdd, Int.cast_ofNat_Int, Int.reduceEq, List.isEmpty_nil, List.isEmpty_cons, Int.natCast_zero, Int.natCast_one, PySem.sizeLine_eq, Nat.reduceLT, Nat.reduceLeDiff, Nat.reduceEqDiff, if_true, if_false, Bool.false_eq_true, Bool.true_eq_false, decide_true, decide_false, Bool.not_true, Bool.not_false, eq_self, true_and, and_true, Nat.zero_add, Dk_app, In.app, Dk_len, List.append_assoc, List.length_append, Option.map_some, Option.map_none, dg0, dg1, ds0, ds1, sg0, sg1, ss0, ss1, obj_book, lk_ups, lk_buys, List.mem_singleton, ints_ext, w_make, mk_book ok] | ((with_reducible refine And.intro ?_ ?_); (· ((try simp only [PySem.sizeLine_eq, List.length_map, List.length_append, List.length_cons, List.length_nil, List.length_take, List.length_drop]); omega))) | ((with_reducible refine wmul ?_ ?_ ?_); (· omega); (· omega)) | ((with_reducible refine wmod ?_ fun _ _ _ _ => ?_); (· omega)) | ((with_reducible refine wfdiv ?_ ?_ ?_); (· omega); (· omega)) | ((with_reducible refine draw_w (by assumption) ?_ ?_ ?_ ?_ fun _ _ _ _ _ => ?_); (· omega); (· (first | assumption | exact In.app (by assumption))); (· omega); (· omega)) | ((with_reducible refine pickI_w (by with_unfolding_all rfl) (by assumption) ?_ ?_ ?_ ?_ fun _ _ _ _ => ?_); (· omega); (· (first | assumption | exact In.app (by assumption))); (· simp); (· simp)))
  exact wR_gc0 tree_book (hold ⟨rfl, rfl⟩)
theorem cut_mapT {xs : List Int} {lo hi : Option Int} : cutL (xs.map Val.int) lo hi = (cutL xs lo hi).map .int := by
  unfold cutL
  simp [List.map_take, List.map_drop]
theorem buy_eq {S : Store} {fs bs : List Int} {j : Nat} {b : Int} (hj : j < bs.length) (ok : Bk fs (bs.set j b)) : f_p_Book_with_buy cB [bookV cB fs bs, .int j, .int b] S = .ok (bookV cB fs (bs.set j b)) S := by
  have hl := bk_len ok
  rw [List.length_set] at hl
  have e : bs.set j b = bs.take j ++ (b :: bs.drop (j + 1)) := by rw [List.set_eq_take_append_cons_drop, if_pos hj]
  have c1 : cutL (bs.map Val.int) none (some (j : Int)) = (bs.take j).map .int := by rw [cut_to, List.map_take]
  have c2 : cutL (bs.map Val.int) (some ((j : Int) + 1)) none = (bs.drop (j + 1)).map .int := by
    rw [show ((j : Int) + 1) = ((j + 1 : Nat) : Int) from rfl, cut_from, List.map_drop]
  have e2 : (bs.take j).map Val.int ++ Val.int b :: (bs.drop (j + 1)).map .int = (bs.set j b).map .int := by rw [e]; simp
  have e3 : ((bs.take j).map Val.int ++ Val.int b :: (bs.drop (j + 1)).map .int).length ≤ 16777216 := by rw [e2]; simp; omega
  refine ok_of_w ?_
  unfold f_p_Book_with_buy
  refine wR_fn rfl ?_
  show wS _ _ _ (b_p_Book_with_buy cB [some (bookV cB fs bs), some (.int j), some (.int b)] _)
  unfold b_p_Book_with_buy
  repeat (first | simp -implicitDefEqProofs only [w_seq, wR_gd, wS_gd, w_nil, w_drop, w_ret, w_retN, w_if, w_asg, w_name, w_gnil, w_gcons, w_gtup, w_gsub, w_for, w_aug, w_augS, w_c, w_bin, w_un, w_chain, w_chainB, w_and, w_or, w_not,  w_of, w_tand, w_tor, w_tnot, w_tyes, w_eif, w_call, w_attr, w_fld, w_bm, w_bmL, w_anil, w_acons, w_astar, w_app0, w_kw, pick_nil, pick_cons, Option.bind_some, w_tup, w_flst, w_fr, w_mk, w_flist, w_frev, w_fcat, w_frep, w_part0, w_part, w_slice, w_fslice, w_revT, w_dict0, w_dict, w_pnil, w_pcons, pOf, keysOf, w_ival, w_range1, w_range2, w_enum, w_zip, w_inew, w_comp, wipeL, o_add, o_sub, o_neg, o_addT, o_addS, o_cmp, o_eq, o_ne, eq_int, eq_bl, eq_str, eq_tup0, eq_lst0, eq_ref0, b_int, b_intB, wR_bind, wR_ok, wS_nx, wS_ret, wS_next, wS_ofE, wS_plain, eVar, seqOf, lstOf, itOf, o_sub2T, o_sub2L, o_sub2F, o_sub2S, o_sub2D, o_sub2R, idxT0, idxT1, idxT2, idxT3, idxL0, idxR, Gx.keyOf, Gx.setItem, mPop, mAppend, mExtend, bLen, bTup, List.getElem?_cons_zero, List.getElem?_cons_succ, List.set_cons_zero, List.set_cons_succ, List.length_cons, List.length_nil, List.nil_append, List.cons_append, Nat.reduceAdd, Int.cast_ofNat_Int, Int.reduceEq, List.isEmpty_nil, List.isEmpty_cons, Int.natCast_zero, Int.natCast_one, PySem.sizeLine_eq, Nat.reduceLT, Nat.reduceLeDiff, Nat.reduceEqDiff, if_true, if_false, Bool.false_eq_true, Bool.true_eq_false, decide_true, decide_false, Bool.not_true, Bool.not_false, eq_self, true_and, and_true, Nat.zero_add, Dk_app, In.app, Dk_len, List.append_assoc, List.length_append, Option.map_some, Option.map_none, dg0, dg1, ds0, ds1, sg0, sg1, ss0, ss1, obj_book, lk_ups, lk_buys, List.mem_singleton, c1, c2, List.append_nil, w_make, w_astar] | ((with_reducible refine And.intro ?_ ?_); (· ((try simp only [PySem.sizeLine_eq, List.length_map, List.length_append, List.length_cons, List.length_nil, List.length_take, List.length_drop]); omega))) | ((with_reducible refine wmul ?_ ?_ ?_); (· omega); (· omega)) | ((with_reducible refine wmod ?_ fun _ _ _ _ => ?_); (· omega)) | ((with_reducible refine wfdiv ?_ ?_ ?_); (· omega); (· omega)) | ((with_reducible refine draw_w (by assumption) ?_ ?_ ?_ ?_ fun _ _ _ _ _ => ?_); (· omega); (· (first | assumption | exact In.app (by assumption))); (· omega); (· omega)) | ((with_reducible refine pickI_w (by with_unfolding_all rfl) (by assumption) ?_ ?_ ?_ ?_ fun _ _ _ _ => ?_); (· omega); (· (first | assumption | exact In.app (by assumption))); (· simp); (· simp)))
  rw [e2]
  repeat (first | simp -implicitDefEqProofs only [w_seq, wR_gd, wS_gd, w_nil, w_drop, w_ret, w_retN, w_if, w_asg, w_name, w_gnil, w_gcons, w_gtup, w_gsub, w_for, w_aug, w_augS, w_c, w_bin, w_un, w_chain, w_chainB, w_and, w_or, w_not,  w_of, w_tand, w_tor, w_tnot, w_tyes, w_eif, w_call, w_attr, w_fld, w_bm, w_bmL, w_anil, w_acons, w_astar, w_app0, w_kw, pick_nil, pick_cons, Option.bind_some, w_tup, w_flst, w_fr, w_mk, w_flist, w_frev, w_fcat, w_frep, w_part0, w_part, w_slice, w_fslice, w_revT, w_dict0, w_dict, w_pnil, w_pcons, pOf, keysOf, w_ival, w_range1, w_range2, w_enum, w_zip, w_inew, w_comp, wipeL, o_add, o_sub, o_neg, o_addT, o_addS, o_cmp, o_eq, o_ne, eq_int, eq_bl, eq_str, eq_tup0, eq_lst0, eq_ref0, b_int, b_intB, wR_bind, wR_ok, wS_nx, wS_ret, wS_next, wS_ofE, wS_plain, eVar, seqOf, lstOf, itOf, o_sub2T, o_sub2L, o_sub2F, o_sub2S, o_sub2D, o_sub2R, idxT0, idxT1, idxT2, idxT3, idxL0, idxR, Gx.keyOf, Gx.setItem, mPop, mAppend, mExtend, bLen, bTup, List.getElem?_cons_zero, List.getElem?_cons_succ, List.set_cons_zero, List.set_cons_succ, List.length_cons, List.length_nil, List.nil_append, List.cons_append, Nat.reduceAdd, Int.cast_ofNat_Int, Int.reduceEq, List.isEmpty_nil, List.isEmpty_cons, Int.natCast_zero, Int.natCast_one, PySem.sizeLine_eq, Nat.reduceLT, Nat.reduceLeDiff, Nat.reduceEqDiff, if_true, if_false, Bool.false_eq_true, Bool.true_eq_false, decide_true, decide_false, Bool.not_true, Bool.not_false, eq_self, true_and, and_true, Nat.zero_add, Dk_app, In.app, Dk_len, List.append_assoc, List.length_append, Option.map_some, Option.map_none, dg0, dg1, ds0, ds1, sg0, sg1, ss0, ss1, mk_book ok] | ((with_reducible refine And.intro ?_ ?_); (· ((try simp only [PySem.sizeLine_eq, List.length_map, List.length_append, List.length_cons, List.length_nil, List.length_take, List.length_drop]); omega))) | ((with_reducible refine wmul ?_ ?_ ?_); (· omega); (· omega)) | ((with_reducible refine wmod ?_ fun _ _ _ _ => ?_); (· omega)) | ((with_reducible refine wfdiv ?_ ?_ ?_); (· omega); (· omega)) | ((with_reducible refine draw_w (by assumption) ?_ ?_ ?_ ?_ fun _ _ _ _ _ => ?_); (· omega); (· (first | assumption | exact In.app (by assumption))); (· omega); (· omega)) | ((with_reducible refine pickI_w (by with_unfolding_all rfl) (by assumption) ?_ ?_ ?_ ?_ fun _ _ _ _ => ?_); (· omega); (· (first | assumption | exact In.app (by assumption))); (· simp); (· simp)))
  exact wR_gc0 tree_book (hold ⟨rfl, rfl⟩)
end K10
end
section
set_option maxHeartbeats 1000000
set_option maxRecDepth 100000
set_option linter.all false
set_option autoImplicit false
namespace K10
open Gx
variable {cB : PySem.Addr}
/-- the bringer of the i-th member when k leaves -/
def goN (fs : List Int) (k : Nat) (i : Nat) : Int :=
  let h := if fs.getD i 0 = (k : Int) then fs.getD k 0 else fs.getD i 0
  h - if (k : Int) < h then 1 else 0
def outN (fs : List Int) (k : Nat) : Nat → List Int
  | 0 => []
  | i + 1 => outN fs k i ++ (if i = k then [] else [goN fs k i])
def delN (bs : List Int) (k : Nat) : List Int := bs.take k ++ bs.drop (k + 1)
theorem outN_len {fs : List Int} {k : Nat} : ∀ i : Nat, (outN fs k i).length = i - if k < i then 1 else 0
  | 0 => by simp [outN]
  | i + 1 => by
    simp only [outN, List.length_append, outN_len i]
    by_cases h : i = k
    · rw [if_pos h, if_neg (by omega), if_pos (by omega)]; simp
    · rw [if_neg h]
      by_cases g : k < i
      · rw [if_pos g, if_pos (by omega)]; simp; omega
      · rw [if_neg g, if_neg (by omega)]; simp
theorem enum_at {fs : List Int} {i : Nat} {x : Val} (h : (enumV 0 (fs.map .int))[i]? = some x) : x = .tup [.int i, .int (fs.getD i 0)] ∧ i < fs.length := by
  simp only [enumV, List.getElem?_map, List.getElem?_zipIdx, Option.map_map, Option.map_eq_some_iff, Function.comp_def] at h
  obtain ⟨v, hv, rfl⟩ := h
  have hi := (List.getElem?_eq_some_iff.mp hv).1
  refine ⟨?_, hi⟩
  simp [List.getD, hv]
theorem del_map {bs : List Int} {j : Nat} : (bs.take j).map Val.int ++ (bs.drop (j + 1)).map .int = (delN bs j).map .int := by simp [delN]
theorem cut_a {bs : List Int} {j : Nat} : cutL (bs.map Val.int) none (some (j : Int)) = (bs.take j).map .int := by rw [cut_to, List.map_take]
theorem cut_b {bs : List Int} {j : Nat} : cutL (bs.map Val.int) (some ((j : Int) + 1)) none = (bs.drop (j + 1)).map .int := by
  rw [show ((j : Int) + 1) = ((j + 1 : Nat) : Int) from rfl, cut_from, List.map_drop]
theorem without_eq {S : Store} {fs bs : List Int} {j : Nat} (hl : fs.length ≤ 900) (hb : bs.length = fs.length) (hj : j < fs.length) (ok : Bk (outN fs j fs.length) (delN bs j)) :
    f_p_Book_without cB [bookV cB fs bs, .int j] S = .ok (bookV cB (outN fs j fs.length) (delN bs j)) S := by
  refine ok_of_w ?_
  unfold f_p_Book_without
  refine wR_fn rfl ?_
  show wS _ _ _ (b_p_Book_without cB [some (bookV cB fs bs), some (.int j), none, none, none, none] _)
  unfold b_p_Book_without
  repeat (first | simp -implicitDefEqProofs only [w_seq, wR_gd, wS_gd, w_nil, w_drop, w_ret, w_retN, w_if, w_asg, w_name, w_gnil, w_gcons, w_gtup, w_gsub, w_for, w_aug, w_augS, w_c, w_bin, w_un, w_chain, w_chainB, w_and, w_or, w_not,  w_of, w_tand, w_tor, w_tnot, w_tyes, w_eif, w_call, w_attr, w_fld, w_bm, w_bmL, w_anil, w_acons, w_astar, w_app0, w_kw, pick_nil, pick_cons, Option.bind_some, w_tup, w_flst, w_fr, w_mk, w_flist, w_frev, w_fcat, w_frep, w_part0, w_part, w_slice, w_fslice, w_revT, w_dict0, w_dict, w_pnil, w_pcons, pOf, keysOf, w_ival, w_range1, w_range2, w_enum, w_zip, w_inew, w_comp, wipeL, o_add, o_sub, o_neg, o_addT, o_addS, o_cmp, o_eq, o_ne, eq_int, eq_bl, eq_str, eq_tup0, eq_lst0, eq_ref0, b_int, b_intB, wR_bind, wR_ok, wS_nx, wS_ret, wS_next, wS_ofE, wS_plain, eVar, seqOf, lstOf, itOf, o_sub2T, o_sub2L, o_sub2F, o_sub2S, o_sub2D, o_sub2R, idxT0, idxT1, idxT2, idxT3, idxL0, idxR, Gx.keyOf, Gx.setItem, mPop, mAppend, mExtend, bLen, bTup, List.getElem?_cons_zero, List.getElem?_cons_succ, List.set_cons_zero, List.set_cons_succ, List.length_cons, List.length_nil, List.nil_append, List.cons_append, Nat.reduceAdd, Int.cast_ofNat_Int, Int.reduceEq, List.isEmpty_nil, List.isEmpty_cons, Int.natCast_zero, Int.natCast_one, PySem.sizeLine_eq, Nat.reduceLT, Nat.reduceLeDiff, Nat.reduceEqDiff, if_true, if_false, Bool.false_eq_true, Bool.true_eq_false, decide_true, decide_false, Bool.not_true, Bool.not_false, eq_self, true_and, and_true, Nat.zero_add, Dk_app, In.app, Dk_len, List.append_assoc, List.length_append, Option.map_some, Option.map_none, dg0, dg1, ds0, ds1, sg0, sg1, ss0, ss1, obj_book, lk_ups, lk_buys, List.mem_singleton] | ((with_reducible refine And.intro ?_ ?_); (· ((try simp only [PySem.sizeLine_eq, List.length_map, List.length_append, List.length_cons, List.length_nil, List.length_take, List.length_drop]); omega))) | ((with_reducible refine wmul ?_ ?_ ?_); (· omega); (· omega)) | ((with_reducible refine wmod ?_ fun _ _ _ _ => ?_); (· omega)) | ((with_reducible refine wfdiv ?_ ?_ ?_); (· omega); (· omega)) | ((with_reducible refine draw_w (by assumption) ?_ ?_ ?_ ?_ fun _ _ _ _ _ => ?_); (· omega); (· (first | assumption | exact In.app (by assumption))); (· omega); (· omega)) | ((with_reducible refine pickI_w (by with_unfolding_all rfl) (by assumption) ?_ ?_ ?_ ?_ fun _ _ _ _ => ?_); (· omega); (· (first | assumption | exact In.app (by assumption))); (· simp); (· simp)))
  refine wS_for (fun i L S1 => ∃ (l3 l4 l5 : Option Val), L = [some (bookV cB fs bs), some (.int j), some (.ref S.length), l3, l4, l5] ∧ S1 = S ++ [.lst ((outN fs j i).map .int)]) ?_ ?_ ?_ ?_
  · exact ⟨_, _, _, rfl, rfl⟩
  · intros; rfl
  · rintro i x _ _ hx hi ⟨l3, l4, l5, rfl, rfl⟩
    obtain ⟨rfl, hi2⟩ := enum_at hx
    have hu := outN_len (fs := fs) (k := j) i
    repeat (first | simp -implicitDefEqProofs only [w_seq, wR_gd, wS_gd, w_nil, w_drop, w_ret, w_retN, w_if, w_asg, w_name, w_gnil, w_gcons, w_gtup, w_gsub, w_for, w_aug, w_augS, w_c, w_bin, w_un, w_chain, w_chainB, w_and, w_or, w_not,  w_of, w_tand, w_tor, w_tnot, w_tyes, w_eif, w_call, w_attr, w_fld, w_bm, w_bmL, w_anil, w_acons, w_astar, w_app0, w_kw, pick_nil, pick_cons, Option.bind_some, w_tup, w_flst, w_fr, w_mk, w_flist, w_frev, w_fcat, w_frep, w_part0, w_part, w_slice, w_fslice, w_revT, w_dict0, w_dict, w_pnil, w_pcons, pOf, keysOf, w_ival, w_range1, w_range2, w_enum, w_zip, w_inew, w_comp, wipeL, o_add, o_sub, o_neg, o_addT, o_addS, o_cmp, o_eq, o_ne, eq_int, eq_bl, eq_str, eq_tup0, eq_lst0, eq_ref0, b_int, b_intB, wR_bind, wR_ok, wS_nx, wS_ret, wS_next, wS_ofE, wS_plain, eVar, seqOf, lstOf, itOf, o_sub2T, o_sub2L, o_sub2F, o_sub2S, o_sub2D, o_sub2R, idxT0, idxT1, idxT2, idxT3, idxL0, idxR, Gx.keyOf, Gx.setItem, mPop, mAppend, mExtend, bLen, bTup, List.getElem?_cons_zero, List.getElem?_cons_succ, List.set_cons_zero, List.set_cons_succ, List.length_cons, List.length_nil, List.nil_append, List.cons_append, Nat.reduceAdd, Int.cast_ofNat_Int, Int.reduceEq, List.isEmpty_nil, List.isEmpty_cons, Int.natCast_zero, Int.natCast_one, PySem.sizeLine_eq, Nat.reduceLT, Nat.reduceLeDiff, Nat.reduceEqDiff, if_true, if_false, Bool.false_eq_true, Bool.true_eq_false, decide_true, decide_false, Bool.not_true, Bool.not_false, eq_self, true_and, and_true, Nat.zero_add, Dk_app, In.app, Dk_len, List.append_assoc, List.length_append, Option.map_some, Option.map_none, dg0, dg1, ds0, ds1, sg0, sg1, ss0, ss1] | ((with_reducible refine And.intro ?_ ?_); (· ((try simp only [PySem.sizeLine_eq, List.length_map, List.length_append, List.length_cons, List.length_nil, List.length_take, List.length_drop]); omega))) | ((with_reducible refine wmul ?_ ?_ ?_); (· omega); (· omega)) | ((with_reducible refine wmod ?_ fun _ _ _ _ => ?_); (· omega)) | ((with_reducible refine wfdiv ?_ ?_ ?_); (· omega); (· omega)) | ((with_reducible refine draw_w (by assumption) ?_ ?_ ?_ ?_ fun _ _ _ _ _ => ?_); (· omega); (· (first | assumption | exact In.app (by assumption))); (· omega); (· omega)) | ((with_reducible refine pickI_w (by with_unfolding_all rfl) (by assumption) ?_ ?_ ?_ ?_ fun _ _ _ _ => ?_); (· omega); (· (first | assumption | exact In.app (by assumption))); (· simp); (· simp)))
    by_cases hij : i = j
    · subst hij
      repeat (first | simp -implicitDefEqProofs only [w_seq, wR_gd, wS_gd, w_nil, w_drop, w_ret, w_retN, w_if, w_asg, w_name, w_gnil, w_gcons, w_gtup, w_gsub, w_for, w_aug, w_augS, w_c, w_bin, w_un, w_chain, w_chainB, w_and, w_or, w_not,  w_of, w_tand, w_tor, w_tnot, w_tyes, w_eif, w_call, w_attr, w_fld, w_bm, w_bmL, w_anil, w_acons, w_astar, w_app0, w_kw, pick_nil, pick_cons, Option.bind_some, w_tup, w_flst, w_fr, w_mk, w_flist, w_frev, w_fcat, w_frep, w_part0, w_part, w_slice, w_fslice, w_revT, w_dict0, w_dict, w_pnil, w_pcons, pOf, keysOf, w_ival, w_range1, w_range2, w_enum, w_zip, w_inew, w_comp, wipeL, o_add, o_sub, o_neg, o_addT, o_addS, o_cmp, o_eq, o_ne, eq_int, eq_bl, eq_str, eq_tup0, eq_lst0, eq_ref0, b_int, b_intB, wR_bind, wR_ok, wS_nx, wS_ret, wS_next, wS_ofE, wS_plain, eVar, seqOf, lstOf, itOf, o_sub2T, o_sub2L, o_sub2F, o_sub2S, o_sub2D, o_sub2R, idxT0, idxT1, idxT2, idxT3, idxL0, idxR, Gx.keyOf, Gx.setItem, mPop, mAppend, mExtend, bLen, bTup, List.getElem?_cons_zero, List.getElem?_cons_succ, List.set_cons_zero, List.set_cons_succ, List.length_cons, List.length_nil, List.nil_append, List.cons_append, Nat.reduceAdd, Int.cast_ofNat_Int, Int.reduceEq, List.isEmpty_nil, List.isEmpty_cons, Int.natCast_zero, Int.natCast_one, PySem.sizeLine_eq, Nat.reduceLT, Nat.reduceLeDiff, Nat.reduceEqDiff, if_true, if_false, Bool.false_eq_true, Bool.true_eq_false, decide_true, decide_false, Bool.not_true, Bool.not_false, eq_self, true_and, and_true, Nat.zero_add, Dk_app, In.app, Dk_len, List.append_assoc, List.length_append, Option.map_some, Option.map_none, dg0, dg1, ds0, ds1, sg0, sg1, ss0, ss1] | ((with_reducible refine And.intro ?_ ?_); (· ((try simp only [PySem.sizeLine_eq, List.length_map, List.length_append, List.length_cons, List.length_nil, List.length_take, List.length_drop]); omega))) | ((with_reducible refine wmul ?_ ?_ ?_); (· omega); (· omega)) | ((with_reducible refine wmod ?_ fun _ _ _ _ => ?_); (· omega)) | ((with_reducible refine wfdiv ?_ ?_ ?_); (· omega); (· omega)) | ((with_reducible refine draw_w (by assumption) ?_ ?_ ?_ ?_ fun _ _ _ _ _ => ?_); (· omega); (· (first | assumption | exact In.app (by assumption))); (· omega); (· omega)) | ((with_reducible refine pickI_w (by with_unfolding_all rfl) (by assumption) ?_ ?_ ?_ ?_ fun _ _ _ _ => ?_); (· omega); (· (first | assumption | exact In.app (by assumption))); (· simp); (· simp)))
      exact hold ⟨_, _, _, rfl, by simp [outN]⟩
    · have hf : decide ((i : Int) = (j : Int)) = false := decide_eq_false (by omega)
      repeat (first | simp -implicitDefEqProofs only [w_seq, wR_gd, wS_gd, w_nil, w_drop, w_ret, w_retN, w_if, w_asg, w_name, w_gnil, w_gcons, w_gtup, w_gsub, w_for, w_aug, w_augS, w_c, w_bin, w_un, w_chain, w_chainB, w_and, w_or, w_not,  w_of, w_tand, w_tor, w_tnot, w_tyes, w_eif, w_call, w_attr, w_fld, w_bm, w_bmL, w_anil, w_acons, w_astar, w_app0, w_kw, pick_nil, pick_cons, Option.bind_some, w_tup, w_flst, w_fr, w_mk, w_flist, w_frev, w_fcat, w_frep, w_part0, w_part, w_slice, w_fslice, w_revT, w_dict0, w_dict, w_pnil, w_pcons, pOf, keysOf, w_ival, w_range1, w_range2, w_enum, w_zip, w_inew, w_comp, wipeL, o_add, o_sub, o_neg, o_addT, o_addS, o_cmp, o_eq, o_ne, eq_int, eq_bl, eq_str, eq_tup0, eq_lst0, eq_ref0, b_int, b_intB, wR_bind, wR_ok, wS_nx, wS_ret, wS_next, wS_ofE, wS_plain, eVar, seqOf, lstOf, itOf, o_sub2T, o_sub2L, o_sub2F, o_sub2S, o_sub2D, o_sub2R, idxT0, idxT1, idxT2, idxT3, idxL0, idxR, Gx.keyOf, Gx.setItem, mPop, mAppend, mExtend, bLen, bTup, List.getElem?_cons_zero, List.getElem?_cons_succ, List.set_cons_zero, List.set_cons_succ, List.length_cons, List.length_nil, List.nil_append, List.cons_append, Nat.reduceAdd, Int.cast_ofNat_Int, Int.reduceEq, List.isEmpty_nil, List.isEmpty_cons, Int.natCast_zero, Int.natCast_one, PySem.sizeLine_eq, Nat.reduceLT, Nat.reduceLeDiff, Nat.reduceEqDiff, if_true, if_false, Bool.false_eq_true, Bool.true_eq_false, decide_true, decide_false, Bool.not_true, Bool.not_false, eq_self, true_and, and_true, Nat.zero_add, Dk_app, In.app, Dk_len, List.append_assoc, List.length_append, Option.map_some, Option.map_none, dg0, dg1, ds0, ds1, sg0, sg1, ss0, ss1, hf] | ((with_reducible refine And.intro ?_ ?_); (· ((try simp only [PySem.sizeLine_eq, List.length_map, List.length_append, List.length_cons, List.length_nil, List.length_take, List.length_drop]); omega))) | ((with_reducible refine wmul ?_ ?_ ?_); (· omega); (· omega)) | ((with_reducible refine wmod ?_ fun _ _ _ _ => ?_); (· omega)) | ((with_reducible refine wfdiv ?_ ?_ ?_); (· omega); (· omega)) | ((with_reducible refine draw_w (by assumption) ?_ ?_ ?_ ?_ fun _ _ _ _ _ => ?_); (· omega); (· (first | assumption | exact In.app (by assumption))); (· omega); (· omega)) | ((with_reducible refine pickI_w (by with_unfolding_all rfl) (by assumption) ?_ ?_ ?_ ?_ fun _ _ _ _ => ?_); (· omega); (· (first | assumption | exact In.app (by assumption))); (· simp); (· simp)))
      refine wR_mono (Q := fun v S1 => v = .int (if fs.getD i 0 = (j : Int) then fs.getD j 0 else fs.getD i 0) ∧ S1 = S ++ [.lst ((outN fs j i).map .int)]) ?_ ?_
      · (first | refine wS_if (fun q => ?_) fun q => ?_ | refine wR_if (fun q => ?_) fun q => ?_ | refine prop_if (fun q => ?_) fun q => ?_)
        · repeat (first | simp -implicitDefEqProofs only [w_seq, wR_gd, wS_gd, w_nil, w_drop, w_ret, w_retN, w_if, w_asg, w_name, w_gnil, w_gcons, w_gtup, w_gsub, w_for, w_aug, w_augS, w_c, w_bin, w_un, w_chain, w_chainB, w_and, w_or, w_not,  w_of, w_tand, w_tor, w_tnot, w_tyes, w_eif, w_call, w_attr, w_fld, w_bm, w_bmL, w_anil, w_acons, w_astar, w_app0, w_kw, pick_nil, pick_cons, Option.bind_some, w_tup, w_flst, w_fr, w_mk, w_flist, w_frev, w_fcat, w_frep, w_part0, w_part, w_slice, w_fslice, w_revT, w_dict0, w_dict, w_pnil, w_pcons, pOf, keysOf, w_ival, w_range1, w_range2, w_enum, w_zip, w_inew, w_comp, wipeL, o_add, o_sub, o_neg, o_addT, o_addS, o_cmp, o_eq, o_ne, eq_int, eq_bl, eq_str, eq_tup0, eq_lst0, eq_ref0, b_int, b_intB, wR_bind, wR_ok, wS_nx, wS_ret, wS_next, wS_ofE, wS_plain, eVar, seqOf, lstOf, itOf, o_sub2T, o_sub2L, o_sub2F, o_sub2S, o_sub2D, o_sub2R, idxT0, idxT1, idxT2, idxT3, idxL0, idxR, Gx.keyOf, Gx.setItem, mPop, mAppend, mExtend, bLen, bTup, List.getElem?_cons_zero, List.getElem?_cons_succ, List.set_cons_zero, List.set_cons_succ, List.length_cons, List.length_nil, List.nil_append, List.cons_append, Nat.reduceAdd, Int.cast_ofNat_Int, Int.reduceEq, List.isEmpty_nil, List.isEmpty_cons, Int.natCast_zero, Int.natCast_one, PySem.sizeLine_eq, Nat.reduceLT, Nat.reduceLeDiff, Nat.reduceEqDiff, if_true, if_false, Bool.false_eq_true, Bool.true_eq_false, decide_true, decide_false, Bool.not_true, Bool.not_false, eq_self, true_and, and_true, Nat.zero_add, Dk_app, In.app, Dk_len, List.append_assoc, List.length_append, Option.map_some, Option.map_none, dg0, dg1, ds0, ds1, sg0, sg1, ss0, ss1, obj_book, lk_ups, List.mem_singleton, idx_intsT hj] | ((with_reducible refine And.intro ?_ ?_); (· ((try simp only [PySem.sizeLine_eq, List.length_map, List.length_append, List.length_cons, List.length_nil, List.length_take, List.length_drop]); omega))) | ((with_reducible refine wmul ?_ ?_ ?_); (· omega); (· omega)) | ((with_reducible refine wmod ?_ fun _ _ _ _ => ?_); (· omega)) | ((with_reducible refine wfdiv ?_ ?_ ?_); (· omega); (· omega)) | ((with_reducible refine draw_w (by assumption) ?_ ?_ ?_ ?_ fun _ _ _ _ _ => ?_); (· omega); (· (first | assumption | exact In.app (by assumption))); (· omega); (· omega)) | ((with_reducible refine pickI_w (by with_unfolding_all rfl) (by assumption) ?_ ?_ ?_ ?_ fun _ _ _ _ => ?_); (· omega); (· (first | assumption | exact In.app (by assumption))); (· simp); (· simp)))
          simp at q; simp [q]
        · repeat (first | simp -implicitDefEqProofs only [w_seq, wR_gd, wS_gd, w_nil, w_drop, w_ret, w_retN, w_if, w_asg, w_name, w_gnil, w_gcons, w_gtup, w_gsub, w_for, w_aug, w_augS, w_c, w_bin, w_un, w_chain, w_chainB, w_and, w_or, w_not,  w_of, w_tand, w_tor, w_tnot, w_tyes, w_eif, w_call, w_attr, w_fld, w_bm, w_bmL, w_anil, w_acons, w_astar, w_app0, w_kw, pick_nil, pick_cons, Option.bind_some, w_tup, w_flst, w_fr, w_mk, w_flist, w_frev, w_fcat, w_frep, w_part0, w_part, w_slice, w_fslice, w_revT, w_dict0, w_dict, w_pnil, w_pcons, pOf, keysOf, w_ival, w_range1, w_range2, w_enum, w_zip, w_inew, w_comp, wipeL, o_add, o_sub, o_neg, o_addT, o_addS, o_cmp, o_eq, o_ne, eq_int, eq_bl, eq_str, eq_tup0, eq_lst0, eq_ref0, b_int, b_intB, wR_bind, wR_ok, wS_nx, wS_ret, wS_next, wS_ofE, wS_plain, eVar, seqOf, lstOf, itOf, o_sub2T, o_sub2L, o_sub2F, o_sub2S, o_sub2D, o_sub2R, idxT0, idxT1, idxT2, idxT3, idxL0, idxR, Gx.keyOf, Gx.setItem, mPop, mAppend, mExtend, bLen, bTup, List.getElem?_cons_zero, List.getElem?_cons_succ, List.set_cons_zero, List.set_cons_succ, List.length_cons, List.length_nil, List.nil_append, List.cons_append, Nat.reduceAdd, Int.cast_ofNat_Int, Int.reduceEq, List.isEmpty_nil, List.isEmpty_cons, Int.natCast_zero, Int.natCast_one, PySem.sizeLine_eq, Nat.reduceLT, Nat.reduceLeDiff, Nat.reduceEqDiff, if_true, if_false, Bool.false_eq_true, Bool.true_eq_false, decide_true, decide_false, Bool.not_true, Bool.not_false, eq_self, true_and, and_true, Nat.zero_add, Dk_app, In.app, Dk_len, List.append_assoc, List.length_append, Option.map_some, Option.map_none, dg0, dg1, ds0, ds1, sg0, sg1, ss0, ss1] | ((with_reducible refine And.intro ?_ ?_); (· ((try simp only [PySem.sizeLine_eq, List.length_map, List.length_append, List.length_cons, List.length_nil, List.length_take, List.length_drop]); omega))) | ((with_reducible refine wmul ?_ ?_ ?_); (· omega); (· omega)) | ((with_reducible refine wmod ?_ fun _ _ _ _ => ?_); (· omega)) | ((with_reducible refine wfdiv ?_ ?_ ?_); (· omega); (· omega)) | ((with_reducible refine draw_w (by assumption) ?_ ?_ ?_ ?_ fun _ _ _ _ _ => ?_); (· omega); (· (first | assumption | exact In.app (by assumption))); (· omega); (· omega)) | ((with_reducible refine pickI_w (by with_unfolding_all rfl) (by assumption) ?_ ?_ ?_ ?_ fun _ _ _ _ => ?_); (· omega); (· (first | assumption | exact In.app (by assumption))); (· simp); (· simp)))
          simp at q; simp [q]
      rintro _ _ ⟨rfl, rfl⟩
      repeat (first | simp -implicitDefEqProofs only [w_seq, wR_gd, wS_gd, w_nil, w_drop, w_ret, w_retN, w_if, w_asg, w_name, w_gnil, w_gcons, w_gtup, w_gsub, w_for, w_aug, w_augS, w_c, w_bin, w_un, w_chain, w_chainB, w_and, w_or, w_not,  w_of, w_tand, w_tor, w_tnot, w_tyes, w_eif, w_call, w_attr, w_fld, w_bm, w_bmL, w_anil, w_acons, w_astar, w_app0, w_kw, pick_nil, pick_cons, Option.bind_some, w_tup, w_flst, w_fr, w_mk, w_flist, w_frev, w_fcat, w_frep, w_part0, w_part, w_slice, w_fslice, w_revT, w_dict0, w_dict, w_pnil, w_pcons, pOf, keysOf, w_ival, w_range1, w_range2, w_enum, w_zip, w_inew, w_comp, wipeL, o_add, o_sub, o_neg, o_addT, o_addS, o_cmp, o_eq, o_ne, eq_int, eq_bl, eq_str, eq_tup0, eq_lst0, eq_ref0, b_int, b_intB, wR_bind, wR_ok, wS_nx, wS_ret, wS_next, wS_ofE, wS_plain, eVar, seqOf, lstOf, itOf, o_sub2T, o_sub2L, o_sub2F, o_sub2S, o_sub2D, o_sub2R, idxT0, idxT1, idxT2, idxT3, idxL0, idxR, Gx.keyOf, Gx.setItem, mPop, mAppend, mExtend, bLen, bTup, List.getElem?_cons_zero, List.getElem?_cons_succ, List.set_cons_zero, List.set_cons_succ, List.length_cons, List.length_nil, List.nil_append, List.cons_append, Nat.reduceAdd, Int.cast_ofNat_Int, Int.reduceEq, List.isEmpty_nil, List.isEmpty_cons, Int.natCast_zero, Int.natCast_one, PySem.sizeLine_eq, Nat.reduceLT, Nat.reduceLeDiff, Nat.reduceEqDiff, if_true, if_false, Bool.false_eq_true, Bool.true_eq_false, decide_true, decide_false, Bool.not_true, Bool.not_false, eq_self, true_and, and_true, Nat.zero_add, Dk_app, In.app, Dk_len, List.append_assoc, List.length_append, Option.map_some, Option.map_none, dg0, dg1, ds0, ds1, sg0, sg1, ss0, ss1] | ((with_reducible refine And.intro ?_ ?_); (· ((try simp only [PySem.sizeLine_eq, List.length_map, List.length_append, List.length_cons, List.length_nil, List.length_take, List.length_drop]); omega))) | ((with_reducible refine wmul ?_ ?_ ?_); (· omega); (· omega)) | ((with_reducible refine wmod ?_ fun _ _ _ _ => ?_); (· omega)) | ((with_reducible refine wfdiv ?_ ?_ ?_); (· omega); (· omega)) | ((with_reducible refine draw_w (by assumption) ?_ ?_ ?_ ?_ fun _ _ _ _ _ => ?_); (· omega); (· (first | assumption | exact In.app (by assumption))); (· omega); (· omega)) | ((with_reducible refine pickI_w (by with_unfolding_all rfl) (by assumption) ?_ ?_ ?_ ?_ fun _ _ _ _ => ?_); (· omega); (· (first | assumption | exact In.app (by assumption))); (· simp); (· simp)))
      exact hold ⟨_, _, _, rfl, by simp [outN, hij, goN]⟩
  · rintro _ _ ⟨l3, l4, l5, rfl, rfl⟩
    have e : (enumV 0 (fs.map .int)).length = fs.length := by simp [enumV]
    rw [e]
    repeat (first | simp -implicitDefEqProofs only [w_seq, wR_gd, wS_gd, w_nil, w_drop, w_ret, w_retN, w_if, w_asg, w_name, w_gnil, w_gcons, w_gtup, w_gsub, w_for, w_aug, w_augS, w_c, w_bin, w_un, w_chain, w_chainB, w_and, w_or, w_not,  w_of, w_tand, w_tor, w_tnot, w_tyes, w_eif, w_call, w_attr, w_fld, w_bm, w_bmL, w_anil, w_acons, w_astar, w_app0, w_kw, pick_nil, pick_cons, Option.bind_some, w_tup, w_flst, w_fr, w_mk, w_flist, w_frev, w_fcat, w_frep, w_part0, w_part, w_slice, w_fslice, w_revT, w_dict0, w_dict, w_pnil, w_pcons, pOf, keysOf, w_ival, w_range1, w_range2, w_enum, w_zip, w_inew, w_comp, wipeL, o_add, o_sub, o_neg, o_addT, o_addS, o_cmp, o_eq, o_ne, eq_int, eq_bl, eq_str, eq_tup0, eq_lst0, eq_ref0, b_int, b_intB, wR_bind, wR_ok, wS_nx, wS_ret, wS_next, wS_ofE, wS_plain, eVar, seqOf, lstOf, itOf, o_sub2T, o_sub2L, o_sub2F, o_sub2S, o_sub2D, o_sub2R, idxT0, idxT1, idxT2, idxT3, idxL0, idxR, Gx.keyOf, Gx.setItem, mPop, mAppend, mExtend, bLen, bTup, List.getElem?_cons_zero, List.getElem?_cons_succ, List.set_cons_zero, List.set_cons_succ, List.length_cons, List.length_nil, List.nil_append, List.cons_append, Nat.reduceAdd, Int.cast_ofNat_Int, Int.reduceEq, List.isEmpty_nil, List.isEmpty_cons, Int.natCast_zero, Int.natCast_one, PySem.sizeLine_eq, Nat.reduceLT, Nat.reduceLeDiff, Nat.reduceEqDiff, if_true, if_false, Bool.false_eq_true, Bool.true_eq_false, decide_true, decide_false, Bool.not_true, Bool.not_false, eq_self, true_and, and_true, Nat.zero_add, Dk_app, In.app, Dk_len, List.append_assoc, List.length_append, Option.map_some, Option.map_none, dg0, dg1, ds0, ds1, sg0, sg1, ss0, ss1, obj_book, lk_ups, lk_buys, List.mem_singleton, cut_a, cut_b, List.append_nil, w_make, w_astar] | ((with_reducible refine And.intro ?_ ?_); (· ((try simp only [PySem.sizeLine_eq, List.length_map, List.length_append, List.length_cons, List.length_nil, List.length_take, List.length_drop]); omega))) | ((with_reducible refine wmul ?_ ?_ ?_); (· omega); (· omega)) | ((with_reducible refine wmod ?_ fun _ _ _ _ => ?_); (· omega)) | ((with_reducible refine wfdiv ?_ ?_ ?_); (· omega); (· omega)) | ((with_reducible refine draw_w (by assumption) ?_ ?_ ?_ ?_ fun _ _ _ _ _ => ?_); (· omega); (· (first | assumption | exact In.app (by assumption))); (· omega); (· omega)) | ((with_reducible refine pickI_w (by with_unfolding_all rfl) (by assumption) ?_ ?_ ?_ ?_ fun _ _ _ _ => ?_); (· omega); (· (first | assumption | exact In.app (by assumption))); (· simp); (· simp)))
    rw [del_map]
    repeat (first | simp -implicitDefEqProofs only [w_seq, wR_gd, wS_gd, w_nil, w_drop, w_ret, w_retN, w_if, w_asg, w_name, w_gnil, w_gcons, w_gtup, w_gsub, w_for, w_aug, w_augS, w_c, w_bin, w_un, w_chain, w_chainB, w_and, w_or, w_not,  w_of, w_tand, w_tor, w_tnot, w_tyes, w_eif, w_call, w_attr, w_fld, w_bm, w_bmL, w_anil, w_acons, w_astar, w_app0, w_kw, pick_nil, pick_cons, Option.bind_some, w_tup, w_flst, w_fr, w_mk, w_flist, w_frev, w_fcat, w_frep, w_part0, w_part, w_slice, w_fslice, w_revT, w_dict0, w_dict, w_pnil, w_pcons, pOf, keysOf, w_ival, w_range1, w_range2, w_enum, w_zip, w_inew, w_comp, wipeL, o_add, o_sub, o_neg, o_addT, o_addS, o_cmp, o_eq, o_ne, eq_int, eq_bl, eq_str, eq_tup0, eq_lst0, eq_ref0, b_int, b_intB, wR_bind, wR_ok, wS_nx, wS_ret, wS_next, wS_ofE, wS_plain, eVar, seqOf, lstOf, itOf, o_sub2T, o_sub2L, o_sub2F, o_sub2S, o_sub2D, o_sub2R, idxT0, idxT1, idxT2, idxT3, idxL0, idxR, Gx.keyOf, Gx.setItem, mPop, mAppend, mExtend, bLen, bTup, List.getElem?_cons_zero, List.getElem?_cons_succ, List.set_cons_zero, List.set_cons_succ, List.length_cons, List.length_nil, List.nil_append, List.cons_append, Nat.reduceAdd, Int.cast_ofNat_Int, Int.reduceEq, List.isEmpty_nil, List.isEmpty_cons, Int.natCast_zero, Int.natCast_one, PySem.sizeLine_eq, Nat.reduceLT, Nat.reduceLeDiff, Nat.reduceEqDiff, if_true, if_false, Bool.false_eq_true, Bool.true_eq_false, decide_true, decide_false, Bool.not_true, Bool.not_false, eq_self, true_and, and_true, Nat.zero_add, Dk_app, In.app, Dk_len, List.append_assoc, List.length_append, Option.map_some, Option.map_none, dg0, dg1, ds0, ds1, sg0, sg1, ss0, ss1, mk_book ok] | ((with_reducible refine And.intro ?_ ?_); (· ((try simp only [PySem.sizeLine_eq, List.length_map, List.length_append, List.length_cons, List.length_nil, List.length_take, List.length_drop]); omega))) | ((with_reducible refine wmul ?_ ?_ ?_); (· omega); (· omega)) | ((with_reducible refine wmod ?_ fun _ _ _ _ => ?_); (· omega)) | ((with_reducible refine wfdiv ?_ ?_ ?_); (· omega); (· omega)) | ((with_reducible refine draw_w (by assumption) ?_ ?_ ?_ ?_ fun _ _ _ _ _ => ?_); (· omega); (· (first | assumption | exact In.app (by assumption))); (· omega); (· omega)) | ((with_reducible refine pickI_w (by with_unfolding_all rfl) (by assumption) ?_ ?_ ?_ ?_ fun _ _ _ _ => ?_); (· omega); (· (first | assumption | exact In.app (by assumption))); (· simp); (· simp)))
    exact wR_gcT tree_book (hold ⟨rfl, rfl⟩)
end K10
end
section
set_option maxHeartbeats 1000000
set_option maxRecDepth 100000
set_option linter.all false
set_option autoImplicit false
namespace K10
open Gx
variable {cB : PySem.Addr}
def gallN (fs : List Int) (k : Nat) : Nat → List Int
  | 0 => []
  | i + 1 => gallN fs k i ++ [goN fs k i]
theorem gall_len {fs : List Int} {k : Nat} : ∀ i : Nat, (gallN fs k i).length = i
  | 0 => rfl
  | i + 1 => by simp [gallN, gall_len i]
theorem out_gall {fs : List Int} {k : Nat} : ∀ i : Nat, outN fs k i = if k < i then delN (gallN fs k i) k else gallN fs k i
  | 0 => by simp [outN, gallN]
  | i + 1 => by
    have hl := gall_len (fs := fs) (k := k) i
    simp only [outN, gallN, out_gall i]
    by_cases h : i = k
    · subst h
      rw [if_neg (Nat.lt_irrefl _), if_pos rfl, if_pos (Nat.lt_succ_self _)]
      unfold delN
      rw [List.take_left' hl, List.drop_eq_nil_of_le (by simp [hl])]
    · rw [if_neg h]
      by_cases g : k < i
      · rw [if_pos g, if_pos (by omega)]
        unfold delN
        rw [List.take_append_of_le_length (by omega), List.drop_append_of_le_length (by omega), List.append_assoc]
      · rw [if_neg g, if_neg (by omega)]
theorem gone_eq {S : Store} {fs bs : List Int} {j : Nat} (hl : fs.length ≤ 900) (hb : bs.length = fs.length) (hj : j < fs.length) :
    f_w_gone cB [enW fs bs, .int j] S = .ok (enW (outN fs j fs.length) (delN bs j)) S := by
  refine ok_of_w ?_
  unfold f_w_gone
  refine wR_fn rfl ?_
  show wS _ _ _ (b_w_gone cB [some (enW fs bs), some (.int j), none, none, none, none] _)
  unfold b_w_gone
  repeat (first | simp -implicitDefEqProofs only [w_seq, wR_gd, wS_gd, w_nil, w_drop, w_ret, w_retN, w_if, w_asg, w_name, w_gnil, w_gcons, w_gtup, w_gsub, w_for, w_aug, w_augS, w_c, w_bin, w_un, w_chain, w_chainB, w_and, w_or, w_not,  w_of, w_tand, w_tor, w_tnot, w_tyes, w_eif, w_call, w_attr, w_fld, w_bm, w_bmL, w_anil, w_acons, w_astar, w_app0, w_kw, pick_nil, pick_cons, Option.bind_some, w_tup, w_flst, w_fr, w_mk, w_flist, w_frev, w_fcat, w_frep, w_part0, w_part, w_slice, w_fslice, w_revT, w_dict0, w_dict, w_pnil, w_pcons, pOf, keysOf, w_ival, w_range1, w_range2, w_enum, w_zip, w_inew, w_comp, wipeL, o_add, o_sub, o_neg, o_addT, o_addS, o_cmp, o_eq, o_ne, eq_int, eq_bl, eq_str, eq_tup0, eq_lst0, eq_ref0, b_int, b_intB, wR_bind, wR_ok, wS_nx, wS_ret, wS_next, wS_ofE, wS_plain, eVar, seqOf, lstOf, itOf, o_sub2T, o_sub2L, o_sub2F, o_sub2S, o_sub2D, o_sub2R, idxT0, idxT1, idxT2, idxT3, idxL0, idxR, Gx.keyOf, Gx.setItem, mPop, mAppend, mExtend, bLen, bTup, List.getElem?_cons_zero, List.getElem?_cons_succ, List.set_cons_zero, List.set_cons_succ, List.length_cons, List.length_nil, List.nil_append, List.cons_append, Nat.reduceAdd, Int.cast_ofNat_Int, Int.reduceEq, List.isEmpty_nil, List.isEmpty_cons, Int.natCast_zero, Int.natCast_one, PySem.sizeLine_eq, Nat.reduceLT, Nat.reduceLeDiff, Nat.reduceEqDiff, if_true, if_false, Bool.false_eq_true, Bool.true_eq_false, decide_true, decide_false, Bool.not_true, Bool.not_false, eq_self, true_and, and_true, Nat.zero_add, Dk_app, In.app, Dk_len, List.append_assoc, List.length_append, Option.map_some, Option.map_none, dg0, dg1, ds0, ds1, sg0, sg1, ss0, ss1, sub_f, sub_s] | ((with_reducible refine And.intro ?_ ?_); (· ((try simp only [PySem.sizeLine_eq, List.length_map, List.length_append, List.length_cons, List.length_nil, List.length_take, List.length_drop]); omega))) | ((with_reducible refine wmul ?_ ?_ ?_); (· omega); (· omega)) | ((with_reducible refine wmod ?_ fun _ _ _ _ => ?_); (· omega)) | ((with_reducible refine wfdiv ?_ ?_ ?_); (· omega); (· omega)) | ((with_reducible refine draw_w (by assumption) ?_ ?_ ?_ ?_ fun _ _ _ _ _ => ?_); (· omega); (· (first | assumption | exact In.app (by assumption))); (· omega); (· omega)) | ((with_reducible refine pickI_w (by with_unfolding_all rfl) (by assumption) ?_ ?_ ?_ ?_ fun _ _ _ _ => ?_); (· omega); (· (first | assumption | exact In.app (by assumption))); (· simp); (· simp)))
  refine wS_for (fun i L S1 => ∃ (l3 l4 l5 : Option Val), L = [some (enW fs bs), some (.int j), some (.ref S.length), l3, l4, l5] ∧ S1 = S ++ [.lst ((gallN fs j i).map .int)]) ?_ ?_ ?_ ?_
  · exact ⟨_, _, _, rfl, rfl⟩
  · intros; rfl
  · rintro i x _ _ hx hi ⟨l3, l4, l5, rfl, rfl⟩
    obtain ⟨rfl, hi2⟩ := enum_at hx
    have hu := gall_len (fs := fs) (k := j) i
    repeat (first | simp -implicitDefEqProofs only [w_seq, wR_gd, wS_gd, w_nil, w_drop, w_ret, w_retN, w_if, w_asg, w_name, w_gnil, w_gcons, w_gtup, w_gsub, w_for, w_aug, w_augS, w_c, w_bin, w_un, w_chain, w_chainB, w_and, w_or, w_not,  w_of, w_tand, w_tor, w_tnot, w_tyes, w_eif, w_call, w_attr, w_fld, w_bm, w_bmL, w_anil, w_acons, w_astar, w_app0, w_kw, pick_nil, pick_cons, Option.bind_some, w_tup, w_flst, w_fr, w_mk, w_flist, w_frev, w_fcat, w_frep, w_part0, w_part, w_slice, w_fslice, w_revT, w_dict0, w_dict, w_pnil, w_pcons, pOf, keysOf, w_ival, w_range1, w_range2, w_enum, w_zip, w_inew, w_comp, wipeL, o_add, o_sub, o_neg, o_addT, o_addS, o_cmp, o_eq, o_ne, eq_int, eq_bl, eq_str, eq_tup0, eq_lst0, eq_ref0, b_int, b_intB, wR_bind, wR_ok, wS_nx, wS_ret, wS_next, wS_ofE, wS_plain, eVar, seqOf, lstOf, itOf, o_sub2T, o_sub2L, o_sub2F, o_sub2S, o_sub2D, o_sub2R, idxT0, idxT1, idxT2, idxT3, idxL0, idxR, Gx.keyOf, Gx.setItem, mPop, mAppend, mExtend, bLen, bTup, List.getElem?_cons_zero, List.getElem?_cons_succ, List.set_cons_zero, List.set_cons_succ, List.length_cons, List.length_nil, List.nil_append, List.cons_append, Nat.reduceAdd, Int.cast_ofNat_Int, Int.reduceEq, List.isEmpty_nil, List.isEmpty_cons, Int.natCast_zero, Int.natCast_one, PySem.sizeLine_eq, Nat.reduceLT, Nat.reduceLeDiff, Nat.reduceEqDiff, if_true, if_false, Bool.false_eq_true, Bool.true_eq_false, decide_true, decide_false, Bool.not_true, Bool.not_false, eq_self, true_and, and_true, Nat.zero_add, Dk_app, In.app, Dk_len, List.append_assoc, List.length_append, Option.map_some, Option.map_none, dg0, dg1, ds0, ds1, sg0, sg1, ss0, ss1, sub_f, sub_s] | ((with_reducible refine And.intro ?_ ?_); (· ((try simp only [PySem.sizeLine_eq, List.length_map, List.length_append, List.length_cons, List.length_nil, List.length_take, List.length_drop]); omega))) | ((with_reducible refine wmul ?_ ?_ ?_); (· omega); (· omega)) | ((with_reducible refine wmod ?_ fun _ _ _ _ => ?_); (· omega)) | ((with_reducible refine wfdiv ?_ ?_ ?_); (· omega); (· omega)) | ((with_reducible refine draw_w (by assumption) ?_ ?_ ?_ ?_ fun _ _ _ _ _ => ?_); (· omega); (· (first | assumption | exact In.app (by assumption))); (· omega); (· omega)) | ((with_reducible refine pickI_w (by with_unfolding_all rfl) (by assumption) ?_ ?_ ?_ ?_ fun _ _ _ _ => ?_); (· omega); (· (first | assumption | exact In.app (by assumption))); (· simp); (· simp)))
    refine wR_mono (Q := fun v S1 => v = .int (if fs.getD i 0 = (j : Int) then fs.getD j 0 else fs.getD i 0) ∧ S1 = S ++ [.lst ((gallN fs j i).map .int)]) ?_ ?_
    · (first | refine wS_if (fun q => ?_) fun q => ?_ | refine wR_if (fun q => ?_) fun q => ?_ | refine prop_if (fun q => ?_) fun q => ?_)
      · repeat (first | simp -implicitDefEqProofs only [w_seq, wR_gd, wS_gd, w_nil, w_drop, w_ret, w_retN, w_if, w_asg, w_name, w_gnil, w_gcons, w_gtup, w_gsub, w_for, w_aug, w_augS, w_c, w_bin, w_un, w_chain, w_chainB, w_and, w_or, w_not,  w_of, w_tand, w_tor, w_tnot, w_tyes, w_eif, w_call, w_attr, w_fld, w_bm, w_bmL, w_anil, w_acons, w_astar, w_app0, w_kw, pick_nil, pick_cons, Option.bind_some, w_tup, w_flst, w_fr, w_mk, w_flist, w_frev, w_fcat, w_frep, w_part0, w_part, w_slice, w_fslice, w_revT, w_dict0, w_dict, w_pnil, w_pcons, pOf, keysOf, w_ival, w_range1, w_range2, w_enum, w_zip, w_inew, w_comp, wipeL, o_add, o_sub, o_neg, o_addT, o_addS, o_cmp, o_eq, o_ne, eq_int, eq_bl, eq_str, eq_tup0, eq_lst0, eq_ref0, b_int, b_intB, wR_bind, wR_ok, wS_nx, wS_ret, wS_next, wS_ofE, wS_plain, eVar, seqOf, lstOf, itOf, o_sub2T, o_sub2L, o_sub2F, o_sub2S, o_sub2D, o_sub2R, idxT0, idxT1, idxT2, idxT3, idxL0, idxR, Gx.keyOf, Gx.setItem, mPop, mAppend, mExtend, bLen, bTup, List.getElem?_cons_zero, List.getElem?_cons_succ, List.set_cons_zero, List.set_cons_succ, List.length_cons, List.length_nil, List.nil_append, List.cons_append, Nat.reduceAdd, Int.cast_ofNat_Int, Int.reduceEq, List.isEmpty_nil, List.isEmpty_cons, Int.natCast_zero, Int.natCast_one, PySem.sizeLine_eq, Nat.reduceLT, Nat.reduceLeDiff, Nat.reduceEqDiff, if_true, if_false, Bool.false_eq_true, Bool.true_eq_false, decide_true, decide_false, Bool.not_true, Bool.not_false, eq_self, true_and, and_true, Nat.zero_add, Dk_app, In.app, Dk_len, List.append_assoc, List.length_append, Option.map_some, Option.map_none, dg0, dg1, ds0, ds1, sg0, sg1, ss0, ss1, sub_f, idx_intsL hj] | ((with_reducible refine And.intro ?_ ?_); (· ((try simp only [PySem.sizeLine_eq, List.length_map, List.length_append, List.length_cons, List.length_nil, List.length_take, List.length_drop]); omega))) | ((with_reducible refine wmul ?_ ?_ ?_); (· omega); (· omega)) | ((with_reducible refine wmod ?_ fun _ _ _ _ => ?_); (· omega)) | ((with_reducible refine wfdiv ?_ ?_ ?_); (· omega); (· omega)) | ((with_reducible refine draw_w (by assumption) ?_ ?_ ?_ ?_ fun _ _ _ _ _ => ?_); (· omega); (· (first | assumption | exact In.app (by assumption))); (· omega); (· omega)) | ((with_reducible refine pickI_w (by with_unfolding_all rfl) (by assumption) ?_ ?_ ?_ ?_ fun _ _ _ _ => ?_); (· omega); (· (first | assumption | exact In.app (by assumption))); (· simp); (· simp)))
        simp at q; simp [q]
      · repeat (first | simp -implicitDefEqProofs only [w_seq, wR_gd, wS_gd, w_nil, w_drop, w_ret, w_retN, w_if, w_asg, w_name, w_gnil, w_gcons, w_gtup, w_gsub, w_for, w_aug, w_augS, w_c, w_bin, w_un, w_chain, w_chainB, w_and, w_or, w_not,  w_of, w_tand, w_tor, w_tnot, w_tyes, w_eif, w_call, w_attr, w_fld, w_bm, w_bmL, w_anil, w_acons, w_astar, w_app0, w_kw, pick_nil, pick_cons, Option.bind_some, w_tup, w_flst, w_fr, w_mk, w_flist, w_frev, w_fcat, w_frep, w_part0, w_part, w_slice, w_fslice, w_revT, w_dict0, w_dict, w_pnil, w_pcons, pOf, keysOf, w_ival, w_range1, w_range2, w_enum, w_zip, w_inew, w_comp, wipeL, o_add, o_sub, o_neg, o_addT, o_addS, o_cmp, o_eq, o_ne, eq_int, eq_bl, eq_str, eq_tup0, eq_lst0, eq_ref0, b_int, b_intB, wR_bind, wR_ok, wS_nx, wS_ret, wS_next, wS_ofE, wS_plain, eVar, seqOf, lstOf, itOf, o_sub2T, o_sub2L, o_sub2F, o_sub2S, o_sub2D, o_sub2R, idxT0, idxT1, idxT2, idxT3, idxL0, idxR, Gx.keyOf, Gx.setItem, mPop, mAppend, mExtend, bLen, bTup, List.getElem?_cons_zero, List.getElem?_cons_succ, List.set_cons_zero, List.set_cons_succ, List.length_cons, List.length_nil, List.nil_append, List.cons_append, Nat.reduceAdd, Int.cast_ofNat_Int, Int.reduceEq, List.isEmpty_nil, List.isEmpty_cons, Int.natCast_zero, Int.natCast_one, PySem.sizeLine_eq, Nat.reduceLT, Nat.reduceLeDiff, Nat.reduceEqDiff, if_true, if_false, Bool.false_eq_true, Bool.true_eq_false, decide_true, decide_false, Bool.not_true, Bool.not_false, eq_self, true_and, and_true, Nat.zero_add, Dk_app, In.app, Dk_len, List.append_assoc, List.length_append, Option.map_some, Option.map_none, dg0, dg1, ds0, ds1, sg0, sg1, ss0, ss1] | ((with_reducible refine And.intro ?_ ?_); (· ((try simp only [PySem.sizeLine_eq, List.length_map, List.length_append, List.length_cons, List.length_nil, List.length_take, List.length_drop]); omega))) | ((with_reducible refine wmul ?_ ?_ ?_); (· omega); (· omega)) | ((with_reducible refine wmod ?_ fun _ _ _ _ => ?_); (· omega)) | ((with_reducible refine wfdiv ?_ ?_ ?_); (· omega); (· omega)) | ((with_reducible refine draw_w (by assumption) ?_ ?_ ?_ ?_ fun _ _ _ _ _ => ?_); (· omega); (· (first | assumption | exact In.app (by assumption))); (· omega); (· omega)) | ((with_reducible refine pickI_w (by with_unfolding_all rfl) (by assumption) ?_ ?_ ?_ ?_ fun _ _ _ _ => ?_); (· omega); (· (first | assumption | exact In.app (by assumption))); (· simp); (· simp)))
        simp at q; simp [q]
    rintro _ _ ⟨rfl, rfl⟩
    repeat (first | simp -implicitDefEqProofs only [w_seq, wR_gd, wS_gd, w_nil, w_drop, w_ret, w_retN, w_if, w_asg, w_name, w_gnil, w_gcons, w_gtup, w_gsub, w_for, w_aug, w_augS, w_c, w_bin, w_un, w_chain, w_chainB, w_and, w_or, w_not,  w_of, w_tand, w_tor, w_tnot, w_tyes, w_eif, w_call, w_attr, w_fld, w_bm, w_bmL, w_anil, w_acons, w_astar, w_app0, w_kw, pick_nil, pick_cons, Option.bind_some, w_tup, w_flst, w_fr, w_mk, w_flist, w_frev, w_fcat, w_frep, w_part0, w_part, w_slice, w_fslice, w_revT, w_dict0, w_dict, w_pnil, w_pcons, pOf, keysOf, w_ival, w_range1, w_range2, w_enum, w_zip, w_inew, w_comp, wipeL, o_add, o_sub, o_neg, o_addT, o_addS, o_cmp, o_eq, o_ne, eq_int, eq_bl, eq_str, eq_tup0, eq_lst0, eq_ref0, b_int, b_intB, wR_bind, wR_ok, wS_nx, wS_ret, wS_next, wS_ofE, wS_plain, eVar, seqOf, lstOf, itOf, o_sub2T, o_sub2L, o_sub2F, o_sub2S, o_sub2D, o_sub2R, idxT0, idxT1, idxT2, idxT3, idxL0, idxR, Gx.keyOf, Gx.setItem, mPop, mAppend, mExtend, bLen, bTup, List.getElem?_cons_zero, List.getElem?_cons_succ, List.set_cons_zero, List.set_cons_succ, List.length_cons, List.length_nil, List.nil_append, List.cons_append, Nat.reduceAdd, Int.cast_ofNat_Int, Int.reduceEq, List.isEmpty_nil, List.isEmpty_cons, Int.natCast_zero, Int.natCast_one, PySem.sizeLine_eq, Nat.reduceLT, Nat.reduceLeDiff, Nat.reduceEqDiff, if_true, if_false, Bool.false_eq_true, Bool.true_eq_false, decide_true, decide_false, Bool.not_true, Bool.not_false, eq_self, true_and, and_true, Nat.zero_add, Dk_app, In.app, Dk_len, List.append_assoc, List.length_append, Option.map_some, Option.map_none, dg0, dg1, ds0, ds1, sg0, sg1, ss0, ss1] | ((with_reducible refine And.intro ?_ ?_); (· ((try simp only [PySem.sizeLine_eq, List.length_map, List.length_append, List.length_cons, List.length_nil, List.length_take, List.length_drop]); omega))) | ((with_reducible refine wmul ?_ ?_ ?_); (· omega); (· omega)) | ((with_reducible refine wmod ?_ fun _ _ _ _ => ?_); (· omega)) | ((with_reducible refine wfdiv ?_ ?_ ?_); (· omega); (· omega)) | ((with_reducible refine draw_w (by assumption) ?_ ?_ ?_ ?_ fun _ _ _ _ _ => ?_); (· omega); (· (first | assumption | exact In.app (by assumption))); (· omega); (· omega)) | ((with_reducible refine pickI_w (by with_unfolding_all rfl) (by assumption) ?_ ?_ ?_ ?_ fun _ _ _ _ => ?_); (· omega); (· (first | assumption | exact In.app (by assumption))); (· simp); (· simp)))
    refine wR_mono (Q := fun v S1 => v = .int (goN fs j i) ∧ S1 = S ++ [.lst ((gallN fs j i).map .int)]) ?_ ?_
    · (first | refine wS_if (fun q => ?_) fun q => ?_ | refine wR_if (fun q => ?_) fun q => ?_ | refine prop_if (fun q => ?_) fun q => ?_)
      · repeat (first | simp -implicitDefEqProofs only [w_seq, wR_gd, wS_gd, w_nil, w_drop, w_ret, w_retN, w_if, w_asg, w_name, w_gnil, w_gcons, w_gtup, w_gsub, w_for, w_aug, w_augS, w_c, w_bin, w_un, w_chain, w_chainB, w_and, w_or, w_not,  w_of, w_tand, w_tor, w_tnot, w_tyes, w_eif, w_call, w_attr, w_fld, w_bm, w_bmL, w_anil, w_acons, w_astar, w_app0, w_kw, pick_nil, pick_cons, Option.bind_some, w_tup, w_flst, w_fr, w_mk, w_flist, w_frev, w_fcat, w_frep, w_part0, w_part, w_slice, w_fslice, w_revT, w_dict0, w_dict, w_pnil, w_pcons, pOf, keysOf, w_ival, w_range1, w_range2, w_enum, w_zip, w_inew, w_comp, wipeL, o_add, o_sub, o_neg, o_addT, o_addS, o_cmp, o_eq, o_ne, eq_int, eq_bl, eq_str, eq_tup0, eq_lst0, eq_ref0, b_int, b_intB, wR_bind, wR_ok, wS_nx, wS_ret, wS_next, wS_ofE, wS_plain, eVar, seqOf, lstOf, itOf, o_sub2T, o_sub2L, o_sub2F, o_sub2S, o_sub2D, o_sub2R, idxT0, idxT1, idxT2, idxT3, idxL0, idxR, Gx.keyOf, Gx.setItem, mPop, mAppend, mExtend, bLen, bTup, List.getElem?_cons_zero, List.getElem?_cons_succ, List.set_cons_zero, List.set_cons_succ, List.length_cons, List.length_nil, List.nil_append, List.cons_append, Nat.reduceAdd, Int.cast_ofNat_Int, Int.reduceEq, List.isEmpty_nil, List.isEmpty_cons, Int.natCast_zero, Int.natCast_one, PySem.sizeLine_eq, Nat.reduceLT, Nat.reduceLeDiff, Nat.reduceEqDiff, if_true, if_false, Bool.false_eq_true, Bool.true_eq_false, decide_true, decide_false, Bool.not_true, Bool.not_false, eq_self, true_and, and_true, Nat.zero_add, Dk_app, In.app, Dk_len, List.append_assoc, List.length_append, Option.map_some, Option.map_none, dg0, dg1, ds0, ds1, sg0, sg1, ss0, ss1] | ((with_reducible refine And.intro ?_ ?_); (· ((try simp only [PySem.sizeLine_eq, List.length_map, List.length_append, List.length_cons, List.length_nil, List.length_take, List.length_drop]); omega))) | ((with_reducible refine wmul ?_ ?_ ?_); (· omega); (· omega)) | ((with_reducible refine wmod ?_ fun _ _ _ _ => ?_); (· omega)) | ((with_reducible refine wfdiv ?_ ?_ ?_); (· omega); (· omega)) | ((with_reducible refine draw_w (by assumption) ?_ ?_ ?_ ?_ fun _ _ _ _ _ => ?_); (· omega); (· (first | assumption | exact In.app (by assumption))); (· omega); (· omega)) | ((with_reducible refine pickI_w (by with_unfolding_all rfl) (by assumption) ?_ ?_ ?_ ?_ fun _ _ _ _ => ?_); (· omega); (· (first | assumption | exact In.app (by assumption))); (· simp); (· simp)))
        simp only [decide_eq_true_eq] at q
        simp only [goN]; rw [if_pos q]
      · repeat (first | simp -implicitDefEqProofs only [w_seq, wR_gd, wS_gd, w_nil, w_drop, w_ret, w_retN, w_if, w_asg, w_name, w_gnil, w_gcons, w_gtup, w_gsub, w_for, w_aug, w_augS, w_c, w_bin, w_un, w_chain, w_chainB, w_and, w_or, w_not,  w_of, w_tand, w_tor, w_tnot, w_tyes, w_eif, w_call, w_attr, w_fld, w_bm, w_bmL, w_anil, w_acons, w_astar, w_app0, w_kw, pick_nil, pick_cons, Option.bind_some, w_tup, w_flst, w_fr, w_mk, w_flist, w_frev, w_fcat, w_frep, w_part0, w_part, w_slice, w_fslice, w_revT, w_dict0, w_dict, w_pnil, w_pcons, pOf, keysOf, w_ival, w_range1, w_range2, w_enum, w_zip, w_inew, w_comp, wipeL, o_add, o_sub, o_neg, o_addT, o_addS, o_cmp, o_eq, o_ne, eq_int, eq_bl, eq_str, eq_tup0, eq_lst0, eq_ref0, b_int, b_intB, wR_bind, wR_ok, wS_nx, wS_ret, wS_next, wS_ofE, wS_plain, eVar, seqOf, lstOf, itOf, o_sub2T, o_sub2L, o_sub2F, o_sub2S, o_sub2D, o_sub2R, idxT0, idxT1, idxT2, idxT3, idxL0, idxR, Gx.keyOf, Gx.setItem, mPop, mAppend, mExtend, bLen, bTup, List.getElem?_cons_zero, List.getElem?_cons_succ, List.set_cons_zero, List.set_cons_succ, List.length_cons, List.length_nil, List.nil_append, List.cons_append, Nat.reduceAdd, Int.cast_ofNat_Int, Int.reduceEq, List.isEmpty_nil, List.isEmpty_cons, Int.natCast_zero, Int.natCast_one, PySem.sizeLine_eq, Nat.reduceLT, Nat.reduceLeDiff, Nat.reduceEqDiff, if_true, if_false, Bool.false_eq_true, Bool.true_eq_false, decide_true, decide_false, Bool.not_true, Bool.not_false, eq_self, true_and, and_true, Nat.zero_add, Dk_app, In.app, Dk_len, List.append_assoc, List.length_append, Option.map_some, Option.map_none, dg0, dg1, ds0, ds1, sg0, sg1, ss0, ss1] | ((with_reducible refine And.intro ?_ ?_); (· ((try simp only [PySem.sizeLine_eq, List.length_map, List.length_append, List.length_cons, List.length_nil, List.length_take, List.length_drop]); omega))) | ((with_reducible refine wmul ?_ ?_ ?_); (· omega); (· omega)) | ((with_reducible refine wmod ?_ fun _ _ _ _ => ?_); (· omega)) | ((with_reducible refine wfdiv ?_ ?_ ?_); (· omega); (· omega)) | ((with_reducible refine draw_w (by assumption) ?_ ?_ ?_ ?_ fun _ _ _ _ _ => ?_); (· omega); (· (first | assumption | exact In.app (by assumption))); (· omega); (· omega)) | ((with_reducible refine pickI_w (by with_unfolding_all rfl) (by assumption) ?_ ?_ ?_ ?_ fun _ _ _ _ => ?_); (· omega); (· (first | assumption | exact In.app (by assumption))); (· simp); (· simp)))
        simp only [decide_eq_false_iff_not] at q
        simp only [goN]; rw [if_neg q]; simp
    rintro _ _ ⟨rfl, rfl⟩
    repeat (first | simp -implicitDefEqProofs only [w_seq, wR_gd, wS_gd, w_nil, w_drop, w_ret, w_retN, w_if, w_asg, w_name, w_gnil, w_gcons, w_gtup, w_gsub, w_for, w_aug, w_augS, w_c, w_bin, w_un, w_chain, w_chainB, w_and, w_or, w_not,  w_of, w_tand, w_tor, w_tnot, w_tyes, w_eif, w_call, w_attr, w_fld, w_bm, w_bmL, w_anil, w_acons, w_astar, w_app0, w_kw, pick_nil, pick_cons, Option.bind_some, w_tup, w_flst, w_fr, w_mk, w_flist, w_frev, w_fcat, w_frep, w_part0, w_part, w_slice, w_fslice, w_revT, w_dict0, w_dict, w_pnil, w_pcons, pOf, keysOf, w_ival, w_range1, w_range2, w_enum, w_zip, w_inew, w_comp, wipeL, o_add, o_sub, o_neg, o_addT, o_addS, o_cmp, o_eq, o_ne, eq_int, eq_bl, eq_str, eq_tup0, eq_lst0, eq_ref0, b_int, b_intB, wR_bind, wR_ok, wS_nx, wS_ret, wS_next, wS_ofE, wS_plain, eVar, seqOf, lstOf, itOf, o_sub2T, o_sub2L, o_sub2F, o_sub2S, o_sub2D, o_sub2R, idxT0, idxT1, idxT2, idxT3, idxL0, idxR, Gx.keyOf, Gx.setItem, mPop, mAppend, mExtend, bLen, bTup, List.getElem?_cons_zero, List.getElem?_cons_succ, List.set_cons_zero, List.set_cons_succ, List.length_cons, List.length_nil, List.nil_append, List.cons_append, Nat.reduceAdd, Int.cast_ofNat_Int, Int.reduceEq, List.isEmpty_nil, List.isEmpty_cons, Int.natCast_zero, Int.natCast_one, PySem.sizeLine_eq, Nat.reduceLT, Nat.reduceLeDiff, Nat.reduceEqDiff, if_true, if_false, Bool.false_eq_true, Bool.true_eq_false, decide_true, decide_false, Bool.not_true, Bool.not_false, eq_self, true_and, and_true, Nat.zero_add, Dk_app, In.app, Dk_len, List.append_assoc, List.length_append, Option.map_some, Option.map_none, dg0, dg1, ds0, ds1, sg0, sg1, ss0, ss1] | ((with_reducible refine And.intro ?_ ?_); (· ((try simp only [PySem.sizeLine_eq, List.length_map, List.length_append, List.length_cons, List.length_nil, List.length_take, List.length_drop]); omega))) | ((with_reducible refine wmul ?_ ?_ ?_); (· omega); (· omega)) | ((with_reducible refine wmod ?_ fun _ _ _ _ => ?_); (· omega)) | ((with_reducible refine wfdiv ?_ ?_ ?_); (· omega); (· omega)) | ((with_reducible refine draw_w (by assumption) ?_ ?_ ?_ ?_ fun _ _ _ _ _ => ?_); (· omega); (· (first | assumption | exact In.app (by assumption))); (· omega); (· omega)) | ((with_reducible refine pickI_w (by with_unfolding_all rfl) (by assumption) ?_ ?_ ?_ ?_ fun _ _ _ _ => ?_); (· omega); (· (first | assumption | exact In.app (by assumption))); (· simp); (· simp)))
    exact hold ⟨_, _, _, rfl, by simp [gallN]⟩
  · rintro _ _ ⟨l3, l4, l5, rfl, rfl⟩
    have e : (enumV 0 (fs.map .int)).length = fs.length := by simp [enumV]
    have hg := gall_len (fs := fs) (k := j) fs.length
    have ho : outN fs j fs.length = delN (gallN fs j fs.length) j := by rw [out_gall, if_pos hj]
    rw [e, ho]
    generalize gallN fs j fs.length = G at hg ⊢
    repeat (first | simp -implicitDefEqProofs only [w_seq, wR_gd, wS_gd, w_nil, w_drop, w_ret, w_retN, w_if, w_asg, w_name, w_gnil, w_gcons, w_gtup, w_gsub, w_for, w_aug, w_augS, w_c, w_bin, w_un, w_chain, w_chainB, w_and, w_or, w_not,  w_of, w_tand, w_tor, w_tnot, w_tyes, w_eif, w_call, w_attr, w_fld, w_bm, w_bmL, w_anil, w_acons, w_astar, w_app0, w_kw, pick_nil, pick_cons, Option.bind_some, w_tup, w_flst, w_fr, w_mk, w_flist, w_frev, w_fcat, w_frep, w_part0, w_part, w_slice, w_fslice, w_revT, w_dict0, w_dict, w_pnil, w_pcons, pOf, keysOf, w_ival, w_range1, w_range2, w_enum, w_zip, w_inew, w_comp, wipeL, o_add, o_sub, o_neg, o_addT, o_addS, o_cmp, o_eq, o_ne, eq_int, eq_bl, eq_str, eq_tup0, eq_lst0, eq_ref0, b_int, b_intB, wR_bind, wR_ok, wS_nx, wS_ret, wS_next, wS_ofE, wS_plain, eVar, seqOf, lstOf, itOf, o_sub2T, o_sub2L, o_sub2F, o_sub2S, o_sub2D, o_sub2R, idxT0, idxT1, idxT2, idxT3, idxL0, idxR, Gx.keyOf, Gx.setItem, mPop, mAppend, mExtend, bLen, bTup, List.getElem?_cons_zero, List.getElem?_cons_succ, List.set_cons_zero, List.set_cons_succ, List.length_cons, List.length_nil, List.nil_append, List.cons_append, Nat.reduceAdd, Int.cast_ofNat_Int, Int.reduceEq, List.isEmpty_nil, List.isEmpty_cons, Int.natCast_zero, Int.natCast_one, PySem.sizeLine_eq, Nat.reduceLT, Nat.reduceLeDiff, Nat.reduceEqDiff, if_true, if_false, Bool.false_eq_true, Bool.true_eq_false, decide_true, decide_false, Bool.not_true, Bool.not_false, eq_self, true_and, and_true, Nat.zero_add, Dk_app, In.app, Dk_len, List.append_assoc, List.length_append, Option.map_some, Option.map_none, dg0, dg1, ds0, ds1, sg0, sg1, ss0, ss1, sub_f, sub_s, cut_a, cut_b, del_map, lstOf, mg2] | ((with_reducible refine And.intro ?_ ?_); (· ((try simp only [PySem.sizeLine_eq, List.length_map, List.length_append, List.length_cons, List.length_nil, List.length_take, List.length_drop]); omega))) | ((with_reducible refine wmul ?_ ?_ ?_); (· omega); (· omega)) | ((with_reducible refine wmod ?_ fun _ _ _ _ => ?_); (· omega)) | ((with_reducible refine wfdiv ?_ ?_ ?_); (· omega); (· omega)) | ((with_reducible refine draw_w (by assumption) ?_ ?_ ?_ ?_ fun _ _ _ _ _ => ?_); (· omega); (· (first | assumption | exact In.app (by assumption))); (· omega); (· omega)) | ((with_reducible refine pickI_w (by with_unfolding_all rfl) (by assumption) ?_ ?_ ?_ ?_ fun _ _ _ _ => ?_); (· omega); (· (first | assumption | exact In.app (by assumption))); (· simp); (· simp)))
    rw [← enW_def]
    exact wR_gcT tree_W (hold ⟨rfl, rfl⟩)
theorem made_eq {S : Store} {fs bs gs cs : List Int} (h : Ups fs) (hb : ∀ b ∈ bs, b.natAbs < 2 ^ 64) (hl : bs.length ≤ 200) (hlf : fs.length ≤ 200) (h2 : gs = fs) (h3 : cs = bs) :
    f_w_is_made cB [bookV cB fs bs, enW gs cs] S = .ok (.bl true) S := by
  subst h2 h3
  have hd : Dt 64 2 62000 (.lst [.tup (gs.map .int), .tup (cs.map .int)]) := by
    have a1 : Dt 64 1 (151 * gs.length) (.tup (gs.map .int)) := (dts_ints (fun x hx => by
      obtain ⟨i, hi⟩ := List.getElem?_of_mem hx
      have := h.fr i x hi
      have h2 := (List.getElem?_eq_some_iff.mp hi).1
      have := h.len
      have h3 : (2 : Nat) ^ 64 = 18446744073709551616 := by decide
      omega)).tup (by have := h.len; omega)
    have a2 : Dt 64 1 (151 * cs.length) (.tup (cs.map .int)) := (dts_ints hb).tup (by omega)
    have a3 : Dts 64 1 (151 * gs.length + 1 + (151 * cs.length + 1 + 0)) [.tup (gs.map .int), .tup (cs.map .int)] := Dts.cons a1 (Dts.cons a2 Dts.nil)
    have hg := h.len
    have hm : 151 * gs.length + 1 + (151 * cs.length + 1 + 0) ≤ 62000 := by omega
    exact (a3.lst (by omega)).le (by omega) hm
  have r1 : ∀ S : Store, bRepr [.lst [.tup (gs.map .int), .tup (cs.map .int)]] S = _ := fun S => repr_ok hd (by omega) (by omega) (by omega) (by omega) S
  refine ok_of_w ?_
  unfold f_w_is_made
  refine wR_fn rfl ?_
  show wS _ _ _ (b_w_is_made cB [some (bookV cB gs cs), some (enW gs cs)] _)
  unfold b_w_is_made
  repeat (first | simp -implicitDefEqProofs only [w_seq, wR_gd, wS_gd, w_nil, w_drop, w_ret, w_retN, w_if, w_asg, w_name, w_gnil, w_gcons, w_gtup, w_gsub, w_for, w_aug, w_augS, w_c, w_bin, w_un, w_chain, w_chainB, w_and, w_or, w_not,  w_of, w_tand, w_tor, w_tnot, w_tyes, w_eif, w_call, w_attr, w_fld, w_bm, w_bmL, w_anil, w_acons, w_astar, w_app0, w_kw, pick_nil, pick_cons, Option.bind_some, w_tup, w_flst, w_fr, w_mk, w_flist, w_frev, w_fcat, w_frep, w_part0, w_part, w_slice, w_fslice, w_revT, w_dict0, w_dict, w_pnil, w_pcons, pOf, keysOf, w_ival, w_range1, w_range2, w_enum, w_zip, w_inew, w_comp, wipeL, o_add, o_sub, o_neg, o_addT, o_addS, o_cmp, o_eq, o_ne, eq_int, eq_bl, eq_str, eq_tup0, eq_lst0, eq_ref0, b_int, b_intB, wR_bind, wR_ok, wS_nx, wS_ret, wS_next, wS_ofE, wS_plain, eVar, seqOf, lstOf, itOf, o_sub2T, o_sub2L, o_sub2F, o_sub2S, o_sub2D, o_sub2R, idxT0, idxT1, idxT2, idxT3, idxL0, idxR, Gx.keyOf, Gx.setItem, mPop, mAppend, mExtend, bLen, bTup, List.getElem?_cons_zero, List.getElem?_cons_succ, List.set_cons_zero, List.set_cons_succ, List.length_cons, List.length_nil, List.nil_append, List.cons_append, Nat.reduceAdd, Int.cast_ofNat_Int, Int.reduceEq, List.isEmpty_nil, List.isEmpty_cons, Int.natCast_zero, Int.natCast_one, PySem.sizeLine_eq, Nat.reduceLT, Nat.reduceLeDiff, Nat.reduceEqDiff, if_true, if_false, Bool.false_eq_true, Bool.true_eq_false, decide_true, decide_false, Bool.not_true, Bool.not_false, eq_self, true_and, and_true, Nat.zero_add, Dk_app, In.app, Dk_len, List.append_assoc, List.length_append, Option.map_some, Option.map_none, dg0, dg1, ds0, ds1, sg0, sg1, ss0, ss1, isi_book, obj_book, lk_ups, lk_buys, List.mem_singleton, sub_f, sub_s, r1] | ((with_reducible refine And.intro ?_ ?_); (· ((try simp only [PySem.sizeLine_eq, List.length_map, List.length_append, List.length_cons, List.length_nil, List.length_take, List.length_drop]); omega))) | ((with_reducible refine wmul ?_ ?_ ?_); (· omega); (· omega)) | ((with_reducible refine wmod ?_ fun _ _ _ _ => ?_); (· omega)) | ((with_reducible refine wfdiv ?_ ?_ ?_); (· omega); (· omega)) | ((with_reducible refine draw_w (by assumption) ?_ ?_ ?_ ?_ fun _ _ _ _ _ => ?_); (· omega); (· (first | assumption | exact In.app (by assumption))); (· omega); (· omega)) | ((with_reducible refine pickI_w (by with_unfolding_all rfl) (by assumption) ?_ ?_ ?_ ?_ fun _ _ _ _ => ?_); (· omega); (· (first | assumption | exact In.app (by assumption))); (· simp); (· simp)))
  exact wR_gc0 rfl (hold ⟨rfl, rfl⟩)
end K10
end
section
set_option maxHeartbeats 1000000
set_option maxRecDepth 100000
set_option linter.all false
set_option autoImplicit false
namespace K10
open Gx
variable {cB : PySem.Addr}
def farN (n : Int) (gs : List Int) : List Int := gs.map fun x => if x = -1 then -1 else x + n
def farV (n : Int) : Val → Val
  | .int z => .int (if z = -1 then -1 else z + n)
  | x => x
theorem map_app {xs ys : List Int} : xs.map Val.int ++ ys.map .int = (xs ++ ys).map .int := by simp
theorem with_book_eq {S : Store} {fs bs gs cs : List Int} (h1 : fs.length ≤ 400) (h2 : gs.length ≤ 400) (hb : bs.length ≤ 400) (hc : cs.length ≤ 400) (ok : Bk (fs ++ farN fs.length gs) (bs ++ cs)) :
    f_p_Book_with_book cB [bookV cB fs bs, bookV cB gs cs] S = .ok (bookV cB (fs ++ farN fs.length gs) (bs ++ cs)) S := by
  have hf : (farN fs.length gs).length ≤ 400 := by simp [farN]; omega
  refine ok_of_w ?_
  unfold f_p_Book_with_book
  refine wR_fn rfl ?_
  show wS _ _ _ (b_p_Book_with_book cB [some (bookV cB fs bs), some (bookV cB gs cs), none, none, none] _)
  unfold b_p_Book_with_book
  repeat (first | simp -implicitDefEqProofs only [w_seq, wR_gd, wS_gd, w_nil, w_drop, w_ret, w_retN, w_if, w_asg, w_name, w_gnil, w_gcons, w_gtup, w_gsub, w_for, w_aug, w_augS, w_c, w_bin, w_un, w_chain, w_chainB, w_and, w_or, w_not,  w_of, w_tand, w_tor, w_tnot, w_tyes, w_eif, w_call, w_attr, w_fld, w_bm, w_bmL, w_anil, w_acons, w_astar, w_app0, w_kw, pick_nil, pick_cons, Option.bind_some, w_tup, w_flst, w_fr, w_mk, w_flist, w_frev, w_fcat, w_frep, w_part0, w_part, w_slice, w_fslice, w_revT, w_dict0, w_dict, w_pnil, w_pcons, pOf, keysOf, w_ival, w_range1, w_range2, w_enum, w_zip, w_inew, w_comp, wipeL, o_add, o_sub, o_neg, o_addT, o_addS, o_cmp, o_eq, o_ne, eq_int, eq_bl, eq_str, eq_tup0, eq_lst0, eq_ref0, b_int, b_intB, wR_bind, wR_ok, wS_nx, wS_ret, wS_next, wS_ofE, wS_plain, eVar, seqOf, lstOf, itOf, o_sub2T, o_sub2L, o_sub2F, o_sub2S, o_sub2D, o_sub2R, idxT0, idxT1, idxT2, idxT3, idxL0, idxR, Gx.keyOf, Gx.setItem, mPop, mAppend, mExtend, bLen, bTup, List.getElem?_cons_zero, List.getElem?_cons_succ, List.set_cons_zero, List.set_cons_succ, List.length_cons, List.length_nil, List.nil_append, List.cons_append, Nat.reduceAdd, Int.cast_ofNat_Int, Int.reduceEq, List.isEmpty_nil, List.isEmpty_cons, Int.natCast_zero, Int.natCast_one, PySem.sizeLine_eq, Nat.reduceLT, Nat.reduceLeDiff, Nat.reduceEqDiff, if_true, if_false, Bool.false_eq_true, Bool.true_eq_false, decide_true, decide_false, Bool.not_true, Bool.not_false, eq_self, true_and, and_true, Nat.zero_add, Dk_app, In.app, Dk_len, List.append_assoc, List.length_append, Option.map_some, Option.map_none, dg0, dg1, ds0, ds1, sg0, sg1, ss0, ss1, obj_book, lk_ups, lk_buys, List.mem_singleton, List.length_map] | ((with_reducible refine And.intro ?_ ?_); (· ((try simp only [PySem.sizeLine_eq, List.length_map, List.length_append, List.length_cons, List.length_nil, List.length_take, List.length_drop]); omega))) | ((with_reducible refine wmul ?_ ?_ ?_); (· omega); (· omega)) | ((with_reducible refine wmod ?_ fun _ _ _ _ => ?_); (· omega)) | ((with_reducible refine wfdiv ?_ ?_ ?_); (· omega); (· omega)) | ((with_reducible refine draw_w (by assumption) ?_ ?_ ?_ ?_ fun _ _ _ _ _ => ?_); (· omega); (· (first | assumption | exact In.app (by assumption))); (· omega); (· omega)) | ((with_reducible refine pickI_w (by with_unfolding_all rfl) (by assumption) ?_ ?_ ?_ ?_ fun _ _ _ _ => ?_); (· omega); (· (first | assumption | exact In.app (by assumption))); (· simp); (· simp)))
  refine wR_comp_map (fun x => [some (bookV cB fs bs), some (bookV cB gs cs), some (.int fs.length), none, some x]) (farV fs.length) rfl (fun x _ => rfl) (fun x hx => ?_) ?_
  · obtain ⟨z, _, rfl⟩ := List.mem_map.mp hx
    refine ok_of_w ?_
    repeat (first | simp -implicitDefEqProofs only [w_seq, wR_gd, wS_gd, w_nil, w_drop, w_ret, w_retN, w_if, w_asg, w_name, w_gnil, w_gcons, w_gtup, w_gsub, w_for, w_aug, w_augS, w_c, w_bin, w_un, w_chain, w_chainB, w_and, w_or, w_not,  w_of, w_tand, w_tor, w_tnot, w_tyes, w_eif, w_call, w_attr, w_fld, w_bm, w_bmL, w_anil, w_acons, w_astar, w_app0, w_kw, pick_nil, pick_cons, Option.bind_some, w_tup, w_flst, w_fr, w_mk, w_flist, w_frev, w_fcat, w_frep, w_part0, w_part, w_slice, w_fslice, w_revT, w_dict0, w_dict, w_pnil, w_pcons, pOf, keysOf, w_ival, w_range1, w_range2, w_enum, w_zip, w_inew, w_comp, wipeL, o_add, o_sub, o_neg, o_addT, o_addS, o_cmp, o_eq, o_ne, eq_int, eq_bl, eq_str, eq_tup0, eq_lst0, eq_ref0, b_int, b_intB, wR_bind, wR_ok, wS_nx, wS_ret, wS_next, wS_ofE, wS_plain, eVar, seqOf, lstOf, itOf, o_sub2T, o_sub2L, o_sub2F, o_sub2S, o_sub2D, o_sub2R, idxT0, idxT1, idxT2, idxT3, idxL0, idxR, Gx.keyOf, Gx.setItem, mPop, mAppend, mExtend, bLen, bTup, List.getElem?_cons_zero, List.getElem?_cons_succ, List.set_cons_zero, List.set_cons_succ, List.length_cons, List.length_nil, List.nil_append, List.cons_append, Nat.reduceAdd, Int.cast_ofNat_Int, Int.reduceEq, List.isEmpty_nil, List.isEmpty_cons, Int.natCast_zero, Int.natCast_one, PySem.sizeLine_eq, Nat.reduceLT, Nat.reduceLeDiff, Nat.reduceEqDiff, if_true, if_false, Bool.false_eq_true, Bool.true_eq_false, decide_true, decide_false, Bool.not_true, Bool.not_false, eq_self, true_and, and_true, Nat.zero_add, Dk_app, In.app, Dk_len, List.append_assoc, List.length_append, Option.map_some, Option.map_none, dg0, dg1, ds0, ds1, sg0, sg1, ss0, ss1] | ((with_reducible refine And.intro ?_ ?_); (· ((try simp only [PySem.sizeLine_eq, List.length_map, List.length_append, List.length_cons, List.length_nil, List.length_take, List.length_drop]); omega))) | ((with_reducible refine wmul ?_ ?_ ?_); (· omega); (· omega)) | ((with_reducible refine wmod ?_ fun _ _ _ _ => ?_); (· omega)) | ((with_reducible refine wfdiv ?_ ?_ ?_); (· omega); (· omega)) | ((with_reducible refine draw_w (by assumption) ?_ ?_ ?_ ?_ fun _ _ _ _ _ => ?_); (· omega); (· (first | assumption | exact In.app (by assumption))); (· omega); (· omega)) | ((with_reducible refine pickI_w (by with_unfolding_all rfl) (by assumption) ?_ ?_ ?_ ?_ fun _ _ _ _ => ?_); (· omega); (· (first | assumption | exact In.app (by assumption))); (· simp); (· simp)))
    (first | refine wS_if (fun q => ?_) fun q => ?_ | refine wR_if (fun q => ?_) fun q => ?_ | refine prop_if (fun q => ?_) fun q => ?_)
    · simp only [decide_eq_true_eq] at q
      repeat (first | simp -implicitDefEqProofs only [w_seq, wR_gd, wS_gd, w_nil, w_drop, w_ret, w_retN, w_if, w_asg, w_name, w_gnil, w_gcons, w_gtup, w_gsub, w_for, w_aug, w_augS, w_c, w_bin, w_un, w_chain, w_chainB, w_and, w_or, w_not,  w_of, w_tand, w_tor, w_tnot, w_tyes, w_eif, w_call, w_attr, w_fld, w_bm, w_bmL, w_anil, w_acons, w_astar, w_app0, w_kw, pick_nil, pick_cons, Option.bind_some, w_tup, w_flst, w_fr, w_mk, w_flist, w_frev, w_fcat, w_frep, w_part0, w_part, w_slice, w_fslice, w_revT, w_dict0, w_dict, w_pnil, w_pcons, pOf, keysOf, w_ival, w_range1, w_range2, w_enum, w_zip, w_inew, w_comp, wipeL, o_add, o_sub, o_neg, o_addT, o_addS, o_cmp, o_eq, o_ne, eq_int, eq_bl, eq_str, eq_tup0, eq_lst0, eq_ref0, b_int, b_intB, wR_bind, wR_ok, wS_nx, wS_ret, wS_next, wS_ofE, wS_plain, eVar, seqOf, lstOf, itOf, o_sub2T, o_sub2L, o_sub2F, o_sub2S, o_sub2D, o_sub2R, idxT0, idxT1, idxT2, idxT3, idxL0, idxR, Gx.keyOf, Gx.setItem, mPop, mAppend, mExtend, bLen, bTup, List.getElem?_cons_zero, List.getElem?_cons_succ, List.set_cons_zero, List.set_cons_succ, List.length_cons, List.length_nil, List.nil_append, List.cons_append, Nat.reduceAdd, Int.cast_ofNat_Int, Int.reduceEq, List.isEmpty_nil, List.isEmpty_cons, Int.natCast_zero, Int.natCast_one, PySem.sizeLine_eq, Nat.reduceLT, Nat.reduceLeDiff, Nat.reduceEqDiff, if_true, if_false, Bool.false_eq_true, Bool.true_eq_false, decide_true, decide_false, Bool.not_true, Bool.not_false, eq_self, true_and, and_true, Nat.zero_add, Dk_app, In.app, Dk_len, List.append_assoc, List.length_append, Option.map_some, Option.map_none, dg0, dg1, ds0, ds1, sg0, sg1, ss0, ss1] | ((with_reducible refine And.intro ?_ ?_); (· ((try simp only [PySem.sizeLine_eq, List.length_map, List.length_append, List.length_cons, List.length_nil, List.length_take, List.length_drop]); omega))) | ((with_reducible refine wmul ?_ ?_ ?_); (· omega); (· omega)) | ((with_reducible refine wmod ?_ fun _ _ _ _ => ?_); (· omega)) | ((with_reducible refine wfdiv ?_ ?_ ?_); (· omega); (· omega)) | ((with_reducible refine draw_w (by assumption) ?_ ?_ ?_ ?_ fun _ _ _ _ _ => ?_); (· omega); (· (first | assumption | exact In.app (by assumption))); (· omega); (· omega)) | ((with_reducible refine pickI_w (by with_unfolding_all rfl) (by assumption) ?_ ?_ ?_ ?_ fun _ _ _ _ => ?_); (· omega); (· (first | assumption | exact In.app (by assumption))); (· simp); (· simp)))
      exact hold ⟨by simp [farV, q], rfl⟩
    · simp only [decide_eq_false_iff_not] at q
      repeat (first | simp -implicitDefEqProofs only [w_seq, wR_gd, wS_gd, w_nil, w_drop, w_ret, w_retN, w_if, w_asg, w_name, w_gnil, w_gcons, w_gtup, w_gsub, w_for, w_aug, w_augS, w_c, w_bin, w_un, w_chain, w_chainB, w_and, w_or, w_not,  w_of, w_tand, w_tor, w_tnot, w_tyes, w_eif, w_call, w_attr, w_fld, w_bm, w_bmL, w_anil, w_acons, w_astar, w_app0, w_kw, pick_nil, pick_cons, Option.bind_some, w_tup, w_flst, w_fr, w_mk, w_flist, w_frev, w_fcat, w_frep, w_part0, w_part, w_slice, w_fslice, w_revT, w_dict0, w_dict, w_pnil, w_pcons, pOf, keysOf, w_ival, w_range1, w_range2, w_enum, w_zip, w_inew, w_comp, wipeL, o_add, o_sub, o_neg, o_addT, o_addS, o_cmp, o_eq, o_ne, eq_int, eq_bl, eq_str, eq_tup0, eq_lst0, eq_ref0, b_int, b_intB, wR_bind, wR_ok, wS_nx, wS_ret, wS_next, wS_ofE, wS_plain, eVar, seqOf, lstOf, itOf, o_sub2T, o_sub2L, o_sub2F, o_sub2S, o_sub2D, o_sub2R, idxT0, idxT1, idxT2, idxT3, idxL0, idxR, Gx.keyOf, Gx.setItem, mPop, mAppend, mExtend, bLen, bTup, List.getElem?_cons_zero, List.getElem?_cons_succ, List.set_cons_zero, List.set_cons_succ, List.length_cons, List.length_nil, List.nil_append, List.cons_append, Nat.reduceAdd, Int.cast_ofNat_Int, Int.reduceEq, List.isEmpty_nil, List.isEmpty_cons, Int.natCast_zero, Int.natCast_one, PySem.sizeLine_eq, Nat.reduceLT, Nat.reduceLeDiff, Nat.reduceEqDiff, if_true, if_false, Bool.false_eq_true, Bool.true_eq_false, decide_true, decide_false, Bool.not_true, Bool.not_false, eq_self, true_and, and_true, Nat.zero_add, Dk_app, In.app, Dk_len, List.append_assoc, List.length_append, Option.map_some, Option.map_none, dg0, dg1, ds0, ds1, sg0, sg1, ss0, ss1] | ((with_reducible refine And.intro ?_ ?_); (· ((try simp only [PySem.sizeLine_eq, List.length_map, List.length_append, List.length_cons, List.length_nil, List.length_take, List.length_drop]); omega))) | ((with_reducible refine wmul ?_ ?_ ?_); (· omega); (· omega)) | ((with_reducible refine wmod ?_ fun _ _ _ _ => ?_); (· omega)) | ((with_reducible refine wfdiv ?_ ?_ ?_); (· omega); (· omega)) | ((with_reducible refine draw_w (by assumption) ?_ ?_ ?_ ?_ fun _ _ _ _ _ => ?_); (· omega); (· (first | assumption | exact In.app (by assumption))); (· omega); (· omega)) | ((with_reducible refine pickI_w (by with_unfolding_all rfl) (by assumption) ?_ ?_ ?_ ?_ fun _ _ _ _ => ?_); (· omega); (· (first | assumption | exact In.app (by assumption))); (· simp); (· simp)))
      exact hold ⟨by simp [farV, q], rfl⟩
  have e : List.map (farV fs.length) (gs.map Val.int) = (farN fs.length gs).map .int := by simp [farN, farV, Function.comp_def]
  rw [e]
  repeat (first | simp -implicitDefEqProofs only [w_seq, wR_gd, wS_gd, w_nil, w_drop, w_ret, w_retN, w_if, w_asg, w_name, w_gnil, w_gcons, w_gtup, w_gsub, w_for, w_aug, w_augS, w_c, w_bin, w_un, w_chain, w_chainB, w_and, w_or, w_not,  w_of, w_tand, w_tor, w_tnot, w_tyes, w_eif, w_call, w_attr, w_fld, w_bm, w_bmL, w_anil, w_acons, w_astar, w_app0, w_kw, pick_nil, pick_cons, Option.bind_some, w_tup, w_flst, w_fr, w_mk, w_flist, w_frev, w_fcat, w_frep, w_part0, w_part, w_slice, w_fslice, w_revT, w_dict0, w_dict, w_pnil, w_pcons, pOf, keysOf, w_ival, w_range1, w_range2, w_enum, w_zip, w_inew, w_comp, wipeL, o_add, o_sub, o_neg, o_addT, o_addS, o_cmp, o_eq, o_ne, eq_int, eq_bl, eq_str, eq_tup0, eq_lst0, eq_ref0, b_int, b_intB, wR_bind, wR_ok, wS_nx, wS_ret, wS_next, wS_ofE, wS_plain, eVar, seqOf, lstOf, itOf, o_sub2T, o_sub2L, o_sub2F, o_sub2S, o_sub2D, o_sub2R, idxT0, idxT1, idxT2, idxT3, idxL0, idxR, Gx.keyOf, Gx.setItem, mPop, mAppend, mExtend, bLen, bTup, List.getElem?_cons_zero, List.getElem?_cons_succ, List.set_cons_zero, List.set_cons_succ, List.length_cons, List.length_nil, List.nil_append, List.cons_append, Nat.reduceAdd, Int.cast_ofNat_Int, Int.reduceEq, List.isEmpty_nil, List.isEmpty_cons, Int.natCast_zero, Int.natCast_one, PySem.sizeLine_eq, Nat.reduceLT, Nat.reduceLeDiff, Nat.reduceEqDiff, if_true, if_false, Bool.false_eq_true, Bool.true_eq_false, decide_true, decide_false, Bool.not_true, Bool.not_false, eq_self, true_and, and_true, Nat.zero_add, Dk_app, In.app, Dk_len, List.append_assoc, List.length_append, Option.map_some, Option.map_none, dg0, dg1, ds0, ds1, sg0, sg1, ss0, ss1, obj_book, lk_ups, lk_buys, List.mem_singleton, map_app, w_make, mk_book ok] | ((with_reducible refine And.intro ?_ ?_); (· ((try simp only [PySem.sizeLine_eq, List.length_map, List.length_append, List.length_cons, List.length_nil, List.length_take, List.length_drop]); omega))) | ((with_reducible refine wmul ?_ ?_ ?_); (· omega); (· omega)) | ((with_reducible refine wmod ?_ fun _ _ _ _ => ?_); (· omega)) | ((with_reducible refine wfdiv ?_ ?_ ?_); (· omega); (· omega)) | ((with_reducible refine draw_w (by assumption) ?_ ?_ ?_ ?_ fun _ _ _ _ _ => ?_); (· omega); (· (first | assumption | exact In.app (by assumption))); (· omega); (· omega)) | ((with_reducible refine pickI_w (by with_unfolding_all rfl) (by assumption) ?_ ?_ ?_ ?_ fun _ _ _ _ => ?_); (· omega); (· (first | assumption | exact In.app (by assumption))); (· simp); (· simp)))
  exact wR_gc0 tree_book (hold ⟨rfl, rfl⟩)
theorem beside_eq {S : Store} {fs bs gs cs : List Int} (h1 : fs.length ≤ 400) (h2 : gs.length ≤ 400) (hb : bs.length ≤ 400) (hc : cs.length ≤ 400) (hg : ∀ x ∈ gs, -1 ≤ x) :
    f_w_beside cB [enW fs bs, enW gs cs] S = .ok (enW (fs ++ farN fs.length gs) (bs ++ cs)) S := by
  have hf : (farN fs.length gs).length ≤ 400 := by simp [farN]; omega
  refine ok_of_w ?_
  unfold f_w_beside
  refine wR_fn rfl ?_
  show wS _ _ _ (b_w_beside cB [some (enW fs bs), some (enW gs cs), none, none] _)
  unfold b_w_beside
  repeat (first | simp -implicitDefEqProofs only [w_seq, wR_gd, wS_gd, w_nil, w_drop, w_ret, w_retN, w_if, w_asg, w_name, w_gnil, w_gcons, w_gtup, w_gsub, w_for, w_aug, w_augS, w_c, w_bin, w_un, w_chain, w_chainB, w_and, w_or, w_not,  w_of, w_tand, w_tor, w_tnot, w_tyes, w_eif, w_call, w_attr, w_fld, w_bm, w_bmL, w_anil, w_acons, w_astar, w_app0, w_kw, pick_nil, pick_cons, Option.bind_some, w_tup, w_flst, w_fr, w_mk, w_flist, w_frev, w_fcat, w_frep, w_part0, w_part, w_slice, w_fslice, w_revT, w_dict0, w_dict, w_pnil, w_pcons, pOf, keysOf, w_ival, w_range1, w_range2, w_enum, w_zip, w_inew, w_comp, wipeL, o_add, o_sub, o_neg, o_addT, o_addS, o_cmp, o_eq, o_ne, eq_int, eq_bl, eq_str, eq_tup0, eq_lst0, eq_ref0, b_int, b_intB, wR_bind, wR_ok, wS_nx, wS_ret, wS_next, wS_ofE, wS_plain, eVar, seqOf, lstOf, itOf, o_sub2T, o_sub2L, o_sub2F, o_sub2S, o_sub2D, o_sub2R, idxT0, idxT1, idxT2, idxT3, idxL0, idxR, Gx.keyOf, Gx.setItem, mPop, mAppend, mExtend, bLen, bTup, List.getElem?_cons_zero, List.getElem?_cons_succ, List.set_cons_zero, List.set_cons_succ, List.length_cons, List.length_nil, List.nil_append, List.cons_append, Nat.reduceAdd, Int.cast_ofNat_Int, Int.reduceEq, List.isEmpty_nil, List.isEmpty_cons, Int.natCast_zero, Int.natCast_one, PySem.sizeLine_eq, Nat.reduceLT, Nat.reduceLeDiff, Nat.reduceEqDiff, if_true, if_false, Bool.false_eq_true, Bool.true_eq_false, decide_true, decide_false, Bool.not_true, Bool.not_false, eq_self, true_and, and_true, Nat.zero_add, Dk_app, In.app, Dk_len, List.append_assoc, List.length_append, Option.map_some, Option.map_none, dg0, dg1, ds0, ds1, sg0, sg1, ss0, ss1, sub_f, sub_s] | ((with_reducible refine And.intro ?_ ?_); (· ((try simp only [PySem.sizeLine_eq, List.length_map, List.length_append, List.length_cons, List.length_nil, List.length_take, List.length_drop]); omega))) | ((with_reducible refine wmul ?_ ?_ ?_); (· omega); (· omega)) | ((with_reducible refine wmod ?_ fun _ _ _ _ => ?_); (· omega)) | ((with_reducible refine wfdiv ?_ ?_ ?_); (· omega); (· omega)) | ((with_reducible refine draw_w (by assumption) ?_ ?_ ?_ ?_ fun _ _ _ _ _ => ?_); (· omega); (· (first | assumption | exact In.app (by assumption))); (· omega); (· omega)) | ((with_reducible refine pickI_w (by with_unfolding_all rfl) (by assumption) ?_ ?_ ?_ ?_ fun _ _ _ _ => ?_); (· omega); (· (first | assumption | exact In.app (by assumption))); (· simp); (· simp)))
  refine wR_comp_map (fun x => [some (enW fs bs), some (enW gs cs), none, some x]) (farV fs.length) rfl (fun x _ => rfl) (fun x hx => ?_) ?_
  · obtain ⟨z, hz, rfl⟩ := List.mem_map.mp hx
    have hz := hg z hz
    refine ok_of_w ?_
    repeat (first | simp -implicitDefEqProofs only [w_seq, wR_gd, wS_gd, w_nil, w_drop, w_ret, w_retN, w_if, w_asg, w_name, w_gnil, w_gcons, w_gtup, w_gsub, w_for, w_aug, w_augS, w_c, w_bin, w_un, w_chain, w_chainB, w_and, w_or, w_not,  w_of, w_tand, w_tor, w_tnot, w_tyes, w_eif, w_call, w_attr, w_fld, w_bm, w_bmL, w_anil, w_acons, w_astar, w_app0, w_kw, pick_nil, pick_cons, Option.bind_some, w_tup, w_flst, w_fr, w_mk, w_flist, w_frev, w_fcat, w_frep, w_part0, w_part, w_slice, w_fslice, w_revT, w_dict0, w_dict, w_pnil, w_pcons, pOf, keysOf, w_ival, w_range1, w_range2, w_enum, w_zip, w_inew, w_comp, wipeL, o_add, o_sub, o_neg, o_addT, o_addS, o_cmp, o_eq, o_ne, eq_int, eq_bl, eq_str, eq_tup0, eq_lst0, eq_ref0, b_int, b_intB, wR_bind, wR_ok, wS_nx, wS_ret, wS_next, wS_ofE, wS_plain, eVar, seqOf, lstOf, itOf, o_sub2T, o_sub2L, o_sub2F, o_sub2S, o_sub2D, o_sub2R, idxT0, idxT1, idxT2, idxT3, idxL0, idxR, Gx.keyOf, Gx.setItem, mPop, mAppend, mExtend, bLen, bTup, List.getElem?_cons_zero, List.getElem?_cons_succ, List.set_cons_zero, List.set_cons_succ, List.length_cons, List.length_nil, List.nil_append, List.cons_append, Nat.reduceAdd, Int.cast_ofNat_Int, Int.reduceEq, List.isEmpty_nil, List.isEmpty_cons, Int.natCast_zero, Int.natCast_one, PySem.sizeLine_eq, Nat.reduceLT, Nat.reduceLeDiff, Nat.reduceEqDiff, if_true, if_false, Bool.false_eq_true, Bool.true_eq_false, decide_true, decide_false, Bool.not_true, Bool.not_false, eq_self, true_and, and_true, Nat.zero_add, Dk_app, In.app, Dk_len, List.append_assoc, List.length_append, Option.map_some, Option.map_none, dg0, dg1, ds0, ds1, sg0, sg1, ss0, ss1, sub_f, List.length_map] | ((with_reducible refine And.intro ?_ ?_); (· ((try simp only [PySem.sizeLine_eq, List.length_map, List.length_append, List.length_cons, List.length_nil, List.length_take, List.length_drop]); omega))) | ((with_reducible refine wmul ?_ ?_ ?_); (· omega); (· omega)) | ((with_reducible refine wmod ?_ fun _ _ _ _ => ?_); (· omega)) | ((with_reducible refine wfdiv ?_ ?_ ?_); (· omega); (· omega)) | ((with_reducible refine draw_w (by assumption) ?_ ?_ ?_ ?_ fun _ _ _ _ _ => ?_); (· omega); (· (first | assumption | exact In.app (by assumption))); (· omega); (· omega)) | ((with_reducible refine pickI_w (by with_unfolding_all rfl) (by assumption) ?_ ?_ ?_ ?_ fun _ _ _ _ => ?_); (· omega); (· (first | assumption | exact In.app (by assumption))); (· simp); (· simp)))
    (first | refine wS_if (fun q => ?_) fun q => ?_ | refine wR_if (fun q => ?_) fun q => ?_ | refine prop_if (fun q => ?_) fun q => ?_)
    · simp only [decide_eq_true_eq] at q
      repeat (first | simp -implicitDefEqProofs only [w_seq, wR_gd, wS_gd, w_nil, w_drop, w_ret, w_retN, w_if, w_asg, w_name, w_gnil, w_gcons, w_gtup, w_gsub, w_for, w_aug, w_augS, w_c, w_bin, w_un, w_chain, w_chainB, w_and, w_or, w_not,  w_of, w_tand, w_tor, w_tnot, w_tyes, w_eif, w_call, w_attr, w_fld, w_bm, w_bmL, w_anil, w_acons, w_astar, w_app0, w_kw, pick_nil, pick_cons, Option.bind_some, w_tup, w_flst, w_fr, w_mk, w_flist, w_frev, w_fcat, w_frep, w_part0, w_part, w_slice, w_fslice, w_revT, w_dict0, w_dict, w_pnil, w_pcons, pOf, keysOf, w_ival, w_range1, w_range2, w_enum, w_zip, w_inew, w_comp, wipeL, o_add, o_sub, o_neg, o_addT, o_addS, o_cmp, o_eq, o_ne, eq_int, eq_bl, eq_str, eq_tup0, eq_lst0, eq_ref0, b_int, b_intB, wR_bind, wR_ok, wS_nx, wS_ret, wS_next, wS_ofE, wS_plain, eVar, seqOf, lstOf, itOf, o_sub2T, o_sub2L, o_sub2F, o_sub2S, o_sub2D, o_sub2R, idxT0, idxT1, idxT2, idxT3, idxL0, idxR, Gx.keyOf, Gx.setItem, mPop, mAppend, mExtend, bLen, bTup, List.getElem?_cons_zero, List.getElem?_cons_succ, List.set_cons_zero, List.set_cons_succ, List.length_cons, List.length_nil, List.nil_append, List.cons_append, Nat.reduceAdd, Int.cast_ofNat_Int, Int.reduceEq, List.isEmpty_nil, List.isEmpty_cons, Int.natCast_zero, Int.natCast_one, PySem.sizeLine_eq, Nat.reduceLT, Nat.reduceLeDiff, Nat.reduceEqDiff, if_true, if_false, Bool.false_eq_true, Bool.true_eq_false, decide_true, decide_false, Bool.not_true, Bool.not_false, eq_self, true_and, and_true, Nat.zero_add, Dk_app, In.app, Dk_len, List.append_assoc, List.length_append, Option.map_some, Option.map_none, dg0, dg1, ds0, ds1, sg0, sg1, ss0, ss1, sub_f, List.length_map] | ((with_reducible refine And.intro ?_ ?_); (· ((try simp only [PySem.sizeLine_eq, List.length_map, List.length_append, List.length_cons, List.length_nil, List.length_take, List.length_drop]); omega))) | ((with_reducible refine wmul ?_ ?_ ?_); (· omega); (· omega)) | ((with_reducible refine wmod ?_ fun _ _ _ _ => ?_); (· omega)) | ((with_reducible refine wfdiv ?_ ?_ ?_); (· omega); (· omega)) | ((with_reducible refine draw_w (by assumption) ?_ ?_ ?_ ?_ fun _ _ _ _ _ => ?_); (· omega); (· (first | assumption | exact In.app (by assumption))); (· omega); (· omega)) | ((with_reducible refine pickI_w (by with_unfolding_all rfl) (by assumption) ?_ ?_ ?_ ?_ fun _ _ _ _ => ?_); (· omega); (· (first | assumption | exact In.app (by assumption))); (· simp); (· simp)))
      exact hold ⟨by simp only [farV]; rw [if_neg (by omega)], rfl⟩
    · simp only [decide_eq_false_iff_not] at q
      repeat (first | simp -implicitDefEqProofs only [w_seq, wR_gd, wS_gd, w_nil, w_drop, w_ret, w_retN, w_if, w_asg, w_name, w_gnil, w_gcons, w_gtup, w_gsub, w_for, w_aug, w_augS, w_c, w_bin, w_un, w_chain, w_chainB, w_and, w_or, w_not,  w_of, w_tand, w_tor, w_tnot, w_tyes, w_eif, w_call, w_attr, w_fld, w_bm, w_bmL, w_anil, w_acons, w_astar, w_app0, w_kw, pick_nil, pick_cons, Option.bind_some, w_tup, w_flst, w_fr, w_mk, w_flist, w_frev, w_fcat, w_frep, w_part0, w_part, w_slice, w_fslice, w_revT, w_dict0, w_dict, w_pnil, w_pcons, pOf, keysOf, w_ival, w_range1, w_range2, w_enum, w_zip, w_inew, w_comp, wipeL, o_add, o_sub, o_neg, o_addT, o_addS, o_cmp, o_eq, o_ne, eq_int, eq_bl, eq_str, eq_tup0, eq_lst0, eq_ref0, b_int, b_intB, wR_bind, wR_ok, wS_nx, wS_ret, wS_next, wS_ofE, wS_plain, eVar, seqOf, lstOf, itOf, o_sub2T, o_sub2L, o_sub2F, o_sub2S, o_sub2D, o_sub2R, idxT0, idxT1, idxT2, idxT3, idxL0, idxR, Gx.keyOf, Gx.setItem, mPop, mAppend, mExtend, bLen, bTup, List.getElem?_cons_zero, List.getElem?_cons_succ, List.set_cons_zero, List.set_cons_succ, List.length_cons, List.length_nil, List.nil_append, List.cons_append, Nat.reduceAdd, Int.cast_ofNat_Int, Int.reduceEq, List.isEmpty_nil, List.isEmpty_cons, Int.natCast_zero, Int.natCast_one, PySem.sizeLine_eq, Nat.reduceLT, Nat.reduceLeDiff, Nat.reduceEqDiff, if_true, if_false, Bool.false_eq_true, Bool.true_eq_false, decide_true, decide_false, Bool.not_true, Bool.not_false, eq_self, true_and, and_true, Nat.zero_add, Dk_app, In.app, Dk_len, List.append_assoc, List.length_append, Option.map_some, Option.map_none, dg0, dg1, ds0, ds1, sg0, sg1, ss0, ss1] | ((with_reducible refine And.intro ?_ ?_); (· ((try simp only [PySem.sizeLine_eq, List.length_map, List.length_append, List.length_cons, List.length_nil, List.length_take, List.length_drop]); omega))) | ((with_reducible refine wmul ?_ ?_ ?_); (· omega); (· omega)) | ((with_reducible refine wmod ?_ fun _ _ _ _ => ?_); (· omega)) | ((with_reducible refine wfdiv ?_ ?_ ?_); (· omega); (· omega)) | ((with_reducible refine draw_w (by assumption) ?_ ?_ ?_ ?_ fun _ _ _ _ _ => ?_); (· omega); (· (first | assumption | exact In.app (by assumption))); (· omega); (· omega)) | ((with_reducible refine pickI_w (by with_unfolding_all rfl) (by assumption) ?_ ?_ ?_ ?_ fun _ _ _ _ => ?_); (· omega); (· (first | assumption | exact In.app (by assumption))); (· simp); (· simp)))
      exact hold ⟨by simp only [farV]; rw [if_pos (by omega)]; congr 1; omega, rfl⟩
  have e : List.map (farV fs.length) (gs.map Val.int) = (farN fs.length gs).map .int := by simp [farN, farV, Function.comp_def]
  rw [e]
  repeat (first | simp -implicitDefEqProofs only [w_seq, wR_gd, wS_gd, w_nil, w_drop, w_ret, w_retN, w_if, w_asg, w_name, w_gnil, w_gcons, w_gtup, w_gsub, w_for, w_aug, w_augS, w_c, w_bin, w_un, w_chain, w_chainB, w_and, w_or, w_not,  w_of, w_tand, w_tor, w_tnot, w_tyes, w_eif, w_call, w_attr, w_fld, w_bm, w_bmL, w_anil, w_acons, w_astar, w_app0, w_kw, pick_nil, pick_cons, Option.bind_some, w_tup, w_flst, w_fr, w_mk, w_flist, w_frev, w_fcat, w_frep, w_part0, w_part, w_slice, w_fslice, w_revT, w_dict0, w_dict, w_pnil, w_pcons, pOf, keysOf, w_ival, w_range1, w_range2, w_enum, w_zip, w_inew, w_comp, wipeL, o_add, o_sub, o_neg, o_addT, o_addS, o_cmp, o_eq, o_ne, eq_int, eq_bl, eq_str, eq_tup0, eq_lst0, eq_ref0, b_int, b_intB, wR_bind, wR_ok, wS_nx, wS_ret, wS_next, wS_ofE, wS_plain, eVar, seqOf, lstOf, itOf, o_sub2T, o_sub2L, o_sub2F, o_sub2S, o_sub2D, o_sub2R, idxT0, idxT1, idxT2, idxT3, idxL0, idxR, Gx.keyOf, Gx.setItem, mPop, mAppend, mExtend, bLen, bTup, List.getElem?_cons_zero, List.getElem?_cons_succ, List.set_cons_zero, List.set_cons_succ, List.length_cons, List.length_nil, List.nil_append, List.cons_append, Nat.reduceAdd, Int.cast_ofNat_Int, Int.reduceEq, List.isEmpty_nil, List.isEmpty_cons, Int.natCast_zero, Int.natCast_one, PySem.sizeLine_eq, Nat.reduceLT, Nat.reduceLeDiff, Nat.reduceEqDiff, if_true, if_false, Bool.false_eq_true, Bool.true_eq_false, decide_true, decide_false, Bool.not_true, Bool.not_false, eq_self, true_and, and_true, Nat.zero_add, Dk_app, In.app, Dk_len, List.append_assoc, List.length_append, Option.map_some, Option.map_none, dg0, dg1, ds0, ds1, sg0, sg1, ss0, ss1, sub_f, sub_s, map_app, lstOf, mg2] | ((with_reducible refine And.intro ?_ ?_); (· ((try simp only [PySem.sizeLine_eq, List.length_map, List.length_append, List.length_cons, List.length_nil, List.length_take, List.length_drop]); omega))) | ((with_reducible refine wmul ?_ ?_ ?_); (· omega); (· omega)) | ((with_reducible refine wmod ?_ fun _ _ _ _ => ?_); (· omega)) | ((with_reducible refine wfdiv ?_ ?_ ?_); (· omega); (· omega)) | ((with_reducible refine draw_w (by assumption) ?_ ?_ ?_ ?_ fun _ _ _ _ _ => ?_); (· omega); (· (first | assumption | exact In.app (by assumption))); (· omega); (· omega)) | ((with_reducible refine pickI_w (by with_unfolding_all rfl) (by assumption) ?_ ?_ ?_ ?_ fun _ _ _ _ => ?_); (· omega); (· (first | assumption | exact In.app (by assumption))); (· simp); (· simp)))
  rw [← enW_def]
  exact wR_gc0 tree_W (hold ⟨rfl, rfl⟩)
end K10
end
section
set_option maxHeartbeats 1000000
set_option maxRecDepth 100000
set_option linter.all false
set_option autoImplicit false
namespace K10
open Gx
variable {cB : PySem.Addr}
def FrOk (fs : List Int) : Prop := ∀ (i : Nat) (x : Int), fs[i]? = some x → -1 ≤ x ∧ x < i
theorem fr_at {fs : List Int} (h : FrOk fs) {i : Nat} (hi : i < fs.length) : -1 ≤ fs.getD i 0 ∧ fs.getD i 0 < i := h i _ (by simp [List.getD, hi])
theorem fr_app {fs : List Int} (h : FrOk fs) {u : Int} (hu : -1 ≤ u ∧ u < fs.length) : FrOk (fs ++ [u]) := fun j x hj => by
  rcases Nat.lt_or_ge j fs.length with q | q
  · rw [List.getElem?_append_left q] at hj; exact h j x hj
  · rw [List.getElem?_append_right q] at hj
    rcases Nat.eq_zero_or_pos (j - fs.length) with e | e
    · rw [e] at hj; simp at hj; omega
    · rw [List.getElem?_eq_none (by simp; omega)] at hj; cases hj
theorem fr_far {fs gs : List Int} (h : FrOk fs) (g : FrOk gs) : FrOk (fs ++ farN fs.length gs) := fun j x hj => by
  rcases Nat.lt_or_ge j fs.length with q | q
  · rw [List.getElem?_append_left q] at hj; exact h j x hj
  · rw [List.getElem?_append_right q] at hj
    simp only [farN, List.getElem?_map, Option.map_eq_some_iff] at hj
    obtain ⟨y, hy, rfl⟩ := hj
    have := g _ _ hy
    split <;> omega
theorem fr_out {fs : List Int} {k : Nat} (h : FrOk fs) (hk : k < fs.length) : ∀ m : Nat, m ≤ fs.length → FrOk (outN fs k m)
  | 0, _, i, x, hj => by simp [outN] at hj
  | m + 1, hm, i, x, hj => by
    have hl := outN_len (fs := fs) (k := k) m
    have a1 := fr_at h (i := m) (by omega)
    have a2 := fr_at h hk
    unfold outN at hj
    by_cases g : m = k
    · rw [if_pos g, List.append_nil] at hj
      exact fr_out h hk m (by omega) i x hj
    · rw [if_neg g] at hj
      rcases Nat.lt_or_ge i (outN fs k m).length with q | q
      · rw [List.getElem?_append_left q] at hj; exact fr_out h hk m (by omega) i x hj
      · rw [List.getElem?_append_right q] at hj
        rcases Nat.eq_zero_or_pos (i - (outN fs k m).length) with e | e
        · rw [e] at hj
          simp at hj
          subst hj
          by_cases g2 : k < m
          · rw [if_pos g2] at hl
            simp only [goN]
            split <;> split <;> omega
          · rw [if_neg g2] at hl
            simp only [goN]
            split <;> split <;> omega
        · rw [List.getElem?_eq_none (by simp; omega)] at hj; cases hj
theorem out_back {fs : List Int} {u : Int} (h : FrOk fs) : ∀ m : Nat, m ≤ fs.length → outN (fs ++ [u]) fs.length m = fs.take m
  | 0, _ => by simp [outN]
  | m + 1, hm => by
    have a1 := fr_at h (i := m) (by omega)
    have e : (fs ++ [u]).getD m 0 = fs.getD m 0 := by
      simp only [List.getD]
      rw [List.getElem?_append_left (by omega)]
    unfold outN
    rw [out_back h m (by omega), if_neg (by omega), List.take_succ]
    have hx : fs[m]? = some (fs.getD m 0) := by
      have : m < fs.length := by omega
      simp [List.getD, this]
    rw [hx]
    simp only [goN, e, Option.toList_some]
    rw [if_neg (by omega), if_neg (by omega), Int.sub_zero]
theorem out_undo {fs : List Int} {u : Int} (h : FrOk fs) : outN (fs ++ [u]) fs.length (fs ++ [u]).length = fs := by
  rw [List.length_append, List.length_singleton]
  unfold outN
  rw [out_back h _ (Nat.le_refl _), if_pos rfl, List.append_nil, List.take_length]
theorem del_undo {bs : List Int} {b : Int} {n : Nat} (h : bs.length = n) : delN (bs ++ [b]) n = bs := by
  unfold delN
  rw [List.take_left' h, List.drop_eq_nil_of_le (by simp [h]), List.append_nil]
end K10
end
section
set_option maxHeartbeats 1000000
set_option maxRecDepth 100000
set_option linter.all false
set_option autoImplicit false
namespace K10
open Gx
variable {cB : PySem.Addr}
/-- a world of at most n members -/
structure Wk (n : Nat) (fs bs : List Int) : Prop where
  fr : FrOk fs
  len : fs.length ≤ n
  lb : bs.length = fs.length
  sp : ∀ b ∈ bs, 1 ≤ b ∧ b ≤ 1000
theorem Wk.bk {n : Nat} {fs bs : List Int} (h : Wk n fs bs) (hn : n ≤ 1000) : Bk fs bs := ⟨⟨Nat.le_trans h.len hn, h.fr⟩, h.lb, fun b hb => (h.sp b hb).1⟩
theorem Wk.app {n : Nat} {fs bs : List Int} {u b : Int} (h : Wk n fs bs) (hu : -1 ≤ u ∧ u < fs.length) (hb : 1 ≤ b ∧ b ≤ 1000) : Wk (n + 1) (fs ++ [u]) (bs ++ [b]) :=
  ⟨fr_app h.fr hu, by simp; exact h.len, by simp [h.lb], fun x hx => (List.mem_append.mp hx).elim (h.sp x) fun q => by rw [List.mem_singleton.mp q]; exact hb⟩
theorem Wk.set {n j : Nat} {fs bs : List Int} {b : Int} (h : Wk n fs bs) (hb : 1 ≤ b ∧ b ≤ 1000) : Wk n fs (bs.set j b) :=
  ⟨h.fr, h.len, by rw [List.length_set]; exact h.lb, fun x hx => (List.mem_or_eq_of_mem_set hx).elim (h.sp x) fun q => by rw [q]; exact hb⟩
theorem Wk.out {n j : Nat} {fs bs : List Int} (h : Wk n fs bs) (hj : j < fs.length) : Wk n (outN fs j fs.length) (delN bs j) := by
  have l1 := outN_len (fs := fs) (k := j) fs.length
  rw [if_pos hj] at l1
  have l2 := h.lb
  refine ⟨fr_out h.fr hj _ (Nat.le_refl _), by have := h.len; omega, by simp [delN]; omega, fun x hx => ?_⟩
  rcases List.mem_append.mp hx with q | q
  · exact h.sp x (List.mem_of_mem_take q)
  · exact h.sp x (List.mem_of_mem_drop q)
theorem Wk.both {n m : Nat} {fs bs gs cs : List Int} (h : Wk n fs bs) (g : Wk m gs cs) : Wk (n + m) (fs ++ farN fs.length gs) (bs ++ cs) :=
  ⟨fr_far h.fr g.fr, by have := h.len; have := g.len; simp [farN]; omega, by simp [farN, h.lb, g.lb], fun x hx => (List.mem_append.mp hx).elim (h.sp x) (g.sp x)⟩
theorem wk_of {n : Nat} {fs bs : List Int} (h : Wd fs bs) (hl : fs.length ≤ n) : Wk n fs bs := ⟨h.fr, hl, h.len, h.sp⟩
end K10
end
section
set_option maxHeartbeats 4000000
set_option maxRecDepth 100000
set_option linter.all false
set_option autoImplicit false
namespace K10
open Gx
variable {cB : PySem.Addr}
theorem lk_wm {fs bs : List Int} : List.lookup (PySem.Str.ofString "with_member") (flds fs bs) = none := lk_no (by decide +kernel) (by decide +kernel) (by decide +kernel) (by decide +kernel)
theorem lk_wb {fs bs : List Int} : List.lookup (PySem.Str.ofString "with_buy") (flds fs bs) = none := lk_no (by decide +kernel) (by decide +kernel) (by decide +kernel) (by decide +kernel)
theorem lk_wo {fs bs : List Int} : List.lookup (PySem.Str.ofString "without") (flds fs bs) = none := lk_no (by decide +kernel) (by decide +kernel) (by decide +kernel) (by decide +kernel)
theorem lk_wbk {fs bs : List Int} : List.lookup (PySem.Str.ofString "with_book") (flds fs bs) = none := lk_no (by decide +kernel) (by decide +kernel) (by decide +kernel) (by decide +kernel)
theorem step_w {d c k n : Nat} {fs bs : List Int} {Y : Dx} {S : Store} {Q : Val → Store → Prop} {X : Exc → Store → Prop} (hY : Y.Ok k) (hk : 100 ≤ k) (hI : In d c S) (w : Wk n fs bs) (hn : n ≤ 100)
    (h : ∀ fs' bs' Y', Wk (n + 1) fs' bs' → Dx.Ok (k - 100) Y' → Q (.tup [.bl true, enW fs' bs']) (Dk d c Y' S)) : wR Q X (f_w_step_right cB [.ref d, enW fs bs] (Dk d c Y S)) := by
  have hl := w.len
  have hb := w.lb
  have ce : ∀ S : Store, f_w_code cB [enW fs bs] S = .ok (bookV cB fs bs) S := fun S => code_eq (w.bk (by omega))
  unfold f_w_step_right
  refine wR_fn rfl ?_
  show wS _ _ _ (b_w_step_right cB [some (.ref d), some (enW fs bs), none, none, none, none, none, none, none, none, none, none] _)
  unfold b_w_step_right
  repeat (first | simp -implicitDefEqProofs only [w_seq, wR_gd, wS_gd, w_nil, w_drop, w_ret, w_retN, w_if, w_asg, w_name, w_gnil, w_gcons, w_gtup, w_gsub, w_for, w_aug, w_augS, w_c, w_bin, w_un, w_chain, w_chainB, w_and, w_or, w_not,  w_of, w_tand, w_tor, w_tnot, w_tyes, w_eif, w_call, w_attr, w_fld, w_bm, w_bmL, w_anil, w_acons, w_astar, w_app0, w_kw, pick_nil, pick_cons, Option.bind_some, w_tup, w_flst, w_fr, w_mk, w_flist, w_frev, w_fcat, w_frep, w_part0, w_part, w_slice, w_fslice, w_revT, w_dict0, w_dict, w_pnil, w_pcons, pOf, keysOf, w_ival, w_range1, w_range2, w_enum, w_zip, w_inew, w_comp, wipeL, o_add, o_sub, o_neg, o_addT, o_addS, o_cmp, o_eq, o_ne, eq_int, eq_bl, eq_str, eq_tup0, eq_lst0, eq_ref0, b_int, b_intB, wR_bind, wR_ok, wS_nx, wS_ret, wS_next, wS_ofE, wS_plain, eVar, seqOf, lstOf, itOf, o_sub2T, o_sub2L, o_sub2F, o_sub2S, o_sub2D, o_sub2R, idxT0, idxT1, idxT2, idxT3, idxL0, idxR, Gx.keyOf, Gx.setItem, mPop, mAppend, mExtend, bLen, bTup, List.getElem?_cons_zero, List.getElem?_cons_succ, List.set_cons_zero, List.set_cons_succ, List.length_cons, List.length_nil, List.nil_append, List.cons_append, Nat.reduceAdd, Int.cast_ofNat_Int, Int.reduceEq, List.isEmpty_nil, List.isEmpty_cons, Int.natCast_zero, Int.natCast_one, PySem.sizeLine_eq, Nat.reduceLT, Nat.reduceLeDiff, Nat.reduceEqDiff, if_true, if_false, Bool.false_eq_true, Bool.true_eq_false, decide_true, decide_false, Bool.not_true, Bool.not_false, eq_self, true_and, and_true, Nat.zero_add, Dk_app, In.app, Dk_len, List.append_assoc, List.length_append, Option.map_some, Option.map_none, dg0, dg1, ds0, ds1, sg0, sg1, ss0, ss1, hI, ce, sub_f, sub_s, List.length_map] | ((with_reducible refine And.intro ?_ ?_); (· ((try simp only [PySem.sizeLine_eq, List.length_map, List.length_append, List.length_cons, List.length_nil, List.length_take, List.length_drop]); omega))) | ((with_reducible refine wmul ?_ ?_ ?_); (· omega); (· omega)) | ((with_reducible refine wmod ?_ fun _ _ _ _ => ?_); (· omega)) | ((with_reducible refine wfdiv ?_ ?_ ?_); (· omega); (· omega)) | ((with_reducible refine draw_w (by assumption) ?_ ?_ ?_ ?_ fun _ _ _ _ _ => ?_); (· omega); (· (first | assumption | exact In.app (by assumption))); (· omega); (· omega)) | ((with_reducible refine pickI_w (by with_unfolding_all rfl) (by assumption) ?_ ?_ ?_ ?_ fun _ _ _ _ => ?_); (· omega); (· (first | assumption | exact In.app (by assumption))); (· simp); (· simp)))
  rename_i way Y1 wa wb hY1 pr Y2 pa pb hY2
  refine wR_mono (Q := fun q S1 => S1 = Dk d c Y2 S ∧ q = (decide (way = 0) || decide ((fs.length : Int) = 0))) ?_ ?_
  · (first | refine wS_if (fun q => ?_) fun q => ?_ | refine wR_if (fun q => ?_) fun q => ?_ | refine prop_if (fun q => ?_) fun q => ?_)
    · exact ⟨rfl, by rw [q]; rfl⟩
    · repeat (first | simp -implicitDefEqProofs only [w_seq, wR_gd, wS_gd, w_nil, w_drop, w_ret, w_retN, w_if, w_asg, w_name, w_gnil, w_gcons, w_gtup, w_gsub, w_for, w_aug, w_augS, w_c, w_bin, w_un, w_chain, w_chainB, w_and, w_or, w_not,  w_of, w_tand, w_tor, w_tnot, w_tyes, w_eif, w_call, w_attr, w_fld, w_bm, w_bmL, w_anil, w_acons, w_astar, w_app0, w_kw, pick_nil, pick_cons, Option.bind_some, w_tup, w_flst, w_fr, w_mk, w_flist, w_frev, w_fcat, w_frep, w_part0, w_part, w_slice, w_fslice, w_revT, w_dict0, w_dict, w_pnil, w_pcons, pOf, keysOf, w_ival, w_range1, w_range2, w_enum, w_zip, w_inew, w_comp, wipeL, o_add, o_sub, o_neg, o_addT, o_addS, o_cmp, o_eq, o_ne, eq_int, eq_bl, eq_str, eq_tup0, eq_lst0, eq_ref0, b_int, b_intB, wR_bind, wR_ok, wS_nx, wS_ret, wS_next, wS_ofE, wS_plain, eVar, seqOf, lstOf, itOf, o_sub2T, o_sub2L, o_sub2F, o_sub2S, o_sub2D, o_sub2R, idxT0, idxT1, idxT2, idxT3, idxL0, idxR, Gx.keyOf, Gx.setItem, mPop, mAppend, mExtend, bLen, bTup, List.getElem?_cons_zero, List.getElem?_cons_succ, List.set_cons_zero, List.set_cons_succ, List.length_cons, List.length_nil, List.nil_append, List.cons_append, Nat.reduceAdd, Int.cast_ofNat_Int, Int.reduceEq, List.isEmpty_nil, List.isEmpty_cons, Int.natCast_zero, Int.natCast_one, PySem.sizeLine_eq, Nat.reduceLT, Nat.reduceLeDiff, Nat.reduceEqDiff, if_true, if_false, Bool.false_eq_true, Bool.true_eq_false, decide_true, decide_false, Bool.not_true, Bool.not_false, eq_self, true_and, and_true, Nat.zero_add, Dk_app, In.app, Dk_len, List.append_assoc, List.length_append, Option.map_some, Option.map_none, dg0, dg1, ds0, ds1, sg0, sg1, ss0, ss1] | ((with_reducible refine And.intro ?_ ?_); (· ((try simp only [PySem.sizeLine_eq, List.length_map, List.length_append, List.length_cons, List.length_nil, List.length_take, List.length_drop]); omega))) | ((with_reducible refine wmul ?_ ?_ ?_); (· omega); (· omega)) | ((with_reducible refine wmod ?_ fun _ _ _ _ => ?_); (· omega)) | ((with_reducible refine wfdiv ?_ ?_ ?_); (· omega); (· omega)) | ((with_reducible refine draw_w (by assumption) ?_ ?_ ?_ ?_ fun _ _ _ _ _ => ?_); (· omega); (· (first | assumption | exact In.app (by assumption))); (· omega); (· omega)) | ((with_reducible refine pickI_w (by with_unfolding_all rfl) (by assumption) ?_ ?_ ?_ ?_ fun _ _ _ _ => ?_); (· omega); (· (first | assumption | exact In.app (by assumption))); (· simp); (· simp)))
      rw [q]; rfl
  rintro q _ ⟨rfl, hq⟩
  refine wS_mono (N := fun L S1 => ∃ (fs' bs' : List Int) (Y3 : Dx) (l6 l9 : Option Val), L = [some (.ref d), some (enW fs bs), some (bookV cB fs bs), some (.int way), some (.int fs.length), some (.int (1 + pr)), l6, some (enW fs' bs'), some (.lst [bookV cB fs' bs', bookV cB fs' bs']), l9, none, none] ∧ S1 = Dk d c Y3 S ∧ Wk (n + 1) fs' bs' ∧ Y3.Ok (k - 100)) ?_ ?_ (fun _ _ q => q)
  · have W1 : ∀ u : Int, -1 ≤ u ∧ u < fs.length → Wk (n + 1) (fs ++ [u]) (bs ++ [1 + pr]) := fun u hu => w.app hu (by omega)
    refine wS_if (fun q1 => ?_) fun q1 => ?_
    · repeat (first | simp -implicitDefEqProofs only [w_seq, wR_gd, wS_gd, w_nil, w_drop, w_ret, w_retN, w_if, w_asg, w_name, w_gnil, w_gcons, w_gtup, w_gsub, w_for, w_aug, w_augS, w_c, w_bin, w_un, w_chain, w_chainB, w_and, w_or, w_not,  w_of, w_tand, w_tor, w_tnot, w_tyes, w_eif, w_call, w_attr, w_fld, w_bm, w_bmL, w_anil, w_acons, w_astar, w_app0, w_kw, pick_nil, pick_cons, Option.bind_some, w_tup, w_flst, w_fr, w_mk, w_flist, w_frev, w_fcat, w_frep, w_part0, w_part, w_slice, w_fslice, w_revT, w_dict0, w_dict, w_pnil, w_pcons, pOf, keysOf, w_ival, w_range1, w_range2, w_enum, w_zip, w_inew, w_comp, wipeL, o_add, o_sub, o_neg, o_addT, o_addS, o_cmp, o_eq, o_ne, eq_int, eq_bl, eq_str, eq_tup0, eq_lst0, eq_ref0, b_int, b_intB, wR_bind, wR_ok, wS_nx, wS_ret, wS_next, wS_ofE, wS_plain, eVar, seqOf, lstOf, itOf, o_sub2T, o_sub2L, o_sub2F, o_sub2S, o_sub2D, o_sub2R, idxT0, idxT1, idxT2, idxT3, idxL0, idxR, Gx.keyOf, Gx.setItem, mPop, mAppend, mExtend, bLen, bTup, List.getElem?_cons_zero, List.getElem?_cons_succ, List.set_cons_zero, List.set_cons_succ, List.length_cons, List.length_nil, List.nil_append, List.cons_append, Nat.reduceAdd, Int.cast_ofNat_Int, Int.reduceEq, List.isEmpty_nil, List.isEmpty_cons, Int.natCast_zero, Int.natCast_one, PySem.sizeLine_eq, Nat.reduceLT, Nat.reduceLeDiff, Nat.reduceEqDiff, if_true, if_false, Bool.false_eq_true, Bool.true_eq_false, decide_true, decide_false, Bool.not_true, Bool.not_false, eq_self, true_and, and_true, Nat.zero_add, Dk_app, In.app, Dk_len, List.append_assoc, List.length_append, Option.map_some, Option.map_none, dg0, dg1, ds0, ds1, sg0, sg1, ss0, ss1, hI] | ((with_reducible refine And.intro ?_ ?_); (· ((try simp only [PySem.sizeLine_eq, List.length_map, List.length_append, List.length_cons, List.length_nil, List.length_take, List.length_drop]); omega))) | ((with_reducible refine wmul ?_ ?_ ?_); (· omega); (· omega)) | ((with_reducible refine wmod ?_ fun _ _ _ _ => ?_); (· omega)) | ((with_reducible refine wfdiv ?_ ?_ ?_); (· omega); (· omega)) | ((with_reducible refine draw_w (by assumption) ?_ ?_ ?_ ?_ fun _ _ _ _ _ => ?_); (· omega); (· (first | assumption | exact In.app (by assumption))); (· omega); (· omega)) | ((with_reducible refine pickI_w (by with_unfolding_all rfl) (by assumption) ?_ ?_ ?_ ?_ fun _ _ _ _ => ?_); (· omega); (· (first | assumption | exact In.app (by assumption))); (· simp); (· simp)))
      rename_i nr Y5 n0 n1 hY5
      have W2 := W1 (nr - 1) (by omega)
      have ew : Val.dct [(kf, .lst ((fs ++ [nr - 1]).map .int)), (ks, .lst ((bs ++ [1 + pr]).map .int))] = enW (fs ++ [nr - 1]) (bs ++ [1 + pr]) := enW_def.symm
      have me : ∀ S : Store, f_p_Book_with_member cB [bookV cB fs bs, .int (nr - 1), .int (1 + pr)] S = .ok (bookV cB (fs ++ [nr - 1]) (bs ++ [1 + pr])) S := fun S => member_eq (W2.bk (by omega))
      have wo : ∀ S : Store, f_p_Book_without cB [bookV cB (fs ++ [nr - 1]) (bs ++ [1 + pr]), .int fs.length] S = .ok (bookV cB fs bs) S := fun S => by
        have := without_eq (cB := cB) (S := S) (fs := fs ++ [nr - 1]) (bs := bs ++ [1 + pr]) (j := fs.length) (by simp; omega) (by simp; omega) (by simp) (by rw [out_undo w.fr, del_undo hb]; exact w.bk (by omega))
        rwa [out_undo w.fr, del_undo hb] at this
      repeat (first | simp -implicitDefEqProofs only [w_seq, wR_gd, wS_gd, w_nil, w_drop, w_ret, w_retN, w_if, w_asg, w_name, w_gnil, w_gcons, w_gtup, w_gsub, w_for, w_aug, w_augS, w_c, w_bin, w_un, w_chain, w_chainB, w_and, w_or, w_not,  w_of, w_tand, w_tor, w_tnot, w_tyes, w_eif, w_call, w_attr, w_fld, w_bm, w_bmL, w_anil, w_acons, w_astar, w_app0, w_kw, pick_nil, pick_cons, Option.bind_some, w_tup, w_flst, w_fr, w_mk, w_flist, w_frev, w_fcat, w_frep, w_part0, w_part, w_slice, w_fslice, w_revT, w_dict0, w_dict, w_pnil, w_pcons, pOf, keysOf, w_ival, w_range1, w_range2, w_enum, w_zip, w_inew, w_comp, wipeL, o_add, o_sub, o_neg, o_addT, o_addS, o_cmp, o_eq, o_ne, eq_int, eq_bl, eq_str, eq_tup0, eq_lst0, eq_ref0, b_int, b_intB, wR_bind, wR_ok, wS_nx, wS_ret, wS_next, wS_ofE, wS_plain, eVar, seqOf, lstOf, itOf, o_sub2T, o_sub2L, o_sub2F, o_sub2S, o_sub2D, o_sub2R, idxT0, idxT1, idxT2, idxT3, idxL0, idxR, Gx.keyOf, Gx.setItem, mPop, mAppend, mExtend, bLen, bTup, List.getElem?_cons_zero, List.getElem?_cons_succ, List.set_cons_zero, List.set_cons_succ, List.length_cons, List.length_nil, List.nil_append, List.cons_append, Nat.reduceAdd, Int.cast_ofNat_Int, Int.reduceEq, List.isEmpty_nil, List.isEmpty_cons, Int.natCast_zero, Int.natCast_one, PySem.sizeLine_eq, Nat.reduceLT, Nat.reduceLeDiff, Nat.reduceEqDiff, if_true, if_false, Bool.false_eq_true, Bool.true_eq_false, decide_true, decide_false, Bool.not_true, Bool.not_false, eq_self, true_and, and_true, Nat.zero_add, Dk_app, In.app, Dk_len, List.append_assoc, List.length_append, Option.map_some, Option.map_none, dg0, dg1, ds0, ds1, sg0, sg1, ss0, ss1, sub_f, sub_s, lstOf, ints_ext, mg2, ew, w_meth, obj_book, lk_wm, me, lk_wo, wo, eqO_book, and_self] | ((with_reducible refine And.intro ?_ ?_); (· ((try simp only [PySem.sizeLine_eq, List.length_map, List.length_append, List.length_cons, List.length_nil, List.length_take, List.length_drop]); omega))) | ((with_reducible refine wmul ?_ ?_ ?_); (· omega); (· omega)) | ((with_reducible refine wmod ?_ fun _ _ _ _ => ?_); (· omega)) | ((with_reducible refine wfdiv ?_ ?_ ?_); (· omega); (· omega)) | ((with_reducible refine draw_w (by assumption) ?_ ?_ ?_ ?_ fun _ _ _ _ _ => ?_); (· omega); (· (first | assumption | exact In.app (by assumption))); (· omega); (· omega)) | ((with_reducible refine pickI_w (by with_unfolding_all rfl) (by assumption) ?_ ?_ ?_ ?_ fun _ _ _ _ => ?_); (· omega); (· (first | assumption | exact In.app (by assumption))); (· simp); (· simp)))
      exact ⟨_, _, Y5, _, _, rfl, rfl, W2, hY5.le (by omega)⟩
    · have hf : 0 < fs.length := by
        rw [q1] at hq
        have := Bool.or_eq_false_iff.mp hq.symm
        have := of_decide_eq_false this.2
        omega
      repeat (first | simp -implicitDefEqProofs only [w_seq, wR_gd, wS_gd, w_nil, w_drop, w_ret, w_retN, w_if, w_asg, w_name, w_gnil, w_gcons, w_gtup, w_gsub, w_for, w_aug, w_augS, w_c, w_bin, w_un, w_chain, w_chainB, w_and, w_or, w_not,  w_of, w_tand, w_tor, w_tnot, w_tyes, w_eif, w_call, w_attr, w_fld, w_bm, w_bmL, w_anil, w_acons, w_astar, w_app0, w_kw, pick_nil, pick_cons, Option.bind_some, w_tup, w_flst, w_fr, w_mk, w_flist, w_frev, w_fcat, w_frep, w_part0, w_part, w_slice, w_fslice, w_revT, w_dict0, w_dict, w_pnil, w_pcons, pOf, keysOf, w_ival, w_range1, w_range2, w_enum, w_zip, w_inew, w_comp, wipeL, o_add, o_sub, o_neg, o_addT, o_addS, o_cmp, o_eq, o_ne, eq_int, eq_bl, eq_str, eq_tup0, eq_lst0, eq_ref0, b_int, b_intB, wR_bind, wR_ok, wS_nx, wS_ret, wS_next, wS_ofE, wS_plain, eVar, seqOf, lstOf, itOf, o_sub2T, o_sub2L, o_sub2F, o_sub2S, o_sub2D, o_sub2R, idxT0, idxT1, idxT2, idxT3, idxL0, idxR, Gx.keyOf, Gx.setItem, mPop, mAppend, mExtend, bLen, bTup, List.getElem?_cons_zero, List.getElem?_cons_succ, List.set_cons_zero, List.set_cons_succ, List.length_cons, List.length_nil, List.nil_append, List.cons_append, Nat.reduceAdd, Int.cast_ofNat_Int, Int.reduceEq, List.isEmpty_nil, List.isEmpty_cons, Int.natCast_zero, Int.natCast_one, PySem.sizeLine_eq, Nat.reduceLT, Nat.reduceLeDiff, Nat.reduceEqDiff, if_true, if_false, Bool.false_eq_true, Bool.true_eq_false, decide_true, decide_false, Bool.not_true, Bool.not_false, eq_self, true_and, and_true, Nat.zero_add, Dk_app, In.app, Dk_len, List.append_assoc, List.length_append, Option.map_some, Option.map_none, dg0, dg1, ds0, ds1, sg0, sg1, ss0, ss1] | ((with_reducible refine And.intro ?_ ?_); (· ((try simp only [PySem.sizeLine_eq, List.length_map, List.length_append, List.length_cons, List.length_nil, List.length_take, List.length_drop]); omega))) | ((with_reducible refine wmul ?_ ?_ ?_); (· omega); (· omega)) | ((with_reducible refine wmod ?_ fun _ _ _ _ => ?_); (· omega)) | ((with_reducible refine wfdiv ?_ ?_ ?_); (· omega); (· omega)) | ((with_reducible refine draw_w (by assumption) ?_ ?_ ?_ ?_ fun _ _ _ _ _ => ?_); (· omega); (· (first | assumption | exact In.app (by assumption))); (· omega); (· omega)) | ((with_reducible refine pickI_w (by with_unfolding_all rfl) (by assumption) ?_ ?_ ?_ ?_ fun _ _ _ _ => ?_); (· omega); (· (first | assumption | exact In.app (by assumption))); (· simp); (· simp)))
      (first | refine wS_if (fun q2 => ?_) fun q2 => ?_ | refine wR_if (fun q2 => ?_) fun q2 => ?_ | refine prop_if (fun q2 => ?_) fun q2 => ?_)
      · repeat (first | simp -implicitDefEqProofs only [w_seq, wR_gd, wS_gd, w_nil, w_drop, w_ret, w_retN, w_if, w_asg, w_name, w_gnil, w_gcons, w_gtup, w_gsub, w_for, w_aug, w_augS, w_c, w_bin, w_un, w_chain, w_chainB, w_and, w_or, w_not,  w_of, w_tand, w_tor, w_tnot, w_tyes, w_eif, w_call, w_attr, w_fld, w_bm, w_bmL, w_anil, w_acons, w_astar, w_app0, w_kw, pick_nil, pick_cons, Option.bind_some, w_tup, w_flst, w_fr, w_mk, w_flist, w_frev, w_fcat, w_frep, w_part0, w_part, w_slice, w_fslice, w_revT, w_dict0, w_dict, w_pnil, w_pcons, pOf, keysOf, w_ival, w_range1, w_range2, w_enum, w_zip, w_inew, w_comp, wipeL, o_add, o_sub, o_neg, o_addT, o_addS, o_cmp, o_eq, o_ne, eq_int, eq_bl, eq_str, eq_tup0, eq_lst0, eq_ref0, b_int, b_intB, wR_bind, wR_ok, wS_nx, wS_ret, wS_next, wS_ofE, wS_plain, eVar, seqOf, lstOf, itOf, o_sub2T, o_sub2L, o_sub2F, o_sub2S, o_sub2D, o_sub2R, idxT0, idxT1, idxT2, idxT3, idxL0, idxR, Gx.keyOf, Gx.setItem, mPop, mAppend, mExtend, bLen, bTup, List.getElem?_cons_zero, List.getElem?_cons_succ, List.set_cons_zero, List.set_cons_succ, List.length_cons, List.length_nil, List.nil_append, List.cons_append, Nat.reduceAdd, Int.cast_ofNat_Int, Int.reduceEq, List.isEmpty_nil, List.isEmpty_cons, Int.natCast_zero, Int.natCast_one, PySem.sizeLine_eq, Nat.reduceLT, Nat.reduceLeDiff, Nat.reduceEqDiff, if_true, if_false, Bool.false_eq_true, Bool.true_eq_false, decide_true, decide_false, Bool.not_true, Bool.not_false, eq_self, true_and, and_true, Nat.zero_add, Dk_app, In.app, Dk_len, List.append_assoc, List.length_append, Option.map_some, Option.map_none, dg0, dg1, ds0, ds1, sg0, sg1, ss0, ss1, hI] | ((with_reducible refine And.intro ?_ ?_); (· ((try simp only [PySem.sizeLine_eq, List.length_map, List.length_append, List.length_cons, List.length_nil, List.length_take, List.length_drop]); omega))) | ((with_reducible refine wmul ?_ ?_ ?_); (· omega); (· omega)) | ((with_reducible refine wmod ?_ fun _ _ _ _ => ?_); (· omega)) | ((with_reducible refine wfdiv ?_ ?_ ?_); (· omega); (· omega)) | ((with_reducible refine draw_w (by assumption) ?_ ?_ ?_ ?_ fun _ _ _ _ _ => ?_); (· omega); (· (first | assumption | exact In.app (by assumption))); (· omega); (· omega)) | ((with_reducible refine pickI_w (by with_unfolding_all rfl) (by assumption) ?_ ?_ ?_ ?_ fun _ _ _ _ => ?_); (· omega); (· (first | assumption | exact In.app (by assumption))); (· simp); (· simp)))
        rename_i jr Y5 n0 n1 hY5
        obtain ⟨j, rfl⟩ : ∃ j : Nat, jr = j := ⟨jr.toNat, by omega⟩
        have hj : j < bs.length := by omega
        have W2 : Wk (n + 1) fs (bs.set j (1 + pr)) := by
          have := w.set (j := j) (b := 1 + pr) (by omega)
          exact ⟨this.fr, by omega, this.lb, this.sp⟩
        have e2 : (bs.take j).map Val.int ++ Val.int (1 + pr) :: (bs.drop (j + 1)).map .int = (bs.set j (1 + pr)).map .int := by
          rw [List.set_eq_take_append_cons_drop, if_pos hj]; simp
        have ew : Val.dct [(kf, .lst (fs.map .int)), (ks, .lst ((bs.set j (1 + pr)).map .int))] = enW fs (bs.set j (1 + pr)) := enW_def.symm
        have me : ∀ S : Store, f_p_Book_with_buy cB [bookV cB fs bs, .int j, .int (1 + pr)] S = .ok (bookV cB fs (bs.set j (1 + pr))) S := fun S => buy_eq hj (W2.bk (by omega))
        repeat (first | simp -implicitDefEqProofs only [w_seq, wR_gd, wS_gd, w_nil, w_drop, w_ret, w_retN, w_if, w_asg, w_name, w_gnil, w_gcons, w_gtup, w_gsub, w_for, w_aug, w_augS, w_c, w_bin, w_un, w_chain, w_chainB, w_and, w_or, w_not,  w_of, w_tand, w_tor, w_tnot, w_tyes, w_eif, w_call, w_attr, w_fld, w_bm, w_bmL, w_anil, w_acons, w_astar, w_app0, w_kw, pick_nil, pick_cons, Option.bind_some, w_tup, w_flst, w_fr, w_mk, w_flist, w_frev, w_fcat, w_frep, w_part0, w_part, w_slice, w_fslice, w_revT, w_dict0, w_dict, w_pnil, w_pcons, pOf, keysOf, w_ival, w_range1, w_range2, w_enum, w_zip, w_inew, w_comp, wipeL, o_add, o_sub, o_neg, o_addT, o_addS, o_cmp, o_eq, o_ne, eq_int, eq_bl, eq_str, eq_tup0, eq_lst0, eq_ref0, b_int, b_intB, wR_bind, wR_ok, wS_nx, wS_ret, wS_next, wS_ofE, wS_plain, eVar, seqOf, lstOf, itOf, o_sub2T, o_sub2L, o_sub2F, o_sub2S, o_sub2D, o_sub2R, idxT0, idxT1, idxT2, idxT3, idxL0, idxR, Gx.keyOf, Gx.setItem, mPop, mAppend, mExtend, bLen, bTup, List.getElem?_cons_zero, List.getElem?_cons_succ, List.set_cons_zero, List.set_cons_succ, List.length_cons, List.length_nil, List.nil_append, List.cons_append, Nat.reduceAdd, Int.cast_ofNat_Int, Int.reduceEq, List.isEmpty_nil, List.isEmpty_cons, Int.natCast_zero, Int.natCast_one, PySem.sizeLine_eq, Nat.reduceLT, Nat.reduceLeDiff, Nat.reduceEqDiff, if_true, if_false, Bool.false_eq_true, Bool.true_eq_false, decide_true, decide_false, Bool.not_true, Bool.not_false, eq_self, true_and, and_true, Nat.zero_add, Dk_app, In.app, Dk_len, List.append_assoc, List.length_append, Option.map_some, Option.map_none, dg0, dg1, ds0, ds1, sg0, sg1, ss0, ss1, sub_f, sub_s, lstOf, cut_a, cut_b, e2, mg2, ew, w_meth, obj_book, lk_wb, me] | ((with_reducible refine And.intro ?_ ?_); (· ((try simp only [PySem.sizeLine_eq, List.length_map, List.length_append, List.length_cons, List.length_nil, List.length_take, List.length_drop]); omega))) | ((with_reducible refine wmul ?_ ?_ ?_); (· omega); (· omega)) | ((with_reducible refine wmod ?_ fun _ _ _ _ => ?_); (· omega)) | ((with_reducible refine wfdiv ?_ ?_ ?_); (· omega); (· omega)) | ((with_reducible refine draw_w (by assumption) ?_ ?_ ?_ ?_ fun _ _ _ _ _ => ?_); (· omega); (· (first | assumption | exact In.app (by assumption))); (· omega); (· omega)) | ((with_reducible refine pickI_w (by with_unfolding_all rfl) (by assumption) ?_ ?_ ?_ ?_ fun _ _ _ _ => ?_); (· omega); (· (first | assumption | exact In.app (by assumption))); (· simp); (· simp)))
        exact ⟨_, _, Y5, _, _, rfl, rfl, W2, hY5.le (by omega)⟩
      · repeat (first | simp -implicitDefEqProofs only [w_seq, wR_gd, wS_gd, w_nil, w_drop, w_ret, w_retN, w_if, w_asg, w_name, w_gnil, w_gcons, w_gtup, w_gsub, w_for, w_aug, w_augS, w_c, w_bin, w_un, w_chain, w_chainB, w_and, w_or, w_not,  w_of, w_tand, w_tor, w_tnot, w_tyes, w_eif, w_call, w_attr, w_fld, w_bm, w_bmL, w_anil, w_acons, w_astar, w_app0, w_kw, pick_nil, pick_cons, Option.bind_some, w_tup, w_flst, w_fr, w_mk, w_flist, w_frev, w_fcat, w_frep, w_part0, w_part, w_slice, w_fslice, w_revT, w_dict0, w_dict, w_pnil, w_pcons, pOf, keysOf, w_ival, w_range1, w_range2, w_enum, w_zip, w_inew, w_comp, wipeL, o_add, o_sub, o_neg, o_addT, o_addS, o_cmp, o_eq, o_ne, eq_int, eq_bl, eq_str, eq_tup0, eq_lst0, eq_ref0, b_int, b_intB, wR_bind, wR_ok, wS_nx, wS_ret, wS_next, wS_ofE, wS_plain, eVar, seqOf, lstOf, itOf, o_sub2T, o_sub2L, o_sub2F, o_sub2S, o_sub2D, o_sub2R, idxT0, idxT1, idxT2, idxT3, idxL0, idxR, Gx.keyOf, Gx.setItem, mPop, mAppend, mExtend, bLen, bTup, List.getElem?_cons_zero, List.getElem?_cons_succ, List.set_cons_zero, List.set_cons_succ, List.length_cons, List.length_nil, List.nil_append, List.cons_append, Nat.reduceAdd, Int.cast_ofNat_Int, Int.reduceEq, List.isEmpty_nil, List.isEmpty_cons, Int.natCast_zero, Int.natCast_one, PySem.sizeLine_eq, Nat.reduceLT, Nat.reduceLeDiff, Nat.reduceEqDiff, if_true, if_false, Bool.false_eq_true, Bool.true_eq_false, decide_true, decide_false, Bool.not_true, Bool.not_false, eq_self, true_and, and_true, Nat.zero_add, Dk_app, In.app, Dk_len, List.append_assoc, List.length_append, Option.map_some, Option.map_none, dg0, dg1, ds0, ds1, sg0, sg1, ss0, ss1, hI] | ((with_reducible refine And.intro ?_ ?_); (· ((try simp only [PySem.sizeLine_eq, List.length_map, List.length_append, List.length_cons, List.length_nil, List.length_take, List.length_drop]); omega))) | ((with_reducible refine wmul ?_ ?_ ?_); (· omega); (· omega)) | ((with_reducible refine wmod ?_ fun _ _ _ _ => ?_); (· omega)) | ((with_reducible refine wfdiv ?_ ?_ ?_); (· omega); (· omega)) | ((with_reducible refine draw_w (by assumption) ?_ ?_ ?_ ?_ fun _ _ _ _ _ => ?_); (· omega); (· (first | assumption | exact In.app (by assumption))); (· omega); (· omega)) | ((with_reducible refine pickI_w (by with_unfolding_all rfl) (by assumption) ?_ ?_ ?_ ?_ fun _ _ _ _ => ?_); (· omega); (· (first | assumption | exact In.app (by assumption))); (· simp); (· simp)))
        rename_i jr Y5 n0 n1 hY5
        obtain ⟨j, rfl⟩ : ∃ j : Nat, jr = j := ⟨jr.toNat, by omega⟩
        have hj : j < fs.length := by omega
        have W0 := w.out hj
        have W2 : Wk (n + 1) (outN fs j fs.length) (delN bs j) := ⟨W0.fr, by have := W0.len; omega, W0.lb, W0.sp⟩
        have wo : ∀ S : Store, f_p_Book_without cB [bookV cB fs bs, .int j] S = .ok (bookV cB (outN fs j fs.length) (delN bs j)) S := fun S => without_eq (by omega) hb hj (W2.bk (by omega))
        have go : ∀ S : Store, f_w_gone cB [enW fs bs, .int j] S = .ok (enW (outN fs j fs.length) (delN bs j)) S := fun S => gone_eq (by omega) hb hj
        repeat (first | simp -implicitDefEqProofs only [w_seq, wR_gd, wS_gd, w_nil, w_drop, w_ret, w_retN, w_if, w_asg, w_name, w_gnil, w_gcons, w_gtup, w_gsub, w_for, w_aug, w_augS, w_c, w_bin, w_un, w_chain, w_chainB, w_and, w_or, w_not,  w_of, w_tand, w_tor, w_tnot, w_tyes, w_eif, w_call, w_attr, w_fld, w_bm, w_bmL, w_anil, w_acons, w_astar, w_app0, w_kw, pick_nil, pick_cons, Option.bind_some, w_tup, w_flst, w_fr, w_mk, w_flist, w_frev, w_fcat, w_frep, w_part0, w_part, w_slice, w_fslice, w_revT, w_dict0, w_dict, w_pnil, w_pcons, pOf, keysOf, w_ival, w_range1, w_range2, w_enum, w_zip, w_inew, w_comp, wipeL, o_add, o_sub, o_neg, o_addT, o_addS, o_cmp, o_eq, o_ne, eq_int, eq_bl, eq_str, eq_tup0, eq_lst0, eq_ref0, b_int, b_intB, wR_bind, wR_ok, wS_nx, wS_ret, wS_next, wS_ofE, wS_plain, eVar, seqOf, lstOf, itOf, o_sub2T, o_sub2L, o_sub2F, o_sub2S, o_sub2D, o_sub2R, idxT0, idxT1, idxT2, idxT3, idxL0, idxR, Gx.keyOf, Gx.setItem, mPop, mAppend, mExtend, bLen, bTup, List.getElem?_cons_zero, List.getElem?_cons_succ, List.set_cons_zero, List.set_cons_succ, List.length_cons, List.length_nil, List.nil_append, List.cons_append, Nat.reduceAdd, Int.cast_ofNat_Int, Int.reduceEq, List.isEmpty_nil, List.isEmpty_cons, Int.natCast_zero, Int.natCast_one, PySem.sizeLine_eq, Nat.reduceLT, Nat.reduceLeDiff, Nat.reduceEqDiff, if_true, if_false, Bool.false_eq_true, Bool.true_eq_false, decide_true, decide_false, Bool.not_true, Bool.not_false, eq_self, true_and, and_true, Nat.zero_add, Dk_app, In.app, Dk_len, List.append_assoc, List.length_append, Option.map_some, Option.map_none, dg0, dg1, ds0, ds1, sg0, sg1, ss0, ss1, go, w_meth, obj_book, lk_wo, wo] | ((with_reducible refine And.intro ?_ ?_); (· ((try simp only [PySem.sizeLine_eq, List.length_map, List.length_append, List.length_cons, List.length_nil, List.length_take, List.length_drop]); omega))) | ((with_reducible refine wmul ?_ ?_ ?_); (· omega); (· omega)) | ((with_reducible refine wmod ?_ fun _ _ _ _ => ?_); (· omega)) | ((with_reducible refine wfdiv ?_ ?_ ?_); (· omega); (· omega)) | ((with_reducible refine draw_w (by assumption) ?_ ?_ ?_ ?_ fun _ _ _ _ _ => ?_); (· omega); (· (first | assumption | exact In.app (by assumption))); (· omega); (· omega)) | ((with_reducible refine pickI_w (by with_unfolding_all rfl) (by assumption) ?_ ?_ ?_ ?_ fun _ _ _ _ => ?_); (· omega); (· (first | assumption | exact In.app (by assumption))); (· simp); (· simp)))
        exact ⟨_, _, Y5, _, _, rfl, rfl, W2, hY5.le (by omega)⟩
  rintro _ _ ⟨fs', bs', Y3, l6, l9, rfl, rfl, w', hY3⟩
  have hl' := w'.len
  have hb' := w'.lb
  have sm : ∀ b ∈ bs', b.natAbs < 2 ^ 64 := fun b hb => by
    have := w'.sp b hb
    have h3 : (2 : Nat) ^ 64 = 18446744073709551616 := by decide
    omega
  have sm0 : ∀ b ∈ bs, b.natAbs < 2 ^ 64 := fun b hb => by
    have := w.sp b hb
    have h3 : (2 : Nat) ^ 64 = 18446744073709551616 := by decide
    omega
  have m1 : ∀ S : Store, f_w_is_made cB [bookV cB fs' bs', enW fs' bs'] S = .ok (.bl true) S := fun S => made_eq (w'.bk (by omega)).ups sm (by omega) (by omega) rfl rfl
  have m0 : ∀ S : Store, f_w_is_made cB [bookV cB fs bs, enW fs bs] S = .ok (.bl true) S := fun S => made_eq (w.bk (by omega)).ups sm0 (by omega) (by omega) rfl rfl
  have sl : ∀ S : Store, bSum [.lst (bs'.map .int)] S = .ok (.int bs'.sum) S := fun S => by simp only [bSum, seqOf, sumV, ints_map, Option.map_some]
  repeat (first | simp -implicitDefEqProofs only [w_seq, wR_gd, wS_gd, w_nil, w_drop, w_ret, w_retN, w_if, w_asg, w_name, w_gnil, w_gcons, w_gtup, w_gsub, w_for, w_aug, w_augS, w_c, w_bin, w_un, w_chain, w_chainB, w_and, w_or, w_not,  w_of, w_tand, w_tor, w_tnot, w_tyes, w_eif, w_call, w_attr, w_fld, w_bm, w_bmL, w_anil, w_acons, w_astar, w_app0, w_kw, pick_nil, pick_cons, Option.bind_some, w_tup, w_flst, w_fr, w_mk, w_flist, w_frev, w_fcat, w_frep, w_part0, w_part, w_slice, w_fslice, w_revT, w_dict0, w_dict, w_pnil, w_pcons, pOf, keysOf, w_ival, w_range1, w_range2, w_enum, w_zip, w_inew, w_comp, wipeL, o_add, o_sub, o_neg, o_addT, o_addS, o_cmp, o_eq, o_ne, eq_int, eq_bl, eq_str, eq_tup0, eq_lst0, eq_ref0, b_int, b_intB, wR_bind, wR_ok, wS_nx, wS_ret, wS_next, wS_ofE, wS_plain, eVar, seqOf, lstOf, itOf, o_sub2T, o_sub2L, o_sub2F, o_sub2S, o_sub2D, o_sub2R, idxT0, idxT1, idxT2, idxT3, idxL0, idxR, Gx.keyOf, Gx.setItem, mPop, mAppend, mExtend, bLen, bTup, List.getElem?_cons_zero, List.getElem?_cons_succ, List.set_cons_zero, List.set_cons_succ, List.length_cons, List.length_nil, List.nil_append, List.cons_append, Nat.reduceAdd, Int.cast_ofNat_Int, Int.reduceEq, List.isEmpty_nil, List.isEmpty_cons, Int.natCast_zero, Int.natCast_one, PySem.sizeLine_eq, Nat.reduceLT, Nat.reduceLeDiff, Nat.reduceEqDiff, if_true, if_false, Bool.false_eq_true, Bool.true_eq_false, decide_true, decide_false, Bool.not_true, Bool.not_false, eq_self, true_and, and_true, Nat.zero_add, Dk_app, In.app, Dk_len, List.append_assoc, List.length_append, Option.map_some, Option.map_none, dg0, dg1, ds0, ds1, sg0, sg1, ss0, ss1, hI] | ((with_reducible refine And.intro ?_ ?_); (· ((try simp only [PySem.sizeLine_eq, List.length_map, List.length_append, List.length_cons, List.length_nil, List.length_take, List.length_drop]); omega))) | ((with_reducible refine wmul ?_ ?_ ?_); (· omega); (· omega)) | ((with_reducible refine wmod ?_ fun _ _ _ _ => ?_); (· omega)) | ((with_reducible refine wfdiv ?_ ?_ ?_); (· omega); (· omega)) | ((with_reducible refine draw_w (by assumption) ?_ ?_ ?_ ?_ fun _ _ _ _ _ => ?_); (· omega); (· (first | assumption | exact In.app (by assumption))); (· omega); (· omega)) | ((with_reducible refine pickI_w (by with_unfolding_all rfl) (by assumption) ?_ ?_ ?_ ?_ fun _ _ _ _ => ?_); (· omega); (· (first | assumption | exact In.app (by assumption))); (· simp); (· simp)))
  refine wR_comp_pure (fun x => [some (.ref d), some (enW fs bs), some (bookV cB fs bs), some (.int way), some (.int fs.length), some (.int (1 + pr)), l6, some (enW fs' bs'), some (.lst [bookV cB fs' bs', bookV cB fs' bs']), l9, none, some x]) (fun _ => false) id rfl (fun x _ => rfl) (fun x hx => ?_) (fun x _ q => by cases q) ?_
  · obtain rfl : x = bookV cB fs' bs' := by
      simp only [List.mem_cons, List.not_mem_nil, or_false] at hx
      rcases hx with rfl | rfl <;> rfl
    have : wR (fun v S' => Hold (v = false ∧ S' = Dk d c Y3 S) ⟨⟩) (fun _ _ => False) (tOr (tNot (tOf (eCall (f_w_is_made cB) (aCons (eVar 11) (aCons (eVar 7) aNil))))) (tOf (eBin oNe (eFld [cB] "sales" (eVar 11)) (eCall bSum (aCons (eBin oSub2 (eVar 7) (eC (.str "spent"))) aNil)))) [some (.ref d), some (enW fs bs), some (bookV cB fs bs), some (.int way), some (.int fs.length), some (.int (1 + pr)), l6, some (enW fs' bs'), some (.lst [bookV cB fs' bs', bookV cB fs' bs']), l9, none, some (bookV cB fs' bs')] (Dk d c Y3 S)) := by
      repeat (first | simp -implicitDefEqProofs only [w_seq, wR_gd, wS_gd, w_nil, w_drop, w_ret, w_retN, w_if, w_asg, w_name, w_gnil, w_gcons, w_gtup, w_gsub, w_for, w_aug, w_augS, w_c, w_bin, w_un, w_chain, w_chainB, w_and, w_or, w_not,  w_of, w_tand, w_tor, w_tnot, w_tyes, w_eif, w_call, w_attr, w_fld, w_bm, w_bmL, w_anil, w_acons, w_astar, w_app0, w_kw, pick_nil, pick_cons, Option.bind_some, w_tup, w_flst, w_fr, w_mk, w_flist, w_frev, w_fcat, w_frep, w_part0, w_part, w_slice, w_fslice, w_revT, w_dict0, w_dict, w_pnil, w_pcons, pOf, keysOf, w_ival, w_range1, w_range2, w_enum, w_zip, w_inew, w_comp, wipeL, o_add, o_sub, o_neg, o_addT, o_addS, o_cmp, o_eq, o_ne, eq_int, eq_bl, eq_str, eq_tup0, eq_lst0, eq_ref0, b_int, b_intB, wR_bind, wR_ok, wS_nx, wS_ret, wS_next, wS_ofE, wS_plain, eVar, seqOf, lstOf, itOf, o_sub2T, o_sub2L, o_sub2F, o_sub2S, o_sub2D, o_sub2R, idxT0, idxT1, idxT2, idxT3, idxL0, idxR, Gx.keyOf, Gx.setItem, mPop, mAppend, mExtend, bLen, bTup, List.getElem?_cons_zero, List.getElem?_cons_succ, List.set_cons_zero, List.set_cons_succ, List.length_cons, List.length_nil, List.nil_append, List.cons_append, Nat.reduceAdd, Int.cast_ofNat_Int, Int.reduceEq, List.isEmpty_nil, List.isEmpty_cons, Int.natCast_zero, Int.natCast_one, PySem.sizeLine_eq, Nat.reduceLT, Nat.reduceLeDiff, Nat.reduceEqDiff, if_true, if_false, Bool.false_eq_true, Bool.true_eq_false, decide_true, decide_false, Bool.not_true, Bool.not_false, eq_self, true_and, and_true, Nat.zero_add, Dk_app, In.app, Dk_len, List.append_assoc, List.length_append, Option.map_some, Option.map_none, dg0, dg1, ds0, ds1, sg0, sg1, ss0, ss1, m1, obj_book, lk_sales, List.mem_singleton, sub_s, sl] | ((with_reducible refine And.intro ?_ ?_); (· ((try simp only [PySem.sizeLine_eq, List.length_map, List.length_append, List.length_cons, List.length_nil, List.length_take, List.length_drop]); omega))) | ((with_reducible refine wmul ?_ ?_ ?_); (· omega); (· omega)) | ((with_reducible refine wmod ?_ fun _ _ _ _ => ?_); (· omega)) | ((with_reducible refine wfdiv ?_ ?_ ?_); (· omega); (· omega)) | ((with_reducible refine draw_w (by assumption) ?_ ?_ ?_ ?_ fun _ _ _ _ _ => ?_); (· omega); (· (first | assumption | exact In.app (by assumption))); (· omega); (· omega)) | ((with_reducible refine pickI_w (by with_unfolding_all rfl) (by assumption) ?_ ?_ ?_ ?_ fun _ _ _ _ => ?_); (· omega); (· (first | assumption | exact In.app (by assumption))); (· simp); (· simp)))
      exact hold ⟨rfl, rfl⟩
    exact eq_of_w this
  rw [show List.map id (List.filter (fun x => false) [bookV cB fs' bs', bookV cB fs' bs']) = [] from rfl]
  repeat (first | simp -implicitDefEqProofs only [w_seq, wR_gd, wS_gd, w_nil, w_drop, w_ret, w_retN, w_if, w_asg, w_name, w_gnil, w_gcons, w_gtup, w_gsub, w_for, w_aug, w_augS, w_c, w_bin, w_un, w_chain, w_chainB, w_and, w_or, w_not,  w_of, w_tand, w_tor, w_tnot, w_tyes, w_eif, w_call, w_attr, w_fld, w_bm, w_bmL, w_anil, w_acons, w_astar, w_app0, w_kw, pick_nil, pick_cons, Option.bind_some, w_tup, w_flst, w_fr, w_mk, w_flist, w_frev, w_fcat, w_frep, w_part0, w_part, w_slice, w_fslice, w_revT, w_dict0, w_dict, w_pnil, w_pcons, pOf, keysOf, w_ival, w_range1, w_range2, w_enum, w_zip, w_inew, w_comp, wipeL, o_add, o_sub, o_neg, o_addT, o_addS, o_cmp, o_eq, o_ne, eq_int, eq_bl, eq_str, eq_tup0, eq_lst0, eq_ref0, b_int, b_intB, wR_bind, wR_ok, wS_nx, wS_ret, wS_next, wS_ofE, wS_plain, eVar, seqOf, lstOf, itOf, o_sub2T, o_sub2L, o_sub2F, o_sub2S, o_sub2D, o_sub2R, idxT0, idxT1, idxT2, idxT3, idxL0, idxR, Gx.keyOf, Gx.setItem, mPop, mAppend, mExtend, bLen, bTup, List.getElem?_cons_zero, List.getElem?_cons_succ, List.set_cons_zero, List.set_cons_succ, List.length_cons, List.length_nil, List.nil_append, List.cons_append, Nat.reduceAdd, Int.cast_ofNat_Int, Int.reduceEq, List.isEmpty_nil, List.isEmpty_cons, Int.natCast_zero, Int.natCast_one, PySem.sizeLine_eq, Nat.reduceLT, Nat.reduceLeDiff, Nat.reduceEqDiff, if_true, if_false, Bool.false_eq_true, Bool.true_eq_false, decide_true, decide_false, Bool.not_true, Bool.not_false, eq_self, true_and, and_true, Nat.zero_add, Dk_app, In.app, Dk_len, List.append_assoc, List.length_append, Option.map_some, Option.map_none, dg0, dg1, ds0, ds1, sg0, sg1, ss0, ss1, m0] | ((with_reducible refine And.intro ?_ ?_); (· ((try simp only [PySem.sizeLine_eq, List.length_map, List.length_append, List.length_cons, List.length_nil, List.length_take, List.length_drop]); omega))) | ((with_reducible refine wmul ?_ ?_ ?_); (· omega); (· omega)) | ((with_reducible refine wmod ?_ fun _ _ _ _ => ?_); (· omega)) | ((with_reducible refine wfdiv ?_ ?_ ?_); (· omega); (· omega)) | ((with_reducible refine draw_w (by assumption) ?_ ?_ ?_ ?_ fun _ _ _ _ _ => ?_); (· omega); (· (first | assumption | exact In.app (by assumption))); (· omega); (· omega)) | ((with_reducible refine pickI_w (by with_unfolding_all rfl) (by assumption) ?_ ?_ ?_ ?_ fun _ _ _ _ => ?_); (· omega); (· (first | assumption | exact In.app (by assumption))); (· simp); (· simp)))
  exact wR_gcD0 hI (by simp [tree, trees, tree_W]) (h fs' bs' Y3 w' hY3)
end K10
end
section
set_option maxHeartbeats 4000000
set_option maxRecDepth 100000
set_option linter.all false
set_option autoImplicit false
namespace K10
open Gx
variable {cB : PySem.Addr}
theorem bk_of {fs bs : List Int} (h1 : fs.length ≤ 1000) (h2 : (fs.zipIdx.all fun p => decide (-1 ≤ p.1 ∧ p.1 < p.2)) = true) (h3 : bs.length = fs.length) (h4 : ∀ b ∈ bs, 1 ≤ b) : Bk fs bs :=
  ⟨⟨h1, fun i x h => by
    have := List.all_eq_true.mp h2 (x, i) (by rw [List.mem_zipIdx_iff_getElem?]; exact h)
    simpa using this⟩, h3, h4⟩
theorem w_appD {a : A} {ds : List Val} {L : Loc} {S : Store} {QA : List Val → Store → Prop} {X : Exc → Store → Prop} : wR QA X (aApp a ds L S) = wR (fun xs S1 => QA (xs ++ ds) S1) X (a L S) := by
  unfold aApp
  rw [wR_bind]; exact wR_q fun xs S1 => rfl
theorem wd_bk {fs bs : List Int} (h : Wd fs bs) (hl : fs.length ≤ 16) : Bk fs bs := (wk_of h hl).bk (by decide)
theorem law_true (ns : List Int) (hl : ns.length ≤ 63) : ∃ S, f_law cB [.frz (ns.map .int)] [] = .ok (.bl true) S := by
  have m0 : ∀ S : Store, mkR cB (f_p_Book___init__ cB) 3 [.tup [], .tup []] S = .ok (bookV cB [] []) S := fun S => mk_book (fs := []) (bs := []) (bk_of (by decide) (by decide) (by decide) (by decide))
  have go : wR (fun v _ => v = .bl true) (fun _ _ => False) (f_law cB [.frz (ns.map .int)] []) := by
    unfold f_law
    refine wR_fn rfl ?_
    show wS _ _ _ (b_law cB [some (.frz (ns.map .int)), none, none, none, none, none, none, none, none, none] _)
    unfold b_law
    repeat (first | simp -implicitDefEqProofs only [w_seq, wR_gd, wS_gd, w_nil, w_drop, w_ret, w_retN, w_if, w_asg, w_name, w_gnil, w_gcons, w_gtup, w_gsub, w_for, w_aug, w_augS, w_c, w_bin, w_un, w_chain, w_chainB, w_and, w_or, w_not,  w_of, w_tand, w_tor, w_tnot, w_tyes, w_eif, w_call, w_attr, w_fld, w_bm, w_bmL, w_anil, w_acons, w_astar, w_app0, w_kw, pick_nil, pick_cons, Option.bind_some, w_tup, w_flst, w_fr, w_mk, w_flist, w_frev, w_fcat, w_frep, w_part0, w_part, w_slice, w_fslice, w_revT, w_dict0, w_dict, w_pnil, w_pcons, pOf, keysOf, w_ival, w_range1, w_range2, w_enum, w_zip, w_inew, w_comp, wipeL, o_add, o_sub, o_neg, o_addT, o_addS, o_cmp, o_eq, o_ne, eq_int, eq_bl, eq_str, eq_tup0, eq_lst0, eq_ref0, b_int, b_intB, wR_bind, wR_ok, wS_nx, wS_ret, wS_next, wS_ofE, wS_plain, eVar, seqOf, lstOf, itOf, o_sub2T, o_sub2L, o_sub2F, o_sub2S, o_sub2D, o_sub2R, idxT0, idxT1, idxT2, idxT3, idxL0, idxR, Gx.keyOf, Gx.setItem, mPop, mAppend, mExtend, bLen, bTup, List.getElem?_cons_zero, List.getElem?_cons_succ, List.set_cons_zero, List.set_cons_succ, List.length_cons, List.length_nil, List.nil_append, List.cons_append, Nat.reduceAdd, Int.cast_ofNat_Int, Int.reduceEq, List.isEmpty_nil, List.isEmpty_cons, Int.natCast_zero, Int.natCast_one, PySem.sizeLine_eq, Nat.reduceLT, Nat.reduceLeDiff, Nat.reduceEqDiff, if_true, if_false, Bool.false_eq_true, Bool.true_eq_false, decide_true, decide_false, Bool.not_true, Bool.not_false, eq_self, true_and, and_true, Nat.zero_add, Dk_app, In.app, Dk_len, List.append_assoc, List.length_append, Option.map_some, Option.map_none, dg0, dg1, ds0, ds1, sg0, sg1, ss0, ss1] | ((with_reducible refine And.intro ?_ ?_); (· ((try simp only [PySem.sizeLine_eq, List.length_map, List.length_append, List.length_cons, List.length_nil, List.length_take, List.length_drop]); omega))) | ((with_reducible refine wmul ?_ ?_ ?_); (· omega); (· omega)) | ((with_reducible refine wmod ?_ fun _ _ _ _ => ?_); (· omega)) | ((with_reducible refine wfdiv ?_ ?_ ?_); (· omega); (· omega)) | ((with_reducible refine draw_w (by assumption) ?_ ?_ ?_ ?_ fun _ _ _ _ _ => ?_); (· omega); (· (first | assumption | exact In.app (by assumption))); (· omega); (· omega)) | ((with_reducible refine pickI_w (by with_unfolding_all rfl) (by assumption) ?_ ?_ ?_ ?_ fun _ _ _ _ => ?_); (· omega); (· (first | assumption | exact In.app (by assumption))); (· simp); (· simp)))
    refine deck_w hl fun Y hY => ?_
    have hI : In 1 0 [Cell.lst [], Cell.lst []] := ⟨by decide, by decide, by decide⟩
    repeat (first | simp -implicitDefEqProofs only [w_seq, wR_gd, wS_gd, w_nil, w_drop, w_ret, w_retN, w_if, w_asg, w_name, w_gnil, w_gcons, w_gtup, w_gsub, w_for, w_aug, w_augS, w_c, w_bin, w_un, w_chain, w_chainB, w_and, w_or, w_not,  w_of, w_tand, w_tor, w_tnot, w_tyes, w_eif, w_call, w_attr, w_fld, w_bm, w_bmL, w_anil, w_acons, w_astar, w_app0, w_kw, pick_nil, pick_cons, Option.bind_some, w_tup, w_flst, w_fr, w_mk, w_flist, w_frev, w_fcat, w_frep, w_part0, w_part, w_slice, w_fslice, w_revT, w_dict0, w_dict, w_pnil, w_pcons, pOf, keysOf, w_ival, w_range1, w_range2, w_enum, w_zip, w_inew, w_comp, wipeL, o_add, o_sub, o_neg, o_addT, o_addS, o_cmp, o_eq, o_ne, eq_int, eq_bl, eq_str, eq_tup0, eq_lst0, eq_ref0, b_int, b_intB, wR_bind, wR_ok, wS_nx, wS_ret, wS_next, wS_ofE, wS_plain, eVar, seqOf, lstOf, itOf, o_sub2T, o_sub2L, o_sub2F, o_sub2S, o_sub2D, o_sub2R, idxT0, idxT1, idxT2, idxT3, idxL0, idxR, Gx.keyOf, Gx.setItem, mPop, mAppend, mExtend, bLen, bTup, List.getElem?_cons_zero, List.getElem?_cons_succ, List.set_cons_zero, List.set_cons_succ, List.length_cons, List.length_nil, List.nil_append, List.cons_append, Nat.reduceAdd, Int.cast_ofNat_Int, Int.reduceEq, List.isEmpty_nil, List.isEmpty_cons, Int.natCast_zero, Int.natCast_one, PySem.sizeLine_eq, Nat.reduceLT, Nat.reduceLeDiff, Nat.reduceEqDiff, if_true, if_false, Bool.false_eq_true, Bool.true_eq_false, decide_true, decide_false, Bool.not_true, Bool.not_false, eq_self, true_and, and_true, Nat.zero_add, Dk_app, In.app, Dk_len, List.append_assoc, List.length_append, Option.map_some, Option.map_none, dg0, dg1, ds0, ds1, sg0, sg1, ss0, ss1, hI] | ((with_reducible refine And.intro ?_ ?_); (· ((try simp only [PySem.sizeLine_eq, List.length_map, List.length_append, List.length_cons, List.length_nil, List.length_take, List.length_drop]); omega))) | ((with_reducible refine wmul ?_ ?_ ?_); (· omega); (· omega)) | ((with_reducible refine wmod ?_ fun _ _ _ _ => ?_); (· omega)) | ((with_reducible refine wfdiv ?_ ?_ ?_); (· omega); (· omega)) | ((with_reducible refine draw_w (by assumption) ?_ ?_ ?_ ?_ fun _ _ _ _ _ => ?_); (· omega); (· (first | assumption | exact In.app (by assumption))); (· omega); (· omega)) | ((with_reducible refine pickI_w (by with_unfolding_all rfl) (by assumption) ?_ ?_ ?_ ?_ fun _ _ _ _ => ?_); (· omega); (· (first | assumption | exact In.app (by assumption))); (· simp); (· simp)))
    generalize hS : [Cell.lst [], Cell.lst []] = S at hI ⊢
    refine wS_for (fun i L S1 => ∃ (l2 l3 l4 l5 l6 l7 l8 : Option Val) (Y1 : Dx), L = [some (.frz (ns.map .int)), some (.ref 1), l2, l3, l4, l5, l6, l7, l8, none] ∧ S1 = Dk 1 0 Y1 S ∧ Y1.Ok (900000000 - 10000 * i)) ?_ ?_ ?_ ?_
    · exact ⟨_, _, _, _, _, _, _, _, rfl, rfl, hY⟩
    · intros; rfl
    · rintro i x _ _ hx hi ⟨l2, l3, l4, l5, l6, l7, l8, Y1, rfl, rfl, h1⟩
      obtain ⟨rfl, hi2⟩ := range_at hx
      have hi3 : i < 5 := hi2
      repeat (first | simp -implicitDefEqProofs only [w_seq, wR_gd, wS_gd, w_nil, w_drop, w_ret, w_retN, w_if, w_asg, w_name, w_gnil, w_gcons, w_gtup, w_gsub, w_for, w_aug, w_augS, w_c, w_bin, w_un, w_chain, w_chainB, w_and, w_or, w_not,  w_of, w_tand, w_tor, w_tnot, w_tyes, w_eif, w_call, w_attr, w_fld, w_bm, w_bmL, w_anil, w_acons, w_astar, w_app0, w_kw, pick_nil, pick_cons, Option.bind_some, w_tup, w_flst, w_fr, w_mk, w_flist, w_frev, w_fcat, w_frep, w_part0, w_part, w_slice, w_fslice, w_revT, w_dict0, w_dict, w_pnil, w_pcons, pOf, keysOf, w_ival, w_range1, w_range2, w_enum, w_zip, w_inew, w_comp, wipeL, o_add, o_sub, o_neg, o_addT, o_addS, o_cmp, o_eq, o_ne, eq_int, eq_bl, eq_str, eq_tup0, eq_lst0, eq_ref0, b_int, b_intB, wR_bind, wR_ok, wS_nx, wS_ret, wS_next, wS_ofE, wS_plain, eVar, seqOf, lstOf, itOf, o_sub2T, o_sub2L, o_sub2F, o_sub2S, o_sub2D, o_sub2R, idxT0, idxT1, idxT2, idxT3, idxL0, idxR, Gx.keyOf, Gx.setItem, mPop, mAppend, mExtend, bLen, bTup, List.getElem?_cons_zero, List.getElem?_cons_succ, List.set_cons_zero, List.set_cons_succ, List.length_cons, List.length_nil, List.nil_append, List.cons_append, Nat.reduceAdd, Int.cast_ofNat_Int, Int.reduceEq, List.isEmpty_nil, List.isEmpty_cons, Int.natCast_zero, Int.natCast_one, PySem.sizeLine_eq, Nat.reduceLT, Nat.reduceLeDiff, Nat.reduceEqDiff, if_true, if_false, Bool.false_eq_true, Bool.true_eq_false, decide_true, decide_false, Bool.not_true, Bool.not_false, eq_self, true_and, and_true, Nat.zero_add, Dk_app, In.app, Dk_len, List.append_assoc, List.length_append, Option.map_some, Option.map_none, dg0, dg1, ds0, ds1, sg0, sg1, ss0, ss1] | ((with_reducible refine And.intro ?_ ?_); (· ((try simp only [PySem.sizeLine_eq, List.length_map, List.length_append, List.length_cons, List.length_nil, List.length_take, List.length_drop]); omega))) | ((with_reducible refine wmul ?_ ?_ ?_); (· omega); (· omega)) | ((with_reducible refine wmod ?_ fun _ _ _ _ => ?_); (· omega)) | ((with_reducible refine wfdiv ?_ ?_ ?_); (· omega); (· omega)) | ((with_reducible refine draw_w (by assumption) ?_ ?_ ?_ ?_ fun _ _ _ _ _ => ?_); (· omega); (· (first | assumption | exact In.app (by assumption))); (· omega); (· omega)) | ((with_reducible refine pickI_w (by with_unfolding_all rfl) (by assumption) ?_ ?_ ?_ ?_ fun _ _ _ _ => ?_); (· omega); (· (first | assumption | exact In.app (by assumption))); (· simp); (· simp)))
      refine kit_w (m := 2) h1 (by omega) (by decide) (by decide) hI fun rows Y2 w1 w2 w3 h2 => ?_
      repeat (first | simp -implicitDefEqProofs only [w_seq, wR_gd, wS_gd, w_nil, w_drop, w_ret, w_retN, w_if, w_asg, w_name, w_gnil, w_gcons, w_gtup, w_gsub, w_for, w_aug, w_augS, w_c, w_bin, w_un, w_chain, w_chainB, w_and, w_or, w_not,  w_of, w_tand, w_tor, w_tnot, w_tyes, w_eif, w_call, w_attr, w_fld, w_bm, w_bmL, w_anil, w_acons, w_astar, w_app0, w_kw, pick_nil, pick_cons, Option.bind_some, w_tup, w_flst, w_fr, w_mk, w_flist, w_frev, w_fcat, w_frep, w_part0, w_part, w_slice, w_fslice, w_revT, w_dict0, w_dict, w_pnil, w_pcons, pOf, keysOf, w_ival, w_range1, w_range2, w_enum, w_zip, w_inew, w_comp, wipeL, o_add, o_sub, o_neg, o_addT, o_addS, o_cmp, o_eq, o_ne, eq_int, eq_bl, eq_str, eq_tup0, eq_lst0, eq_ref0, b_int, b_intB, wR_bind, wR_ok, wS_nx, wS_ret, wS_next, wS_ofE, wS_plain, eVar, seqOf, lstOf, itOf, o_sub2T, o_sub2L, o_sub2F, o_sub2S, o_sub2D, o_sub2R, idxT0, idxT1, idxT2, idxT3, idxL0, idxR, Gx.keyOf, Gx.setItem, mPop, mAppend, mExtend, bLen, bTup, List.getElem?_cons_zero, List.getElem?_cons_succ, List.set_cons_zero, List.set_cons_succ, List.length_cons, List.length_nil, List.nil_append, List.cons_append, Nat.reduceAdd, Int.cast_ofNat_Int, Int.reduceEq, List.isEmpty_nil, List.isEmpty_cons, Int.natCast_zero, Int.natCast_one, PySem.sizeLine_eq, Nat.reduceLT, Nat.reduceLeDiff, Nat.reduceEqDiff, if_true, if_false, Bool.false_eq_true, Bool.true_eq_false, decide_true, decide_false, Bool.not_true, Bool.not_false, eq_self, true_and, and_true, Nat.zero_add, Dk_app, In.app, Dk_len, List.append_assoc, List.length_append, Option.map_some, Option.map_none, dg0, dg1, ds0, ds1, sg0, sg1, ss0, ss1] | ((with_reducible refine And.intro ?_ ?_); (· ((try simp only [PySem.sizeLine_eq, List.length_map, List.length_append, List.length_cons, List.length_nil, List.length_take, List.length_drop]); omega))) | ((with_reducible refine wmul ?_ ?_ ?_); (· omega); (· omega)) | ((with_reducible refine wmod ?_ fun _ _ _ _ => ?_); (· omega)) | ((with_reducible refine wfdiv ?_ ?_ ?_); (· omega); (· omega)) | ((with_reducible refine draw_w (by assumption) ?_ ?_ ?_ ?_ fun _ _ _ _ _ => ?_); (· omega); (· (first | assumption | exact In.app (by assumption))); (· omega); (· omega)) | ((with_reducible refine pickI_w (by with_unfolding_all rfl) (by assumption) ?_ ?_ ?_ ?_ fun _ _ _ _ => ?_); (· omega); (· (first | assumption | exact In.app (by assumption))); (· simp); (· simp)))
      refine world_w (M := 16) h2 (by omega) (by decide) hI w1 (by omega) w3 fun fs bs Y3 hl2 v2 h3 => ?_
      repeat (first | simp -implicitDefEqProofs only [w_seq, wR_gd, wS_gd, w_nil, w_drop, w_ret, w_retN, w_if, w_asg, w_name, w_gnil, w_gcons, w_gtup, w_gsub, w_for, w_aug, w_augS, w_c, w_bin, w_un, w_chain, w_chainB, w_and, w_or, w_not,  w_of, w_tand, w_tor, w_tnot, w_tyes, w_eif, w_call, w_attr, w_fld, w_bm, w_bmL, w_anil, w_acons, w_astar, w_app0, w_kw, pick_nil, pick_cons, Option.bind_some, w_tup, w_flst, w_fr, w_mk, w_flist, w_frev, w_fcat, w_frep, w_part0, w_part, w_slice, w_fslice, w_revT, w_dict0, w_dict, w_pnil, w_pcons, pOf, keysOf, w_ival, w_range1, w_range2, w_enum, w_zip, w_inew, w_comp, wipeL, o_add, o_sub, o_neg, o_addT, o_addS, o_cmp, o_eq, o_ne, eq_int, eq_bl, eq_str, eq_tup0, eq_lst0, eq_ref0, b_int, b_intB, wR_bind, wR_ok, wS_nx, wS_ret, wS_next, wS_ofE, wS_plain, eVar, seqOf, lstOf, itOf, o_sub2T, o_sub2L, o_sub2F, o_sub2S, o_sub2D, o_sub2R, idxT0, idxT1, idxT2, idxT3, idxL0, idxR, Gx.keyOf, Gx.setItem, mPop, mAppend, mExtend, bLen, bTup, List.getElem?_cons_zero, List.getElem?_cons_succ, List.set_cons_zero, List.set_cons_succ, List.length_cons, List.length_nil, List.nil_append, List.cons_append, Nat.reduceAdd, Int.cast_ofNat_Int, Int.reduceEq, List.isEmpty_nil, List.isEmpty_cons, Int.natCast_zero, Int.natCast_one, PySem.sizeLine_eq, Nat.reduceLT, Nat.reduceLeDiff, Nat.reduceEqDiff, if_true, if_false, Bool.false_eq_true, Bool.true_eq_false, decide_true, decide_false, Bool.not_true, Bool.not_false, eq_self, true_and, and_true, Nat.zero_add, Dk_app, In.app, Dk_len, List.append_assoc, List.length_append, Option.map_some, Option.map_none, dg0, dg1, ds0, ds1, sg0, sg1, ss0, ss1] | ((with_reducible refine And.intro ?_ ?_); (· ((try simp only [PySem.sizeLine_eq, List.length_map, List.length_append, List.length_cons, List.length_nil, List.length_take, List.length_drop]); omega))) | ((with_reducible refine wmul ?_ ?_ ?_); (· omega); (· omega)) | ((with_reducible refine wmod ?_ fun _ _ _ _ => ?_); (· omega)) | ((with_reducible refine wfdiv ?_ ?_ ?_); (· omega); (· omega)) | ((with_reducible refine draw_w (by assumption) ?_ ?_ ?_ ?_ fun _ _ _ _ _ => ?_); (· omega); (· (first | assumption | exact In.app (by assumption))); (· omega); (· omega)) | ((with_reducible refine pickI_w (by with_unfolding_all rfl) (by assumption) ?_ ?_ ?_ ?_ fun _ _ _ _ => ?_); (· omega); (· (first | assumption | exact In.app (by assumption))); (· simp); (· simp)))
      refine world_w (M := 8) h3 (by omega) (by decide) hI w1 (by omega) w3 fun gs cs Y4 hl3 v3 h4 => ?_
      have g0 := wk_of v3 hl3
      repeat (first | simp -implicitDefEqProofs only [w_seq, wR_gd, wS_gd, w_nil, w_drop, w_ret, w_retN, w_if, w_asg, w_name, w_gnil, w_gcons, w_gtup, w_gsub, w_for, w_aug, w_augS, w_c, w_bin, w_un, w_chain, w_chainB, w_and, w_or, w_not,  w_of, w_tand, w_tor, w_tnot, w_tyes, w_eif, w_call, w_attr, w_fld, w_bm, w_bmL, w_anil, w_acons, w_astar, w_app0, w_kw, pick_nil, pick_cons, Option.bind_some, w_tup, w_flst, w_fr, w_mk, w_flist, w_frev, w_fcat, w_frep, w_part0, w_part, w_slice, w_fslice, w_revT, w_dict0, w_dict, w_pnil, w_pcons, pOf, keysOf, w_ival, w_range1, w_range2, w_enum, w_zip, w_inew, w_comp, wipeL, o_add, o_sub, o_neg, o_addT, o_addS, o_cmp, o_eq, o_ne, eq_int, eq_bl, eq_str, eq_tup0, eq_lst0, eq_ref0, b_int, b_intB, wR_bind, wR_ok, wS_nx, wS_ret, wS_next, wS_ofE, wS_plain, eVar, seqOf, lstOf, itOf, o_sub2T, o_sub2L, o_sub2F, o_sub2S, o_sub2D, o_sub2R, idxT0, idxT1, idxT2, idxT3, idxL0, idxR, Gx.keyOf, Gx.setItem, mPop, mAppend, mExtend, bLen, bTup, List.getElem?_cons_zero, List.getElem?_cons_succ, List.set_cons_zero, List.set_cons_succ, List.length_cons, List.length_nil, List.nil_append, List.cons_append, Nat.reduceAdd, Int.cast_ofNat_Int, Int.reduceEq, List.isEmpty_nil, List.isEmpty_cons, Int.natCast_zero, Int.natCast_one, PySem.sizeLine_eq, Nat.reduceLT, Nat.reduceLeDiff, Nat.reduceEqDiff, if_true, if_false, Bool.false_eq_true, Bool.true_eq_false, decide_true, decide_false, Bool.not_true, Bool.not_false, eq_self, true_and, and_true, Nat.zero_add, Dk_app, In.app, Dk_len, List.append_assoc, List.length_append, Option.map_some, Option.map_none, dg0, dg1, ds0, ds1, sg0, sg1, ss0, ss1] | ((with_reducible refine And.intro ?_ ?_); (· ((try simp only [PySem.sizeLine_eq, List.length_map, List.length_append, List.length_cons, List.length_nil, List.length_take, List.length_drop]); omega))) | ((with_reducible refine wmul ?_ ?_ ?_); (· omega); (· omega)) | ((with_reducible refine wmod ?_ fun _ _ _ _ => ?_); (· omega)) | ((with_reducible refine wfdiv ?_ ?_ ?_); (· omega); (· omega)) | ((with_reducible refine draw_w (by assumption) ?_ ?_ ?_ ?_ fun _ _ _ _ _ => ?_); (· omega); (· (first | assumption | exact In.app (by assumption))); (· omega); (· omega)) | ((with_reducible refine pickI_w (by with_unfolding_all rfl) (by assumption) ?_ ?_ ?_ ?_ fun _ _ _ _ => ?_); (· omega); (· (first | assumption | exact In.app (by assumption))); (· simp); (· simp)))
      refine wS_for (fun i2 L S1 => ∃ (fs bs : List Int) (l6 l7 : Option Val) (Y1 : Dx), L = [some (.frz (ns.map .int)), some (.ref 1), some (.int (0 + i)), some (.tup rows), some (enW fs bs), some (enW gs cs), l6, l7, l8, none] ∧ S1 = Dk 1 0 Y1 S ∧ Y1.Ok (900000000 - 10000 * i - 1000 - 200 * i2) ∧ Wk (16 + i2) fs bs) ?_ ?_ ?_ ?_
      · exact ⟨fs, bs, _, _, _, rfl, rfl, h4.le (by omega), wk_of v2 hl2⟩
      · intros; rfl
      · rintro i2 x _ _ hx hi ⟨fs, bs, l6, l7, Y5, rfl, rfl, h5, w5⟩
        obtain ⟨rfl, hi4⟩ := range_at hx
        have hi5 : i2 < 12 := hi4
        repeat (first | simp -implicitDefEqProofs only [w_seq, wR_gd, wS_gd, w_nil, w_drop, w_ret, w_retN, w_if, w_asg, w_name, w_gnil, w_gcons, w_gtup, w_gsub, w_for, w_aug, w_augS, w_c, w_bin, w_un, w_chain, w_chainB, w_and, w_or, w_not,  w_of, w_tand, w_tor, w_tnot, w_tyes, w_eif, w_call, w_attr, w_fld, w_bm, w_bmL, w_anil, w_acons, w_astar, w_app0, w_kw, pick_nil, pick_cons, Option.bind_some, w_tup, w_flst, w_fr, w_mk, w_flist, w_frev, w_fcat, w_frep, w_part0, w_part, w_slice, w_fslice, w_revT, w_dict0, w_dict, w_pnil, w_pcons, pOf, keysOf, w_ival, w_range1, w_range2, w_enum, w_zip, w_inew, w_comp, wipeL, o_add, o_sub, o_neg, o_addT, o_addS, o_cmp, o_eq, o_ne, eq_int, eq_bl, eq_str, eq_tup0, eq_lst0, eq_ref0, b_int, b_intB, wR_bind, wR_ok, wS_nx, wS_ret, wS_next, wS_ofE, wS_plain, eVar, seqOf, lstOf, itOf, o_sub2T, o_sub2L, o_sub2F, o_sub2S, o_sub2D, o_sub2R, idxT0, idxT1, idxT2, idxT3, idxL0, idxR, Gx.keyOf, Gx.setItem, mPop, mAppend, mExtend, bLen, bTup, List.getElem?_cons_zero, List.getElem?_cons_succ, List.set_cons_zero, List.set_cons_succ, List.length_cons, List.length_nil, List.nil_append, List.cons_append, Nat.reduceAdd, Int.cast_ofNat_Int, Int.reduceEq, List.isEmpty_nil, List.isEmpty_cons, Int.natCast_zero, Int.natCast_one, PySem.sizeLine_eq, Nat.reduceLT, Nat.reduceLeDiff, Nat.reduceEqDiff, if_true, if_false, Bool.false_eq_true, Bool.true_eq_false, decide_true, decide_false, Bool.not_true, Bool.not_false, eq_self, true_and, and_true, Nat.zero_add, Dk_app, In.app, Dk_len, List.append_assoc, List.length_append, Option.map_some, Option.map_none, dg0, dg1, ds0, ds1, sg0, sg1, ss0, ss1] | ((with_reducible refine And.intro ?_ ?_); (· ((try simp only [PySem.sizeLine_eq, List.length_map, List.length_append, List.length_cons, List.length_nil, List.length_take, List.length_drop]); omega))) | ((with_reducible refine wmul ?_ ?_ ?_); (· omega); (· omega)) | ((with_reducible refine wmod ?_ fun _ _ _ _ => ?_); (· omega)) | ((with_reducible refine wfdiv ?_ ?_ ?_); (· omega); (· omega)) | ((with_reducible refine draw_w (by assumption) ?_ ?_ ?_ ?_ fun _ _ _ _ _ => ?_); (· omega); (· (first | assumption | exact In.app (by assumption))); (· omega); (· omega)) | ((with_reducible refine pickI_w (by with_unfolding_all rfl) (by assumption) ?_ ?_ ?_ ?_ fun _ _ _ _ => ?_); (· omega); (· (first | assumption | exact In.app (by assumption))); (· simp); (· simp)))
        refine step_w h5 (by omega) hI w5 (by omega) fun fs' bs' Y6 w6 h6 => ?_
        repeat (first | simp -implicitDefEqProofs only [w_seq, wR_gd, wS_gd, w_nil, w_drop, w_ret, w_retN, w_if, w_asg, w_name, w_gnil, w_gcons, w_gtup, w_gsub, w_for, w_aug, w_augS, w_c, w_bin, w_un, w_chain, w_chainB, w_and, w_or, w_not,  w_of, w_tand, w_tor, w_tnot, w_tyes, w_eif, w_call, w_attr, w_fld, w_bm, w_bmL, w_anil, w_acons, w_astar, w_app0, w_kw, pick_nil, pick_cons, Option.bind_some, w_tup, w_flst, w_fr, w_mk, w_flist, w_frev, w_fcat, w_frep, w_part0, w_part, w_slice, w_fslice, w_revT, w_dict0, w_dict, w_pnil, w_pcons, pOf, keysOf, w_ival, w_range1, w_range2, w_enum, w_zip, w_inew, w_comp, wipeL, o_add, o_sub, o_neg, o_addT, o_addS, o_cmp, o_eq, o_ne, eq_int, eq_bl, eq_str, eq_tup0, eq_lst0, eq_ref0, b_int, b_intB, wR_bind, wR_ok, wS_nx, wS_ret, wS_next, wS_ofE, wS_plain, eVar, seqOf, lstOf, itOf, o_sub2T, o_sub2L, o_sub2F, o_sub2S, o_sub2D, o_sub2R, idxT0, idxT1, idxT2, idxT3, idxL0, idxR, Gx.keyOf, Gx.setItem, mPop, mAppend, mExtend, bLen, bTup, List.getElem?_cons_zero, List.getElem?_cons_succ, List.set_cons_zero, List.set_cons_succ, List.length_cons, List.length_nil, List.nil_append, List.cons_append, Nat.reduceAdd, Int.cast_ofNat_Int, Int.reduceEq, List.isEmpty_nil, List.isEmpty_cons, Int.natCast_zero, Int.natCast_one, PySem.sizeLine_eq, Nat.reduceLT, Nat.reduceLeDiff, Nat.reduceEqDiff, if_true, if_false, Bool.false_eq_true, Bool.true_eq_false, decide_true, decide_false, Bool.not_true, Bool.not_false, eq_self, true_and, and_true, Nat.zero_add, Dk_app, In.app, Dk_len, List.append_assoc, List.length_append, Option.map_some, Option.map_none, dg0, dg1, ds0, ds1, sg0, sg1, ss0, ss1] | ((with_reducible refine And.intro ?_ ?_); (· ((try simp only [PySem.sizeLine_eq, List.length_map, List.length_append, List.length_cons, List.length_nil, List.length_take, List.length_drop]); omega))) | ((with_reducible refine wmul ?_ ?_ ?_); (· omega); (· omega)) | ((with_reducible refine wmod ?_ fun _ _ _ _ => ?_); (· omega)) | ((with_reducible refine wfdiv ?_ ?_ ?_); (· omega); (· omega)) | ((with_reducible refine draw_w (by assumption) ?_ ?_ ?_ ?_ fun _ _ _ _ _ => ?_); (· omega); (· (first | assumption | exact In.app (by assumption))); (· omega); (· omega)) | ((with_reducible refine pickI_w (by with_unfolding_all rfl) (by assumption) ?_ ?_ ?_ ?_ fun _ _ _ _ => ?_); (· omega); (· (first | assumption | exact In.app (by assumption))); (· simp); (· simp)))
        exact hold ⟨_, _, _, _, _, rfl, rfl, h6.le (by omega), w6⟩
      · rintro _ _ ⟨fs, bs, l6, l7, Y5, rfl, rfl, h5, w5⟩
        have e4 : (rangeV 0 (Int.toNat 12)).length = 12 := by decide
        rw [e4] at h5 w5
        have wl := w5.len
        have wb := w5.lb
        have gl := g0.len
        have gb := g0.lb
        have B1 := w5.bk (by omega)
        have B2 := g0.bk (by omega)
        have W3 := w5.both g0
        have B3 := W3.bk (by omega)
        have c1 : ∀ S : Store, f_w_code cB [enW fs bs] S = .ok (bookV cB fs bs) S := fun S => code_eq B1
        have c2 : ∀ S : Store, f_w_code cB [enW gs cs] S = .ok (bookV cB gs cs) S := fun S => code_eq B2
        have b1 : ∀ S : Store, f_p_Book_with_book cB [bookV cB fs bs, bookV cB gs cs] S = .ok (bookV cB (fs ++ farN fs.length gs) (bs ++ cs)) S := fun S => with_book_eq (by omega) (by omega) (by omega) (by omega) B3
        have b2 : ∀ S : Store, f_p_Book_with_book cB [bookV cB fs bs, bookV cB [] []] S = .ok (bookV cB fs bs) S := fun S => by
          have := with_book_eq (cB := cB) (S := S) (fs := fs) (bs := bs) (gs := []) (cs := []) (by omega) (by simp) (by omega) (by simp) (by simpa [farN] using B1)
          simpa [farN] using this
        have far0 : farN (([] : List Int).length) gs = gs := by
          simp only [farN, List.length_nil]
          conv => rhs; rw [← List.map_id gs]
          refine List.map_congr_left fun x _ => ?_
          show (if x = -1 then -1 else x + 0) = x
          split <;> omega
        have b3 : ∀ S : Store, f_p_Book_with_book cB [bookV cB [] [], bookV cB gs cs] S = .ok (bookV cB gs cs) S := fun S => by
          have := with_book_eq (cB := cB) (S := S) (fs := []) (bs := []) (gs := gs) (cs := cs) (by simp) (by omega) (by simp) (by omega) (by rw [far0]; simpa using B2)
          rw [far0] at this
          simpa using this
        have a1 : ∀ S : Store, f_w_beside cB [enW fs bs, enW gs cs] S = .ok (enW (fs ++ farN fs.length gs) (bs ++ cs)) S := fun S => beside_eq (by omega) (by omega) (by omega) (by omega) fun x hx => by
          obtain ⟨q, hq⟩ := List.getElem?_of_mem hx
          exact (g0.fr q x hq).1
        have sm : ∀ b ∈ bs ++ cs, b.natAbs < 2 ^ 64 := fun b hb => by
          have := W3.sp b hb
          have h3 : (2 : Nat) ^ 64 = 18446744073709551616 := by decide
          omega
        have l3 := W3.len
        have l4 := W3.lb
        have i1 : ∀ S : Store, f_w_is_made cB [bookV cB (fs ++ farN fs.length gs) (bs ++ cs), enW (fs ++ farN fs.length gs) (bs ++ cs)] S = .ok (.bl true) S := fun S => made_eq B3.ups sm (by omega) (by omega) rfl rfl
        repeat (first | simp -implicitDefEqProofs only [w_seq, wR_gd, wS_gd, w_nil, w_drop, w_ret, w_retN, w_if, w_asg, w_name, w_gnil, w_gcons, w_gtup, w_gsub, w_for, w_aug, w_augS, w_c, w_bin, w_un, w_chain, w_chainB, w_and, w_or, w_not,  w_of, w_tand, w_tor, w_tnot, w_tyes, w_eif, w_call, w_attr, w_fld, w_bm, w_bmL, w_anil, w_acons, w_astar, w_app0, w_kw, pick_nil, pick_cons, Option.bind_some, w_tup, w_flst, w_fr, w_mk, w_flist, w_frev, w_fcat, w_frep, w_part0, w_part, w_slice, w_fslice, w_revT, w_dict0, w_dict, w_pnil, w_pcons, pOf, keysOf, w_ival, w_range1, w_range2, w_enum, w_zip, w_inew, w_comp, wipeL, o_add, o_sub, o_neg, o_addT, o_addS, o_cmp, o_eq, o_ne, eq_int, eq_bl, eq_str, eq_tup0, eq_lst0, eq_ref0, b_int, b_intB, wR_bind, wR_ok, wS_nx, wS_ret, wS_next, wS_ofE, wS_plain, eVar, seqOf, lstOf, itOf, o_sub2T, o_sub2L, o_sub2F, o_sub2S, o_sub2D, o_sub2R, idxT0, idxT1, idxT2, idxT3, idxL0, idxR, Gx.keyOf, Gx.setItem, mPop, mAppend, mExtend, bLen, bTup, List.getElem?_cons_zero, List.getElem?_cons_succ, List.set_cons_zero, List.set_cons_succ, List.length_cons, List.length_nil, List.nil_append, List.cons_append, Nat.reduceAdd, Int.cast_ofNat_Int, Int.reduceEq, List.isEmpty_nil, List.isEmpty_cons, Int.natCast_zero, Int.natCast_one, PySem.sizeLine_eq, Nat.reduceLT, Nat.reduceLeDiff, Nat.reduceEqDiff, if_true, if_false, Bool.false_eq_true, Bool.true_eq_false, decide_true, decide_false, Bool.not_true, Bool.not_false, eq_self, true_and, and_true, Nat.zero_add, Dk_app, In.app, Dk_len, List.append_assoc, List.length_append, Option.map_some, Option.map_none, dg0, dg1, ds0, ds1, sg0, sg1, ss0, ss1, w_appD, c1, c2, w_meth, obj_book, lk_wbk, b1, b2, b3, a1, i1, w_make, m0, eqO_book, and_self] | ((with_reducible refine And.intro ?_ ?_); (· ((try simp only [PySem.sizeLine_eq, List.length_map, List.length_append, List.length_cons, List.length_nil, List.length_take, List.length_drop]); omega))) | ((with_reducible refine wmul ?_ ?_ ?_); (· omega); (· omega)) | ((with_reducible refine wmod ?_ fun _ _ _ _ => ?_); (· omega)) | ((with_reducible refine wfdiv ?_ ?_ ?_); (· omega); (· omega)) | ((with_reducible refine draw_w (by assumption) ?_ ?_ ?_ ?_ fun _ _ _ _ _ => ?_); (· omega); (· (first | assumption | exact In.app (by assumption))); (· omega); (· omega)) | ((with_reducible refine pickI_w (by with_unfolding_all rfl) (by assumption) ?_ ?_ ?_ ?_ fun _ _ _ _ => ?_); (· omega); (· (first | assumption | exact In.app (by assumption))); (· simp); (· simp)))
        exact hold ⟨_, _, _, _, _, _, _, _, rfl, rfl, h5.le (by omega)⟩
    · rintro _ _ ⟨l2, l3, l4, l5, l6, l7, l8, Y4, rfl, rfl, h4⟩
      have m1 : ∀ S : Store, mkR cB (f_p_Book___init__ cB) 3 [.tup [.int (-1), .int 0, .int 0, .int 1], .tup [.int 30, .int 10, .int 20, .int 10]] S = .ok (bookV cB [-1, 0, 0, 1] [30, 10, 20, 10]) S := fun S => mk_book (fs := [-1, 0, 0, 1]) (bs := [30, 10, 20, 10]) (bk_of (by decide) (by decide) (by decide) (by decide))
      have m2 : ∀ S : Store, mkR cB (f_p_Book___init__ cB) 3 [.tup [.int (-1), .int 0, .int 0], .tup [.int 30, .int 20, .int 10]] S = .ok (bookV cB [-1, 0, 0] [30, 20, 10]) S := fun S => mk_book (fs := [-1, 0, 0]) (bs := [30, 20, 10]) (bk_of (by decide) (by decide) (by decide) (by decide))
      have m3 : ∀ S : Store, mkR cB (f_p_Book___init__ cB) 3 [.tup [.int (-1), .int (-1), .int 0], .tup [.int 10, .int 20, .int 10]] S = .ok (bookV cB [-1, -1, 0] [10, 20, 10]) S := fun S => mk_book (fs := [-1, -1, 0]) (bs := [10, 20, 10]) (bk_of (by decide) (by decide) (by decide) (by decide))
      have q1 : outN [-1, 0, 0, 1] 1 [-1, 0, 0, (1 : Int)].length = [-1, 0, 0] := by decide +kernel
      have q2 : delN [30, 10, 20, 10] 1 = [30, 20, 10] := by decide +kernel
      have q3 : outN [-1, 0, 0, 1] 0 [-1, 0, 0, (1 : Int)].length = [-1, -1, 0] := by decide +kernel
      have q4 : delN [30, 10, 20, 10] 0 = [10, 20, 10] := by decide +kernel
      have a1 : ∀ S : Store, f_p_Book_without cB [bookV cB [-1, 0, 0, 1] [30, 10, 20, 10], .int 1] S = .ok (bookV cB [-1, 0, 0] [30, 20, 10]) S := fun S => by
        have := without_eq (cB := cB) (S := S) (fs := [-1, 0, 0, 1]) (bs := [30, 10, 20, 10]) (j := 1) (by decide) (by decide) (by decide) (by rw [q1, q2]; exact bk_of (by decide) (by decide) (by decide) (by decide))
        rw [q1, q2] at this; exact this
      have a2 : ∀ S : Store, f_p_Book_without cB [bookV cB [-1, 0, 0, 1] [30, 10, 20, 10], .int 0] S = .ok (bookV cB [-1, -1, 0] [10, 20, 10]) S := fun S => by
        have := without_eq (cB := cB) (S := S) (fs := [-1, 0, 0, 1]) (bs := [30, 10, 20, 10]) (j := 0) (by decide) (by decide) (by decide) (by rw [q3, q4]; exact bk_of (by decide) (by decide) (by decide) (by decide))
        rw [q3, q4] at this; exact this
      repeat (first | simp -implicitDefEqProofs only [w_seq, wR_gd, wS_gd, w_nil, w_drop, w_ret, w_retN, w_if, w_asg, w_name, w_gnil, w_gcons, w_gtup, w_gsub, w_for, w_aug, w_augS, w_c, w_bin, w_un, w_chain, w_chainB, w_and, w_or, w_not,  w_of, w_tand, w_tor, w_tnot, w_tyes, w_eif, w_call, w_attr, w_fld, w_bm, w_bmL, w_anil, w_acons, w_astar, w_app0, w_kw, pick_nil, pick_cons, Option.bind_some, w_tup, w_flst, w_fr, w_mk, w_flist, w_frev, w_fcat, w_frep, w_part0, w_part, w_slice, w_fslice, w_revT, w_dict0, w_dict, w_pnil, w_pcons, pOf, keysOf, w_ival, w_range1, w_range2, w_enum, w_zip, w_inew, w_comp, wipeL, o_add, o_sub, o_neg, o_addT, o_addS, o_cmp, o_eq, o_ne, eq_int, eq_bl, eq_str, eq_tup0, eq_lst0, eq_ref0, b_int, b_intB, wR_bind, wR_ok, wS_nx, wS_ret, wS_next, wS_ofE, wS_plain, eVar, seqOf, lstOf, itOf, o_sub2T, o_sub2L, o_sub2F, o_sub2S, o_sub2D, o_sub2R, idxT0, idxT1, idxT2, idxT3, idxL0, idxR, Gx.keyOf, Gx.setItem, mPop, mAppend, mExtend, bLen, bTup, List.getElem?_cons_zero, List.getElem?_cons_succ, List.set_cons_zero, List.set_cons_succ, List.length_cons, List.length_nil, List.nil_append, List.cons_append, Nat.reduceAdd, Int.cast_ofNat_Int, Int.reduceEq, List.isEmpty_nil, List.isEmpty_cons, Int.natCast_zero, Int.natCast_one, PySem.sizeLine_eq, Nat.reduceLT, Nat.reduceLeDiff, Nat.reduceEqDiff, if_true, if_false, Bool.false_eq_true, Bool.true_eq_false, decide_true, decide_false, Bool.not_true, Bool.not_false, eq_self, true_and, and_true, Nat.zero_add, Dk_app, In.app, Dk_len, List.append_assoc, List.length_append, Option.map_some, Option.map_none, dg0, dg1, ds0, ds1, sg0, sg1, ss0, ss1, w_make, m1, m2, m3, w_meth, obj_book, lk_wo, a1, a2, eqO_book, and_self] | ((with_reducible refine And.intro ?_ ?_); (· ((try simp only [PySem.sizeLine_eq, List.length_map, List.length_append, List.length_cons, List.length_nil, List.length_take, List.length_drop]); omega))) | ((with_reducible refine wmul ?_ ?_ ?_); (· omega); (· omega)) | ((with_reducible refine wmod ?_ fun _ _ _ _ => ?_); (· omega)) | ((with_reducible refine wfdiv ?_ ?_ ?_); (· omega); (· omega)) | ((with_reducible refine draw_w (by assumption) ?_ ?_ ?_ ?_ fun _ _ _ _ _ => ?_); (· omega); (· (first | assumption | exact In.app (by assumption))); (· omega); (· omega)) | ((with_reducible refine pickI_w (by with_unfolding_all rfl) (by assumption) ?_ ?_ ?_ ?_ fun _ _ _ _ => ?_); (· omega); (· (first | assumption | exact In.app (by assumption))); (· simp); (· simp)))
      exact wR_gcT (S := []) (T := Dk 1 0 Y4 S) rfl rfl
  obtain ⟨v, S, e, rfl⟩ := wR_ok_of go
  exact ⟨S, e⟩
end K10
end
set_option Elab.async false
set_option linter.all false
set_option maxHeartbeats 4000000
set_option maxRecDepth 100000
set_option autoImplicit false
open PySem PySem.W PyProof.Rows
set_option maxRecDepth 100000 in
set_option maxHeartbeats 0 in
theorem PySem.Challenge.cw_chainshares_k10_books_changed_holds : PySem.Challenge.rw_chainshares_k10_books_changed.Holds := by
  w_on; o_law; k_head; (case hw => w_witness2)
  k_fill
  refine Gx.walkG (n := 63) (k := 8) (x := "_law_script") (l := PySem.Challenge.rw_chainshares_k10_books_changed) (f := fun K => K10.f_law (Gx.clsOf K "Book")) rfl (by decide) rfl (Gx.room_of (by decide +kernel)) rfl (fun w h Y => PySem.W.kIn_of Y) ?F (fun _ ns hl => K10.law_true ns hl)
  case F =>
    intro w mg fa h KX G hmg
    refine' K10.all_mk KX G hmg ?g_Book ?q_Book ?mk_Book ?kp_Book ?f_Book_ups ?f_Book_buys ?f_Book_pairs_kept ?f_Book_sales ?a0 ?l0 ?c0 ?k0 ?a1 ?l1 ?c1 ?k1 ?a2 ?l2 ?c2 ?k2 ?a3 ?l3 ?c3 ?k3 ?a4 ?l4 ?c4 ?k4 ?a5 ?l5 ?c5 ?k5 ?a6 ?l6 ?c6 ?k6 ?a7 ?l7 ?c7 ?k7 ?a8 ?l8 ?c8 ?k8 ?a9 ?l9 ?c9 ?k9 ?n9 ?t9 ?w9_0 ?w9_1 ?a10 ?l10 ?c10 ?k10 ?a11 ?l11 ?c11 ?k11 ?n11 ?a12 ?l12 ?c12 ?k12 ?n12 ?a13 ?l13 ?c13 ?k13 ?n13 ?a14 ?l14 ?c14 ?k14 ?n14 ?a15 ?l15 ?c15 ?k15 ?a16 ?l16 ?c16 ?k16 ?a17 ?l17 ?c17 ?k17 ?a18 ?l18 ?c18 ?k18 ?n18 ?a19 ?l19 ?c19 ?k19 ?a20 ?l20 ?c20 ?k20 ?v_NOBODY ?z_all ?z_bool ?z_enumerate ?z_int ?z_isinstance ?z_len ?z_list ?z_max ?z_range ?z_repr ?z_sum ?z_tuple ?z_zip
    (case g_Book => k_is)
    (case q_Book => constructor <;> k_is)
    (case mk_Book => k_is)
    (case kp_Book => k_is)
    (case f_Book_ups => k_is)
    (case f_Book_buys => k_is)
    (case f_Book_pairs_kept => k_is)
    (case f_Book_sales => k_is)
    (case a0 => k_is)
    (case l0 => k_is)
    (case c0 => k_is)
    (case k0 => k_is)
    (case a1 => k_is)
    (case l1 => k_is)
    (case c1 => k_is)
    (case k1 => k_is)
    (case a2 => k_is)
    (case l2 => k_is)
    (case c2 => k_is)
    (case k2 => k_is)
    (case a3 => k_is)
    (case l3 => k_is)
    (case c3 => k_is)
    (case k3 => k_is)
    (case a4 => k_is)
    (case l4 => k_is)
    (case c4 => k_is)
    (case k4 => k_is)
    (case a5 => k_is)
    (case l5 => k_is)
    (case c5 => k_is)
    (case k5 => k_is)
    (case a6 => k_is)
    (case l6 => k_is)
    (case c6 => k_is)
    (case k6 => k_is)
    (case a7 => k_is)
    (case l7 => k_is)
    (case c7 => k_is)
    (case k7 => k_is)
    (case a8 => k_is)
    (case l8 => k_is)
    (case c8 => k_is)
    (case k8 => k_is)
    (case a9 => k_is)
    (case l9 => k_is)
    (case c9 => k_is)
    (case k9 => k_is)
    (case n9 => k_is)
    (case t9 => k_is)
    (case w9_0 => k_is)
    (case w9_1 => k_is)
    (case a10 => k_is)
    (case l10 => k_is)
    (case c10 => k_is)
    (case k10 => k_is)
    (case a11 => k_is)
    (case l11 => k_is)
    (case c11 => k_is)
    (case k11 => k_is)
    (case n11 => k_is)
    (case a12 => k_is)
    (case l12 => k_is)
    (case c12 => k_is)
    (case k12 => k_is)
    (case n12 => k_is)
    (case a13 => k_is)
    (case l13 => k_is)
    (case c13 => k_is)
    (case k13 => k_is)
    (case n13 => k_is)
    (case a14 => k_is)
    (case l14 => k_is)
    (case c14 => k_is)
    (case k14 => k_is)
    (case n14 => k_is)
    (case a15 => k_is)
    (case l15 => k_is)
    (case c15 => k_is)
    (case k15 => k_is)
    (case a16 => k_is)
    (case l16 => k_is)
    (case c16 => k_is)
    (case k16 => k_is)
    (case a17 => k_is)
    (case l17 => k_is)
    (case c17 => k_is)
    (case k17 => k_is)
    (case a18 => k_is)
    (case l18 => k_is)
    (case c18 => k_is)
    (case k18 => k_is)
    (case n18 => k_is)
    (case a19 => k_is)
    (case l19 => k_is)
    (case c19 => k_is)
    (case k19 => k_is)
    (case a20 => k_is)
    (case l20 => k_is)
    (case c20 => k_is)
    (case k20 => k_is)
    (case v_NOBODY => k_is)
    (case z_all => k_is)
    (case z_bool => k_is)
    (case z_enumerate => k_is)
    (case z_int => k_is)
    (case z_isinstance => k_is)
    (case z_len => k_is)
    (case z_list => k_is)
    (case z_max => k_is)
    (case z_range => k_is)
    (case z_repr => k_is)
    (case z_sum => k_is)
    (case z_tuple => k_is)
    (case z_zip => k_is)
