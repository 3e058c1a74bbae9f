import PyProof.Rows.All
import Wide.All
import OpenK.AllK
import Wide.FinOn
import HandS.ForMost
import HandS.ForExc
import HandS.Wide
import KE.KeyNested
import HandS.TupAny
import HandS.Deep
import HandS.Style
import HandS.Walk
import HandS.NoneIn
import HandS.Small
import HandS.Zip
import KE.GoesEnumKw
import HandS.Words
import HandS.IsInst
import HandS.RaiseMore
import HandS.SetKeys
import KE.GoesZip
import HandS.RevTup
import HandS.OwnEq
import HandS.NamedTupGet
import PyProof.InstNe
import KE.KTupSum
import HandS.Star
import HandS.SetBool
import HandS.Strs
import KE.KDictZip
import HandS.TupMul
import HandS.Conv
import HandS.WordsExc
import HandS.CallSlots
import HandS.ExcCtx
import HandS.SuiteRaise
import HandS.IterVal
import KE.KOwnIter
import HandS.ExcInit
import HandS.TryMany
import HandS.ExcField
import HandS.ExcIs
import HandS.ExcOwn
import HandS.RaiseFrom
import HandS.ExcInitHot
import PyProof.ReprLen
import KE.DataMinMax
import KE.SortData
import HandS.SetFor
import HandS.ClsMeth
import KE.KCallOwn
import PyProof.Rows.StrMul
import KE.KUnpackStar
import HandS.DictTup
import KE.KDictSum
import HandS.DictComp
import KE.KAssignIn
import KE.KDictPairs
import PyProof.RulesMatch
import KE.OsRunLaw
import PySem.Challenge.RW_chainshares_k39_changes_taken_back
set_option linter.all false
set_option autoImplicit false
set_option Elab.async false
section
namespace Gx
open PySem

inductive Val where
  | non | bl (b : Bool) | int (i : Int) | str (s : Str) | ty (n : String) | gl (a : Addr)
  | tup (xs : List Val)
  | lst (xs : List Val)
  | frz (xs : List Val)
  | ptp (xs : List Val)
  | dct (kvs : List (L2.Key × Val))
  | dtt (kvs : List (List Int × Val))
  | obj (C : Addr) (fs : List (Str × Val))
  | ref (n : Nat)

mutual
def Val.beq : Val → Val → Bool
  | .non, .non => true
  | .bl a, .bl b => a == b
  | .int a, .int b => a == b
  | .str a, .str b => a == b
  | .ty a, .ty b => a == b
  | .gl a, .gl b => a == b
  | .tup a, .tup b => Val.beqs a b
  | .lst a, .lst b => Val.beqs a b
  | .frz a, .frz b => Val.beqs a b
  | .ptp a, .ptp b => Val.beqs a b
  | .dct a, .dct b => Val.beqK a b
  | .dtt a, .dtt b => Val.beqT a b
  | .obj C a, .obj D b => C == D && Val.beqF a b
  | .ref a, .ref b => a == b
  | _, _ => false
def Val.beqs : List Val → List Val → Bool
  | [], [] => true
  | x :: xs, y :: ys => Val.beq x y && Val.beqs xs ys
  | _, _ => false
def Val.beqK : List (L2.Key × Val) → List (L2.Key × Val) → Bool
  | [], [] => true
  | (k, x) :: xs, (l, y) :: ys => decide (k = l) && Val.beq x y && Val.beqK xs ys
  | _, _ => false
def Val.beqT : List (List Int × Val) → List (List Int × Val) → Bool
  | [], [] => true
  | (k, x) :: xs, (l, y) :: ys => decide (k = l) && Val.beq x y && Val.beqT xs ys
  | _, _ => false
def Val.beqF : List (Str × Val) → List (Str × Val) → Bool
  | [], [] => true
  | (k, x) :: xs, (l, y) :: ys => decide (k = l) && Val.beq x y && Val.beqF xs ys
  | _, _ => false
end
mutual
theorem Val.beq_iff : ∀ (a b : Val), Val.beq a b = true ↔ a = b
  | .non, b => by cases b <;> simp [Val.beq]
  | .bl _, b => by cases b <;> simp [Val.beq]
  | .int _, b => by cases b <;> simp [Val.beq]
  | .str _, b => by cases b <;> simp [Val.beq]
  | .ty _, b => by cases b <;> simp [Val.beq]
  | .gl _, b => by cases b <;> simp [Val.beq]
  | .ref _, b => by cases b <;> simp [Val.beq]
  | .tup xs, b => by cases b <;> simp [Val.beq, Val.beqs_iff xs]
  | .lst xs, b => by cases b <;> simp [Val.beq, Val.beqs_iff xs]
  | .frz xs, b => by cases b <;> simp [Val.beq, Val.beqs_iff xs]
  | .ptp xs, b => by cases b <;> simp [Val.beq, Val.beqs_iff xs]
  | .dct xs, b => by cases b <;> simp [Val.beq, Val.beqK_iff xs]
  | .dtt xs, b => by cases b <;> simp [Val.beq, Val.beqT_iff xs]
  | .obj C xs, b => by cases b <;> simp [Val.beq, Val.beqF_iff xs]
theorem Val.beqs_iff : ∀ (a b : List Val), Val.beqs a b = true ↔ a = b
  | [], b => by cases b <;> simp [Val.beqs]
  | x :: xs, b => by cases b <;> simp [Val.beqs, Val.beq_iff x, Val.beqs_iff xs]
theorem Val.beqK_iff : ∀ (a b : List (L2.Key × Val)), Val.beqK a b = true ↔ a = b
  | [], b => by cases b <;> simp [Val.beqK]
  | (k, x) :: xs, b => by
    cases b with
    | nil => simp [Val.beqK]
    | cons y ys => obtain ⟨l, y⟩ := y; simp [Val.beqK, Val.beq_iff x, Val.beqK_iff xs]
theorem Val.beqT_iff : ∀ (a b : List (List Int × Val)), Val.beqT a b = true ↔ a = b
  | [], b => by cases b <;> simp [Val.beqT]
  | (k, x) :: xs, b => by
    cases b with
    | nil => simp [Val.beqT]
    | cons y ys => obtain ⟨l, y⟩ := y; simp [Val.beqT, Val.beq_iff x, Val.beqT_iff xs]
theorem Val.beqF_iff : ∀ (a b : List (Str × Val)), Val.beqF a b = true ↔ a = b
  | [], b => by cases b <;> simp [Val.beqF]
  | (k, x) :: xs, b => by
    cases b with
    | nil => simp [Val.beqF]
    | cons y ys => obtain ⟨l, y⟩ := y; simp [Val.beqF, Val.beq_iff x, Val.beqF_iff xs]
end
instance : DecidableEq Val := fun a b => decidable_of_iff _ (Val.beq_iff a b)

inductive Cell where
  | lst (xs : List Val)
  | dct (kvs : List (L2.Key × Val))
  | dtt (kvs : List (List Int × Val))
  | dnt (kvs : List (Val × Int))
  | ins (C : Addr) (fs : List (Str × Val))
  deriving DecidableEq
abbrev Store := List Cell
abbrev Loc := List (Option Val)

inductive XT where
  | ShareError | BadRule | BadBook | BadText | NoMember | NothingToUndo | NothingToRedo | NoRule | InvalidCommand
  deriving DecidableEq
def xname : XT → Str
  | .ShareError => "ShareError" | .BadRule => "BadRule" | .BadBook => "BadBook" | .BadText => "BadText" | .NoMember => "NoMember"
  | .NothingToUndo => "NothingToUndo" | .NothingToRedo => "NothingToRedo" | .NoRule => "NoRule" | .InvalidCommand => "InvalidCommand"
structure Exc where
  cls : XT
  fs : List (Str × Val)
  deriving DecidableEq
inductive R (α : Type) where
  | ok (a : α) (S : Store) | exn (x : Exc) (S : Store) | bad
def R.bind {α β : Type} (r : R α) (f : α → Store → R β) : R β :=
  match r with
  | .ok a S => f a S
  | .exn x S => .exn x S
  | .bad => .bad
inductive RS where
  | nx (L : Loc) (S : Store) | ret (v : Val) (S : Store) | exn (x : Exc) (L : Loc) (S : Store) | bad
abbrev E := Loc → Store → R Val
abbrev T := Loc → Store → R Bool
abbrev A := Loc → Store → R (List Val)
abbrev SS := Loc → Store → RS
@[simp] theorem R.bind_ok {α β : Type} (a : α) (S : Store) (f : α → Store → R β) : (R.ok a S).bind f = f a S := rfl
@[simp] theorem R.bind_exn {α β : Type} (x : Exc) (S : Store) (f : α → Store → R β) : (R.exn x S).bind f = .exn x S := rfl
@[simp] theorem R.bind_bad {α β : Type} (f : α → Store → R β) : (R.bad : R α).bind f = .bad := rfl

def eC (v : Val) : E := fun _ S => .ok v S
def eVar (i : Nat) : E := fun L S => match L[i]? with | some (some v) => .ok v S | _ => .bad
abbrev O := Val → Val → Store → R Val
def eBin (f : O) (a b : E) : E := fun L S => (a L S).bind fun x S1 => (b L S1).bind fun y S2 => f x y S2
def eUn (f : Val → Store → R Val) (a : E) : E := fun L S => (a L S).bind f

def oAdd : O
  | .int i, .int j, S => .ok (.int (i + j)) S
  | .str a, .str b, S => if a.length + b.length ≤ sizeLine then .ok (.str (a ++ b)) S else .bad
  | .tup xs, .tup ys, S => if xs.length + ys.length ≤ sizeLine then .ok (.tup (xs ++ ys)) S else .bad
  | _, _, _ => .bad
def oSub : O
  | .int i, .int j, S => .ok (.int (i - j)) S
  | _, _, _ => .bad
def oMul : O
  | .int i, .int j, S => if i.natAbs.log2 + j.natAbs.log2 < 1000000 then .ok (.int (i * j)) S else .bad
  | _, _, _ => .bad
def oFdiv : O
  | .int i, .int j, S => if 0 < j ∧ j.natAbs.log2 < 9000 then .ok (.int (i / j)) S else .bad
  | _, _, _ => .bad
def oMod : O
  | .int i, .int j, S => if 0 < j then .ok (.int (i % j)) S else .bad
  | _, _, _ => .bad
def oPow : O
  | .int i, .int j, S => if 0 ≤ j ∧ j ≤ 1000000 ∧ i.natAbs < 2 ^ 64 then .ok (.int (i ^ j.toNat)) S else .bad
  | _, _, _ => .bad
def oNeg : Val → Store → R Val
  | .int i, S => .ok (.int (-i)) S
  | _, _ => .bad

def oCmp (p : Int → Int → Bool) : O
  | .int i, .int j, S => .ok (.bl (p i j)) S
  | _, _, _ => .bad
abbrev oLt : O := oCmp fun i j => decide (i < j)
abbrev oLe : O := oCmp fun i j => decide (i ≤ j)
abbrev oGt : O := oCmp fun i j => decide (j < i)
abbrev oGe : O := oCmp fun i j => decide (j ≤ i)

def seqOf (S : Store) : Val → Option (Bool × List Val)
  | .tup xs => some (false, xs)
  | .lst xs => some (true, xs)
  | .frz xs => some (true, xs)
  | .ptp xs => some (false, xs)
  | .ref n => match S[n]? with | some (.lst xs) => some (true, xs) | _ => none
  | _ => none
def lstOf (S : Store) : Val → Option (List Val)
  | .lst xs => some xs
  | .ref n => match S[n]? with | some (.lst xs) => some xs | _ => none
  | _ => none
mutual
def dat : Val → Option PyData
  | .non => some .none
  | .bl b => some (.bool b)
  | .int i => some (.int i)
  | .str s => some (.str s)
  | .tup xs => (dats xs).map .tuple
  | .ptp xs => (dats xs).map .tuple
  | .lst xs => (dats xs).map .list
  | _ => none
def dats : List Val → Option (List PyData)
  | [] => some []
  | x :: xs => match dat x, dats xs with | some d, some ds => some (d :: ds) | _, _ => none
end
def datS (S : Store) : Val → Option PyData
  | .ref n => match S[n]? with | some (.lst xs) => dat (.lst xs) | _ => none
  | v => dat v
def pyEq (S : Store) (x y : Val) : Option Bool :=
  match x, y with
  | .non, .non => some true
  | .non, .int _ => some false
  | .int _, .non => some false
  | .non, .str _ => some false
  | .str _, .non => some false
  | .int i, .int j => some (decide (i = j))
  | .bl a, .bl b => some (decide (a = b))
  | .str a, .str b => some (decide (a = b))
  | .tup xs, .tup [] => some xs.isEmpty
  | .lst xs, .lst [] => some xs.isEmpty
  | .ref n, .lst [] => match S[n]? with | some (.lst xs) => some xs.isEmpty | _ => none
  | x, y => match datS S x, datS S y with
    | some d, some e => if SeqAt.shaped d && SeqAt.shaped e then some (PyData.eqv d e) else none
    | _, _ => none
def oEq : O := fun x y S => match pyEq S x y with | some b => .ok (.bl b) S | none => .bad
def oNe : O := fun x y S => match pyEq S x y with | some b => .ok (.bl (!b)) S | none => .bad
def oNotN : O := fun x y S => match y with | .non => .ok (.bl (match x with | .non => false | _ => true)) S | _ => .bad
def eChain (f g : O) (a b c : E) : E := fun L S => (a L S).bind fun x S1 => (b L S1).bind fun y S2 => (f x y S2).bind fun z S3 =>
  match z with
  | .bl true => (c L S3).bind fun w S4 => g y w S4
  | .bl false => .ok (.bl false) S3
  | _ => .bad

def eAnd (a b : E) : E := fun L S => (a L S).bind fun x S1 => match x with | .bl true => b L S1 | .bl false => .ok (.bl false) S1 | _ => .bad
def eOr (a b : E) : E := fun L S => (a L S).bind fun x S1 => match x with | .bl true => .ok (.bl true) S1 | .bl false => b L S1 | _ => .bad
def eNot (a : E) : E := fun L S => (a L S).bind fun x S1 => match x with | .bl c => .ok (.bl (!c)) S1 | _ => .bad
def tOf (a : E) : T := fun L S => (a L S).bind fun x S1 => match x with | .bl c => .ok c S1 | _ => .bad
def tAnd (a b : T) : T := fun L S => (a L S).bind fun x S1 => if x then b L S1 else .ok false S1
def tOr (a b : T) : T := fun L S => (a L S).bind fun x S1 => if x then .ok true S1 else b L S1
def tNot (a : T) : T := fun L S => (a L S).bind fun x S1 => .ok (!x) S1
def eIf (c : T) (a b : E) : E := fun L S => (c L S).bind fun x S1 => if x then a L S1 else b L S1

def aNil : A := fun _ S => .ok [] S
def aCons (e : E) (r : A) : A := fun L S => (e L S).bind fun x S1 => (r L S1).bind fun xs S2 => .ok (x :: xs) S2
def aStar (e : E) (r : A) : A := fun L S => (e L S).bind fun x S1 => match seqOf S1 x with
  | some (_, xs) => (r L S1).bind fun ys S2 => .ok (xs ++ ys) S2
  | none => .bad
def eTup (a : A) : E := fun L S => (a L S).bind fun xs S1 => if xs.length ≤ sizeLine then .ok (.tup xs) S1 else .bad
def fLst (a : A) : A := fun L S => (a L S).bind fun xs S1 => if xs.length ≤ sizeLine then .ok xs S1 else .bad
def eFr (f : A) : E := fun L S => (f L S).bind fun xs S1 => .ok (.lst xs) S1
def eMk (f : A) : E := fun L S => (f L S).bind fun xs S1 => .ok (.ref S1.length) (S1 ++ [.lst xs])

def ofE {α : Type} (L : Loc) (r : R α) (f : α → Store → RS) : RS :=
  match r with
  | .ok v S => f v S
  | .exn x S => .exn x L S
  | .bad => .bad
@[simp] theorem ofE_ok {α : Type} (L : Loc) (a : α) (S : Store) (f : α → Store → RS) : ofE L (.ok a S) f = f a S := rfl
@[simp] theorem ofE_exn {α : Type} (L : Loc) (x : Exc) (S : Store) (f : α → Store → RS) : ofE L (.exn x S) f = .exn x L S := rfl
@[simp] theorem ofE_bad {α : Type} (L : Loc) (f : α → Store → RS) : ofE L .bad f = .bad := rfl
def RS.next (r : RS) (f : Loc → Store → RS) : RS :=
  match r with
  | .nx L S => f L S
  | .ret v S => .ret v S
  | .exn x L S => .exn x L S
  | .bad => .bad
@[simp] theorem next_nx (L : Loc) (S : Store) (f : Loc → Store → RS) : (RS.nx L S).next f = f L S := rfl
@[simp] theorem next_ret (v : Val) (S : Store) (f : Loc → Store → RS) : (RS.ret v S).next f = .ret v S := rfl
@[simp] theorem next_exn (x : Exc) (L : Loc) (S : Store) (f : Loc → Store → RS) : (RS.exn x L S).next f = .exn x L S := rfl
@[simp] theorem next_bad (f : Loc → Store → RS) : RS.bad.next f = .bad := rfl
def RS.plain : RS → RS
  | .ret _ _ => .bad
  | r => r
@[simp] theorem plain_nx (L : Loc) (S : Store) : (RS.nx L S).plain = .nx L S := rfl
@[simp] theorem plain_bad : RS.bad.plain = .bad := rfl
def sNil : SS := fun L S => .nx L S
def sSeq (a b : SS) : SS := fun L S => (a L S).next b
def sDrop (e : E) : SS := fun L S => ofE L (e L S) fun _ S1 => .nx L S1
def sRet (e : E) : SS := fun L S => ofE L (e L S) fun v S1 => .ret v S1
def sRetN : SS := fun _ S => .ret .non S
def sIf (c : T) (a b : SS) : SS := fun L S => ofE L (c L S) fun k S1 => if k then a L S1 else b L S1
abbrev G := Val → Loc → Store → RS
abbrev Gs := List Val → Loc → Store → RS
def gName (i : Nat) : G := fun v L S => .nx (L.set i (some v)) S
def gNil : Gs := fun vs L S => match vs with | [] => .nx L S | _ => .bad
def gCons (g : G) (r : Gs) : Gs := fun vs L S => match vs with | v :: vs => (g v L S).plain.next fun L1 S1 => r vs L1 S1 | [] => .bad
def gTup (n : Nat) (g : Gs) : G := fun v L S => match seqOf S v with
  | some (_, xs) => if xs.length = n then (g xs L S).plain else .bad
  | none => .bad
def keyOf : Val → Option L2.Key
  | .int i => some (.inl i)
  | .str s => some (.inr s)
  | _ => none
def keysT : List Val → Option (List Int)
  | [] => some []
  | .int i :: xs => (keysT xs).map (i :: ·)
  | _ :: _ => none
def keyT : Val → Option (List Int)
  | .tup xs => keysT xs
  | _ => none
def putT (kvs : List (List Int × Val)) (k : List Int) (v : Val) : List (List Int × Val) :=
  if kvs.any (fun p => decide (p.1 = k)) then kvs.map (fun p => if p.1 = k then (p.1, v) else p) else kvs ++ [(k, v)]
def getT (kvs : List (List Int × Val)) (k : List Int) : Option Val := (kvs.find? fun p => decide (p.1 = k)).map (·.2)
def putV (kvs : List (L2.Key × Val)) (k : L2.Key) (v : Val) : List (L2.Key × Val) :=
  if kvs.any (fun p => decide (p.1 = k)) then kvs.map (fun p => if p.1 = k then (p.1, v) else p) else kvs ++ [(k, v)]
def getV (kvs : List (L2.Key × Val)) (k : L2.Key) : Option Val := (kvs.find? fun p => decide (p.1 = k)).map (·.2)
def putA (f : Str) (v : Val) : List (Str × Val) → List (Str × Val)
  | [] => [(f, v)]
  | (g, x) :: r => if g = f then (g, v) :: r else (g, x) :: putA f v r
def setItem (o k v : Val) (S : Store) : Option Store :=
  match o with
  | .ref n => match S[n]? with
    | some (.lst xs) => match k with
      | .int i => (L2.ixN xs.length i).map fun j => S.set n (.lst (xs.set j v))
      | _ => none
    | some (.dct kvs) => match keyOf k with
      | some k => if kvs.length < sizeLine then some (S.set n (.dct (putV kvs k v))) else none
      | none => none
    | _ => none
  | _ => none
def gSub (a i : E) : G := fun v L S => ofE L (a L S) fun o S1 => ofE L (i L S1) fun k S2 => match setItem o k v S2 with | some S3 => .nx L S3 | none => .bad
def setAttr (f : Str) (o v : Val) (S : Store) : Option Store :=
  match o with
  | .ref n => match S[n]? with
    | some (.ins C fs) => if fs.length < 1000 then some (S.set n (.ins C (putA f v fs))) else none
    | _ => none
  | _ => none
def sAsg (e : E) (g : G) : SS := fun L S => ofE L (e L S) fun v S1 => (g v L S1).plain

structure Src where
  stay : List (Nat × Cell)
  items : List Val
def Src.ok (s : Src) (S : Store) : Bool := s.stay.all fun p => decide (S[p.1]? = some p.2)
abbrev I := Loc → Store → R Src
def itOf (S : Store) : Val → Option Src
  | .tup xs => some ⟨[], xs⟩
  | .lst xs => some ⟨[], xs⟩
  | .frz xs => some ⟨[], xs⟩
  | .ptp xs => some ⟨[], xs⟩
  | .ref n => match S[n]? with | some (.lst xs) => some ⟨[(n, .lst xs)], xs⟩ | _ => none
  | _ => none
def iVal (e : E) : I := fun L S => (e L S).bind fun v S1 => match itOf S1 v with | some s => .ok s S1 | none => .bad
def rangeV (a : Int) (n : Nat) : List Val := (List.range n).map fun (i : Nat) => .int (a + i)
def iRange1 (e : E) : I := fun L S => (e L S).bind fun v S1 => match v with
  | .int j => if -(2 ^ 62) ≤ j ∧ j < 2 ^ 62 then .ok ⟨[], rangeV 0 j.toNat⟩ S1 else .bad
  | _ => .bad
def iRange2 (a b : E) : I := fun L S => (a L S).bind fun v S1 => (b L S1).bind fun w S2 => match v, w with
  | .int i, .int j => if -(2 ^ 62) ≤ i ∧ i < 2 ^ 62 ∧ -(2 ^ 62) ≤ j ∧ j < 2 ^ 62 then .ok ⟨[], rangeV i (j - i).toNat⟩ S2 else .bad
  | _, _ => .bad
def enumV (a : Int) (xs : List Val) : List Val := xs.zipIdx.map fun p => .tup [.int (a + p.2), p.1]
def iEnum (e : E) : I := fun L S => (iVal e L S).bind fun s S1 => .ok ⟨s.stay, enumV 0 s.items⟩ S1
def zipV (xs ys : List Val) : List Val := (xs.zip ys).map fun p => .tup [p.1, p.2]
def iZip (a b : E) : I := fun L S => (a L S).bind fun v S1 => (b L S1).bind fun w S2 => match itOf S2 v, itOf S2 w with
  | some s, some t => .ok ⟨s.stay ++ t.stay, zipV s.items t.items⟩ S2
  | _, _ => .bad
def forGo (stay : Store → Bool) (g : G) (b : SS) : List Val → SS
  | [] => fun L S => if stay S then .nx L S else .bad
  | x :: xs => fun L S => if stay S then (g x L S).plain.next fun L1 S1 => (b L1 S1).next (forGo stay g b xs) else .bad
def sFor (i : I) (g : G) (b : SS) : SS := fun L S => ofE L (i L S) fun s S1 => forGo s.ok g b s.items L S1
def wipeL (L : Loc) : List Nat → Loc
  | [] => L
  | i :: r => wipeL (L.set i none) r
def calm {α : Type} : R α → R α
  | .ok v S => .ok v S
  | _ => .bad
def tYes : T := fun _ S => .ok true S
def compGo (stay : Store → Bool) (g : G) (c : T) (e : E) (L : Loc) : List Val → Store → R (List Val)
  | [], S => if stay S then .ok [] S else .bad
  | x :: xs, S => if stay S then match g x L S with
    | .nx L1 S1 => (c L1 S1).bind fun k S2 => if k then (e L1 S2).bind fun v S3 => (compGo stay g c e L xs S3).bind fun r S4 => .ok (v :: r) S4 else compGo stay g c e L xs S2
    | _ => .bad
    else .bad
def fComp (own : List Nat) (i : I) (g : G) (c : T) (e : E) : A := fun L S => (i L S).bind fun s S1 => (calm (compGo s.ok g c e (wipeL L own) s.items S1)).bind fun xs S2 => if xs.length ≤ sizeLine then .ok xs S2 else .bad

def oIdx : O := fun x y S => match y with
  | .int i => match x with
    | .str z => if z.length ≤ sizeLine then match L2.atI z.cps.toList i with | some c => .ok (.str ⟨#[c]⟩) S | none => .bad else .bad
    | x => match seqOf S x with
      | some (_, xs) => match L2.atI xs i with | some v => .ok v S | none => .bad
      | none => .bad
  | _ => .bad
def dctOf (S : Store) : Val → Option (List (L2.Key × Val))
  | .dct kvs => some kvs
  | .ref n => match S[n]? with | some (.dct kvs) => some kvs | _ => none
  | _ => none
def oGet : O := fun x y S => match dctOf S x, keyOf y with
  | some kvs, some k => match getV kvs k with | some v => .ok v S | none => .bad
  | _, _ => .bad
def cutL {α : Type} (xs : List α) (lo hi : Option Int) : List α := (xs.drop (HT.sIx xs.length 0 lo)).take (HT.sIx xs.length xs.length hi - HT.sIx xs.length 0 lo)
def partE : Option E → Loc → Store → R (Option Int)
  | none, _, S => .ok none S
  | some e, L, S => (e L S).bind fun v S1 => match v with | .int i => .ok (some i) S1 | _ => .bad
def eSlice (a : E) (lo hi : Option E) : E := fun L S => (a L S).bind fun x S1 => (partE lo L S1).bind fun l S2 => (partE hi L S2).bind fun h S3 => match x with
  | .str z => if z.length ≤ sizeLine then .ok (.str (L2.cutS z l h)) S3 else .bad
  | .tup xs => .ok (.tup (cutL xs l h)) S3
  | x => match seqOf S3 x with
    | some (true, xs) => .ok (.lst (cutL xs l h)) S3
    | _ => .bad
def fSlice (a : E) (lo hi : Option E) : A := fun L S => (a L S).bind fun x S1 => (partE lo L S1).bind fun l S2 => (partE hi L S2).bind fun h S3 => match seqOf S3 x with
    | some (true, xs) => .ok (cutL xs l h) S3
    | _ => .bad

def objOf (S : Store) : Val → Option (Addr × List (Str × Val))
  | .obj C fs => some (C, fs)
  | .ref n => match S[n]? with | some (.ins C fs) => some (C, fs) | _ => none
  | _ => none
def eAttr (f : Str) (a : E) : E := fun L S => (a L S).bind fun x S1 => match objOf S1 x with
  | some (_, fs) => match fs.lookup f with | some v => .ok v S1 | none => .bad
  | none => .bad
abbrev F := List Val → Store → R Val
def eCall (f : F) (a : A) : E := fun L S => (a L S).bind f
def eMeth (C : Addr) (m : Str) (f : F) (o : E) (a : A) : E := fun L S => (o L S).bind fun x S1 => match objOf S1 x with
  | some (D, fs) => if D = C ∧ fs.lookup m = none then (a L S1).bind fun xs S2 => f (x :: xs) S2 else .bad
  | none => .bad

mutual
def fzV (r : Nat → Option Val) : Val → Option Val
  | .non => some .non
  | .bl b => some (.bl b)
  | .int i => some (.int i)
  | .str s => some (.str s)
  | .ty n => some (.ty n)
  | .gl a => some (.gl a)
  | .tup xs => (fzVs r xs).map .tup
  | .lst xs => (fzVs r xs).map .lst
  | .frz xs => (fzVs r xs).map .frz
  | .ptp xs => (fzVs r xs).map .ptp
  | .dct kvs => (fzVK r kvs).map .dct
  | .dtt kvs => (fzVT r kvs).map .dtt
  | .obj C fs => (fzVF r fs).map (.obj C)
  | .ref n => r n
def fzVs (r : Nat → Option Val) : List Val → Option (List Val)
  | [] => some []
  | x :: xs => (fzV r x).bind fun y => (fzVs r xs).map (y :: ·)
def fzVK (r : Nat → Option Val) : List (L2.Key × Val) → Option (List (L2.Key × Val))
  | [] => some []
  | (k, x) :: xs => (fzV r x).bind fun y => (fzVK r xs).map ((k, y) :: ·)
def fzVT (r : Nat → Option Val) : List (List Int × Val) → Option (List (List Int × Val))
  | [] => some []
  | (k, x) :: xs => (fzV r x).bind fun y => (fzVT r xs).map ((k, y) :: ·)
def fzVF (r : Nat → Option Val) : List (Str × Val) → Option (List (Str × Val))
  | [] => some []
  | (k, x) :: xs => (fzV r x).bind fun y => (fzVF r xs).map ((k, y) :: ·)
end
def fzR (n : Nat) (S : Store) : Nat → Nat → Option Val
  | 0, m => if m < n then some (.ref m) else none
  | k + 1, m => if m < n then some (.ref m) else match S[m]? with
    | some (.lst xs) => (fzVs (fzR n S k) xs).map .lst
    | some (.dct kvs) => (fzVK (fzR n S k) kvs).map .dct
    | some (.dtt kvs) => (fzVT (fzR n S k) kvs).map .dtt
    | some (.dnt _) => none
    | some (.ins C fs) => (fzVF (fzR n S k) fs).map (.obj C)
    | none => none
def belowR (n m : Nat) : Option Val := if m < n then some (.ref m) else none
def Cell.below (n : Nat) : Cell → Bool
  | .lst xs => (fzVs (belowR n) xs).isSome
  | .dct kvs => (fzVK (belowR n) kvs).isSome
  | .dtt kvs => (fzVT (belowR n) kvs).isSome
  | .dnt kvs => (fzVs (belowR n) (kvs.map (·.1))).isSome
  | .ins _ fs => (fzVF (belowR n) fs).isSome
def fits (S S' : Store) : Bool := (List.range S.length).all fun i => match S'[i]? with
  | some c => decide (S[i]? = some c) || c.below S.length
  | none => false
def gcR (d : Nat) (S : Store) : R Val → R Val
  | .ok v S' => match fzV (fzR S.length S' d) v with
    | some v' => if fits S S' then .ok v' (S'.take S.length) else .ok v S'
    | none => .ok v S'
  | r => r
def startL (n : Nat) (args : List Val) : Loc := args.map some ++ List.replicate (n - args.length) none
end Gx
namespace Gx
open PySem
def aApp (a : A) (ds : List Val) : A := fun L S => (a L S).bind fun xs S1 => .ok (xs ++ ds) S1
def eFld (Cs : List Addr) (f : Str) (a : E) : E := fun L S => (a L S).bind fun x S1 => match objOf S1 x with
  | some (C, fs) => if C ∈ Cs then match fs.lookup f with | some v => .ok v S1 | none => .bad else .bad
  | none => .bad
end Gx
namespace Gx
open PySem
abbrev FV := List Val → Store → R Val
def bLen : FV := fun xs S => match xs with
  | [x] => match x with
    | .str z => if z.length ≤ sizeLine then .ok (.int z.length) S else .bad
    | x => match seqOf S x with
      | some (_, ys) => .ok (.int ys.length) S
      | none => .bad
  | _ => .bad
def tyNames : List String := ["NoneType", "bool", "int", "str", "tuple", "list", "dict"]
def tyOf (S : Store) : Val → Option (String ⊕ Addr)
  | .non => some (.inl "NoneType")
  | .bl _ => some (.inl "bool")
  | .int _ => some (.inl "int")
  | .str _ => some (.inl "str")
  | .tup _ => some (.inl "tuple")
  | .lst _ => some (.inl "list")
  | .frz _ => some (.inl "list")
  | .ptp _ => some (.inl "tuple")
  | .dct _ => some (.inl "dict")
  | .obj C _ => some (.inr C)
  | .ref n => match S[n]? with
    | some (.lst _) => some (.inl "list")
    | some (.dct _) => some (.inl "dict")
    | some (.dtt _) => none
    | some (.dnt _) => none
    | some (.ins C _) => some (.inr C)
    | none => none
  | _ => none
def isiV (t : String ⊕ Addr) : Val → Option Bool
  | .ty n => match t with
    | .inl t => some (decide (t = n) || (decide (t = "bool") && decide (n = "int")))
    | .inr _ => some false
  | .gl C => match t with
    | .inl _ => some false
    | .inr D => some (decide (D = C))
  | _ => none
def okTy (Cs : List Addr) : String ⊕ Addr → Bool
  | .inl t => decide (t ∈ tyNames)
  | .inr C => decide (C ∈ Cs)
def okCl (Cs : List Addr) : Val → Bool
  | .ty n => decide (n ∈ tyNames)
  | .gl C => decide (C ∈ Cs)
  | _ => false
def bIsi (Cs : List Addr) : FV := fun xs S => match xs with
  | [x, c] => match tyOf S x with
    | some t => if okTy Cs t && okCl Cs c then
        match isiV t c with | some b => .ok (.bl b) S | none => .bad
      else .bad
    | none => .bad
  | _ => .bad
def bInt : FV := fun xs S => match xs with
  | [.int i] => .ok (.int i) S
  | [.bl b] => .ok (.int (if b then 1 else 0)) S
  | [.str z] => if z.length ≤ 640 then match intText? z with | some n => .ok (.int n) S | none => .bad else .bad
  | _ => .bad
def intsOf : List Val → Option (List Int)
  | [] => some []
  | .int i :: xs => (intsOf xs).map (i :: ·)
  | _ :: _ => none
def boolsOf : List Val → Option (List Bool)
  | [] => some []
  | .bl i :: xs => (boolsOf xs).map (i :: ·)
  | _ :: _ => none
def ofList (g : List Val → Option Val) : FV := fun xs S => match xs with
  | [x] => match seqOf S x with
    | some (true, ys) => match g ys with | some v => .ok v S | none => .bad
    | _ => .bad
  | _ => .bad
def sumV (ys : List Val) : Option Val := (intsOf ys).map fun ns => .int ns.sum
def allV (ys : List Val) : Option Val := (boolsOf ys).map fun bs => .bl (bs.all id)
def bTup : FV := fun xs S => match xs with
  | [x] => match seqOf S x with
    | some (_, ys) => .ok (.tup ys) S
    | none => .bad
  | _ => .bad
def fList (e : E) : A := fun L S => (e L S).bind fun x S1 => match seqOf S1 x with
  | some (_, ys) => .ok ys S1
  | none => .bad
abbrev MV := Val → List Val → Store → R Val
def eBm (m : MV) (o : E) (a : A) : E := fun L S => (o L S).bind fun x S1 => (a L S1).bind fun xs S2 => m x xs S2
def mAppend : MV := fun x xs S => match x, xs with
  | .ref n, [v] => match S[n]? with
    | some (.lst ys) => if ys.length < sizeLine then .ok .non (S.set n (.lst (ys ++ [v]))) else .bad
    | _ => .bad
  | _, _ => .bad
def mPop : MV := fun x xs S => match x, xs with
  | .ref n, [] => match S[n]? with
    | some (.lst ys) => match ys[ys.length - 1]? with
      | some v => .ok v (S.set n (.lst ys.dropLast))
      | none => .bad
    | _ => .bad
  | _, _ => .bad
def mExtend : MV := fun x xs S => match x, xs with
  | .ref n, [v] => match S[n]?, lstOf S v with
    | some (.lst ys), some zs => if ys.length + zs.length ≤ sizeLine then .ok .non (S.set n (.lst (ys ++ zs))) else .bad
    | _, _ => .bad
  | _, _ => .bad
def fCat (a b : E) : A := fun L S => (a L S).bind fun x S1 => (b L S1).bind fun y S2 => match lstOf S2 x, lstOf S2 y with
  | some xs, some ys => if xs.length + ys.length ≤ sizeLine then .ok (xs ++ ys) S2 else .bad
  | _, _ => .bad
def fRep (a b : E) : A := fun L S => (a L S).bind fun x S1 => (b L S1).bind fun y S2 => match lstOf S2 x, y with
  | some xs, .int k => if -(2 ^ 63) ≤ k ∧ k < 2 ^ 63 ∧ xs.length * k.toNat ≤ sizeLine then .ok (List.replicate k.toNat xs).flatten S2 else .bad
  | _, _ => .bad
end Gx
namespace Gx
open PySem
def oSub2 : O := fun x y S => match dctOf S x with
  | some _ => oGet x y S
  | none => oIdx x y S
abbrev P := Loc → Store → R (List (Val × Val))
def pNil : P := fun _ S => .ok [] S
def pCons (k v : E) (r : P) : P := fun L S => (k L S).bind fun x S1 => (v L S1).bind fun y S2 => (r L S2).bind fun ps S3 => .ok ((x, y) :: ps) S3
def keysOf : List (Val × Val) → Option (List (L2.Key × Val))
  | [] => some []
  | (k, v) :: r => match keyOf k, keysOf r with | some k, some r => some ((k, v) :: r) | _, _ => none
def mergeV (kvs more : List (L2.Key × Val)) : List (L2.Key × Val) := more.foldl (fun acc kv => putV acc kv.1 kv.2) kvs
def eDict (m : Bool) (p : P) : E := fun L S => (calm (p L S)).bind fun ps S1 => match keysOf ps with
  | some kvs => if kvs.length ≤ 15 then (if m then .ok (.ref S1.length) (S1 ++ [.dct (mergeV [] kvs)]) else .ok (.dct (mergeV [] kvs)) S1) else .bad
  | none => .bad
def fRev (e : E) : A := fun L S => (e L S).bind fun x S1 => match seqOf S1 x with
  | some (true, xs) => .ok xs.reverse S1
  | _ => .bad
def sAug (i : Nat) (f : O) (e : E) : SS := fun L S => match L[i]? with
  | some (some x) => ofE L (e L S) fun y S1 => ofE L (f x y S1) fun z S2 => .nx (L.set i (some z)) S2
  | _ => .bad
end Gx
namespace Gx
open PySem
def oAddI : O
  | .int i, .int j, S => .ok (.int (i + j)) S
  | .str a, .str b, S => if a.length + b.length ≤ sizeLine then .ok (.str (a ++ b)) S else .bad
  | _, _, _ => .bad
def sFldC (Cs : List Addr) (f : Str) (o e : E) : SS := fun L S => ofE L (e L S) fun v S1 => ofE L (o L S1) fun q S2 => match q with
  | .ref n => match S2[n]? with
    | some (.ins C fs) => if C ∈ Cs ∧ fs.length < 1000 then .nx L (S2.set n (.ins C (putA f v fs))) else .bad
    | _ => .bad
  | _ => .bad
def eBmL (m : MV) (o : E) (a : A) : E := fun L S => (o L S).bind fun x S1 => match seqOf S1 x with
  | some (true, _) => (a L S1).bind fun xs S2 => m x xs S2
  | _ => .bad
end Gx
end
section
set_option maxHeartbeats 1000000
namespace Gx
open PySem L2

theorem upd_live {H : Hp} {p a : Addr} {o : HO} (h : upd H p o a = none) : H a = none := by
  by_cases e : a = p
  · rw [e, upd_same] at h; cases h
  · rw [upd_ne e] at h; exact h
structure Pl where
  c : List Addr
  m : List Addr
def Pl.add (ρ : Pl) (p : Addr) : Pl := ⟨ρ.c ++ [p], ρ.m⟩
def Fu (ρ : Pl) (H : Hp) (a : Addr) (u : HO) : Prop := H a = some u ∧ a ∉ ρ.c ∧ a ∉ ρ.m
def Fz (ρ : Pl) (H : Hp) (a : Addr) (u : HO) : Prop := (∃ o, H a = some (.frz o u)) ∨ (H a = some u ∧ a ∉ ρ.c ∧ a ∉ ρ.m)
abbrev Ent := List Int × Addr × V
def tHash (ks : List Int) : Int := reduceHash (Builtin.Tuple.tupleHashOf (ks.map hashInt))
abbrev EntsR (es : List Ent) (xs : List (List Int × Addr × Value)) : Prop := Paired (fun (p : Ent) (q : List Int × Addr × Value) => p.1 = q.1 ∧ p.2.1 = q.2.1 ∧ RelV p.2.2 q.2.2) es xs
def DTo (a : Addr) (n : Nat) (es : List Ent) : Heap → Prop := fun h => es.length ≤ sizeLine ∧ (a == sysModules) = false ∧ (es.map (·.1)).Nodup ∧
  ∃ xs, EntsR es xs ∧ ∃ o t, h.get? a = some o ∧ o.ExactDict ∧ o.data = .dict t n ∧ t.toList = xs.map fun x => ⟨tHash x.1, .ref x.2.1, x.2.2⟩
abbrev DTN (a : Addr) (n : Nat) (es : List Ent) : HO := .ext (DTo a n es)
abbrev DTH (a : Addr) (es : List Ent) : HO := DTN a es.length es
mutual
def nkOf : Val → Option NestedKey
  | .int i => some (.num i)
  | .tup xs => (nksOf xs).map .tup
  | _ => none
def nksOf : List Val → Option (List NestedKey)
  | [] => some []
  | x :: xs => (nkOf x).bind fun k => (nksOf xs).map (k :: ·)
end
def EntN : List (Val × Int) → List Addr → List (NestedKey × Addr × Value) → Prop
  | [], [], [] => True
  | p :: kvs, b :: bs, x :: xs => nkOf p.1 = some x.1 ∧ x.1.depth ≤ 8 ∧ x.2.1 = b ∧ (∃ t, x.2.2 = .int p.2 t) ∧ EntN kvs bs xs
  | _, _, _ => False
def DNo (a : Addr) (kvs : List (Val × Int)) (bs : List Addr) : Heap → Prop := fun h => kvs.length ≤ sizeLine ∧ (a == sysModules) = false ∧ (kvs.map (·.1)).Nodup ∧
  ∃ xs, EntN kvs bs xs ∧ ∃ o t, h.get? a = some o ∧ o.ExactDict ∧ o.data = .dict t kvs.length ∧ ∀ w : World, t.toList = xs.map fun x => ⟨x.1.hash w, .ref x.2.1, x.2.2⟩
abbrev DNH (a : Addr) (kvs : List (Val × Int)) (bs : List Addr) : HO := .ext (DNo a kvs bs)
def KL (K : PySem.W.Frag) (a : Addr) (ws : List V) : Prop := ∃ (o : Obj) (its : Array Value) (n : Nat), K.lookup a = some o ∧ o.cls = .type "list" ∧ o.dict = none ∧ o.data = .seq its n ∧ its.size ≤ sizeLine ∧ Vals ws its.toList
def FzL (K : PySem.W.Frag) (ρ : Pl) (H : Hp) (a : Addr) (ws : List V) : Prop := Fz ρ H a (.lst ws) ∨ KL K a ws
section
variable (K : PySem.W.Frag) (ρ : Pl) (H : Hp)
mutual
def RV : Val → V → Prop
  | .non, w => w = .non
  | .bl b, w => w = .bl b
  | .int i, w => w = .int i
  | .str s, w => w = .str s
  | .ty n, w => w = .ty n
  | .gl a, w => w = .ref a
  | .tup xs, w => ∃ a ws, w = .ref a ∧ SqT K H a ws ∧ RVs xs ws
  | .lst xs, w => ∃ a ws, w = .ref a ∧ Fu ρ H a (.lst ws) ∧ RVs xs ws
  | .frz xs, w => ∃ a ws, w = .ref a ∧ FzL K ρ H a ws ∧ RVs xs ws
  | .ptp xs, w => ∃ a o ws, w = .ref a ∧ Fu ρ H a (.frz o (.tup ws)) ∧ o.dict = none ∧ RVs xs ws
  | .dct kvs, w => ∃ a ws, w = .ref a ∧ Fz ρ H a (.dK ws) ∧ RVK kvs ws
  | .dtt kvs, w => ∃ a n ws, w = .ref a ∧ Fu ρ H a (DTN a n ws) ∧ RVT kvs ws
  | .obj C fs, w => ∃ a dx ws, w = .ref a ∧ Fu ρ H a (.ins C dx ws) ∧ RVF fs ws
  | .ref n, w => ∃ a, ρ.c[n]? = some a ∧ w = .ref a
def RVs : List Val → List V → Prop
  | [], ws => ws = []
  | x :: xs, ws => ∃ w r, ws = w :: r ∧ RV x w ∧ RVs xs r
def RVK : List (Key × Val) → List (Key × V) → Prop
  | [], ws => ws = []
  | (k, x) :: xs, ws => ∃ w r, ws = (k, w) :: r ∧ RV x w ∧ RVK xs r
def RVT : List (List Int × Val) → List Ent → Prop
  | [], ws => ws = []
  | (k, x) :: xs, ws => ∃ b w r, ws = (k, b, w) :: r ∧ SqT K H b (k.map V.int) ∧ RV x w ∧ RVT xs r
def RVF : List (Str × Val) → List (Str × V) → Prop
  | [], ws => ws = []
  | (k, x) :: xs, ws => ∃ w r, ws = (k, w) :: r ∧ RV x w ∧ RVF xs r
end
def RC (a : Addr) : Cell → Prop
  | .lst xs => ∃ ws, H a = some (.lst ws) ∧ RVs K ρ H xs ws
  | .dct kvs => ∃ ws, H a = some (.dK ws) ∧ RVK K ρ H kvs ws
  | .dtt kvs => ∃ ws, H a = some (DTH a ws) ∧ RVT K ρ H kvs ws
  | .dnt kvs => ∃ bs : List Addr, H a = some (DNH a kvs bs) ∧ RVs K ρ H (kvs.map (·.1)) (bs.map V.ref)
  | .ins C fs => ∃ dx ws, H a = some (.ins C dx ws) ∧ RVF K ρ H fs ws
structure StOk (S : Store) : Prop where
  len : ρ.c.length = S.length
  nd : ρ.c.Nodup
  bz : ∀ a, a ∈ ρ.m → (∃ o, H a = some o) ∧ a ∉ ρ.c
  cell : ∀ (n : Nat) (c : Cell), S[n]? = some c → ∃ a : Addr, ρ.c[n]? = some a ∧ RC K ρ H a c
end

structure ExtB (ρ : Pl) (H : Hp) (ρ' : Pl) (H' : Hp) : Prop where
  pre : ∃ r, ρ'.c = ρ.c ++ r
  bus : ∀ a, a ∈ ρ'.m → a ∈ ρ.m ∨ H a = none
  fix : ∀ a o, H a = some o → (a ∉ ρ.c ∨ ¬ Mut (some o)) → H' a = some o
  new : ∀ a, a ∈ ρ'.c → a ∈ ρ.c ∨ H a = none
  live : ∀ a, H' a = none → H a = none
structure Ext (ρ : Pl) (H : Hp) (ρ' : Pl) (H' : Hp) : Prop extends ExtB ρ H ρ' H' where
  eqm : ρ'.m = ρ.m
theorem Ext.mk' {ρ ρ' : Pl} {H H' : Hp} (pre : ∃ r, ρ'.c = ρ.c ++ r) (eqm : ρ'.m = ρ.m) (fix : ∀ a o, H a = some o → (a ∉ ρ.c ∨ ¬ Mut (some o)) → H' a = some o) (new : ∀ a, a ∈ ρ'.c → a ∈ ρ.c ∨ H a = none) (live : ∀ a, H' a = none → H a = none) : Ext ρ H ρ' H' :=
  ⟨⟨pre, fun a h => .inl (eqm ▸ h), fix, new, live⟩, eqm⟩
theorem Ext.refl {ρ : Pl} {H : Hp} : Ext ρ H ρ H := .mk' ⟨[], by simp⟩ rfl (fun _ _ h _ => h) (fun _ h => .inl h) fun _ h => h
theorem ExtB.trans {ρ ρ1 ρ2 : Pl} {H H1 H2 : Hp} (a : ExtB ρ H ρ1 H1) (b : ExtB ρ1 H1 ρ2 H2) : ExtB ρ H ρ2 H2 := by
  obtain ⟨r1, e1⟩ := a.pre
  obtain ⟨r2, e2⟩ := b.pre
  refine ⟨⟨r1 ++ r2, by rw [e2, e1, List.append_assoc]⟩, fun p h => ?_, fun p o h q => ?_, fun p h => ?_, fun p h => a.live p (b.live p h)⟩
  · rcases b.bus p h with z | z
    · exact a.bus p z
    · exact .inr (a.live p z)
  · have h1 := a.fix p o h q
    refine b.fix p o h1 ?_
    rcases q with q | q
    · refine .inl fun z => ?_
      rcases a.new p z with z | z
      · exact q z
      · rw [h] at z; cases z
    · exact .inr q
  · rcases b.new p h with z | z
    · exact a.new p z
    · exact .inr (a.live p z)
theorem Ext.trans {ρ ρ1 ρ2 : Pl} {H H1 H2 : Hp} (a : Ext ρ H ρ1 H1) (b : Ext ρ1 H1 ρ2 H2) : Ext ρ H ρ2 H2 := ⟨a.toExtB.trans b.toExtB, b.eqm.trans a.eqm⟩
section
variable {K : PySem.W.Frag} {ρ ρ' : Pl} {H H' : Hp}
theorem ExtB.fz (e : ExtB ρ H ρ' H') {a : Addr} {u : HO} (h : Fz ρ H a u) : Fz ρ' H' a u := by
  rcases h with ⟨o, h⟩ | ⟨h, n, n2⟩
  · exact .inl ⟨o, e.fix a _ h (.inr fun z => z)⟩
  · refine .inr ⟨e.fix a _ h (.inl n), fun z => ?_, fun z => ?_⟩
    rotate_left
    · rcases e.bus a z with z | z
      · exact n2 z
      · rw [h] at z; cases z
    rcases e.new a z with z | z
    · exact n z
    · rw [h] at z; cases z
theorem ExtB.fu (e : ExtB ρ H ρ' H') {a : Addr} {u : HO} (h : Fu ρ H a u) : Fu ρ' H' a u := by
  obtain ⟨h, n, n2⟩ := h
  refine ⟨e.fix a _ h (.inl n), fun z => ?_, fun z => ?_⟩
  · rcases e.new a z with z | z
    · exact n z
    · rw [h] at z; cases z
  · rcases e.bus a z with z | z
    · exact n2 z
    · rw [h] at z; cases z
theorem ExtB.sqt (e : ExtB ρ H ρ' H') {a : Addr} {ws : List V} (h : SqT K H a ws) : SqT K H' a ws := by
  rcases h with (h | ⟨o, h⟩) | h
  · exact .inl (.inl (e.fix a _ h (.inr fun z => z)))
  · exact .inl (.inr ⟨o, e.fix a _ h (.inr fun z => z)⟩)
  · exact .inr h
theorem ExtB.at (e : ExtB ρ H ρ' H') {n : Nat} {a : Addr} (h : ρ.c[n]? = some a) : ρ'.c[n]? = some a := by
  obtain ⟨r, e1⟩ := e.pre
  rw [e1, List.getElem?_append_left (List.getElem?_eq_some_iff.mp h).1]
  exact h
mutual
theorem RV.extB (e : ExtB ρ H ρ' H') : ∀ {x : Val} {w : V}, RV K ρ H x w → RV K ρ' H' x w
  | .non, _, h => h
  | .bl _, _, h => h
  | .int _, _, h => h
  | .str _, _, h => h
  | .ty _, _, h => h
  | .gl _, _, h => h
  | .tup xs, _, h => by
    unfold RV at h ⊢
    obtain ⟨a, ws, h1, h2, h3⟩ := h
    exact ⟨a, ws, h1, e.sqt h2, RVs.extB e h3⟩
  | .lst xs, _, h => by
    unfold RV at h ⊢
    obtain ⟨a, ws, h1, h2, h3⟩ := h
    exact ⟨a, ws, h1, e.fu h2, RVs.extB e h3⟩
  | .frz xs, _, h => by
    unfold RV at h ⊢
    obtain ⟨a, ws, h1, h2, h3⟩ := h
    exact ⟨a, ws, h1, h2.imp e.fz id, RVs.extB e h3⟩
  | .ptp xs, _, h => by
    unfold RV at h ⊢
    obtain ⟨a, o, ws, h1, h2, h0, h3⟩ := h
    exact ⟨a, o, ws, h1, e.fu h2, h0, RVs.extB e h3⟩
  | .dct xs, _, h => by
    unfold RV at h ⊢
    obtain ⟨a, ws, h1, h2, h3⟩ := h
    exact ⟨a, ws, h1, e.fz h2, RVK.extB e h3⟩
  | .dtt xs, _, h => by
    unfold RV at h ⊢
    obtain ⟨a, n, ws, h1, h2, h3⟩ := h
    exact ⟨a, n, ws, h1, e.fu h2, RVT.extB e h3⟩
  | .obj C xs, _, h => by
    unfold RV at h ⊢
    obtain ⟨a, dx, ws, h1, h2, h3⟩ := h
    exact ⟨a, dx, ws, h1, e.fu h2, RVF.extB e h3⟩
  | .ref n, _, h => by
    unfold RV at h ⊢
    obtain ⟨a, h1, h2⟩ := h
    exact ⟨a, e.at h1, h2⟩
theorem RVs.extB (e : ExtB ρ H ρ' H') : ∀ {x : List Val} {w : List V}, RVs K ρ H x w → RVs K ρ' H' x w
  | [], _, h => h
  | x :: xs, _, h => by
    unfold RVs at h ⊢
    obtain ⟨w, r, h1, h2, h3⟩ := h
    exact ⟨w, r, h1, RV.extB e h2, RVs.extB e h3⟩
theorem RVK.extB (e : ExtB ρ H ρ' H') : ∀ {x : List (Key × Val)} {w : List (Key × V)}, RVK K ρ H x w → RVK K ρ' H' x w
  | [], _, h => h
  | (k, x) :: xs, _, h => by
    unfold RVK at h ⊢
    obtain ⟨w, r, h1, h2, h3⟩ := h
    exact ⟨w, r, h1, RV.extB e h2, RVK.extB e h3⟩
theorem RVT.extB (e : ExtB ρ H ρ' H') : ∀ {x : List (List Int × Val)} {w : List Ent}, RVT K ρ H x w → RVT K ρ' H' x w
  | [], _, h => h
  | (k, x) :: xs, _, h => by
    unfold RVT at h ⊢
    obtain ⟨b, w, r, h1, h0, h2, h3⟩ := h
    exact ⟨b, w, r, h1, e.sqt h0, RV.extB e h2, RVT.extB e h3⟩
theorem RVF.extB (e : ExtB ρ H ρ' H') : ∀ {x : List (Str × Val)} {w : List (Str × V)}, RVF K ρ H x w → RVF K ρ' H' x w
  | [], _, h => h
  | (k, x) :: xs, _, h => by
    unfold RVF at h ⊢
    obtain ⟨w, r, h1, h2, h3⟩ := h
    exact ⟨w, r, h1, RV.extB e h2, RVF.extB e h3⟩
end
theorem RV.ptp_inv {xs : List Val} {w : V} (h : RV K ρ H (.ptp xs) w) : ∃ a o ws, w = .ref a ∧ Fu ρ H a (.frz o (.tup ws)) ∧ o.dict = none ∧ RVs K ρ H xs ws := by unfold RV at h; exact h
theorem RV.ptp_tup {xs : List Val} {w : V} (h : RV K ρ H (.ptp xs) w) : RV K ρ H (.tup xs) w := by
  obtain ⟨a, o, ws, e, h1, _, h2⟩ := h.ptp_inv
  unfold RV
  exact ⟨a, ws, e, .inl (.inr ⟨o, h1.1⟩), h2⟩
theorem Ext.at (e : Ext ρ H ρ' H') {n : Nat} {a : Addr} (h : ρ.c[n]? = some a) : ρ'.c[n]? = some a := e.toExtB.at h
theorem RV.ext (e : Ext ρ H ρ' H') {x : Val} {w : V} (h : RV K ρ H x w) : RV K ρ' H' x w := RV.extB e.toExtB h
theorem RVs.ext (e : Ext ρ H ρ' H') {x : List Val} {w : List V} (h : RVs K ρ H x w) : RVs K ρ' H' x w := RVs.extB e.toExtB h
theorem RVK.ext (e : Ext ρ H ρ' H') {x : List (Key × Val)} {w : List (Key × V)} (h : RVK K ρ H x w) : RVK K ρ' H' x w := RVK.extB e.toExtB h
theorem RVT.ext (e : Ext ρ H ρ' H') {x : List (List Int × Val)} {w : List Ent} (h : RVT K ρ H x w) : RVT K ρ' H' x w := RVT.extB e.toExtB h
theorem RVF.ext (e : Ext ρ H ρ' H') {x : List (Str × Val)} {w : List (Str × V)} (h : RVF K ρ H x w) : RVF K ρ' H' x w := RVF.extB e.toExtB h
theorem RVs.nil_iff {ws : List V} : RVs K ρ H [] ws ↔ ws = [] := by unfold RVs; exact Iff.rfl
theorem RVs.cons {x : Val} {xs : List Val} {w : V} {ws : List V} (h : RV K ρ H x w) (t : RVs K ρ H xs ws) : RVs K ρ H (x :: xs) (w :: ws) := by
  unfold RVs; exact ⟨w, ws, rfl, h, t⟩
theorem RVs.nil : RVs K ρ H [] [] := by unfold RVs; rfl
theorem RVs.inv {x : Val} {xs : List Val} {ws : List V} (h : RVs K ρ H (x :: xs) ws) : ∃ w r, ws = w :: r ∧ RV K ρ H x w ∧ RVs K ρ H xs r := by
  unfold RVs at h; exact h
theorem RVs.length : ∀ {xs : List Val} {ws : List V}, RVs K ρ H xs ws → ws.length = xs.length
  | [], ws, h => by rw [RVs.nil_iff.mp h] <;> rfl
  | x :: xs, ws, h => by
    obtain ⟨w, r, rfl, _, t⟩ := h.inv
    simp [RVs.length t]
theorem RVs.append : ∀ {xs ys : List Val} {ws us : List V}, RVs K ρ H xs ws → RVs K ρ H ys us → RVs K ρ H (xs ++ ys) (ws ++ us)
  | [], _, ws, _, h, g => by rw [RVs.nil_iff.mp h]; exact g
  | x :: xs, _, ws, _, h, g => by
    obtain ⟨w, r, rfl, hw, t⟩ := h.inv
    exact .cons hw (RVs.append t g)
theorem RVs.drop : ∀ {xs : List Val} {ws : List V} (n : Nat), RVs K ρ H xs ws → RVs K ρ H (xs.drop n) (ws.drop n)
  | _, _, 0, h => h
  | [], ws, n + 1, h => by rw [RVs.nil_iff.mp h]; exact .nil
  | x :: xs, ws, n + 1, h => by
    obtain ⟨w, r, rfl, _, t⟩ := h.inv
    exact RVs.drop n t
theorem RVs.take : ∀ {xs : List Val} {ws : List V} (n : Nat), RVs K ρ H xs ws → RVs K ρ H (xs.take n) (ws.take n)
  | _, _, 0, h => .nil
  | [], ws, n + 1, h => by rw [RVs.nil_iff.mp h]; exact .nil
  | x :: xs, ws, n + 1, h => by
    obtain ⟨w, r, rfl, hw, t⟩ := h.inv
    exact .cons hw (RVs.take n t)
theorem RVs.get : ∀ {xs : List Val} {ws : List V} {n : Nat} {x : Val}, RVs K ρ H xs ws → xs[n]? = some x → ∃ w, ws[n]? = some w ∧ RV K ρ H x w
  | [], _, _, _, _, e => by simp at e
  | x :: xs, ws, 0, y, h, e => by
    obtain ⟨w, r, rfl, hw, t⟩ := h.inv
    simp at e; subst e
    exact ⟨w, rfl, hw⟩
  | x :: xs, ws, n + 1, y, h, e => by
    obtain ⟨w, r, rfl, hw, t⟩ := h.inv
    obtain ⟨u, h1, h2⟩ := RVs.get (n := n) (x := y) t (by simpa using e)
    exact ⟨u, by simpa using h1, h2⟩
theorem RVs.set {x : Val} {w : V} (r : RV K ρ H x w) : ∀ {xs : List Val} {ws : List V} (n : Nat), RVs K ρ H xs ws → RVs K ρ H (xs.set n x) (ws.set n w)
  | [], ws, n, h => by rw [RVs.nil_iff.mp h]; exact .nil
  | y :: xs, ws, 0, h => by
    obtain ⟨u, s, rfl, hw, t⟩ := h.inv
    exact .cons r t
  | y :: xs, ws, n + 1, h => by
    obtain ⟨u, s, rfl, hw, t⟩ := h.inv
    exact .cons hw (RVs.set r n t)
theorem RVs.reverse : ∀ {xs : List Val} {ws : List V}, RVs K ρ H xs ws → RVs K ρ H xs.reverse ws.reverse
  | [], ws, h => by rw [RVs.nil_iff.mp h]; exact .nil
  | x :: xs, ws, h => by
    obtain ⟨w, r, rfl, hw, t⟩ := h.inv
    simp only [List.reverse_cons]
    exact (RVs.reverse t).append (.cons hw .nil)
variable {S : Store}
theorem StOk.mem (h : StOk K ρ H S) {a : Addr} (ha : a ∈ ρ.c) : ∃ o, H a = some o ∧ Mut (some o) := by
  obtain ⟨n, hn, e⟩ := List.mem_iff_getElem.mp ha
  have hs : n < S.length := by rw [← h.len]; exact hn
  obtain ⟨b, hb, rc⟩ := h.cell n S[n] (List.getElem?_eq_getElem hs)
  rw [List.getElem?_eq_getElem hn, e] at hb
  cases hb
  cases q : S[n] with
  | lst xs => rw [q] at rc; obtain ⟨ws, h1, _⟩ := rc; exact ⟨_, h1, True.intro⟩
  | dct xs => rw [q] at rc; obtain ⟨ws, h1, _⟩ := rc; exact ⟨_, h1, True.intro⟩
  | dtt xs => rw [q] at rc; obtain ⟨ws, h1, _⟩ := rc; exact ⟨_, h1, True.intro⟩
  | dnt xs => rw [q] at rc; obtain ⟨ws, h1, _⟩ := rc; exact ⟨_, h1, True.intro⟩
  | ins C xs => rw [q] at rc; obtain ⟨dx, ws, h1, _⟩ := rc; exact ⟨_, h1, True.intro⟩
theorem StOk.fresh (h : StOk K ρ H S) {p : Addr} (hp : H p = none) : p ∉ ρ.c := fun z => by
  obtain ⟨o, e, _⟩ := h.mem z
  rw [hp] at e; cases e
theorem StOk.ext {S : Store} (h : StOk K ρ H S) (e : Ext ρ H ρ H') (hc : ∀ (n : Nat) (c : Cell), S[n]? = some c → ∀ a : Addr, ρ.c[n]? = some a → H' a = H a) : StOk K ρ H' S := by
  refine ⟨h.len, h.nd, fun a ha => ?_, fun n c hn => ?_⟩
  · obtain ⟨⟨o, ho⟩, hn⟩ := h.bz a ha
    exact ⟨⟨o, e.fix a o ho (.inl hn)⟩, hn⟩
  obtain ⟨a, ha, rc⟩ := h.cell n c hn
  refine ⟨a, ha, ?_⟩
  have q := hc n c hn a ha
  cases c with
  | lst xs => obtain ⟨ws, h1, h2⟩ := rc; exact ⟨ws, q.trans h1, h2.ext e⟩
  | dct xs => obtain ⟨ws, h1, h2⟩ := rc; exact ⟨ws, q.trans h1, h2.ext e⟩
  | dtt xs => obtain ⟨ws, h1, h2⟩ := rc; exact ⟨ws, q.trans h1, h2.ext e⟩
  | dnt xs => obtain ⟨ws, h1, h2⟩ := rc; exact ⟨ws, q.trans h1, h2.ext e⟩
  | ins C xs => obtain ⟨dx, ws, h1, h2⟩ := rc; exact ⟨dx, ws, q.trans h1, h2.ext e⟩
theorem ext_new {p : Addr} {o : HO} (hp : H p = none) : Ext ρ H ρ (upd H p o) :=
  .mk' ⟨[], by simp⟩ rfl (fun a u h _ => by rw [upd_ne (ne_of_none h hp)]; exact h) (fun _ h => .inl h) fun a h => upd_live h
theorem StOk.new {p : Addr} {o : HO} (h : StOk K ρ H S) (hp : H p = none) : StOk K ρ (upd H p o) S :=
  h.ext (ext_new hp) fun n c hn a ha => upd_ne fun z => h.fresh hp (z ▸ List.mem_of_getElem? ha)
theorem ext_cell {p : Addr} {o : HO} (hp : H p = none) : Ext ρ H (ρ.add p) (upd H p o) :=
  .mk' ⟨[p], rfl⟩ rfl (fun a u h _ => by rw [upd_ne (ne_of_none h hp)]; exact h) (fun a h => by
    rcases List.mem_append.mp h with h | h
    · exact .inl h
    · rw [List.mem_singleton.mp h]; exact .inr hp) fun a h => upd_live h
theorem StOk.alloc {p : Addr} {o : HO} {c : Cell} (h : StOk K ρ H S) (hp : H p = none) (hc : RC K (ρ.add p) (upd H p o) p c) : StOk K (ρ.add p) (upd H p o) (S ++ [c]) := by
  refine ⟨by simp [Pl.add, h.len], ?_, fun a ha => ?_, fun n d hn => ?_⟩
  · show (ρ.c ++ [p]).Nodup
    rw [List.nodup_append]
    refine ⟨h.nd, by simp, fun a ha b hb => ?_⟩
    rw [List.mem_singleton.mp hb]
    rintro rfl
    exact h.fresh hp ha
  · obtain ⟨⟨u, hu⟩, hn⟩ := h.bz a ha
    have ne : a ≠ p := ne_of_none hu hp
    refine ⟨⟨u, by rw [upd_ne ne]; exact hu⟩, fun z => ?_⟩
    rcases List.mem_append.mp z with z | z
    · exact hn z
    · exact ne (List.mem_singleton.mp z)
  · by_cases hl : n < S.length
    · rw [List.getElem?_append_left hl] at hn
      obtain ⟨a, ha, rc⟩ := h.cell n d hn
      refine ⟨a, (ext_cell (o := o) hp).at ha, ?_⟩
      have q : upd H p o a = H a := upd_ne fun z => h.fresh hp (z ▸ List.mem_of_getElem? ha)
      cases d with
      | lst xs => obtain ⟨ws, h1, h2⟩ := rc; exact ⟨ws, q.trans h1, h2.ext (ext_cell hp)⟩
      | dct xs => obtain ⟨ws, h1, h2⟩ := rc; exact ⟨ws, q.trans h1, h2.ext (ext_cell hp)⟩
      | dtt xs => obtain ⟨ws, h1, h2⟩ := rc; exact ⟨ws, q.trans h1, h2.ext (ext_cell hp)⟩
      | dnt xs => obtain ⟨ws, h1, h2⟩ := rc; exact ⟨ws, q.trans h1, h2.ext (ext_cell hp)⟩
      | ins C xs => obtain ⟨dx, ws, h1, h2⟩ := rc; exact ⟨dx, ws, q.trans h1, h2.ext (ext_cell hp)⟩
    · have e : n = S.length := by
        have := (List.getElem?_eq_some_iff.mp hn).1
        simp at this
        omega
      subst e
      rw [List.getElem?_concat_length] at hn
      cases hn
      refine ⟨p, ?_, hc⟩
      show (ρ.c ++ [p])[S.length]? = some p
      rw [← h.len, List.getElem?_concat_length]
theorem ext_write {p : Addr} {o : HO} (hp : p ∈ ρ.c) (hm : Mut (H p)) : Ext ρ H ρ (upd H p o) :=
  .mk' ⟨[], by simp⟩ rfl (fun a u h q => by
    by_cases e : a = p
    · subst e
      rcases q with q | q
      · exact absurd hp q
      · rw [h] at hm; exact absurd hm q
    · rw [upd_ne e]; exact h) (fun _ h => .inl h) fun a h => upd_live h
theorem StOk.write {n : Nat} {p : Addr} {o : HO} {c : Cell} (h : StOk K ρ H S) (hp : ρ.c[n]? = some p) (hc : RC K ρ (upd H p o) p c) : StOk K ρ (upd H p o) (S.set n c) := by
  obtain ⟨u, hu, hm⟩ := h.mem (List.mem_of_getElem? hp)
  have ex : Ext ρ H ρ (upd H p o) := ext_write (List.mem_of_getElem? hp) (by rw [hu]; exact hm)
  refine ⟨by simp [h.len], h.nd, fun a ha => ?_, fun m d hd => ?_⟩
  · obtain ⟨⟨v, hv⟩, hn⟩ := h.bz a ha
    exact ⟨⟨v, ex.fix a v hv (.inl hn)⟩, hn⟩
  by_cases e : m = n
  · subst e
    have hl : m < S.length := by
      have := (List.getElem?_eq_some_iff.mp hd).1
      simpa using this
    rw [List.getElem?_set_self hl] at hd
    cases hd
    exact ⟨p, hp, hc⟩
  · rw [List.getElem?_set_ne (Ne.symm e)] at hd
    obtain ⟨a, ha, rc⟩ := h.cell m d hd
    refine ⟨a, ha, ?_⟩
    have ne : a ≠ p := fun z => by
      subst z
      obtain ⟨h1, e1⟩ := List.getElem?_eq_some_iff.mp ha
      obtain ⟨h2, e2⟩ := List.getElem?_eq_some_iff.mp hp
      exact e ((List.getElem_inj h.nd).mp (e1.trans e2.symm))
    have q : upd H p o a = H a := upd_ne ne
    cases d with
    | lst xs => obtain ⟨ws, h1, h2⟩ := rc; exact ⟨ws, q.trans h1, h2.ext ex⟩
    | dct xs => obtain ⟨ws, h1, h2⟩ := rc; exact ⟨ws, q.trans h1, h2.ext ex⟩
    | dtt xs => obtain ⟨ws, h1, h2⟩ := rc; exact ⟨ws, q.trans h1, h2.ext ex⟩
    | dnt xs => obtain ⟨ws, h1, h2⟩ := rc; exact ⟨ws, q.trans h1, h2.ext ex⟩
    | ins C xs => obtain ⟨dx, ws, h1, h2⟩ := rc; exact ⟨dx, ws, q.trans h1, h2.ext ex⟩
end

def LocOk (K : PySem.W.Frag) (ρ : Pl) (H : Hp) (L : Loc) (σ : St) : Prop :=
  L.length = σ.length ∧ ∀ (i : Nat) (v : Val), L[i]? = some (some v) → ∃ w, σ[i]? = some (some w) ∧ RV K ρ H v w
theorem LocOk.ext {K : PySem.W.Frag} {ρ ρ' : Pl} {H H' : Hp} {L : Loc} {σ : St} (h : LocOk K ρ H L σ) (e : Ext ρ H ρ' H') : LocOk K ρ' H' L σ :=
  ⟨h.1, fun i v q => let ⟨w, a, b⟩ := h.2 i v q; ⟨w, a, b.ext e⟩⟩
theorem LocOk.set {K : PySem.W.Frag} {ρ : Pl} {H : Hp} {L : Loc} {σ : St} {v : Val} {w : V} (h : LocOk K ρ H L σ) (i : Nat) (r : RV K ρ H v w) : LocOk K ρ H (L.set i (some v)) (σ.set i (some w)) := by
  refine ⟨by simp [h.1], fun j u q => ?_⟩
  by_cases e : j = i
  · subst e
    have hl : j < L.length := by
      have := (List.getElem?_eq_some_iff.mp q).1
      simpa using this
    rw [List.getElem?_set_self hl] at q
    cases q
    exact ⟨w, by rw [List.getElem?_set_self (by rw [← h.1]; exact hl)], r⟩
  · rw [List.getElem?_set_ne (Ne.symm e)] at q
    rw [List.getElem?_set_ne (Ne.symm e)]
    exact h.2 j u q
def clsOf (K : PySem.W.Frag) (x : Str) : Addr := match PySem.W.nsIn K mainGlobals x with
  | some (some (.ref a)) => a
  | _ => 0
def XV (K : PySem.W.Frag) (ρ : Pl) (H : Hp) (x : Exc) (c : Value) (d : Option Addr) : Prop :=
  c = .ref (clsOf K (xname x.cls)) ∧ ((x.fs = [] ∧ d = none) ∨ ∃ a ws, d = some a ∧ H a = some (.xd ws) ∧ RVF K ρ H x.fs ws)
abbrev XW := Value → Option Addr → St → Hp → Prop
def Post (K : PySem.W.Frag) (W : XW) {α β : Type} (Rel : Pl → Hp → α → β → Prop) (ρ : Pl) (H : Hp) (σ : St) (r : R α) (Q : β → Hp → Prop) : Prop :=
  match r with
  | .ok v S' => ∀ ρ' H' w, Ext ρ H ρ' H' → StOk K ρ' H' S' → Rel ρ' H' v w → Q w H'
  | .exn x S' => ∀ ρ' H' c d, Ext ρ H ρ' H' → StOk K ρ' H' S' → XV K ρ' H' x c d → W c d σ H'
  | .bad => False
section
variable {K : PySem.W.Frag} {W : XW} {α β γ δ : Type} {Rel : Pl → Hp → α → β → Prop} {Rel' : Pl → Hp → γ → δ → Prop} {ρ ρ1 : Pl} {H H1 : Hp} {σ : St} {r : R α} {Q : β → Hp → Prop}
theorem Post.base (h : Post K W Rel ρ H σ r Q) (e : Ext ρ H ρ1 H1) : Post K W Rel ρ1 H1 σ r Q := by
  cases r with
  | ok v S' => exact fun ρ' H' w a b c => h ρ' H' w (e.trans a) b c
  | exn x S' => exact fun ρ' H' c d a b q => h ρ' H' c d (e.trans a) b q
  | bad => exact h
theorem Post.bind {f : α → Store → R γ} {Q' : δ → Hp → Prop} (h : Post K W Rel' ρ H σ (r.bind f) Q')
    (k : ∀ v S1 ρ1 H1 w, r = .ok v S1 → Ext ρ H ρ1 H1 → StOk K ρ1 H1 S1 → Rel ρ1 H1 v w → Post K W Rel' ρ1 H1 σ (f v S1) Q' → Q w H1) : Post K W Rel ρ H σ r Q := by
  cases r with
  | ok v S' => exact fun ρ' H' w a b c => k v S' ρ' H' w rfl a b c (Post.base h a)
  | exn x S' => exact h
  | bad => exact h
end
structure Sim (K : PySem.W.Frag) (ρ : Pl) (H : Hp) (L : Loc) (S : Store) (σ : St) : Prop where
  st : StOk K ρ H S
  loc : LocOk K ρ H L σ
theorem Sim.next {K : PySem.W.Frag} {ρ ρ' : Pl} {H H' : Hp} {L : Loc} {S S' : Store} {σ : St} (h : Sim K ρ H L S σ) (e : Ext ρ H ρ' H') (s : StOk K ρ' H' S') : Sim K ρ' H' L S' σ := ⟨s, h.loc.ext e⟩
def lE (K : PySem.W.Frag) (W : XW) (d : E) : TE := fun σ H Q => ∃ ρ S L, Sim K ρ H L S σ ∧ Post K W (RV K) ρ H σ (d L S) Q
def lT (K : PySem.W.Frag) (W : XW) (d : T) : TT := fun σ H Q => ∃ ρ S L, Sim K ρ H L S σ ∧ Post K W (fun _ _ (a b : Bool) => a = b) ρ H σ (d L S) Q
def lA (K : PySem.W.Frag) (W : XW) (d : A) : TA := fun σ H Q => ∃ ρ S L, Sim K ρ H L S σ ∧ Post K W (RVs K) ρ H σ (d L S) Q
def lF (K : PySem.W.Frag) (W : XW) (d : A) : TE := fun σ H Q => ∃ ρ S L, Sim K ρ H L S σ ∧
  Post K W (RVs K) ρ H σ (d L S) fun ws H1 => ∀ p, H1 p = none → Q (.ref p) (upd H1 p (.lst ws))
structure DE (X : Cx) (W : XW) (e : Expr) (d : E) : Prop where
  pe : PE X e (lE X.K W d)
structure DT (X : Cx) (W : XW) (e : Expr) (d : T) : Prop where
  pt : PT X e (lT X.K W d)
structure DA (X : Cx) (W : XW) (es : List Expr) (d : A) : Prop where
  pa : PA X es (lA X.K W d)
structure DF (X : Cx) (W : XW) (e : Expr) (d : A) : Prop where
  pe : PE X e (lF X.K W d)
theorem PE.weak {X : Cx} {e : Expr} {t t' : TE} (h : PE X e t) (k : ∀ σ H Q, t' σ H Q → t σ H Q) : PE X e t' := ⟨fun pins s σ H Q I q => h.run pins s σ H Q I (k σ H Q q)⟩
theorem PT.weak {X : Cx} {e : Expr} {t t' : TT} (h : PT X e t) (k : ∀ σ H Q, t' σ H Q → t σ H Q) : PT X e t' := ⟨fun pins s σ H Q I q => h.run pins s σ H Q I (k σ H Q q)⟩
theorem PA.weak {X : Cx} {e : List Expr} {t t' : TA} (h : PA X e t) (k : ∀ σ H Q, t' σ H Q → t σ H Q) : PA X e t' := ⟨fun pos pins s σ H Q I q => h.run pos pins s σ H Q I (k σ H Q q)⟩
theorem PS.weak {X : Cx} {e : Stmt} {t t' : TS} (h : PS X e t) (k : ∀ D σ H, t' D σ H → t D σ H) : PS X e t' := ⟨fun pins s σ H D I q => h.run pins s σ H D I (k D σ H q)⟩
theorem PSs.weak {X : Cx} {e : List Stmt} {t t' : TS} (h : PSs X e t) (k : ∀ D σ H, t' D σ H → t D σ H) : PSs X e t' := ⟨fun pins s σ H D I q => h.run pins s σ H D I (k D σ H q)⟩
end Gx
end
section
set_option maxHeartbeats 1000000
namespace Gx
open PySem L2
section
variable {X : Cx} {W : XW} {a b c e : Expr} {es : List Expr} {da db dc d : E} {ta tb tc : T} {aa : A} {pos : Pos}

theorem de_var {i : Nat} {x : Str} (hN : X.N[i]? = some x) (hv : Vis X.env.scope x) (hd : (x == ("__debug__" : Str)) = false := by decide) (hcd : (x == ("__classdict__" : Str)) = false := by decide) : DE X W (.Name x pos) (eVar i) := by
  refine ⟨PE.weak (pe_var hN hv hd hcd) fun σ H Q h => ?_⟩
  obtain ⟨ρ, S, L, sim, h⟩ := h
  unfold eVar at h
  cases q : L[i]? with
  | none => rw [q] at h; exact h.elim
  | some o =>
    cases o with
    | none => rw [q] at h; exact h.elim
    | some v =>
      rw [q] at h
      obtain ⟨w, h1, h2⟩ := sim.loc.2 i v q
      exact ⟨w, h1, h ρ H w Ext.refl sim.st h2⟩
theorem de_const {v : Val} {w : V} (h : PE X e (tC w)) (r : ∀ ρ H, RV X.K ρ H v w) : DE X W e (eC v) := by
  refine ⟨PE.weak h fun σ H Q q => ?_⟩
  obtain ⟨ρ, S, L, sim, q⟩ := q
  exact q ρ H w Ext.refl sim.st (r ρ H)
theorem de_int {i : Int} {j} : DE X W (.Constant (.int i) j pos) (eC (.int i)) := de_const pe_int fun _ _ => by unfold RV; rfl
theorem de_bl {b : Bool} {j} : DE X W (.Constant (.bool b) j pos) (eC (.bl b)) := de_const pe_bl fun _ _ => by unfold RV; rfl
theorem de_non {j} : DE X W (.Constant .none j pos) (eC .non) := de_const pe_non fun _ _ => by unfold RV; rfl
theorem de_str {x : Str} {j} : DE X W (.Constant (.str x) j pos) (eC (.str x)) := de_const pe_str fun _ _ => by unfold RV; rfl
theorem de_gint {x : Str} {i : Int} {t : Tok} (hg : Gl X x) (hm : X.mg x = some (.int i t)) (hd : (x == ("__debug__" : Str)) = false := by decide) : DE X W (.Name x pos) (eC (.int i)) :=
  de_const (pe_glob hg hm (v := .int i) ⟨t, rfl⟩ hd) fun _ _ => by unfold RV; rfl
theorem de_gstr {x y : Str} {t : Tok} (hg : Gl X x) (hm : X.mg x = some (.str y t)) (hd : (x == ("__debug__" : Str)) = false := by decide) : DE X W (.Name x pos) (eC (.str y)) :=
  de_const (pe_glob hg hm (v := .str y) ⟨t, rfl⟩ hd) fun _ _ => by unfold RV; rfl
def lO (K : PySem.W.Frag) (W : XW) (f : O) : R2 := fun wx wy H Q => ∃ σ ρ S x y, StOk K ρ H S ∧ RV K ρ H x wx ∧ RV K ρ H y wy ∧ Post K W (RV K) ρ H σ (f x y S) Q
theorem two {α β : Type} {Rel : Pl → Hp → α → β → Prop} {σ : St} {H : Hp} {ρ : Pl} {S : Store} {L : Loc} {Q : β → Hp → Prop} {K : PySem.W.Frag} {da db : E} {f : Val → Val → Store → R α} (sim : Sim K ρ H L S σ)
    (h : Post K W Rel ρ H σ ((da L S).bind fun x S1 => (db L S1).bind fun y S2 => f x y S2) Q) {Q' : V → V → Hp → Prop}
    (k : ∀ x y S2 ρ2 H2 wx wy, Ext ρ H ρ2 H2 → StOk K ρ2 H2 S2 → RV K ρ2 H2 x wx → RV K ρ2 H2 y wy → Post K W Rel ρ2 H2 σ (f x y S2) Q → Q' wx wy H2) :
    lE K W da σ H fun x H1 => lE K W db σ H1 fun y H2 => Q' x y H2 := by
  refine ⟨ρ, S, L, sim, Post.bind h fun x S1 ρ1 H1 wx _ e1 s1 r1 h1 => ?_⟩
  refine ⟨ρ1, S1, L, sim.next e1 s1, Post.bind h1 fun y S2 ρ2 H2 wy _ e2 s2 r2 h2 => ?_⟩
  exact k x y S2 ρ2 H2 wx wy (e1.trans e2) s2 (r1.ext e2) r2 h2
theorem tOp_of {f : O} {da db : E} {σ : St} {H : Hp} {Q : VK} (h : lE X.K W (eBin f da db) σ H Q) : tOp (lO X.K W f) (lE X.K W da) (lE X.K W db) σ H Q := by
  obtain ⟨ρ, S, L, sim, h⟩ := h
  exact two sim h fun x y S2 ρ2 H2 wx wy _ s2 rx ry h2 => ⟨σ, ρ2, S2, x, y, s2, rx, ry, h2⟩
theorem de_bin {op : Operator} {f : O} (ho : OpR X (binaryOp op) (lO X.K W f)) (ha : DE X W a da) (hb : DE X W b db) : DE X W (.BinOp a op b pos) (eBin f da db) :=
  ⟨PE.weak (pe_op ho ha.pe hb.pe) fun _ _ _ h => tOp_of h⟩
theorem de_cmp {op : CmpOp} {f : O} (ho : OpR X (compareOp op) (lO X.K W f)) (ha : DE X W a da) (hb : DE X W b db) (hm : behindInMarks op b = false) : DE X W (.Compare a [op] [b] pos) (eBin f da db) :=
  ⟨PE.weak (pe_cmpR ho ha.pe hb.pe hm) fun _ _ _ h => tOp_of h⟩
theorem lT_of {K : PySem.W.Frag} {d : E} {t : TE} {σ : St} {H : Hp} {Q : Bool → Hp → Prop} (k : ∀ σ H Q, lE K W d σ H Q → t σ H Q) (h : lT K W (tOf d) σ H Q) : t σ H fun x H' => ∃ k, x = .bl k ∧ Q k H' := by
  obtain ⟨ρ, S, L, sim, h⟩ := h
  refine k σ H _ ⟨ρ, S, L, sim, Post.bind (Rel' := fun _ _ (a b : Bool) => a = b) h fun v S1 ρ1 H1 w _ e1 s1 r1 h1 => ?_⟩
  cases v with
  | bl c =>
    unfold RV at r1
    subst r1
    exact ⟨c, rfl, h1 ρ1 H1 c Ext.refl s1 rfl⟩
  | _ => exact False.elim h1
theorem dt_cmp {op : CmpOp} {f : O} (ho : OpR X (compareOp op) (lO X.K W f)) (ha : DE X W a da) (hb : DE X W b db) (hm : behindInMarks op b = false) : DT X W (.Compare a [op] [b] pos) (tOf (eBin f da db)) :=
  ⟨PT.weak (pt_cmpR ho ha.pe hb.pe hm) fun σ H Q h => lT_of (fun _ _ _ q => tOp_of q) h⟩
theorem tChain_of {f g : O} {σ : St} {H : Hp} {Q : VK} (h : lE X.K W (eChain f g da db dc) σ H Q) : tChain (lO X.K W f) (lO X.K W g) (lE X.K W da) (lE X.K W db) (lE X.K W dc) σ H Q := by
  obtain ⟨ρ, S, L, sim, h⟩ := h
  refine two sim h fun x y S2 ρ2 H2 wx wy e2 s2 rx ry h2 => ?_
  refine ⟨σ, ρ2, S2, x, y, s2, rx, ry, Post.bind h2 fun z S3 ρ3 H3 wz _ e3 s3 rz h3 => ?_⟩
  cases z with
  | bl k =>
    unfold RV at rz
    subst rz
    refine ⟨k, rfl, ?_⟩
    cases k with
    | true =>
      rw [if_pos rfl]
      refine ⟨ρ3, S3, L, sim.next (e2.trans e3) s3, Post.bind h3 fun w S4 ρ4 H4 ww _ e4 s4 rw' h4 => ?_⟩
      exact ⟨σ, ρ4, S4, y, w, s4, (ry.ext e3).ext e4, rw', h4⟩
    | false =>
      rw [if_neg (by simp)]
      exact h3 ρ3 H3 _ Ext.refl s3 (by unfold RV; rfl)
  | _ => exact False.elim h3
theorem de_chain {op op' : CmpOp} {f g : O} (ho : OpR X (compareOp op) (lO X.K W f)) (ho' : OpR X (compareOp op') (lO X.K W g)) (ha : DE X W a da) (hb : DE X W b db) (hc : DE X W c dc)
    (hm : lastMarks [op, op'] [b, c] = false := by with_unfolding_all rfl) : DE X W (.Compare a [op, op'] [b, c] pos) (eChain f g da db dc) :=
  ⟨PE.weak (pe_chain ho ho' ha.pe hb.pe hc.pe hm) fun _ _ _ h => tChain_of h⟩
theorem dt_chain {op op' : CmpOp} {f g : O} (ho : OpR X (compareOp op) (lO X.K W f)) (ho' : OpR X (compareOp op') (lO X.K W g)) (ha : DE X W a da) (hb : DE X W b db) (hc : DE X W c dc)
    (hm : lastMarks [op, op'] [b, c] = false := by with_unfolding_all rfl) : DT X W (.Compare a [op, op'] [b, c] pos) (tOf (eChain f g da db dc)) :=
  ⟨PT.weak (pt_chain ho ho' ha.pe hb.pe hc.pe hm) fun σ H Q h => lT_of (fun _ _ _ q => tChain_of q) h⟩

theorem dt_val (h : DE X W a da) (he : ∀ whole, isTrue a X.env whole = (do let v ← whole; standAt a.pos; holding [v] (truthy v)) := by intro _; rfl) : DT X W a (tOf da) :=
  ⟨PT.weak (pt_val h.pe he) fun σ H Q h => lT_of (fun _ _ _ q => q) h⟩
theorem dt_not (h : DT X W a ta) : DT X W (.UnaryOp .Not a pos) (tNot ta) := by
  refine ⟨PT.weak (pt_not h.pt) fun σ H Q h => ?_⟩
  obtain ⟨ρ, S, L, sim, h⟩ := h
  refine ⟨ρ, S, L, sim, Post.bind (Rel' := fun _ _ (a b : Bool) => a = b) h fun v S1 ρ1 H1 w _ e1 s1 r1 h1 => ?_⟩
  subst r1
  exact h1 ρ1 H1 _ Ext.refl s1 rfl
structure DW (X : Cx) (W : XW) (e : Expr) (d : T) : Prop where
  pw : PW X e (lT X.K W d)
theorem PW.weak {X : Cx} {e : Expr} {t t' : TT} (h : PW X e t) (k : ∀ σ H Q, t' σ H Q → t σ H Q) : PW X e t' := ⟨fun wh pins s σ H Q I q => h.run wh pins s σ H Q I (k σ H Q q)⟩
theorem dw_or1 (h : DT X W a ta) : DW X W (.BoolOp .Or [a] pos) ta := ⟨pw_or1 h.pt⟩
theorem dw_or {rest : List Expr} (ha : DT X W a ta) (hb : DW X W (.BoolOp .Or (b :: rest) pos) tb) : DW X W (.BoolOp .Or (a :: b :: rest) pos) (tOr ta tb) := by
  refine ⟨PW.weak (pw_or ha.pt hb.pw) fun σ H Q h => ?_⟩
  obtain ⟨ρ, S, L, sim, h⟩ := h
  refine ⟨ρ, S, L, sim, Post.bind (Rel' := fun _ _ (a b : Bool) => a = b) h fun v S1 ρ1 H1 w _ e1 s1 r1 h1 => ?_⟩
  subst r1
  cases v with
  | true => rw [if_pos rfl]; exact h1 ρ1 H1 _ Ext.refl s1 rfl
  | false => rw [if_neg (by simp)]; exact ⟨ρ1, S1, L, sim.next e1 s1, h1⟩
theorem dt_w (h : DW X W a ta) : DT X W a ta := ⟨h.pw.pt⟩
theorem de_one {op : PySem.BoolOp} (h : DE X W a da) : DE X W (.BoolOp op [a] pos) da := ⟨pe_one h.pe⟩
theorem de_and {rest : List Expr} (ha : DE X W a da) (hb : DE X W (.BoolOp .And (b :: rest) pos) db) : DE X W (.BoolOp .And (a :: b :: rest) pos) (eAnd da db) := by
  refine ⟨PE.weak (pe_and ha.pe hb.pe) fun σ H Q h => ?_⟩
  obtain ⟨ρ, S, L, sim, h⟩ := h
  refine ⟨ρ, S, L, sim, Post.bind h fun v S1 ρ1 H1 w _ e1 s1 r1 h1 => ?_⟩
  cases v with
  | bl k =>
    unfold RV at r1
    subst r1
    refine ⟨k, rfl, ?_⟩
    cases k with
    | true => rw [if_pos rfl]; exact ⟨ρ1, S1, L, sim.next e1 s1, h1⟩
    | false => rw [if_neg (by simp)]; exact h1 ρ1 H1 _ Ext.refl s1 (by unfold RV; rfl)
  | _ => exact False.elim h1
theorem de_not (ha : DE X W a da) : DE X W (.UnaryOp .Not a pos) (eNot da) := by
  refine ⟨PE.weak (pe_not ha.pe) fun σ H Q h => ?_⟩
  obtain ⟨ρ, S, L, sim, h⟩ := h
  refine ⟨ρ, S, L, sim, Post.bind h fun v S1 ρ1 H1 w _ e1 s1 r1 h1 => ?_⟩
  cases v with
  | bl k =>
    unfold RV at r1
    subst r1
    exact ⟨k, rfl, h1 ρ1 H1 _ Ext.refl s1 (by unfold RV; rfl)⟩
  | _ => exact False.elim h1
theorem de_if (hc : DT X W c tc) (ha : DE X W a da) (hb : DE X W b db) : DE X W (.IfExp c a b pos) (eIf tc da db) := by
  refine ⟨PE.weak (pe_ifExp hc.pt ha.pe hb.pe) fun σ H Q h => ?_⟩
  obtain ⟨ρ, S, L, sim, h⟩ := h
  refine ⟨ρ, S, L, sim, Post.bind (Rel' := RV X.K) h fun v S1 ρ1 H1 w _ e1 s1 r1 h1 => ?_⟩
  subst r1
  cases v with
  | true => rw [if_pos rfl]; exact ⟨ρ1, S1, L, sim.next e1 s1, h1⟩
  | false => rw [if_neg (by simp)]; exact ⟨ρ1, S1, L, sim.next e1 s1, h1⟩

theorem da_nil : DA X W [] aNil := by
  refine ⟨PA.weak pa_nil fun σ H Q h => ?_⟩
  obtain ⟨ρ, S, L, sim, h⟩ := h
  exact h ρ H [] Ext.refl sim.st .nil
theorem da_cons (ha : DE X W e d) (hr : DA X W es aa) (hs : starEach (e :: es) X.env = (false, eval e X.env) :: starEach es X.env := by rfl) : DA X W (e :: es) (aCons d aa) := by
  refine ⟨PA.weak (pa_cons ha.pe hr.pa hs) fun σ H Q h => ?_⟩
  obtain ⟨ρ, S, L, sim, h⟩ := h
  refine ⟨ρ, S, L, sim, Post.bind (Rel' := RVs X.K) h fun x S1 ρ1 H1 w _ e1 s1 r1 h1 => ?_⟩
  refine ⟨ρ1, S1, L, sim.next e1 s1, Post.bind h1 fun xs S2 ρ2 H2 ws _ e2 s2 r2 h2 => ?_⟩
  exact h2 ρ2 H2 _ Ext.refl s2 (.cons (r1.ext e2) r2)
theorem Fz.sqL {K : PySem.W.Frag} {ρ : Pl} {H : Hp} {p : Addr} {ws : List V} (h : Fz ρ H p (.lst ws)) : SqL K H p ws := by
  rcases h with ⟨o, h⟩ | ⟨h, _⟩
  · exact .inl (.inr ⟨o, h⟩)
  · exact .inl (.inl h)
theorem FzL.sqL {K : PySem.W.Frag} {ρ : Pl} {H : Hp} {p : Addr} {ws : List V} (h : FzL K ρ H p ws) : SqL K H p ws := by
  rcases h with h | h
  · exact h.sqL
  · exact .inr h
theorem Fu.sqL {K : PySem.W.Frag} {ρ : Pl} {H : Hp} {p : Addr} {ws : List V} (h : Fu ρ H p (.lst ws)) : SqL K H p ws := .inl (.inl h.1)
theorem seq_read {K : PySem.W.Frag} {ρ : Pl} {H : Hp} {S : Store} {v : Val} {w : V} {k : Bool} {xs : List Val} (st : StOk K ρ H S) (r : RV K ρ H v w) (h : seqOf S v = some (k, xs)) :
    ∃ p ws, w = .ref p ∧ RVs K ρ H xs ws ∧ (if k then SqL K H p ws else SqT K H p ws) := by
  cases v with
  | tup ys =>
    simp only [seqOf, Option.some.injEq, Prod.mk.injEq] at h
    obtain ⟨rfl, rfl⟩ := h
    unfold RV at r
    obtain ⟨p, ws, rfl, h1, h2⟩ := r
    exact ⟨p, ws, rfl, h2, h1⟩
  | lst ys =>
    simp only [seqOf, Option.some.injEq, Prod.mk.injEq] at h
    obtain ⟨rfl, rfl⟩ := h
    unfold RV at r
    obtain ⟨p, ws, rfl, h1, h2⟩ := r
    exact ⟨p, ws, rfl, h2, h1.sqL⟩
  | ptp ys =>
    simp only [seqOf, Option.some.injEq, Prod.mk.injEq] at h
    obtain ⟨rfl, rfl⟩ := h
    obtain ⟨p, ws, rfl, h1, h2⟩ := (by have z := RV.ptp_tup r; unfold RV at z; exact z : ∃ p ws, _ = V.ref p ∧ SqT K H p ws ∧ RVs K ρ H ys ws)
    exact ⟨p, ws, rfl, h2, h1⟩
  | frz ys =>
    simp only [seqOf, Option.some.injEq, Prod.mk.injEq] at h
    obtain ⟨rfl, rfl⟩ := h
    unfold RV at r
    obtain ⟨p, ws, rfl, h1, h2⟩ := r
    exact ⟨p, ws, rfl, h2, h1.sqL⟩
  | ref n =>
    simp only [seqOf] at h
    unfold RV at r
    obtain ⟨p, hp, rfl⟩ := r
    cases q : S[n]? with
    | none => rw [q] at h; cases h
    | some c =>
      rw [q] at h
      obtain ⟨p', hp', rc⟩ := st.cell n c q
      rw [hp] at hp'; cases hp'
      cases c with
      | lst ys =>
        simp only [Option.some.injEq, Prod.mk.injEq] at h
        obtain ⟨rfl, rfl⟩ := h
        obtain ⟨ws, h1, h2⟩ := rc
        exact ⟨p, ws, rfl, h2, .inl (.inl h1)⟩
      | dct _ => cases h
      | dtt _ => cases h
      | dnt _ => cases h
      | ins _ _ => cases h
  | _ => simp [seqOf] at h
theorem seq_either {K : PySem.W.Frag} {H : Hp} {p : Addr} {ws : List V} {k : Bool} (h : if k then SqL K H p ws else SqT K H p ws) : SqL K H p ws ∨ SqT K H p ws := by
  cases k
  · exact .inr (by simpa using h)
  · exact .inl (by simpa using h)
theorem de_tup {k : Nat} (h : DA X W es aa) : DE X W (.Tuple es k pos) (eTup aa) := by
  refine ⟨PE.weak (pe_tup h.pa) fun σ H Q h => ?_⟩
  obtain ⟨ρ, S, L, sim, h⟩ := h
  refine ⟨ρ, S, L, sim, Post.bind (Rel' := RV X.K) h fun xs S1 ρ1 H1 ws _ e1 s1 r1 h1 => ?_⟩
  split at h1
  · rename_i hz
    refine ⟨by rw [r1.length]; exact hz, fun p hp => ?_⟩
    refine h1 ρ1 _ _ (ext_new hp) (s1.new hp) ?_
    unfold RV
    exact ⟨p, ws, rfl, .of upd_same, r1.ext (ext_new hp)⟩
  · exact h1.elim
theorem df_lst (h : DA X W es aa) : DF X W (.List es pos) (fLst aa) := by
  refine ⟨PE.weak (pe_lst h.pa) fun σ H Q h => ?_⟩
  obtain ⟨ρ, S, L, sim, h⟩ := h
  refine ⟨ρ, S, L, sim, Post.bind (Rel' := RVs X.K) h fun xs S1 ρ1 H1 ws _ e1 s1 r1 h1 => ?_⟩
  split at h1
  · rename_i hz
    exact ⟨by rw [r1.length]; exact hz, fun p hp => h1 ρ1 H1 ws Ext.refl s1 r1 p hp⟩
  · exact h1.elim
theorem lF_of_fr {K : PySem.W.Frag} {W : XW} {aa : A} {σ : St} {H : Hp} {Q : VK} (h : lE K W (eFr aa) σ H Q) : lF K W aa σ H Q := by
  obtain ⟨ρ, S, L, sim, h⟩ := h
  refine ⟨ρ, S, L, sim, Post.bind (Rel' := RV K) h fun xs S1 ρ1 H1 ws _ e1 s1 r1 h1 => ?_⟩
  intro p hp
  refine h1 ρ1 _ _ (ext_new hp) (s1.new hp) ?_
  unfold RV
  exact ⟨p, ws, rfl, ⟨upd_same, s1.fresh hp, fun z => ne_of_none (s1.bz p z).1.choose_spec hp rfl⟩, r1.ext (ext_new hp)⟩
theorem de_fr (h : DF X W e aa) : DE X W e (eFr aa) := ⟨PE.weak h.pe fun _ _ _ h => lF_of_fr h⟩
theorem lF_of_mk {K : PySem.W.Frag} {W : XW} {aa : A} {σ : St} {H : Hp} {Q : VK} (h : lE K W (eMk aa) σ H Q) : lF K W aa σ H Q := by
  obtain ⟨ρ, S, L, sim, h⟩ := h
  refine ⟨ρ, S, L, sim, Post.bind (Rel' := RV K) h fun xs S1 ρ1 H1 ws _ e1 s1 r1 h1 => ?_⟩
  intro p hp
  refine h1 (ρ1.add p) _ _ (ext_cell hp) (s1.alloc hp ⟨ws, upd_same, r1.ext (ext_cell hp)⟩) ?_
  unfold RV
  exact ⟨p, by show (ρ1.c ++ [p])[S1.length]? = some p; rw [← s1.len, List.getElem?_concat_length], rfl⟩
theorem de_mk (h : DF X W e aa) : DE X W e (eMk aa) := ⟨PE.weak h.pe fun _ _ _ h => lF_of_mk h⟩
end
end Gx
end
section
set_option maxHeartbeats 1000000
namespace Gx
open PySem L2
theorem RV.int_inv {K : PySem.W.Frag} {ρ : Pl} {H : Hp} {i : Int} {w : V} (h : RV K ρ H (.int i) w) : w = .int i := by unfold RV at h; exact h
theorem RV.bl_inv {K : PySem.W.Frag} {ρ : Pl} {H : Hp} {i : Bool} {w : V} (h : RV K ρ H (.bl i) w) : w = .bl i := by unfold RV at h; exact h
theorem RV.str_inv {K : PySem.W.Frag} {ρ : Pl} {H : Hp} {i : Str} {w : V} (h : RV K ρ H (.str i) w) : w = .str i := by unfold RV at h; exact h
theorem RV.non_inv {K : PySem.W.Frag} {ρ : Pl} {H : Hp} {w : V} (h : RV K ρ H .non w) : w = .non := by unfold RV at h; exact h
theorem RV.tup_inv {K : PySem.W.Frag} {ρ : Pl} {H : Hp} {xs : List Val} {w : V} (h : RV K ρ H (.tup xs) w) : ∃ a ws, w = .ref a ∧ SqT K H a ws ∧ RVs K ρ H xs ws := by unfold RV at h; exact h
theorem RV.lst_inv {K : PySem.W.Frag} {ρ : Pl} {H : Hp} {xs : List Val} {w : V} (h : RV K ρ H (.lst xs) w) : ∃ a ws, w = .ref a ∧ Fu ρ H a (.lst ws) ∧ RVs K ρ H xs ws := by unfold RV at h; exact h
theorem RV.frz_inv {K : PySem.W.Frag} {ρ : Pl} {H : Hp} {xs : List Val} {w : V} (h : RV K ρ H (.frz xs) w) : ∃ a ws, w = .ref a ∧ FzL K ρ H a ws ∧ RVs K ρ H xs ws := by unfold RV at h; exact h
theorem RV.ref_inv {K : PySem.W.Frag} {ρ : Pl} {H : Hp} {n : Nat} {w : V} (h : RV K ρ H (.ref n) w) : ∃ a, ρ.c[n]? = some a ∧ w = .ref a := by unfold RV at h; exact h
theorem RV.mk_int {K : PySem.W.Frag} {ρ : Pl} {H : Hp} (i : Int) : RV K ρ H (.int i) (.int i) := by unfold RV; rfl
theorem RV.mk_bl {K : PySem.W.Frag} {ρ : Pl} {H : Hp} (i : Bool) : RV K ρ H (.bl i) (.bl i) := by unfold RV; rfl
theorem RV.mk_str {K : PySem.W.Frag} {ρ : Pl} {H : Hp} (i : Str) : RV K ρ H (.str i) (.str i) := by unfold RV; rfl
theorem RV.mk_non {K : PySem.W.Frag} {ρ : Pl} {H : Hp} : RV K ρ H .non .non := by unfold RV; rfl
theorem RV.mk_tup {K : PySem.W.Frag} {ρ : Pl} {H : Hp} {xs : List Val} {a : Addr} {ws : List V} (h : SqT K H a ws) (r : RVs K ρ H xs ws) : RV K ρ H (.tup xs) (.ref a) := by unfold RV; exact ⟨a, ws, rfl, h, r⟩
section
variable {X : Cx} {W : XW}
theorem op_two_ints {g : Value → Value → Sem Value} {f : O} (C : Int → Int → Prop) (z : Int → Int → V) (zz : Int → Int → Val) (hz : ∀ ρ H i j, RV X.K ρ H (zz i j) (z i j)) (ho : OpR X g (rI C z))
    (hf : ∀ x y S, f x y S = .bad ∨ ∃ i j, x = .int i ∧ y = .int j ∧ C i j ∧ f x y S = .ok (zz i j) S) : OpR X g (lO X.K W f) := by
  intro pins s σ H wx wy v u Q I rx ry h
  obtain ⟨σ', ρ, S, x, y, st, hx, hy, post⟩ := h
  rcases hf x y S with e | ⟨i, j, rfl, rfl, hc, e⟩
  · rw [e] at post; exact post.elim
  · rw [e] at post
    have e1 := hx.int_inv
    have e2 := hy.int_inv
    exact ho pins s σ H wx wy v u Q I rx ry ⟨i, j, e1, e2, hc, post ρ H _ Ext.refl st (hz ρ H i j)⟩
theorem rI_true {g : Value → Value → Sem Value} {z : Int → Int → V} (ho : OpR X g (rI0 z)) : OpR X g (rI (fun _ _ => True) z) :=
  fun pins s σ H x y v u Q I rx ry ⟨i, j, a, b, _, c⟩ => ho pins s σ H x y v u Q I rx ry ⟨i, j, a, b, c⟩
theorem od_sub : OpR X (binaryOp .Sub) (lO X.K W oSub) :=
  op_two_ints (fun _ _ => True) _ (fun i j => .int (i - j)) (fun _ _ _ _ => .mk_int _) (rI_true op_sub) fun x y S => by
    unfold oSub; split
    · exact .inr ⟨_, _, rfl, rfl, True.intro, rfl⟩
    · exact .inl rfl
theorem od_mul : OpR X (binaryOp .Mult) (lO X.K W oMul) :=
  op_two_ints CMulW _ (fun i j => .int (i * j)) (fun _ _ _ _ => .mk_int _) op_mulW fun x y S => by
    unfold oMul; split
    · split
      · rename_i h; exact .inr ⟨_, _, rfl, rfl, h, rfl⟩
      · exact .inl rfl
    · exact .inl rfl
theorem od_fdiv : OpR X (binaryOp .FloorDiv) (lO X.K W oFdiv) :=
  op_two_ints CDivW _ (fun i j => .int (i / j)) (fun _ _ _ _ => .mk_int _) op_fdivW fun x y S => by
    unfold oFdiv; split
    · split
      · rename_i h; exact .inr ⟨_, _, rfl, rfl, h, rfl⟩
      · exact .inl rfl
    · exact .inl rfl
theorem od_mod : OpR X (binaryOp .Mod) (lO X.K W oMod) :=
  op_two_ints (fun _ j => 0 < j) _ (fun i j => .int (i % j)) (fun _ _ _ _ => .mk_int _) op_mod fun x y S => by
    unfold oMod; split
    · split
      · rename_i h; exact .inr ⟨_, _, rfl, rfl, h, rfl⟩
      · exact .inl rfl
    · exact .inl rfl
theorem od_pow : OpR X (binaryOp .Pow) (lO X.K W oPow) :=
  op_two_ints CPow _ (fun i j => .int (i ^ j.toNat)) (fun _ _ _ _ => .mk_int _) op_pow fun x y S => by
    unfold oPow; split
    · split
      · rename_i h; exact .inr ⟨_, _, rfl, rfl, h, rfl⟩
      · exact .inl rfl
    · exact .inl rfl
theorem cmp_ints (p : Int → Int → Bool) (x y : Val) (S : Store) : oCmp p x y S = .bad ∨ ∃ i j, x = .int i ∧ y = .int j ∧ True ∧ oCmp p x y S = .ok (.bl (p i j)) S := by
  unfold oCmp; split
  · exact .inr ⟨_, _, rfl, rfl, True.intro, rfl⟩
  · exact .inl rfl
theorem od_lt : OpR X (compareOp .Lt) (lO X.K W oLt) := op_two_ints _ _ (fun i j => .bl (decide (i < j))) (fun _ _ _ _ => .mk_bl _) (rI_true op_lt) (cmp_ints _)
theorem od_le : OpR X (compareOp .LtE) (lO X.K W oLe) := op_two_ints _ _ (fun i j => .bl (decide (i ≤ j))) (fun _ _ _ _ => .mk_bl _) (rI_true op_le) (cmp_ints _)
theorem od_gt : OpR X (compareOp .Gt) (lO X.K W oGt) := op_two_ints _ _ (fun i j => .bl (decide (j < i))) (fun _ _ _ _ => .mk_bl _) (rI_true op_gt) (cmp_ints _)
theorem od_ge : OpR X (compareOp .GtE) (lO X.K W oGe) := op_two_ints _ _ (fun i j => .bl (decide (j ≤ i))) (fun _ _ _ _ => .mk_bl _) (rI_true op_ge) (cmp_ints _)
theorem od_add : OpR X (binaryOp .Add) (lO X.K W oAdd) := by
  intro pins s σ H wx wy v u Q I rx ry h
  obtain ⟨σ', ρ, S, x, y, st, hx, hy, post⟩ := h
  unfold oAdd at post
  split at post
  · exact op_add pins s σ H wx wy v u Q I rx ry ⟨_, _, hx.int_inv, hy.int_inv, post ρ H _ Ext.refl st (.mk_int _)⟩
  · split at post
    · rename_i hz
      exact op_add_str pins s σ H wx wy v u Q I rx ry ⟨_, _, hx.str_inv, hy.str_inv, hz, post ρ H _ Ext.refl st (.mk_str _)⟩
    · exact post.elim
  · split at post
    · rename_i hz
      obtain ⟨p, ws, e1, h1, g1⟩ := hx.tup_inv
      obtain ⟨q, us, e2, h2, g2⟩ := hy.tup_inv
      refine op_catA pins s σ H wx wy v u Q I rx ry ⟨p, q, ws, us, e1, e2, h1, h2, by rw [g1.length, g2.length]; exact hz, fun e => ?_, fun e e' => ?_, fun e e' r hr => ?_⟩
      · subst e
        exact post ρ H _ Ext.refl st (.mk_tup h2 (by
          have := g1.append g2
          simpa using this))
      · subst e'
        exact post ρ H _ Ext.refl st (.mk_tup h1 (by
          have := g1.append g2
          simpa using this))
      · exact post ρ _ _ (ext_new hr) (st.new hr) (.mk_tup (.of upd_same) ((g1.append g2).ext (ext_new hr)))
    · exact post.elim
  · exact post.elim
def lU (K : PySem.W.Frag) (W : XW) (f : Val → Store → R Val) : V → Hp → VK → Prop := fun wx H Q => ∃ σ ρ S x, StOk K ρ H S ∧ RV K ρ H x wx ∧ Post K W (RV K) ρ H σ (f x S) Q
theorem de_un {op : UnaryOp} {f : Val → Store → R Val} {a : Expr} {da : E} {pos : Pos} (ho : UnR X (unaryOp op) (lU X.K W f)) (ha : DE X W a da) : DE X W (.UnaryOp op a pos) (eUn f da) := by
  refine ⟨PE.weak (pe_un ho ha.pe) fun σ H Q h => ?_⟩
  obtain ⟨ρ, S, L, sim, h⟩ := h
  refine ⟨ρ, S, L, sim, Post.bind (Rel' := RV X.K) h fun x S1 ρ1 H1 w _ e1 s1 r1 h1 => ?_⟩
  exact ⟨σ, ρ1, S1, x, s1, r1, h1⟩
theorem od_neg : UnR X (unaryOp .USub) (lU X.K W oNeg) := by
  intro pins s σ H wx v Q I rx h
  obtain ⟨σ', ρ, S, x, st, hx, post⟩ := h
  unfold oNeg at post
  split at post
  · exact un_neg pins s σ H wx v Q I rx ⟨_, hx.int_inv, post ρ H _ Ext.refl st (.mk_int _)⟩
  · exact post.elim
theorem od_notN : OpR X (compareOp .IsNot) (lO X.K W oNotN) := by
  intro pins s σ H wx wy v u Q I rx ry h
  obtain ⟨σ', ρ, S, x, y, st, hx, hy, post⟩ := h
  unfold oNotN at post
  split at post
  · refine op_notN pins s σ H wx wy v u Q I rx ry ⟨hy.non_inv, ?_⟩
    have q := post ρ H _ Ext.refl st (.mk_bl _)
    cases x with
    | non => rw [hx.non_inv]; exact q
    | bl _ => rw [hx.bl_inv]; exact q
    | int _ => rw [hx.int_inv]; exact q
    | str _ => rw [hx.str_inv]; exact q
    | ty _ => unfold RV at hx; rw [hx]; exact q
    | gl _ => unfold RV at hx; rw [hx]; exact q
    | tup _ => obtain ⟨_, _, e, _⟩ := hx.tup_inv; rw [e]; exact q
    | lst _ => obtain ⟨_, _, e, _⟩ := hx.lst_inv; rw [e]; exact q
    | frz _ => obtain ⟨_, _, e, _⟩ := hx.frz_inv; rw [e]; exact q
    | ptp _ => obtain ⟨_, _, _, e, _⟩ := hx.ptp_inv; rw [e]; exact q
    | dct _ => unfold RV at hx; obtain ⟨_, _, e, _⟩ := hx; rw [e]; exact q
    | dtt _ => unfold RV at hx; obtain ⟨_, _, _, e, _⟩ := hx; rw [e]; exact q
    | obj _ _ => unfold RV at hx; obtain ⟨_, _, _, e, _⟩ := hx; rw [e]; exact q
    | ref _ => obtain ⟨_, _, e⟩ := hx.ref_inv; rw [e]; exact q
  · exact post.elim
mutual
theorem dat_dp {K : PySem.W.Frag} {ρ : Pl} {H : Hp} : ∀ {v : Val} {w : V} {d : PyData}, RV K ρ H v w → dat v = some d → Dp K H w d
  | .non, w, d, h, e => by simp only [dat, Option.some.injEq] at e; subst e; rw [h.non_inv]; exact .non
  | .bl b, w, d, h, e => by simp only [dat, Option.some.injEq] at e; subst e; rw [h.bl_inv]; exact .bl _
  | .int b, w, d, h, e => by simp only [dat, Option.some.injEq] at e; subst e; rw [h.int_inv]; exact .int _
  | .str b, w, d, h, e => by simp only [dat, Option.some.injEq] at e; subst e; rw [h.str_inv]; exact .str _
  | .tup xs, w, d, h, e => by
    obtain ⟨a, ws, rfl, h1, h2⟩ := h.tup_inv
    simp only [dat, Option.map_eq_some_iff] at e
    obtain ⟨ds, e1, rfl⟩ := e
    exact .tup h1 (dats_dp h2 e1)
  | .ptp xs, w, d, h, e => by
    obtain ⟨a, ws, rfl, h1, h2⟩ := h.ptp_tup.tup_inv
    simp only [dat, Option.map_eq_some_iff] at e
    obtain ⟨ds, e1, rfl⟩ := e
    exact .tup h1 (dats_dp h2 e1)
  | .lst xs, w, d, h, e => by
    obtain ⟨a, ws, rfl, h1, h2⟩ := h.lst_inv
    simp only [dat, Option.map_eq_some_iff] at e
    obtain ⟨ds, e1, rfl⟩ := e
    exact .lst h1.sqL (dats_dp h2 e1)
  | .ty _, w, d, h, e => by simp [dat] at e
  | .frz _, w, d, h, e => by simp [dat] at e
  | .gl _, w, d, h, e => by simp [dat] at e
  | .dct _, w, d, h, e => by simp [dat] at e
  | .obj _ _, w, d, h, e => by simp [dat] at e
  | .ref _, w, d, h, e => by simp [dat] at e
theorem dats_dp {K : PySem.W.Frag} {ρ : Pl} {H : Hp} : ∀ {xs : List Val} {ws : List V} {ds : List PyData}, RVs K ρ H xs ws → dats xs = some ds → DpAll K H ws ds
  | [], ws, ds, h, e => by simp only [dats, Option.some.injEq] at e; subst e; rw [RVs.nil_iff.mp h]; exact .nil
  | x :: xs, ws, ds, h, e => by
    obtain ⟨w, r, rfl, hw, t⟩ := h.inv
    unfold dats at e
    cases e1 : dat x with
    | none => rw [e1] at e; simp at e
    | some d1 =>
      cases e2 : dats xs with
      | none => rw [e1, e2] at e; simp at e
      | some ds1 =>
        rw [e1, e2] at e
        simp only [Option.some.injEq] at e
        subst e
        exact .cons (dat_dp hw e1) (dats_dp t e2)
end
theorem datS_dp {K : PySem.W.Frag} {ρ : Pl} {H : Hp} {S : Store} (st : StOk K ρ H S) {v : Val} {w : V} {d : PyData} (h : RV K ρ H v w) (e : datS S v = some d) : Dp K H w d := by
  unfold datS at e
  split at e
  · rename_i n
    obtain ⟨a, ha, rfl⟩ := h.ref_inv
    split at e
    · rename_i xs q
      obtain ⟨a', ha', rc⟩ := st.cell n _ q
      rw [ha] at ha'; cases ha'
      obtain ⟨ws, h1, h2⟩ := rc
      simp only [dat, Option.map_eq_some_iff] at e
      obtain ⟨ds, e1, rfl⟩ := e
      exact .lst (.of h1) (dats_dp h2 e1)
    · cases e
  · exact dat_dp h e
theorem eq_empty {neg : Bool} {pins : List (Addr × Obj)} {s : Shared} {σ : St} {H : Hp} {a b : Addr} {ws : List V} {k : Bool} {Q : VK} (hu : X.A.units < cLine) (I : Inv X pins σ H s) (h1 : if k then SqL X.K H a ws else SqT X.K H a ws) (h2 : if k then SqL X.K H b [] else SqT X.K H b [])
    (q : Q (.bl (if neg then !ws.isEmpty else ws.isEmpty)) H) : wpAny (model X.prog X.w) X.A (compareOp (if neg then .NotEq else .Eq) (.ref a) (.ref b)) (EP X pins σ Q) X.xe s := by
  have fin : ∀ z : Bool, z = (if neg then !ws.isEmpty else ws.isEmpty) → EP X pins σ Q (.bool z) s := fun z e => ⟨.bl z, H, I, rfl, by rw [e]; exact q⟩
  cases k with
  | true =>
    obtain ⟨its, r1, p1, _⟩ := I.list (by simpa using h1)
    obtain ⟨it2, r2, p2, _⟩ := I.list (xs := []) (by simpa using h2)
    cases r2
    by_cases hz : its = []
    · have hw : ws = [] := List.eq_nil_of_length_eq_zero (by rw [r1.length, hz]; rfl)
      cases neg with
      | true => exact SeqAt.RcNeAt.lists p1.isList p2.isList (by simp [hz]) hu (e := fun _ => true) (fun j h1 => by simp [hz] at h1) _ _ _ _ (fin _ (by simp [hw, hz]))
      | false => exact SeqAt.RcAt.lists p1.isList p2.isList (by simp [hz]) hu (e := fun _ => true) (fun j h1 => by simp [hz] at h1) _ _ _ _ (fin _ (by simp [hw, hz]))
    · have hw : ws ≠ [] := fun e => hz (List.eq_nil_of_length_eq_zero (by rw [← r1.length, e]; rfl))
      cases neg with
      | true => exact SeqAt.RcNeAt.lists_lengths p1.isList p2.isList (by simp [hz]) hu _ _ _ _ (fin _ (by simp [hw]))
      | false => exact SeqAt.RcAt.lists_lengths p1.isList p2.isList (by simp [hz]) hu _ _ _ _ (fin _ (by simp [hw]))
  | false =>
    obtain ⟨its, r1, p1, _⟩ := I.tuple (by simpa using h1)
    obtain ⟨it2, r2, p2, _⟩ := I.tuple (xs := []) (by simpa using h2)
    cases r2
    have hw : ws.isEmpty = its.isEmpty := by
      have := r1.length
      cases ws <;> cases its <;> simp_all
    cases neg with
    | true => exact SeqAt.RcNeAt.tuples ⟨_, p1.choose_spec.1, p1.choose_spec.2.1, _, p1.choose_spec.2.2.choose_spec⟩ ⟨_, p2.choose_spec.1, p2.choose_spec.2.1, _, p2.choose_spec.2.2.choose_spec⟩ hu (e := fun _ => true) (fun j _ h2 => by simp at h2) _ _ _ _ (fin _ (by cases its <;> simp_all))
    | false => exact SeqAt.RcAt.tuples ⟨_, p1.choose_spec.1, p1.choose_spec.2.1, _, p1.choose_spec.2.2.choose_spec⟩ ⟨_, p2.choose_spec.1, p2.choose_spec.2.1, _, p2.choose_spec.2.2.choose_spec⟩ hu (e := fun _ => true) (fun j _ h2 => by simp at h2) _ _ _ _ (fin _ (by cases its <;> simp_all))
def oEqN (neg : Bool) : O := fun x y S => match pyEq S x y with | some b => .ok (.bl (if neg then !b else b)) S | none => .bad
theorem od_eqN (neg : Bool) (hu : X.A.units + 64 < cLine) : OpR X (compareOp (if neg then .NotEq else .Eq)) (lO X.K W (oEqN neg)) := by
  intro pins s σ H wx wy v u Q I rx ry h
  obtain ⟨σ', ρ, S, x, y, st, hx, hy, post⟩ := h
  unfold oEqN at post
  have hu0 : X.A.units < cLine := by omega
  -- a scalar's answer
  have flat : ∀ b : Bool, scal wx wy = true → decide (wx = wy) = b → Post X.K W (RV X.K) ρ H σ' (R.ok (.bl (if neg then !b else b)) S) Q → wpAny (model X.prog X.w) X.A (compareOp (if neg then .NotEq else .Eq) v u) (EP X pins σ Q) X.xe s := by
    intro b h1 h2 p
    have q := p ρ H _ Ext.refl st (.mk_bl _)
    cases neg with
    | true => exact op_ne pins s σ H wx wy v u Q I rx ry ⟨h1, by rw [h2]; exact q⟩
    | false => exact op_eq pins s σ H wx wy v u Q I rx ry ⟨h1, by rw [h2]; exact q⟩
  have deep : ∀ b : Bool, (match datS S x, datS S y with
    | some d, some e => if SeqAt.shaped d && SeqAt.shaped e then some (PyData.eqv d e) else none
    | _, _ => none) = some b → Post X.K W (RV X.K) ρ H σ' (R.ok (.bl (if neg then !b else b)) S) Q → wpAny (model X.prog X.w) X.A (compareOp (if neg then .NotEq else .Eq) v u) (EP X pins σ Q) X.xe s := by
    intro b h1 p
    have q := p ρ H _ Ext.refl st (.mk_bl _)
    split at h1
    · rename_i d e e1 e2
      split at h1
      · rename_i hs
        rw [Bool.and_eq_true] at hs
        simp only [Option.some.injEq] at h1
        subst h1
        cases neg with
        | true => exact op_neD hu pins s σ H wx wy v u Q I rx ry ⟨d, e, datS_dp st hx e1, datS_dp st hy e2, hs.1, hs.2, q⟩
        | false => exact op_eqD hu pins s σ H wx wy v u Q I rx ry ⟨d, e, datS_dp st hx e1, datS_dp st hy e2, hs.1, hs.2, q⟩
      · cases h1
    · cases h1
  have empt : ∀ (k : Bool) (xs : List Val), seqOf S x = some (k, xs) → seqOf S y = some (k, []) → Post X.K W (RV X.K) ρ H σ' (R.ok (.bl (if neg then !xs.isEmpty else xs.isEmpty)) S) Q → wpAny (model X.prog X.w) X.A (compareOp (if neg then .NotEq else .Eq) v u) (EP X pins σ Q) X.xe s := by
    intro k xs h1 h2 p
    have q := p ρ H _ Ext.refl st (.mk_bl _)
    obtain ⟨a, ws, rfl, r1, l1⟩ := seq_read st hx h1
    obtain ⟨b, us, rfl, r2, l2⟩ := seq_read st hy h2
    have e2 := RVs.nil_iff.mp r2
    subst e2
    have ew : ws.isEmpty = xs.isEmpty := by
      have := r1.length
      cases ws <;> cases xs <;> simp_all
    cases rx; cases ry
    refine eq_empty hu0 I l1 l2 ?_
    rw [ew]; exact q
  unfold pyEq at post
  split at post
  · rename_i b hb
    split at hb
    · cases hb; exact flat _ (by rw [hx.non_inv, hy.non_inv]; rfl) (by rw [hx.non_inv, hy.non_inv]; rfl) post
    · cases hb; exact flat _ (by rw [hx.non_inv, hy.int_inv]; rfl) (by rw [hx.non_inv, hy.int_inv]; rfl) post
    · cases hb; exact flat _ (by rw [hx.int_inv, hy.non_inv]; rfl) (by rw [hx.int_inv, hy.non_inv]; rfl) post
    · cases hb; exact flat _ (by rw [hx.non_inv, hy.str_inv]; rfl) (by rw [hx.non_inv, hy.str_inv]; rfl) post
    · cases hb; exact flat _ (by rw [hx.str_inv, hy.non_inv]; rfl) (by rw [hx.str_inv, hy.non_inv]; rfl) post
    · cases hb; exact flat _ (by rw [hx.int_inv, hy.int_inv]; rfl) (by rw [hx.int_inv, hy.int_inv]; simp) post
    · cases hb; exact flat _ (by rw [hx.bl_inv, hy.bl_inv]; rfl) (by rw [hx.bl_inv, hy.bl_inv]; simp) post
    · cases hb; exact flat _ (by rw [hx.str_inv, hy.str_inv]; rfl) (by rw [hx.str_inv, hy.str_inv]; simp) post
    · cases hb; exact empt false _ rfl rfl post
    · cases hb; exact empt true _ rfl rfl post
    · rename_i n
      split at hb
      · rename_i xs q
        cases hb; exact empt true xs (by simp [seqOf, q]) rfl post
      · cases hb
    · exact deep b hb post
  · exact post.elim
theorem od_eq (hu : X.A.units + 64 < cLine) : OpR X (compareOp .Eq) (lO X.K W oEq) := od_eqN false hu
theorem od_ne (hu : X.A.units + 64 < cLine) : OpR X (compareOp .NotEq) (lO X.K W oNe) := od_eqN true hu
end
end Gx
end
section
set_option maxHeartbeats 1000000
namespace Gx
open PySem L2
def PostS (K : PySem.W.Frag) (W : XW) (ρ : Pl) (H : Hp) (r : RS) (D : Ends) : Prop :=
  match r with
  | .nx L' S' => ∀ ρ' H' σ', Ext ρ H ρ' H' → Sim K ρ' H' L' S' σ' → D.nx σ' H'
  | .ret v S' => ∀ ρ' H' w, Ext ρ H ρ' H' → StOk K ρ' H' S' → RV K ρ' H' v w → D.rt w H'
  | .exn x L' S' => ∀ ρ' H' σ' c d, Ext ρ H ρ' H' → Sim K ρ' H' L' S' σ' → XV K ρ' H' x c d → W c d σ' H'
  | .bad => False
def lS (K : PySem.W.Frag) (W : XW) (d : SS) : TS := fun D σ H => ∃ ρ S L, Sim K ρ H L S σ ∧ PostS K W ρ H (d L S) D
structure DS (X : Cx) (W : XW) (s : Stmt) (d : SS) : Prop where
  ps : PS X s (lS X.K W d)
structure DSs (X : Cx) (W : XW) (s : List Stmt) (d : SS) : Prop where
  ps : PSs X s (lS X.K W d)
section
variable {K : PySem.W.Frag} {W : XW} {ρ ρ1 : Pl} {H H1 : Hp} {D : Ends} {r : RS}
theorem PostS.base (h : PostS K W ρ H r D) (e : Ext ρ H ρ1 H1) : PostS K W ρ1 H1 r D := by
  cases r with
  | nx L S => exact fun ρ' H' σ' a b => h ρ' H' σ' (e.trans a) b
  | ret v S => exact fun ρ' H' w a b c => h ρ' H' w (e.trans a) b c
  | exn x L S => exact fun ρ' H' σ' c d a b q => h ρ' H' σ' c d (e.trans a) b q
  | bad => exact h
theorem PostS.next {f : Loc → Store → RS} (h : PostS K W ρ H (r.next f) D) {N : St → Hp → Prop}
    (k : ∀ L1 S1 ρ1 H1 σ1, r = .nx L1 S1 → Ext ρ H ρ1 H1 → Sim K ρ1 H1 L1 S1 σ1 → PostS K W ρ1 H1 (f L1 S1) D → N σ1 H1) : PostS K W ρ H r { D with nx := N } := by
  cases r with
  | nx L S => exact fun ρ' H' σ' a b => k L S ρ' H' σ' rfl a b (PostS.base h a)
  | ret v S => exact h
  | exn x L S => exact h
  | bad => exact h
theorem PostS.ofE {α β : Type} {Rel : Pl → Hp → α → β → Prop} {L : Loc} {S : Store} {σ : St} {r : R α} {f : α → Store → RS} (sim : Sim K ρ H L S σ) (h : PostS K W ρ H (ofE L r f) D) {Q : β → Hp → Prop}
    (k : ∀ v S1 ρ1 H1 w, r = .ok v S1 → Ext ρ H ρ1 H1 → StOk K ρ1 H1 S1 → Rel ρ1 H1 v w → PostS K W ρ1 H1 (f v S1) D → Q w H1) : Post K W Rel ρ H σ r Q := by
  cases r with
  | ok v S' => exact fun ρ' H' w a b c => k v S' ρ' H' w rfl a b c (PostS.base h a)
  | exn x S' => exact fun ρ' H' c d a b q => h ρ' H' σ c d a (sim.next a b) q
  | bad => exact h
theorem PostS.weak {D' : Ends} (h : PostS K W ρ H r D) (h1 : ∀ σ H, D.nx σ H → D'.nx σ H) (h2 : ∀ w H, D.rt w H → D'.rt w H) : PostS K W ρ H r D' := by
  cases r with
  | nx L S => exact fun ρ' H' σ' a b => h1 _ _ (h ρ' H' σ' a b)
  | ret v S => exact fun ρ' H' w a b c => h2 _ _ (h ρ' H' w a b c)
  | exn x L S => exact h
  | bad => exact h
end

structure GoodG (K : PySem.W.Frag) (vs : List Nat) (g : G) (t : TG) : Prop where
  run : ∀ ρ H L S σ v w, Sim K ρ H L S σ → RV K ρ H v w → match g v L S with
    | .nx L' S' => S' = S ∧ ∃ σ', Sim K ρ H L' S σ' ∧ wipe σ' vs = wipe σ vs ∧ ∀ Q : St → Hp → Prop, Q σ' H → t w σ H Q
    | .bad => True
    | _ => False
structure GoodGs (K : PySem.W.Frag) (vs : List Nat) (g : Gs) (t : TGs) : Prop where
  run : ∀ ρ H L S σ xs ws, Sim K ρ H L S σ → RVs K ρ H xs ws → match g xs L S with
    | .nx L' S' => S' = S ∧ ∃ σ', Sim K ρ H L' S σ' ∧ wipe σ' vs = wipe σ vs ∧ ∀ Q : St → Hp → Prop, Q σ' H → t ws σ H Q
    | .bad => True
    | _ => False
theorem wipe_set_out {x : Option V} {i : Nat} : ∀ {vs : List Nat} {σ : St}, i ∉ vs → wipe (σ.set i x) vs = (wipe σ vs).set i x
  | [], _, _ => rfl
  | j :: vs, σ, h => by
    have h1 : i ≠ j := fun e => h (by simp [e])
    have h2 : i ∉ vs := fun e => h (by simp [e])
    show (wipe (σ.set i x) vs).set j none = ((wipe σ vs).set j none).set i x
    rw [wipe_set_out h2, List.set_comm _ _ h1]
theorem wipe_set {x : Option V} {i : Nat} : ∀ {vs : List Nat} {σ : St}, i ∈ vs → wipe (σ.set i x) vs = wipe σ vs
  | [], _, h => by simp at h
  | j :: vs, σ, h => by
    show (wipe (σ.set i x) vs).set j none = (wipe σ vs).set j none
    by_cases e : i ∈ vs
    · rw [wipe_set e]
    · have ej : i = j := by
        rcases List.mem_cons.mp h with z | z
        · exact z
        · exact absurd z e
      subst ej
      rw [wipe_set_out e, List.set_set]
theorem good_name {K : PySem.W.Frag} {vs : List Nat} (i : Nat) (hi : i ∈ vs) : GoodG K vs (gName i) (L2.gName i) :=
  ⟨fun ρ H L S σ v w sim r => ⟨rfl, σ.set i (some w), ⟨sim.st, sim.loc.set i r⟩, wipe_set hi, fun Q q => q⟩⟩
theorem good_nil {K : PySem.W.Frag} {vs : List Nat} : GoodGs K vs gNil L2.gNil := by
  refine ⟨fun ρ H L S σ xs ws sim r => ?_⟩
  cases xs with
  | nil => exact ⟨rfl, σ, sim, rfl, fun Q q => ⟨RVs.nil_iff.mp r, q⟩⟩
  | cons _ _ => exact True.intro
theorem good_cons {K : PySem.W.Frag} {vs : List Nat} {g : G} {t : TG} {gs : Gs} {ts : TGs} (h1 : GoodG K vs g t) (h2 : GoodGs K vs gs ts) : GoodGs K vs (gCons g gs) (L2.gCons t ts) := by
  refine ⟨fun ρ H L S σ xs ws sim r => ?_⟩
  cases xs with
  | nil => exact True.intro
  | cons x xs =>
    obtain ⟨w, wr, rfl, rw', rt⟩ := r.inv
    have a := h1.run ρ H L S σ x w sim rw'
    simp only [gCons]
    cases e : g x L S with
    | nx L1 S1 =>
      rw [e] at a
      obtain ⟨rfl, σ1, sim1, wp1, k1⟩ := a
      have b := h2.run ρ H L1 S1 σ1 xs wr sim1 rt
      simp only [plain_nx, next_nx]
      cases e2 : gs xs L1 S1 with
      | nx L2 S2 =>
        rw [e2] at b
        obtain ⟨rfl, σ2, sim2, wp2, k2⟩ := b
        exact ⟨rfl, σ2, sim2, wp2.trans wp1, fun Q q => ⟨w, wr, rfl, k1 _ (k2 Q q)⟩⟩
      | bad => exact True.intro
      | ret _ _ => rw [e2] at b; exact b.elim
      | exn _ _ _ => rw [e2] at b; exact b.elim
    | bad => exact True.intro
    | ret _ _ => rw [e] at a; exact a.elim
    | exn _ _ _ => rw [e] at a; exact a.elim
def gSeq (K : PySem.W.Frag) (n : Nat) (t : TGs) : TG := fun v σ H Q => L2.gTup K n t v σ H Q ∨ gUnl K n t v σ H Q
theorem good_tup {K : PySem.W.Frag} {vs : List Nat} {n : Nat} {gs : Gs} {ts : TGs} (h : GoodGs K vs gs ts) : GoodG K vs (gTup n gs) (gSeq K n ts) := by
  refine ⟨fun ρ H L S σ x w sim r => ?_⟩
  unfold gTup
  cases e : seqOf S x with
  | none => exact True.intro
  | some p =>
    obtain ⟨k, xs⟩ := p
    obtain ⟨a, ws, rfl, h1, h2⟩ := seq_read sim.st r e
    simp only []
    by_cases hl : xs.length = n
    · rw [if_pos hl]
      have b := h.run ρ H L S σ xs ws sim h1
      cases e2 : gs xs L S with
      | nx L2 S2 =>
        rw [e2] at b
        obtain ⟨rfl, σ2, sim2, wp2, k2⟩ := b
        refine ⟨rfl, σ2, sim2, wp2, fun Q q => ?_⟩
        cases k with
        | true => exact .inr ⟨a, ws, rfl, by simpa using h2, by rw [h1.length]; exact hl, k2 Q q⟩
        | false => exact .inl ⟨a, ws, rfl, by simpa using h2, by rw [h1.length]; exact hl, k2 Q q⟩
      | bad => exact True.intro
      | ret _ _ => rw [e2] at b; exact b.elim
      | exn _ _ _ => rw [e2] at b; exact b.elim
    · rw [if_neg hl]; exact True.intro
theorem pg_seq {X : Cx} {es : List Expr} {k : Nat} {t : TGs} {n : Nat} {pos : Pos} (hc : X.calm = true) (h : PGs X es t)
    (hn : (assignEach es X.env).length = n := by rfl) (hst : (assignEach es X.env).findIdx? (·.1) = none := by rfl) : PG X (.Tuple es k pos) (gSeq X.K n t) := by
  refine ⟨fun pins s σ H v u Q I r hw => ?_⟩
  rcases hw with hw | hw
  · exact (pg_tup hc h hn hst).run pins s σ H v u Q I r hw
  · exact (pg_unl hc h hn hst).run pins s σ H v u Q I r hw
def lG (K : PySem.W.Frag) (W : XW) (g : G) : TG := fun w σ H Q => ∃ ρ S L v, Sim K ρ H L S σ ∧ RV K ρ H v w ∧ PostS K W ρ H (g v L S).plain { nx := Q, rt := fun _ _ => False }
structure DG (X : Cx) (W : XW) (tg : Expr) (g : G) : Prop where
  pg : PG X tg (lG X.K W g)
theorem PG.weak {X : Cx} {e : Expr} {t t' : TG} (h : PG X e t) (k : ∀ w σ H Q, t' w σ H Q → t w σ H Q) : PG X e t' := ⟨fun pins s σ H v u Q I r q => h.run pins s σ H v u Q I r (k v σ H Q q)⟩
theorem dg_good {X : Cx} {W : XW} {tg : Expr} {g : G} {t : TG} {vs : List Nat} (h : PG X tg t) (k : GoodG X.K vs g t) : DG X W tg g := by
  refine ⟨PG.weak h fun w σ H Q q => ?_⟩
  obtain ⟨ρ, S, L, v, sim, r, q⟩ := q
  have a := k.run ρ H L S σ v w sim r
  cases e : g v L S with
  | nx L1 S1 =>
    rw [e] at a q
    obtain ⟨rfl, σ1, sim1, _, k1⟩ := a
    exact k1 Q (q ρ H σ1 Ext.refl sim1)
  | bad => rw [e] at q; exact q.elim
  | ret _ _ => rw [e] at a; exact a.elim
  | exn _ _ _ => rw [e] at a; exact a.elim

section
variable {X : Cx} {W : XW} {c e : Expr} {s : Stmt} {ss : List Stmt} {d : E} {tc : T} {da db : SS} {g : G} {pos : Pos}
theorem dss_nil : DSs X W [] sNil := by
  refine ⟨PSs.weak pss_nil fun D σ H h => ?_⟩
  obtain ⟨ρ, S, L, sim, h⟩ := h
  exact h ρ H σ Ext.refl sim
theorem dss_cons (h1 : DS X W s da) (h2 : DSs X W ss db) : DSs X W (s :: ss) (sSeq da db) := by
  refine ⟨PSs.weak (pss_cons h1.ps h2.ps) fun D σ H h => ?_⟩
  obtain ⟨ρ, S, L, sim, h⟩ := h
  exact ⟨ρ, S, L, sim, PostS.next h fun L1 S1 ρ1 H1 σ1 _ e1 sim1 h1 => ⟨ρ1, S1, L1, sim1, h1⟩⟩
theorem dss_one (h1 : DS X W s da) : DSs X W [s] da := ⟨pss_one h1.ps⟩
theorem ds_expr (he : DE X W e d) (hs : swapsWith e none pos.line X.env = pure false := by rfl) : DS X W (.Expr e pos) (sDrop d) := by
  refine ⟨PS.weak (ps_expr he.pe hs) fun D σ H h => ?_⟩
  obtain ⟨ρ, S, L, sim, h⟩ := h
  exact ⟨ρ, S, L, sim, PostS.ofE sim h fun v S1 ρ1 H1 w _ e1 s1 _ h1 => h1 ρ1 H1 σ Ext.refl (sim.next e1 s1)⟩
theorem ds_ret (he : DE X W e d) : DS X W (.Return (some e) pos) (sRet d) := by
  refine ⟨PS.weak (ps_ret he.pe) fun D σ H h => ?_⟩
  obtain ⟨ρ, S, L, sim, h⟩ := h
  exact ⟨ρ, S, L, sim, PostS.ofE sim h fun v S1 ρ1 H1 w _ e1 s1 r1 h1 => h1 ρ1 H1 w Ext.refl s1 r1⟩
theorem ds_if {a b : List Stmt} (hc : DT X W c tc) (ha : DSs X W a da) (hb : DSs X W b db) : DS X W (.If c a b pos) (sIf tc da db) := by
  refine ⟨PS.weak (ps_if hc.pt ha.ps hb.ps) fun D σ H h => ?_⟩
  obtain ⟨ρ, S, L, sim, h⟩ := h
  refine ⟨ρ, S, L, sim, PostS.ofE sim h fun v S1 ρ1 H1 w _ e1 s1 r1 h1 => ?_⟩
  subst r1
  cases v with
  | true => rw [if_pos rfl]; exact ⟨ρ1, S1, L, sim.next e1 s1, h1⟩
  | false => rw [if_neg (by simp)]; exact ⟨ρ1, S1, L, sim.next e1 s1, h1⟩
theorem lAsg {σ : St} {H : Hp} {D : Ends} (h : lS X.K W (sAsg d g) D σ H) : L2.tAsg (lE X.K W d) (lG X.K W g) D σ H := by
  obtain ⟨ρ, S, L, sim, h⟩ := h
  refine ⟨ρ, S, L, sim, PostS.ofE sim h fun v S1 ρ1 H1 w _ e1 s1 r1 h1 => ⟨ρ1, S1, L, v, sim.next e1 s1, r1, ?_⟩⟩
  cases q : g v L S1 with
  | ret _ _ => rw [q] at h1; exact h1.elim
  | nx L2 S2 => rw [q] at h1; exact h1
  | exn _ _ _ => rw [q] at h1; exact h1
  | bad => rw [q] at h1; exact h1.elim
theorem ds_asg {tg : Expr} (he : DE X W e d) (hg : DG X W tg g) (hs : swapsWithSole [tg] e pos.line X.env = pure false := by rfl) (hw : swappedStores [tg] e X.env = pure none := by rfl)
    (h1 : (assignEach [tg] X.env).map (·.2) = [assign tg X.env] := by rfl) : DS X W (.Assign [tg] e pos) (sAsg d g) :=
  ⟨PS.weak (ps_asg he.pe hg.pg hs hw h1) fun _ _ _ h => lAsg h⟩
theorem dg_name {i : Nat} {x : Str} (hN : X.N.Nodup) (hi : X.N[i]? = some x) (hx : L2.Loc X.env.scope x) (hf : X.fn x = true ∨ X.env.scope.names.lookup x = some .local := by first | exact .inl rfl | exact .inr rfl | assumption) : DG X W (.Name x pos) (gName i) :=
  dg_good (pg_name hN hi hx hf) (good_name (vs := [i]) i (by simp))
end
end Gx
end
section
set_option maxHeartbeats 1000000
namespace Gx
open PySem L2
def Serves (K : PySem.W.Frag) (ρ : Pl) (H : Hp) (src : Src) (J : It) : Prop :=
  ∀ ρ1 H1 S1, ExtB ρ H ρ1 H1 → StOk K ρ1 H1 S1 → src.ok S1 = true →
    (∀ i x, src.items[i]? = some x → J.go i H1 ∧ ∀ w H2, J.yld i H1 w H2 → Ext ρ1 H1 ρ1 H2 ∧ StOk K ρ1 H2 S1 ∧ RV K ρ1 H2 x w ∧ ∀ a o, H1 a = some o → H2 a = some o) ∧ J.stop src.items.length H1
def lI (K : PySem.W.Frag) (W : XW) (d : I) : TI := fun σ H R => ∃ ρ S L, Sim K ρ H L S σ ∧ Post K W (Serves K) ρ H σ (d L S) R
structure DI (X : Cx) (W : XW) (tg iter : Expr) (d : I) : Prop where
  pi : PI X tg iter (lI X.K W d)
theorem PI.weak {X : Cx} {tg e : Expr} {t t' : TI} (h : PI X tg e t) (k : ∀ σ H Q, t' σ H Q → t σ H Q) : PI X tg e t' := ⟨fun pins s σ H Q I q => h.run pins s σ H Q I (k σ H Q q)⟩
section
variable {X : Cx} {W : XW} {c e iter tg : Expr} {body : List Stmt} {di : I} {tc : T} {db : SS} {g : G} {t : TG} {vs : List Nat} {pos : Pos}
theorem for_lift (gg : GoodG X.K vs g t) {D : Ends} {σ : L2.St} {H : Hp} (h : lS X.K W (sFor di g db) D σ H) : tFor (lI X.K W di) t (lS X.K W db) D σ H := by
  obtain ⟨ρ, S, L, sim, h⟩ := h
  refine ⟨ρ, S, L, sim, PostS.ofE sim h fun src S1 ρ1 H1 J _ e1 s1 sv h1 => ?_⟩
  refine ⟨fun i m σ' H' => m = src.items.length - i ∧ i ≤ src.items.length ∧ ∃ ρ2 L2 S2, Ext ρ1 H1 ρ2 H' ∧ Sim X.K ρ2 H' L2 S2 σ' ∧ PostS X.K W ρ2 H' (forGo src.ok g db (src.items.drop i) L2 S2) D,
    ⟨src.items.length, by simp, Nat.zero_le _, ρ1, L, S1, Ext.refl, sim.next e1 s1, h1⟩, ?_⟩
  rintro i m σ' H' ⟨rfl, hi', ρ2, L2, S2, e2, sim2, h2⟩
  by_cases hlt : i < src.items.length
  · have ed : src.items.drop i = src.items[i] :: src.items.drop (i + 1) := List.drop_eq_getElem_cons hlt
    rw [ed] at h2
    unfold forGo at h2
    split at h2
    · rename_i ok
      obtain ⟨go, yld⟩ := (sv ρ2 H' S2 e2.toExtB sim2.st ok).1 i _ (List.getElem?_eq_getElem hlt)
      refine .inr ⟨go, fun σ3 H3 => ∃ ρ3 L3 S3, Ext ρ1 H1 ρ3 H3 ∧ Sim X.K ρ3 H3 L3 S3 σ3 ∧ PostS X.K W ρ3 H3 (forGo src.ok g db (src.items.drop (i + 1)) L3 S3) D, fun σ3 H3 n => ⟨src.items.length - (i + 1), by omega, rfl, hlt, n⟩, fun w H3 y => ?_⟩
      obtain ⟨e3, s3, r3, _⟩ := yld w H3 y
      have sim3 : Sim X.K ρ2 H3 L2 S2 σ' := sim2.next e3 s3
      have a := gg.run ρ2 H3 L2 S2 σ' _ w sim3 r3
      have h3 := PostS.base h2 e3
      cases q : g src.items[i] L2 S2 with
      | nx L4 S4 =>
        rw [q] at a h3
        simp only [plain_nx, next_nx] at h3
        obtain ⟨rfl, σ4, sim4, _, k4⟩ := a
        refine k4 _ ⟨ρ2, _, L4, sim4, ?_⟩
        refine PostS.weak (PostS.next (N := fun σ5 H5 => ∃ ρ3 L3 S3, Ext ρ1 H1 ρ3 H5 ∧ Sim X.K ρ3 H5 L3 S3 σ5 ∧ PostS X.K W ρ3 H5 (forGo src.ok g db (src.items.drop (i + 1)) L3 S3) D) h3 fun L5 S5 ρ5 H5 σ5 _ e5 sim5 h5 => ⟨ρ5, L5, S5, (e2.trans e3).trans e5, sim5, h5⟩) (fun _ _ z => z) (fun _ _ z => z)
      | bad => rw [q] at h3; exact h3.elim
      | ret _ _ => rw [q] at a; exact a.elim
      | exn _ _ _ => rw [q] at a; exact a.elim
    · exact h2.elim
  · have ei : i = src.items.length := by omega
    subst ei
    rw [List.drop_length] at h2
    unfold forGo at h2
    split at h2
    · rename_i ok
      exact .inl ⟨(sv ρ2 H' S2 e2.toExtB sim2.st ok).2, h2 ρ2 H' σ' Ext.refl sim2⟩
    · exact h2.elim
theorem ds_for (hp : PassesOwn (model X.prog X.w) X.A X.env X.xe) (hc : X.calm = true) (hi : DI X W tg iter di) (hg : PG X tg t) (gg : GoodG X.K vs g t) (hb : DSs X W body db)
    (hs : ∀ x, foldedSetIterable iter X.env x = pure x := by intro _; rfl) : DS X W (.For tg iter body [] pos) (sFor di g db) := by
  exact ⟨PS.weak (ps_for hp hc hi.pi hg hb.ps hs) fun D σ H h => for_lift gg h⟩
def W0 : XW := fun _ _ _ _ => False
structure DTs (X : Cx) (W : XW) (es : List Expr) (d : T) : Prop where
  pts : PTs X es (lT X.K W d)
theorem PTs.weak {X : Cx} {e : List Expr} {t t' : TT} (h : PTs X e t) (k : ∀ σ H Q, t' σ H Q → t σ H Q) : PTs X e t' := ⟨fun pins s σ H Q I q => h.run pins s σ H Q I (k σ H Q q)⟩
theorem dts_nil : DTs X W [] tYes := by
  refine ⟨PTs.weak pts_nil fun σ H Q h => ?_⟩
  obtain ⟨ρ, S, L, sim, h⟩ := h
  exact h ρ H true Ext.refl sim.st rfl
theorem wipeL_get : ∀ {vs : List Nat} {L : Loc} {i : Nat} {v : Val}, (wipeL L vs)[i]? = some (some v) → L[i]? = some (some v) ∧ i ∉ vs
  | [], _, _, _, h => ⟨h, by simp⟩
  | j :: vs, L, i, v, h => by
    obtain ⟨h1, h2⟩ := wipeL_get (vs := vs) (L := L.set j none) h
    by_cases e : i = j
    · subst e
      have hl : i < L.length := by
        have := (List.getElem?_eq_some_iff.mp h1).1
        simpa using this
      rw [List.getElem?_set_self hl] at h1
      cases h1
    · rw [List.getElem?_set_ne (Ne.symm e)] at h1
      exact ⟨h1, by simp [e, h2]⟩
theorem wipeL_length : ∀ (vs : List Nat) (L : Loc), (wipeL L vs).length = L.length
  | [], _ => rfl
  | j :: vs, L => by
    show (wipeL (L.set j none) vs).length = L.length
    rw [wipeL_length vs, List.length_set]
theorem LocOk.wipe {K : PySem.W.Frag} {ρ : Pl} {H : Hp} {L : Loc} {σ : St} (h : LocOk K ρ H L σ) (vs : List Nat) : LocOk K ρ H (wipeL L vs) (L2.wipe σ vs) := by
  refine ⟨by rw [wipeL_length, wipe_length]; exact h.1, fun i v q => ?_⟩
  obtain ⟨q1, q2⟩ := wipeL_get q
  obtain ⟨w, h1, h2⟩ := h.2 i v q1
  exact ⟨w, by rw [wipe_out q2]; exact h1, h2⟩
theorem ext_busy {ρ : Pl} {H : Hp} {D : Addr} {o : HO} (hD : H D = none) : ExtB ρ H ⟨ρ.c, D :: ρ.m⟩ (upd H D o) :=
  ⟨⟨[], by simp⟩, fun a h => by
    rcases List.mem_cons.mp h with z | z
    · exact .inr (z ▸ hD)
    · exact .inl z, fun a u h _ => by rw [upd_ne (ne_of_none h hD)]; exact h, fun _ h => .inl h, fun a h => upd_live h⟩
theorem fz_free {ρ : Pl} {H : Hp} {a : Addr} {u : HO} {m : List Addr} (hm : ∀ a, a ∈ m → a ∈ ρ.m) (h : Fz ρ H a u) : Fz ⟨ρ.c, m⟩ H a u := by
  rcases h with h | ⟨h, h1, h2⟩
  · exact .inl h
  · exact .inr ⟨h, h1, fun z => h2 (hm a z)⟩
theorem fu_made {ρ : Pl} {H : Hp} {D a : Addr} {u : HO} {ws : List V} (hm : D ∈ ρ.m) (h : Fu ρ H a u) : Fu ρ (upd H D (.lst ws)) a u :=
  ⟨by rw [upd_ne (fun z => h.2.2 (by rw [z]; exact hm))]; exact h.1, h.2.1, h.2.2⟩
theorem fz_made {ρ : Pl} {H : Hp} {D a : Addr} {u : HO} {us ws : List V} (hm : D ∈ ρ.m) (hD : H D = some (.lst us)) (h : Fz ρ H a u) : Fz ρ (upd H D (.lst ws)) a u := by
  rcases h with ⟨o, h⟩ | ⟨h, h1, h2⟩
  · exact .inl ⟨o, by rw [upd_ne (ne_of h hD (by intro z; cases z))]; exact h⟩
  · exact .inr ⟨by rw [upd_ne (fun z => h2 (by rw [z]; exact hm))]; exact h, h1, h2⟩
theorem sqt_made {K : PySem.W.Frag} {H : Hp} {D a : Addr} {o : HO} {ws us : List V} (hD : H D = some (.lst us)) (h : SqT K H a ws) : SqT K (upd H D o) a ws := by
  rcases h with (h | ⟨b, h⟩) | h
  · exact .inl (.inl (by rw [upd_ne (ne_of h hD (by intro z; cases z))]; exact h))
  · exact .inl (.inr ⟨b, by rw [upd_ne (ne_of h hD (by intro z; cases z))]; exact h⟩)
  · exact .inr h
def Plain (u : HO) : Prop := (∀ o v, u = .frz o v → ∃ ws, v = .tup ws) ∧ ∀ ws, u ≠ .dK ws
def NoFr (u : HO) : Prop := ∀ o v, u ≠ .frz o v
theorem nofrL {ws : List V} : NoFr (.lst ws) := fun _ _ q => (by cases q)
theorem nofrK {ws : List (Key × V)} : NoFr (.dK ws) := fun _ _ q => (by cases q)
theorem plainL {ws : List V} : Plain (.lst ws) := ⟨fun _ _ q => (by cases q), fun _ q => (by cases q)⟩
theorem plainT {o : Obj} {ws : List V} : Plain (.frz o (.tup ws)) := ⟨fun _ _ q => (by cases q; exact ⟨_, rfl⟩), fun _ q => (by cases q)⟩
theorem plainX {φ : Heap → Prop} : Plain (.ext φ) := ⟨fun _ _ q => (by cases q), fun _ q => (by cases q)⟩
theorem plainI {C dx : Addr} {ws : List (Str × V)} : Plain (.ins C dx ws) := ⟨fun _ _ q => (by cases q), fun _ q => (by cases q)⟩
mutual
theorem RV.mapP {K : PySem.W.Frag} {ρ ρ' : Pl} {H H' : Hp} (f : ∀ a u, NoFr u → Fz ρ H a u → Fz ρ' H' a u) (f2 : ∀ a u, Plain u → Fu ρ H a u → Fu ρ' H' a u) (ft : ∀ a ws, SqT K H a ws → SqT K H' a ws) (fc : ρ'.c = ρ.c) : ∀ {x : Val} {w : V}, RV K ρ H x w → RV K ρ' H' x w
  | .non, _, h => h
  | .bl _, _, h => h
  | .int _, _, h => h
  | .str _, _, h => h
  | .ty _, _, h => h
  | .gl _, _, h => h
  | .tup xs, _, h => by
    unfold RV at h ⊢
    obtain ⟨a, ws, h1, h2, h3⟩ := h
    exact ⟨a, ws, h1, ft _ _ h2, RVs.mapP f f2 ft fc h3⟩
  | .lst xs, _, h => by
    unfold RV at h ⊢
    obtain ⟨a, ws, h1, h2, h3⟩ := h
    exact ⟨a, ws, h1, f2 _ _ plainL h2, RVs.mapP f f2 ft fc h3⟩
  | .frz xs, _, h => by
    unfold RV at h ⊢
    obtain ⟨a, ws, h1, h2, h3⟩ := h
    exact ⟨a, ws, h1, h2.imp (f _ _ nofrL) id, RVs.mapP f f2 ft fc h3⟩
  | .ptp xs, _, h => by
    unfold RV at h ⊢
    obtain ⟨a, o, ws, h1, h2, h0, h3⟩ := h
    exact ⟨a, o, ws, h1, f2 _ _ plainT h2, h0, RVs.mapP f f2 ft fc h3⟩
  | .dct xs, _, h => by
    unfold RV at h ⊢
    obtain ⟨a, ws, h1, h2, h3⟩ := h
    exact ⟨a, ws, h1, f _ _ nofrK h2, RVK.mapP f f2 ft fc h3⟩
  | .dtt xs, _, h => by
    unfold RV at h ⊢
    obtain ⟨a, n, ws, h1, h2, h3⟩ := h
    exact ⟨a, n, ws, h1, f2 _ _ plainX h2, RVT.mapP f f2 ft fc h3⟩
  | .obj C xs, _, h => by
    unfold RV at h ⊢
    obtain ⟨a, dx, ws, h1, h2, h3⟩ := h
    exact ⟨a, dx, ws, h1, f2 _ _ plainI h2, RVF.mapP f f2 ft fc h3⟩
  | .ref n, _, h => by
    unfold RV at h ⊢
    rw [fc]; exact h
theorem RVs.mapP {K : PySem.W.Frag} {ρ ρ' : Pl} {H H' : Hp} (f : ∀ a u, NoFr u → Fz ρ H a u → Fz ρ' H' a u) (f2 : ∀ a u, Plain u → Fu ρ H a u → Fu ρ' H' a u) (ft : ∀ a ws, SqT K H a ws → SqT K H' a ws) (fc : ρ'.c = ρ.c) : ∀ {x : List Val} {w : List V}, RVs K ρ H x w → RVs K ρ' H' x w
  | [], _, h => h
  | x :: xs, _, h => by
    unfold RVs at h ⊢
    obtain ⟨w, r, h1, h2, h3⟩ := h
    exact ⟨w, r, h1, RV.mapP f f2 ft fc h2, RVs.mapP f f2 ft fc h3⟩
theorem RVK.mapP {K : PySem.W.Frag} {ρ ρ' : Pl} {H H' : Hp} (f : ∀ a u, NoFr u → Fz ρ H a u → Fz ρ' H' a u) (f2 : ∀ a u, Plain u → Fu ρ H a u → Fu ρ' H' a u) (ft : ∀ a ws, SqT K H a ws → SqT K H' a ws) (fc : ρ'.c = ρ.c) : ∀ {x : List (Key × Val)} {w : List (Key × V)}, RVK K ρ H x w → RVK K ρ' H' x w
  | [], _, h => h
  | (k, x) :: xs, _, h => by
    unfold RVK at h ⊢
    obtain ⟨w, r, h1, h2, h3⟩ := h
    exact ⟨w, r, h1, RV.mapP f f2 ft fc h2, RVK.mapP f f2 ft fc h3⟩
theorem RVT.mapP {K : PySem.W.Frag} {ρ ρ' : Pl} {H H' : Hp} (f : ∀ a u, NoFr u → Fz ρ H a u → Fz ρ' H' a u) (f2 : ∀ a u, Plain u → Fu ρ H a u → Fu ρ' H' a u) (ft : ∀ a ws, SqT K H a ws → SqT K H' a ws) (fc : ρ'.c = ρ.c) : ∀ {x : List (List Int × Val)} {w : List Ent}, RVT K ρ H x w → RVT K ρ' H' x w
  | [], _, h => h
  | (k, x) :: xs, _, h => by
    unfold RVT at h ⊢
    obtain ⟨b, w, r, h1, h0, h2, h3⟩ := h
    exact ⟨b, w, r, h1, ft _ _ h0, RV.mapP f f2 ft fc h2, RVT.mapP f f2 ft fc h3⟩
theorem RVF.mapP {K : PySem.W.Frag} {ρ ρ' : Pl} {H H' : Hp} (f : ∀ a u, NoFr u → Fz ρ H a u → Fz ρ' H' a u) (f2 : ∀ a u, Plain u → Fu ρ H a u → Fu ρ' H' a u) (ft : ∀ a ws, SqT K H a ws → SqT K H' a ws) (fc : ρ'.c = ρ.c) : ∀ {x : List (Str × Val)} {w : List (Str × V)}, RVF K ρ H x w → RVF K ρ' H' x w
  | [], _, h => h
  | (k, x) :: xs, _, h => by
    unfold RVF at h ⊢
    obtain ⟨w, r, h1, h2, h3⟩ := h
    exact ⟨w, r, h1, RV.mapP f f2 ft fc h2, RVF.mapP f f2 ft fc h3⟩
end
theorem RC.mapP {K : PySem.W.Frag} {ρ ρ' : Pl} {H H' : Hp} (f : ∀ a u, NoFr u → Fz ρ H a u → Fz ρ' H' a u) (f2 : ∀ a u, Plain u → Fu ρ H a u → Fu ρ' H' a u) (ft : ∀ a ws, SqT K H a ws → SqT K H' a ws) (fc : ρ'.c = ρ.c) {a : Addr} (ha : H' a = H a) {c : Cell} (h : RC K ρ H a c) : RC K ρ' H' a c := by
  cases c with
  | lst xs => obtain ⟨ws, h1, h2⟩ := h; exact ⟨ws, ha.trans h1, h2.mapP f f2 ft fc⟩
  | dct xs => obtain ⟨ws, h1, h2⟩ := h; exact ⟨ws, ha.trans h1, h2.mapP f f2 ft fc⟩
  | dtt xs => obtain ⟨ws, h1, h2⟩ := h; exact ⟨ws, ha.trans h1, h2.mapP f f2 ft fc⟩
  | dnt xs => obtain ⟨ws, h1, h2⟩ := h; exact ⟨ws, ha.trans h1, h2.mapP f f2 ft fc⟩
  | ins C xs => obtain ⟨dx, ws, h1, h2⟩ := h; exact ⟨dx, ws, ha.trans h1, h2.mapP f f2 ft fc⟩
theorem StOk.mapP {K : PySem.W.Frag} {ρ ρ' : Pl} {H H' : Hp} {S : Store} (f : ∀ a u, NoFr u → Fz ρ H a u → Fz ρ' H' a u) (f2 : ∀ a u, Plain u → Fu ρ H a u → Fu ρ' H' a u) (ft : ∀ a ws, SqT K H a ws → SqT K H' a ws) (fc : ρ'.c = ρ.c) (hh : ∀ a, a ∈ ρ.c → H' a = H a) (hb : ∀ a, a ∈ ρ'.m → (∃ o, H' a = some o) ∧ a ∉ ρ'.c) (h : StOk K ρ H S) : StOk K ρ' H' S :=
  ⟨by rw [fc]; exact h.len, by rw [fc]; exact h.nd, hb, fun n c hn => let ⟨a, ha, rc⟩ := h.cell n c hn; ⟨a, by rw [fc]; exact ha, rc.mapP f f2 ft fc (hh a (List.mem_of_getElem? ha))⟩⟩
theorem RV.map {K : PySem.W.Frag} {ρ ρ' : Pl} {H H' : Hp} (f : ∀ a u, Fz ρ H a u → Fz ρ' H' a u) (f2 : ∀ a u, Fu ρ H a u → Fu ρ' H' a u) (ft : ∀ a ws, SqT K H a ws → SqT K H' a ws) (fc : ρ'.c = ρ.c) {x : Val} {w : V} (h : RV K ρ H x w) : RV K ρ' H' x w := RV.mapP (fun a u _ => f a u) (fun a u _ => f2 a u) ft fc h
theorem RVs.map {K : PySem.W.Frag} {ρ ρ' : Pl} {H H' : Hp} (f : ∀ a u, Fz ρ H a u → Fz ρ' H' a u) (f2 : ∀ a u, Fu ρ H a u → Fu ρ' H' a u) (ft : ∀ a ws, SqT K H a ws → SqT K H' a ws) (fc : ρ'.c = ρ.c) {x : List Val} {w : List V} (h : RVs K ρ H x w) : RVs K ρ' H' x w := RVs.mapP (fun a u _ => f a u) (fun a u _ => f2 a u) ft fc h
theorem RVK.map {K : PySem.W.Frag} {ρ ρ' : Pl} {H H' : Hp} (f : ∀ a u, Fz ρ H a u → Fz ρ' H' a u) (f2 : ∀ a u, Fu ρ H a u → Fu ρ' H' a u) (ft : ∀ a ws, SqT K H a ws → SqT K H' a ws) (fc : ρ'.c = ρ.c) {x : List (Key × Val)} {w : List (Key × V)} (h : RVK K ρ H x w) : RVK K ρ' H' x w := RVK.mapP (fun a u _ => f a u) (fun a u _ => f2 a u) ft fc h
theorem RC.map {K : PySem.W.Frag} {ρ ρ' : Pl} {H H' : Hp} (f : ∀ a u, Fz ρ H a u → Fz ρ' H' a u) (f2 : ∀ a u, Fu ρ H a u → Fu ρ' H' a u) (ft : ∀ a ws, SqT K H a ws → SqT K H' a ws) (fc : ρ'.c = ρ.c) {a : Addr} (ha : H' a = H a) {c : Cell} (h : RC K ρ H a c) : RC K ρ' H' a c := RC.mapP (fun a u _ => f a u) (fun a u _ => f2 a u) ft fc ha h
theorem StOk.map {S : Store} {K : PySem.W.Frag} {ρ ρ' : Pl} {H H' : Hp} (f : ∀ a u, Fz ρ H a u → Fz ρ' H' a u) (f2 : ∀ a u, Fu ρ H a u → Fu ρ' H' a u) (ft : ∀ a ws, SqT K H a ws → SqT K H' a ws) (fc : ρ'.c = ρ.c) (hh : ∀ a, a ∈ ρ.c → H' a = H a) (hb : ∀ a, a ∈ ρ'.m → (∃ o, H' a = some o) ∧ a ∉ ρ'.c) (h : StOk K ρ H S) : StOk K ρ' H' S := StOk.mapP (fun a u _ => f a u) (fun a u _ => f2 a u) ft fc hh hb h
theorem StOk.made {K : PySem.W.Frag} {ρ : Pl} {H : Hp} {S : Store} {D : Addr} {us ws : List V} (hm : D ∈ ρ.m) (hD : H D = some (.lst us)) (h : StOk K ρ H S) : StOk K ρ (upd H D (.lst ws)) S :=
  h.map (fun _ _ => fz_made hm hD) (fun _ _ => fu_made hm) (fun _ _ => sqt_made hD) rfl (fun a ha => upd_ne fun z => (h.bz D hm).2 (z ▸ ha)) fun a ha => by
    obtain ⟨⟨o, ho⟩, hn⟩ := h.bz a ha
    refine ⟨?_, hn⟩
    by_cases e : a = D
    · subst e; exact ⟨_, upd_same⟩
    · exact ⟨o, by rw [upd_ne e]; exact ho⟩
theorem ext_made {ρ ρ1 : Pl} {H H1 : Hp} {D : Addr} {us ws : List V} (hn : H D = none) (hD : H1 D = some (.lst us)) (e : ExtB ρ H ρ1 H1) : ExtB ρ H ρ1 (upd H1 D (.lst ws)) :=
  ⟨e.pre, e.bus, fun a o h k => by rw [upd_ne (ne_of_none h hn)]; exact e.fix a o h k, e.new, fun a h => e.live a (upd_live h)⟩

theorem lc_lift {wi : I} {tt : T} {ee : E} {own : List Nat} (gg : GoodG X.K own g t) {σ : St} {H : Hp} {Q : VK} (h : lF X.K W (fComp own wi g tt ee) σ H Q) :
    tLc (lI X.K W wi) t (lT X.K W0 tt) (lE X.K W0 ee) own σ H Q := by
  obtain ⟨ρ, S, L, sim, h⟩ := h
  refine ⟨ρ, S, L, sim, Post.bind (Rel' := RVs X.K) h fun src S1 ρ1 H1 J _ e1 s1 sv h1 => ?_⟩
  intro D hD
  -- the comprehension ends well
  obtain ⟨xs, S9, ee9, hz, h9⟩ : ∃ xs S9, compGo src.ok g tt ee (wipeL L own) src.items S1 = .ok xs S9 ∧ xs.length ≤ sizeLine ∧ Post X.K W (RVs X.K) ρ1 H1 σ (R.ok xs S9) fun ws H1 => ∀ p, H1 p = none → Q (.ref p) (upd H1 p (.lst ws)) := by
    cases q : compGo src.ok g tt ee (wipeL L own) src.items S1 with
    | ok xs S9 =>
      rw [q] at h1
      simp only [calm, R.bind_ok] at h1
      split at h1
      · rename_i hz; exact ⟨xs, S9, rfl, hz, h1⟩
      · exact h1.elim
    | exn _ _ => rw [q] at h1; exact h1.elim
    | bad => rw [q] at h1; exact h1.elim
  have locW := (sim.loc.ext e1).wipe own
  -- the invariant
  refine ⟨fun i m H2 => m = src.items.length - i ∧ i ≤ src.items.length ∧ ∃ ρ2 S2 acc ws rest, ExtB ρ1 H1 ρ2 H2 ∧ ρ2.m = D :: ρ1.m ∧ StOk X.K ρ2 H2 S2 ∧ H2 D = some (.lst ws) ∧ RVs X.K ρ2 H2 acc ws ∧
    compGo src.ok g tt ee (wipeL L own) (src.items.drop i) S2 = .ok rest S9 ∧ xs = acc ++ rest, ⟨src.items.length, by simp, Nat.zero_le _, ⟨ρ1.c, D :: ρ1.m⟩, S1, [], [], xs, ext_busy hD, rfl, ?_, upd_same, .nil, ee9, rfl⟩, ?_⟩
  · have a : StOk X.K ρ1 (upd H1 D (.lst [])) S1 := s1.new hD
    refine ⟨a.len, a.nd, fun b hb => ?_, fun n c hn => ?_⟩
    · rcases List.mem_cons.mp hb with z | z
      · subst z; exact ⟨⟨_, upd_same⟩, s1.fresh hD⟩
      · exact a.bz b z
    · obtain ⟨p, hp, rc⟩ := s1.cell n c hn
      exact ⟨p, hp, RC.map (fun a u q => (ext_busy hD).fz q) (fun a u q => (ext_busy hD).fu q) (fun a ws q => (ext_busy (ρ := ρ1) hD).sqt q) rfl (upd_ne fun z => s1.fresh hD (z ▸ List.mem_of_getElem? hp)) rc⟩
  · rintro i m H2 ⟨rfl, hi, ρ2, S2, acc, ws, rest, e2, m2, s2, hD2, racc, ec, ex⟩
    have hDm : D ∈ ρ2.m := by rw [m2]; exact List.mem_cons_self
    have hDc : D ∉ ρ2.c := (s2.bz D hDm).2
    by_cases hlt : i < src.items.length
    · rw [List.drop_eq_getElem_cons hlt] at ec
      unfold compGo at ec
      split at ec
      · rename_i ok
        obtain ⟨go, yld⟩ := (sv ρ2 H2 S2 e2 s2 ok).1 i _ (List.getElem?_eq_getElem hlt)
        refine .inr ⟨go, fun H5 => ∃ ρ5 S5 acc5 ws5 rest5, ExtB ρ1 H1 ρ5 H5 ∧ ρ5.m = D :: ρ1.m ∧ StOk X.K ρ5 H5 S5 ∧ H5 D = some (.lst ws5) ∧ RVs X.K ρ5 H5 acc5 ws5 ∧
          compGo src.ok g tt ee (wipeL L own) (src.items.drop (i + 1)) S5 = .ok rest5 S9 ∧ xs = acc5 ++ rest5, fun H5 n => ⟨src.items.length - (i + 1), by omega, rfl, hlt, n⟩, fun w H3 y => ?_⟩
        obtain ⟨e3, s3, r3, k3⟩ := yld w H3 y
        have sim3 : Sim X.K ρ2 H3 (wipeL L own) S2 (L2.wipe σ own) := ⟨s3, ⟨locW.1, fun i v q => let ⟨w, a, b⟩ := locW.2 i v q; ⟨w, a, (b.extB e2).ext e3⟩⟩⟩
        have a := gg.run ρ2 H3 (wipeL L own) S2 _ _ w sim3 r3
        cases q : g src.items[i] (wipeL L own) S2 with
        | nx L4 S4 =>
          rw [q] at a ec
          dsimp only at ec
          obtain ⟨rfl, σ4, sim4, wp4, k4⟩ := a
          have ww : ∀ (vs : List Nat) (σ : St), L2.wipe (L2.wipe σ vs) vs = L2.wipe σ vs := by
            intro vs σ
            apply List.ext_getElem?
            intro j
            by_cases hj : j ∈ vs
            · have z : ∀ σ' : St, (L2.wipe σ' vs)[j]? = if j < σ'.length then some none else none := by
                intro σ'
                split
                · rename_i hl
                  cases zz : (L2.wipe σ' vs)[j]? with
                  | none =>
                    have := List.getElem?_eq_none_iff.mp zz
                    rw [wipe_length] at this
                    omega
                  | some o =>
                    cases o with
                    | none => rfl
                    | some v => exact absurd hj (wipe_some zz).2
                · rename_i hl
                  exact List.getElem?_eq_none_iff.mpr (by rw [wipe_length]; omega)
              rw [z, z, wipe_length]
            · rw [wipe_out hj]
          refine k4 _ ⟨wp4.trans (ww own σ), ρ2, _, L4, sim4, ?_⟩
          cases qc : tt L4 S4 with
          | bad => rw [qc] at ec; cases ec
          | exn _ _ => rw [qc] at ec; cases ec
          | ok k S5 =>
            rw [qc] at ec
            simp only [R.bind_ok] at ec
            intro ρ5 H5 k' e5 s5 ek
            subst ek
            have m5 : ρ5.m = D :: ρ1.m := e5.eqm.trans m2
            have e15 : ExtB ρ1 H1 ρ5 H5 := (e2.trans e3.toExtB).trans e5.toExtB
            have hD3 : H3 D = some (.lst ws) := k3 D _ hD2
            have hD5 : H5 D = some (.lst ws) := e5.fix D _ hD3 (.inl hDc)
            have racc5 : RVs X.K ρ5 H5 acc ws := (racc.ext e3).ext e5
            cases k with
            | true =>
              rw [if_pos rfl] at ec ⊢
              refine ⟨ρ5, S5, L4, sim4.next e5 s5, ?_⟩
              cases qe : ee L4 S5 with
              | bad => rw [qe] at ec; cases ec
              | exn _ _ => rw [qe] at ec; cases ec
              | ok v S6 =>
                rw [qe] at ec
                simp only [R.bind_ok] at ec
                cases qr : compGo src.ok g tt ee (wipeL L own) (src.items.drop (i + 1)) S6 with
                | bad => rw [qr] at ec; cases ec
                | exn _ _ => rw [qr] at ec; cases ec
                | ok r S7 =>
                  rw [qr] at ec
                  simp only [R.bind_ok, R.ok.injEq] at ec
                  obtain ⟨rfl, rfl⟩ := ec
                  intro ρ6 H6 w6 e6 s6 r6
                  have m6 : ρ6.m = D :: ρ1.m := e6.eqm.trans m5
                  have hD5c : D ∉ ρ5.c := (s5.bz D (by rw [m5]; exact List.mem_cons_self)).2
                  have hD6 : H6 D = some (.lst ws) := e6.fix D _ hD5 (.inl hD5c)
                  have hDm6 : D ∈ ρ6.m := by rw [m6]; exact List.mem_cons_self
                  have racc6 := racc5.ext e6
                  refine ⟨ws, hD6, ?_, ρ6, S6, acc ++ [v], ws ++ [w6], r, ext_made hD hD6 (e15.trans e6.toExtB), m6, s6.made hDm6 hD6, upd_same, ?_, qr, by rw [ex]; simp⟩
                  · have l1 := racc.length
                    have l2 : xs.length = acc.length + (r.length + 1) := by rw [ex]; simp
                    omega
                  · exact (racc6.append (.cons r6 .nil)).map (fun _ _ => fz_made hDm6 hD6) (fun _ _ => fu_made hDm6) (fun _ _ => sqt_made hD6) rfl
            | false =>
              rw [if_neg (by simp)] at ec ⊢
              exact ⟨ρ5, S5, acc, ws, rest, e15, m5, s5, hD5, racc5, ec, ex⟩
        | bad => rw [q] at ec; cases ec
        | ret _ _ => rw [q] at a; exact a.elim
        | exn _ _ _ => rw [q] at a; exact a.elim
      · cases ec
    · have ei : i = src.items.length := by omega
      subst ei
      rw [List.drop_length] at ec
      unfold compGo at ec
      split at ec
      · rename_i ok
        simp only [R.ok.injEq] at ec
        obtain ⟨rfl, rfl⟩ := ec
        refine .inl ⟨(sv ρ2 H2 S2 e2 s2 ok).2, ?_⟩
        -- the end: what was made at D is let go as a new list
        have eH : (upd (fun a => if a = D then none else H2 a) D (.lst ws)) = H2 := by
          funext a
          by_cases ea : a = D
          · rw [ea, upd_same, hD2]
          · rw [upd_ne ea]; exact if_neg ea
        have fz : ∀ a u, Fz ρ2 H2 a u → Fz ⟨ρ2.c, ρ1.m⟩ (fun a => if a = D then none else H2 a) a u := fun a u q => by
          rcases q with ⟨o, q⟩ | ⟨q, q1, q2⟩
          · exact .inl ⟨o, (if_neg (ne_of q hD2 (by intro z; cases z))).trans q⟩
          · exact .inr ⟨(if_neg fun z => q2 (by rw [z]; exact hDm)).trans q, q1, fun z => q2 (by rw [m2]; exact List.mem_cons_of_mem _ z)⟩
        have fu : ∀ a u, Fu ρ2 H2 a u → Fu ⟨ρ2.c, ρ1.m⟩ (fun a => if a = D then none else H2 a) a u := fun a u ⟨q, q1, q2⟩ =>
          ⟨(if_neg fun z => q2 (by rw [z]; exact hDm)).trans q, q1, fun z => q2 (by rw [m2]; exact List.mem_cons_of_mem _ z)⟩
        have sq : ∀ a us, SqT X.K H2 a us → SqT X.K (fun a => if a = D then none else H2 a) a us := fun a us q => by
          rcases q with (q | ⟨b, q⟩) | q
          · exact .inl (.inl ((if_neg (ne_of q hD2 (by intro z; cases z))).trans q))
          · exact .inl (.inr ⟨b, (if_neg (ne_of q hD2 (by intro z; cases z))).trans q⟩)
          · exact .inr q
        have ne1 : ∀ a o, H1 a = some o → a ≠ D := fun a o q => ne_of_none q hD
        have z := h9 ⟨ρ2.c, ρ1.m⟩ (fun a => if a = D then none else H2 a) ws (.mk' e2.pre rfl (fun a o q k => (if_neg (ne1 a o q)).trans (e2.fix a o q k)) e2.new fun a q => ?_)
          (s2.map fz fu sq rfl (fun a ha => if_neg fun (z : a = D) => hDc (by rw [← z]; exact ha)) fun a ha => ?_) ?_ D (if_pos rfl)
        · rw [eH] at z; exact z
        · by_cases ea : a = D
          · rw [ea]; exact hD
          · rw [if_neg ea] at q; exact e2.live a q
        · obtain ⟨⟨o, ho⟩, hn⟩ := s2.bz a (by rw [m2]; exact List.mem_cons_of_mem _ ha)
          obtain ⟨⟨o1, ho1⟩, _⟩ := s1.bz a ha
          exact ⟨⟨o, (if_neg (ne1 a o1 ho1)).trans ho⟩, hn⟩
        · rw [ex, List.append_nil]
          exact racc.map fz fu sq rfl
      · cases ec
end
theorem df_comp {X : Cx} {W : XW} {elt tg iter : Expr} {ifs : List Expr} {scope : Scope} {own : List (Str × Nat)} {pos : Pos} {wi : I} {g : G} {t : TG} {tt : T} {ee : E} (hc : X.calm = true) (hN : X.N.Nodup) (hi : DI X W tg iter wi) (ok : BlkOk X.N X.env.scope scope own)
    (hg : ∀ (s : Shared) (H : Hp) (C : Addr) (cl : List (Str × Addr)) (fp : List Addr), PG (X.blk s H scope (compEnvC scope cl C X.env) fp) tg t) (gg : GoodG X.K (own.map (·.2)) g t)
    (ht : ∀ (s : Shared) (H : Hp) (C : Addr) (cl : List (Str × Addr)) (fp : List Addr), DTs (X.blk s H scope (compEnvC scope cl C X.env) fp) W0 ifs tt)
    (he : ∀ (s : Shared) (H : Hp) (C : Addr) (cl : List (Str × Addr)) (fp : List Addr), DE (X.blk s H scope (compEnvC scope cl C X.env) fp) W0 elt ee) (hs : ∀ x, foldedSetIterable iter X.env x = pure x := by intro _; rfl) :
    DF X W (.ListComp elt [⟨tg, iter, ifs, 0⟩] scope pos) (fComp (own.map (·.2)) wi g tt ee) :=
  ⟨PE.weak (pe_lc (te := lE X.K W0 ee) (tt := lT X.K W0 tt) hc hN hi.pi ok hg (fun s H C cl fp => (ht s H C cl fp).pts) (fun s H C cl fp => (he s H C cl fp).pe) hs) fun _ _ _ h => lc_lift gg h⟩
theorem ds_setLc {X : Cx} {W : XW} {i : Nat} {y : Str} {py : Pos} {elt tg iter : Expr} {ifs : List Expr} {scope : Scope} {own : List (Str × Nat)} {pos spos : Pos} {wi : I} {g : G} {t : TG} {tt : T} {ee : E} (hc : X.calm = true) (hN : X.N.Nodup) (hy : X.N[i]? = some y) (hyl : X.env.scope.names.lookup y = some .local)
    (hsw : swapsWith (.ListComp elt [⟨tg, iter, ifs, 0⟩] scope pos) (some (.Name y py)) spos.line X.env = pure true) (hi : DI X W tg iter wi) (ok : BlkOk X.N X.env.scope scope own)
    (hg : ∀ (s : Shared) (H : Hp) (C : Addr) (cl : List (Str × Addr)) (fp : List Addr), PG (X.blk s H scope (compEnvC scope cl C X.env) fp) tg t) (gg : GoodG X.K (own.map (·.2)) g t)
    (ht : ∀ (s : Shared) (H : Hp) (C : Addr) (cl : List (Str × Addr)) (fp : List Addr), DTs (X.blk s H scope (compEnvC scope cl C X.env) fp) W0 ifs tt)
    (he : ∀ (s : Shared) (H : Hp) (C : Addr) (cl : List (Str × Addr)) (fp : List Addr), DE (X.blk s H scope (compEnvC scope cl C X.env) fp) W0 elt ee) (k : Bool) (hs : ∀ x, foldedSetIterable iter X.env x = pure x := by intro _; rfl) :
    DS X W (.Assign [.Name y py] (.ListComp elt [⟨tg, iter, ifs, 0⟩] scope pos) spos) (sAsg ((if k then eMk else eFr) (fComp (own.map (·.2)) wi g tt ee)) (gName i)) := by
  refine ⟨PS.weak (ps_setLc (te := lE X.K W0 ee) (tt := lT X.K W0 tt) hc hN hy hyl hsw hi.pi ok hg (fun s H C cl fp => (ht s H C cl fp).pts) (fun s H C cl fp => (he s H C cl fp).pe) hs) fun D σ H h => ?_⟩
  refine lc_lift gg ?_
  have fin : ∀ d : E, lS X.K W (sAsg d (gName i)) D σ H → lE X.K W d σ H fun x H1 => L2.gName i x σ H1 D.nx := fun d h => by
    obtain ⟨ρ, S, L, sim, h⟩ := h
    refine ⟨ρ, S, L, sim, PostS.ofE sim h fun v S1 ρ1 H1 w _ e1 s1 r1 h1 => ?_⟩
    exact h1 ρ1 H1 _ Ext.refl ⟨s1, (sim.loc.ext e1).set i r1⟩
  cases k with
  | true => exact lF_of_mk (fin _ (by simpa using h))
  | false => exact lF_of_fr (fin _ (by simpa using h))
end Gx
end
section
set_option maxHeartbeats 1000000
namespace Gx
open PySem L2
section
variable {X : Cx} {W : XW} {c e a b iter tg : Expr} {d da db : E} {pos p : Pos}
theorem it_read {K : PySem.W.Frag} {ρ : Pl} {H : Hp} {S : Store} {v : Val} {w : V} {src : Src} (st : StOk K ρ H S) (r : RV K ρ H v w) (h : itOf S v = some src) :
    ∃ p k, w = .ref p ∧ seqOf S v = some (k, src.items) ∧ ∀ ρ1 H1 S1, ExtB ρ H ρ1 H1 → StOk K ρ1 H1 S1 → src.ok S1 = true → ∃ ws, RVs K ρ1 H1 src.items ws ∧ (if k then SqL K H1 p ws else SqT K H1 p ws) := by
  cases v with
  | tup xs =>
    simp only [itOf, Option.some.injEq] at h
    subst h
    obtain ⟨p, ws, rfl, h1, h2⟩ := r.tup_inv
    exact ⟨p, false, rfl, rfl, fun ρ1 H1 S1 e s k => ⟨ws, h2.extB e, by simpa using e.sqt h1⟩⟩
  | ptp xs =>
    simp only [itOf, Option.some.injEq] at h
    subst h
    obtain ⟨p, ws, rfl, h1, h2⟩ := r.ptp_tup.tup_inv
    exact ⟨p, false, rfl, rfl, fun ρ1 H1 S1 e s k => ⟨ws, h2.extB e, by simpa using e.sqt h1⟩⟩
  | lst xs =>
    simp only [itOf, Option.some.injEq] at h
    subst h
    obtain ⟨p, ws, rfl, h1, h2⟩ := r.lst_inv
    exact ⟨p, true, rfl, rfl, fun ρ1 H1 S1 e s k => ⟨ws, h2.extB e, by simpa using (e.fu h1).sqL⟩⟩
  | frz xs =>
    simp only [itOf, Option.some.injEq] at h
    subst h
    obtain ⟨p, ws, rfl, h1, h2⟩ := r.frz_inv
    exact ⟨p, true, rfl, rfl, fun ρ1 H1 S1 e s k => ⟨ws, h2.extB e, by simpa using (show FzL K ρ1 H1 p ws from h1.imp e.fz id).sqL⟩⟩
  | ref n =>
    simp only [itOf] at h
    obtain ⟨p, hp, rfl⟩ := r.ref_inv
    cases q : S[n]? with
    | none => rw [q] at h; cases h
    | some cl =>
      rw [q] at h
      cases cl with
      | lst xs =>
        simp only [Option.some.injEq] at h
        subst h
        refine ⟨p, true, rfl, by simp [seqOf, q], fun ρ1 H1 S1 e s k => ?_⟩
        have k1 : S1[n]? = some (.lst xs) := by simpa [Src.ok] using k
        obtain ⟨p', hp', rc⟩ := s.cell n _ k1
        rw [e.at hp] at hp'; cases hp'
        obtain ⟨ws, h1, h2⟩ := rc
        exact ⟨ws, h2, by simpa using SqL.of h1⟩
      | dct _ => cases h
      | dtt _ => cases h
      | dnt _ => cases h
      | ins _ _ => cases h
  | _ => simp [itOf] at h
def ItA (K : PySem.W.Frag) (p : Addr) (k : Bool) : It := if k then Itl K p else Itt K p
theorem serves_seq {K : PySem.W.Frag} {ρ : Pl} {H : Hp} {p : Addr} {k : Bool} {src : Src} (h : ∀ ρ1 H1 S1, ExtB ρ H ρ1 H1 → StOk K ρ1 H1 S1 → src.ok S1 = true → ∃ ws, RVs K ρ1 H1 src.items ws ∧ (if k then SqL K H1 p ws else SqT K H1 p ws)) :
    Serves K ρ H src (ItA K p k) := by
  intro ρ1 H1 S1 e s ok
  obtain ⟨ws, r, q⟩ := h ρ1 H1 S1 e s ok
  cases k with
  | true =>
    have q : SqL K H1 p ws := by simpa using q
    refine ⟨fun i x hx => ?_, ?_⟩
    · obtain ⟨w, hw, rw'⟩ := r.get hx
      refine ⟨⟨ws, w, q, hw⟩, fun u H2 y => ?_⟩
      obtain ⟨rfl, y⟩ := y
      have e1 := y ws q
      rw [hw] at e1; cases e1
      exact ⟨Ext.refl, s, rw', fun _ _ z => z⟩
    · exact ⟨ws, q, by rw [r.length]; exact Nat.le_refl _⟩
  | false =>
    have q : SqT K H1 p ws := by simpa using q
    refine ⟨fun i x hx => ?_, ?_⟩
    · obtain ⟨w, hw, rw'⟩ := r.get hx
      refine ⟨⟨ws, w, q, hw⟩, fun u H2 y => ?_⟩
      obtain ⟨rfl, y⟩ := y
      have e1 := y ws q
      rw [hw] at e1; cases e1
      exact ⟨Ext.refl, s, rw', fun _ _ z => z⟩
    · exact ⟨ws, q, by rw [r.length]; exact Nat.le_refl _⟩
theorem PI.or {e : Expr} {t1 t2 : TI} (h1 : PI X tg e t1) (h2 : PI X tg e t2) : PI X tg e (fun σ H R => t1 σ H R ∨ t2 σ H R) :=
  ⟨fun pins s σ H R I h => h.elim (h1.run pins s σ H R I) (h2.run pins s σ H R I)⟩
theorem di_val (h : DE X W e d) : DI X W tg e (iVal d) := by
  refine ⟨PI.weak (PI.or (pi_list h.pe) (pi_tup h.pe)) fun σ H RR q => ?_⟩
  obtain ⟨ρ, S, L, sim, q⟩ := q
  unfold iVal at q
  cases qd : d L S with
  | bad => rw [qd] at q; exact q.elim
  | exn x S1 => rw [qd] at q; exact .inl ⟨ρ, S, L, sim, by rw [qd]; exact q⟩
  | ok v S1 =>
    rw [qd] at q
    simp only [R.bind_ok] at q
    cases qi : itOf S1 v with
    | none => rw [qi] at q; exact q.elim
    | some src =>
      rw [qi] at q
      by_cases hk : ∃ xs, v = .tup xs ∨ v = .ptp xs
      · right
        refine ⟨ρ, S, L, sim, ?_⟩
        rw [qd]
        intro ρ1 H1 w e1 s1 r1
        obtain ⟨p, k, rfl, sq, g⟩ := it_read s1 r1 qi
        obtain ⟨xs, hk⟩ := hk
        have kf : k = false := by
          rcases hk with rfl | rfl <;> (simp only [seqOf, Option.some.injEq, Prod.mk.injEq] at sq; exact sq.1.symm)
        subst kf
        have ok1 : src.ok S1 = true := by rcases hk with rfl | rfl <;> (simp only [itOf, Option.some.injEq] at qi; subst qi; rfl)
        obtain ⟨ws, _, hq⟩ := g ρ1 H1 S1 Ext.refl.toExtB s1 ok1
        exact ⟨p, rfl, ⟨ws, by simpa using hq⟩, q ρ1 H1 _ e1 s1 (serves_seq g)⟩
      · left
        refine ⟨ρ, S, L, sim, ?_⟩
        rw [qd]
        intro ρ1 H1 w e1 s1 r1
        obtain ⟨p, k, rfl, sq, g⟩ := it_read s1 r1 qi
        have ek : k = true := by
          cases v with
          | tup xs => exact absurd ⟨xs, .inl rfl⟩ hk
          | ptp xs => exact absurd ⟨xs, .inr rfl⟩ hk
          | lst xs => simp only [seqOf, Option.some.injEq, Prod.mk.injEq] at sq; exact sq.1.symm
          | frz xs => simp only [seqOf, Option.some.injEq, Prod.mk.injEq] at sq; exact sq.1.symm
          | ref n =>
            simp only [seqOf] at sq
            split at sq
            · simp only [Option.some.injEq, Prod.mk.injEq] at sq; exact sq.1.symm
            · cases sq
          | _ => simp [seqOf] at sq
        subst ek
        have ok1 : src.ok S1 = true := by
          cases v with
          | lst xs => simp only [itOf, Option.some.injEq] at qi; subst qi; rfl
          | frz xs => simp only [itOf, Option.some.injEq] at qi; subst qi; rfl
          | ref n =>
            simp only [itOf] at qi
            split at qi
            · rename_i xs q2
              simp only [Option.some.injEq] at qi
              subst qi
              simp [Src.ok, q2]
            · cases qi
          | tup xs => exact absurd ⟨xs, .inl rfl⟩ hk
          | ptp xs => exact absurd ⟨xs, .inr rfl⟩ hk
          | _ => simp [itOf] at qi
        obtain ⟨ws, _, hq⟩ := g ρ1 H1 S1 Ext.refl.toExtB s1 ok1
        exact ⟨p, rfl, ⟨ws, by simpa using hq⟩, q ρ1 H1 _ e1 s1 (serves_seq g)⟩
theorem range_serves {K : PySem.W.Frag} {ρ : Pl} {H : Hp} (a : Int) (n : Nat) : Serves K ρ H ⟨[], rangeV a n⟩ (Itr a n) := by
  intro ρ2 H2 S2 e2 s2 _
  have hl : (rangeV a n).length = n := by simp [rangeV]
  refine ⟨fun i x hx => ?_, by show (Itr a n).stop (rangeV a n).length H2; rw [hl]; exact Nat.le_refl n⟩
  have hi : i < n := by
    have := (List.getElem?_eq_some_iff.mp hx).1
    rw [hl] at this
    exact this
  refine ⟨hi, fun u H3 y => ?_⟩
  obtain ⟨rfl, rfl⟩ := y
  refine ⟨Ext.refl, s2, ?_, fun _ _ z => z⟩
  have hx : (rangeV a n)[i]? = some x := hx
  unfold rangeV at hx
  rw [List.getElem?_map, List.getElem?_range hi] at hx
  simp only [Option.map_some, Option.some.injEq] at hx
  subst hx
  exact .mk_int _
theorem di_range1 (hg : Gl X "range") (hm : X.mg "range" = none) (ha : DE X W a da) (hs : starEach [a] X.env = [(false, eval a X.env)] := by rfl) : DI X W tg (.Call (.Name "range" p) [a] [] pos) (iRange1 da) := by
  refine ⟨PI.weak (pi_range1 hg hm (pa_cons ha.pe pa_nil hs) hs) fun σ H RR q => ?_⟩
  obtain ⟨ρ, S, L, sim, q⟩ := q
  refine ⟨ρ, S, L, sim, Post.bind (Rel' := Serves X.K) q fun v S1 ρ1 H1 w _ e1 s1 r1 h1 => ?_⟩
  cases v with
  | int j =>
    dsimp only at h1
    split at h1
    · rename_i hb
      exact ⟨j, by rw [r1.int_inv], hb.1, hb.2, h1 ρ1 H1 _ Ext.refl s1 (range_serves 0 _)⟩
    · exact h1.elim
  | _ => exact h1.elim
end
end Gx
end
section
set_option maxHeartbeats 1000000
namespace Gx
open PySem L2

section
variable {K : PySem.W.Frag} {ρ ρ' : Pl} {H' : Hp}
mutual
theorem RV.fz {r : Nat → Option Val} (fz : ∀ a u, Fz ρ' H' a u → Fz ρ H' a u) (fu : ∀ a u, Fu ρ' H' a u → Fu ρ H' a u) (hr : ∀ m u a, r m = some u → ρ'.c[m]? = some a → RV K ρ H' u (.ref a)) : ∀ {x y : Val} {w : V}, RV K ρ' H' x w → fzV r x = some y → RV K ρ H' y w
  | .non, y, w, h, e => by simp only [fzV, Option.some.injEq] at e; subst e; exact h
  | .bl _, y, w, h, e => by simp only [fzV, Option.some.injEq] at e; subst e; exact h
  | .int _, y, w, h, e => by simp only [fzV, Option.some.injEq] at e; subst e; exact h
  | .str _, y, w, h, e => by simp only [fzV, Option.some.injEq] at e; subst e; exact h
  | .ty _, y, w, h, e => by simp only [fzV, Option.some.injEq] at e; subst e; exact h
  | .gl _, y, w, h, e => by simp only [fzV, Option.some.injEq] at e; subst e; exact h
  | .tup xs, y, w, h, e => by
    simp only [fzV, Option.map_eq_some_iff] at e
    obtain ⟨ys, e1, rfl⟩ := e
    unfold RV at h ⊢
    obtain ⟨a, ws, h1, h2, h3⟩ := h
    exact ⟨a, ws, h1, h2, RVs.fz fz fu hr h3 e1⟩
  | .lst xs, y, w, h, e => by
    simp only [fzV, Option.map_eq_some_iff] at e
    obtain ⟨ys, e1, rfl⟩ := e
    unfold RV at h ⊢
    obtain ⟨a, ws, h1, h2, h3⟩ := h
    exact ⟨a, ws, h1, fu _ _ h2, RVs.fz fz fu hr h3 e1⟩
  | .frz xs, y, w, h, e => by
    simp only [fzV, Option.map_eq_some_iff] at e
    obtain ⟨ys, e1, rfl⟩ := e
    unfold RV at h ⊢
    obtain ⟨a, ws, h1, h2, h3⟩ := h
    exact ⟨a, ws, h1, h2.imp (fz _ _) id, RVs.fz fz fu hr h3 e1⟩
  | .ptp xs, y, w, h, e => by
    simp only [fzV, Option.map_eq_some_iff] at e
    obtain ⟨ys, e1, rfl⟩ := e
    unfold RV at h ⊢
    obtain ⟨a, o, ws, h1, h2, h0, h3⟩ := h
    exact ⟨a, o, ws, h1, fu _ _ h2, h0, RVs.fz fz fu hr h3 e1⟩
  | .dct xs, y, w, h, e => by
    simp only [fzV, Option.map_eq_some_iff] at e
    obtain ⟨ys, e1, rfl⟩ := e
    unfold RV at h ⊢
    obtain ⟨a, ws, h1, h2, h3⟩ := h
    exact ⟨a, ws, h1, fz _ _ h2, RVK.fz fz fu hr h3 e1⟩
  | .dtt xs, y, w, h, e => by
    simp only [fzV, Option.map_eq_some_iff] at e
    obtain ⟨ys, e1, rfl⟩ := e
    unfold RV at h ⊢
    obtain ⟨a, n, ws, h1, h2, h3⟩ := h
    exact ⟨a, n, ws, h1, fu _ _ h2, RVT.fz fz fu hr h3 e1⟩
  | .obj C xs, y, w, h, e => by
    simp only [fzV, Option.map_eq_some_iff] at e
    obtain ⟨ys, e1, rfl⟩ := e
    unfold RV at h ⊢
    obtain ⟨a, dx, ws, h1, h2, h3⟩ := h
    exact ⟨a, dx, ws, h1, fu _ _ h2, RVF.fz fz fu hr h3 e1⟩
  | .ref n, y, w, h, e => by
    simp only [fzV] at e
    obtain ⟨a, h1, rfl⟩ := h.ref_inv
    exact hr n y a e h1
theorem RVs.fz {r : Nat → Option Val} (fz : ∀ a u, Fz ρ' H' a u → Fz ρ H' a u) (fu : ∀ a u, Fu ρ' H' a u → Fu ρ H' a u) (hr : ∀ m u a, r m = some u → ρ'.c[m]? = some a → RV K ρ H' u (.ref a)) : ∀ {x y : List Val} {w : List V}, RVs K ρ' H' x w → fzVs r x = some y → RVs K ρ H' y w
  | [], y, w, h, e => by simp only [fzVs, Option.some.injEq] at e; subst e; rw [RVs.nil_iff.mp h]; exact .nil
  | x :: xs, y, w, h, e => by
    simp only [fzVs, Option.bind_eq_some_iff, Option.map_eq_some_iff] at e
    obtain ⟨y1, e1, ys, e2, rfl⟩ := e
    obtain ⟨u, s, rfl, h1, h2⟩ := h.inv
    exact .cons (RV.fz fz fu hr h1 e1) (RVs.fz fz fu hr h2 e2)
theorem RVK.fz {r : Nat → Option Val} (fz : ∀ a u, Fz ρ' H' a u → Fz ρ H' a u) (fu : ∀ a u, Fu ρ' H' a u → Fu ρ H' a u) (hr : ∀ m u a, r m = some u → ρ'.c[m]? = some a → RV K ρ H' u (.ref a)) : ∀ {x y : List (Key × Val)} {w : List (Key × V)}, RVK K ρ' H' x w → fzVK r x = some y → RVK K ρ H' y w
  | [], y, w, h, e => by simp only [fzVK, Option.some.injEq] at e; subst e; exact h
  | (k, x) :: xs, y, w, h, e => by
    simp only [fzVK, Option.bind_eq_some_iff, Option.map_eq_some_iff] at e
    obtain ⟨y1, e1, ys, e2, rfl⟩ := e
    unfold RVK at h ⊢
    obtain ⟨u, s, rfl, h1, h2⟩ := h
    exact ⟨u, s, rfl, RV.fz fz fu hr h1 e1, RVK.fz fz fu hr h2 e2⟩
theorem RVT.fz {r : Nat → Option Val} (fz : ∀ a u, Fz ρ' H' a u → Fz ρ H' a u) (fu : ∀ a u, Fu ρ' H' a u → Fu ρ H' a u) (hr : ∀ m u a, r m = some u → ρ'.c[m]? = some a → RV K ρ H' u (.ref a)) : ∀ {x y : List (List Int × Val)} {w : List Ent}, RVT K ρ' H' x w → fzVT r x = some y → RVT K ρ H' y w
  | [], y, w, h, e => by simp only [fzVT, Option.some.injEq] at e; subst e; exact h
  | (k, x) :: xs, y, w, h, e => by
    simp only [fzVT, Option.bind_eq_some_iff, Option.map_eq_some_iff] at e
    obtain ⟨y1, e1, ys, e2, rfl⟩ := e
    unfold RVT at h ⊢
    obtain ⟨b, u, s, rfl, h0, h1, h2⟩ := h
    exact ⟨b, u, s, rfl, h0, RV.fz fz fu hr h1 e1, RVT.fz fz fu hr h2 e2⟩
theorem RVF.fz {r : Nat → Option Val} (fz : ∀ a u, Fz ρ' H' a u → Fz ρ H' a u) (fu : ∀ a u, Fu ρ' H' a u → Fu ρ H' a u) (hr : ∀ m u a, r m = some u → ρ'.c[m]? = some a → RV K ρ H' u (.ref a)) : ∀ {x y : List (Str × Val)} {w : List (Str × V)}, RVF K ρ' H' x w → fzVF r x = some y → RVF K ρ H' y w
  | [], y, w, h, e => by simp only [fzVF, Option.some.injEq] at e; subst e; exact h
  | (k, x) :: xs, y, w, h, e => by
    simp only [fzVF, Option.bind_eq_some_iff, Option.map_eq_some_iff] at e
    obtain ⟨y1, e1, ys, e2, rfl⟩ := e
    unfold RVF at h ⊢
    obtain ⟨u, s, rfl, h1, h2⟩ := h
    exact ⟨u, s, rfl, RV.fz fz fu hr h1 e1, RVF.fz fz fu hr h2 e2⟩
end
mutual
theorem fz_id {n : Nat} : ∀ {x y : Val}, fzV (belowR n) x = some y → y = x
  | .non, y, e => by simp only [fzV, Option.some.injEq] at e; exact e.symm
  | .bl _, y, e => by simp only [fzV, Option.some.injEq] at e; exact e.symm
  | .int _, y, e => by simp only [fzV, Option.some.injEq] at e; exact e.symm
  | .str _, y, e => by simp only [fzV, Option.some.injEq] at e; exact e.symm
  | .ty _, y, e => by simp only [fzV, Option.some.injEq] at e; exact e.symm
  | .gl _, y, e => by simp only [fzV, Option.some.injEq] at e; exact e.symm
  | .tup xs, y, e => by simp only [fzV, Option.map_eq_some_iff] at e; obtain ⟨ys, e1, rfl⟩ := e; rw [fzs_id e1]
  | .lst xs, y, e => by simp only [fzV, Option.map_eq_some_iff] at e; obtain ⟨ys, e1, rfl⟩ := e; rw [fzs_id e1]
  | .frz xs, y, e => by simp only [fzV, Option.map_eq_some_iff] at e; obtain ⟨ys, e1, rfl⟩ := e; rw [fzs_id e1]
  | .ptp xs, y, e => by simp only [fzV, Option.map_eq_some_iff] at e; obtain ⟨ys, e1, rfl⟩ := e; rw [fzs_id e1]
  | .dct xs, y, e => by simp only [fzV, Option.map_eq_some_iff] at e; obtain ⟨ys, e1, rfl⟩ := e; rw [fzK_id e1]
  | .dtt xs, y, e => by simp only [fzV, Option.map_eq_some_iff] at e; obtain ⟨ys, e1, rfl⟩ := e; rw [fzT_id e1]
  | .obj C xs, y, e => by simp only [fzV, Option.map_eq_some_iff] at e; obtain ⟨ys, e1, rfl⟩ := e; rw [fzF_id e1]
  | .ref m, y, e => by
    simp only [fzV, belowR] at e
    split at e
    · cases e; rfl
    · cases e
theorem fzs_id {n : Nat} : ∀ {x y : List Val}, fzVs (belowR n) x = some y → y = x
  | [], y, e => by simp only [fzVs, Option.some.injEq] at e; exact e.symm
  | x :: xs, y, e => by
    simp only [fzVs, Option.bind_eq_some_iff, Option.map_eq_some_iff] at e
    obtain ⟨y1, e1, ys, e2, rfl⟩ := e
    rw [fz_id e1, fzs_id e2]
theorem fzK_id {n : Nat} : ∀ {x y : List (Key × Val)}, fzVK (belowR n) x = some y → y = x
  | [], y, e => by simp only [fzVK, Option.some.injEq] at e; exact e.symm
  | (k, x) :: xs, y, e => by
    simp only [fzVK, Option.bind_eq_some_iff, Option.map_eq_some_iff] at e
    obtain ⟨y1, e1, ys, e2, rfl⟩ := e
    rw [fz_id e1, fzK_id e2]
theorem fzT_id {n : Nat} : ∀ {x y : List (List Int × Val)}, fzVT (belowR n) x = some y → y = x
  | [], y, e => by simp only [fzVT, Option.some.injEq] at e; exact e.symm
  | (k, x) :: xs, y, e => by
    simp only [fzVT, Option.bind_eq_some_iff, Option.map_eq_some_iff] at e
    obtain ⟨y1, e1, ys, e2, rfl⟩ := e
    rw [fz_id e1, fzT_id e2]
theorem fzF_id {n : Nat} : ∀ {x y : List (Str × Val)}, fzVF (belowR n) x = some y → y = x
  | [], y, e => by simp only [fzVF, Option.some.injEq] at e; exact e.symm
  | (k, x) :: xs, y, e => by
    simp only [fzVF, Option.bind_eq_some_iff, Option.map_eq_some_iff] at e
    obtain ⟨y1, e1, ys, e2, rfl⟩ := e
    rw [fz_id e1, fzF_id e2]
end
mutual
theorem RV.below {ρ : Pl} {H : Hp} {n : Nat} (hn : ρ.c.length = n) : ∀ {x : Val} {w : V}, RV K ρ H x w → fzV (belowR n) x = some x
  | .non, w, h => rfl
  | .bl _, w, h => rfl
  | .int _, w, h => rfl
  | .str _, w, h => rfl
  | .ty _, w, h => rfl
  | .gl _, w, h => rfl
  | .tup xs, w, h => by unfold RV at h; obtain ⟨a, ws, _, _, h3⟩ := h; simp only [fzV, RVs.below hn h3, Option.map_some]
  | .lst xs, w, h => by unfold RV at h; obtain ⟨a, ws, _, _, h3⟩ := h; simp only [fzV, RVs.below hn h3, Option.map_some]
  | .frz xs, w, h => by unfold RV at h; obtain ⟨a, ws, _, _, h3⟩ := h; simp only [fzV, RVs.below hn h3, Option.map_some]
  | .ptp xs, w, h => by unfold RV at h; obtain ⟨a, o, ws, _, _, _, h3⟩ := h; simp only [fzV, RVs.below hn h3, Option.map_some]
  | .dct xs, w, h => by unfold RV at h; obtain ⟨a, ws, _, _, h3⟩ := h; simp only [fzV, RVK.below hn h3, Option.map_some]
  | .dtt xs, w, h => by unfold RV at h; obtain ⟨a, n, ws, _, _, h3⟩ := h; simp only [fzV, RVT.below hn h3, Option.map_some]
  | .obj C xs, w, h => by unfold RV at h; obtain ⟨a, dx, ws, _, _, h3⟩ := h; simp only [fzV, RVF.below hn h3, Option.map_some]
  | .ref m, w, h => by
    obtain ⟨a, h1, _⟩ := h.ref_inv
    have := (List.getElem?_eq_some_iff.mp h1).1
    simp only [fzV, belowR]
    rw [if_pos (by omega)]
theorem RVs.below {ρ : Pl} {H : Hp} {n : Nat} (hn : ρ.c.length = n) : ∀ {x : List Val} {w : List V}, RVs K ρ H x w → fzVs (belowR n) x = some x
  | [], w, h => rfl
  | x :: xs, w, h => by
    obtain ⟨u, s, rfl, h1, h2⟩ := h.inv
    simp only [fzVs, RV.below hn h1, Option.bind_some, RVs.below hn h2, Option.map_some]
theorem RVK.below {ρ : Pl} {H : Hp} {n : Nat} (hn : ρ.c.length = n) : ∀ {x : List (Key × Val)} {w : List (Key × V)}, RVK K ρ H x w → fzVK (belowR n) x = some x
  | [], w, h => rfl
  | (k, x) :: xs, w, h => by
    unfold RVK at h
    obtain ⟨u, s, rfl, h1, h2⟩ := h
    simp only [fzVK, RV.below hn h1, Option.bind_some, RVK.below hn h2, Option.map_some]
theorem RVT.below {ρ : Pl} {H : Hp} {n : Nat} (hn : ρ.c.length = n) : ∀ {x : List (List Int × Val)} {w : List Ent}, RVT K ρ H x w → fzVT (belowR n) x = some x
  | [], w, h => rfl
  | (k, x) :: xs, w, h => by
    unfold RVT at h
    obtain ⟨_, u, s, rfl, _, h1, h2⟩ := h
    simp only [fzVT, RV.below hn h1, Option.bind_some, RVT.below hn h2, Option.map_some]
theorem RVF.below {ρ : Pl} {H : Hp} {n : Nat} (hn : ρ.c.length = n) : ∀ {x : List (Str × Val)} {w : List (Str × V)}, RVF K ρ H x w → fzVF (belowR n) x = some x
  | [], w, h => rfl
  | (k, x) :: xs, w, h => by
    unfold RVF at h
    obtain ⟨u, s, rfl, h1, h2⟩ := h
    simp only [fzVF, RV.below hn h1, Option.bind_some, RVF.below hn h2, Option.map_some]
end
theorem RC.below {ρ : Pl} {H : Hp} {a : Addr} {c : Cell} (h : RC K ρ H a c) : c.below ρ.c.length = true := by
  cases c with
  | lst xs => obtain ⟨ws, _, h2⟩ := h; simp [Cell.below, RVs.below rfl h2]
  | dct xs => obtain ⟨ws, _, h2⟩ := h; simp [Cell.below, RVK.below rfl h2]
  | dtt xs => obtain ⟨ws, _, h2⟩ := h; simp [Cell.below, RVT.below rfl h2]
  | dnt xs => obtain ⟨ws, _, h2⟩ := h; simp [Cell.below, RVs.below rfl h2]
  | ins C xs => obtain ⟨dx, ws, _, h2⟩ := h; simp [Cell.below, RVF.below rfl h2]
theorem gc_ok {H : Hp} {S S' S2 : Store} {d : Nat} {v v2 : Val} {w : V} (st : StOk K ρ H S) (e : Ext ρ H ρ' H') (st' : StOk K ρ' H' S') (rv : RV K ρ' H' v w) (h : gcR d S (.ok v S') = .ok v2 S2) :
    ∃ ρ2, Ext ρ H ρ2 H' ∧ StOk K ρ2 H' S2 ∧ RV K ρ2 H' v2 w := by
  have stay : R.ok v S' = R.ok v2 S2 → ∃ ρ2, Ext ρ H ρ2 H' ∧ StOk K ρ2 H' S2 ∧ RV K ρ2 H' v2 w := fun q => by
    cases q; exact ⟨ρ', e, st', rv⟩
  unfold gcR at h
  dsimp only at h
  split at h
  · rename_i v' hv
    split at h
    · rename_i hf
      simp only [R.ok.injEq] at h
      obtain ⟨rfl, rfl⟩ := h
      obtain ⟨r, er⟩ := e.pre
      have hl : ρ.c.length = S.length := st.len
      have cm : ∀ a, a ∈ ρ.c → a ∈ ρ'.c := fun a ha => by rw [er]; exact List.mem_append_left _ ha
      have fz : ∀ a u, Fz ρ' H' a u → Fz ρ H' a u := fun a u q => by
        rcases q with q | ⟨q, q1, q2⟩
        · exact .inl q
        · exact .inr ⟨q, fun z => q1 (cm a z), by rw [← e.eqm]; exact q2⟩
      have fu : ∀ a u, Fu ρ' H' a u → Fu ρ H' a u := fun a u ⟨q, q1, q2⟩ => ⟨q, fun z => q1 (cm a z), by rw [← e.eqm]; exact q2⟩
      have hb : ∀ m u a, belowR S.length m = some u → ρ'.c[m]? = some a → RV K ρ H' u (.ref a) := fun m u a q qa => by
        unfold belowR at q
        split at q
        · rename_i hm
          cases q
          unfold RV
          refine ⟨a, ?_, rfl⟩
          rw [er, List.getElem?_append_left (by omega)] at qa
          exact qa
        · cases q
      have hr : ∀ (k m : Nat) (u : Val) (a : Addr), fzR S.length S' k m = some u → ρ'.c[m]? = some a → RV K ρ H' u (.ref a) := fun k => by
        induction k with
        | zero => exact fun m u a q qa => hb m u a q qa
        | succ k ih =>
          intro m u a q qa
          unfold fzR at q
          split at q
          · rename_i hm
            exact hb m u a (by unfold belowR; rw [if_pos hm]; exact q) qa
          · rename_i hm
            have free : a ∉ ρ.c := fun z => by
              obtain ⟨j, hj, ej⟩ := List.mem_iff_getElem.mp z
              obtain ⟨h1, e1⟩ := List.getElem?_eq_some_iff.mp qa
              have hj' : j < ρ'.c.length := by rw [er]; simp; omega
              have e2 : ρ'.c[j] = a := by
                have : ρ'.c[j]? = some a := by rw [er, List.getElem?_append_left hj, List.getElem?_eq_getElem hj, ej]
                rw [List.getElem?_eq_getElem hj'] at this
                exact Option.some.inj this
              have := (List.getElem_inj st'.nd).mp (e2.trans e1.symm)
              omega
            have nm : a ∉ ρ.m := fun z => (st'.bz a (by rw [e.eqm]; exact z)).2 (List.mem_of_getElem? qa)
            cases qc : S'[m]? with
            | none => rw [qc] at q; cases q
            | some c =>
              rw [qc] at q
              obtain ⟨a', ha', rc⟩ := st'.cell m c qc
              rw [qa] at ha'; cases ha'
              cases c with
              | lst xs =>
                simp only [Option.map_eq_some_iff] at q
                obtain ⟨ys, q1, rfl⟩ := q
                obtain ⟨ws, h1, h2⟩ := rc
                unfold RV
                exact ⟨a, ws, rfl, ⟨h1, free, nm⟩, h2.fz fz fu (ih) q1⟩
              | dct xs =>
                simp only [Option.map_eq_some_iff] at q
                obtain ⟨ys, q1, rfl⟩ := q
                obtain ⟨ws, h1, h2⟩ := rc
                unfold RV
                exact ⟨a, ws, rfl, .inr ⟨h1, free, nm⟩, h2.fz fz fu (ih) q1⟩
              | dtt xs =>
                simp only [Option.map_eq_some_iff] at q
                obtain ⟨ys, q1, rfl⟩ := q
                obtain ⟨ws, h1, h2⟩ := rc
                unfold RV
                exact ⟨a, _, ws, rfl, ⟨h1, free, nm⟩, h2.fz fz fu (ih) q1⟩
              | dnt xs => cases q
              | ins C xs =>
                simp only [Option.map_eq_some_iff] at q
                obtain ⟨ys, q1, rfl⟩ := q
                obtain ⟨dx, ws, h1, h2⟩ := rc
                unfold RV
                exact ⟨a, dx, ws, rfl, ⟨h1, free, nm⟩, h2.fz fz fu (ih) q1⟩
      refine ⟨ρ, ⟨⟨⟨[], by simp⟩, fun _ h => .inl h, e.fix, fun _ h => .inl h, e.live⟩, rfl⟩, ⟨?_, st.nd, fun a ha => ?_, fun n c hn => ?_⟩, rv.fz fz fu (hr d) hv⟩
      · have : ρ'.c.length = S'.length := st'.len
        rw [er] at this
        simp at this ⊢
        omega
      · obtain ⟨z1, z2⟩ := st'.bz a (by rw [e.eqm]; exact ha)
        exact ⟨z1, fun z => z2 (cm a z)⟩
      · have hn1 : n < S.length := by
          have := (List.getElem?_eq_some_iff.mp hn).1
          simp at this
          omega
        rw [List.getElem?_take_of_lt hn1] at hn
        obtain ⟨a, ha, rc⟩ := st'.cell n c hn
        have ha2 : ρ.c[n]? = some a := by
          rw [er, List.getElem?_append_left (by omega)] at ha
          exact ha
        refine ⟨a, ha2, ?_⟩
        have cb : c.below S.length = true := by
          have q := List.all_eq_true.mp hf n (List.mem_range.mpr hn1)
          rw [hn] at q
          dsimp only at q
          rcases Bool.or_eq_true_iff.mp q with q | q
          · have q := of_decide_eq_true q
            obtain ⟨b, _, rc2⟩ := st.cell n c q
            have := rc2.below
            rw [hl] at this
            exact this
          · exact q
        cases c with
        | lst xs =>
          obtain ⟨ws, h1, h2⟩ := rc
          obtain ⟨ys, q1⟩ := Option.isSome_iff_exists.mp cb
          have := fzs_id q1
          subst this
          exact ⟨ws, h1, h2.fz fz fu hb q1⟩
        | dct xs =>
          obtain ⟨ws, h1, h2⟩ := rc
          obtain ⟨ys, q1⟩ := Option.isSome_iff_exists.mp cb
          have := fzK_id q1
          subst this
          exact ⟨ws, h1, h2.fz fz fu hb q1⟩
        | dtt xs =>
          obtain ⟨ws, h1, h2⟩ := rc
          obtain ⟨ys, q1⟩ := Option.isSome_iff_exists.mp cb
          have := fzT_id q1
          subst this
          exact ⟨ws, h1, h2.fz fz fu hb q1⟩
        | dnt xs =>
          obtain ⟨ws, h1, h2⟩ := rc
          obtain ⟨ys, q1⟩ := Option.isSome_iff_exists.mp cb
          have := fzs_id q1
          subst this
          exact ⟨ws, h1, h2.fz fz fu hb q1⟩
        | ins C xs =>
          obtain ⟨dx, ws, h1, h2⟩ := rc
          obtain ⟨ys, q1⟩ := Option.isSome_iff_exists.mp cb
          have := fzF_id q1
          subst this
          exact ⟨dx, ws, h1, h2.fz fz fu hb q1⟩
    · exact stay h
  · exact stay h
end
end Gx
end
section
set_option maxHeartbeats 1000000
namespace Gx
open PySem PySem.Spec PyProof.Rows L2
def spOf (K : PySem.W.Frag) (f : F) (n : Nat) : Sp := fun vs H Q E => ∃ ρ S args, StOk K ρ H S ∧ RVs K ρ H args vs ∧ args.length = n ∧ Post K (fun c d _ H' => E c d H') (RV K) ρ H [] (f args S) Q
theorem spOf_len {K : PySem.W.Frag} {f : F} {n : Nat} {vs : List V} {H : Hp} {Q : VK} {E : XK} (h : spOf K f n vs H Q E) : vs.length = n := by
  obtain ⟨ρ, S, args, _, r, l, _⟩ := h
  rw [r.length]; exact l
theorem start_loc {K : PySem.W.Frag} {ρ : Pl} {H : Hp} {args : List Val} {vs : List V} (N : List Str) (r : RVs K ρ H args vs) : LocOk K ρ H (startL N.length args) (L2.start N vs) := by
  have hl := r.length
  refine ⟨by simp [startL, L2.start, hl], fun i v q => ?_⟩
  unfold startL at q
  by_cases hi : i < args.length
  · rw [List.getElem?_append_left (by simpa using hi), List.getElem?_map] at q
    cases e : args[i]? with
    | none => rw [e] at q; simp at q
    | some a =>
      rw [e] at q
      simp only [Option.map_some, Option.some.injEq] at q
      subst q
      obtain ⟨w, h1, h2⟩ := r.get e
      refine ⟨w, ?_, h2⟩
      unfold L2.start
      rw [List.getElem?_append_left (by simpa [hl] using hi), List.getElem?_map, h1]
      rfl
  · rw [List.getElem?_append_right (by simpa using hi), List.getElem?_replicate] at q
    split at q <;> simp at q
section
variable {P : Program} {w : World} {K : PySem.W.Frag} {mg : Str → Option Value} {base : Heap}
end
section
variable {X : Cx} {W : XW} {e o : Expr} {es : List Expr} {x m : Str} {f : F} {n k j : Nat} {ds : List Val} {aa : A} {d : E} {pos p apos : Pos}
theorem PostW.weak {K : PySem.W.Frag} {W W' : XW} {α β : Type} {Rel : Pl → Hp → α → β → Prop} {ρ : Pl} {H : Hp} {σ σ' : L2.St} {r : R α} {Q : β → Hp → Prop} (h : Post K W Rel ρ H σ r Q) (hW : ∀ c d H', W c d σ H' → W' c d σ' H') : Post K W' Rel ρ H σ' r Q := by
  cases r with
  | ok v S => exact h
  | exn x S => exact fun ρ' H' c d a b q => hW _ _ _ (h ρ' H' c d a b q)
  | bad => exact h
theorem obj_read {K : PySem.W.Frag} {ρ : Pl} {H : Hp} {S : Store} {v : Val} {w : V} {C : Addr} {fs : List (Str × Val)} (st : StOk K ρ H S) (r : RV K ρ H v w) (h : objOf S v = some (C, fs)) :
    ∃ q dx ws, w = .ref q ∧ H q = some (.ins C dx ws) ∧ RVF K ρ H fs ws := by
  cases v with
  | obj D gs =>
    simp only [objOf, Option.some.injEq, Prod.mk.injEq] at h
    obtain ⟨rfl, rfl⟩ := h
    unfold RV at r
    obtain ⟨q, dx, ws, rfl, h1, h2⟩ := r
    exact ⟨q, dx, ws, rfl, h1.1, h2⟩
  | ref m =>
    simp only [objOf] at h
    obtain ⟨q, hq, rfl⟩ := r.ref_inv
    split at h
    · rename_i D gs qc
      simp only [Option.some.injEq, Prod.mk.injEq] at h
      obtain ⟨rfl, rfl⟩ := h
      obtain ⟨q', hq', rc⟩ := st.cell m _ qc
      rw [hq] at hq'; cases hq'
      obtain ⟨dx, ws, h1, h2⟩ := rc
      exact ⟨q, dx, ws, rfl, h1, h2⟩
    · cases h
  | _ => simp [objOf] at h
theorem RVF.lookup {K : PySem.W.Frag} {ρ : Pl} {H : Hp} {f : Str} : ∀ {fs : List (Str × Val)} {ws : List (Str × V)}, RVF K ρ H fs ws → match fs.lookup f with | some v => ∃ w, ws.lookup f = some w ∧ RV K ρ H v w | none => ws.lookup f = none
  | [], ws, h => by unfold RVF at h; subst h; rfl
  | (g, x) :: fs, ws, h => by
    unfold RVF at h
    obtain ⟨w, r, rfl, h1, h2⟩ := h
    simp only [List.lookup]
    cases q : f == g with
    | true => exact ⟨w, rfl, h1⟩
    | false => exact RVF.lookup h2
theorem de_fld {Cs : List Addr} (hC : ∀ C, C ∈ Cs → Cls X.K C ∧ NoAttr X.K C m) (he : DE X W e d) (hb : attributeBase e m X.env (eval e X.env) = eval e X.env := by rfl) : DE X W (.Attribute e m pos) (eFld Cs m d) := by
  refine ⟨PE.weak (pe_fld he.pe hb) fun σ H Q h => ?_⟩
  obtain ⟨ρ, S, L, sim, h⟩ := h
  refine ⟨ρ, S, L, sim, Post.bind h fun v S1 ρ1 H1 w _ e1 s1 r1 h1 => ?_⟩
  cases q : objOf S1 v with
  | none => rw [q] at h1; exact h1.elim
  | some pr =>
    obtain ⟨C, fs⟩ := pr
    rw [q] at h1
    dsimp only at h1
    split at h1
    · rename_i hin
      obtain ⟨a, dx, ws, rfl, ha, hf⟩ := obj_read s1 r1 q
      have hl := hf.lookup (f := m)
      cases ql : fs.lookup m with
      | none => rw [ql] at h1; exact h1.elim
      | some u =>
        rw [ql] at h1 hl
        obtain ⟨w, hw, rw'⟩ := hl
        exact ⟨a, C, dx, ws, w, rfl, ha, (hC C hin).1, (hC C hin).2, hw, h1 ρ1 H1 w Ext.refl s1 rw'⟩
    · exact h1.elim
structure Met (X : Cx) (k : Nat) (C : Addr) (m : Str) (f : F) (n : Nat) (ds : List Val) : Prop where
  bad : ∀ args S, args.length ≠ n → f args S = .bad
  cls : Cls X.K C
  ex : ∃ (a : Addr) (fd : FuncData) (ps : List Str) (dvs : List V) (dus : List Value), ps.length = n ∧ FnOk X.prog X.w X.K X.mg X.base CX0 k a fd ps (fun vs H Q _ => spOf X.K f n vs H Q E0) ∧ Meth X.K C m a ∧ Binds X.K fd ps dus ∧ Vals dvs dus ∧ ∀ ρ H, RVs X.K ρ H ds dvs
end
end Gx
end
section
set_option maxHeartbeats 1000000
namespace Gx
open PySem PySem.Spec PyProof.Rows L2
def lC (K : PySem.W.Frag) (W : XW) (f : FV) : List V → Hp → VK → Prop := fun ws H Q => ∃ σ ρ S xs, StOk K ρ H S ∧ RVs K ρ H xs ws ∧ Post K W (RV K) ρ H σ (f xs S) Q
section
variable {X : Cx} {W : XW} {e o a b : Expr} {es : List Expr} {x : Str} {f : FV} {aa : A} {d da db : E} {id T : String} {pos p apos : Pos}
theorem de_callB (hc : CallR X (.builtin id) (lC X.K W f)) (hg : Gl X x) (hm : X.mg x = none) (hv : bootBuiltins x = some (.builtin id)) (ha : DA X W (e :: es) aa) (hn : x ≠ "__name__" := by decide) (hdb : (x == ("__debug__" : Str)) = false := by decide)
    (he : starEach (e :: es) X.env = (false, eval e X.env) :: starEach es X.env := by rfl) (hpl : (backTo pos (starEach es X.env)).any (·.1) = false := by rfl) : DE X W (.Call (.Name x p) (e :: es) [] pos) (eCall f aa) := by
  refine ⟨PE.weak (pe_callB hc hg hm hv ha.pa hn hdb he hpl) fun σ H Q h => ?_⟩
  obtain ⟨ρ, S, L, sim, h⟩ := h
  exact ⟨ρ, S, L, sim, Post.bind h fun xs S1 ρ1 H1 ws _ e1 s1 r1 h1 => ⟨σ, ρ1, S1, xs, s1, r1, h1⟩⟩
theorem de_callTy (hc : CallR X (.type T) (lC X.K W f)) (hg : Gl X x) (hm : X.mg x = none) (hv : bootBuiltins x = some (.type T)) (ha : DA X W (e :: es) aa) (hn : x ≠ "__name__" := by decide) (hdb : (x == ("__debug__" : Str)) = false := by decide)
    (he : starEach (e :: es) X.env = (false, eval e X.env) :: starEach es X.env := by rfl) (hpl : (backTo pos (starEach es X.env)).any (·.1) = false := by rfl) : DE X W (.Call (.Name x p) (e :: es) [] pos) (eCall f aa) := by
  refine ⟨PE.weak (pe_callTy hc hg hm hv ha.pa hn hdb he hpl) fun σ H Q h => ?_⟩
  obtain ⟨ρ, S, L, sim, h⟩ := h
  exact ⟨ρ, S, L, sim, Post.bind h fun xs S1 ρ1 H1 ws _ e1 s1 r1 h1 => ⟨σ, ρ1, S1, xs, s1, r1, h1⟩⟩
theorem de_ty {n : String} (hg : Gl X x) (hm : X.mg x = none) (hv : bootBuiltins x = some (.type n)) (hn : x ≠ "__name__" := by decide) (hd : (x == ("__debug__" : Str)) = false := by decide) : DE X W (.Name x pos) (eC (.ty n)) :=
  de_const (pe_bltn hg hm hv (v := .ty n) rfl hn hd) fun _ _ => by unfold RV; rfl
theorem rvs1 {K : PySem.W.Frag} {ρ : Pl} {H : Hp} {x : Val} {ws : List V} (h : RVs K ρ H [x] ws) : ∃ w, ws = [w] ∧ RV K ρ H x w := by
  obtain ⟨w, r, rfl, h1, h2⟩ := h.inv
  rw [RVs.nil_iff.mp h2]
  exact ⟨w, rfl, h1⟩
theorem rvs2 {K : PySem.W.Frag} {ρ : Pl} {H : Hp} {x y : Val} {ws : List V} (h : RVs K ρ H [x, y] ws) : ∃ w u, ws = [w, u] ∧ RV K ρ H x w ∧ RV K ρ H y u := by
  obtain ⟨w, r, rfl, h1, h2⟩ := h.inv
  obtain ⟨u, rfl, h3⟩ := rvs1 h2
  exact ⟨w, u, rfl, h1, h3⟩
theorem cd_len : CallR X (.builtin "len") (lC X.K W bLen) := by
  intro pins s σ H ws us Q I r h
  obtain ⟨σ', ρ, S, xs, st, rv, post⟩ := h
  unfold bLen at post
  split at post
  · rename_i x
    obtain ⟨w, rfl, rw'⟩ := rvs1 rv
    split at post
    · rename_i z
      split at post
      · rename_i hz
        exact call_len pins s σ H _ us Q I r ⟨w, z.length, rfl, by rw [rw'.str_inv]; exact ⟨hz, rfl⟩, post ρ H _ Ext.refl st (.mk_int _)⟩
      · exact post.elim
    · split at post
      · rename_i k ys q
        obtain ⟨p, vs, rfl, r1, l1⟩ := seq_read st rw' q
        refine call_len pins s σ H _ us Q I r ⟨.ref p, ys.length, rfl, ?_, post ρ H _ Ext.refl st (.mk_int _)⟩
        rcases seq_either l1 with z | z
        · exact .inl ⟨vs, z, r1.length.symm⟩
        · exact .inr ⟨vs, z, r1.length.symm⟩
      · exact post.elim
  · exact post.elim
theorem cd_int : CallR X (.type "int") (lC X.K W bInt) := by
  intro pins s σ H ws us Q I r h
  obtain ⟨σ', ρ, S, xs, st, rv, post⟩ := h
  unfold bInt at post
  split at post
  · obtain ⟨w, rfl, rw'⟩ := rvs1 rv
    exact call_int1 pins s σ H _ us Q I r (.inl ⟨_, by rw [rw'.int_inv], post ρ H _ Ext.refl st (.mk_int _)⟩)
  · obtain ⟨w, rfl, rw'⟩ := rvs1 rv
    exact call_int1 pins s σ H _ us Q I r (.inr ⟨_, by rw [rw'.bl_inv], post ρ H _ Ext.refl st (.mk_int _)⟩)
  · obtain ⟨w, rfl, rw'⟩ := rvs1 rv
    split at post
    · rename_i hz
      split at post
      · rename_i n q
        exact call_int_str pins s σ H _ us Q I r ⟨_, n, by rw [rw'.str_inv], q, hz, post ρ H _ Ext.refl st (.mk_int _)⟩
      · exact post.elim
    · exact post.elim
  · exact post.elim
theorem rvs_ints {K : PySem.W.Frag} {ρ : Pl} {H : Hp} : ∀ {xs : List Val} {ns : List Int} {ws : List V}, intsOf xs = some ns → RVs K ρ H xs ws → ws = ns.map V.int
  | [], ns, ws, e, h => by simp only [intsOf, Option.some.injEq] at e; subst e; exact RVs.nil_iff.mp h
  | x :: xs, ns, ws, e, h => by
    obtain ⟨w, r, rfl, h1, h2⟩ := h.inv
    cases x with
    | int i =>
      simp only [intsOf, Option.map_eq_some_iff] at e
      obtain ⟨ms, e1, rfl⟩ := e
      rw [h1.int_inv, rvs_ints e1 h2]
      rfl
    | _ => simp [intsOf] at e
theorem rvs_bools {K : PySem.W.Frag} {ρ : Pl} {H : Hp} : ∀ {xs : List Val} {ns : List Bool} {ws : List V}, boolsOf xs = some ns → RVs K ρ H xs ws → ws = ns.map V.bl
  | [], ns, ws, e, h => by simp only [boolsOf, Option.some.injEq] at e; subst e; exact RVs.nil_iff.mp h
  | x :: xs, ns, ws, e, h => by
    obtain ⟨w, r, rfl, h1, h2⟩ := h.inv
    cases x with
    | bl i =>
      simp only [boolsOf, Option.map_eq_some_iff] at e
      obtain ⟨ms, e1, rfl⟩ := e
      rw [h1.bl_inv, rvs_bools e1 h2]
      rfl
    | _ => simp [boolsOf] at e
theorem cd_list {g : List Val → Option Val} {id : String} (h1 : ∀ (pins : List (Addr × Obj)) (s : Shared) (σ : L2.St) (H : Hp) (us : List Value) (Q : VK) (p : Addr) (ys : List Val) (vs : List V) (v : Val) (ρ : Pl), L2.Inv X pins σ H s → Vals [.ref p] us → RVs X.K ρ H ys vs → SqL X.K H p vs → g ys = some v →
      (∀ w, RV X.K ρ H v w → Q w H) → wpAny (model X.prog X.w) X.A (call (.builtin id) us) (EP X pins σ Q) X.xe s) : CallR X (.builtin id) (lC X.K W (ofList g)) := by
  intro pins s σ H ws us Q I r h
  obtain ⟨σ', ρ, S, xs, st, rv, post⟩ := h
  unfold ofList at post
  split at post
  · obtain ⟨w, rfl, rw'⟩ := rvs1 rv
    split at post
    · rename_i ys q
      obtain ⟨p, vs, rfl, r1, l1⟩ := seq_read st rw' q
      split at post
      · rename_i v gv
        exact h1 pins s σ H us Q p ys vs v ρ I r r1 (by simpa using l1) gv fun w hw => post ρ H w Ext.refl st hw
      · exact post.elim
    · exact post.elim
  · exact post.elim
theorem cd_all (hc : X.calm = true) : CallR X (.builtin "all") (lC X.K W (ofList allV)) := cd_list fun pins s σ H us Q p ys vs v ρ I r r1 l1 gv k => by
  simp only [allV, Option.map_eq_some_iff] at gv
  obtain ⟨ns, e, rfl⟩ := gv
  have := rvs_bools e r1
  subst this
  exact cr_all hc pins s σ H _ us Q I r ⟨p, ns, rfl, l1, k _ (.mk_bl _)⟩
theorem cd_tup : CallR X (.type "tuple") (lC X.K W bTup) := by
  intro pins s σ H ws us Q I r h
  obtain ⟨σ', ρ, S, xs, st, rv, post⟩ := h
  unfold bTup at post
  split at post
  · obtain ⟨w, rfl, rw'⟩ := rvs1 rv
    split at post
    · rename_i k ys q
      obtain ⟨p, vs, rfl, r1, l1⟩ := seq_read st rw' q
      refine call_tuple_of pins s σ H _ us Q I r ⟨p, vs, rfl, ?_⟩
      cases k with
      | true => exact .inl ⟨by simpa using l1, fun l hl => post ρ _ _ (ext_new hl) (st.new hl) (.mk_tup (.of upd_same) (r1.ext (ext_new hl)))⟩
      | false => exact .inr ⟨by simpa using l1, post ρ H _ Ext.refl st (.mk_tup (by simpa using l1) r1)⟩
    · exact post.elim
  · exact post.elim
end
end Gx
end
section
set_option maxHeartbeats 1000000
namespace Gx
open PySem PySem.Spec PyProof.Rows L2
section
variable {X : Cx} {W : XW} {e o a b i k : Expr} {es : List Expr} {x : Str} {aa : A} {d da db dk de : E} {id T : String} {pos p apos cpos p2 : Pos}
theorem PE.or {e : Expr} {t1 t2 : TE} (h1 : PE X e t1) (h2 : PE X e t2) : PE X e (fun σ H Q => t1 σ H Q ∨ t2 σ H Q) :=
  ⟨fun pins s σ H Q I h => h.elim (h1.run pins s σ H Q I) (h2.run pins s σ H Q I)⟩
theorem atI_get {K : PySem.W.Frag} {ρ : Pl} {H : Hp} {xs : List Val} {ws : List V} {i : Int} {v : Val} (r : RVs K ρ H xs ws) (h : atI xs i = some v) : ∃ w, atI ws i = some w ∧ RV K ρ H v w := by
  unfold atI at h ⊢
  rw [r.length]
  cases q : ixN xs.length i with
  | none => rw [q] at h; simp at h
  | some j => rw [q] at h; exact r.get (by simpa using h)
theorem ix_ok : IxR X (lO X.K W oIdx) := by
  intro value slice pins s σ H wx wy v u Q I rx ry h hs
  obtain ⟨σ', ρ, S, x, y, st, hx, hy, post⟩ := h
  refine ix_seq value slice pins s σ H wx wy v u Q I rx ry ?_ hs
  unfold oIdx at post
  split at post
  · rename_i i
    split at post
    · rename_i z
      split at post
      · rename_i hz
        split at post
        · rename_i c hc
          exact .inr (.inr ⟨z, i, c, hx.str_inv, hy.int_inv, hz, hc, post ρ H _ Ext.refl st (.mk_str _)⟩)
        · exact post.elim
      · exact post.elim
    · split at post
      · rename_i kk ys q
        split at post
        · rename_i v hv
          obtain ⟨p, ws, e1, r1, l1⟩ := seq_read st hx q
          obtain ⟨w, h1, h2⟩ := atI_get r1 hv
          cases kk with
          | true => exact .inl ⟨p, ws, i, w, e1, hy.int_inv, by simpa using l1, h1, post ρ H _ Ext.refl st h2⟩
          | false => exact .inr (.inl ⟨p, ws, i, w, e1, hy.int_inv, by simpa using l1, h1, post ρ H _ Ext.refl st h2⟩)
        · exact post.elim
      · exact post.elim
  · exact post.elim
theorem dct_read {K : PySem.W.Frag} {ρ : Pl} {H : Hp} {S : Store} {v : Val} {w : V} {kvs : List (Key × Val)} (st : StOk K ρ H S) (r : RV K ρ H v w) (h : dctOf S v = some kvs) :
    ∃ p ws, w = .ref p ∧ Rd H p (.dK ws) ∧ RVK K ρ H kvs ws := by
  cases v with
  | dct ys =>
    simp only [dctOf, Option.some.injEq] at h
    subst h
    unfold RV at r
    obtain ⟨p, ws, rfl, h1, h2⟩ := r
    exact ⟨p, ws, rfl, h1.symm.imp (·.1) id, h2⟩
  | ref n =>
    simp only [dctOf] at h
    obtain ⟨p, hp, rfl⟩ := r.ref_inv
    split at h
    · rename_i kv q
      cases h
      obtain ⟨p', hp', rc⟩ := st.cell n _ q
      rw [hp] at hp'; cases hp'
      obtain ⟨ws, h1, h2⟩ := rc
      exact ⟨p, ws, rfl, .inl h1, h2⟩
    · cases h
  | _ => simp [dctOf] at h
theorem key_rv {K : PySem.W.Frag} {ρ : Pl} {H : Hp} {v : Val} {w : V} {k : Key} (r : RV K ρ H v w) (h : keyOf v = some k) : w = kV k := by
  unfold keyOf at h
  split at h
  · cases h; exact r.int_inv
  · cases h; exact r.str_inv
  · cases h
theorem RVK.find {K : PySem.W.Frag} {ρ : Pl} {H : Hp} {k : Key} : ∀ {kvs : List (Key × Val)} {ws : List (Key × V)}, RVK K ρ H kvs ws → match getV kvs k with | some v => ∃ w, valV ws k = some w ∧ RV K ρ H v w | none => valV ws k = none
  | [], ws, h => by unfold RVK at h; subst h; rfl
  | (g, x) :: fs, ws, h => by
    unfold RVK at h
    obtain ⟨w, r, rfl, h1, h2⟩ := h
    have ih := RVK.find (k := k) h2
    unfold getV valV at ih ⊢
    simp only [List.find?_cons]
    cases q : decide (g = k) with
    | true => exact ⟨w, rfl, h1⟩
    | false => exact ih
theorem RVK.any {K : PySem.W.Frag} {ρ : Pl} {H : Hp} {k : Key} : ∀ {kvs : List (Key × Val)} {ws : List (Key × V)}, RVK K ρ H kvs ws → (ws.any fun p => decide (p.1 = k)) = (kvs.any fun p => decide (p.1 = k))
  | [], ws, h => by unfold RVK at h; subst h; rfl
  | (g, x) :: fs, ws, h => by
    unfold RVK at h
    obtain ⟨w, r, rfl, h1, h2⟩ := h
    simp only [List.any_cons, RVK.any h2]
theorem RVK.app {K : PySem.W.Frag} {ρ : Pl} {H : Hp} {k : Key} {v : Val} {u : V} (rv : RV K ρ H v u) : ∀ {kvs : List (Key × Val)} {ws : List (Key × V)}, RVK K ρ H kvs ws → RVK K ρ H (kvs ++ [(k, v)]) (ws ++ [(k, u)])
  | [], ws, h => by unfold RVK at h; subst h; exact ⟨u, [], rfl, rv, by unfold RVK; rfl⟩
  | (g, x) :: fs, ws, h => by
    unfold RVK at h
    obtain ⟨w, r, rfl, h1, h2⟩ := h
    show RVK K ρ H ((g, x) :: (fs ++ [(k, v)])) ((g, w) :: (r ++ [(k, u)]))
    unfold RVK
    exact ⟨w, _, rfl, h1, RVK.app rv h2⟩
theorem RVK.rep {K : PySem.W.Frag} {ρ : Pl} {H : Hp} {k : Key} {v : Val} {u : V} (rv : RV K ρ H v u) : ∀ {kvs : List (Key × Val)} {ws : List (Key × V)}, RVK K ρ H kvs ws → RVK K ρ H (kvs.map fun p => if p.1 = k then (p.1, v) else p) (ws.map fun p => if p.1 = k then (p.1, u) else p)
  | [], ws, h => by unfold RVK at h; subst h; unfold RVK; rfl
  | (g, x) :: fs, ws, h => by
    unfold RVK at h
    obtain ⟨w, r, rfl, h1, h2⟩ := h
    simp only [List.map_cons]
    by_cases q : g = k
    · rw [if_pos q, if_pos q]
      unfold RVK
      exact ⟨u, _, rfl, rv, RVK.rep rv h2⟩
    · rw [if_neg q, if_neg q]
      unfold RVK
      exact ⟨w, _, rfl, h1, RVK.rep rv h2⟩
theorem RVK.put {K : PySem.W.Frag} {ρ : Pl} {H : Hp} {k : Key} {v : Val} {u : V} (rv : RV K ρ H v u) {kvs : List (Key × Val)} {ws : List (Key × V)} (h : RVK K ρ H kvs ws) : RVK K ρ H (putV kvs k v) (putK ws k u) := by
  unfold putV putK
  rw [h.any]
  split
  · exact h.rep rv
  · exact h.app rv
theorem RVK.len {K : PySem.W.Frag} {ρ : Pl} {H : Hp} : ∀ {kvs : List (Key × Val)} {ws : List (Key × V)}, RVK K ρ H kvs ws → ws.length = kvs.length
  | [], ws, h => by unfold RVK at h; subst h; rfl
  | (g, x) :: fs, ws, h => by
    unfold RVK at h
    obtain ⟨w, r, rfl, h1, h2⟩ := h
    simp [RVK.len h2]
theorem de_sub (hu : X.A.units + 1 < cLine) (ha : DE X W a da) (hb : DE X W b db) (hs : PlainIx b) : DE X W (.Subscript a b pos) (eBin oSub2 da db) := by
  refine ⟨PE.weak (PE.or (pe_ix (ix_ok (W := W)) ha.pe hb.pe hs) (pe_dget hu ha.pe hb.pe hs)) fun σ H Q h => ?_⟩
  obtain ⟨ρ, S, L, sim, h⟩ := h
  unfold eBin at h
  -- what is read tells which
  cases qa : da L S with
  | bad => rw [qa] at h; exact h.elim
  | exn y S1 => rw [qa] at h; exact .inl ⟨ρ, S, L, sim, by rw [qa]; exact h⟩
  | ok v S1 =>
    rw [qa] at h
    simp only [R.bind_ok] at h
    cases qb : db L S1 with
    | bad => rw [qb] at h; exact h.elim
    | exn y S2 =>
      rw [qb] at h
      refine .inl ⟨ρ, S, L, sim, ?_⟩
      rw [qa]
      intro ρ1 H1 w e1 s1 r1
      refine ⟨ρ1, S1, L, sim.next e1 s1, ?_⟩
      rw [qb]
      exact Post.base (r := (R.exn y S2 : R Val)) (Rel := RV X.K) h e1
    | ok u S2 =>
      rw [qb] at h
      simp only [R.bind_ok] at h
      unfold oSub2 at h
      cases qd : dctOf S2 v with
      | none =>
        rw [qd] at h
        dsimp only at h
        left
        refine ⟨ρ, S, L, sim, ?_⟩
        rw [qa]
        intro ρ1 H1 w e1 s1 r1
        refine ⟨ρ1, S1, L, sim.next e1 s1, ?_⟩
        rw [qb]
        intro ρ2 H2 w2 e2 s2 r2
        exact ⟨σ, ρ2, S2, v, u, s2, r1.ext e2, r2, Post.base h (e1.trans e2)⟩
      | some kvs =>
        rw [qd] at h
        dsimp only at h
        right
        refine ⟨ρ, S, L, sim, ?_⟩
        rw [qa]
        intro ρ1 H1 w e1 s1 r1
        refine ⟨ρ1, S1, L, sim.next e1 s1, ?_⟩
        rw [qb]
        intro ρ2 H2 w2 e2 s2 r2
        unfold oGet at h
        rw [qd] at h
        cases qk : keyOf u with
        | none => rw [qk] at h; exact h.elim
        | some kk =>
          rw [qk] at h
          dsimp only at h
          obtain ⟨p, ws, rfl, h1, h2⟩ := dct_read s2 (r1.ext e2) qd
          have hf := h2.find (k := kk)
          cases qg : getV kvs kk with
          | none => rw [qg] at h; exact h.elim
          | some z =>
            rw [qg] at h hf
            obtain ⟨wz, hz, rz⟩ := hf
            have ek := key_rv r2 qk
            subst ek
            exact ⟨p, wz, rfl, by rw [← hz]; exact .inl ⟨_, _, h1, rfl, rfl⟩, h ρ2 H2 wz (e1.trans e2) s2 rz⟩

def lP (K : PySem.W.Frag) (W : XW) (d : Loc → Store → R (Option Int)) : TO := fun σ H Q => ∃ ρ S L, Sim K ρ H L S σ ∧ Post K W (fun _ _ (a b : Option Int) => a = b) ρ H σ (d L S) Q
structure DP (X : Cx) (W : XW) (e : Option Expr) (d : Option E) : Prop where
  po : PO X e (lP X.K W (partE d))
theorem PO.weak {e : Option Expr} {t t' : TO} (h : PO X e t) (k : ∀ σ H Q, t' σ H Q → t σ H Q) : PO X e t' := ⟨fun pins s σ H Q I q => h.run pins s σ H Q I (k σ H Q q)⟩
theorem dp_none : DP X W none none := by
  refine ⟨PO.weak po_none fun σ H Q h => ?_⟩
  obtain ⟨ρ, S, L, sim, h⟩ := h
  exact h ρ H none Ext.refl sim.st rfl
theorem dp_some (he : DE X W e d) : DP X W (some e) (some d) := by
  refine ⟨PO.weak (po_some he.pe) fun σ H Q h => ?_⟩
  obtain ⟨ρ, S, L, sim, h⟩ := h
  unfold partE at h
  refine ⟨ρ, S, L, sim, Post.bind (Rel' := fun _ _ (a b : Option Int) => a = b) h fun v S1 ρ1 H1 w _ e1 s1 r1 h1 => ?_⟩
  cases v with
  | int i => exact ⟨i, r1.int_inv, h1 ρ1 H1 _ Ext.refl s1 rfl⟩
  | _ => exact h1.elim
theorem RVs.cut {K : PySem.W.Frag} {ρ : Pl} {H : Hp} {xs : List Val} {ws : List V} (lo hi : Option Int) (r : RVs K ρ H xs ws) : RVs K ρ H (cutL xs lo hi) (cutV ws lo hi) := by
  unfold cutL cutV
  rw [r.length]
  exact (r.drop _).take _
def rSlAll (K : PySem.W.Frag) : V → Option Int → Option Int → Hp → VK → Prop := fun x lo hi H Q => (rSlL K x lo hi H Q ∨ rSlA K x lo hi H Q) ∨ rSlS x lo hi H Q
theorem sl_all : SlR X (rSlAll X.K) := SlR.or (SlR.or sl_list sl_tupA) sl_str
theorem tSl_of {K : PySem.W.Frag} {α : Type} {Rel : Pl → Hp → α → V → Prop} {lo hi : Option E} {f : Val → Option Int → Option Int → Store → R α} {σ : L2.St} {H : Hp} {Q : VK} {ρ : Pl} {S : Store} {L : Loc} (sim : Sim K ρ H L S σ)
    (h : Post K W Rel ρ H σ ((da L S).bind fun x S1 => (partE lo L S1).bind fun l S2 => (partE hi L S2).bind fun h S3 => f x l h S3) Q) {r : V → Option Int → Option Int → Hp → VK → Prop}
    (g : ∀ x l h S3 ρ3 H3 w, Ext ρ H ρ3 H3 → StOk K ρ3 H3 S3 → RV K ρ3 H3 x w → Post K W Rel ρ3 H3 σ (f x l h S3) Q → r w l h H3 Q) : tSl r (lE K W da) (lP K W (partE lo)) (lP K W (partE hi)) σ H Q := by
  refine ⟨ρ, S, L, sim, Post.bind h fun x S1 ρ1 H1 w _ e1 s1 r1 h1 => ?_⟩
  refine ⟨ρ1, S1, L, sim.next e1 s1, Post.bind h1 fun l S2 ρ2 H2 l' _ e2 s2 r2 h2 => ?_⟩
  refine ⟨ρ2, S2, L, (sim.next e1 s1).next e2 s2, Post.bind h2 fun u S3 ρ3 H3 u' _ e3 s3 r3 h3 => ?_⟩
  subst r2 r3
  exact g x l u S3 ρ3 H3 w ((e1.trans e2).trans e3) s3 ((r1.ext e2).ext e3) h3
theorem fz_new {K : PySem.W.Frag} {ρ : Pl} {H : Hp} {S : Store} {p : Addr} {o : HO} (s : StOk K ρ H S) (hp : H p = none) : Fu ρ (upd H p o) p o :=
  ⟨upd_same, s.fresh hp, fun z => ne_of_none (s.bz p z).1.choose_spec hp rfl⟩
theorem mk_lst {K : PySem.W.Frag} {ρ : Pl} {H : Hp} {xs : List Val} {p : Addr} {ws : List V} (h : Fu ρ H p (.lst ws)) (r : RVs K ρ H xs ws) : RV K ρ H (.lst xs) (.ref p) := by
  unfold RV; exact ⟨p, ws, rfl, h, r⟩
theorem de_slice {lo hi : Option Expr} {dlo dhi : Option E} (ha : DE X W a da) (hl : DP X W lo dlo) (hh : DP X W hi dhi) : DE X W (.Subscript a (.Slice lo hi none p2) pos) (eSlice da dlo dhi) := by
  refine ⟨PE.weak (pe_slice (sl_all (X := X)) ha.pe hl.po hh.po) fun σ H Q h => ?_⟩
  obtain ⟨ρ, S, L, sim, h⟩ := h
  refine tSl_of (Rel := RV X.K) sim h fun x l u S3 ρ3 H3 w e3 s3 r3 h3 => ?_
  split at h3
  · rename_i z
    split at h3
    · rename_i hz
      exact .inr ⟨z, r3.str_inv, hz, h3 ρ3 H3 _ Ext.refl s3 (.mk_str _)⟩
    · exact h3.elim
  · rename_i xs
    obtain ⟨p, ws, rfl, h1, h2⟩ := r3.tup_inv
    refine .inl (.inr ⟨p, ws, rfl, h1, fun q => ?_, fun q p' hp => ?_⟩)
    · refine h3 ρ3 H3 _ Ext.refl s3 (.mk_tup h1 ?_)
      have e : cutL xs l u = xs := by
        unfold cutL
        rw [← h2.length, q.1, q.2]
        simp [h2.length]
      rw [e]; exact h2
    · exact h3 ρ3 _ _ (ext_new hp) (s3.new hp) (.mk_tup (.of upd_same) ((h2.cut l u).ext (ext_new hp)))
  · split at h3
    · rename_i xs q
      obtain ⟨p, ws, rfl, r1, l1⟩ := seq_read s3 r3 q
      exact .inl (.inl ⟨p, ws, rfl, by simpa using l1, fun p' hp => h3 ρ3 _ _ (ext_new hp) (s3.new hp) (mk_lst (fz_new s3 hp) ((r1.cut l u).ext (ext_new hp)))⟩)
    · exact h3.elim
theorem df_slice {lo hi : Option Expr} {dlo dhi : Option E} (ha : DE X W a da) (hl : DP X W lo dlo) (hh : DP X W hi dhi) : DF X W (.Subscript a (.Slice lo hi none p2) pos) (fSlice da dlo dhi) := by
  refine ⟨PE.weak (pe_slice (sl_list (X := X)) ha.pe hl.po hh.po) fun σ H Q h => ?_⟩
  obtain ⟨ρ, S, L, sim, h⟩ := h
  -- the list's items go to a new list
  refine ⟨ρ, S, L, sim, Post.bind (Rel' := RVs X.K) h fun x S1 ρ1 H1 w _ e1 s1 r1 h1 => ?_⟩
  refine ⟨ρ1, S1, L, sim.next e1 s1, Post.bind h1 fun l S2 ρ2 H2 l' _ e2 s2 r2 h2 => ?_⟩
  refine ⟨ρ2, S2, L, (sim.next e1 s1).next e2 s2, Post.bind h2 fun u S3 ρ3 H3 u' _ e3 s3 r3 h3 => ?_⟩
  subst r2 r3
  split at h3
  · rename_i xs q
    obtain ⟨p, ws, rfl, r1, l1⟩ := seq_read s3 ((r1.ext e2).ext e3) q
    exact ⟨p, ws, rfl, by simpa using l1, fun p' hp => h3 ρ3 H3 _ Ext.refl s3 (r1.cut l u) p' hp⟩
  · exact h3.elim
theorem df_rev {kk : Nat} {p1 p2 p3 : Pos} (ha : DE X W a da) : DF X W (.Subscript a (.Slice none none (some (.UnaryOp .USub (.Constant (.int 1) kk p1) p2)) p3) pos) (fRev da) := by
  refine ⟨PE.weak (pe_revL ha.pe) fun σ H Q h => ?_⟩
  obtain ⟨ρ, S, L, sim, h⟩ := h
  refine ⟨ρ, S, L, sim, Post.bind (Rel' := RVs X.K) h fun x S1 ρ1 H1 w _ e1 s1 r1 h1 => ?_⟩
  split at h1
  · rename_i xs q
    obtain ⟨p, ws, rfl, r1, l1⟩ := seq_read s1 r1 q
    exact ⟨p, ws, rfl, by simpa using l1, fun p' hp => h1 ρ1 H1 _ Ext.refl s1 r1.reverse p' hp⟩
  · exact h1.elim
end
end Gx
end
section
set_option maxHeartbeats 1000000
namespace Gx
open PySem PySem.Spec PyProof.Rows L2
section
variable {X : Cx} {W : XW} {e o a b i k : Expr} {es : List Expr} {x y : Str} {aa : A} {d da db dk dd : E} {id T : String} {pos p apos cpos p2 : Pos}
theorem PSet.or {t1 t2 : TSet} (h1 : PSet X t1) (h2 : PSet X t2) : PSet X (fun o i v H Q => t1 o i v H Q ∨ t2 o i v H Q) := by
  intro pins s σ H o i v ov iv u Q I r1 r2 r3 h
  rcases h with h | h
  · exact h1 pins s σ H o i v ov iv u Q I r1 r2 r3 h
  · exact h2 pins s σ H o i v ov iv u Q I r1 r2 r3 h
theorem set_read {K : PySem.W.Frag} {ρ : Pl} {H : Hp} {S S3 : Store} {o k v : Val} {wo wk wv : V} {Q : Hp → Prop} (st : StOk K ρ H S) (ro : RV K ρ H o wo) (rk : RV K ρ H k wk) (rv : RV K ρ H v wv) (h : setItem o k v S = some S3)
    (q : ∀ H', Ext ρ H ρ H' → StOk K ρ H' S3 → Q H') : rSetL wo wk wv H Q ∨ rSetD wo wk wv H Q := by
  unfold setItem at h
  split at h
  · rename_i n
    obtain ⟨p, hp, rfl⟩ := ro.ref_inv
    split at h
    · rename_i xs qn
      obtain ⟨p', hp', rc⟩ := st.cell n _ qn
      rw [hp] at hp'; cases hp'
      obtain ⟨ws, h1, h2⟩ := rc
      split at h
      · rename_i j
        simp only [Option.map_eq_some_iff] at h
        obtain ⟨m, hm, rfl⟩ := h
        left
        refine ⟨p, ws, j, m, rfl, rk.int_inv, h1, by rw [h2.length]; exact hm, ?_⟩
        have ex : Ext ρ H ρ (upd H p (.lst (ws.set m wv))) := ext_write (List.mem_of_getElem? hp) (by rw [h1]; trivial)
        exact q _ ex (st.write hp ⟨_, upd_same, (h2.set rv m).ext ex⟩)
      · cases h
    · rename_i kvs qn
      obtain ⟨p', hp', rc⟩ := st.cell n _ qn
      rw [hp] at hp'; cases hp'
      obtain ⟨ws, h1, h2⟩ := rc
      split at h
      · rename_i kk hk
        split at h
        · rename_i hz
          cases h
          right
          have ek := key_rv rk hk
          subst ek
          have ex : Ext ρ H ρ (upd H p (.dK (putK ws kk wv))) := ext_write (List.mem_of_getElem? hp) (by rw [h1]; trivial)
          exact ⟨p, _, rfl, DPut.k h1 (by rw [h2.len]; exact hz), q _ ex (st.write hp ⟨_, upd_same, (RVK.put rv h2).ext ex⟩)⟩
        · cases h
      · cases h
    · cases h
  · cases h
theorem dg_sub (hu : X.A.units + 1 < cLine) (ho : DE X W o dd) (hi : DE X W i dk)
    (ha : ∀ v, assign (.Subscript o i pos) X.env v = (do
      let ov ← holding [v] (eval o X.env)
      let iv ← holding [v, ov] (eval i X.env)
      standAt pos
      holding [v, ov, iv] (PySem.setItem ov iv v)
      release [v, ov, iv] []) := by intro _; rfl) : DG X W (.Subscript o i pos) (gSub dd dk) := by
  refine ⟨PG.weak (pg_sub ho.pe hi.pe (PSet.or set_list (set_dict hu)) ha) fun w σ H Q h => ?_⟩
  obtain ⟨ρ, S, L, v, sim, rv, h⟩ := h
  unfold gSub at h
  have h : PostS X.K W ρ H (ofE L (dd L S) fun o S1 => ofE L (dk L S1) fun k S2 => match Gx.setItem o k v S2 with | some S3 => .nx L S3 | none => .bad) { nx := Q, rt := fun _ _ => False } := by
    cases q1 : dd L S with
    | bad => rw [q1] at h; exact h
    | exn _ _ => rw [q1] at h; exact h
    | ok o1 S1 =>
      rw [q1] at h
      simp only [ofE_ok] at h ⊢
      cases q2 : dk L S1 with
      | bad => rw [q2] at h; exact h
      | exn _ _ => rw [q2] at h; exact h
      | ok k1 S2 =>
        rw [q2] at h
        simp only [ofE_ok] at h ⊢
        cases q3 : Gx.setItem o1 k1 v S2 with
        | none => rw [q3] at h; exact h
        | some S3 => rw [q3] at h; exact h
  refine ⟨ρ, S, L, sim, PostS.ofE sim h fun o1 S1 ρ1 H1 wo _ e1 s1 r1 h1 => ?_⟩
  have sim1 := sim.next e1 s1
  refine ⟨ρ1, S1, L, sim1, PostS.ofE sim1 h1 fun k1 S2 ρ2 H2 wk _ e2 s2 r2 h2 => ?_⟩
  cases q3 : Gx.setItem o1 k1 v S2 with
  | none => rw [q3] at h2; exact h2.elim
  | some S3 =>
    rw [q3] at h2
    exact set_read s2 (r1.ext e2) r2 ((rv.ext e1).ext e2) q3 fun H' e3 s3 => h2 ρ2 H' σ e3 ((sim1.next e2 s2).next e3 s3)
theorem RVF.put {K : PySem.W.Frag} {ρ : Pl} {H : Hp} {f : Str} {v : Val} {u : V} (rv : RV K ρ H v u) : ∀ {fs : List (Str × Val)} {ws : List (Str × V)}, RVF K ρ H fs ws → RVF K ρ H (putA f v fs) (putF f u ws)
  | [], ws, h => by unfold RVF at h; subst h; unfold putA putF RVF; exact ⟨u, [], rfl, rv, by unfold RVF; rfl⟩
  | (g, x) :: fs, ws, h => by
    unfold RVF at h
    obtain ⟨w, r, rfl, h1, h2⟩ := h
    unfold putA putF
    by_cases q : g = f
    · rw [if_pos q, if_pos q]
      unfold RVF
      exact ⟨u, _, rfl, rv, h2⟩
    · rw [if_neg q, if_neg q]
      unfold RVF
      exact ⟨w, _, rfl, h1, RVF.put rv h2⟩
theorem RVF.len {K : PySem.W.Frag} {ρ : Pl} {H : Hp} : ∀ {fs : List (Str × Val)} {ws : List (Str × V)}, RVF K ρ H fs ws → ws.length = fs.length
  | [], ws, h => by unfold RVF at h; subst h; rfl
  | (g, x) :: fs, ws, h => by
    unfold RVF at h
    obtain ⟨w, r, rfl, h1, h2⟩ := h
    simp [RVF.len h2]
theorem ds_fld {Cs : List Addr} {f : Str} {pos' : Pos} (hC : ∀ C, C ∈ Cs → Cls X.K C ∧ NoAttr X.K C f) (ho : DE X W o dd) (he : DE X W e d) (hs : swapsWith e (some (.Attribute o f pos')) pos.line X.env = pure false := by rfl) :
    DS X W (.Assign [.Attribute o f pos'] e pos) (sFldC Cs f dd d) := by
  refine ⟨PS.weak (ps_fld ho.pe he.pe hs) fun D σ H h => ?_⟩
  obtain ⟨ρ, S, L, sim, h⟩ := h
  unfold sFldC at h
  refine ⟨ρ, S, L, sim, PostS.ofE sim h fun v S1 ρ1 H1 w _ e1 s1 r1 h1 => ?_⟩
  have sim1 := sim.next e1 s1
  refine ⟨ρ1, S1, L, sim1, PostS.ofE sim1 h1 fun o1 S2 ρ2 H2 wo _ e2 s2 r2 h2 => ?_⟩
  cases o1 with
  | ref n =>
    dsimp only at h2
    obtain ⟨q, hq, rfl⟩ := r2.ref_inv
    split at h2
    · rename_i C fs qn
      obtain ⟨q', hq', rc⟩ := s2.cell n _ qn
      rw [hq] at hq'; cases hq'
      obtain ⟨dx, ws, g1, g2⟩ := rc
      split at h2
      · rename_i hz
        have ex : Ext ρ2 H2 ρ2 (upd H2 q (.ins C dx (putF f w ws))) := ext_write (List.mem_of_getElem? hq) (by rw [g1]; trivial)
        refine ⟨q, C, dx, ws, rfl, g1, (hC C hz.1).1, (hC C hz.1).2, by rw [g2.len]; exact hz.2, h2 ρ2 _ σ ex ((sim1.next e2 s2).next ex (s2.write hq ⟨dx, _, upd_same, (RVF.put (r1.ext e2) g2).ext ex⟩))⟩
      · exact h2.elim
    · exact h2.elim
  | _ => exact h2.elim
theorem ds_par {i j : Nat} {px py pt : Pos} {kt k2 pt2} (hc : X.calm = true) (hN : X.N.Nodup) (hi : X.N[i]? = some x) (hj : X.N[j]? = some y) (hij : i ≠ j)
    (hx : X.env.scope.names.lookup x = some .local) (hy : X.env.scope.names.lookup y = some .local) (ha : DA X W [a, b] aa)
    (hw : swappedStores [.Tuple [.Name x px, .Name y py] kt pt] (.Tuple [a, b] k2 pt2) X.env = pure (some [x, y]))
    (hs : swapsWithSole [.Tuple [.Name x px, .Name y py] kt pt] (.Tuple [a, b] k2 pt2) pos.line X.env = pure false := by rfl) :
    DS X W (.Assign [.Tuple [.Name x px, .Name y py] kt pt] (.Tuple [a, b] k2 pt2) pos) (sAsg (eTup aa) (gTup 2 (gCons (gName i) (gCons (gName j) gNil)))) := by
  refine ⟨PS.weak (ps_par hc hN hi hj hij hx hy ha.pa hw hs) fun D σ H h => ?_⟩
  obtain ⟨ρ, S, L, sim, h⟩ := h
  have h : PostS X.K W ρ H (ofE L (aa L S) fun xs S1 => if xs.length ≤ sizeLine then (gTup 2 (gCons (gName i) (gCons (gName j) gNil)) (.tup xs) L S1).plain else .bad) D := by
    unfold sAsg eTup at h
    cases q : aa L S with
    | bad => rw [q] at h; exact h
    | exn _ _ => rw [q] at h; exact h
    | ok xs S1 =>
      rw [q] at h
      simp only [R.bind_ok, ofE_ok] at h ⊢
      split
      · rename_i hz; rw [if_pos hz] at h; exact h
      · rename_i hz; rw [if_neg hz] at h; exact h
  refine ⟨ρ, S, L, sim, PostS.ofE sim h fun xs S1 ρ1 H1 ws _ e1 s1 r1 h1 => ?_⟩
  split at h1
  · match xs, r1, h1 with
    | [u, v], r1, h1 =>
      obtain ⟨w1, w2, rfl, q1, q2⟩ := rvs2 r1
      exact ⟨w1, w2, rfl, h1 ρ1 H1 _ Ext.refl ⟨s1, ((sim.loc.ext e1).set i q1).set j q2⟩⟩
    | [], _, h1 => exact h1.elim
    | [_], _, h1 => exact h1.elim
    | _ :: _ :: _ :: _, _, h1 =>
      unfold gTup at h1
      simp only [seqOf, List.length_cons] at h1
      rw [if_neg (by omega)] at h1
      exact h1.elim
  · exact h1.elim
def lM (K : PySem.W.Frag) (W : XW) (f : MV) : V → List V → Hp → VK → Prop := fun wx ws H Q => ∃ σ ρ S x xs, StOk K ρ H S ∧ RV K ρ H x wx ∧ RVs K ρ H xs ws ∧ Post K W (RV K) ρ H σ (f x xs S) Q
theorem ty_list {K : PySem.W.Frag} {ρ : Pl} {H : Hp} {S : Store} {v : Val} {w : V} {xs : List Val} (st : StOk K ρ H S) (r : RV K ρ H v w) (h : seqOf S v = some (true, xs)) : tyV K "list" w H := by
  obtain ⟨p, ws, rfl, r1, l1⟩ := seq_read st r h
  exact .inl ⟨rfl, ws, by simpa using l1⟩
theorem de_bmL {name : Str} {m : MV} (pa : PlainAttrs "list") (slot : Slot "list" name id) (hty : typeOf (.builtin id) = pure (.type "method_descriptor")) (hm : MtR X id (lM X.K W m)) (ho : DE X W o dd) (ha : DA X W (e :: es) aa)
    (hbase : attributeBase o name X.env (eval o X.env) = eval o X.env := by rfl)
    (hfew : ((backTo cpos (starEach (e :: es) X.env)).all (fun x => !x.1) && (backToKw cpos (keywordEach [] X.env)).all (fun x => x.1.isSome)
      && decide ((e :: es).length + ([] : List Keyword).length + (if ([] : List Keyword).isEmpty then 0 else 1) < 30)) = true := by rfl)
    (hline : (apos.endLine == cpos.line) = true := by rfl) (hs : starEach (e :: es) X.env = (false, eval e X.env) :: starEach es X.env := by rfl) (hplain : (backTo cpos (starEach es X.env)).any (·.1) = false := by rfl) :
    DE X W (.Call (.Attribute o name apos) (e :: es) [] cpos) (eBmL m dd aa) := by
  refine ⟨PE.weak (pe_bm pa slot hty hm ho.pe ha.pa hbase hfew hline hs hplain) fun σ H Q h => ?_⟩
  obtain ⟨ρ, S, L, sim, h⟩ := h
  refine ⟨ρ, S, L, sim, Post.bind h fun v S1 ρ1 H1 w _ e1 s1 r1 h1 => ?_⟩
  split at h1
  · rename_i ys q
    refine ⟨ty_list s1 r1 q, ρ1, S1, L, sim.next e1 s1, Post.bind h1 fun xs S2 ρ2 H2 ws _ e2 s2 r2 h2 => ?_⟩
    exact ⟨σ, ρ2, S2, v, xs, s2, r1.ext e2, r2, h2⟩
  · exact h1.elim
theorem de_bmL0 {name : Str} {m : MV} (pa : PlainAttrs "list") (slot : Slot "list" name id) (hty : typeOf (.builtin id) = pure (.type "method_descriptor")) (hm : MtR X id (lM X.K W m)) (ho : DE X W o dd)
    (hbase : attributeBase o name X.env (eval o X.env) = eval o X.env := by rfl) (hline : (apos.endLine == cpos.line) = true := by rfl) :
    DE X W (.Call (.Attribute o name apos) [] [] cpos) (eBmL m dd aNil) := by
  refine ⟨PE.weak (pe_bm0 pa slot hty hm ho.pe hbase hline) fun σ H Q h => ?_⟩
  obtain ⟨ρ, S, L, sim, h⟩ := h
  refine ⟨ρ, S, L, sim, Post.bind h fun v S1 ρ1 H1 w _ e1 s1 r1 h1 => ?_⟩
  split at h1
  · rename_i ys q
    exact ⟨ty_list s1 r1 q, σ, ρ1, S1, v, [], s1, r1, .nil, h1⟩
  · exact h1.elim
theorem md_append : MtR X "list.append" (lM X.K W mAppend) := by
  intro pins s σ H wx ws v us Q I rx rs h
  obtain ⟨σ', ρ, S, x, xs, st, hx, hs, post⟩ := h
  unfold mAppend at post
  split at post
  · rename_i n y
    obtain ⟨w, rfl, ry⟩ := rvs1 hs
    obtain ⟨q, hq, rfl⟩ := hx.ref_inv
    split at post
    · rename_i ys qn
      obtain ⟨q', hq', rc⟩ := st.cell n _ qn
      rw [hq] at hq'; cases hq'
      obtain ⟨vs, h1, h2⟩ := rc
      split at post
      · rename_i hz
        have ex : Ext ρ H ρ (upd H q (.lst (vs ++ [w]))) := ext_write (List.mem_of_getElem? hq) (by rw [h1]; trivial)
        exact mt_append pins s σ H _ _ v us Q I rx rs ⟨q, vs, w, rfl, rfl, h1, by rw [h2.length]; exact hz, post ρ _ _ ex (st.write hq ⟨_, upd_same, (h2.append (.cons ry .nil)).ext ex⟩) .mk_non⟩
      · exact post.elim
    · exact post.elim
  · exact post.elim
theorem RVs.dropLast {K : PySem.W.Frag} {ρ : Pl} {H : Hp} {xs : List Val} {ws : List V} (r : RVs K ρ H xs ws) : RVs K ρ H xs.dropLast ws.dropLast := by
  rw [List.dropLast_eq_take, List.dropLast_eq_take, r.length]
  exact r.take _
theorem md_pop : MtR X "list.pop" (lM X.K W mPop) := by
  intro pins s σ H wx ws v us Q I rx rs h
  obtain ⟨σ', ρ, S, x, xs, st, hx, hs, post⟩ := h
  unfold mPop at post
  split at post
  · rename_i n
    have e0 := RVs.nil_iff.mp hs
    subst e0
    obtain ⟨q, hq, rfl⟩ := hx.ref_inv
    split at post
    · rename_i ys qn
      obtain ⟨q', hq', rc⟩ := st.cell n _ qn
      rw [hq] at hq'; cases hq'
      obtain ⟨vs, h1, h2⟩ := rc
      split at post
      · rename_i y qy
        obtain ⟨w, hw, rw'⟩ := h2.get qy
        have ex : Ext ρ H ρ (upd H q (.lst vs.dropLast)) := ext_write (List.mem_of_getElem? hq) (by rw [h1]; trivial)
        exact mt_pop pins s σ H _ _ v us Q I rx rs ⟨q, vs, w, rfl, rfl, h1, by rw [h2.length]; exact hw, post ρ _ _ ex (st.write hq ⟨_, upd_same, h2.dropLast.ext ex⟩) (rw'.ext ex)⟩
      · exact post.elim
    · exact post.elim
  · exact post.elim
theorem lst_read {K : PySem.W.Frag} {ρ : Pl} {H : Hp} {S : Store} {v : Val} {w : V} {xs : List Val} (st : StOk K ρ H S) (r : RV K ρ H v w) (h : lstOf S v = some xs) :
    ∃ p ws, w = .ref p ∧ RVs K ρ H xs ws ∧ H p = some (.lst ws) := by
  cases v with
  | lst ys =>
    simp only [lstOf, Option.some.injEq] at h
    subst h
    obtain ⟨p, ws, rfl, h1, h2⟩ := r.lst_inv
    exact ⟨p, ws, rfl, h2, h1.1⟩
  | ref n =>
    simp only [lstOf] at h
    obtain ⟨p, hp, rfl⟩ := r.ref_inv
    split at h
    · rename_i ys q
      cases h
      obtain ⟨p', hp', rc⟩ := st.cell n _ q
      rw [hp] at hp'; cases hp'
      obtain ⟨ws, h1, h2⟩ := rc
      exact ⟨p, ws, rfl, h2, h1⟩
    · cases h
  | _ => simp [lstOf] at h
end
end Gx
end
section
set_option maxHeartbeats 1000000
namespace Gx
open PySem PySem.Spec PyProof.Rows L2
section
variable {X : Cx} {W : XW} {e o a b i k : Expr} {es : List Expr} {x y : Str} {aa : A} {d da db dk dd : E} {id T : String} {pos p apos cpos p2 : Pos}
theorem df_list (hg : Gl X "list") (hm : X.mg "list" = none) (ha : DE X W e d) (hs : starEach [e] X.env = (false, eval e X.env) :: starEach [] X.env := by rfl) : DF X W (.Call (.Name "list" p) [e] [] pos) (fList d) := by
  refine ⟨PE.weak (pe_callTy call_list_of hg hm boot_list (pa_cons ha.pe pa_nil hs) (by decide) (by decide) hs) fun σ H Q h => ?_⟩
  obtain ⟨ρ, S, L, sim, h⟩ := h
  refine ⟨ρ, S, L, sim, Post.bind (Rel' := RVs X.K) h fun v S1 ρ1 H1 w _ e1 s1 r1 h1 => ?_⟩
  split at h1
  · rename_i kk ys q
    obtain ⟨p, vs, rfl, r2, l1⟩ := seq_read s1 r1 q
    exact ⟨p, vs, rfl, seq_either l1, fun l hl => h1 ρ1 H1 vs Ext.refl s1 r2 l hl⟩
  · exact h1.elim
theorem df_cat (ha : DE X W a da) (hb : DE X W b db) : DF X W (.BinOp a .Add b pos) (fCat da db) := by
  refine ⟨PE.weak (pe_op op_cat ha.pe hb.pe) fun σ H Q h => ?_⟩
  obtain ⟨ρ, S, L, sim, h⟩ := h
  refine two sim h fun x y S2 ρ2 H2 wx wy e2 s2 rx ry h2 => ?_
  split at h2
  · rename_i xs ys q1 q2
    obtain ⟨p1, v1, rfl, r1, l1⟩ := lst_read s2 rx q1
    obtain ⟨p3, v3, rfl, r3, l3⟩ := lst_read s2 ry q2
    split at h2
    · rename_i hz
      exact ⟨p1, p3, v1, v3, rfl, rfl, l1, l3, by rw [r1.length, r3.length]; exact hz, fun p hp => h2 ρ2 H2 _ Ext.refl s2 (r1.append r3) p hp⟩
    · exact h2.elim
  · exact h2.elim
def lPairs (K : PySem.W.Frag) (W : XW) : List (E × E) → List (TE × TE)
  | [] => []
  | (k, v) :: r => (lE K W k, lE K W v) :: lPairs K W r
def pOf : List (E × E) → Gx.P
  | [] => pNil
  | (k, v) :: r => pCons k v (pOf r)
structure DPs (X : Cx) (W : XW) (pos : Pos) (keys : List (Option Expr)) (values : List Expr) (ds : List (E × E)) : Prop where
  pps : PPs X pos keys values (lPairs X.K W ds)
theorem dps_nil : DPs X W pos [] [] [] := ⟨pps_nil⟩
theorem dps_cons {kk v : Expr} {ks : List (Option Expr)} {vs : List Expr} {dk dv : E} {ds : List (E × E)} (hk : DE X W kk dk) (hv : DE X W v dv) (hr : DPs X W pos ks vs ds) : DPs X W pos (some kk :: ks) (v :: vs) ((dk, dv) :: ds) := ⟨pps_cons hk.pe hv.pe hr.pps⟩
def RVP (K : PySem.W.Frag) (ρ : Pl) (H : Hp) : List (Val × Val) → List (V × V) → Prop
  | [], ws => ws = []
  | (k, x) :: xs, ws => ∃ u w r, ws = (u, w) :: r ∧ RV K ρ H k u ∧ RV K ρ H x w ∧ RVP K ρ H xs r
theorem pairs_lift {K : PySem.W.Frag} {σ : L2.St} : ∀ {ds : List (E × E)} {ρ : Pl} {H : Hp} {S : Store} {L : Loc} {Q : List (V × V) → Hp → Prop}, Sim K ρ H L S σ → Post K W (RVP K) ρ H σ (pOf ds L S) Q → tPairs (lPairs K W ds) σ H Q
  | [], ρ, H, S, L, Q, sim, h => h ρ H [] Ext.refl sim.st rfl
  | (dk, dv) :: ds, ρ, H, S, L, Q, sim, h => by
    refine two sim h fun x y S2 ρ2 H2 wx wy e2 s2 rx ry h2 => ?_
    refine pairs_lift (sim.next e2 s2) (Post.bind (Rel' := RVP K) h2 fun ps S3 ρ3 H3 ws _ e3 s3 r3 h3 => ?_)
    exact h3 ρ3 H3 _ Ext.refl s3 ⟨wx, wy, ws, rfl, rx.ext e3, ry.ext e3, r3⟩
theorem keys_rvp {K : PySem.W.Frag} {ρ : Pl} {H : Hp} : ∀ {ps : List (Val × Val)} {kvs : List (Key × Val)} {ws : List (V × V)}, keysOf ps = some kvs → RVP K ρ H ps ws → ∃ us : List (Key × V), ws = us.map (fun kv => (kV kv.1, kv.2)) ∧ RVK K ρ H kvs us
  | [], kvs, ws, e, h => by
    simp only [keysOf, Option.some.injEq] at e
    subst e
    have h : ws = [] := h
    subst h
    exact ⟨[], rfl, by unfold RVK; rfl⟩
  | (k, v) :: r, kvs, ws, e, h => by
    obtain ⟨u, w, rr, rfl, h1, h2, h3⟩ := h
    unfold keysOf at e
    split at e
    · rename_i kk rk e1 e2
      cases e
      obtain ⟨us, rfl, h4⟩ := keys_rvp e2 h3
      refine ⟨(kk, w) :: us, by rw [key_rv h1 e1]; rfl, ?_⟩
      unfold RVK
      exact ⟨w, us, rfl, h2, h4⟩
    · cases e
theorem RVK.merge {K : PySem.W.Frag} {ρ : Pl} {H : Hp} : ∀ {more : List (Key × Val)} {us : List (Key × V)} {kvs : List (Key × Val)} {ws : List (Key × V)}, RVK K ρ H more us → RVK K ρ H kvs ws → RVK K ρ H (mergeV kvs more) (mergeK ws us)
  | [], us, kvs, ws, h, g => by unfold RVK at h; subst h; exact g
  | (k, v) :: r, us, kvs, ws, h, g => by
    unfold RVK at h
    obtain ⟨w, rr, rfl, h1, h2⟩ := h
    exact RVK.merge (kvs := putV kvs k v) (ws := putK ws k w) h2 (RVK.put h1 g)
theorem let_go {K : PySem.W.Frag} {ρ1 ρ2 : Pl} {H1 H2 : Hp} {D : Addr} {S1 S2 : Store} {o : HO} (s1 : StOk K ρ1 H1 S1) (hD : H1 D = none) (e2 : ExtB ρ1 H1 ρ2 H2) (m2 : ρ2.m = D :: ρ1.m) (s2 : StOk K ρ2 H2 S2) (hD2 : H2 D = some o) (hn : Mut (some o)) :
    ∃ H0 : Hp, H0 D = none ∧ (∀ u, upd H0 D u = upd H2 D u) ∧ Ext ρ1 H1 ⟨ρ2.c, ρ1.m⟩ H0 ∧ StOk K ⟨ρ2.c, ρ1.m⟩ H0 S2 ∧ (∀ x w, RV K ρ2 H2 x w → RV K ⟨ρ2.c, ρ1.m⟩ H0 x w) ∧ ∀ xs ws, RVK K ρ2 H2 xs ws → RVK K ⟨ρ2.c, ρ1.m⟩ H0 xs ws := by
  have hDm : D ∈ ρ2.m := by rw [m2]; exact List.mem_cons_self
  have hDc : D ∉ ρ2.c := (s2.bz D hDm).2
  have nd : ∀ {a : Addr} {u : HO}, H2 a = some u → ¬ Mut (some u) → a ≠ D := fun q nm z => by subst z; rw [hD2] at q; cases q; exact nm hn
  have fz : ∀ a u, Fz ρ2 H2 a u → Fz ⟨ρ2.c, ρ1.m⟩ (fun a => if a = D then none else H2 a) a u := fun a u q => by
    rcases q with ⟨o, q⟩ | ⟨q, q1, q2⟩
    · exact .inl ⟨o, (if_neg (nd q (by intro z; exact z))).trans q⟩
    · exact .inr ⟨(if_neg fun z => q2 (by rw [z]; exact hDm)).trans q, q1, fun z => q2 (by rw [m2]; exact List.mem_cons_of_mem _ z)⟩
  have fu : ∀ a u, Fu ρ2 H2 a u → Fu ⟨ρ2.c, ρ1.m⟩ (fun a => if a = D then none else H2 a) a u := fun a u ⟨q, q1, q2⟩ =>
    ⟨(if_neg fun z => q2 (by rw [z]; exact hDm)).trans q, q1, fun z => q2 (by rw [m2]; exact List.mem_cons_of_mem _ z)⟩
  have sq : ∀ a us, SqT K H2 a us → SqT K (fun a => if a = D then none else H2 a) a us := fun a us q => by
    rcases q with (q | ⟨b, q⟩) | q
    · exact .inl (.inl ((if_neg (nd q (by intro z; exact z))).trans q))
    · exact .inl (.inr ⟨b, (if_neg (nd q (by intro z; exact z))).trans q⟩)
    · exact .inr q
  have ne1 : ∀ a o, H1 a = some o → a ≠ D := fun a o q => ne_of_none q hD
  refine ⟨fun a => if a = D then none else H2 a, if_pos rfl, fun u => ?_, .mk' e2.pre rfl (fun a o q k => (if_neg (ne1 a o q)).trans (e2.fix a o q k)) e2.new (fun a q => ?_),
    s2.map fz fu sq rfl (fun a ha => if_neg fun (z : a = D) => hDc (by rw [← z]; exact ha)) (fun a ha => ?_), fun x w h => h.map fz fu sq rfl, fun xs ws h => h.map fz fu sq rfl⟩
  · funext a
    by_cases ea : a = D
    · rw [ea, upd_same, upd_same]
    · rw [upd_ne ea, upd_ne ea]; exact if_neg ea
  · by_cases ea : a = D
    · rw [ea]; exact hD
    · rw [if_neg ea] at q; exact e2.live a q
  · obtain ⟨⟨o, ho⟩, hn⟩ := s2.bz a (by rw [m2]; exact List.mem_cons_of_mem _ ha)
    obtain ⟨⟨o1, ho1⟩, _⟩ := s1.bz a ha
    exact ⟨⟨o, (if_neg (ne1 a o1 ho1)).trans ho⟩, hn⟩
theorem start_busy {K : PySem.W.Frag} {ρ : Pl} {H : Hp} {D : Addr} {S : Store} {L : Loc} {σ : L2.St} {o : HO} (sim : Sim K ρ H L S σ) (hD : H D = none) : Sim K ⟨ρ.c, D :: ρ.m⟩ (upd H D o) L S σ := by
  have a : StOk K ρ (upd H D o) S := sim.st.new hD
  refine ⟨⟨a.len, a.nd, fun b hb => ?_, fun n c hn => ?_⟩, ⟨sim.loc.1, fun i v q => ?_⟩⟩
  · rcases List.mem_cons.mp hb with z | z
    · subst z; exact ⟨⟨_, upd_same⟩, sim.st.fresh hD⟩
    · exact a.bz b z
  · obtain ⟨p, hp, rc⟩ := sim.st.cell n c hn
    exact ⟨p, hp, RC.map (fun a u q => (ext_busy hD).fz q) (fun a u q => (ext_busy hD).fu q) (fun a ws q => (ext_busy (ρ := ρ) hD).sqt q) rfl (upd_ne fun z => sim.st.fresh hD (z ▸ List.mem_of_getElem? hp)) rc⟩
  · obtain ⟨w, q1, q2⟩ := sim.loc.2 i v q
    exact ⟨w, q1, q2.extB (ext_busy hD)⟩
theorem de_dict {keys : List (Option Expr)} {values : List Expr} {ds : List (E × E)} (m : Bool) (h : DPs X W pos keys values ds) (hall : keys.all (·.isSome) = true) (hl : keys.length = values.length) (h0 : keys ≠ []) (h15 : keys.length ≤ 15) : DE X W (.Dict keys values pos) (eDict m (pOf ds)) := by
  refine ⟨PE.weak (pe_disp h.pps hall hl h0 h15) fun σ H Q h => ?_⟩
  obtain ⟨ρ, S, L, sim, h⟩ := h
  intro D hD
  have sim1 : Sim X.K ⟨ρ.c, D :: ρ.m⟩ (upd H D (.dK [])) L S σ := start_busy sim hD
  have eb : ExtB ρ H ⟨ρ.c, D :: ρ.m⟩ (upd H D (.dK [])) := ext_busy hD
  refine pairs_lift sim1 ?_
  unfold eDict at h
  cases q : pOf ds L S with
  | bad => rw [q] at h; exact h.elim
  | exn y S1 => rw [q] at h; exact h.elim
  | ok ps S1 =>
    rw [q] at h
    simp only [calm, R.bind_ok] at h
    intro ρ2 H2 ws e2 s2 rp
    have hD2 : H2 D = some (.dK []) := e2.fix D _ upd_same (.inl (sim1.st.bz D (List.mem_cons_self)).2)
    refine ⟨hD2, ?_⟩
    split at h
    · rename_i kvs ek
      split at h
      · rename_i hz
        obtain ⟨us, rfl, rk⟩ := keys_rvp ek rp
        obtain ⟨H0, g0, g1, g2, g3, g4, g5⟩ := let_go sim.st hD (eb.trans e2.toExtB) e2.eqm s2 hD2 trivial
        refine ⟨us, rfl, by rw [rk.len]; exact hz, ?_⟩
        rw [← g1]
        have rm : RVK X.K ⟨ρ2.c, ρ.m⟩ H0 (mergeV [] kvs) (mergeK [] us) := RVK.merge (g5 _ _ rk) (by unfold RVK; rfl)
        cases m with
        | true =>
          rw [if_pos rfl] at h
          refine h _ _ _ (g2.trans (ext_cell g0)) (g3.alloc g0 ⟨_, upd_same, rm.ext (ext_cell g0)⟩) ?_
          unfold RV
          exact ⟨D, by show (ρ2.c ++ [D])[S1.length]? = some D; rw [show S1.length = ρ2.c.length from g3.len.symm, List.getElem?_concat_length], rfl⟩
        | false =>
          rw [if_neg (by simp)] at h
          refine h _ _ _ (g2.trans (ext_new g0)) (g3.new g0) ?_
          unfold RV
          exact ⟨D, _, rfl, .inr (fz_new g3 g0), rm.ext (ext_new g0)⟩
      · exact h.elim
    · exact h.elim
end
end Gx
end
section
set_option maxHeartbeats 1000000
namespace Gx
open PySem PySem.Spec PyProof.Rows L2
def pdKey : L2.Key → PyData
  | .inl i => .int i
  | .inr x => .str x
mutual
def pdV (r : Nat → Option PyData) : Val → Option PyData
  | .non => some .none
  | .bl b => some (.bool b)
  | .int i => some (.int i)
  | .str s => some (.str s)
  | .ty _ => none
  | .gl _ => none
  | .tup xs => (pdVs r xs).map .tuple
  | .lst xs => (pdVs r xs).map .list
  | .frz xs => (pdVs r xs).map .list
  | .ptp xs => (pdVs r xs).map .tuple
  | .dct kvs => (pdVK r kvs).map .dict
  | .dtt _ => none
  | .obj _ _ => none
  | .ref n => r n
def pdVs (r : Nat → Option PyData) : List Val → Option (List PyData)
  | [] => some []
  | x :: xs => (pdV r x).bind fun y => (pdVs r xs).map (y :: ·)
def pdVK (r : Nat → Option PyData) : List (L2.Key × Val) → Option (List (PyData × PyData))
  | [] => some []
  | (k, x) :: xs => (pdV r x).bind fun y => (pdVK r xs).map ((pdKey k, y) :: ·)
end
def pdR (S : Store) : Nat → Nat → Option PyData
  | 0, _ => none
  | k + 1, n => match S[n]? with
    | some (.lst xs) => (pdVs (pdR S k) xs).map .list
    | some (.dct kvs) => (pdVK (pdR S k) kvs).map .dict
    | _ => none
def bRepr : FV := fun xs S => match xs with
  | [v] => match pdV (pdR S 8) v with
    | some d => if d.showable = true ∧ d.depth ≤ 100 ∧ d.shown.length ≤ sizeLine then .ok (.str d.shown) S else .bad
    | none => .bad
  | _ => .bad

def SysB (base : Heap) : Prop := ∃ m, base.Ns sysModules m
section
variable {X : Cx} {pins : List (Addr × Obj)} {σ : L2.St} {H : Hp} {s : Shared} {ρ : Pl} {S : Store}
def RdAs (s : Shared) (w : V) (d : PyData) : Prop := ∀ u, RelV w u → ∃ as, Reads s.heap u d as ∧ sysModules ∉ as
def RdAll (s : Shared) (ws : List V) (ds : List PyData) : Prop := ∀ us, Vals ws us → ∃ as, ReadsAll s.heap us ds as ∧ sysModules ∉ as
theorem rd_list (I : Inv X pins σ H s) (hM : SysB X.base) {a : Addr} {ws : List V} {ds : List PyData} (h : SqL X.K H a ws) (hr : RdAll s ws ds) : RdAs s (.ref a) (.list ds) := fun u ru => by
  obtain rfl : u = Value.ref a := ru
  obtain ⟨its, r, ⟨o, n, e1, e2, e3, e4⟩, _⟩ := I.list h
  obtain ⟨as, q1, q2⟩ := hr _ r
  have ne : a ≠ sysModules := by
    rintro rfl
    obtain ⟨m, o', es, ep, ho, hd, _⟩ := hM
    have q := (I.bs _ _ ho).1
    rw [e1] at q; cases q
    rw [e4] at hd; cases hd
  exact ⟨a :: as, .list e1 e2 e4 (by simpa using q1), fun z => by rcases List.mem_cons.mp z with z | z; exact ne z.symm; exact q2 z⟩
theorem rd_tuple (I : Inv X pins σ H s) {a : Addr} {ws : List V} {ds : List PyData} (h : SqT X.K H a ws) (hr : RdAll s ws ds) : RdAs s (.ref a) (.tuple ds) := fun u ru => by
  obtain rfl : u = Value.ref a := ru
  obtain ⟨its, r, ⟨o, e1, e2, n, e4⟩, _⟩ := I.tuple h
  obtain ⟨as, q1, q2⟩ := hr _ r
  exact ⟨as, .tuple e1 e2 e4 (by simpa using q1), q2⟩
theorem reads_keys {P : Program} {w : World} {h : Heap} : ∀ {es : List DictEntry} {kvs : List (Key × Value)}, Pairs (mixKind P w) es kvs → ReadsAll h (es.map (·.key)) (kvs.map fun kv => pdKey kv.1) []
  | _, _, .nil => .nil
  | _, _, .cons (e := e) (kv := kv) h1 h2 h3 => by
    have : Reads h e.key (pdKey kv.1) [] := by
      rcases keyIs_shape h1 with ⟨i, t, e1, e2⟩ | ⟨x, t, e1, e2⟩
      · rw [e1, e2]; exact .int i t
      · rw [e1, e2]; exact .str x t
    simpa using ReadsAll.cons this (reads_keys h3)
theorem pairs_vals {P : Program} {w : World} : ∀ {es : List DictEntry} {kvs : List (Key × Value)}, Pairs (mixKind P w) es kvs → es.map (·.val) = kvs.map (·.2)
  | _, _, .nil => rfl
  | _, _, .cons h1 h2 h3 => by simp only [List.map_cons, h2, pairs_vals h3]
theorem kv_vals : ∀ {ws : List (Key × V)} {vs : List (Key × Value)}, KV ws vs → Vals (ws.map (·.2)) (vs.map (·.2)) ∧ ws.map (·.1) = vs.map (·.1)
  | _, _, .nil => ⟨.nil, rfl⟩
  | _, _, .cons h t => ⟨.cons h.2 (kv_vals t).1, by simp only [List.map_cons, h.1, (kv_vals t).2]⟩
theorem rd_dict (I : Inv X pins σ H s) {a : Addr} {ws : List (Key × V)} {ds : List (PyData × PyData)} (h : Rd H a (.dK ws)) (hk : ds.map (·.1) = ws.map fun kv => pdKey kv.1) (hr : RdAll s (ws.map (·.2)) (ds.map (·.2))) : RdAs s (.ref a) (.dict ds) := fun u ru => by
  obtain rfl : u = Value.ref a := ru
  obtain ⟨_, hd, vs, kv, o, es, ep, e1, e2, e3, e4, e5, e6⟩ := dk_rd I.hok h
  obtain ⟨r1, r2⟩ := kv_vals kv
  obtain ⟨as, q1, q2⟩ := hr _ r1
  refine ⟨a :: [] ++ as, .dict e1 e2.1 e3 ?_ ?_, fun z => ?_⟩
  · have := reads_keys (h := s.heap) e5
    rw [hk]
    have e : (ws.map fun kv => pdKey kv.1) = vs.map fun kv => pdKey kv.1 := by
      have := congrArg (List.map pdKey) r2
      simpa only [List.map_map, Function.comp_def] using this
    rw [e]
    simpa using this
  · rw [← pairs_vals e5] at q1
    simpa using q1
  · rcases List.mem_cons.mp z with z | z
    · subst z; simp at hd
    · exact q2 z
mutual
theorem pd_reads (I : Inv X pins σ H s) (hM : SysB X.base) {r : Nat → Option PyData} (hr : ∀ n d a, r n = some d → ρ.c[n]? = some a → RdAs s (.ref a) d) : ∀ {v : Val} {w : V} {d : PyData}, RV X.K ρ H v w → pdV r v = some d → RdAs s w d
  | .non, w, d, h, e => by
    simp only [pdV, Option.some.injEq] at e; subst e
    obtain rfl := h.non_inv
    intro u ru; obtain rfl : u = Value.none := ru
    exact ⟨[], .none, by simp⟩
  | .bl b, w, d, h, e => by
    simp only [pdV, Option.some.injEq] at e; subst e
    obtain rfl := h.bl_inv
    intro u ru; obtain rfl : u = Value.bool b := ru
    exact ⟨[], .bool b, by simp⟩
  | .int i, w, d, h, e => by
    simp only [pdV, Option.some.injEq] at e; subst e
    obtain rfl := h.int_inv
    intro u ru; obtain ⟨t, rfl⟩ := ru
    exact ⟨[], .int i t, by simp⟩
  | .str x, w, d, h, e => by
    simp only [pdV, Option.some.injEq] at e; subst e
    obtain rfl := h.str_inv
    intro u ru; obtain ⟨t, rfl⟩ := ru
    exact ⟨[], .str x t, by simp⟩
  | .ty _, w, d, h, e => by simp only [pdV] at e; cases e
  | .gl _, w, d, h, e => by simp only [pdV] at e; cases e
  | .obj _ _, w, d, h, e => by simp only [pdV] at e; cases e
  | .dtt _, w, d, h, e => by simp only [pdV] at e; cases e
  | .tup xs, w, d, h, e => by
    simp only [pdV, Option.map_eq_some_iff] at e
    obtain ⟨ds, e, rfl⟩ := e
    obtain ⟨a, ws, rfl, h1, h2⟩ := h.tup_inv
    exact rd_tuple I h1 (pds_reads I hM hr h2 e)
  | .ptp xs, w, d, h, e => by
    simp only [pdV, Option.map_eq_some_iff] at e
    obtain ⟨ds, e, rfl⟩ := e
    obtain ⟨a, ws, rfl, h1, h2⟩ := h.ptp_tup.tup_inv
    exact rd_tuple I h1 (pds_reads I hM hr h2 e)
  | .lst xs, w, d, h, e => by
    simp only [pdV, Option.map_eq_some_iff] at e
    obtain ⟨ds, e, rfl⟩ := e
    obtain ⟨a, ws, rfl, h1, h2⟩ := h.lst_inv
    exact rd_list I hM (.inl (.inl h1.1)) (pds_reads I hM hr h2 e)
  | .frz xs, w, d, h, e => by
    simp only [pdV, Option.map_eq_some_iff] at e
    obtain ⟨ds, e, rfl⟩ := e
    obtain ⟨a, ws, rfl, h1, h2⟩ := h.frz_inv
    exact rd_list I hM h1.sqL (pds_reads I hM hr h2 e)
  | .dct kvs, w, d, h, e => by
    simp only [pdV, Option.map_eq_some_iff] at e
    obtain ⟨ds, e, rfl⟩ := e
    unfold RV at h
    obtain ⟨a, ws, rfl, h1, h2⟩ := h
    obtain ⟨k1, k2⟩ := pdk_reads I hM hr h2 e
    exact rd_dict I (h1.imp id (·.1) |>.symm) k1 k2
  | .ref n, w, d, h, e => by
    simp only [pdV] at e
    obtain ⟨a, h1, rfl⟩ := h.ref_inv
    exact hr n d a e h1
theorem pds_reads (I : Inv X pins σ H s) (hM : SysB X.base) {r : Nat → Option PyData} (hr : ∀ n d a, r n = some d → ρ.c[n]? = some a → RdAs s (.ref a) d) : ∀ {v : List Val} {w : List V} {d : List PyData}, RVs X.K ρ H v w → pdVs r v = some d → RdAll s w d
  | [], w, d, h, e => by
    simp only [pdVs, Option.some.injEq] at e; subst e
    unfold RVs at h; subst h
    intro us r; cases r
    exact ⟨[], .nil, by simp⟩
  | x :: xs, w, d, h, e => by
    simp only [pdVs, Option.bind_eq_some_iff, Option.map_eq_some_iff] at e
    obtain ⟨y, e1, ys, e2, rfl⟩ := e
    obtain ⟨u, ws, rfl, h1, h2⟩ := h.inv
    intro us r
    cases r with
    | cons r1 r2 =>
      obtain ⟨as, q1, q2⟩ := pd_reads I hM hr h1 e1 _ r1
      obtain ⟨bs, q3, q4⟩ := pds_reads I hM hr h2 e2 _ r2
      exact ⟨as ++ bs, .cons q1 q3, by simp [q2, q4]⟩
theorem pdk_reads (I : Inv X pins σ H s) (hM : SysB X.base) {r : Nat → Option PyData} (hr : ∀ n d a, r n = some d → ρ.c[n]? = some a → RdAs s (.ref a) d) : ∀ {v : List (Key × Val)} {w : List (Key × V)} {d : List (PyData × PyData)}, RVK X.K ρ H v w → pdVK r v = some d → (d.map (·.1) = w.map fun kv => pdKey kv.1) ∧ RdAll s (w.map (·.2)) (d.map (·.2))
  | [], w, d, h, e => by
    simp only [pdVK, Option.some.injEq] at e; subst e
    unfold RVK at h; subst h
    refine ⟨rfl, fun us r => ?_⟩
    cases r
    exact ⟨[], .nil, by simp⟩
  | (k, x) :: xs, w, d, h, e => by
    simp only [pdVK, Option.bind_eq_some_iff, Option.map_eq_some_iff] at e
    obtain ⟨y, e1, ys, e2, rfl⟩ := e
    unfold RVK at h
    obtain ⟨u, ws, rfl, h1, h2⟩ := h
    obtain ⟨k1, k2⟩ := pdk_reads I hM hr h2 e2
    refine ⟨by simp only [List.map_cons, k1], fun us r => ?_⟩
    cases r with
    | cons r1 r2 =>
      obtain ⟨as, q1, q2⟩ := pd_reads I hM hr h1 e1 _ r1
      obtain ⟨bs, q3, q4⟩ := k2 _ r2
      exact ⟨as ++ bs, .cons q1 q3, by simp [q2, q4]⟩
end
theorem pdr_reads (I : Inv X pins σ H s) (hM : SysB X.base) (st : StOk X.K ρ H S) : ∀ (k n : Nat) (d : PyData) (a : Addr), pdR S k n = some d → ρ.c[n]? = some a → RdAs s (.ref a) d
  | 0, n, d, a, e, _ => by unfold pdR at e; cases e
  | k + 1, n, d, a, e, h => by
    unfold pdR at e
    split at e
    · rename_i xs q
      obtain ⟨a', ha, ws, h1, h2⟩ := st.cell n _ q
      rw [h] at ha; cases ha
      simp only [Option.map_eq_some_iff] at e
      obtain ⟨ds, e, rfl⟩ := e
      exact rd_list I hM (.inl (.inl h1)) (pds_reads I hM (pdr_reads I hM st k) h2 e)
    · rename_i xs q
      obtain ⟨a', ha, ws, h1, h2⟩ := st.cell n _ q
      rw [h] at ha; cases ha
      simp only [Option.map_eq_some_iff] at e
      obtain ⟨ds, e, rfl⟩ := e
      obtain ⟨k1, k2⟩ := pdk_reads I hM (pdr_reads I hM st k) h2 e
      exact rd_dict I (.inl h1) k1 k2
    · cases e
end
theorem repr_leaf {X : Cx} {pins : List (Addr × Obj)} {σ : L2.St} {H : Hp} {s : Shared} {Q : VK} {d : PyData} {u : Value} {as : List Addr} (I : Inv X pins σ H s) (hg : X.A.guards = some []) (hu : X.A.units + 128 < cLine) (r : Reads s.heap u d as) (hM : sysModules ∉ as)
    (hs : d.showable = true) (hd : d.depth ≤ 100) (hz : d.shown.length ≤ sizeLine) (h : Q (.str d.shown) H) : wpAny (model X.prog X.w) X.A (call (.builtin "repr") [u]) (EP X pins σ Q) X.xe s := by
  have fin : ∀ h' u tk, (∀ b o, s.heap.get? b = some o → h'.get? b = some o) → EP X pins σ Q (.str d.shown u) { s with heap := h', toks := tk } := fun h' u tk k => ⟨.str d.shown, H, I.kept k, ⟨_, rfl⟩, h⟩
  have fin1 : ∀ d' : PyData, d'.shown = d.shown → EP X pins σ Q (.str d'.shown s.toks) { s with toks := s.toks + 1 } := fun d' e => by rw [e]; exact fin s.heap _ _ fun _ _ e => e
  cases r with
  | none => exact PySem.P.repr_of_none (by simpa [PyData.shown] using fin1 .none rfl)
  | bool b => exact PySem.P.repr_of_bool (by simpa [PyData.shown] using fin1 (.bool b) rfl)
  | int i t => exact PySem.P.repr_of_int (by simpa [PyData.showable] using hs) (by simpa [PyData.shown] using fin1 (.int i) rfl)
  | str x t => exact PySem.P.repr_of_str (by simpa [PyData.shown] using fin1 (.str x) rfl) (by simpa [PyData.shown] using hz)
  | list h1 h2 h3 h4 => exact repr_of_reads' (.list h1 h2 h3 h4) hs (fun _ => hM) hg (by omega) (fun _ _ e => e) fin hz
  | tuple h1 h2 h3 h4 => exact repr_of_reads' (.tuple h1 h2 h3 h4) hs (fun _ => hM) hg (by omega) (fun _ _ e => e) fin hz
  | dict h1 h2 h3 h4 h5 => exact repr_of_reads' (.dict h1 h2 h3 h4 h5) hs (fun _ => hM) hg (by omega) (fun _ _ e => e) fin hz
theorem cd_repr {X : Cx} {W : XW} (hg : X.A.guards = some []) (hu : X.A.units + 128 < cLine) (hM : SysB X.base) : CallR X (.builtin "repr") (lC X.K W bRepr) := by
  intro pins s σ H ws us Q I r h
  obtain ⟨σ', ρ, S, xs, st, rv, post⟩ := h
  unfold bRepr at post
  split at post
  · rename_i v
    obtain ⟨w, rfl, rw'⟩ := rvs1 rv
    split at post
    · rename_i d e
      split at post
      · rename_i hz
        obtain ⟨u, rfl, ru⟩ := vals1 r
        obtain ⟨as, q1, q2⟩ := pd_reads I hM (pdr_reads I hM st 8) rw' e u ru
        exact repr_leaf I hg hu q1 q2 hz.1 hz.2.1 hz.2.2 (post ρ H _ Ext.refl st (.mk_str _))
      · exact post.elim
    · exact post.elim
  · exact post.elim
end Gx
end
section
set_option maxHeartbeats 1000000
namespace Gx
open PySem PySem.Spec PyProof.Rows L2
structure GFn (P : Program) (w : World) (K : PySem.W.Frag) (mg : Str → Option Value) (base : Heap) (CX : CXT) (k : Nat) (f : Addr) (fd : FuncData) (ps : List Str) (sp : Sp) : Prop where
  len : ∀ vs H Q E, sp vs H Q E → vs.length = ps.length
  run : ∀ (A : Around) (outer : List Env) (s : Shared) (H : Hp) (args : Args) (us : List Value) (vs : List V) (Q : VK) (E : XK), A.guards = some [] → Room k A → Env0 P w K mg base A outer s H → BindsTo s fd args (ps.zip us) → Vals vs us → sp vs H Q E →
    codeAny (model P w) A (.call (.ref f) args) (CR CX outer P w H s Q E) s
section
variable {P : Program} {w : World} {K : PySem.W.Frag} {mg : Str → Option Value} {base : Heap} {CX : CXT}
theorem guards_deeper {A : Around} {env : Env} (h : A.guards = some []) : (A.deeper env).guards = some [] := by
  first | exact h | simpa [Around.deeper] using h
end
section
variable {X : Cx} {W : XW} {e o : Expr} {es : List Expr} {x m : Str} {f : F} {n k j : Nat} {aa : A} {d : E} {pos p apos : Pos}
end
theorem ns_sys {P : Program} {l : List Str} {mean : ExcName → Option Value} {mg mb : Str → Option Value} {h : Heap} (T : Top P l mean mg mb h) (hi : importsNone P = true) : SysB h := by
  obtain ⟨_, ⟨m, e, _⟩, _⟩ := T.seer hi
  exact ⟨m, e⟩
theorem ns_hid {h : Heap} {H : Hp} {a b : Addr} {vs : Array Value} {m : Str → Option Value} (ha : h.get? a = some { cls := .type "list", data := .seq vs }) (hA : ∀ b, H b ≠ none → b = a) (n : h.Ns b m) : (hidT h H).Ns b m := by
  obtain ⟨o, es, ep, e, d, r⟩ := n
  refine ⟨o, es, ep, hidT_get e ?_, d, r⟩
  cases q : H b with
  | none => rfl
  | some u =>
    have : b = a := hA b (by simp [q])
    subst this
    rw [ha] at e; cases e; cases d
theorem law_core {P : Program} {w : World} {K : PySem.W.Frag} {mg mb : Str → Option Value} {k : Nat} {fa a : Addr} {fd : FuncData} {x : Str} {sp : Sp} {s₁ : Shared} {vs : List Value} {H : Hp}
    (KX : K.In s₁.heap) (hns : s₁.heap.Ns mainGlobals mg) (hM : SysB s₁.heap) (hb : s₁.heap.Ns builtinsNs mb) (hbb : ∀ x : Str, x ≠ "__name__" → mb x = bootBuiltins x) (hlim : s₁.heap.NoLimit) (hg : s₁.gens = #[])
    (ha : s₁.heap.get? a = some { cls := .type "list", data := .seq vs.toArray }) (hr : Room k callerA)
    (F : ∀ base : Heap, K.In base → base.Ns mainGlobals mg → SysB base → GFn P w K mg base CX0 k fa fd [x] sp) (hbind : ∀ (s : Shared) (u : Value), BindsTo s fd ⟨[u], []⟩ [(x, u)])
    (hsp : sp [.ref a] H (fun v _ => v = .bl true) E0) (hO : Only H) (hok : HOk P w H s₁.heap) (hA : ∀ b, H b ≠ none → b = a) (hK : H a ≠ none → K.lookup a = none) :
    codeAny (model P w) callerA (.call (.ref fa) ⟨[.ref a], []⟩) (fun r s' => r = .ok (.ret (.bool true)) ∧ OldK s₁.heap s'.heap ∧ s'.os = s₁.os ∧ AllBare s'.gens) s₁ := by
  have nsH : ∀ {b : Addr} {m : Str → Option Value}, s₁.heap.Ns b m → (hidT s₁.heap H).Ns b m := fun n => ns_hid ha hA n
  have kin : K.In (hidT s₁.heap H) := fun b o e => by
    refine hidT_get (KX b o e) ?_
    by_cases z : H b = none
    · exact z
    · have := hA b z
      subst this
      rw [hK z] at e; cases e
  have lim : (hidT s₁.heap H).NoLimit := by obtain ⟨mc, h1, h2⟩ := hlim; exact ⟨mc, nsH h1, h2⟩
  have sys : SysB (hidT s₁.heap H) := by obtain ⟨m, n⟩ := hM; exact ⟨m, nsH n⟩
  have env : Env0 P w K mg (hidT s₁.heap H) callerA [] s₁ H := by
    refine ⟨rfl, ⟨kin, nsH hns, ⟨mb, nsH hb, hbb⟩, lim⟩, fun b o e => of_hidT e, Nat.le_of_eq (hidT_size _ _), trivial, ?_, hok, .of_eq hg⟩
    intro b z
    cases z
  have run := (F _ kin (nsH hns) sys).run callerA [] s₁ H ⟨[.ref a], []⟩ [.ref a] [.ref a] _ _ rfl hr env (hbind s₁ (.ref a)) (.cons rfl .nil) hsp
  refine codeAny_mono run fun r s' h => ?_
  match r, h with
  | .error e, h => exact h.elim
  | .ok .next, h => exact h.elim
  | .ok .brk, h => exact h.elim
  | .ok .cont, h => exact h.elim
  | .ok (.ret u), ⟨v, H', os, bare, un, hok', r', q⟩ =>
    have q' : v = .bl true := q
    subst q'
    obtain rfl : u = Value.bool true := r'
    refine ⟨rfl, OldK.of_keep fun b o e => ?_, os, bare⟩
    rcases hO b with z | ⟨ob, xs, z⟩
    · exact un.keep b o e z (by intro y; cases y) (by simp)
    · obtain ⟨e1, _⟩ := hok b _ z
      obtain ⟨e2, _⟩ := hok' b _ (un.frzs b ob _ z)
      rw [e] at e1; cases e1
      exact e2
theorem walkG {l : PySem.W.OpenLaw} {n k : Nat} {q : Program} {loose : List Str} {XP : (Str → Option Value) → Heap → Prop} {YP : World → Heap → Prop} {d : DefRec} {K : Params → PySem.W.Frag} {f : PySem.W.Frag → F} {x : Str}
    (hn : l.most = some n) (hn2 : n ≤ sizeLine) (hdf : d.params.defaults = []) (hr : Room k callerA) (hi : importsNone q = true)
    (hY : ∀ (w : World) (h : Heap), YP w h → (K w.params).In h)
    (F : ∀ (w : World) (mg : Str → Option Value) (fa : Addr) (h : Heap), (K w.params).In h → h.Ns mainGlobals mg → mg d.name = some (.ref fa) →
      ∃ fd : FuncData, (∀ (s : Shared) (u : Value), BindsTo s fd ⟨[u], []⟩ [(x, u)]) ∧
        ∀ base : Heap, (K w.params).In base → base.Ns mainGlobals mg → SysB base → GFn l.prog w (K w.params) mg base CX0 k fa fd [x] (fun vs H Q _ => spOf (K w.params) (f (K w.params)) 1 vs H Q E0))
    (law : ∀ (K : PySem.W.Frag) (ns : List Int), ns.length ≤ n → ∃ S, f K [.frz (ns.map .int)] [] = .ok (.bl true) S) :
    PySem.W.WalkO q loose XP YP l.row.toRowW d [] (fun f vs => PySem.call f vs) := by
  refine Att.attach_call hn hdf fun w s₀ s₁ mg mb fa o pm cd doc a vs ns G Y ho hd hcd hmg hobj hints hlen hg => ?_
  have KX := hY w _ Y
  obtain ⟨fd, hb, hF⟩ := F w mg fa _ KX G.T.g hmg
  have rv := vals_ints hints
  have lenV := hints.length
  obtain ⟨S, hS⟩ := law (K w.params) ns hlen
  have rvn : ∀ (ρ : Pl) (H : Hp) (ns : List Int), RVs (K w.params) ρ H (ns.map .int) (ns.map .int) := fun ρ H ns => by
    induction ns with
    | nil => exact .nil
    | cons n ns ih => exact .cons (by unfold RV; rfl) ih
  have sp : ∀ H : Hp, SqL (K w.params) H a (ns.map V.int) → (∀ u, H a = some u → ∃ o v, u = .frz o v) → spOf (K w.params) (f (K w.params)) 1 [.ref a] H (fun v _ => v = .bl true) E0 := fun H hl hz => by
    refine ⟨⟨[], []⟩, [], [.frz (ns.map .int)], ⟨rfl, List.nodup_nil, fun _ z => (nomatch z), fun _ _ z => (nomatch z)⟩, .cons ?_ .nil, rfl, ?_⟩
    · unfold RV
      refine ⟨a, _, rfl, ?_, rvn _ _ _⟩
      rcases hl with (z | z) | z
      · obtain ⟨_, _, e⟩ := hz _ z; cases e
      · exact .inl (.inl z)
      · exact .inr z
    · rw [hS]
      intro ρ' H' w' _ _ r
      exact r.bl_inv
  cases hk : (K w.params).lookup a with
  | some o =>
    have e := KX a o hk
    rw [hobj] at e
    cases e
    refine law_core KX G.T.g (ns_sys G.T hi) G.T.b G.T.builtins G.T.nolimit hg hobj hr hF hb (H := fun _ => none) (sp _ (.inr ⟨_, vs.toArray, _, hk, rfl, rfl, rfl, by rw [List.size_toArray, lenV]; omega, by simpa using rv⟩) fun u z => nomatch z) (fun _ => .inl rfl) (fun b u z => nomatch z) (fun b z => absurd rfl z) fun z => absurd rfl z
  | none =>
    refine law_core KX G.T.g (ns_sys G.T hi) G.T.b G.T.builtins G.T.nolimit hg hobj hr hF hb (H := fun b => if b = a then some (.frz { cls := .type "list", data := .seq vs.toArray } (.lst (ns.map V.int))) else none)
      (sp _ (.inl (.inr ⟨{ cls := .type "list", data := .seq vs.toArray }, if_pos rfl⟩)) fun u z => by simp at z; exact ⟨_, _, z.symm⟩) (fun b => ?_) (fun b u z => ?_) (fun b z => ?_) fun _ => hk
    · by_cases hb : b = a
      · exact .inr ⟨_, _, if_pos hb⟩
      · exact .inl (if_neg hb)
    · by_cases hb : b = a
      · subst hb
        simp only [if_true, Option.some.injEq] at z
        subst z
        exact ⟨hobj, by rw [List.length_map]; omega, vs, _, rv, hobj⟩
      · simp [hb] at z
    · by_cases hb : b = a
      · exact hb
      · simp [hb] at z
end Gx
end
section
set_option maxHeartbeats 1000000
namespace Gx
open PySem PySem.Spec PyProof.Rows L2
section
variable {X : Cx} {W : XW}
end
structure Isi (K : PySem.W.Frag) (Cs : List Addr) : Prop where
  cl : ∀ C ∈ Cs, Cls K C
  ha : ∀ C ∈ Cs, PySem.W.findIn K (.ref C) "__class__" = some (some (.builtin "object.__class__"))
  hm : ∀ C ∈ Cs, PySem.W.mroIn K C (.type "object") = some true
  hn : Cs ≠ [] → PySem.W.specialIn K (.builtin "object.__class__") "__get__" = some (some (.builtin "getset_descriptor.__get__"))
  ht : Cs ≠ [] → PySem.W.takesIn K (.builtin "object.__class__") = some true
  oo : ∀ C ∈ Cs, ∀ D ∈ Cs, PySem.W.kitOne K (.ref C) (.ref D) = some (decide (C = D))
  to : ∀ t ∈ tyNames, ∀ C ∈ Cs, PySem.W.kitOne K (.type t) (.ref C) = some false
  ot : ∀ C ∈ Cs, ∀ t ∈ tyNames, PySem.W.kitOne K (.ref C) (.type t) = some false
theorem kit_tab : ∀ t ∈ tyNames, ∀ n ∈ tyNames, kitB t n = some (decide (t = n) || (decide (t = "bool") && decide (n = "int"))) := by decide +kernel
def tyV : String ⊕ Addr → Value
  | .inl t => .type t
  | .inr C => .ref C
theorem ty_of {K : PySem.W.Frag} {ρ : Pl} {H : Hp} {S : Store} {Cs : List Addr} {v : Val} {w : V} {t : String ⊕ Addr} (T : Isi K Cs) (st : StOk K ρ H S) (r : RV K ρ H v w) (e : tyOf S v = some t) (hk : okTy Cs t = true) : TyX K H w (tyV t) := by
  have own : ∀ {a C dx : Addr} {fs : List (Str × V)}, H a = some (.ins C dx fs) → C ∈ Cs → TyX K H (.ref a) (.ref C) := fun q hC => .base (.ins q (T.cl _ hC) (T.ha _ hC) (T.hn (List.ne_nil_of_mem hC)) (T.ht (List.ne_nil_of_mem hC)) (T.hm _ hC))
  cases v with
  | non => simp only [tyOf, Option.some.injEq] at e; subst e; rw [r.non_inv]; exact .base .non
  | bl b => simp only [tyOf, Option.some.injEq] at e; subst e; rw [r.bl_inv]; exact .base (.bl b)
  | int i => simp only [tyOf, Option.some.injEq] at e; subst e; rw [r.int_inv]; exact .base (.int i)
  | str x => simp only [tyOf, Option.some.injEq] at e; subst e; rw [r.str_inv]; exact .base (.str x)
  | ty _ => simp [tyOf] at e
  | gl _ => simp [tyOf] at e
  | tup xs =>
    simp only [tyOf, Option.some.injEq] at e; subst e
    obtain ⟨a, ws, rfl, h1, _⟩ := r.tup_inv
    rcases h1 with (q | ⟨o, q⟩) | ⟨o, its, n, q, c, _⟩
    · exact .base (.tup q)
    · exact .fTuple q
    · exact .kTuple q c
  | ptp xs =>
    simp only [tyOf, Option.some.injEq] at e; subst e
    obtain ⟨a, ws, rfl, h1, _⟩ := r.ptp_tup.tup_inv
    rcases h1 with (q | ⟨o, q⟩) | ⟨o, its, n, q, c, _⟩
    · exact .base (.tup q)
    · exact .fTuple q
    · exact .kTuple q c
  | lst xs =>
    simp only [tyOf, Option.some.injEq] at e; subst e
    obtain ⟨a, ws, rfl, h1, _⟩ := r.lst_inv
    exact .base (.lst h1.1)
  | frz xs =>
    simp only [tyOf, Option.some.injEq] at e; subst e
    obtain ⟨a, ws, rfl, h1, _⟩ := r.frz_inv
    rcases h1 with (⟨o, q⟩ | ⟨q, _⟩) | ⟨o, its, n, q, c, _⟩
    · exact .base (.frz q)
    · exact .base (.lst q)
    · exact .kList q c
  | dct kvs =>
    simp only [tyOf, Option.some.injEq] at e; subst e
    unfold RV at r
    obtain ⟨a, ws, rfl, h1, _⟩ := r
    rcases h1 with ⟨o, q⟩ | ⟨q, _⟩
    · exact .fDict q
    · exact .base (.dK q)
  | dtt _ => simp [tyOf] at e
  | obj C fs =>
    simp only [tyOf, Option.some.injEq] at e; subst e
    unfold RV at r
    obtain ⟨a, dx, ws, rfl, h1, _⟩ := r
    exact own h1.1 (of_decide_eq_true hk)
  | ref n =>
    simp only [tyOf] at e
    obtain ⟨a, hp, rfl⟩ := r.ref_inv
    split at e
    · rename_i xs q
      cases e
      obtain ⟨a', ha', ws, h1, _⟩ := st.cell n _ q
      rw [hp] at ha'; cases ha'
      exact .base (.lst h1)
    · rename_i xs q
      cases e
      obtain ⟨a', ha', ws, h1, _⟩ := st.cell n _ q
      rw [hp] at ha'; cases ha'
      exact .base (.dK h1)
    · cases e
    · cases e
    · rename_i C xs q
      cases e
      obtain ⟨a', ha', dx, ws, h1, _⟩ := st.cell n _ q
      rw [hp] at ha'; cases ha'
      exact own h1 (of_decide_eq_true hk)
    · cases e
theorem cd_isi {X : Cx} {W : XW} {Cs : List Addr} (T : Isi X.K Cs) : CallR X (.builtin "isinstance") (lC X.K W (bIsi Cs)) := by
  intro pins s σ H ws us Q I r h
  obtain ⟨σ', ρ, S, xs, st, rv, post⟩ := h
  unfold bIsi at post
  split at post
  · rename_i x c
    obtain ⟨w1, w2, rfl, r1, r2⟩ : ∃ w1 w2, ws = [w1, w2] ∧ RV X.K ρ H x w1 ∧ RV X.K ρ H c w2 := by
      obtain ⟨w1, _, rfl, r1, t⟩ := rv.inv
      obtain ⟨w2, _, rfl, r2, t⟩ := t.inv
      have := RVs.nil_iff.mp t
      subst this
      exact ⟨w1, w2, rfl, r1, r2⟩
    split at post
    · rename_i t e
      split at post
      · rename_i hk
        rw [Bool.and_eq_true] at hk
        split at post
        · rename_i b eb
          have tx := ty_of T st r1 e hk.1
          have q := post ρ H _ Ext.refl st (.mk_bl _)
          cases c with
          | ty n =>
            have hn : n ∈ tyNames := by simpa [okCl] using hk.2
            have e2 : w2 = .ty n := by unfold RV at r2; exact r2
            subst e2
            cases t with
            | inl m =>
              have hm : m ∈ tyNames := by simpa [okTy] using hk.1
              simp only [isiV, Option.some.injEq] at eb
              subst eb
              exact call_isi pins s σ H _ us Q I r ⟨w1, _, _, _, _, rfl, .ty n, tx, kit_ty (kit_tab m hm n hn), q⟩
            | inr C =>
              have hC : C ∈ Cs := by simpa [okTy] using hk.1
              simp only [isiV, Option.some.injEq] at eb
              subst eb
              exact call_isi pins s σ H _ us Q I r ⟨w1, _, _, _, _, rfl, .ty n, tx, T.ot C hC n hn, q⟩
          | gl D =>
            have hD : D ∈ Cs := by simpa [okCl] using hk.2
            have e2 : w2 = .ref D := by unfold RV at r2; exact r2
            subst e2
            cases t with
            | inl m =>
              have hm : m ∈ tyNames := by simpa [okTy] using hk.1
              simp only [isiV, Option.some.injEq] at eb
              subst eb
              exact call_isi pins s σ H _ us Q I r ⟨w1, _, _, _, _, rfl, .own D, tx, T.to m hm D hD, q⟩
            | inr C =>
              have hC : C ∈ Cs := by simpa [okTy] using hk.1
              simp only [isiV, Option.some.injEq] at eb
              subst eb
              exact call_isi pins s σ H _ us Q I r ⟨w1, _, _, _, _, rfl, .own D, tx, T.oo C hC D hD, q⟩
          | _ => simp [okCl] at hk
        · exact post.elim
      · exact post.elim
    · exact post.elim
  · exact post.elim
theorem isi0 (K : PySem.W.Frag) : Isi K [] := ⟨by simp, by simp, by simp, by simp, by simp, by simp, by simp, by simp⟩
end Gx
end
section
set_option maxHeartbeats 1000000
namespace Gx
open PySem PySem.Spec PyProof.Rows L2
section
variable {prog : Program} {w : World} {A : Around} {E : Value → Shared → Prop} {s : Shared}
theorem meets_enum1 {v : Value} {o : Obj} {G : Heap → Prop} (B : Begins v o G) :
    Meets (Builtin.«enumerate.__new__» ⟨[.type "enumerate", v], []⟩) (fun _ R s => G s.heap ∧
      R (.ok (.ret (.ref (s.heap.push o).objs.size))) { s with heap := (s.heap.push o).push { cls := .type "enumerate", data := .fields #[.none, .bool false, .ref s.heap.objs.size, rawInt 0, .none, .none] } }) := by
  refine .of_wp fun P ww A1 R s hh => ?_
  obtain ⟨hp, gs, dr, tk, os⟩ := s
  obtain ⟨g1, fin⟩ := hh
  have sub := sub_enumerate
  have start : ∀ {A' : Around} {E : Value → Shared → Prop} {Q : Value → Shared → Prop}, Q (.ref hp.objs.size) ⟨hp.push o, gs, dr, tk, os⟩ → wpAny (model P ww) A' (pyIter v) Q E ⟨hp, gs, dr, tk, os⟩ :=
    fun q => B.iter P ww _ _ ⟨hp, gs, dr, tk, os⟩ _ g1 q
  wp_walk using start
  refine wpAny_stack_any fun sk => wpAny_pure ?_
  split
  · rename_i cc _ _ _ _ _
    cases (cc == Value.type "enumerate") <;> (wp_walk using start; exact ⟨_, rfl, fin⟩)
  · wp_walk using start; exact ⟨_, rfl, fin⟩
theorem enum_begins1 {v : Value} {o : Obj} {G : Heap → Prop} {Q : Value → Shared → Prop} (B : Begins v o G) (h1 : G s.heap)
    (h : ∀ h', IsEnum h' (s.heap.objs.size + 1) s.heap.objs.size 0 .none → h'.get? s.heap.objs.size = some o → h'.objs.size = s.heap.objs.size + 2 →
      (∀ b o, s.heap.get? b = some o → h'.get? b = some o) → Q (.ref (s.heap.objs.size + 1)) { s with heap := h' }) :
    wpAny (model prog w) A (call (.type "enumerate") [v]) Q E s := by
  refine callType_new F.called_enumerate (by decide) (F.typeCall_enumerate_1 _) (F.newCall_enumerate_1 _) (fun obj => F.args_object_init_2 obj _) F.entry_enumerate_new (meets_enum1 B) ⟨h1, ?_⟩
  have hz : (s.heap.push o).objs.size = s.heap.objs.size + 1 := Heap.size_push ..
  have e1 := Heap.get?_push_size (s.heap.push o) (o := { cls := .type "enumerate", data := .fields #[.none, .bool false, .ref s.heap.objs.size, rawInt 0, .none, .none] }) rfl
  show _ ∧ _
  rw [hz] at e1 ⊢
  exact ⟨⟨_, e1, rfl⟩, h _ e1 (Heap.get?_push_of_some _ (Heap.get?_push_size _ B.free)) (by rw [Heap.size_push, hz]) fun b ob q => Heap.get?_push_of_some _ (Heap.get?_push_of_some _ q)⟩
end
def SqA (K : PySem.W.Frag) (H : Hp) (a : Addr) (k : Bool) (xs : List V) : Prop := if k then SqL K H a xs else SqT K H a xs
def SqO : Bool → Addr → Array Value → Heap → Prop
  | true => fun a its h => h.IsList a its
  | false => fun a its h => h.IsTuple a its
def ItO : Bool → Addr → Addr → Nat → Heap → Prop
  | true => fun it a i h => h.IsListIter it a i
  | false => fun it a i h => h.IsTupleIter it a i
theorem R.assoc {α β γ : Type} (r : Gx.R α) (f : α → Store → Gx.R β) (g : β → Store → Gx.R γ) : (r.bind f).bind g = r.bind fun x S => (f x S).bind g := by cases r <;> rfl
theorem it_ok {S : Store} {v : Val} {src : Src} (h : itOf S v = some src) : src.ok S = true := by
  unfold itOf at h
  split at h
  · cases h; rfl
  · cases h; rfl
  · cases h; rfl
  · cases h; rfl
  · split at h
    · rename_i q
      cases h
      simp [Src.ok, q]
    · cases h
  · cases h
theorem sq_obj {X : Cx} {pins : List (Addr × Obj)} {σ : L2.St} {H : Hp} {s : Shared} {a : Addr} {k : Bool} {xs : List V} (I : Inv X pins σ H s) (h : SqA X.K H a k xs) : ∃ its : List Value, Vals xs its ∧ SqO k a its.toArray s.heap := by
  cases k with
  | true => obtain ⟨its, r, p, _⟩ := I.list (by simpa [SqA] using h); exact ⟨its, r, p.isList⟩
  | false => obtain ⟨its, r, p, _⟩ := I.tuple (by simpa [SqA] using h); exact ⟨its, r, p⟩
theorem sq_inj {X : Cx} {pins : List (Addr × Obj)} {σ : L2.St} {H : Hp} {s : Shared} {a : Addr} {k : Bool} {xs ys : List V} (I : Inv X pins σ H s) (h : SqA X.K H a k xs) (g : SqA X.K H a k ys) : xs = ys := by
  cases k with
  | true => exact I.list_inj (by simpa [SqA] using h) (by simpa [SqA] using g)
  | false => exact I.tuple_inj (by simpa [SqA] using h) (by simpa [SqA] using g)
theorem draws_sq {prog : Program} {w : World} {A : Around} (hh : A.handled = none) (k : Bool) (it a : Addr) (hne : a ≠ it) (its : Array Value) :
    Draws prog w A it [it, a] its.size (fun i v => its[i]? = some v) (fun i h => ItO k it a i h ∧ SqO k a its h) := by
  cases k with
  | true => exact Draws.list hh it a hne its
  | false => exact Draws.tuple hh it a hne its
theorem begins_sq (k : Bool) (a : Addr) (its : Array Value) : ∃ o : Obj, Begins (.ref a) o (SqO k a its) ∧ ∀ (h : Heap) (it : Addr), h.get? it = some o → ItO k it a 0 h := by
  cases k with
  | true => exact ⟨_, begins_list a its, fun h it e => (⟨_, e, rfl, rfl⟩ : h.IsListIter it a 0)⟩
  | false => exact ⟨_, begins_tuple a its, fun h it e => (⟨_, e, rfl, rfl⟩ : h.IsTupleIter it a 0)⟩
theorem ItO.at {k : Bool} {it a : Addr} {i : Nat} {h h' : Heap} (x : ItO k it a i h) (e : ∀ o, h.get? it = some o → h'.get? it = some o) : ItO k it a i h' := by
  cases k with
  | true => exact (show h.IsListIter it a i from x).at e
  | false => exact (show h.IsTupleIter it a i from x).at e
theorem ItO.obj {k : Bool} {it a : Addr} {i : Nat} {h : Heap} (x : ItO k it a i h) : ∃ o, h.get? it = some o ∧ ∀ v, o.data ≠ .cell v := by
  cases k with
  | true => obtain ⟨o, e, _, d⟩ := (show h.IsListIter it a i from x); exact ⟨o, e, fun v q => by rw [d] at q; cases q⟩
  | false => obtain ⟨o, e, _, d⟩ := (show h.IsTupleIter it a i from x); exact ⟨o, e, fun v q => by rw [d] at q; cases q⟩
theorem SqO.lt {k : Bool} {a : Addr} {its : Array Value} {h : Heap} (x : SqO k a its h) : a < h.objs.size := by
  cases k with
  | true => obtain ⟨o, e, _⟩ := (show h.IsList a its from x); exact Heap.lt_size e
  | false => obtain ⟨o, e, _⟩ := (show h.IsTuple a its from x); exact Heap.lt_size e
def ItE (K : PySem.W.Frag) (a : Addr) (k : Bool) (c : Int) : It :=
  ⟨fun i H => ∃ (xs : List V) (x : V), SqA K H a k xs ∧ xs[i]? = some x,
    fun i H v H' => ∃ T x, v = .ref T ∧ H T = none ∧ H' = upd H T (.tup [.int (c + (i : Nat)), x]) ∧ ∀ xs, SqA K H a k xs → xs[i]? = some x,
    fun i H => ∃ xs : List V, SqA K H a k xs ∧ xs.length = i⟩
theorem turn_enumA {P : Program} {w : World} {K : PySem.W.Frag} {elts : List Expr} {kk : Nat} {tpos : Pos} (k : Bool) (c : Int) (a e it : Addr) :
    Turn P w K (.Tuple elts kk tpos) (ItE K a k c) [e, it] e (fun i h => (∃ old, IsEnum h e it (c + (i : Nat)) old) ∧ ItO k it a i h ∧ e ≠ it ∧ e ≠ a ∧ a ≠ it) where
  mem := by simp
  obj := fun i h st b hb => by
    obtain ⟨⟨old, he⟩, hi, _⟩ := st
    rcases (show b = e ∨ b = it by simpa using hb) with z | z
    · subst z; exact ⟨_, he, fun v q => nomatch q⟩
    · subst z; exact hi.obj
  keep := fun i h h' st k => by
    obtain ⟨⟨old, he⟩, hi, n⟩ := st
    exact ⟨⟨old, k e (by simp) _ he⟩, hi.at fun o q => k it (by simp) o q, n⟩
  item := by
    intro X hP hw hK hc i pins s σ H E I hf st hg
    subst hP hw hK
    obtain ⟨⟨old, he⟩, hit, n1, n2, n3⟩ := st
    obtain ⟨xs, x, hq, hx⟩ := hg
    obtain ⟨its, rv, p⟩ := sq_obj I hq
    have hlen := rv.length
    have hi : i < its.toArray.size := by
      have := (List.getElem?_eq_some_iff.mp hx).1
      simp; omega
    have lts : ∀ b, b ∈ [e, it] → b < s.heap.objs.size := fun b hb => by
      rcases (show b = e ∨ b = it by simpa using hb) with z | z
      · subst z; exact Heap.lt_size he
      · subst z; obtain ⟨o, q, _⟩ := hit.obj; exact Heap.lt_size q
    have hel := lts e (by simp)
    refine wpAny_pyNext_enum_itemC (draws_sq (A := X.A.in1) (I.ok.hd hc) k it a n3 its.toArray) he ⟨hit, p⟩ hi n1 (by simp [n1, n2]) fun y h' tk hy ho hst hT hsz hk => ?_
    obtain ⟨u, hu, ru⟩ := rv.get hx
    obtain rfl : y = u := by
      have : its[i]? = some y := by simpa using hy
      rw [hu] at this; exact (Option.some.inj this).symm
    refine ⟨_, rfl, wpAny_letOwnedTupleGo_enum (s := { s with heap := h', toks := tk + 1 }) ho fun h'' he' sb => ?_⟩
    have hT2 := (sb.2 _ (Nat.ne_of_gt hel)).trans hT
    have fresh : ∀ b, b ∈ [e, it] → b ≠ s.heap.objs.size := fun b hb => Nat.ne_of_lt (lts b hb)
    have I1 : Inv X pins σ (upd H s.heap.objs.size (.tup [.int (c + (i : Nat)), x])) { s with heap := h'', toks := tk + 1 } :=
      I.turnedNew (ch := [e, it]) (fun b ob hb q => (sb.2 b (fun z => hb (by simp [z]))).trans (hk b ob (fun z => hb (by simp [z])) (fun z => hb (by simp [z])) q)) hf (Nat.le_refl _)
        ⟨by show 2 ≤ sizeLine; decide, [.int (c + (i : Nat)) tk, y], .cons ⟨_, rfl⟩ (.cons ru .nil), ⟨_, hT2, rfl, _, rfl⟩⟩
    refine ⟨.ref s.heap.objs.size, _, I1, rfl, ⟨_, x, rfl, I.hok.fresh (Nat.le_refl _), rfl, fun ys hy => by rw [sq_inj I hy hq]; exact hx⟩, ⟨⟨y, ?_⟩, hst.1.at fun o q => (sb.2 it (Ne.symm n1)).trans q, n1, n2, n3⟩, fun b hb => ?_⟩
    · rw [show c + ((i + 1 : Nat) : Int) = c + (i : Nat) + 1 by omega]; exact he'
    · rw [upd_ne (fresh b hb)]; exact (hf b hb).1
  done := by
    intro X hP hw hK hc i pins s σ H E I hf st hg
    subst hP hw hK
    obtain ⟨⟨old, he⟩, hit, n1, n2, n3⟩ := st
    obtain ⟨xs, hq, hx⟩ := hg
    obtain ⟨its, rv, p⟩ := sq_obj I hq
    have hlen := rv.length
    obtain ⟨f0, f1, f2, f3, f4, f5⟩ := hf it (by simp)
    have e1 : i = its.toArray.size := by simp; omega
    subst e1
    exact wpAny_pyNext_enum_endD (draws_sq (A := X.A.in1) (I.ok.hd hc) k it a n3 its.toArray) he ⟨hit, p⟩ fun h' eb => ⟨rfl, I.turned (t' := s.toks) (fun b o hb q => eb b o hb q) f0 f1 f3 f4 f5⟩
  self := fun A i s Q E st h => let ⟨⟨_, he⟩, _⟩ := st; wpAny_pyIter_enum he h
section
variable {X : Cx} {W : XW} {e : Expr} {d : E} {pos p tpos : Pos} {elts : List Expr} {kk : Nat}
theorem enum_pie {pins : List (Addr × Obj)} {σ : L2.St} {H : Hp} {s : Shared} {h' : Heap} {R : It → Hp → Prop} {a : Addr} {k : Bool} {c : Int} {its : Array Value} {o : Obj} (I : Inv X pins σ H s) (pp : SqO k a its s.heap) (ho : ∀ (h : Heap) (it : Addr), h.get? it = some o → ItO k it a 0 h)
    (he : IsEnum h' (s.heap.objs.size + 1) s.heap.objs.size c .none) (hit : h'.get? s.heap.objs.size = some o) (hk : ∀ b o, s.heap.get? b = some o → h'.get? b = some o) (q : R (ItE X.K a k c) H) :
    wpAny (model X.prog X.w) X.A (pyIter (.ref (s.heap.objs.size + 1))) (PIE X pins σ (.Tuple elts kk tpos) R) X.xe { s with heap := h' } := by
  refine wpAny_pyIter_enum he ?_
  have hl := pp.lt
  refine ⟨s.heap.objs.size + 1, [s.heap.objs.size + 1, s.heap.objs.size], _, _, H, rfl, I.kept (t' := s.toks) hk, turn_enumA k c a (s.heap.objs.size + 1) s.heap.objs.size, ⟨⟨.none, by simpa using he⟩, ho _ _ hit, Nat.succ_ne_self _, Nat.ne_of_gt (Nat.lt_succ_of_lt hl), Nat.ne_of_lt hl⟩, fun b hb => ?_, q⟩
  have hle : s.heap.objs.size ≤ b := by
    rcases (show b = s.heap.objs.size + 1 ∨ b = s.heap.objs.size by simpa using hb) with z | z
    · rw [z]; exact Nat.le_succ _
    · rw [z]; exact Nat.le_refl _
  exact I.fpOk hle (I.hok.fresh hle)
theorem serves_enum {K : PySem.W.Frag} {ρ : Pl} {H : Hp} {a : Addr} {k : Bool} {src : Src} {c : Int} (h : ∀ ρ1 H1 S1, ExtB ρ H ρ1 H1 → StOk K ρ1 H1 S1 → src.ok S1 = true → ∃ ws, RVs K ρ1 H1 src.items ws ∧ (if k then SqL K H1 a ws else SqT K H1 a ws)) :
    Serves K ρ H ⟨src.stay, enumV c src.items⟩ (ItE K a k c) := by
  intro ρ1 H1 S1 e s ok
  obtain ⟨ws, r, q⟩ := h ρ1 H1 S1 e s ok
  have hl : (enumV c src.items).length = src.items.length := by simp [enumV]
  refine ⟨fun i x hx => ?_, ⟨ws, q, by rw [hl, r.length]⟩⟩
  have hi : i < src.items.length := by rw [← hl]; exact (List.getElem?_eq_some_iff.mp hx).1
  obtain ⟨y, hy⟩ : ∃ y, src.items[i]? = some y := ⟨_, List.getElem?_eq_getElem hi⟩
  have ex : x = .tup [.int (c + (i : Nat)), y] := by
    have : (enumV c src.items)[i]? = some (.tup [.int (c + (i : Nat)), y]) := by simp [enumV, hy]
    rw [this] at hx; exact (Option.some.inj hx).symm
  subst ex
  obtain ⟨w, hw, rw'⟩ := r.get hy
  refine ⟨⟨ws, w, q, hw⟩, fun u H2 z => ?_⟩
  obtain ⟨T, x, rfl, hT, rfl, hx⟩ := z
  have := hx ws q
  rw [hw] at this; cases this
  refine ⟨ext_new hT, s.new hT, ?_, fun b o hb => ?_⟩
  · unfold RV
    exact ⟨T, _, rfl, .of upd_same, .cons (.mk_int _) (.cons (rw'.ext (ext_new hT)) .nil)⟩
  · rw [upd_ne (ne_of_none hb hT)]; exact hb
theorem di_enum (hg : Gl X "enumerate") (hm : X.mg "enumerate" = none) (ha : DE X W e d) (hs : starEach [e] X.env = (false, eval e X.env) :: starEach [] X.env := by rfl) (hpl : (backTo pos (starEach [] X.env)).any (·.1) = false := by rfl) :
    DI X W (.Tuple elts kk tpos) (.Call (.Name "enumerate" p) [e] [] pos) (iEnum d) := by
  refine ⟨⟨fun pins s σ H R I h => ?_⟩⟩
  obtain ⟨ρ, S, L, sim, h⟩ := h
  refine Call_ (ld_blt I hg hm boot_enumerate (PyProof.Rows.callWith_type1 (thn ((pa_cons ha.pe pa_nil hs).run pos pins s σ H (fun vs H1 => ∃ a k c xs, vs = [.ref a] ∧ c = (0 : Int) ∧ SqA X.K H1 a k xs ∧ R (ItE X.K a k c) H1) I ⟨ρ, S, L, sim, ?_⟩) fun us s1 ⟨vs, H1, I1, r1, a, k, c, xs, ex, ec, hq, q⟩ => ?_) hs hpl))
  · unfold iEnum iVal at h
    rw [Gx.R.assoc] at h
    refine Post.bind (Rel' := Serves X.K) h fun v S1 ρ1 H1 w _ e1 s1 r1 h1 => ?_
    cases qi : itOf S1 v with
    | none => rw [qi] at h1; exact h1.elim
    | some src =>
      rw [qi] at h1
      obtain ⟨a, k, rfl, sq, g⟩ := it_read s1 r1 qi
      obtain ⟨ws, _, hq⟩ := g ρ1 H1 S1 Ext.refl.toExtB s1 (it_ok qi)
      exact ⟨a, k, 0, ws, rfl, rfl, hq, h1 ρ1 H1 _ Ext.refl s1 (serves_enum g)⟩
  · subst ex ec
    obtain ⟨u, rfl, r⟩ := vals1 r1
    obtain rfl : u = Value.ref a := r
    obtain ⟨its, rv, pp⟩ := sq_obj I1 hq
    obtain ⟨o, B, ho⟩ := begins_sq k a its.toArray
    exact enum_begins1 B pp fun h' he hit hsz hk => enum_pie I1 pp ho he hit hk q
end
end Gx
end
section
set_option maxHeartbeats 1000000
namespace Gx
open PySem PySem.Spec PyProof.Rows L2
def ItZ (K : PySem.W.Frag) (a b : Addr) (k j : Bool) : It :=
  ⟨fun i H => ∃ (xs ys : List V) (x y : V), SqA K H a k xs ∧ SqA K H b j ys ∧ xs[i]? = some x ∧ ys[i]? = some y,
    fun i H v H' => ∃ T x y, v = .ref T ∧ H T = none ∧ H' = upd H T (.tup [x, y]) ∧ (∀ xs, SqA K H a k xs → xs[i]? = some x) ∧ ∀ ys, SqA K H b j ys → ys[i]? = some y,
    fun i H => ∃ xs ys : List V, SqA K H a k xs ∧ SqA K H b j ys ∧ i = min xs.length ys.length⟩
theorem turn_zipA {P : Program} {w : World} {K : PySem.W.Frag} {elts : List Expr} {kk : Nat} {tpos : Pos} (k j : Bool) (a b z TI TO i1 i2 : Addr) :
    Turn P w K (.Tuple elts kk tpos) (ItZ K a b k j) [z, TI, TO, i1, i2] z (fun i h => IsZip h z TI TO .none ∧ IsTupOf2 h TI (.ref i1) (.ref i2) ∧ (∃ x y, IsTupOf2 h TO x y) ∧ ItO k i1 a i h ∧ ItO j i2 b i h ∧ ZipSep2 z TI TO i1 i2 [i1, a] [i2, b] ∧ a ≠ i1 ∧ b ≠ i2) where
  mem := by simp
  obj := fun i h st c hc => by
    obtain ⟨hz, hTI, ⟨x, y, hTO⟩, h1, h2, _⟩ := st
    rcases (show c = z ∨ c = TI ∨ c = TO ∨ c = i1 ∨ c = i2 by simpa using hc) with q | q | q | q | q
    · subst q; exact ⟨_, hz, fun v q => nomatch q⟩
    · subst q; exact ⟨_, hTI, fun v q => nomatch q⟩
    · subst q; exact ⟨_, hTO, fun v q => nomatch q⟩
    · subst q; exact h1.obj
    · subst q; exact h2.obj
  keep := fun i h h' st kp => by
    obtain ⟨hz, hTI, ⟨x, y, hTO⟩, h1, h2, r⟩ := st
    exact ⟨kp z (by simp) _ hz, kp TI (by simp) _ hTI, ⟨x, y, kp TO (by simp) _ hTO⟩, h1.at fun o q => kp i1 (by simp) o q, h2.at fun o q => kp i2 (by simp) o q, r⟩
  item := by
    intro X hP hw hK hc i pins s σ H E I hf st hg
    subst hP hw hK
    obtain ⟨hz, hTI, ⟨x0, y0, hTO⟩, h1, h2, D, n1, n2⟩ := st
    obtain ⟨xs, ys, x, y, hqx, hqy, hx, hy⟩ := hg
    obtain ⟨its, rv, p1⟩ := sq_obj I hqx
    obtain ⟨its2, rv2, p2⟩ := sq_obj I hqy
    have l1 := rv.length
    have l2 := rv2.length
    have b1 := (List.getElem?_eq_some_iff.mp hx).1
    have b2 := (List.getElem?_eq_some_iff.mp hy).1
    have all : ∀ c, c ∈ [z, TI, TO, i1, i2] → c < s.heap.objs.size := fun c hcm => by
      rcases (show c = z ∨ c = TI ∨ c = TO ∨ c = i1 ∨ c = i2 by simpa using hcm) with q | q | q | q | q
      · subst q; exact Heap.lt_size hz
      · subst q; exact Heap.lt_size hTI
      · subst q; exact Heap.lt_size hTO
      · subst q; obtain ⟨o, e, _⟩ := h1.obj; exact Heap.lt_size e
      · subst q; obtain ⟨o, e, _⟩ := h2.obj; exact Heap.lt_size e
    refine wpAny_pyNext_zipD2_item D (draws_sq (A := X.A.in1) (I.ok.hd hc) k i1 a n1 its.toArray) (draws_sq (A := X.A.in1) (I.ok.hd hc) j i2 b n2 its2.toArray) hz hTI hTO ⟨h1, p1⟩ ⟨h2, p2⟩ (by simp; omega) (by simp; omega) fun u v h' tk hu hv hz' hTO' s1 s2 hT hsz hk => ?_
    obtain ⟨u', hu', ru⟩ := rv.get hx
    obtain rfl : u = u' := by
      have : its[i]? = some u := by simpa using hu
      rw [hu'] at this; exact (Option.some.inj this).symm
    obtain ⟨v', hv', rv'⟩ := rv2.get hy
    obtain rfl : v = v' := by
      have : its2[i]? = some v := by simpa using hv
      rw [hv'] at this; exact (Option.some.inj this).symm
    refine ⟨_, rfl, wpAny_letOwnedTupleGo_zip (s := { s with heap := h', toks := tk }) hz' fun h'' z'' sb => ?_⟩
    have hzl := all z (by simp)
    have hT2 := (sb.2 _ (Nat.ne_of_gt hzl)).trans hT
    have stay : ∀ c o, c ∉ [z, TI, TO, i1, i2] → s.heap.get? c = some o → h''.get? c = some o := fun c o hb q =>
      (sb.2 c (fun q' => hb (by simp [q']))).trans (hk c o (fun q' => hb (by simp [q'])) (fun q' => hb (by simp [q'])) (fun q' => hb (by simp [q'])) (fun q' => hb (by simp [q'])) q)
    have I1 : Inv X pins σ (upd H s.heap.objs.size (.tup [x, y])) { s with heap := h'', toks := tk } :=
      I.turnedNew (t' := tk) (ch := [z, TI, TO, i1, i2]) stay hf (Nat.le_refl _) ⟨by show 2 ≤ sizeLine; decide, [u, v], .cons ru (.cons rv' .nil), ⟨_, hT2, rfl, _, rfl⟩⟩
    refine ⟨.ref s.heap.objs.size, _, I1, rfl, ⟨_, x, y, rfl, I.hok.fresh (Nat.le_refl _), rfl, fun l hl => by rw [sq_inj I hl hqx]; exact hx, fun l hl => by rw [sq_inj I hl hqy]; exact hy⟩, ⟨z'', ?_, ⟨u, v, ?_⟩, ?_, ?_, D, n1, n2⟩, fun c hcm => ?_⟩
    · exact (sb.2 _ D.TIz).trans (hk _ _ D.TIz D.TITO D.TIi1 D.TIi2 hTI)
    · exact (sb.2 _ D.TOz).trans hTO'
    · exact s1.1.at fun o q => (sb.2 _ (Ne.symm D.zi1)).trans q
    · exact s2.1.at fun o q => (sb.2 _ (Ne.symm D.zi2)).trans q
    · rw [upd_ne (Nat.ne_of_lt (all c hcm))]; exact (hf c hcm).1
  done := by
    intro X hP hw hK hc i pins s σ H E I hf st hg
    subst hP hw hK
    obtain ⟨hz, hTI, ⟨x0, y0, hTO⟩, h1, h2, D, n1, n2⟩ := st
    obtain ⟨xs, ys, hqx, hqy, hend⟩ := hg
    obtain ⟨its, rv, p1⟩ := sq_obj I hqx
    obtain ⟨its2, rv2, p2⟩ := sq_obj I hqy
    have l1 := rv.length
    have l2 := rv2.length
    refine wpAny_pyNext_zipD2_end D (draws_sq (A := X.A.in1) (I.ok.hd hc) k i1 a n1 its.toArray) (draws_sq (A := X.A.in1) (I.ok.hd hc) j i2 b n2 its2.toArray) hz hTI hTO ⟨h1, p1⟩ ⟨h2, p2⟩ (by simp; omega) (by simp; omega) (by simp; omega) fun h' tk hk => ⟨rfl, ?_⟩
    exact I.turnedL (t' := tk) (ch := [z, TI, TO, i1, i2]) (fun c o hb q => hk c o (fun q' => hb (by simp [q'])) (fun q' => hb (by simp [q'])) (fun q' => hb (by simp [q'])) (fun q' => hb (by simp [q'])) q) hf
  self := fun A i s Q E st h => wpAny_pyIter_zip st.1 h
section
variable {X : Cx} {W : XW} {e e2 : Expr} {d d2 : E} {pos p tpos : Pos} {elts : List Expr} {kk : Nat}
theorem serves_zip {K : PySem.W.Frag} {ρ : Pl} {H : Hp} {a b : Addr} {k j : Bool} {src src2 : Src} (h : ∀ ρ1 H1 S1, ExtB ρ H ρ1 H1 → StOk K ρ1 H1 S1 → src.ok S1 = true → ∃ ws, RVs K ρ1 H1 src.items ws ∧ (if k then SqL K H1 a ws else SqT K H1 a ws))
    (h2 : ∀ ρ1 H1 S1, ExtB ρ H ρ1 H1 → StOk K ρ1 H1 S1 → src2.ok S1 = true → ∃ ws, RVs K ρ1 H1 src2.items ws ∧ (if j then SqL K H1 b ws else SqT K H1 b ws)) :
    Serves K ρ H ⟨src.stay ++ src2.stay, zipV src.items src2.items⟩ (ItZ K a b k j) := by
  intro ρ1 H1 S1 e s ok
  have ok : src.ok S1 = true ∧ src2.ok S1 = true := by simpa [Src.ok, List.all_append] using ok
  obtain ⟨ws, r, q⟩ := h ρ1 H1 S1 e s ok.1
  obtain ⟨us, r2, q2⟩ := h2 ρ1 H1 S1 e s ok.2
  have hl : (zipV src.items src2.items).length = min src.items.length src2.items.length := by simp [zipV]
  refine ⟨fun i x hx => ?_, ⟨ws, us, q, q2, by rw [hl, r.length, r2.length]⟩⟩
  have hi : i < min src.items.length src2.items.length := by rw [← hl]; exact (List.getElem?_eq_some_iff.mp hx).1
  obtain ⟨y, hy⟩ : ∃ y, src.items[i]? = some y := ⟨_, List.getElem?_eq_getElem (by omega)⟩
  obtain ⟨u, hu⟩ : ∃ y, src2.items[i]? = some y := ⟨_, List.getElem?_eq_getElem (by omega)⟩
  have ex : x = .tup [y, u] := by
    have zz : (src.items.zip src2.items)[i]? = some (y, u) := List.getElem?_zip_eq_some.mpr ⟨hy, hu⟩
    have : (zipV src.items src2.items)[i]? = some (.tup [y, u]) := by simp [zipV, zz]
    rw [this] at hx; exact (Option.some.inj hx).symm
  subst ex
  obtain ⟨w, hw, rw'⟩ := r.get hy
  obtain ⟨w2, hw2, rw2⟩ := r2.get hu
  refine ⟨⟨ws, us, w, w2, q, q2, hw, hw2⟩, fun v H2 z => ?_⟩
  obtain ⟨T, x, y', rfl, hT, rfl, hx1, hx2⟩ := z
  have e1 := hx1 ws q
  rw [hw] at e1; cases e1
  have e2 := hx2 us q2
  rw [hw2] at e2; cases e2
  refine ⟨ext_new hT, s.new hT, ?_, fun b o hb => ?_⟩
  · unfold RV
    exact ⟨T, _, rfl, .of upd_same, .cons (rw'.ext (ext_new hT)) (.cons (rw2.ext (ext_new hT)) .nil)⟩
  · rw [upd_ne (ne_of_none hb hT)]; exact hb
theorem zip_pie {pins : List (Addr × Obj)} {σ : L2.St} {H : Hp} {s : Shared} {h' : Heap} {RR : It → Hp → Prop} {a b : Addr} {k j : Bool} {its its2 : Array Value} {o o2 : Obj} (I : Inv X pins σ H s) (p1 : SqO k a its s.heap) (p2 : SqO j b its2 s.heap) (ho : ∀ (h : Heap) (it : Addr), h.get? it = some o → ItO k it a 0 h) (ho2 : ∀ (h : Heap) (it : Addr), h.get? it = some o2 → ItO j it b 0 h)
    (hz : IsZip h' (s.heap.objs.size + 4) (s.heap.objs.size + 2) (s.heap.objs.size + 3) .none) (hTI : IsTupOf2 h' (s.heap.objs.size + 2) (.ref s.heap.objs.size) (.ref (s.heap.objs.size + 1))) (hTO : IsTupOf2 h' (s.heap.objs.size + 3) .none .none)
    (h1 : h'.get? s.heap.objs.size = some o) (h2 : h'.get? (s.heap.objs.size + 1) = some o2) (hk : ∀ c o, s.heap.get? c = some o → h'.get? c = some o) (q : RR (ItZ X.K a b k j) H) :
    wpAny (model X.prog X.w) X.A (pyIter (.ref (s.heap.objs.size + 4))) (PIE X pins σ (.Tuple elts kk tpos) RR) X.xe { s with heap := h' } := by
  refine wpAny_pyIter_zip hz ?_
  have la := p1.lt
  have lb := p2.lt
  have D := zip_sep2 (N := s.heap.objs.size) (fp1 := [a]) (fp2 := [b]) (by simpa using la) (by simpa using lb)
  refine ⟨s.heap.objs.size + 4, [s.heap.objs.size + 4, s.heap.objs.size + 2, s.heap.objs.size + 3, s.heap.objs.size, s.heap.objs.size + 1], _, _, H, rfl, I.kept (t' := s.toks) hk, turn_zipA k j a b _ (s.heap.objs.size + 2) (s.heap.objs.size + 3) s.heap.objs.size (s.heap.objs.size + 1),
    ⟨hz, hTI, ⟨_, _, hTO⟩, ho _ _ h1, ho2 _ _ h2, D, Nat.ne_of_lt la, Nat.ne_of_lt (Nat.lt_succ_of_lt lb)⟩, fun c hc => ?_, q⟩
  have hle : s.heap.objs.size ≤ c := by
    rcases (show c = s.heap.objs.size + 4 ∨ c = s.heap.objs.size + 2 ∨ c = s.heap.objs.size + 3 ∨ c = s.heap.objs.size ∨ c = s.heap.objs.size + 1 by simpa using hc) with z | z | z | z | z <;> (rw [z]; first | exact Nat.le_refl _ | exact Nat.le_add_right _ _)
  exact I.fpOk hle (I.hok.fresh hle)
theorem di_zip (hg : Gl X "zip") (hm : X.mg "zip" = none) (ha : DE X W e d) (hb : DE X W e2 d2) (hs : starEach [e, e2] X.env = (false, eval e X.env) :: starEach [e2] X.env := by rfl) (hs2 : starEach [e2] X.env = (false, eval e2 X.env) :: starEach [] X.env := by rfl) (hpl : (backTo pos (starEach [e2] X.env)).any (·.1) = false := by rfl) :
    DI X W (.Tuple elts kk tpos) (.Call (.Name "zip" p) [e, e2] [] pos) (iZip d d2) := by
  refine ⟨⟨fun pins s σ H RR I h => ?_⟩⟩
  obtain ⟨ρ, S, L, sim, h⟩ := h
  refine Call_ (ld_blt I hg hm PyProof.Rows.boot_zip (PyProof.Rows.callWith_type1 (thn ((pa_cons ha.pe (pa_cons hb.pe pa_nil hs2) hs).run pos pins s σ H (fun vs H1 => ∃ a b k j xs ys, vs = [.ref a, .ref b] ∧ SqA X.K H1 a k xs ∧ SqA X.K H1 b j ys ∧ RR (ItZ X.K a b k j) H1) I ?_) fun us s1 ⟨vs, H1, I1, r1, a, b, k, j, xs, ys, ex, hq, hq2, q⟩ => ?_) hs hpl))
  · refine two sim h fun v u S2 ρ2 H2 wv wu e2 s2 rv ru h2 => ?_
    cases qi : itOf S2 v with
    | none => rw [qi] at h2; exact h2.elim
    | some src =>
      cases qj : itOf S2 u with
      | none => rw [qi, qj] at h2; exact h2.elim
      | some src2 =>
        rw [qi, qj] at h2
        obtain ⟨a, k, rfl, sq, g⟩ := it_read s2 rv qi
        obtain ⟨b, j, rfl, sq2, g2⟩ := it_read s2 ru qj
        obtain ⟨ws, _, hq⟩ := g ρ2 H2 S2 Ext.refl.toExtB s2 (it_ok qi)
        obtain ⟨vs, _, hq2⟩ := g2 ρ2 H2 S2 Ext.refl.toExtB s2 (it_ok qj)
        exact ⟨a, b, k, j, ws, vs, rfl, hq, hq2, h2 ρ2 H2 _ Ext.refl s2 (serves_zip g g2)⟩
  · subst ex
    obtain ⟨u1, u2, rfl, r, r'⟩ := vals2 r1
    obtain rfl : u1 = Value.ref a := r
    obtain rfl : u2 = Value.ref b := r'
    obtain ⟨its, rv, p1⟩ := sq_obj I1 hq
    obtain ⟨its2, rv2, p2⟩ := sq_obj I1 hq2
    obtain ⟨o, B, ho⟩ := begins_sq k a its.toArray
    obtain ⟨o2, B2, ho2⟩ := begins_sq j b its2.toArray
    exact zip_begins2 B B2 p1 p2 fun h' hz hTI hTO h1 h2 hsz hk => zip_pie I1 p1 p2 ho ho2 hz hTI hTO h1 h2 hk q
end
end Gx
end
section
set_option maxHeartbeats 1000000
namespace Gx
open PySem PySem.Spec PyProof.Rows L2
section
variable {prog : Program} {w : World} {A : Around} {E : Value → Shared → Prop} {s : Shared}
end
section
variable {X : Cx} {W : XW} {e o : Expr} {es : List Expr} {x m : Str} {f : F} {n k j : Nat} {aa kk : A} {d : E} {pos p apos kpos : Pos}
def eRevT (d : E) : E := fun L S => (d L S).bind fun v S1 => match v with
  | .tup xs => .ok (.tup xs.reverse) S1
  | _ => .bad
def aKw (a : A) (n : Nat) (ix : List Nat) : A := fun L S => (a L S).bind fun xs S1 => if xs.length = n then (match ix.mapM (xs[·]?) with
  | some ys => .ok ys S1
  | none => .bad) else .bad
end
end Gx
end
section
set_option maxHeartbeats 1000000
namespace Gx
open PySem PySem.Spec PyProof.Rows L2
def bLenO (C : Addr) (f : F) : FV := fun xs S => match xs with
  | [x] => match objOf S x with
    | some (D, _) => if D = C then (f [x] S).bind fun v S1 => match v with | .int i => if 0 ≤ i ∧ i < 2 ^ 62 then .ok (.int i) S1 else .bad | _ => .bad else .bad
    | none => bLen [x] S
  | _ => .bad
theorem met_run {X : Cx} {k : Nat} {C : Addr} {m : Str} {f : F} {n : Nat} (c : Met X k C m f n []) : ∃ (a : Addr), Meth X.K C m a ∧
    ∀ {A : Around} {pins : List (Addr × Obj)} {s : Shared} {σ : L2.St} {H : Hp} {us : List Value} {ws : List V} {xs : List Val} {ρ : Pl} {S : Store} {Q : VK}, Room k A → Env0 X.prog X.w X.K X.mg X.base A X.stack s H → Inv X pins σ H s → Vals ws us → StOk X.K ρ H S → RVs X.K ρ H xs ws →
      Post X.K W0 (RV X.K) ρ H [] (f xs S) Q → wpAny (model X.prog X.w) A (call (.ref a) us) (EP X pins σ Q) X.xe s := by
  obtain ⟨a, fd, ps, dvs, dus, hn, F, hm, hb, hd, hds⟩ := c.ex
  have e1 : dvs = [] := RVs.nil_iff.mp (hds ⟨[], []⟩ (fun _ => none))
  subst e1
  have e2 : dus = [] := by cases hd; rfl
  subst e2
  refine ⟨a, hm, fun {A pins s σ H us ws xs ρ S Q} hr e0 I r st rv post => ?_⟩
  by_cases hl : xs.length = n
  · have hsp : spOf X.K f n ws H Q E0 := ⟨ρ, S, xs, st, rv, hl, PostW.weak post fun _ _ _ z => z⟩
    have hlen : us.length = ps.length := by have h1 := r.length; have h2 := rv.length; omega
    have hbb := hb s us I.kIn (by simpa using hlen)
    rw [List.append_nil] at hbb
    refine wpAny_call (codeAny_mono (F.run A X.stack s H ⟨us, []⟩ us ws Q E0 hr e0 hbb r hsp) fun rr s' hq => ?_)
    match rr, hq with
    | .error e, hq => exact hq.elim
    | .ok (.ret u), hq => exact I.after hq
    | .ok .next, hq => exact hq.elim
    | .ok .brk, hq => exact hq.elim
    | .ok .cont, hq => exact hq.elim
  · rw [c.bad _ _ hl] at post
    exact post.elim
theorem cd_lenO {X : Cx} {k : Nat} {C : Addr} {f : F} (c : Met X k C "__len__" f 1 []) (hr : Room (k + 1) X.A) : CallR X (.builtin "len") (lC X.K W0 (bLenO C f)) := by
  intro pins s σ H ws us Q I r h
  obtain ⟨σ', ρ, S, xs, st, rv, post⟩ := h
  obtain ⟨a, hm, run⟩ := met_run c
  unfold bLenO at post
  split at post
  · rename_i x
    obtain ⟨w, rfl, rw'⟩ := rvs1 rv
    split at post
    · rename_i D fs qo
      split at post
      · rename_i hD
        subst hD
        obtain ⟨q, dx, vs, rfl, hq, hf⟩ := obj_read st rw' qo
        obtain ⟨u, rfl, ru⟩ := vals1 r
        obtain rfl : u = Value.ref q := ru
        obtain ⟨mA, J, _⟩ := ins_get I.hok hq
        obtain ⟨od, J, _⟩ := J.look
        refine Calls.call_function_entry kind_len plain_len entry_len (args_len1 _) ?_
        unfold Builtin.«len»
        refine wpAny_bind (m := oneArg "len" _) (wpAny_pure ?_)
        have p2 : Post X.K W0 (RV X.K) ρ H [] (f [x] S) (fun v H1 => ∃ i : Int, v = .int i ∧ 0 ≤ i ∧ i < 2 ^ 62 ∧ Q (.int i) H1) := by
          cases e : f [x] S with
          | ok v S1 =>
            rw [e] at post
            simp only [R.bind_ok] at post
            intro ρ1 H1 w1 e1 s1 r1
            split at post
            · rename_i i
              split at post
              · rename_i hi
                have := post ρ1 H1 _ e1 s1 (.mk_int i)
                exact ⟨i, r1.int_inv, hi.1, hi.2, this⟩
              · exact post.elim
            · exact post.elim
          | exn y S1 => rw [e] at post; exact PostW.weak post fun _ _ _ z => z
          | bad => rw [e] at post; exact post.elim
        refine wpAny_bind (m := callSpecial? (.ref q) (PySem.Str.ofString "__len__")) (PySem.W.special_fn I.kIn J hm.at_ (beq_iff_eq.mp hm.fn) (wpAny_mono (run (us := [.ref q]) (Room.in1 hr) I.env0.in1 I r st rv p2) (fun u s1 hu => ?_) fun _ _ z => z))
        obtain ⟨v, H1, I1, ru, i, rfl, hi0, hi1, hq1⟩ := hu
        obtain ⟨t, rfl⟩ := (show ∃ t, u = Value.int i t from ru)
        refine wpAny_bind (wpAny_holding (wpAny_pure ?_))
        refine wpAny_bind (wpAny_letGo ?_)
        show wpAny _ _ (if i < 0 then _ else _) _ _ _
        rw [if_neg (by omega)]
        show wpAny _ _ (if i ≥ 2 ^ 63 then _ else _) _ _ _
        rw [if_neg (by omega)]
        exact wpAny_bind (wpAny_mkInt (wpAny_pure ⟨_, rfl, .int i, H1, I1.tok _, ⟨_, rfl⟩, hq1⟩))
      · exact post.elim
    · exact cd_len pins s σ H _ us Q I r ⟨σ', ρ, S, [x], st, rv, post⟩
  · exact post.elim
end Gx
end
section
set_option maxHeartbeats 1000000
namespace Gx
open PySem PySem.Spec PyProof.Rows L2
theorem u128 {k : Nat} {A : Around} (r : Room k A) : A.units + 128 < cLine := by have := r.un; omega
theorem u1 {n m : Nat} (h : n + 128 < m) : n + 1 < m := by omega
theorem u64 {n m : Nat} (h : n + 128 < m) : n + 64 < m := by omega
def iNew (a : A) : I := fun L S => (a L S).bind fun xs S1 => .ok ⟨[], xs⟩ S1
def eDict0 (m : Bool) : E := fun _ S => if m then .ok (.ref S.length) (S ++ [.dct []]) else .ok (.dct []) S
section
variable {X : Cx} {W : XW} {e tg : Expr} {aa : A} {pos : Pos}
theorem T_gint {x : Str} {i : Int} (hg : Gl X x) (h : ∃ t, X.mg x = some (.int i t)) (hd : (x == ("__debug__" : Str)) = false := by decide) : DE X W (.Name x pos) (eC (.int i)) := by
  obtain ⟨t, h⟩ := h
  exact de_gint hg h hd
theorem T_gstr {x y : Str} (hg : Gl X x) (h : ∃ t, X.mg x = some (.str y t)) (hd : (x == ("__debug__" : Str)) = false := by decide) : DE X W (.Name x pos) (eC (.str y)) := by
  obtain ⟨t, h⟩ := h
  exact de_gstr hg h hd
theorem gl_of {x : Str} (h : X.env.kindOf x = some .globalImplicit) : Gl X x := h
theorem dv_l {i : Nat} {x : Str} (hN : X.N[i]? = some x) (h : X.env.scope.names.lookup x = some .local) (hd : (x == ("__debug__" : Str)) = false := by decide) (hcd : (x == ("__classdict__" : Str)) = false := by decide) : DE X W (.Name x pos) (eVar i) := de_var hN (.inl h) hd hcd
theorem dv_c {i : Nat} {x : Str} (hN : X.N[i]? = some x) (h : X.env.scope.names.lookup x = some .cell) (hd : (x == ("__debug__" : Str)) = false := by decide) (hcd : (x == ("__classdict__" : Str)) = false := by decide) : DE X W (.Name x pos) (eVar i) := de_var hN (.inr (.inl h)) hd hcd
theorem pg_l {i : Nat} {x : Str} (hN : X.N.Nodup) (hi : X.N[i]? = some x) (h : X.env.scope.names.lookup x = some .local) : PG X (.Name x pos) (L2.gName i) := pg_name hN hi (.inl h) (.inr h)
theorem dg_l {i : Nat} {x : Str} (hN : X.N.Nodup) (hi : X.N[i]? = some x) (h : X.env.scope.names.lookup x = some .local) : DG X W (.Name x pos) (gName i) := dg_name hN hi (.inl h) (.inr h)
end
section
variable {X : Cx} {k n : Nat} {x : Str} {f : F} {ks : List Str} {ix : List Nat}
end
section
variable {P : Program} {w : World} {K : PySem.W.Frag} {mg : Str → Option Value} {base : Heap} {k j n d m : Nat} {x : Str} {f : F} {ks ps : List Str} {ix : List Nat} {a : Addr} {fd : FuncData} {db : SS}
theorem room_of {k : Nat} (h : (decide (callerA.depth + 3 * k + 5 < recursionLimit) && decide (callerA.units + 16 * k + 200 < cLine)) = true) : Room k callerA := by
  rw [Bool.and_eq_true, decide_eq_true_eq, decide_eq_true_eq] at h
  exact ⟨rfl, h.1, h.2⟩
end
end Gx
end
section
set_option maxHeartbeats 1000000
set_option maxRecDepth 100000
namespace Gx
open PySem PySem.Spec PyProof.Rows L2
def clsAt (s : Stmt) (j : Nat) : Stmt := match s with
  | .ClassDef (body := b) .. => b.getD j (.Pass ⟨0, 0, 0, 0⟩)
  | _ => .Pass ⟨0, 0, 0, 0⟩
theorem clsOf_eq {K : PySem.W.Frag} {x : Str} {a : Addr} (h : PySem.W.nsIn K mainGlobals x = some (some (.ref a))) : clsOf K x = a := by unfold clsOf; rw [h]
structure FunV (K : PySem.W.Frag) (x qual : Str) (st : Stmt) (dV : Value) (f : Addr) (fd : FuncData) : Prop where
  ex : ∃ (oc : Value) (od : Option Addr) (kV doc pm : Value) (an : Option Addr) (cdv ct : Value) (osl : Array (Option Value)),
    fd = PySem.W.fnOf x qual (defArgs st) (defBody st) (defScope st) dV kV doc pm an cdv ct ∧ K.lookup f = some ⟨oc, od, .func fd, osl⟩ ∧ PySem.W.codeIn K cdv qual = true
section
variable {P : Program} {w : World} {K : PySem.W.Frag} {mg : Str → Option Value} {base : Heap} {x qual m : Str} {st : Stmt} {dV : Value} {f C : Addr} {fd : FuncData} {N ps ks : List Str} {ix : List Nat} {k d n : Nat} {db : SS}
theorem funV_mk {oc : Value} {od an : Option Addr} {osl : Array (Option Value)} {kV doc pm cdv ct : Value} (l : K.lookup f = some ⟨oc, od, .func (PySem.W.fnOf x qual (defArgs st) (defBody st) (defScope st) dV kV doc pm an cdv ct), osl⟩)
    (c : PySem.W.codeIn K cdv qual = true) : FunV K x qual st dV f (PySem.W.fnOf x qual (defArgs st) (defBody st) (defScope st) dV kV doc pm an cdv ct) := ⟨⟨oc, od, kV, doc, pm, an, cdv, ct, osl, rfl, l, c⟩⟩
theorem FunV.binds (F : FunV K x qual st .none f fd)
    (h : ∀ (kV doc pm : Value) (an : Option Addr) (cdv ct : Value) (us : List Value), us.length = ps.length → bindArgs (PySem.W.fnOf x qual (defArgs st) (defBody st) (defScope st) .none kV doc pm an cdv ct) ⟨us, []⟩ = pure (ps.zip us)) : Binds K fd ps [] := by
  obtain ⟨oc, od, kV, doc, pm, an, cdv, ct, osl, rfl, lk, hcd⟩ := F.ex
  exact .all (h kV doc pm an cdv ct)
theorem FunV.bindsD {T : Addr} {o : Obj} {items : Array Value} {z : Nat} {ds : List Value} (F : FunV K x qual st (.ref T) f fd) (ho : K.lookup T = some o) (hs : o.data = .seq items z)
    (h : ∀ (kV doc pm : Value) (an : Option Addr) (cdv ct : Value) (us : List Value), (us ++ ds).length = ps.length → ∃ k, bindArgs (PySem.W.fnOf x qual (defArgs st) (defBody st) (defScope st) (.ref T) kV doc pm an cdv ct) ⟨us, []⟩ = seqItems? (.ref T) >>= k ∧ k (some items) = pure (ps.zip (us ++ ds))) : Binds K fd ps ds := by
  obtain ⟨oc, od, kV, doc, pm, an, cdv, ct, osl, rfl, lk, hcd⟩ := F.ex
  intro s us X hl
  obtain ⟨k, e1, e2⟩ := h kV doc pm an cdv ct us hl
  exact PySem.W.binds_K X rfl ho hs e1 e2
end
section
variable {P : Program} {w : World} {K : PySem.W.Frag} {mg : Str → Option Value} {base : Heap} {x m : Str} {f C a : Addr} {fd : FuncData} {ps ks : List Str} {ix : List Nat} {k d n : Nat} {db : SS}
end
section
variable {X : Cx} {k n j : Nat} {x m : Str} {f : F} {ks : List Str} {ix : List Nat} {C : Addr} {ds : List Val} {o : Expr} {d : E} {aa : A} {pos apos p : Pos} {kws : List Keyword}
end
structure ClF (K : PySem.W.Frag) (C : Addr) : Prop where
  pg : PySem.W.plainGet K C Str.empty = true
  hd : PySem.W.hasDictIn K C = true
  po : PySem.W.plainOver K C = true
  sa : PySem.W.findIn K (.ref C) "__setattr__" = some (some (.builtin "object.__setattr__"))
  ha : PySem.W.findIn K (.ref C) "__class__" = some (some (.builtin "object.__class__"))
  hm : PySem.W.mroIn K C (.type "object") = some true
  hn : PySem.W.specialIn K (.builtin "object.__class__") "__get__" = some (some (.builtin "getset_descriptor.__get__"))
  ht : PySem.W.takesIn K (.builtin "object.__class__") = some true
  ne : PySem.W.findIn K (.ref C) "__ne__" = some (some (.builtin "object.__ne__"))
  cl : PySem.W.isClsIn K C = true
  tp : PySem.W.typeIn K (.ref C) = some (.type "type")
  t0 : PySem.W.subIn K (.type "NoneType") (.ref C) = some false
  t1 : PySem.W.subIn K (.type "bool") (.ref C) = some false
  t2 : PySem.W.subIn K (.type "int") (.ref C) = some false
  t3 : PySem.W.subIn K (.type "str") (.ref C) = some false
  t4 : PySem.W.subIn K (.type "tuple") (.ref C) = some false
  t5 : PySem.W.subIn K (.type "list") (.ref C) = some false
  t6 : PySem.W.subIn K (.type "dict") (.ref C) = some false
  u0 : PySem.W.subIn K (.ref C) (.type "NoneType") = some false
  u1 : PySem.W.subIn K (.ref C) (.type "bool") = some false
  u2 : PySem.W.subIn K (.ref C) (.type "int") = some false
  u3 : PySem.W.subIn K (.ref C) (.type "str") = some false
  u4 : PySem.W.subIn K (.ref C) (.type "tuple") = some false
  u5 : PySem.W.subIn K (.ref C) (.type "list") = some false
  u6 : PySem.W.subIn K (.ref C) (.type "dict") = some false
theorem kit_sub {K : PySem.W.Frag} {t : Value} {C : Addr} {b : Bool} (h1 : PySem.W.isClsIn K C = true) (h2 : PySem.W.typeIn K (.ref C) = some (.type "type")) (hne : (t == Value.ref C) = false) (h : PySem.W.subIn K t (.ref C) = some b) : PySem.W.kitOne K t (.ref C) = some b := by
  unfold PySem.W.kitOne PySem.W.kitCls
  rw [if_neg (by rw [hne]; decide)]
  dsimp only
  rw [if_pos (by rw [h2]; unfold PySem.W.isClsIn at h1; rw [h1]; rfl)]
  exact h
section
variable {K : PySem.W.Frag} {C : Addr}
theorem ClF.cls (h : ClF K C) : Cls K C := ⟨h.pg, h.hd, h.po, h.sa⟩
theorem ClF.fld {m : Str} (h : ClF K C) (n : PySem.W.findIn K (.ref C) m = some none) : ∀ D, D ∈ [C] → Cls K D ∧ NoAttr K D m := fun D hD => by
  obtain rfl := List.mem_singleton.mp hD
  exact ⟨h.cls, n⟩
end
end Gx
end
section
set_option maxHeartbeats 1000000
namespace Gx
open PySem PySem.Spec PyProof.Rows L2
def bSum : FV := fun xs S => match xs with
  | [x] => match seqOf S x with
    | some (_, ys) => match sumV ys with | some v => .ok v S | none => .bad
    | none => .bad
  | _ => .bad
theorem sum_tup {prog : Program} {w : World} {A : Around} {E : Value → Shared → Prop} {s : Shared} {l : Addr} {its : List Value} {ns : List Int} {Q : Value → Shared → Prop} (hh : A.handled = none) (hl : s.heap.IsTuple l its.toArray) (hi : IntsAre its ns)
    (h : ∀ h' tk t', (∀ b o, s.heap.get? b = some o → h'.get? b = some o) → Q (.int ns.sum t') { s with heap := h', toks := tk }) : wpAny (model prog w) A (call (.builtin "sum") [.ref l]) Q E s := by
  obtain ⟨xs, e⟩ := hi.allInts.items
  have hn : numsOf (intItems xs).toList = ns := by rw [← e]; exact hi.numsOf
  rw [nums_intItems] at hn
  rw [e] at hl
  refine PySem.W.ktm_sumG hh hl fun h' tk t' hk => ?_
  have := h h' tk t' hk
  rw [preSum_eq, List.take_of_length_le (by simp), hn]; exact this
theorem cd_sumS {X : Cx} {W : XW} (hc : X.calm = true) : CallR X (.builtin "sum") (lC X.K W bSum) := by
  intro pins s σ H ws us Q I r h
  obtain ⟨σ', ρ, S, xs, st, rv, post⟩ := h
  unfold bSum at post
  split at post
  · obtain ⟨w, rfl, rw'⟩ := rvs1 rv
    split at post
    · rename_i k ys q
      obtain ⟨p, vs, rfl, r1, l1⟩ := seq_read st rw' q
      split at post
      · rename_i v gv
        simp only [sumV, Option.map_eq_some_iff] at gv
        obtain ⟨ns, e, rfl⟩ := gv
        have := rvs_ints e r1
        subst this
        cases k with
        | true => exact cr_sum hc pins s σ H _ us Q I r ⟨p, ns, rfl, by simpa using l1, post ρ H _ Ext.refl st (.mk_int _)⟩
        | false =>
          obtain ⟨its, rv, hl, _⟩ := I.tuple (by simpa using l1)
          rw [Vals.ref1 r]
          exact sum_tup (I.ok.hd hc) hl rv.ints fun h' tk t' hk => ⟨.int _, H, I.kept hk, ⟨_, rfl⟩, post ρ H _ Ext.refl st (.mk_int _)⟩
      · exact post.elim
    · exact post.elim
  · exact post.elim
end Gx
end
section
set_option maxHeartbeats 1000000
namespace Gx
open PySem PySem.Spec PyProof.Rows L2
section
variable {X : Cx} {W : XW} {e : Expr} {es : List Expr} {d : E} {aa : A} {p : Pos}
theorem da_star (he : DE X W e d) (hr : DA X W es aa) (hs : starEach (.Starred e p :: es) X.env = (true, eval e X.env) :: starEach es X.env := by rfl) : DA X W (.Starred e p :: es) (aStar d aa) := by
  refine ⟨PA.weak (StX.pa_star he.pe hr.pa hs) fun σ H Q h => ?_⟩
  obtain ⟨ρ, S, L, sim, h⟩ := h
  refine ⟨ρ, S, L, sim, Post.bind (Rel' := RVs X.K) h fun x S1 ρ1 H1 w _ e1 s1 r1 h1 => ?_⟩
  split at h1
  · rename_i k xs q
    obtain ⟨a, vs, rfl, r2, l1⟩ := seq_read s1 r1 q
    refine ⟨a, vs, rfl, ?_, ρ1, S1, L, sim.next e1 s1, Post.bind h1 fun ys S2 ρ2 H2 ws _ e2 s2 r3 h2 => ?_⟩
    · cases k with
      | true => exact .inr (by simpa using l1)
      | false => exact .inl (by simpa using l1)
    · exact h2 ρ2 H2 _ Ext.refl s2 ((r2.ext e2).append r3)
  · exact h1.elim
theorem rv_tup0 {K : PySem.W.Frag} {ρ : Pl} {H : Hp} {a : Addr} {od : Option Addr} {n : Nat} {sl : Array (Option Value)} (h : K.lookup a = some ⟨.type "tuple", od, .seq #[] n, sl⟩) : RV K ρ H (.tup []) (.ref a) := by
  unfold RV
  exact ⟨a, [], rfl, .inr ⟨_, #[], n, h, rfl, rfl, by simp, .nil⟩, .nil⟩
end
end Gx
end
section
set_option maxHeartbeats 2000000
set_option maxRecDepth 100000
namespace Gx
open PySem PySem.Spec PyProof.Rows L2 PpSet
def cnt : List Int → Nat
  | [] => 0
  | x :: xs => (if x ∈ xs then 0 else 1) + cnt xs
theorem cnt_le : ∀ xs : List Int, cnt xs ≤ xs.length
  | [] => Nat.le_refl 0
  | x :: xs => by have := cnt_le xs; simp only [cnt, List.length_cons]; split <;> omega
def eLenSc (own : List Nat) (wi : I) (g : G) (tt : T) (ee : E) : E := fun L S => (wi L S).bind fun src S1 => (calm (compGo src.ok g tt ee (wipeL L own) src.items S1)).bind fun xs S2 => match intsOf xs with
  | some ns => if ns.length < 1000 then .ok (.int (cnt ns.reverse)) S2 else .bad
  | none => .bad
theorem intsOf_app : ∀ {xs ys : List Val} {ns : List Int}, intsOf (xs ++ ys) = some ns → ∃ a b, intsOf xs = some a ∧ intsOf ys = some b ∧ ns = a ++ b
  | [], ys, ns, h => ⟨[], ns, rfl, h, rfl⟩
  | x :: xs, ys, ns, h => by
    cases x with
    | int i =>
      simp only [List.cons_append, intsOf, Option.map_eq_some_iff] at h
      obtain ⟨m, hm, rfl⟩ := h
      obtain ⟨a, b, h1, h2, rfl⟩ := intsOf_app hm
      exact ⟨i :: a, b, by simp [intsOf, h1], h2, rfl⟩
    | _ => simp [intsOf] at h
theorem ints_snoc : ∀ {xs : List Val} {ns : List Int} {k : Int}, intsOf xs = some ns → intsOf (xs ++ [.int k]) = some (ns ++ [k])
  | [], ns, k, h => by simp [intsOf] at h; subst h; rfl
  | x :: xs, ns, k, h => by
    cases x with
    | int i =>
      simp only [intsOf, Option.map_eq_some_iff] at h
      obtain ⟨m, hm, rfl⟩ := h
      simp [intsOf, ints_snoc (k := k) hm]
    | _ => simp [intsOf] at h
def Soft (o : HO) : Prop := (∀ ws, o ≠ .tup ws) ∧ ∀ a u, o ≠ .frz a u
theorem softE {phi : Heap → Prop} : Soft (.ext phi) := ⟨fun _ q => (by cases q), fun _ _ q => (by cases q)⟩
section
variable {K : PySem.W.Frag} {ρ : Pl} {H : Hp} {S : Store} {D a : Addr} {o o' u : HO}
theorem fuW (hm : D ∈ ρ.m) (h : Fu ρ H a u) : Fu ρ (upd H D o) a u := ⟨by rw [upd_ne (fun z => h.2.2 (by rw [z]; exact hm))]; exact h.1, h.2.1, h.2.2⟩
theorem fzW (hm : D ∈ ρ.m) (hD : H D = some o') (so : Soft o') (h : Fz ρ H a u) : Fz ρ (upd H D o) a u := by
  rcases h with ⟨b, q⟩ | ⟨q, q1, q2⟩
  · exact .inl ⟨b, by rw [upd_ne (ne_of q hD (fun z => so.2 _ _ z.symm))]; exact q⟩
  · exact .inr ⟨by rw [upd_ne (fun z => q2 (by rw [z]; exact hm))]; exact q, q1, q2⟩
theorem sqW {ws : List V} (hD : H D = some o') (so : Soft o') (h : SqT K H a ws) : SqT K (upd H D o) a ws := by
  rcases h with (q | ⟨b, q⟩) | q
  · exact .inl (.inl (by rw [upd_ne (ne_of q hD (fun z => so.1 _ z.symm))]; exact q))
  · exact .inl (.inr ⟨b, by rw [upd_ne (ne_of q hD (fun z => so.2 _ _ z.symm))]; exact q⟩)
  · exact .inr q
theorem stW (hm : D ∈ ρ.m) (hD : H D = some o') (so : Soft o') (h : StOk K ρ H S) : StOk K ρ (upd H D o) S :=
  h.map (fun _ _ q => fzW hm hD so q) (fun _ _ q => fuW hm q) (fun _ _ q => sqW hD so q) rfl (fun b hb => upd_ne fun z => (h.bz D hm).2 (z ▸ hb)) fun b hb => by
    obtain ⟨⟨v, hv⟩, hn⟩ := h.bz b hb
    by_cases e : b = D
    · subst e; exact ⟨⟨_, upd_same⟩, hn⟩
    · exact ⟨⟨v, by rw [upd_ne e]; exact hv⟩, hn⟩
theorem extW {ρ1 : Pl} {H1 : Hp} (hn : H D = none) (e : ExtB ρ H ρ1 H1) : ExtB ρ H ρ1 (upd H1 D o) :=
  ⟨e.pre, e.bus, fun b v h k => by rw [upd_ne (ne_of_none h hn)]; exact e.fix b v h k, e.new, fun b h => e.live b (upd_live h)⟩
theorem busyW (hD : H D = none) : ExtB ρ H ⟨ρ.c, D :: ρ.m⟩ (upd H D o) :=
  ⟨⟨[], by simp⟩, fun b h => by
    rcases List.mem_cons.mp h with z | z
    · exact .inr (z ▸ hD)
    · exact .inl z, fun b v h _ => by rw [upd_ne (ne_of_none h hD)]; exact h, fun _ h => .inl h, fun b h => upd_live h⟩
theorem freeW {m : List Addr} (hs : ∀ b, b ∈ m → b ∈ ρ.m) (h : StOk K ρ H S) : StOk K ⟨ρ.c, m⟩ H S :=
  h.map (fun b v q => fz_free hs q) (fun b v ⟨q, q1, q2⟩ => ⟨q, q1, fun z => q2 (hs b z)⟩) (fun _ _ q => q) rfl (fun _ _ => rfl) fun b hb => h.bz b (hs b hb)
end
section
variable {X : Cx} {W : XW} {elt tg iter : Expr} {ifs : List Expr} {scope : Scope} {own : List (Str × Nat)} {p pos2 pos : Pos} {wi : I} {g : G} {t : TG} {tt : T} {ee : E}
theorem wipe_twice (vs : List Nat) (σ : L2.St) : L2.wipe (L2.wipe σ vs) vs = L2.wipe σ vs := by
  apply List.ext_getElem?
  intro j
  by_cases hj : j ∈ vs
  · have z : ∀ τ : L2.St, (L2.wipe τ vs)[j]? = if j < τ.length then some none else none := by
      intro τ
      split
      · rename_i hl
        cases zz : (L2.wipe τ vs)[j]? with
        | none =>
          have := List.getElem?_eq_none_iff.mp zz
          rw [wipe_length] at this
          omega
        | some x =>
          cases x with
          | none => rfl
          | some v => exact absurd hj (wipe_some zz).2
      · rename_i hl
        exact List.getElem?_eq_none_iff.mpr (by rw [wipe_length]; omega)
    rw [z, z, wipe_length]
  · rw [wipe_out hj]
theorem de_lenSc (hcalm : X.calm = true) (nd : X.N.Nodup) (hgl : Gl X "len") (hml : X.mg "len" = none) (hi : DI X W tg iter wi) (blk : BlkOk X.N X.env.scope scope own)
    (pgt : ∀ (s : Shared) (H : Hp) (C : Addr) (cl : List (Str × Addr)) (fp : List Addr), PG (X.blk s H scope (compEnvC scope cl C X.env) fp) tg t) (gg : GoodG X.K (own.map (·.2)) g t)
    (dtt : ∀ (s : Shared) (H : Hp) (C : Addr) (cl : List (Str × Addr)) (fp : List Addr), DTs (X.blk s H scope (compEnvC scope cl C X.env) fp) W0 ifs tt)
    (dee : ∀ (s : Shared) (H : Hp) (C : Addr) (cl : List (Str × Addr)) (fp : List Addr), DE (X.blk s H scope (compEnvC scope cl C X.env) fp) W0 elt ee) (fold : ∀ x, foldedSetIterable iter X.env x = pure x := by intro _; rfl) :
    DE X W (.Call (.Name "len" p) [.SetComp elt [⟨tg, iter, ifs, 0⟩] scope pos2] [] pos) (eLenSc (own.map (·.2)) wi g tt ee) := by
  refine ⟨⟨fun pins s σ H Q I h => ?_⟩⟩
  obtain ⟨ρ, S, L, sim, h⟩ := h
  refine Call_ (ld_blt I hgl hml boot_len ?_)
  refine PyProof.Rows.callWith_builtin1 (PyProof.Rows.args_cons ?_ rfl) rfl rfl
  rw [eval_SetComp]
  have clo : ∀ y ∈ scope.names, y.2 = .free → ∃ c, X.env.cells.lookup y.1 = some c := fun y hy e => (blk.free y hy e).elim (fun k => I.ok.has _ (.inl k)) fun k => I.ok.has _ (.inr k)
  have hI : lI X.K W wi σ H fun J H1 => ∃ src S1 ρ1, Ext ρ H ρ1 H1 ∧ StOk X.K ρ1 H1 S1 ∧ Serves X.K ρ1 H1 src J ∧ Post X.K W (RV X.K) ρ1 H1 σ ((calm (compGo src.ok g tt ee (wipeL L (own.map (·.2))) src.items S1)).bind fun xs S2 => match intsOf xs with
      | some ns => if ns.length < 1000 then R.ok (.int (cnt ns.reverse)) S2 else .bad
      | none => .bad) Q := ⟨ρ, S, L, sim, Post.bind h fun src S1 ρ1 H1 J _ e1 s1 sv h1 => ⟨src, S1, ρ1, e1, s1, sv, h1⟩⟩
  refine wpAny_comprehension_free (use := none) rfl fold (closure_ok clo) blk.kind (fun y hy e => by rw [blk.uniq y hy, e])
    (thn (hi.pi.run pins s σ H _ I hI) fun xv s1 hx => thn hx fun itv s2 h2 => ?_)
  obtain ⟨it, fp, tn, J, H2, rfl, I2, TT, st2, f2, src, S1, ρ1, e1, s1, sv, h1⟩ := h2
  refine newSet_ok (newEnv_comp ?_)
  generalize hD : s2.heap.objs.size = D
  have hDn : H2 D = none := I2.hok.fresh (Nat.le_of_eq hD)
  -- it ends well
  obtain ⟨xs, S9, ns, run9, in9, n9, post9⟩ : ∃ xs S9 ns, compGo src.ok g tt ee (wipeL L (own.map (·.2))) src.items S1 = .ok xs S9 ∧ intsOf xs = some ns ∧ ns.length < 1000 ∧ Post X.K W (RV X.K) ρ1 H2 σ (R.ok (.int (cnt ns.reverse)) S9) Q := by
    cases q : compGo src.ok g tt ee (wipeL L (own.map (·.2))) src.items S1 with
    | ok xs S9 =>
      rw [q] at h1
      simp only [calm, R.bind_ok] at h1
      split at h1
      · rename_i ns qn
        split at h1
        · rename_i hz; exact ⟨xs, S9, ns, rfl, qn, hz, h1⟩
        · exact h1.elim
      · exact h1.elim
    | exn _ _ => rw [q] at h1; exact h1.elim
    | bad => rw [q] at h1; exact h1.elim
  have locW := (sim.loc.ext e1).wipe (own.map (·.2))
  let SO : List Int → HO := fun l => SetO X.w D (fun j => decide (j ∈ l)) (cnt l)
  have soft : ∀ l, Soft (SO l) := fun l => softE
  generalize hs3 : ({ s2 with heap := s2.heap.push { cls := .type "set", dict := none, data := .set #[] 0 (.fresh 0 0 (!X.w.params.followText "set-order")) } } : Shared) = s3
  have h3 : s3.heap = s2.heap.push { cls := .type "set", dict := none, data := .set #[] 0 (.fresh 0 0 (!X.w.params.followText "set-order")) } := by rw [← hs3]
  have I3 : Inv X pins σ (upd H2 D (SO [])) s3 := by
    rw [← hs3]
    refine I2.laid (t' := s2.toks) (fun b o e => Heap.get?_push_of_some _ e) (Nat.le_of_eq hD) ?_
    show ObjOk _ _ (upd H2 D (SetO X.w D (fun j => decide (j ∈ ([] : List Int))) 0)) _ D (SetO X.w D (fun j => decide (j ∈ ([] : List Int))) 0)
    rw [← hD]
    exact setO_new (S := fun j => decide (j ∈ ([] : List Int))) (n := 0) ((setR_fresh X.w).congr fun k => by simp)
  have sz : ∀ b ∈ fp, b < s2.heap.objs.size := fun b hb => let ⟨o, e, _⟩ := TT.obj _ _ st2 b hb; Heap.lt_size e
  have f3 : ∀ b ∈ fp, FpOk X pins (upd H2 D (SO [])) b ∧ b < s3.heap.objs.size := fun b hb =>
    ⟨⟨by rw [upd_ne (by rw [← hD]; exact Nat.ne_of_lt (sz b hb))]; exact (f2 b hb).1, (f2 b hb).2⟩, by rw [h3, Heap.size_push]; exact Nat.lt_succ_of_lt (sz b hb)⟩
  have st3 : tn 0 s3.heap := TT.keep _ _ _ st2 fun b _ o e => by rw [h3]; exact Heap.get?_push_of_some _ e
  have I4 := block_start I3 blk nd f3
  have kg := pgt s3 (upd H2 D (SO [])) s3.heap.objs.size (cellsFrom (s3.heap.objs.size + 1) scope.names (cloFrom X.env.cells scope.names [])) fp
  have kt := (dtt s3 (upd H2 D (SO [])) s3.heap.objs.size (cellsFrom (s3.heap.objs.size + 1) scope.names (cloFrom X.env.cells scope.names [])) fp).pts
  have ke := (dee s3 (upd H2 D (SO [])) s3.heap.objs.size (cellsFrom (s3.heap.objs.size + 1) scope.names (cloFrom X.env.cells scope.names [])) fp).pe
  have nfp : ∀ b ∈ fp, (upd H2 D (SO [])) b = none := fun b hb => (f3 b hb).1.1
  -- what follows the set
  let Qf : Value → Shared → Prop := fun v₁ s₁ => wpAny (model X.prog X.w) X.A (spliced (backTo pos (starEach [] X.env))) (fun vs s₂ => wpAny (model X.prog X.w) X.A (call (.builtin "len") (v₁ :: vs)) (EP X pins σ Q) X.xe s₂) X.xe s₁
  show codeAny _ _ (.compStart (.SetComp elt [⟨tg, iter, ifs, 0⟩] scope pos2) 0 (.ref it) (.ref D) (compEnvC scope (cellsFrom (s3.heap.objs.size + 1) scope.names (cloFrom X.env.cells scope.names [])) s3.heap.objs.size X.env)) (compPost (model X.prog X.w) X.A X.xe none Qf (.ref D) s3.heap.objs.size) { s3 with heap := pushCells (s3.heap.push { cls := .type "dict", data := .dict #[] }) scope.names }
  generalize hce : compEnvC scope (cellsFrom (s3.heap.objs.size + 1) scope.names (cloFrom X.env.cells scope.names [])) s3.heap.objs.size X.env = ce at I4 kg kt ke ⊢
  have cL : ce.locals = s3.heap.objs.size := by subst hce; rfl
  generalize hH3 : upd H2 D (SO []) = H3 at I3 I4 kg kt ke nfp f3
  generalize hs4 : ({ s3 with heap := pushCells (s3.heap.push { cls := .type "dict", data := .dict #[] }) scope.names } : Shared) = s4 at I4 ⊢
  have st4 : tn 0 s4.heap := TT.keep _ _ _ st3 fun b _ o e => by rw [← hs4]; exact pushCells_keeps _ _ _ _ (Heap.get?_push_of_some _ e)
  have stat : ∀ {σ' : L2.St} {H' : Hp} {s' : Shared}, Inv (X.blk s3 H3 scope ce fp) [] σ' H' s' → (∀ b ∈ fp, H' b = none) → ∀ b ∈ fp, FpOk (X.blk s3 H3 scope ce fp) [] H' b := fun {σ' H' s'} J' hn b hb =>
    ⟨hn b hb, (J'.ok.exf b hb).1, J'.ok.exfs b hb, .inl hb, fun x c e => (J'.ok.exf b hb).2 x c e, fun q hq => absurd (show q ∈ ([] : List (Addr × Obj)) ++ [] from hq) (by simp)⟩
  -- what is known ahead of each turn
  let Z : Nat → Hp → Prop := fun i H' => i ≤ src.items.length ∧ ∃ ρ2 S2 acc rest done, ExtB ρ1 H2 ρ2 H' ∧ ρ2.m = D :: ρ1.m ∧ StOk X.K ρ2 H' S2 ∧ intsOf acc = some done ∧ H' D = some (SO done.reverse) ∧
    compGo src.ok g tt ee (wipeL L (own.map (·.2))) (src.items.drop i) S2 = .ok rest S9 ∧ xs = acc ++ rest
  have z0 : Z 0 H3 := by
    subst hH3
    refine ⟨Nat.zero_le _, ⟨ρ1.c, D :: ρ1.m⟩, S1, [], xs, [], busyW hDn, rfl, ?_, rfl, upd_same, run9, rfl⟩
    have base : StOk X.K ρ1 (upd H2 D (SO [])) S1 := s1.new hDn
    refine ⟨base.len, base.nd, fun b hb => ?_, fun n c hn => ?_⟩
    · rcases List.mem_cons.mp hb with z | z
      · subst z; exact ⟨⟨_, upd_same⟩, s1.fresh hDn⟩
      · exact base.bz b z
    · obtain ⟨q, hq, rc⟩ := s1.cell n c hn
      exact ⟨q, hq, RC.map (fun a u k => (busyW hDn).fz k) (fun a u k => (busyW hDn).fu k) (fun a ws k => (busyW (ρ := ρ1) hDn).sqt k) rfl (upd_ne fun z => s1.fresh hDn (z ▸ List.mem_of_getElem? hq)) rc⟩
  have loop : codeAny (model X.prog X.w) X.A (.compLoop (.SetComp elt [⟨tg, iter, ifs, 0⟩] scope pos2) 0 (.ref it) (.ref D) ce) (compPost (model X.prog X.w) X.A X.xe none Qf (.ref D) s3.heap.objs.size) s4 := by
    refine compLoopS_any (fun n s' => ∃ i H', n = src.items.length - i ∧ Inv (X.blk s3 H3 scope ce fp) [] (L2.wipe σ (own.map (·.2))) H' s' ∧ tn i s'.heap ∧ (∀ b ∈ fp, H' b = none) ∧ Z i H') ?_ src.items.length ⟨0, H3, by simp, I4, st4, nfp, z0⟩
    rintro n s5 ⟨i, H5, rfl, I5, st5, n5, hi5, ρ2, S2, acc, rest, done, e2, m2, s2', in2, hD2, ec, ex⟩
    have hDm : D ∈ ρ2.m := by rw [m2]; exact List.mem_cons_self
    have hDc : D ∉ ρ2.c := (s2'.bz D hDm).2
    by_cases hlt : i < src.items.length
    · rw [List.drop_eq_getElem_cons hlt] at ec
      unfold compGo at ec
      split at ec
      · rename_i okS
        obtain ⟨go, yld⟩ := (sv ρ2 H5 S2 e2 s2' okS).1 i _ (List.getElem?_eq_getElem hlt)
        have ti := TT.item (X.blk s3 H3 scope ce fp) rfl rfl rfl hcalm i [] s5 _ H5 (fun _ _ => False) I5 (stat I5 n5) st5 go
        refine thnF ti fun r s6 ⟨u, hr, h6⟩ => ?_
        subst hr
        refine thnF h6 fun _ s7 ⟨x, H7, I7, r7, y7, st7, n7⟩ => ?_
        obtain ⟨e3, s3', r3, k3⟩ := yld x H7 y7
        have I7' := I7.pinned (stat I7 n7) (TT.obj _ _ st7)
        have sim3 : Sim X.K ρ2 H7 (wipeL L (own.map (·.2))) S2 (L2.wipe σ (own.map (·.2))) := ⟨s3', ⟨locW.1, fun i v q => let ⟨w, a, b⟩ := locW.2 i v q; ⟨w, a, (b.extB e2).ext e3⟩⟩⟩
        have hg7 := gg.run ρ2 H7 (wipeL L (own.map (·.2))) S2 _ _ x sim3 r3
        -- a turn's end
        have fin : ∀ {σ8 : L2.St} {s' : Shared} {H' : Hp}, L2.wipe σ8 (own.map (·.2)) = L2.wipe σ (own.map (·.2)) → Inv (X.blk s3 H3 scope ce fp) ([] ++ pinsAt fp s7.heap) σ8 H' s' → Z (i + 1) H' →
            ∃ m, m < src.items.length - i ∧ ∃ j H'', m = src.items.length - j ∧ Inv (X.blk s3 H3 scope ce fp) [] (L2.wipe σ (own.map (·.2))) H'' s' ∧ tn j s'.heap ∧ (∀ b ∈ fp, H'' b = none) ∧ Z j H'' := fun {σ8 s' H'} hw8 J' zz => by
          have pin' : ∀ b ∈ fp, ∀ o, s7.heap.get? b = some o → s'.heap.get? b = some o ∧ H' b = none := fun b hb o e =>
            let q := J'.pin (b, o) (List.mem_append_right _ (List.mem_append_right _ (mem_pinsAt hb e)))
            ⟨q.1, q.2.1⟩
          have hl : (L2.wipe σ (own.map (·.2))).length = σ8.length := by rw [← hw8, wipe_length]
          refine ⟨src.items.length - (i + 1), by omega, i + 1, H', rfl, (J'.unpinned (pins := [])).weak hl (fun j v e => ?_), TT.keep _ _ _ st7 fun b hb o e => (pin' b hb o e).1, fun b hb => ?_, zz⟩
          · rw [← hw8] at e
            exact (wipe_some e).1
          · obtain ⟨o, e, _⟩ := TT.obj _ _ st7 b hb
            exact (pin' b hb o e).2
        cases q : g src.items[i] (wipeL L (own.map (·.2))) S2 with
        | nx L4 S4 =>
          rw [q] at hg7 ec
          dsimp only at ec
          obtain ⟨rfl, σ4, sim4, wp4, k4⟩ := hg7
          refine thnF (kg.run _ s7 _ H7 x u _ I7' r7 (k4 (fun σ' H' => σ' = σ4 ∧ H' = H7) ⟨rfl, rfl⟩)) fun _ s8 ⟨σ8, H8, I8, hσ, hH⟩ => ?_
          subst hσ hH
          have w8 := wp4.trans (wipe_twice (own.map (·.2)) σ)
          cases qc : tt L4 S4 with
          | bad => rw [qc] at ec; cases ec
          | exn _ _ => rw [qc] at ec; cases ec
          | ok k S5 =>
            rw [qc] at ec
            simp only [R.bind_ok] at ec
            have hT : lT X.K W0 tt σ8 H8 fun b H9 => b = k ∧ ∃ ρ5, Ext ρ2 H8 ρ5 H9 ∧ StOk X.K ρ5 H9 S5 := ⟨ρ2, _, L4, sim4, by rw [qc]; exact fun ρ5 H9 b e5 s5 eb => ⟨eb.symm, ρ5, e5, s5⟩⟩
            refine thnF (kt.run _ s8 σ8 H8 _ I8 hT) fun b s9 ⟨H9, I9, eb, ρ5, e5, s5⟩ => ?_
            subst eb
            have m5 : ρ5.m = D :: ρ1.m := e5.eqm.trans m2
            have e15 : ExtB ρ1 H2 ρ5 H9 := (e2.trans e3.toExtB).trans e5.toExtB
            have hD9 : H9 D = some (SO done.reverse) := e5.fix D _ (k3 D _ hD2) (.inl hDc)
            cases b with
            | false =>
              simp only [Bool.false_eq_true, if_false] at ec ⊢
              exact fin w8 I9 ⟨hlt, ρ5, S5, acc, rest, done, e15, m5, s5, in2, hD9, ec, ex⟩
            | true =>
              simp only [if_true] at ec ⊢
              cases qe : ee L4 S5 with
              | bad => rw [qe] at ec; cases ec
              | exn _ _ => rw [qe] at ec; cases ec
              | ok v S6 =>
                rw [qe] at ec
                simp only [R.bind_ok] at ec
                cases qr : compGo src.ok g tt ee (wipeL L (own.map (·.2))) (src.items.drop (i + 1)) S6 with
                | bad => rw [qr] at ec; cases ec
                | exn _ _ => rw [qr] at ec; cases ec
                | ok r S7 =>
                  rw [qr] at ec
                  simp only [R.bind_ok, R.ok.injEq] at ec
                  obtain ⟨rfl, rfl⟩ := ec
                  have hE : lE X.K W0 ee σ8 H9 fun y HA => RV X.K ρ5 HA v y ∨ ∃ ρ6, Ext ρ5 H9 ρ6 HA ∧ StOk X.K ρ6 HA S6 ∧ RV X.K ρ6 HA v y := ⟨ρ5, S5, L4, sim4.next e5 s5, by rw [qe]; exact fun ρ6 H6 w6 e6 s6 r6 => .inr ⟨ρ6, e6, s6, r6⟩⟩
                  have hE : lE X.K W0 ee σ8 H9 fun y HA => ∃ ρ6, Ext ρ5 H9 ρ6 HA ∧ StOk X.K ρ6 HA S6 ∧ RV X.K ρ6 HA v y := ⟨ρ5, S5, L4, sim4.next e5 s5, by rw [qe]; exact fun ρ6 H6 w6 e6 s6 r6 => ⟨ρ6, e6, s6, r6⟩⟩
                  refine thnF (ke.run _ s9 σ8 H9 _ I9 hE) fun z sA ⟨yv, HA, IA, rA, ρ6, e6, s6, r6⟩ => ?_
                  obtain ⟨da, rst, hin, hir, en⟩ := intsOf_app (show intsOf (acc ++ v :: r) = some ns by rw [← ex]; exact in9)
                  rw [in2] at hin; cases hin
                  obtain ⟨kk, rfl⟩ : ∃ kk, v = .int kk := by
                    cases v with
                    | int kk => exact ⟨kk, rfl⟩
                    | _ => simp [intsOf] at hir
                  obtain rfl := r6.int_inv
                  have m6 : ρ6.m = D :: ρ1.m := e6.eqm.trans m5
                  have hD5c : D ∉ ρ5.c := (s5.bz D (by rw [m5]; exact List.mem_cons_self)).2
                  have hDA : HA D = some (SO done.reverse) := e6.fix D _ hD9 (.inl hD5c)
                  have hDm6 : D ∈ ρ6.m := by rw [m6]; exact List.mem_cons_self
                  have bound : cnt done.reverse + 1 < scanBound := by
                    have c1 := cnt_le done.reverse
                    have c2 : done.length ≤ ns.length := by rw [en]; simp
                    rw [List.length_reverse] at c1
                    show _ < 4096
                    omega
                  obtain ⟨tk, rfl⟩ := rA
                  have add := mt_sadd (X := X.blk s3 H3 scope ce fp) ([] ++ pinsAt fp s7.heap) sA σ8 HA (.ref D) [.int kk] (.ref D) [.int kk tk] (fun _ HB => HB = upd HA D (SO (done ++ [kk]).reverse)) IA rfl (.cons ⟨tk, rfl⟩ .nil) ⟨D, kk, _, _, rfl, rfl, hDA, bound, ?_⟩
                  · refine thnF add fun _ sB ⟨_, HB, IB, _, eB⟩ => ?_
                    subst eB
                    refine fin w8 IB ⟨hlt, ρ6, S6, acc ++ [.int kk], r, done ++ [kk], extW hDn (e15.trans e6.toExtB), m6, stW hDm6 hDA (soft _) s6, ?_, upd_same, qr, by rw [ex]; simp⟩
                    exact ints_snoc in2
                  · congr 1
                    simp only [SO, List.reverse_append, List.reverse_cons, List.reverse_nil, List.nil_append, List.cons_append]
                    congr 1
                    · funext j
                      simp only [List.mem_cons]
                      by_cases h1 : j ∈ done.reverse <;> by_cases h2 : j = kk <;> simp [h1, h2]
                    · simp only [cnt, decide_eq_true_eq]
                      split <;> omega
        | bad => rw [q] at ec; cases ec
        | ret _ _ => rw [q] at hg7; exact hg7.elim
        | exn _ _ _ => rw [q] at hg7; exact hg7.elim
      · cases ec
    · have ei : i = src.items.length := by omega
      subst ei
      rw [List.drop_length] at ec
      unfold compGo at ec
      split at ec
      · rename_i okS
        simp only [R.ok.injEq] at ec
        obtain ⟨rfl, rfl⟩ := ec
        have td := TT.done (X.blk s3 H3 scope ce fp) rfl rfl rfl hcalm _ [] s5 _ H5 (fun _ _ => False) I5 (stat I5 n5) st5 (sv ρ2 H5 S2 e2 s2' okS).2
        refine thnF td fun r s6 ⟨hr, I6⟩ => ?_
        subst hr
        have I7 : Inv X pins σ H5 s6 := I3.call' (ch := fp) I6.os I6.base I6.hok I6.bare fun b hb => ⟨(f3 b hb).1.2.2.2.1, (f3 b hb).1.2.1, (f3 b hb).1.2.2.2.2.1, (f3 b hb).1.2.2.2.2.2⟩
        have nC : H5 s3.heap.objs.size = none := by rw [← cL]; exact I6.free
        obtain ⟨m, hn, _⟩ := I6.loc
        have hn : s6.heap.Ns s3.heap.objs.size m := by rw [← cL]; exact hn
        obtain ⟨f0, f1, f2', f3', f4, f5⟩ := I3.fpOk (Nat.le_refl _) nC
        refine ⟨m, hn, fun h'' sb => ?_⟩
        have I8 := I7.turned (t' := s6.toks) (fun b o hb e => (sb.2 b hb).trans e) f0 f1 f3' f4 f5
        refine PyProof.Rows.args_nil ?_
        rw [List.append_nil] at ex
        subst ex
        rw [in2] at in9; cases in9
        obtain ⟨o, es, ep, tb, ho, hex, hd, _, _, _, hsz, hf, hn2, _⟩ := setO_get I8 hD2
        refine call_len_set ho hex hd hf (by rw [hn2]; have := cnt_le ns.reverse; rw [List.length_reverse] at this; omega) ?_
        refine ⟨.int (cnt ns.reverse), H5, I8.tok _, ⟨_, by rw [hn2]⟩, ?_⟩
        exact post9 ⟨ρ2.c, ρ1.m⟩ H5 _ (.mk' e2.pre rfl e2.fix e2.new e2.live) (freeW (fun b hb => by rw [m2]; exact List.mem_cons_of_mem _ hb) s2') (.mk_int _)
      · cases ec
  exact codeAny_compStart_set loop (TT.self X.A 0 _ _ _ st4 loop)
end
end Gx
end
section
set_option maxHeartbeats 1000000
set_option maxRecDepth 100000
namespace Gx
open PySem PySem.Spec PyProof.Rows L2
open Sem (wp)
abbrev IsZs (h : Heap) (z TI TO : Addr) (f0 : Value) (f1 : Bool) : Prop :=
  h.get? z = some { cls := .type "zip", dict := none, data := .fields #[f0, .bool f1, .bool true, .ref TI, .ref TO], slots := #[] }
section
variable {prog : Program} {w : World} {A : Around} {E : Value → Shared → Prop} {s : Shared} {z TI TO T i1 i2 it : Addr} {fp fp1 fp2 : List Addr} {n i : Nat} {P P1 P2 : Nat → Value → Prop} {St St1 St2 : Nat → Heap → Prop} {a1 a2 : Value}
theorem noe_item {Q : Option Value → Shared → Prop} (D : Draws prog w A it fp n P St) (hi : i < n) (st : St i s.heap)
    (h : ∀ x h' tk, P i x → St (i + 1) h' → Heap.SameBut it s.heap h' → Q (some x) { s with heap := h', toks := tk }) : wpAny (model prog w) A (Builtin.SmallTypes.nextOrEnd (.ref it)) Q E s := by
  unfold Builtin.SmallTypes.nextOrEnd
  exact wpAny_bind (wpAny_attempt (D.item i s _ _ hi st fun x h' tk a b c => wpAny_pure (h x h' tk a b c)))
theorem noe_done {Q : Option Value → Shared → Prop} (D : Draws prog w A it fp n P St) (st : St n s.heap)
    (h : ∀ h', Heap.ExtBut it s.heap h' → Q none { s with heap := h' }) : wpAny (model prog w) A (Builtin.SmallTypes.nextOrEnd (.ref it)) Q E s := by
  unfold Builtin.SmallTypes.nextOrEnd
  refine wpAny_bind (wpAny_attempt (D.done s _ _ st fun h' e k he => ?_))
  obtain ⟨o, ho, hc⟩ := he
  exact wpAny_bind (wpAny_isInstance (T := "StopIteration") (b := true) ⟨o, ho, hc⟩ isSubtype_stop (wpAny_pure (h h' k)))
theorem zs_item_held {Q : Value → Shared → Prop} {f : Bool} {oT : Obj} (D : ZipSep2 z TI TO i1 i2 fp1 fp2) (D1 : Draws prog w A i1 fp1 n P1 St1) (D2 : Draws prog w A i2 fp2 n P2 St2)
    (hz : IsZs s.heap z TI TO (rawInt T) f) (hT : s.heap.get? T = some oT) (hTI : IsTupOf2 s.heap TI (.ref i1) (.ref i2)) (st1 : St1 i s.heap) (st2 : St2 i s.heap) (hlt : i < n)
    (hQ : ∀ x1 x2 h' tk, P1 i x1 → P2 i x2 → IsZs h' z TI TO (rawInt T) true → St1 (i + 1) h' → St2 (i + 1) h' → IsTupOf2 h' s.heap.objs.size x1 x2 → h'.objs.size = s.heap.objs.size + 1 →
      (∀ c o, c ≠ z → c ≠ i1 → c ≠ i2 → s.heap.get? c = some o → h'.get? c = some o) → Q (.ref s.heap.objs.size) { s with heap := h', toks := tk }) :
    wpAny (model prog w) A (Builtin.«zip.__next__» ⟨[.ref z], []⟩) (fun fin s' => ∃ v, fin = .done (.ret v) ∧ Q v s') E s := by
  obtain ⟨hp, g, d, tk0, os⟩ := s
  show wpAny _ _ (field (.ref z) 2 >>= _) _ _ _
  refine wpAny_bind (wpAny_field hz rfl (x := .bool true) rfl ?_)
  show wpAny _ _ (field (.ref z) 3 >>= _) _ _ _
  refine wpAny_bind (wpAny_field hz rfl (x := .ref TI) rfl ?_)
  refine wpAny_bind (wpAny_seqItems hTI rfl ?_)
  show wpAny _ _ (Builtin.SmallTypes.ownedTupleIsFree (.ref z) >>= _) _ _ _
  have held : ∀ {R : Bool → Shared → Prop}, (∀ h', IsZs h' z TI TO (rawInt T) true → Heap.SameBut z hp h' → R false ⟨h', g, d, tk0, os⟩) → wpAny (model prog w) A (Builtin.SmallTypes.ownedTupleIsFree (.ref z)) R E ⟨hp, g, d, tk0, os⟩ := fun {R} h => by
    unfold Builtin.SmallTypes.ownedTupleIsFree
    refine wpAny_bind (wpAny_field hz rfl (x := rawInt T) rfl ?_)
    show wpAny _ _ (loadIfAlive ((T : Int).toNat) >>= _) _ _ _
    rw [Int.toNat_natCast]
    refine wpAny_bind (PySem.W.kdx_alive hT ?_)
    simp only [Option.isNone_some, Bool.false_eq_true, if_false]
    refine wpAny_bind (wpAny_field hz rfl (x := .bool f) rfl ?_)
    cases f with
    | true =>
      rw [if_neg (show ¬ ((Value.bool true != Value.bool true) = true) from Bool.false_ne_true)]
      exact wpAny_pure (h hp hz (Heap.SameBut.refl _ _))
    | false =>
      rw [if_pos (show (Value.bool false != Value.bool true) = true from rfl)]
      exact wpAny_bind (wpAny_setField_rec hz (by simp) fun h₁ hz₁ hs₁ => wpAny_pure (h h₁ hz₁ hs₁))
  refine wpAny_bind (held fun h1 hz1 hs1 => ?_)
  simp only [Bool.false_eq_true, if_false]
  refine wpAny_bind ?_
  rw [← Array.forIn_toList]
  simp only [List.forIn_cons, List.forIn_nil]
  refine wpAny_bind (wpAny_bind (wpAny_holding ?_))
  show wpAny _ _ (Builtin.SmallTypes.nextOrEnd (.ref i1)) _ _ ⟨h1, g, d, tk0, os⟩
  refine noe_item D1 hlt (D1.over st1 hs1 D.zf1) fun x1 p1 tk1 hx1 sn1 hp1 => ?_
  replace hp1 : Heap.SameBut i1 h1 p1 := hp1
  refine wpAny_pure ?_
  refine wpAny_bind (wpAny_bind (wpAny_holding ?_))
  show wpAny _ _ (Builtin.SmallTypes.nextOrEnd (.ref i2)) _ _ ⟨p1, g, d, tk1, os⟩
  refine noe_item D2 hlt (D2.over (D2.over st2 hs1 D.zf2) hp1 D.sep1_2) fun x2 p2 tk2 hx2 sn2 hp2 => ?_
  replace hp2 : Heap.SameBut i2 p1 p2 := hp2
  refine wpAny_pure (wpAny_pure ?_)
  show wpAny _ _ (newTuple [x1, x2] >>= _) _ _ _
  refine wpAny_bind (wpAny_newTuple ?_)
  have hsz : p2.objs.size = hp.objs.size := by rw [hp2.1, hp1.1, hs1.1]
  have hz2 : IsZs p2 z TI TO (rawInt T) true := hp2.extBut _ _ D.zi2 (hp1.extBut _ _ D.zi1 hz1)
  have hk : ∀ c o, c ≠ z → c ≠ i1 → c ≠ i2 → hp.get? c = some o → p2.get? c = some o := fun c o c1 c2 c3 e => hp2.extBut _ _ c3 (hp1.extBut _ _ c2 (hs1.extBut _ _ c1 e))
  refine wpAny_pure ⟨_, rfl, ?_⟩
  show Q (.ref p2.objs.size) _
  have up : ∀ c o, p2.get? c = some o → (p2.push { cls := .type "tuple", data := .seq #[x1, x2] }).get? c = some o := fun c o e => Heap.get?_push_of_some _ e
  have hpr : IsTupOf2 (p2.push { cls := .type "tuple", data := .seq #[x1, x2] }) p2.objs.size x1 x2 := Heap.get?_push_size _ rfl
  have hz4 : (p2.push { cls := .type "tuple", data := .seq #[x1, x2] }).objs.size = p2.objs.size + 1 := Heap.size_push ..
  rw [hsz] at hpr hz4 ⊢
  exact hQ x1 x2 _ tk2 hx1 hx2 (up _ _ hz2) (D1.frame _ _ _ (D1.over sn1 hp2 D.sep2_1) fun b _ o e => up b o e) (D2.frame _ _ _ sn2 fun b _ o e => up b o e) hpr hz4 fun c o c1 c2 c3 e => up _ _ (hk c o c1 c2 c3 e)
theorem zs_end_held {Q : Fin → Shared → Prop} {f : Bool} {oT : Obj} (hh : A.handled = none) (D : ZipSep2 z TI TO i1 i2 fp1 fp2) (D1 : Draws prog w A i1 fp1 n P1 St1) (D2 : Draws prog w A i2 fp2 n P2 St2)
    (hz : IsZs s.heap z TI TO (rawInt T) f) (hT : s.heap.get? T = some oT) (hTI : IsTupOf2 s.heap TI (.ref i1) (.ref i2)) (st1 : St1 n s.heap) (st2 : St2 n s.heap)
    (hE : ∀ h' e tk, (∀ c o, c ≠ z → c ≠ i1 → c ≠ i2 → s.heap.get? c = some o → h'.get? c = some o) → (∃ o, h'.get? e = some o ∧ o.cls = .type "StopIteration") → E (.ref e) { s with heap := h', toks := tk }) :
    wpAny (model prog w) A (Builtin.«zip.__next__» ⟨[.ref z], []⟩) Q E s := by
  obtain ⟨hp, g, d, tk0, os⟩ := s
  show wpAny _ _ (field (.ref z) 2 >>= _) _ _ _
  refine wpAny_bind (wpAny_field hz rfl (x := .bool true) rfl ?_)
  show wpAny _ _ (field (.ref z) 3 >>= _) _ _ _
  refine wpAny_bind (wpAny_field hz rfl (x := .ref TI) rfl ?_)
  refine wpAny_bind (wpAny_seqItems hTI rfl ?_)
  show wpAny _ _ (Builtin.SmallTypes.ownedTupleIsFree (.ref z) >>= _) _ _ _
  have held : ∀ {R : Bool → Shared → Prop}, (∀ h', IsZs h' z TI TO (rawInt T) true → Heap.SameBut z hp h' → R false ⟨h', g, d, tk0, os⟩) → wpAny (model prog w) A (Builtin.SmallTypes.ownedTupleIsFree (.ref z)) R E ⟨hp, g, d, tk0, os⟩ := fun {R} h => by
    unfold Builtin.SmallTypes.ownedTupleIsFree
    refine wpAny_bind (wpAny_field hz rfl (x := rawInt T) rfl ?_)
    show wpAny _ _ (loadIfAlive ((T : Int).toNat) >>= _) _ _ _
    rw [Int.toNat_natCast]
    refine wpAny_bind (PySem.W.kdx_alive hT ?_)
    simp only [Option.isNone_some, Bool.false_eq_true, if_false]
    refine wpAny_bind (wpAny_field hz rfl (x := .bool f) rfl ?_)
    cases f with
    | true =>
      rw [if_neg (show ¬ ((Value.bool true != Value.bool true) = true) from Bool.false_ne_true)]
      exact wpAny_pure (h hp hz (Heap.SameBut.refl _ _))
    | false =>
      rw [if_pos (show (Value.bool false != Value.bool true) = true from rfl)]
      exact wpAny_bind (wpAny_setField_rec hz (by simp) fun h₁ hz₁ hs₁ => wpAny_pure (h h₁ hz₁ hs₁))
  refine wpAny_bind (held fun h1 hz1 hs1 => ?_)
  simp only [Bool.false_eq_true, if_false]
  refine wpAny_bind ?_
  rw [← Array.forIn_toList]
  simp only [List.forIn_cons, List.forIn_nil]
  refine wpAny_bind (wpAny_bind (wpAny_holding ?_))
  show wpAny _ _ (Builtin.SmallTypes.nextOrEnd (.ref i1)) _ _ ⟨h1, g, d, tk0, os⟩
  refine noe_done D1 (D1.over st1 hs1 D.zf1) fun p1 hp1 => ?_
  replace hp1 : Heap.ExtBut i1 h1 p1 := hp1
  have st2' : St2 n p1 := D2.frame _ _ _ (D2.over st2 hs1 D.zf2) fun b hb o e => hp1 b o (fun q => D.sep1_2 (q ▸ hb)) e
  have two : ∀ {R : Option Value → Shared → Prop}, (∀ h', Heap.ExtBut i2 p1 h' → R none ⟨h', g, d, tk0, os⟩) → wpAny (model prog w) A (Builtin.SmallTypes.nextOrEnd (.ref i2)) R E ⟨p1, g, d, tk0, os⟩ := fun {R} h => noe_done (s := ⟨p1, g, d, tk0, os⟩) D2 st2' h
  refine wpAny_bind ?_
  wp_walk using two
  intro p2 hp2
  rw [if_neg (show ¬ ((none : Option Value).isSome = true) from Bool.false_ne_true)]
  wp_walk using two
  refine wpAny_raiseNew_none hh ?_
  exact hE _ _ tk0 (fun c o c1 c2 c3 e => Heap.get?_push_of_some _ (Heap.get?_push_of_some _ (hp2 _ _ c3 (hp1 _ _ c2 (hs1.extBut _ _ c1 e))))) ⟨_, Heap.get?_push_size _ rfl, rfl⟩
theorem zs_item_free {Q : Value → Shared → Prop} (D : ZipSep2 z TI TO i1 i2 fp1 fp2) (D1 : Draws prog w A i1 fp1 n P1 St1) (D2 : Draws prog w A i2 fp2 n P2 St2)
    (hz : IsZs s.heap z TI TO .none false) (hTI : IsTupOf2 s.heap TI (.ref i1) (.ref i2)) (hTO : IsTupOf2 s.heap TO a1 a2) (st1 : St1 i s.heap) (st2 : St2 i s.heap) (hlt : i < n)
    (hQ : ∀ x1 x2 h' tk, P1 i x1 → P2 i x2 → IsZs h' z TI TO (rawInt s.heap.objs.size) false → IsTupOf2 h' TO x1 x2 → St1 (i + 1) h' → St2 (i + 1) h' → IsTupOf2 h' s.heap.objs.size x1 x2 → h'.objs.size = s.heap.objs.size + 1 →
      (∀ c o, c ≠ z → c ≠ TO → c ≠ i1 → c ≠ i2 → s.heap.get? c = some o → h'.get? c = some o) → Q (.ref s.heap.objs.size) { s with heap := h', toks := tk }) :
    wpAny (model prog w) A (Builtin.«zip.__next__» ⟨[.ref z], []⟩) (fun fin s' => ∃ v, fin = .done (.ret v) ∧ Q v s') E s := by
  obtain ⟨hp, g, d, tk0, os⟩ := s
  show wpAny _ _ (field (.ref z) 2 >>= _) _ _ _
  refine wpAny_bind (wpAny_field hz rfl (x := .bool true) rfl ?_)
  show wpAny _ _ (field (.ref z) 3 >>= _) _ _ _
  refine wpAny_bind (wpAny_field hz rfl (x := .ref TI) rfl ?_)
  refine wpAny_bind (wpAny_seqItems hTI rfl ?_)
  show wpAny _ _ (Builtin.SmallTypes.ownedTupleIsFree (.ref z) >>= _) _ _ _
  refine wpAny_bind ?_
  unfold Builtin.SmallTypes.ownedTupleIsFree
  refine wpAny_bind (wpAny_field hz rfl (x := .none) rfl (wpAny_pure ?_))
  simp only [if_true]
  refine wpAny_bind (wpAny_rule ?_)
  refine wpAny_bind (wpAny_field hz rfl (x := .ref TO) rfl ?_)
  refine wpAny_bind (wpAny_setField_rec hz (by simp) fun g0 hz0 hs0 => ?_)
  replace hz0 : IsZs g0 z TI TO .ellipsis false := hz0
  replace hs0 : Heap.SameBut z hp g0 := hs0
  refine wpAny_bind ?_
  simp only [List.zipIdx_cons, List.zipIdx_nil, List.forIn_cons, List.forIn_nil]
  refine wpAny_bind (wpAny_bind (wpAny_onRaise ?_))
  show wpAny _ _ (Builtin.SmallTypes.nextOrEnd (.ref i1)) _ _ ⟨g0, g, d, tk0, os⟩
  refine noe_item D1 hlt (D1.over st1 hs0 D.zf1) fun x1 p1 tk1 hx1 sn1 hp1 => ?_
  replace hp1 : Heap.SameBut i1 g0 p1 := hp1
  have hU1 : IsTupOf2 p1 TO a1 a2 := hp1.extBut _ _ D.Ti1 (hs0.extBut _ _ D.TOz hTO)
  refine wpAny_bind (wpAny_seqItems (s := ⟨p1, g, d, tk1, os⟩) hU1 rfl ?_)
  refine wpAny_bind (updateSeq_IsTupOf2 (s := ⟨p1, g, d, tk1, os⟩) hU1 fun g1 hT1 hs1 => ?_)
  replace hT1 : IsTupOf2 g1 TO x1 a2 := hT1
  replace hs1 : Heap.SameBut TO p1 g1 := hs1
  refine wpAny_bind (wpAny_letGo (wpAny_pure ?_))
  refine wpAny_bind (wpAny_bind (wpAny_onRaise ?_))
  show wpAny _ _ (Builtin.SmallTypes.nextOrEnd (.ref i2)) _ _ ⟨g1, g, d, tk1, os⟩
  refine noe_item D2 hlt (D2.over (D2.over (D2.over st2 hs0 D.zf2) hp1 D.sep1_2) hs1 D.Tf2) fun x2 p2 tk2 hx2 sn2 hp2 => ?_
  replace hp2 : Heap.SameBut i2 g1 p2 := hp2
  have hU2 : IsTupOf2 p2 TO x1 a2 := hp2.extBut _ _ D.Ti2 hT1
  refine wpAny_bind (wpAny_seqItems (s := ⟨p2, g, d, tk2, os⟩) hU2 rfl ?_)
  refine wpAny_bind (updateSeq_IsTupOf2 (s := ⟨p2, g, d, tk2, os⟩) hU2 fun g2 hT2 hs2 => ?_)
  replace hT2 : IsTupOf2 g2 TO x1 x2 := hT2
  replace hs2 : Heap.SameBut TO p2 g2 := hs2
  refine wpAny_bind (wpAny_letGo (wpAny_pure (wpAny_pure ?_)))
  refine wpAny_bind (wpAny_seqItems (s := ⟨g2, g, d, tk2, os⟩) hT2 rfl ?_)
  refine wpAny_bind (wpAny_newTuple ?_)
  have hsz : g2.objs.size = hp.objs.size := by rw [hs2.1, hp2.1, hs1.1, hp1.1, hs0.1]
  have hzz : IsZs g2 z TI TO .ellipsis false := (hs2.extBut _ _ D.TOz.symm (hp2.extBut _ _ D.zi2 (hs1.extBut _ _ D.TOz.symm (hp1.extBut _ _ D.zi1 hz0))))
  have hkk : ∀ c o, c ≠ z → c ≠ TO → c ≠ i1 → c ≠ i2 → hp.get? c = some o → g2.get? c = some o := fun c o cz cT c1 c2 e =>
    (hs2.extBut _ _ cT (hp2.extBut _ _ c2 (hs1.extBut _ _ cT (hp1.extBut _ _ c1 (hs0.extBut _ _ cz e)))))
  have hj1 : St1 (i + 1) g2 := (D1.over (D1.over (D1.over sn1 hs1 D.Tf1) hp2 D.sep2_1) hs2 D.Tf1)
  have hj2 : St2 (i + 1) g2 := (D2.over sn2 hs2 D.Tf2)
  have hzlt : z < g2.objs.size := Heap.lt_size hzz
  show wpAny _ _ (Builtin.SmallTypes.ownedTupleHandOut (.ref z) (.ref g2.objs.size) >>= _) _ _ ⟨g2.push { cls := .type "tuple", data := .seq #[x1, x2] }, g, d, tk2, os⟩
  refine wpAny_bind ?_
  unfold Builtin.SmallTypes.ownedTupleHandOut
  have hz6 : IsZs (g2.push { cls := .type "tuple", data := .seq #[x1, x2] }) z TI TO .ellipsis false := Heap.get?_push_of_some _ hzz
  refine wpAny_bind (wpAny_setField_rec hz6 (by simp) fun h7 hz7 hs7 => ?_)
  replace hz7 : IsZs h7 z TI TO (rawInt g2.objs.size) false := hz7
  refine wpAny_setField_rec hz7 (by simp) fun h8 hz8 hs8 => ?_
  replace hz8 : IsZs h8 z TI TO (rawInt g2.objs.size) false := hz8
  replace hs7 : Heap.SameBut z (g2.push { cls := .type "tuple", data := .seq #[x1, x2] }) h7 := hs7
  replace hs8 : Heap.SameBut z h7 h8 := hs8
  have up : ∀ c o, c ≠ z → g2.get? c = some o → h8.get? c = some o := fun c o c1 e => hs8.extBut _ _ c1 (hs7.extBut _ _ c1 (Heap.get?_push_of_some _ e))
  have hT8 : IsTupOf2 h8 g2.objs.size x1 x2 := hs8.extBut _ _ (Nat.ne_of_gt hzlt) (hs7.extBut _ _ (Nat.ne_of_gt hzlt) (Heap.get?_push_size _ rfl))
  have hz9 : h8.objs.size = g2.objs.size + 1 := by rw [hs8.1, hs7.1, Heap.size_push]
  rw [hsz] at hz8 hT8 hz9
  refine wpAny_pure ⟨_, rfl, ?_⟩
  show Q (.ref g2.objs.size) ⟨h8, g, d, tk2, os⟩
  rw [hsz]
  exact hQ x1 x2 h8 tk2 hx1 hx2 hz8 (up _ _ D.TOz hT2) (D1.frame _ _ _ hj1 fun b hb o e => up b o (fun q => D.zf1 (q ▸ hb)) e) (D2.frame _ _ _ hj2 fun b hb o e => up b o (fun q => D.zf2 (q ▸ hb)) e) hT8 hz9 fun c o cz cT c1 c2 e => up c o cz (hkk c o cz cT c1 c2 e)
theorem zs_end_free {Q : Fin → Shared → Prop} (hh : A.handled = none) (D : ZipSep2 z TI TO i1 i2 fp1 fp2) (D1 : Draws prog w A i1 fp1 n P1 St1) (D2 : Draws prog w A i2 fp2 n P2 St2)
    (hz : IsZs s.heap z TI TO .none false) (hTI : IsTupOf2 s.heap TI (.ref i1) (.ref i2)) (hTO : IsTupOf2 s.heap TO a1 a2) (st1 : St1 n s.heap) (st2 : St2 n s.heap)
    (hE : ∀ h' e tk, (∀ c o, c ≠ z → c ≠ i1 → c ≠ i2 → s.heap.get? c = some o → h'.get? c = some o) → (∃ o, h'.get? e = some o ∧ o.cls = .type "StopIteration") → E (.ref e) { s with heap := h', toks := tk }) :
    wpAny (model prog w) A (Builtin.«zip.__next__» ⟨[.ref z], []⟩) Q E s := by
  obtain ⟨hp, g, d, tk0, os⟩ := s
  show wpAny _ _ (field (.ref z) 2 >>= _) _ _ _
  refine wpAny_bind (wpAny_field hz rfl (x := .bool true) rfl ?_)
  show wpAny _ _ (field (.ref z) 3 >>= _) _ _ _
  refine wpAny_bind (wpAny_field hz rfl (x := .ref TI) rfl ?_)
  refine wpAny_bind (wpAny_seqItems hTI rfl ?_)
  show wpAny _ _ (Builtin.SmallTypes.ownedTupleIsFree (.ref z) >>= _) _ _ _
  refine wpAny_bind ?_
  unfold Builtin.SmallTypes.ownedTupleIsFree
  refine wpAny_bind (wpAny_field hz rfl (x := .none) rfl (wpAny_pure ?_))
  simp only [if_true]
  refine wpAny_bind (wpAny_rule ?_)
  refine wpAny_bind (wpAny_field hz rfl (x := .ref TO) rfl ?_)
  refine wpAny_bind (wpAny_setField_rec hz (by simp) fun g0 hz0 hs0 => ?_)
  replace hz0 : IsZs g0 z TI TO .ellipsis false := hz0
  replace hs0 : Heap.SameBut z hp g0 := hs0
  refine wpAny_bind ?_
  simp only [List.zipIdx_cons, List.zipIdx_nil, List.forIn_cons, List.forIn_nil]
  refine wpAny_bind (wpAny_bind (wpAny_onRaise ?_))
  show wpAny _ _ (Builtin.SmallTypes.nextOrEnd (.ref i1)) _ _ ⟨g0, g, d, tk0, os⟩
  refine noe_done D1 (D1.over st1 hs0 D.zf1) fun p1 hp1 => ?_
  replace hp1 : Heap.ExtBut i1 g0 p1 := hp1
  have hz1 : IsZs p1 z TI TO .ellipsis false := hp1 _ _ D.zi1 hz0
  show wpAny _ _ (setField (.ref z) 0 .none >>= _) _ _ ⟨p1, g, d, tk0, os⟩
  refine wpAny_bind (wpAny_setField_rec (s := ⟨p1, g, d, tk0, os⟩) hz1 (by simp) fun p2 hz2 hs2 => ?_)
  replace hs2 : Heap.SameBut z p1 p2 := hs2
  have st2' : St2 n p2 := D2.over (D2.frame _ _ _ (D2.over st2 hs0 D.zf2) fun b hb o e => hp1 b o (fun q => D.sep1_2 (q ▸ hb)) e) hs2 D.zf2
  have two : ∀ {R : Option Value → Shared → Prop}, (∀ h', Heap.ExtBut i2 p2 h' → R none ⟨h', g, d, tk0, os⟩) → wpAny (model prog w) A (Builtin.SmallTypes.nextOrEnd (.ref i2)) R E ⟨p2, g, d, tk0, os⟩ := fun {R} h => noe_done (s := ⟨p2, g, d, tk0, os⟩) D2 st2' h
  refine wpAny_bind ?_
  wp_walk using two
  intro p3 hp3
  rw [if_neg (show ¬ ((none : Option Value).isSome = true) from Bool.false_ne_true)]
  wp_walk using two
  refine wpAny_raiseNew_none hh ?_
  exact hE _ _ tk0 (fun c o c1 c2 c3 e => Heap.get?_push_of_some _ (Heap.get?_push_of_some _ (hp3 _ _ c3 (hs2.extBut _ _ c1 (hp1 _ _ c2 (hs0.extBut _ _ c1 e)))))) ⟨_, Heap.get?_push_size _ rfl, rfl⟩
end
end Gx
end
section
set_option maxHeartbeats 1000000
set_option maxRecDepth 100000
namespace Gx
open PySem PySem.Spec PyProof.Rows L2
open Sem (wp)
abbrev kws1 : List (Str × Value) := [(Str.ofString "strict", .bool true)]
theorem typeCall_zip_s (a b : Value) : checkTypeCall "zip" ⟨[a, b], kws1⟩ = pure () := by kernel_rfl
theorem newCall_zip_s (a b : Value) : checkBuiltinCall "zip.__new__" ⟨[.type "zip", a, b], kws1⟩ = pure () := by kernel_rfl
theorem args_init_zip_s (obj a b : Value) : argsOk "object.__init__" ⟨[obj, a, b], kws1⟩ := by unfold argsOk; kernel_rfl
abbrev gsZ2 (h : Heap) (o1 o2 : Obj) : Heap := (gzO2 h o1 o2).push { cls := .type "zip", data := .fields #[.none, .bool false, .bool true, .ref ((h.push o1).push o2).objs.size, .ref (gzT2 h o1 o2).objs.size] }
theorem meets_zip_newS {v1 v2 : Value} {o1 o2 : Obj} {H1 H2 : Heap → Prop} (B1 : Begins v1 o1 H1) (B2 : Begins v2 o2 H2) :
    Meets (Builtin.«zip.__new__» ⟨[.type "zip", v1, v2], kws1⟩) (fun _ R s => (H1 s.heap ∧ H2 s.heap) ∧
      R (.ok (.ret (.ref (gzO2 s.heap o1 o2).objs.size))) { s with heap := gsZ2 s.heap o1 o2 }) := by
  refine .of_wp fun prog w A R s hh => ?_
  obtain ⟨hp, g, d, tk, os⟩ := s
  obtain ⟨⟨h1, h2⟩, fin⟩ := hh
  have hsub := sub_zip
  have q1 : ∀ {A' : Around} {E : Value → Shared → Prop} {Q : Value → Shared → Prop}, Q (.ref hp.objs.size) ⟨(hp.push o1), g, d, tk, os⟩ → wpAny (model prog w) A' (pyIter v1) Q E ⟨hp, g, d, tk, os⟩ :=
    fun q => B1.iter prog w _ _ ⟨hp, g, d, tk, os⟩ _ (B1.keeps _ _ h1 fun b o' e => e) q
  have q2 : ∀ {A' : Around} {E : Value → Shared → Prop} {Q : Value → Shared → Prop}, Q (.ref (hp.push o1).objs.size) ⟨((hp.push o1).push o2), g, d, tk, os⟩ → wpAny (model prog w) A' (pyIter v2) Q E ⟨(hp.push o1), g, d, tk, os⟩ :=
    fun q => B2.iter prog w _ _ ⟨(hp.push o1), g, d, tk, os⟩ _ (B2.keeps _ _ h2 fun b o' e => (Heap.get?_push_of_some _ e)) q
  have hs : (Str.ofString "strict" != Str.ofString "strict") = false := by decide +kernel
  wp_walk using q1, q2
  exact ⟨_, rfl, fin⟩
section
variable {prog : Program} {w : World} {A : Around} {E : Value → Shared → Prop} {s : Shared} {z TI TO T i1 i2 : Addr} {fp1 fp2 : List Addr} {n i : Nat} {P1 P2 : Nat → Value → Prop} {St1 St2 : Nat → Heap → Prop}
theorem zs_begins {v1 v2 : Value} {o1 o2 : Obj} {H1 H2 : Heap → Prop} {Q : Value → Shared → Prop} (B1 : Begins v1 o1 H1) (B2 : Begins v2 o2 H2) (h1 : H1 s.heap) (h2 : H2 s.heap)
    (h : ∀ h', IsZs h' (s.heap.objs.size + 4) (s.heap.objs.size + 2) (s.heap.objs.size + 3) .none false → IsTupOf2 h' (s.heap.objs.size + 2) (.ref s.heap.objs.size) (.ref (s.heap.objs.size + 1)) →
      IsTupOf2 h' (s.heap.objs.size + 3) .none .none → h'.get? s.heap.objs.size = some o1 → h'.get? (s.heap.objs.size + 1) = some o2 → h'.objs.size = s.heap.objs.size + 5 →
      (∀ c o, s.heap.get? c = some o → h'.get? c = some o) → Q (.ref (s.heap.objs.size + 4)) { s with heap := h' }) :
    wpAny (model prog w) A (call (.type "zip") [v1, v2] kws1) Q E s := by
  refine callType_newKw F.called_zip (by decide) (typeCall_zip_s _ _) (newCall_zip_s _ _) (fun obj => args_init_zip_s obj _ _) F.entry_zip_new
    (meets_zip_newS B1 B2) ⟨⟨h1, h2⟩, ?_⟩
  have z1 : (s.heap.push o1).objs.size = s.heap.objs.size + 1 := by rw [Heap.size_push]
  have z2 : ((s.heap.push o1).push o2).objs.size = s.heap.objs.size + 2 := by rw [Heap.size_push, z1]
  have zT : (gzT2 s.heap o1 o2).objs.size = s.heap.objs.size + 3 := by rw [Heap.size_push, z2]
  have zO : (gzO2 s.heap o1 o2).objs.size = s.heap.objs.size + 4 := by rw [Heap.size_push, zT]
  have zZ : (gsZ2 s.heap o1 o2).objs.size = s.heap.objs.size + 5 := by rw [Heap.size_push, zO]
  have gZ : (gsZ2 s.heap o1 o2).get? (gzO2 s.heap o1 o2).objs.size = some { cls := .type "zip", data := .fields #[.none, .bool false, .bool true, .ref ((s.heap.push o1).push o2).objs.size, .ref (gzT2 s.heap o1 o2).objs.size] } := Heap.get?_push_size _ rfl
  have gO : (gsZ2 s.heap o1 o2).get? (gzT2 s.heap o1 o2).objs.size = some { cls := .type "tuple", data := .seq #[.none, .none] } := Heap.get?_push_of_some _ (Heap.get?_push_size _ rfl)
  have gT : (gsZ2 s.heap o1 o2).get? ((s.heap.push o1).push o2).objs.size = some { cls := .type "tuple", data := .seq #[.ref s.heap.objs.size, .ref (s.heap.push o1).objs.size] } := Heap.get?_push_of_some _ (Heap.get?_push_of_some _ (Heap.get?_push_size _ rfl))
  have g1 : (gsZ2 s.heap o1 o2).get? s.heap.objs.size = some o1 := Heap.get?_push_of_some _ (Heap.get?_push_of_some _ (Heap.get?_push_of_some _ (Heap.get?_push_of_some _ (Heap.get?_push_size _ B1.free))))
  have g2 : (gsZ2 s.heap o1 o2).get? (s.heap.push o1).objs.size = some o2 := Heap.get?_push_of_some _ (Heap.get?_push_of_some _ (Heap.get?_push_of_some _ (Heap.get?_push_size _ B2.free)))
  rw [zO, zT, z2] at gZ
  rw [zT] at gO
  rw [z2, z1] at gT
  rw [z1] at g2
  show _ ∧ _
  rw [zO]
  exact ⟨⟨_, gZ, rfl⟩, h _ gZ gT gO g1 g2 zZ fun c o e => Heap.get?_push_of_some _ (Heap.get?_push_of_some _ (Heap.get?_push_of_some _ (Heap.get?_push_of_some _ (Heap.get?_push_of_some _ e))))⟩
structure ZSt (z TI TO i1 i2 : Addr) (St1 St2 : Nat → Heap → Prop) (i : Nat) (h : Heap) : Prop where
  zs : IsZs h z TI TO .none false ∨ ∃ (T : Addr) (f : Bool) (oT : Obj), IsZs h z TI TO (rawInt T) f ∧ h.get? T = some oT ∧ T ≠ z ∧ T ≠ i1 ∧ T ≠ i2
  ti : IsTupOf2 h TI (.ref i1) (.ref i2)
  to : ∃ a1 a2, IsTupOf2 h TO a1 a2
  s1 : St1 i h
  s2 : St2 i h
theorem zs_next {Q : Option Value → Shared → Prop} (D : ZipSep2 z TI TO i1 i2 fp1 fp2) (D1 : Draws prog w A.in1 i1 fp1 n P1 St1) (D2 : Draws prog w A.in1 i2 fp2 n P2 St2) (st : ZSt z TI TO i1 i2 St1 St2 i s.heap) (hlt : i < n)
    (hQ : ∀ x1 x2 h' tk, P1 i x1 → P2 i x2 → ZSt z TI TO i1 i2 St1 St2 (i + 1) h' → IsTupOf2 h' s.heap.objs.size x1 x2 → h'.objs.size = s.heap.objs.size + 1 →
      (∀ c o, c ∉ [z, TO, i1, i2] → s.heap.get? c = some o → h'.get? c = some o) → Q (some (.ref s.heap.objs.size)) { s with heap := h', toks := tk }) :
    wpAny (model prog w) A (pyNext (.ref z)) Q E s := by
  obtain ⟨hz, hTI, ⟨a1, a2, hTO⟩, st1, st2⟩ := st
  have nt : ∀ {c : Addr} {o : Obj}, s.heap.get? c = some o → s.heap.objs.size ≠ c := fun e => Nat.ne_of_gt (Heap.lt_size e)
  have l1 : s.heap.objs.size ≠ i1 := by obtain ⟨_, e⟩ := D1.live _ _ st1; exact nt e
  have l2 : s.heap.objs.size ≠ i2 := by obtain ⟨_, e⟩ := D2.live _ _ st2; exact nt e
  rcases hz with hz | ⟨T, f, oT, hz, hT, t1, t2, t3⟩
  · have hTy : s.TypeIs (.ref z) "zip" := ⟨_, hz, rfl⟩
    unfold pyNext
    refine wpAny_bind (wpAny_attempt (wpAny_callSpecial?_slot (name := Str.ofString "__next__") hTy F.slot_zip_next (wpAny_call_entry F.slot_zip_next hTy F.entry_zip_next
      (zs_item_free D D1 D2 hz hTI hTO st1 st2 hlt fun x1 x2 h' tk p1 p2 z' to' d1 d2 pr sz k => wpAny_pure ?_) (F.args_zip_next_1 _))))
    exact hQ x1 x2 h' tk p1 p2 ⟨.inr ⟨_, _, _, z', pr, nt hz, l1, l2⟩, k _ _ D.TIz D.TITO D.TIi1 D.TIi2 hTI, ⟨_, _, to'⟩, d1, d2⟩ pr sz fun c o hc e => k c o (fun q => hc (by simp [q])) (fun q => hc (by simp [q])) (fun q => hc (by simp [q])) (fun q => hc (by simp [q])) e
  · have hTy : s.TypeIs (.ref z) "zip" := ⟨_, hz, rfl⟩
    unfold pyNext
    refine wpAny_bind (wpAny_attempt (wpAny_callSpecial?_slot (name := Str.ofString "__next__") hTy F.slot_zip_next (wpAny_call_entry F.slot_zip_next hTy F.entry_zip_next
      (zs_item_held D D1 D2 hz hT hTI st1 st2 hlt fun x1 x2 h' tk p1 p2 z' d1 d2 pr sz k => wpAny_pure ?_) (F.args_zip_next_1 _))))
    exact hQ x1 x2 h' tk p1 p2 ⟨.inr ⟨T, true, _, z', k _ _ t1 t2 t3 hT, t1, t2, t3⟩, k _ _ D.TIz D.TIi1 D.TIi2 hTI, ⟨a1, a2, k _ _ D.TOz D.Ti1 D.Ti2 hTO⟩, d1, d2⟩ pr sz fun c o hc e => k c o (fun q => hc (by simp [q])) (fun q => hc (by simp [q])) (fun q => hc (by simp [q])) e
theorem zs_fin {Q : Option Value → Shared → Prop} (hh : A.handled = none) (D : ZipSep2 z TI TO i1 i2 fp1 fp2) (D1 : Draws prog w A.in1 i1 fp1 n P1 St1) (D2 : Draws prog w A.in1 i2 fp2 n P2 St2) (st : ZSt z TI TO i1 i2 St1 St2 n s.heap)
    (hQ : ∀ h' tk, (∀ c o, c ∉ [z, TO, i1, i2] → s.heap.get? c = some o → h'.get? c = some o) → Q none { s with heap := h', toks := tk }) : wpAny (model prog w) A (pyNext (.ref z)) Q E s := by
  obtain ⟨hz, hTI, ⟨a1, a2, hTO⟩, st1, st2⟩ := st
  have kk : ∀ {h' : Heap}, (∀ c o, c ≠ z → c ≠ i1 → c ≠ i2 → s.heap.get? c = some o → h'.get? c = some o) → ∀ c o, c ∉ [z, TO, i1, i2] → s.heap.get? c = some o → h'.get? c = some o := fun k c o hc e => k c o (fun q => hc (by simp [q])) (fun q => hc (by simp [q])) (fun q => hc (by simp [q])) e
  rcases hz with hz | ⟨T, f, oT, hz, hT, t1, t2, t3⟩
  · have hTy : s.TypeIs (.ref z) "zip" := ⟨_, hz, rfl⟩
    unfold pyNext
    refine wpAny_bind (wpAny_attempt (wpAny_callSpecial?_slot (name := Str.ofString "__next__") hTy F.slot_zip_next (wpAny_call_entry F.slot_zip_next hTy F.entry_zip_next
      (zs_end_free hh D D1 D2 hz hTI hTO st1 st2 fun h' e tk k he => ?_) (F.args_zip_next_1 _))))
    obtain ⟨o, ho, hc⟩ := he
    refine wpAny_bind (wpAny_isInstance (T := "StopIteration") (b := true) ⟨o, ho, hc⟩ isSubtype_stop ?_)
    exact wpAny_pure (hQ _ _ (kk k))
  · have hTy : s.TypeIs (.ref z) "zip" := ⟨_, hz, rfl⟩
    unfold pyNext
    refine wpAny_bind (wpAny_attempt (wpAny_callSpecial?_slot (name := Str.ofString "__next__") hTy F.slot_zip_next (wpAny_call_entry F.slot_zip_next hTy F.entry_zip_next
      (zs_end_held hh D D1 D2 hz hT hTI st1 st2 fun h' e tk k he => ?_) (F.args_zip_next_1 _))))
    obtain ⟨o, ho, hc⟩ := he
    refine wpAny_bind (wpAny_isInstance (T := "StopIteration") (b := true) ⟨o, ho, hc⟩ isSubtype_stop ?_)
    exact wpAny_pure (hQ _ _ (kk k))
end
end Gx
end
section
set_option maxHeartbeats 1000000
set_option maxRecDepth 100000
namespace Gx
open PySem PySem.Spec PyProof.Rows L2
open Sem (wp)
theorem fp_put {X : Cx} {pins : List (Addr × Obj)} {H : Hp} {b T : Addr} {u : HO} (h : FpOk X pins H b) (ne : b ≠ T) : FpOk X pins (upd H T u) b := ⟨by rw [upd_ne ne]; exact h.1, h.2⟩
def HExt (H H' : Hp) : Prop := ∀ b u, H b = some u → H' b = some u
section
variable {X : Cx} {pins : List (Addr × Obj)} {σ : L2.St} {z TI TO S i1 i2 a b : Addr} {k j : Bool} {xs ys : List V} {its its2 : List Value} {n : Nat} {R : Result → Shared → Prop} {B : Around}
structure Drawn2 (H : Hp) (xs ys : List V) (i : Nat) (ts : List Addr) : Prop where
  len : ts.length = i
  at_ : ∀ (q : Nat) (T : Addr), ts[q]? = some T → ∃ x y, H T = some (.tup [x, y]) ∧ xs[q]? = some x ∧ ys[q]? = some y
theorem ext_zs (hh : B.in1.handled = none) (D : ZipSep2 z TI TO i1 i2 [i1, a] [i2, b]) (n1 : a ≠ i1) (n2 : b ≠ i2) (hS : S ∉ [z, TI, TO, i1, i2, a, b]) (rv : Vals xs its) (rv2 : Vals ys its2) (hx : its.length = n) (hy : its2.length = n) (hn : n ≤ sizeLine) (H : Hp) (res : Value) :
    ∀ (c i : Nat) (H1 : Hp) (s : Shared) (ts : List Addr) (m : Nat), n - i = c → i ≤ n → Inv X pins σ H1 s → HExt H H1 → (∀ q ∈ [S, z, TO, i1, i2], FpOk X pins H1 q) → ZSt z TI TO i1 i2 (fun i h => ItO k i1 a i h ∧ SqO k a its.toArray h) (fun i h => ItO j i2 b i h ∧ SqO j b its2.toArray h) i s.heap →
      s.heap.get? S = some { cls := .type "list", dict := none, data := .seq (ts.map Value.ref).toArray m, slots := #[] } → Drawn2 H1 xs ys i ts →
      (∀ H' s' ts' m', Inv X pins σ H' s' → HExt H H' → s'.heap.get? S = some { cls := .type "list", dict := none, data := .seq (ts'.map Value.ref).toArray m', slots := #[] } → Drawn2 H' xs ys n ts' → R (.ok (.ret res)) s') →
      codeAny (model X.prog X.w) B (.builtin "list.extend.loop" ⟨[.ref S, .ref z, res], []⟩) R s := by
  have D1 : Draws X.prog X.w B.in1.in1 i1 [i1, a] n (fun i v => its.toArray[i]? = some v) (fun i h => ItO k i1 a i h ∧ SqO k a its.toArray h) := by
    have := draws_sq (prog := X.prog) (w := X.w) (A := B.in1.in1) hh k i1 a n1 its.toArray
    rwa [List.size_toArray, hx] at this
  have D2 : Draws X.prog X.w B.in1.in1 i2 [i2, b] n (fun i v => its2.toArray[i]? = some v) (fun i h => ItO j i2 b i h ∧ SqO j b its2.toArray h) := by
    have := draws_sq (prog := X.prog) (w := X.w) (A := B.in1.in1) hh j i2 b n2 its2.toArray
    rwa [List.size_toArray, hy] at this
  intro c
  induction c with
  | zero =>
    intro i H1 s ts m hc hi I ex hf st hl dr hR
    have hin : i = n := by omega
    subst hin
    refine codeAny_builtin F.entry_extend_loop ?_
    rw [Around.under_plainId F.plain_extend_loop _]
    show wpAny _ B.in1 (pyNext (.ref z) >>= _) _ _ s
    refine wpAny_bind (zs_fin hh D D1 D2 st fun h' tk k' => ?_)
    refine wpAny_pure (hR H1 _ ts m (I.turnedL (t' := tk) (ch := [z, TO, i1, i2]) k' fun q hq => hf q (List.mem_cons_of_mem _ hq)) ex (k' _ _ (fun q => hS (by simp only [List.mem_cons, List.not_mem_nil, or_false] at q ⊢; rcases q with q | q | q | q <;> simp [q])) hl) dr)
  | succ c ih =>
    intro i H1 s ts m hc hi I ex hf st hl dr hR
    have hlt : i < n := by omega
    refine codeAny_builtin F.entry_extend_loop ?_
    rw [Around.under_plainId F.plain_extend_loop _]
    show wpAny _ B.in1 (pyNext (.ref z) >>= _) _ _ s
    refine wpAny_bind (zs_next D D1 D2 st hlt fun x1 x2 h' tk p1 p2 st' pr sz k' => ?_)
    show wpAny _ B.in1 (updateSeq S (·.push (.ref s.heap.objs.size)) >>= _) _ _ _
    have hS' := k' _ _ (fun q => hS (by simp only [List.mem_cons, List.not_mem_nil, or_false] at q ⊢; rcases q with q | q | q | q <;> simp [q])) hl
    have hle1 : (ts.map Value.ref).toArray.size ≤ sizeLine := by have := dr.len; simp; omega
    have hle2 : ((ts.map Value.ref).toArray.push (.ref s.heap.objs.size)).size ≤ sizeLine + 1 := by rw [Array.size_push]; omega
    have hb1 := (List.getElem?_eq_some_iff.mp (show its[i]? = some x1 by simpa using p1)).1
    obtain ⟨x, hxi, rx⟩ : ∃ x, xs[i]? = some x ∧ RelV x x1 := by
      have hl1 := rv.length
      obtain ⟨u, hu, ru⟩ := rv.get (show xs[i]? = some xs[i] from List.getElem?_eq_getElem (by omega))
      rw [show its[i]? = some x1 by simpa using p1] at hu; cases hu
      exact ⟨_, List.getElem?_eq_getElem (by omega), ru⟩
    obtain ⟨y, hyi, ry⟩ : ∃ y, ys[i]? = some y ∧ RelV y x2 := by
      have hl1 := rv2.length
      obtain ⟨u, hu, ru⟩ := rv2.get (show ys[i]? = some ys[i] from List.getElem?_eq_getElem (by omega))
      rw [show its2[i]? = some x2 by simpa using p2] at hu; cases hu
      exact ⟨_, List.getElem?_eq_getElem (by omega), ru⟩
    have nH : H1 s.heap.objs.size = none := I.hok.fresh (Nat.le_refl _)
    have I2 : Inv X pins σ (upd H1 s.heap.objs.size (.tup [x, y])) { s with heap := h', toks := tk } :=
      I.turnedNew (t' := tk) (ch := [z, TO, i1, i2]) k' (fun q hq => hf q (List.mem_cons_of_mem _ hq)) (Nat.le_refl _) ⟨by show 2 ≤ sizeLine; decide, [x1, x2], .cons rx (.cons ry .nil), ⟨_, pr, rfl, _, rfl⟩⟩
    have hlen : (ts ++ [s.heap.objs.size]).map Value.ref = ts.map Value.ref ++ [.ref s.heap.objs.size] := by simp
    have hSn : ∀ q ∈ [z, TI, TO, i1, i2, a, b], q ≠ S := fun q hq e => hS (e ▸ hq)
    have keepS : ∀ {h2 : Heap} (c : Addr) (o : Obj), (∀ c o, c ≠ S → h'.get? c = some o → h2.get? c = some o) → c ≠ S → h'.get? c = some o → h2.get? c = some o := fun c o k h => k c o h
    have hk2 : ∀ c o, c ≠ S → h'.get? c = some o → (h'.update S (Obj.mapSeq (·.push (.ref s.heap.objs.size)))).get? c = some o := fun c o hc e => (Heap.get?_update_other _ _ (Ne.symm hc)).trans e
    have hS2 : (h'.update S (Obj.mapSeq (·.push (.ref s.heap.objs.size)))).get? S = some _ := Heap.get?_update_self _ hS' rfl
    have e1 : ((ts.map Value.ref).toArray.push (.ref s.heap.objs.size)) = ((ts ++ [s.heap.objs.size]).map Value.ref).toArray := by simp
    have hS3 : ∃ m', (h'.update S (Obj.mapSeq (·.push (.ref s.heap.objs.size)))).get? S = some { cls := .type "list", dict := none, data := .seq ((ts ++ [s.heap.objs.size]).map Value.ref).toArray m', slots := #[] } := ⟨_, by rw [hS2, ← e1]; rfl⟩
    obtain ⟨m', hS3⟩ := hS3
    obtain ⟨zz, zti, ⟨b1, b2, zto⟩, ⟨zs1, zs2⟩, zs3, zs4⟩ := st'
    have st2 : ZSt z TI TO i1 i2 (fun i h => ItO k i1 a i h ∧ SqO k a its.toArray h) (fun i h => ItO j i2 b i h ∧ SqO j b its2.toArray h) (i + 1) (h'.update S (Obj.mapSeq (·.push (.ref s.heap.objs.size)))) := by
      refine ⟨?_, hk2 _ _ (hSn _ (by simp)) zti, ⟨b1, b2, hk2 _ _ (hSn _ (by simp)) zto⟩, ?_, ?_⟩
      · rcases zz with zz | ⟨T, f, oT, zz, zT, q1, q2, q3⟩
        · exact .inl (hk2 _ _ (hSn _ (by simp)) zz)
        · by_cases hTS : T = S
          · subst hTS
            exact .inr ⟨T, f, _, hk2 _ _ (hSn _ (by simp)) zz, hS3, q1, q2, q3⟩
          · exact .inr ⟨T, f, oT, hk2 _ _ (hSn _ (by simp)) zz, hk2 _ _ hTS zT, q1, q2, q3⟩
      · exact D1.frame (i + 1) h' _ ⟨zs1, zs2⟩ fun c hc o e => hk2 c o (hSn c (by simp at hc; rcases hc with q | q <;> simp [q])) e
      · exact D2.frame (i + 1) h' _ ⟨zs3, zs4⟩ fun c hc o e => hk2 c o (hSn c (by simp at hc; rcases hc with q | q <;> simp [q])) e
    have nq : ∀ q ∈ [S, z, TO, i1, i2], q ≠ s.heap.objs.size := fun q hq e => by
      have : q < s.heap.objs.size := by
        simp only [List.mem_cons, List.not_mem_nil, or_false] at hq
        rcases hq with rfl | rfl | rfl | rfl | rfl
        · exact Heap.lt_size hl
        · rcases st.zs with q | ⟨_, _, _, q, _⟩ <;> exact Heap.lt_size q
        · obtain ⟨_, _, q⟩ := st.to; exact Heap.lt_size q
        · obtain ⟨_, q, _⟩ := st.s1.1.obj; exact Heap.lt_size q
        · obtain ⟨_, q, _⟩ := st.s2.1.obj; exact Heap.lt_size q
      exact absurd this (by rw [e]; exact Nat.lt_irrefl _)
    refine wpAny_bind ?_
    refine wpAny_updateSeq (s := { s with heap := h', toks := tk }) (o := { cls := .type "list", dict := none, data := .seq (ts.map Value.ref).toArray m, slots := #[] }) (xs := (ts.map Value.ref).toArray) (n := m) (f := (·.push (.ref s.heap.objs.size))) hS' rfl ?_ hle1 hle2
    refine wpAny_pure ⟨plainId_quiet F.plain_extend_loop _, ih (i + 1) (upd H1 s.heap.objs.size (.tup [x, y])) _ (ts ++ [s.heap.objs.size]) m' (by omega) hlt (I2.turnedL (t' := tk) (ch := [S]) (fun c o hc e => hk2 c o (fun q => hc (by simp [q])) e) fun q hq => ?_) (fun b u e => ?_) (fun q hq => ?_) st2 hS3 ?_ hR⟩
    · have e : q = S := by simpa using hq
      subst e
      exact fp_put (hf q (by simp)) (nq q (by simp))
    · have := ex b u e
      rw [upd_ne (fun q => by rw [q] at this; rw [nH] at this; cases this)]
      exact this
    · exact fp_put (hf q hq) (nq q hq)
    · refine ⟨by simp [dr.len], fun q T hq => ?_⟩
      rcases Nat.lt_or_ge q ts.length with hq2 | hq2
      · rw [List.getElem?_append_left hq2] at hq
        obtain ⟨x', y', hT, g1, g2⟩ := dr.at_ q T hq
        exact ⟨x', y', by rw [upd_ne (fun q => by rw [q, nH] at hT; cases hT)]; exact hT, g1, g2⟩
      · rw [List.getElem?_append_right hq2] at hq
        have hq0 : q - ts.length = 0 := by
          rcases Nat.eq_zero_or_pos (q - ts.length) with e | e
          · exact e
          · rw [List.getElem?_eq_none (by simp; omega)] at hq; cases hq
        rw [hq0] at hq
        simp at hq
        subst hq
        have hqi : q = i := by have := dr.len; omega
        subst hqi
        exact ⟨x, y, upd_same, hxi, hyi⟩
theorem zip_no_len : typeLookup (.type "zip") "__len__" = pure none := by rw [typeLookup_type, builtinLookup_eq_fast]; kernel_rfl
theorem zip_no_hint : typeLookup (.type "zip") "__length_hint__" = pure none := by rw [typeLookup_type, builtinLookup_eq_fast]; kernel_rfl
theorem zst_frame {St1 St2 : Nat → Heap → Prop} {i : Nat} {h h' : Heap} (st : ZSt z TI TO i1 i2 St1 St2 i h) (f1 : St1 i h → St1 i h') (f2 : St2 i h → St2 i h') (hk : ∀ c ∈ [z, TI, TO], ∀ o, h.get? c = some o → h'.get? c = some o) (hT : ∀ T o, h.get? T = some o → ∃ o', h'.get? T = some o') : ZSt z TI TO i1 i2 St1 St2 i h' := by
  obtain ⟨zz, zti, ⟨b1, b2, zto⟩, zs1, zs2⟩ := st
  refine ⟨?_, hk _ (by simp) _ zti, ⟨b1, b2, hk _ (by simp) _ zto⟩, f1 zs1, f2 zs2⟩
  rcases zz with zz | ⟨T, f, oT, zz, zT, q⟩
  · exact .inl (hk _ (by simp) _ zz)
  · obtain ⟨o', ho'⟩ := hT T oT zT
    exact .inr ⟨T, f, o', hk _ (by simp) _ zz, ho', q⟩
theorem zs_iter {s : Shared} {Q : Value → Shared → Prop} {E : Value → Shared → Prop} {St1 St2 : Nat → Heap → Prop} {i : Nat} (st : ZSt z TI TO i1 i2 St1 St2 i s.heap) (h : Q (.ref z) s) : wpAny (model X.prog X.w) B (pyIter (.ref z)) Q E s := by
  have hT : s.TypeIs (.ref z) "zip" := by
    rcases st.zs with q | ⟨_, _, _, q, _⟩
    · exact ⟨_, q, rfl⟩
    · exact ⟨_, q, rfl⟩
  unfold pyIter
  refine wpAny_pyIter_slot hT F.slot_zip_iter (wpAny_call_entry F.slot_zip_iter hT F.entry_zip_iter ?_ (F.args_zip_iter_1 _))
  show wpAny _ _ (ret (.ref z)) _ _ s
  exact wpAny_pure ⟨_, rfl, "zip", _, hT, F.slot_zip_next.lookup, h⟩
theorem collect_zs {s : Shared} {H : Hp} {Q : List Value → Shared → Prop} {E : Value → Shared → Prop} (hh : B.handled = none) (D : ZipSep2 z TI TO i1 i2 [i1, a] [i2, b]) (n1 : a ≠ i1) (n2 : b ≠ i2) (rv : Vals xs its) (rv2 : Vals ys its2) (hx : its.length = n) (hy : its2.length = n) (hn : n ≤ sizeLine)
    (I : Inv X pins σ H s) (hf : ∀ q ∈ [z, TO, i1, i2], FpOk X pins H q) (hlt : ∀ q ∈ [z, TI, TO, i1, i2, a, b], q < s.heap.objs.size) (st : ZSt z TI TO i1 i2 (fun i h => ItO k i1 a i h ∧ SqO k a its.toArray h) (fun i h => ItO j i2 b i h ∧ SqO j b its2.toArray h) 0 s.heap)
    (hQ : ∀ H' s' ts', Inv X pins σ H' s' → HExt H H' → Drawn2 H' xs ys n ts' → Q (ts'.map Value.ref) s') : wpAny (model X.prog X.w) B (collect (.ref z)) Q E s := by
  have hS : s.heap.objs.size ∉ [z, TI, TO, i1, i2, a, b] := fun q => Nat.lt_irrefl _ (hlt _ q)
  have hSz : s.heap.objs.size ≠ z := fun e => hS (by simp [e])
  have hT : s.TypeIs (.ref z) "zip" := by
    rcases st.zs with q | ⟨_, _, _, q, _⟩
    · exact ⟨_, q, rfl⟩
    · exact ⟨_, q, rfl⟩
  unfold collect
  refine wpAny_bind (wpAny_runValue (codeAny_builtin F.entry_proto_collect ?_))
  rw [Around.under_plainId F.plain_proto_collect _]
  show wpAny _ B.in1 (newList [] >>= fun l => again (.builtin "list.__iadd__" ⟨[l, .ref z], []⟩)) _ _ s
  refine wpAny_bind (wpAny_newObj_type ?_)
  refine wpAny_pure ⟨plainId_quiet F.plain_list_iadd _, codeAny_builtin F.entry_list_iadd ?_⟩
  rw [Around.under_plainId F.plain_list_iadd _]
  have up : ∀ c o, s.heap.get? c = some o → (s.heap.push { cls := .type "list", data := .seq ([] : List Value).toArray }).get? c = some o := fun c o e => Heap.get?_push_of_some _ e
  have I1 : Inv X pins σ H { s with heap := s.heap.push { cls := .type "list", data := .seq ([] : List Value).toArray } } := I.kept (t' := s.toks) up
  have st1 : ZSt z TI TO i1 i2 (fun i h => ItO k i1 a i h ∧ SqO k a its.toArray h) (fun i h => ItO j i2 b i h ∧ SqO j b its2.toArray h) 0 (s.heap.push { cls := .type "list", data := .seq ([] : List Value).toArray }) := by
    refine zst_frame st (fun q => ?_) (fun q => ?_) (fun c _ o e => up c o e) fun T o e => ⟨o, up T o e⟩
    · exact (draws_sq (prog := X.prog) (w := X.w) (A := B) hh k i1 a n1 its.toArray).frame _ _ _ q fun c _ o e => up c o e
    · exact (draws_sq (prog := X.prog) (w := X.w) (A := B) hh j i2 b n2 its2.toArray).frame _ _ _ q fun c _ o e => up c o e
  have hT1 : ({ s with heap := s.heap.push { cls := .type "list", data := .seq ([] : List Value).toArray } } : Shared).TypeIs (.ref z) "zip" := by
    obtain ⟨o, ho, hc⟩ := hT
    exact ⟨o, up _ _ ho, hc⟩
  show wpAny _ B.in1 (Builtin.List.listExtendWith (.ref s.heap.objs.size) (.ref z) (.ref s.heap.objs.size)) _ _ _
  unfold Builtin.List.listExtendWith
  refine wpAny_bind (wpAny_typeOf hT1 ?_)
  have h1 : Builtin.List.listSameRef (.ref s.heap.objs.size) (.ref z) = false := by simp [Builtin.List.listSameRef, hSz]
  have h2 : (Value.type "zip" == Value.type "list") = false := by decide
  have h3 : (Value.type "zip" == Value.type "tuple") = false := by decide
  simp only [h1, h2, h3, Bool.or_false, Bool.false_eq_true, if_false]
  refine wpAny_bind (zs_iter st1 ?_)
  refine wpAny_bind (wpAny_holding ?_)
  unfold Builtin.List.listLengthHint
  refine wpAny_bind (wpAny_specialOf hT1 zip_no_len ?_)
  show wpAny _ B.in1 (specialOf (Value.ref z) (Str.ofString "__length_hint__") >>= _) _ _ _
  refine wpAny_bind (wpAny_specialOf hT1 zip_no_hint ?_)
  refine wpAny_pure ?_
  show wpAny _ B.in1 (rule "list.extend.makes-room" >>= fun _ => Builtin.List.listTouch (.ref s.heap.objs.size) >>= fun _ =>
    again (.builtin "list.extend.loop" ⟨[.ref s.heap.objs.size, .ref z, .ref s.heap.objs.size], []⟩)) _ _ _
  refine wpAny_bind (wpAny_rule ?_)
  have hS1 : (s.heap.push { cls := .type "list", data := .seq ([] : List Value).toArray }).get? s.heap.objs.size = some { cls := .type "list", data := .seq ([] : List Value).toArray } := Heap.get?_push_size _ rfl
  refine wpAny_bind ?_
  show wpAny _ B.in1 (updateSeq s.heap.objs.size (·.push .none) >>= fun _ => updateSeq s.heap.objs.size (·.pop)) _ _ _
  refine wpAny_bind (wpAny_updateSeq hS1 rfl ?_)
  have hS2 := Heap.get?_update_self (Obj.mapSeq (·.push Value.none)) hS1 rfl
  refine wpAny_updateSeq hS2 rfl ?_
  have hS3 := Heap.get?_update_self (Obj.mapSeq (·.pop)) hS2 rfl
  have oth : ∀ c o, c ≠ s.heap.objs.size → (s.heap.push { cls := .type "list", data := .seq ([] : List Value).toArray }).get? c = some o →
      (((s.heap.push { cls := .type "list", data := .seq ([] : List Value).toArray }).update s.heap.objs.size (Obj.mapSeq (·.push Value.none))).update s.heap.objs.size (Obj.mapSeq (·.pop))).get? c = some o :=
    fun c o hc e => (Heap.get?_update_other _ _ (Ne.symm hc)).trans ((Heap.get?_update_other _ _ (Ne.symm hc)).trans e)
  have fS : FpOk X pins H s.heap.objs.size := I.fpOk (Nat.le_refl _) (I.hok.fresh (Nat.le_refl _))
  have I2 : Inv X pins σ H { s with heap := ((s.heap.push { cls := .type "list", data := .seq ([] : List Value).toArray }).update s.heap.objs.size (Obj.mapSeq (·.push Value.none))).update s.heap.objs.size (Obj.mapSeq (·.pop)), toks := s.toks } :=
    Inv.turnedL (s := { s with heap := s.heap.push { cls := .type "list", data := .seq ([] : List Value).toArray } }) I1 (t' := s.toks) (ch := [s.heap.objs.size]) (fun c o hc e => oth c o (fun q => hc (by simp [q])) e) fun q hq => by
      have e : q = s.heap.objs.size := by simpa using hq
      subst e; exact fS
  have nS : ∀ c ∈ [z, TI, TO, i1, i2, a, b], c ≠ s.heap.objs.size := fun c hc e => hS (e ▸ hc)
  have st2 : ZSt z TI TO i1 i2 (fun i h => ItO k i1 a i h ∧ SqO k a its.toArray h) (fun i h => ItO j i2 b i h ∧ SqO j b its2.toArray h) 0 (((s.heap.push { cls := .type "list", data := .seq ([] : List Value).toArray }).update s.heap.objs.size (Obj.mapSeq (·.push Value.none))).update s.heap.objs.size (Obj.mapSeq (·.pop))) := by
    refine zst_frame st1 (fun q => ?_) (fun q => ?_) (fun c hc o e => oth c o (nS c (by simp at hc; rcases hc with q | q | q <;> simp [q])) e) fun T o e => ?_
    · exact (draws_sq (prog := X.prog) (w := X.w) (A := B) hh k i1 a n1 its.toArray).frame _ _ _ q fun c hc o e => oth c o (nS c (by simp at hc; rcases hc with q | q <;> simp [q])) e
    · exact (draws_sq (prog := X.prog) (w := X.w) (A := B) hh j i2 b n2 its2.toArray).frame _ _ _ q fun c hc o e => oth c o (nS c (by simp at hc; rcases hc with q | q <;> simp [q])) e
    · by_cases hq : T = s.heap.objs.size
      · subst hq; exact ⟨_, hS3⟩
      · exact ⟨o, oth T o hq e⟩
  refine wpAny_pure ⟨plainId_quiet F.plain_extend_loop _, ext_zs (H := H) (B := B) hh D n1 n2 hS rv rv2 hx hy hn _ n 0 H _ [] _ rfl (Nat.zero_le _) I2 (fun _ _ e => e) (fun q hq => ?_) st2 hS3 ⟨rfl, fun q T h => by simp at h⟩ fun H' s' ts' m' I' ex' hl' dr' => ?_⟩
  · rcases List.mem_cons.mp hq with rfl | hq
    · exact fS
    · exact hf q hq
  show wpAny _ B (load s.heap.objs.size >>= _) _ _ s'
  refine wpAny_bind (wpAny_load hl' ?_)
  exact wpAny_pure (by simpa using hQ H' s' ts' I' ex' dr')
end
end Gx
end
section
set_option maxHeartbeats 1000000
set_option maxRecDepth 100000
namespace Gx
open PySem PySem.Spec PyProof.Rows L2
open Sem (wp)
section
variable {X : Cx} {pins : List (Addr × Obj)} {σ : L2.St} {z TI TO i1 i2 a b : Addr} {k j : Bool} {xs ys : List V} {its its2 : List Value} {n : Nat} {A : Around}
theorem SqO.up {k : Bool} {a : Addr} {its : Array Value} {h h' : Heap} (x : SqO k a its h) (e : ∀ c o, h.get? c = some o → h'.get? c = some o) : SqO k a its h' := by
  cases k with
  | true => exact Heap.IsList.at (show h.IsList a its from x) fun o q => e a o q
  | false => exact Heap.IsTuple.at (show h.IsTuple a its from x) fun o q => e a o q
theorem sq_size {H : Hp} {s : Shared} {a : Addr} {k : Bool} {xs : List V} (I : Inv X pins σ H s) (h : SqA X.K H a k xs) : xs.length ≤ sizeLine := by
  cases k with
  | true => obtain ⟨its, r, p, q⟩ := I.list (by simpa [SqA] using h); have := r.length; omega
  | false => obtain ⟨its, r, p, q⟩ := I.tuple (by simpa [SqA] using h); have := r.length; omega
theorem vals_refs : ∀ (ts : List Addr), Vals (ts.map V.ref) (ts.map Value.ref)
  | [] => .nil
  | _ :: ts => .cons rfl (vals_refs ts)
theorem code_tuple_zs {s : Shared} {H : Hp} {Q₁ : Value → Shared → Prop} {E : Value → Shared → Prop} (hh : A.handled = none) (D : ZipSep2 z TI TO i1 i2 [i1, a] [i2, b]) (n1 : a ≠ i1) (n2 : b ≠ i2) (rv : Vals xs its) (rv2 : Vals ys its2) (hx : its.length = n) (hy : its2.length = n) (hn : n ≤ sizeLine)
    (I : Inv X pins σ H s) (hf : ∀ q ∈ [z, TO, i1, i2], FpOk X pins H q) (hlt : ∀ q ∈ [z, TI, TO, i1, i2, a, b], q < s.heap.objs.size) (st : ZSt z TI TO i1 i2 (fun i h => ItO k i1 a i h ∧ SqO k a its.toArray h) (fun i h => ItO j i2 b i h ∧ SqO j b its2.toArray h) 0 s.heap)
    (h : ∀ H' s' ts' p, Inv X pins σ (upd H' p (.tup (ts'.map V.ref))) s' → H' p = none → HExt H H' → Drawn2 H' xs ys n ts' → s'.TypeIs (.ref p) "tuple" → Q₁ (.ref p) s') :
    codeAny (model X.prog X.w) A (.call (.builtin "tuple.__new__") ⟨[.type "tuple", .ref z], []⟩) (wants Q₁ E) s := by
  refine codeAny_of_tree ?_
  show wpAny _ A.in1 (do checkBuiltinCall "tuple.__new__" ⟨[.type "tuple", .ref z], []⟩; again (.builtin "tuple.__new__" ⟨[.type "tuple", .ref z], []⟩)) _ _ s
  refine wpAny_bind (wpAny_of_eq (F.newCall_tuple_1 _) (wpAny_pure ⟨plainId_quiet F.plain_tuple_new _, codeAny_builtin F.entry_tuple_new ?_⟩))
  rw [Around.under_plainId F.plain_tuple_new _]
  have hsub := sub_tuple_self
  have hinit := init_tuple_lookup
  have hmh := madeHere_tuple
  have hTI : s.TypeIs (.ref z) "zip" := by
    rcases st.zs with q | ⟨_, _, _, q, _⟩
    · exact ⟨_, q, rfl⟩
    · exact ⟨_, q, rfl⟩
  have hh1 : A.in1.handled = none := hh
  have hcz := fun (Q : List Value → Shared → Prop) (E : Value → Shared → Prop) hQ => collect_zs (Q := Q) (E := E) (B := A.in1) hh1 D n1 n2 rv rv2 hx hy hn I hf hlt st hQ
  unfold Builtin.«tuple.__new__»
  wp_walk using wpAny_typeOf hTI, hcz
  intro H' s' ts' I' ex' dr'
  show wpAny _ _ (Builtin.Tuple.tupleExact (ts'.map Value.ref).toArray >>= fun v => ret v) _ _ _
  unfold Builtin.Tuple.tupleExact
  refine wpAny_bind (wpAny_newObj_type ?_ (by show (ts'.map Value.ref).toArray.size ≤ sizeLine; simp [dr'.len]; exact hn))
  refine wpAny_pure ?_
  have I2 : Inv X pins σ (upd H' s'.heap.objs.size (.tup (ts'.map V.ref))) { s' with heap := s'.heap.push { cls := .type "tuple", data := .seq (ts'.map Value.ref).toArray }, toks := s'.toks } :=
    I'.laid (t' := s'.toks) (fun c o e => Heap.get?_push_of_some _ e) (Nat.le_refl _) (show ObjOk X.prog X.w _ _ _ (.tup (ts'.map V.ref)) from ⟨by simp [dr'.len]; exact hn, ts'.map Value.ref, vals_refs ts', IsTup.new _ _⟩)
  exact h H' _ ts' _ I2 (I'.hok.fresh (Nat.le_refl _)) ex' dr' ⟨_, Heap.get?_push_size _ rfl, rfl⟩
theorem call_tuple_zs {s : Shared} {H : Hp} {Q : Value → Shared → Prop} {E : Value → Shared → Prop} (hh : A.handled = none) (D : ZipSep2 z TI TO i1 i2 [i1, a] [i2, b]) (n1 : a ≠ i1) (n2 : b ≠ i2) (rv : Vals xs its) (rv2 : Vals ys its2) (hx : its.length = n) (hy : its2.length = n) (hn : n ≤ sizeLine)
    (I : Inv X pins σ H s) (hf : ∀ q ∈ [z, TO, i1, i2], FpOk X pins H q) (hlt : ∀ q ∈ [z, TI, TO, i1, i2, a, b], q < s.heap.objs.size) (st : ZSt z TI TO i1 i2 (fun i h => ItO k i1 a i h ∧ SqO k a its.toArray h) (fun i h => ItO j i2 b i h ∧ SqO j b its2.toArray h) 0 s.heap)
    (hQ : ∀ H' s' ts' p, Inv X pins σ (upd H' p (.tup (ts'.map V.ref))) s' → H' p = none → HExt H H' → Drawn2 H' xs ys n ts' → Q (.ref p) s') :
    wpAny (model X.prog X.w) A (call (.type "tuple") [.ref z]) Q E s := by
  refine callType_codes (Q₁ := fun obj s₁ => s₁.TypeIs obj "tuple" ∧ Q obj s₁) F.called_tuple (F.typeCall_tuple_1 _) F.entry_object_init
    (code_tuple_zs (A := A.in1) hh D n1 n2 rv rv2 hx hy hn I hf hlt st fun H' s' ts' p i np ex dr ty => ⟨ty, hQ H' s' ts' p i np ex dr⟩) fun obj s₁ h₁ => ?_
  exact ⟨h₁.1, F.args_object_init_2 obj _, object_init_meets F.called_tuple.init.lookup F.called_tuple.made (by decide) X.prog X.w A.in1 _ s₁ ⟨h₁.1, rfl, h₁.2⟩⟩
theorem callWith_typeK {M : Model} {env : Env} {pos : Pos} {T : String} {e : Expr} {rest : List Expr} {kws : List Keyword} {s : Shared} {Q : Value → Shared → Prop} {E : Value → Shared → Prop}
    (h : wpAny M A (spliced (backTo pos (starEach (e :: rest) env))) (fun vs s₁ => wpAny M A (evalAll ((backToKw pos (keywordEach kws env)).map (·.2)))
      (fun kvs s₂ => wpAny M A (call (.type T) vs (((backToKw pos (keywordEach kws env)).filterMap (·.1)).zip kvs)) Q E s₂) E s₁) E s)
    (he : backTo pos (starEach (e :: rest) env) = (false, eval e env) :: backTo pos (starEach rest env))
    (hplain : (backTo pos (starEach (e :: rest) env)).any (·.1) = false)
    (hall : (backToKw pos (keywordEach kws env)).all (·.1.isSome) = true)
    (hkw : (backToKw pos (keywordEach kws env)).any (·.1.isNone) = false) :
    wpAny M A (callWith pos (.type T) [] (backTo pos (starEach (e :: rest) env)) (backToKw pos (keywordEach kws env))) Q E s := by
  have h2 : wpAny M A (evalArgs (.type T) true (backTo pos (starEach (e :: rest) env)) (backToKw pos (keywordEach kws env))) (fun a s₁ => wpAny M A (call (.type T) ([] ++ a.pos) a.kw) Q E s₁) E s := by
    rw [he] at h ⊢
    exact evalArgs_kwB hall h
  unfold callWith
  refine wpAny_bind (wpAny_holding (wpAny_mono h2 (fun a s₁ h₁ => wpAny_bind (wpAny_standAt ?_)) fun _ _ x => x))
  simp only [hplain, hkw, Bool.or_false]
  refine wpAny_bind (wpAny_pure ?_)
  exact wpAny_bind (wpAny_mono h₁ (fun r s₂ hr => wpAny_bind (wpAny_holding (wpAny_point (wpAny_pure hr)))) fun _ _ x => x)
end
def eTupZip (d d2 : E) : E := fun L S => (d L S).bind fun v S1 => (d2 L S1).bind fun u S2 => match itOf S2 v, itOf S2 u with
  | some src, some src2 => if src.items.length = src2.items.length then .ok (.tup (zipV src.items src2.items)) S2 else .bad
  | _, _ => .bad
theorem StOk.hext {K : PySem.W.Frag} {ρ : Pl} {H H' : Hp} {S : Store} (h : StOk K ρ H S) (e : HExt H H') : Ext ρ H ρ H' ∧ StOk K ρ H' S := by
  have x : Ext ρ H ρ H' := .mk' ⟨[], by simp⟩ rfl (fun a o q _ => e a o q) (fun _ q => .inl q) fun q z => by
    cases w : H q with
    | none => rfl
    | some o => rw [e q o w] at z; cases z
  refine ⟨x, h.ext x fun n c hn q hq => ?_⟩
  obtain ⟨o, ho, _⟩ := h.mem (List.mem_of_getElem? hq)
  rw [ho, e q o ho]
theorem RVs.of_at {K : PySem.W.Frag} {ρ : Pl} {H : Hp} : ∀ {xs : List Val} {ws : List V}, xs.length = ws.length → (∀ (i : Nat) x w, xs[i]? = some x → ws[i]? = some w → RV K ρ H x w) → RVs K ρ H xs ws
  | [], [], _, _ => .nil
  | [], _ :: _, h, _ => by simp at h
  | _ :: _, [], h, _ => by simp at h
  | x :: xs, w :: ws, h, f => .cons (f 0 x w rfl rfl) (RVs.of_at (by simpa using h) fun i y v h1 h2 => f (i + 1) y v (by simpa using h1) (by simpa using h2))
section
variable {X : Cx} {W : XW} {e e2 : Expr} {d d2 : E} {pos p p2 p3 p4 kpos : Pos} {kk : Nat}
theorem de_tupZip (hc : X.calm = true) (gt : Gl X "tuple") (mt : X.mg "tuple" = none) (hg : Gl X "zip") (hm : X.mg "zip" = none) (ha : DE X W e d) (hb : DE X W e2 d2)
    (na : starEach [.Call (.Name "zip" p2) [e, e2] [⟨some "strict", .Constant (.bool true) kk p3, kpos⟩] p4] X.env = (false, eval (.Call (.Name "zip" p2) [e, e2] [⟨some "strict", .Constant (.bool true) kk p3, kpos⟩] p4) X.env) :: starEach [] X.env := by rfl)
    (hs : starEach [e, e2] X.env = (false, eval e X.env) :: starEach [e2] X.env := by rfl) (hs2 : starEach [e2] X.env = (false, eval e2 X.env) :: starEach [] X.env := by rfl)
    (he : backTo p4 (starEach [e, e2] X.env) = (false, eval e X.env) :: backTo p4 (starEach [e2] X.env) := by rfl) (hpl : (backTo p4 (starEach [e, e2] X.env)).any (·.1) = false := by rfl) :
    DE X W (.Call (.Name "tuple" p) [.Call (.Name "zip" p2) [e, e2] [⟨some "strict", .Constant (.bool true) kk p3, kpos⟩] p4] [] pos) (eTupZip d d2) := by
  refine ⟨⟨fun pins s σ H Q I h => ?_⟩⟩
  obtain ⟨ρ, S, L, sim, h⟩ := h
  refine Call_ (ld_blt I gt mt boot_tuple (PyProof.Rows.callWith_type1 (args_cons ?_ na) na))
  refine wpAny_Call_Name_kw (ld_blt I hg hm PyProof.Rows.boot_zip ?_)
  refine callWith_typeK (thn ((pa_cons ha.pe (pa_cons hb.pe pa_nil hs2) hs).run p4 pins s σ H (fun vs H1 => ∃ ρ2 S2 a b k j xs ys src src2, vs = [.ref a, .ref b] ∧ StOk X.K ρ2 H1 S2 ∧ SqA X.K H1 a k xs ∧ SqA X.K H1 b j ys ∧ RVs X.K ρ2 H1 src xs ∧ RVs X.K ρ2 H1 src2 ys ∧ src.length = src2.length ∧ 
      (∀ ρ' H' w, Ext ρ2 H1 ρ' H' → StOk X.K ρ' H' S2 → RV X.K ρ' H' (.tup (zipV src src2)) w → Q w H')) I ?_) fun us s1 ⟨vs, H1, I1, r1, ρ2, S2, a, b, k, j, xs, ys, src, src2, ex, st, hq, hq2, rx, ry, hlen, q⟩ => thn (((pk_cons pe_bl pk_nil).run p4 pins s1 σ H1 (fun vs H2 => vs = [.bl true] ∧ H2 = H1) I1 ⟨rfl, rfl⟩)) fun kvs s2 ⟨ks, H2, I2, r2, ek, eH⟩ => ?_) he hpl (by rfl) (by rfl)
  · refine two sim h fun v u S2 ρ2 H2 wv wu e2 s2 rv ru h2 => ?_
    cases qi : itOf S2 v with
    | none => rw [qi] at h2; exact h2.elim
    | some src =>
      cases qj : itOf S2 u with
      | none => rw [qi, qj] at h2; exact h2.elim
      | some src2 =>
        rw [qi, qj] at h2
        dsimp only at h2
        by_cases hl : src.items.length = src2.items.length
        · rw [if_pos hl] at h2
          obtain ⟨a, k, rfl, sq, g⟩ := it_read s2 rv qi
          obtain ⟨b, j, rfl, sq2, g2⟩ := it_read s2 ru qj
          obtain ⟨ws, rws, hq⟩ := g ρ2 H2 S2 Ext.refl.toExtB s2 (it_ok qi)
          obtain ⟨vs, rvs, hq2⟩ := g2 ρ2 H2 S2 Ext.refl.toExtB s2 (it_ok qj)
          exact ⟨ρ2, S2, a, b, k, j, ws, vs, _, _, rfl, s2, hq, hq2, rws, rvs, hl, h2⟩
        · rw [if_neg hl] at h2; exact h2.elim
  · subst ex ek eH
    obtain ⟨u1, u2, rfl, r, r'⟩ := vals2 r1
    obtain rfl : u1 = Value.ref a := r
    obtain rfl : u2 = Value.ref b := r'
    obtain ⟨u3, rfl, r3⟩ := vals1 r2
    obtain rfl : u3 = Value.bool true := r3
    obtain ⟨its, rv, p1⟩ := sq_obj I2 hq
    obtain ⟨its2, rv2, p2⟩ := sq_obj I2 hq2
    obtain ⟨o, B, ho⟩ := begins_sq k a its.toArray
    obtain ⟨o2, B2, ho2⟩ := begins_sq j b its2.toArray
    show wpAny _ _ (call (.type "zip") [.ref a, .ref b] kws1) _ _ _
    refine zs_begins B B2 p1 p2 fun h' hz hTI hTO h1 h2 hsz hk => ?_
    have la := p1.lt
    have lb := p2.lt
    have D := zip_sep2 (N := s2.heap.objs.size) (fp1 := [a]) (fp2 := [b]) (by simpa using la) (by simpa using lb)
    have n1 : a ≠ s2.heap.objs.size := Nat.ne_of_lt la
    have n2 : b ≠ s2.heap.objs.size + 1 := Nat.ne_of_lt (Nat.lt_succ_of_lt lb)
    have l1 := rv.length
    have l2 := rv2.length
    have l3 := rx.length
    have l4 := ry.length
    have I3 : Inv X pins σ H2 { s2 with heap := h', toks := s2.toks } := I2.kept (t' := s2.toks) hk
    have hnz : its.length ≤ sizeLine := by have := sq_size I2 hq; omega
    refine args_nil (call_tuple_zs (n := its.length) (A := X.A) (I2.ok.hd hc) D n1 n2 rv rv2 rfl (by omega) hnz I3 (fun q hq => ?_) (fun q hq => ?_) ⟨.inl hz, hTI, ⟨_, _, hTO⟩, ⟨ho _ _ h1, SqO.up p1 hk⟩, ⟨ho2 _ _ h2, SqO.up p2 hk⟩⟩ fun H' s' ts' p I' np ex dr => ?_)
    · have hle : s2.heap.objs.size ≤ q := by
        simp only [List.mem_cons, List.not_mem_nil, or_false] at hq
        rcases hq with z | z | z | z <;> (rw [z]; first | exact Nat.le_refl _ | exact Nat.le_add_right _ _)
      exact I2.fpOk hle (I2.hok.fresh hle)
    · show q < h'.objs.size
      rw [hsz]
      simp only [List.mem_cons, List.not_mem_nil, or_false] at hq
      have la' : a < s2.heap.objs.size := la
      have lb' : b < s2.heap.objs.size := lb
      clear la lb
      rcases hq with z | z | z | z | z | z | z <;> (rw [z]; first | exact Nat.add_lt_add_left (by decide) _ | exact Nat.lt_add_of_pos_right (by decide) | exact Nat.lt_of_lt_of_le la' (Nat.le_add_right _ _) | exact Nat.lt_of_lt_of_le lb' (Nat.le_add_right _ _))
    · obtain ⟨e1, st1⟩ := st.hext ex
      refine ⟨.ref p, _, I', rfl, q ρ2 _ _ (e1.trans (ext_new np)) (st1.new np) ?_⟩
      unfold RV
      refine ⟨p, _, rfl, .of upd_same, RVs.of_at (by simp [zipV, dr.len]; omega) fun i x w hx hw => ?_⟩
      obtain ⟨T, hT, rfl⟩ : ∃ T, ts'[i]? = some T ∧ w = .ref T := by
        rw [List.getElem?_map] at hw
        cases e : ts'[i]? with
        | none => rw [e] at hw; cases hw
        | some T => rw [e] at hw; exact ⟨T, rfl, (Option.some.inj hw).symm⟩
      obtain ⟨y, u, hH, hy, hu⟩ := dr.at_ i T hT
      obtain ⟨g, gy⟩ : ∃ g, src[i]? = some g := ⟨_, List.getElem?_eq_getElem (by have := (List.getElem?_eq_some_iff.mp hy).1; omega)⟩
      obtain ⟨g2, gu⟩ : ∃ g, src2[i]? = some g := ⟨_, List.getElem?_eq_getElem (by have := (List.getElem?_eq_some_iff.mp hu).1; omega)⟩
      have exx : x = .tup [g, g2] := by
        have zz : (src.zip src2)[i]? = some (g, g2) := List.getElem?_zip_eq_some.mpr ⟨gy, gu⟩
        have : (zipV src src2)[i]? = some (.tup [g, g2]) := by simp [zipV, zz]
        rw [this] at hx; exact (Option.some.inj hx).symm
      subst exx
      obtain ⟨w1, hw1, rw1⟩ := rx.get gy
      rw [hy] at hw1; cases hw1
      obtain ⟨w2, hw2, rw2⟩ := ry.get gu
      rw [hu] at hw2; cases hw2
      have e2 := e1.trans (ext_new np (o := .tup (ts'.map V.ref)))
      unfold RV
      exact ⟨T, _, rfl, .of (by rw [upd_ne (ne_of_none hH np)]; exact hH), .cons (rw1.ext e2) (.cons (rw2.ext e2) .nil)⟩
end
end Gx
end
section
set_option maxHeartbeats 1000000
set_option maxRecDepth 100000
namespace Gx
open PySem PySem.Spec PyProof.Rows L2
section
variable {prog : Program} {w : World} {A : Around} {E : Value → Shared → Prop} {s : Shared}
end
section
variable {prog : Program} {w : World} {A : Around} {E : Value → Shared → Prop} {s : Shared} {z TI TO i1 i2 : Addr} {fp1 fp2 : List Addr} {n i : Nat} {P1 P2 : Nat → Value → Prop} {St1 St2 : Nat → Heap → Prop} {a1 a2 : Value}
end
def iZipS (d d2 : E) : I := fun L S => (d L S).bind fun v S1 => (d2 L S1).bind fun u S2 => match itOf S2 v, itOf S2 u with
  | some src, some src2 => if src.items.length = src2.items.length then .ok ⟨src.stay ++ src2.stay, zipV src.items src2.items⟩ S2 else .bad
  | _, _ => .bad
section
variable {X : Cx} {W : XW} {e e2 : Expr} {d d2 : E} {pos p tpos : Pos} {elts : List Expr} {kk : Nat}
end
end Gx
end
section
set_option maxHeartbeats 2000000
set_option maxRecDepth 100000
namespace Gx
open PySem PySem.Spec PyProof.Rows L2
def rangeD (a : Int) (n : Nat) : List Val := (List.range n).map fun (k : Nat) => .int (a - k)
def iRangeD (aa : A) : I := fun L S => (aa L S).bind fun xs S1 => match xs with
  | [.int i, .int j, .int c] => if c = -1 ∧ -(2 ^ 62) ≤ i ∧ i < 2 ^ 62 ∧ -(2 ^ 62) ≤ j ∧ j < 2 ^ 62 then .ok ⟨[], rangeD i (i - j).toNat⟩ S1 else .bad
  | _ => .bad
section
variable {X : Cx} {W : XW} {tg e a b c : Expr} {p pos p2 pos2 : Pos} {aa : A} {d d2 : E}
def fRange2 (d d2 : E) : A := fun L S => (d L S).bind fun v S1 => (d2 L S1).bind fun u S2 => match v, u with
  | .int i, .int j => if -(2 ^ 62) ≤ i ∧ i < 2 ^ 62 ∧ -(2 ^ 62) ≤ j ∧ j < 2 ^ 62 ∧ (j - i).toNat ≤ 2 ^ 24 then .ok (rangeV i (j - i).toNat) S2 else .bad
  | _, _ => .bad
def fRange1 (d : E) : A := fun L S => (d L S).bind fun u S2 => match u with
  | .int j => if -(2 ^ 62) ≤ j ∧ j < 2 ^ 62 ∧ j.toNat ≤ 2 ^ 24 then .ok (rangeV 0 j.toNat) S2 else .bad
  | _ => .bad
def eTupF (f : A) : E := fun L S => (f L S).bind fun xs S1 => .ok (.tup xs) S1
def oMulT : O := fun x y S => match x, y with
  | .tup xs, .int k => if xs ≠ [] ∧ 2 ≤ k ∧ k ≤ 100000 ∧ xs.length * k.toNat ≤ 1000000 then .ok (.tup (List.replicate k.toNat xs).flatten) S else .bad
  | _, _ => .bad
end
end Gx
end
section
set_option maxHeartbeats 2000000
set_option maxRecDepth 100000
namespace Gx
open PySem PySem.Spec PyProof.Rows L2
def gcE (d : Nat) (S : Store) : R Val → R Val
  | .exn x S' => match fzVF (fzR S.length S' d) x.fs with
    | some fs => if fits S S' then .exn ⟨x.cls, fs⟩ (S'.take S.length) else .exn x S'
    | none => .exn x S'
  | .ok v S' => gcR d S (.ok v S')
  | .bad => .bad
def endR : RS → R Val
  | .nx _ S1 => .ok .non S1
  | .ret v S1 => .ok v S1
  | .exn x _ S1 => .exn x S1
  | .bad => .bad
def fnE (np n d : Nat) (b : SS) : F := fun args S => if args.length = np then gcE d S (endR (b (startL n args) S)) else .bad
theorem fnE_arity {np n d : Nat} {b : SS} (args : List Val) (S : Store) (h : args.length ≠ np) : fnE np n d b args S = .bad := if_neg h
def mkX (C : Addr) (f : F) (d : Nat) (xs : List Val) (S : Store) : R Val := match f (.ref S.length :: xs) (S ++ [.ins C []]) with
  | .ok .non S2 => gcR d S (.ok (.ref S.length) S2)
  | .ok _ _ => .bad
  | .exn x S2 => gcE d S (.exn x S2)
  | .bad => .bad
def eMakeX (C : Addr) (f : F) (d : Nat) (a : A) : E := fun L S => (a L S).bind fun xs S1 => mkX C f d xs S1
theorem gc_no {d : Nat} {S S1 S2 : Store} {v : Val} {x : Exc} (h : gcR d S (.ok v S1) = .exn x S2) : False := by
  unfold gcR at h
  dsimp only at h
  split at h
  · split at h <;> cases h
  · cases h
theorem gc_no2 {d : Nat} {S S1 : Store} {v : Val} (h : gcR d S (.ok v S1) = .bad) : False := by
  unfold gcR at h
  dsimp only at h
  split at h
  · split at h <;> cases h
  · cases h
theorem gc_core {K : PySem.W.Frag} {ρ ρ' : Pl} {H H' : Hp} {S S' : Store} (st : StOk K ρ H S) (e : Ext ρ H ρ' H') (st' : StOk K ρ' H' S') (hf : fits S S' = true) :
    Ext ρ H ρ H' ∧ StOk K ρ H' (S'.take S.length) ∧ ∀ (d : Nat) {fs fs2 : List (Str × Val)} {ws : List (Str × V)}, RVF K ρ' H' fs ws → fzVF (fzR S.length S' d) fs = some fs2 → RVF K ρ H' fs2 ws := by
  obtain ⟨r, er⟩ := e.pre
  have hl : ρ.c.length = S.length := st.len
  have cm : ∀ a, a ∈ ρ.c → a ∈ ρ'.c := fun a ha => by rw [er]; exact List.mem_append_left _ ha
  have fz : ∀ a u, Fz ρ' H' a u → Fz ρ H' a u := fun a u q => by
    rcases q with q | ⟨q, q1, q2⟩
    · exact .inl q
    · exact .inr ⟨q, fun z => q1 (cm a z), by rw [← e.eqm]; exact q2⟩
  have fu : ∀ a u, Fu ρ' H' a u → Fu ρ H' a u := fun a u ⟨q, q1, q2⟩ => ⟨q, fun z => q1 (cm a z), by rw [← e.eqm]; exact q2⟩
  have hb : ∀ m u a, belowR S.length m = some u → ρ'.c[m]? = some a → RV K ρ H' u (.ref a) := fun m u a q qa => by
    unfold belowR at q
    split at q
    · rename_i hm
      cases q
      unfold RV
      refine ⟨a, ?_, rfl⟩
      rw [er, List.getElem?_append_left (by omega)] at qa
      exact qa
    · cases q
  have hr : ∀ (k m : Nat) (u : Val) (a : Addr), fzR S.length S' k m = some u → ρ'.c[m]? = some a → RV K ρ H' u (.ref a) := fun k => by
    induction k with
    | zero => exact fun m u a q qa => hb m u a q qa
    | succ k ih =>
      intro m u a q qa
      unfold fzR at q
      split at q
      · rename_i hm
        exact hb m u a (by unfold belowR; rw [if_pos hm]; exact q) qa
      · rename_i hm
        have free : a ∉ ρ.c := fun z => by
          obtain ⟨j, hj, ej⟩ := List.mem_iff_getElem.mp z
          obtain ⟨h1, e1⟩ := List.getElem?_eq_some_iff.mp qa
          have hj' : j < ρ'.c.length := by rw [er]; simp; omega
          have e2 : ρ'.c[j] = a := by
            have : ρ'.c[j]? = some a := by rw [er, List.getElem?_append_left hj, List.getElem?_eq_getElem hj, ej]
            rw [List.getElem?_eq_getElem hj'] at this
            exact Option.some.inj this
          have := (List.getElem_inj st'.nd).mp (e2.trans e1.symm)
          omega
        have nm : a ∉ ρ.m := fun z => (st'.bz a (by rw [e.eqm]; exact z)).2 (List.mem_of_getElem? qa)
        cases qc : S'[m]? with
        | none => rw [qc] at q; cases q
        | some c =>
          rw [qc] at q
          obtain ⟨a', ha', rc⟩ := st'.cell m c qc
          rw [qa] at ha'; cases ha'
          cases c with
          | lst xs =>
            simp only [Option.map_eq_some_iff] at q
            obtain ⟨ys, q1, rfl⟩ := q
            obtain ⟨ws, h1, h2⟩ := rc
            unfold RV
            exact ⟨a, ws, rfl, ⟨h1, free, nm⟩, h2.fz fz fu (ih) q1⟩
          | dct xs =>
            simp only [Option.map_eq_some_iff] at q
            obtain ⟨ys, q1, rfl⟩ := q
            obtain ⟨ws, h1, h2⟩ := rc
            unfold RV
            exact ⟨a, ws, rfl, .inr ⟨h1, free, nm⟩, h2.fz fz fu (ih) q1⟩
          | dtt xs =>
            simp only [Option.map_eq_some_iff] at q
            obtain ⟨ys, q1, rfl⟩ := q
            obtain ⟨ws, h1, h2⟩ := rc
            unfold RV
            exact ⟨a, _, ws, rfl, ⟨h1, free, nm⟩, h2.fz fz fu (ih) q1⟩
          | dnt xs => cases q
          | ins C xs =>
            simp only [Option.map_eq_some_iff] at q
            obtain ⟨ys, q1, rfl⟩ := q
            obtain ⟨dx, ws, h1, h2⟩ := rc
            unfold RV
            exact ⟨a, dx, ws, rfl, ⟨h1, free, nm⟩, h2.fz fz fu (ih) q1⟩
  refine ⟨⟨⟨⟨[], by simp⟩, fun _ h => .inl h, e.fix, fun _ h => .inl h, e.live⟩, rfl⟩, ⟨?_, st.nd, fun a ha => ?_, fun n c hn => ?_⟩, fun d fs fs2 ws rv hv => rv.fz fz fu (hr d) hv⟩
  · have : ρ'.c.length = S'.length := st'.len
    rw [er] at this
    simp at this ⊢
    omega
  · obtain ⟨z1, z2⟩ := st'.bz a (by rw [e.eqm]; exact ha)
    exact ⟨z1, fun z => z2 (cm a z)⟩
  · have hn1 : n < S.length := by
      have := (List.getElem?_eq_some_iff.mp hn).1
      simp at this
      omega
    rw [List.getElem?_take_of_lt hn1] at hn
    obtain ⟨a, ha, rc⟩ := st'.cell n c hn
    have ha2 : ρ.c[n]? = some a := by
      rw [er, List.getElem?_append_left (by omega)] at ha
      exact ha
    refine ⟨a, ha2, ?_⟩
    have cb : c.below S.length = true := by
      have q := List.all_eq_true.mp hf n (List.mem_range.mpr hn1)
      rw [hn] at q
      dsimp only at q
      rcases Bool.or_eq_true_iff.mp q with q | q
      · have q := of_decide_eq_true q
        obtain ⟨b, _, rc2⟩ := st.cell n c q
        have := rc2.below
        rw [hl] at this
        exact this
      · exact q
    cases c with
    | lst xs =>
      obtain ⟨ws, h1, h2⟩ := rc
      obtain ⟨ys, q1⟩ := Option.isSome_iff_exists.mp cb
      have := fzs_id q1
      subst this
      exact ⟨ws, h1, h2.fz fz fu hb q1⟩
    | dct xs =>
      obtain ⟨ws, h1, h2⟩ := rc
      obtain ⟨ys, q1⟩ := Option.isSome_iff_exists.mp cb
      have := fzK_id q1
      subst this
      exact ⟨ws, h1, h2.fz fz fu hb q1⟩
    | dtt xs =>
      obtain ⟨ws, h1, h2⟩ := rc
      obtain ⟨ys, q1⟩ := Option.isSome_iff_exists.mp cb
      have := fzT_id q1
      subst this
      exact ⟨ws, h1, h2.fz fz fu hb q1⟩
    | dnt xs =>
      obtain ⟨ws, h1, h2⟩ := rc
      obtain ⟨ys, q1⟩ := Option.isSome_iff_exists.mp cb
      have := fzs_id q1
      subst this
      exact ⟨ws, h1, h2.fz fz fu hb q1⟩
    | ins C xs =>
      obtain ⟨dx, ws, h1, h2⟩ := rc
      obtain ⟨ys, q1⟩ := Option.isSome_iff_exists.mp cb
      have := fzF_id q1
      subst this
      exact ⟨dx, ws, h1, h2.fz fz fu hb q1⟩
theorem gcE_ok {K : PySem.W.Frag} {ρ ρ' : Pl} {H H' : Hp} {S S' S2 : Store} {d : Nat} {x y : Exc} {c : Value} {dd : Option Addr} (st : StOk K ρ H S) (e : Ext ρ H ρ' H') (st' : StOk K ρ' H' S') (xv : XV K ρ' H' x c dd) (h : gcE d S (.exn x S') = .exn y S2) :
    ∃ ρ2, Ext ρ H ρ2 H' ∧ StOk K ρ2 H' S2 ∧ XV K ρ2 H' y c dd := by
  unfold gcE at h
  dsimp only at h
  split at h
  · rename_i fs2 hv
    split at h
    · rename_i hf
      simp only [R.exn.injEq] at h
      obtain ⟨rfl, rfl⟩ := h
      obtain ⟨e2, s2, k⟩ := gc_core st e st' hf
      refine ⟨ρ, e2, s2, xv.1, ?_⟩
      rcases xv.2 with ⟨h1, h2⟩ | ⟨a, ws, h1, h2, h3⟩
      · rw [h1] at hv
        simp only [fzVF, Option.some.injEq] at hv
        exact .inl ⟨hv.symm, h2⟩
      · exact .inr ⟨a, ws, h1, h2, k d h3 hv⟩
    · cases h; exact ⟨ρ', e, st', xv⟩
  · cases h; exact ⟨ρ', e, st', xv⟩
theorem gcE_exn {d : Nat} {S S' : Store} {x : Exc} : ∃ y S2, gcE d S (.exn x S') = .exn y S2 := by
  unfold gcE
  dsimp only
  split
  · split <;> exact ⟨_, _, rfl⟩
  · exact ⟨_, _, rfl⟩
theorem body_endE {K : PySem.W.Frag} {ρ : Pl} {H : Hp} {S : Store} {d : Nat} {r : RS} {Q : VK} {W : XW} (st : StOk K ρ H S) (h : Post K W (RV K) ρ H [] (gcE d S (endR r)) Q) : PostS K (fun c d _ H' => W c d [] H') ρ H r { nx := fun _ H' => Q .non H', rt := Q } := by
  have fin : ∀ v S1, Post K W (RV K) ρ H [] (gcR d S (.ok v S1)) Q → ∀ ρ' H' w, Ext ρ H ρ' H' → StOk K ρ' H' S1 → RV K ρ' H' v w → Q w H' := fun v S1 p ρ' H' w e s rv => by
    cases q : gcR d S (R.ok v S1) with
    | ok v2 S2 =>
      rw [q] at p
      obtain ⟨ρ2, e2, s2, r2⟩ := gc_ok st e s rv q
      exact p ρ2 H' w e2 s2 r2
    | exn x S2 => exact (gc_no q).elim
    | bad => exact (gc_no2 q).elim
  cases r with
  | nx L S1 => exact fun ρ' H' σ' e s => fin .non S1 h ρ' H' .non e s.st .mk_non
  | ret v S1 => exact fin v S1 h
  | exn x L S1 =>
    intro ρ' H' σ' c dd e s xv
    obtain ⟨y, S2, q⟩ := gcE_exn (d := d) (S := S) (S' := S1) (x := x)
    have h : Post K W (RV K) ρ H [] (gcE d S (.exn x S1)) Q := h
    rw [q] at h
    obtain ⟨ρ2, e2, s2, xv2⟩ := gcE_ok st e s.st xv q
    exact h ρ2 H' c dd e2 s2 xv2
  | bad => exact h
theorem cx_no {P : Program} {w : World} {outer : List Env} {H : Hp} {s s' : Shared} {e : Value} (h : L2.CX P w outer H s (fun _ _ _ => False) e s') : False := by
  obtain ⟨_, _, _, _, _, _, _, _, _, _, _, _, z⟩ := h
  exact z
class Nn where
  n : Bool
def CXn [N : Nn] (P : Program) (w : World) : CXT := match N.n with | true => L2N.CX P w | false => L2.CX P w
def TakesN [N : Nn] (X : Cx) (W : XW) : Prop := match N.n with | true => L2N.Takes X W | false => L2.Takes X W
theorem sky_zc {B : Heap} {l : List Env} {a L : Addr} {cls : Value} {d : Option Addr} {h : Heap} (x : Sky B l a (L2N.Zn cls d) L h) : Sky B l a (Zc cls d) L h := by
  rcases x with ⟨h1, h2, h3, oe, vs, e1, e2, e3, e4⟩ | z | z
  · exact .inl ⟨h1, h2, h3, oe, vs, e1, e2.zc, e3, e4⟩
  · exact .inr (.inl (L2H.flyingZ_imp (fun o z => z.zc) z))
  · exact .inr (.inr ⟨z.1, z.2.1, z.2.2.1, L2H.tracedZ_imp (fun o z => z.zc) z.2.2.2⟩)
theorem takes_n {X : Cx} {W : XW} (tk : L2.Takes X W) : L2N.Takes X W := fun u s' ⟨a, B, sI, pins, σ, H, cls, d, e, I, nb, up, sky, na, os, ag, w⟩ =>
  tk u s' ⟨a, B, sI, pins, σ, H, cls, d, e, I, nb, up, sky_zc sky, na, os, ag, w⟩
theorem takesN_n [N : Nn] {X : Cx} {W : XW} (tk : TakesN X W) : L2N.Takes X W := by
  obtain ⟨n⟩ := N
  cases n with
  | true => exact tk
  | false => exact takes_n tk
theorem cxn_no [N : Nn] {P : Program} {w : World} {outer : List Env} {H : Hp} {s s' : Shared} {e : Value} (h : CXn P w outer H s (fun _ _ _ => False) e s') : False := by
  obtain ⟨n⟩ := N
  cases n with
  | true =>
    obtain ⟨_, _, _, _, _, _, _, _, _, _, _, _, z⟩ := (show L2N.CX P w outer H s (fun _ _ _ => False) e s' from h)
    exact z
  | false => exact cx_no h
theorem takesN_of [N : Nn] {X : Cx} {E : XK} (hs : X.stack = X.env :: X.outer) (hf : X.env.frame = some X.env.locals) (hex : X.ex = []) {E₁ : Value → Shared → Prop}
    (hx : X.xe = fun e s' => wpAny (model X.prog X.w) X.A (leaving X.env e) (fun _ s'' => CXn X.prog X.w X.outer X.H_0 X.s_0 E e s'') E₁ s') : TakesN X (fun cls d _ H => E cls d H) := by
  obtain ⟨n⟩ := N
  cases n with
  | true => exact L2N.takes_of hs hf hex hx
  | false => exact L2.takes_of hs hf hex hx
def Lets [N : Nn] (X : Cx) (W : XW) : Prop := ∀ σ, PassesAt (CXn X.prog X.w) X σ (WE W σ)
theorem lets0 [N : Nn] {X : Cx} : Lets X W0 := fun σ pins H s e s' I h => (cxn_no h).elim
theorem lets_of [N : Nn] {X : Cx} {W : XW} (tk : TakesN X W) : Lets X W := by
  obtain ⟨n⟩ := N
  cases n with
  | true => exact fun σ => L2N.passAt tk σ
  | false => exact fun σ => L2.passAt tk σ
variable [Nn]
omit [Nn] in
abbrev WofE (E : XK) : XW := fun c d _ H => E c d H
structure FnX (P : Program) (w : World) (K : PySem.W.Frag) (mg : Str → Option Value) (base : Heap) (g : Bool) (k : Nat) (a : Addr) (fd : FuncData) (ps : List Str) (f : F) (n : Nat) : Prop where
  len : ps.length = n
  bad : ∀ args S, args.length ≠ n → f args S = .bad
  run : ∀ (A : Around) (outer : List Env) (s : Shared) (H : Hp) (args : Args) (us : List Value) (vs : List V) (Q : VK) (E : XK), (g = true → A.guards = some []) → Room k A → Env0 P w K mg base A outer s H → BindsTo s fd args (ps.zip us) → Vals vs us → spOf K f n vs H Q E →
    codeAny (model P w) A (.call (.ref a) args) (CR (CXn P w) outer P w H s Q E) s
section
variable {P : Program} {w : World} {K : PySem.W.Frag} {mg : Str → Option Value} {base : Heap} {g : Bool} {k : Nat} {f : Addr} {fd : FuncData} {N ps : List Str}
theorem fnX_ok {x qual : Str} {st : Stmt} {dV : Value} {d : Nat} {db : SS} (F : FunV K x qual st dV f fd) (S : FnScope N ps (defScope st))
    (hb : ∀ (cdv : Value) (A : Around) (outer : List Env) (s : Shared) (H : Hp) (E : XK), (g = true → (A.deeper (envOfC qual (defScope st) s.heap.objs.size f cdv)).guards = some []) → Room k (A.deeper (envOfC qual (defScope st) s.heap.objs.size f cdv)) →
      TakesN (cxOf (CXn P w) P w K mg base N qual (defScope st) f cdv A outer s H E) (WofE E) → PassesOwn (model P w) (A.deeper (envOfC qual (defScope st) s.heap.objs.size f cdv)) (envOfC qual (defScope st) s.heap.objs.size f cdv) (cxOf (CXn P w) P w K mg base N qual (defScope st) f cdv A outer s H E).xe →
      DSs (cxOf (CXn P w) P w K mg base N qual (defScope st) f cdv A outer s H E) (WofE E) (defBody st) db) : FnX P w K mg base g (k + 1) f fd ps (fnE ps.length N.length d db) ps.length := by
  obtain ⟨oc, od, kV, doc, pm, an, cdv, ct, osl, rfl, lk, hcd⟩ := F.ex
  refine ⟨rfl, fun args S h => fnE_arity args S h, fun A outer s H args us vs Q E gd hr e0 hb' r q0 => ?_⟩
  have keep : ∀ b o, base.get? b = some o → s.heap.get? b = some o := fun b o z => (e0.bs b o z).1
  have kin := e0.mod.kin.keeps keep
  have lim := e0.mod.nolimit.keeps keep
  have kinds : ∀ y ∈ ps.zip us, (defScope st).names.lookup y.1 = some .local ∨ ((defScope st).names.lookup y.1 = some .cell ∧ ((cellsFrom (s.heap.objs.size + 1) (defScope st).names []).lookup y.1).isSome = true) := by
    rintro ⟨n, v⟩ hy
    rcases S.par n (List.of_mem_zip hy).1 with q | q
    · exact .inl q
    · exact .inr ⟨q, PySem.W.cellsFrom_some _ _ _ (.inl q)⟩
  refine codeAny_call_function hr.depth (kin _ _ lk) rfl S.co S.gen rfl (PySem.W.codeRec_of kin hcd) (hb' _ _ _ _ (wpAny_newFunctionEnv_cells S.kind kinds fun env he s1 x => ?_))
  subst he
  have ht := (hb cdv A outer s H E (fun z => guards_deeper (gd z)) (hr.deeper _) (takesN_of rfl rfl rfl rfl) (passes_of rfl)).ps
  have hvl : vs.length = ps.length := spOf_len q0
  have J := inv_start (CX := CXn P w) (E := E) S hr.hd e0 hvl r x
  have hq : lS K (WofE E) db { nx := fun _ H' => Q .non H', rt := Q } (L2.start N vs) H := by
    obtain ⟨ρ, S, args, st, r, l, p⟩ := q0
    rw [fnE, if_pos l] at p
    exact ⟨ρ, S, startL N.length args, ⟨st, start_loc N r⟩, body_endE (W := fun c d _ H' => E c d H') st p⟩
  refine ⟨lim.keeps x.toInCall.keep, codeAny_func (wpAny_mono (ht.run [] s1 (L2.start N vs) H _ J hq) (fun fl s' hs => ?_) fun e s' hs => hs)⟩
  cases fl with
  | ret u => obtain ⟨v, σ', H', J1, rv, z⟩ := hs; exact ⟨v, H', J1.os, J1.bare, J1.base, J1.hok, rv, z⟩
  | next => obtain ⟨σ', H', J1, z⟩ := hs; exact ⟨.non, H', J1.os, J1.bare, J1.base, J1.hok, rfl, z⟩
  | brk => obtain ⟨_, _, _, z⟩ := hs; exact z.elim
  | cont => obtain ⟨_, _, _, z⟩ := hs; exact z.elim
theorem FnX.top {a : Gx.F} {x : Str} (F : FnX P w K mg base true k f fd [x] a 1) : GFn P w K mg base CX0 k f fd [x] (fun vs H Q _ => spOf K a 1 vs H Q E0) :=
  ⟨fun vs H Q E h => spOf_len h, fun A outer s H args us vs Q E gd hr e0 b r h => codeAny_mono (F.run A outer s H args us vs Q E0 (fun _ => gd) hr e0 b r h) fun rr s' z => match rr, z with
    | .error e, z => (cxn_no z).elim
    | .ok (.ret u), z => z
    | .ok .next, z => z
    | .ok .brk, z => z
    | .ok .cont, z => z⟩
end
section
variable {X : Cx} {W : XW} {e o : Expr} {es : List Expr} {x m : Str} {f : F} {n k j : Nat} {g : Bool} {ds : List Val} {aa : A} {d : E} {pos p apos : Pos} {kws : List Keyword} {ks : List Str} {ix : List Nat} {C : Addr}
theorem run_X {fa : Addr} {fd : FuncData} {ps : List Str} {pins : List (Addr × Obj)} {σ : L2.St} {H : Hp} {s : Shared} {Q : VK} {us first : List Value} {kw : List (Str × Value)} {vs : List V} (F : FnX X.prog X.w X.K X.mg X.base g k fa fd ps f n) (gd : g = true → X.A.guards = some []) (hr : Room k X.A) (lt : Lets X W)
    (I : Inv X pins σ H s) (b : BindsTo s fd ⟨first, kw⟩ (ps.zip us)) (r : Vals vs us) (h : spOf X.K f n vs H Q (WE W σ)) : wpAny (model X.prog X.w) X.A (call (.ref fa) first kw) (EP X pins σ Q) X.xe s := by
  refine wpAny_call (codeAny_mono (F.run X.A X.stack s H ⟨first, kw⟩ us vs Q (WE W σ) gd hr I.env0 b r h) fun rr s' z => ?_)
  match rr, z with
  | .error e, z => exact lt σ pins H s e s' I z
  | .ok (.ret u), z => exact I.after z
  | .ok .next, z => exact z.elim
  | .ok .brk, z => exact z.elim
  | .ok .cont, z => exact z.elim
structure FOkX (P : Program) (w : World) (K : PySem.W.Frag) (mg : Str → Option Value) (base : Heap) (g : Bool) (k : Nat) (x : Str) (f : F) (n : Nat) (ds : List Val) : Prop where
  ex : ∃ (a : Addr) (fd : FuncData) (ps : List Str) (dvs : List V) (dus : List Value), FnX P w K mg base g k a fd ps f n ∧ mg x = some (.ref a) ∧ PySem.W.keepIn K (.ref a) = true ∧ Binds K fd ps dus ∧ Vals dvs dus ∧ ∀ ρ H, RVs K ρ H ds dvs
structure MOkX (P : Program) (w : World) (K : PySem.W.Frag) (mg : Str → Option Value) (base : Heap) (g : Bool) (k : Nat) (C : Addr) (m : Str) (f : F) (n : Nat) : Prop where
  cls : Cls K C
  ex : ∃ (a : Addr) (fd : FuncData) (ps : List Str), FnX P w K mg base g k a fd ps f n ∧ Meth K C m a ∧ Binds K fd ps []
structure COkX (P : Program) (w : World) (K : PySem.W.Frag) (mg : Str → Option Value) (base : Heap) (k : Nat) (x : Str) (C : Addr) (f : F) (n : Nat) (ds : List Val) : Prop where
  ex : ∃ (a : Addr) (fd : FuncData) (ps : List Str) (dvs : List V) (dus : List Value), FnX P w K mg base false k a fd ps f n ∧ Mk K C a ∧ mg x = some (.ref C) ∧ Binds K fd ps dus ∧ Vals dvs dus ∧ ∀ ρ H, RVs K ρ H ds dvs
theorem app_run {ρ : Pl} {H : Hp} {σ : L2.St} {L : Loc} {S : Store} {Q : VK} (h : Post X.K W (RV X.K) ρ H σ (eCall f (aApp aa ds) L S) Q) : Post X.K W (RV X.K) ρ H σ ((aa L S).bind fun xs S1 => f (xs ++ ds) S1) Q := by
  unfold eCall aApp at h
  cases q : aa L S with
  | ok xs S1 => rw [q] at h; exact h
  | exn x S1 => rw [q] at h; exact h
  | bad => rw [q] at h; exact h
theorem sp_of {ρ : Pl} {H : Hp} {σ : L2.St} {S : Store} {xs : List Val} {vs : List V} {Q : VK} (bad : ∀ args S, args.length ≠ n → f args S = .bad) (st : StOk X.K ρ H S) (r : RVs X.K ρ H xs vs) (h : Post X.K W (RV X.K) ρ H σ (f xs S) Q) : spOf X.K f n vs H Q (WE W σ) := by
  by_cases hl : xs.length = n
  · exact ⟨ρ, S, xs, st, r, hl, PostW.weak h fun _ _ _ z => z⟩
  · rw [bad _ _ hl] at h; exact h.elim
theorem de_callX (c : FOkX X.prog X.w X.K X.mg X.base g k x f n ds) (gd : g = true → X.A.guards = some []) (lt : Lets X W) (hr : Room k X.A) (hg : Gl X x) (ha : DA X W (e :: es) aa) (hdb : (x == ("__debug__" : Str)) = false := by decide)
    (he : starEach (e :: es) X.env = (false, eval e X.env) :: starEach es X.env := by rfl) (hpl : (backTo pos (starEach es X.env)).any (·.1) = false := by rfl) : DE X W (.Call (.Name x p) (e :: es) [] pos) (eCall f (aApp aa ds)) := by
  obtain ⟨a, fd, ps, dvs, dus, F, hm, hk, hb, hd, hds⟩ := c.ex
  refine ⟨⟨fun pins s σ H Q I h => wpAny_Call_Name_kw (ld_glob I hg hm ?_ hdb)⟩⟩
  obtain ⟨ρ, S, L, sim, h⟩ := h
  have q : lA X.K W aa σ H fun vs H1 => spOf X.K f n (vs ++ dvs) H1 Q (WE W σ) := ⟨ρ, S, L, sim, Post.bind (app_run h) fun xs S1 ρ1 H1 vs _ e1 s1 r1 h1 => sp_of F.bad s1 (r1.append (hds ρ1 H1)) h1⟩
  refine PySem.W.callWith_K (h₀ := X.base) I.ok.mod.kin hk (thn (ha.pa.run pos pins s σ H _ I q) fun us s1 ⟨vs, H1, I1, r, q1⟩ => ⟨I1.kIn, ?_⟩) he hpl
  exact run_X F gd hr lt I1 (hb s1 us I1.kIn (by have := r.length; have := hd.length; have := spOf_len q1; have := F.len; simp at *; omega)) (r.append hd) q1
theorem de_call0X (c : FOkX X.prog X.w X.K X.mg X.base g k x f n ds) (gd : g = true → X.A.guards = some []) (lt : Lets X W) (hr : Room k X.A) (hg : Gl X x) (hdb : (x == ("__debug__" : Str)) = false := by decide) : DE X W (.Call (.Name x p) [] [] pos) (eCall f (aApp aNil ds)) := by
  obtain ⟨a, fd, ps, dvs, dus, F, hm, hk, hb, hd, hds⟩ := c.ex
  refine ⟨⟨fun pins s σ H Q I h => wpAny_Call_Name_kw (ld_glob I hg hm ?_ hdb)⟩⟩
  obtain ⟨ρ, S, L, sim, h⟩ := h
  have q1 : spOf X.K f n ([] ++ dvs) H Q (WE W σ) := sp_of F.bad sim.st (hds ρ H) (show Post X.K W (RV X.K) ρ H σ (f ds S) Q from h)
  exact PySem.W.callWith_K0 I.kIn hk (run_X (us := [] ++ dus) (first := []) F gd hr lt I (hb s [] I.kIn (by have := hd.length; have := spOf_len q1; have := F.len; simp at *; omega)) hd q1)
theorem objR {ρ : Pl} {H : Hp} {S1 : Store} {v : Val} {w : V} (s1 : StOk X.K ρ H S1) (r1 : RV X.K ρ H v w) {σ : L2.St} {Q : VK} {T : R Val} (h1 : Post X.K W (RV X.K) ρ H σ (match objOf S1 v with
  | some (D, fs) => if D = C ∧ fs.lookup m = none then T else .bad
  | none => .bad) Q) : ∃ b dx ws, w = .ref b ∧ H b = some (.ins C dx ws) ∧ ws.lookup m = none ∧ Post X.K W (RV X.K) ρ H σ T Q := by
  cases q : objOf S1 v with
  | none => rw [q] at h1; exact h1.elim
  | some pr =>
    obtain ⟨D, fs⟩ := pr
    rw [q] at h1
    dsimp only at h1
    split at h1
    · rename_i hin
      obtain ⟨rfl, hlk⟩ := hin
      obtain ⟨b, dx, ws, rfl, hb', hf⟩ := obj_read s1 r1 q
      have hl := hf.lookup (f := m)
      rw [hlk] at hl
      exact ⟨b, dx, ws, rfl, hb', hl, h1⟩
    · exact h1.elim
theorem de_methX {pl : Sem Bool} (c : MOkX X.prog X.w X.K X.mg X.base g k C m f n) (gd : g = true → X.A.guards = some []) (lt : Lets X W) (hr : Room k X.A) (ho : DE X W o d) (ha : DA X W (e :: es) aa)
    (hst : starEach (e :: es) X.env = (false, eval e X.env) :: starEach es X.env := by rfl) (hpl : (backTo pos (starEach es X.env)).any (·.1) = false := by rfl)
    (ht : eval (.Call (.Attribute o m apos) (e :: es) [] pos) X.env = (do
      let ov ← eval o X.env
      standAt apos.atName
      let (f, first) ← holding [ov] (getMethod ov m pl)
      callWith pos f first (backTo pos (starEach (e :: es) X.env)) (backToKw pos (keywordEach [] X.env))) := by rfl) : DE X W (.Call (.Attribute o m apos) (e :: es) [] pos) (eMeth C m f d aa) := by
  obtain ⟨a, fd, ps, F, hm, hb⟩ := c.ex
  refine ⟨⟨fun pins s σ H Q I h => ?_⟩⟩
  obtain ⟨ρ, S, L, sim, h⟩ := h
  have h2 : lE X.K W d σ H fun w H1 => ∃ b dx ws, w = .ref b ∧ H1 b = some (.ins C dx ws) ∧ ws.lookup m = none ∧ lA X.K W aa σ H1 fun vs H2 => spOf X.K f n (.ref b :: vs) H2 Q (WE W σ) := by
    refine ⟨ρ, S, L, sim, Post.bind h fun v S1 ρ1 H1 w _ e1 s1 r1 h1 => ?_⟩
    obtain ⟨b, dx, ws, rfl, hb', hl, p⟩ := objR s1 r1 h1
    exact ⟨b, dx, ws, rfl, hb', hl, ρ1, S1, L, sim.next e1 s1, Post.bind p fun xs S2 ρ2 H2 vs _ e2 s2 r2 h2 => sp_of F.bad s2 (.cons (r1.ext e2) r2) h2⟩
  refine PySem.W.methodCall_KW (pl := pl) (thn (ho.pe.run pins s σ H _ I h2) fun u s1 ⟨x, H1, I1, rx, b, dx, fs, ex, ea, l, q⟩ => ?_) ht
  subst ex
  obtain rfl : u = Value.ref b := rx
  refine getmeth_ok I1 ea c.cls hm l ?_
  refine PySem.W.callWith_K (first := [.ref b]) (h₀ := X.base) I.ok.mod.kin hm.kp (thn (ha.pa.run pos pins s1 σ H1 _ I1 q) fun us s2 ⟨vs, H2, I2, r, q2⟩ => ⟨I2.kIn, ?_⟩) hst hpl
  have b2 := hb s2 (.ref b :: us) I2.kIn (by have := r.length; have := spOf_len q2; have := F.len; simp at *; omega)
  rw [List.append_nil] at b2
  exact run_X (us := .ref b :: us) F gd hr lt I2 b2 (.cons (show RelV (V.ref b) (Value.ref b) from rfl) r) q2
theorem de_meth0X {pl : Sem Bool} (c : MOkX X.prog X.w X.K X.mg X.base g k C m f n) (gd : g = true → X.A.guards = some []) (lt : Lets X W) (hr : Room k X.A) (ho : DE X W o d)
    (ht : eval (.Call (.Attribute o m apos) [] [] pos) X.env = (do
      let ov ← eval o X.env
      standAt apos.atName
      let (f, first) ← holding [ov] (getMethod ov m pl)
      callWith pos f first (backTo pos (starEach [] X.env)) (backToKw pos (keywordEach [] X.env))) := by rfl) : DE X W (.Call (.Attribute o m apos) [] [] pos) (eMeth C m f d aNil) := by
  obtain ⟨a, fd, ps, F, hm, hb⟩ := c.ex
  refine ⟨⟨fun pins s σ H Q I h => ?_⟩⟩
  obtain ⟨ρ, S, L, sim, h⟩ := h
  have h2 : lE X.K W d σ H fun w H1 => ∃ b dx ws, w = .ref b ∧ H1 b = some (.ins C dx ws) ∧ ws.lookup m = none ∧ spOf X.K f n [.ref b] H1 Q (WE W σ) := by
    refine ⟨ρ, S, L, sim, Post.bind h fun v S1 ρ1 H1 w _ e1 s1 r1 h1 => ?_⟩
    obtain ⟨b, dx, ws, rfl, hb', hl, p⟩ := objR s1 r1 h1
    exact ⟨b, dx, ws, rfl, hb', hl, sp_of F.bad s1 (.cons r1 .nil) (show Post X.K W (RV X.K) ρ1 H1 σ (f [v] S1) Q from p)⟩
  refine PySem.W.methodCall_KW (pl := pl) (thn (ho.pe.run pins s σ H _ I h2) fun u s1 ⟨x, H1, I1, rx, b, dx, fs, ex, ea, l, q⟩ => ?_) ht
  subst ex
  obtain rfl : u = Value.ref b := rx
  refine getmeth_ok I1 ea c.cls hm l ?_
  have b2 := hb s1 [.ref b] I1.kIn (by have := spOf_len q; have := F.len; simp at *; omega)
  rw [List.append_nil] at b2
  exact PySem.W.callWith_K0 (first := [.ref b]) I1.kIn hm.kp (run_X (us := [.ref b]) F gd hr lt I1 b2 (.cons (show RelV (V.ref b) (Value.ref b) from rfl) .nil) q)
theorem make_endX {K : PySem.W.Frag} {ρ : Pl} {H : Hp} {S : Store} {σ : L2.St} {gc : Nat} {xs : List Val} {vs : List V} {Q : VK} (st : StOk K ρ H S) (r : RVs K ρ H xs vs)
    (h : Post K W (RV K) ρ H σ (mkX C f gc xs S) Q) (x dx : Addr) (hx : H x = none) (hdx : H dx = none) (hne : dx ≠ x) :
    ∃ ρ1 S1, StOk K ρ1 (upd (upd H dx (.own x)) x (.ins C dx [])) S1 ∧ RVs K ρ1 (upd (upd H dx (.own x)) x (.ins C dx [])) (.ref S.length :: xs) (.ref x :: vs) ∧
      Post K W (RV K) ρ1 (upd (upd H dx (.own x)) x (.ins C dx [])) σ (f (.ref S.length :: xs) S1) (fun v H2 => v = .non ∧ Q (.ref x) H2) := by
  have hx2 : upd H dx (.own x) x = none := by rw [upd_ne (Ne.symm hne)]; exact hx
  have e1 : Ext ρ H ρ (upd H dx (.own x)) := ext_new hdx
  have s1 : StOk K ρ (upd H dx (.own x)) S := st.new hdx
  have e2 : Ext ρ (upd H dx (.own x)) (ρ.add x) (upd (upd H dx (.own x)) x (.ins C dx [])) := ext_cell hx2
  have s2 : StOk K (ρ.add x) (upd (upd H dx (.own x)) x (.ins C dx [])) (S ++ [.ins C []]) := s1.alloc hx2 ⟨dx, [], upd_same, by unfold RVF; rfl⟩
  have r0 : RV K (ρ.add x) (upd (upd H dx (.own x)) x (.ins C dx [])) (.ref S.length) (.ref x) := by
    unfold RV
    exact ⟨x, by show (ρ.c ++ [x])[S.length]? = some x; rw [← st.len, List.getElem?_concat_length], rfl⟩
  refine ⟨ρ.add x, S ++ [.ins C []], s2, .cons r0 ((r.ext e1).ext e2), ?_⟩
  unfold mkX at h
  cases qf : f (.ref S.length :: xs) (S ++ [.ins C []]) with
  | bad => rw [qf] at h; exact h.elim
  | exn y S3 =>
    rw [qf] at h
    have h : Post K W (RV K) ρ H σ (gcE gc S (.exn y S3)) Q := h
    obtain ⟨y2, S4, q⟩ := gcE_exn (d := gc) (S := S) (S' := S3) (x := y)
    rw [q] at h
    intro ρ' H' c d e s xv
    obtain ⟨ρ4, e4, s4, xv4⟩ := gcE_ok st ((e1.trans e2).trans e) s xv q
    exact h ρ4 H' c d e4 s4 xv4
  | ok v S3 =>
    rw [qf] at h
    intro ρ3 H3 w e3 s3 r3
    cases v with
    | non =>
      refine ⟨r3.non_inv, ?_⟩
      have h : Post K W (RV K) ρ H σ (gcR gc S (.ok (.ref S.length) S3)) Q := h
      have r4 : RV K ρ3 H3 (.ref S.length) (.ref x) := r0.ext e3
      cases q : gcR gc S (R.ok (.ref S.length) S3) with
      | ok v2 S4 =>
        rw [q] at h
        obtain ⟨ρ4, e4, s4, r5⟩ := gc_ok st ((e1.trans e2).trans e3) s3 r4 q
        exact h ρ4 H3 _ e4 s4 r5
      | exn y S2 => exact (gc_no q).elim
      | bad => exact (gc_no2 q).elim
    | _ => exact (show False from h).elim
theorem mkX_arity {K : PySem.W.Frag} {ρ : Pl} {H : Hp} {S : Store} {σ : L2.St} {gc : Nat} {xs : List Val} {Q : VK} (bad : ∀ args S, args.length ≠ n → f args S = .bad) (h : Post K W (RV K) ρ H σ (mkX C f gc xs S) Q) : xs.length + 1 = n := by
  by_cases hl : (Val.ref S.length :: xs).length = n
  · simpa using hl
  · unfold mkX at h
    rw [bad _ _ hl] at h
    exact h.elim
def mkSp (K : PySem.W.Frag) (W : XW) (C : Addr) (f : F) (n : Nat) (σ : L2.St) (vs : List V) (H : Hp) (Q : VK) : Prop :=
  ∀ x dx, H x = none → H dx = none → dx ≠ x → spOf K f n (.ref x :: vs) (upd (upd H dx (.own x)) x (.ins C dx [])) (fun v H2 => v = .non ∧ Q (.ref x) H2) (WE W σ)
theorem mkSp_of {ρ : Pl} {H : Hp} {S : Store} {σ : L2.St} {gc : Nat} {xs : List Val} {vs : List V} {Q : VK} (bad : ∀ args S, args.length ≠ n → f args S = .bad) (st : StOk X.K ρ H S) (r : RVs X.K ρ H xs vs) (h : Post X.K W (RV X.K) ρ H σ (mkX C f gc xs S) Q) : mkSp X.K W C f n σ vs H Q := fun x dx hx hdx hne => by
  obtain ⟨ρ2, S2, s2, r2, p2⟩ := make_endX st r h x dx hx hdx hne
  have hl := mkX_arity bad h
  exact ⟨ρ2, S2, _, s2, r2, by simpa using hl, PostW.weak p2 fun _ _ _ z => z⟩
theorem run_mkX {fa : Addr} {fd : FuncData} {ps : List Str} {pins : List (Addr × Obj)} {σ : L2.St} {H : Hp} {s : Shared} {Q : VK} {us ws : List Value} {kw : List (Str × Value)} {vs : List V} (M : Mk X.K C fa) (F : FnX X.prog X.w X.K X.mg X.base false k fa fd ps f n) (hr : Room (k + 1) X.A) (lt : Lets X W)
    (I : Inv X pins σ H s) (b : ∀ s' : Shared, X.K.In s'.heap → ∀ u : Value, BindsTo s' fd ⟨u :: us, kw⟩ (ps.zip (u :: ws))) (r : Vals vs ws) (h : mkSp X.K W C f n σ vs H Q) : wpAny (model X.prog X.w) X.A (call (.ref C) us kw) (EP X pins σ Q) X.xe s := by
  have hq := h (s.heap.objs.size + 1) s.heap.objs.size (I.hok.fresh (Nat.le_succ _)) (I.hok.fresh (Nat.le_refl _)) (Nat.ne_of_lt (Nat.lt_succ_self _))
  have I2 := Inv.made (C := C) I
  have r2 : Vals (V.ref (s.heap.objs.size + 1) :: vs) (Value.ref (s.heap.objs.size + 1) :: ws) := .cons (show RelV (V.ref (s.heap.objs.size + 1)) (Value.ref (s.heap.objs.size + 1)) from rfl) r
  refine wpAny_call (make_map (f := fa) I.kIn M.makes M.init (beq_iff_eq.mp M.fn) (codeAny_mono (F.run _ X.stack _ _ ⟨Value.ref (s.heap.objs.size + 1) :: us, kw⟩ (Value.ref (s.heap.objs.size + 1) :: ws) _ _ (WE W σ) (fun z => nomatch z) (hr.make C us kw)
    (I2.env0.make C us kw) (b _ I2.kIn _) r2 hq) fun rr s' hq' => ?_))
  match rr, hq' with
  | .error e, hq' => exact lt σ pins _ _ e s' I2 hq'
  | .ok (.ret u), hq' =>
    obtain ⟨v, H', I3, rv, ev, q3⟩ := I2.after hq'
    subst ev
    exact ⟨rv, ⟨V.ref (s.heap.objs.size + 1), H', I3, rfl, q3⟩⟩
  | .ok .next, z => exact z.elim
  | .ok .brk, z => exact z.elim
  | .ok .cont, z => exact z.elim
theorem mk_lift {gc : Nat} {ρ : Pl} {H : Hp} {σ : L2.St} {L : Loc} {S : Store} {Q : VK} {dvs : List V} (bad : ∀ args S, args.length ≠ n → f args S = .bad) (hds : ∀ ρ H, RVs X.K ρ H ds dvs) (sim : Sim X.K ρ H L S σ) (h : Post X.K W (RV X.K) ρ H σ (eMakeX C f gc (aApp aa ds) L S) Q) : lA X.K W aa σ H fun vs H1 => mkSp X.K W C f n σ (vs ++ dvs) H1 Q := by
  have h : Post X.K W (RV X.K) ρ H σ ((aa L S).bind fun xs S1 => mkX C f gc (xs ++ ds) S1) Q := by
    unfold eMakeX aApp at h
    cases q : aa L S with
    | ok xs S1 => rw [q] at h; exact h
    | exn x S1 => rw [q] at h; exact h
    | bad => rw [q] at h; exact h
  exact ⟨ρ, S, L, sim, Post.bind h fun xs S1 ρ1 H1 vs _ e1 s1 r1 h1 => mkSp_of bad s1 (r1.append (hds ρ1 H1)) h1⟩
theorem de_makeX {gc : Nat} (c : COkX X.prog X.w X.K X.mg X.base k x C f n ds) (lt : Lets X W) (hr : Room (k + 1) X.A) (hg : Gl X x) (ha : DA X W (e :: es) aa) (hdb : (x == ("__debug__" : Str)) = false := by decide)
    (he : starEach (e :: es) X.env = (false, eval e X.env) :: starEach es X.env := by rfl) (hpl : (backTo pos (starEach es X.env)).any (·.1) = false := by rfl) : DE X W (.Call (.Name x p) (e :: es) [] pos) (eMakeX C f gc (aApp aa ds)) := by
  obtain ⟨a, fd, ps, dvs, dus, F, M, hm, hb, hd, hds⟩ := c.ex
  refine ⟨⟨fun pins s σ H Q I h => wpAny_Call_Name_kw (ld_glob I hg hm ?_ hdb)⟩⟩
  obtain ⟨ρ, S, L, sim, h⟩ := h
  refine PySem.W.callWith_K (h₀ := X.base) I.ok.mod.kin M.kp (thn (ha.pa.run pos pins s σ H _ I (mk_lift F.bad hds sim h)) fun us s1 ⟨vs, H1, I1, r, q⟩ => ⟨I1.kIn, ?_⟩) he hpl
  have hl : (vs ++ dvs).length + 1 = n := by
    have := q (s1.heap.objs.size + 1) s1.heap.objs.size (I1.hok.fresh (Nat.le_succ _)) (I1.hok.fresh (Nat.le_refl _)) (Nat.ne_of_lt (Nat.lt_succ_self _))
    simpa using spOf_len this
  exact run_mkX M F hr lt I1 (fun s' X' u => hb s' (u :: us) X' (by have := r.length; have := hd.length; have := F.len; simp at *; omega)) (r.append hd) q
theorem de_make0X {gc : Nat} (c : COkX X.prog X.w X.K X.mg X.base k x C f n ds) (lt : Lets X W) (hr : Room (k + 1) X.A) (hg : Gl X x) (hdb : (x == ("__debug__" : Str)) = false := by decide) : DE X W (.Call (.Name x p) [] [] pos) (eMakeX C f gc (aApp aNil ds)) := by
  obtain ⟨a, fd, ps, dvs, dus, F, M, hm, hb, hd, hds⟩ := c.ex
  refine ⟨⟨fun pins s σ H Q I h => wpAny_Call_Name_kw (ld_glob I hg hm ?_ hdb)⟩⟩
  obtain ⟨ρ, S, L, sim, h⟩ := h
  have q : mkSp X.K W C f n σ dvs H Q := mkSp_of F.bad sim.st (hds ρ H) (show Post X.K W (RV X.K) ρ H σ (mkX C f gc ds S) Q from h)
  have hl : dvs.length + 1 = n := by
    have := q (s.heap.objs.size + 1) s.heap.objs.size (I.hok.fresh (Nat.le_succ _)) (I.hok.fresh (Nat.le_refl _)) (Nat.ne_of_lt (Nat.lt_succ_self _))
    simpa using spOf_len this
  exact PySem.W.callWith_K0 I.kIn M.kp (run_mkX (us := []) M F hr lt I (fun s' X' u => hb s' [u] X' (by have := hd.length; have := F.len; simp at *; omega)) hd q)
theorem MOkX.met (c : MOkX X.prog X.w X.K X.mg X.base false k C m f n) : Met X k C m (fun xs S => calm (f xs S)) n [] := by
  obtain ⟨a, fd, ps, F, hm, hb⟩ := c.ex
  refine ⟨fun args S h => by rw [F.bad args S h]; rfl, c.cls, a, fd, ps, [], [], F.len, ⟨fun vs H Q E h => by rw [F.len]; exact spOf_len h, fun A outer s H args us vs Q E hr e0 b r h => ?_⟩, hm, hb, .nil, fun _ _ => .nil⟩
  have h2 : spOf X.K f n vs H Q E0 := by
    obtain ⟨ρ, S, xs, st, rv, l, post⟩ := h
    refine ⟨ρ, S, xs, st, rv, l, ?_⟩
    dsimp only at post
    cases q : f xs S with
    | ok v S1 => rw [q] at post; exact post
    | exn y S1 => rw [q] at post; exact post.elim
    | bad => rw [q] at post; exact post.elim
  refine codeAny_mono (F.run A outer s H args us vs Q E0 (fun z => nomatch z) hr e0 b r h2) fun rr s' z => ?_
  match rr, z with
  | .error e, z => exact (cxn_no z).elim
  | .ok (.ret u), z => exact z
  | .ok .next, z => exact z
  | .ok .brk, z => exact z
  | .ok .cont, z => exact z
theorem calm_w {K : PySem.W.Frag} {W' : XW} {α β : Type} {Rel : Pl → Hp → α → β → Prop} {ρ : Pl} {H : Hp} {σ : L2.St} {r : R α} {Q : β → Hp → Prop} (h : Post K W Rel ρ H σ (calm r) Q) : Post K W' Rel ρ H σ (calm r) Q := by
  cases r with
  | ok v S => exact h
  | exn x S => exact h.elim
  | bad => exact h.elim
omit [Nn] in
def bLenX (C : Addr) (f : F) : FV := fun xs S => calm (bLenO C (fun xs S => calm (f xs S)) xs S)
theorem cd_lenX (c : MOkX X.prog X.w X.K X.mg X.base false k C "__len__" f 1) (hr : Room (k + 1) X.A) : CallR X (.builtin "len") (lC X.K W (bLenX C f)) := by
  intro pins s σ H ws us Q I r h
  obtain ⟨σ', ρ, S, xs, st, rv, post⟩ := h
  refine cd_lenO c.met hr pins s σ H ws us Q I r ⟨σ', ρ, S, xs, st, rv, ?_⟩
  have p := calm_w (W' := W0) post
  cases z : bLenO C (fun xs S => calm (f xs S)) xs S with
  | ok v S1 => unfold bLenX at p; rw [z] at p; exact p
  | exn v S1 => unfold bLenX at p; rw [z] at p; exact p.elim
  | bad => unfold bLenX at p; rw [z] at p; exact p.elim
end
section
variable {P : Program} {w : World} {K : PySem.W.Frag} {mg : Str → Option Value} {base : Heap} {g : Bool} {k n : Nat} {x m : Str} {f : Gx.F} {C a : Addr} {fd : FuncData} {ps ks : List Str} {ix : List Nat}
theorem fokX (F : FnX P w K mg base g k a fd ps f n) (h1 : mg x = some (.ref a)) (h2 : PySem.W.keepIn K (.ref a) = true) (h3 : Binds K fd ps []) : FOkX P w K mg base g k x f n [] := ⟨a, fd, ps, [], [], F, h1, h2, h3, .nil, fun _ _ => .nil⟩
theorem mokX (F : FnX P w K mg base g k a fd ps f n) (c : Cls K C) (h2 : Meth K C m a) (h3 : Binds K fd ps []) : MOkX P w K mg base g k C m f n := ⟨c, a, fd, ps, F, h2, h3⟩
theorem cokX {ds : List Val} {dvs : List V} {dus : List Value} (F : FnX P w K mg base false k a fd ps f n) (c : Mk K C a) (h1 : mg x = some (.ref C)) (h3 : Binds K fd ps dus) (h4 : Vals dvs dus) (h5 : ∀ ρ H, RVs K ρ H ds dvs) : COkX P w K mg base k x C f n ds := ⟨a, fd, ps, dvs, dus, F, c, h1, h3, h4, h5⟩
end
end Gx
end
section
namespace Gx
open PySem
abbrev RQ {α : Type} (_ : α → Store → Prop) (_ : Exc → Store → Prop) : Type := R α
abbrev RSQ (_ : Loc → Store → Prop) (_ : Val → Store → Prop) (_ : Exc → Store → Prop) : Type := RS
def wR {α : Type} (Q : α → Store → Prop) (X : Exc → Store → Prop) (r : RQ Q X) : Prop :=
  match (r : R α) with
  | .ok a S => Q a S
  | .exn x S => X x S
  | .bad => False
def wS (N : Loc → Store → Prop) (T : Val → Store → Prop) (X : Exc → Store → Prop) (r : RSQ N T X) : Prop :=
  match (r : RS) with
  | .nx L S => N L S
  | .ret v S => T v S
  | .exn x _ S => X x S
  | .bad => False
theorem wR_ok {α : Type} (a : α) (S : Store) (Q : α → Store → Prop) (X : Exc → Store → Prop) : wR Q X (.ok a S) = Q a S := id rfl
theorem wR_exn {α : Type} (x : Exc) (S : Store) (Q : α → Store → Prop) (X : Exc → Store → Prop) : wR Q X (.exn x S) = X x S := id rfl
theorem wR_bind {α β : Type} (r : R α) (f : α → Store → R β) (Q : β → Store → Prop) (X : Exc → Store → Prop) : wR Q X (r.bind f) = wR (fun a S => wR Q X (f a S)) X r := by cases r <;> rfl
theorem wS_nx (L : Loc) (S : Store) (N : Loc → Store → Prop) (T : Val → Store → Prop) (X : Exc → Store → Prop) : wS N T X (.nx L S) = N L S := id rfl
theorem wS_ret (v : Val) (S : Store) (N : Loc → Store → Prop) (T : Val → Store → Prop) (X : Exc → Store → Prop) : wS N T X (.ret v S) = T v S := id rfl
theorem wS_next (r : RS) (f : Loc → Store → RS) (N : Loc → Store → Prop) (T : Val → Store → Prop) (X : Exc → Store → Prop) : wS N T X (r.next f) = wS (fun L S => wS N T X (f L S)) T X r := by cases r <;> rfl
theorem wS_ofE {α : Type} (L : Loc) (r : R α) (f : α → Store → RS) (N : Loc → Store → Prop) (T : Val → Store → Prop) (X : Exc → Store → Prop) : wS N T X (ofE L r f) = wR (fun a S => wS N T X (f a S)) X r := by cases r <;> rfl
theorem wS_plain (r : RS) (N : Loc → Store → Prop) (T : Val → Store → Prop) (X : Exc → Store → Prop) : wS N T X r.plain = wS N (fun _ _ => False) X r := by cases r <;> rfl
theorem wR_mono {α : Type} {r : R α} {Q Q' : α → Store → Prop} {X : Exc → Store → Prop} (h : wR Q X r) (hQ : ∀ a S, Q a S → Q' a S) : wR Q' X r := by
  cases r
  · exact hQ _ _ h
  · exact h
  · exact h
theorem wS_mono {r : RS} {N N' : Loc → Store → Prop} {T T' : Val → Store → Prop} {X : Exc → Store → Prop} (h : wS N T X r) (hN : ∀ L S, N L S → N' L S) (hT : ∀ v S, T v S → T' v S) : wS N' T' X r := by
  cases r
  · exact hN _ _ h
  · exact hT _ _ h
  · exact h
  · exact h
theorem wR_ok_of {α : Type} {r : R α} {Q : α → Store → Prop} (h : wR Q (fun _ _ => False) r) : ∃ a S, r = .ok a S ∧ Q a S := by
  cases r with
  | ok a S => exact ⟨a, S, rfl, h⟩
  | exn x S => exact h.elim
  | bad => exact h.elim
theorem wR_eq {α : Type} {r : R α} {a : α} {S : Store} {Q : α → Store → Prop} {X : Exc → Store → Prop} (e : r = .ok a S) (h : Q a S) : wR Q X r := by rw [e]; exact h
theorem wS_if {c : Bool} {a b : RS} {N : Loc → Store → Prop} {T : Val → Store → Prop} {X : Exc → Store → Prop} (h1 : c = true → wS N T X a) (h2 : c = false → wS N T X b) : wS N T X (if c = true then a else b) := by
  cases c
  · exact h2 rfl
  · exact h1 rfl
theorem wR_if {α : Type} {c : Bool} {a b : R α} {Q : α → Store → Prop} {X : Exc → Store → Prop} (h1 : c = true → wR Q X a) (h2 : c = false → wR Q X b) : wR Q X (if c = true then a else b) := by
  cases c
  · exact h2 rfl
  · exact h1 rfl
theorem prop_if {c : Bool} {a b : Prop} (h1 : c = true → a) (h2 : c = false → b) : if c = true then a else b := by
  cases c
  · exact h2 rfl
  · exact h1 rfl
theorem wR_ifp {α : Type} {p : Prop} [Decidable p] {a : R α} {Q : α → Store → Prop} {X : Exc → Store → Prop} (hp : p) (h1 : wR Q X a) : wR Q X (if p then a else .bad) := by rw [if_pos hp]; exact h1
structure Tk (p : Prop) : Type where
@[irreducible] def Hold (p : Prop) (_ : Tk p) : Prop := p
theorem hold {p : Prop} (h : p) : Hold p ⟨⟩ := by unfold Hold; exact h
theorem held {p : Prop} {t : Tk p} (h : Hold p t) : p := by unfold Hold at h; exact h
theorem wS_for {stay : Store → Bool} {g : G} {b : SS} {xs : List Val} {N : Loc → Store → Prop} {T : Val → Store → Prop} {X : Exc → Store → Prop} {L : Loc} {S : Store} (J : Nat → Loc → Store → Prop)
    (h0 : J 0 L S) (hs : ∀ i L S, J i L S → stay S = true)
    (step : ∀ i x L S, xs[i]? = some x → i < xs.length → J i L S → wS (fun L1 S1 => wS (fun L2 S2 => Hold (J (i + 1) L2 S2) ⟨⟩) T X (b L1 S1)) (fun _ _ => False) X (g x L S))
    (hN : ∀ L S, J xs.length L S → N L S) : wS N T X (forGo stay g b xs L S) := by
  have go : ∀ (k : Nat) (ys : List Val), (∀ i, ys[i]? = xs[k + i]?) → k + ys.length = xs.length → ∀ {L : Loc} {S : Store}, J k L S → wS N T X (forGo stay g b ys L S) := by
    intro k ys
    induction ys generalizing k with
    | nil => intro _ hl L S h; unfold forGo; rw [if_pos (hs _ _ _ h)]; exact hN _ _ (by rw [← hl]; exact h)
    | cons y ys ih =>
      intro he hl L S h
      have e0 : xs[k]? = some y := by have := he 0; simpa using this.symm
      unfold forGo
      rw [if_pos (hs _ _ _ h), wS_next, wS_plain]
      refine wS_mono (step k y L S e0 (by simp at hl; omega) h) (fun L1 S1 h1 => ?_) (fun _ _ q => q.elim)
      rw [wS_next]
      refine wS_mono h1 (fun L2 S2 h2' => ?_) (fun _ _ q => q)
      have h2 := held h2'
      exact ih (k + 1) (fun i => by have := he (i + 1); simp only [List.getElem?_cons_succ] at this; rw [this]; congr 1; omega) (by simp at hl; omega) h2
  exact go 0 xs (fun i => by simp) (by simp) h0
theorem wR_comp {stay : Store → Bool} {g : G} {c : T} {e : E} {xs : List Val} {L : Loc} {S : Store} {Q : List Val → Store → Prop} {X : Exc → Store → Prop} (J : Nat → List Val → Store → Prop)
    (h0 : J 0 [] S) (hs : ∀ i r S, J i r S → stay S = true)
    (step : ∀ i x r S, xs[i]? = some x → i < xs.length → J i r S → wS (fun L1 S1 => wR (fun k S2 => if k = true then wR (fun v S3 => Hold (J (i + 1) (r ++ [v]) S3) ⟨⟩) (fun _ _ => False) (e L1 S2) else Hold (J (i + 1) r S2) ⟨⟩) (fun _ _ => False) (c L1 S1)) (fun _ _ => False) (fun _ _ => False) (g x L S))
    (hN : ∀ r S, J xs.length r S → Q r S) : wR Q X (calm (compGo stay g c e L xs S)) := by
  have go : ∀ (k : Nat) (ys : List Val), (∀ i, ys[i]? = xs[k + i]?) → k + ys.length = xs.length → ∀ {r : List Val} {S : Store}, J k r S → wR (fun r' S' => J xs.length (r ++ r') S') (fun _ _ => False) (compGo stay g c e L ys S) := by
    intro k ys
    induction ys generalizing k with
    | nil => intro _ hl r S h; unfold compGo; rw [if_pos (hs _ _ _ h)]; show J xs.length (r ++ []) S; rw [← hl, List.append_nil]; exact h
    | cons y ys ih =>
      intro he hl r S h
      have e0 : xs[k]? = some y := by have := he 0; simpa using this.symm
      have he' : ∀ i, ys[i]? = xs[k + 1 + i]? := fun i => by have := he (i + 1); simp only [List.getElem?_cons_succ] at this; rw [this]; congr 1; omega
      have hl' : k + 1 + ys.length = xs.length := by simp at hl; omega
      have hst := step k y r S e0 (by simp at hl; omega) h
      unfold compGo
      rw [if_pos (hs _ _ _ h)]
      cases e1 : g y L S with
      | nx L1 S1 =>
        rw [e1] at hst
        simp only [wR_bind]
        refine wR_mono hst fun q S2 h2 => ?_
        cases q with
        | true =>
          simp only [if_true] at h2
          simp only [if_true, wR_bind]
          refine wR_mono h2 fun v S3 h3' => ?_
          have h3 := held h3'
          simp only [wR_bind]
          refine wR_mono (ih (k + 1) he' hl' h3) fun r' S4 h4 => ?_
          show J xs.length (r ++ (v :: r')) S4
          simpa using h4
        | false =>
          simp only [Bool.false_eq_true, if_false] at h2
          simp only [Bool.false_eq_true, if_false]
          exact ih (k + 1) he' hl' (held h2)
      | ret v S1 => rw [e1] at hst; exact hst.elim
      | exn x L1 S1 => rw [e1] at hst; exact hst.elim
      | bad => rw [e1] at hst; exact hst.elim
  obtain ⟨r, S', e1, h1⟩ := wR_ok_of (go 0 xs (fun i => by simp) (by simp) h0)
  rw [e1]
  exact hN _ _ (by simpa using h1)
mutual
def tree : Val → Bool
  | .ref _ => false
  | .tup xs => trees xs
  | .lst xs => trees xs
  | .frz xs => trees xs
  | .ptp xs => trees xs
  | .dct kvs => treeK kvs
  | .dtt kvs => treeT kvs
  | .obj _ fs => treeF fs
  | _ => true
def trees : List Val → Bool
  | [] => true
  | x :: xs => tree x && trees xs
def treeK : List (L2.Key × Val) → Bool
  | [] => true
  | (_, x) :: xs => tree x && treeK xs
def treeT : List (List Int × Val) → Bool
  | [] => true
  | (_, x) :: xs => tree x && treeT xs
def treeF : List (Str × Val) → Bool
  | [] => true
  | (_, x) :: xs => tree x && treeF xs
end
mutual
theorem fz_tree (r : Nat → Option Val) : ∀ v : Val, tree v = true → fzV r v = some v
  | .non, _ => rfl
  | .bl _, _ => rfl
  | .int _, _ => rfl
  | .str _, _ => rfl
  | .ty _, _ => rfl
  | .gl _, _ => rfl
  | .tup xs, h => by simp only [fzV, fz_trees r xs (by simpa [tree] using h), Option.map_some]
  | .lst xs, h => by simp only [fzV, fz_trees r xs (by simpa [tree] using h), Option.map_some]
  | .frz xs, h => by simp only [fzV, fz_trees r xs (by simpa [tree] using h), Option.map_some]
  | .ptp xs, h => by simp only [fzV, fz_trees r xs (by simpa [tree] using h), Option.map_some]
  | .dct xs, h => by simp only [fzV, fz_treeK r xs (by simpa [tree] using h), Option.map_some]
  | .dtt xs, h => by simp only [fzV, fz_treeT r xs (by simpa [tree] using h), Option.map_some]
  | .obj C xs, h => by simp only [fzV, fz_treeF r xs (by simpa [tree] using h), Option.map_some]
  | .ref _, h => by simp [tree] at h
theorem fz_trees (r : Nat → Option Val) : ∀ v : List Val, trees v = true → fzVs r v = some v
  | [], _ => rfl
  | x :: xs, h => by
    simp only [trees, Bool.and_eq_true] at h
    simp only [fzVs, fz_tree r x h.1, fz_trees r xs h.2, Option.bind_some, Option.map_some]
theorem fz_treeK (r : Nat → Option Val) : ∀ v : List (L2.Key × Val), treeK v = true → fzVK r v = some v
  | [], _ => rfl
  | (k, x) :: xs, h => by
    simp only [treeK, Bool.and_eq_true] at h
    simp only [fzVK, fz_tree r x h.1, fz_treeK r xs h.2, Option.bind_some, Option.map_some]
theorem fz_treeT (r : Nat → Option Val) : ∀ v : List (List Int × Val), treeT v = true → fzVT r v = some v
  | [], _ => rfl
  | (k, x) :: xs, h => by
    simp only [treeT, Bool.and_eq_true] at h
    simp only [fzVT, fz_tree r x h.1, fz_treeT r xs h.2, Option.bind_some, Option.map_some]
theorem fz_treeF (r : Nat → Option Val) : ∀ v : List (Str × Val), treeF v = true → fzVF r v = some v
  | [], _ => rfl
  | (k, x) :: xs, h => by
    simp only [treeF, Bool.and_eq_true] at h
    simp only [fzVF, fz_tree r x h.1, fz_treeF r xs h.2, Option.bind_some, Option.map_some]
end
theorem trees_iff : ∀ {xs : List Val}, trees xs = true ↔ ∀ v ∈ xs, tree v = true
  | [] => by simp [trees]
  | x :: xs => by simp [trees, trees_iff (xs := xs)]
theorem trees_mem {xs : List Val} {v : Val} (h : trees xs = true) (hv : v ∈ xs) : tree v = true := trees_iff.mp h v hv
theorem trees_append {xs ys : List Val} : trees (xs ++ ys) = (trees xs && trees ys) := by
  induction xs with
  | nil => simp [trees]
  | cons x xs ih => simp [trees, ih, Bool.and_assoc]
theorem trees_map {α : Type} (f : α → Val) (xs : List α) (h : ∀ x ∈ xs, tree (f x) = true) : trees (xs.map f) = true := trees_iff.mpr fun v hv => by
  obtain ⟨x, hx, rfl⟩ := List.mem_map.mp hv
  exact h x hx
theorem trees_ints (ns : List Int) : trees (ns.map .int) = true := trees_map _ _ fun _ _ => rfl

structure Dx where
  m : Int
  t : Int
  ms : List Int
structure Dx.Ok (k : Nat) (X : Dx) : Prop where
  m0 : 0 ≤ X.m
  m1 : X.m < 2147483647
  t0 : 0 ≤ X.t
  t1 : X.t + k ≤ 999999999
  ms : X.ms.length ≤ 64
theorem Dx.Ok.le {k k' : Nat} {X : Dx} (h : X.Ok k) (hk : k' ≤ k) : X.Ok k' := ⟨h.m0, h.m1, h.t0, by have := h.t1; omega, h.ms⟩
abbrev kc : L2.Key := .inr (Str.ofString "cells")
abbrev km : L2.Key := .inr (Str.ofString "mixed")
abbrev kd : L2.Key := .inr (Str.ofString "draws")
abbrev dkc (c : Nat) (X : Dx) : Cell := .dct [(kc, .ref c), (km, .int X.m), (kd, .int X.t)]
def Dk (d c : Nat) (X : Dx) (S : Store) : Store := (S.set d (dkc c X)).set c (.lst (X.ms.map .int))
structure In (d c : Nat) (S : Store) : Prop where
  ne : d ≠ c
  d : d < S.length
  c : c < S.length
theorem In.app {d c : Nat} {S T : Store} (h : In d c S) : In d c (S ++ T) := ⟨h.ne, by simp; have := h.d; omega, by simp; have := h.c; omega⟩
theorem In.len {d c : Nat} {S T : Store} (h : In d c S) (hl : T.length = S.length) : In d c T := ⟨h.ne, by rw [hl]; exact h.d, by rw [hl]; exact h.c⟩
theorem In.set {d c j : Nat} {S : Store} {x : Cell} (h : In d c S) : In d c (S.set j x) := h.len (by simp)
theorem Dk_len {d c : Nat} {X : Dx} {S : Store} : (Dk d c X S).length = S.length := by simp [Dk]
theorem Dk_app {d c : Nat} {X : Dx} {S T : Store} (h : In d c S) : Dk d c X S ++ T = Dk d c X (S ++ T) := by
  unfold Dk
  rw [List.set_append_left _ _ (by exact h.d), List.set_append_left _ _ (by simpa using h.c)]
theorem Dk_get {d c j : Nat} {X : Dx} {S : Store} (h1 : j ≠ d) (h2 : j ≠ c) : (Dk d c X S)[j]? = S[j]? := by
  unfold Dk
  rw [List.getElem?_set_ne (Ne.symm h2), List.getElem?_set_ne (Ne.symm h1)]
theorem Dk_d {d c : Nat} {X : Dx} {S : Store} (h : In d c S) : (Dk d c X S)[d]? = some (dkc c X) := by
  unfold Dk
  rw [List.getElem?_set_ne (Ne.symm h.ne)]; simp [h.d]
theorem Dk_c {d c : Nat} {X : Dx} {S : Store} (h : In d c S) : (Dk d c X S)[c]? = some (.lst (X.ms.map .int)) := by
  unfold Dk
  simp [h.c]
theorem Dk_set {d c j : Nat} {X : Dx} {S : Store} {x : Cell} (h1 : j ≠ d) (h2 : j ≠ c) : (Dk d c X S).set j x = Dk d c X (S.set j x) := by
  unfold Dk
  rw [List.set_comm _ _ (Ne.symm h2), List.set_comm _ _ (Ne.symm h1)]
theorem fz_ints (r : Nat → Option Val) (ms : List Int) : fzVs r (ms.map .int) = some (ms.map .int) := fz_trees r _ (trees_ints ms)
theorem fits_app {S T : Store} : fits S (S ++ T) = true := by
  unfold fits
  rw [List.all_eq_true]
  intro i hi
  have hi := List.mem_range.mp hi
  rw [List.getElem?_append_left hi, List.getElem?_eq_getElem hi]
  simp
theorem fits_dk {d c : Nat} {X Y : Dx} {S T : Store} (h : In d c S) : fits (Dk d c X S) (Dk d c Y (S ++ T)) = true := by
  unfold fits
  rw [List.all_eq_true]
  intro i hi
  have hi := List.mem_range.mp hi
  rw [Dk_len] at hi
  by_cases e1 : i = d
  · subst e1
    rw [Dk_d h.app]
    simp [Cell.below, fzVK, fzV, belowR, Dk_len, h.c]
  · by_cases e2 : i = c
    · subst e2
      rw [Dk_c h.app]
      simp [Cell.below, fz_ints]
    · rw [Dk_get e1 e2, List.getElem?_append_left hi, Dk_get e1 e2, List.getElem?_eq_getElem hi]
      simp
theorem take_app {S T : Store} : (S ++ T).take S.length = S := by simp
theorem gc_app {k : Nat} {S T : Store} {v v' : Val} (hv : fzV (fzR S.length (S ++ T) k) v = some v') : gcR k S (.ok v (S ++ T)) = .ok v' S := by
  unfold gcR
  simp only [hv, fits_app, if_true, take_app]
theorem gc_dk {d c k : Nat} {X Y : Dx} {S T : Store} {v v' : Val} (h : In d c S) (hv : fzV (fzR S.length (Dk d c Y (S ++ T)) k) v = some v') : gcR k (Dk d c X S) (.ok v (Dk d c Y (S ++ T))) = .ok v' (Dk d c Y S) := by
  unfold gcR
  simp only [Dk_len, hv, fits_dk h, if_true]
  rw [← Dk_app h, show S.length = (Dk d c Y S).length from Dk_len.symm, List.take_left]
theorem wR_gc {k : Nat} {S T : Store} {v v' : Val} {Q : Val → Store → Prop} {X : Exc → Store → Prop} (hv : fzV (fzR S.length (S ++ T) k) v = some v') (h : Q v' S) : wR Q X (gcR k S (.ok v (S ++ T))) := by
  rw [gc_app hv]; exact h
theorem wR_gcT {k : Nat} {S T : Store} {v : Val} {Q : Val → Store → Prop} {X : Exc → Store → Prop} (hv : tree v = true) (h : Q v S) : wR Q X (gcR k S (.ok v (S ++ T))) := wR_gc (fz_tree _ v hv) h
theorem wR_gc0 {k : Nat} {S : Store} {v : Val} {Q : Val → Store → Prop} {X : Exc → Store → Prop} (hv : tree v = true) (h : Q v S) : wR Q X (gcR k S (.ok v S)) := by
  have := wR_gcT (k := k) (S := S) (T := []) (X := X) hv h
  rwa [List.append_nil] at this
theorem wR_gcD {d c k : Nat} {Y Z : Dx} {S T : Store} {v v' : Val} {Q : Val → Store → Prop} {X : Exc → Store → Prop} (hi : In d c S) (hv : fzV (fzR S.length (Dk d c Y (S ++ T)) k) v = some v') (h : Q v' (Dk d c Y S)) : wR Q X (gcR k (Dk d c Z S) (.ok v (Dk d c Y (S ++ T)))) := by
  rw [gc_dk hi hv]; exact h
theorem wR_gcDT {d c k : Nat} {Y Z : Dx} {S T : Store} {v : Val} {Q : Val → Store → Prop} {X : Exc → Store → Prop} (hi : In d c S) (hv : tree v = true) (h : Q v (Dk d c Y S)) : wR Q X (gcR k (Dk d c Z S) (.ok v (Dk d c Y (S ++ T)))) := wR_gcD hi (fz_tree _ v hv) h
theorem wR_gcD0 {d c k : Nat} {Y Z : Dx} {S : Store} {v : Val} {Q : Val → Store → Prop} {X : Exc → Store → Prop} (hi : In d c S) (hv : tree v = true) (h : Q v (Dk d c Y S)) : wR Q X (gcR k (Dk d c Z S) (.ok v (Dk d c Y S))) := by
  have := wR_gcDT (k := k) (S := S) (T := []) (Y := Y) (Z := Z) (X := X) hi hv h
  rwa [List.append_nil] at this
end Gx
end
section
namespace Gx
open PySem L2
section
variable {α : Type} {L : Loc} {S : Store} {N : Loc → Store → Prop} {T : Val → Store → Prop} {X : Exc → Store → Prop} {Q : Val → Store → Prop} {QB : Bool → Store → Prop} {QA : List Val → Store → Prop} {QI : Src → Store → Prop}
theorem wR_q {r : R α} {Q1 Q2 : α → Store → Prop} (h : ∀ a S, Q1 a S = Q2 a S) : wR Q1 X r = wR Q2 X r := by
  have : Q1 = Q2 := funext fun a => funext fun S => h a S
  rw [this]
theorem wR_gd {p : Prop} [Decidable p] {r : R α} {QX : α → Store → Prop} : wR QX X (if p then r else .bad) = (p ∧ wR QX X r) := by
  by_cases h : p
  · rw [if_pos h]; simp [h]
  · rw [if_neg h]; simp [h, wR]
theorem wS_gd {p : Prop} [Decidable p] {r : RS} : wS N T X (if p then r else .bad) = (p ∧ wS N T X r) := by
  by_cases h : p
  · rw [if_pos h]; simp [h]
  · rw [if_neg h]; simp [h, wS]
theorem w_seq {a b : SS} : wS N T X (sSeq a b L S) = wS (fun L1 S1 => wS N T X (b L1 S1)) T X (a L S) := wS_next _ _ _ _ _
theorem w_nil : wS N T X (sNil L S) = N L S := id rfl
theorem w_drop {e : E} : wS N T X (sDrop e L S) = wR (fun _ S1 => N L S1) X (e L S) := wS_ofE _ _ _ _ _ _
theorem w_ret {e : E} : wS N T X (sRet e L S) = wR T X (e L S) := wS_ofE _ _ _ _ _ _
theorem w_retN : wS N T X (sRetN L S) = T .non S := id rfl
theorem w_if {c : Gx.T} {a b : SS} {N : Loc → Store → Prop} {U : Val → Store → Prop} : wS N U X (sIf c a b L S) = wR (fun k S1 => wS N U X (if k = true then a L S1 else b L S1)) X (c L S) := wS_ofE _ _ _ _ _ _
theorem w_asg {e : E} {g : G} : wS N T X (sAsg e g L S) = wR (fun v S1 => wS N (fun _ _ => False) X (g v L S1)) X (e L S) := by
  unfold sAsg
  rw [wS_ofE]
  exact wR_q fun _ _ => wS_plain _ _ _ _
theorem w_name {i : Nat} {v : Val} : wS N T X (gName i v L S) = N (L.set i (some v)) S := id rfl
theorem w_gnil : wS N T X (gNil [] L S) = N L S := id rfl
theorem w_gcons {g : G} {r : Gs} {v : Val} {vs : List Val} : wS N T X (gCons g r (v :: vs) L S) = wS (fun L1 S1 => wS N T X (r vs L1 S1)) (fun _ _ => False) X (g v L S) := by
  show wS N T X ((g v L S).plain.next fun L1 S1 => r vs L1 S1) = _
  rw [wS_next, wS_plain]
theorem w_gtup {n : Nat} {g : Gs} {xs : List Val} : wS N T X (gTup n g (.tup xs) L S) = (xs.length = n ∧ wS N (fun _ _ => False) X (g xs L S)) := by
  unfold gTup
  simp only [seqOf]
  by_cases h : xs.length = n
  · rw [if_pos h, wS_plain]; simp [h]
  · rw [if_neg h]; simp [h, wS]
theorem w_gsub {a i : E} {v : Val} : wS N T X (gSub a i v L S) = wR (fun o S1 => wR (fun k S2 => wS N T X (match setItem o k v S2 with | some S3 => .nx L S3 | none => .bad)) X (i L S1)) X (a L S) := by
  unfold gSub
  rw [wS_ofE]
  exact wR_q fun _ _ => wS_ofE _ _ _ _ _ _
theorem w_for {i : I} {g : G} {b : SS} : wS N T X (sFor i g b L S) = wR (fun s S1 => wS N T X (forGo s.ok g b s.items L S1)) X (i L S) := wS_ofE _ _ _ _ _ _
theorem w_aug {i : Nat} {f : O} {e : E} : wS N T X (sAug i f e L S) = (match L[i]? with | some (some x) => wR (fun y S1 => wR (fun z S2 => N (L.set i (some z)) S2) X (f x y S1)) X (e L S) | _ => False) := by
  unfold sAug
  cases h : L[i]? with
  | none => rfl
  | some o => cases o with
    | none => rfl
    | some v => 
      simp only [wS_ofE]
      exact wR_q fun _ _ => (wS_ofE _ _ _ _ _ _)
theorem w_c {v : Val} : wR Q X (eC v L S) = Q v S := id rfl
theorem w_bin {f : O} {a b : E} : wR Q X (eBin f a b L S) = wR (fun x S1 => wR (fun y S2 => wR Q X (f x y S2)) X (b L S1)) X (a L S) := by
  unfold eBin
  rw [wR_bind]; exact wR_q fun _ _ => wR_bind _ _ _ _
theorem w_un {f : Val → Store → R Val} {a : E} : wR Q X (eUn f a L S) = wR (fun x S1 => wR Q X (f x S1)) X (a L S) := wR_bind _ _ _ _
theorem w_chain {f g : O} {a b c : E} : wR Q X (eChain f g a b c L S) = wR (fun x S1 => wR (fun y S2 => wR (fun z S3 => wR Q X (match z with
  | .bl true => (c L S3).bind fun w S4 => g y w S4
  | .bl false => .ok (.bl false) S3
  | _ => .bad)) X (f x y S2)) X (b L S1)) X (a L S) := by
  unfold eChain
  rw [wR_bind]
  refine wR_q fun _ _ => ?_
  rw [wR_bind]
  exact wR_q fun _ _ => wR_bind _ _ _ _
theorem w_chainB {k : Bool} {A B : R Val} : wR Q X (match Val.bl k with
  | .bl true => A
  | .bl false => B
  | _ => .bad) = wR Q X (if k = true then A else B) := by cases k <;> rfl
theorem w_and {a b : E} : wR Q X (eAnd a b L S) = wR (fun x S1 => wR Q X (match x with | .bl true => b L S1 | .bl false => .ok (.bl false) S1 | _ => .bad)) X (a L S) := wR_bind _ _ _ _
theorem w_or {a b : E} : wR Q X (eOr a b L S) = wR (fun x S1 => wR Q X (match x with | .bl true => .ok (.bl true) S1 | .bl false => b L S1 | _ => .bad)) X (a L S) := wR_bind _ _ _ _
theorem w_not {a : E} : wR Q X (eNot a L S) = wR (fun x S1 => wR Q X (match x with | .bl c => .ok (.bl (!c)) S1 | _ => .bad)) X (a L S) := wR_bind _ _ _ _
theorem w_of {a : E} : wR QB X (tOf a L S) = wR (fun x S1 => wR QB X (match x with | .bl c => .ok c S1 | _ => .bad)) X (a L S) := wR_bind _ _ _ _
theorem w_tand {a b : Gx.T} : wR QB X (tAnd a b L S) = wR (fun x S1 => wR QB X (if x = true then b L S1 else .ok false S1)) X (a L S) := wR_bind _ _ _ _
theorem w_tor {a b : Gx.T} : wR QB X (tOr a b L S) = wR (fun x S1 => wR QB X (if x = true then .ok true S1 else b L S1)) X (a L S) := wR_bind _ _ _ _
theorem w_tnot {a : Gx.T} : wR QB X (tNot a L S) = wR (fun x S1 => QB (!x) S1) X (a L S) := by unfold tNot; rw [wR_bind]; rfl
theorem w_tyes : wR QB X (tYes L S) = QB true S := id rfl
theorem w_eif {c : Gx.T} {a b : E} : wR Q X (eIf c a b L S) = wR (fun k S1 => wR Q X (if k = true then a L S1 else b L S1)) X (c L S) := wR_bind _ _ _ _
theorem w_call {f : F} {a : A} : wR Q X (eCall f a L S) = wR (fun xs S1 => wR Q X (f xs S1)) X (a L S) := wR_bind _ _ _ _
theorem w_attr {f : Str} {a : E} : wR Q X (eAttr f a L S) = wR (fun x S1 => wR Q X (match objOf S1 x with
  | some (_, fs) => match fs.lookup f with | some v => .ok v S1 | none => .bad
  | none => .bad)) X (a L S) := wR_bind _ _ _ _
theorem w_fld {Cs : List Addr} {f : Str} {a : E} : wR Q X (eFld Cs f a L S) = wR (fun x S1 => wR Q X (match objOf S1 x with
  | some (C, fs) => if C ∈ Cs then match fs.lookup f with | some v => .ok v S1 | none => .bad else .bad
  | none => .bad)) X (a L S) := wR_bind _ _ _ _
theorem w_bm {m : MV} {o : E} {a : A} : wR Q X (eBm m o a L S) = wR (fun x S1 => wR (fun xs S2 => wR Q X (m x xs S2)) X (a L S1)) X (o L S) := by unfold eBm; rw [wR_bind]; exact wR_q fun _ _ => wR_bind _ _ _ _
theorem w_bmL {m : MV} {o : E} {a : A} : wR Q X (eBmL m o a L S) = wR (fun x S1 => wR Q X (match seqOf S1 x with
  | some (true, _) => (a L S1).bind fun xs S2 => m x xs S2
  | _ => .bad)) X (o L S) := wR_bind _ _ _ _
theorem w_anil : wR QA X (aNil L S) = QA [] S := id rfl
theorem w_acons {e : E} {r : A} : wR QA X (aCons e r L S) = wR (fun x S1 => wR (fun xs S2 => QA (x :: xs) S2) X (r L S1)) X (e L S) := by
  unfold aCons
  rw [wR_bind]; exact wR_q fun _ _ => wR_bind _ _ _ _
theorem w_astar {e : E} {r : A} : wR QA X (aStar e r L S) = wR (fun x S1 => wR QA X (match seqOf S1 x with | some (_, xs) => (r L S1).bind fun ys S2 => .ok (xs ++ ys) S2 | none => .bad)) X (e L S) := wR_bind _ _ _ _
theorem w_kw {a : A} {n : Nat} {ix : List Nat} : wR QA X (aKw a n ix L S) = wR (fun xs S1 => wR QA X (if xs.length = n then (match ix.mapM (xs[·]?) with
  | some ys => .ok ys S1
  | none => .bad) else .bad)) X (a L S) := wR_bind _ _ _ _
theorem w_tup {a : A} : wR Q X (eTup a L S) = wR (fun xs S1 => xs.length ≤ sizeLine ∧ Q (.tup xs) S1) X (a L S) := by
  unfold eTup
  rw [wR_bind]
  congr; funext xs S1
  by_cases h : xs.length ≤ sizeLine
  · rw [if_pos h]; simp [h, wR]
  · rw [if_neg h]; simp [h, wR]
theorem w_flst {a : A} : wR QA X (fLst a L S) = wR (fun xs S1 => xs.length ≤ sizeLine ∧ QA xs S1) X (a L S) := by
  unfold fLst
  rw [wR_bind]
  congr; funext xs S1
  by_cases h : xs.length ≤ sizeLine
  · rw [if_pos h]; simp [h, wR]
  · rw [if_neg h]; simp [h, wR]
theorem w_fr {f : A} : wR Q X (eFr f L S) = wR (fun xs S1 => Q (.lst xs) S1) X (f L S) := by unfold eFr; rw [wR_bind]; rfl
theorem w_mk {f : A} : wR Q X (eMk f L S) = wR (fun xs S1 => Q (.ref S1.length) (S1 ++ [.lst xs])) X (f L S) := by unfold eMk; rw [wR_bind]; rfl
theorem w_flist {e : E} : wR QA X (fList e L S) = wR (fun x S1 => wR QA X (match seqOf S1 x with | some (_, ys) => .ok ys S1 | none => .bad)) X (e L S) := wR_bind _ _ _ _
theorem w_frev {e : E} : wR QA X (fRev e L S) = wR (fun x S1 => wR QA X (match seqOf S1 x with | some (true, xs) => .ok xs.reverse S1 | _ => .bad)) X (e L S) := wR_bind _ _ _ _
theorem w_fcat {a b : E} : wR QA X (fCat a b L S) = wR (fun x S1 => wR (fun y S2 => wR QA X (match lstOf S2 x, lstOf S2 y with
  | some xs, some ys => if xs.length + ys.length ≤ sizeLine then .ok (xs ++ ys) S2 else .bad
  | _, _ => .bad)) X (b L S1)) X (a L S) := by unfold fCat; rw [wR_bind]; exact wR_q fun _ _ => wR_bind _ _ _ _
theorem w_frep {a b : E} : wR QA X (fRep a b L S) = wR (fun x S1 => wR (fun y S2 => wR QA X (match lstOf S2 x, y with
  | some xs, .int k => if -(2 ^ 63) ≤ k ∧ k < 2 ^ 63 ∧ xs.length * k.toNat ≤ sizeLine then .ok (List.replicate k.toNat xs).flatten S2 else .bad
  | _, _ => .bad)) X (b L S1)) X (a L S) := by unfold fRep; rw [wR_bind]; exact wR_q fun _ _ => wR_bind _ _ _ _
theorem w_part0 {QO : Option Int → Store → Prop} : wR QO X (partE none L S) = QO none S := id rfl
theorem w_part {e : E} {QO : Option Int → Store → Prop} : wR QO X (partE (some e) L S) = wR (fun v S1 => wR QO X (match v with | .int i => .ok (some i) S1 | _ => .bad)) X (e L S) := wR_bind _ _ _ _
theorem w_slice {a : E} {lo hi : Option E} : wR Q X (eSlice a lo hi L S) = wR (fun x S1 => wR (fun l S2 => wR (fun h S3 => wR Q X (match x with
  | .str z => if z.length ≤ sizeLine then .ok (.str (L2.cutS z l h)) S3 else .bad
  | .tup xs => .ok (.tup (cutL xs l h)) S3
  | x => match seqOf S3 x with
    | some (true, xs) => .ok (.lst (cutL xs l h)) S3
    | _ => .bad)) X (partE hi L S2)) X (partE lo L S1)) X (a L S) := by
  unfold eSlice
  rw [wR_bind]
  refine wR_q fun _ _ => ?_
  rw [wR_bind]
  exact wR_q fun _ _ => wR_bind _ _ _ _
theorem w_fslice {a : E} {lo hi : Option E} : wR QA X (fSlice a lo hi L S) = wR (fun x S1 => wR (fun l S2 => wR (fun h S3 => wR QA X (match seqOf S3 x with
    | some (true, xs) => .ok (cutL xs l h) S3
    | _ => .bad)) X (partE hi L S2)) X (partE lo L S1)) X (a L S) := by
  unfold fSlice
  rw [wR_bind]
  refine wR_q fun _ _ => ?_
  rw [wR_bind]
  exact wR_q fun _ _ => wR_bind _ _ _ _
theorem w_revT {d : E} : wR Q X (eRevT d L S) = wR (fun v S1 => wR Q X (match v with | .tup xs => .ok (.tup xs.reverse) S1 | _ => .bad)) X (d L S) := wR_bind _ _ _ _
theorem w_dict0 {m : Bool} : wR Q X (eDict0 m L S) = if m = true then Q (.ref S.length) (S ++ [.dct []]) else Q (.dct []) S := by cases m <;> rfl
theorem wR_calm {α : Type} {Q : α → Store → Prop} {r : R α} : wR Q X (calm r) = wR Q (fun _ _ => False) r := by cases r <;> rfl
theorem w_dict {m : Bool} {p : P} : wR Q X (eDict m p L S) = wR (fun ps S1 => wR Q X (match keysOf ps with
  | some kvs => if kvs.length ≤ 15 then (if m then .ok (.ref S1.length) (S1 ++ [.dct (mergeV [] kvs)]) else .ok (.dct (mergeV [] kvs)) S1) else .bad
  | none => .bad)) (fun _ _ => False) (p L S) := by
  unfold eDict
  rw [wR_bind, wR_calm]
  all_goals (cases p L S <;> rfl)
theorem w_pnil {QP : List (Val × Val) → Store → Prop} : wR QP X (pNil L S) = QP [] S := id rfl
theorem w_pcons {QP : List (Val × Val) → Store → Prop} {k v : E} {r : P} : wR QP X (pCons k v r L S) = wR (fun x S1 => wR (fun y S2 => wR (fun ps S3 => QP ((x, y) :: ps) S3) X (r L S2)) X (v L S1)) X (k L S) := by
  unfold pCons
  rw [wR_bind]
  refine wR_q fun _ _ => ?_
  rw [wR_bind]
  exact wR_q fun _ _ => wR_bind _ _ _ _
theorem w_ival {e : E} : wR QI X (iVal e L S) = wR (fun v S1 => wR QI X (match itOf S1 v with | some s => .ok s S1 | none => .bad)) X (e L S) := wR_bind _ _ _ _
theorem w_range1 {e : E} : wR QI X (iRange1 e L S) = wR (fun v S1 => wR QI X (match v with
  | .int j => if -(2 ^ 62) ≤ j ∧ j < 2 ^ 62 then .ok ⟨[], rangeV 0 j.toNat⟩ S1 else .bad
  | _ => .bad)) X (e L S) := wR_bind _ _ _ _
theorem w_range2 {a b : E} : wR QI X (iRange2 a b L S) = wR (fun v S1 => wR (fun w S2 => wR QI X (match v, w with
  | .int i, .int j => if -(2 ^ 62) ≤ i ∧ i < 2 ^ 62 ∧ -(2 ^ 62) ≤ j ∧ j < 2 ^ 62 then .ok ⟨[], rangeV i (j - i).toNat⟩ S2 else .bad
  | _, _ => .bad)) X (b L S1)) X (a L S) := by unfold iRange2; rw [wR_bind]; exact wR_q fun _ _ => wR_bind _ _ _ _
theorem w_enum {e : E} : wR QI X (iEnum e L S) = wR (fun s S1 => QI ⟨s.stay, enumV 0 s.items⟩ S1) X (iVal e L S) := by unfold iEnum; rw [wR_bind]; rfl
theorem w_zip {a b : E} : wR QI X (iZip a b L S) = wR (fun v S1 => wR (fun w S2 => wR QI X (match itOf S2 v, itOf S2 w with
  | some s, some t => .ok ⟨s.stay ++ t.stay, zipV s.items t.items⟩ S2
  | _, _ => .bad)) X (b L S1)) X (a L S) := by unfold iZip; rw [wR_bind]; exact wR_q fun _ _ => wR_bind _ _ _ _
theorem w_inew {a : A} : wR QI X (iNew a L S) = wR (fun xs S1 => QI ⟨[], xs⟩ S1) X (a L S) := by unfold iNew; rw [wR_bind]; rfl
theorem w_comp {own : List Nat} {i : I} {g : G} {c : Gx.T} {e : E} : wR QA X (fComp own i g c e L S) = wR (fun s S1 => wR (fun xs S2 => xs.length ≤ sizeLine ∧ QA xs S2) X (calm (compGo s.ok g c e (wipeL L own) s.items S1))) X (i L S) := by
  unfold fComp
  rw [wR_bind]
  congr; funext s S1
  rw [wR_bind]
  congr; funext xs S2
  by_cases h : xs.length ≤ sizeLine
  · rw [if_pos h]; simp [h, wR]
  · rw [if_neg h]; simp [h, wR]
theorem dg0 {d c : Nat} {Y : Dx} {S T : Store} {a : Cell} (h : In d c S) : (Dk d c Y (S ++ (a :: T)))[S.length]? = some a := by
  rw [Dk_get (by have := h.d; omega) (by have := h.c; omega)]; simp
theorem dg1 {d c : Nat} {Y : Dx} {S T : Store} {a b : Cell} (h : In d c S) : (Dk d c Y (S ++ (a :: b :: T)))[S.length + 1]? = some b := by
  rw [Dk_get (by have := h.d; omega) (by have := h.c; omega)]; simp
theorem sg0 {S T : Store} {a : Cell} : (S ++ (a :: T))[S.length]? = some a := by simp
theorem sg1 {S T : Store} {a b : Cell} : (S ++ (a :: b :: T))[S.length + 1]? = some b := by simp
theorem ss0 {S T : Store} {a x : Cell} : (S ++ (a :: T)).set S.length x = S ++ (x :: T) := by
  rw [List.set_append_right _ _ (Nat.le_refl _)]; simp
theorem ss1 {S T : Store} {a b x : Cell} : (S ++ (a :: b :: T)).set (S.length + 1) x = S ++ (a :: x :: T) := by
  rw [List.set_append_right _ _ (by omega)]; simp
theorem ds0 {d c : Nat} {Y : Dx} {S T : Store} {a x : Cell} (h : In d c S) : (Dk d c Y (S ++ (a :: T))).set S.length x = Dk d c Y (S ++ (x :: T)) := by
  rw [Dk_set (by have := h.d; omega) (by have := h.c; omega), ss0]
theorem ds1 {d c : Nat} {Y : Dx} {S T : Store} {a b x : Cell} (h : In d c S) : (Dk d c Y (S ++ (a :: b :: T))).set (S.length + 1) x = Dk d c Y (S ++ (a :: x :: T)) := by
  rw [Dk_set (by have := h.d; omega) (by have := h.c; omega), ss1]
theorem atI_some {xs : List Val} {r : Int} (h0 : 0 ≤ r) (h1 : r < xs.length) : ∃ v, v ∈ xs ∧ L2.atI xs r = some v := by
  have hr : r.toNat < xs.length := by omega
  refine ⟨xs[r.toNat], List.getElem_mem hr, ?_⟩
  unfold L2.atI L2.ixN
  rw [if_pos h0]
  simp [h1, hr]
theorem o_idxL {xs : List Val} {r : Int} (h0 : 0 ≤ r) (h1 : r < xs.length) (h : ∀ v, v ∈ xs → L2.atI xs r = some v → Q v S) : wR Q X (oIdx (.lst xs) (.int r) S) := by
  obtain ⟨v, hv, e⟩ := atI_some h0 h1
  refine wR_eq (a := v) (S := S) ?_ (h v hv e)
  simp only [oIdx, seqOf, e]
theorem atI_0 {x : Val} {xs : List Val} : L2.atI (x :: xs) 0 = some x := by
  unfold L2.atI L2.ixN
  simp
theorem atI_1 {x y : Val} {xs : List Val} : L2.atI (x :: y :: xs) 1 = some y := by
  unfold L2.atI L2.ixN
  have h : (1 : Int) < ((x :: y :: xs).length : Nat) := by simp; omega
  rw [if_pos (by decide), if_pos h]
  rfl
theorem atI_2 {x y z : Val} {xs : List Val} : L2.atI (x :: y :: z :: xs) 2 = some z := by
  unfold L2.atI L2.ixN
  have h : (2 : Int) < ((x :: y :: z :: xs).length : Nat) := by simp; omega
  rw [if_pos (by decide), if_pos h]
  rfl
theorem atI_3 {x y z u : Val} {xs : List Val} : L2.atI (x :: y :: z :: u :: xs) 3 = some u := by
  unfold L2.atI L2.ixN
  have h : (3 : Int) < ((x :: y :: z :: u :: xs).length : Nat) := by simp; omega
  rw [if_pos (by decide), if_pos h]
  rfl
theorem o_sub2T {xs : List Val} {y : Val} : oSub2 (.tup xs) y S = oIdx (.tup xs) y S := id rfl
theorem o_sub2L {xs : List Val} {y : Val} : oSub2 (.lst xs) y S = oIdx (.lst xs) y S := id rfl
theorem o_sub2F {xs : List Val} {y : Val} : oSub2 (.frz xs) y S = oIdx (.frz xs) y S := id rfl
theorem o_sub2S {xs : Str} {y : Val} : oSub2 (.str xs) y S = oIdx (.str xs) y S := id rfl
theorem o_sub2D {kvs : List (L2.Key × Val)} {y : Val} : oSub2 (.dct kvs) y S = (match Gx.keyOf y with | some k => (match getV kvs k with | some v => R.ok v S | none => R.bad) | none => R.bad) := by
  show oGet (.dct kvs) y S = _
  unfold oGet
  simp only [dctOf]
  cases Gx.keyOf y <;> rfl
theorem o_sub2R {n : Nat} {y : Val} : oSub2 (.ref n) y S = (match S[n]? with
    | some (.dct kvs) => (match Gx.keyOf y with | some k => (match getV kvs k with | some v => R.ok v S | none => R.bad) | none => R.bad)
    | _ => oIdx (.ref n) y S) := by
  unfold oSub2 oGet dctOf
  cases h : S[n]? with
  | none => simp only [h]
  | some c =>
    cases c with
    | dct kvs =>
      simp only [h]
      cases Gx.keyOf y <;> rfl
    | _ => simp only [h]
theorem idxT {xs : List Val} {i : Int} : oIdx (.tup xs) (.int i) S = (match L2.atI xs i with | some v => R.ok v S | none => R.bad) := id rfl
theorem idxL {xs : List Val} {i : Int} : oIdx (.lst xs) (.int i) S = (match L2.atI xs i with | some v => R.ok v S | none => R.bad) := id rfl
theorem idxT0 {x : Val} {xs : List Val} : oIdx (.tup (x :: xs)) (.int 0) S = .ok x S := by rw [idxT, atI_0]
theorem idxT1 {x y : Val} {xs : List Val} : oIdx (.tup (x :: y :: xs)) (.int 1) S = .ok y S := by rw [idxT, atI_1]
theorem idxT2 {x y z : Val} {xs : List Val} : oIdx (.tup (x :: y :: z :: xs)) (.int 2) S = .ok z S := by rw [idxT, atI_2]
theorem idxT3 {x y z u : Val} {xs : List Val} : oIdx (.tup (x :: y :: z :: u :: xs)) (.int 3) S = .ok u S := by rw [idxT, atI_3]
theorem idxL0 {x : Val} {xs : List Val} : oIdx (.lst (x :: xs)) (.int 0) S = .ok x S := by rw [idxL, atI_0]
theorem idxR {n : Nat} {i : Int} : oIdx (.ref n) (.int i) S = (match S[n]? with | some (.lst xs) => (match L2.atI xs i with | some v => R.ok v S | none => R.bad) | _ => R.bad) := by
  show (match seqOf S (.ref n) with | some (_, xs) => (match L2.atI xs i with | some v => R.ok v S | none => R.bad) | none => R.bad) = _
  unfold seqOf
  cases h : S[n]? with
  | none => simp only [h]
  | some c => cases c <;> simp only [h]
theorem o_add {i j : Int} : wR Q X (oAdd (.int i) (.int j) S) = Q (.int (i + j)) S := id rfl
theorem o_sub {i j : Int} : wR Q X (oSub (.int i) (.int j) S) = Q (.int (i - j)) S := id rfl
theorem o_neg {i : Int} : wR Q X (oNeg (.int i) S) = Q (.int (-i)) S := id rfl
theorem o_addT {xs ys : List Val} : wR Q X (oAdd (.tup xs) (.tup ys) S) = (xs.length + ys.length ≤ sizeLine ∧ Q (.tup (xs ++ ys)) S) := by
  show wR Q X (if xs.length + ys.length ≤ sizeLine then _ else _) = _
  by_cases h : xs.length + ys.length ≤ sizeLine
  · rw [if_pos h]; simp [h, wR]
  · rw [if_neg h]; simp [h, wR]
theorem o_addS {x y : Str} : wR Q X (oAdd (.str x) (.str y) S) = (x.length + y.length ≤ sizeLine ∧ Q (.str (x ++ y)) S) := by
  show wR Q X (if x.length + y.length ≤ sizeLine then _ else _) = _
  by_cases h : x.length + y.length ≤ sizeLine
  · rw [if_pos h]; simp [h, wR]
  · rw [if_neg h]; simp [h, wR]
theorem o_cmp {p : Int → Int → Bool} {i j : Int} : wR Q X (oCmp p (.int i) (.int j) S) = Q (.bl (p i j)) S := id rfl
theorem o_eq {x y : Val} : wR Q X (oEq x y S) = wR Q X (match pyEq S x y with | some b => .ok (.bl b) S | none => .bad) := id rfl
theorem o_ne {x y : Val} : wR Q X (oNe x y S) = wR Q X (match pyEq S x y with | some b => .ok (.bl (!b)) S | none => .bad) := id rfl
theorem eq_int {i j : Int} : pyEq S (.int i) (.int j) = some (decide (i = j)) := id rfl
theorem eq_bl {i j : Bool} : pyEq S (.bl i) (.bl j) = some (decide (i = j)) := id rfl
theorem eq_str {i j : Str} : pyEq S (.str i) (.str j) = some (decide (i = j)) := id rfl
theorem eq_tup0 {xs : List Val} : pyEq S (.tup xs) (.tup []) = some xs.isEmpty := id rfl
theorem eq_lst0 {xs : List Val} : pyEq S (.lst xs) (.lst []) = some xs.isEmpty := id rfl
theorem eq_ref0 {n : Nat} : pyEq S (.ref n) (.lst []) = match S[n]? with | some (.lst xs) => some xs.isEmpty | _ => none := id rfl
theorem b_int {i : Int} : wR Q X (bInt [.int i] S) = Q (.int i) S := id rfl
theorem b_intB {b : Bool} : wR Q X (bInt [.bl b] S) = Q (.int (if b = true then 1 else 0)) S := id rfl
end
theorem cut_to {α : Type} (xs : List α) (k : Nat) : cutL xs none (some (k : Int)) = xs.take k := by
  unfold cutL
  rw [HT.sIx_none, HT.sIx_nat, List.drop_zero, Nat.sub_zero]
  by_cases h : k ≤ xs.length
  · rw [Nat.min_eq_left h]
  · rw [Nat.min_eq_right (by omega), List.take_of_length_le (Nat.le_refl _), List.take_of_length_le (by omega)]
theorem cut_from {α : Type} (xs : List α) (k : Nat) : cutL xs (some (k : Int)) none = xs.drop k := by
  unfold cutL
  rw [HT.sIx_none, HT.sIx_nat]
  by_cases h : k ≤ xs.length
  · rw [Nat.min_eq_left h, List.take_of_length_le (by simp)]
  · rw [Nat.min_eq_right (by omega), List.drop_of_length_le (Nat.le_refl _), List.drop_of_length_le (by omega)]; simp
end Gx
end
section
set_option maxHeartbeats 1000000
namespace Gx
open PySem PySem.Spec PyProof.Rows L2
def sAugL (a k e : E) : SS := fun L S => ofE L (a L S) fun o S1 => ofE L (k L S1) fun q S2 => match o, q with
  | .ref n, .int i => match S2[n]? with
    | some (.lst xs) => if 0 ≤ i then match xs[i.toNat]? with
      | some x => ofE L (e L S2) fun y S3 => ofE L (oAddI x y S3) fun z S4 => match Gx.setItem (.ref n) (.int i) z S4 with | some S5 => .nx L S5 | none => .bad
      | none => .bad
      else .bad
    | _ => .bad
  | _, _ => .bad
section
variable {X : Cx} {W : XW} {o i e : Expr} {a k d : E} {pos tpos : Pos}
end
theorem w_augL {a k e : E} {L : Loc} {S : Store} {N : Loc → Store → Prop} {T : Val → Store → Prop} {X : Exc → Store → Prop} : wS N T X (sAugL a k e L S) = wR (fun o S1 => wR (fun q S2 => wS N T X (match o, q with
  | .ref n, .int i => match S2[n]? with
    | some (.lst xs) => if 0 ≤ i then match xs[i.toNat]? with
      | some x => ofE L (e L S2) fun y S3 => ofE L (oAddI x y S3) fun z S4 => match Gx.setItem (.ref n) (.int i) z S4 with | some S5 => .nx L S5 | none => .bad
      | none => .bad
      else .bad
    | _ => .bad
  | _, _ => .bad)) X (k L S1)) X (a L S) := by
  unfold sAugL
  rw [wS_ofE]
  exact wR_q fun _ _ => wS_ofE _ _ _ _ _ _
end Gx
end
section
set_option maxHeartbeats 1000000
set_option maxRecDepth 100000
namespace Gx
open PySem PySem.Spec PyProof.Rows L2
section
variable {prog : Program} {w : World} {A : Around} {E : Value → Shared → Prop} {s : Shared}
end
section
variable {X : Cx}
end
section
variable {P : Program} {w : World} {K : PySem.W.Frag} {mg : Str → Option Value} {base : Heap} {C : Addr} {fl : Str}
end
def iOwn (C : Addr) (f : Str) (e : E) : I := fun L S => (e L S).bind fun v S1 => match objOf S1 v with
  | some (D, fs) => if D = C then match fs.lookup f with
    | some (.tup xs) => .ok ⟨[], xs⟩ S1
    | _ => .bad
    else .bad
  | none => .bad
section
variable {X : Cx} {W : XW} {tg e : Expr} {d : E} {C : Addr} {f : Str}
end
end Gx
end
section
set_option maxHeartbeats 4000000
set_option maxRecDepth 100000
namespace Gx
open PySem PySem.Spec PyProof.Rows L2
def exEnd : List Value := [.type "Exception", .type "BaseException", .type "object"]
def OwnUp (l : List Value) : Prop := ∃ cs : List Addr, l = cs.map Value.ref ++ exEnd
theorem own_pass {l : List Value} (self : Value) (h : OwnUp l) : refuseLoop self "__setattr__" l = pure () := by
  obtain ⟨cs, rfl⟩ := h
  induction cs with
  | nil => exact F.store_Exception.passes self
  | cons c cs ih => rw [List.map_cons, List.cons_append, refuseLoop_ref]; exact ih
theorem own_has {l : List Value} (X : String) (h : OwnUp l) : l.contains (.type X) = exEnd.contains (.type X) := by
  obtain ⟨cs, rfl⟩ := h
  induction cs with
  | nil => rfl
  | cons c cs ih => rw [List.map_cons, List.cons_append, List.contains_cons, ih]; rfl
theorem own_ne {l : List Value} (h : OwnUp l) : l.isEmpty = false := by
  obtain ⟨cs, rfl⟩ := h
  cases cs <;> rfl
theorem own_up {l : List Value} (c : Addr) (h : OwnUp l) : OwnUp (.ref c :: l) := by
  obtain ⟨cs, rfl⟩ := h
  exact ⟨c :: cs, rfl⟩
structure ExX (K : PySem.W.Frag) (C : Addr) : Prop where
  cls : ∃ nm q N bs bm sn sub ab col dd k0 k1 k2 k3 k5, K.lookup C = some (excClassObj nm q C N bs bm true sn sub ab col dd k0 k1 k2 k3 k5 "Exception.__new__") ∧ OwnUp bm
  sa : PySem.W.findIn K (.ref C) "__setattr__" = some (some (.builtin "object.__setattr__"))
  exC : PySem.W.subIn K (.ref C) (.type "BaseException") = some true
  tyC : PySem.W.typeIn K (.ref C) = some (.type "type")
  kC : PySem.W.keepIn K (.ref C) = true
section
open Builtin Builtin.ObjectAttr PySem.HandSPX
variable {prog : Program} {w : World} {A : Around} {R : Result → Shared → Prop} {h0 : Heap} {ge : Array GenState} {dr : Drawn} {tk : Nat} {os : OsState}
theorem osa_first {K : PySem.W.Frag} {name : Str} {nt : Tok} {v : Value} {x C : Addr} {fv : Array Value} {cd : ClassData}
    (X : K.In h0) (hx : h0.get? x = some { cls := .ref C, data := .fields fv }) (hcd : PySem.W.clsIn K C = some cd) (hm : OwnUp cd.mro) (hh : cd.hasDict = true) (ha : PySem.W.findIn K (.ref C) name = some none)
    (hq : ∀ h1 tk1 dx, (∀ b o, b ≠ x → h0.get? b = some o → h1.get? b = some o) → h0.objs.size ≤ dx → dx ≠ x → h1.get? x = some { cls := .ref C, dict := some dx, data := .fields fv } →
      h1.Ns1 dx (fun y => if y = name then some v else none) → R (.ok (.ret .none)) ⟨h1, ge, dr, tk1, os⟩) :
    codeAny (model prog w) A (.call (.builtin "object.__setattr__") ⟨[.ref x, .str name nt, v], []⟩) R ⟨h0, ge, dr, tk, os⟩ := by
  have I : PySem.W.InstAt h0 x { cls := .ref C, data := .fields fv } C none := ⟨hx, rfl, rfl, trivial⟩
  have SF := F.store_object
  have hob : cd.mro.contains (.type "object") = true := (own_has "object" hm).trans (by decide +kernel)
  have hxs : x ≠ h0.objs.size := Nat.ne_of_lt (Heap.lt_size hx)
  have sub : PySem.W.Looks (model prog w) h0 (isInstance (.ref x) (.type "object")) true := I.type.andThen (PySem.W.looks_mroIn X (by unfold PySem.W.mroIn; rw [hcd, Option.bind_some, if_neg (by rw [own_ne hm]; decide), hob]))
  refine codeAny_call_builtin SF.slot.plain SF.entry (@PySem.W.check_slot (model prog w) _ _ ⟨h0, ge, dr, tk, os⟩ "object.__setattr__" "object" "__setattr__" (.ref x) [.str name nt, v] [] _ SF.kind SF.split sub (SF.args (.ref x) (.str name nt) v) ?_)
  have hmr : PySem.W.Looks (model prog w) h0 (mroOf (.ref C)) cd.mro := (PySem.W.looks_clsIn X hcd).andThen .now
  have hst : PySem.W.Looks (model prog w) h0 (storeTaker? none) none := .now
  have hcls : PySem.W.Looks (model prog w) h0 (classData C) cd := PySem.W.looks_clsIn X hcd
  rw [PySem.W.osa_eq, refuse_eq]
  refine wpAny_bind (wpAny_bind (I.type.at (wpAny_bind (hmr.at ?_))))
  rw [own_pass _ hm]
  refine wpAny_pure (wpAny_bind (I.type.at (wpAny_bind ((PySem.W.looks_findIn X ha).at (wpAny_bind (hst.at ?_))))))
  show wpAny _ _ (storeInOwnDict (.ref x) (.ref C) (.str name nt) name v false) _ _ _
  obtain ⟨nm, bs, mro, ns, qn, hd, sn, sb, ab, col, del⟩ := cd
  dsimp only at hh
  subst hh
  unfold storeInOwnDict ownDictForStores
  repeat (first | with_reducible refine store_in_new ?_ ?_ | with_reducible refine wpAny_loadPart_at hx ?_ | with_reducible refine hcls.at ?_ | wp_step)
  · exact ⟨_, #[], _, (Heap.get?_update_ne _ _ _ _ hxs.symm).trans (Heap.get?_push_at rfl rfl), rfl, fun e he => absurd he (by simp), fun _ => rfl⟩
  · intro h1 tk1 hn1 hs
    have hx1 : (h0.push { cls := .type "dict", data := .dict #[] }).get? x = some { cls := .ref C, data := .fields fv } := Heap.get?_push_of_some _ hx
    refine hq h1 tk1 h0.objs.size (fun b o hb ho => ?_) (Nat.le_refl _) hxs.symm ?_ hn1
    · exact (hs.2 b (Nat.ne_of_lt (Heap.lt_size ho))).trans ((Heap.get?_update_ne _ _ _ _ hb).trans (Heap.get?_push_of_some _ ho))
    · exact (hs.2 x hxs).trans (Heap.get?_update_self _ hx1 rfl)
end
section
variable {X : Cx} {pins : List (Addr × Obj)} {σ : L2.St} {H : Hp} {s : Shared} {a C dx : Addr} {f : Str} {y : V} {u : Value} {Q : Unit → Shared → Prop} {E : Value → Shared → Prop} {A : Around}
theorem ost_first (T : ExX X.K C) (I : L2.Inv X pins σ H s) (e : H a = some (exo a C none)) (hno : PySem.W.findIn X.K (.ref C) f = some none) (ry : RelV y u)
    (h : ∀ dx s1, H dx = none → dx ≠ a → L2.Inv X pins σ (upd (upd H dx (exd dx [(f, y)])) a (exo a C (some dx))) s1 → Q () s1) : wpAny (model X.prog X.w) A (PySem.setAttr (.ref a) f u) Q E s := by
  obtain ⟨nm, q, N, bs, bm, sn, sub, ab, col, dd, k0, k1, k2, k3, k5, hC, hbm⟩ := T.cls
  have hcl : PySem.W.clsIn X.K C = some { name := nm, bases := bs, mro := .ref C :: bm, ns := N, qualname := q, hasDict := true, slotNames := sn, subclasses := sub, abstract := ab, collection := col, hasDel := false } := by unfold PySem.W.clsIn; rw [hC] <;> rfl
  obtain ⟨t1, ho⟩ := exo_at I.hok e
  obtain ⟨h0, ge, dr, tk, os⟩ := s
  refine PySem.W.set_plain I.kIn (ox := { cls := .ref C, dict := none, data := .fields #[.ref t1, .none, .none, .none, .bool false, .none] }) (od := none) ⟨ho, rfl, rfl, trivial⟩ T.sa ?_
  refine osa_first I.kIn ho hcl (own_up C hbm) rfl hno (fun h1 tk1 dx k dn dne hx hn => ?_)
  have hnd : H dx = none := I.hok.fresh dn
  have nd : ∀ {b : Addr} {o : Obj}, h0.get? b = some o → b ≠ dx := fun {b o} q => Nat.ne_of_lt (Nat.lt_of_lt_of_le (Heap.lt_size q) dn)
  have na : ∀ {b : Addr}, H b = none → b ≠ a := fun {b} n z => by
    rw [z, e] at n
    cases n
  have U : Un X.fs [] H (upd (upd H dx (exd dx [(f, y)])) a (exo a C (some dx))) h0 h1 := {
    keep := fun b o q n _ _ => k b o (na n) q
    slot := fun b o q n _ _ => ⟨o.slots, k b o (na n) q⟩
    free := fun b o q n _ => by rw [upd_ne (na n), upd_ne (nd q)]; exact n
    there := fun b o q _ => by
      by_cases hb : b = a
      · exact ⟨_, by rw [hb]; exact hx⟩
      · exact ⟨o, k b o hb q⟩
    tups := fun b xs q => by rw [upd_ne (at_ne e q exo_tup), upd_ne (ne_of_none q hnd)]; exact q
    frzs := fun b o v q => by rw [upd_ne (at_ne e q exo_frz), upd_ne (ne_of_none q hnd)]; exact q
    tbls := fun b ps q => ⟨#[], by rw [upd_ne (at_ne e q exo_tbl), upd_ne (ne_of_none q hnd), q]; simp⟩ }
  refine h dx _ hnd dne (I.un (t' := tk1) U fun b o q => ?_)
  by_cases hb : b = a
  · subst hb
    rw [upd_same] at q
    cases q
    exact exo_ok hx
  · rw [upd_ne hb] at q
    by_cases hd : b = dx
    · subst hd
      rw [upd_same] at q
      cases q
      exact exd_ok hn (relO_put (fs := []) ry fun g => True.intro)
    · rw [upd_ne hd] at q
      exact (I.hok b o q).stay (fun c v hc z => k c v (by
          rcases hc with hc | hc
          · rw [hc]
            exact hb
          · exact at_ne e hc exo_own) z)
        (fun c hc => by rw [upd_ne (at_ne e hc exo_own), upd_ne (ne_of_none hc hnd)]; exact hc) (fun c xs hc => by rw [upd_ne (at_ne e hc exo_tup), upd_ne (ne_of_none hc hnd)]; exact hc)
end
def tOf1 (K : PySem.W.Frag) (f : Str) (to te : TE) : TS := fun D σ H => te σ H fun y H1 => to σ H1 fun x H2 => ∃ a C : Addr, x = .ref a ∧ ExX K C ∧ PySem.W.findIn K (.ref C) f = some none ∧
  H2 a = some (exo a C none) ∧ ∀ dx, H2 dx = none → dx ≠ a → D.nx σ (upd (upd H2 dx (exd dx [(f, y)])) a (exo a C (some dx)))
theorem ps_of1 {X : Cx} {o e : Expr} {to te : TE} {f : Str} {p pos : Pos} (ho : PE X o to) (he : PE X e te) (hs : swapsWith e (some (.Attribute o f p)) pos.line X.env = pure false := by rfl) : PS X (.Assign [.Attribute o f p] e pos) (tOf1 X.K f to te) := by
  refine ⟨fun pins s σ H D I h => ?_⟩
  refine plainObj_wpAny_Assign_Attribute (thn (he.run pins s σ H _ I h) fun v s1 ⟨y, H1, I1, r1, q1⟩ => thn (ho.run pins s1 σ H1 _ I1 q1) fun u s2 ⟨x, H2, I2, r2, a, C, ex, T, hno, ea, q⟩ => ?_) hs
  subst ex
  obtain rfl : u = Value.ref a := r2
  exact ost_first T I2 ea hno r1 fun dx s1 n ne J => ⟨σ, _, J, q dx n ne⟩
def spI1 (K : PySem.W.Frag) (f : Str) : Sp := fun vs H Q _ => ∃ (a C : Addr) (v : V), vs = [.ref a, v] ∧ ExX K C ∧ PySem.W.findIn K (.ref C) f = some none ∧ H a = some (exo a C none) ∧
  ∀ dx, H dx = none → dx ≠ a → Q .non (upd (upd H dx (exd dx [(f, v)])) a (exo a C (some dx)))
end Gx
end
section
set_option maxHeartbeats 4000000
set_option maxRecDepth 100000
namespace Gx
open PySem PySem.Spec PyProof.Rows L2
section
variable {P : Program} {w : World} {K : PySem.W.Frag} {mg : Str → Option Value} {base : Heap} {x qual fl : Str} {st : Stmt} {dV : Value} {f : Addr} {fd : FuncData} {N : List Str} {a b : Str}
theorem init1_mk (F : FunV K x qual st dV f fd) (S : FnScope [a, b] [a, b] (defScope st))
    (hb : ∀ (cdv : Value) (A : Around) (outer : List Env) (s : Shared) (H : Hp) (E : XK), PSs (cxOf CX0 P w K mg base [a, b] qual (defScope st) f cdv A outer s H E) (defBody st) (tOf1 K fl (tVar 0) (tVar 1))) : FnOk P w K mg base CX0 1 f fd [a, b] (spI1 K fl) := by
  obtain ⟨oc, od, kV, doc, pm, an, cdv, ct, osl, rfl, lk, hcd⟩ := F.ex
  refine fn_of lk hcd S (fun vs H Q E h => ?_) fun A outer s H vs Q E hr h => ⟨_, hb cdv A outer s H E, ?_⟩
  · obtain ⟨_, _, _, rfl, _⟩ := h; rfl
  · obtain ⟨e, C, v, rfl, T, hno, ea, q⟩ := h
    exact ⟨v, rfl, .ref e, rfl, e, C, rfl, T, hno, ea, fun dx h1 h2 => q dx h1 h2⟩
end
def tMk1 (C : Addr) (f : Str) (te : TE) : L2.St → Hp → XK → Prop := fun σ H Q => te σ H fun v H1 => ∀ dx, H1 dx = none → Q (.ref C) (some dx) (upd H1 dx (.xd [(f, v)]))
structure Ex1 (P : Program) (w : World) (K : PySem.W.Frag) (mg : Str → Option Value) (base : Heap) (t : XT) (f : Str) : Prop where
  ex : ∃ (C a : Addr) (fd : FuncData) (ps : List Str), clsOf K (xname t) = C ∧ ExX K C ∧ PySem.W.findIn K (.ref C) f = some none ∧ PySem.W.findIn K (.ref C) "__init__" = some (some (.ref a)) ∧ PySem.W.typeIn K (.ref a) = some (.type "function") ∧ mg (xname t) = some (.ref C) ∧
    FnOk P w K mg base CX0 1 a fd ps (spI1 K f) ∧ Binds K fd ps []
structure Ex0 (K : PySem.W.Frag) (mg : Str → Option Value) (t : XT) : Prop where
  ex : ∃ C : Addr, clsOf K (xname t) = C ∧ PySem.W.excIn K C exEnd "Exception.__new__" = true ∧ PySem.W.subIn K (.ref C) (.type "BaseException") = some true ∧ PySem.W.typeIn K (.ref C) = some (.type "type") ∧ PySem.W.keepIn K (.ref C) = true ∧ mg (xname t) = some (.ref C)
section
variable {X : Cx} {W : XW} {e : Expr} {d : E} {x f : Str} {t : XT} {p pos pos2 : Pos}
theorem pmk_x1 {te : TE} {C fI : Addr} {k : Nat} {fd : FuncData} {ps : List Str} (T : ExX X.K C) (hno : PySem.W.findIn X.K (.ref C) f = some none) (iC : PySem.W.findIn X.K (.ref C) "__init__" = some (some (.ref fI))) (tI : PySem.W.typeIn X.K (.ref fI) = some (.type "function"))
    (F1 : FnOk X.prog X.w X.K X.mg X.base CX0 k fI fd ps (spI1 X.K f)) (hr : Room (k + 1) X.A) (hb : Binds X.K fd ps []) (hg : Gl X x) (hm : X.mg x = some (.ref C)) (he : PE X e te) (hdb : (x == ("__debug__" : Str)) = false := by decide)
    (hst : starEach [e] X.env = (false, eval e X.env) :: starEach [] X.env := by rfl) : L2H.PMk5 X (.Call (.Name x p) [e] [] pos) (tMk1 C f te) := by
  intro pins s σ H Q I h
  obtain ⟨nm, q, N, bs, bm, sn, sub, ab, col, dd, k0, k1, k2, k3, k5, hC, hbm⟩ := T.cls
  refine wpAny_Call_Name_kw (ld_glob I hg hm ?_ hdb)
  have ha : PA X [e] (tCons te tNil) := pa_cons he pa_nil hst
  refine PySem.W.callWith_K (h₀ := X.base) I.ok.mod.kin T.kC (thn (ha.run pos pins s σ H (fun vs H1 => match vs with | [v] => ∀ dx, H1 dx = none → Q (.ref C) (some dx) (upd H1 dx (.xd [(f, v)])) | _ => False) I h) fun us s1 ⟨vs, H1, I1, r1, q1⟩ => ⟨I1.kIn, ?_⟩) hst rfl
  obtain ⟨v, rfl⟩ : ∃ v, vs = [v] := by
    match vs, q1 with
    | [v], _ => exact ⟨v, rfl⟩
  have q1 : ∀ dx, H1 dx = none → Q (.ref C) (some dx) (upd H1 dx (.xd [(f, v)])) := q1
  show wpAny _ _ (call (.ref C) us) _ _ _
  obtain ⟨hp, g, dr, tk, os⟩ := s1
  have hsz : hp.objs.size ≤ hp.objs.size + 1 := Nat.le_succ _
  have hn : H1 (hp.objs.size + 1) = none := I1.hok.fresh hsz
  have kk : ∀ b o, hp.get? b = some o → ((hp.push (PySem.W.kdv_tup us)).push (PySem.HandSPX.excO C hp.objs.size)).get? b = some o := fun b o e => Heap.get?_push_of_some _ (Heap.get?_push_of_some _ e)
  have hget : ((hp.push (PySem.W.kdv_tup us)).push (PySem.HandSPX.excO C hp.objs.size)).get? (hp.objs.size + 1) = some (PySem.HandSPX.excO C hp.objs.size) := by heap_get
  have I2 : L2.Inv X pins σ (upd H1 (hp.objs.size + 1) (exo (hp.objs.size + 1) C none)) ⟨(hp.push (PySem.W.kdv_tup us)).push (PySem.HandSPX.excO C hp.objs.size), g, dr, tk, os⟩ :=
    I1.laid (t' := tk) (a := hp.objs.size + 1) (o := exo (hp.objs.size + 1) C none) (h' := (hp.push (PySem.W.kdv_tup us)).push (PySem.HandSPX.excO C hp.objs.size)) kk hsz (exo_ok hget)
  have hq : spI1 X.K f [V.ref (hp.objs.size + 1), v] (upd H1 (hp.objs.size + 1) (exo (hp.objs.size + 1) C none)) (fun u H2 => u = .non ∧ ∃ dx, H1 dx = none ∧ dx ≠ hp.objs.size + 1 ∧ H2 = upd (upd (upd H1 (hp.objs.size + 1) (exo (hp.objs.size + 1) C none)) dx (exd dx [(f, v)])) (hp.objs.size + 1) (exo (hp.objs.size + 1) C (some dx))) E0 :=
    ⟨_, C, v, rfl, T, hno, upd_same, fun dx h1 h2 => ⟨rfl, dx, by rwa [upd_ne h2] at h1, h2, rfl⟩⟩
  have r2 : Vals [V.ref (hp.objs.size + 1), v] (Value.ref (hp.objs.size + 1) :: us) := .cons rfl r1
  have hl : (Value.ref (hp.objs.size + 1) :: us ++ []).length = ps.length := by
    have z1 := r2.length
    have z2 := F1.len _ _ _ _ hq
    simp at z1 z2 ⊢
    omega
  have hus : us.length ≤ sizeLine := by
    have z := r1.length
    rw [sizeLine_eq]
    simp at z
    omega
  have hb2 := hb _ (Value.ref (hp.objs.size + 1) :: us) I2.kIn hl
  rw [List.append_nil] at hb2
  refine wpAny_call (PySem.HandSPX.call_own F.excBase_Exception (fun Y => own_has Y hbm) (I1.kIn _ _ hC) (PySem.W.looks_findIn I1.kIn iC) (fun self => PySem.W.bind_fn I1.kIn self tI) hus
    (codeAny_mono (F1.run _ X.stack _ _ ⟨Value.ref (hp.objs.size + 1) :: us, []⟩ (Value.ref (hp.objs.size + 1) :: us) _ _ E0 (hr.make C us []) (I2.env0.make C us []) hb2 r2 hq) fun r s2 hq2 => ?_))
  cases r with
  | error er => exact hq2.elim
  | ok fl =>
    cases fl with
    | ret u =>
      obtain ⟨y, H2, os2, bare2, un2, hok2, rv, ev, dx, hd1, hda, rfl⟩ := hq2
      subst ev
      obtain ⟨h2, g2, d2, t2, os3⟩ := s2
      have eu : upd (del (upd (upd (upd H1 (hp.objs.size + 1) (exo (hp.objs.size + 1) C none)) dx (exd dx [(f, v)])) (hp.objs.size + 1) (exo (hp.objs.size + 1) C (some dx))) (hp.objs.size + 1)) dx (.xd [(f, v)]) = upd H1 dx (.xd [(f, v)]) := by
        funext b
        by_cases hb : b = dx
        · rw [hb, upd_same, upd_same]
        · rw [upd_ne hb, upd_ne hb]
          by_cases hc : b = hp.objs.size + 1
          · rw [hc, del_same, hn]
          · rw [del_ne hc, upd_ne hc, upd_ne hb, upd_ne hc]
      have q2 := q1 dx hd1
      rw [← eu] at q2
      obtain ⟨t0, G, J, kG, ge, hoe, na⟩ := mk_end0 (d2 := d2) (t2 := t2) I1 hsz kk un2 hok2 os2 bare2 upd_same (show upd (upd (upd H1 (hp.objs.size + 1) (exo (hp.objs.size + 1) C none)) dx (exd dx [(f, v)])) (hp.objs.size + 1) (exo (hp.objs.size + 1) C (some dx)) dx = some (exd dx [(f, v)]) by rw [upd_ne hda, upd_same]) hd1
      refine ⟨rv, ⟨hp.objs.size + 1, _, _, ⟨G, g2, d2, t2, os3⟩, _, .ref C, some dx, rfl, J, kG, ge, hoe, ⟨rfl, rfl, fun vs hv => ?_⟩, rfl, rfl, na, rfl, bare2, raises_own T.exC T.tyC, q2⟩, fun a oe vs ea2 hg2 hd2 => ?_⟩
      · cases hv
        rfl
      · cases ea2
        have hg3 : h2.get? (hp.objs.size + 1) = some oe := hg2
        rw [hoe] at hg3
        cases hg3
        cases hd2
        show (4 : Nat) < 6
        decide
    | next => exact False.elim hq2
    | brk => exact False.elim hq2
    | cont => exact False.elim hq2
theorem pmk_x0 {C : Addr} (q : PySem.W.excIn X.K C exEnd "Exception.__new__" = true) (kC : PySem.W.keepIn X.K (.ref C) = true) (r : Raises X (.ref C)) (hg : Gl X x) (hm : X.mg x = some (.ref C)) (hdb : (x == ("__debug__" : Str)) = false := by decide) :
    L2H.PMk5 X (.Call (.Name x p) [] [] pos) (fun _ H Q => Q (.ref C) none H) := by
  intro pins s σ H Q I h
  refine wpAny_Call_Name_kw (ld_glob I hg hm ?_ hdb)
  refine PySem.W.callWith_K0 I.kIn kC ?_
  show wpAny _ _ (call (.ref C) []) _ _ _
  obtain ⟨bm, N, nm, qn, bs, hdct, sn, sub, ab, col, dd, k0, k1, k2, k3, k5, mN, hC, hN, hni, T⟩ := exc_obj I.kIn q
  refine wpAny_call_exc_subT F.excBase_Exception T hC hN hni (fun h1 e hx => ?_) (by show 0 ≤ sizeLine; omega)
  exact L2H.mk_of5 I hx r h (I.hok.gone hx.new)
def sRaise1 (t : XT) (f : Str) (d : E) : SS := fun L S => ofE L (d L S) fun v S1 => .exn ⟨t, [(f, v)]⟩ L S1
def sRaise0 (t : XT) : SS := fun L S => .exn ⟨t, []⟩ L S
theorem ds_raise1 [Nn] (c : Ex1 X.prog X.w X.K X.mg X.base t f) (hc : X.calm = true) (tk : TakesN X W) (hr : Room 2 X.A) (hg : Gl X (xname t)) (he : DE X W e d) (hdb : (xname t == ("__debug__" : Str)) = false := by decide)
    (hst : starEach [e] X.env = (false, eval e X.env) :: starEach [] X.env := by rfl) : DS X W (.Raise (some (.Call (.Name (xname t) p) [e] [] pos2)) none pos) (sRaise1 t f d) := by
  obtain ⟨C, a, fd, ps, hC, T, hno, iC, tI, hm, F1, hb⟩ := c.ex
  refine ⟨PS.weak (L2N.ps_raise hc (takesN_n tk) (pmk_x1 T hno iC tI F1 hr hb hg hm he.pe hdb hst).pmk) fun D σ H h => ?_⟩
  obtain ⟨ρ, S, L, sim, h⟩ := h
  refine ⟨ρ, S, L, sim, PostS.ofE sim h fun v S1 ρ1 H1 w _ e1 s1 r1 h1 => fun dx hdx => ?_⟩
  refine h1 ρ1 _ σ _ _ (ext_new hdx) (sim.next (e1.trans (ext_new hdx)) (s1.new hdx)) ⟨by rw [← hC], .inr ⟨dx, _, rfl, upd_same, ?_⟩⟩
  unfold RVF RVF
  exact ⟨w, [], rfl, r1.ext (ext_new hdx), rfl⟩
theorem ds_raise0 [Nn] (c : Ex0 X.K X.mg t) (hc : X.calm = true) (tk : TakesN X W) (hg : Gl X (xname t)) (hdb : (xname t == ("__debug__" : Str)) = false := by decide) : DS X W (.Raise (some (.Call (.Name (xname t) p) [] [] pos2)) none pos) (sRaise0 t) := by
  obtain ⟨C, hC, q, h1, h2, h3, hm⟩ := c.ex
  refine ⟨PS.weak (L2N.ps_raise hc (takesN_n tk) (pmk_x0 q h3 (raises_own h1 h2) hg hm hdb).pmk) fun D σ H h => ?_⟩
  obtain ⟨ρ, S, L, sim, h⟩ := h
  exact h ρ H σ _ _ Ext.refl sim ⟨by rw [← hC], .inl ⟨rfl, rfl⟩⟩
end
end Gx
end
section
set_option maxHeartbeats 4000000
set_option maxRecDepth 100000
namespace Gx
open PySem PySem.Spec PyProof.Rows L2
abbrev Suit := Addr → Value → Option Addr → TS
def setsN (D : Ends) (i : Nat) : Ends := { nx := fun τ G => D.nx (τ.set i none) G, rt := D.rt, bk := fun τ G => D.bk (τ.set i none) G, ct := fun τ G => D.ct (τ.set i none) G }
def wHds (K : PySem.W.Frag) (Wout : XW) (D : Ends) : List (Value × Option Nat × Suit) → XW
  | [] => Wout
  | (c, j, ts) :: r => fun cls d τ G => ∃ b, PySem.W.exmOne K cls c = some b ∧
      (b = true → ∀ a, G a = none → match j with | none => ts a cls d D τ G | some i => ts a cls d (setsN D i) (τ.set i (some (.ref a))) G) ∧ (b = false → wHds K Wout D r cls d τ G)
inductive Hds (X : Cx) : List ExceptHandler → List (Value × Option Nat × Suit) → Prop
  | nil : Hds X [] []
  | only {x : Str} {c : Value} {ts : Suit} {b0 : Stmt} {suite : List Stmt} {np pos1 : Pos} {hds : List ExceptHandler} {l : List (Value × Option Nat × Suit)} (hc : Names X x c)
      (hsu : ∀ (a : Addr) (oe : Obj) (cls : Value) (d : Option Addr) (pn : List (Addr × Obj)), Zc cls d oe → (∃ vs, oe.data = .fields vs) → PSs (X.suite a ((a, oe) :: pn)) (b0 :: suite) (ts a cls d)) (r : Hds X hds l) :
      Hds X (.ExceptHandler (some (.Name x np)) none (b0 :: suite) pos1 :: hds) ((c, none, ts) :: l)
  | named {x n : Str} {i : Nat} {c : Value} {ts : Suit} {b0 : Stmt} {suite : List Stmt} {np pos1 : Pos} {hds : List ExceptHandler} {l : List (Value × Option Nat × Suit)} (hN : X.N.Nodup) (hi : X.N[i]? = some n) (hln : X.env.kindOf n = some .local) (hc : Names X x c)
      (hsu : ∀ (a : Addr) (oe : Obj) (cls : Value) (d : Option Addr) (pn : List (Addr × Obj)), Zc cls d oe → (∃ vs, oe.data = .fields vs) → PSs (X.suite a ((a, oe) :: pn)) (b0 :: suite) (ts a cls d)) (r : Hds X hds l) :
      Hds X (.ExceptHandler (some (.Name x np)) (some n) (b0 :: suite) pos1 :: hds) ((c, some i, ts) :: l)
section
variable {X : Cx} {body : List Stmt} {h0 : ExceptHandler} {hds : List ExceptHandler} {l : List (Value × Option Nat × Suit)} {pos : Pos} {tb : XW → TS} {Wout : XW}
theorem ps_try (hs : X.stack = X.env :: X.outer) (hf : X.env.frame = some X.env.locals) (tk : L2.Takes X Wout)
    (hb : ∀ (W : XW) (pn : List (Addr × Obj)) (xe : Value → Shared → Prop), L2.Takes (X.tr pn xe) W → PassesOwn (model X.prog X.w) X.A X.env xe → PSs (X.tr pn xe) body (tb W))
    (hh : Hds X (h0 :: hds) l) : PS X (.Try body (h0 :: hds) [] [] pos) (fun D σ H => tb (wHds X.K Wout D l) D σ H) := by
  refine ⟨fun pins s σ H D I h => ?_⟩
  have ok := I.ok
  have hfr : X.A.frames = some (X.env :: X.outer) := by rw [ok.frames, hs]
  refine wpAny_Try_except ?_
  refine wpAny_mono ((hb (wHds X.K Wout D l) (X.pn ++ pins) (fun e s1 => wpAny (model X.prog X.w) X.A (noteFrame e X.env) (fun _ s2 => wpAny (model X.prog X.w) X.A (setFlight e none) (fun _ s3 =>
    wpAny (model X.prog X.w) X.A (handleBy e X.env (h0 :: hds)) (SP X pins D) X.xe s3) X.xe s2) X.xe s1) (fun u s1 xx => ?_) PassesOwn.looking).run [] s σ H D (I.toTry _) h) (fun f s1 hsp => ?_) (fun e s1 he => he)
  · obtain ⟨a, B, sI, pins1, σ1, H1, cls, d, rfl, J0, nb, up, sky, na, os, ag, w⟩ := xx
    have J : L2.Inv X pins σ1 H1 sI := J0.ofTry ok
    have sky1 : Sky B (X.env :: X.outer) a (Zc cls d) X.env.locals s1.heap := by rw [← hs]; exact sky
    show wpAny (model X.prog X.w) X.A (noteFrame (.ref a) X.env) _ _ _
    refine Sky.land Zc.steady hfr hf sky1 fun h3 fl3 up3 => ?_
    have J3 : L2.Inv X pins σ1 H1 { s1 with heap := h3 } := J.landed nb fl3.1 (up.trans up3) os ag
    obtain ⟨oe3, vs3, he3, hz3, hd3⟩ := fl3.there
    have nfr : a ∉ frs (X.env :: X.outer) := fun hm => by
      obtain ⟨_, o1, e1, hnf⟩ := fl3.2.2.1.mem hm
      rw [he3] at e1; cases e1
      exact hnf _ hd3
    have nL : a ≠ X.env.locals := fun z => nfr (List.mem_filterMap.mpr ⟨X.env, List.mem_cons_self, by rw [hf, z]⟩)
    have nF : a ∉ X.fs := fun hm => by
      obtain ⟨e, he, q⟩ := List.mem_filterMap.mp hm
      exact nfr (List.mem_filterMap.mpr ⟨e, List.mem_cons_of_mem _ he, q⟩)
    have S3 := J3.suite he3 hd3 na nL nF
    have LT : PySem.W.Looks (model X.prog X.w) h3 (typeOf (.ref a)) cls := fun A Q E s k q => wpAny_typeOf_ref (k _ _ he3) (by rw [hz3.1]; exact q)
    have test : ∀ {x : Str} {np : Pos} {c : Value} {Q : Value → Shared → Prop} {E : Value → Shared → Prop}, Names X x c → Q c { s1 with heap := h3 } → wpAny (model X.prog X.w) (X.A.mark (some (.ref a))) (eval (.Name x np) X.env) Q E { s1 with heap := h3 } := fun {x np c Q E} hc q => by
      obtain ⟨hg, hdbg, hm | ⟨hm, hv, hnn⟩⟩ := hc
      · exact ld_glob (X := X.suite a ((a, oe3) :: (X.pn ++ pins))) S3 hg hm q hdbg
      · exact ld_blt (X := X.suite a ((a, oe3) :: (X.pn ++ pins))) S3 hg hm hv q hnn hdbg
    have go : ∀ {hs1 : List ExceptHandler} {l1 : List (Value × Option Nat × Suit)}, Hds X hs1 l1 → wHds X.K Wout D l1 cls d σ1 H1 →
        wpAny (model X.prog X.w) X.A (handleBy (.ref a) X.env hs1) (SP X pins D) X.xe { s1 with heap := h3 } := by
      intro hs1 l1 hk
      induction hk with
      | nil =>
        intro w
        refine wpAny_handleBy_nil ?_
        obtain ⟨k1, k2, k3, oe, vs, T, oT, ts1, he, hz, hd, h1, hr⟩ := id fl3
        unfold PySem.passOn
        refine wpAny_bind (wpAny_field he hd h1 ?_)
        rw [if_neg (show ¬ ((Value.ref T == Value.none) = true) from by simp)]
        have fin : wpAny (model X.prog X.w) X.A (setFlight (.ref a) X.env.frame) (fun _ s4 => wpAny (model X.prog X.w) X.A (throw (.ref a) : Sem Flow) (SP X pins D) X.xe s4) X.xe { s1 with heap := h3 } := by
          rw [hf]
          refine HandSPX.setFlight_upZ fl3 fun h4 hh4 up4 => wpAny_throw (tk _ _ ?_)
          exact ⟨a, B, sI, pins, σ1, H1, cls, d, rfl, J, nb, (up.trans up3).trans up4, .inr (.inr (by rw [hs]; exact hh4)), na, os, ag, w⟩
        first
          | exact wpAny_bind (wpAny_pure (wpAny_bind fin))
          | exact wpAny_bind fin
      | @only x c ts b0 suite np pos1 hds2 l2 hc hsu r ih =>
        intro w
        obtain ⟨b, hb1, hyes, hno⟩ := w
        refine wpAny_handleBy_cons (codeAny_handlers_test ?_) (by intro q; cases q)
        have LM := PySem.W.exm_one (M := model X.prog X.w) (J3.kIn) LT hb1
        refine test hc (LM.here ?_)
        cases b with
        | true =>
          refine codeAny_handlers_suite ?_
          refine HandSPX.lands_againZ fl3 fun h4 fl4 up4 => ?_
          have J4 : L2.Inv X pins σ1 H1 { s1 with heap := h4 } := J.landed nb fl4.1 ((up.trans up3).trans up4) os ag
          obtain ⟨oe4, vs4, he4, hz4, hd4⟩ := fl4.there
          have S4 := J4.suite he4 hd4 na nL nF
          refine wpAny_mono ((hsu a oe4 cls d (X.pn ++ pins) hz4 ⟨_, hd4⟩).run [] _ _ H1 _ S4 (hyes rfl a na)) (fun f s6 hsp => ?_) (fun _ _ z => False.elim z)
          cases f with
          | next => obtain ⟨σ6, H6, S6, q6⟩ := hsp; exact ⟨_, _, S6.unsuite ok, q6⟩
          | brk => obtain ⟨σ6, H6, S6, q6⟩ := hsp; exact ⟨_, _, S6.unsuite ok, q6⟩
          | cont => obtain ⟨σ6, H6, S6, q6⟩ := hsp; exact ⟨_, _, S6.unsuite ok, q6⟩
          | ret u => obtain ⟨v6, σ6, H6, S6, r6, q6⟩ := hsp; exact ⟨_, _, _, S6.unsuite ok, r6, q6⟩
        | false =>
          show wpAny _ X.A (handleBy (.ref a) X.env hds2) _ _ _
          exact ih (hno rfl)
      | @named x n i c ts b0 suite np pos1 hds2 l2 hN hi hln hc hsu r ih =>
        intro w
        obtain ⟨b, hb1, hyes, hno⟩ := w
        refine wpAny_handleBy_cons (codeAny_handlers_test ?_) (by intro q; cases q)
        have LM := PySem.W.exm_one (M := model X.prog X.w) (J3.kIn) LT hb1
        refine test hc (LM.here ?_)
        cases b with
        | true =>
          refine codeAny_handlers_suite_as ?_
          refine HandSPX.lands_againZ fl3 fun h4 fl4 up4 => ?_
          have J4 : L2.Inv X pins σ1 H1 { s1 with heap := h4 } := J.landed nb fl4.1 ((up.trans up3).trans up4) os ag
          obtain ⟨oe4, vs4, he4, hz4, hd4⟩ := fl4.there
          have S4 := J4.suite he4 hd4 na nL nF
          refine store_ok (X := X.suite a ((a, oe4) :: (X.pn ++ pins))) (v := .ref a) S4 hN hi (.inl hln) rfl (fun s5 S5 => ?_) (.inr hln)
          refine wpAny_mono ((hsu a oe4 cls d (X.pn ++ pins) hz4 ⟨_, hd4⟩).run [] s5 _ H1 _ S5 (hyes rfl a na)) (fun f s6 hsp => ?_) (fun _ _ z => False.elim z)
          have fin : ∀ {σ6 : L2.St} {H6 : Hp} {Q : Shared → Prop}, L2.Inv (X.suite a ((a, oe4) :: (X.pn ++ pins))) [] σ6 H6 s6 → (∀ s7, L2.Inv X pins (σ6.set i none) H6 s7 → Q s7) →
              wpAny (model X.prog X.w) X.A (do bindName X.env n .none; unbindBehindTheSuite X.env n pos1) (fun _ s7 => Q s7) X.xe s6 := fun {σ6 H6 Q} S6 hq => gone_ok (S6.unsuite ok) hN hi hln hq
          cases f with
          | next => obtain ⟨σ6, H6, S6, q6⟩ := hsp; exact fin S6 fun s7 J7 => ⟨_, _, J7, q6⟩
          | brk => obtain ⟨σ6, H6, S6, q6⟩ := hsp; exact fin S6 fun s7 J7 => ⟨_, _, J7, q6⟩
          | cont => obtain ⟨σ6, H6, S6, q6⟩ := hsp; exact fin S6 fun s7 J7 => ⟨_, _, J7, q6⟩
          | ret u => obtain ⟨v6, σ6, H6, S6, r6, q6⟩ := hsp; exact fin S6 fun s7 J7 => ⟨_, _, _, J7, r6, q6⟩
        | false =>
          show wpAny _ X.A (handleBy (.ref a) X.env hds2) _ _ _
          exact ih (hno rfl)
    exact go hh w
  · cases f with
    | next => obtain ⟨σ1, H1, J1, q⟩ := hsp; exact wpAny_execs_nil ⟨σ1, H1, J1.ofTry ok, q⟩
    | brk => obtain ⟨σ1, H1, J1, q⟩ := hsp; exact ⟨σ1, H1, J1.ofTry ok, q⟩
    | cont => obtain ⟨σ1, H1, J1, q⟩ := hsp; exact ⟨σ1, H1, J1.ofTry ok, q⟩
    | ret u => obtain ⟨v, σ1, H1, J1, r, q⟩ := hsp; exact ⟨v, σ1, H1, J1.ofTry ok, r, q⟩
theorem ps_tryN (hs : X.stack = X.env :: X.outer) (hf : X.env.frame = some X.env.locals) (tk : L2N.Takes X Wout)
    (hb : ∀ (W : XW) (pn : List (Addr × Obj)) (xe : Value → Shared → Prop), L2N.Takes (X.tr pn xe) W → PassesOwn (model X.prog X.w) X.A X.env xe → PSs (X.tr pn xe) body (tb W))
    (hh : Hds X (h0 :: hds) l) : PS X (.Try body (h0 :: hds) [] [] pos) (fun D σ H => tb (wHds X.K Wout D l) D σ H) := by
  refine ⟨fun pins s σ H D I h => ?_⟩
  have ok := I.ok
  have hfr : X.A.frames = some (X.env :: X.outer) := by rw [ok.frames, hs]
  refine wpAny_Try_except ?_
  refine wpAny_mono ((hb (wHds X.K Wout D l) (X.pn ++ pins) (fun e s1 => wpAny (model X.prog X.w) X.A (noteFrame e X.env) (fun _ s2 => wpAny (model X.prog X.w) X.A (setFlight e none) (fun _ s3 =>
    wpAny (model X.prog X.w) X.A (handleBy e X.env (h0 :: hds)) (SP X pins D) X.xe s3) X.xe s2) X.xe s1) (fun u s1 xx => ?_) PassesOwn.looking).run [] s σ H D (I.toTry _) h) (fun f s1 hsp => ?_) (fun e s1 he => he)
  · obtain ⟨a, B, sI, pins1, σ1, H1, cls, d, rfl, J0, nb, up, sky, na, os, ag, w⟩ := xx
    have J : L2.Inv X pins σ1 H1 sI := J0.ofTry ok
    have sky1 : Sky B (X.env :: X.outer) a (L2N.Zn cls d) X.env.locals s1.heap := by rw [← hs]; exact sky
    show wpAny (model X.prog X.w) X.A (noteFrame (.ref a) X.env) _ _ _
    refine L2N.Sky.land L2N.Zn.steady hfr hf sky1 fun h3 fl3 up3 => ?_
    have J3 : L2.Inv X pins σ1 H1 { s1 with heap := h3 } := J.landed nb fl3.1 (up.trans up3) os ag
    obtain ⟨oe3, vs3, he3, hz3, hd3⟩ := fl3.there
    have nfr : a ∉ frs (X.env :: X.outer) := fun hm => by
      obtain ⟨_, o1, e1, hnf⟩ := fl3.2.2.1.mem hm
      rw [he3] at e1; cases e1
      exact hnf _ hd3
    have nL : a ≠ X.env.locals := fun z => nfr (List.mem_filterMap.mpr ⟨X.env, List.mem_cons_self, by rw [hf, z]⟩)
    have nF : a ∉ X.fs := fun hm => by
      obtain ⟨e, he, q⟩ := List.mem_filterMap.mp hm
      exact nfr (List.mem_filterMap.mpr ⟨e, List.mem_cons_of_mem _ he, q⟩)
    have S3 := J3.suite he3 hd3 na nL nF
    have LT : PySem.W.Looks (model X.prog X.w) h3 (typeOf (.ref a)) cls := fun A Q E s k q => wpAny_typeOf_ref (k _ _ he3) (by rw [hz3.1]; exact q)
    have test : ∀ {x : Str} {np : Pos} {c : Value} {Q : Value → Shared → Prop} {E : Value → Shared → Prop}, Names X x c → Q c { s1 with heap := h3 } → wpAny (model X.prog X.w) (X.A.mark (some (.ref a))) (eval (.Name x np) X.env) Q E { s1 with heap := h3 } := fun {x np c Q E} hc q => by
      obtain ⟨hg, hdbg, hm | ⟨hm, hv, hnn⟩⟩ := hc
      · exact ld_glob (X := X.suite a ((a, oe3) :: (X.pn ++ pins))) S3 hg hm q hdbg
      · exact ld_blt (X := X.suite a ((a, oe3) :: (X.pn ++ pins))) S3 hg hm hv q hnn hdbg
    have go : ∀ {hs1 : List ExceptHandler} {l1 : List (Value × Option Nat × Suit)}, Hds X hs1 l1 → wHds X.K Wout D l1 cls d σ1 H1 →
        wpAny (model X.prog X.w) X.A (handleBy (.ref a) X.env hs1) (SP X pins D) X.xe { s1 with heap := h3 } := by
      intro hs1 l1 hk
      induction hk with
      | nil =>
        intro w
        refine wpAny_handleBy_nil ?_
        obtain ⟨k1, k2, k3, oe, vs, T, oT, ts1, he, hz, hd, h1, hr⟩ := id fl3
        unfold PySem.passOn
        refine wpAny_bind (wpAny_field he hd h1 ?_)
        rw [if_neg (show ¬ ((Value.ref T == Value.none) = true) from by simp)]
        have fin : wpAny (model X.prog X.w) X.A (setFlight (.ref a) X.env.frame) (fun _ s4 => wpAny (model X.prog X.w) X.A (throw (.ref a) : Sem Flow) (SP X pins D) X.xe s4) X.xe { s1 with heap := h3 } := by
          rw [hf]
          refine HandSPX.setFlight_upZ fl3 fun h4 hh4 up4 => wpAny_throw (tk _ _ ?_)
          exact ⟨a, B, sI, pins, σ1, H1, cls, d, rfl, J, nb, (up.trans up3).trans up4, .inr (.inr (by rw [hs]; exact hh4)), na, os, ag, w⟩
        first
          | exact wpAny_bind (wpAny_pure (wpAny_bind fin))
          | exact wpAny_bind fin
      | @only x c ts b0 suite np pos1 hds2 l2 hc hsu r ih =>
        intro w
        obtain ⟨b, hb1, hyes, hno⟩ := w
        refine wpAny_handleBy_cons (codeAny_handlers_test ?_) (by intro q; cases q)
        have LM := PySem.W.exm_one (M := model X.prog X.w) (J3.kIn) LT hb1
        refine test hc (LM.here ?_)
        cases b with
        | true =>
          refine codeAny_handlers_suite ?_
          refine HandSPX.lands_againZ fl3 fun h4 fl4 up4 => ?_
          have J4 : L2.Inv X pins σ1 H1 { s1 with heap := h4 } := J.landed nb fl4.1 ((up.trans up3).trans up4) os ag
          obtain ⟨oe4, vs4, he4, hz4, hd4⟩ := fl4.there
          have S4 := J4.suite he4 hd4 na nL nF
          refine wpAny_mono ((hsu a oe4 cls d (X.pn ++ pins) hz4.zc ⟨_, hd4⟩).run [] _ _ H1 _ S4 (hyes rfl a na)) (fun f s6 hsp => ?_) (fun _ _ z => False.elim z)
          cases f with
          | next => obtain ⟨σ6, H6, S6, q6⟩ := hsp; exact ⟨_, _, S6.unsuite ok, q6⟩
          | brk => obtain ⟨σ6, H6, S6, q6⟩ := hsp; exact ⟨_, _, S6.unsuite ok, q6⟩
          | cont => obtain ⟨σ6, H6, S6, q6⟩ := hsp; exact ⟨_, _, S6.unsuite ok, q6⟩
          | ret u => obtain ⟨v6, σ6, H6, S6, r6, q6⟩ := hsp; exact ⟨_, _, _, S6.unsuite ok, r6, q6⟩
        | false =>
          show wpAny _ X.A (handleBy (.ref a) X.env hds2) _ _ _
          exact ih (hno rfl)
      | @named x n i c ts b0 suite np pos1 hds2 l2 hN hi hln hc hsu r ih =>
        intro w
        obtain ⟨b, hb1, hyes, hno⟩ := w
        refine wpAny_handleBy_cons (codeAny_handlers_test ?_) (by intro q; cases q)
        have LM := PySem.W.exm_one (M := model X.prog X.w) (J3.kIn) LT hb1
        refine test hc (LM.here ?_)
        cases b with
        | true =>
          refine codeAny_handlers_suite_as ?_
          refine HandSPX.lands_againZ fl3 fun h4 fl4 up4 => ?_
          have J4 : L2.Inv X pins σ1 H1 { s1 with heap := h4 } := J.landed nb fl4.1 ((up.trans up3).trans up4) os ag
          obtain ⟨oe4, vs4, he4, hz4, hd4⟩ := fl4.there
          have S4 := J4.suite he4 hd4 na nL nF
          refine store_ok (X := X.suite a ((a, oe4) :: (X.pn ++ pins))) (v := .ref a) S4 hN hi (.inl hln) rfl (fun s5 S5 => ?_) (.inr hln)
          refine wpAny_mono ((hsu a oe4 cls d (X.pn ++ pins) hz4.zc ⟨_, hd4⟩).run [] s5 _ H1 _ S5 (hyes rfl a na)) (fun f s6 hsp => ?_) (fun _ _ z => False.elim z)
          have fin : ∀ {σ6 : L2.St} {H6 : Hp} {Q : Shared → Prop}, L2.Inv (X.suite a ((a, oe4) :: (X.pn ++ pins))) [] σ6 H6 s6 → (∀ s7, L2.Inv X pins (σ6.set i none) H6 s7 → Q s7) →
              wpAny (model X.prog X.w) X.A (do bindName X.env n .none; unbindBehindTheSuite X.env n pos1) (fun _ s7 => Q s7) X.xe s6 := fun {σ6 H6 Q} S6 hq => gone_ok (S6.unsuite ok) hN hi hln hq
          cases f with
          | next => obtain ⟨σ6, H6, S6, q6⟩ := hsp; exact fin S6 fun s7 J7 => ⟨_, _, J7, q6⟩
          | brk => obtain ⟨σ6, H6, S6, q6⟩ := hsp; exact fin S6 fun s7 J7 => ⟨_, _, J7, q6⟩
          | cont => obtain ⟨σ6, H6, S6, q6⟩ := hsp; exact fin S6 fun s7 J7 => ⟨_, _, J7, q6⟩
          | ret u => obtain ⟨v6, σ6, H6, S6, r6, q6⟩ := hsp; exact fin S6 fun s7 J7 => ⟨_, _, _, J7, r6, q6⟩
        | false =>
          show wpAny _ X.A (handleBy (.ref a) X.env hds2) _ _ _
          exact ih (hno rfl)
    exact go hh w
  · cases f with
    | next => obtain ⟨σ1, H1, J1, q⟩ := hsp; exact wpAny_execs_nil ⟨σ1, H1, J1.ofTry ok, q⟩
    | brk => obtain ⟨σ1, H1, J1, q⟩ := hsp; exact ⟨σ1, H1, J1.ofTry ok, q⟩
    | cont => obtain ⟨σ1, H1, J1, q⟩ := hsp; exact ⟨σ1, H1, J1.ofTry ok, q⟩
    | ret u => obtain ⟨v, σ1, H1, J1, r, q⟩ := hsp; exact ⟨v, σ1, H1, J1.ofTry ok, r, q⟩
end
end Gx
end
section
set_option maxHeartbeats 4000000
set_option maxRecDepth 100000
namespace Gx
open PySem PySem.Spec PyProof.Rows L2
def xsub (a b : XT) : Bool := decide (a = b) || decide (b = .ShareError)
inductive XEl where
  | ks (s : Str) | kn | fld (f : Str) | isi (C : XT) | cond (C : XT) (a b : XEl)
def XEl.fits (ks : List XT) : XEl → Bool
  | .isi C => decide (C ∈ ks)
  | .cond C a b => decide (C ∈ ks) && a.fits ks && b.fits ks
  | .fld f => decide (f = "part") || decide (f = "line") || decide (f = "number")
  | _ => true
def XEl.calm : XEl → Bool
  | .ks _ => true
  | .kn => true
  | _ => false
def xel (x : Exc) : XEl → Option Val
  | .ks s => some (.str s)
  | .kn => some .non
  | .fld f => x.fs.lookup f
  | .isi C => some (.bl (xsub x.cls C))
  | .cond C a b => if xsub x.cls C then xel x a else xel x b
def xels (x : Exc) : List XEl → Option (List Val)
  | [] => some []
  | a :: r => match xel x a, xels x r with | some v, some vs => some (v :: vs) | _, _ => none
inductive XRhs where
  | one (a : XEl) | lst (as : List XEl)
def XRhs.fits (ks : List XT) : XRhs → Bool
  | .one a => a.fits ks
  | .lst as => as.all (·.fits ks) && decide (as.length ≤ 1000)
def xrhs (x : Exc) : XRhs → Option Val
  | .one a => xel x a
  | .lst as => (xels x as).map .lst
structure XH where
  C : XT
  i : Option Nat
  j : Nat
  rhs : XRhs
def goneL (L : Loc) : Option Nat → Loc
  | none => L
  | some i => L.set i none
def inL (L : Loc) : Option Nat → Bool
  | none => true
  | some i => decide (i < L.length)
def xhds (ks : List XT) : List XH → Exc → Loc → Store → RS
  | [] => fun x L S => .exn x L S
  | h :: r => fun x L S => if decide (x.cls ∈ ks) && inL L h.i then if xsub x.cls h.C then match xrhs x h.rhs with | some v => .nx (goneL ((goneL L h.i).set h.j (some v)) h.i) S | none => .bad
      else xhds ks r x L S
    else .bad
def sTry (ks : List XT) (b : SS) (hs : List XH) : SS := fun L S => match b L S with
  | .exn x L1 S1 => xhds ks hs x L1 S1
  | r => r

structure ClX (K : PySem.W.Frag) (t : XT) (C : Addr) : Prop where
  nm : PySem.W.nsIn K mainGlobals (xname t) = some (some (.ref C))
  ga : PySem.W.findIn K (.ref C) "__getattribute__" = some (some (.builtin "BaseException.__getattribute__"))
  gg : PySem.W.findIn K (.ref C) "__getattr__" = some none
  ex : PySem.W.subIn K (.ref C) (.type "BaseException") = some true
  tp : PySem.W.typeIn K (.ref C) = some (.type "type")
  hd : PySem.W.hasDictIn K C = true
  ha : PySem.W.findIn K (.ref C) "__class__" = some (some (.builtin "object.__class__"))
  hn : PySem.W.specialIn K (.builtin "object.__class__") "__get__" = some (some (.builtin "getset_descriptor.__get__"))
  ht : PySem.W.takesIn K (.builtin "object.__class__") = some true
  hm : PySem.W.mroIn K C (.type "object") = some true
  cl : PySem.W.isClsIn K C = true
  fp : PySem.W.findIn K (.ref C) "part" = some none
  fl : PySem.W.findIn K (.ref C) "line" = some none
  fn : PySem.W.findIn K (.ref C) "number" = some none
theorem ClX.at {K : PySem.W.Frag} {t : XT} {C : Addr} (h : ClX K t C) : clsOf K (xname t) = C := clsOf_eq h.nm
inductive SubA (K : PySem.W.Frag) (t : XT) : List XT → Prop
  | nil : SubA K t []
  | cons {u : XT} {r : List XT} {C D : Addr} (h1 : PySem.W.nsIn K mainGlobals (xname t) = some (some (.ref C))) (h2 : PySem.W.nsIn K mainGlobals (xname u) = some (some (.ref D))) (h : PySem.W.subIn K (.ref C) (.ref D) = some (xsub t u)) (k : SubA K t r) : SubA K t (u :: r)
inductive XKs (K : PySem.W.Frag) (cs : List XT) : List XT → Prop
  | nil : XKs K cs []
  | cons {t : XT} {r : List XT} {C : Addr} (h : ClX K t C) (s : SubA K t cs) (k : XKs K cs r) : XKs K cs (t :: r)
theorem SubA.get {K : PySem.W.Frag} {t : XT} {l : List XT} (h : SubA K t l) {u : XT} (hu : u ∈ l) : PySem.W.subIn K (.ref (clsOf K (xname t))) (.ref (clsOf K (xname u))) = some (xsub t u) := by
  induction h with
  | nil => cases hu
  | cons h1 h2 h k ih =>
    rcases List.mem_cons.mp hu with rfl | hu
    · rw [clsOf_eq h1, clsOf_eq h2]; exact h
    · exact ih hu
theorem XKs.get {K : PySem.W.Frag} {cs l : List XT} (h : XKs K cs l) {t : XT} (ht : t ∈ l) : ClX K t (clsOf K (xname t)) ∧ SubA K t cs := by
  induction h with
  | nil => cases ht
  | cons h s k ih =>
    rcases List.mem_cons.mp ht with rfl | ht
    · rw [h.at]; exact ⟨h, s⟩
    · exact ih ht
theorem xk_sub {K : PySem.W.Frag} {ks : List XT} (h : XKs K ks ks) {t u : XT} (ht : t ∈ ks) (hu : u ∈ ks) : PySem.W.subIn K (.ref (clsOf K (xname t))) (.ref (clsOf K (xname u))) = some (xsub t u) := (h.get ht).2.get hu
theorem xk_exm {K : PySem.W.Frag} {ks : List XT} (h : XKs K ks ks) {t u : XT} (ht : t ∈ ks) (hu : u ∈ ks) : PySem.W.exmOne K (.ref (clsOf K (xname t))) (.ref (clsOf K (xname u))) = some (xsub t u) := by
  have c := (h.get hu).1
  exact PySem.W.exm_ref c.ex c.hd c.tp (xk_sub h ht hu)
theorem xk_kit {K : PySem.W.Frag} {ks : List XT} (h : XKs K ks ks) {t u : XT} (ht : t ∈ ks) (hu : u ∈ ks) : PySem.W.kitOne K (.ref (clsOf K (xname t))) (.ref (clsOf K (xname u))) = some (xsub t u) := by
  have c := (h.get hu).1
  by_cases e : t = u
  · subst e
    unfold PySem.W.kitOne
    rw [if_pos (beq_self_eq_true _)]
    simp [xsub]
  · by_cases q : (Value.ref (clsOf K (xname t)) == Value.ref (clsOf K (xname u))) = true
    · have s := xk_sub h ht hu
      have q2 := beq_iff_eq.mp q
      have s2 := xk_sub h hu hu
      rw [q2] at s
      rw [s] at s2
      unfold PySem.W.kitOne
      rw [if_pos q]
      rw [Option.some.inj s2]
      simp [xsub]
    · exact kit_sub c.cl c.tp (by simpa using q) (xk_sub h ht hu)

section
open PySem.W PySem.Calls
variable {prog : Program} {w : World} {A : Around} {E : Value → Shared → Prop} {s : Shared} {K : PySem.W.Frag} {x D : Addr} {ox : Obj} {od : Option Obj}
theorem find_cls {t : XT} (c : ClX K t D) : findObj K D od "__class__" = some (.bind (.builtin "getset_descriptor.__get__") (.builtin "object.__class__")) := by
  obtain ⟨cd, hc, _⟩ := any_some c.hd
  unfold findObj
  rw [hc, Option.bind_some, c.ha, Option.bind_some]
  simp [c.hn, c.ht]
theorem cls_of_exc {t : XT} {Q : Option Value → Shared → Prop} (c : ClX K t D) (X : K.In s.heap) (I : InstAt s.heap x ox D od) (h : Q (some (.ref D)) { s with toks := s.toks + 1 }) : wpAny (model prog w) A (getAttr? (.ref x) "__class__") Q E s := by
  obtain ⟨hp, g, d, tk, os⟩ := s
  have L0 := I.type (M := model prog w)
  have Lb := looks_findIn (M := model prog w) X c.ga
  have Lc := looks_findIn (M := model prog w) X c.gg
  have Ld := looks_find (M := model prog w) X I (find_cls c)
  have sub : Looks (model prog w) hp (isInstance (.ref x) (.type "BaseException")) true := L0.andThen (looks_subIn X c.ex)
  have hx0 : (false && onTheHeap (Value.builtin "BaseException.__getattribute__")) = false := rfl
  have hx2 : (Value.builtin "BaseException.__getattribute__" == Value.builtin "object.__getattribute__") = false := by decide +kernel
  have hx1 : (onTheHeap (Value.ref D) && Value.builtin "BaseException.__getattribute__" == Value.builtin "object.__getattribute__") = false := by rw [hx2]; rfl
  unfold getAttr? getAttrBy? getAttrBy
  refine wpAny_bind (wpAny_mkText (wpAny_bind (wpAny_attempt (wpAny_holding (wpAny_bind (L0.at (wpAny_bind (Lb.at ?_))))))))
  show wpAny _ _ (if (onTheHeap (Value.ref D) && Value.builtin "BaseException.__getattribute__" == Value.builtin "object.__getattribute__") = true then _ else _) _ _ _
  rw [hx1, if_neg Bool.false_ne_true]
  unfold getAttrByItsOwn hookBefore
  refine wpAny_bind ?_
  rw [if_pos (show onTheHeap (Value.ref D) = true from rfl)]
  refine Lc.at ?_
  refine wpAny_bind (wpAny_attempt (wpAny_holding ?_))
  unfold callGetattribute
  rw [hx0, if_neg Bool.false_ne_true]
  unfold boundAndCalled
  rw [PySem.F.excAttr_ValueError.ga.bind (.ref x)]
  refine wpAny_bind (wpAny_pure ?_)
  show wpAny _ _ (PySem.call (.builtin "BaseException.__getattribute__") [.ref x, .str "__class__" tk]) _ _ _
  refine wpAny_call (codeAny_call_builtin PySem.F.excAttr_ValueError.ga.plain PySem.F.entry_bexc_ga ?_)
  refine @check_slot (model prog w) _ _ ⟨hp, g, d, tk + 1, os⟩ "BaseException.__getattribute__" "BaseException" "__getattribute__" (.ref x) [.str "__class__" tk] [] _ (by decide +kernel) (by decide +kernel) sub (PySem.F.args_bexc_ga (.ref x) (.str "__class__" tk)) ?_
  unfold Builtin.«object.__getattribute__»
  refine wpAny_bind (wpAny_of_eq (a := ((Value.ref x : Value), [Value.str "__class__" tk])) (by first | rfl | (simp only [slotArgs]; rfl)) ?_)
  refine wpAny_bind (wpAny_pure (wpAny_bind (L0.at (wpAny_bind (Ld.at ?_)))))
  show wpAny _ _ (holding [Value.builtin "object.__class__"] (PySem.call (.builtin "getset_descriptor.__get__") [.builtin "object.__class__", .ref x, .ref D]) >>= ret) _ _ _
  refine wpAny_bind (wpAny_holding (wpAny_call (class_get (s := ⟨hp, g, d, tk + 1, os⟩) (ox := ox) (od := od) X I c.hm ?_)))
  refine wpAny_pure ?_
  show wpAny _ _ (handedOut (.ref D)) _ _ _
  rw [handedOut_of (v := .ref D) rfl]
  first
    | exact wpAny_pure (wpAny_pure h)
    | exact wpAny_pure h
    | exact wpAny_pure (wpAny_bind (wpAny_pure (wpAny_pure h)))
theorem kitx_exc {t : XT} (c : ClX K t D) : KitX K (.ref x) (.ref D) (fun h => ∃ od, InstAt h x ox D od) where
  ty := fun _ _ _ ⟨_, I⟩ => I.type
  it := fun _ _ X _ => by
    obtain ⟨cdD, hcD, _⟩ := any_some c.hd
    unfold clsIn at hcD
    split at hcD
    · rename_i c' d' cd' sl' ho
      intro A' Q' E' s' k q
      unfold isType loadHead
      exact wpAny_bind (wpAny_loadPart (k _ _ (X _ _ ho)) (wpAny_pure q))
    · cases hcD
  ne := fun h tp dd its n sl X htp => by
    obtain ⟨cdD, hcD, _⟩ := any_some c.hd
    refine Bool.eq_false_iff.mpr fun q => ?_
    have e : D = tp := Value.ref.inj (beq_iff_eq.mp q)
    subst e
    unfold clsIn at hcD
    split at hcD
    · rename_i c' d' cd' sl' ho
      have z := (X _ _ ho).symm.trans htp
      cases z
    · cases hcD
  ca := fun X ⟨_, I⟩ k => cls_of_exc c X I k
end
end Gx
end
section
set_option maxHeartbeats 4000000
set_option maxRecDepth 100000
namespace Gx
open PySem PySem.Spec PyProof.Rows L2
def DOk (H : Hp) (d : Option Addr) (ws : List (Str × V)) : Prop := (d = none ∧ ws = []) ∨ ∃ a, d = some a ∧ H a = some (.xd ws)
def elV (t : XT) (a : Addr) (ws : List (Str × V)) : XEl → Option V
  | .ks s => some (.str s)
  | .kn => some .non
  | .fld f => ws.lookup f
  | .isi C => some (.bl (xsub t C))
  | .cond C p q => if xsub t C then elV t a ws p else elV t a ws q
def tEl (K : PySem.W.Frag) (ks : List XT) (a : Addr) (cls : Value) (d : Option Addr) (i : Nat) (el : XEl) : TE := fun σ H Q =>
  ∃ t ws w, XKs K ks ks ∧ t ∈ ks ∧ el.fits ks = true ∧ cls = .ref (clsOf K (xname t)) ∧ DOk H d ws ∧ (el.calm = true ∨ σ[i]? = some (some (.ref a))) ∧ elV t a ws el = some w ∧ Q w H
section
variable {X : Cx} {ks : List XT} {a : Addr} {oe : Obj} {cls : Value} {d : Option Addr} {pn : List (Addr × Obj)} {i : Nat} {n : Str} {e e2 ec : Expr} {pos p p2 p3 : Pos}
structure SuiteOk (oe : Obj) (cls : Value) (d : Option Addr) : Prop where
  z : Zc cls d oe
  f : ∃ vs, oe.data = .fields vs
theorem qe_ks {s : Str} {j : Nat} : PE (X.suite a ((a, oe) :: pn)) (.Constant (.str s) j pos) (tEl X.K ks a cls d i (.ks s)) := PE.weak pe_str fun σ H Q h => by
  obtain ⟨t, ws, w, _, _, _, _, _, _, h, q⟩ := h
  simp only [elV, Option.some.injEq] at h
  subst h
  exact q
theorem call_isX (S : SuiteOk oe cls d) : CallR (X.suite a ((a, oe) :: pn)) (.builtin "isinstance") (fun xs H Q => ∃ t u ws, XKs X.K ks ks ∧ t ∈ ks ∧ u ∈ ks ∧ cls = .ref (clsOf X.K (xname t)) ∧ DOk H d ws ∧ xs = [.ref a, .ref (clsOf X.K (xname u))] ∧ Q (.bl (xsub t u)) H) := by
  intro pins s σ H xs us Q I r h
  obtain ⟨t, u, ws, xk, ht, hu, rfl, dok, rfl, q⟩ := h
  cases r with
  | cons rx rr =>
    cases rr with
    | cons rt rr =>
      cases rr
      cases rx
      cases rt
      obtain ⟨hget, _⟩ := I.pin (a, oe) (List.mem_append.mpr (.inl List.mem_cons_self))
      obtain ⟨vs, hv⟩ := S.f
      have J : ∃ od, PySem.W.InstAt s.heap a oe (clsOf X.K (xname t)) od := by
        obtain ⟨h1, h2⟩ := S.z
        obtain ⟨oc, od, oda, osl⟩ := oe
        dsimp only at h1 h2 hv
        subst h1 h2 hv
        rcases dok with ⟨rfl, _⟩ | ⟨dd, rfl, hdd⟩
        · exact ⟨none, hget, rfl, rfl, trivial⟩
        · have hx : ObjOk X.prog X.w H s.heap dd (.xd ws) := I.hok dd _ hdd
          obtain ⟨mA, hns, hr⟩ := hx
          obtain ⟨od, ho, hl⟩ := lookIn_ns hns
          exact ⟨some od, hget, rfl, rfl, ho⟩
      exact PySem.W.kia_one (kitx_exc (xk.get ht).1) I.kIn J (xk_kit xk ht hu) (fun z => nomatch z) fun tk => ⟨.bl (xsub t u), H, I.kept (t' := tk) fun _ _ z => z, rfl, q⟩
theorem qe_isi {C : XT} (S : SuiteOk oe cls d) (hN : X.N[i]? = some n) (hv : Vis X.env.scope n) (hg : Gl X "isinstance") (hm : X.mg "isinstance" = none) (hgC : Gl X (xname C)) (hmC : X.mg (xname C) = some (.ref (clsOf X.K (xname C))))
    (hd : (n == ("__debug__" : Str)) = false := by decide) (hcd : (n == ("__classdict__" : Str)) = false := by decide) (hdb : (xname C == ("__debug__" : Str)) = false := by decide)
    (h1 : starEach [.Name n p, .Name (xname C) p2] X.env = (false, eval (.Name n p) X.env) :: starEach [.Name (xname C) p2] X.env := by rfl) (h2 : starEach [.Name (xname C) p2] X.env = (false, eval (.Name (xname C) p2) X.env) :: starEach [] X.env := by rfl)
    (hpl : (backTo pos (starEach [.Name (xname C) p2] X.env)).any (·.1) = false := by rfl) :
    PE (X.suite a ((a, oe) :: pn)) (.Call (.Name "isinstance" p3) [.Name n p, .Name (xname C) p2] [] pos) (tEl X.K ks a cls d i (.isi C)) := by
  refine PE.weak (pe_callB (X := X.suite a ((a, oe) :: pn)) (call_isX (ks := ks) S) hg hm (by rfl) (pa_cons (pe_var (X := X.suite a ((a, oe) :: pn)) hN hv hd hcd) (pa_cons (pe_glob (X := X.suite a ((a, oe) :: pn)) (v := .ref (clsOf X.K (xname C))) hgC hmC rfl hdb) pa_nil h2) h1) (by decide) (by decide) h1 hpl) fun σ H Q h => ?_
  obtain ⟨t, ws, w, xk, ht, hf, hc, dok, hs, hw, q⟩ := h
  have hs := hs.resolve_left (fun z => by cases z)
  simp only [elV, Option.some.injEq] at hw
  subst hw
  exact ⟨.ref a, hs, t, C, ws, xk, ht, by simpa [XEl.fits] using hf, hc, dok, rfl, q⟩
theorem qe_cond {C : XT} {el1 el2 : XEl} (hc : PE (X.suite a ((a, oe) :: pn)) ec (tEl X.K ks a cls d i (.isi C))) (h1 : PE (X.suite a ((a, oe) :: pn)) e (tEl X.K ks a cls d i el1)) (h2 : PE (X.suite a ((a, oe) :: pn)) e2 (tEl X.K ks a cls d i el2))
    (he : ∀ whole, isTrue ec X.env whole = (do let v ← whole; standAt ec.pos; holding [v] (truthy v)) := by intro _; rfl) : PE (X.suite a ((a, oe) :: pn)) (.IfExp ec e e2 pos) (tEl X.K ks a cls d i (.cond C el1 el2)) := by
  refine PE.weak (pe_ifExp (pt_val hc he) h1 h2) fun σ H Q h => ?_
  obtain ⟨t, ws, w, xk, ht, hf, hcl, dok, hs, hw, q⟩ := h
  simp only [XEl.fits, Bool.and_eq_true] at hf
  have hs : ∀ {q : Prop}, q ∨ σ[i]? = some (some (.ref a)) := fun {q} => .inr (hs.resolve_left (fun z => by cases z))
  simp only [elV] at hw
  refine ⟨t, ws, .bl (xsub t C), xk, ht, hf.1.1, hcl, dok, hs, rfl, xsub t C, rfl, ?_⟩
  cases q2 : xsub t C with
  | true =>
    rw [q2, if_pos rfl] at hw
    rw [if_pos rfl]
    exact ⟨t, ws, w, xk, ht, hf.1.2, hcl, dok, hs, hw, q⟩
  | false =>
    rw [q2, if_neg (by decide)] at hw
    rw [if_neg (by decide)]
    exact ⟨t, ws, w, xk, ht, hf.2, hcl, dok, hs, hw, q⟩
def elVs (t : XT) (a : Addr) (ws : List (Str × V)) : List XEl → Option (List V)
  | [] => some []
  | x :: r => match elV t a ws x, elVs t a ws r with | some v, some vs => some (v :: vs) | _, _ => none
def tEls (K : PySem.W.Frag) (ks : List XT) (a : Addr) (cls : Value) (d : Option Addr) (i : Nat) (els : List XEl) : TA := fun σ H Q =>
  ∃ t ws vs, XKs K ks ks ∧ t ∈ ks ∧ els.all (·.fits ks) = true ∧ cls = .ref (clsOf K (xname t)) ∧ DOk H d ws ∧ (els.all (·.calm) = true ∨ σ[i]? = some (some (.ref a))) ∧ elVs t a ws els = some vs ∧ Q vs H
def tRhs (K : PySem.W.Frag) (ks : List XT) (a : Addr) (cls : Value) (d : Option Addr) (i : Nat) : XRhs → TE
  | .one el => tEl K ks a cls d i el
  | .lst els => tLst (tEls K ks a cls d i els)
def tSuite (K : PySem.W.Frag) (ks : List XT) (i j : Nat) (rhs : XRhs) : Suit := fun a cls d D σ H => tRhs K ks a cls d i rhs σ H fun v H1 => D.nx (σ.set j (some v)) H1
theorem qs_asg {j : Nat} {m : Str} {rhs : XRhs} (hN : X.N.Nodup) (hj : X.N[j]? = some m) (hm : L2.Loc X.env.scope m) (he : PE (X.suite a ((a, oe) :: pn)) e (tRhs X.K ks a cls d i rhs))
    (hf : X.fn m = true ∨ X.env.scope.names.lookup m = some .local := by first | exact .inl rfl | exact .inr rfl | assumption)
    (hs : swapsWithSole [.Name m p] e pos.line X.env = pure false := by rfl) (hw : swappedStores [.Name m p] e X.env = pure none := by rfl)
    (h1 : (assignEach [.Name m p] X.env).map (·.2) = [assign (.Name m p) X.env] := by rfl) : PSs (X.suite a ((a, oe) :: pn)) [.Assign [.Name m p] e pos] (tSuite X.K ks i j rhs a cls d) :=
  pss_one (ps_asg (X := X.suite a ((a, oe) :: pn)) he (pg_name (X := X.suite a ((a, oe) :: pn)) hN hj hm hf) hs hw h1)
end
section
variable {K : PySem.W.Frag} {ρ : Pl} {H : Hp} {ks : List XT} {x : Exc} {c : Value} {d : Option Addr}
theorem xv_ws (h : XV K ρ H x c d) : ∃ ws, DOk H d ws ∧ RVF K ρ H x.fs ws := by
  rcases h.2 with ⟨h1, h2⟩ | ⟨a, ws, h1, h2, h3⟩
  · exact ⟨[], .inl ⟨h2, rfl⟩, by rw [h1]; unfold RVF; rfl⟩
  · exact ⟨ws, .inr ⟨a, h1, h2⟩, h3⟩
theorem el_rv {ws : List (Str × V)} {a : Addr} (h : RVF K ρ H x.fs ws) : ∀ {el : XEl} {v : Val}, xel x el = some v → ∃ w, elV x.cls a ws el = some w ∧ RV K ρ H v w
  | .ks s, v, e => by simp only [xel, Option.some.injEq] at e; subst e; exact ⟨_, rfl, .mk_str _⟩
  | .kn, v, e => by simp only [xel, Option.some.injEq] at e; subst e; exact ⟨_, rfl, .mk_non⟩
  | .fld f, v, e => by
    have z := h.lookup (f := f)
    simp only [xel] at e
    rw [e] at z
    exact z
  | .isi C, v, e => by simp only [xel, Option.some.injEq] at e; subst e; exact ⟨_, rfl, .mk_bl _⟩
  | .cond C p q, v, e => by
    simp only [xel] at e
    simp only [elV]
    split
    · rename_i z; rw [if_pos z] at e; exact el_rv h e
    · rename_i z; rw [if_neg z] at e; exact el_rv h e
theorem els_rv {ws : List (Str × V)} {a : Addr} (h : RVF K ρ H x.fs ws) : ∀ {els : List XEl} {vs : List Val}, xels x els = some vs → ∃ us, elVs x.cls a ws els = some us ∧ RVs K ρ H vs us ∧ us.length = els.length
  | [], vs, e => by simp only [xels, Option.some.injEq] at e; subst e; exact ⟨[], rfl, .nil, rfl⟩
  | el :: els, vs, e => by
    simp only [xels] at e
    cases e1 : xel x el with
    | none => rw [e1] at e; cases e
    | some v =>
      rw [e1] at e
      cases e2 : xels x els with
      | none => rw [e2] at e; cases e
      | some r =>
        rw [e2] at e
        simp only [Option.some.injEq] at e
        subst e
        obtain ⟨w, g1, g2⟩ := el_rv (a := a) h e1
        obtain ⟨us, g3, g4, g5⟩ := els_rv (a := a) h e2
        exact ⟨w :: us, by simp only [elVs, g1, g3], .cons g2 g4, by simp [g5]⟩
theorem loc_gone {L : Loc} {σ : L2.St} (h : LocOk K ρ H L σ) (i : Nat) (o : Option V) : LocOk K ρ H (L.set i none) (σ.set i o) := by
  refine ⟨by simp [h.1], fun j u q => ?_⟩
  by_cases e : j = i
  · subst e
    have hl : j < L.length := by
      have := (List.getElem?_eq_some_iff.mp q).1
      simpa using this
    rw [List.getElem?_set_self hl] at q
    cases q
  · rw [List.getElem?_set_ne (Ne.symm e)] at q
    rw [List.getElem?_set_ne (Ne.symm e)]
    exact h.2 j u q
end
def hdsOf (K : PySem.W.Frag) (ks : List XT) (hs : List XH) : List (Value × Option Nat × Suit) := hs.map fun h => (.ref (clsOf K (xname h.C)), h.i, tSuite K ks (h.i.getD 0) h.j h.rhs)
def XRhs.calm : XRhs → Bool
  | .one el => el.calm
  | .lst els => els.all (·.calm)
def XH.fits (ks : List XT) (h : XH) : Bool := decide (h.C ∈ ks) && h.rhs.fits ks && (match h.i with | some _ => true | none => h.rhs.calm)
theorem rhs_ok {K : PySem.W.Frag} {ρ : Pl} {H : Hp} {ks : List XT} {x : Exc} {d : Option Addr} {ws : List (Str × V)} {a : Addr} {i : Nat} {σ : L2.St} {L : Loc} {S : Store} {rhs : XRhs} {v : Val} {Q : V → Hp → Prop} (sim : Sim K ρ H L S σ) (xk : XKs K ks ks) (ht : x.cls ∈ ks) (hf : rhs.fits ks = true)
    (dok : DOk H d ws) (rv : RVF K ρ H x.fs ws) (hs : rhs.calm = true ∨ σ[i]? = some (some (.ref a))) (e : xrhs x rhs = some v) (h : ∀ H1 w, Ext ρ H ρ H1 → Sim K ρ H1 L S σ → RV K ρ H1 v w → Q w H1) :
    tRhs K ks a (.ref (clsOf K (xname x.cls))) d i rhs σ H Q := by
  cases rhs with
  | one el =>
    obtain ⟨w, e1, r1⟩ := el_rv (a := a) rv (show xel x el = some v from e)
    exact ⟨x.cls, ws, w, xk, ht, hf, rfl, dok, hs, e1, h H w Ext.refl sim r1⟩
  | lst els =>
    simp only [xrhs, Option.map_eq_some_iff] at e
    obtain ⟨vs, e, rfl⟩ := e
    obtain ⟨us, e1, r1, hl⟩ := els_rv (a := a) rv e
    simp only [XRhs.fits, Bool.and_eq_true, decide_eq_true_eq] at hf
    refine ⟨x.cls, ws, us, xk, ht, hf.1, rfl, dok, hs, e1, by rw [sizeLine_eq]; omega, fun p hp => ?_⟩
    refine h _ _ (ext_new hp) (sim.next (ext_new hp) (sim.st.new hp)) ?_
    unfold RV
    exact ⟨p, us, rfl, fz_new sim.st hp, r1.ext (ext_new hp)⟩
theorem hds_ok {K : PySem.W.Frag} {W : XW} {ρ ρ1 : Pl} {H H1 : Hp} {ks : List XT} {x : Exc} {D : Ends} {L : Loc} {S : Store} {σ : L2.St} {c : Value} {d : Option Addr} (xk : XKs K ks ks) (ex : Ext ρ H ρ1 H1) (sim : Sim K ρ1 H1 L S σ) (xv : XV K ρ1 H1 x c d) :
    ∀ hs : List XH, hs.all (·.fits ks) = true → PostS K W ρ H (xhds ks hs x L S) D → wHds K W D (hdsOf K ks hs) c d σ H1
  | [], _, h => h ρ1 H1 σ c d ex sim xv
  | h :: r, hf, post => by
    simp only [List.all_cons, Bool.and_eq_true] at hf
    obtain ⟨hf, hr⟩ := hf
    simp only [XH.fits, Bool.and_eq_true, decide_eq_true_eq] at hf
    obtain ⟨⟨hC, hfr⟩, hi⟩ := hf
    unfold xhds at post
    by_cases hkk : (decide (x.cls ∈ ks) && inL L h.i) = true
    · rw [if_pos hkk] at post
      simp only [Bool.and_eq_true, decide_eq_true_eq] at hkk
      obtain ⟨hk, hil⟩ := hkk
      have hc := xv.1
      subst hc
      refine ⟨xsub x.cls h.C, xk_exm xk hk hC, fun hb a ha => ?_, fun hb => ?_⟩
      · rw [if_pos hb] at post
        cases e : xrhs x h.rhs with
        | none => rw [e] at post; exact post.elim
        | some v =>
          rw [e] at post
          obtain ⟨ws, dok, rv⟩ := xv_ws xv
          cases q : h.i with
          | none =>
            rw [q] at post hi
            refine rhs_ok sim xk hk hfr dok rv (.inl hi) e fun H2 w e2 s2 r2 => ?_
            exact post ρ1 H2 _ (ex.trans e2) ⟨s2.st, s2.loc.set h.j r2⟩
          | some i =>
            rw [q] at post hi
            rw [q] at hil
            have hi : i < L.length := by simpa [inL] using hil
            have sim2 : Sim K ρ1 H1 (L.set i none) S (σ.set i (some (.ref a))) := ⟨sim.st, loc_gone sim.loc i _⟩
            refine rhs_ok (i := i) sim2 xk hk hfr dok rv (.inr (by rw [List.getElem?_set_self (by rw [← sim.loc.1]; exact hi)])) e fun H2 w e2 s2 r2 => ?_
            exact post ρ1 H2 _ (ex.trans e2) ⟨s2.st, loc_gone (s2.loc.set h.j r2) i _⟩
      · rw [if_neg (by rw [hb]; decide)] at post
        exact hds_ok xk ex sim xv r hr post
    · rw [if_neg hkk] at post
      exact post.elim
theorem ds_try [N : Nn] {X : Cx} {W : XW} {ks : List XT} {hs : List XH} {body : List Stmt} {h0 : ExceptHandler} {hds : List ExceptHandler} {db : SS} {pos : Pos} (h1 : X.stack = X.env :: X.outer) (h2 : X.env.frame = some X.env.locals) (tk : TakesN X W) (xk : XKs X.K ks ks)
    (hb : ∀ (V : XW) (pn : List (Addr × Obj)) (xe : Value → Shared → Prop), TakesN (X.tr pn xe) V → PassesOwn (model X.prog X.w) X.A X.env xe → DSs (X.tr pn xe) V body db)
    (hh : Hds X (h0 :: hds) (hdsOf X.K ks hs)) (hf : hs.all (·.fits ks) = true) : DS X W (.Try body (h0 :: hds) [] [] pos) (sTry ks db hs) := by
  have key : PS X (.Try body (h0 :: hds) [] [] pos) (fun D σ H => lS X.K (wHds X.K W D (hdsOf X.K ks hs)) db D σ H) := by
    obtain ⟨n⟩ := N
    cases n with
    | true => exact ps_tryN (tb := fun V => lS X.K V db) h1 h2 tk (fun V pn xe a b => (hb V pn xe a b).ps) hh
    | false => exact ps_try (tb := fun V => lS X.K V db) h1 h2 tk (fun V pn xe a b => (hb V pn xe a b).ps) hh
  refine ⟨PS.weak key fun D σ H h => ?_⟩
  obtain ⟨ρ, S, L, sim, h⟩ := h
  refine ⟨ρ, S, L, sim, ?_⟩
  unfold sTry at h
  cases e : db L S with
  | nx L1 S1 => rw [e] at h; exact h
  | ret v S1 => rw [e] at h; exact h
  | bad => rw [e] at h; exact h
  | exn x L1 S1 =>
    rw [e] at h
    intro ρ1 H1 σ1 c d ex s1 xv
    exact hds_ok xk ex s1 xv hs hf h
end Gx
end
section
namespace Gx
open PySem L2
theorem ok_of_w {α : Type} {r : R α} {a : α} {S : Store} (h : wR (fun v S' => Hold (v = a ∧ S' = S) ⟨⟩) (fun _ _ => False) r) : r = .ok a S := by
  obtain ⟨v, S', e, q⟩ := wR_ok_of h
  obtain ⟨rfl, rfl⟩ := held q
  exact e
theorem comp_pure {stay : Store → Bool} {g : G} {c : T} {e : E} {L : Loc} {S : Store} (Lx : Val → Loc) (p : Val → Bool) (f : Val → Val) : ∀ {xs : List Val}, stay S = true → (∀ x ∈ xs, g x L S = .nx (Lx x) S) → (∀ x ∈ xs, c (Lx x) S = .ok (p x) S) → (∀ x ∈ xs, p x = true → e (Lx x) S = .ok (f x) S) →
    compGo stay g c e L xs S = .ok ((xs.filter p).map f) S
  | [], hs, _, _, _ => by unfold compGo; rw [if_pos hs]; rfl
  | x :: xs, hs, h1, h2, h3 => by
    have ih := comp_pure (stay := stay) (g := g) (c := c) (e := e) (L := L) (S := S) Lx p f (xs := xs) hs (fun y hy => h1 y (List.mem_cons_of_mem _ hy)) (fun y hy => h2 y (List.mem_cons_of_mem _ hy)) (fun y hy => h3 y (List.mem_cons_of_mem _ hy))
    unfold compGo
    rw [if_pos hs, h1 x List.mem_cons_self]
    simp only [h2 x List.mem_cons_self, R.bind_ok]
    cases hp : p x with
    | true => simp only [if_true, h3 x List.mem_cons_self hp, R.bind_ok, ih, List.filter_cons, hp, List.map_cons]
    | false => simp only [Bool.false_eq_true, if_false, ih, List.filter_cons, hp]
mutual
def dtv : Val → Bool
  | .non => true
  | .bl _ => true
  | .int _ => true
  | .str _ => true
  | .tup xs => decide (xs.length ≤ 16777216) && dtvs xs
  | .lst xs => decide (xs.length ≤ 16777216) && dtvs xs
  | .frz xs => decide (xs.length ≤ 16777216) && dtvs xs
  | .dct kvs => dtvK kvs
  | _ => false
def dtvs : List Val → Bool
  | [] => true
  | x :: xs => dtv x && dtvs xs
def dtvK : List (L2.Key × Val) → Bool
  | [] => true
  | (_, x) :: xs => dtv x && dtvK xs
end
theorem dtvs_iff : ∀ {xs : List Val}, dtvs xs = true ↔ ∀ v ∈ xs, dtv v = true
  | [] => by simp [dtvs]
  | x :: xs => by simp [dtvs, dtvs_iff (xs := xs)]
def isTup : Val → Bool | .tup _ => true | _ => false
def isInt : Val → Bool | .int _ => true | .bl _ => true | _ => false
def isBool : Val → Bool | .bl _ => true | _ => false
def isStr : Val → Bool | .str _ => true | _ => false
theorem isi_tup {v : Val} {S : Store} {Cs : List Addr} (h : dtv v = true) : bIsi Cs [v, .ty "tuple"] S = .ok (.bl (isTup v)) S := by
  cases v <;> first | rfl | cases h
theorem isi_int {v : Val} {S : Store} {Cs : List Addr} (h : dtv v = true) : bIsi Cs [v, .ty "int"] S = .ok (.bl (isInt v)) S := by
  cases v <;> first | rfl | cases h
theorem isi_bool {v : Val} {S : Store} {Cs : List Addr} (h : dtv v = true) : bIsi Cs [v, .ty "bool"] S = .ok (.bl (isBool v)) S := by
  cases v <;> first | rfl | cases h
theorem wR_comp_pure {stay : Store → Bool} {g : G} {c : T} {e : E} {L : Loc} {S : Store} {xs : List Val} {Q : List Val → Store → Prop} {X : Exc → Store → Prop} (Lx : Val → Loc) (p : Val → Bool) (f : Val → Val) (hs : stay S = true) (hg : ∀ x ∈ xs, g x L S = .nx (Lx x) S) (hc : ∀ x ∈ xs, c (Lx x) S = .ok (p x) S) (he : ∀ x ∈ xs, p x = true → e (Lx x) S = .ok (f x) S)
    (h : Q ((xs.filter p).map f) S) : wR Q X (calm (compGo stay g c e L xs S)) := by
  rw [comp_pure Lx p f hs hg hc he]; exact h
theorem wR_comp_map {stay : Store → Bool} {g : G} {e : E} {L : Loc} {S : Store} {xs : List Val} {Q : List Val → Store → Prop} {X : Exc → Store → Prop} (Lx : Val → Loc) (f : Val → Val) (hs : stay S = true) (hg : ∀ x ∈ xs, g x L S = .nx (Lx x) S) (he : ∀ x ∈ xs, e (Lx x) S = .ok (f x) S)
    (h : Q (xs.map f) S) : wR Q X (calm (compGo stay g tYes e L xs S)) :=
  wR_comp_pure Lx (fun _ => true) f hs hg (fun _ _ => rfl) (fun x hx _ => he x hx) (by rw [List.filter_eq_self.mpr (fun _ _ => rfl)]; exact h)
theorem bools_map {α : Type} (f : α → Bool) : ∀ xs : List α, boolsOf (xs.map fun x => Val.bl (f x)) = some (xs.map f)
  | [] => rfl
  | x :: xs => by simp only [List.map_cons, boolsOf, bools_map f xs, Option.map_some]
theorem all_map {α : Type} {f : α → Bool} {xs : List α} {S : Store} : ofList allV [.lst (xs.map fun x => Val.bl (f x))] S = .ok (.bl (xs.all f)) S := by
  simp only [ofList, seqOf, allV, bools_map, Option.map_some]
  simp [List.all_map, Function.comp_def]
theorem cut_1 {xs : List Val} : cutL xs (some 1) none = xs.drop 1 := cut_from xs 1
def Lx2 (i j : Nat) (L : Loc) : Val → Loc
  | .tup [a, b] => (L.set i (some a)).set j (some b)
  | _ => L
theorem zip_mem {xs ys : List Val} {v : Val} (h : v ∈ zipV xs ys) : ∃ a b, v = .tup [a, b] ∧ (a, b) ∈ xs.zip ys := by
  obtain ⟨p, hp, rfl⟩ := List.mem_map.mp h
  exact ⟨p.1, p.2, rfl, hp⟩
theorem enum_mem {xs : List Val} {v : Val} (h : v ∈ enumV 0 xs) : ∃ (i : Nat) (b : Val), v = .tup [.int i, b] ∧ (b, i) ∈ xs.zipIdx := by
  obtain ⟨p, hp, rfl⟩ := List.mem_map.mp h
  exact ⟨p.2, p.1, by simp, hp⟩
theorem pick_nil {xs : List Val} : List.mapM (fun x => xs[x]?) ([] : List Nat) = some [] := by simp
theorem pick_cons {xs : List Val} {i : Nat} {ix : List Nat} : List.mapM (fun x => xs[x]?) (i :: ix) = (xs[i]?).bind fun y => (List.mapM (fun x => xs[x]?) ix).map (y :: ·) := by
  rw [List.mapM_cons]
  cases xs[i]? with
  | none => rfl
  | some y => 
    simp only [bind, Option.bind_some, pure]
    cases List.mapM (fun x => xs[x]?) ix <;> rfl
end Gx
end
section
namespace Gx
open PySem L2
def okS (s : Str) : Bool := s.cps.toList.all fun c => decide (c < 16 ^ 8)
def smKey (b : Nat) : L2.Key → Bool | .inl i => decide (i.natAbs < 2 ^ b) | .inr s => okS s
def szKey : L2.Key → Nat | .inl _ => 150 | .inr s => s.length
mutual
def sm (b : Nat) : Val → Bool
  | .int i => decide (i.natAbs < 2 ^ b)
  | .str s => okS s
  | .tup xs => sms b xs
  | .lst xs => sms b xs
  | .frz xs => sms b xs
  | .ptp xs => sms b xs
  | .dct kvs => smK b kvs
  | _ => true
def sms (b : Nat) : List Val → Bool
  | [] => true
  | x :: xs => sm b x && sms b xs
def smK (b : Nat) : List (L2.Key × Val) → Bool
  | [] => true
  | (k, x) :: xs => smKey b k && sm b x && smK b xs
end
mutual
def dep : Val → Nat
  | .tup xs => deps xs + 1
  | .lst xs => deps xs + 1
  | .frz xs => deps xs + 1
  | .ptp xs => deps xs + 1
  | .dct kvs => depK kvs + 1
  | _ => 0
def deps : List Val → Nat
  | [] => 0
  | x :: xs => max (dep x) (deps xs)
def depK : List (L2.Key × Val) → Nat
  | [] => 0
  | (_, x) :: xs => max (dep x) (depK xs)
end
mutual
def sz : Val → Nat
  | .int _ => 150
  | .str s => s.length
  | .tup xs => szs xs
  | .lst xs => szs xs
  | .frz xs => szs xs
  | .ptp xs => szs xs
  | .dct kvs => szK kvs
  | _ => 0
def szs : List Val → Nat
  | [] => 0
  | x :: xs => sz x + 1 + szs xs
def szK : List (L2.Key × Val) → Nat
  | [] => 0
  | (k, x) :: xs => szKey k + sz x + 2 + szK xs
end
mutual
def pd : Val → PyData
  | .bl b => .bool b
  | .int i => .int i
  | .str s => .str s
  | .tup xs => .tuple (pds xs)
  | .lst xs => .list (pds xs)
  | .frz xs => .list (pds xs)
  | .ptp xs => .tuple (pds xs)
  | .dct kvs => .dict (pdK kvs)
  | _ => .none
def pds : List Val → List PyData
  | [] => []
  | x :: xs => pd x :: pds xs
def pdK : List (L2.Key × Val) → List (PyData × PyData)
  | [] => []
  | (k, x) :: xs => (pdKey k, pd x) :: pdK xs
end
mutual
theorem pdV_eq (r : Nat → Option PyData) : ∀ v : Val, dtv v = true → pdV r v = some (pd v)
  | .non, _ => rfl
  | .bl _, _ => rfl
  | .int _, _ => rfl
  | .str _, _ => rfl
  | .tup xs, h => by simp only [pdV, pd, pdVs_eq r xs (by simp only [dtv, Bool.and_eq_true] at h; exact h.2), Option.map_some]
  | .lst xs, h => by simp only [pdV, pd, pdVs_eq r xs (by simp only [dtv, Bool.and_eq_true] at h; exact h.2), Option.map_some]
  | .frz xs, h => by simp only [pdV, pd, pdVs_eq r xs (by simp only [dtv, Bool.and_eq_true] at h; exact h.2), Option.map_some]
  | .dct kvs, h => by simp only [pdV, pd, pdVK_eq r kvs (by simpa [dtv] using h), Option.map_some]
theorem pdVs_eq (r : Nat → Option PyData) : ∀ v : List Val, dtvs v = true → pdVs r v = some (pds v)
  | [], _ => rfl
  | x :: xs, h => by
    simp only [dtvs, Bool.and_eq_true] at h
    simp only [pdVs, pds, pdV_eq r x h.1, pdVs_eq r xs h.2, Option.bind_some, Option.map_some]
theorem pdVK_eq (r : Nat → Option PyData) : ∀ v : List (L2.Key × Val), dtvK v = true → pdVK r v = some (pdK v)
  | [], _ => rfl
  | (k, x) :: xs, h => by
    simp only [dtvK, Bool.and_eq_true] at h
    simp only [pdVK, pdK, pdV_eq r x h.1, pdVK_eq r xs h.2, Option.bind_some, Option.map_some]
end
theorem log_lt {n b : Nat} (hb : 0 < b) (h : n < 2 ^ b) : n.log2 < b := by
  by_cases z : n = 0
  · subst z; simpa using hb
  · exact (Nat.log2_lt z).mpr h
structure PdOk (b : Nat) (d : PyData) (n m : Nat) : Prop where
  shw : d.showable = true
  dep : d.depth ≤ n
  lvs : d.leavesShort (b + 2) = true
  wgt : d.weight ≤ m
theorem pd_int {b : Nat} (hb : 0 < b) (hb2 : b ≤ 150) {i : Int} (h : i.natAbs < 2 ^ b) : PdOk b (.int i) 0 150 := by
  have hl := log_lt hb h
  refine ⟨by simp only [PyData.showable, decide_eq_true_eq]; omega, by simp [PyData.depth], ?_, ?_⟩
  · have := int_text_length_le hb hl
    show decide ((Str.ofString (toString i)).length ≤ b + 2) = true
    rw [decide_eq_true_eq, ofString_length]; omega
  · simp only [PyData.weight]
    split <;> omega
theorem pd_str {b : Nat} {s : Str} (h : okS s = true) : PdOk b (.str s) 0 s.length :=
  ⟨rfl, by simp [PyData.depth], by simpa [PyData.leavesShort, okS] using h, by simp [PyData.weight]; exact Nat.le_refl _⟩
theorem pd_key {b : Nat} (hb : 0 < b) (hb2 : b ≤ 150) {k : L2.Key} (h : smKey b k = true) : PdOk b (pdKey k) 0 (szKey k) := by
  cases k with
  | inl i => exact pd_int hb hb2 (by simpa [smKey] using h)
  | inr s => exact pd_str (by simpa [smKey] using h)
mutual
theorem pd_ok {b : Nat} (hb : 0 < b) (hb2 : b ≤ 150) : ∀ v : Val, sm b v = true → PdOk b (pd v) (dep v) (sz v)
  | .non, _ => ⟨rfl, by simp [pd, PyData.depth], rfl, by simp [pd, PyData.weight]⟩
  | .bl _, _ => ⟨rfl, by simp [pd, PyData.depth], rfl, by simp [pd, PyData.weight]⟩
  | .ty _, _ => ⟨rfl, by simp [pd, PyData.depth], rfl, by simp [pd, PyData.weight]⟩
  | .gl _, _ => ⟨rfl, by simp [pd, PyData.depth], rfl, by simp [pd, PyData.weight]⟩
  | .ref _, _ => ⟨rfl, by simp [pd, PyData.depth], rfl, by simp [pd, PyData.weight]⟩
  | .obj _ _, _ => ⟨rfl, by simp [pd, PyData.depth], rfl, by simp [pd, PyData.weight]⟩
  | .dtt _, _ => ⟨rfl, by simp [pd, PyData.depth], rfl, by simp [pd, PyData.weight]⟩
  | .int i, h => by simpa [pd, dep, sz] using pd_int hb hb2 (by simpa [sm] using h)
  | .str s, h => by simpa [pd, dep, sz] using pd_str (by simpa [sm] using h)
  | .tup xs, h => by
    obtain ⟨h1, h2, h3, h4⟩ := pds_ok hb hb2 xs (by simpa [sm] using h)
    exact ⟨by simpa [pd, PyData.showable] using h1, by simp only [pd, dep, PyData.depth]; omega, by simpa [pd, PyData.leavesShort] using h3, by simpa [pd, sz, PyData.weight] using h4⟩
  | .ptp xs, h => by
    obtain ⟨h1, h2, h3, h4⟩ := pds_ok hb hb2 xs (by simpa [sm] using h)
    exact ⟨by simpa [pd, PyData.showable] using h1, by simp only [pd, dep, PyData.depth]; omega, by simpa [pd, PyData.leavesShort] using h3, by simpa [pd, sz, PyData.weight] using h4⟩
  | .lst xs, h => by
    obtain ⟨h1, h2, h3, h4⟩ := pds_ok hb hb2 xs (by simpa [sm] using h)
    exact ⟨by simpa [pd, PyData.showable] using h1, by simp only [pd, dep, PyData.depth]; omega, by simpa [pd, PyData.leavesShort] using h3, by simpa [pd, sz, PyData.weight] using h4⟩
  | .frz xs, h => by
    obtain ⟨h1, h2, h3, h4⟩ := pds_ok hb hb2 xs (by simpa [sm] using h)
    exact ⟨by simpa [pd, PyData.showable] using h1, by simp only [pd, dep, PyData.depth]; omega, by simpa [pd, PyData.leavesShort] using h3, by simpa [pd, sz, PyData.weight] using h4⟩
  | .dct kvs, h => by
    obtain ⟨h1, h2, h3, h4⟩ := pdK_ok hb hb2 kvs (by simpa [sm] using h)
    exact ⟨by simpa [pd, PyData.showable] using h1, by simp only [pd, dep, PyData.depth]; omega, by simpa [pd, PyData.leavesShort] using h3, by simpa [pd, sz, PyData.weight] using h4⟩
theorem pds_ok {b : Nat} (hb : 0 < b) (hb2 : b ≤ 150) : ∀ v : List Val, sms b v = true → PyData.showableAll (pds v) = true ∧ PyData.depthAll (pds v) ≤ deps v ∧ PyData.leavesShortAll (b + 2) (pds v) = true ∧ PyData.weightAll (pds v) ≤ szs v
  | [], _ => ⟨rfl, by simp [pds, PyData.depthAll], rfl, by simp [pds, PyData.weightAll]⟩
  | x :: xs, h => by
    simp only [sms, Bool.and_eq_true] at h
    obtain ⟨h1, h2, h3, h4⟩ := pds_ok hb hb2 xs h.2
    obtain ⟨g1, g2, g3, g4⟩ := pd_ok hb hb2 x h.1
    exact ⟨by simp [pds, PyData.showableAll, g1, h1], by simp only [pds, PyData.depthAll, deps]; omega, by simp [pds, PyData.leavesShortAll, g3, h3], by simp only [pds, PyData.weightAll, szs]; omega⟩
theorem pdK_ok {b : Nat} (hb : 0 < b) (hb2 : b ≤ 150) : ∀ v : List (L2.Key × Val), smK b v = true → PyData.showableKv (pdK v) = true ∧ PyData.depthKv (pdK v) ≤ depK v ∧ PyData.leavesShortKv (b + 2) (pdK v) = true ∧ PyData.weightKv (pdK v) ≤ szK v
  | [], _ => ⟨rfl, by simp [pdK, PyData.depthKv], rfl, by simp [pdK, PyData.weightKv]⟩
  | (k, x) :: xs, h => by
    simp only [smK, Bool.and_eq_true] at h
    obtain ⟨h1, h2, h3, h4⟩ := pdK_ok hb hb2 xs h.2
    obtain ⟨g1, g2, g3, g4⟩ := pd_ok hb hb2 x h.1.2
    obtain ⟨k1, k2, k3, k4⟩ := pd_key hb hb2 h.1.1
    exact ⟨by simp [pdK, PyData.showableKv, g1, h1, k1], by simp only [pdK, PyData.depthKv, depK]; omega, by simp [pdK, PyData.leavesShortKv, g3, h3, k3], by simp only [pdK, PyData.weightKv, szK]; omega⟩
end
structure Dt (b n m : Nat) (v : Val) : Prop where
  dt : dtv v = true
  sm : sm b v = true
  dep : dep v ≤ n
  sz : sz v ≤ m
theorem repr_ok {b n m : Nat} {v : Val} (h : Dt b n m v) (hb : 6 ≤ b) (hb2 : b ≤ 150) (hn : n ≤ 90) (hm : (b + 4) * m + b + 2 ≤ 16777216) (S : Store) : bRepr [v] S = .ok (.str (pd v).shown) S := by
  obtain ⟨h1, h2, h3, h4⟩ := pd_ok (by omega) hb2 v h.sm
  have h5 := PyData.shown_le (b + 2) (by omega) (pd v) h3
  have h6 : (b + 2 + 2) * (pd v).weight ≤ (b + 4) * m := Nat.mul_le_mul (Nat.le_refl _) (Nat.le_trans h4 h.sz)
  have h7 := h.dep
  unfold bRepr
  simp only [pdV_eq _ v h.dt]
  rw [if_pos ⟨h1, by omega, by rw [sizeLine_eq]; omega⟩]
structure Dts (b n m : Nat) (vs : List Val) : Prop where
  dt : dtvs vs = true
  sm : sms b vs = true
  dep : deps vs ≤ n
  sz : szs vs ≤ m
theorem szs_len : ∀ {xs : List Val}, xs.length ≤ szs xs
  | [] => by simp [szs]
  | x :: xs => by have := szs_len (xs := xs); simp [szs]; omega
theorem Dts.nil {b n : Nat} : Dts b n 0 [] := ⟨rfl, rfl, by simp [deps], by simp [szs]⟩
theorem Dts.cons {b n m k : Nat} {x : Val} {xs : List Val} (h : Dt b n m x) (g : Dts b n k xs) : Dts b n (m + 1 + k) (x :: xs) :=
  ⟨by simp [dtvs, h.dt, g.dt], by simp [sms, h.sm, g.sm], by simp only [deps]; have := h.dep; have := g.dep; omega, by simp only [szs]; have := h.sz; have := g.sz; omega⟩
theorem Dts.le {b n m n' m' : Nat} {v : List Val} (h : Dts b n m v) (hn : n ≤ n') (hm : m ≤ m') : Dts b n' m' v := ⟨h.dt, h.sm, Nat.le_trans h.dep hn, Nat.le_trans h.sz hm⟩
theorem Dts.tup {b n m : Nat} {xs : List Val} (h : Dts b n m xs) (hm : m ≤ 16777216) : Dt b (n + 1) m (.tup xs) :=
  ⟨by simp only [dtv, h.dt, Bool.and_true, decide_eq_true_eq]; have := szs_len (xs := xs); have := h.sz; omega, by simpa [Gx.sm] using h.sm, by simp only [Gx.dep]; have := h.dep; omega, by simpa [Gx.sz] using h.sz⟩
theorem Dts.lst {b n m : Nat} {xs : List Val} (h : Dts b n m xs) (hm : m ≤ 16777216) : Dt b (n + 1) m (.lst xs) :=
  ⟨by simp only [dtv, h.dt, Bool.and_true, decide_eq_true_eq]; have := szs_len (xs := xs); have := h.sz; omega, by simpa [Gx.sm] using h.sm, by simp only [Gx.dep]; have := h.dep; omega, by simpa [Gx.sz] using h.sz⟩
theorem Dt.int {b n : Nat} {i : Int} (h : i.natAbs < 2 ^ b) : Dt b n 150 (.int i) := ⟨rfl, by simpa [Gx.sm] using h, by simp [Gx.dep], by simp [Gx.sz]⟩
theorem Dt.non {b n : Nat} : Dt b n 0 .non := ⟨rfl, rfl, by simp [Gx.dep], by simp [Gx.sz]⟩
end Gx
end
section
set_option maxHeartbeats 1000000
set_option maxRecDepth 100000
namespace Gx
open PySem L2
theorem dats_ints : ∀ ns : List Int, dats (ns.map .int) = some (ns.map .int)
  | [] => rfl
  | n :: ns => by simp only [List.map_cons, dats, dats_ints ns, dat]
theorem dep_ints : ∀ ns : List Int, PyData.depthAll (ns.map .int) ≤ 1
  | [] => by simp [PyData.depthAll]
  | n :: ns => by have := dep_ints ns; simp only [List.map_cons, PyData.depthAll, PyData.depth]; omega
theorem lay_ints : ∀ ns : List Int, PyData.canLayAll0 (ns.map .int) = true
  | [] => rfl
  | n :: ns => by simp [PyData.canLayAll0, PyData.canLay0, lay_ints ns]
theorem shaped_ints (ns : List Int) : SeqAt.shaped (.tuple (ns.map .int)) = true := by
  have h1 := dep_ints ns
  have h2 : (PyData.tuple (ns.map .int)).depth ≤ 64 := by simp only [PyData.depth]; omega
  have h3 : (PyData.tuple (ns.map .int)).canLay0 = true := by simp only [PyData.canLay0, lay_ints]
  unfold SeqAt.shaped
  rw [h3, decide_eq_true h2]; rfl
theorem eqv_ints : ∀ (a b : List Int), PyData.eqvAll (a.map .int) (b.map .int) = decide (a = b)
  | [], [] => by simp [PyData.eqvAll]
  | [], _ :: _ => by simp [PyData.eqvAll]
  | _ :: _, [] => by simp [PyData.eqvAll]
  | x :: xs, y :: ys => by
    simp only [List.map_cons, PyData.eqvAll, PyData.eqv, eqv_ints xs ys]
    by_cases h : x = y <;> by_cases g : xs = ys <;> simp [h, g]
theorem eq_ints {S : Store} {a b : List Int} : pyEq S (.tup (a.map .int)) (.tup (b.map .int)) = some (decide (a = b)) := by
  have gen : (match datS S (.tup (a.map .int)), datS S (.tup (b.map .int)) with
    | some d, some e => if SeqAt.shaped d && SeqAt.shaped e then some (PyData.eqv d e) else none
    | _, _ => none) = some (decide (a = b)) := by
    simp only [datS, dat, dats_ints, Option.map_some, shaped_ints, Bool.and_self, if_true, PyData.eqv, eqv_ints]
  cases b with
  | nil =>
    show some (a.map Val.int).isEmpty = _
    cases a <;> simp
  | cons y ys => exact gen
theorem ints_map : ∀ ns : List Int, intsOf (ns.map .int) = some ns
  | [] => rfl
  | n :: ns => by simp [intsOf, ints_map ns]
theorem sum_ints {S : Store} {ns : List Int} : bSum [.tup (ns.map .int)] S = .ok (.int ns.sum) S := by
  simp only [bSum, seqOf, sumV, ints_map, Option.map_some]
theorem dts_ints {ns : List Int} (h : ∀ n ∈ ns, n.natAbs < 2 ^ 64) : Dts 64 0 (151 * ns.length) (ns.map .int) := by
  induction ns with
  | nil => exact Dts.nil
  | cons n ns ih =>
    exact (Dts.cons (Dt.int (n := 0) (h n (by simp))) (ih fun m hm => h m (by simp [hm]))).le (Nat.le_refl _) (by simp; omega)
theorem at_ints {ns : List Int} {j : Nat} (h : j < ns.length) : L2.atI (ns.map Val.int) (j : Int) = some (.int (ns.getD j 0)) := by
  unfold L2.atI L2.ixN
  rw [if_pos (by omega), List.length_map, if_pos (by omega)]
  simp [h]
theorem idx_intsT {S : Store} {ns : List Int} {j : Nat} (h : j < ns.length) : oIdx (.tup (ns.map .int)) (.int j) S = .ok (.int (ns.getD j 0)) S := by
  simp only [oIdx, seqOf, at_ints h]
theorem idx_intsL {S : Store} {ns : List Int} {j : Nat} (h : j < ns.length) : oIdx (.lst (ns.map .int)) (.int j) S = .ok (.int (ns.getD j 0)) S := by
  simp only [oIdx, seqOf, at_ints h]
section
variable {L : Loc} {S : Store} {N : Loc → Store → Prop} {T : Val → Store → Prop} {X : Exc → Store → Prop} {Q : Val → Store → Prop}
theorem eq_of_w {α : Type} {r : R α} {a : α} {S1 : Store} (h : wR (fun v S' => Hold (v = a ∧ S' = S1) ⟨⟩) (fun _ _ => False) r) : r = .ok a S1 := by
  obtain ⟨v, S', e, q⟩ := wR_ok_of h
  obtain ⟨rfl, rfl⟩ := held q
  exact e
theorem w_fldC {Cs : List Addr} {f : Str} {o e : E} : wS N T X (sFldC Cs f o e L S) = wR (fun v S1 => wR (fun q S2 => wS N T X (match q with
  | .ref n => match S2[n]? with
    | some (.ins C fs) => if C ∈ Cs ∧ fs.length < 1000 then .nx L (S2.set n (.ins C (putA f v fs))) else .bad
    | _ => .bad
  | _ => .bad)) X (o L S1)) X (e L S) := by
  unfold sFldC
  rw [wS_ofE]
  exact wR_q fun _ _ => wS_ofE _ _ _ _ _ _
theorem w_tupzip {d d2 : E} : wR Q X (eTupZip d d2 L S) = wR (fun v S1 => wR (fun u S2 => wR Q X (match itOf S2 v, itOf S2 u with
  | some src, some src2 => if src.items.length = src2.items.length then .ok (.tup (zipV src.items src2.items)) S2 else .bad
  | _, _ => .bad)) X (d2 L S1)) X (d L S) := by
  unfold eTupZip
  rw [wR_bind]; exact wR_q fun _ _ => wR_bind _ _ _ _
theorem w_meth {C : Addr} {m : Str} {f : F} {o : E} {a : A} : wR Q X (eMeth C m f o a L S) = wR (fun x S1 => wR Q X (match objOf S1 x with
  | some (D, fs) => if D = C ∧ fs.lookup m = none then (a L S1).bind fun xs S2 => f (x :: xs) S2 else .bad
  | none => .bad)) X (o L S) := wR_bind _ _ _ _
theorem gc_self {C : Addr} {k : Nat} {c : Cell} {fs : List (Str × Val)} (h : treeF fs = true) : gcR k (S ++ [c]) (.ok .non (S ++ [.ins C fs])) = .ok .non (S ++ [.ins C fs]) := by
  have hf : fits (S ++ [c]) (S ++ [.ins C fs]) = true := by
    unfold fits
    rw [List.all_eq_true]
    intro i hi
    have hi := List.mem_range.mp hi
    rw [List.length_append, List.length_singleton] at hi
    rcases Nat.lt_or_ge i S.length with q | q
    · rw [List.getElem?_append_left q, List.getElem?_append_left q, List.getElem?_eq_getElem q]; simp
    · obtain rfl : i = S.length := by omega
      simp [Cell.below, fz_treeF _ _ h]
  unfold gcR
  simp only [fzV, hf, if_true]
  rw [List.take_of_length_le (by simp)]
theorem gc_make {C : Addr} {k : Nat} {fs : List (Str × Val)} (h : treeF fs = true) : gcR (k + 1) S (.ok (.ref S.length) (S ++ [.ins C fs])) = .ok (.obj C fs) S := by
  refine gc_app ?_
  simp only [fzV, fzR]
  rw [if_neg (Nat.lt_irrefl _)]
  simp [fz_treeF _ _ h]
end
end Gx
end
section
set_option maxHeartbeats 1000000
set_option maxRecDepth 100000
namespace Gx
open PySem L2
section
variable {L : Loc} {S : Store} {N : Loc → Store → Prop} {T : Val → Store → Prop} {X : Exc → Store → Prop} {Q : Val → Store → Prop} {QA : List Val → Store → Prop} {QI : Src → Store → Prop}
theorem wR_fnE {np n k : Nat} {b : SS} {args : List Val} (hl : args.length = np) (h : wS (fun _ S1 => wR Q X (gcR k S (.ok .non S1))) (fun v S1 => wR Q X (gcR k S (.ok v S1))) (fun x S1 => wR Q X (gcE k S (.exn x S1))) (b (startL n args) S)) : wR Q X (fnE np n k b args S) := by
  unfold fnE
  rw [if_pos hl]
  cases e : b (startL n args) S with
  | nx L S1 => rw [e] at h; exact h
  | ret v S1 => rw [e] at h; exact h
  | exn x L S1 => rw [e] at h; exact h
  | bad => rw [e] at h; exact h.elim
theorem w_appD {a : A} {ds : List Val} : wR QA X (aApp a ds L S) = wR (fun xs S1 => QA (xs ++ ds) S1) X (a L S) := by
  unfold aApp
  rw [wR_bind]; exact wR_q fun xs S1 => rfl
theorem w_makeX {C : Addr} {f : F} {d : Nat} {a : A} : wR Q X (eMakeX C f d a L S) = wR (fun xs S1 => wR Q X (mkX C f d xs S1)) X (a L S) := wR_bind _ _ _ _
theorem w_rangeD {a : A} : wR QI X (iRangeD a L S) = wR (fun xs S1 => wR QI X (match xs with
  | [.int i, .int j, .int c] => if c = -1 ∧ -(2 ^ 62) ≤ i ∧ i < 2 ^ 62 ∧ -(2 ^ 62) ≤ j ∧ j < 2 ^ 62 then .ok ⟨[], rangeD i (i - j).toNat⟩ S1 else .bad
  | _ => .bad)) X (a L S) := wR_bind _ _ _ _
theorem w_rangeDi {i j : Int} : wR QI X (match ([.int i, .int j, .int (-1)] : List Val) with
  | [.int i, .int j, .int c] => if c = -1 ∧ -(2 ^ 62) ≤ i ∧ i < 2 ^ 62 ∧ -(2 ^ 62) ≤ j ∧ j < 2 ^ 62 then .ok ⟨[], rangeD i (i - j).toNat⟩ S else .bad
  | _ => .bad) = ((-4611686018427387904 ≤ i ∧ i < 4611686018427387904 ∧ -4611686018427387904 ≤ j ∧ j < 4611686018427387904) ∧ QI ⟨[], rangeD i (i - j).toNat⟩ S) := by
  by_cases h : -4611686018427387904 ≤ i ∧ i < 4611686018427387904 ∧ -4611686018427387904 ≤ j ∧ j < 4611686018427387904
  · have h' : ((-1 : Int) = -1 ∧ -(2 ^ 62) ≤ i ∧ i < 2 ^ 62 ∧ -(2 ^ 62) ≤ j ∧ j < 2 ^ 62) := ⟨rfl, h⟩
    simp only [if_pos h', wR_ok]; simp [h, wR]
  · have h' : ¬ ((-1 : Int) = -1 ∧ -(2 ^ 62) ≤ i ∧ i < 2 ^ 62 ∧ -(2 ^ 62) ≤ j ∧ j < 2 ^ 62) := fun z => h z.2
    simp only [if_neg h']; simp [h, wR]
theorem w_zipS {a b : E} : wR QI X (iZipS a b L S) = wR (fun v S1 => wR (fun u S2 => wR QI X (match itOf S2 v, itOf S2 u with
  | some src, some src2 => if src.items.length = src2.items.length then .ok ⟨src.stay ++ src2.stay, zipV src.items src2.items⟩ S2 else .bad
  | _, _ => .bad)) X (b L S1)) X (a L S) := by unfold iZipS; rw [wR_bind]; exact wR_q fun _ _ => wR_bind _ _ _ _
theorem w_own {C : Addr} {f : Str} {e : E} : wR QI X (iOwn C f e L S) = wR (fun v S1 => wR QI X (match objOf S1 v with
  | some (D, fs) => if D = C then match fs.lookup f with
    | some (.tup xs) => .ok ⟨[], xs⟩ S1
    | _ => .bad
    else .bad
  | none => .bad)) X (e L S) := wR_bind _ _ _ _
theorem w_frange2 {a b : E} : wR QA X (fRange2 a b L S) = wR (fun v S1 => wR (fun u S2 => wR QA X (match v, u with
  | .int i, .int j => if -(2 ^ 62) ≤ i ∧ i < 2 ^ 62 ∧ -(2 ^ 62) ≤ j ∧ j < 2 ^ 62 ∧ (j - i).toNat ≤ 2 ^ 24 then .ok (rangeV i (j - i).toNat) S2 else .bad
  | _, _ => .bad)) X (b L S1)) X (a L S) := by unfold fRange2; rw [wR_bind]; exact wR_q fun _ _ => wR_bind _ _ _ _
theorem w_frange1 {a : E} : wR QA X (fRange1 a L S) = wR (fun u S2 => wR QA X (match u with
  | .int j => if -(2 ^ 62) ≤ j ∧ j < 2 ^ 62 ∧ j.toNat ≤ 2 ^ 24 then .ok (rangeV 0 j.toNat) S2 else .bad
  | _ => .bad)) X (a L S) := wR_bind _ _ _ _
theorem w_tupF {f : A} : wR Q X (eTupF f L S) = wR (fun xs S1 => Q (.tup xs) S1) X (f L S) := by unfold eTupF; rw [wR_bind]; rfl
theorem w_lenSc {own : List Nat} {wi : I} {g : G} {tt : Gx.T} {ee : E} : wR Q X (eLenSc own wi g tt ee L S) = wR (fun src S1 => wR (fun xs S2 => wR Q X (match intsOf xs with
  | some ns => if ns.length < 1000 then .ok (.int (cnt ns.reverse)) S2 else .bad
  | none => .bad)) X (calm (compGo src.ok g tt ee (wipeL L own) src.items S1))) X (wi L S) := by
  unfold eLenSc
  rw [wR_bind]
  refine wR_q fun src S1 => ?_
  rw [wR_bind]
  all_goals (cases compGo src.ok g tt ee (wipeL L own) src.items S1 <;> rfl)
theorem o_mulT {xs : List Val} {k : Int} : wR Q X (oMulT (.tup xs) (.int k) S) = ((xs ≠ [] ∧ 2 ≤ k ∧ k ≤ 100000 ∧ xs.length * k.toNat ≤ 1000000) ∧ Q (.tup (List.replicate k.toNat xs).flatten) S) := by
  show wR Q X (if _ then _ else _) = _
  by_cases h : xs ≠ [] ∧ 2 ≤ k ∧ k ≤ 100000 ∧ xs.length * k.toNat ≤ 1000000
  · rw [if_pos h]; simp [h, wR]
  · rw [if_neg h]; simp [h, wR]
end
section
variable {S T : Store} {k : Nat} {C : Addr} {f : F} {xs : List Val} {fs : List (Str × Val)} {x : Exc}
theorem gcE_T (h : treeF x.fs = true) : gcE k S (.exn x (S ++ T)) = .exn x S := by
  unfold gcE
  simp only [fz_treeF _ _ h, fits_app, if_true, take_app]
theorem mkX_eq (hf : treeF fs = true) (h : f (.ref S.length :: xs) (S ++ [.ins C []]) = .ok .non (S ++ [.ins C fs])) : mkX C f (k + 1) xs S = .ok (.obj C fs) S := by
  unfold mkX
  rw [h]
  exact gc_make hf
theorem exn_of_w {α : Type} {r : R α} {x : Exc} {S : Store} (h : wR (fun _ _ => False) (fun y S' => Hold (y = x ∧ S' = S) ⟨⟩) r) : r = .exn x S := by
  cases r with
  | ok v S' => exact h.elim
  | exn y S' => obtain ⟨rfl, rfl⟩ := held h; rfl
  | bad => exact h.elim
theorem len_tup {xs : List Val} {S : Store} : bLen [.tup xs] S = .ok (.int (xs.length : Nat)) S := rfl
theorem len_lst {xs : List Val} {S : Store} : bLen [.lst xs] S = .ok (.int (xs.length : Nat)) S := rfl
theorem len_ptp {xs : List Val} {S : Store} : bLen [.ptp xs] S = .ok (.int (xs.length : Nat)) S := rfl
theorem len_frz {xs : List Val} {S : Store} : bLen [.frz xs] S = .ok (.int (xs.length : Nat)) S := rfl
theorem len_ref {n : Nat} {S : Store} : bLen [.ref n] S = (match S[n]? with | some (.lst xs) => .ok (.int (xs.length : Nat)) S | _ => .bad) := by
  simp only [bLen, seqOf]
  cases S[n]? with
  | none => rfl
  | some x => cases x <;> rfl
theorem len_str {z : Str} {S : Store} : bLen [.str z] S = if z.length ≤ sizeLine then .ok (.int (z.length : Nat)) S else .bad := rfl
theorem it_tup {xs : List Val} {S : Store} : itOf S (.tup xs) = some ⟨[], xs⟩ := rfl
theorem it_lst {xs : List Val} {S : Store} : itOf S (.lst xs) = some ⟨[], xs⟩ := rfl
theorem it_ptp {xs : List Val} {S : Store} : itOf S (.ptp xs) = some ⟨[], xs⟩ := rfl
theorem it_frz {xs : List Val} {S : Store} : itOf S (.frz xs) = some ⟨[], xs⟩ := rfl
theorem it_ref {n : Nat} {S : Store} : itOf S (.ref n) = (match S[n]? with | some (.lst xs) => some ⟨[(n, .lst xs)], xs⟩ | _ => none) := by
  simp only [itOf]
  all_goals (rcases S[n]? with _ | x)
  all_goals (first | rfl | (cases x <;> rfl))
theorem seq_tup {xs : List Val} {S : Store} : seqOf S (.tup xs) = some (false, xs) := rfl
theorem seq_lst {xs : List Val} {S : Store} : seqOf S (.lst xs) = some (true, xs) := rfl
theorem seq_ptp {xs : List Val} {S : Store} : seqOf S (.ptp xs) = some (false, xs) := rfl
theorem seq_frz {xs : List Val} {S : Store} : seqOf S (.frz xs) = some (true, xs) := rfl
theorem seq_ref {n : Nat} {S : Store} : seqOf S (.ref n) = (match S[n]? with | some (.lst xs) => some (true, xs) | _ => none) := by
  simp only [seqOf]
  all_goals (rcases S[n]? with _ | x)
  all_goals (first | rfl | (cases x <;> rfl))
theorem lst_lst {xs : List Val} {S : Store} : lstOf S (.lst xs) = some xs := rfl
theorem lst_ref {n : Nat} {S : Store} : lstOf S (.ref n) = (match S[n]? with | some (.lst xs) => some xs | _ => none) := by
  simp only [lstOf]
  all_goals (rcases S[n]? with _ | x)
  all_goals (first | rfl | (cases x <;> rfl))
end
end Gx
end
section
set_option maxHeartbeats 1000000
namespace Gx
open PySem L2
def intsT : Val → Option (List Int)
  | .tup xs => intsOf xs
  | _ => none
def rowsOf : List Val → Option (List (List Int))
  | [] => some []
  | x :: xs => match intsT x, rowsOf xs with | some r, some rs => some (r :: rs) | _, _ => none
section
variable {L : Loc} {S : Store} {X : Exc → Store → Prop} {Q : Val → Store → Prop}
end
end Gx
end
section
set_option maxHeartbeats 2000000
set_option maxRecDepth 100000
namespace Gx
open PySem PySem.Spec PyProof.Rows L2
def leL (a b : List Int) : Bool := !decide (b < a)
def leI (a b : Int) : Bool := !decide (b < a)
def rowOk (r : List Int) : Bool := !r.isEmpty
def sortV (ys : List Val) : Option (List Val) := match intsOf ys with
  | some ns => some ((ns.mergeSort leI).map .int)
  | none => match rowsOf ys with
    | some rs => if rs.all rowOk then some ((rs.mergeSort leL).map fun r => .tup (r.map .int)) else none
    | none => none
def fSorted (e : E) : A := fun L S => (e L S).bind fun x S1 => match seqOf S1 x with
  | some (true, ys) => match sortV ys with | some zs => .ok zs S1 | none => .bad
  | _ => .bad
section
variable {X : Cx}
variable {W : XW} {e : Expr} {d : E} {p pos : Pos}
end
section
variable {L : Loc} {S : Store} {X : Exc → Store → Prop} {Q : List Val → Store → Prop}
theorem w_sorted {e : E} : wR Q X (fSorted e L S) = wR (fun x S1 => wR Q X (match seqOf S1 x with | some (true, ys) => (match sortV ys with | some zs => .ok zs S1 | none => .bad) | _ => .bad)) X (e L S) := wR_bind _ _ _ _
end
end Gx
end
section
set_option maxHeartbeats 4000000
set_option maxRecDepth 100000
namespace Gx
open PySem PySem.Spec PyProof.Rows L2
section
variable {P : Program} {w : World} {A : Around} {E : Value → Shared → Prop} {s : Shared}
end
def insU (k : Int) : List Int → List Int
  | [] => [k]
  | x :: xs => if k < x then k :: x :: xs else if k = x then x :: xs else x :: insU k xs
def uniq : List Int → List Int
  | [] => []
  | k :: ks => insU k (uniq ks)
def fSortSet (e : E) : A := fun L S => (e L S).bind fun x S1 => match seqOf S1 x with
  | some (true, ys) => match intsOf ys with
    | some ns => if ns.length < 64 then .ok ((uniq ns).map .int) S1 else .bad
    | none => .bad
  | _ => .bad
section
variable {X : Cx} {W : XW} {e : Expr} {d : E} {p p2 q pos : Pos}
end
section
variable {L : Loc} {S : Store} {X : Exc → Store → Prop} {Q : List Val → Store → Prop}
theorem w_sortSet {e : E} : wR Q X (fSortSet e L S) = wR (fun x S1 => wR Q X (match seqOf S1 x with | some (true, ys) => (match intsOf ys with | some ns => (if ns.length < 64 then .ok ((uniq ns).map .int) S1 else .bad) | none => .bad) | _ => .bad)) X (e L S) := wR_bind _ _ _ _
end
end Gx
end
section
set_option maxHeartbeats 4000000
set_option maxRecDepth 100000
namespace Gx
open PySem PySem.Spec PyProof.Rows L2
def eLenSet (e : E) : E := fun L S => (e L S).bind fun x S1 => match seqOf S1 x with
  | some (true, ys) => match intsOf ys with
    | some ns => if ns.length < 64 then .ok (.int ((uniq ns).length : Nat)) S1 else .bad
    | none => .bad
  | _ => .bad
section
variable {X : Cx} {W : XW} {e : Expr} {d : E} {p p2 q pos : Pos}
end
section
variable {L : Loc} {S : Store} {X : Exc → Store → Prop} {Q : Val → Store → Prop}
theorem w_lenSet {e : E} : wR Q X (eLenSet e L S) = wR (fun x S1 => wR Q X (match seqOf S1 x with | some (true, ys) => (match intsOf ys with | some ns => (if ns.length < 64 then .ok (.int ((uniq ns).length : Nat)) S1 else .bad) | none => .bad) | _ => .bad)) X (e L S) := wR_bind _ _ _ _
end
end Gx
end
section
set_option maxHeartbeats 2000000
set_option maxRecDepth 100000
namespace Gx
open PySem PySem.Spec PyProof.Rows L2
def dttOf (S : Store) : Val → Option (List (List Int × Val))
  | .dtt kvs => some kvs
  | .ref n => match S[n]? with | some (.dtt kvs) => some kvs | _ => none
  | _ => none
def eDictT0 : E := fun _ S => .ok (.ref S.length) (S ++ [.dtt []])
def setT (o k v : Val) (S : Store) : Option Store :=
  match o with
  | .ref n => match S[n]?, keyT k with
    | some (.dtt kvs), some q => if kvs.length < sizeLine then some (S.set n (.dtt (putT kvs q v))) else none
    | _, _ => none
  | _ => none
def gSubT (a i : E) : G := fun v L S => ofE L (a L S) fun o S1 => ofE L (i L S1) fun k S2 => match setT o k v S2 with | some S3 => .nx L S3 | none => .bad
def eGetT (d k : E) : E := fun L S => (d L S).bind fun x S1 => match dttOf S1 x with
  | some _ => (k L S1).bind fun y S2 => match dttOf S2 x, keyT y with
    | some kvs, some q => .ok ((getT kvs q).getD .non) S2
    | _, _ => .bad
  | none => .bad
def fKeysT (e : E) : A := fun L S => (e L S).bind fun x S1 => match dttOf S1 x with
  | some kvs => .ok (kvs.map fun p => .tup (p.1.map .int)) S1
  | none => .bad

section
variable {K : PySem.W.Frag} {ρ : Pl} {H : Hp} {k : List Int} {v : Val} {u : V} {b : Addr}
end
section
variable {X : Cx} {pins : List (Addr × Obj)} {σ : L2.St} {H : Hp} {s : Shared} {a b : Addr} {es : List Ent} {k : List Int} {v : V} {r : Value} {A : Around} {E : Value → Shared → Prop}
end
section
variable {X : Cx} {W : XW} {e o a b i : Expr} {d da db dk dd : E} {pos apos cpos : Pos}
end
end Gx
end
section
set_option maxHeartbeats 2000000
set_option maxRecDepth 100000
namespace Gx
open PySem PySem.Spec PyProof.Rows L2
def eGet2 (d k x : E) : E := fun L S => (d L S).bind fun v S1 => match dctOf S1 v with
  | some _ => (k L S1).bind fun y S2 => (x L S2).bind fun z S3 => match dctOf S3 v, keyOf y with
    | some kvs, some q => .ok ((getV kvs q).getD z) S3
    | _, _ => .bad
  | none => .bad
def keysI : List (Key × Val) → Option (List Int)
  | [] => some []
  | (.inl i, _) :: r => (keysI r).map (i :: ·)
  | _ :: _ => none
def itemsI : List (Key × Val) → Option (List (List Int))
  | [] => some []
  | (.inl i, .int j) :: r => (itemsI r).map ([i, j] :: ·)
  | _ :: _ => none
def fSortKeys (e : E) : A := fun L S => (e L S).bind fun x S1 => match dctOf S1 x with
  | some kvs => match keysI kvs with
    | some ns => .ok ((ns.mergeSort leI).map .int) S1
    | none => .bad
  | none => .bad
def dctC (S : Store) : Val → Option (List (Key × Val))
  | .ref n => match S[n]? with | some (.dct kvs) => some kvs | _ => none
  | _ => none
def fSortItems (e : E) : A := fun L S => (e L S).bind fun x S1 => match dctC S1 x with
  | some kvs => match itemsI kvs with
    | some rs => .ok ((rs.mergeSort leL).map fun r => .tup (r.map .int)) S1
    | none => .bad
  | none => .bad
section
variable {K : PySem.W.Frag} {ρ : Pl} {H : Hp}
end
section
variable {X : Cx} {W : XW} {e o a b i k f : Expr} {d da db dk dd df : E} {pos apos cpos p : Pos}
end
end Gx
end
section
set_option maxHeartbeats 2000000
set_option maxRecDepth 100000
namespace Gx
open PySem PySem.Spec PyProof.Rows L2
def keysV (kvs : List (List Int × Val)) : List Val := kvs.map fun p => .tup (p.1.map .int)
def iKeysT (e : E) : I := fun L S => (e L S).bind fun v S1 => match v with
  | .dtt kvs => .ok ⟨[], keysV kvs⟩ S1
  | .ref n => match S1[n]? with
    | some (.dtt kvs) => .ok ⟨[(n, .dtt kvs)], keysV kvs⟩ S1
    | _ => .bad
  | _ => .bad
end Gx
end
section
set_option maxHeartbeats 2000000
set_option maxRecDepth 100000
namespace Gx
open PySem PySem.Spec PyProof.Rows L2
theorem u0 {n m : Nat} (h : n + 128 < m) : n < m := by omega
def gFldC (Cs : List Addr) (f : Str) (o : E) : G := fun v L S => ofE L (o L S) fun q S2 => match q with
  | .ref n => match S2[n]? with
    | some (.ins C fs) => if C ∈ Cs ∧ fs.length < 1000 then .nx L (S2.set n (.ins C (putA f v fs))) else .bad
    | _ => .bad
  | _ => .bad
section
variable {X : Cx} {W : XW} {e o : Expr} {es : List Expr} {d dd : E} {pos apos : Pos} {g : G} {gs : Gs}
def lGs (K : PySem.W.Frag) (W : XW) (gs : Gs) : TGs := fun ws σ H Q => ∃ ρ S L vs, Sim K ρ H L S σ ∧ RVs K ρ H vs ws ∧ PostS K W ρ H (gs vs L S).plain { nx := Q, rt := fun _ _ => False }
structure DGs (X : Cx) (W : XW) (es : List Expr) (gs : Gs) : Prop where
  pgs : PGs X es (lGs X.K W gs)
theorem PGs.weak {t t' : TGs} (h : PGs X es t) (k : ∀ w σ H Q, t' w σ H Q → t w σ H Q) : PGs X es t' := ⟨fun pins s σ H vs us Q I r q => h.run pins s σ H vs us Q I r (k vs σ H Q q)⟩
theorem dgs_nil : DGs X W [] gNil := by
  refine ⟨PGs.weak pgs_nil fun ws σ H Q h => ?_⟩
  obtain ⟨ρ, S, L, vs, sim, rv, h⟩ := h
  cases vs with
  | nil => exact ⟨RVs.nil_iff.mp rv, h ρ H σ Ext.refl sim⟩
  | cons _ _ => exact h.elim
theorem dgs_cons (h1 : DG X W e g) (h2 : DGs X W es gs) (hs : (assignEach (e :: es) X.env).map (·.2) = assign e X.env :: (assignEach es X.env).map (·.2) := by rfl) : DGs X W (e :: es) (gCons g gs) := by
  refine ⟨PGs.weak (pgs_cons h1.pg h2.pgs hs) fun ws σ H Q h => ?_⟩
  obtain ⟨ρ, S, L, vs, sim, rv, h⟩ := h
  cases vs with
  | nil => exact h.elim
  | cons v vs =>
    obtain ⟨w, r, rfl, r1, r2⟩ := rv.inv
    refine ⟨w, r, rfl, ρ, S, L, v, sim, r1, ?_⟩
    have h : PostS X.K W ρ H ((g v L S).plain.next fun L1 S1 => gs vs L1 S1).plain { nx := Q, rt := fun _ _ => False } := h
    cases q : g v L S with
    | bad => rw [q] at h; exact h
    | ret _ _ => rw [q] at h; exact h
    | exn _ _ _ => rw [q] at h; exact h
    | nx L1 S1 =>
      rw [q] at h
      simp only [plain_nx, next_nx] at h ⊢
      intro ρ1 H1 σ1 e1 sim1
      refine ⟨ρ1, S1, L1, vs, sim1, r2.ext e1, ?_⟩
      exact PostS.base h e1
theorem dg_tup {k : Nat} {n : Nat} (hc : X.calm = true) (h : DGs X W es gs) (hn : (assignEach es X.env).length = n := by rfl) (hst : (assignEach es X.env).findIdx? (·.1) = none := by rfl) : DG X W (.Tuple es k pos) (gTup n gs) := by
  refine ⟨PG.weak (pg_seq hc h.pgs hn hst) fun w σ H Q q => ?_⟩
  obtain ⟨ρ, S, L, v, sim, r, q⟩ := q
  unfold gTup at q
  cases e : seqOf S v with
  | none => rw [e] at q; exact q.elim
  | some pp =>
    obtain ⟨kk, xs⟩ := pp
    rw [e] at q
    dsimp only at q
    obtain ⟨a, ws, rfl, h1, h2⟩ := seq_read sim.st r e
    split at q
    · rename_i hl
      have q2 : lGs X.K W gs ws σ H Q := ⟨ρ, S, L, xs, sim, h1, by
        cases z : gs xs L S with
        | nx _ _ => rw [z] at q; exact q
        | bad => rw [z] at q; exact q
        | ret _ _ => rw [z] at q; exact q
        | exn _ _ _ => rw [z] at q; exact q⟩
      cases kk with
      | true => exact .inr ⟨a, ws, rfl, by simpa using h2, by rw [h1.length]; exact hl, q2⟩
      | false => exact .inl ⟨a, ws, rfl, by simpa using h2, by rw [h1.length]; exact hl, q2⟩
    · exact q.elim
end
end Gx
end
section
set_option maxHeartbeats 1000000
set_option maxRecDepth 100000
namespace Gx
open PySem L2
section
variable {L : Loc} {S : Store} {N : Loc → Store → Prop} {T : Val → Store → Prop} {X : Exc → Store → Prop} {Q : Val → Store → Prop} {QA : List Val → Store → Prop} {QI : Src → Store → Prop}
theorem w_dictT0 : wR Q X (eDictT0 L S) = Q (.ref S.length) (S ++ [.dtt []]) := id rfl
theorem w_gsubT {a i : E} {v : Val} : wS N T X (gSubT a i v L S) = wR (fun o S1 => wR (fun k S2 => wS N T X (match setT o k v S2 with | some S3 => .nx L S3 | none => .bad)) X (i L S1)) X (a L S) := by
  unfold gSubT
  rw [wS_ofE]
  exact wR_q fun _ _ => wS_ofE _ _ _ _ _ _
theorem w_keysT {e : E} : wR QA X (fKeysT e L S) = wR (fun x S1 => wR QA X (match dttOf S1 x with | some kvs => .ok (keysV kvs) S1 | none => .bad)) X (e L S) := wR_bind _ _ _ _
theorem w_getT {a k : E} : wR Q X (eGetT a k L S) = wR (fun x S1 => wR Q X (match dttOf S1 x with
  | some _ => (k L S1).bind fun y S2 => match dttOf S2 x, keyT y with
    | some kvs, some q => .ok ((getT kvs q).getD .non) S2
    | _, _ => .bad
  | none => .bad)) X (a L S) := wR_bind _ _ _ _
theorem w_get2 {a k x : E} : wR Q X (eGet2 a k x L S) = wR (fun v S1 => wR Q X (match dctOf S1 v with
  | some _ => (k L S1).bind fun y S2 => (x L S2).bind fun z S3 => match dctOf S3 v, keyOf y with
    | some kvs, some q => .ok ((getV kvs q).getD z) S3
    | _, _ => .bad
  | none => .bad)) X (a L S) := wR_bind _ _ _ _
theorem w_sortK {e : E} : wR QA X (fSortKeys e L S) = wR (fun x S1 => wR QA X (match dctOf S1 x with
  | some kvs => match keysI kvs with
    | some ns => .ok ((ns.mergeSort leI).map .int) S1
    | none => .bad
  | none => .bad)) X (e L S) := wR_bind _ _ _ _
theorem w_sortI {e : E} : wR QA X (fSortItems e L S) = wR (fun x S1 => wR QA X (match dctC S1 x with
  | some kvs => match itemsI kvs with
    | some rs => .ok ((rs.mergeSort leL).map fun r => .tup (r.map .int)) S1
    | none => .bad
  | none => .bad)) X (e L S) := wR_bind _ _ _ _
theorem w_keysIt {e : E} : wR QI X (iKeysT e L S) = wR (fun v S1 => wR QI X (match v with
  | .dtt kvs => .ok ⟨[], keysV kvs⟩ S1
  | .ref n => match S1[n]? with
    | some (.dtt kvs) => .ok ⟨[(n, .dtt kvs)], keysV kvs⟩ S1
    | _ => .bad
  | _ => .bad)) X (e L S) := wR_bind _ _ _ _
theorem w_gfldC {Cs : List Addr} {f : Str} {o : E} {v : Val} : wS N T X (gFldC Cs f o v L S) = wR (fun q S2 => wS N T X (match q with
  | .ref n => match S2[n]? with
    | some (.ins C fs) => if C ∈ Cs ∧ fs.length < 1000 then .nx L (S2.set n (.ins C (putA f v fs))) else .bad
    | _ => .bad
  | _ => .bad)) X (o L S) := wS_ofE _ _ _ _ _ _
end
end Gx
end
section
set_option maxHeartbeats 2000000
set_option maxRecDepth 100000
namespace Gx
open PySem PySem.Spec PyProof.Rows L2
def bTupP : FV := fun xs S => match xs with
  | [x] => match seqOf S x with
    | some (true, ys) => .ok (.ptp ys) S
    | _ => .bad
  | _ => .bad
section
variable {X : Cx} {W : XW}
end
section
variable {X : Cx} {W : XW} {pins : List (Addr × Obj)} {σ : L2.St} {H : Hp} {s : Shared} {ρ : Pl}
end
section
variable {X : Cx} {W : XW}
end
section
variable {X : Cx} {W : XW} {e : Expr} {dk : E} {pos apos cpos : Pos}
end
end Gx
end
section
set_option maxHeartbeats 1000000
namespace Gx
open PySem PySem.Spec PyProof.Rows L2
theorem gd0 {p : Prop} : false = true → p := fun h => nomatch h
structure Cl where
  ShareError : Addr := 0
  BadRule : Addr := 0
  BadBook : Addr := 0
  BadText : Addr := 0
  NoMember : Addr := 0
  NothingToUndo : Addr := 0
  NothingToRedo : Addr := 0
  NoRule : Addr := 0
  InvalidCommand : Addr := 0
  Rule : Addr := 0
  Book : Addr := 0
  Going : Addr := 0
  Desk : Addr := 0
  Console : Addr := 0
  gain_beside : Addr := 0
  gain_above : Addr := 0
structure Kc where
  s0 : Nat := 0
  s1 : Nat := 0
  s2 : Nat := 0
  s3 : Nat := 0
  w0 : Nat := 0
  w1 : Nat := 0
  w2 : Nat := 0
  w3 : Nat := 0
  w4 : Nat := 0
  w5 : Nat := 0
  w6 : Nat := 0
  w7 : Nat := 0
section
variable {K : PySem.W.Frag} {x qual : Str} {st : Stmt} {f : Addr} {fd : FuncData} {ps ks : List Str} {ix : List Nat}
end
end Gx
end
section
namespace Gx
open PySem
theorem bb_all : bootBuiltins ("all" : Str) = some (.builtin "all") := by kernel_rfl
theorem bb_isinstance : bootBuiltins ("isinstance" : Str) = some (.builtin "isinstance") := by kernel_rfl
theorem bb_len : bootBuiltins ("len" : Str) = some (.builtin "len") := by kernel_rfl
theorem bb_sum : bootBuiltins ("sum" : Str) = some (.builtin "sum") := by kernel_rfl
theorem bb_repr : bootBuiltins ("repr" : Str) = some (.builtin "repr") := by kernel_rfl
theorem bb_bool : bootBuiltins ("bool" : Str) = some (.type "bool") := by kernel_rfl
theorem bb_int : bootBuiltins ("int" : Str) = some (.type "int") := by kernel_rfl
theorem bb_tuple : bootBuiltins ("tuple" : Str) = some (.type "tuple") := by kernel_rfl
end Gx
end
section
set_option maxRecDepth 100000
namespace Pg
open PySem L2 Gx
def b_p_is_integer (c : Cl) : SS :=
  sRet (eAnd (eCall (bIsi []) (aCons (eVar 0) (aCons (eC (.ty "int")) (aNil)))) (eNot (eCall (bIsi []) (aCons (eVar 0) (aCons (eC (.ty "bool")) (aNil))))))
def f_p_is_integer (c : Cl) : F := fnE 1 1 3 (b_p_is_integer c)
def b_p_is_integer_from (c : Cl) : SS :=
  sRet (eAnd (eCall (f_p_is_integer c) (aApp (aCons (eVar 1) (aNil)) [])) (eBin oGe (eVar 1) (eVar 0)))
def f_p_is_integer_from (c : Cl) : F := fnE 2 2 3 (b_p_is_integer_from c)
end Pg
end
section
set_option maxRecDepth 100000
namespace Pg
open PySem L2 Gx
def b_p_is_need (c : Cl) : SS :=
  sRet (eAnd (eCall (f_p_is_integer c) (aApp (aCons (eVar 1) (aNil)) [])) (eIf (tOf (eBin oEq (eVar 0) (eC (.int 0)))) (eBin oEq (eVar 1) (eC (.int 0))) (eBin oGe (eVar 1) (eC (.int 1)))))
def f_p_is_need (c : Cl) : F := fnE 2 2 3 (b_p_is_need c)
def b_p_is_share (c : Cl) : SS :=
  sRet (eAnd (eCall (f_p_is_integer c) (aApp (aCons (eVar 0) (aNil)) [])) (eChain oLe oLe (eC (.int 0)) (eVar 0) (eC (.int 1000))))
def f_p_is_share (c : Cl) : F := fnE 1 1 3 (b_p_is_share c)
def b_p_is_rank (c : Cl) : SS :=
  sSeq (sIf (tOr (tNot (tOf (eCall (bIsi []) (aCons (eVar 1) (aCons (eC (.ty "tuple")) (aNil)))))) (tOf (eBin oNe (eCall bLen (aCons (eVar 1) (aNil))) (eC (.int 4))))) (sRet (eC (.bl false))) (sNil)) (sSeq (sAsg (eVar 1) (gTup 4 (gCons (gName 2) (gCons (gName 3) (gCons (gName 4) (gCons (gName 5) (gNil))))))) (sSeq (sIf (tOr (tNot (tOf (eCall (f_p_is_integer_from c) (aApp (aCons (eC (.int 1)) (aCons (eVar 2) (aNil))) [])))) (tOr (tNot (tOf (eCall (f_p_is_need c) (aApp (aCons (eVar 0) (aCons (eVar 3) (aNil))) [])))) (tNot (tOf (eCall (f_p_is_integer_from c) (aApp (aCons (eC (.int 0)) (aCons (eVar 4) (aNil))) [])))))) (sRet (eC (.bl false))) (sNil)) (sRet (eAnd (eCall (bIsi []) (aCons (eVar 5) (aCons (eC (.ty "tuple")) (aNil)))) (eAnd (eBin oNe (eVar 5) (eTup (aNil))) (eCall (ofList allV) (aCons (eFr (fComp [6] (iVal (eVar 5)) (gName 6) (tYes) (eCall (f_p_is_share c) (aApp (aCons (eVar 6) (aNil)) [])))) (aNil))))))))
def f_p_is_rank (c : Cl) : F := fnE 2 7 3 (b_p_is_rank c)
def b_p_goes_above (c : Cl) : SS :=
  sSeq (sIf (tOr (tOf (eBin oLe (eBin oSub2 (eVar 1) (eC (.int 0))) (eBin oSub2 (eVar 0) (eC (.int 0))))) (tOf (eBin oLt (eBin oSub2 (eVar 1) (eC (.int 2))) (eBin oSub2 (eVar 0) (eC (.int 2)))))) (sRet (eC (.bl false))) (sNil)) (sRet (eCall (ofList allV) (aCons (eFr (fComp [2, 3] (iZip (eBin oSub2 (eVar 0) (eC (.int 3))) (eBin oSub2 (eVar 1) (eC (.int 3)))) (gTup 2 (gCons (gName 2) (gCons (gName 3) (gNil)))) (tYes) (eBin oLe (eVar 2) (eVar 3)))) (aNil))))
def f_p_goes_above (c : Cl) : F := fnE 2 4 3 (b_p_goes_above c)
def b_p_Rule___init__ (c : Cl) : SS :=
  sSeq (sIf (tOr (tNot (tOf (eCall (bIsi []) (aCons (eVar 1) (aCons (eC (.ty "tuple")) (aNil)))))) (tOf (eBin oEq (eVar 1) (eTup (aNil))))) (sRaise1 .BadRule "part" (eC (.str "ranks"))) (sNil)) (sSeq (sFor (iEnum (eVar 1)) (gTup 2 (gCons (gName 2) (gCons (gName 3) (gNil)))) (sIf (tNot (tOf (eCall (f_p_is_rank c) (aApp (aCons (eVar 2) (aCons (eVar 3) (aNil))) [])))) (sRaise1 .BadRule "part" (eVar 3)) (sNil))) (sSeq (sIf (tOf (eBin oGt (eLenSc [3] (iVal (eVar 1)) (gName 3) (tYes) (eCall bLen (aCons (eBin oSub2 (eVar 3) (eC (.int 3))) (aNil)))) (eC (.int 1)))) (sRaise1 .BadRule "part" (eC (.str "shares"))) (sNil)) (sSeq (sIf (tNot (tOf (eCall (ofList allV) (aCons (eFr (fComp [4, 5] (iZip (eVar 1) (eSlice (eVar 1) (some (eC (.int 1))) (none))) (gTup 2 (gCons (gName 4) (gCons (gName 5) (gNil)))) (tYes) (eCall (f_p_goes_above c) (aApp (aCons (eVar 4) (aCons (eVar 5) (aNil))) [])))) (aNil))))) (sRaise1 .BadRule "part" (eC (.str "order"))) (sNil)) (sSeq (sFldC [c.Rule] "ranks" (eVar 0) (eVar 1)) (sFldC [c.Rule] "levels" (eVar 0) (eBin oSub (eCall bLen (aCons (eBin oSub2 (eBin oSub2 (eVar 1) (eC (.int 0))) (eC (.int 3))) (aNil))) (eC (.int 1))))))))
def f_p_Rule___init__ (c : Cl) : F := fnE 2 6 3 (b_p_Rule___init__ c)
end Pg
end
section
set_option maxRecDepth 100000
namespace Pg
open PySem L2 Gx
def b_p_are_ups (c : Cl) : SS :=
  sSeq (sIf (tNot (tOf (eCall (bIsi []) (aCons (eVar 0) (aCons (eC (.ty "tuple")) (aNil)))))) (sRet (eC (.bl false))) (sNil)) (sRet (eCall (ofList allV) (aCons (eFr (fComp [1, 2] (iEnum (eVar 0)) (gTup 2 (gCons (gName 1) (gCons (gName 2) (gNil)))) (tYes) (eAnd (eCall (f_p_is_integer c) (aApp (aCons (eVar 2) (aNil)) [])) (eChain oLe oLt (eC (.int (-1))) (eVar 2) (eVar 1))))) (aNil))))
def f_p_are_ups (c : Cl) : F := fnE 1 3 3 (b_p_are_ups c)
def b_p_are_buys (c : Cl) : SS :=
  sRet (eAnd (eCall (bIsi []) (aCons (eVar 1) (aCons (eC (.ty "tuple")) (aNil)))) (eAnd (eBin oEq (eCall bLen (aCons (eVar 1) (aNil))) (eVar 0)) (eCall (ofList allV) (aCons (eFr (fComp [2] (iVal (eVar 1)) (gName 2) (tYes) (eCall (f_p_is_integer_from c) (aApp (aCons (eC (.int 1)) (aCons (eVar 2) (aNil))) [])))) (aNil)))))
def f_p_are_buys (c : Cl) : F := fnE 2 3 3 (b_p_are_buys c)
def b_p_Book___init__ (c : Cl) : SS :=
  sSeq (sIf (tNot (tOf (eCall (f_p_are_ups c) (aApp (aCons (eVar 1) (aNil)) [])))) (sRaise1 .BadBook "part" (eC (.str "ups"))) (sNil)) (sSeq (sIf (tNot (tOf (eCall (f_p_are_buys c) (aApp (aCons (eCall bLen (aCons (eVar 1) (aNil))) (aCons (eVar 2) (aNil))) [])))) (sRaise1 .BadBook "part" (eC (.str "buys"))) (sNil)) (sSeq (sFldC [c.Book] "ups" (eVar 0) (eVar 1)) (sSeq (sFldC [c.Book] "buys" (eVar 0) (eVar 2)) (sSeq (sFldC [c.Book] "pairs_kept" (eVar 0) (eTupZip (eVar 1) (eVar 2))) (sFldC [c.Book] "sales" (eVar 0) (eCall bSum (aCons (eVar 2) (aNil))))))))
def f_p_Book___init__ (c : Cl) : F := fnE 3 3 3 (b_p_Book___init__ c)
def b_p_Book___len__ (c : Cl) : SS :=
  sRet (eCall bLen (aCons (eFld [c.Book] "ups" (eVar 0)) (aNil)))
def f_p_Book___len__ (c : Cl) : F := fnE 1 1 3 (b_p_Book___len__ c)
def b_p_Book_with_member (c : Cl) : SS :=
  sRet (eMakeX c.Book (f_p_Book___init__ c) 3 (aApp (aCons (eTup (aStar (eFld [c.Book] "ups" (eVar 0)) (aCons (eVar 1) (aNil)))) (aCons (eTup (aStar (eFld [c.Book] "buys" (eVar 0)) (aCons (eVar 2) (aNil)))) (aNil))) []))
def f_p_Book_with_member (c : Cl) : F := fnE 3 3 3 (b_p_Book_with_member c)
def b_p_Book_with_buy (c : Cl) : SS :=
  sRet (eMakeX c.Book (f_p_Book___init__ c) 3 (aApp (aCons (eFld [c.Book] "ups" (eVar 0)) (aCons (eTup (aStar (eSlice (eFld [c.Book] "buys" (eVar 0)) (none) (some (eVar 1))) (aCons (eVar 2) (aStar (eSlice (eFld [c.Book] "buys" (eVar 0)) (some (eBin oAdd (eVar 1) (eC (.int 1)))) (none)) (aNil))))) (aNil))) []))
def f_p_Book_with_buy (c : Cl) : F := fnE 3 3 3 (b_p_Book_with_buy c)
def b_p_Book_without (c : Cl) : SS :=
  sSeq (sAsg (eMk (fLst (aNil))) (gName 2)) (sSeq (sFor (iEnum (eFld [c.Book] "ups" (eVar 0))) (gTup 2 (gCons (gName 3) (gCons (gName 4) (gNil)))) (sIf (tOf (eBin oNe (eVar 3) (eVar 1))) (sSeq (sAsg (eIf (tOf (eBin oEq (eVar 4) (eVar 1))) (eBin oSub2 (eFld [c.Book] "ups" (eVar 0)) (eVar 1)) (eVar 4)) (gName 5)) (sDrop (eBmL mAppend (eVar 2) (aCons (eBin oSub (eVar 5) (eCall bInt (aCons (eBin oGt (eVar 5) (eVar 1)) (aNil)))) (aNil))))) (sNil))) (sRet (eMakeX c.Book (f_p_Book___init__ c) 3 (aApp (aCons (eCall bTup (aCons (eVar 2) (aNil))) (aCons (eTup (aStar (eSlice (eFld [c.Book] "buys" (eVar 0)) (none) (some (eVar 1))) (aStar (eSlice (eFld [c.Book] "buys" (eVar 0)) (some (eBin oAdd (eVar 1) (eC (.int 1)))) (none)) (aNil)))) (aNil))) []))))
def f_p_Book_without (c : Cl) : F := fnE 2 6 3 (b_p_Book_without c)
end Pg
end
section
set_option maxRecDepth 100000
namespace Pg
open PySem L2 Gx
def b_p_Desk___init__ (c : Cl) : SS :=
  sSeq (sFldC [c.Desk] "rule" (eVar 0) (eVar 1)) (sSeq (sFldC [c.Desk] "book" (eVar 0) (eMakeX c.Book (f_p_Book___init__ c) 3 (aApp aNil [.tup [], .tup []]))) (sSeq (sFldC [c.Desk] "books_ahead" (eVar 0) (eMk (fLst (aNil)))) (sFldC [c.Desk] "books_later" (eVar 0) (eMk (fLst (aNil))))))
def f_p_Desk___init__ (c : Cl) : F := fnE 2 2 3 (b_p_Desk___init__ c)
def b_p_Desk___len__ (c : Cl) : SS :=
  sRet (eCall bLen (aCons (eFld [c.Desk] "books_ahead" (eVar 0)) (aNil)))
def f_p_Desk___len__ (c : Cl) : F := fnE 1 1 3 (b_p_Desk___len__ c)
def b_p_Desk_check_member (c : Cl) : SS :=
  sIf (tOr (tNot (tOf (eCall (f_p_is_integer c) (aApp (aCons (eVar 1) (aNil)) [])))) (tNot (tOf (eChain oLe oLt (eC (.int 0)) (eVar 1) (eCall (bLenX c.Book (f_p_Book___len__ c)) (aCons (eFld [c.Desk] "book" (eVar 0)) (aNil))))))) (sRaise1 .NoMember "number" (eVar 1)) (sNil)
def f_p_Desk_check_member (c : Cl) : F := fnE 2 2 3 (b_p_Desk_check_member c)
def b_p_Desk_change (c : Cl) : SS :=
  sSeq (sDrop (eBmL mAppend (eFld [c.Desk] "books_ahead" (eVar 0)) (aCons (eFld [c.Desk] "book" (eVar 0)) (aNil)))) (sSeq (sFldC [c.Desk] "books_later" (eVar 0) (eMk (fLst (aNil)))) (sFldC [c.Desk] "book" (eVar 0) (eVar 1)))
def f_p_Desk_change (c : Cl) : F := fnE 2 2 3 (b_p_Desk_change c)
def b_p_Desk_join (c : Cl) : SS :=
  sSeq (sIf (tOr (tNot (tOf (eCall (f_p_is_integer c) (aApp (aCons (eVar 1) (aNil)) [])))) (tOf (eBin oNe (eVar 1) (eC (.int (-1)))))) (sDrop (eMeth c.Desk "check_member" (f_p_Desk_check_member c) (eVar 0) (aCons (eVar 1) (aNil)))) (sNil)) (sSeq (sIf (tNot (tOf (eCall (f_p_is_integer_from c) (aApp (aCons (eBin oSub2 (eBin oSub2 (eFld [c.Rule] "ranks" (eFld [c.Desk] "rule" (eVar 0))) (eC (.int 0))) (eC (.int 0))) (aCons (eVar 2) (aNil))) [])))) (sRaise1 .BadBook "part" (eC (.str "buys"))) (sNil)) (sSeq (sDrop (eMeth c.Desk "change" (f_p_Desk_change c) (eVar 0) (aCons (eMeth c.Book "with_member" (f_p_Book_with_member c) (eFld [c.Desk] "book" (eVar 0)) (aCons (eVar 1) (aCons (eVar 2) (aNil)))) (aNil)))) (sRet (eBin oSub (eCall (bLenX c.Book (f_p_Book___len__ c)) (aCons (eFld [c.Desk] "book" (eVar 0)) (aNil))) (eC (.int 1))))))
def f_p_Desk_join (c : Cl) : F := fnE 3 3 3 (b_p_Desk_join c)
def b_p_Desk_buy (c : Cl) : SS :=
  sSeq (sDrop (eMeth c.Desk "check_member" (f_p_Desk_check_member c) (eVar 0) (aCons (eVar 1) (aNil)))) (sSeq (sIf (tNot (tOf (eCall (f_p_is_integer_from c) (aApp (aCons (eC (.int 1)) (aCons (eVar 2) (aNil))) [])))) (sRaise1 .BadBook "part" (eC (.str "buys"))) (sNil)) (sDrop (eMeth c.Desk "change" (f_p_Desk_change c) (eVar 0) (aCons (eMeth c.Book "with_buy" (f_p_Book_with_buy c) (eFld [c.Desk] "book" (eVar 0)) (aCons (eVar 1) (aCons (eBin oAdd (eBin oSub2 (eFld [c.Book] "buys" (eFld [c.Desk] "book" (eVar 0))) (eVar 1)) (eVar 2)) (aNil)))) (aNil)))))
def f_p_Desk_buy (c : Cl) : F := fnE 3 3 3 (b_p_Desk_buy c)
def b_p_Desk_leave (c : Cl) : SS :=
  sSeq (sDrop (eMeth c.Desk "check_member" (f_p_Desk_check_member c) (eVar 0) (aCons (eVar 1) (aNil)))) (sDrop (eMeth c.Desk "change" (f_p_Desk_change c) (eVar 0) (aCons (eMeth c.Book "without" (f_p_Book_without c) (eFld [c.Desk] "book" (eVar 0)) (aCons (eVar 1) (aNil))) (aNil))))
def f_p_Desk_leave (c : Cl) : F := fnE 2 2 3 (b_p_Desk_leave c)
def b_p_Desk_undo (c : Cl) : SS :=
  sSeq (sIf (tOf (eBin oEq (eFld [c.Desk] "books_ahead" (eVar 0)) (eFr (fLst (aNil))))) (sRaise0 .NothingToUndo) (sNil)) (sSeq (sDrop (eBmL mAppend (eFld [c.Desk] "books_later" (eVar 0)) (aCons (eFld [c.Desk] "book" (eVar 0)) (aNil)))) (sFldC [c.Desk] "book" (eVar 0) (eBmL mPop (eFld [c.Desk] "books_ahead" (eVar 0)) aNil)))
def f_p_Desk_undo (c : Cl) : F := fnE 1 1 3 (b_p_Desk_undo c)
def b_p_Desk_redo (c : Cl) : SS :=
  sSeq (sIf (tOf (eBin oEq (eFld [c.Desk] "books_later" (eVar 0)) (eFr (fLst (aNil))))) (sRaise0 .NothingToRedo) (sNil)) (sSeq (sDrop (eBmL mAppend (eFld [c.Desk] "books_ahead" (eVar 0)) (aCons (eFld [c.Desk] "book" (eVar 0)) (aNil)))) (sFldC [c.Desk] "book" (eVar 0) (eBmL mPop (eFld [c.Desk] "books_later" (eVar 0)) aNil)))
def f_p_Desk_redo (c : Cl) : F := fnE 1 1 3 (b_p_Desk_redo c)
end Pg
end
section
set_option maxRecDepth 100000
namespace Pg
open PySem L2 Gx
def b_w_deck (c : Cl) (z : Kc) : SS :=
  sSeq (sAsg (eTup (aCons (eFr (fList (eFr (fSlice (eVar 0) (none) (some (eC (.int 63))))))) (aCons (eC (.int ((z.s0 % 100000000 : Nat) : Int))) (aNil)))) (gTup 2 (gCons (gName 1) (gCons (gName 2) (gNil))))) (sSeq (sFor (iVal (eVar 1)) (gName 3) (sAsg (eBin oMod (eCall bInt (aCons (eBin oAdd (eBin oAdd (eBin oMul (eVar 2) (eC (.int ((z.s2 % 100000 : Nat) : Int)))) (eBin oMod (eCall bInt (aCons (eVar 3) (aNil))) (eC (.int 2147483629)))) (eC (.int ((z.s1 % 1000 : Nat) : Int)))) (aNil))) (eC (.int 2147483587))) (gName 2))) (sRet (eDict true (pOf [(eC (.str "cells"), eMk (fRev (eVar 1))), (eC (.str "mixed"), eVar 2), (eC (.str "draws"), eC (.int 0))]))))
def f_w_deck (c : Cl) (z : Kc) : F := fnE 1 4 0 (b_w_deck c z)
def b_w_draw (c : Cl) (z : Kc) : SS :=
  sSeq (sAsg (eBin oAdd (eBin oSub2 (eVar 0) (eC (.str "draws"))) (eC (.int 1))) (gSub (eVar 0) (eC (.str "draws")))) (sSeq (sAsg (eTup (aCons (eBin oSub2 (eVar 0) (eC (.str "draws"))) (aCons (eBin oSub2 (eVar 0) (eC (.str "mixed"))) (aNil)))) (gTup 2 (gCons (gName 2) (gCons (gName 3) (gNil))))) (sSeq (sIf (tOf (eBin oNe (eBin oSub2 (eVar 0) (eC (.str "cells"))) (eFr (fLst (aNil))))) (sSeq (sAsg (eCall bInt (aCons (eBmL mPop (eBin oSub2 (eVar 0) (eC (.str "cells"))) aNil) (aNil))) (gName 4)) (sSeq (sIf (tOf (eBin oGe (eVar 4) (eBin oPow (eC (.int 10)) (eC (.int 18))))) (sSeq (sDrop (eBmL mAppend (eBin oSub2 (eVar 0) (eC (.str "cells"))) (aCons (eBin oFdiv (eVar 4) (eVar 1)) (aNil)))) (sRet (eBin oMod (eVar 4) (eVar 1)))) (sNil)) (sAsg (eBin oAdd (eVar 3) (eBin oMod (eVar 4) (eC (.int 2147483563)))) (gName 3)))) (sNil)) (sSeq (sAsg (eBin oMod (eBin oMul (eCall bInt (aCons (eBin oAdd (eBin oAdd (eVar 3) (eBin oMul (eBin oMul (eC (.int ((z.w2 % 100000 : Nat) : Int))) (eVar 2)) (eVar 2))) (eC (.int ((z.w1 % 100 : Nat) : Int)))) (aNil))) (eC (.int 40692))) (eC (.int 2147483647))) (gName 3)) (sSeq (sAsg (eBin oMod (eCall bInt (aCons (eBin oAdd (eBin oAdd (eBin oMul (eVar 3) (eVar 3)) (eBin oMul (eC (.int 69621)) (eVar 2))) (eC (.int ((z.w0 % 100 : Nat) : Int)))) (aNil))) (eC (.int 2147483579))) (gName 3)) (sRet (eBin oMod (eBin oFdiv (eBin oMod (eCall bInt (aCons (eBin oMul (eVar 3) (eC (.int 39373))) (aNil))) (eC (.int 2147483549))) (eC (.int 64))) (eVar 1)))))))
def f_w_draw (c : Cl) (z : Kc) : F := fnE 2 5 3 (b_w_draw c z)
def b_w_pick (c : Cl) (z : Kc) : SS :=
  sRet (eBin oSub2 (eVar 1) (eCall (f_w_draw c z) (aApp (aCons (eVar 0) (aCons (eCall bLen (aCons (eVar 1) (aNil))) (aNil))) [])))
def f_w_pick (c : Cl) (z : Kc) : F := fnE 2 2 3 (b_w_pick c z)
end Pg
end
section
set_option maxRecDepth 100000
namespace Pg
open PySem L2 Gx
def b_w_draw_3 (c : Cl) (z : Kc) : SS :=
  sSeq (sAsg (eBin oAdd (eBin oSub2 (eVar 0) (eC (.str "draws"))) (eC (.int 1))) (gSub (eVar 0) (eC (.str "draws")))) (sSeq (sAsg (eTup (aCons (eBin oSub2 (eVar 0) (eC (.str "draws"))) (aCons (eBin oSub2 (eVar 0) (eC (.str "mixed"))) (aNil)))) (gTup 2 (gCons (gName 2) (gCons (gName 3) (gNil))))) (sSeq (sIf (tOf (eBin oNe (eBin oSub2 (eVar 0) (eC (.str "cells"))) (eFr (fLst (aNil))))) (sSeq (sAsg (eBmL mPop (eBin oSub2 (eVar 0) (eC (.str "cells"))) aNil) (gName 3)) (sSeq (sIf (tOf (eBin oGe (eVar 3) (eBin oPow (eC (.int 10)) (eC (.int 18))))) (sSeq (sDrop (eBmL mAppend (eBin oSub2 (eVar 0) (eC (.str "cells"))) (aCons (eBin oFdiv (eVar 3) (eVar 1)) (aNil)))) (sRet (eBin oMod (eCall bInt (aCons (eVar 3) (aNil))) (eVar 1)))) (sNil)) (sAsg (eBin oAdd (eVar 3) (eBin oSub2 (eVar 0) (eC (.str "mixed")))) (gName 3)))) (sNil)) (sSeq (sAsg (eBin oMod (eBin oMul (eCall bInt (aCons (eBin oAdd (eBin oAdd (eBin oMod (eCall bInt (aCons (eVar 3) (aNil))) (eC (.int 2147483629))) (eBin oMul (eBin oMul (eC (.int 60271)) (eVar 2)) (eVar 2))) (eC (.int ((z.w1 % 1000 : Nat) : Int)))) (aNil))) (eC (.int 40692))) (eC (.int 2147483647))) (gName 4)) (sSeq (sAsg (eBin oMod (eCall bInt (aCons (eBin oAdd (eBin oAdd (eBin oMul (eVar 4) (eVar 4)) (eBin oMul (eC (.int 69621)) (eVar 2))) (eC (.int ((z.w0 % 1000 : Nat) : Int)))) (aNil))) (eC (.int 2147483587))) (gName 4)) (sRet (eBin oMod (eBin oFdiv (eBin oMod (eCall bInt (aCons (eBin oMul (eVar 4) (eC (.int 39373))) (aNil))) (eC (.int 2147483563))) (eC (.int 64))) (eVar 1)))))))
def f_w_draw_3 (c : Cl) (z : Kc) : F := fnE 2 5 3 (b_w_draw_3 c z)
def b_w_pick_3 (c : Cl) (z : Kc) : SS :=
  sRet (eBin oSub2 (eVar 1) (eCall (f_w_draw_3 c z) (aApp (aCons (eVar 0) (aCons (eCall bLen (aCons (eVar 1) (aNil))) (aNil))) [])))
def f_w_pick_3 (c : Cl) (z : Kc) : F := fnE 2 2 3 (b_w_pick_3 c z)
def b_w_lines (c : Cl) (z : Kc) : SS :=
  sSeq (sAsg (eTup (aCons (eBin oAdd (eC (.int 1)) (eCall (f_w_draw_3 c z) (aApp (aCons (eVar 0) (aCons (eC (.int 12)) (aNil))) []))) (aCons (eCall (f_w_draw_3 c z) (aApp (aCons (eVar 0) (aCons (eC (.int 4)) (aNil))) [])) (aNil)))) (gTup 2 (gCons (gName 1) (gCons (gName 2) (gNil))))) (sSeq (sAsg ((if false then eMk else eFr) (fComp [5] (iRange1 (eBin oAdd (eC (.int 1)) (eCall (f_w_draw_3 c z) (aApp (aCons (eVar 0) (aCons (eC (.int 4)) (aNil))) [])))) (gName 5) (tYes) (eCall (f_w_draw_3 c z) (aApp (aCons (eVar 0) (aCons (eC (.int 90)) (aNil))) [])))) (gName 3)) (sSeq (sAsg (eMk (fLst (aCons (eTup (aCons (eVar 1) (aCons (eC (.int 0)) (aCons (eVar 2) (aCons (eCall bTup (aCons (eVar 3) (aNil))) (aNil)))))) (aNil)))) (gName 4)) (sSeq (sFor (iRange1 (eCall (f_w_draw_3 c z) (aApp (aCons (eVar 0) (aCons (eC (.int 3)) (aNil))) []))) (gName 5) (sSeq (sAsg (eTup (aCons (eBin oAdd (eBin oAdd (eVar 1) (eC (.int 1))) (eCall (f_w_draw_3 c z) (aApp (aCons (eVar 0) (aCons (eC (.int 15)) (aNil))) []))) (aCons (eBin oAdd (eVar 2) (eCall (f_w_draw_3 c z) (aApp (aCons (eVar 0) (aCons (eC (.int 6)) (aNil))) []))) (aNil)))) (gTup 2 (gCons (gName 1) (gCons (gName 2) (gNil))))) (sSeq (sAsg ((if false then eMk else eFr) (fComp [6] (iVal (eVar 3)) (gName 6) (tYes) (eBin oAdd (eVar 6) (eCall (f_w_pick_3 c z) (aApp (aCons (eVar 0) (aCons (eFr (fLst (aCons (eC (.int 0)) (aCons (eC (.int 0)) (aCons (eC (.int 5)) (aCons (eC (.int 40)) (aNil))))))) (aNil))) []))))) (gName 3)) (sDrop (eBmL mAppend (eVar 4) (aCons (eTup (aCons (eVar 1) (aCons (eBin oAdd (eC (.int 1)) (eCall (f_w_draw_3 c z) (aApp (aCons (eVar 0) (aCons (eC (.int 3)) (aNil))) []))) (aCons (eVar 2) (aCons (eCall bTup (aCons (eVar 3) (aNil))) (aNil)))))) (aNil))))))) (sRet (eCall bTup (aCons (eVar 4) (aNil)))))))
def f_w_lines (c : Cl) (z : Kc) : F := fnE 1 7 3 (b_w_lines c z)
def b_w_without (c : Cl) : SS :=
  sSeq (sAsg (eTup (aCons (eMk (fLst (aNil))) (aCons (eMk (fLst (aNil))) (aNil)))) (gTup 2 (gCons (gName 2) (gCons (gName 3) (gNil))))) (sSeq (sFor (iEnum (eBin oSub2 (eVar 0) (eC (.str "heads")))) (gTup 2 (gCons (gName 4) (gCons (gName 5) (gNil)))) (sIf (tOf (eBin oNe (eVar 4) (eVar 1))) (sSeq (sAsg (eIf (tOf (eBin oEq (eVar 5) (eVar 1))) (eBin oSub2 (eBin oSub2 (eVar 0) (eC (.str "heads"))) (eVar 1)) (eVar 5)) (gName 6)) (sSeq (sDrop (eBmL mAppend (eVar 2) (aCons (eBin oSub (eVar 6) (eCall bInt (aCons (eBin oGt (eVar 6) (eVar 1)) (aNil)))) (aNil)))) (sDrop (eBmL mAppend (eVar 3) (aCons (eBin oSub2 (eBin oSub2 (eVar 0) (eC (.str "costs"))) (eVar 4)) (aNil)))))) (sNil))) (sRet (eDict false (pOf [(eC (.str "heads"), eVar 2), (eC (.str "costs"), eVar 3)]))))
def f_w_without (c : Cl) : F := fnE 2 7 3 (b_w_without c)
end Pg
end
section
set_option maxHeartbeats 4000000
set_option maxRecDepth 100000
namespace K39
open PySem PySem.Spec PyProof.Rows L2 Gx Pg
def top (i : Nat) : Stmt := PySem.Challenge.pw_chainshares_k39_changes_taken_back.main.body.getD i (.Pass ⟨0, 0, 0, 0⟩)
abbrev zz : Kc := { s0 := 10853391, s1 := 101, s2 := 48271, w0 := 101, w1 := 157 }
structure Tx (K : PySem.W.Frag) (mg : Str → Option Value) (c : Cl) : Prop where
  z_all : mg "all" = none
  z_bool : mg "bool" = none
  z_enumerate : mg "enumerate" = none
  z_int : mg "int" = none
  z_isinstance : mg "isinstance" = none
  z_len : mg "len" = none
  z_list : mg "list" = none
  z_range : mg "range" = none
  z_repr : mg "repr" = none
  z_sum : mg "sum" = none
  z_tuple : mg "tuple" = none
  z_zip : mg "zip" = none
  c_BONUS : ∃ t, mg "BONUS" = some (.int 2 t)
  c_BUYS : ∃ t, mg "BUYS" = some (.str "buys" t)
  c_LEAST : ∃ t, mg "LEAST" = some (.int 0 t)
  c_MOST_SHARE : ∃ t, mg "MOST_SHARE" = some (.int 1000 t)
  c_NOBODY_books : ∃ t, mg "NOBODY_books" = some (.int (-1) t)
  c_NOBODY_desk : ∃ t, mg "NOBODY_desk" = some (.int (-1) t)
  c_RANK_PARTS : ∃ t, mg "RANK_PARTS" = some (.int 4 t)
  c_SHARES : ∃ t, mg "SHARES" = some (.int 3 t)
  q_Book : ClF K c.Book
  f_Book_ups : PySem.W.findIn K (.ref c.Book) "ups" = some none
  f_Book_buys : PySem.W.findIn K (.ref c.Book) "buys" = some none
  f_Book_pairs_kept : PySem.W.findIn K (.ref c.Book) "pairs_kept" = some none
  f_Book_sales : PySem.W.findIn K (.ref c.Book) "sales" = some none
  q_Desk : ClF K c.Desk
  f_Desk_rule : PySem.W.findIn K (.ref c.Desk) "rule" = some none
  f_Desk_book : PySem.W.findIn K (.ref c.Desk) "book" = some none
  g_Book : mg "Book" = some (.ref c.Book)
  f_Desk_books_ahead : PySem.W.findIn K (.ref c.Desk) "books_ahead" = some none
  f_Desk_books_later : PySem.W.findIn K (.ref c.Desk) "books_later" = some none
  q_Rule : ClF K c.Rule
  f_Rule_ranks : PySem.W.findIn K (.ref c.Rule) "ranks" = some none
  f_Rule_levels : PySem.W.findIn K (.ref c.Rule) "levels" = some none
  x0_NothingToUndo : Ex0 K mg .NothingToUndo
  x0_NothingToRedo : Ex0 K mg .NothingToRedo
  xk : XKs K [.ShareError, .BadRule, .BadBook, .BadText, .NoMember, .NothingToUndo, .NothingToRedo] [.ShareError, .BadRule, .BadBook, .BadText, .NoMember, .NothingToUndo, .NothingToRedo]
  m_NothingToUndo : mg "NothingToUndo" = some (.ref (clsOf K "NothingToUndo"))
  m_ShareError : mg "ShareError" = some (.ref (clsOf K "ShareError"))
  m_NothingToRedo : mg "NothingToRedo" = some (.ref (clsOf K "NothingToRedo"))
  g_Desk : mg "Desk" = some (.ref c.Desk)
  g_Rule : mg "Rule" = some (.ref c.Rule)
def b_w_heard (c : Cl) : SS :=
  sSeq (sAsg (eC (.str "odd")) (gName 2)) (sSeq (sTry [.ShareError, .BadRule, .BadBook, .BadText, .NoMember, .NothingToUndo, .NothingToRedo] (sAsg (eCall bRepr (aCons (eIf (tOf (eBin oEq (eVar 1) (eC (.str "undo")))) (eMeth c.Desk "undo" (f_p_Desk_undo c) (eVar 0) aNil) (eMeth c.Desk "redo" (f_p_Desk_redo c) (eVar 0) aNil)) (aNil))) (gName 2)) [⟨.NothingToUndo, some 3, 2, .one (.cond .ShareError (.ks "no undo") (.ks "odd"))⟩, ⟨.NothingToRedo, some 3, 2, .one (.cond .ShareError (.ks "no redo") (.ks "odd"))⟩]) (sRet (eVar 2)))
def f_w_heard (c : Cl) : F := fnE 2 4 3 (b_w_heard c)
def b_w_change (c : Cl) : SS :=
  sSeq (sAsg (eTup (aCons (eCall (f_w_draw_3 c zz) (aApp (aCons (eVar 0) (aCons (eC (.int 4)) (aNil))) [])) (aCons (eCall bLen (aCons (eBin oSub2 (eVar 2) (eC (.str "heads"))) (aNil))) (aNil)))) (gTup 2 (gCons (gName 4) (gCons (gName 5) (gNil))))) (sSeq (sIf (tOr (tOf (eBin oEq (eVar 5) (eC (.int 0)))) (tOf (eBin oLt (eVar 4) (eC (.int 2))))) (sSeq (sAsg (eTup (aCons (eBin oSub (eCall (f_w_draw_3 c zz) (aApp (aCons (eVar 0) (aCons (eBin oAdd (eVar 5) (eC (.int 1))) (aNil))) [])) (eC (.int 1))) (aCons (eBin oAdd (eVar 3) (eCall (f_w_draw_3 c zz) (aApp (aCons (eVar 0) (aCons (eC (.int 30)) (aNil))) []))) (aNil)))) (gTup 2 (gCons (gName 6) (gCons (gName 7) (gNil))))) (sSeq (sDrop (eMeth c.Desk "join" (f_p_Desk_join c) (eVar 1) (aCons (eVar 6) (aCons (eVar 7) (aNil))))) (sRet (eDict false (pOf [(eC (.str "heads"), eFr (fCat (eBin oSub2 (eVar 2) (eC (.str "heads"))) (eFr (fLst (aCons (eVar 6) (aNil)))))), (eC (.str "costs"), eFr (fCat (eBin oSub2 (eVar 2) (eC (.str "costs"))) (eFr (fLst (aCons (eVar 7) (aNil))))))]))))) (sNil)) (sSeq (sAsg (eCall (f_w_draw_3 c zz) (aApp (aCons (eVar 0) (aCons (eVar 5) (aNil))) [])) (gName 8)) (sSeq (sIf (tOf (eBin oEq (eVar 4) (eC (.int 2)))) (sSeq (sDrop (eMeth c.Desk "buy" (f_p_Desk_buy c) (eVar 1) (aCons (eVar 8) (aCons (eC (.int 3)) (aNil))))) (sRet (eDict false (pOf [(eC (.str "heads"), eBin oSub2 (eVar 2) (eC (.str "heads"))), (eC (.str "costs"), eFr (fCat (eFr (fCat (eFr (fSlice (eBin oSub2 (eVar 2) (eC (.str "costs"))) (none) (some (eVar 8)))) (eFr (fLst (aCons (eBin oAdd (eBin oSub2 (eBin oSub2 (eVar 2) (eC (.str "costs"))) (eVar 8)) (eC (.int 3))) (aNil)))))) (eFr (fSlice (eBin oSub2 (eVar 2) (eC (.str "costs"))) (some (eBin oAdd (eVar 8) (eC (.int 1)))) (none)))))])))) (sNil)) (sSeq (sDrop (eMeth c.Desk "leave" (f_p_Desk_leave c) (eVar 1) (aCons (eVar 8) (aNil)))) (sRet (eCall (f_w_without c) (aApp (aCons (eVar 2) (aCons (eVar 8) (aNil))) [])))))))
def f_w_change (c : Cl) : F := fnE 4 9 3 (b_w_change c)
def b_w_deed_right (c : Cl) : SS :=
  sSeq (sAsg (eCall (f_w_draw_3 c zz) (aApp (aCons (eVar 0) (aCons (eC (.int 6)) (aNil))) [])) (gName 4)) (sSeq (sIf (tOf (eBin oLt (eVar 4) (eC (.int 2)))) (sSeq (sAsg (eIf (tOf (eBin oNe (eBin oSub2 (eVar 3) (eC (.str "ahead"))) (eFr (fLst (aNil))))) (eC (.str "None")) (eC (.str "no undo"))) (gName 5)) (sSeq (sIf (tOf (eBin oNe (eBin oSub2 (eVar 3) (eC (.str "ahead"))) (eFr (fLst (aNil))))) (sSeq (sDrop (eBmL mAppend (eBin oSub2 (eVar 3) (eC (.str "later"))) (aCons (eBin oSub2 (eVar 3) (eC (.str "now"))) (aNil)))) (sAsg (eBmL mPop (eBin oSub2 (eVar 3) (eC (.str "ahead"))) aNil) (gSub (eVar 3) (eC (.str "now"))))) (sNil)) (sRet (eBin oEq (eCall (f_w_heard c) (aApp (aCons (eVar 1) (aCons (eC (.str "undo")) (aNil))) [])) (eVar 5))))) (sNil)) (sSeq (sIf (tOf (eBin oEq (eVar 4) (eC (.int 2)))) (sSeq (sAsg (eIf (tOf (eBin oNe (eBin oSub2 (eVar 3) (eC (.str "later"))) (eFr (fLst (aNil))))) (eC (.str "None")) (eC (.str "no redo"))) (gName 5)) (sSeq (sIf (tOf (eBin oNe (eBin oSub2 (eVar 3) (eC (.str "later"))) (eFr (fLst (aNil))))) (sSeq (sDrop (eBmL mAppend (eBin oSub2 (eVar 3) (eC (.str "ahead"))) (aCons (eBin oSub2 (eVar 3) (eC (.str "now"))) (aNil)))) (sAsg (eBmL mPop (eBin oSub2 (eVar 3) (eC (.str "later"))) aNil) (gSub (eVar 3) (eC (.str "now"))))) (sNil)) (sRet (eBin oEq (eCall (f_w_heard c) (aApp (aCons (eVar 1) (aCons (eC (.str "redo")) (aNil))) [])) (eVar 5))))) (sNil)) (sSeq (sAsg (eCall (f_w_change c) (aApp (aCons (eVar 0) (aCons (eVar 1) (aCons (eBin oSub2 (eVar 3) (eC (.str "now"))) (aCons (eVar 2) (aNil))))) [])) (gName 6)) (sSeq (sDrop (eBmL mAppend (eBin oSub2 (eVar 3) (eC (.str "ahead"))) (aCons (eBin oSub2 (eVar 3) (eC (.str "now"))) (aNil)))) (sSeq (sAsg (eTup (aCons (eVar 6) (aCons (eMk (fLst (aNil))) (aNil)))) (gTup 2 (gCons (gSub (eVar 3) (eC (.str "now"))) (gCons (gSub (eVar 3) (eC (.str "later"))) (gNil))))) (sRet (eC (.bl true))))))))
def f_w_deed_right (c : Cl) : F := fnE 4 7 3 (b_w_deed_right c)
def b_w_is_as (c : Cl) : SS :=
  sRet (eBin oEq (eCall bRepr (aCons (eFr (fLst (aCons (eFld [c.Book] "ups" (eFld [c.Desk] "book" (eVar 0))) (aCons (eFld [c.Book] "buys" (eFld [c.Desk] "book" (eVar 0))) (aCons (eCall (bLenX c.Desk (f_p_Desk___len__ c)) (aCons (eVar 0) (aNil))) (aNil)))))) (aNil))) (eCall bRepr (aCons (eFr (fLst (aCons (eCall bTup (aCons (eBin oSub2 (eVar 1) (eC (.str "heads"))) (aNil))) (aCons (eCall bTup (aCons (eBin oSub2 (eVar 1) (eC (.str "costs"))) (aNil))) (aCons (eCall bLen (aCons (eVar 2) (aNil))) (aNil)))))) (aNil))))
def f_w_is_as (c : Cl) : F := fnE 3 3 3 (b_w_is_as c)
def b_w_right (c : Cl) : SS :=
  sSeq (sAsg (eCall (f_w_lines c zz) (aApp (aCons (eVar 0) (aNil)) [])) (gName 2)) (sSeq (sAsg (eTup (aCons (eMakeX c.Desk (f_p_Desk___init__ c) 0 (aApp (aCons (eMakeX c.Rule (f_p_Rule___init__ c) 3 (aApp (aCons (eVar 2) (aNil)) [])) (aNil)) [])) (aCons (eDict true (pOf [(eC (.str "ahead"), eMk (fLst (aNil))), (eC (.str "now"), eDict false (pOf [(eC (.str "heads"), eFr (fLst (aNil))), (eC (.str "costs"), eFr (fLst (aNil)))])), (eC (.str "later"), eMk (fLst (aNil)))])) (aNil)))) (gTup 2 (gCons (gName 3) (gCons (gName 4) (gNil))))) (sSeq (sFor (iRange1 (eVar 1)) (gName 5) (sIf (tOr (tNot (tOf (eCall (f_w_deed_right c) (aApp (aCons (eVar 0) (aCons (eVar 3) (aCons (eBin oSub2 (eBin oSub2 (eVar 2) (eC (.int 0))) (eC (.int 0))) (aCons (eVar 4) (aNil))))) [])))) (tNot (tOf (eCall (f_w_is_as c) (aApp (aCons (eVar 3) (aCons (eBin oSub2 (eVar 4) (eC (.str "now"))) (aCons (eBin oSub2 (eVar 4) (eC (.str "ahead"))) (aNil)))) []))))) (sRet (eC (.bl false))) (sNil))) (sSeq (sAsg (eFr (fCat (eFr (fCat (eBin oSub2 (eVar 4) (eC (.str "ahead"))) (eFr (fLst (aCons (eBin oSub2 (eVar 4) (eC (.str "now"))) (aNil)))))) (eFr (fRev (eBin oSub2 (eVar 4) (eC (.str "later"))))))) (gName 6)) (sSeq (sFor (iRange1 (eCall bLen (aCons (eBin oSub2 (eVar 4) (eC (.str "ahead"))) (aNil)))) (gName 7) (sIf (tOf (eBin oNe (eCall (f_w_heard c) (aApp (aCons (eVar 3) (aCons (eC (.str "undo")) (aNil))) [])) (eC (.str "None")))) (sRet (eC (.bl false))) (sNil))) (sSeq (sFor (iEnum (eVar 6)) (gTup 2 (gCons (gName 7) (gCons (gName 8) (gNil)))) (sSeq (sAsg (eIf (tOf (eBin oLt (eBin oAdd (eVar 7) (eC (.int 1))) (eCall bLen (aCons (eVar 6) (aNil))))) (eC (.str "None")) (eC (.str "no redo"))) (gName 9)) (sIf (tOr (tNot (tOf (eCall (f_w_is_as c) (aApp (aCons (eVar 3) (aCons (eVar 8) (aCons (eFr (fSlice (eVar 6) (none) (some (eVar 7)))) (aNil)))) [])))) (tOf (eBin oNe (eCall (f_w_heard c) (aApp (aCons (eVar 3) (aCons (eC (.str "redo")) (aNil))) [])) (eVar 9)))) (sRet (eC (.bl false))) (sNil)))) (sRet (eCall (f_w_is_as c) (aApp (aCons (eVar 3) (aCons (eBin oSub2 (eVar 6) (eUn oNeg (eC (.int 1)))) (aCons (eFr (fSlice (eVar 6) (none) (some (eUn oNeg (eC (.int 1)))))) (aNil)))) []))))))))
def f_w_right (c : Cl) : F := fnE 2 10 3 (b_w_right c)
def b_w_long_right (c : Cl) : SS :=
  sSeq (sAsg (eMakeX c.Desk (f_p_Desk___init__ c) 0 (aApp (aCons (eMakeX c.Rule (f_p_Rule___init__ c) 3 (aApp (aCons (eTup (aCons (eTup (aCons (eC (.int 1)) (aCons (eC (.int 0)) (aCons (eC (.int 0)) (aCons (eTup (aCons (eC (.int 50)) (aCons (eC (.int 10)) (aNil)))) (aNil)))))) (aNil))) (aNil)) [])) (aNil)) [])) (gName 0)) (sSeq (sFor (iRange1 (eC (.int 600))) (gName 1) (sIf (tOf (eBin oLt (eVar 1) (eC (.int 100)))) (sDrop (eMeth c.Desk "join" (f_p_Desk_join c) (eVar 0) (aCons (eBin oSub (eVar 1) (eC (.int 1))) (aCons (eC (.int 1)) (aNil))))) (sDrop (eMeth c.Desk "buy" (f_p_Desk_buy c) (eVar 0) (aCons (eBin oMod (eCall bInt (aCons (eBin oMul (eVar 1) (eC (.int 7))) (aNil))) (eC (.int 100))) (aCons (eC (.int 1)) (aNil))))))) (sSeq (sFor (iRange1 (eC (.int 600))) (gName 1) (sIf (tOr (tOf (eBin oNe (eFld [c.Book] "sales" (eFld [c.Desk] "book" (eVar 0))) (eBin oSub (eC (.int 600)) (eVar 1)))) (tOr (tOf (eBin oNe (eCall (bLenX c.Desk (f_p_Desk___len__ c)) (aCons (eVar 0) (aNil))) (eBin oSub (eC (.int 600)) (eVar 1)))) (tOf (eBin oNotN (eMeth c.Desk "undo" (f_p_Desk_undo c) (eVar 0) aNil) (eC .non))))) (sRet (eC (.bl false))) (sNil))) (sSeq (sIf (tOr (tOf (eBin oNe (eCall (f_w_heard c) (aApp (aCons (eVar 0) (aCons (eC (.str "undo")) (aNil))) [])) (eC (.str "no undo")))) (tOf (eBin oNe (eCall (bLenX c.Book (f_p_Book___len__ c)) (aCons (eFld [c.Desk] "book" (eVar 0)) (aNil))) (eC (.int 0))))) (sRet (eC (.bl false))) (sNil)) (sSeq (sFor (iRange1 (eC (.int 600))) (gName 1) (sIf (tOr (tOf (eBin oNotN (eMeth c.Desk "redo" (f_p_Desk_redo c) (eVar 0) aNil) (eC .non))) (tOr (tOf (eBin oNe (eFld [c.Book] "sales" (eFld [c.Desk] "book" (eVar 0))) (eBin oAdd (eVar 1) (eC (.int 1))))) (tOf (eBin oNe (eCall (bLenX c.Desk (f_p_Desk___len__ c)) (aCons (eVar 0) (aNil))) (eBin oAdd (eVar 1) (eC (.int 1))))))) (sRet (eC (.bl false))) (sNil))) (sRet (eAnd (eBin oEq (eCall (f_w_heard c) (aApp (aCons (eVar 0) (aCons (eC (.str "redo")) (aNil))) [])) (eC (.str "no redo"))) (eBin oEq (eCall (bLenX c.Book (f_p_Book___len__ c)) (aCons (eFld [c.Desk] "book" (eVar 0)) (aNil))) (eC (.int 100)))))))))
def f_w_long_right (c : Cl) : F := fnE 0 2 3 (b_w_long_right c)
def b_law (c : Cl) : SS :=
  sSeq (sAsg (eCall (f_w_deck c zz) (aApp (aCons (eVar 0) (aNil)) [])) (gName 1)) (sSeq (sFor (iRange1 (eC (.int 4))) (gName 2) (sIf (tNot (tOf (eCall (f_w_right c) (aApp (aCons (eVar 1) (aCons (eCall (f_w_pick_3 c zz) (aApp (aCons (eVar 1) (aCons (eFr (fLst (aCons (eC (.int 4)) (aCons (eC (.int 15)) (aCons (eC (.int 40)) (aNil)))))) (aNil))) [])) (aNil))) [])))) (sRet (eC (.bl false))) (sNil))) (sRet (eCall (f_w_long_right c) (aApp aNil []))))
def f_law (c : Cl) : F := fnE 1 3 3 (b_law c)
section
variable {P : Program} {w : World} {K : PySem.W.Frag} {mg : Str → Option Value} {base : Heap} {c : Cl} [Nn]
theorem sc_w_deck : FnScope ["_law_script", "_law_cells", "_law_mixed", "_law_cell"] ["_law_script"] (defScope (top 54)) := ⟨rfl, rfl, rfl, by decide +kernel, rfl, by decide +kernel, by decide +kernel⟩
theorem nd_w_deck : (["_law_script", "_law_cells", "_law_mixed", "_law_cell"] : List Str).Nodup := by decide +kernel
theorem ok_w_deck {f : Addr} {fd : FuncData} {dV : Value} (F : FunV K "_law_deck" "_law_deck" (top 54) dV f fd) (T : Tx K mg c) : FnX P w K mg base false 1 f fd ["_law_script"] (fnE 1 4 0 (b_w_deck c zz)) 1 := by
  refine fnX_ok (N := ["_law_script", "_law_cells", "_law_mixed", "_law_cell"]) (k := 0) F sc_w_deck fun cdv A outer s H E gd hr tk po => ?_
  have hu := u128 hr
  have lt := lets_of tk
  refine dss_cons ?_ ?_
  · exact ds_par (i := 1) (j := 2) rfl nd_w_deck rfl rfl (by decide) rfl rfl (da_cons (de_fr (df_list (gl_of (by kernel_rfl)) T.z_list (de_fr (df_slice (dv_l (i := 0) (by kernel_rfl) (by kernel_rfl)) (dp_none) (dp_some (de_int)))))) (da_cons (de_int) (da_nil))) rfl
  refine dss_cons ?_ ?_
  · refine ds_for (vs := [3]) po rfl (di_val (dv_l (i := 1) (by kernel_rfl) (by kernel_rfl))) (pg_l (i := 3) nd_w_deck (by kernel_rfl) (by kernel_rfl)) (good_name 3 (by decide)) ?_
    refine dss_one ?_
    exact ds_asg (de_bin od_mod (de_callTy cd_int (gl_of (by kernel_rfl)) T.z_int bb_int (da_cons (de_bin od_add (de_bin od_add (de_bin od_mul (dv_l (i := 2) (by kernel_rfl) (by kernel_rfl)) (de_int)) (de_bin od_mod (de_callTy cd_int (gl_of (by kernel_rfl)) T.z_int bb_int (da_cons (dv_l (i := 3) (by kernel_rfl) (by kernel_rfl)) (da_nil))) (de_int))) (de_int)) (da_nil))) (de_int)) (dg_l (i := 2) nd_w_deck (by kernel_rfl) (by kernel_rfl))
  refine dss_one ?_
  exact ds_ret (de_dict true (dps_cons (de_str) (de_mk (df_rev (dv_l (i := 1) (by kernel_rfl) (by kernel_rfl)))) (dps_cons (de_str) (dv_l (i := 2) (by kernel_rfl) (by kernel_rfl)) (dps_cons (de_str) (de_int) (dps_nil)))) rfl rfl (by simp) (by decide))
theorem sc_w_draw_3 : FnScope ["_law_deck_here", "_law_many", "_law_at", "_law_cell", "_law_figure"] ["_law_deck_here", "_law_many"] (defScope (top 55)) := ⟨rfl, rfl, rfl, by decide +kernel, rfl, by decide +kernel, by decide +kernel⟩
theorem nd_w_draw_3 : (["_law_deck_here", "_law_many", "_law_at", "_law_cell", "_law_figure"] : List Str).Nodup := by decide +kernel
theorem ok_w_draw_3 {f : Addr} {fd : FuncData} {dV : Value} (F : FunV K "_law_draw" "_law_draw" (top 55) dV f fd) (T : Tx K mg c) : FnX P w K mg base false 1 f fd ["_law_deck_here", "_law_many"] (fnE 2 5 3 (b_w_draw_3 c zz)) 2 := by
  refine fnX_ok (N := ["_law_deck_here", "_law_many", "_law_at", "_law_cell", "_law_figure"]) (k := 0) F sc_w_draw_3 fun cdv A outer s H E gd hr tk po => ?_
  have hu := u128 hr
  have lt := lets_of tk
  refine dss_cons ?_ ?_
  · exact ds_asg (de_bin od_add (de_sub (u1 hu) (dv_l (i := 0) (by kernel_rfl) (by kernel_rfl)) (de_str) (fun _ _ => by rfl)) (de_int)) (dg_sub (u1 hu) (dv_l (i := 0) (by kernel_rfl) (by kernel_rfl)) (de_str))
  refine dss_cons ?_ ?_
  · exact ds_par (i := 2) (j := 3) rfl nd_w_draw_3 rfl rfl (by decide) rfl rfl (da_cons (de_sub (u1 hu) (dv_l (i := 0) (by kernel_rfl) (by kernel_rfl)) (de_str) (fun _ _ => by rfl)) (da_cons (de_sub (u1 hu) (dv_l (i := 0) (by kernel_rfl) (by kernel_rfl)) (de_str) (fun _ _ => by rfl)) (da_nil))) rfl
  refine dss_cons ?_ ?_
  · refine ds_if (dt_cmp (od_ne (u64 hu)) (de_sub (u1 hu) (dv_l (i := 0) (by kernel_rfl) (by kernel_rfl)) (de_str) (fun _ _ => by rfl)) (de_fr (df_lst (da_nil))) rfl) ?_ ?_
    · refine dss_cons ?_ ?_
      · exact ds_asg (de_bmL0 PySem.F.plainAttrs_list PySem.F.slot_list_pop PySem.F.type_list_pop md_pop (de_sub (u1 hu) (dv_l (i := 0) (by kernel_rfl) (by kernel_rfl)) (de_str) (fun _ _ => by rfl))) (dg_l (i := 3) nd_w_draw_3 (by kernel_rfl) (by kernel_rfl))
      refine dss_cons ?_ ?_
      · refine ds_if (dt_cmp (od_ge) (dv_l (i := 3) (by kernel_rfl) (by kernel_rfl)) (de_bin od_pow (de_int) (de_int)) rfl) ?_ ?_
        · refine dss_cons ?_ ?_
          · exact ds_expr (de_bmL PySem.F.plainAttrs_list PySem.F.slot_list_append PySem.F.type_list_append md_append (de_sub (u1 hu) (dv_l (i := 0) (by kernel_rfl) (by kernel_rfl)) (de_str) (fun _ _ => by rfl)) (da_cons (de_bin od_fdiv (dv_l (i := 3) (by kernel_rfl) (by kernel_rfl)) (dv_l (i := 1) (by kernel_rfl) (by kernel_rfl))) (da_nil)))
          refine dss_one ?_
          exact ds_ret (de_bin od_mod (de_callTy cd_int (gl_of (by kernel_rfl)) T.z_int bb_int (da_cons (dv_l (i := 3) (by kernel_rfl) (by kernel_rfl)) (da_nil))) (dv_l (i := 1) (by kernel_rfl) (by kernel_rfl)))
        · exact dss_nil
      refine dss_one ?_
      exact ds_asg (de_bin od_add (dv_l (i := 3) (by kernel_rfl) (by kernel_rfl)) (de_sub (u1 hu) (dv_l (i := 0) (by kernel_rfl) (by kernel_rfl)) (de_str) (fun _ _ => by rfl))) (dg_l (i := 3) nd_w_draw_3 (by kernel_rfl) (by kernel_rfl))
    · exact dss_nil
  refine dss_cons ?_ ?_
  · exact ds_asg (de_bin od_mod (de_bin od_mul (de_callTy cd_int (gl_of (by kernel_rfl)) T.z_int bb_int (da_cons (de_bin od_add (de_bin od_add (de_bin od_mod (de_callTy cd_int (gl_of (by kernel_rfl)) T.z_int bb_int (da_cons (dv_l (i := 3) (by kernel_rfl) (by kernel_rfl)) (da_nil))) (de_int)) (de_bin od_mul (de_bin od_mul (de_int) (dv_l (i := 2) (by kernel_rfl) (by kernel_rfl))) (dv_l (i := 2) (by kernel_rfl) (by kernel_rfl)))) (de_int)) (da_nil))) (de_int)) (de_int)) (dg_l (i := 4) nd_w_draw_3 (by kernel_rfl) (by kernel_rfl))
  refine dss_cons ?_ ?_
  · exact ds_asg (de_bin od_mod (de_callTy cd_int (gl_of (by kernel_rfl)) T.z_int bb_int (da_cons (de_bin od_add (de_bin od_add (de_bin od_mul (dv_l (i := 4) (by kernel_rfl) (by kernel_rfl)) (dv_l (i := 4) (by kernel_rfl) (by kernel_rfl))) (de_bin od_mul (de_int) (dv_l (i := 2) (by kernel_rfl) (by kernel_rfl)))) (de_int)) (da_nil))) (de_int)) (dg_l (i := 4) nd_w_draw_3 (by kernel_rfl) (by kernel_rfl))
  refine dss_one ?_
  exact ds_ret (de_bin od_mod (de_bin od_fdiv (de_bin od_mod (de_callTy cd_int (gl_of (by kernel_rfl)) T.z_int bb_int (da_cons (de_bin od_mul (dv_l (i := 4) (by kernel_rfl) (by kernel_rfl)) (de_int)) (da_nil))) (de_int)) (de_int)) (dv_l (i := 1) (by kernel_rfl) (by kernel_rfl)))
theorem sc_w_pick_3 : FnScope ["_law_deck_here", "_law_some"] ["_law_deck_here", "_law_some"] (defScope (top 56)) := ⟨rfl, rfl, rfl, by decide +kernel, rfl, by decide +kernel, by decide +kernel⟩
theorem ok_w_pick_3 {f : Addr} {fd : FuncData} {dV : Value} (F : FunV K "_law_pick" "_law_pick" (top 56) dV f fd) (T : Tx K mg c) (d_w_draw_3 : FOkX P w K mg base false 1 "_law_draw" (f_w_draw_3 c zz) 2 []) : FnX P w K mg base false 2 f fd ["_law_deck_here", "_law_some"] (fnE 2 2 3 (b_w_pick_3 c zz)) 2 := by
  refine fnX_ok (N := ["_law_deck_here", "_law_some"]) (k := 1) F sc_w_pick_3 fun cdv A outer s H E gd hr tk po => ?_
  have hu := u128 hr
  have lt := lets_of tk
  refine dss_one ?_
  exact ds_ret (de_sub (u1 hu) (dv_l (i := 1) (by kernel_rfl) (by kernel_rfl)) (de_callX d_w_draw_3 gd0 lt (hr.mono (by decide)) (gl_of (by kernel_rfl)) (da_cons (dv_l (i := 0) (by kernel_rfl) (by kernel_rfl)) (da_cons (de_callB (cd_len) (gl_of (by kernel_rfl)) T.z_len bb_len (da_cons (dv_l (i := 1) (by kernel_rfl) (by kernel_rfl)) (da_nil))) (da_nil)))) (fun _ _ => by rfl))
theorem sc_w_lines : FnScope ["_law_deck_here", "_law_low", "_law_prize", "_law_lot", "_law_found", "_law_k", "_law_x"] ["_law_deck_here"] (defScope (top 57)) := ⟨rfl, rfl, rfl, by decide +kernel, rfl, by decide +kernel, by decide +kernel⟩
theorem nd_w_lines : (["_law_deck_here", "_law_low", "_law_prize", "_law_lot", "_law_found", "_law_k", "_law_x"] : List Str).Nodup := by decide +kernel
theorem ok_w_lines {f : Addr} {fd : FuncData} {dV : Value} (F : FunV K "_law_lines" "_law_lines" (top 57) dV f fd) (T : Tx K mg c) (d_w_draw_3 : FOkX P w K mg base false 1 "_law_draw" (f_w_draw_3 c zz) 2 []) (d_w_pick_3 : FOkX P w K mg base false 2 "_law_pick" (f_w_pick_3 c zz) 2 []) : FnX P w K mg base false 3 f fd ["_law_deck_here"] (fnE 1 7 3 (b_w_lines c zz)) 1 := by
  refine fnX_ok (N := ["_law_deck_here", "_law_low", "_law_prize", "_law_lot", "_law_found", "_law_k", "_law_x"]) (k := 2) F sc_w_lines fun cdv A outer s H E gd hr tk po => ?_
  have hu := u128 hr
  have lt := lets_of tk
  refine dss_cons ?_ ?_
  · exact ds_par (i := 1) (j := 2) rfl nd_w_lines rfl rfl (by decide) rfl rfl (da_cons (de_bin od_add (de_int) (de_callX d_w_draw_3 gd0 lt (hr.mono (by decide)) (gl_of (by kernel_rfl)) (da_cons (dv_c (i := 0) (by kernel_rfl) (by kernel_rfl)) (da_cons (de_int) (da_nil))))) (da_cons (de_callX d_w_draw_3 gd0 lt (hr.mono (by decide)) (gl_of (by kernel_rfl)) (da_cons (dv_c (i := 0) (by kernel_rfl) (by kernel_rfl)) (da_cons (de_int) (da_nil)))) (da_nil))) rfl
  refine dss_cons ?_ ?_
  · exact ds_setLc (own := [("_law_k", 5)]) (i := 3) rfl nd_w_lines rfl rfl rfl (di_range1 (gl_of (by kernel_rfl)) T.z_range (de_bin od_add (de_int) (de_callX d_w_draw_3 gd0 lt (hr.mono (by decide)) (gl_of (by kernel_rfl)) (da_cons (dv_c (i := 0) (by kernel_rfl) (by kernel_rfl)) (da_cons (de_int) (da_nil)))))) (blkOk_by (by kernel_rfl)) (fun s H C cl fp => pg_l (i := 5) nd_w_lines (by kernel_rfl) (by kernel_rfl)) (good_name 5 (by decide)) (fun s H C cl fp => dts_nil) (fun s H C cl fp => de_callX d_w_draw_3 gd0 lets0 (hr.mono (by decide)) (gl_of (by kernel_rfl)) (da_cons (dv_c (i := 0) (by kernel_rfl) (by kernel_rfl)) (da_cons (de_int) (da_nil)))) false
  refine dss_cons ?_ ?_
  · exact ds_asg (de_mk (df_lst (da_cons (de_tup (da_cons (dv_l (i := 1) (by kernel_rfl) (by kernel_rfl)) (da_cons (de_int) (da_cons (dv_l (i := 2) (by kernel_rfl) (by kernel_rfl)) (da_cons (de_callTy cd_tup (gl_of (by kernel_rfl)) T.z_tuple bb_tuple (da_cons (dv_l (i := 3) (by kernel_rfl) (by kernel_rfl)) (da_nil))) (da_nil)))))) (da_nil)))) (dg_l (i := 4) nd_w_lines (by kernel_rfl) (by kernel_rfl))
  refine dss_cons ?_ ?_
  · refine ds_for (vs := [5]) po rfl (di_range1 (gl_of (by kernel_rfl)) T.z_range (de_callX d_w_draw_3 gd0 lt (hr.mono (by decide)) (gl_of (by kernel_rfl)) (da_cons (dv_c (i := 0) (by kernel_rfl) (by kernel_rfl)) (da_cons (de_int) (da_nil))))) (pg_l (i := 5) nd_w_lines (by kernel_rfl) (by kernel_rfl)) (good_name 5 (by decide)) ?_
    refine dss_cons ?_ ?_
    · exact ds_par (i := 1) (j := 2) rfl nd_w_lines rfl rfl (by decide) rfl rfl (da_cons (de_bin od_add (de_bin od_add (dv_l (i := 1) (by kernel_rfl) (by kernel_rfl)) (de_int)) (de_callX d_w_draw_3 gd0 lt (hr.mono (by decide)) (gl_of (by kernel_rfl)) (da_cons (dv_c (i := 0) (by kernel_rfl) (by kernel_rfl)) (da_cons (de_int) (da_nil))))) (da_cons (de_bin od_add (dv_l (i := 2) (by kernel_rfl) (by kernel_rfl)) (de_callX d_w_draw_3 gd0 lt (hr.mono (by decide)) (gl_of (by kernel_rfl)) (da_cons (dv_c (i := 0) (by kernel_rfl) (by kernel_rfl)) (da_cons (de_int) (da_nil))))) (da_nil))) rfl
    refine dss_cons ?_ ?_
    · exact ds_setLc (own := [("_law_x", 6)]) (i := 3) rfl nd_w_lines rfl rfl rfl (di_val (dv_l (i := 3) (by kernel_rfl) (by kernel_rfl))) (blkOk_by (by kernel_rfl)) (fun s H C cl fp => pg_l (i := 6) nd_w_lines (by kernel_rfl) (by kernel_rfl)) (good_name 6 (by decide)) (fun s H C cl fp => dts_nil) (fun s H C cl fp => de_bin od_add (dv_l (i := 6) (by kernel_rfl) (by kernel_rfl)) (de_callX d_w_pick_3 gd0 lets0 (hr.mono (by decide)) (gl_of (by kernel_rfl)) (da_cons (dv_c (i := 0) (by kernel_rfl) (by kernel_rfl)) (da_cons (de_fr (df_lst (da_cons (de_int) (da_cons (de_int) (da_cons (de_int) (da_cons (de_int) (da_nil))))))) (da_nil))))) false
    refine dss_one ?_
    exact ds_expr (de_bmL PySem.F.plainAttrs_list PySem.F.slot_list_append PySem.F.type_list_append md_append (dv_l (i := 4) (by kernel_rfl) (by kernel_rfl)) (da_cons (de_tup (da_cons (dv_l (i := 1) (by kernel_rfl) (by kernel_rfl)) (da_cons (de_bin od_add (de_int) (de_callX d_w_draw_3 gd0 lt (hr.mono (by decide)) (gl_of (by kernel_rfl)) (da_cons (dv_c (i := 0) (by kernel_rfl) (by kernel_rfl)) (da_cons (de_int) (da_nil))))) (da_cons (dv_l (i := 2) (by kernel_rfl) (by kernel_rfl)) (da_cons (de_callTy cd_tup (gl_of (by kernel_rfl)) T.z_tuple bb_tuple (da_cons (dv_l (i := 3) (by kernel_rfl) (by kernel_rfl)) (da_nil))) (da_nil)))))) (da_nil)))
  refine dss_one ?_
  exact ds_ret (de_callTy cd_tup (gl_of (by kernel_rfl)) T.z_tuple bb_tuple (da_cons (dv_l (i := 4) (by kernel_rfl) (by kernel_rfl)) (da_nil)))
theorem sc_p_is_integer : FnScope ["thing"] ["thing"] (defScope (top 12)) := ⟨rfl, rfl, rfl, by decide +kernel, rfl, by decide +kernel, by decide +kernel⟩
theorem ok_p_is_integer {f : Addr} {fd : FuncData} {dV : Value} (F : FunV K "is_integer" "is_integer" (top 12) dV f fd) (T : Tx K mg c) : FnX P w K mg base false 1 f fd ["thing"] (fnE 1 1 3 (b_p_is_integer c)) 1 := by
  refine fnX_ok (N := ["thing"]) (k := 0) F sc_p_is_integer fun cdv A outer s H E gd hr tk po => ?_
  have hu := u128 hr
  have lt := lets_of tk
  refine dss_one ?_
  exact ds_ret (de_and (de_callB (cd_isi (isi0 _)) (gl_of (by kernel_rfl)) T.z_isinstance bb_isinstance (da_cons (dv_l (i := 0) (by kernel_rfl) (by kernel_rfl)) (da_cons (de_ty (gl_of (by kernel_rfl)) T.z_int bb_int) (da_nil)))) (de_one (de_not (de_callB (cd_isi (isi0 _)) (gl_of (by kernel_rfl)) T.z_isinstance bb_isinstance (da_cons (dv_l (i := 0) (by kernel_rfl) (by kernel_rfl)) (da_cons (de_ty (gl_of (by kernel_rfl)) T.z_bool bb_bool) (da_nil)))))))
theorem sc_p_are_ups : FnScope ["thing", "member", "up"] ["thing"] (defScope (top 41)) := ⟨rfl, rfl, rfl, by decide +kernel, rfl, by decide +kernel, by decide +kernel⟩
theorem nd_p_are_ups : (["thing", "member", "up"] : List Str).Nodup := by decide +kernel
theorem ok_p_are_ups {f : Addr} {fd : FuncData} {dV : Value} (F : FunV K "are_ups" "are_ups" (top 41) dV f fd) (T : Tx K mg c) (d_p_is_integer : FOkX P w K mg base false 1 "is_integer" (f_p_is_integer c) 1 []) : FnX P w K mg base false 2 f fd ["thing"] (fnE 1 3 3 (b_p_are_ups c)) 1 := by
  refine fnX_ok (N := ["thing", "member", "up"]) (k := 1) F sc_p_are_ups fun cdv A outer s H E gd hr tk po => ?_
  have hu := u128 hr
  have lt := lets_of tk
  refine dss_cons ?_ ?_
  · refine ds_if (dt_not (dt_val (de_callB (cd_isi (isi0 _)) (gl_of (by kernel_rfl)) T.z_isinstance bb_isinstance (da_cons (dv_l (i := 0) (by kernel_rfl) (by kernel_rfl)) (da_cons (de_ty (gl_of (by kernel_rfl)) T.z_tuple bb_tuple) (da_nil)))))) ?_ ?_
    · refine dss_one ?_
      exact ds_ret (de_bl)
    · exact dss_nil
  refine dss_one ?_
  exact ds_ret (de_callB (cd_all rfl) (gl_of (by kernel_rfl)) T.z_all bb_all (da_cons (de_fr (df_comp (own := [("member", 1), ("up", 2)]) rfl nd_p_are_ups (di_enum (gl_of (by kernel_rfl)) T.z_enumerate (dv_l (i := 0) (by kernel_rfl) (by kernel_rfl))) (blkOk_by (by kernel_rfl)) (fun s H C cl fp => pg_seq rfl (pgs_cons (pg_l (i := 1) nd_p_are_ups (by kernel_rfl) (by kernel_rfl)) (pgs_cons (pg_l (i := 2) nd_p_are_ups (by kernel_rfl) (by kernel_rfl)) (pgs_nil)))) (good_tup (good_cons (good_name 1 (by decide)) (good_cons (good_name 2 (by decide)) (good_nil)))) (fun s H C cl fp => dts_nil) (fun s H C cl fp => de_and (de_callX d_p_is_integer gd0 lets0 (hr.mono (by decide)) (gl_of (by kernel_rfl)) (da_cons (dv_l (i := 2) (by kernel_rfl) (by kernel_rfl)) (da_nil))) (de_one (de_chain (od_le) (od_lt) (T_gint (gl_of (by kernel_rfl)) T.c_NOBODY_books) (dv_l (i := 2) (by kernel_rfl) (by kernel_rfl)) (dv_l (i := 1) (by kernel_rfl) (by kernel_rfl))))))) (da_nil)))
theorem sc_p_BadBook___init__ : FnScope ["self", "part"] ["self", "part"] (defScope (clsAt (top 4) 0)) := ⟨rfl, rfl, rfl, by decide +kernel, rfl, by decide +kernel, by decide +kernel⟩
theorem ok_p_BadBook___init__ {f : Addr} {fd : FuncData} {dV : Value} (F : FunV K "__init__" "BadBook.__init__" (clsAt (top 4) 0) dV f fd) : FnOk P w K mg base CX0 1 f fd ["self", "part"] (spI1 K "part") :=
  init1_mk F sc_p_BadBook___init__ fun cdv A outer s H E => pss_one (ps_of1 (pe_var (x := "self") (i := 0) (by kernel_rfl) (.inl (by kernel_rfl))) (pe_var (x := "part") (i := 1) (by kernel_rfl) (.inl (by kernel_rfl))))
theorem sc_p_is_integer_from : FnScope ["least", "thing"] ["least", "thing"] (defScope (top 13)) := ⟨rfl, rfl, rfl, by decide +kernel, rfl, by decide +kernel, by decide +kernel⟩
theorem ok_p_is_integer_from {f : Addr} {fd : FuncData} {dV : Value} (F : FunV K "is_integer_from" "is_integer_from" (top 13) dV f fd) (T : Tx K mg c) (d_p_is_integer : FOkX P w K mg base false 1 "is_integer" (f_p_is_integer c) 1 []) : FnX P w K mg base false 2 f fd ["least", "thing"] (fnE 2 2 3 (b_p_is_integer_from c)) 2 := by
  refine fnX_ok (N := ["least", "thing"]) (k := 1) F sc_p_is_integer_from fun cdv A outer s H E gd hr tk po => ?_
  have hu := u128 hr
  have lt := lets_of tk
  refine dss_one ?_
  exact ds_ret (de_and (de_callX d_p_is_integer gd0 lt (hr.mono (by decide)) (gl_of (by kernel_rfl)) (da_cons (dv_l (i := 1) (by kernel_rfl) (by kernel_rfl)) (da_nil))) (de_one (de_cmp (od_ge) (dv_l (i := 1) (by kernel_rfl) (by kernel_rfl)) (dv_l (i := 0) (by kernel_rfl) (by kernel_rfl)) rfl)))
theorem sc_p_are_buys : FnScope ["many", "thing", "buy"] ["many", "thing"] (defScope (top 42)) := ⟨rfl, rfl, rfl, by decide +kernel, rfl, by decide +kernel, by decide +kernel⟩
theorem nd_p_are_buys : (["many", "thing", "buy"] : List Str).Nodup := by decide +kernel
theorem ok_p_are_buys {f : Addr} {fd : FuncData} {dV : Value} (F : FunV K "are_buys" "are_buys" (top 42) dV f fd) (T : Tx K mg c) (d_p_is_integer_from : FOkX P w K mg base false 2 "is_integer_from" (f_p_is_integer_from c) 2 []) : FnX P w K mg base false 3 f fd ["many", "thing"] (fnE 2 3 3 (b_p_are_buys c)) 2 := by
  refine fnX_ok (N := ["many", "thing", "buy"]) (k := 2) F sc_p_are_buys fun cdv A outer s H E gd hr tk po => ?_
  have hu := u128 hr
  have lt := lets_of tk
  refine dss_one ?_
  exact ds_ret (de_and (de_callB (cd_isi (isi0 _)) (gl_of (by kernel_rfl)) T.z_isinstance bb_isinstance (da_cons (dv_l (i := 1) (by kernel_rfl) (by kernel_rfl)) (da_cons (de_ty (gl_of (by kernel_rfl)) T.z_tuple bb_tuple) (da_nil)))) (de_and (de_cmp (od_eq (u64 hu)) (de_callB (cd_len) (gl_of (by kernel_rfl)) T.z_len bb_len (da_cons (dv_l (i := 1) (by kernel_rfl) (by kernel_rfl)) (da_nil))) (dv_l (i := 0) (by kernel_rfl) (by kernel_rfl)) rfl) (de_one (de_callB (cd_all rfl) (gl_of (by kernel_rfl)) T.z_all bb_all (da_cons (de_fr (df_comp (own := [("buy", 2)]) rfl nd_p_are_buys (di_val (dv_l (i := 1) (by kernel_rfl) (by kernel_rfl))) (blkOk_by (by kernel_rfl)) (fun s H C cl fp => pg_l (i := 2) nd_p_are_buys (by kernel_rfl) (by kernel_rfl)) (good_name 2 (by decide)) (fun s H C cl fp => dts_nil) (fun s H C cl fp => de_callX d_p_is_integer_from gd0 lets0 (hr.mono (by decide)) (gl_of (by kernel_rfl)) (da_cons (de_int) (da_cons (dv_l (i := 2) (by kernel_rfl) (by kernel_rfl)) (da_nil)))))) (da_nil))))))
theorem sc_p_Book___init__ : FnScope ["self", "ups", "buys"] ["self", "ups", "buys"] (defScope (clsAt (top 43) 0)) := ⟨rfl, rfl, rfl, by decide +kernel, rfl, by decide +kernel, by decide +kernel⟩
theorem ok_p_Book___init__ {f : Addr} {fd : FuncData} {dV : Value} (F : FunV K "__init__" "Book.__init__" (clsAt (top 43) 0) dV f fd) (T : Tx K mg c) (d_p_are_ups : FOkX P w K mg base false 2 "are_ups" (f_p_are_ups c) 1 []) (x_BadBook : Ex1 P w K mg base .BadBook "part") (d_p_are_buys : FOkX P w K mg base false 3 "are_buys" (f_p_are_buys c) 2 []) : FnX P w K mg base false 4 f fd ["self", "ups", "buys"] (fnE 3 3 3 (b_p_Book___init__ c)) 3 := by
  refine fnX_ok (N := ["self", "ups", "buys"]) (k := 3) F sc_p_Book___init__ fun cdv A outer s H E gd hr tk po => ?_
  have hu := u128 hr
  have lt := lets_of tk
  refine dss_cons ?_ ?_
  · refine ds_if (dt_not (dt_val (de_callX d_p_are_ups gd0 lt (hr.mono (by decide)) (gl_of (by kernel_rfl)) (da_cons (dv_l (i := 1) (by kernel_rfl) (by kernel_rfl)) (da_nil))))) ?_ ?_
    · refine dss_one ?_
      exact ds_raise1 (t := .BadBook) x_BadBook rfl tk (hr.mono (by decide)) (gl_of (by kernel_rfl)) (de_str)
    · exact dss_nil
  refine dss_cons ?_ ?_
  · refine ds_if (dt_not (dt_val (de_callX d_p_are_buys gd0 lt (hr.mono (by decide)) (gl_of (by kernel_rfl)) (da_cons (de_callB (cd_len) (gl_of (by kernel_rfl)) T.z_len bb_len (da_cons (dv_l (i := 1) (by kernel_rfl) (by kernel_rfl)) (da_nil))) (da_cons (dv_l (i := 2) (by kernel_rfl) (by kernel_rfl)) (da_nil)))))) ?_ ?_
    · refine dss_one ?_
      exact ds_raise1 (t := .BadBook) x_BadBook rfl tk (hr.mono (by decide)) (gl_of (by kernel_rfl)) (de_str)
    · exact dss_nil
  refine dss_cons ?_ ?_
  · exact ds_fld (T.q_Book.fld T.f_Book_ups) (dv_l (i := 0) (by kernel_rfl) (by kernel_rfl)) (dv_l (i := 1) (by kernel_rfl) (by kernel_rfl))
  refine dss_cons ?_ ?_
  · exact ds_fld (T.q_Book.fld T.f_Book_buys) (dv_l (i := 0) (by kernel_rfl) (by kernel_rfl)) (dv_l (i := 2) (by kernel_rfl) (by kernel_rfl))
  refine dss_cons ?_ ?_
  · exact ds_fld (T.q_Book.fld T.f_Book_pairs_kept) (dv_l (i := 0) (by kernel_rfl) (by kernel_rfl)) (de_tupZip rfl (gl_of (by kernel_rfl)) T.z_tuple (gl_of (by kernel_rfl)) T.z_zip (dv_l (i := 1) (by kernel_rfl) (by kernel_rfl)) (dv_l (i := 2) (by kernel_rfl) (by kernel_rfl)))
  refine dss_one ?_
  exact ds_fld (T.q_Book.fld T.f_Book_sales) (dv_l (i := 0) (by kernel_rfl) (by kernel_rfl)) (de_callB (cd_sumS rfl) (gl_of (by kernel_rfl)) T.z_sum bb_sum (da_cons (dv_l (i := 2) (by kernel_rfl) (by kernel_rfl)) (da_nil)))
theorem sc_p_Desk___init__ : FnScope ["self", "rule"] ["self", "rule"] (defScope (clsAt (top 52) 0)) := ⟨rfl, rfl, rfl, by decide +kernel, rfl, by decide +kernel, by decide +kernel⟩
theorem ok_p_Desk___init__ {f : Addr} {fd : FuncData} {dV : Value} (F : FunV K "__init__" "Desk.__init__" (clsAt (top 52) 0) dV f fd) (T : Tx K mg c) (k_p_Book___init__2 : COkX P w K mg base 4 "Book" c.Book (f_p_Book___init__ c) 3 [.tup [], .tup []]) : FnX P w K mg base false 6 f fd ["self", "rule"] (fnE 2 2 3 (b_p_Desk___init__ c)) 2 := by
  refine fnX_ok (N := ["self", "rule"]) (k := 5) F sc_p_Desk___init__ fun cdv A outer s H E gd hr tk po => ?_
  have hu := u128 hr
  have lt := lets_of tk
  refine dss_cons ?_ ?_
  · exact ds_fld (T.q_Desk.fld T.f_Desk_rule) (dv_l (i := 0) (by kernel_rfl) (by kernel_rfl)) (dv_l (i := 1) (by kernel_rfl) (by kernel_rfl))
  refine dss_cons ?_ ?_
  · exact ds_fld (T.q_Desk.fld T.f_Desk_book) (dv_l (i := 0) (by kernel_rfl) (by kernel_rfl)) (de_make0X k_p_Book___init__2 lt (hr.mono (by decide)) (gl_of (by kernel_rfl)))
  refine dss_cons ?_ ?_
  · exact ds_fld (T.q_Desk.fld T.f_Desk_books_ahead) (dv_l (i := 0) (by kernel_rfl) (by kernel_rfl)) (de_mk (df_lst (da_nil)))
  refine dss_one ?_
  exact ds_fld (T.q_Desk.fld T.f_Desk_books_later) (dv_l (i := 0) (by kernel_rfl) (by kernel_rfl)) (de_mk (df_lst (da_nil)))
theorem sc_p_BadRule___init__ : FnScope ["self", "part"] ["self", "part"] (defScope (clsAt (top 3) 0)) := ⟨rfl, rfl, rfl, by decide +kernel, rfl, by decide +kernel, by decide +kernel⟩
theorem ok_p_BadRule___init__ {f : Addr} {fd : FuncData} {dV : Value} (F : FunV K "__init__" "BadRule.__init__" (clsAt (top 3) 0) dV f fd) : FnOk P w K mg base CX0 1 f fd ["self", "part"] (spI1 K "part") :=
  init1_mk F sc_p_BadRule___init__ fun cdv A outer s H E => pss_one (ps_of1 (pe_var (x := "self") (i := 0) (by kernel_rfl) (.inl (by kernel_rfl))) (pe_var (x := "part") (i := 1) (by kernel_rfl) (.inl (by kernel_rfl))))
theorem sc_p_is_need : FnScope ["number", "thing"] ["number", "thing"] (defScope (top 27)) := ⟨rfl, rfl, rfl, by decide +kernel, rfl, by decide +kernel, by decide +kernel⟩
theorem ok_p_is_need {f : Addr} {fd : FuncData} {dV : Value} (F : FunV K "is_need" "is_need" (top 27) dV f fd) (T : Tx K mg c) (d_p_is_integer : FOkX P w K mg base false 1 "is_integer" (f_p_is_integer c) 1 []) : FnX P w K mg base false 2 f fd ["number", "thing"] (fnE 2 2 3 (b_p_is_need c)) 2 := by
  refine fnX_ok (N := ["number", "thing"]) (k := 1) F sc_p_is_need fun cdv A outer s H E gd hr tk po => ?_
  have hu := u128 hr
  have lt := lets_of tk
  refine dss_one ?_
  exact ds_ret (de_and (de_callX d_p_is_integer gd0 lt (hr.mono (by decide)) (gl_of (by kernel_rfl)) (da_cons (dv_l (i := 1) (by kernel_rfl) (by kernel_rfl)) (da_nil))) (de_one (de_if (dt_cmp (od_eq (u64 hu)) (dv_l (i := 0) (by kernel_rfl) (by kernel_rfl)) (de_int) rfl) (de_cmp (od_eq (u64 hu)) (dv_l (i := 1) (by kernel_rfl) (by kernel_rfl)) (de_int) rfl) (de_cmp (od_ge) (dv_l (i := 1) (by kernel_rfl) (by kernel_rfl)) (de_int) rfl))))
theorem sc_p_is_share : FnScope ["thing"] ["thing"] (defScope (top 26)) := ⟨rfl, rfl, rfl, by decide +kernel, rfl, by decide +kernel, by decide +kernel⟩
theorem ok_p_is_share {f : Addr} {fd : FuncData} {dV : Value} (F : FunV K "is_share" "is_share" (top 26) dV f fd) (T : Tx K mg c) (d_p_is_integer : FOkX P w K mg base false 1 "is_integer" (f_p_is_integer c) 1 []) : FnX P w K mg base false 2 f fd ["thing"] (fnE 1 1 3 (b_p_is_share c)) 1 := by
  refine fnX_ok (N := ["thing"]) (k := 1) F sc_p_is_share fun cdv A outer s H E gd hr tk po => ?_
  have hu := u128 hr
  have lt := lets_of tk
  refine dss_one ?_
  exact ds_ret (de_and (de_callX d_p_is_integer gd0 lt (hr.mono (by decide)) (gl_of (by kernel_rfl)) (da_cons (dv_l (i := 0) (by kernel_rfl) (by kernel_rfl)) (da_nil))) (de_one (de_chain (od_le) (od_le) (de_int) (dv_l (i := 0) (by kernel_rfl) (by kernel_rfl)) (T_gint (gl_of (by kernel_rfl)) T.c_MOST_SHARE))))
theorem sc_p_is_rank : FnScope ["number", "thing", "least", "need", "bonus", "shares", "share"] ["number", "thing"] (defScope (top 28)) := ⟨rfl, rfl, rfl, by decide +kernel, rfl, by decide +kernel, by decide +kernel⟩
theorem nd_p_is_rank : (["number", "thing", "least", "need", "bonus", "shares", "share"] : List Str).Nodup := by decide +kernel
theorem ok_p_is_rank {f : Addr} {fd : FuncData} {dV : Value} (F : FunV K "is_rank" "is_rank" (top 28) dV f fd) (T : Tx K mg c) (d_p_is_integer_from : FOkX P w K mg base false 2 "is_integer_from" (f_p_is_integer_from c) 2 []) (d_p_is_need : FOkX P w K mg base false 2 "is_need" (f_p_is_need c) 2 []) (d_p_is_share : FOkX P w K mg base false 2 "is_share" (f_p_is_share c) 1 []) : FnX P w K mg base false 3 f fd ["number", "thing"] (fnE 2 7 3 (b_p_is_rank c)) 2 := by
  refine fnX_ok (N := ["number", "thing", "least", "need", "bonus", "shares", "share"]) (k := 2) F sc_p_is_rank fun cdv A outer s H E gd hr tk po => ?_
  have hu := u128 hr
  have lt := lets_of tk
  refine dss_cons ?_ ?_
  · refine ds_if (dt_w (dw_or (dt_not (dt_val (de_callB (cd_isi (isi0 _)) (gl_of (by kernel_rfl)) T.z_isinstance bb_isinstance (da_cons (dv_l (i := 1) (by kernel_rfl) (by kernel_rfl)) (da_cons (de_ty (gl_of (by kernel_rfl)) T.z_tuple bb_tuple) (da_nil)))))) (dw_or1 (dt_cmp (od_ne (u64 hu)) (de_callB (cd_len) (gl_of (by kernel_rfl)) T.z_len bb_len (da_cons (dv_l (i := 1) (by kernel_rfl) (by kernel_rfl)) (da_nil))) (T_gint (gl_of (by kernel_rfl)) T.c_RANK_PARTS) rfl)))) ?_ ?_
    · refine dss_one ?_
      exact ds_ret (de_bl)
    · exact dss_nil
  refine dss_cons ?_ ?_
  · exact ds_asg (dv_l (i := 1) (by kernel_rfl) (by kernel_rfl)) (dg_good (vs := [2, 3, 4, 5]) (pg_seq rfl (pgs_cons (pg_l (i := 2) nd_p_is_rank (by kernel_rfl) (by kernel_rfl)) (pgs_cons (pg_l (i := 3) nd_p_is_rank (by kernel_rfl) (by kernel_rfl)) (pgs_cons (pg_l (i := 4) nd_p_is_rank (by kernel_rfl) (by kernel_rfl)) (pgs_cons (pg_l (i := 5) nd_p_is_rank (by kernel_rfl) (by kernel_rfl)) (pgs_nil)))))) (good_tup (good_cons (good_name 2 (by decide)) (good_cons (good_name 3 (by decide)) (good_cons (good_name 4 (by decide)) (good_cons (good_name 5 (by decide)) (good_nil)))))))
  refine dss_cons ?_ ?_
  · refine ds_if (dt_w (dw_or (dt_not (dt_val (de_callX d_p_is_integer_from gd0 lt (hr.mono (by decide)) (gl_of (by kernel_rfl)) (da_cons (de_int) (da_cons (dv_l (i := 2) (by kernel_rfl) (by kernel_rfl)) (da_nil)))))) (dw_or (dt_not (dt_val (de_callX d_p_is_need gd0 lt (hr.mono (by decide)) (gl_of (by kernel_rfl)) (da_cons (dv_l (i := 0) (by kernel_rfl) (by kernel_rfl)) (da_cons (dv_l (i := 3) (by kernel_rfl) (by kernel_rfl)) (da_nil)))))) (dw_or1 (dt_not (dt_val (de_callX d_p_is_integer_from gd0 lt (hr.mono (by decide)) (gl_of (by kernel_rfl)) (da_cons (de_int) (da_cons (dv_l (i := 4) (by kernel_rfl) (by kernel_rfl)) (da_nil)))))))))) ?_ ?_
    · refine dss_one ?_
      exact ds_ret (de_bl)
    · exact dss_nil
  refine dss_one ?_
  exact ds_ret (de_and (de_callB (cd_isi (isi0 _)) (gl_of (by kernel_rfl)) T.z_isinstance bb_isinstance (da_cons (dv_l (i := 5) (by kernel_rfl) (by kernel_rfl)) (da_cons (de_ty (gl_of (by kernel_rfl)) T.z_tuple bb_tuple) (da_nil)))) (de_and (de_cmp (od_ne (u64 hu)) (dv_l (i := 5) (by kernel_rfl) (by kernel_rfl)) (de_tup (da_nil)) rfl) (de_one (de_callB (cd_all rfl) (gl_of (by kernel_rfl)) T.z_all bb_all (da_cons (de_fr (df_comp (own := [("share", 6)]) rfl nd_p_is_rank (di_val (dv_l (i := 5) (by kernel_rfl) (by kernel_rfl))) (blkOk_by (by kernel_rfl)) (fun s H C cl fp => pg_l (i := 6) nd_p_is_rank (by kernel_rfl) (by kernel_rfl)) (good_name 6 (by decide)) (fun s H C cl fp => dts_nil) (fun s H C cl fp => de_callX d_p_is_share gd0 lets0 (hr.mono (by decide)) (gl_of (by kernel_rfl)) (da_cons (dv_l (i := 6) (by kernel_rfl) (by kernel_rfl)) (da_nil))))) (da_nil))))))
theorem sc_p_goes_above : FnScope ["below", "above", "low", "high"] ["below", "above"] (defScope (top 29)) := ⟨rfl, rfl, rfl, by decide +kernel, rfl, by decide +kernel, by decide +kernel⟩
theorem nd_p_goes_above : (["below", "above", "low", "high"] : List Str).Nodup := by decide +kernel
theorem ok_p_goes_above {f : Addr} {fd : FuncData} {dV : Value} (F : FunV K "goes_above" "goes_above" (top 29) dV f fd) (T : Tx K mg c) : FnX P w K mg base false 1 f fd ["below", "above"] (fnE 2 4 3 (b_p_goes_above c)) 2 := by
  refine fnX_ok (N := ["below", "above", "low", "high"]) (k := 0) F sc_p_goes_above fun cdv A outer s H E gd hr tk po => ?_
  have hu := u128 hr
  have lt := lets_of tk
  refine dss_cons ?_ ?_
  · refine ds_if (dt_w (dw_or (dt_cmp (od_le) (de_sub (u1 hu) (dv_l (i := 1) (by kernel_rfl) (by kernel_rfl)) (T_gint (gl_of (by kernel_rfl)) T.c_LEAST) (fun _ _ => by rfl)) (de_sub (u1 hu) (dv_l (i := 0) (by kernel_rfl) (by kernel_rfl)) (T_gint (gl_of (by kernel_rfl)) T.c_LEAST) (fun _ _ => by rfl)) rfl) (dw_or1 (dt_cmp (od_lt) (de_sub (u1 hu) (dv_l (i := 1) (by kernel_rfl) (by kernel_rfl)) (T_gint (gl_of (by kernel_rfl)) T.c_BONUS) (fun _ _ => by rfl)) (de_sub (u1 hu) (dv_l (i := 0) (by kernel_rfl) (by kernel_rfl)) (T_gint (gl_of (by kernel_rfl)) T.c_BONUS) (fun _ _ => by rfl)) rfl)))) ?_ ?_
    · refine dss_one ?_
      exact ds_ret (de_bl)
    · exact dss_nil
  refine dss_one ?_
  exact ds_ret (de_callB (cd_all rfl) (gl_of (by kernel_rfl)) T.z_all bb_all (da_cons (de_fr (df_comp (own := [("low", 2), ("high", 3)]) rfl nd_p_goes_above (di_zip (gl_of (by kernel_rfl)) T.z_zip (de_sub (u1 hu) (dv_l (i := 0) (by kernel_rfl) (by kernel_rfl)) (T_gint (gl_of (by kernel_rfl)) T.c_SHARES) (fun _ _ => by rfl)) (de_sub (u1 hu) (dv_l (i := 1) (by kernel_rfl) (by kernel_rfl)) (T_gint (gl_of (by kernel_rfl)) T.c_SHARES) (fun _ _ => by rfl))) (blkOk_by (by kernel_rfl)) (fun s H C cl fp => pg_seq rfl (pgs_cons (pg_l (i := 2) nd_p_goes_above (by kernel_rfl) (by kernel_rfl)) (pgs_cons (pg_l (i := 3) nd_p_goes_above (by kernel_rfl) (by kernel_rfl)) (pgs_nil)))) (good_tup (good_cons (good_name 2 (by decide)) (good_cons (good_name 3 (by decide)) (good_nil)))) (fun s H C cl fp => dts_nil) (fun s H C cl fp => de_cmp (od_le) (dv_l (i := 2) (by kernel_rfl) (by kernel_rfl)) (dv_l (i := 3) (by kernel_rfl) (by kernel_rfl)) rfl))) (da_nil)))
theorem sc_p_Rule___init__ : FnScope ["self", "ranks", "number", "rank", "below", "above"] ["self", "ranks"] (defScope (clsAt (top 30) 0)) := ⟨rfl, rfl, rfl, by decide +kernel, rfl, by decide +kernel, by decide +kernel⟩
theorem nd_p_Rule___init__ : (["self", "ranks", "number", "rank", "below", "above"] : List Str).Nodup := by decide +kernel
theorem ok_p_Rule___init__ {f : Addr} {fd : FuncData} {dV : Value} (F : FunV K "__init__" "Rule.__init__" (clsAt (top 30) 0) dV f fd) (T : Tx K mg c) (x_BadRule : Ex1 P w K mg base .BadRule "part") (d_p_is_rank : FOkX P w K mg base false 3 "is_rank" (f_p_is_rank c) 2 []) (d_p_goes_above : FOkX P w K mg base false 1 "goes_above" (f_p_goes_above c) 2 []) : FnX P w K mg base false 4 f fd ["self", "ranks"] (fnE 2 6 3 (b_p_Rule___init__ c)) 2 := by
  refine fnX_ok (N := ["self", "ranks", "number", "rank", "below", "above"]) (k := 3) F sc_p_Rule___init__ fun cdv A outer s H E gd hr tk po => ?_
  have hu := u128 hr
  have lt := lets_of tk
  refine dss_cons ?_ ?_
  · refine ds_if (dt_w (dw_or (dt_not (dt_val (de_callB (cd_isi (isi0 _)) (gl_of (by kernel_rfl)) T.z_isinstance bb_isinstance (da_cons (dv_l (i := 1) (by kernel_rfl) (by kernel_rfl)) (da_cons (de_ty (gl_of (by kernel_rfl)) T.z_tuple bb_tuple) (da_nil)))))) (dw_or1 (dt_cmp (od_eq (u64 hu)) (dv_l (i := 1) (by kernel_rfl) (by kernel_rfl)) (de_tup (da_nil)) rfl)))) ?_ ?_
    · refine dss_one ?_
      exact ds_raise1 (t := .BadRule) x_BadRule rfl tk (hr.mono (by decide)) (gl_of (by kernel_rfl)) (de_str)
    · exact dss_nil
  refine dss_cons ?_ ?_
  · refine ds_for (vs := [2, 3]) po rfl (di_enum (gl_of (by kernel_rfl)) T.z_enumerate (dv_l (i := 1) (by kernel_rfl) (by kernel_rfl))) (pg_seq rfl (pgs_cons (pg_l (i := 2) nd_p_Rule___init__ (by kernel_rfl) (by kernel_rfl)) (pgs_cons (pg_l (i := 3) nd_p_Rule___init__ (by kernel_rfl) (by kernel_rfl)) (pgs_nil)))) (good_tup (good_cons (good_name 2 (by decide)) (good_cons (good_name 3 (by decide)) (good_nil)))) ?_
    refine dss_one ?_
    refine ds_if (dt_not (dt_val (de_callX d_p_is_rank gd0 lt (hr.mono (by decide)) (gl_of (by kernel_rfl)) (da_cons (dv_l (i := 2) (by kernel_rfl) (by kernel_rfl)) (da_cons (dv_l (i := 3) (by kernel_rfl) (by kernel_rfl)) (da_nil)))))) ?_ ?_
    · refine dss_one ?_
      exact ds_raise1 (t := .BadRule) x_BadRule rfl tk (hr.mono (by decide)) (gl_of (by kernel_rfl)) (dv_l (i := 3) (by kernel_rfl) (by kernel_rfl))
    · exact dss_nil
  refine dss_cons ?_ ?_
  · refine ds_if (dt_cmp (od_gt) (de_lenSc (own := [("rank", 3)]) rfl nd_p_Rule___init__ (gl_of (by kernel_rfl)) T.z_len (di_val (dv_l (i := 1) (by kernel_rfl) (by kernel_rfl))) (blkOk_by (by kernel_rfl)) (fun s H C cl fp => pg_l (i := 3) nd_p_Rule___init__ (by kernel_rfl) (by kernel_rfl)) (good_name 3 (by decide)) (fun s H C cl fp => dts_nil) (fun s H C cl fp => de_callB (cd_len) (gl_of (by kernel_rfl)) T.z_len bb_len (da_cons (de_sub (u1 hu) (dv_l (i := 3) (by kernel_rfl) (by kernel_rfl)) (T_gint (gl_of (by kernel_rfl)) T.c_SHARES) (fun _ _ => by rfl)) (da_nil)))) (de_int) rfl) ?_ ?_
    · refine dss_one ?_
      exact ds_raise1 (t := .BadRule) x_BadRule rfl tk (hr.mono (by decide)) (gl_of (by kernel_rfl)) (de_str)
    · exact dss_nil
  refine dss_cons ?_ ?_
  · refine ds_if (dt_not (dt_val (de_callB (cd_all rfl) (gl_of (by kernel_rfl)) T.z_all bb_all (da_cons (de_fr (df_comp (own := [("below", 4), ("above", 5)]) rfl nd_p_Rule___init__ (di_zip (gl_of (by kernel_rfl)) T.z_zip (dv_l (i := 1) (by kernel_rfl) (by kernel_rfl)) (de_slice (dv_l (i := 1) (by kernel_rfl) (by kernel_rfl)) (dp_some (de_int)) (dp_none))) (blkOk_by (by kernel_rfl)) (fun s H C cl fp => pg_seq rfl (pgs_cons (pg_l (i := 4) nd_p_Rule___init__ (by kernel_rfl) (by kernel_rfl)) (pgs_cons (pg_l (i := 5) nd_p_Rule___init__ (by kernel_rfl) (by kernel_rfl)) (pgs_nil)))) (good_tup (good_cons (good_name 4 (by decide)) (good_cons (good_name 5 (by decide)) (good_nil)))) (fun s H C cl fp => dts_nil) (fun s H C cl fp => de_callX d_p_goes_above gd0 lets0 (hr.mono (by decide)) (gl_of (by kernel_rfl)) (da_cons (dv_l (i := 4) (by kernel_rfl) (by kernel_rfl)) (da_cons (dv_l (i := 5) (by kernel_rfl) (by kernel_rfl)) (da_nil)))))) (da_nil))))) ?_ ?_
    · refine dss_one ?_
      exact ds_raise1 (t := .BadRule) x_BadRule rfl tk (hr.mono (by decide)) (gl_of (by kernel_rfl)) (de_str)
    · exact dss_nil
  refine dss_cons ?_ ?_
  · exact ds_fld (T.q_Rule.fld T.f_Rule_ranks) (dv_l (i := 0) (by kernel_rfl) (by kernel_rfl)) (dv_l (i := 1) (by kernel_rfl) (by kernel_rfl))
  refine dss_one ?_
  exact ds_fld (T.q_Rule.fld T.f_Rule_levels) (dv_l (i := 0) (by kernel_rfl) (by kernel_rfl)) (de_bin od_sub (de_callB (cd_len) (gl_of (by kernel_rfl)) T.z_len bb_len (da_cons (de_sub (u1 hu) (de_sub (u1 hu) (dv_l (i := 1) (by kernel_rfl) (by kernel_rfl)) (de_int) (fun _ _ => by rfl)) (T_gint (gl_of (by kernel_rfl)) T.c_SHARES) (fun _ _ => by rfl)) (da_nil))) (de_int))
theorem sc_p_Desk_undo : FnScope ["self"] ["self"] (defScope (clsAt (top 52) 7)) := ⟨rfl, rfl, rfl, by decide +kernel, rfl, by decide +kernel, by decide +kernel⟩
theorem ok_p_Desk_undo {f : Addr} {fd : FuncData} {dV : Value} (F : FunV K "undo" "Desk.undo" (clsAt (top 52) 7) dV f fd) (T : Tx K mg c) : FnX P w K mg base false 1 f fd ["self"] (fnE 1 1 3 (b_p_Desk_undo c)) 1 := by
  refine fnX_ok (N := ["self"]) (k := 0) F sc_p_Desk_undo fun cdv A outer s H E gd hr tk po => ?_
  have hu := u128 hr
  have lt := lets_of tk
  refine dss_cons ?_ ?_
  · refine ds_if (dt_cmp (od_eq (u64 hu)) (de_fld (T.q_Desk.fld T.f_Desk_books_ahead) (dv_l (i := 0) (by kernel_rfl) (by kernel_rfl))) (de_fr (df_lst (da_nil))) rfl) ?_ ?_
    · refine dss_one ?_
      exact ds_raise0 (t := .NothingToUndo) T.x0_NothingToUndo rfl tk (gl_of (by kernel_rfl))
    · exact dss_nil
  refine dss_cons ?_ ?_
  · exact ds_expr (de_bmL PySem.F.plainAttrs_list PySem.F.slot_list_append PySem.F.type_list_append md_append (de_fld (T.q_Desk.fld T.f_Desk_books_later) (dv_l (i := 0) (by kernel_rfl) (by kernel_rfl))) (da_cons (de_fld (T.q_Desk.fld T.f_Desk_book) (dv_l (i := 0) (by kernel_rfl) (by kernel_rfl))) (da_nil)))
  refine dss_one ?_
  exact ds_fld (T.q_Desk.fld T.f_Desk_book) (dv_l (i := 0) (by kernel_rfl) (by kernel_rfl)) (de_bmL0 PySem.F.plainAttrs_list PySem.F.slot_list_pop PySem.F.type_list_pop md_pop (de_fld (T.q_Desk.fld T.f_Desk_books_ahead) (dv_l (i := 0) (by kernel_rfl) (by kernel_rfl))))
theorem sc_p_Desk_redo : FnScope ["self"] ["self"] (defScope (clsAt (top 52) 8)) := ⟨rfl, rfl, rfl, by decide +kernel, rfl, by decide +kernel, by decide +kernel⟩
theorem ok_p_Desk_redo {f : Addr} {fd : FuncData} {dV : Value} (F : FunV K "redo" "Desk.redo" (clsAt (top 52) 8) dV f fd) (T : Tx K mg c) : FnX P w K mg base false 1 f fd ["self"] (fnE 1 1 3 (b_p_Desk_redo c)) 1 := by
  refine fnX_ok (N := ["self"]) (k := 0) F sc_p_Desk_redo fun cdv A outer s H E gd hr tk po => ?_
  have hu := u128 hr
  have lt := lets_of tk
  refine dss_cons ?_ ?_
  · refine ds_if (dt_cmp (od_eq (u64 hu)) (de_fld (T.q_Desk.fld T.f_Desk_books_later) (dv_l (i := 0) (by kernel_rfl) (by kernel_rfl))) (de_fr (df_lst (da_nil))) rfl) ?_ ?_
    · refine dss_one ?_
      exact ds_raise0 (t := .NothingToRedo) T.x0_NothingToRedo rfl tk (gl_of (by kernel_rfl))
    · exact dss_nil
  refine dss_cons ?_ ?_
  · exact ds_expr (de_bmL PySem.F.plainAttrs_list PySem.F.slot_list_append PySem.F.type_list_append md_append (de_fld (T.q_Desk.fld T.f_Desk_books_ahead) (dv_l (i := 0) (by kernel_rfl) (by kernel_rfl))) (da_cons (de_fld (T.q_Desk.fld T.f_Desk_book) (dv_l (i := 0) (by kernel_rfl) (by kernel_rfl))) (da_nil)))
  refine dss_one ?_
  exact ds_fld (T.q_Desk.fld T.f_Desk_book) (dv_l (i := 0) (by kernel_rfl) (by kernel_rfl)) (de_bmL0 PySem.F.plainAttrs_list PySem.F.slot_list_pop PySem.F.type_list_pop md_pop (de_fld (T.q_Desk.fld T.f_Desk_books_later) (dv_l (i := 0) (by kernel_rfl) (by kernel_rfl))))
theorem sc_w_heard : FnScope ["_law_desk", "_law_word", "_law_found", "e"] ["_law_desk", "_law_word"] (defScope (top 59)) := ⟨rfl, rfl, rfl, by decide +kernel, rfl, by decide +kernel, by decide +kernel⟩
theorem nd_w_heard : (["_law_desk", "_law_word", "_law_found", "e"] : List Str).Nodup := by decide +kernel
theorem ok_w_heard {f : Addr} {fd : FuncData} {dV : Value} (F : FunV K "_law_heard" "_law_heard" (top 59) dV f fd) (T : Tx K mg c) (hb : SysB base) (m_p_Desk_undo : MOkX P w K mg base false 1 c.Desk "undo" (f_p_Desk_undo c) 1) (m_p_Desk_redo : MOkX P w K mg base false 1 c.Desk "redo" (f_p_Desk_redo c) 1) : FnX P w K mg base true 2 f fd ["_law_desk", "_law_word"] (fnE 2 4 3 (b_w_heard c)) 2 := by
  refine fnX_ok (N := ["_law_desk", "_law_word", "_law_found", "e"]) (k := 1) F sc_w_heard fun cdv A outer s H E gd hr tk po => ?_
  have hu := u128 hr
  have lt := lets_of tk
  refine dss_cons ?_ ?_
  · exact ds_asg (de_str) (dg_l (i := 2) nd_w_heard (by kernel_rfl) (by kernel_rfl))
  refine dss_cons ?_ ?_
  · refine ds_try rfl rfl tk T.xk (fun V pn xe tk po => ?_) (Hds.named nd_w_heard (by kernel_rfl) (by kernel_rfl) ⟨(gl_of (by kernel_rfl)), by decide, .inl T.m_NothingToUndo⟩ (fun a oe cls d pn hz hf => qs_asg nd_w_heard (by kernel_rfl) (.inl (by kernel_rfl)) (qe_cond (qe_isi (C := .ShareError) ⟨hz, hf⟩ (by kernel_rfl) (.inl (by kernel_rfl)) (gl_of (by kernel_rfl)) T.z_isinstance (gl_of (by kernel_rfl)) T.m_ShareError) (qe_ks) (qe_ks)) (.inr (by kernel_rfl))) (Hds.named nd_w_heard (by kernel_rfl) (by kernel_rfl) ⟨(gl_of (by kernel_rfl)), by decide, .inl T.m_NothingToRedo⟩ (fun a oe cls d pn hz hf => qs_asg nd_w_heard (by kernel_rfl) (.inl (by kernel_rfl)) (qe_cond (qe_isi (C := .ShareError) ⟨hz, hf⟩ (by kernel_rfl) (.inl (by kernel_rfl)) (gl_of (by kernel_rfl)) T.z_isinstance (gl_of (by kernel_rfl)) T.m_ShareError) (qe_ks) (qe_ks)) (.inr (by kernel_rfl))) (Hds.nil))) (by decide +kernel)
    have lt := lets_of tk
    refine dss_one ?_
    exact ds_asg (de_callB (cd_repr (gd rfl) hu hb) (gl_of (by kernel_rfl)) T.z_repr bb_repr (da_cons (de_if (dt_cmp (od_eq (u64 hu)) (dv_l (i := 1) (by kernel_rfl) (by kernel_rfl)) (de_str) rfl) (de_meth0X m_p_Desk_undo gd0 lt (hr.mono (by decide)) (dv_l (i := 0) (by kernel_rfl) (by kernel_rfl))) (de_meth0X m_p_Desk_redo gd0 lt (hr.mono (by decide)) (dv_l (i := 0) (by kernel_rfl) (by kernel_rfl)))) (da_nil))) (dg_l (i := 2) nd_w_heard (by kernel_rfl) (by kernel_rfl))
  refine dss_one ?_
  exact ds_ret (dv_l (i := 2) (by kernel_rfl) (by kernel_rfl))
theorem sc_p_Book___len__ : FnScope ["self"] ["self"] (defScope (clsAt (top 43) 2)) := ⟨rfl, rfl, rfl, by decide +kernel, rfl, by decide +kernel, by decide +kernel⟩
theorem ok_p_Book___len__ {f : Addr} {fd : FuncData} {dV : Value} (F : FunV K "__len__" "Book.__len__" (clsAt (top 43) 2) dV f fd) (T : Tx K mg c) : FnX P w K mg base false 1 f fd ["self"] (fnE 1 1 3 (b_p_Book___len__ c)) 1 := by
  refine fnX_ok (N := ["self"]) (k := 0) F sc_p_Book___len__ fun cdv A outer s H E gd hr tk po => ?_
  have hu := u128 hr
  have lt := lets_of tk
  refine dss_one ?_
  exact ds_ret (de_callB (cd_len) (gl_of (by kernel_rfl)) T.z_len bb_len (da_cons (de_fld (T.q_Book.fld T.f_Book_ups) (dv_l (i := 0) (by kernel_rfl) (by kernel_rfl))) (da_nil)))
theorem sc_p_NoMember___init__ : FnScope ["self", "number"] ["self", "number"] (defScope (clsAt (top 6) 0)) := ⟨rfl, rfl, rfl, by decide +kernel, rfl, by decide +kernel, by decide +kernel⟩
theorem ok_p_NoMember___init__ {f : Addr} {fd : FuncData} {dV : Value} (F : FunV K "__init__" "NoMember.__init__" (clsAt (top 6) 0) dV f fd) : FnOk P w K mg base CX0 1 f fd ["self", "number"] (spI1 K "number") :=
  init1_mk F sc_p_NoMember___init__ fun cdv A outer s H E => pss_one (ps_of1 (pe_var (x := "self") (i := 0) (by kernel_rfl) (.inl (by kernel_rfl))) (pe_var (x := "number") (i := 1) (by kernel_rfl) (.inl (by kernel_rfl))))
theorem sc_p_Desk_check_member : FnScope ["self", "thing"] ["self", "thing"] (defScope (clsAt (top 52) 2)) := ⟨rfl, rfl, rfl, by decide +kernel, rfl, by decide +kernel, by decide +kernel⟩
theorem ok_p_Desk_check_member {f : Addr} {fd : FuncData} {dV : Value} (F : FunV K "check_member" "Desk.check_member" (clsAt (top 52) 2) dV f fd) (T : Tx K mg c) (d_p_is_integer : FOkX P w K mg base false 1 "is_integer" (f_p_is_integer c) 1 []) (m_p_Book___len__ : MOkX P w K mg base false 1 c.Book "__len__" (f_p_Book___len__ c) 1) (x_NoMember : Ex1 P w K mg base .NoMember "number") : FnX P w K mg base false 3 f fd ["self", "thing"] (fnE 2 2 3 (b_p_Desk_check_member c)) 2 := by
  refine fnX_ok (N := ["self", "thing"]) (k := 2) F sc_p_Desk_check_member fun cdv A outer s H E gd hr tk po => ?_
  have hu := u128 hr
  have lt := lets_of tk
  refine dss_one ?_
  refine ds_if (dt_w (dw_or (dt_not (dt_val (de_callX d_p_is_integer gd0 lt (hr.mono (by decide)) (gl_of (by kernel_rfl)) (da_cons (dv_l (i := 1) (by kernel_rfl) (by kernel_rfl)) (da_nil))))) (dw_or1 (dt_not (dt_chain (od_le) (od_lt) (de_int) (dv_l (i := 1) (by kernel_rfl) (by kernel_rfl)) (de_callB (cd_lenX m_p_Book___len__ (hr.mono (by decide))) (gl_of (by kernel_rfl)) T.z_len bb_len (da_cons (de_fld (T.q_Desk.fld T.f_Desk_book) (dv_l (i := 0) (by kernel_rfl) (by kernel_rfl))) (da_nil)))))))) ?_ ?_
  · refine dss_one ?_
    exact ds_raise1 (t := .NoMember) x_NoMember rfl tk (hr.mono (by decide)) (gl_of (by kernel_rfl)) (dv_l (i := 1) (by kernel_rfl) (by kernel_rfl))
  · exact dss_nil
theorem sc_p_Desk_change : FnScope ["self", "book"] ["self", "book"] (defScope (clsAt (top 52) 3)) := ⟨rfl, rfl, rfl, by decide +kernel, rfl, by decide +kernel, by decide +kernel⟩
theorem ok_p_Desk_change {f : Addr} {fd : FuncData} {dV : Value} (F : FunV K "change" "Desk.change" (clsAt (top 52) 3) dV f fd) (T : Tx K mg c) : FnX P w K mg base false 1 f fd ["self", "book"] (fnE 2 2 3 (b_p_Desk_change c)) 2 := by
  refine fnX_ok (N := ["self", "book"]) (k := 0) F sc_p_Desk_change fun cdv A outer s H E gd hr tk po => ?_
  have hu := u128 hr
  have lt := lets_of tk
  refine dss_cons ?_ ?_
  · exact ds_expr (de_bmL PySem.F.plainAttrs_list PySem.F.slot_list_append PySem.F.type_list_append md_append (de_fld (T.q_Desk.fld T.f_Desk_books_ahead) (dv_l (i := 0) (by kernel_rfl) (by kernel_rfl))) (da_cons (de_fld (T.q_Desk.fld T.f_Desk_book) (dv_l (i := 0) (by kernel_rfl) (by kernel_rfl))) (da_nil)))
  refine dss_cons ?_ ?_
  · exact ds_fld (T.q_Desk.fld T.f_Desk_books_later) (dv_l (i := 0) (by kernel_rfl) (by kernel_rfl)) (de_mk (df_lst (da_nil)))
  refine dss_one ?_
  exact ds_fld (T.q_Desk.fld T.f_Desk_book) (dv_l (i := 0) (by kernel_rfl) (by kernel_rfl)) (dv_l (i := 1) (by kernel_rfl) (by kernel_rfl))
theorem sc_p_Book_with_member : FnScope ["self", "up", "buy"] ["self", "up", "buy"] (defScope (clsAt (top 43) 14)) := ⟨rfl, rfl, rfl, by decide +kernel, rfl, by decide +kernel, by decide +kernel⟩
theorem ok_p_Book_with_member {f : Addr} {fd : FuncData} {dV : Value} (F : FunV K "with_member" "Book.with_member" (clsAt (top 43) 14) dV f fd) (T : Tx K mg c) (k_p_Book___init__0 : COkX P w K mg base 4 "Book" c.Book (f_p_Book___init__ c) 3 []) : FnX P w K mg base false 6 f fd ["self", "up", "buy"] (fnE 3 3 3 (b_p_Book_with_member c)) 3 := by
  refine fnX_ok (N := ["self", "up", "buy"]) (k := 5) F sc_p_Book_with_member fun cdv A outer s H E gd hr tk po => ?_
  have hu := u128 hr
  have lt := lets_of tk
  refine dss_one ?_
  exact ds_ret (de_makeX k_p_Book___init__0 lt (hr.mono (by decide)) (gl_of (by kernel_rfl)) (da_cons (de_tup (da_star (de_fld (T.q_Book.fld T.f_Book_ups) (dv_l (i := 0) (by kernel_rfl) (by kernel_rfl))) (da_cons (dv_l (i := 1) (by kernel_rfl) (by kernel_rfl)) (da_nil)))) (da_cons (de_tup (da_star (de_fld (T.q_Book.fld T.f_Book_buys) (dv_l (i := 0) (by kernel_rfl) (by kernel_rfl))) (da_cons (dv_l (i := 2) (by kernel_rfl) (by kernel_rfl)) (da_nil)))) (da_nil))))
theorem sc_p_Desk_join : FnScope ["self", "up", "buy"] ["self", "up", "buy"] (defScope (clsAt (top 52) 4)) := ⟨rfl, rfl, rfl, by decide +kernel, rfl, by decide +kernel, by decide +kernel⟩
theorem ok_p_Desk_join {f : Addr} {fd : FuncData} {dV : Value} (F : FunV K "join" "Desk.join" (clsAt (top 52) 4) dV f fd) (T : Tx K mg c) (d_p_is_integer : FOkX P w K mg base false 1 "is_integer" (f_p_is_integer c) 1 []) (m_p_Desk_check_member : MOkX P w K mg base false 3 c.Desk "check_member" (f_p_Desk_check_member c) 2) (d_p_is_integer_from : FOkX P w K mg base false 2 "is_integer_from" (f_p_is_integer_from c) 2 []) (x_BadBook : Ex1 P w K mg base .BadBook "part") (m_p_Desk_change : MOkX P w K mg base false 1 c.Desk "change" (f_p_Desk_change c) 2) (m_p_Book_with_member : MOkX P w K mg base false 6 c.Book "with_member" (f_p_Book_with_member c) 3) (m_p_Book___len__ : MOkX P w K mg base false 1 c.Book "__len__" (f_p_Book___len__ c) 1) : FnX P w K mg base false 7 f fd ["self", "up", "buy"] (fnE 3 3 3 (b_p_Desk_join c)) 3 := by
  refine fnX_ok (N := ["self", "up", "buy"]) (k := 6) F sc_p_Desk_join fun cdv A outer s H E gd hr tk po => ?_
  have hu := u128 hr
  have lt := lets_of tk
  refine dss_cons ?_ ?_
  · refine ds_if (dt_w (dw_or (dt_not (dt_val (de_callX d_p_is_integer gd0 lt (hr.mono (by decide)) (gl_of (by kernel_rfl)) (da_cons (dv_l (i := 1) (by kernel_rfl) (by kernel_rfl)) (da_nil))))) (dw_or1 (dt_cmp (od_ne (u64 hu)) (dv_l (i := 1) (by kernel_rfl) (by kernel_rfl)) (T_gint (gl_of (by kernel_rfl)) T.c_NOBODY_desk) rfl)))) ?_ ?_
    · refine dss_one ?_
      exact ds_expr (de_methX m_p_Desk_check_member gd0 lt (hr.mono (by decide)) (dv_l (i := 0) (by kernel_rfl) (by kernel_rfl)) (da_cons (dv_l (i := 1) (by kernel_rfl) (by kernel_rfl)) (da_nil)))
    · exact dss_nil
  refine dss_cons ?_ ?_
  · refine ds_if (dt_not (dt_val (de_callX d_p_is_integer_from gd0 lt (hr.mono (by decide)) (gl_of (by kernel_rfl)) (da_cons (de_sub (u1 hu) (de_sub (u1 hu) (de_fld (T.q_Rule.fld T.f_Rule_ranks) (de_fld (T.q_Desk.fld T.f_Desk_rule) (dv_l (i := 0) (by kernel_rfl) (by kernel_rfl)))) (de_int) (fun _ _ => by rfl)) (T_gint (gl_of (by kernel_rfl)) T.c_LEAST) (fun _ _ => by rfl)) (da_cons (dv_l (i := 2) (by kernel_rfl) (by kernel_rfl)) (da_nil)))))) ?_ ?_
    · refine dss_one ?_
      exact ds_raise1 (t := .BadBook) x_BadBook rfl tk (hr.mono (by decide)) (gl_of (by kernel_rfl)) (T_gstr (gl_of (by kernel_rfl)) T.c_BUYS)
    · exact dss_nil
  refine dss_cons ?_ ?_
  · exact ds_expr (de_methX m_p_Desk_change gd0 lt (hr.mono (by decide)) (dv_l (i := 0) (by kernel_rfl) (by kernel_rfl)) (da_cons (de_methX m_p_Book_with_member gd0 lt (hr.mono (by decide)) (de_fld (T.q_Desk.fld T.f_Desk_book) (dv_l (i := 0) (by kernel_rfl) (by kernel_rfl))) (da_cons (dv_l (i := 1) (by kernel_rfl) (by kernel_rfl)) (da_cons (dv_l (i := 2) (by kernel_rfl) (by kernel_rfl)) (da_nil)))) (da_nil)))
  refine dss_one ?_
  exact ds_ret (de_bin od_sub (de_callB (cd_lenX m_p_Book___len__ (hr.mono (by decide))) (gl_of (by kernel_rfl)) T.z_len bb_len (da_cons (de_fld (T.q_Desk.fld T.f_Desk_book) (dv_l (i := 0) (by kernel_rfl) (by kernel_rfl))) (da_nil))) (de_int))
theorem sc_p_Book_with_buy : FnScope ["self", "member", "buy"] ["self", "member", "buy"] (defScope (clsAt (top 43) 15)) := ⟨rfl, rfl, rfl, by decide +kernel, rfl, by decide +kernel, by decide +kernel⟩
theorem ok_p_Book_with_buy {f : Addr} {fd : FuncData} {dV : Value} (F : FunV K "with_buy" "Book.with_buy" (clsAt (top 43) 15) dV f fd) (T : Tx K mg c) (k_p_Book___init__0 : COkX P w K mg base 4 "Book" c.Book (f_p_Book___init__ c) 3 []) : FnX P w K mg base false 6 f fd ["self", "member", "buy"] (fnE 3 3 3 (b_p_Book_with_buy c)) 3 := by
  refine fnX_ok (N := ["self", "member", "buy"]) (k := 5) F sc_p_Book_with_buy fun cdv A outer s H E gd hr tk po => ?_
  have hu := u128 hr
  have lt := lets_of tk
  refine dss_one ?_
  exact ds_ret (de_makeX k_p_Book___init__0 lt (hr.mono (by decide)) (gl_of (by kernel_rfl)) (da_cons (de_fld (T.q_Book.fld T.f_Book_ups) (dv_l (i := 0) (by kernel_rfl) (by kernel_rfl))) (da_cons (de_tup (da_star (de_slice (de_fld (T.q_Book.fld T.f_Book_buys) (dv_l (i := 0) (by kernel_rfl) (by kernel_rfl))) (dp_none) (dp_some (dv_l (i := 1) (by kernel_rfl) (by kernel_rfl)))) (da_cons (dv_l (i := 2) (by kernel_rfl) (by kernel_rfl)) (da_star (de_slice (de_fld (T.q_Book.fld T.f_Book_buys) (dv_l (i := 0) (by kernel_rfl) (by kernel_rfl))) (dp_some (de_bin od_add (dv_l (i := 1) (by kernel_rfl) (by kernel_rfl)) (de_int))) (dp_none)) (da_nil))))) (da_nil))))
theorem sc_p_Desk_buy : FnScope ["self", "member", "amount"] ["self", "member", "amount"] (defScope (clsAt (top 52) 5)) := ⟨rfl, rfl, rfl, by decide +kernel, rfl, by decide +kernel, by decide +kernel⟩
theorem ok_p_Desk_buy {f : Addr} {fd : FuncData} {dV : Value} (F : FunV K "buy" "Desk.buy" (clsAt (top 52) 5) dV f fd) (T : Tx K mg c) (m_p_Desk_check_member : MOkX P w K mg base false 3 c.Desk "check_member" (f_p_Desk_check_member c) 2) (d_p_is_integer_from : FOkX P w K mg base false 2 "is_integer_from" (f_p_is_integer_from c) 2 []) (x_BadBook : Ex1 P w K mg base .BadBook "part") (m_p_Desk_change : MOkX P w K mg base false 1 c.Desk "change" (f_p_Desk_change c) 2) (m_p_Book_with_buy : MOkX P w K mg base false 6 c.Book "with_buy" (f_p_Book_with_buy c) 3) : FnX P w K mg base false 7 f fd ["self", "member", "amount"] (fnE 3 3 3 (b_p_Desk_buy c)) 3 := by
  refine fnX_ok (N := ["self", "member", "amount"]) (k := 6) F sc_p_Desk_buy fun cdv A outer s H E gd hr tk po => ?_
  have hu := u128 hr
  have lt := lets_of tk
  refine dss_cons ?_ ?_
  · exact ds_expr (de_methX m_p_Desk_check_member gd0 lt (hr.mono (by decide)) (dv_l (i := 0) (by kernel_rfl) (by kernel_rfl)) (da_cons (dv_l (i := 1) (by kernel_rfl) (by kernel_rfl)) (da_nil)))
  refine dss_cons ?_ ?_
  · refine ds_if (dt_not (dt_val (de_callX d_p_is_integer_from gd0 lt (hr.mono (by decide)) (gl_of (by kernel_rfl)) (da_cons (de_int) (da_cons (dv_l (i := 2) (by kernel_rfl) (by kernel_rfl)) (da_nil)))))) ?_ ?_
    · refine dss_one ?_
      exact ds_raise1 (t := .BadBook) x_BadBook rfl tk (hr.mono (by decide)) (gl_of (by kernel_rfl)) (T_gstr (gl_of (by kernel_rfl)) T.c_BUYS)
    · exact dss_nil
  refine dss_one ?_
  exact ds_expr (de_methX m_p_Desk_change gd0 lt (hr.mono (by decide)) (dv_l (i := 0) (by kernel_rfl) (by kernel_rfl)) (da_cons (de_methX m_p_Book_with_buy gd0 lt (hr.mono (by decide)) (de_fld (T.q_Desk.fld T.f_Desk_book) (dv_l (i := 0) (by kernel_rfl) (by kernel_rfl))) (da_cons (dv_l (i := 1) (by kernel_rfl) (by kernel_rfl)) (da_cons (de_bin od_add (de_sub (u1 hu) (de_fld (T.q_Book.fld T.f_Book_buys) (de_fld (T.q_Desk.fld T.f_Desk_book) (dv_l (i := 0) (by kernel_rfl) (by kernel_rfl)))) (dv_l (i := 1) (by kernel_rfl) (by kernel_rfl)) (fun _ _ => by rfl)) (dv_l (i := 2) (by kernel_rfl) (by kernel_rfl))) (da_nil)))) (da_nil)))
theorem sc_p_Book_without : FnScope ["self", "member", "ups", "other", "up", "here"] ["self", "member"] (defScope (clsAt (top 43) 16)) := ⟨rfl, rfl, rfl, by decide +kernel, rfl, by decide +kernel, by decide +kernel⟩
theorem nd_p_Book_without : (["self", "member", "ups", "other", "up", "here"] : List Str).Nodup := by decide +kernel
theorem ok_p_Book_without {f : Addr} {fd : FuncData} {dV : Value} (F : FunV K "without" "Book.without" (clsAt (top 43) 16) dV f fd) (T : Tx K mg c) (k_p_Book___init__0 : COkX P w K mg base 4 "Book" c.Book (f_p_Book___init__ c) 3 []) : FnX P w K mg base false 6 f fd ["self", "member"] (fnE 2 6 3 (b_p_Book_without c)) 2 := by
  refine fnX_ok (N := ["self", "member", "ups", "other", "up", "here"]) (k := 5) F sc_p_Book_without fun cdv A outer s H E gd hr tk po => ?_
  have hu := u128 hr
  have lt := lets_of tk
  refine dss_cons ?_ ?_
  · exact ds_asg (de_mk (df_lst (da_nil))) (dg_l (i := 2) nd_p_Book_without (by kernel_rfl) (by kernel_rfl))
  refine dss_cons ?_ ?_
  · refine ds_for (vs := [3, 4]) po rfl (di_enum (gl_of (by kernel_rfl)) T.z_enumerate (de_fld (T.q_Book.fld T.f_Book_ups) (dv_l (i := 0) (by kernel_rfl) (by kernel_rfl)))) (pg_seq rfl (pgs_cons (pg_l (i := 3) nd_p_Book_without (by kernel_rfl) (by kernel_rfl)) (pgs_cons (pg_l (i := 4) nd_p_Book_without (by kernel_rfl) (by kernel_rfl)) (pgs_nil)))) (good_tup (good_cons (good_name 3 (by decide)) (good_cons (good_name 4 (by decide)) (good_nil)))) ?_
    refine dss_one ?_
    refine ds_if (dt_cmp (od_ne (u64 hu)) (dv_l (i := 3) (by kernel_rfl) (by kernel_rfl)) (dv_l (i := 1) (by kernel_rfl) (by kernel_rfl)) rfl) ?_ ?_
    · refine dss_cons ?_ ?_
      · exact ds_asg (de_if (dt_cmp (od_eq (u64 hu)) (dv_l (i := 4) (by kernel_rfl) (by kernel_rfl)) (dv_l (i := 1) (by kernel_rfl) (by kernel_rfl)) rfl) (de_sub (u1 hu) (de_fld (T.q_Book.fld T.f_Book_ups) (dv_l (i := 0) (by kernel_rfl) (by kernel_rfl))) (dv_l (i := 1) (by kernel_rfl) (by kernel_rfl)) (fun _ _ => by rfl)) (dv_l (i := 4) (by kernel_rfl) (by kernel_rfl))) (dg_l (i := 5) nd_p_Book_without (by kernel_rfl) (by kernel_rfl))
      refine dss_one ?_
      exact ds_expr (de_bmL PySem.F.plainAttrs_list PySem.F.slot_list_append PySem.F.type_list_append md_append (dv_l (i := 2) (by kernel_rfl) (by kernel_rfl)) (da_cons (de_bin od_sub (dv_l (i := 5) (by kernel_rfl) (by kernel_rfl)) (de_callTy cd_int (gl_of (by kernel_rfl)) T.z_int bb_int (da_cons (de_cmp (od_gt) (dv_l (i := 5) (by kernel_rfl) (by kernel_rfl)) (dv_l (i := 1) (by kernel_rfl) (by kernel_rfl)) rfl) (da_nil)))) (da_nil)))
    · exact dss_nil
  refine dss_one ?_
  exact ds_ret (de_makeX k_p_Book___init__0 lt (hr.mono (by decide)) (gl_of (by kernel_rfl)) (da_cons (de_callTy cd_tup (gl_of (by kernel_rfl)) T.z_tuple bb_tuple (da_cons (dv_l (i := 2) (by kernel_rfl) (by kernel_rfl)) (da_nil))) (da_cons (de_tup (da_star (de_slice (de_fld (T.q_Book.fld T.f_Book_buys) (dv_l (i := 0) (by kernel_rfl) (by kernel_rfl))) (dp_none) (dp_some (dv_l (i := 1) (by kernel_rfl) (by kernel_rfl)))) (da_star (de_slice (de_fld (T.q_Book.fld T.f_Book_buys) (dv_l (i := 0) (by kernel_rfl) (by kernel_rfl))) (dp_some (de_bin od_add (dv_l (i := 1) (by kernel_rfl) (by kernel_rfl)) (de_int))) (dp_none)) (da_nil)))) (da_nil))))
theorem sc_p_Desk_leave : FnScope ["self", "member"] ["self", "member"] (defScope (clsAt (top 52) 6)) := ⟨rfl, rfl, rfl, by decide +kernel, rfl, by decide +kernel, by decide +kernel⟩
theorem ok_p_Desk_leave {f : Addr} {fd : FuncData} {dV : Value} (F : FunV K "leave" "Desk.leave" (clsAt (top 52) 6) dV f fd) (T : Tx K mg c) (m_p_Desk_check_member : MOkX P w K mg base false 3 c.Desk "check_member" (f_p_Desk_check_member c) 2) (m_p_Desk_change : MOkX P w K mg base false 1 c.Desk "change" (f_p_Desk_change c) 2) (m_p_Book_without : MOkX P w K mg base false 6 c.Book "without" (f_p_Book_without c) 2) : FnX P w K mg base false 7 f fd ["self", "member"] (fnE 2 2 3 (b_p_Desk_leave c)) 2 := by
  refine fnX_ok (N := ["self", "member"]) (k := 6) F sc_p_Desk_leave fun cdv A outer s H E gd hr tk po => ?_
  have hu := u128 hr
  have lt := lets_of tk
  refine dss_cons ?_ ?_
  · exact ds_expr (de_methX m_p_Desk_check_member gd0 lt (hr.mono (by decide)) (dv_l (i := 0) (by kernel_rfl) (by kernel_rfl)) (da_cons (dv_l (i := 1) (by kernel_rfl) (by kernel_rfl)) (da_nil)))
  refine dss_one ?_
  exact ds_expr (de_methX m_p_Desk_change gd0 lt (hr.mono (by decide)) (dv_l (i := 0) (by kernel_rfl) (by kernel_rfl)) (da_cons (de_methX m_p_Book_without gd0 lt (hr.mono (by decide)) (de_fld (T.q_Desk.fld T.f_Desk_book) (dv_l (i := 0) (by kernel_rfl) (by kernel_rfl))) (da_cons (dv_l (i := 1) (by kernel_rfl) (by kernel_rfl)) (da_nil))) (da_nil)))
theorem sc_w_without : FnScope ["_law_w", "_law_k", "_law_heads", "_law_costs", "_law_at", "_law_up_now", "_law_head"] ["_law_w", "_law_k"] (defScope (top 58)) := ⟨rfl, rfl, rfl, by decide +kernel, rfl, by decide +kernel, by decide +kernel⟩
theorem nd_w_without : (["_law_w", "_law_k", "_law_heads", "_law_costs", "_law_at", "_law_up_now", "_law_head"] : List Str).Nodup := by decide +kernel
theorem ok_w_without {f : Addr} {fd : FuncData} {dV : Value} (F : FunV K "_law_without" "_law_without" (top 58) dV f fd) (T : Tx K mg c) : FnX P w K mg base false 1 f fd ["_law_w", "_law_k"] (fnE 2 7 3 (b_w_without c)) 2 := by
  refine fnX_ok (N := ["_law_w", "_law_k", "_law_heads", "_law_costs", "_law_at", "_law_up_now", "_law_head"]) (k := 0) F sc_w_without fun cdv A outer s H E gd hr tk po => ?_
  have hu := u128 hr
  have lt := lets_of tk
  refine dss_cons ?_ ?_
  · exact ds_par (i := 2) (j := 3) rfl nd_w_without rfl rfl (by decide) rfl rfl (da_cons (de_mk (df_lst (da_nil))) (da_cons (de_mk (df_lst (da_nil))) (da_nil))) rfl
  refine dss_cons ?_ ?_
  · refine ds_for (vs := [4, 5]) po rfl (di_enum (gl_of (by kernel_rfl)) T.z_enumerate (de_sub (u1 hu) (dv_l (i := 0) (by kernel_rfl) (by kernel_rfl)) (de_str) (fun _ _ => by rfl))) (pg_seq rfl (pgs_cons (pg_l (i := 4) nd_w_without (by kernel_rfl) (by kernel_rfl)) (pgs_cons (pg_l (i := 5) nd_w_without (by kernel_rfl) (by kernel_rfl)) (pgs_nil)))) (good_tup (good_cons (good_name 4 (by decide)) (good_cons (good_name 5 (by decide)) (good_nil)))) ?_
    refine dss_one ?_
    refine ds_if (dt_cmp (od_ne (u64 hu)) (dv_l (i := 4) (by kernel_rfl) (by kernel_rfl)) (dv_l (i := 1) (by kernel_rfl) (by kernel_rfl)) rfl) ?_ ?_
    · refine dss_cons ?_ ?_
      · exact ds_asg (de_if (dt_cmp (od_eq (u64 hu)) (dv_l (i := 5) (by kernel_rfl) (by kernel_rfl)) (dv_l (i := 1) (by kernel_rfl) (by kernel_rfl)) rfl) (de_sub (u1 hu) (de_sub (u1 hu) (dv_l (i := 0) (by kernel_rfl) (by kernel_rfl)) (de_str) (fun _ _ => by rfl)) (dv_l (i := 1) (by kernel_rfl) (by kernel_rfl)) (fun _ _ => by rfl)) (dv_l (i := 5) (by kernel_rfl) (by kernel_rfl))) (dg_l (i := 6) nd_w_without (by kernel_rfl) (by kernel_rfl))
      refine dss_cons ?_ ?_
      · exact ds_expr (de_bmL PySem.F.plainAttrs_list PySem.F.slot_list_append PySem.F.type_list_append md_append (dv_l (i := 2) (by kernel_rfl) (by kernel_rfl)) (da_cons (de_bin od_sub (dv_l (i := 6) (by kernel_rfl) (by kernel_rfl)) (de_callTy cd_int (gl_of (by kernel_rfl)) T.z_int bb_int (da_cons (de_cmp (od_gt) (dv_l (i := 6) (by kernel_rfl) (by kernel_rfl)) (dv_l (i := 1) (by kernel_rfl) (by kernel_rfl)) rfl) (da_nil)))) (da_nil)))
      refine dss_one ?_
      exact ds_expr (de_bmL PySem.F.plainAttrs_list PySem.F.slot_list_append PySem.F.type_list_append md_append (dv_l (i := 3) (by kernel_rfl) (by kernel_rfl)) (da_cons (de_sub (u1 hu) (de_sub (u1 hu) (dv_l (i := 0) (by kernel_rfl) (by kernel_rfl)) (de_str) (fun _ _ => by rfl)) (dv_l (i := 4) (by kernel_rfl) (by kernel_rfl)) (fun _ _ => by rfl)) (da_nil)))
    · exact dss_nil
  refine dss_one ?_
  exact ds_ret (de_dict false (dps_cons (de_str) (dv_l (i := 2) (by kernel_rfl) (by kernel_rfl)) (dps_cons (de_str) (dv_l (i := 3) (by kernel_rfl) (by kernel_rfl)) (dps_nil))) rfl rfl (by simp) (by decide))
theorem sc_w_change : FnScope ["_law_deck_here", "_law_desk", "_law_w", "_law_low", "_law_kind", "_law_size", "_law_head", "_law_cost", "_law_k"] ["_law_deck_here", "_law_desk", "_law_w", "_law_low"] (defScope (top 60)) := ⟨rfl, rfl, rfl, by decide +kernel, rfl, by decide +kernel, by decide +kernel⟩
theorem nd_w_change : (["_law_deck_here", "_law_desk", "_law_w", "_law_low", "_law_kind", "_law_size", "_law_head", "_law_cost", "_law_k"] : List Str).Nodup := by decide +kernel
theorem ok_w_change {f : Addr} {fd : FuncData} {dV : Value} (F : FunV K "_law_change" "_law_change" (top 60) dV f fd) (T : Tx K mg c) (d_w_draw_3 : FOkX P w K mg base false 1 "_law_draw" (f_w_draw_3 c zz) 2 []) (m_p_Desk_join : MOkX P w K mg base false 7 c.Desk "join" (f_p_Desk_join c) 3) (m_p_Desk_buy : MOkX P w K mg base false 7 c.Desk "buy" (f_p_Desk_buy c) 3) (m_p_Desk_leave : MOkX P w K mg base false 7 c.Desk "leave" (f_p_Desk_leave c) 2) (d_w_without : FOkX P w K mg base false 1 "_law_without" (f_w_without c) 2 []) : FnX P w K mg base false 8 f fd ["_law_deck_here", "_law_desk", "_law_w", "_law_low"] (fnE 4 9 3 (b_w_change c)) 4 := by
  refine fnX_ok (N := ["_law_deck_here", "_law_desk", "_law_w", "_law_low", "_law_kind", "_law_size", "_law_head", "_law_cost", "_law_k"]) (k := 7) F sc_w_change fun cdv A outer s H E gd hr tk po => ?_
  have hu := u128 hr
  have lt := lets_of tk
  refine dss_cons ?_ ?_
  · exact ds_par (i := 4) (j := 5) rfl nd_w_change rfl rfl (by decide) rfl rfl (da_cons (de_callX d_w_draw_3 gd0 lt (hr.mono (by decide)) (gl_of (by kernel_rfl)) (da_cons (dv_l (i := 0) (by kernel_rfl) (by kernel_rfl)) (da_cons (de_int) (da_nil)))) (da_cons (de_callB (cd_len) (gl_of (by kernel_rfl)) T.z_len bb_len (da_cons (de_sub (u1 hu) (dv_l (i := 2) (by kernel_rfl) (by kernel_rfl)) (de_str) (fun _ _ => by rfl)) (da_nil))) (da_nil))) rfl
  refine dss_cons ?_ ?_
  · refine ds_if (dt_w (dw_or (dt_cmp (od_eq (u64 hu)) (dv_l (i := 5) (by kernel_rfl) (by kernel_rfl)) (de_int) rfl) (dw_or1 (dt_cmp (od_lt) (dv_l (i := 4) (by kernel_rfl) (by kernel_rfl)) (de_int) rfl)))) ?_ ?_
    · refine dss_cons ?_ ?_
      · exact ds_par (i := 6) (j := 7) rfl nd_w_change rfl rfl (by decide) rfl rfl (da_cons (de_bin od_sub (de_callX d_w_draw_3 gd0 lt (hr.mono (by decide)) (gl_of (by kernel_rfl)) (da_cons (dv_l (i := 0) (by kernel_rfl) (by kernel_rfl)) (da_cons (de_bin od_add (dv_l (i := 5) (by kernel_rfl) (by kernel_rfl)) (de_int)) (da_nil)))) (de_int)) (da_cons (de_bin od_add (dv_l (i := 3) (by kernel_rfl) (by kernel_rfl)) (de_callX d_w_draw_3 gd0 lt (hr.mono (by decide)) (gl_of (by kernel_rfl)) (da_cons (dv_l (i := 0) (by kernel_rfl) (by kernel_rfl)) (da_cons (de_int) (da_nil))))) (da_nil))) rfl
      refine dss_cons ?_ ?_
      · exact ds_expr (de_methX m_p_Desk_join gd0 lt (hr.mono (by decide)) (dv_l (i := 1) (by kernel_rfl) (by kernel_rfl)) (da_cons (dv_l (i := 6) (by kernel_rfl) (by kernel_rfl)) (da_cons (dv_l (i := 7) (by kernel_rfl) (by kernel_rfl)) (da_nil))))
      refine dss_one ?_
      exact ds_ret (de_dict false (dps_cons (de_str) (de_fr (df_cat (de_sub (u1 hu) (dv_l (i := 2) (by kernel_rfl) (by kernel_rfl)) (de_str) (fun _ _ => by rfl)) (de_fr (df_lst (da_cons (dv_l (i := 6) (by kernel_rfl) (by kernel_rfl)) (da_nil)))))) (dps_cons (de_str) (de_fr (df_cat (de_sub (u1 hu) (dv_l (i := 2) (by kernel_rfl) (by kernel_rfl)) (de_str) (fun _ _ => by rfl)) (de_fr (df_lst (da_cons (dv_l (i := 7) (by kernel_rfl) (by kernel_rfl)) (da_nil)))))) (dps_nil))) rfl rfl (by simp) (by decide))
    · exact dss_nil
  refine dss_cons ?_ ?_
  · exact ds_asg (de_callX d_w_draw_3 gd0 lt (hr.mono (by decide)) (gl_of (by kernel_rfl)) (da_cons (dv_l (i := 0) (by kernel_rfl) (by kernel_rfl)) (da_cons (dv_l (i := 5) (by kernel_rfl) (by kernel_rfl)) (da_nil)))) (dg_l (i := 8) nd_w_change (by kernel_rfl) (by kernel_rfl))
  refine dss_cons ?_ ?_
  · refine ds_if (dt_cmp (od_eq (u64 hu)) (dv_l (i := 4) (by kernel_rfl) (by kernel_rfl)) (de_int) rfl) ?_ ?_
    · refine dss_cons ?_ ?_
      · exact ds_expr (de_methX m_p_Desk_buy gd0 lt (hr.mono (by decide)) (dv_l (i := 1) (by kernel_rfl) (by kernel_rfl)) (da_cons (dv_l (i := 8) (by kernel_rfl) (by kernel_rfl)) (da_cons (de_int) (da_nil))))
      refine dss_one ?_
      exact ds_ret (de_dict false (dps_cons (de_str) (de_sub (u1 hu) (dv_l (i := 2) (by kernel_rfl) (by kernel_rfl)) (de_str) (fun _ _ => by rfl)) (dps_cons (de_str) (de_fr (df_cat (de_fr (df_cat (de_fr (df_slice (de_sub (u1 hu) (dv_l (i := 2) (by kernel_rfl) (by kernel_rfl)) (de_str) (fun _ _ => by rfl)) (dp_none) (dp_some (dv_l (i := 8) (by kernel_rfl) (by kernel_rfl))))) (de_fr (df_lst (da_cons (de_bin od_add (de_sub (u1 hu) (de_sub (u1 hu) (dv_l (i := 2) (by kernel_rfl) (by kernel_rfl)) (de_str) (fun _ _ => by rfl)) (dv_l (i := 8) (by kernel_rfl) (by kernel_rfl)) (fun _ _ => by rfl)) (de_int)) (da_nil)))))) (de_fr (df_slice (de_sub (u1 hu) (dv_l (i := 2) (by kernel_rfl) (by kernel_rfl)) (de_str) (fun _ _ => by rfl)) (dp_some (de_bin od_add (dv_l (i := 8) (by kernel_rfl) (by kernel_rfl)) (de_int))) (dp_none))))) (dps_nil))) rfl rfl (by simp) (by decide))
    · exact dss_nil
  refine dss_cons ?_ ?_
  · exact ds_expr (de_methX m_p_Desk_leave gd0 lt (hr.mono (by decide)) (dv_l (i := 1) (by kernel_rfl) (by kernel_rfl)) (da_cons (dv_l (i := 8) (by kernel_rfl) (by kernel_rfl)) (da_nil)))
  refine dss_one ?_
  exact ds_ret (de_callX d_w_without gd0 lt (hr.mono (by decide)) (gl_of (by kernel_rfl)) (da_cons (dv_l (i := 2) (by kernel_rfl) (by kernel_rfl)) (da_cons (dv_l (i := 8) (by kernel_rfl) (by kernel_rfl)) (da_nil))))
theorem sc_w_deed_right : FnScope ["_law_deck_here", "_law_desk", "_law_low", "_law_piles", "_law_kind", "_law_due", "_law_fresh"] ["_law_deck_here", "_law_desk", "_law_low", "_law_piles"] (defScope (top 62)) := ⟨rfl, rfl, rfl, by decide +kernel, rfl, by decide +kernel, by decide +kernel⟩
theorem nd_w_deed_right : (["_law_deck_here", "_law_desk", "_law_low", "_law_piles", "_law_kind", "_law_due", "_law_fresh"] : List Str).Nodup := by decide +kernel
theorem ok_w_deed_right {f : Addr} {fd : FuncData} {dV : Value} (F : FunV K "_law_deed_right" "_law_deed_right" (top 62) dV f fd) (T : Tx K mg c) (hb : SysB base) (d_w_draw_3 : FOkX P w K mg base false 1 "_law_draw" (f_w_draw_3 c zz) 2 []) (d_w_heard : FOkX P w K mg base true 2 "_law_heard" (f_w_heard c) 2 []) (d_w_change : FOkX P w K mg base false 8 "_law_change" (f_w_change c) 4 []) : FnX P w K mg base true 9 f fd ["_law_deck_here", "_law_desk", "_law_low", "_law_piles"] (fnE 4 7 3 (b_w_deed_right c)) 4 := by
  refine fnX_ok (N := ["_law_deck_here", "_law_desk", "_law_low", "_law_piles", "_law_kind", "_law_due", "_law_fresh"]) (k := 8) F sc_w_deed_right fun cdv A outer s H E gd hr tk po => ?_
  have hu := u128 hr
  have lt := lets_of tk
  refine dss_cons ?_ ?_
  · exact ds_asg (de_callX d_w_draw_3 gd0 lt (hr.mono (by decide)) (gl_of (by kernel_rfl)) (da_cons (dv_l (i := 0) (by kernel_rfl) (by kernel_rfl)) (da_cons (de_int) (da_nil)))) (dg_l (i := 4) nd_w_deed_right (by kernel_rfl) (by kernel_rfl))
  refine dss_cons ?_ ?_
  · refine ds_if (dt_cmp (od_lt) (dv_l (i := 4) (by kernel_rfl) (by kernel_rfl)) (de_int) rfl) ?_ ?_
    · refine dss_cons ?_ ?_
      · exact ds_asg (de_if (dt_cmp (od_ne (u64 hu)) (de_sub (u1 hu) (dv_l (i := 3) (by kernel_rfl) (by kernel_rfl)) (de_str) (fun _ _ => by rfl)) (de_fr (df_lst (da_nil))) rfl) (de_str) (de_str)) (dg_l (i := 5) nd_w_deed_right (by kernel_rfl) (by kernel_rfl))
      refine dss_cons ?_ ?_
      · refine ds_if (dt_cmp (od_ne (u64 hu)) (de_sub (u1 hu) (dv_l (i := 3) (by kernel_rfl) (by kernel_rfl)) (de_str) (fun _ _ => by rfl)) (de_fr (df_lst (da_nil))) rfl) ?_ ?_
        · refine dss_cons ?_ ?_
          · exact ds_expr (de_bmL PySem.F.plainAttrs_list PySem.F.slot_list_append PySem.F.type_list_append md_append (de_sub (u1 hu) (dv_l (i := 3) (by kernel_rfl) (by kernel_rfl)) (de_str) (fun _ _ => by rfl)) (da_cons (de_sub (u1 hu) (dv_l (i := 3) (by kernel_rfl) (by kernel_rfl)) (de_str) (fun _ _ => by rfl)) (da_nil)))
          refine dss_one ?_
          exact ds_asg (de_bmL0 PySem.F.plainAttrs_list PySem.F.slot_list_pop PySem.F.type_list_pop md_pop (de_sub (u1 hu) (dv_l (i := 3) (by kernel_rfl) (by kernel_rfl)) (de_str) (fun _ _ => by rfl))) (dg_sub (u1 hu) (dv_l (i := 3) (by kernel_rfl) (by kernel_rfl)) (de_str))
        · exact dss_nil
      refine dss_one ?_
      exact ds_ret (de_cmp (od_eq (u64 hu)) (de_callX d_w_heard gd lt (hr.mono (by decide)) (gl_of (by kernel_rfl)) (da_cons (dv_l (i := 1) (by kernel_rfl) (by kernel_rfl)) (da_cons (de_str) (da_nil)))) (dv_l (i := 5) (by kernel_rfl) (by kernel_rfl)) rfl)
    · exact dss_nil
  refine dss_cons ?_ ?_
  · refine ds_if (dt_cmp (od_eq (u64 hu)) (dv_l (i := 4) (by kernel_rfl) (by kernel_rfl)) (de_int) rfl) ?_ ?_
    · refine dss_cons ?_ ?_
      · exact ds_asg (de_if (dt_cmp (od_ne (u64 hu)) (de_sub (u1 hu) (dv_l (i := 3) (by kernel_rfl) (by kernel_rfl)) (de_str) (fun _ _ => by rfl)) (de_fr (df_lst (da_nil))) rfl) (de_str) (de_str)) (dg_l (i := 5) nd_w_deed_right (by kernel_rfl) (by kernel_rfl))
      refine dss_cons ?_ ?_
      · refine ds_if (dt_cmp (od_ne (u64 hu)) (de_sub (u1 hu) (dv_l (i := 3) (by kernel_rfl) (by kernel_rfl)) (de_str) (fun _ _ => by rfl)) (de_fr (df_lst (da_nil))) rfl) ?_ ?_
        · refine dss_cons ?_ ?_
          · exact ds_expr (de_bmL PySem.F.plainAttrs_list PySem.F.slot_list_append PySem.F.type_list_append md_append (de_sub (u1 hu) (dv_l (i := 3) (by kernel_rfl) (by kernel_rfl)) (de_str) (fun _ _ => by rfl)) (da_cons (de_sub (u1 hu) (dv_l (i := 3) (by kernel_rfl) (by kernel_rfl)) (de_str) (fun _ _ => by rfl)) (da_nil)))
          refine dss_one ?_
          exact ds_asg (de_bmL0 PySem.F.plainAttrs_list PySem.F.slot_list_pop PySem.F.type_list_pop md_pop (de_sub (u1 hu) (dv_l (i := 3) (by kernel_rfl) (by kernel_rfl)) (de_str) (fun _ _ => by rfl))) (dg_sub (u1 hu) (dv_l (i := 3) (by kernel_rfl) (by kernel_rfl)) (de_str))
        · exact dss_nil
      refine dss_one ?_
      exact ds_ret (de_cmp (od_eq (u64 hu)) (de_callX d_w_heard gd lt (hr.mono (by decide)) (gl_of (by kernel_rfl)) (da_cons (dv_l (i := 1) (by kernel_rfl) (by kernel_rfl)) (da_cons (de_str) (da_nil)))) (dv_l (i := 5) (by kernel_rfl) (by kernel_rfl)) rfl)
    · exact dss_nil
  refine dss_cons ?_ ?_
  · exact ds_asg (de_callX d_w_change gd0 lt (hr.mono (by decide)) (gl_of (by kernel_rfl)) (da_cons (dv_l (i := 0) (by kernel_rfl) (by kernel_rfl)) (da_cons (dv_l (i := 1) (by kernel_rfl) (by kernel_rfl)) (da_cons (de_sub (u1 hu) (dv_l (i := 3) (by kernel_rfl) (by kernel_rfl)) (de_str) (fun _ _ => by rfl)) (da_cons (dv_l (i := 2) (by kernel_rfl) (by kernel_rfl)) (da_nil)))))) (dg_l (i := 6) nd_w_deed_right (by kernel_rfl) (by kernel_rfl))
  refine dss_cons ?_ ?_
  · exact ds_expr (de_bmL PySem.F.plainAttrs_list PySem.F.slot_list_append PySem.F.type_list_append md_append (de_sub (u1 hu) (dv_l (i := 3) (by kernel_rfl) (by kernel_rfl)) (de_str) (fun _ _ => by rfl)) (da_cons (de_sub (u1 hu) (dv_l (i := 3) (by kernel_rfl) (by kernel_rfl)) (de_str) (fun _ _ => by rfl)) (da_nil)))
  refine dss_cons ?_ ?_
  · exact ds_asg (de_tup (da_cons (dv_l (i := 6) (by kernel_rfl) (by kernel_rfl)) (da_cons (de_mk (df_lst (da_nil))) (da_nil)))) (dg_tup rfl (dgs_cons (dg_sub (u1 hu) (dv_l (i := 3) (by kernel_rfl) (by kernel_rfl)) (de_str)) (dgs_cons (dg_sub (u1 hu) (dv_l (i := 3) (by kernel_rfl) (by kernel_rfl)) (de_str)) (dgs_nil))))
  refine dss_one ?_
  exact ds_ret (de_bl)
theorem sc_p_Desk___len__ : FnScope ["self"] ["self"] (defScope (clsAt (top 52) 1)) := ⟨rfl, rfl, rfl, by decide +kernel, rfl, by decide +kernel, by decide +kernel⟩
theorem ok_p_Desk___len__ {f : Addr} {fd : FuncData} {dV : Value} (F : FunV K "__len__" "Desk.__len__" (clsAt (top 52) 1) dV f fd) (T : Tx K mg c) : FnX P w K mg base false 1 f fd ["self"] (fnE 1 1 3 (b_p_Desk___len__ c)) 1 := by
  refine fnX_ok (N := ["self"]) (k := 0) F sc_p_Desk___len__ fun cdv A outer s H E gd hr tk po => ?_
  have hu := u128 hr
  have lt := lets_of tk
  refine dss_one ?_
  exact ds_ret (de_callB (cd_len) (gl_of (by kernel_rfl)) T.z_len bb_len (da_cons (de_fld (T.q_Desk.fld T.f_Desk_books_ahead) (dv_l (i := 0) (by kernel_rfl) (by kernel_rfl))) (da_nil)))
theorem sc_w_is_as : FnScope ["_law_desk", "_law_w", "_law_ahead"] ["_law_desk", "_law_w", "_law_ahead"] (defScope (top 61)) := ⟨rfl, rfl, rfl, by decide +kernel, rfl, by decide +kernel, by decide +kernel⟩
theorem ok_w_is_as {f : Addr} {fd : FuncData} {dV : Value} (F : FunV K "_law_is_as" "_law_is_as" (top 61) dV f fd) (T : Tx K mg c) (hb : SysB base) (m_p_Desk___len__ : MOkX P w K mg base false 1 c.Desk "__len__" (f_p_Desk___len__ c) 1) : FnX P w K mg base true 3 f fd ["_law_desk", "_law_w", "_law_ahead"] (fnE 3 3 3 (b_w_is_as c)) 3 := by
  refine fnX_ok (N := ["_law_desk", "_law_w", "_law_ahead"]) (k := 2) F sc_w_is_as fun cdv A outer s H E gd hr tk po => ?_
  have hu := u128 hr
  have lt := lets_of tk
  refine dss_one ?_
  exact ds_ret (de_cmp (od_eq (u64 hu)) (de_callB (cd_repr (gd rfl) hu hb) (gl_of (by kernel_rfl)) T.z_repr bb_repr (da_cons (de_fr (df_lst (da_cons (de_fld (T.q_Book.fld T.f_Book_ups) (de_fld (T.q_Desk.fld T.f_Desk_book) (dv_l (i := 0) (by kernel_rfl) (by kernel_rfl)))) (da_cons (de_fld (T.q_Book.fld T.f_Book_buys) (de_fld (T.q_Desk.fld T.f_Desk_book) (dv_l (i := 0) (by kernel_rfl) (by kernel_rfl)))) (da_cons (de_callB (cd_lenX m_p_Desk___len__ (hr.mono (by decide))) (gl_of (by kernel_rfl)) T.z_len bb_len (da_cons (dv_l (i := 0) (by kernel_rfl) (by kernel_rfl)) (da_nil))) (da_nil)))))) (da_nil))) (de_callB (cd_repr (gd rfl) hu hb) (gl_of (by kernel_rfl)) T.z_repr bb_repr (da_cons (de_fr (df_lst (da_cons (de_callTy cd_tup (gl_of (by kernel_rfl)) T.z_tuple bb_tuple (da_cons (de_sub (u1 hu) (dv_l (i := 1) (by kernel_rfl) (by kernel_rfl)) (de_str) (fun _ _ => by rfl)) (da_nil))) (da_cons (de_callTy cd_tup (gl_of (by kernel_rfl)) T.z_tuple bb_tuple (da_cons (de_sub (u1 hu) (dv_l (i := 1) (by kernel_rfl) (by kernel_rfl)) (de_str) (fun _ _ => by rfl)) (da_nil))) (da_cons (de_callB (cd_len) (gl_of (by kernel_rfl)) T.z_len bb_len (da_cons (dv_l (i := 2) (by kernel_rfl) (by kernel_rfl)) (da_nil))) (da_nil)))))) (da_nil))) rfl)
theorem sc_w_right : FnScope ["_law_deck_here", "_law_count", "_law_lines_here", "_law_desk", "_law_piles", "_law_go", "_law_every", "_law_k", "_law_w", "_law_due"] ["_law_deck_here", "_law_count"] (defScope (top 63)) := ⟨rfl, rfl, rfl, by decide +kernel, rfl, by decide +kernel, by decide +kernel⟩
theorem nd_w_right : (["_law_deck_here", "_law_count", "_law_lines_here", "_law_desk", "_law_piles", "_law_go", "_law_every", "_law_k", "_law_w", "_law_due"] : List Str).Nodup := by decide +kernel
theorem ok_w_right {f : Addr} {fd : FuncData} {dV : Value} (F : FunV K "_law_right" "_law_right" (top 63) dV f fd) (T : Tx K mg c) (hb : SysB base) (d_w_lines : FOkX P w K mg base false 3 "_law_lines" (f_w_lines c zz) 1 []) (k_p_Desk___init__0 : COkX P w K mg base 6 "Desk" c.Desk (f_p_Desk___init__ c) 2 []) (k_p_Rule___init__0 : COkX P w K mg base 4 "Rule" c.Rule (f_p_Rule___init__ c) 2 []) (d_w_deed_right : FOkX P w K mg base true 9 "_law_deed_right" (f_w_deed_right c) 4 []) (d_w_is_as : FOkX P w K mg base true 3 "_law_is_as" (f_w_is_as c) 3 []) (d_w_heard : FOkX P w K mg base true 2 "_law_heard" (f_w_heard c) 2 []) : FnX P w K mg base true 10 f fd ["_law_deck_here", "_law_count"] (fnE 2 10 3 (b_w_right c)) 2 := by
  refine fnX_ok (N := ["_law_deck_here", "_law_count", "_law_lines_here", "_law_desk", "_law_piles", "_law_go", "_law_every", "_law_k", "_law_w", "_law_due"]) (k := 9) F sc_w_right fun cdv A outer s H E gd hr tk po => ?_
  have hu := u128 hr
  have lt := lets_of tk
  refine dss_cons ?_ ?_
  · exact ds_asg (de_callX d_w_lines gd0 lt (hr.mono (by decide)) (gl_of (by kernel_rfl)) (da_cons (dv_l (i := 0) (by kernel_rfl) (by kernel_rfl)) (da_nil))) (dg_l (i := 2) nd_w_right (by kernel_rfl) (by kernel_rfl))
  refine dss_cons ?_ ?_
  · exact ds_par (i := 3) (j := 4) rfl nd_w_right rfl rfl (by decide) rfl rfl (da_cons (de_makeX k_p_Desk___init__0 lt (hr.mono (by decide)) (gl_of (by kernel_rfl)) (da_cons (de_makeX k_p_Rule___init__0 lt (hr.mono (by decide)) (gl_of (by kernel_rfl)) (da_cons (dv_l (i := 2) (by kernel_rfl) (by kernel_rfl)) (da_nil))) (da_nil))) (da_cons (de_dict true (dps_cons (de_str) (de_mk (df_lst (da_nil))) (dps_cons (de_str) (de_dict false (dps_cons (de_str) (de_fr (df_lst (da_nil))) (dps_cons (de_str) (de_fr (df_lst (da_nil))) (dps_nil))) rfl rfl (by simp) (by decide)) (dps_cons (de_str) (de_mk (df_lst (da_nil))) (dps_nil)))) rfl rfl (by simp) (by decide)) (da_nil))) rfl
  refine dss_cons ?_ ?_
  · refine ds_for (vs := [5]) po rfl (di_range1 (gl_of (by kernel_rfl)) T.z_range (dv_l (i := 1) (by kernel_rfl) (by kernel_rfl))) (pg_l (i := 5) nd_w_right (by kernel_rfl) (by kernel_rfl)) (good_name 5 (by decide)) ?_
    refine dss_one ?_
    refine ds_if (dt_w (dw_or (dt_not (dt_val (de_callX d_w_deed_right gd lt (hr.mono (by decide)) (gl_of (by kernel_rfl)) (da_cons (dv_l (i := 0) (by kernel_rfl) (by kernel_rfl)) (da_cons (dv_l (i := 3) (by kernel_rfl) (by kernel_rfl)) (da_cons (de_sub (u1 hu) (de_sub (u1 hu) (dv_l (i := 2) (by kernel_rfl) (by kernel_rfl)) (de_int) (fun _ _ => by rfl)) (de_int) (fun _ _ => by rfl)) (da_cons (dv_l (i := 4) (by kernel_rfl) (by kernel_rfl)) (da_nil)))))))) (dw_or1 (dt_not (dt_val (de_callX d_w_is_as gd lt (hr.mono (by decide)) (gl_of (by kernel_rfl)) (da_cons (dv_l (i := 3) (by kernel_rfl) (by kernel_rfl)) (da_cons (de_sub (u1 hu) (dv_l (i := 4) (by kernel_rfl) (by kernel_rfl)) (de_str) (fun _ _ => by rfl)) (da_cons (de_sub (u1 hu) (dv_l (i := 4) (by kernel_rfl) (by kernel_rfl)) (de_str) (fun _ _ => by rfl)) (da_nil)))))))))) ?_ ?_
    · refine dss_one ?_
      exact ds_ret (de_bl)
    · exact dss_nil
  refine dss_cons ?_ ?_
  · exact ds_asg (de_fr (df_cat (de_fr (df_cat (de_sub (u1 hu) (dv_l (i := 4) (by kernel_rfl) (by kernel_rfl)) (de_str) (fun _ _ => by rfl)) (de_fr (df_lst (da_cons (de_sub (u1 hu) (dv_l (i := 4) (by kernel_rfl) (by kernel_rfl)) (de_str) (fun _ _ => by rfl)) (da_nil)))))) (de_fr (df_rev (de_sub (u1 hu) (dv_l (i := 4) (by kernel_rfl) (by kernel_rfl)) (de_str) (fun _ _ => by rfl)))))) (dg_l (i := 6) nd_w_right (by kernel_rfl) (by kernel_rfl))
  refine dss_cons ?_ ?_
  · refine ds_for (vs := [7]) po rfl (di_range1 (gl_of (by kernel_rfl)) T.z_range (de_callB (cd_len) (gl_of (by kernel_rfl)) T.z_len bb_len (da_cons (de_sub (u1 hu) (dv_l (i := 4) (by kernel_rfl) (by kernel_rfl)) (de_str) (fun _ _ => by rfl)) (da_nil)))) (pg_l (i := 7) nd_w_right (by kernel_rfl) (by kernel_rfl)) (good_name 7 (by decide)) ?_
    refine dss_one ?_
    refine ds_if (dt_cmp (od_ne (u64 hu)) (de_callX d_w_heard gd lt (hr.mono (by decide)) (gl_of (by kernel_rfl)) (da_cons (dv_l (i := 3) (by kernel_rfl) (by kernel_rfl)) (da_cons (de_str) (da_nil)))) (de_str) rfl) ?_ ?_
    · refine dss_one ?_
      exact ds_ret (de_bl)
    · exact dss_nil
  refine dss_cons ?_ ?_
  · refine ds_for (vs := [7, 8]) po rfl (di_enum (gl_of (by kernel_rfl)) T.z_enumerate (dv_l (i := 6) (by kernel_rfl) (by kernel_rfl))) (pg_seq rfl (pgs_cons (pg_l (i := 7) nd_w_right (by kernel_rfl) (by kernel_rfl)) (pgs_cons (pg_l (i := 8) nd_w_right (by kernel_rfl) (by kernel_rfl)) (pgs_nil)))) (good_tup (good_cons (good_name 7 (by decide)) (good_cons (good_name 8 (by decide)) (good_nil)))) ?_
    refine dss_cons ?_ ?_
    · exact ds_asg (de_if (dt_cmp (od_lt) (de_bin od_add (dv_l (i := 7) (by kernel_rfl) (by kernel_rfl)) (de_int)) (de_callB (cd_len) (gl_of (by kernel_rfl)) T.z_len bb_len (da_cons (dv_l (i := 6) (by kernel_rfl) (by kernel_rfl)) (da_nil))) rfl) (de_str) (de_str)) (dg_l (i := 9) nd_w_right (by kernel_rfl) (by kernel_rfl))
    refine dss_one ?_
    refine ds_if (dt_w (dw_or (dt_not (dt_val (de_callX d_w_is_as gd lt (hr.mono (by decide)) (gl_of (by kernel_rfl)) (da_cons (dv_l (i := 3) (by kernel_rfl) (by kernel_rfl)) (da_cons (dv_l (i := 8) (by kernel_rfl) (by kernel_rfl)) (da_cons (de_fr (df_slice (dv_l (i := 6) (by kernel_rfl) (by kernel_rfl)) (dp_none) (dp_some (dv_l (i := 7) (by kernel_rfl) (by kernel_rfl))))) (da_nil))))))) (dw_or1 (dt_cmp (od_ne (u64 hu)) (de_callX d_w_heard gd lt (hr.mono (by decide)) (gl_of (by kernel_rfl)) (da_cons (dv_l (i := 3) (by kernel_rfl) (by kernel_rfl)) (da_cons (de_str) (da_nil)))) (dv_l (i := 9) (by kernel_rfl) (by kernel_rfl)) rfl)))) ?_ ?_
    · refine dss_one ?_
      exact ds_ret (de_bl)
    · exact dss_nil
  refine dss_one ?_
  exact ds_ret (de_callX d_w_is_as gd lt (hr.mono (by decide)) (gl_of (by kernel_rfl)) (da_cons (dv_l (i := 3) (by kernel_rfl) (by kernel_rfl)) (da_cons (de_sub (u1 hu) (dv_l (i := 6) (by kernel_rfl) (by kernel_rfl)) (de_un od_neg (de_int)) (fun _ _ => by rfl)) (da_cons (de_fr (df_slice (dv_l (i := 6) (by kernel_rfl) (by kernel_rfl)) (dp_none) (dp_some (de_un od_neg (de_int))))) (da_nil)))))
theorem sc_w_long_right : FnScope ["_law_desk", "_law_k"] [] (defScope (top 64)) := ⟨rfl, rfl, rfl, by decide +kernel, rfl, by decide +kernel, by decide +kernel⟩
theorem nd_w_long_right : (["_law_desk", "_law_k"] : List Str).Nodup := by decide +kernel
theorem ok_w_long_right {f : Addr} {fd : FuncData} {dV : Value} (F : FunV K "_law_long_right" "_law_long_right" (top 64) dV f fd) (T : Tx K mg c) (hb : SysB base) (k_p_Desk___init__0 : COkX P w K mg base 6 "Desk" c.Desk (f_p_Desk___init__ c) 2 []) (k_p_Rule___init__0 : COkX P w K mg base 4 "Rule" c.Rule (f_p_Rule___init__ c) 2 []) (m_p_Desk_join : MOkX P w K mg base false 7 c.Desk "join" (f_p_Desk_join c) 3) (m_p_Desk_buy : MOkX P w K mg base false 7 c.Desk "buy" (f_p_Desk_buy c) 3) (m_p_Desk___len__ : MOkX P w K mg base false 1 c.Desk "__len__" (f_p_Desk___len__ c) 1) (m_p_Desk_undo : MOkX P w K mg base false 1 c.Desk "undo" (f_p_Desk_undo c) 1) (d_w_heard : FOkX P w K mg base true 2 "_law_heard" (f_w_heard c) 2 []) (m_p_Book___len__ : MOkX P w K mg base false 1 c.Book "__len__" (f_p_Book___len__ c) 1) (m_p_Desk_redo : MOkX P w K mg base false 1 c.Desk "redo" (f_p_Desk_redo c) 1) : FnX P w K mg base true 8 f fd [] (fnE 0 2 3 (b_w_long_right c)) 0 := by
  refine fnX_ok (N := ["_law_desk", "_law_k"]) (k := 7) F sc_w_long_right fun cdv A outer s H E gd hr tk po => ?_
  have hu := u128 hr
  have lt := lets_of tk
  refine dss_cons ?_ ?_
  · exact ds_asg (de_makeX k_p_Desk___init__0 lt (hr.mono (by decide)) (gl_of (by kernel_rfl)) (da_cons (de_makeX k_p_Rule___init__0 lt (hr.mono (by decide)) (gl_of (by kernel_rfl)) (da_cons (de_tup (da_cons (de_tup (da_cons (de_int) (da_cons (de_int) (da_cons (de_int) (da_cons (de_tup (da_cons (de_int) (da_cons (de_int) (da_nil)))) (da_nil)))))) (da_nil))) (da_nil))) (da_nil))) (dg_l (i := 0) nd_w_long_right (by kernel_rfl) (by kernel_rfl))
  refine dss_cons ?_ ?_
  · refine ds_for (vs := [1]) po rfl (di_range1 (gl_of (by kernel_rfl)) T.z_range (de_int)) (pg_l (i := 1) nd_w_long_right (by kernel_rfl) (by kernel_rfl)) (good_name 1 (by decide)) ?_
    refine dss_one ?_
    refine ds_if (dt_cmp (od_lt) (dv_l (i := 1) (by kernel_rfl) (by kernel_rfl)) (de_int) rfl) ?_ ?_
    · refine dss_one ?_
      exact ds_expr (de_methX m_p_Desk_join gd0 lt (hr.mono (by decide)) (dv_l (i := 0) (by kernel_rfl) (by kernel_rfl)) (da_cons (de_bin od_sub (dv_l (i := 1) (by kernel_rfl) (by kernel_rfl)) (de_int)) (da_cons (de_int) (da_nil))))
    · refine dss_one ?_
      exact ds_expr (de_methX m_p_Desk_buy gd0 lt (hr.mono (by decide)) (dv_l (i := 0) (by kernel_rfl) (by kernel_rfl)) (da_cons (de_bin od_mod (de_callTy cd_int (gl_of (by kernel_rfl)) T.z_int bb_int (da_cons (de_bin od_mul (dv_l (i := 1) (by kernel_rfl) (by kernel_rfl)) (de_int)) (da_nil))) (de_int)) (da_cons (de_int) (da_nil))))
  refine dss_cons ?_ ?_
  · refine ds_for (vs := [1]) po rfl (di_range1 (gl_of (by kernel_rfl)) T.z_range (de_int)) (pg_l (i := 1) nd_w_long_right (by kernel_rfl) (by kernel_rfl)) (good_name 1 (by decide)) ?_
    refine dss_one ?_
    refine ds_if (dt_w (dw_or (dt_cmp (od_ne (u64 hu)) (de_fld (T.q_Book.fld T.f_Book_sales) (de_fld (T.q_Desk.fld T.f_Desk_book) (dv_l (i := 0) (by kernel_rfl) (by kernel_rfl)))) (de_bin od_sub (de_int) (dv_l (i := 1) (by kernel_rfl) (by kernel_rfl))) rfl) (dw_or (dt_cmp (od_ne (u64 hu)) (de_callB (cd_lenX m_p_Desk___len__ (hr.mono (by decide))) (gl_of (by kernel_rfl)) T.z_len bb_len (da_cons (dv_l (i := 0) (by kernel_rfl) (by kernel_rfl)) (da_nil))) (de_bin od_sub (de_int) (dv_l (i := 1) (by kernel_rfl) (by kernel_rfl))) rfl) (dw_or1 (dt_cmp (od_notN) (de_meth0X m_p_Desk_undo gd0 lt (hr.mono (by decide)) (dv_l (i := 0) (by kernel_rfl) (by kernel_rfl))) (de_non) rfl))))) ?_ ?_
    · refine dss_one ?_
      exact ds_ret (de_bl)
    · exact dss_nil
  refine dss_cons ?_ ?_
  · refine ds_if (dt_w (dw_or (dt_cmp (od_ne (u64 hu)) (de_callX d_w_heard gd lt (hr.mono (by decide)) (gl_of (by kernel_rfl)) (da_cons (dv_l (i := 0) (by kernel_rfl) (by kernel_rfl)) (da_cons (de_str) (da_nil)))) (de_str) rfl) (dw_or1 (dt_cmp (od_ne (u64 hu)) (de_callB (cd_lenX m_p_Book___len__ (hr.mono (by decide))) (gl_of (by kernel_rfl)) T.z_len bb_len (da_cons (de_fld (T.q_Desk.fld T.f_Desk_book) (dv_l (i := 0) (by kernel_rfl) (by kernel_rfl))) (da_nil))) (de_int) rfl)))) ?_ ?_
    · refine dss_one ?_
      exact ds_ret (de_bl)
    · exact dss_nil
  refine dss_cons ?_ ?_
  · refine ds_for (vs := [1]) po rfl (di_range1 (gl_of (by kernel_rfl)) T.z_range (de_int)) (pg_l (i := 1) nd_w_long_right (by kernel_rfl) (by kernel_rfl)) (good_name 1 (by decide)) ?_
    refine dss_one ?_
    refine ds_if (dt_w (dw_or (dt_cmp (od_notN) (de_meth0X m_p_Desk_redo gd0 lt (hr.mono (by decide)) (dv_l (i := 0) (by kernel_rfl) (by kernel_rfl))) (de_non) rfl) (dw_or (dt_cmp (od_ne (u64 hu)) (de_fld (T.q_Book.fld T.f_Book_sales) (de_fld (T.q_Desk.fld T.f_Desk_book) (dv_l (i := 0) (by kernel_rfl) (by kernel_rfl)))) (de_bin od_add (dv_l (i := 1) (by kernel_rfl) (by kernel_rfl)) (de_int)) rfl) (dw_or1 (dt_cmp (od_ne (u64 hu)) (de_callB (cd_lenX m_p_Desk___len__ (hr.mono (by decide))) (gl_of (by kernel_rfl)) T.z_len bb_len (da_cons (dv_l (i := 0) (by kernel_rfl) (by kernel_rfl)) (da_nil))) (de_bin od_add (dv_l (i := 1) (by kernel_rfl) (by kernel_rfl)) (de_int)) rfl))))) ?_ ?_
    · refine dss_one ?_
      exact ds_ret (de_bl)
    · exact dss_nil
  refine dss_one ?_
  exact ds_ret (de_and (de_cmp (od_eq (u64 hu)) (de_callX d_w_heard gd lt (hr.mono (by decide)) (gl_of (by kernel_rfl)) (da_cons (dv_l (i := 0) (by kernel_rfl) (by kernel_rfl)) (da_cons (de_str) (da_nil)))) (de_str) rfl) (de_one (de_cmp (od_eq (u64 hu)) (de_callB (cd_lenX m_p_Book___len__ (hr.mono (by decide))) (gl_of (by kernel_rfl)) T.z_len bb_len (da_cons (de_fld (T.q_Desk.fld T.f_Desk_book) (dv_l (i := 0) (by kernel_rfl) (by kernel_rfl))) (da_nil))) (de_int) rfl)))
theorem sc_law : FnScope ["_law_script", "_law_deck_here", "_law_go"] ["_law_script"] (defScope (top 65)) := ⟨rfl, rfl, rfl, by decide +kernel, rfl, by decide +kernel, by decide +kernel⟩
theorem nd_law : (["_law_script", "_law_deck_here", "_law_go"] : List Str).Nodup := by decide +kernel
theorem ok_law {f : Addr} {fd : FuncData} {dV : Value} (F : FunV K "law" "law" (top 65) dV f fd) (T : Tx K mg c) (hb : SysB base) (d_w_deck : FOkX P w K mg base false 1 "_law_deck" (f_w_deck c zz) 1 []) (d_w_right : FOkX P w K mg base true 10 "_law_right" (f_w_right c) 2 []) (d_w_pick_3 : FOkX P w K mg base false 2 "_law_pick" (f_w_pick_3 c zz) 2 []) (d_w_long_right : FOkX P w K mg base true 8 "_law_long_right" (f_w_long_right c) 0 []) : FnX P w K mg base true 11 f fd ["_law_script"] (fnE 1 3 3 (b_law c)) 1 := by
  refine fnX_ok (N := ["_law_script", "_law_deck_here", "_law_go"]) (k := 10) F sc_law fun cdv A outer s H E gd hr tk po => ?_
  have hu := u128 hr
  have lt := lets_of tk
  refine dss_cons ?_ ?_
  · exact ds_asg (de_callX d_w_deck gd0 lt (hr.mono (by decide)) (gl_of (by kernel_rfl)) (da_cons (dv_l (i := 0) (by kernel_rfl) (by kernel_rfl)) (da_nil))) (dg_l (i := 1) nd_law (by kernel_rfl) (by kernel_rfl))
  refine dss_cons ?_ ?_
  · refine ds_for (vs := [2]) po rfl (di_range1 (gl_of (by kernel_rfl)) T.z_range (de_int)) (pg_l (i := 2) nd_law (by kernel_rfl) (by kernel_rfl)) (good_name 2 (by decide)) ?_
    refine dss_one ?_
    refine ds_if (dt_not (dt_val (de_callX d_w_right gd lt (hr.mono (by decide)) (gl_of (by kernel_rfl)) (da_cons (dv_l (i := 1) (by kernel_rfl) (by kernel_rfl)) (da_cons (de_callX d_w_pick_3 gd0 lt (hr.mono (by decide)) (gl_of (by kernel_rfl)) (da_cons (dv_l (i := 1) (by kernel_rfl) (by kernel_rfl)) (da_cons (de_fr (df_lst (da_cons (de_int) (da_cons (de_int) (da_cons (de_int) (da_nil)))))) (da_nil)))) (da_nil)))))) ?_ ?_
    · refine dss_one ?_
      exact ds_ret (de_bl)
    · exact dss_nil
  refine dss_one ?_
  exact ds_ret (de_call0X d_w_long_right gd lt (hr.mono (by decide)) (gl_of (by kernel_rfl)))
end
def clK (K : PySem.W.Frag) : Cl := { Book := clsOf K "Book", Desk := clsOf K "Desk", Rule := clsOf K "Rule" }
theorem all_mk {l : PySem.W.OpenLaw} {w : World} {K : PySem.W.Frag} {h : Heap} {mg : Str → Option Value} {fa : Addr} (X : K.In h) (G : h.Ns mainGlobals mg) (hfa : mg "law" = some (.ref fa))
    {cBook : Addr} (g_Book : PySem.W.nsIn K mainGlobals "Book" = some (some (.ref cBook))) (q_Book : ClF K cBook)
    (mk_Book : PySem.W.makesIn K cBook = true) (kp_Book : PySem.W.keepIn K (.ref cBook) = true)
    {cDesk : Addr} (g_Desk : PySem.W.nsIn K mainGlobals "Desk" = some (some (.ref cDesk))) (q_Desk : ClF K cDesk)
    (mk_Desk : PySem.W.makesIn K cDesk = true) (kp_Desk : PySem.W.keepIn K (.ref cDesk) = true)
    {cRule : Addr} (g_Rule : PySem.W.nsIn K mainGlobals "Rule" = some (some (.ref cRule))) (q_Rule : ClF K cRule)
    (mk_Rule : PySem.W.makesIn K cRule = true) (kp_Rule : PySem.W.keepIn K (.ref cRule) = true)
    {cShareError : Addr} (g_ShareError : PySem.W.nsIn K mainGlobals "ShareError" = some (some (.ref cShareError)))
    (X_ShareError : ClX K .ShareError cShareError)
    {cBadRule : Addr} (g_BadRule : PySem.W.nsIn K mainGlobals "BadRule" = some (some (.ref cBadRule)))
    (X_BadRule : ClX K .BadRule cBadRule)
    {nmBadRule qnBadRule : Str} {NBadRule : Addr} {bsBadRule bmBadRule sbBadRule : List Value} {snBadRule : List Str} {abBadRule : Bool} {coBadRule : Option Bool} {ddBadRule : Option Addr} {kaBadRule kbBadRule kcBadRule kdBadRule keBadRule : Option Value}
    (L_BadRule : K.lookup cBadRule = some (excClassObj nmBadRule qnBadRule cBadRule NBadRule bsBadRule bmBadRule true snBadRule sbBadRule abBadRule coBadRule ddBadRule kaBadRule kbBadRule kcBadRule kdBadRule keBadRule "Exception.__new__")) (O_BadRule : OwnUp bmBadRule) (A_BadRule : PySem.W.findIn K (.ref cBadRule) "__setattr__" = some (some (.builtin "object.__setattr__"))) (F_BadRule : PySem.W.findIn K (.ref cBadRule) "part" = some none)
    (B_BadRule : PySem.W.subIn K (.ref cBadRule) (.type "BaseException") = some true) (T_BadRule : PySem.W.typeIn K (.ref cBadRule) = some (.type "type")) (K_BadRule : PySem.W.keepIn K (.ref cBadRule) = true)
    {cBadBook : Addr} (g_BadBook : PySem.W.nsIn K mainGlobals "BadBook" = some (some (.ref cBadBook)))
    (X_BadBook : ClX K .BadBook cBadBook)
    {nmBadBook qnBadBook : Str} {NBadBook : Addr} {bsBadBook bmBadBook sbBadBook : List Value} {snBadBook : List Str} {abBadBook : Bool} {coBadBook : Option Bool} {ddBadBook : Option Addr} {kaBadBook kbBadBook kcBadBook kdBadBook keBadBook : Option Value}
    (L_BadBook : K.lookup cBadBook = some (excClassObj nmBadBook qnBadBook cBadBook NBadBook bsBadBook bmBadBook true snBadBook sbBadBook abBadBook coBadBook ddBadBook kaBadBook kbBadBook kcBadBook kdBadBook keBadBook "Exception.__new__")) (O_BadBook : OwnUp bmBadBook) (A_BadBook : PySem.W.findIn K (.ref cBadBook) "__setattr__" = some (some (.builtin "object.__setattr__"))) (F_BadBook : PySem.W.findIn K (.ref cBadBook) "part" = some none)
    (B_BadBook : PySem.W.subIn K (.ref cBadBook) (.type "BaseException") = some true) (T_BadBook : PySem.W.typeIn K (.ref cBadBook) = some (.type "type")) (K_BadBook : PySem.W.keepIn K (.ref cBadBook) = true)
    {cBadText : Addr} (g_BadText : PySem.W.nsIn K mainGlobals "BadText" = some (some (.ref cBadText)))
    (X_BadText : ClX K .BadText cBadText)
    {cNoMember : Addr} (g_NoMember : PySem.W.nsIn K mainGlobals "NoMember" = some (some (.ref cNoMember)))
    (X_NoMember : ClX K .NoMember cNoMember)
    {nmNoMember qnNoMember : Str} {NNoMember : Addr} {bsNoMember bmNoMember sbNoMember : List Value} {snNoMember : List Str} {abNoMember : Bool} {coNoMember : Option Bool} {ddNoMember : Option Addr} {kaNoMember kbNoMember kcNoMember kdNoMember keNoMember : Option Value}
    (L_NoMember : K.lookup cNoMember = some (excClassObj nmNoMember qnNoMember cNoMember NNoMember bsNoMember bmNoMember true snNoMember sbNoMember abNoMember coNoMember ddNoMember kaNoMember kbNoMember kcNoMember kdNoMember keNoMember "Exception.__new__")) (O_NoMember : OwnUp bmNoMember) (A_NoMember : PySem.W.findIn K (.ref cNoMember) "__setattr__" = some (some (.builtin "object.__setattr__"))) (F_NoMember : PySem.W.findIn K (.ref cNoMember) "number" = some none)
    (B_NoMember : PySem.W.subIn K (.ref cNoMember) (.type "BaseException") = some true) (T_NoMember : PySem.W.typeIn K (.ref cNoMember) = some (.type "type")) (K_NoMember : PySem.W.keepIn K (.ref cNoMember) = true)
    {cNothingToUndo : Addr} (g_NothingToUndo : PySem.W.nsIn K mainGlobals "NothingToUndo" = some (some (.ref cNothingToUndo)))
    (X_NothingToUndo : ClX K .NothingToUndo cNothingToUndo)
    (E_NothingToUndo : PySem.W.excIn K cNothingToUndo exEnd "Exception.__new__" = true)
    (B_NothingToUndo : PySem.W.subIn K (.ref cNothingToUndo) (.type "BaseException") = some true) (T_NothingToUndo : PySem.W.typeIn K (.ref cNothingToUndo) = some (.type "type")) (K_NothingToUndo : PySem.W.keepIn K (.ref cNothingToUndo) = true)
    {cNothingToRedo : Addr} (g_NothingToRedo : PySem.W.nsIn K mainGlobals "NothingToRedo" = some (some (.ref cNothingToRedo)))
    (X_NothingToRedo : ClX K .NothingToRedo cNothingToRedo)
    (E_NothingToRedo : PySem.W.excIn K cNothingToRedo exEnd "Exception.__new__" = true)
    (B_NothingToRedo : PySem.W.subIn K (.ref cNothingToRedo) (.type "BaseException") = some true) (T_NothingToRedo : PySem.W.typeIn K (.ref cNothingToRedo) = some (.type "type")) (K_NothingToRedo : PySem.W.keepIn K (.ref cNothingToRedo) = true)
    (s_ShareError_ShareError : PySem.W.subIn K (.ref cShareError) (.ref cShareError) = some true)
    (s_ShareError_BadRule : PySem.W.subIn K (.ref cShareError) (.ref cBadRule) = some false)
    (s_ShareError_BadBook : PySem.W.subIn K (.ref cShareError) (.ref cBadBook) = some false)
    (s_ShareError_BadText : PySem.W.subIn K (.ref cShareError) (.ref cBadText) = some false)
    (s_ShareError_NoMember : PySem.W.subIn K (.ref cShareError) (.ref cNoMember) = some false)
    (s_ShareError_NothingToUndo : PySem.W.subIn K (.ref cShareError) (.ref cNothingToUndo) = some false)
    (s_ShareError_NothingToRedo : PySem.W.subIn K (.ref cShareError) (.ref cNothingToRedo) = some false)
    (s_BadRule_ShareError : PySem.W.subIn K (.ref cBadRule) (.ref cShareError) = some true)
    (s_BadRule_BadRule : PySem.W.subIn K (.ref cBadRule) (.ref cBadRule) = some true)
    (s_BadRule_BadBook : PySem.W.subIn K (.ref cBadRule) (.ref cBadBook) = some false)
    (s_BadRule_BadText : PySem.W.subIn K (.ref cBadRule) (.ref cBadText) = some false)
    (s_BadRule_NoMember : PySem.W.subIn K (.ref cBadRule) (.ref cNoMember) = some false)
    (s_BadRule_NothingToUndo : PySem.W.subIn K (.ref cBadRule) (.ref cNothingToUndo) = some false)
    (s_BadRule_NothingToRedo : PySem.W.subIn K (.ref cBadRule) (.ref cNothingToRedo) = some false)
    (s_BadBook_ShareError : PySem.W.subIn K (.ref cBadBook) (.ref cShareError) = some true)
    (s_BadBook_BadRule : PySem.W.subIn K (.ref cBadBook) (.ref cBadRule) = some false)
    (s_BadBook_BadBook : PySem.W.subIn K (.ref cBadBook) (.ref cBadBook) = some true)
    (s_BadBook_BadText : PySem.W.subIn K (.ref cBadBook) (.ref cBadText) = some false)
    (s_BadBook_NoMember : PySem.W.subIn K (.ref cBadBook) (.ref cNoMember) = some false)
    (s_BadBook_NothingToUndo : PySem.W.subIn K (.ref cBadBook) (.ref cNothingToUndo) = some false)
    (s_BadBook_NothingToRedo : PySem.W.subIn K (.ref cBadBook) (.ref cNothingToRedo) = some false)
    (s_BadText_ShareError : PySem.W.subIn K (.ref cBadText) (.ref cShareError) = some true)
    (s_BadText_BadRule : PySem.W.subIn K (.ref cBadText) (.ref cBadRule) = some false)
    (s_BadText_BadBook : PySem.W.subIn K (.ref cBadText) (.ref cBadBook) = some false)
    (s_BadText_BadText : PySem.W.subIn K (.ref cBadText) (.ref cBadText) = some true)
    (s_BadText_NoMember : PySem.W.subIn K (.ref cBadText) (.ref cNoMember) = some false)
    (s_BadText_NothingToUndo : PySem.W.subIn K (.ref cBadText) (.ref cNothingToUndo) = some false)
    (s_BadText_NothingToRedo : PySem.W.subIn K (.ref cBadText) (.ref cNothingToRedo) = some false)
    (s_NoMember_ShareError : PySem.W.subIn K (.ref cNoMember) (.ref cShareError) = some true)
    (s_NoMember_BadRule : PySem.W.subIn K (.ref cNoMember) (.ref cBadRule) = some false)
    (s_NoMember_BadBook : PySem.W.subIn K (.ref cNoMember) (.ref cBadBook) = some false)
    (s_NoMember_BadText : PySem.W.subIn K (.ref cNoMember) (.ref cBadText) = some false)
    (s_NoMember_NoMember : PySem.W.subIn K (.ref cNoMember) (.ref cNoMember) = some true)
    (s_NoMember_NothingToUndo : PySem.W.subIn K (.ref cNoMember) (.ref cNothingToUndo) = some false)
    (s_NoMember_NothingToRedo : PySem.W.subIn K (.ref cNoMember) (.ref cNothingToRedo) = some false)
    (s_NothingToUndo_ShareError : PySem.W.subIn K (.ref cNothingToUndo) (.ref cShareError) = some true)
    (s_NothingToUndo_BadRule : PySem.W.subIn K (.ref cNothingToUndo) (.ref cBadRule) = some false)
    (s_NothingToUndo_BadBook : PySem.W.subIn K (.ref cNothingToUndo) (.ref cBadBook) = some false)
    (s_NothingToUndo_BadText : PySem.W.subIn K (.ref cNothingToUndo) (.ref cBadText) = some false)
    (s_NothingToUndo_NoMember : PySem.W.subIn K (.ref cNothingToUndo) (.ref cNoMember) = some false)
    (s_NothingToUndo_NothingToUndo : PySem.W.subIn K (.ref cNothingToUndo) (.ref cNothingToUndo) = some true)
    (s_NothingToUndo_NothingToRedo : PySem.W.subIn K (.ref cNothingToUndo) (.ref cNothingToRedo) = some false)
    (s_NothingToRedo_ShareError : PySem.W.subIn K (.ref cNothingToRedo) (.ref cShareError) = some true)
    (s_NothingToRedo_BadRule : PySem.W.subIn K (.ref cNothingToRedo) (.ref cBadRule) = some false)
    (s_NothingToRedo_BadBook : PySem.W.subIn K (.ref cNothingToRedo) (.ref cBadBook) = some false)
    (s_NothingToRedo_BadText : PySem.W.subIn K (.ref cNothingToRedo) (.ref cBadText) = some false)
    (s_NothingToRedo_NoMember : PySem.W.subIn K (.ref cNothingToRedo) (.ref cNoMember) = some false)
    (s_NothingToRedo_NothingToUndo : PySem.W.subIn K (.ref cNothingToRedo) (.ref cNothingToUndo) = some false)
    (s_NothingToRedo_NothingToRedo : PySem.W.subIn K (.ref cNothingToRedo) (.ref cNothingToRedo) = some true)
    (f_Book_ups : PySem.W.findIn K (.ref cBook) "ups" = some none)
    (f_Book_buys : PySem.W.findIn K (.ref cBook) "buys" = some none)
    (f_Book_pairs_kept : PySem.W.findIn K (.ref cBook) "pairs_kept" = some none)
    (f_Book_sales : PySem.W.findIn K (.ref cBook) "sales" = some none)
    (f_Desk_rule : PySem.W.findIn K (.ref cDesk) "rule" = some none)
    (f_Desk_book : PySem.W.findIn K (.ref cDesk) "book" = some none)
    (f_Desk_books_ahead : PySem.W.findIn K (.ref cDesk) "books_ahead" = some none)
    (f_Desk_books_later : PySem.W.findIn K (.ref cDesk) "books_later" = some none)
    (f_Rule_ranks : PySem.W.findIn K (.ref cRule) "ranks" = some none)
    (f_Rule_levels : PySem.W.findIn K (.ref cRule) "levels" = some none)
    {fa0 : Addr} {od0 an0 : Option Addr} {sl0 : Array (Option Value)} {oc0 kV0 dc0 pm0 cd0 ct0 : Value}
    (a0 : PySem.W.nsIn K mainGlobals "_law_deck" = some (some (.ref fa0))) (l0 : K.lookup fa0 = some ⟨oc0, od0, .func (PySem.W.fnOf "_law_deck" "_law_deck" (defArgs (top 54)) (defBody (top 54)) (defScope (top 54)) .none kV0 dc0 pm0 an0 cd0 ct0), sl0⟩) (c0 : PySem.W.codeIn K cd0 "_law_deck" = true) (k0 : PySem.W.keepIn K (.ref fa0) = true)
    {fa1 : Addr} {od1 an1 : Option Addr} {sl1 : Array (Option Value)} {oc1 kV1 dc1 pm1 cd1 ct1 : Value}
    (a1 : PySem.W.nsIn K mainGlobals "_law_draw" = some (some (.ref fa1))) (l1 : K.lookup fa1 = some ⟨oc1, od1, .func (PySem.W.fnOf "_law_draw" "_law_draw" (defArgs (top 55)) (defBody (top 55)) (defScope (top 55)) .none kV1 dc1 pm1 an1 cd1 ct1), sl1⟩) (c1 : PySem.W.codeIn K cd1 "_law_draw" = true) (k1 : PySem.W.keepIn K (.ref fa1) = true)
    {fa2 : Addr} {od2 an2 : Option Addr} {sl2 : Array (Option Value)} {oc2 kV2 dc2 pm2 cd2 ct2 : Value}
    (a2 : PySem.W.nsIn K mainGlobals "_law_pick" = some (some (.ref fa2))) (l2 : K.lookup fa2 = some ⟨oc2, od2, .func (PySem.W.fnOf "_law_pick" "_law_pick" (defArgs (top 56)) (defBody (top 56)) (defScope (top 56)) .none kV2 dc2 pm2 an2 cd2 ct2), sl2⟩) (c2 : PySem.W.codeIn K cd2 "_law_pick" = true) (k2 : PySem.W.keepIn K (.ref fa2) = true)
    {fa3 : Addr} {od3 an3 : Option Addr} {sl3 : Array (Option Value)} {oc3 kV3 dc3 pm3 cd3 ct3 : Value}
    (a3 : PySem.W.nsIn K mainGlobals "_law_lines" = some (some (.ref fa3))) (l3 : K.lookup fa3 = some ⟨oc3, od3, .func (PySem.W.fnOf "_law_lines" "_law_lines" (defArgs (top 57)) (defBody (top 57)) (defScope (top 57)) .none kV3 dc3 pm3 an3 cd3 ct3), sl3⟩) (c3 : PySem.W.codeIn K cd3 "_law_lines" = true) (k3 : PySem.W.keepIn K (.ref fa3) = true)
    {fa4 : Addr} {od4 an4 : Option Addr} {sl4 : Array (Option Value)} {oc4 kV4 dc4 pm4 cd4 ct4 : Value}
    (a4 : PySem.W.nsIn K mainGlobals "is_integer" = some (some (.ref fa4))) (l4 : K.lookup fa4 = some ⟨oc4, od4, .func (PySem.W.fnOf "is_integer" "is_integer" (defArgs (top 12)) (defBody (top 12)) (defScope (top 12)) .none kV4 dc4 pm4 an4 cd4 ct4), sl4⟩) (c4 : PySem.W.codeIn K cd4 "is_integer" = true) (k4 : PySem.W.keepIn K (.ref fa4) = true)
    {fa5 : Addr} {od5 an5 : Option Addr} {sl5 : Array (Option Value)} {oc5 kV5 dc5 pm5 cd5 ct5 : Value}
    (a5 : PySem.W.nsIn K mainGlobals "are_ups" = some (some (.ref fa5))) (l5 : K.lookup fa5 = some ⟨oc5, od5, .func (PySem.W.fnOf "are_ups" "are_ups" (defArgs (top 41)) (defBody (top 41)) (defScope (top 41)) .none kV5 dc5 pm5 an5 cd5 ct5), sl5⟩) (c5 : PySem.W.codeIn K cd5 "are_ups" = true) (k5 : PySem.W.keepIn K (.ref fa5) = true)
    {fa6 : Addr} {od6 an6 : Option Addr} {sl6 : Array (Option Value)} {oc6 kV6 dc6 pm6 cd6 ct6 : Value} 
    (a6 : PySem.W.findIn K (.ref cBadBook) "__init__" = some (some (.ref fa6))) (l6 : K.lookup fa6 = some ⟨oc6, od6, .func (PySem.W.fnOf "__init__" "BadBook.__init__" (defArgs (clsAt (top 4) 0)) (defBody (clsAt (top 4) 0)) (defScope (clsAt (top 4) 0)) .none kV6 dc6 pm6 an6 cd6 ct6), sl6⟩) (c6 : PySem.W.codeIn K cd6 "BadBook.__init__" = true) (k6 : PySem.W.keepIn K (.ref fa6) = true) (n6 : PySem.W.isFn K (.ref fa6) = true)
    {fa7 : Addr} {od7 an7 : Option Addr} {sl7 : Array (Option Value)} {oc7 kV7 dc7 pm7 cd7 ct7 : Value}
    (a7 : PySem.W.nsIn K mainGlobals "is_integer_from" = some (some (.ref fa7))) (l7 : K.lookup fa7 = some ⟨oc7, od7, .func (PySem.W.fnOf "is_integer_from" "is_integer_from" (defArgs (top 13)) (defBody (top 13)) (defScope (top 13)) .none kV7 dc7 pm7 an7 cd7 ct7), sl7⟩) (c7 : PySem.W.codeIn K cd7 "is_integer_from" = true) (k7 : PySem.W.keepIn K (.ref fa7) = true)
    {fa8 : Addr} {od8 an8 : Option Addr} {sl8 : Array (Option Value)} {oc8 kV8 dc8 pm8 cd8 ct8 : Value}
    (a8 : PySem.W.nsIn K mainGlobals "are_buys" = some (some (.ref fa8))) (l8 : K.lookup fa8 = some ⟨oc8, od8, .func (PySem.W.fnOf "are_buys" "are_buys" (defArgs (top 42)) (defBody (top 42)) (defScope (top 42)) .none kV8 dc8 pm8 an8 cd8 ct8), sl8⟩) (c8 : PySem.W.codeIn K cd8 "are_buys" = true) (k8 : PySem.W.keepIn K (.ref fa8) = true)
    {fa9 : Addr} {od9 an9 : Option Addr} {sl9 : Array (Option Value)} {oc9 kV9 dc9 pm9 cd9 ct9 : Value} {T9 : Addr} {tc9 : Value} {td9 : Option Addr} {y9_0 y9_1 : Addr} {tn9 : Nat} {ts9 : Array (Option Value)} 
    (a9 : PySem.W.findIn K (.ref cBook) "__init__" = some (some (.ref fa9))) (l9 : K.lookup fa9 = some ⟨oc9, od9, .func (PySem.W.fnOf "__init__" "Book.__init__" (defArgs (clsAt (top 43) 0)) (defBody (clsAt (top 43) 0)) (defScope (clsAt (top 43) 0)) (.ref T9) kV9 dc9 pm9 an9 cd9 ct9), sl9⟩) (c9 : PySem.W.codeIn K cd9 "Book.__init__" = true) (k9 : PySem.W.keepIn K (.ref fa9) = true) (n9 : PySem.W.isFn K (.ref fa9) = true)
    (t9 : K.lookup T9 = some ⟨tc9, td9, .seq #[.ref y9_0, .ref y9_1] tn9, ts9⟩)
    {wd9_0 : Option Addr} {wn9_0 : Nat} {ws9_0 : Array (Option Value)} (w9_0 : K.lookup y9_0 = some ⟨.type "tuple", wd9_0, .seq #[] wn9_0, ws9_0⟩)
    {wd9_1 : Option Addr} {wn9_1 : Nat} {ws9_1 : Array (Option Value)} (w9_1 : K.lookup y9_1 = some ⟨.type "tuple", wd9_1, .seq #[] wn9_1, ws9_1⟩)
    {fa10 : Addr} {od10 an10 : Option Addr} {sl10 : Array (Option Value)} {oc10 kV10 dc10 pm10 cd10 ct10 : Value} 
    (a10 : PySem.W.findIn K (.ref cDesk) "__init__" = some (some (.ref fa10))) (l10 : K.lookup fa10 = some ⟨oc10, od10, .func (PySem.W.fnOf "__init__" "Desk.__init__" (defArgs (clsAt (top 52) 0)) (defBody (clsAt (top 52) 0)) (defScope (clsAt (top 52) 0)) .none kV10 dc10 pm10 an10 cd10 ct10), sl10⟩) (c10 : PySem.W.codeIn K cd10 "Desk.__init__" = true) (k10 : PySem.W.keepIn K (.ref fa10) = true) (n10 : PySem.W.isFn K (.ref fa10) = true)
    {fa11 : Addr} {od11 an11 : Option Addr} {sl11 : Array (Option Value)} {oc11 kV11 dc11 pm11 cd11 ct11 : Value} 
    (a11 : PySem.W.findIn K (.ref cBadRule) "__init__" = some (some (.ref fa11))) (l11 : K.lookup fa11 = some ⟨oc11, od11, .func (PySem.W.fnOf "__init__" "BadRule.__init__" (defArgs (clsAt (top 3) 0)) (defBody (clsAt (top 3) 0)) (defScope (clsAt (top 3) 0)) .none kV11 dc11 pm11 an11 cd11 ct11), sl11⟩) (c11 : PySem.W.codeIn K cd11 "BadRule.__init__" = true) (k11 : PySem.W.keepIn K (.ref fa11) = true) (n11 : PySem.W.isFn K (.ref fa11) = true)
    {fa12 : Addr} {od12 an12 : Option Addr} {sl12 : Array (Option Value)} {oc12 kV12 dc12 pm12 cd12 ct12 : Value}
    (a12 : PySem.W.nsIn K mainGlobals "is_need" = some (some (.ref fa12))) (l12 : K.lookup fa12 = some ⟨oc12, od12, .func (PySem.W.fnOf "is_need" "is_need" (defArgs (top 27)) (defBody (top 27)) (defScope (top 27)) .none kV12 dc12 pm12 an12 cd12 ct12), sl12⟩) (c12 : PySem.W.codeIn K cd12 "is_need" = true) (k12 : PySem.W.keepIn K (.ref fa12) = true)
    {fa13 : Addr} {od13 an13 : Option Addr} {sl13 : Array (Option Value)} {oc13 kV13 dc13 pm13 cd13 ct13 : Value}
    (a13 : PySem.W.nsIn K mainGlobals "is_share" = some (some (.ref fa13))) (l13 : K.lookup fa13 = some ⟨oc13, od13, .func (PySem.W.fnOf "is_share" "is_share" (defArgs (top 26)) (defBody (top 26)) (defScope (top 26)) .none kV13 dc13 pm13 an13 cd13 ct13), sl13⟩) (c13 : PySem.W.codeIn K cd13 "is_share" = true) (k13 : PySem.W.keepIn K (.ref fa13) = true)
    {fa14 : Addr} {od14 an14 : Option Addr} {sl14 : Array (Option Value)} {oc14 kV14 dc14 pm14 cd14 ct14 : Value}
    (a14 : PySem.W.nsIn K mainGlobals "is_rank" = some (some (.ref fa14))) (l14 : K.lookup fa14 = some ⟨oc14, od14, .func (PySem.W.fnOf "is_rank" "is_rank" (defArgs (top 28)) (defBody (top 28)) (defScope (top 28)) .none kV14 dc14 pm14 an14 cd14 ct14), sl14⟩) (c14 : PySem.W.codeIn K cd14 "is_rank" = true) (k14 : PySem.W.keepIn K (.ref fa14) = true)
    {fa15 : Addr} {od15 an15 : Option Addr} {sl15 : Array (Option Value)} {oc15 kV15 dc15 pm15 cd15 ct15 : Value}
    (a15 : PySem.W.nsIn K mainGlobals "goes_above" = some (some (.ref fa15))) (l15 : K.lookup fa15 = some ⟨oc15, od15, .func (PySem.W.fnOf "goes_above" "goes_above" (defArgs (top 29)) (defBody (top 29)) (defScope (top 29)) .none kV15 dc15 pm15 an15 cd15 ct15), sl15⟩) (c15 : PySem.W.codeIn K cd15 "goes_above" = true) (k15 : PySem.W.keepIn K (.ref fa15) = true)
    {fa16 : Addr} {od16 an16 : Option Addr} {sl16 : Array (Option Value)} {oc16 kV16 dc16 pm16 cd16 ct16 : Value} 
    (a16 : PySem.W.findIn K (.ref cRule) "__init__" = some (some (.ref fa16))) (l16 : K.lookup fa16 = some ⟨oc16, od16, .func (PySem.W.fnOf "__init__" "Rule.__init__" (defArgs (clsAt (top 30) 0)) (defBody (clsAt (top 30) 0)) (defScope (clsAt (top 30) 0)) .none kV16 dc16 pm16 an16 cd16 ct16), sl16⟩) (c16 : PySem.W.codeIn K cd16 "Rule.__init__" = true) (k16 : PySem.W.keepIn K (.ref fa16) = true) (n16 : PySem.W.isFn K (.ref fa16) = true)
    {fa17 : Addr} {od17 an17 : Option Addr} {sl17 : Array (Option Value)} {oc17 kV17 dc17 pm17 cd17 ct17 : Value} 
    (a17 : PySem.W.findIn K (.ref cDesk) "undo" = some (some (.ref fa17))) (l17 : K.lookup fa17 = some ⟨oc17, od17, .func (PySem.W.fnOf "undo" "Desk.undo" (defArgs (clsAt (top 52) 7)) (defBody (clsAt (top 52) 7)) (defScope (clsAt (top 52) 7)) .none kV17 dc17 pm17 an17 cd17 ct17), sl17⟩) (c17 : PySem.W.codeIn K cd17 "Desk.undo" = true) (k17 : PySem.W.keepIn K (.ref fa17) = true) (n17 : PySem.W.isFn K (.ref fa17) = true)
    {fa18 : Addr} {od18 an18 : Option Addr} {sl18 : Array (Option Value)} {oc18 kV18 dc18 pm18 cd18 ct18 : Value} 
    (a18 : PySem.W.findIn K (.ref cDesk) "redo" = some (some (.ref fa18))) (l18 : K.lookup fa18 = some ⟨oc18, od18, .func (PySem.W.fnOf "redo" "Desk.redo" (defArgs (clsAt (top 52) 8)) (defBody (clsAt (top 52) 8)) (defScope (clsAt (top 52) 8)) .none kV18 dc18 pm18 an18 cd18 ct18), sl18⟩) (c18 : PySem.W.codeIn K cd18 "Desk.redo" = true) (k18 : PySem.W.keepIn K (.ref fa18) = true) (n18 : PySem.W.isFn K (.ref fa18) = true)
    {fa19 : Addr} {od19 an19 : Option Addr} {sl19 : Array (Option Value)} {oc19 kV19 dc19 pm19 cd19 ct19 : Value}
    (a19 : PySem.W.nsIn K mainGlobals "_law_heard" = some (some (.ref fa19))) (l19 : K.lookup fa19 = some ⟨oc19, od19, .func (PySem.W.fnOf "_law_heard" "_law_heard" (defArgs (top 59)) (defBody (top 59)) (defScope (top 59)) .none kV19 dc19 pm19 an19 cd19 ct19), sl19⟩) (c19 : PySem.W.codeIn K cd19 "_law_heard" = true) (k19 : PySem.W.keepIn K (.ref fa19) = true)
    {fa20 : Addr} {od20 an20 : Option Addr} {sl20 : Array (Option Value)} {oc20 kV20 dc20 pm20 cd20 ct20 : Value} 
    (a20 : PySem.W.findIn K (.ref cBook) "__len__" = some (some (.ref fa20))) (l20 : K.lookup fa20 = some ⟨oc20, od20, .func (PySem.W.fnOf "__len__" "Book.__len__" (defArgs (clsAt (top 43) 2)) (defBody (clsAt (top 43) 2)) (defScope (clsAt (top 43) 2)) .none kV20 dc20 pm20 an20 cd20 ct20), sl20⟩) (c20 : PySem.W.codeIn K cd20 "Book.__len__" = true) (k20 : PySem.W.keepIn K (.ref fa20) = true) (n20 : PySem.W.isFn K (.ref fa20) = true)
    {fa21 : Addr} {od21 an21 : Option Addr} {sl21 : Array (Option Value)} {oc21 kV21 dc21 pm21 cd21 ct21 : Value} 
    (a21 : PySem.W.findIn K (.ref cNoMember) "__init__" = some (some (.ref fa21))) (l21 : K.lookup fa21 = some ⟨oc21, od21, .func (PySem.W.fnOf "__init__" "NoMember.__init__" (defArgs (clsAt (top 6) 0)) (defBody (clsAt (top 6) 0)) (defScope (clsAt (top 6) 0)) .none kV21 dc21 pm21 an21 cd21 ct21), sl21⟩) (c21 : PySem.W.codeIn K cd21 "NoMember.__init__" = true) (k21 : PySem.W.keepIn K (.ref fa21) = true) (n21 : PySem.W.isFn K (.ref fa21) = true)
    {fa22 : Addr} {od22 an22 : Option Addr} {sl22 : Array (Option Value)} {oc22 kV22 dc22 pm22 cd22 ct22 : Value} 
    (a22 : PySem.W.findIn K (.ref cDesk) "check_member" = some (some (.ref fa22))) (l22 : K.lookup fa22 = some ⟨oc22, od22, .func (PySem.W.fnOf "check_member" "Desk.check_member" (defArgs (clsAt (top 52) 2)) (defBody (clsAt (top 52) 2)) (defScope (clsAt (top 52) 2)) .none kV22 dc22 pm22 an22 cd22 ct22), sl22⟩) (c22 : PySem.W.codeIn K cd22 "Desk.check_member" = true) (k22 : PySem.W.keepIn K (.ref fa22) = true) (n22 : PySem.W.isFn K (.ref fa22) = true)
    {fa23 : Addr} {od23 an23 : Option Addr} {sl23 : Array (Option Value)} {oc23 kV23 dc23 pm23 cd23 ct23 : Value} 
    (a23 : PySem.W.findIn K (.ref cDesk) "change" = some (some (.ref fa23))) (l23 : K.lookup fa23 = some ⟨oc23, od23, .func (PySem.W.fnOf "change" "Desk.change" (defArgs (clsAt (top 52) 3)) (defBody (clsAt (top 52) 3)) (defScope (clsAt (top 52) 3)) .none kV23 dc23 pm23 an23 cd23 ct23), sl23⟩) (c23 : PySem.W.codeIn K cd23 "Desk.change" = true) (k23 : PySem.W.keepIn K (.ref fa23) = true) (n23 : PySem.W.isFn K (.ref fa23) = true)
    {fa24 : Addr} {od24 an24 : Option Addr} {sl24 : Array (Option Value)} {oc24 kV24 dc24 pm24 cd24 ct24 : Value} 
    (a24 : PySem.W.findIn K (.ref cBook) "with_member" = some (some (.ref fa24))) (l24 : K.lookup fa24 = some ⟨oc24, od24, .func (PySem.W.fnOf "with_member" "Book.with_member" (defArgs (clsAt (top 43) 14)) (defBody (clsAt (top 43) 14)) (defScope (clsAt (top 43) 14)) .none kV24 dc24 pm24 an24 cd24 ct24), sl24⟩) (c24 : PySem.W.codeIn K cd24 "Book.with_member" = true) (k24 : PySem.W.keepIn K (.ref fa24) = true) (n24 : PySem.W.isFn K (.ref fa24) = true)
    {fa25 : Addr} {od25 an25 : Option Addr} {sl25 : Array (Option Value)} {oc25 kV25 dc25 pm25 cd25 ct25 : Value} 
    (a25 : PySem.W.findIn K (.ref cDesk) "join" = some (some (.ref fa25))) (l25 : K.lookup fa25 = some ⟨oc25, od25, .func (PySem.W.fnOf "join" "Desk.join" (defArgs (clsAt (top 52) 4)) (defBody (clsAt (top 52) 4)) (defScope (clsAt (top 52) 4)) .none kV25 dc25 pm25 an25 cd25 ct25), sl25⟩) (c25 : PySem.W.codeIn K cd25 "Desk.join" = true) (k25 : PySem.W.keepIn K (.ref fa25) = true) (n25 : PySem.W.isFn K (.ref fa25) = true)
    {fa26 : Addr} {od26 an26 : Option Addr} {sl26 : Array (Option Value)} {oc26 kV26 dc26 pm26 cd26 ct26 : Value} 
    (a26 : PySem.W.findIn K (.ref cBook) "with_buy" = some (some (.ref fa26))) (l26 : K.lookup fa26 = some ⟨oc26, od26, .func (PySem.W.fnOf "with_buy" "Book.with_buy" (defArgs (clsAt (top 43) 15)) (defBody (clsAt (top 43) 15)) (defScope (clsAt (top 43) 15)) .none kV26 dc26 pm26 an26 cd26 ct26), sl26⟩) (c26 : PySem.W.codeIn K cd26 "Book.with_buy" = true) (k26 : PySem.W.keepIn K (.ref fa26) = true) (n26 : PySem.W.isFn K (.ref fa26) = true)
    {fa27 : Addr} {od27 an27 : Option Addr} {sl27 : Array (Option Value)} {oc27 kV27 dc27 pm27 cd27 ct27 : Value} 
    (a27 : PySem.W.findIn K (.ref cDesk) "buy" = some (some (.ref fa27))) (l27 : K.lookup fa27 = some ⟨oc27, od27, .func (PySem.W.fnOf "buy" "Desk.buy" (defArgs (clsAt (top 52) 5)) (defBody (clsAt (top 52) 5)) (defScope (clsAt (top 52) 5)) .none kV27 dc27 pm27 an27 cd27 ct27), sl27⟩) (c27 : PySem.W.codeIn K cd27 "Desk.buy" = true) (k27 : PySem.W.keepIn K (.ref fa27) = true) (n27 : PySem.W.isFn K (.ref fa27) = true)
    {fa28 : Addr} {od28 an28 : Option Addr} {sl28 : Array (Option Value)} {oc28 kV28 dc28 pm28 cd28 ct28 : Value} 
    (a28 : PySem.W.findIn K (.ref cBook) "without" = some (some (.ref fa28))) (l28 : K.lookup fa28 = some ⟨oc28, od28, .func (PySem.W.fnOf "without" "Book.without" (defArgs (clsAt (top 43) 16)) (defBody (clsAt (top 43) 16)) (defScope (clsAt (top 43) 16)) .none kV28 dc28 pm28 an28 cd28 ct28), sl28⟩) (c28 : PySem.W.codeIn K cd28 "Book.without" = true) (k28 : PySem.W.keepIn K (.ref fa28) = true) (n28 : PySem.W.isFn K (.ref fa28) = true)
    {fa29 : Addr} {od29 an29 : Option Addr} {sl29 : Array (Option Value)} {oc29 kV29 dc29 pm29 cd29 ct29 : Value} 
    (a29 : PySem.W.findIn K (.ref cDesk) "leave" = some (some (.ref fa29))) (l29 : K.lookup fa29 = some ⟨oc29, od29, .func (PySem.W.fnOf "leave" "Desk.leave" (defArgs (clsAt (top 52) 6)) (defBody (clsAt (top 52) 6)) (defScope (clsAt (top 52) 6)) .none kV29 dc29 pm29 an29 cd29 ct29), sl29⟩) (c29 : PySem.W.codeIn K cd29 "Desk.leave" = true) (k29 : PySem.W.keepIn K (.ref fa29) = true) (n29 : PySem.W.isFn K (.ref fa29) = true)
    {fa30 : Addr} {od30 an30 : Option Addr} {sl30 : Array (Option Value)} {oc30 kV30 dc30 pm30 cd30 ct30 : Value}
    (a30 : PySem.W.nsIn K mainGlobals "_law_without" = some (some (.ref fa30))) (l30 : K.lookup fa30 = some ⟨oc30, od30, .func (PySem.W.fnOf "_law_without" "_law_without" (defArgs (top 58)) (defBody (top 58)) (defScope (top 58)) .none kV30 dc30 pm30 an30 cd30 ct30), sl30⟩) (c30 : PySem.W.codeIn K cd30 "_law_without" = true) (k30 : PySem.W.keepIn K (.ref fa30) = true)
    {fa31 : Addr} {od31 an31 : Option Addr} {sl31 : Array (Option Value)} {oc31 kV31 dc31 pm31 cd31 ct31 : Value}
    (a31 : PySem.W.nsIn K mainGlobals "_law_change" = some (some (.ref fa31))) (l31 : K.lookup fa31 = some ⟨oc31, od31, .func (PySem.W.fnOf "_law_change" "_law_change" (defArgs (top 60)) (defBody (top 60)) (defScope (top 60)) .none kV31 dc31 pm31 an31 cd31 ct31), sl31⟩) (c31 : PySem.W.codeIn K cd31 "_law_change" = true) (k31 : PySem.W.keepIn K (.ref fa31) = true)
    {fa32 : Addr} {od32 an32 : Option Addr} {sl32 : Array (Option Value)} {oc32 kV32 dc32 pm32 cd32 ct32 : Value}
    (a32 : PySem.W.nsIn K mainGlobals "_law_deed_right" = some (some (.ref fa32))) (l32 : K.lookup fa32 = some ⟨oc32, od32, .func (PySem.W.fnOf "_law_deed_right" "_law_deed_right" (defArgs (top 62)) (defBody (top 62)) (defScope (top 62)) .none kV32 dc32 pm32 an32 cd32 ct32), sl32⟩) (c32 : PySem.W.codeIn K cd32 "_law_deed_right" = true) (k32 : PySem.W.keepIn K (.ref fa32) = true)
    {fa33 : Addr} {od33 an33 : Option Addr} {sl33 : Array (Option Value)} {oc33 kV33 dc33 pm33 cd33 ct33 : Value} 
    (a33 : PySem.W.findIn K (.ref cDesk) "__len__" = some (some (.ref fa33))) (l33 : K.lookup fa33 = some ⟨oc33, od33, .func (PySem.W.fnOf "__len__" "Desk.__len__" (defArgs (clsAt (top 52) 1)) (defBody (clsAt (top 52) 1)) (defScope (clsAt (top 52) 1)) .none kV33 dc33 pm33 an33 cd33 ct33), sl33⟩) (c33 : PySem.W.codeIn K cd33 "Desk.__len__" = true) (k33 : PySem.W.keepIn K (.ref fa33) = true) (n33 : PySem.W.isFn K (.ref fa33) = true)
    {fa34 : Addr} {od34 an34 : Option Addr} {sl34 : Array (Option Value)} {oc34 kV34 dc34 pm34 cd34 ct34 : Value}
    (a34 : PySem.W.nsIn K mainGlobals "_law_is_as" = some (some (.ref fa34))) (l34 : K.lookup fa34 = some ⟨oc34, od34, .func (PySem.W.fnOf "_law_is_as" "_law_is_as" (defArgs (top 61)) (defBody (top 61)) (defScope (top 61)) .none kV34 dc34 pm34 an34 cd34 ct34), sl34⟩) (c34 : PySem.W.codeIn K cd34 "_law_is_as" = true) (k34 : PySem.W.keepIn K (.ref fa34) = true)
    {fa35 : Addr} {od35 an35 : Option Addr} {sl35 : Array (Option Value)} {oc35 kV35 dc35 pm35 cd35 ct35 : Value}
    (a35 : PySem.W.nsIn K mainGlobals "_law_right" = some (some (.ref fa35))) (l35 : K.lookup fa35 = some ⟨oc35, od35, .func (PySem.W.fnOf "_law_right" "_law_right" (defArgs (top 63)) (defBody (top 63)) (defScope (top 63)) .none kV35 dc35 pm35 an35 cd35 ct35), sl35⟩) (c35 : PySem.W.codeIn K cd35 "_law_right" = true) (k35 : PySem.W.keepIn K (.ref fa35) = true)
    {fa36 : Addr} {od36 an36 : Option Addr} {sl36 : Array (Option Value)} {oc36 kV36 dc36 pm36 cd36 ct36 : Value}
    (a36 : PySem.W.nsIn K mainGlobals "_law_long_right" = some (some (.ref fa36))) (l36 : K.lookup fa36 = some ⟨oc36, od36, .func (PySem.W.fnOf "_law_long_right" "_law_long_right" (defArgs (top 64)) (defBody (top 64)) (defScope (top 64)) .none kV36 dc36 pm36 an36 cd36 ct36), sl36⟩) (c36 : PySem.W.codeIn K cd36 "_law_long_right" = true) (k36 : PySem.W.keepIn K (.ref fa36) = true)
    {fa37 : Addr} {od37 an37 : Option Addr} {sl37 : Array (Option Value)} {oc37 kV37 dc37 pm37 cd37 ct37 : Value}
    (a37 : PySem.W.nsIn K mainGlobals "law" = some (some (.ref fa37))) (l37 : K.lookup fa37 = some ⟨oc37, od37, .func (PySem.W.fnOf "law" "law" (defArgs (top 65)) (defBody (top 65)) (defScope (top 65)) .none kV37 dc37 pm37 an37 cd37 ct37), sl37⟩) (c37 : PySem.W.codeIn K cd37 "law" = true) (k37 : PySem.W.keepIn K (.ref fa37) = true)
    {t_BONUS : Tok} (v_BONUS : PySem.W.nsIn K mainGlobals "BONUS" = some (some (.int 2 t_BONUS)))
    {t_BUYS : Tok} (v_BUYS : PySem.W.nsIn K mainGlobals "BUYS" = some (some (.str "buys" t_BUYS)))
    {t_LEAST : Tok} (v_LEAST : PySem.W.nsIn K mainGlobals "LEAST" = some (some (.int 0 t_LEAST)))
    {t_MOST_SHARE : Tok} (v_MOST_SHARE : PySem.W.nsIn K mainGlobals "MOST_SHARE" = some (some (.int 1000 t_MOST_SHARE)))
    {t_NOBODY_books : Tok} (v_NOBODY_books : PySem.W.nsIn K mainGlobals "NOBODY_books" = some (some (.int (-1) t_NOBODY_books)))
    {t_NOBODY_desk : Tok} (v_NOBODY_desk : PySem.W.nsIn K mainGlobals "NOBODY_desk" = some (some (.int (-1) t_NOBODY_desk)))
    {t_RANK_PARTS : Tok} (v_RANK_PARTS : PySem.W.nsIn K mainGlobals "RANK_PARTS" = some (some (.int 4 t_RANK_PARTS)))
    {t_SHARES : Tok} (v_SHARES : PySem.W.nsIn K mainGlobals "SHARES" = some (some (.int 3 t_SHARES)))
    (z_all : PySem.W.nsIn K mainGlobals "all" = some none)
    (z_bool : PySem.W.nsIn K mainGlobals "bool" = some none)
    (z_enumerate : PySem.W.nsIn K mainGlobals "enumerate" = some none)
    (z_int : PySem.W.nsIn K mainGlobals "int" = some none)
    (z_isinstance : PySem.W.nsIn K mainGlobals "isinstance" = some none)
    (z_len : PySem.W.nsIn K mainGlobals "len" = some none)
    (z_list : PySem.W.nsIn K mainGlobals "list" = some none)
    (z_range : PySem.W.nsIn K mainGlobals "range" = some none)
    (z_repr : PySem.W.nsIn K mainGlobals "repr" = some none)
    (z_sum : PySem.W.nsIn K mainGlobals "sum" = some none)
    (z_tuple : PySem.W.nsIn K mainGlobals "tuple" = some none)
    (z_zip : PySem.W.nsIn K mainGlobals "zip" = some none) :
    ∃ fd : FuncData, (∀ (s : Shared) (v : Value), BindsTo s fd ⟨[v], []⟩ [("_law_script", v)]) ∧ ∀ base : Heap, K.In base → base.Ns mainGlobals mg → SysB base → GFn l.prog w K mg base CX0 11 fa fd ["_law_script"] (fun vs H Q _ => spOf K (f_law (clK K)) 1 vs H Q E0) := by
  unfold clK
  rw [clsOf_eq g_Book]
  rw [clsOf_eq g_Desk]
  rw [clsOf_eq g_Rule]
  generalize ec : ({ Book := cBook, Desk := cDesk, Rule := cRule } : Cl) = c
  have e_Book : cBook = c.Book := by rw [← ec]
  have e_Desk : cDesk = c.Desk := by rw [← ec]
  have e_Rule : cRule = c.Rule := by rw [← ec]
  clear ec
  subst e_Book e_Desk e_Rule
  have T : Tx K mg c := ⟨PySem.W.mg_none_of X G z_all, PySem.W.mg_none_of X G z_bool, PySem.W.mg_none_of X G z_enumerate, PySem.W.mg_none_of X G z_int, PySem.W.mg_none_of X G z_isinstance, PySem.W.mg_none_of X G z_len, PySem.W.mg_none_of X G z_list, PySem.W.mg_none_of X G z_range, PySem.W.mg_none_of X G z_repr, PySem.W.mg_none_of X G z_sum, PySem.W.mg_none_of X G z_tuple, PySem.W.mg_none_of X G z_zip, ⟨_, PySem.W.mg_of X G v_BONUS⟩, ⟨_, PySem.W.mg_of X G v_BUYS⟩, ⟨_, PySem.W.mg_of X G v_LEAST⟩, ⟨_, PySem.W.mg_of X G v_MOST_SHARE⟩, ⟨_, PySem.W.mg_of X G v_NOBODY_books⟩, ⟨_, PySem.W.mg_of X G v_NOBODY_desk⟩, ⟨_, PySem.W.mg_of X G v_RANK_PARTS⟩, ⟨_, PySem.W.mg_of X G v_SHARES⟩, q_Book, f_Book_ups, f_Book_buys, f_Book_pairs_kept, f_Book_sales, q_Desk, f_Desk_rule, f_Desk_book, PySem.W.mg_of X G g_Book, f_Desk_books_ahead, f_Desk_books_later, q_Rule, f_Rule_ranks, f_Rule_levels, ⟨_, clsOf_eq g_NothingToUndo, E_NothingToUndo, B_NothingToUndo, T_NothingToUndo, K_NothingToUndo, PySem.W.mg_of X G g_NothingToUndo⟩, ⟨_, clsOf_eq g_NothingToRedo, E_NothingToRedo, B_NothingToRedo, T_NothingToRedo, K_NothingToRedo, PySem.W.mg_of X G g_NothingToRedo⟩, (.cons X_ShareError (.cons g_ShareError g_ShareError s_ShareError_ShareError (.cons g_ShareError g_BadRule s_ShareError_BadRule (.cons g_ShareError g_BadBook s_ShareError_BadBook (.cons g_ShareError g_BadText s_ShareError_BadText (.cons g_ShareError g_NoMember s_ShareError_NoMember (.cons g_ShareError g_NothingToUndo s_ShareError_NothingToUndo (.cons g_ShareError g_NothingToRedo s_ShareError_NothingToRedo .nil))))))) (.cons X_BadRule (.cons g_BadRule g_ShareError s_BadRule_ShareError (.cons g_BadRule g_BadRule s_BadRule_BadRule (.cons g_BadRule g_BadBook s_BadRule_BadBook (.cons g_BadRule g_BadText s_BadRule_BadText (.cons g_BadRule g_NoMember s_BadRule_NoMember (.cons g_BadRule g_NothingToUndo s_BadRule_NothingToUndo (.cons g_BadRule g_NothingToRedo s_BadRule_NothingToRedo .nil))))))) (.cons X_BadBook (.cons g_BadBook g_ShareError s_BadBook_ShareError (.cons g_BadBook g_BadRule s_BadBook_BadRule (.cons g_BadBook g_BadBook s_BadBook_BadBook (.cons g_BadBook g_BadText s_BadBook_BadText (.cons g_BadBook g_NoMember s_BadBook_NoMember (.cons g_BadBook g_NothingToUndo s_BadBook_NothingToUndo (.cons g_BadBook g_NothingToRedo s_BadBook_NothingToRedo .nil))))))) (.cons X_BadText (.cons g_BadText g_ShareError s_BadText_ShareError (.cons g_BadText g_BadRule s_BadText_BadRule (.cons g_BadText g_BadBook s_BadText_BadBook (.cons g_BadText g_BadText s_BadText_BadText (.cons g_BadText g_NoMember s_BadText_NoMember (.cons g_BadText g_NothingToUndo s_BadText_NothingToUndo (.cons g_BadText g_NothingToRedo s_BadText_NothingToRedo .nil))))))) (.cons X_NoMember (.cons g_NoMember g_ShareError s_NoMember_ShareError (.cons g_NoMember g_BadRule s_NoMember_BadRule (.cons g_NoMember g_BadBook s_NoMember_BadBook (.cons g_NoMember g_BadText s_NoMember_BadText (.cons g_NoMember g_NoMember s_NoMember_NoMember (.cons g_NoMember g_NothingToUndo s_NoMember_NothingToUndo (.cons g_NoMember g_NothingToRedo s_NoMember_NothingToRedo .nil))))))) (.cons X_NothingToUndo (.cons g_NothingToUndo g_ShareError s_NothingToUndo_ShareError (.cons g_NothingToUndo g_BadRule s_NothingToUndo_BadRule (.cons g_NothingToUndo g_BadBook s_NothingToUndo_BadBook (.cons g_NothingToUndo g_BadText s_NothingToUndo_BadText (.cons g_NothingToUndo g_NoMember s_NothingToUndo_NoMember (.cons g_NothingToUndo g_NothingToUndo s_NothingToUndo_NothingToUndo (.cons g_NothingToUndo g_NothingToRedo s_NothingToUndo_NothingToRedo .nil))))))) (.cons X_NothingToRedo (.cons g_NothingToRedo g_ShareError s_NothingToRedo_ShareError (.cons g_NothingToRedo g_BadRule s_NothingToRedo_BadRule (.cons g_NothingToRedo g_BadBook s_NothingToRedo_BadBook (.cons g_NothingToRedo g_BadText s_NothingToRedo_BadText (.cons g_NothingToRedo g_NoMember s_NothingToRedo_NoMember (.cons g_NothingToRedo g_NothingToUndo s_NothingToRedo_NothingToUndo (.cons g_NothingToRedo g_NothingToRedo s_NothingToRedo_NothingToRedo .nil))))))) .nil))))))), (by rw [clsOf_eq g_NothingToUndo]; exact PySem.W.mg_of X G g_NothingToUndo), (by rw [clsOf_eq g_ShareError]; exact PySem.W.mg_of X G g_ShareError), (by rw [clsOf_eq g_NothingToRedo]; exact PySem.W.mg_of X G g_NothingToRedo), PySem.W.mg_of X G g_Desk, PySem.W.mg_of X G g_Rule⟩
  have F0 := funV_mk (st := (top 54)) l0 c0
  have b0 := F0.binds (ps := ["_law_script"]) fun _ _ _ _ _ _ us hl => match us, hl with | [_], _ => rfl
  have m0 := PySem.W.mg_of X G a0
  have F1 := funV_mk (st := (top 55)) l1 c1
  have b1 := F1.binds (ps := ["_law_deck_here", "_law_many"]) fun _ _ _ _ _ _ us hl => match us, hl with | [_, _], _ => rfl
  have m1 := PySem.W.mg_of X G a1
  have F2 := funV_mk (st := (top 56)) l2 c2
  have b2 := F2.binds (ps := ["_law_deck_here", "_law_some"]) fun _ _ _ _ _ _ us hl => match us, hl with | [_, _], _ => rfl
  have m2 := PySem.W.mg_of X G a2
  have F3 := funV_mk (st := (top 57)) l3 c3
  have b3 := F3.binds (ps := ["_law_deck_here"]) fun _ _ _ _ _ _ us hl => match us, hl with | [_], _ => rfl
  have m3 := PySem.W.mg_of X G a3
  have F4 := funV_mk (st := (top 12)) l4 c4
  have b4 := F4.binds (ps := ["thing"]) fun _ _ _ _ _ _ us hl => match us, hl with | [_], _ => rfl
  have m4 := PySem.W.mg_of X G a4
  have F5 := funV_mk (st := (top 41)) l5 c5
  have b5 := F5.binds (ps := ["thing"]) fun _ _ _ _ _ _ us hl => match us, hl with | [_], _ => rfl
  have m5 := PySem.W.mg_of X G a5
  have F6 := funV_mk (st := (clsAt (top 4) 0)) l6 c6
  have b6 := F6.binds (ps := ["self", "part"]) fun _ _ _ _ _ _ us hl => match us, hl with | [_, _], _ => rfl
  have F7 := funV_mk (st := (top 13)) l7 c7
  have b7 := F7.binds (ps := ["least", "thing"]) fun _ _ _ _ _ _ us hl => match us, hl with | [_, _], _ => rfl
  have m7 := PySem.W.mg_of X G a7
  have F8 := funV_mk (st := (top 42)) l8 c8
  have b8 := F8.binds (ps := ["many", "thing"]) fun _ _ _ _ _ _ us hl => match us, hl with | [_, _], _ => rfl
  have m8 := PySem.W.mg_of X G a8
  have F9 := funV_mk (st := (clsAt (top 43) 0)) l9 c9
  have F10 := funV_mk (st := (clsAt (top 52) 0)) l10 c10
  have b10 := F10.binds (ps := ["self", "rule"]) fun _ _ _ _ _ _ us hl => match us, hl with | [_, _], _ => rfl
  have F11 := funV_mk (st := (clsAt (top 3) 0)) l11 c11
  have b11 := F11.binds (ps := ["self", "part"]) fun _ _ _ _ _ _ us hl => match us, hl with | [_, _], _ => rfl
  have F12 := funV_mk (st := (top 27)) l12 c12
  have b12 := F12.binds (ps := ["number", "thing"]) fun _ _ _ _ _ _ us hl => match us, hl with | [_, _], _ => rfl
  have m12 := PySem.W.mg_of X G a12
  have F13 := funV_mk (st := (top 26)) l13 c13
  have b13 := F13.binds (ps := ["thing"]) fun _ _ _ _ _ _ us hl => match us, hl with | [_], _ => rfl
  have m13 := PySem.W.mg_of X G a13
  have F14 := funV_mk (st := (top 28)) l14 c14
  have b14 := F14.binds (ps := ["number", "thing"]) fun _ _ _ _ _ _ us hl => match us, hl with | [_, _], _ => rfl
  have m14 := PySem.W.mg_of X G a14
  have F15 := funV_mk (st := (top 29)) l15 c15
  have b15 := F15.binds (ps := ["below", "above"]) fun _ _ _ _ _ _ us hl => match us, hl with | [_, _], _ => rfl
  have m15 := PySem.W.mg_of X G a15
  have F16 := funV_mk (st := (clsAt (top 30) 0)) l16 c16
  have b16 := F16.binds (ps := ["self", "ranks"]) fun _ _ _ _ _ _ us hl => match us, hl with | [_, _], _ => rfl
  have F17 := funV_mk (st := (clsAt (top 52) 7)) l17 c17
  have b17 := F17.binds (ps := ["self"]) fun _ _ _ _ _ _ us hl => match us, hl with | [_], _ => rfl
  have F18 := funV_mk (st := (clsAt (top 52) 8)) l18 c18
  have b18 := F18.binds (ps := ["self"]) fun _ _ _ _ _ _ us hl => match us, hl with | [_], _ => rfl
  have F19 := funV_mk (st := (top 59)) l19 c19
  have b19 := F19.binds (ps := ["_law_desk", "_law_word"]) fun _ _ _ _ _ _ us hl => match us, hl with | [_, _], _ => rfl
  have m19 := PySem.W.mg_of X G a19
  have F20 := funV_mk (st := (clsAt (top 43) 2)) l20 c20
  have b20 := F20.binds (ps := ["self"]) fun _ _ _ _ _ _ us hl => match us, hl with | [_], _ => rfl
  have F21 := funV_mk (st := (clsAt (top 6) 0)) l21 c21
  have b21 := F21.binds (ps := ["self", "number"]) fun _ _ _ _ _ _ us hl => match us, hl with | [_, _], _ => rfl
  have F22 := funV_mk (st := (clsAt (top 52) 2)) l22 c22
  have b22 := F22.binds (ps := ["self", "thing"]) fun _ _ _ _ _ _ us hl => match us, hl with | [_, _], _ => rfl
  have F23 := funV_mk (st := (clsAt (top 52) 3)) l23 c23
  have b23 := F23.binds (ps := ["self", "book"]) fun _ _ _ _ _ _ us hl => match us, hl with | [_, _], _ => rfl
  have F24 := funV_mk (st := (clsAt (top 43) 14)) l24 c24
  have b24 := F24.binds (ps := ["self", "up", "buy"]) fun _ _ _ _ _ _ us hl => match us, hl with | [_, _, _], _ => rfl
  have F25 := funV_mk (st := (clsAt (top 52) 4)) l25 c25
  have b25 := F25.binds (ps := ["self", "up", "buy"]) fun _ _ _ _ _ _ us hl => match us, hl with | [_, _, _], _ => rfl
  have F26 := funV_mk (st := (clsAt (top 43) 15)) l26 c26
  have b26 := F26.binds (ps := ["self", "member", "buy"]) fun _ _ _ _ _ _ us hl => match us, hl with | [_, _, _], _ => rfl
  have F27 := funV_mk (st := (clsAt (top 52) 5)) l27 c27
  have b27 := F27.binds (ps := ["self", "member", "amount"]) fun _ _ _ _ _ _ us hl => match us, hl with | [_, _, _], _ => rfl
  have F28 := funV_mk (st := (clsAt (top 43) 16)) l28 c28
  have b28 := F28.binds (ps := ["self", "member"]) fun _ _ _ _ _ _ us hl => match us, hl with | [_, _], _ => rfl
  have F29 := funV_mk (st := (clsAt (top 52) 6)) l29 c29
  have b29 := F29.binds (ps := ["self", "member"]) fun _ _ _ _ _ _ us hl => match us, hl with | [_, _], _ => rfl
  have F30 := funV_mk (st := (top 58)) l30 c30
  have b30 := F30.binds (ps := ["_law_w", "_law_k"]) fun _ _ _ _ _ _ us hl => match us, hl with | [_, _], _ => rfl
  have m30 := PySem.W.mg_of X G a30
  have F31 := funV_mk (st := (top 60)) l31 c31
  have b31 := F31.binds (ps := ["_law_deck_here", "_law_desk", "_law_w", "_law_low"]) fun _ _ _ _ _ _ us hl => match us, hl with | [_, _, _, _], _ => rfl
  have m31 := PySem.W.mg_of X G a31
  have F32 := funV_mk (st := (top 62)) l32 c32
  have b32 := F32.binds (ps := ["_law_deck_here", "_law_desk", "_law_low", "_law_piles"]) fun _ _ _ _ _ _ us hl => match us, hl with | [_, _, _, _], _ => rfl
  have m32 := PySem.W.mg_of X G a32
  have F33 := funV_mk (st := (clsAt (top 52) 1)) l33 c33
  have b33 := F33.binds (ps := ["self"]) fun _ _ _ _ _ _ us hl => match us, hl with | [_], _ => rfl
  have F34 := funV_mk (st := (top 61)) l34 c34
  have b34 := F34.binds (ps := ["_law_desk", "_law_w", "_law_ahead"]) fun _ _ _ _ _ _ us hl => match us, hl with | [_, _, _], _ => rfl
  have m34 := PySem.W.mg_of X G a34
  have F35 := funV_mk (st := (top 63)) l35 c35
  have b35 := F35.binds (ps := ["_law_deck_here", "_law_count"]) fun _ _ _ _ _ _ us hl => match us, hl with | [_, _], _ => rfl
  have m35 := PySem.W.mg_of X G a35
  have F36 := funV_mk (st := (top 64)) l36 c36
  have b36 := F36.binds (ps := []) fun _ _ _ _ _ _ us hl => match us, hl with | [], _ => rfl
  have m36 := PySem.W.mg_of X G a36
  have F37 := funV_mk (st := (top 65)) l37 c37
  have b37 := F37.binds (ps := ["_law_script"]) fun _ _ _ _ _ _ us hl => match us, hl with | [_], _ => rfl
  have m37 := PySem.W.mg_of X G a37
  obtain rfl : fa37 = fa := by have e := m37.symm.trans hfa; simpa using e
  refine ⟨PySem.W.fnOf "law" "law" (defArgs (top 65)) (defBody (top 65)) (defScope (top 65)) .none kV37 dc37 pm37 an37 cd37 ct37, fun s v => .of_eq rfl, fun base _ _ hb => ?_⟩
  letI : Nn := ⟨false⟩
  have o_w_deck := ok_w_deck (P := l.prog) (w := w) (base := base) F0 T
  have d_w_deck : FOkX l.prog w K mg base false 1 "_law_deck" (f_w_deck c zz) 1 [] := fokX o_w_deck m0 k0 b0
  have o_w_draw_3 := ok_w_draw_3 (P := l.prog) (w := w) (base := base) F1 T
  have d_w_draw_3 : FOkX l.prog w K mg base false 1 "_law_draw" (f_w_draw_3 c zz) 2 [] := fokX o_w_draw_3 m1 k1 b1
  have o_w_pick_3 := ok_w_pick_3 (P := l.prog) (w := w) (base := base) F2 T d_w_draw_3
  have d_w_pick_3 : FOkX l.prog w K mg base false 2 "_law_pick" (f_w_pick_3 c zz) 2 [] := fokX o_w_pick_3 m2 k2 b2
  have o_w_lines := ok_w_lines (P := l.prog) (w := w) (base := base) F3 T d_w_draw_3 d_w_pick_3
  have d_w_lines : FOkX l.prog w K mg base false 3 "_law_lines" (f_w_lines c zz) 1 [] := fokX o_w_lines m3 k3 b3
  have o_p_is_integer := ok_p_is_integer (P := l.prog) (w := w) (base := base) F4 T
  have d_p_is_integer : FOkX l.prog w K mg base false 1 "is_integer" (f_p_is_integer c) 1 [] := fokX o_p_is_integer m4 k4 b4
  have o_p_are_ups := ok_p_are_ups (P := l.prog) (w := w) (base := base) F5 T d_p_is_integer
  have d_p_are_ups : FOkX l.prog w K mg base false 2 "are_ups" (f_p_are_ups c) 1 [] := fokX o_p_are_ups m5 k5 b5
  have o_p_is_integer_from := ok_p_is_integer_from (P := l.prog) (w := w) (base := base) F7 T d_p_is_integer
  have d_p_is_integer_from : FOkX l.prog w K mg base false 2 "is_integer_from" (f_p_is_integer_from c) 2 [] := fokX o_p_is_integer_from m7 k7 b7
  have o_p_are_buys := ok_p_are_buys (P := l.prog) (w := w) (base := base) F8 T d_p_is_integer_from
  have d_p_are_buys : FOkX l.prog w K mg base false 3 "are_buys" (f_p_are_buys c) 2 [] := fokX o_p_are_buys m8 k8 b8
  have x_BadBook : Ex1 l.prog w K mg base .BadBook "part" := ⟨cBadBook, _, _, _, clsOf_eq g_BadBook, ⟨⟨_, _, _, _, _, _, _, _, _, _, _, _, _, _, _, L_BadBook, O_BadBook⟩, A_BadBook, B_BadBook, T_BadBook, K_BadBook⟩, F_BadBook, a6, beq_iff_eq.mp n6, PySem.W.mg_of X G g_BadBook, ok_p_BadBook___init__ (P := l.prog) (w := w) (mg := mg) (base := base) F6, b6⟩
  have o_p_Book___init__ := ok_p_Book___init__ (P := l.prog) (w := w) (base := base) F9 T d_p_are_ups x_BadBook d_p_are_buys
  have b9_2 : Binds K _ ["self", "ups", "buys"] [.ref y9_0, .ref y9_1] := F9.bindsD t9 rfl fun _ _ _ _ _ _ us hl => match us, (show us.length = 1 by simp at hl; omega) with | [_], _ => ⟨_, rfl, rfl⟩
  have k_p_Book___init__2 : COkX l.prog w K mg base 4 "Book" c.Book (f_p_Book___init__ c) 3 [.tup [], .tup []] := cokX o_p_Book___init__ ⟨mk_Book, a9, n9, kp_Book⟩ (PySem.W.mg_of X G g_Book) b9_2 (.cons (show RelV (V.ref y9_0) (Value.ref y9_0) from rfl) (.cons (show RelV (V.ref y9_1) (Value.ref y9_1) from rfl) .nil)) (fun _ _ => (.cons (rv_tup0 w9_0) (.cons (rv_tup0 w9_1) .nil)))
  have o_p_Desk___init__ := ok_p_Desk___init__ (P := l.prog) (w := w) (base := base) F10 T k_p_Book___init__2
  have o_p_is_need := ok_p_is_need (P := l.prog) (w := w) (base := base) F12 T d_p_is_integer
  have d_p_is_need : FOkX l.prog w K mg base false 2 "is_need" (f_p_is_need c) 2 [] := fokX o_p_is_need m12 k12 b12
  have o_p_is_share := ok_p_is_share (P := l.prog) (w := w) (base := base) F13 T d_p_is_integer
  have d_p_is_share : FOkX l.prog w K mg base false 2 "is_share" (f_p_is_share c) 1 [] := fokX o_p_is_share m13 k13 b13
  have o_p_is_rank := ok_p_is_rank (P := l.prog) (w := w) (base := base) F14 T d_p_is_integer_from d_p_is_need d_p_is_share
  have d_p_is_rank : FOkX l.prog w K mg base false 3 "is_rank" (f_p_is_rank c) 2 [] := fokX o_p_is_rank m14 k14 b14
  have o_p_goes_above := ok_p_goes_above (P := l.prog) (w := w) (base := base) F15 T
  have d_p_goes_above : FOkX l.prog w K mg base false 1 "goes_above" (f_p_goes_above c) 2 [] := fokX o_p_goes_above m15 k15 b15
  have x_BadRule : Ex1 l.prog w K mg base .BadRule "part" := ⟨cBadRule, _, _, _, clsOf_eq g_BadRule, ⟨⟨_, _, _, _, _, _, _, _, _, _, _, _, _, _, _, L_BadRule, O_BadRule⟩, A_BadRule, B_BadRule, T_BadRule, K_BadRule⟩, F_BadRule, a11, beq_iff_eq.mp n11, PySem.W.mg_of X G g_BadRule, ok_p_BadRule___init__ (P := l.prog) (w := w) (mg := mg) (base := base) F11, b11⟩
  have o_p_Rule___init__ := ok_p_Rule___init__ (P := l.prog) (w := w) (base := base) F16 T x_BadRule d_p_is_rank d_p_goes_above
  have o_p_Desk_undo := ok_p_Desk_undo (P := l.prog) (w := w) (base := base) F17 T
  have o_p_Desk_redo := ok_p_Desk_redo (P := l.prog) (w := w) (base := base) F18 T
  have m_p_Desk_undo : MOkX l.prog w K mg base false 1 c.Desk "undo" (f_p_Desk_undo c) 1 := mokX o_p_Desk_undo q_Desk.cls ⟨a17, n17, k17⟩ b17
  have m_p_Desk_redo : MOkX l.prog w K mg base false 1 c.Desk "redo" (f_p_Desk_redo c) 1 := mokX o_p_Desk_redo q_Desk.cls ⟨a18, n18, k18⟩ b18
  have o_w_heard := ok_w_heard (P := l.prog) (w := w) (base := base) F19 T hb m_p_Desk_undo m_p_Desk_redo
  have d_w_heard : FOkX l.prog w K mg base true 2 "_law_heard" (f_w_heard c) 2 [] := fokX o_w_heard m19 k19 b19
  have o_p_Book___len__ := ok_p_Book___len__ (P := l.prog) (w := w) (base := base) F20 T
  have m_p_Book___len__ : MOkX l.prog w K mg base false 1 c.Book "__len__" (f_p_Book___len__ c) 1 := mokX o_p_Book___len__ q_Book.cls ⟨a20, n20, k20⟩ b20
  have x_NoMember : Ex1 l.prog w K mg base .NoMember "number" := ⟨cNoMember, _, _, _, clsOf_eq g_NoMember, ⟨⟨_, _, _, _, _, _, _, _, _, _, _, _, _, _, _, L_NoMember, O_NoMember⟩, A_NoMember, B_NoMember, T_NoMember, K_NoMember⟩, F_NoMember, a21, beq_iff_eq.mp n21, PySem.W.mg_of X G g_NoMember, ok_p_NoMember___init__ (P := l.prog) (w := w) (mg := mg) (base := base) F21, b21⟩
  have o_p_Desk_check_member := ok_p_Desk_check_member (P := l.prog) (w := w) (base := base) F22 T d_p_is_integer m_p_Book___len__ x_NoMember
  have o_p_Desk_change := ok_p_Desk_change (P := l.prog) (w := w) (base := base) F23 T
  have b9_0 : Binds K _ ["self", "ups", "buys"] [] := F9.bindsD t9 rfl fun _ _ _ _ _ _ us hl => match us, (show us.length = 3 by simp at hl; omega) with | [_, _, _], _ => ⟨_, rfl, rfl⟩
  have k_p_Book___init__0 : COkX l.prog w K mg base 4 "Book" c.Book (f_p_Book___init__ c) 3 [] := cokX o_p_Book___init__ ⟨mk_Book, a9, n9, kp_Book⟩ (PySem.W.mg_of X G g_Book) b9_0 .nil (fun _ _ => .nil)
  have o_p_Book_with_member := ok_p_Book_with_member (P := l.prog) (w := w) (base := base) F24 T k_p_Book___init__0
  have m_p_Desk_check_member : MOkX l.prog w K mg base false 3 c.Desk "check_member" (f_p_Desk_check_member c) 2 := mokX o_p_Desk_check_member q_Desk.cls ⟨a22, n22, k22⟩ b22
  have m_p_Desk_change : MOkX l.prog w K mg base false 1 c.Desk "change" (f_p_Desk_change c) 2 := mokX o_p_Desk_change q_Desk.cls ⟨a23, n23, k23⟩ b23
  have m_p_Book_with_member : MOkX l.prog w K mg base false 6 c.Book "with_member" (f_p_Book_with_member c) 3 := mokX o_p_Book_with_member q_Book.cls ⟨a24, n24, k24⟩ b24
  have o_p_Desk_join := ok_p_Desk_join (P := l.prog) (w := w) (base := base) F25 T d_p_is_integer m_p_Desk_check_member d_p_is_integer_from x_BadBook m_p_Desk_change m_p_Book_with_member m_p_Book___len__
  have o_p_Book_with_buy := ok_p_Book_with_buy (P := l.prog) (w := w) (base := base) F26 T k_p_Book___init__0
  have m_p_Book_with_buy : MOkX l.prog w K mg base false 6 c.Book "with_buy" (f_p_Book_with_buy c) 3 := mokX o_p_Book_with_buy q_Book.cls ⟨a26, n26, k26⟩ b26
  have o_p_Desk_buy := ok_p_Desk_buy (P := l.prog) (w := w) (base := base) F27 T m_p_Desk_check_member d_p_is_integer_from x_BadBook m_p_Desk_change m_p_Book_with_buy
  have o_p_Book_without := ok_p_Book_without (P := l.prog) (w := w) (base := base) F28 T k_p_Book___init__0
  have m_p_Book_without : MOkX l.prog w K mg base false 6 c.Book "without" (f_p_Book_without c) 2 := mokX o_p_Book_without q_Book.cls ⟨a28, n28, k28⟩ b28
  have o_p_Desk_leave := ok_p_Desk_leave (P := l.prog) (w := w) (base := base) F29 T m_p_Desk_check_member m_p_Desk_change m_p_Book_without
  have o_w_without := ok_w_without (P := l.prog) (w := w) (base := base) F30 T
  have d_w_without : FOkX l.prog w K mg base false 1 "_law_without" (f_w_without c) 2 [] := fokX o_w_without m30 k30 b30
  have m_p_Desk_join : MOkX l.prog w K mg base false 7 c.Desk "join" (f_p_Desk_join c) 3 := mokX o_p_Desk_join q_Desk.cls ⟨a25, n25, k25⟩ b25
  have m_p_Desk_buy : MOkX l.prog w K mg base false 7 c.Desk "buy" (f_p_Desk_buy c) 3 := mokX o_p_Desk_buy q_Desk.cls ⟨a27, n27, k27⟩ b27
  have m_p_Desk_leave : MOkX l.prog w K mg base false 7 c.Desk "leave" (f_p_Desk_leave c) 2 := mokX o_p_Desk_leave q_Desk.cls ⟨a29, n29, k29⟩ b29
  have o_w_change := ok_w_change (P := l.prog) (w := w) (base := base) F31 T d_w_draw_3 m_p_Desk_join m_p_Desk_buy m_p_Desk_leave d_w_without
  have d_w_change : FOkX l.prog w K mg base false 8 "_law_change" (f_w_change c) 4 [] := fokX o_w_change m31 k31 b31
  have o_w_deed_right := ok_w_deed_right (P := l.prog) (w := w) (base := base) F32 T hb d_w_draw_3 d_w_heard d_w_change
  have d_w_deed_right : FOkX l.prog w K mg base true 9 "_law_deed_right" (f_w_deed_right c) 4 [] := fokX o_w_deed_right m32 k32 b32
  have o_p_Desk___len__ := ok_p_Desk___len__ (P := l.prog) (w := w) (base := base) F33 T
  have m_p_Desk___len__ : MOkX l.prog w K mg base false 1 c.Desk "__len__" (f_p_Desk___len__ c) 1 := mokX o_p_Desk___len__ q_Desk.cls ⟨a33, n33, k33⟩ b33
  have o_w_is_as := ok_w_is_as (P := l.prog) (w := w) (base := base) F34 T hb m_p_Desk___len__
  have d_w_is_as : FOkX l.prog w K mg base true 3 "_law_is_as" (f_w_is_as c) 3 [] := fokX o_w_is_as m34 k34 b34
  have k_p_Desk___init__0 : COkX l.prog w K mg base 6 "Desk" c.Desk (f_p_Desk___init__ c) 2 [] := cokX o_p_Desk___init__ ⟨mk_Desk, a10, n10, kp_Desk⟩ (PySem.W.mg_of X G g_Desk) b10 .nil (fun _ _ => .nil)
  have k_p_Rule___init__0 : COkX l.prog w K mg base 4 "Rule" c.Rule (f_p_Rule___init__ c) 2 [] := cokX o_p_Rule___init__ ⟨mk_Rule, a16, n16, kp_Rule⟩ (PySem.W.mg_of X G g_Rule) b16 .nil (fun _ _ => .nil)
  have o_w_right := ok_w_right (P := l.prog) (w := w) (base := base) F35 T hb d_w_lines k_p_Desk___init__0 k_p_Rule___init__0 d_w_deed_right d_w_is_as d_w_heard
  have d_w_right : FOkX l.prog w K mg base true 10 "_law_right" (f_w_right c) 2 [] := fokX o_w_right m35 k35 b35
  have o_w_long_right := ok_w_long_right (P := l.prog) (w := w) (base := base) F36 T hb k_p_Desk___init__0 k_p_Rule___init__0 m_p_Desk_join m_p_Desk_buy m_p_Desk___len__ m_p_Desk_undo d_w_heard m_p_Book___len__ m_p_Desk_redo
  have d_w_long_right : FOkX l.prog w K mg base true 8 "_law_long_right" (f_w_long_right c) 0 [] := fokX o_w_long_right m36 k36 b36
  have o_law := ok_law (P := l.prog) (w := w) (base := base) F37 T hb d_w_deck d_w_right d_w_pick_3 d_w_long_right
  exact o_law.top
end K39
end
section
open Gx in
open Lean in
local macro_rules
  | `(tactic| simp_arith! [$xs,*]) => `(tactic| simp -implicitDefEqProofs only [w_dictT0, w_gsubT, w_keysT, w_getT, w_get2, w_sortK, w_sortI, w_keysIt, w_gfldC, w_seq, wR_gd, wS_gd, w_nil, w_drop, w_ret, w_retN, w_if, w_asg, w_name, w_gnil, w_gcons, w_gtup, w_gsub, w_for, w_aug, w_augL, w_c, w_bin, w_un, w_chain, w_chainB, w_and, w_or, w_not, w_of, w_tand, w_tor, w_tnot, w_tyes, w_eif, w_call, w_attr, w_fld, w_bm, w_bmL, w_anil, w_acons, w_astar, w_appD, w_kw, pick_nil, pick_cons, Option.bind_some, w_tup, w_flst, w_fr, w_mk, w_flist, w_sorted, w_sortSet, w_lenSet, w_frev, w_fcat, w_frep, w_part0, w_part, w_slice, w_fslice, w_revT, w_dict0, w_dict, w_pnil, w_pcons, pOf, keysOf, w_ival, w_range1, w_range2, w_rangeD, w_rangeDi, w_zipS, w_own, w_frange1, w_frange2, w_tupF, w_lenSc, o_mulT, w_makeX, w_enum, w_zip, w_inew, w_comp, wipeL, o_add, o_sub, o_neg, o_addT, o_addS, o_cmp, o_eq, o_ne, eq_int, eq_bl, eq_str, eq_tup0, eq_lst0, eq_ref0, b_int, b_intB, wR_bind, wR_ok, wS_nx, wS_ret, wS_next, wS_ofE, wS_plain, eVar, seq_tup, seq_ptp, seq_lst, seq_frz, seq_ref, lst_lst, lst_ref, it_tup, it_ptp, it_lst, it_frz, it_ref, o_sub2T, o_sub2L, o_sub2F, o_sub2S, o_sub2D, o_sub2R, idxT0, idxT1, idxT2, idxT3, idxL0, idxR, Gx.keyOf, Gx.setItem, oAddI, mPop, mAppend, mExtend, len_tup, len_ptp, len_lst, len_frz, len_ref, len_str, bTup, bTupP, List.getElem?_cons_zero, List.getElem?_cons_succ, List.set_cons_zero, List.set_cons_succ, List.length_cons, List.length_nil, List.nil_append, List.cons_append, List.append_nil, Nat.reduceAdd, Int.cast_ofNat_Int, Int.reduceEq, List.isEmpty_nil, List.isEmpty_cons, Int.natCast_zero, Int.natCast_one, PySem.sizeLine_eq, Nat.reduceLT, Nat.reduceLeDiff, Nat.reduceEqDiff, if_true, if_false, Bool.false_eq_true, Bool.true_eq_false, decide_true, decide_false, Bool.not_true, Bool.not_false, eq_self, true_and, and_true, Nat.zero_add, Dk_app, In.app, Dk_len, List.append_assoc, List.length_append, Option.map_some, Option.map_none, dg0, dg1, ds0, ds1, sg0, sg1, ss0, ss1, $xs,*])
  | `(tactic| simp_arith!) => `(tactic| simp_arith! [true_and])
section
set_option maxHeartbeats 4000000
set_option maxRecDepth 100000
namespace Pg
open Gx
variable {c : Cl} {z : Kc}
open Lean in
local macro_rules
  | `(tactic| simp_arith [$xs,*]) => `(tactic| repeat (first | simp_arith! [$xs,*] | ((with_reducible refine And.intro ?_ ?_); (· ((try simp only [PySem.sizeLine_eq, List.length_map, List.length_append, List.length_cons, List.length_nil, List.length_take, List.length_drop]); omega)))))
  | `(tactic| simp_arith) => `(tactic| repeat (first | simp_arith! [true_and] | ((with_reducible refine And.intro ?_ ?_); (· ((try simp only [PySem.sizeLine_eq, List.length_map, List.length_append, List.length_cons, List.length_nil, List.length_take, List.length_drop]); omega)))))
section
theorem p_int {i : Int} {S : Store} : f_p_is_integer c [.int i] S = .ok (.bl true) S := by
  refine ok_of_w ?_
  unfold f_p_is_integer
  refine wR_fnE rfl ?_
  show wS _ _ _ (b_p_is_integer c [some (.int i)] _)
  unfold b_p_is_integer
  simp_arith! [isTup, isInt, isBool, isStr, isi_int (v := .int i) rfl, isi_bool (v := .int i) rfl]
  exact wR_gc0 rfl (hold ⟨rfl, rfl⟩)
theorem p_from {i lo : Int} {S : Store} (h : lo ≤ i) : f_p_is_integer_from c [.int lo, .int i] S = .ok (.bl true) S := by
  refine ok_of_w ?_
  unfold f_p_is_integer_from
  refine wR_fnE rfl ?_
  show wS _ _ _ (b_p_is_integer_from c [some (.int lo), some (.int i)] _)
  unfold b_p_is_integer_from
  simp_arith! [isTup, isInt, isBool, isStr, p_int]
  exact wR_gc0 rfl (hold ⟨by simp [h], rfl⟩)
structure Ups (fs : List Int) : Prop where
  len : fs.length ≤ 2000
  fr : ∀ (i : Nat) (x : Int), fs[i]? = some x → -1 ≤ x ∧ x < i
theorem p_ups {fs : List Int} {S : Store} (h : Ups fs) : f_p_are_ups c [.tup (fs.map .int)] S = .ok (.bl true) S := by
  have hl := h.len
  have hd : dtv (.tup (fs.map .int)) = true := by
    simp only [dtv, Bool.and_eq_true, decide_eq_true_eq, List.length_map]
    exact ⟨by omega, dtvs_iff.mpr fun v hv => by obtain ⟨z, _, rfl⟩ := List.mem_map.mp hv; rfl⟩
  refine ok_of_w ?_
  unfold f_p_are_ups
  refine wR_fnE rfl ?_
  show wS _ _ _ (b_p_are_ups c [some (.tup (fs.map .int)), none, none] _)
  unfold b_p_are_ups
  simp_arith [isTup, isi_tup hd]
  refine wR_comp_map (fun x => Lx2 1 2 [some (.tup (fs.map .int)), none, none] x) (fun x => .bl true) rfl (fun x hx => ?_) (fun x hx => ?_) ?_
  · obtain ⟨i, b, rfl, hm⟩ := enum_mem hx
    rfl
  · obtain ⟨i, b, rfl, hm⟩ := enum_mem hx
    obtain ⟨z, rfl, hz⟩ : ∃ z, b = .int z ∧ fs[i]? = some z := by
      rw [List.mem_zipIdx_iff_getElem?] at hm
      simp only [List.getElem?_map, Option.map_eq_some_iff] at hm
      obtain ⟨z, hz, rfl⟩ := hm
      exact ⟨z, rfl, hz⟩
    have hz := h.fr i z hz
    refine ok_of_w ?_
    simp_arith [Lx2, p_int]
    refine wR_if (fun q => ?_) fun q => ?_
    · simp_arith
      exact hold ⟨by simp; omega, rfl⟩
    · simp at q; omega
  · simp_arith [all_map]
    refine ⟨by simp [enumV]; omega, ?_⟩
    simp_arith [all_map]
    refine wR_gc0 rfl (hold ⟨?_, rfl⟩)
    simp
theorem p_buys {bs : List Int} {n : Int} {S : Store} (hl : bs.length ≤ 2000) (hn : n = bs.length) (h : ∀ b ∈ bs, 1 ≤ b) : f_p_are_buys c [.int n, .tup (bs.map .int)] S = .ok (.bl true) S := by
  subst hn
  have hd : dtv (.tup (bs.map .int)) = true := by
    simp only [dtv, Bool.and_eq_true, decide_eq_true_eq, List.length_map]
    exact ⟨by omega, dtvs_iff.mpr fun v hv => by obtain ⟨z, _, rfl⟩ := List.mem_map.mp hv; rfl⟩
  refine ok_of_w ?_
  unfold f_p_are_buys
  refine wR_fnE rfl ?_
  show wS _ _ _ (b_p_are_buys c [some (.int bs.length), some (.tup (bs.map .int)), none] _)
  unfold b_p_are_buys
  simp_arith [isTup, isi_tup hd, List.length_map]
  refine wR_comp_map (fun x => [some (.int bs.length), some (.tup (bs.map .int)), some x]) (fun x => .bl true) rfl (fun x hx => rfl) (fun x hx => ?_) ?_
  · obtain ⟨z, hz, rfl⟩ := List.mem_map.mp hx
    have hz := h z hz
    refine ok_of_w ?_
    simp_arith [p_from hz]
    exact hold ⟨rfl, rfl⟩
  · simp_arith [all_map]
    refine wR_gc0 rfl (hold ⟨?_, rfl⟩)
    simp
def flds (fs bs : List Int) : List (PySem.Str × Val) := [("ups", .tup (fs.map .int)), ("buys", .tup (bs.map .int)), ("pairs_kept", .tup (zipV (fs.map .int) (bs.map .int))), ("sales", .int bs.sum)]
@[irreducible] def bookV (c : Cl) (fs bs : List Int) : Val := .obj c.Book (flds fs bs)
theorem book_def {fs bs : List Int} : bookV c fs bs = .obj c.Book (flds fs bs) := by unfold bookV; rfl
theorem put1 {v : Val} : putA "ups" v [] = ([("ups", v)] : List (PySem.Str × Val)) := rfl
theorem put2 {a v : Val} : putA "buys" v ([("ups", a)] : List (PySem.Str × Val)) = ([("ups", a), ("buys", v)] : List (PySem.Str × Val)) := by simp only [putA]; rw [if_neg (by decide +kernel)]
theorem put3 {a b v : Val} : putA "pairs_kept" v ([("ups", a), ("buys", b)] : List (PySem.Str × Val)) = ([("ups", a), ("buys", b), ("pairs_kept", v)] : List (PySem.Str × Val)) := by simp only [putA]; rw [if_neg (by decide +kernel), if_neg (by decide +kernel)]
theorem put4 {a b c v : Val} : putA "sales" v ([("ups", a), ("buys", b), ("pairs_kept", c)] : List (PySem.Str × Val)) = ([("ups", a), ("buys", b), ("pairs_kept", c), ("sales", v)] : List (PySem.Str × Val)) := by simp only [putA]; rw [if_neg (by decide +kernel), if_neg (by decide +kernel), if_neg (by decide +kernel)]
structure Bk (fs bs : List Int) : Prop where
  ups : Ups fs
  len : bs.length = fs.length
  sp : ∀ b ∈ bs, 1 ≤ b
theorem tree_flds {fs bs : List Int} : treeF (flds fs bs) = true := by
  have : trees (zipV (fs.map .int) (bs.map .int)) = true := trees_iff.mpr fun v hv => by
    obtain ⟨a, b, rfl, hm⟩ := zip_mem hv
    have h1 := (List.of_mem_zip hm).1
    have h2 := (List.of_mem_zip hm).2
    obtain ⟨x, _, rfl⟩ := List.mem_map.mp h1
    obtain ⟨y, _, rfl⟩ := List.mem_map.mp h2
    rfl
  simp [treeF, flds, tree, trees_ints, this]
theorem init_eq {S : Store} {fs bs : List Int} (h : Bk fs bs) : f_p_Book___init__ c [.ref S.length, .tup (fs.map .int), .tup (bs.map .int)] (S ++ [.ins c.Book []]) = .ok .non (S ++ [.ins c.Book (flds fs bs)]) := by
  have hl := h.ups.len
  have hn := h.len
  have e1 : ∀ {S : Store}, f_p_are_buys c [.int fs.length, .tup (bs.map .int)] S = .ok (.bl true) S := p_buys (by omega) (by omega) h.sp
  have e2 : ∀ {S : Store}, f_p_are_ups c [.tup (fs.map .int)] S = .ok (.bl true) S := p_ups h.ups
  refine eq_of_w ?_
  unfold f_p_Book___init__
  refine wR_fnE rfl ?_
  show wS _ _ _ (b_p_Book___init__ c [some (.ref S.length), some (.tup (fs.map .int)), some (.tup (bs.map .int))] _)
  unfold b_p_Book___init__
  simp_arith [e1, e2, w_fldC, w_tupzip, List.length_map, put1, put2, put3, put4, List.mem_singleton, hn, sum_ints]
  rw [show ([("ups", .tup (fs.map .int)), ("buys", .tup (bs.map .int)), ("pairs_kept", .tup (zipV (fs.map .int) (bs.map .int))), ("sales", .int bs.sum)] : List (PySem.Str × Val)) = flds fs bs from rfl]
  exact wR_eq (gc_self tree_flds) (hold ⟨rfl, rfl⟩)
theorem mk_book {S : Store} {fs bs : List Int} (h : Bk fs bs) : mkX c.Book (f_p_Book___init__ c) 3 [.tup (fs.map .int), .tup (bs.map .int)] S = .ok (bookV c fs bs) S := by
  rw [book_def]; exact mkX_eq tree_flds (init_eq h)
theorem tree_book {fs bs : List Int} : tree (bookV c fs bs) = true := by
  rw [book_def]; exact tree_flds
theorem obj_book {fs bs : List Int} {S : Store} : objOf S (bookV c fs bs) = some (c.Book, flds fs bs) := by rw [book_def]; rfl
theorem lk_ups {fs bs : List Int} : List.lookup (PySem.Str.ofString "ups") (flds fs bs) = some (.tup (fs.map .int)) := by
  simp only [flds, List.lookup]; rw [show ((PySem.Str.ofString "ups") == (PySem.Str.ofString "ups")) = true by decide +kernel]
theorem lk_buys {fs bs : List Int} : List.lookup (PySem.Str.ofString "buys") (flds fs bs) = some (.tup (bs.map .int)) := by
  simp only [flds, List.lookup]; rw [show ((PySem.Str.ofString "buys") == (PySem.Str.ofString "ups")) = false by decide +kernel, show ((PySem.Str.ofString "buys") == (PySem.Str.ofString "buys")) = true by decide +kernel]
theorem lk_sales {fs bs : List Int} : List.lookup (PySem.Str.ofString "sales") (flds fs bs) = some (.int bs.sum) := by
  simp only [flds, List.lookup]; rw [show ((PySem.Str.ofString "sales") == (PySem.Str.ofString "ups")) = false by decide +kernel, show ((PySem.Str.ofString "sales") == (PySem.Str.ofString "buys")) = false by decide +kernel, show ((PySem.Str.ofString "sales") == (PySem.Str.ofString "pairs_kept")) = false by decide +kernel, show ((PySem.Str.ofString "sales") == (PySem.Str.ofString "sales")) = true by decide +kernel]
theorem lk_no {m : PySem.Str} {fs bs : List Int} (h1 : (m == PySem.Str.ofString "ups") = false) (h2 : (m == PySem.Str.ofString "buys") = false) (h3 : (m == PySem.Str.ofString "pairs_kept") = false) (h4 : (m == PySem.Str.ofString "sales") = false) : List.lookup m (flds fs bs) = none := by
  simp only [flds, List.lookup, h1, h2, h3, h4]
end
section
structure Rk where
  le : Int
  ne : Int
  bo : Int
  sh : List Int
instance : Inhabited Rk := ⟨⟨0, 0, 0, []⟩⟩
def rkV (r : Rk) : Val := .tup [.int r.le, .int r.ne, .int r.bo, .tup (r.sh.map .int)]
structure RkOk (i : Nat) (r : Rk) : Prop where
  le : 1 ≤ r.le
  ne0 : i = 0 → r.ne = 0
  ne1 : 0 < i → 1 ≤ r.ne
  bo : 0 ≤ r.bo
  shn : r.sh ≠ []
  sh : ∀ x ∈ r.sh, 0 ≤ x ∧ x ≤ 1000
  shl : r.sh.length ≤ 1000
structure Abv (a b : Rk) : Prop where
  le : a.le < b.le
  bo : a.bo ≤ b.bo
  sh : ∀ x y, (x, y) ∈ a.sh.zip b.sh → x ≤ y
def hopN (rs : List Rk) : Nat := (rs.headD default).sh.length - 1
structure RuOk (rs : List Rk) : Prop where
  ne : rs ≠ []
  len : rs.length ≤ 500
  rk : ∀ (i : Nat) r, rs[i]? = some r → RkOk i r
  hop : ∀ r ∈ rs, r.sh.length = hopN rs + 1
  ab : ∀ (i : Nat) a b, rs[i]? = some a → rs[i + 1]? = some b → Abv a b
theorem ds_tup {v : Val} {xs : List Val} (hl : xs.length ≤ 1000) (h : ∀ x ∈ xs, dtv x = true) : dtv (.tup xs) = true := by
  simp only [dtv, Bool.and_eq_true, decide_eq_true_eq]
  exact ⟨by omega, dtvs_iff.mpr h⟩
theorem dt_ints {ns : List Int} (hl : ns.length ≤ 1000) : dtv (.tup (ns.map .int)) = true := ds_tup (v := .non) (by simpa using hl) fun v hv => by obtain ⟨z, _, rfl⟩ := List.mem_map.mp hv; rfl
theorem dt_rk {r : Rk} (hl : r.sh.length ≤ 1000) : dtv (rkV r) = true := by
  refine ds_tup (v := .non) (by simp) fun v hv => ?_
  simp only [List.mem_cons, List.not_mem_nil, or_false] at hv
  rcases hv with rfl | rfl | rfl | rfl
  · rfl
  · rfl
  · rfl
  · exact dt_ints hl
theorem tree_rk (r : Rk) : tree (rkV r) = true := by simp [rkV, tree, trees, trees_ints]
theorem need_eq {S : Store} {i : Nat} {n : Int} (h0 : i = 0 → n = 0) (h1 : 0 < i → 1 ≤ n) : f_p_is_need c [.int i, .int n] S = .ok (.bl true) S := by
  refine ok_of_w ?_
  unfold f_p_is_need
  generalize hbb : b_p_is_need c = bb
  refine wR_fnE (by rfl) ?_
  show wS _ _ _ (bb [some (.int i), some (.int n)] _)
  subst hbb
  unfold b_p_is_need
  simp_arith [p_int]
  (first | refine wS_if (fun q => ?_) fun q => ?_ | refine wR_if (fun q => ?_) fun q => ?_ | refine prop_if (fun q => ?_) fun q => ?_)
  · simp only [decide_eq_true_eq] at q
    simp_arith
    exact wR_gc0 rfl (hold ⟨by simp [h0 (by omega)], rfl⟩)
  · simp only [decide_eq_false_iff_not] at q
    simp_arith
    exact wR_gc0 rfl (hold ⟨by simp [h1 (by omega)], rfl⟩)
theorem share_eq {S : Store} {n : Int} (h0 : 0 ≤ n) (h1 : n ≤ 1000) : f_p_is_share c [.int n] S = .ok (.bl true) S := by
  refine ok_of_w ?_
  unfold f_p_is_share
  generalize hbb : b_p_is_share c = bb
  refine wR_fnE (by rfl) ?_
  show wS _ _ _ (bb [some (.int n)] _)
  subst hbb
  unfold b_p_is_share
  simp_arith [p_int]
  rw [decide_eq_true h0]
  simp_arith
  rw [decide_eq_true h1]
  exact wR_gc0 rfl (hold ⟨rfl, rfl⟩)
theorem emp_ints {ns : List Int} (h : ns ≠ []) : (ns.map Val.int).isEmpty = false := by
  cases ns with
  | nil => exact absurd rfl h
  | cons a b => rfl
theorem rank_eq {S : Store} {i : Nat} {r : Rk} (h : RkOk i r) : f_p_is_rank c [.int i, rkV r] S = .ok (.bl true) S := by
  refine ok_of_w ?_
  unfold f_p_is_rank
  generalize hbb : b_p_is_rank c = bb
  refine wR_fnE (by rfl) ?_
  show wS _ _ _ (bb [some (.int i), some (rkV r), none, none, none, none, none] _)
  subst hbb
  unfold b_p_is_rank
  have hd := dt_rk h.shl
  have hs := dt_ints h.shl
  have e1 := p_from (c := c) (S := S) h.le
  have e2 := need_eq (c := c) (S := S) h.ne0 h.ne1
  have e3 := p_from (c := c) (S := S) h.bo
  simp_arith [isTup, isi_tup hd]
  unfold rkV
  simp_arith [isTup, e1, e2, e3, isi_tup hs, emp_ints h.shn]
  have e4 : decide ((4 : Int) = 4) = true := by decide
  refine wR_comp_map (fun x => [some (.int i), some (.tup [.int r.le, .int r.ne, .int r.bo, .tup (r.sh.map .int)]), some (.int r.le), some (.int r.ne), some (.int r.bo), some (.tup (r.sh.map .int)), some x]) (fun x => .bl true) rfl (fun x hx => rfl) (fun x hx => ?_) ?_
  · obtain ⟨z, hz, rfl⟩ := List.mem_map.mp hx
    have hz := h.sh z hz
    exact (by
      refine ok_of_w ?_
      simp_arith [share_eq hz.1 hz.2]
      exact hold ⟨rfl, rfl⟩)
  · have hl := h.shl
    simp_arith [all_map]
    exact wR_gc0 rfl (hold ⟨by simp, rfl⟩)
theorem above_eq {S : Store} {a b : Rk} (h : Abv a b) (hl : a.sh.length ≤ 1000) (hl2 : b.sh.length ≤ 1000) : f_p_goes_above c [rkV a, rkV b] S = .ok (.bl true) S := by
  refine ok_of_w ?_
  unfold f_p_goes_above
  generalize hbb : b_p_goes_above c = bb
  refine wR_fnE (by rfl) ?_
  show wS _ _ _ (bb [some (rkV a), some (rkV b), none, none] _)
  subst hbb
  unfold b_p_goes_above
  have h1 := h.le
  have h2 := h.bo
  have e1 : decide (b.le ≤ a.le) = false := decide_eq_false (by omega)
  have e2 : decide (b.bo < a.bo) = false := decide_eq_false (by omega)
  unfold rkV
  simp_arith [e1, e2]
  refine wR_comp_map (fun x => Lx2 2 3 [some (rkV a), some (rkV b), none, none] x) (fun x => .bl true) rfl (fun x hx => ?_) (fun x hx => ?_) ?_
  · obtain ⟨p, q, rfl, hm⟩ := zip_mem hx
    rfl
  · obtain ⟨p, q, rfl, hm⟩ := zip_mem hx
    have m1 := (List.of_mem_zip hm).1
    have m2 := (List.of_mem_zip hm).2
    obtain ⟨x, _, rfl⟩ := List.mem_map.mp m1
    obtain ⟨y, _, rfl⟩ := List.mem_map.mp m2
    have hxy : x ≤ y := by
      rw [List.zip_map, List.mem_map] at hm
      obtain ⟨⟨x', y'⟩, hm, he⟩ := hm
      simp only [Prod.map, Prod.mk.injEq, Val.int.injEq] at he
      obtain ⟨rfl, rfl⟩ := he
      exact h.sh _ _ hm
    refine ok_of_w ?_
    simp_arith [Lx2]
    exact hold ⟨by simp [hxy], rfl⟩
  · have : (zipV (a.sh.map Val.int) (b.sh.map Val.int)).length ≤ 1000 := by simp [zipV]; omega
    simp_arith [all_map]
    exact wR_gc0 rfl (hold ⟨by simp, rfl⟩)
end
section
def rfld (rs : List Rk) : List (PySem.Str × Val) := [("ranks", .tup (rs.map rkV)), ("levels", .int (hopN rs : Nat))]
@[irreducible] def ruleV (c : Cl) (rs : List Rk) : Val := .obj c.Rule (rfld rs)
theorem rule_def {rs : List Rk} : ruleV c rs = .obj c.Rule (rfld rs) := by unfold ruleV; rfl
theorem rput1 {v : Val} : putA "ranks" v [] = ([("ranks", v)] : List (PySem.Str × Val)) := rfl
theorem rput2 {a v : Val} : putA "levels" v ([("ranks", a)] : List (PySem.Str × Val)) = ([("ranks", a), ("levels", v)] : List (PySem.Str × Val)) := by simp only [putA]; rw [if_neg (by decide +kernel)]
theorem tree_ranks (rs : List Rk) : trees (rs.map rkV) = true := trees_map _ _ fun r _ => tree_rk r
theorem tree_rfld {rs : List Rk} : treeF (rfld rs) = true := by simp [treeF, rfld, tree, tree_ranks]
theorem obj_rule {rs : List Rk} {S : Store} : objOf S (ruleV c rs) = some (c.Rule, rfld rs) := by rw [rule_def]; rfl
theorem lk_ranks {rs : List Rk} : List.lookup (PySem.Str.ofString "ranks") (rfld rs) = some (.tup (rs.map rkV)) := by
  simp only [rfld, List.lookup]; rw [show ((PySem.Str.ofString "ranks") == (PySem.Str.ofString "ranks")) = true by decide +kernel]
theorem len_map {rs : List Rk} {S : Store} {r : Rk} : bLen [.tup (r.sh.map Val.int)] S = .ok (.int r.sh.length) S := by
  show R.ok (Val.int ((r.sh.map Val.int).length : Nat)) S = _
  simp
theorem cnt_same {k : Int} : ∀ {xs : List Int}, (∀ x ∈ xs, x = k) → cnt xs ≤ 1
  | [], _ => by simp [cnt]
  | [x], _ => by simp [cnt]
  | x :: y :: xs, h => by
    have h1 := h x (by simp)
    have h2 := h y (by simp)
    have h3 := cnt_same (k := k) (xs := y :: xs) fun z hz => h z (List.mem_cons_of_mem _ hz)
    simp only [cnt] at h3 ⊢
    rw [if_pos (by simp [h1, h2])]
    omega
theorem RkOk.mem {rs : List Rk} {r : Rk} (h : RuOk rs) (hr : r ∈ rs) : ∃ i, RkOk i r := by
  obtain ⟨i, hi, rfl⟩ := List.mem_iff_getElem.mp hr
  exact ⟨i, h.rk i _ (List.getElem?_eq_getElem hi)⟩
theorem shl_mem {rs : List Rk} {r : Rk} (h : RuOk rs) (hr : r ∈ rs) : r.sh.length ≤ 1000 := by
  obtain ⟨_, q⟩ := RkOk.mem h hr
  exact q.shl
theorem fst_ranks {rs : List Rk} (h : rs ≠ []) : L2.atI (rs.map rkV) 0 = some (rkV (rs.headD default)) := by
  cases rs with
  | nil => exact absurd rfl h
  | cons a b => exact atI_0
theorem sub_sh {r : Rk} {S : Store} : oSub2 (rkV r) (.int 3) S = .ok (.tup (r.sh.map .int)) S := by
  unfold rkV
  rw [o_sub2T, idxT3]
theorem sub_le {r : Rk} {S : Store} : oSub2 (rkV r) (.int 0) S = .ok (.int r.le) S := by
  unfold rkV
  rw [o_sub2T, idxT0]
theorem sub_fst {rs : List Rk} {S : Store} (h : rs ≠ []) : oSub2 (.tup (rs.map rkV)) (.int 0) S = .ok (rkV (rs.headD default)) S := by
  rw [o_sub2T, idxT, fst_ranks h]
theorem ranks_ne {rs : List Rk} (h : rs ≠ []) : (rs.map rkV).isEmpty = false := by
  cases rs with
  | nil => exact absurd rfl h
  | cons a b => rfl
theorem zipnext {rs : List Rk} {a b : Val} (h : (a, b) ∈ (rs.map rkV).zip ((rs.map rkV).drop 1)) : ∃ i x y, rs[i]? = some x ∧ rs[i + 1]? = some y ∧ a = rkV x ∧ b = rkV y := by
  obtain ⟨i, hi, he⟩ := List.mem_iff_getElem.mp h
  simp only [List.length_zip, List.length_drop, List.length_map] at hi
  simp only [List.getElem_zip, List.getElem_drop, List.getElem_map, Prod.mk.injEq] at he
  exact ⟨i, rs[i]'(by omega), rs[i + 1]'(by omega), List.getElem?_eq_getElem _, List.getElem?_eq_getElem _, he.1.symm, by rw [← he.2]; congr 2; omega⟩
theorem rinit_eq {S : Store} {rs : List Rk} (h : RuOk rs) : f_p_Rule___init__ c [.ref S.length, .tup (rs.map rkV)] (S ++ [.ins c.Rule []]) = .ok .non (S ++ [.ins c.Rule (rfld rs)]) := by
  have hl := h.len
  have hd : dtv (.tup (rs.map rkV)) = true := ds_tup (v := .non) (by simp; omega) fun v hv => by obtain ⟨r, hr, rfl⟩ := List.mem_map.mp hv; exact dt_rk (shl_mem h hr)
  refine eq_of_w ?_
  unfold f_p_Rule___init__
  generalize hbb : b_p_Rule___init__ c = bb
  refine wR_fnE (by rfl) ?_
  show wS _ _ _ (bb [some (.ref S.length), some (.tup (rs.map rkV)), none, none, none, none] _)
  subst hbb
  unfold b_p_Rule___init__
  simp_arith [isTup, isi_tup hd, ranks_ne h.ne]
  refine wS_for (fun i L S1 => ∃ (l2 l3 : Option Val), L = [some (.ref S.length), some (.tup (rs.map rkV)), l2, l3, none, none] ∧ S1 = S ++ [.ins c.Rule []]) ?_ ?_ ?_ ?_
  · exact ⟨_, _, rfl, rfl⟩
  · intros; rfl
  · rintro i x _ _ hx hi ⟨l2, l3, rfl, rfl⟩
    simp only [enumV, List.getElem?_map, List.getElem?_zipIdx, Option.map_map, Option.map_eq_some_iff, Function.comp_def] at hx
    obtain ⟨r, hr, rfl⟩ := hx
    have e := fun S : Store => rank_eq (c := c) (S := S) (h.rk i r hr)
    simp only [Int.zero_add]
    simp_arith [e, Int.zero_add]
    exact hold ⟨_, _, rfl, rfl⟩
  · rintro _ _ ⟨l2, l3, rfl, rfl⟩
    simp_arith
    refine wR_comp_map (fun x => [some (.ref S.length), some (.tup (rs.map rkV)), l2, some x, none, none]) (fun x => .int (hopN rs + 1 : Nat)) rfl (fun x hx => rfl) (fun x hx => ?_) ?_
    · obtain ⟨r, hr, rfl⟩ := List.mem_map.mp hx
      refine ok_of_w ?_
      simp_arith [sub_sh, len_map (rs := rs)]
      rw [h.hop r hr]
      exact hold ⟨rfl, rfl⟩
    have e1 : ((rs.map rkV).map fun x => Val.int (hopN rs + 1 : Nat)) = (rs.map fun _ => ((hopN rs + 1 : Nat) : Int)).map .int := by simp
    rw [e1, ints_map]
    have e2 : cnt (rs.map fun _ => ((hopN rs + 1 : Nat) : Int)).reverse ≤ 1 := cnt_same (k := ((hopN rs + 1 : Nat) : Int)) fun x hx => by
      obtain ⟨_, _, rfl⟩ := List.mem_map.mp (List.mem_reverse.mp hx); rfl
    have e3 : decide ((1 : Int) < (cnt (rs.map fun _ => ((hopN rs + 1 : Nat) : Int)).reverse : Nat)) = false := decide_eq_false (by omega)
    refine wR_ifp (by simp; omega) ?_
    simp_arith [e3, cut_1]
    refine wR_comp_map (fun x => Lx2 4 5 [some (.ref S.length), some (.tup (rs.map rkV)), l2, l3, none, none] x) (fun x => .bl true) rfl (fun x hx => ?_) (fun x hx => ?_) ?_
    · obtain ⟨p, q, rfl, hm⟩ := zip_mem hx
      rfl
    · obtain ⟨p, q, rfl, hm⟩ := zip_mem hx
      obtain ⟨i, a, b, ha, hb, rfl, rfl⟩ := zipnext hm
      have e := above_eq (c := c) (S := S ++ [.ins c.Rule []]) (h.ab i a b ha hb) (shl_mem h (List.mem_of_getElem? ha)) (shl_mem h (List.mem_of_getElem? hb))
      refine ok_of_w ?_
      simp_arith [Lx2, e]
      exact hold ⟨rfl, rfl⟩
    · have : (zipV (rs.map rkV) ((rs.map rkV).drop 1)).length ≤ 1000 := by simp [zipV]; omega
      simp_arith [all_map]
      have : (zipV (rs.map rkV) ((rs.map rkV).drop 1)).all (fun _ => true) = true := by simp
      have hh : (rs.headD default).sh.length = hopN rs + 1 := h.hop _ (by
        have := h.ne
        cases rs with
        | nil => exact absurd rfl this
        | cons a b => simp)
      simp_arith [this, w_fldC, rput1, rput2, List.mem_singleton, sub_fst h.ne, sub_sh, len_map (rs := rs), hh]
      rw [show ((hopN rs + 1 : Nat) : Int) - 1 = (hopN rs : Nat) by omega, show ([("ranks", .tup (rs.map rkV)), ("levels", .int (hopN rs : Nat))] : List (PySem.Str × Val)) = rfld rs from rfl]
      exact wR_eq (gc_self tree_rfld) (hold ⟨rfl, rfl⟩)
theorem mk_rule {S : Store} {rs : List Rk} (h : RuOk rs) : mkX c.Rule (f_p_Rule___init__ c) 3 [.tup (rs.map rkV)] S = .ok (ruleV c rs) S := by
  rw [rule_def]; exact mkX_eq tree_rfld (rinit_eq h)
end
section
def upTo (ok : Nat → Bool) : Nat → Nat → Nat
  | 0, f => f
  | n + 1, f => if ok (f + 1) then upTo ok n (f + 1) else f
def okRk (rs : List Rk) (buy : Int) (least : Nat → Nat) (q : Nat) : Bool := !(decide (buy < (rs.getD q default).le) || decide ((least (q - 1) : Int) < (rs.getD q default).ne))
def rankBy (rs : List Rk) (buy : Int) (gs : List Nat) : Nat := upTo (okRk rs buy fun a => gs.countP (a ≤ ·)) (rs.length - 1) 0
theorem range_at {a : Int} {n i : Nat} {x : Val} (h : (rangeV a n)[i]? = some x) : x = .int (a + i) ∧ i < n := by
  by_cases hi : i < n
  · simp [rangeV, hi] at h; exact ⟨h.symm, hi⟩
  · simp [rangeV, hi] at h
theorem range_len {a : Int} {n : Nat} : (rangeV a n).length = n := by simp [rangeV]
end
section
def kids (fs : List Int) (m : Nat) : List Nat := (List.range fs.length).filter fun j => fs.getD j 0 == (m : Int)
def grF (rs : List Rk) (fs bs : List Int) : Nat → Nat → Nat
  | 0, _ => 0
  | i + 1, m => rankBy rs (bs.getD m 0) ((kids fs m).map (grF rs fs bs i))
def gr (rs : List Rk) (fs bs : List Int) (m : Nat) : Nat := grF rs fs bs (fs.length - m) m
end
section
def fd (n k : Nat) (g : Nat → Nat) : List Int := (List.range n).map fun m => if m < k then 0 else ((g m : Nat) : Int)
theorem fzR_at {n k m : Nat} {S : Store} {xs : List Int} (hm : n ≤ m) (h : S[m]? = some (.lst (xs.map .int))) : fzR n S (k + 1) m = some (.lst (xs.map .int)) := by
  simp only [fzR]
  rw [if_neg (by omega), h]
  simp only [fz_ints, Option.map_some]
theorem lkm_with_member {fs bs : List Int} : List.lookup (PySem.Str.ofString "with_member") (flds fs bs) = none := lk_no (by decide +kernel) (by decide +kernel) (by decide +kernel) (by decide +kernel)
theorem lkm_with_buy {fs bs : List Int} : List.lookup (PySem.Str.ofString "with_buy") (flds fs bs) = none := lk_no (by decide +kernel) (by decide +kernel) (by decide +kernel) (by decide +kernel)
theorem lkm_without {fs bs : List Int} : List.lookup (PySem.Str.ofString "without") (flds fs bs) = none := lk_no (by decide +kernel) (by decide +kernel) (by decide +kernel) (by decide +kernel)
end
section
theorem n_cm : (PySem.Str.ofString "cells" = PySem.Str.ofString "mixed") = False := by simp only [eq_iff_iff, iff_false]; decide +kernel
theorem n_cd : (PySem.Str.ofString "cells" = PySem.Str.ofString "draws") = False := by simp only [eq_iff_iff, iff_false]; decide +kernel
theorem n_mc : (PySem.Str.ofString "mixed" = PySem.Str.ofString "cells") = False := by simp only [eq_iff_iff, iff_false]; decide +kernel
theorem n_md : (PySem.Str.ofString "mixed" = PySem.Str.ofString "draws") = False := by simp only [eq_iff_iff, iff_false]; decide +kernel
theorem n_dc : (PySem.Str.ofString "draws" = PySem.Str.ofString "cells") = False := by simp only [eq_iff_iff, iff_false]; decide +kernel
theorem n_dm : (PySem.Str.ofString "draws" = PySem.Str.ofString "mixed") = False := by simp only [eq_iff_iff, iff_false]; decide +kernel
theorem kd0 : (Sum.inr (PySem.Str.ofString "draws") : L2.Key) = kd := rfl
theorem km0 : (Sum.inr (PySem.Str.ofString "mixed") : L2.Key) = km := rfl
theorem kc0 : (Sum.inr (PySem.Str.ofString "cells") : L2.Key) = kc := rfl
theorem put_d (y : Nat) (m t u : Int) : putV [(kc, Val.ref y), (km, .int m), (kd, .int t)] kd (.int u) = [(kc, .ref y), (km, .int m), (kd, .int u)] := by
  simp [putV, n_cm, n_cd, n_mc, n_md, n_dc, n_dm]
theorem get_d (y : Nat) (m t : Int) : getV [(kc, Val.ref y), (km, .int m), (kd, .int t)] kd = some (.int t) := by simp [getV, List.find?, n_cm, n_cd, n_mc, n_md, n_dc, n_dm]
theorem get_m (y : Nat) (m t : Int) : getV [(kc, Val.ref y), (km, .int m), (kd, .int t)] km = some (.int m) := by simp [getV, List.find?, n_cm, n_cd, n_mc, n_md, n_dc, n_dm]
theorem get_c (y : Nat) (m t : Int) : getV [(kc, Val.ref y), (km, .int m), (kd, .int t)] kc = some (.ref y) := by simp [getV, List.find?]
theorem set_d {d y : Nat} {m t : Int} {X : Dx} {S : Store} (h : In d y S) : (Dk d y X S).set d (.dct [(kc, .ref y), (km, .int m), (kd, .int t)]) = Dk d y ⟨m, t, X.ms⟩ S := by
  unfold Dk
  rw [List.set_comm _ _ h.ne.symm, List.set_set]
theorem set_c {d y : Nat} {ns : List Int} {X : Dx} {S : Store} : (Dk d y X S).set y (.lst (ns.map .int)) = Dk d y ⟨X.m, X.t, ns⟩ S := by
  unfold Dk
  rw [List.set_set]
theorem lg_small {n : Nat} (hn : n ≤ 1000000000000000000000000000000) : n.log2 < 110 := by
  by_cases z : n = 0
  · subst z; decide
  · rw [Nat.log2_lt z]; omega
theorem wmul {a b : Int} {S : Store} {Q : Val → Store → Prop} {X : Exc → Store → Prop} (ha : a.natAbs ≤ 1000000000000000000000000000000) (hb : b.natAbs ≤ 1000000000000000000000000000000) (h : Q (.int (a * b)) S) : wR Q X (oMul (.int a) (.int b) S) :=
  wR_eq (if_pos (by have := lg_small ha; have := lg_small hb; omega)) h
theorem wmod {a b : Int} {S : Store} {Q : Val → Store → Prop} {X : Exc → Store → Prop} (hb : 0 < b) (h : ∀ r, r = a % b → 0 ≤ r → r < b → Q (.int r) S) : wR Q X (oMod (.int a) (.int b) S) := wR_eq (if_pos hb) (h _ rfl (Int.emod_nonneg _ (by omega)) (Int.emod_lt_of_pos _ hb))
theorem wfdiv {a b : Int} {S : Store} {Q : Val → Store → Prop} {X : Exc → Store → Prop} (hb : 0 < b) (hb2 : b.natAbs ≤ 1000000000000000000000000000000) (h : Q (.int (a / b)) S) : wR Q X (oFdiv (.int a) (.int b) S) := wR_eq (if_pos ⟨hb, Nat.lt_trans (lg_small hb2) (by decide)⟩) h
theorem wpow {a : Int} {n : Nat} {S : Store} {Q : Val → Store → Prop} {X : Exc → Store → Prop} (ha : a.natAbs < 2 ^ 64) (hn : n ≤ 1000) (h : Q (.int (a ^ n)) S) : wR Q X (oPow (.int a) (.int n) S) := wR_eq (if_pos ⟨by omega, by omega, ha⟩) (by simpa using h)
end
section
def T (fs bs : List Int) : Nat → Nat → Int
  | 0, m => bs.getD m 0
  | l + 1, m => ((kids fs m).map (T fs bs l)).sum
end
section
def wX (N : Loc → Store → Prop) (T : Val → Store → Prop) (X : Exc → Loc → Store → Prop) (r : RS) : Prop :=
  match r with
  | .nx L S => N L S
  | .ret v S => T v S
  | .exn x L S => X x L S
  | .bad => False
section
variable {L : Loc} {S : Store} {N : Loc → Store → Prop} {T : Val → Store → Prop} {X : Exc → Store → Prop} {Y : Exc → Loc → Store → Prop} {a b : SS} {e : E} {t : Gx.T} {ks : List XT} {hs : List XH} {i : Nat}
theorem w_try : wS N T X (sTry ks b hs L S) = wX N T (fun x L1 S1 => wS N T X (xhds ks hs x L1 S1)) (b L S) := by
  unfold sTry
  cases b L S <;> rfl
theorem wX_ofE {α : Type} {r : R α} {f : α → Store → RS} : wX N T Y (ofE L r f) = wR (fun v S1 => wX N T Y (f v S1)) (fun x S1 => Y x L S1) r := by cases r <;> rfl
theorem wX_asg : wX N T Y (sAsg e (gName i) L S) = wR (fun v S1 => N (L.set i (some v)) S1) (fun x S1 => Y x L S1) (e L S) := wX_ofE
end
end
section
open PySem
instance : DecidableEq Rk := fun a b => decidable_of_iff (a.le = b.le ∧ a.ne = b.ne ∧ a.bo = b.bo ∧ a.sh = b.sh) ⟨fun h => by
  obtain ⟨_, _, _, _⟩ := a
  obtain ⟨_, _, _, _⟩ := b
  simp_all, fun h => by rw [h]; exact ⟨rfl, rfl, rfl, rfl⟩⟩
end
end Pg
end
section
set_option maxHeartbeats 4000000
set_option maxRecDepth 100000
namespace Pg
open Gx
variable {c : Cl} {z : Kc}
open Lean in
local macro_rules
  | `(tactic| simp_arith [$xs,*]) => `(tactic| repeat (first | simp_arith! [$xs,*] | ((with_reducible refine And.intro ?_ ?_); (· ((try simp only [PySem.sizeLine_eq, List.length_map, List.length_append, List.length_cons, List.length_nil, List.length_take, List.length_drop]); omega))) | ((with_reducible refine wmul ?_ ?_ ?_); (· omega); (· omega)) | ((with_reducible refine wmod ?_ fun _ _ _ _ => ?_); (· omega)) | ((with_reducible refine wfdiv ?_ ?_ ?_); (· omega); (· omega))))
  | `(tactic| simp_arith) => `(tactic| repeat (first | simp_arith! [true_and] | ((with_reducible refine And.intro ?_ ?_); (· ((try simp only [PySem.sizeLine_eq, List.length_map, List.length_append, List.length_cons, List.length_nil, List.length_take, List.length_drop]); omega))) | ((with_reducible refine wmul ?_ ?_ ?_); (· omega); (· omega)) | ((with_reducible refine wmod ?_ fun _ _ _ _ => ?_); (· omega)) | ((with_reducible refine wfdiv ?_ ?_ ?_); (· omega); (· omega))))
section
theorem draw_w {d y : Nat} {k : Nat} {n : Int} {Y : Dx} {S : Store} {Q : Val → Store → Prop} {X : Exc → Store → Prop} (hY : Y.Ok k) (hk : 1 ≤ k) (hI : In d y S) (hn : 0 < n) (hn2 : n ≤ 1000000000000)
    (h : ∀ r Y', 0 ≤ r → r < n → Dx.Ok (k - 1) Y' → Q (.int r) (Dk d y Y' S)) : wR Q X (f_w_draw c z [.ref d, .int n] (Dk d y Y S)) := by
  obtain ⟨m, t, ms⟩ := Y
  obtain ⟨y0, y1, y2, y3, y4⟩ := hY
  simp only at y0 y1 y2 y3 y4
  unfold f_w_draw
  refine wR_fnE rfl ?_
  show wS _ _ _ (b_w_draw c z [some (.ref d), some (.int n), none, none, none] _)
  unfold b_w_draw
  simp_arith! [Dk_d hI, Dk_c hI, kd0, km0, kc0, put_d, get_d, get_m, get_c, set_d hI]
  have fin : ∀ (r : Int) (Z : Dx), 0 ≤ r → r < n → 0 ≤ Z.m → Z.m < 2147483647 → Z.t = t + 1 → Z.ms.length ≤ 64 → wR Q X (gcR 3 (Dk d y ⟨m, t, ms⟩ S) (.ok (.int r) (Dk d y Z S))) := fun r Z a1 a2 a3 a4 a5 a6 =>
    wR_gcD0 hI rfl (h r Z a1 a2 ⟨a3, a4, by omega, by omega, a6⟩)
  refine wS_mono (N := fun L1 S1 => ∃ (mm : Int) (l4 : Option Val) (Z : Dx), L1 = [some (.ref d), some (.int n), some (.int (t + 1)), some (.int mm), l4] ∧ S1 = Dk d y Z S ∧ 0 ≤ mm ∧ mm < 2147483647 * 2 ∧ 0 ≤ Z.m ∧ Z.m < 2147483647 ∧ Z.t = t + 1 ∧ Z.ms.length ≤ 64) ?_ ?_ (fun _ _ q => q)
  · rcases List.eq_nil_or_concat ms with rfl | ⟨ns, x, rfl⟩
    · simp_arith! [List.map_nil, List.isEmpty_nil]
      exact ⟨m, none, _, rfl, rfl, y0, by omega, y0, y1, rfl, y4⟩
    · have g0 : ((ns ++ [x]).map Val.int)[((ns ++ [x]).map Val.int).length - 1]? = some (.int x) := by simp
      have g1 : ((ns ++ [x]).map Val.int).dropLast = ns.map .int := by simp
      have g2 : ((ns ++ [x]).map Val.int).isEmpty = false := by simp
      have g3 : ns.map Val.int ++ [.int (x / n)] = (ns ++ [x / n]).map .int := by simp
      have hl : ns.length < 64 := by simp at y4; omega
      have hl2 : (ns.map Val.int).length < 16777216 := by simp; omega
      simp_arith! [List.concat_eq_append, Dk_c hI, Dk_d hI, g0, g1, g2, kd0, km0, kc0, get_c, set_c]
      refine wpow (n := 18) (by decide) (by decide) ?_
      simp_arith!
      refine wS_if (fun q => ?_) fun q => ?_
      · simp_arith! [Dk_c hI, Dk_d hI, kd0, km0, kc0, get_c, set_c]
        refine wfdiv hn (by omega) ?_
        simp_arith! [Dk_c hI, Dk_d hI, set_c, hl2, g3]
        refine wmod hn fun r _ r0 r1 => ?_
        exact fin r _ r0 r1 y0 y1 rfl (by simp; omega)
      · simp_arith!
        refine wmod (by decide) fun r _ r0 r1 => ?_
        simp_arith!
        exact ⟨m + r, _, _, rfl, rfl, by omega, by omega, y0, y1, rfl, by simp; omega⟩
  · rintro _ _ ⟨mm, l4, Z, rfl, rfl, z0, z1, z2, z3, z4, z5⟩
    obtain ⟨u, hu⟩ : ∃ u : Int, u = ((z.w2 % 100000 : Nat) : Int) := ⟨_, rfl⟩
    rw [← hu]
    have u0 : 0 ≤ u := by omega
    have u1 : u ≤ 100000 := by omega
    have q1 : 0 ≤ u * (t + 1) := Int.mul_nonneg u0 (by omega)
    have q2 : u * (t + 1) ≤ 100000 * 1000000000 := Int.mul_le_mul u1 (by omega) (by omega) (by decide)
    have p1 : 0 ≤ u * (t + 1) * (t + 1) := Int.mul_nonneg q1 (by omega)
    have p2 : u * (t + 1) * (t + 1) ≤ 100000 * 1000000000 * 1000000000 := Int.mul_le_mul q2 (by omega) (by omega) (by decide)
    simp_arith!
    repeat (first | (refine wmul (by omega) (by omega) ?_) | (refine wmod (by omega) fun _ _ _ _ => ?_) | (refine wfdiv (by omega) (by omega) ?_) | simp_arith!)
    exact fin _ _ (by assumption) (by assumption) z2 z3 z4 z5
theorem pick_w {d y k : Nat} {xs : List Val} {Y : Dx} {S : Store} {Q : Val → Store → Prop} {X : Exc → Store → Prop} (hY : Y.Ok k) (hk : 1 ≤ k) (hI : In d y S) (hn : xs ≠ []) (hl : xs.length ≤ 1000000) (ht : trees xs = true)
    (h : ∀ v Y', v ∈ xs → Dx.Ok (k - 1) Y' → Q v (Dk d y Y' S)) : wR Q X (f_w_pick c z [.ref d, .lst xs] (Dk d y Y S)) := by
  have hp : 0 < xs.length := List.length_pos_iff.mpr hn
  unfold f_w_pick
  refine wR_fnE rfl ?_
  show wS _ _ _ (b_w_pick c z [some (.ref d), some (.lst xs)] _)
  unfold b_w_pick
  simp_arith!
  refine draw_w hY hk hI (by omega) (by omega) fun r Y' r0 r1 hY' => ?_
  simp_arith!
  refine o_idxL r0 r1 fun v hv _ => ?_
  exact wR_gcD0 hI (trees_mem ht hv) (h v Y' hv hY')
theorem intsOf_eq : ∀ {xs : List Val} {ns : List Int}, intsOf xs = some ns → xs = ns.map .int
  | [], ns, h => by simp [intsOf] at h; subst h; rfl
  | x :: xs, ns, h => by
    cases x with
    | int i =>
      simp only [intsOf, Option.map_eq_some_iff] at h
      obtain ⟨r, hr, rfl⟩ := h
      simp [intsOf_eq hr]
    | _ => simp [intsOf] at h
theorem pickI_w {d y k : Nat} {xs : List Val} {ns : List Int} {Y : Dx} {S : Store} {Q : Val → Store → Prop} {X : Exc → Store → Prop} (hx : intsOf xs = some ns) (hY : Y.Ok k) (hk : 1 ≤ k) (hI : In d y S) (hn : xs ≠ []) (hl : xs.length ≤ 1000000)
    (h : ∀ z Y', z ∈ ns → Dx.Ok (k - 1) Y' → Q (.int z) (Dk d y Y' S)) : wR Q X (f_w_pick c z [.ref d, .lst xs] (Dk d y Y S)) := by
  have := intsOf_eq hx
  subst this
  refine pick_w hY hk hI hn hl (trees_ints _) fun v Y' hv hY' => ?_
  obtain ⟨z, hz, rfl⟩ := List.mem_map.mp hv
  exact h z Y' hz hY'
theorem deck_w {ns : List Int} {Q : Val → Store → Prop} {X : Exc → Store → Prop} (hl : ns.length ≤ 63) (h : ∀ Y, Dx.Ok 900000000 Y → Q (.ref 1) (Dk 1 0 Y [.lst [], .lst []])) : wR Q X (f_w_deck c z [.frz (ns.map .int)] []) := by
  unfold f_w_deck
  refine wR_fnE rfl ?_
  show wS _ _ _ (b_w_deck c z [some (.frz (ns.map .int)), none, none, none] _)
  unfold b_w_deck
  simp_arith!
  have hc : cutL (ns.map Val.int) none (some 63) = ns.map .int := by
    rw [show (63 : Int) = ((63 : Nat) : Int) from rfl, cut_to, List.take_of_length_le (by simpa using hl)]
  simp_arith! [hc]
  refine wS_for (fun _ L S => ∃ (m : Int) (l3 : Option Val), 0 ≤ m ∧ m < 2147483647 ∧ S = [] ∧ L = [some (.frz (ns.map .int)), some (.lst (ns.map .int)), some (.int m), l3]) ?_ ?_ ?_ ?_
  · exact ⟨_, none, by omega, by omega, rfl, rfl⟩
  · intros; rfl
  · rintro i x _ _ hx hi ⟨m, l3, m0, m1, rfl, rfl⟩
    obtain ⟨w, rfl⟩ : ∃ w : Int, x = .int w := by
      rw [List.getElem?_map] at hx
      obtain ⟨w, _, rfl⟩ := Option.map_eq_some_iff.mp hx
      exact ⟨w, rfl⟩
    simp_arith
    exact hold ⟨_, _, by assumption, by omega, rfl, rfl⟩
  · rintro _ _ ⟨m, l3, m0, m1, rfl, rfl⟩
    simp_arith! [mergeV, List.foldl_cons, List.foldl_nil, putV, List.any_nil, List.any_cons, n_cm, n_mc, n_cd, n_md, Bool.or_false, Sum.inr.injEq]
    have e : gcR 0 [] (R.ok (Val.ref 1) [Cell.lst (List.map Val.int ns).reverse, Cell.dct [(kc, Val.ref 0), (km, Val.int m), (kd, Val.int 0)]]) = R.ok (Val.ref 1) (Dk 1 0 ⟨m, 0, ns.reverse⟩ [.lst [], .lst []]) := by
      rw [← List.map_reverse]; rfl
    exact wR_eq e (h _ ⟨m0, m1, Int.le_refl 0, by show (0 : Int) + _ ≤ _; omega, by simp; omega⟩)
end
section
theorem draw_3_w {d y : Nat} {k : Nat} {n : Int} {Y : Dx} {S : Store} {Q : Val → Store → Prop} {X : Exc → Store → Prop} (hY : Y.Ok k) (hk : 1 ≤ k) (hI : In d y S) (hn : 0 < n) (hn2 : n ≤ 1000000000000)
    (h : ∀ r Y', 0 ≤ r → r < n → Dx.Ok (k - 1) Y' → Q (.int r) (Dk d y Y' S)) : wR Q X (f_w_draw_3 c z [.ref d, .int n] (Dk d y Y S)) := by
  obtain ⟨m, t, ms⟩ := Y
  obtain ⟨y0, y1, y2, y3, y4⟩ := hY
  simp only at y0 y1 y2 y3 y4
  unfold f_w_draw_3
  refine wR_fnE rfl ?_
  show wS _ _ _ (b_w_draw_3 c z [some (.ref d), some (.int n), none, none, none] _)
  unfold b_w_draw_3
  simp_arith! [Dk_d hI, Dk_c hI, kd0, km0, kc0, put_d, get_d, get_m, get_c, set_d hI]
  have fin : ∀ (r : Int) (Z : Dx), 0 ≤ r → r < n → 0 ≤ Z.m → Z.m < 2147483647 → Z.t = t + 1 → Z.ms.length ≤ 64 → wR Q X (gcR 3 (Dk d y ⟨m, t, ms⟩ S) (.ok (.int r) (Dk d y Z S))) := fun r Z a1 a2 a3 a4 a5 a6 =>
    wR_gcD0 hI rfl (h r Z a1 a2 ⟨a3, a4, by omega, by omega, a6⟩)
  refine wS_mono (N := fun L1 S1 => ∃ (mm : Int) (l4 : Option Val) (Z : Dx), L1 = [some (.ref d), some (.int n), some (.int (t + 1)), some (.int mm), l4] ∧ S1 = Dk d y Z S ∧ 0 ≤ Z.m ∧ Z.m < 2147483647 ∧ Z.t = t + 1 ∧ Z.ms.length ≤ 64) ?_ ?_ (fun _ _ q => q)
  · rcases List.eq_nil_or_concat ms with rfl | ⟨ns, x, rfl⟩
    · simp_arith! [List.map_nil, List.isEmpty_nil]
      exact ⟨m, none, _, rfl, rfl, y0, y1, rfl, y4⟩
    · have g0 : ((ns ++ [x]).map Val.int)[((ns ++ [x]).map Val.int).length - 1]? = some (.int x) := by simp
      have g1 : ((ns ++ [x]).map Val.int).dropLast = ns.map .int := by simp
      have g2 : ((ns ++ [x]).map Val.int).isEmpty = false := by simp
      have g3 : ns.map Val.int ++ [.int (x / n)] = (ns ++ [x / n]).map .int := by simp
      have hl : ns.length < 64 := by simp at y4; omega
      have hl2 : (ns.map Val.int).length < 16777216 := by simp; omega
      simp_arith! [List.concat_eq_append, Dk_c hI, Dk_d hI, g0, g1, g2, kd0, km0, kc0, get_c, set_c]
      refine wpow (n := 18) (by decide) (by decide) ?_
      simp_arith!
      refine wS_if (fun q => ?_) fun q => ?_
      · simp_arith! [Dk_c hI, Dk_d hI, kd0, km0, kc0, get_c, set_c]
        refine wfdiv hn (by omega) ?_
        simp_arith! [Dk_c hI, Dk_d hI, set_c, hl2, g3]
        refine wmod hn fun r _ r0 r1 => ?_
        exact fin r _ r0 r1 y0 y1 rfl (by simp; omega)
      · simp_arith! [Dk_c hI, Dk_d hI, kd0, km0, kc0, get_c, get_m, set_c]
        exact ⟨_, _, _, rfl, rfl, y0, y1, rfl, by simp; omega⟩
  · rintro _ _ ⟨mm, l4, Z, rfl, rfl, z2, z3, z4, z5⟩
    obtain ⟨u, hu⟩ : ∃ u : Int, u = 60271 := ⟨_, rfl⟩
    rw [← hu]
    have u0 : 0 ≤ u := by omega
    have u1 : u ≤ 100000 := by omega
    have q1 : 0 ≤ u * (t + 1) := Int.mul_nonneg u0 (by omega)
    have q2 : u * (t + 1) ≤ 100000 * 1000000000 := Int.mul_le_mul u1 (by omega) (by omega) (by decide)
    have p1 : 0 ≤ u * (t + 1) * (t + 1) := Int.mul_nonneg q1 (by omega)
    have p2 : u * (t + 1) * (t + 1) ≤ 100000 * 1000000000 * 1000000000 := Int.mul_le_mul q2 (by omega) (by omega) (by decide)
    simp_arith!
    repeat (first | (refine wmul (by omega) (by omega) ?_) | (refine wmod (by omega) fun _ _ _ _ => ?_) | (refine wfdiv (by omega) (by omega) ?_) | simp_arith!)
    exact fin _ _ (by assumption) (by assumption) z2 z3 z4 z5
theorem pick3_w {d y k : Nat} {xs : List Val} {Y : Dx} {S : Store} {Q : Val → Store → Prop} {X : Exc → Store → Prop} (hY : Y.Ok k) (hk : 1 ≤ k) (hI : In d y S) (hn : xs ≠ []) (hl : xs.length ≤ 1000000) (ht : trees xs = true)
    (h : ∀ v Y', v ∈ xs → Dx.Ok (k - 1) Y' → Q v (Dk d y Y' S)) : wR Q X (f_w_pick_3 c z [.ref d, .lst xs] (Dk d y Y S)) := by
  have hp : 0 < xs.length := List.length_pos_iff.mpr hn
  unfold f_w_pick_3
  refine wR_fnE rfl ?_
  show wS _ _ _ (b_w_pick_3 c z [some (.ref d), some (.lst xs)] _)
  unfold b_w_pick_3
  simp_arith!
  refine draw_3_w hY hk hI (by omega) (by omega) fun r Y' r0 r1 hY' => ?_
  simp_arith!
  refine o_idxL r0 r1 fun v hv _ => ?_
  exact wR_gcD0 hI (trees_mem ht hv) (h v Y' hv hY')
theorem pickI3_w {d y k : Nat} {xs : List Val} {ns : List Int} {Y : Dx} {S : Store} {Q : Val → Store → Prop} {X : Exc → Store → Prop} (hx : intsOf xs = some ns) (hY : Y.Ok k) (hk : 1 ≤ k) (hI : In d y S) (hn : xs ≠ []) (hl : xs.length ≤ 1000000)
    (h : ∀ z Y', z ∈ ns → Dx.Ok (k - 1) Y' → Q (.int z) (Dk d y Y' S)) : wR Q X (f_w_pick_3 c z [.ref d, .lst xs] (Dk d y Y S)) := by
  have := intsOf_eq hx
  subst this
  refine pick3_w hY hk hI hn hl (trees_ints _) fun v Y' hv hY' => ?_
  obtain ⟨z, hz, rfl⟩ := List.mem_map.mp hv
  exact h z Y' hz hY'
end
section
theorem blen_eq {S : Store} {fs bs : List Int} : f_p_Book___len__ c [bookV c fs bs] S = .ok (.int (fs.length : Nat)) S := by
  refine ok_of_w ?_
  unfold f_p_Book___len__
  generalize hbb : b_p_Book___len__ c = bb
  refine wR_fnE (by rfl) ?_
  show wS _ _ _ (bb [some (bookV c fs bs)] _)
  subst hbb
  unfold b_p_Book___len__
  simp_arith [obj_book, lk_ups, List.mem_singleton, List.length_map]
  exact wR_gc0 rfl (hold ⟨rfl, rfl⟩)
theorem ints_app1 {xs : List Int} {i : Int} : xs.map Val.int ++ [.int i] = (xs ++ [i]).map .int := by simp
theorem member_eq {S : Store} {fs bs : List Int} {u b : Int} (ok : Bk (fs ++ [u]) (bs ++ [b])) : f_p_Book_with_member c [bookV c fs bs, .int u, .int b] S = .ok (bookV c (fs ++ [u]) (bs ++ [b])) S := by
  have hl := ok.ups.len
  have hb := ok.len
  simp only [List.length_append, List.length_singleton] at hl hb
  refine ok_of_w ?_
  unfold f_p_Book_with_member
  generalize hbb : b_p_Book_with_member c = bb
  refine wR_fnE (by rfl) ?_
  show wS _ _ _ (bb [some (bookV c fs bs), some (.int u), some (.int b)] _)
  subst hbb
  unfold b_p_Book_with_member
  simp_arith [obj_book, lk_ups, lk_buys, List.mem_singleton, ints_app1, mk_book ok]
  exact wR_gc0 tree_book (hold ⟨rfl, rfl⟩)
theorem Bk.snoc {fs bs : List Int} {x b : Int} (h : Bk fs bs) (hl : fs.length < 2000) (h1 : -1 ≤ x ∧ x < fs.length) (h2 : 1 ≤ b) : Bk (fs ++ [x]) (bs ++ [b]) := by
  refine ⟨⟨by simp; omega, fun j y hj => ?_⟩, by simp [h.len], fun y hy => ?_⟩
  · rcases Nat.lt_trichotomy j fs.length with q | q | q
    · rw [List.getElem?_append_left q] at hj; exact h.ups.fr j y hj
    · subst q; simp at hj; subst hj; exact h1
    · rw [List.getElem?_eq_none (by simp; omega)] at hj; cases hj
  · rcases List.mem_append.mp hy with hy | hy
    · exact h.sp y hy
    · rw [List.mem_singleton.mp hy]; exact h2
end
end Pg
end
section
set_option maxHeartbeats 4000000
set_option maxRecDepth 100000
namespace Pg
open Gx
variable {c : Cl} {z : Kc}
open Lean in
local macro_rules
  | `(tactic| simp_arith [$xs,*]) => `(tactic| repeat (first | simp_arith! [$xs,*] | ((with_reducible refine And.intro ?_ ?_); (· ((try simp only [PySem.sizeLine_eq, List.length_map, List.length_append, List.length_cons, List.length_nil, List.length_take, List.length_drop]); omega))) | ((with_reducible refine wmul ?_ ?_ ?_); (· omega); (· omega)) | ((with_reducible refine wmod ?_ fun _ _ _ _ => ?_); (· omega)) | ((with_reducible refine wfdiv ?_ ?_ ?_); (· omega); (· omega)) | ((with_reducible refine draw_w (by assumption) ?_ ?_ ?_ ?_ fun _ _ _ _ _ => ?_); (· omega); (· (first | assumption | exact In.app (by assumption))); (· omega); (· omega)) | ((with_reducible refine pickI_w (by with_unfolding_all rfl) (by assumption) ?_ ?_ ?_ ?_ fun _ _ _ _ => ?_); (· omega); (· (first | assumption | exact In.app (by assumption))); (· simp); (· simp))))
  | `(tactic| simp_arith) => `(tactic| repeat (first | simp_arith! [true_and] | ((with_reducible refine And.intro ?_ ?_); (· ((try simp only [PySem.sizeLine_eq, List.length_map, List.length_append, List.length_cons, List.length_nil, List.length_take, List.length_drop]); omega))) | ((with_reducible refine wmul ?_ ?_ ?_); (· omega); (· omega)) | ((with_reducible refine wmod ?_ fun _ _ _ _ => ?_); (· omega)) | ((with_reducible refine wfdiv ?_ ?_ ?_); (· omega); (· omega)) | ((with_reducible refine draw_w (by assumption) ?_ ?_ ?_ ?_ fun _ _ _ _ _ => ?_); (· omega); (· (first | assumption | exact In.app (by assumption))); (· omega); (· omega)) | ((with_reducible refine pickI_w (by with_unfolding_all rfl) (by assumption) ?_ ?_ ?_ ?_ fun _ _ _ _ => ?_); (· omega); (· (first | assumption | exact In.app (by assumption))); (· simp); (· simp))))
section
theorem ints_ext {xs : List Int} {i : Int} : xs.map Val.int ++ [.int i] = (xs ++ [i]).map .int := by simp
def Pw (R : Int → Int → Prop) (a b : List Int) : Prop := ∀ (j : Nat) x x', a[j]? = some x → b[j]? = some x' → R x x'
theorem Pw.snoc {R : Int → Int → Prop} {a b : List Int} {x w : Int} (h : Pw R a b) (hx : a[b.length]? = some x) (hr : R x w) : Pw R a (b ++ [w]) := by
  intro j u v hu hv
  rcases Nat.lt_trichotomy j b.length with q | q | q
  · rw [List.getElem?_append_left q] at hv; exact h j u v hu hv
  · subst q
    simp at hv
    rw [hx] at hu
    cases hu; subst hv; exact hr
  · rw [List.getElem?_eq_none (by simp; omega)] at hv; cases hv
theorem Pw.zip {R : Int → Int → Prop} {a b : List Int} (h : Pw R a b) {x w : Int} (hm : (x, w) ∈ a.zip b) : R x w := by
  obtain ⟨i, hi, he⟩ := List.mem_iff_getElem.mp hm
  simp only [List.getElem_zip, Prod.mk.injEq] at he
  simp only [List.length_zip] at hi
  exact h i x w (by rw [← he.1]; exact List.getElem?_eq_getElem _) (by rw [← he.2]; exact List.getElem?_eq_getElem _)
theorem cuts_w {P : Int → Prop} {d y k w : Nat} {e : E} {n : Nat} {Y : Dx} {S : Store} {L : Loc} {Q : List Val → Store → Prop} {X : Exc → Store → Prop} (hY : Y.Ok k) (hk : w + 1 ≤ k) (hI : In d y S) (hw : w ≤ 100)
    (he : ∀ (i : Nat) (Y' : Dx) (Q : Val → Store → Prop), i < w → Y'.Ok (k - i) → (∀ z Y2, P z → Dx.Ok (k - i - 1) Y2 → Q (.int z) (Dk d y Y2 S)) → wR Q (fun _ _ => False) (e (L.set n (some (.int i))) (Dk d y Y' S)))
    (h : ∀ (cs : List Int) Y', cs.length = w → (∀ x ∈ cs, P x) → Dx.Ok (k - w) Y' → Q (cs.map .int) (Dk d y Y' S)) : wR Q X (calm (compGo (Src.ok ⟨[], rangeV 0 w⟩) (gName n) tYes e L (rangeV 0 w) (Dk d y Y S))) := by
  refine wR_comp (fun i r S1 => ∃ (cs : List Int) (Y1 : Dx), r = cs.map .int ∧ cs.length = i ∧ (∀ x ∈ cs, P x) ∧ Y1.Ok (k - i) ∧ S1 = Dk d y Y1 S) ?_ ?_ ?_ ?_
  · exact ⟨[], Y, rfl, rfl, by simp, hY, rfl⟩
  · intros; rfl
  · rintro i x r S1 hx hi ⟨cs, Y1, rfl, e1, p1, h1, rfl⟩
    obtain ⟨rfl, hi2⟩ := range_at hx
    simp_arith! [Int.zero_add]
    refine he i Y1 _ hi2 h1 fun z Y2 pz h2 => ?_
    refine hold ⟨cs ++ [z], Y2, ints_ext, by simp [e1], fun x hx => ?_, by simpa [Nat.sub_sub] using h2, rfl⟩
    rcases List.mem_append.mp hx with hx | hx
    · exact p1 x hx
    · rw [List.mem_singleton.mp hx]; exact pz
  · rintro r S1 ⟨cs, Y1, rfl, e1, p1, h1, rfl⟩
    rw [range_len] at e1 h1
    exact h cs Y1 e1 p1 h1
theorem cuts_w2 {R : Int → Int → Prop} {d y k u : Nat} {e : E} {n : Nat} {Y : Dx} {S : Store} {L : Loc} {cs : List Int} {Q : List Val → Store → Prop} {X : Exc → Store → Prop} (hY : Y.Ok k) (hk : u * cs.length ≤ k) (hI : In d y S)
    (he : ∀ (i : Nat) (z : Int) (Y' : Dx) (Q : Val → Store → Prop), i < cs.length → z ∈ cs → Y'.Ok (k - u * i) → (∀ w Y2, R z w → Dx.Ok (k - u * i - u) Y2 → Q (.int w) (Dk d y Y2 S)) → wR Q (fun _ _ => False) (e (L.set n (some (.int z))) (Dk d y Y' S)))
    (h : ∀ (cs' : List Int) Y', cs'.length = cs.length → Pw R cs cs' → Dx.Ok (k - u * cs.length) Y' → Q (cs'.map .int) (Dk d y Y' S)) : wR Q X (calm (compGo (Src.ok ⟨[], cs.map .int⟩) (gName n) tYes e L (cs.map .int) (Dk d y Y S))) := by
  refine wR_comp (fun i r S1 => ∃ (cs' : List Int) (Y1 : Dx), r = cs'.map .int ∧ cs'.length = i ∧ Pw R cs cs' ∧ Y1.Ok (k - u * i) ∧ S1 = Dk d y Y1 S) ?_ ?_ ?_ ?_
  · exact ⟨[], Y, rfl, rfl, fun j x x' _ q => by simp at q, hY, rfl⟩
  · intros; rfl
  · rintro i x r S1 hx hi ⟨cs', Y1, rfl, e1, p1, h1, rfl⟩
    obtain ⟨z, rfl, hz⟩ : ∃ z : Int, x = .int z ∧ cs[i]? = some z := by
      rw [List.getElem?_map] at hx
      obtain ⟨z, hz, rfl⟩ := Option.map_eq_some_iff.mp hx
      exact ⟨z, rfl, hz⟩
    simp_arith!
    refine he i z Y1 _ (by simpa using hi) (List.mem_of_getElem? hz) h1 fun w Y2 pw h2 => ?_
    refine hold ⟨cs' ++ [w], Y2, ints_ext, by simp [e1], p1.snoc (by rw [e1]; exact hz) pw, h2.le ?_, rfl⟩
    rw [Nat.mul_add, Nat.mul_one]; omega
  · rintro r S1 ⟨cs', Y1, rfl, e1, p1, h1, rfl⟩
    rw [List.length_map] at e1 h1
    exact h cs' Y1 e1 p1 h1
@[irreducible] def kitV (rs : List Rk) : Val := .tup (rs.map rkV)
theorem kit_def {rs : List Rk} : kitV rs = .tup (rs.map rkV) := by unfold kitV; rfl
theorem kit_fst {rs : List Rk} {S : Store} (h : rs ≠ []) : oSub2 (kitV rs) (.int 0) S = .ok (rkV (rs.headD default)) S := by rw [kit_def]; exact sub_fst h
theorem kit_tree {rs : List Rk} : tree (kitV rs) = true := by rw [kit_def]; unfold tree; exact tree_ranks rs
theorem kit_mk {S : Store} {rs : List Rk} (h : RuOk rs) : mkX c.Rule (f_p_Rule___init__ c) 3 [kitV rs] S = .ok (ruleV c rs) S := by rw [kit_def]; exact mk_rule h
structure Kt (m dp : Nat) (rs : List Rk) : Prop where
  ok : RuOk rs
  len : rs.length ≤ m
  hop : hopN rs ≤ dp
  sm : ∀ r ∈ rs, r.le ≤ 100 ∧ r.ne ≤ 3 ∧ r.bo ≤ 100
theorem RuOk.one {r : Rk} (h : RkOk 0 r) : RuOk [r] := by
  refine ⟨by simp, by simp, fun i x hx => ?_, fun x hx => ?_, fun i a b ha hb => ?_⟩
  · rcases Nat.eq_zero_or_pos i with rfl | q
    · simp at hx; subst hx; exact h
    · rw [List.getElem?_eq_none (by simp; omega)] at hx; cases hx
  · rw [List.mem_singleton.mp hx]
    have := List.length_pos_iff.mpr h.shn
    simp [hopN]; omega
  · rw [List.getElem?_eq_none (by simp)] at hb; cases hb
theorem hop_snoc {rs : List Rk} {r : Rk} (h : rs ≠ []) : hopN (rs ++ [r]) = hopN rs := by
  cases rs with
  | nil => exact absurd rfl h
  | cons a b => rfl
theorem RuOk.snoc {rs : List Rk} {a r : Rk} (h : RuOk rs) (hl : rs.length < 500) (ha : rs[rs.length - 1]? = some a) (hr : RkOk rs.length r) (hs : r.sh.length = hopN rs + 1) (hab : Abv a r) : RuOk (rs ++ [r]) := by
  refine ⟨by simp, by simp; omega, fun i x hx => ?_, fun x hx => ?_, fun i u v hu hv => ?_⟩
  · rcases Nat.lt_trichotomy i rs.length with q | q | q
    · rw [List.getElem?_append_left q] at hx; exact h.rk i x hx
    · subst q; simp at hx; subst hx; exact hr
    · rw [List.getElem?_eq_none (by simp; omega)] at hx; cases hx
  · rw [hop_snoc h.ne]
    rcases List.mem_append.mp hx with hx | hx
    · exact h.hop x hx
    · rw [List.mem_singleton.mp hx]; exact hs
  · rcases Nat.lt_trichotomy (i + 1) rs.length with q | q | q
    · rw [List.getElem?_append_left q] at hv
      rw [List.getElem?_append_left (by omega)] at hu
      exact h.ab i u v hu hv
    · rw [List.getElem?_append_left (by omega)] at hu
      rw [← q, Nat.add_sub_cancel] at ha
      rw [ha] at hu
      cases hu
      rw [q, List.getElem?_concat_length] at hv
      cases hv; exact hab
    · rw [List.getElem?_eq_none (by simp; omega)] at hv; cases hv
end
section
abbrev ks : L2.Key := Sum.inr (PySem.Str.ofString "spent")
end
section
theorem idx_lstI {S : Store} {ns : List Int} {j : Nat} (h : j < ns.length) : oSub2 (.lst (ns.map .int)) (.int j) S = .ok (.int (ns.getD j 0)) S := by
  rw [o_sub2L, idx_intsL h]
end
end Pg
end
section
set_option maxHeartbeats 4000000
set_option maxRecDepth 100000
namespace Pg
open Gx
variable {c : Cl} {z : Kc}
open Lean in
local macro_rules
  | `(tactic| simp_arith [$xs,*]) => `(tactic| repeat (first | simp_arith! [$xs,*] | ((with_reducible refine And.intro ?_ ?_); (· ((try simp only [PySem.sizeLine_eq, List.length_map, List.length_append, List.length_cons, List.length_nil, List.length_take, List.length_drop]); omega))) | ((with_reducible refine wmul ?_ ?_ ?_); (· omega); (· omega)) | ((with_reducible refine wmod ?_ fun _ _ _ _ => ?_); (· omega)) | ((with_reducible refine wfdiv ?_ ?_ ?_); (· omega); (· omega)) | ((with_reducible refine draw_3_w (by assumption) ?_ ?_ ?_ ?_ fun _ _ _ _ _ => ?_); (· omega); (· (first | assumption | exact In.app (by assumption))); (· omega); (· omega)) | ((with_reducible refine pickI3_w (by with_unfolding_all rfl) (by assumption) ?_ ?_ ?_ ?_ fun _ _ _ _ => ?_); (· omega); (· (first | assumption | exact In.app (by assumption))); (· simp); (· simp))))
  | `(tactic| simp_arith) => `(tactic| repeat (first | simp_arith! [true_and] | ((with_reducible refine And.intro ?_ ?_); (· ((try simp only [PySem.sizeLine_eq, List.length_map, List.length_append, List.length_cons, List.length_nil, List.length_take, List.length_drop]); omega))) | ((with_reducible refine wmul ?_ ?_ ?_); (· omega); (· omega)) | ((with_reducible refine wmod ?_ fun _ _ _ _ => ?_); (· omega)) | ((with_reducible refine wfdiv ?_ ?_ ?_); (· omega); (· omega)) | ((with_reducible refine draw_3_w (by assumption) ?_ ?_ ?_ ?_ fun _ _ _ _ _ => ?_); (· omega); (· (first | assumption | exact In.app (by assumption))); (· omega); (· omega)) | ((with_reducible refine pickI3_w (by with_unfolding_all rfl) (by assumption) ?_ ?_ ?_ ?_ fun _ _ _ _ => ?_); (· omega); (· (first | assumption | exact In.app (by assumption))); (· simp); (· simp))))
section
theorem lot_pw2 {M D : Int} {a b : List Int} (h : Pw (fun x w => x ≤ w ∧ w ≤ x + D) a b) (hl : b.length = a.length) (ha : ∀ x ∈ a, 0 ≤ x ∧ x ≤ M) : ∀ w ∈ b, 0 ≤ w ∧ w ≤ M + D := by
  intro w hw
  obtain ⟨i, hi, rfl⟩ := List.mem_iff_getElem.mp hw
  have := h i a[i] b[i] (List.getElem?_eq_getElem _) (List.getElem?_eq_getElem _)
  have := ha a[i] (List.getElem_mem _)
  omega
theorem lines_w {d y k : Nat} {Y : Dx} {S : Store} {Q : Val → Store → Prop} {X : Exc → Store → Prop} (hY : Y.Ok k) (hk : 100 ≤ k) (hI : In d y S)
    (h : ∀ rs Y', Kt 3 3 rs → Dx.Ok (k - 100) Y' → Q (kitV rs) (Dk d y Y' S)) : wR Q X (f_w_lines c z [.ref d] (Dk d y Y S)) := by
  unfold f_w_lines
  generalize hbb : b_w_lines c z = bb
  refine wR_fnE (by rfl) ?_
  show wS _ _ _ (bb [some (.ref d), none, none, none, none, none, none] _)
  subst hbb
  unfold b_w_lines
  simp_arith [hI]
  rename_i lo Y3 lo0 lo1 hY3 ex Y4 ex0 ex1 hY4 sz Y5 sz0 sz1 hY5
  refine cuts_w (P := fun x => 0 ≤ x ∧ x < 90) hY5 (by omega) hI (by omega) (fun i Y' Q hi hY' hq => ?_) fun cs Y' hc hcs hY' => ?_
  · simp_arith
    exact hq _ _ ⟨by assumption, by assumption⟩ (by assumption)
  refine ⟨by rw [PySem.sizeLine_eq, List.length_map]; omega, ?_⟩
  simp_arith [hI]
  rename_i mo Y6 mo0 mo1 hY6
  have w0 : ∀ x ∈ cs, 0 ≤ x ∧ x ≤ 89 := fun x hx => by have := hcs x hx; omega
  refine wS_for (fun i L S1 => ∃ (rs : List Rk) (la : Rk) (l5 : Option Val) (Y1 : Dx), L = [some (.ref d), some (.int la.le), some (.int la.bo), some (.lst (la.sh.map .int)), some (.ref S.length), l5, none] ∧
      S1 = Dk d y Y1 (S ++ [.lst (rs.map rkV)]) ∧ Y1.Ok (k - 10 - 20 * i) ∧ RuOk rs ∧ rs.length = i + 1 ∧ rs[rs.length - 1]? = some la ∧ hopN rs ≤ 3 ∧ la.le ≤ 20 + 20 * i ∧ la.bo ≤ 3 + 6 * i ∧ (∀ x ∈ la.sh, 0 ≤ x ∧ x ≤ 89 + 40 * i) ∧ (∀ r ∈ rs, r.le ≤ 100 ∧ r.ne ≤ 3 ∧ r.bo ≤ 100)) ?_ ?_ ?_ ?_
  · have hcl : cs ≠ [] := fun q => by rw [q] at hc; simp at hc; omega
    have h0 : RkOk 0 ⟨1 + lo, 0, ex, cs⟩ := ⟨by show (1 : Int) ≤ 1 + lo; omega, fun _ => rfl, fun q => absurd q (by omega), by assumption, hcl, fun x hx => by have := w0 x hx; omega, by show cs.length ≤ 1000; omega⟩
    refine ⟨[⟨1 + lo, 0, ex, cs⟩], ⟨1 + lo, 0, ex, cs⟩, _, Y6, rfl, rfl, hY6.le (by omega), RuOk.one h0, rfl, rfl, ?_, ?_, ?_, fun x hx => ?_, fun r hr => ?_⟩
    · show cs.length - 1 ≤ 3
      omega
    · show 1 + lo ≤ _
      omega
    · show ex ≤ _
      omega
    · have := w0 x hx; omega
    · rw [List.mem_singleton.mp hr]; refine ⟨?_, ?_, ?_⟩
      · show 1 + lo ≤ 100; omega
      · show (0 : Int) ≤ 3; omega
      · show ex ≤ 100; omega
  · intros; rfl
  · rintro i x _ _ hx hi ⟨rs, la, l5, Y1, rfl, rfl, h1, h2, h3, h4, h5, h6, h7, h8, h9⟩
    obtain ⟨rfl, hi2⟩ := range_at hx
    have hla := List.mem_of_getElem? h4
    have hl3 := h2.hop la hla
    simp_arith [hI]
    rename_i p1 Z1 p1a p1b Z1k p2 Z2 p2a p2b Z2k
    refine cuts_w2 (R := fun x w => x ≤ w ∧ w ≤ x + 40) (u := 2) Z2k (by omega) hI.app (fun j z Y' Q hi hz hY' hq => ?_) fun cs' Y' hc hpw hY' => ?_
    · simp_arith
      rename_i q1 X1 q1m X1k
      refine hq _ _ ?_ (X1k.le (by omega))
      simp at q1m
      omega
    refine ⟨by rw [PySem.sizeLine_eq, List.length_map]; omega, ?_⟩
    simp_arith [hI]
    rename_i q1 X1 q1a q1b X1k
    have hlb := lot_pw2 hpw hc h8
    have hab : Abv la ⟨la.le + 1 + p1, 1 + q1, la.bo + p2, cs'⟩ := ⟨by show la.le < la.le + 1 + p1; omega, by show la.bo ≤ la.bo + p2; omega, fun x w hm => (hpw.zip hm).1⟩
    have hbl : cs' ≠ [] := fun q => by rw [q] at hc; simp at hc; omega
    have hrk : RkOk rs.length ⟨la.le + 1 + p1, 1 + q1, la.bo + p2, cs'⟩ := by
      obtain ⟨_, hr0⟩ := RkOk.mem h2 hla
      have g1 := hr0.le
      have g2 := hr0.bo
      exact ⟨by show 1 ≤ la.le + 1 + p1; omega, fun q => absurd q (by omega), fun _ => by show 1 ≤ 1 + q1; omega, by show 0 ≤ la.bo + p2; omega, hbl, fun x hx => by have := hlb x hx; omega, by show cs'.length ≤ 1000; omega⟩
    have hcl : cs'.length = hopN rs + 1 := by omega
    refine hold ⟨rs ++ [⟨la.le + 1 + p1, 1 + q1, la.bo + p2, cs'⟩], ⟨la.le + 1 + p1, 1 + q1, la.bo + p2, cs'⟩, _, X1, rfl, ?_, X1k.le (by omega), h2.snoc (by omega) h4 hrk hcl hab, ?_, ?_, ?_, ?_, ?_, fun x hx => ?_, fun r hr => ?_⟩
    · simp [rkV]
    · simp [h3]
    · simp
    · rw [hop_snoc h2.ne]; exact h5
    · show la.le + 1 + p1 ≤ _; omega
    · show la.bo + p2 ≤ _; omega
    · have := hlb x hx; omega
    · rcases List.mem_append.mp hr with hr | hr
      · exact h9 r hr
      · rw [List.mem_singleton.mp hr]; refine ⟨?_, ?_, ?_⟩
        · show la.le + 1 + p1 ≤ 100; omega
        · show 1 + q1 ≤ 3; omega
        · show la.bo + p2 ≤ 100; omega
  · rintro _ _ ⟨rs, la, l5, Y1, rfl, rfl, h1, h2, h3, h4, h5, h6, h7, h8, h9⟩
    simp_arith [hI]
    rw [range_len] at h1 h3
    rw [← kit_def]
    refine wR_gcDT hI kit_tree (h rs Y1 ⟨h2, by omega, h5, h9⟩ (h1.le (by omega)))
end
end Pg
end
section
set_option maxHeartbeats 4000000
set_option maxRecDepth 100000
namespace Pg
open Gx
variable {c : Cl} {z : Kc}
open Lean in
local macro_rules
  | `(tactic| simp_arith [$xs,*]) => `(tactic| repeat (first | simp_arith! [$xs,*] | ((with_reducible refine And.intro ?_ ?_); (· ((try simp only [PySem.sizeLine_eq, List.length_map, List.length_append, List.length_cons, List.length_nil, List.length_take, List.length_drop]); omega)))))
  | `(tactic| simp_arith) => `(tactic| repeat (first | simp_arith! [true_and] | ((with_reducible refine And.intro ?_ ?_); (· ((try simp only [PySem.sizeLine_eq, List.length_map, List.length_append, List.length_cons, List.length_nil, List.length_take, List.length_drop]); omega)))))
section
def goN (fs : List Int) (k : Nat) (i : Nat) : Int :=
  let h := if fs.getD i 0 = (k : Int) then fs.getD k 0 else fs.getD i 0
  h - if (k : Int) < h then 1 else 0
def outN (fs : List Int) (k : Nat) : Nat → List Int
  | 0 => []
  | i + 1 => outN fs k i ++ (if i = k then [] else [goN fs k i])
def delN (bs : List Int) (k : Nat) : List Int := bs.take k ++ bs.drop (k + 1)
theorem outN_len {fs : List Int} {k : Nat} : ∀ i : Nat, (outN fs k i).length = i - if k < i then 1 else 0
  | 0 => by simp [outN]
  | i + 1 => by
    simp only [outN, List.length_append, outN_len i]
    by_cases h : i = k
    · rw [if_pos h, if_neg (by omega), if_pos (by omega)]; simp
    · rw [if_neg h]
      by_cases g : k < i
      · rw [if_pos g, if_pos (by omega)]; simp; omega
      · rw [if_neg g, if_neg (by omega)]; simp
theorem enum_at {fs : List Int} {i : Nat} {x : Val} (h : (enumV 0 (fs.map .int))[i]? = some x) : x = .tup [.int i, .int (fs.getD i 0)] ∧ i < fs.length := by
  simp only [enumV, List.getElem?_map, List.getElem?_zipIdx, Option.map_map, Option.map_eq_some_iff, Function.comp_def] at h
  obtain ⟨v, hv, rfl⟩ := h
  have hi := (List.getElem?_eq_some_iff.mp hv).1
  refine ⟨?_, hi⟩
  simp [List.getD, hv]
theorem enum_len {fs : List Int} : (enumV 0 (fs.map .int)).length = fs.length := by simp [enumV]
theorem del_map {bs : List Int} {j : Nat} : (bs.take j).map Val.int ++ (bs.drop (j + 1)).map .int = (delN bs j).map .int := by simp [delN]
theorem cut_a {bs : List Int} {j : Nat} : cutL (bs.map Val.int) none (some (j : Int)) = (bs.take j).map .int := by rw [cut_to, List.map_take]
theorem cut_b {bs : List Int} {j : Nat} : cutL (bs.map Val.int) (some ((j : Int) + 1)) none = (bs.drop (j + 1)).map .int := by
  rw [show ((j : Int) + 1) = ((j + 1 : Nat) : Int) from rfl, cut_from, List.map_drop]
theorem set_map {bs : List Int} {j : Nat} {b : Int} (h : j < bs.length) : (bs.take j).map Val.int ++ (.int b :: (bs.drop (j + 1)).map .int) = (bs.set j b).map .int := by
  rw [List.set_eq_take_append_cons_drop, if_pos h]; simp
theorem fr_at {fs : List Int} (h : Ups fs) {i : Nat} (hi : i < fs.length) : -1 ≤ fs.getD i 0 ∧ fs.getD i 0 < i := h.fr i _ (by simp [List.getD, hi])
theorem fr_out {fs : List Int} {k : Nat} (h : Ups fs) (hk : k < fs.length) : ∀ m : Nat, m ≤ fs.length → ∀ (i : Nat) (x : Int), (outN fs k m)[i]? = some x → -1 ≤ x ∧ x < i
  | 0, _, i, x, hj => by simp [outN] at hj
  | m + 1, hm, i, x, hj => by
    have hl := outN_len (fs := fs) (k := k) m
    have a1 := fr_at h (i := m) (by omega)
    have a2 := fr_at h hk
    unfold outN at hj
    by_cases g : m = k
    · rw [if_pos g, List.append_nil] at hj
      exact fr_out h hk m (by omega) i x hj
    · rw [if_neg g] at hj
      rcases Nat.lt_or_ge i (outN fs k m).length with q | q
      · rw [List.getElem?_append_left q] at hj; exact fr_out h hk m (by omega) i x hj
      · rw [List.getElem?_append_right q] at hj
        rcases Nat.eq_zero_or_pos (i - (outN fs k m).length) with e | e
        · rw [e] at hj
          simp at hj
          subst hj
          by_cases g2 : k < m
          · rw [if_pos g2] at hl
            simp only [goN]
            split <;> split <;> omega
          · rw [if_neg g2] at hl
            simp only [goN]
            split <;> split <;> omega
        · rw [List.getElem?_eq_none (by simp; omega)] at hj; cases hj
theorem del_len {bs : List Int} {k : Nat} (h : k < bs.length) : (delN bs k).length = bs.length - 1 := by simp [delN]; omega
theorem out_len {fs : List Int} {k : Nat} (h : k < fs.length) : (outN fs k fs.length).length = fs.length - 1 := by rw [outN_len, if_pos h]
theorem bk_out {fs bs : List Int} {k : Nat} (h : Bk fs bs) (hk : k < fs.length) : Bk (outN fs k fs.length) (delN bs k) := by
  have hl := h.len
  refine ⟨⟨by rw [out_len hk]; have := h.ups.len; omega, fr_out h.ups hk _ (Nat.le_refl _)⟩, by rw [out_len hk, del_len (by omega), hl], fun b hb => ?_⟩
  rcases List.mem_append.mp hb with q | q
  · exact h.sp b (List.mem_of_mem_take q)
  · exact h.sp b (List.mem_of_mem_drop q)
theorem bk_set {fs bs : List Int} {k : Nat} {b : Int} (h : Bk fs bs) (hb : 1 ≤ b) : Bk fs (bs.set k b) :=
  ⟨h.ups, by rw [List.length_set]; exact h.len, fun x hx => (List.mem_or_eq_of_mem_set hx).elim (h.sp x) fun q => by rw [q]; exact hb⟩
theorem buy_eq {S : Store} {fs bs : List Int} {j : Nat} {b : Int} (hb : Bk fs bs) (hj : j < fs.length) (h1 : 1 ≤ b) :
    f_p_Book_with_buy c [bookV c fs bs, .int j, .int b] S = .ok (bookV c fs (bs.set j b)) S := by
  have hl := hb.len
  have hn := hb.ups.len
  refine ok_of_w ?_
  unfold f_p_Book_with_buy
  generalize hbb : b_p_Book_with_buy c = bb
  refine wR_fnE (by rfl) ?_
  show wS _ _ _ (bb [some (bookV c fs bs), some (.int j), some (.int b)] _)
  subst hbb
  unfold b_p_Book_with_buy
  simp_arith [obj_book, lk_ups, lk_buys, List.mem_singleton, cut_a, cut_b, List.length_map, List.length_take, List.length_drop, set_map (bs := bs) (j := j) (by omega), mk_book (bk_set hb h1)]
  refine ⟨by rw [List.length_set]; omega, ?_⟩
  exact wR_gc0 tree_book (hold ⟨rfl, rfl⟩)
theorem without_eq {S : Store} {fs bs : List Int} {j : Nat} (hb : Bk fs bs) (hj : j < fs.length) :
    f_p_Book_without c [bookV c fs bs, .int j] S = .ok (bookV c (outN fs j fs.length) (delN bs j)) S := by
  have hl := hb.len
  have hn := hb.ups.len
  refine ok_of_w ?_
  unfold f_p_Book_without
  generalize hbb : b_p_Book_without c = bb
  refine wR_fnE (by rfl) ?_
  show wS _ _ _ (bb [some (bookV c fs bs), some (.int j), none, none, none, none] _)
  subst hbb
  unfold b_p_Book_without
  simp_arith [obj_book, lk_ups, lk_buys, List.mem_singleton]
  refine wS_for (fun i L S1 => ∃ (l3 l4 l5 : Option Val), L = [some (bookV c fs bs), some (.int j), some (.ref S.length), l3, l4, l5] ∧ S1 = S ++ [.lst ((outN fs j i).map .int)]) ?_ ?_ ?_ ?_
  · exact ⟨_, _, _, rfl, rfl⟩
  · intros; rfl
  · rintro i x _ _ hx hi ⟨l3, l4, l5, rfl, rfl⟩
    obtain ⟨rfl, hi2⟩ := enum_at hx
    have hu := outN_len (fs := fs) (k := j) i
    simp_arith
    by_cases hij : i = j
    · subst hij
      simp_arith
      exact hold ⟨_, _, _, rfl, by simp [outN]⟩
    · have hf : decide ((i : Int) = (j : Int)) = false := decide_eq_false (by omega)
      simp_arith [hf]
      refine wR_mono (Q := fun v S1 => v = .int (if fs.getD i 0 = (j : Int) then fs.getD j 0 else fs.getD i 0) ∧ S1 = S ++ [.lst ((outN fs j i).map .int)]) ?_ ?_
      · (first | refine wS_if (fun q => ?_) fun q => ?_ | refine wR_if (fun q => ?_) fun q => ?_ | refine prop_if (fun q => ?_) fun q => ?_)
        · simp_arith [obj_book, lk_ups, List.mem_singleton, idx_intsT hj]
          simp at q; simp [q]
        · simp_arith
          simp at q; simp [q]
      rintro _ _ ⟨rfl, rfl⟩
      simp_arith [sg0, ss0, List.length_map]
      exact hold ⟨_, _, _, rfl, by simp [outN, hij, goN]⟩
  · rintro _ _ ⟨l3, l4, l5, rfl, rfl⟩
    rw [enum_len]
    simp_arith [obj_book, lk_ups, lk_buys, List.mem_singleton, cut_a, cut_b, List.append_nil, List.length_map, List.length_take, List.length_drop, del_map, mk_book (bk_out hb hj)]
    refine ⟨by rw [del_len (by omega)]; omega, ?_⟩
    exact wR_gcT tree_book (hold ⟨rfl, rfl⟩)
end
section
theorem w_raise0 {t : XT} {L : Loc} {S : Store} {N : Loc → Store → Prop} {T : Val → Store → Prop} {X : Exc → Store → Prop} : wS N T X (sRaise0 t L S) = X ⟨t, []⟩ S := id rfl
def dflds (c : Cl) (rs : List Rk) (fs bs : List Int) (a l : Nat) : List (PySem.Str × Val) := [("rule", ruleV c rs), ("book", bookV c fs bs), ("books_ahead", .ref a), ("books_later", .ref l)]
@[irreducible] def deskC (c : Cl) (rs : List Rk) (fs bs : List Int) (a l : Nat) : Cell := .ins c.Desk (dflds c rs fs bs a l)
theorem desk_def {rs : List Rk} {fs bs : List Int} {a l : Nat} : deskC c rs fs bs a l = .ins c.Desk (dflds c rs fs bs a l) := by unfold deskC; rfl
theorem dn1 : (PySem.Str.ofString "rule" = PySem.Str.ofString "book") = False := by simp only [eq_iff_iff, iff_false]; decide +kernel
theorem dn2 : (PySem.Str.ofString "rule" = PySem.Str.ofString "books_ahead") = False := by simp only [eq_iff_iff, iff_false]; decide +kernel
theorem dn3 : (PySem.Str.ofString "rule" = PySem.Str.ofString "books_later") = False := by simp only [eq_iff_iff, iff_false]; decide +kernel
theorem dn4 : (PySem.Str.ofString "book" = PySem.Str.ofString "books_ahead") = False := by simp only [eq_iff_iff, iff_false]; decide +kernel
theorem dn5 : (PySem.Str.ofString "book" = PySem.Str.ofString "books_later") = False := by simp only [eq_iff_iff, iff_false]; decide +kernel
theorem dn6 : (PySem.Str.ofString "books_ahead" = PySem.Str.ofString "books_later") = False := by simp only [eq_iff_iff, iff_false]; decide +kernel
theorem dput1 {v : Val} : putA "rule" v [] = ([("rule", v)] : List (PySem.Str × Val)) := rfl
theorem dput2 {a v : Val} : putA "book" v ([("rule", a)] : List (PySem.Str × Val)) = ([("rule", a), ("book", v)] : List (PySem.Str × Val)) := by simp only [putA, dn1, if_false]
theorem dput3 {a b v : Val} : putA "books_ahead" v ([("rule", a), ("book", b)] : List (PySem.Str × Val)) = ([("rule", a), ("book", b), ("books_ahead", v)] : List (PySem.Str × Val)) := by simp only [putA, dn2, dn4, if_false]
theorem dput4 {a b d v : Val} : putA "books_later" v ([("rule", a), ("book", b), ("books_ahead", d)] : List (PySem.Str × Val)) = ([("rule", a), ("book", b), ("books_ahead", d), ("books_later", v)] : List (PySem.Str × Val)) := by simp only [putA, dn3, dn5, dn6, if_false]
section
variable {rs : List Rk} {fs bs : List Int} {a l : Nat}
theorem dlk_rule : List.lookup (PySem.Str.ofString "rule") (dflds c rs fs bs a l) = some (ruleV c rs) := by
  simp only [dflds, List.lookup]; rw [show ((PySem.Str.ofString "rule") == (PySem.Str.ofString "rule")) = true by decide +kernel]
theorem dlk_book : List.lookup (PySem.Str.ofString "book") (dflds c rs fs bs a l) = some (bookV c fs bs) := by
  simp only [dflds, List.lookup]; rw [show ((PySem.Str.ofString "book") == (PySem.Str.ofString "rule")) = false by decide +kernel, show ((PySem.Str.ofString "book") == (PySem.Str.ofString "book")) = true by decide +kernel]
theorem dlk_ahead : List.lookup (PySem.Str.ofString "books_ahead") (dflds c rs fs bs a l) = some (.ref a) := by
  simp only [dflds, List.lookup]; rw [show ((PySem.Str.ofString "books_ahead") == (PySem.Str.ofString "rule")) = false by decide +kernel, show ((PySem.Str.ofString "books_ahead") == (PySem.Str.ofString "book")) = false by decide +kernel, show ((PySem.Str.ofString "books_ahead") == (PySem.Str.ofString "books_ahead")) = true by decide +kernel]
theorem dlk_later : List.lookup (PySem.Str.ofString "books_later") (dflds c rs fs bs a l) = some (.ref l) := by
  simp only [dflds, List.lookup]; rw [show ((PySem.Str.ofString "books_later") == (PySem.Str.ofString "rule")) = false by decide +kernel, show ((PySem.Str.ofString "books_later") == (PySem.Str.ofString "book")) = false by decide +kernel, show ((PySem.Str.ofString "books_later") == (PySem.Str.ofString "books_ahead")) = false by decide +kernel, show ((PySem.Str.ofString "books_later") == (PySem.Str.ofString "books_later")) = true by decide +kernel]
theorem dlk_no {m : PySem.Str} (h1 : (m == PySem.Str.ofString "rule") = false) (h2 : (m == PySem.Str.ofString "book") = false) (h3 : (m == PySem.Str.ofString "books_ahead") = false) (h4 : (m == PySem.Str.ofString "books_later") = false) : List.lookup m (dflds c rs fs bs a l) = none := by
  simp only [dflds, List.lookup, h1, h2, h3, h4]
theorem dlm_check : List.lookup (PySem.Str.ofString "check_member") (dflds c rs fs bs a l) = none := dlk_no (by decide +kernel) (by decide +kernel) (by decide +kernel) (by decide +kernel)
theorem dlm_change : List.lookup (PySem.Str.ofString "change") (dflds c rs fs bs a l) = none := dlk_no (by decide +kernel) (by decide +kernel) (by decide +kernel) (by decide +kernel)
theorem dlm_join : List.lookup (PySem.Str.ofString "join") (dflds c rs fs bs a l) = none := dlk_no (by decide +kernel) (by decide +kernel) (by decide +kernel) (by decide +kernel)
theorem dlm_buy : List.lookup (PySem.Str.ofString "buy") (dflds c rs fs bs a l) = none := dlk_no (by decide +kernel) (by decide +kernel) (by decide +kernel) (by decide +kernel)
theorem dlm_leave : List.lookup (PySem.Str.ofString "leave") (dflds c rs fs bs a l) = none := dlk_no (by decide +kernel) (by decide +kernel) (by decide +kernel) (by decide +kernel)
theorem dlm_undo : List.lookup (PySem.Str.ofString "undo") (dflds c rs fs bs a l) = none := dlk_no (by decide +kernel) (by decide +kernel) (by decide +kernel) (by decide +kernel)
theorem dlm_redo : List.lookup (PySem.Str.ofString "redo") (dflds c rs fs bs a l) = none := dlk_no (by decide +kernel) (by decide +kernel) (by decide +kernel) (by decide +kernel)
theorem obj_desk {S : Store} {n : Nat} (h : S[n]? = some (deskC c rs fs bs a l)) : objOf S (.ref n) = some (c.Desk, dflds c rs fs bs a l) := by
  simp only [objOf, h, desk_def]
end
structure Dsk (c : Cl) (S : Store) (n a l : Nat) (rs : List Rk) (fs bs : List Int) (A La : List Val) : Prop where
  hn : S[n]? = some (deskC c rs fs bs a l)
  ha : S[a]? = some (.lst A)
  hl : S[l]? = some (.lst La)
  na : n ≠ a
  nl : n ≠ l
  al : a ≠ l
  ta : trees A = true
  tl : trees La = true
theorem fits_no {S T : Store} {n : Nat} {x : Cell} (hn : n < S.length) (h1 : T[n]? = some x) (h2 : S[n]? ≠ some x) (h3 : x.below S.length = false) : fits S T = false := by
  rw [Bool.eq_false_iff]
  intro q
  have := List.all_eq_true.mp q n (List.mem_range.mpr hn)
  rw [h1] at this
  dsimp only at this
  rcases Bool.or_eq_true_iff.mp this with z | z
  · exact h2 (of_decide_eq_true z)
  · rw [h3] at z; cases z
theorem gc_no {k : Nat} {S T : Store} {v : Val} (h : fits S T = false) : gcR k S (.ok v T) = .ok v T := by
  unfold gcR
  dsimp only
  split
  · rw [h]; rfl
  · rfl
theorem desk_below {rs : List Rk} {fs bs : List Int} {a l k : Nat} (h : k ≤ l) : (deskC c rs fs bs a l).below k = false := by
  rw [desk_def]
  have e : fzV (belowR k) (.ref l) = none := by simp only [fzV, belowR]; rw [if_neg (by omega)]
  simp only [Cell.below, dflds, fzVF, e]
  cases fzV (belowR k) (ruleV c rs) <;> cases fzV (belowR k) (bookV c fs bs) <;> cases fzV (belowR k) (.ref a) <;> rfl
theorem sh0 {S T : Store} {x : Cell} : (S ++ x :: T)[S.length]? = some x := by simp
theorem desk_mk {S : Store} {rs : List Rk} : mkX c.Desk (f_p_Desk___init__ c) 0 [ruleV c rs] S = .ok (.ref S.length) (S ++ [deskC c rs [] [] (S.length + 1) (S.length + 2), .lst [], .lst []]) := by
  have m0 : ∀ S : Store, mkX c.Book (f_p_Book___init__ c) 3 [.tup [], .tup []] S = .ok (bookV c [] []) S := fun S => mk_book (fs := []) (bs := []) ⟨⟨by decide, fun i x h => by simp at h⟩, rfl, fun b h => by simp at h⟩
  have e : f_p_Desk___init__ c [.ref S.length, ruleV c rs] (S ++ [.ins c.Desk []]) = .ok .non (S ++ [deskC c rs [] [] (S.length + 1) (S.length + 2), .lst [], .lst []]) := by
    refine eq_of_w ?_
    unfold f_p_Desk___init__
    generalize hbb : b_p_Desk___init__ c = bb
    refine wR_fnE (by rfl) ?_
    show wS _ _ _ (bb [some (.ref S.length), some (ruleV c rs)] _)
    subst hbb
    unfold b_p_Desk___init__
    simp_arith [m0, w_fldC, dput1, dput2, dput3, dput4, List.mem_singleton, List.length_append, List.length_singleton]
    rw [show (Cell.ins c.Desk [(PySem.Str.ofString "rule", ruleV c rs), (PySem.Str.ofString "book", bookV c [] []), (PySem.Str.ofString "books_ahead", Val.ref (List.length S + 1)), (PySem.Str.ofString "books_later", Val.ref (List.length S + 2))]) = deskC c rs [] [] (S.length + 1) (S.length + 2) by rw [desk_def]; rfl]
    refine wR_eq (gc_no (fits_no (n := S.length) (x := deskC c rs [] [] (S.length + 1) (S.length + 2)) (by simp) sh0 ?_ (desk_below (by simp)))) (hold ⟨rfl, rfl⟩)
    rw [sh0, desk_def]
    intro h
    injection h with h
    injection h with _ h
    cases h
  unfold mkX
  rw [e]
  show gcR 0 S (.ok (.ref S.length) (S ++ _)) = _
  unfold gcR
  dsimp only
  rw [show fzV (fzR S.length (S ++ [deskC c rs [] [] (S.length + 1) (S.length + 2), .lst [], .lst []]) 0) (.ref S.length) = none by
    simp only [fzV, fzR, belowR]; rw [if_neg (Nat.lt_irrefl _)]]
end
section
section
variable {rs : List Rk} {fs bs gs cs : List Int} {n a l : Nat} {S : Store} {A La : List Val}
theorem put_later {k : Nat} : putA "books_later" (.ref k) (dflds c rs fs bs a l) = dflds c rs fs bs a k := by
  simp only [dflds, putA, dn3, dn5, dn6, if_false, if_true]
theorem put_book : putA "book" (bookV c gs cs) (dflds c rs fs bs a l) = dflds c rs gs cs a l := by
  simp only [dflds, putA, dn1, if_false, if_true]
def dkS (c : Cl) (S : Store) (n a : Nat) (rs : List Rk) (A : List Val) (old : Val) (gs cs : List Int) : Store := ((S.set a (Cell.lst (A ++ [old]))) ++ [Cell.lst []]).set n (deskC c rs gs cs a S.length)
theorem dkS_len {old : Val} : (dkS c S n a rs A old gs cs).length = S.length + 1 := by simp [dkS]
theorem dkS_n {old : Val} (h : n < S.length) : (dkS c S n a rs A old gs cs)[n]? = some (deskC c rs gs cs a S.length) := by
  unfold dkS; rw [List.getElem?_set_self (by simp; omega)]
theorem dkS_get {old : Val} {j : Nat} (h1 : j ≠ n) (h2 : j ≠ a) (h3 : j < S.length) : (dkS c S n a rs A old gs cs)[j]? = S[j]? := by
  unfold dkS
  rw [List.getElem?_set_ne (Ne.symm h1), List.getElem?_append_left (by simpa using h3), List.getElem?_set_ne (Ne.symm h2)]
theorem Dsk.ln (h : Dsk c S n a l rs fs bs A La) : n < S.length ∧ a < S.length ∧ l < S.length :=
  ⟨(List.getElem?_eq_some_iff.mp h.hn).1, (List.getElem?_eq_some_iff.mp h.ha).1, (List.getElem?_eq_some_iff.mp h.hl).1⟩
theorem Dsk.next (h : Dsk c S n a l rs fs bs A La) : Dsk c (dkS c S n a rs A (bookV c fs bs) gs cs) n a S.length rs gs cs (A ++ [bookV c fs bs]) [] := by
  obtain ⟨h1, h2, h3⟩ := h.ln
  refine ⟨dkS_n h1, ?_, ?_, h.na, by omega, by omega, ?_, rfl⟩
  · unfold dkS
    rw [List.getElem?_set_ne h.na, List.getElem?_append_left (by simpa using h2), List.getElem?_set_self h2]
  · unfold dkS
    rw [List.getElem?_set_ne (by omega), List.getElem?_append_right (by simp)]
    simp
  · rw [trees_append, h.ta]; simp [trees, tree_book]
theorem Dsk.dk {d y : Nat} {Y : Dx} (h : Dsk c S n a l rs fs bs A La) (hn : n ≠ d ∧ n ≠ y) (ha : a ≠ d ∧ a ≠ y) (hl : l ≠ d ∧ l ≠ y) : Dsk c (Dk d y Y S) n a l rs fs bs A La :=
  ⟨by rw [Dk_get hn.1 hn.2]; exact h.hn, by rw [Dk_get ha.1 ha.2]; exact h.ha, by rw [Dk_get hl.1 hl.2]; exact h.hl, h.na, h.nl, h.al, h.ta, h.tl⟩
theorem dkS_Dk {d y : Nat} {Y : Dx} {old : Val} (hI : In d y S) (hn : n ≠ d ∧ n ≠ y) (ha : a ≠ d ∧ a ≠ y) : dkS c (Dk d y Y S) n a rs A old gs cs = Dk d y Y (dkS c S n a rs A old gs cs) := by
  unfold dkS
  rw [Dk_set ha.1 ha.2, Dk_app hI.set, Dk_set hn.1 hn.2, Dk_len]
theorem dkS_fits {old : Val} (hn : n < S.length) (hl : l < S.length) (h : S[n]? = some (deskC c rs fs bs a l)) : fits S (dkS c S n a rs A old gs cs) = false := by
  refine fits_no hn (dkS_n hn) ?_ (desk_below (Nat.le_refl _))
  rw [h]
  intro q
  injection q with q
  rw [desk_def, desk_def] at q
  injection q with _ q
  simp only [dflds] at q
  injection q with _ q
  injection q with _ q
  injection q with _ q
  injection q with q _
  injection q with _ q
  injection q with q
  omega
theorem dlen : (dflds c rs fs bs a l).length < 1000 := by simp [dflds]
theorem change_eq (h : Dsk c S n a l rs fs bs A La) (hA : A.length < 1000000) : f_p_Desk_change c [.ref n, bookV c gs cs] S = .ok .non (dkS c S n a rs A (bookV c fs bs) gs cs) := by
  obtain ⟨h1, h2, h3⟩ := h.ln
  refine eq_of_w ?_
  unfold f_p_Desk_change
  generalize hbb : b_p_Desk_change c = bb
  refine wR_fnE (by rfl) ?_
  show wS _ _ _ (bb [some (.ref n), some (bookV c gs cs)] _)
  subst hbb
  unfold b_p_Desk_change
  have q1 : (S.set a (Cell.lst (A ++ [bookV c fs bs])) ++ [Cell.lst []])[n]? = some (.ins c.Desk (dflds c rs fs bs a l)) := by
    rw [List.getElem?_append_left (by simpa using h1), List.getElem?_set_ne (Ne.symm h.na), h.hn, desk_def]
  have q2 : ∀ x, ((S.set a (Cell.lst (A ++ [bookV c fs bs])) ++ [Cell.lst []]).set n x)[n]? = some x := fun x => by
    rw [List.getElem?_set_self (by simp; omega)]
  have q3 : A.length < PySem.sizeLine := by rw [PySem.sizeLine_eq]; omega
  have q4 : ∀ x, (S.set a x).length = S.length := fun x => List.length_set
  simp_arith [obj_desk h.hn, dlk_ahead, dlk_book, h.ha, List.mem_singleton, w_fldC, q1, q2, q3, q4, dlen, put_later, put_book]
  rw [List.set_set, ← desk_def]
  exact wR_eq (gc_no (dkS_fits (gs := gs) (cs := cs) (A := A) (old := bookV c fs bs) h1 h3 h.hn)) (hold ⟨rfl, rfl⟩)
theorem bookLen {S : Store} (hl : fs.length ≤ 3000) : bLenX c.Book (f_p_Book___len__ c) [bookV c fs bs] S = .ok (.int (fs.length : Nat)) S := by
  have := blen_eq (c := c) (S := S) (fs := fs) (bs := bs)
  simp only [bLenX, bLenO, obj_book, calm, this, R.bind, if_true]
  rw [if_pos (by constructor <;> omega)]
theorem check_eq {m : Nat} (h : Dsk c S n a l rs fs bs A La) (hm : m < fs.length) (hl : fs.length ≤ 2000) : f_p_Desk_check_member c [.ref n, .int m] S = .ok .non S := by
  refine ok_of_w ?_
  unfold f_p_Desk_check_member
  generalize hbb : b_p_Desk_check_member c = bb
  refine wR_fnE (by rfl) ?_
  show wS _ _ _ (bb [some (.ref n), some (.int m)] _)
  subst hbb
  unfold b_p_Desk_check_member
  have q1 : decide ((0 : Int) ≤ (m : Nat)) = true := decide_eq_true (by omega)
  have q2 : decide (((m : Nat) : Int) < (fs.length : Nat)) = true := decide_eq_true (by omega)
  simp_arith [p_int, obj_desk h.hn, dlk_book, List.mem_singleton, bookLen (fs := fs) (by omega), q1, q2]
  exact wR_gc0 rfl (hold ⟨rfl, rfl⟩)
theorem join_eq {u b : Int} (hr : rs ≠ []) (h : Dsk c S n a l rs fs bs A La) (hA : A.length < 1000000) (hb : Bk (fs ++ [u]) (bs ++ [b])) (hu : -1 ≤ u ∧ u < fs.length) (h1 : (rs.headD default).le ≤ b) :
    f_p_Desk_join c [.ref n, .int u, .int b] S = .ok (.int (fs.length : Nat)) (dkS c S n a rs A (bookV c fs bs) (fs ++ [u]) (bs ++ [b])) := by
  obtain ⟨k1, k2, k3⟩ := h.ln
  have hlen := hb.ups.len
  simp at hlen
  refine eq_of_w ?_
  unfold f_p_Desk_join
  generalize hbb : b_p_Desk_join c = bb
  refine wR_fnE (by rfl) ?_
  show wS _ _ _ (bb [some (.ref n), some (.int u), some (.int b)] _)
  subst hbb
  unfold b_p_Desk_join
  have e1 := fun (gs cs : List Int) => change_eq (gs := gs) (cs := cs) h hA
  have e2 := fun S : Store => p_from (c := c) (S := S) h1
  have e3 := fun S : Store => member_eq (c := c) (S := S) hb
  have h' := h.next (gs := fs ++ [u]) (cs := bs ++ [b])
  have e6 : ∀ S : Store, bLenX c.Book (f_p_Book___len__ c) [bookV c (fs ++ [u]) (bs ++ [b])] S = .ok (.int ((fs ++ [u]).length : Nat)) S := fun S => bookLen (by simp; omega)
  have e7 : ((fs.length + 1 : Nat) : Int) - 1 = (fs.length : Nat) := by omega
  by_cases q : u = -1
  · subst q
    simp_arith [p_int, obj_desk h.hn, dlk_rule, dlk_book, List.mem_singleton, obj_rule, lk_ranks, sub_fst hr, sub_le, e1, e2, e3, obj_book, w_meth, lkm_with_member, dlm_change, obj_desk h'.hn, e6, List.length_append, List.length_singleton, e7]
    exact wR_eq (gc_no (dkS_fits k1 k3 h.hn)) (hold ⟨rfl, rfl⟩)
  · obtain ⟨m, rfl⟩ : ∃ m : Nat, u = m := ⟨u.toNat, by omega⟩
    have e4 := check_eq (m := m) h (by omega) (by omega)
    have e5 : decide (((m : Nat) : Int) = -1) = false := decide_eq_false (by omega)
    simp_arith [p_int, e4, e5, obj_desk h.hn, dlk_rule, dlk_book, List.mem_singleton, obj_rule, lk_ranks, sub_fst hr, sub_le, e1, e2, e3, obj_book, w_meth, lkm_with_member, dlm_change, dlm_check, obj_desk h'.hn, e6, List.length_append, List.length_singleton, e7]
    exact wR_eq (gc_no (dkS_fits k1 k3 h.hn)) (hold ⟨rfl, rfl⟩)
theorem dbuy_eq {m : Nat} {x : Int} (h : Dsk c S n a l rs fs bs A La) (hA : A.length < 1000000) (hb : Bk fs bs) (hm : m < fs.length) (hx : 1 ≤ x) :
    f_p_Desk_buy c [.ref n, .int m, .int x] S = .ok .non (dkS c S n a rs A (bookV c fs bs) fs (bs.set m (bs.getD m 0 + x))) := by
  obtain ⟨k1, k2, k3⟩ := h.ln
  have hbl := hb.len
  have e0 : 1 ≤ bs.getD m 0 := hb.sp _ (by rw [List.getD_eq_getElem?_getD, List.getElem?_eq_getElem (by omega)]; exact List.getElem_mem _)
  refine eq_of_w ?_
  unfold f_p_Desk_buy
  generalize hbb : b_p_Desk_buy c = bb
  refine wR_fnE (by rfl) ?_
  show wS _ _ _ (bb [some (.ref n), some (.int m), some (.int x)] _)
  subst hbb
  unfold b_p_Desk_buy
  have e1 := fun (gs cs : List Int) => change_eq (gs := gs) (cs := cs) h hA
  have e2 := fun S : Store => p_from (c := c) (S := S) hx
  have e3 := fun S : Store => buy_eq (c := c) (S := S) (b := bs.getD m 0 + x) hb hm (by omega)
  have e4 := check_eq (m := m) h (by omega) hb.ups.len
  simp_arith [e1, e2, e3, e4, obj_desk h.hn, dlk_book, List.mem_singleton, obj_book, lk_buys, idx_intsT (ns := bs) (j := m) (by omega), w_meth, lkm_with_buy, dlm_change, dlm_check]
  exact wR_eq (gc_no (dkS_fits k1 k3 h.hn)) (hold ⟨rfl, rfl⟩)
theorem dleave_eq {m : Nat} (h : Dsk c S n a l rs fs bs A La) (hA : A.length < 1000000) (hb : Bk fs bs) (hm : m < fs.length) :
    f_p_Desk_leave c [.ref n, .int m] S = .ok .non (dkS c S n a rs A (bookV c fs bs) (outN fs m fs.length) (delN bs m)) := by
  obtain ⟨k1, k2, k3⟩ := h.ln
  refine eq_of_w ?_
  unfold f_p_Desk_leave
  generalize hbb : b_p_Desk_leave c = bb
  refine wR_fnE (by rfl) ?_
  show wS _ _ _ (bb [some (.ref n), some (.int m)] _)
  subst hbb
  unfold b_p_Desk_leave
  have e1 := fun (gs cs : List Int) => change_eq (gs := gs) (cs := cs) h hA
  have e3 := fun S : Store => without_eq (c := c) (S := S) hb hm
  have e4 := check_eq (m := m) h (by omega) hb.ups.len
  simp_arith [e1, e3, e4, obj_desk h.hn, dlk_book, List.mem_singleton, obj_book, w_meth, lkm_without, dlm_change, dlm_check]
  exact wR_eq (gc_no (dkS_fits k1 k3 h.hn)) (hold ⟨rfl, rfl⟩)
theorem dlen_eq (h : Dsk c S n a l rs fs bs A La) : f_p_Desk___len__ c [.ref n] S = .ok (.int (A.length : Nat)) S := by
  refine ok_of_w ?_
  unfold f_p_Desk___len__
  generalize hbb : b_p_Desk___len__ c = bb
  refine wR_fnE (by rfl) ?_
  show wS _ _ _ (bb [some (.ref n)] _)
  subst hbb
  unfold b_p_Desk___len__
  simp_arith [obj_desk h.hn, dlk_ahead, List.mem_singleton, h.ha]
  exact wR_gc0 rfl (hold ⟨rfl, rfl⟩)
theorem dlenX (h : Dsk c S n a l rs fs bs A La) (hA : A.length ≤ 1000000) : bLenX c.Desk (f_p_Desk___len__ c) [.ref n] S = .ok (.int (A.length : Nat)) S := by
  have e := dlen_eq h
  simp only [bLenX, bLenO, obj_desk h.hn, calm, e, R.bind, if_true]
  rw [if_pos (by constructor <;> omega)]
end
end
section
theorem gc_same {k : Nat} {S T : Store} {v : Val} (ht : tree v = true) (h : T.length = S.length) : gcR k S (.ok v T) = .ok v T := by
  unfold gcR
  dsimp only
  rw [fz_tree _ v ht]
  dsimp only
  split
  · rw [← h, List.take_length]
  · rfl
section
variable {rs : List Rk} {fs bs gs cs : List Int} {n a l : Nat} {S : Store} {A La : List Val}
def udS (c : Cl) (S : Store) (n a l : Nat) (rs : List Rk) (A La : List Val) (gs cs : List Int) : Store := ((S.set l (Cell.lst La)).set a (Cell.lst A)).set n (deskC c rs gs cs a l)
def rdS (c : Cl) (S : Store) (n a l : Nat) (rs : List Rk) (A La : List Val) (gs cs : List Int) : Store := ((S.set a (Cell.lst A)).set l (Cell.lst La)).set n (deskC c rs gs cs a l)
theorem udS_len : (udS c S n a l rs A La gs cs).length = S.length := by simp [udS]
theorem rdS_len : (rdS c S n a l rs A La gs cs).length = S.length := by simp [rdS]
theorem udS_get {j : Nat} (h1 : j ≠ n) (h2 : j ≠ a) (h3 : j ≠ l) : (udS c S n a l rs A La gs cs)[j]? = S[j]? := by
  unfold udS
  rw [List.getElem?_set_ne (Ne.symm h1), List.getElem?_set_ne (Ne.symm h2), List.getElem?_set_ne (Ne.symm h3)]
theorem rdS_get {j : Nat} (h1 : j ≠ n) (h2 : j ≠ a) (h3 : j ≠ l) : (rdS c S n a l rs A La gs cs)[j]? = S[j]? := by
  unfold rdS
  rw [List.getElem?_set_ne (Ne.symm h1), List.getElem?_set_ne (Ne.symm h3), List.getElem?_set_ne (Ne.symm h2)]
theorem Dsk.ud {A' La' : List Val} (h : Dsk c S n a l rs fs bs A La) (ta : trees A' = true) (tl : trees La' = true) : Dsk c (udS c S n a l rs A' La' gs cs) n a l rs gs cs A' La' := by
  obtain ⟨h1, h2, h3⟩ := h.ln
  refine ⟨?_, ?_, ?_, h.na, h.nl, h.al, ta, tl⟩
  · unfold udS; rw [List.getElem?_set_self (by simpa using h1)]
  · unfold udS; rw [List.getElem?_set_ne h.na, List.getElem?_set_self (by simpa using h2)]
  · unfold udS; rw [List.getElem?_set_ne h.nl, List.getElem?_set_ne h.al, List.getElem?_set_self h3]
theorem Dsk.rd {A' La' : List Val} (h : Dsk c S n a l rs fs bs A La) (ta : trees A' = true) (tl : trees La' = true) : Dsk c (rdS c S n a l rs A' La' gs cs) n a l rs gs cs A' La' := by
  obtain ⟨h1, h2, h3⟩ := h.ln
  refine ⟨?_, ?_, ?_, h.na, h.nl, h.al, ta, tl⟩
  · unfold rdS; rw [List.getElem?_set_self (by simpa using h1)]
  · unfold rdS; rw [List.getElem?_set_ne h.na, List.getElem?_set_ne (Ne.symm h.al), List.getElem?_set_self h2]
  · unfold rdS; rw [List.getElem?_set_ne h.nl, List.getElem?_set_self (by simpa using h3)]
theorem udS_Dk {d y : Nat} {Y : Dx} (hn : n ≠ d ∧ n ≠ y) (ha : a ≠ d ∧ a ≠ y) (hl : l ≠ d ∧ l ≠ y) : udS c (Dk d y Y S) n a l rs A La gs cs = Dk d y Y (udS c S n a l rs A La gs cs) := by
  unfold udS
  rw [Dk_set hl.1 hl.2, Dk_set ha.1 ha.2, Dk_set hn.1 hn.2]
theorem rdS_Dk {d y : Nat} {Y : Dx} (hn : n ≠ d ∧ n ≠ y) (ha : a ≠ d ∧ a ≠ y) (hl : l ≠ d ∧ l ≠ y) : rdS c (Dk d y Y S) n a l rs A La gs cs = Dk d y Y (rdS c S n a l rs A La gs cs) := by
  unfold rdS
  rw [Dk_set ha.1 ha.2, Dk_set hl.1 hl.2, Dk_set hn.1 hn.2]
theorem undo_eq (h : Dsk c S n a l rs fs bs (A ++ [bookV c gs cs]) La) (hL : La.length < 1000000) : f_p_Desk_undo c [.ref n] S = .ok .non (udS c S n a l rs A (La ++ [bookV c fs bs]) gs cs) := by
  obtain ⟨h1, h2, h3⟩ := h.ln
  refine eq_of_w ?_
  unfold f_p_Desk_undo
  generalize hbb : b_p_Desk_undo c = bb
  refine wR_fnE (by rfl) ?_
  show wS _ _ _ (bb [some (.ref n)] _)
  subst hbb
  unfold b_p_Desk_undo
  have q0 : (A ++ [bookV c gs cs]).isEmpty = false := by cases A <;> rfl
  have q1 : ∀ x, (S.set l x)[n]? = some (deskC c rs fs bs a l) := fun x => by rw [List.getElem?_set_ne (Ne.symm h.nl), h.hn]
  have q2 : ∀ x, (S.set l x)[a]? = some (.lst (A ++ [bookV c gs cs])) := fun x => by rw [List.getElem?_set_ne (Ne.symm h.al), h.ha]
  have q3 : ∀ x y, ((S.set l x).set a y)[n]? = some (.ins c.Desk (dflds c rs fs bs a l)) := fun x y => by rw [List.getElem?_set_ne (Ne.symm h.na), q1, desk_def]
  have q5 : La.length < PySem.sizeLine := by rw [PySem.sizeLine_eq]; omega
  have q6 : ∀ (X : List Val) (v : Val), (X ++ [v])[X.length + 1 - 1]? = some v := fun X v => by simp
  have o1 := fun x => obj_desk (c := c) (q1 x)
  simp_arith [obj_desk h.hn, dlk_ahead, dlk_later, dlk_book, h.ha, h.hl, q0, List.mem_singleton, q5]
  simp_arith [o1, dlk_ahead, q2, w_fldC, q3, dlen, put_book, q6, List.dropLast_concat, List.mem_singleton]
  rw [← desk_def]
  exact wR_eq (gc_same rfl (by simp)) (hold ⟨rfl, rfl⟩)
theorem redo_eq (h : Dsk c S n a l rs fs bs A (La ++ [bookV c gs cs])) (hL : A.length < 1000000) : f_p_Desk_redo c [.ref n] S = .ok .non (rdS c S n a l rs (A ++ [bookV c fs bs]) La gs cs) := by
  obtain ⟨h1, h2, h3⟩ := h.ln
  refine eq_of_w ?_
  unfold f_p_Desk_redo
  generalize hbb : b_p_Desk_redo c = bb
  refine wR_fnE (by rfl) ?_
  show wS _ _ _ (bb [some (.ref n)] _)
  subst hbb
  unfold b_p_Desk_redo
  have q0 : (La ++ [bookV c gs cs]).isEmpty = false := by cases La <;> rfl
  have q1 : ∀ x, (S.set a x)[n]? = some (deskC c rs fs bs a l) := fun x => by rw [List.getElem?_set_ne (Ne.symm h.na), h.hn]
  have q2 : ∀ x, (S.set a x)[l]? = some (.lst (La ++ [bookV c gs cs])) := fun x => by rw [List.getElem?_set_ne h.al, h.hl]
  have q3 : ∀ x y, ((S.set a x).set l y)[n]? = some (.ins c.Desk (dflds c rs fs bs a l)) := fun x y => by rw [List.getElem?_set_ne (Ne.symm h.nl), q1, desk_def]
  have q5 : A.length < PySem.sizeLine := by rw [PySem.sizeLine_eq]; omega
  have q6 : ∀ (X : List Val) (v : Val), (X ++ [v])[X.length + 1 - 1]? = some v := fun X v => by simp
  have o1 := fun x => obj_desk (c := c) (q1 x)
  simp_arith [obj_desk h.hn, dlk_ahead, dlk_later, dlk_book, h.ha, h.hl, q0, List.mem_singleton, q5]
  simp_arith [o1, dlk_later, q2, w_fldC, q3, dlen, put_book, q6, List.dropLast_concat, List.mem_singleton]
  rw [← desk_def]
  exact wR_eq (gc_same rfl (by simp)) (hold ⟨rfl, rfl⟩)
end
end
section
theorem gcE_0 {k : Nat} {S : Store} {x : Exc} (h : treeF x.fs = true) : gcE k S (.exn x S) = .exn x S := by
  have := gcE_T (k := k) (S := S) (T := []) h
  rwa [List.append_nil] at this
section
variable {rs : List Rk} {fs bs gs cs : List Int} {n a l : Nat} {S : Store} {A La : List Val} {v w : Val}
end
end
end Pg
end
section
set_option maxHeartbeats 4000000
set_option maxRecDepth 100000
namespace Pg
open Gx
variable {c : Cl} {z : Kc}
open Lean in
local macro_rules
  | `(tactic| simp_arith [$xs,*]) => `(tactic| repeat (first | simp_arith! [$xs,*] | ((with_reducible refine And.intro ?_ ?_); (· ((try simp only [PySem.sizeLine_eq, List.length_map, List.length_append, List.length_cons, List.length_nil, List.length_take, List.length_drop]); omega))) | ((with_reducible refine wmul ?_ ?_ ?_); (· omega); (· omega)) | ((with_reducible refine wmod ?_ fun _ _ _ _ => ?_); (· omega)) | ((with_reducible refine wfdiv ?_ ?_ ?_); (· omega); (· omega)) | ((with_reducible refine draw_3_w (by assumption) ?_ ?_ ?_ ?_ fun _ _ _ _ _ => ?_); (· omega); (· (first | assumption | exact In.app (by assumption))); (· omega); (· omega)) | ((with_reducible refine pickI3_w (by with_unfolding_all rfl) (by assumption) ?_ ?_ ?_ ?_ fun _ _ _ _ => ?_); (· omega); (· (first | assumption | exact In.app (by assumption))); (· simp); (· simp))))
  | `(tactic| simp_arith) => `(tactic| repeat (first | simp_arith! [true_and] | ((with_reducible refine And.intro ?_ ?_); (· ((try simp only [PySem.sizeLine_eq, List.length_map, List.length_append, List.length_cons, List.length_nil, List.length_take, List.length_drop]); omega))) | ((with_reducible refine wmul ?_ ?_ ?_); (· omega); (· omega)) | ((with_reducible refine wmod ?_ fun _ _ _ _ => ?_); (· omega)) | ((with_reducible refine wfdiv ?_ ?_ ?_); (· omega); (· omega)) | ((with_reducible refine draw_3_w (by assumption) ?_ ?_ ?_ ?_ fun _ _ _ _ _ => ?_); (· omega); (· (first | assumption | exact In.app (by assumption))); (· omega); (· omega)) | ((with_reducible refine pickI3_w (by with_unfolding_all rfl) (by assumption) ?_ ?_ ?_ ?_ fun _ _ _ _ => ?_); (· omega); (· (first | assumption | exact In.app (by assumption))); (· simp); (· simp))))
section
abbrev kh : L2.Key := Sum.inr (PySem.Str.ofString "heads")
abbrev ko : L2.Key := Sum.inr (PySem.Str.ofString "costs")
theorem n_ho : (PySem.Str.ofString "heads" = PySem.Str.ofString "costs") = False := by simp only [eq_iff_iff, iff_false]; decide +kernel
theorem n_oh : (PySem.Str.ofString "costs" = PySem.Str.ofString "heads") = False := by simp only [eq_iff_iff, iff_false]; decide +kernel
theorem mgH {a b : Val} : mergeV [] [(kh, a), (ko, b)] = [(kh, a), (ko, b)] := by simp [mergeV, putV, n_ho, n_oh]
theorem get_h {a b : Val} : getV [(kh, a), (ko, b)] kh = some a := by simp [getV, List.find?, n_ho, n_oh]
theorem get_o {a b : Val} : getV [(kh, a), (ko, b)] ko = some b := by simp [getV, List.find?, n_ho, n_oh]
@[irreducible] def enH (fs bs : List Int) : Val := .dct [(kh, .lst (fs.map .int)), (ko, .lst (bs.map .int))]
theorem enH_def {fs bs : List Int} : enH fs bs = .dct [(kh, .lst (fs.map .int)), (ko, .lst (bs.map .int))] := by unfold enH; rfl
theorem sub_h {fs bs : List Int} {S : Store} : oSub2 (enH fs bs) (.str (PySem.Str.ofString "heads")) S = .ok (.lst (fs.map .int)) S := by
  rw [enH_def, o_sub2D]; simp only [Gx.keyOf, get_h]
theorem sub_o {fs bs : List Int} {S : Store} : oSub2 (enH fs bs) (.str (PySem.Str.ofString "costs")) S = .ok (.lst (bs.map .int)) S := by
  rw [enH_def, o_sub2D]; simp only [Gx.keyOf, get_o]
def kpN (bs : List Int) (k : Nat) : Nat → List Int
  | 0 => []
  | i + 1 => kpN bs k i ++ (if i = k then [] else [bs.getD i 0])
theorem kp_eq {bs : List Int} {k : Nat} : ∀ i, i ≤ bs.length → kpN bs k i = if k < i then delN (bs.take i) k else bs.take i
  | 0, _ => by simp [kpN]
  | i + 1, h => by
    have hi : i < bs.length := by omega
    have e : bs.take (i + 1) = bs.take i ++ [bs.getD i 0] := by
      rw [List.take_succ, List.getD_eq_getElem?_getD, List.getElem?_eq_getElem hi]; rfl
    have ih := kp_eq (bs := bs) (k := k) i (by omega)
    simp only [kpN]
    rw [ih]
    by_cases g : i = k
    · subst g
      rw [if_neg (Nat.lt_irrefl _), if_pos rfl, if_pos (Nat.lt_succ_self _), e]
      unfold delN
      rw [List.take_append_of_le_length (by simp; omega), List.drop_eq_nil_of_le (by simp; omega), List.take_take, Nat.min_self]
    · rw [if_neg g]
      by_cases q : k < i
      · rw [if_pos q, if_pos (by omega), e]
        unfold delN
        rw [List.take_append_of_le_length (by simp; omega), List.drop_append_of_le_length (by simp; omega), List.append_assoc]
      · rw [if_neg q, if_neg (by omega), e]
theorem kp_len {bs : List Int} {k : Nat} : ∀ i, (kpN bs k i).length ≤ i
  | 0 => by simp [kpN]
  | i + 1 => by
    have := kp_len (bs := bs) (k := k) i
    simp only [kpN, List.length_append]
    split <;> simp <;> omega
theorem kp_all {bs : List Int} {k : Nat} (h : k < bs.length) : kpN bs k bs.length = delN bs k := by
  rw [kp_eq _ (Nat.le_refl _), if_pos h, List.take_length]
theorem hout_eq {S : Store} {fs bs : List Int} {j : Nat} (hb : Bk fs bs) (hj : j < fs.length) :
    f_w_without c [enH fs bs, .int j] S = .ok (enH (outN fs j fs.length) (delN bs j)) S := by
  have hl := hb.len
  have hn := hb.ups.len
  refine ok_of_w ?_
  unfold f_w_without
  generalize hbb : b_w_without c = bb
  refine wR_fnE (by rfl) ?_
  show wS _ _ _ (bb [some (enH fs bs), some (.int j), none, none, none, none, none] _)
  subst hbb
  unfold b_w_without
  simp_arith [sub_h]
  refine wS_for (fun i L S1 => ∃ (l4 l5 l6 : Option Val), L = [some (enH fs bs), some (.int j), some (.ref S.length), some (.ref (S.length + 1)), l4, l5, l6] ∧ S1 = S ++ [.lst ((outN fs j i).map .int), .lst ((kpN bs j i).map .int)]) ?_ ?_ ?_ ?_
  · exact ⟨_, _, _, rfl, rfl⟩
  · intros; rfl
  · rintro i x _ _ hx hi ⟨l4, l5, l6, rfl, rfl⟩
    obtain ⟨rfl, hi2⟩ := enum_at hx
    have hu := outN_len (fs := fs) (k := j) i
    have hkp := kp_len (bs := bs) (k := j) i
    simp_arith
    by_cases hij : i = j
    · subst hij
      simp_arith
      exact hold ⟨_, _, _, rfl, by simp [outN, kpN]⟩
    · have hf : decide ((i : Int) = (j : Int)) = false := decide_eq_false (by omega)
      simp_arith [hf]
      refine wR_mono (Q := fun v S1 => v = .int (if fs.getD i 0 = (j : Int) then fs.getD j 0 else fs.getD i 0) ∧ S1 = S ++ [.lst ((outN fs j i).map .int), .lst ((kpN bs j i).map .int)]) ?_ ?_
      · (first | refine wS_if (fun q => ?_) fun q => ?_ | refine wR_if (fun q => ?_) fun q => ?_ | refine prop_if (fun q => ?_) fun q => ?_)
        · simp_arith [sub_h, idx_lstI hj, sub_o, idxL]
          simp at q; simp [q]
        · simp_arith
          simp at q; simp [q]
      rintro _ _ ⟨rfl, rfl⟩
      simp_arith [sg0, ss0, sg1, ss1, sub_o, idx_lstI (ns := bs) (j := i) (by omega), List.length_map]
      exact hold ⟨_, _, _, rfl, by simp [outN, kpN, hij, goN]⟩
  · rintro _ _ ⟨l4, l5, l6, rfl, rfl⟩
    rw [enum_len, ← hl, kp_all (by omega), hl]
    simp_arith [mgH]
    generalize outN fs j fs.length = U
    generalize delN bs j = B
    refine wR_gc (v' := enH U B) ?_ (hold ⟨rfl, rfl⟩)
    simp only [fzV, fzVK]
    rw [enH_def, fzR_at (xs := U) (Nat.le_refl _) sg0, fzR_at (xs := B) (by omega) sg1]
    rfl
end
section
abbrev kpa : L2.Key := Sum.inr (PySem.Str.ofString "ahead")
abbrev kpn : L2.Key := Sum.inr (PySem.Str.ofString "now")
abbrev kpl : L2.Key := Sum.inr (PySem.Str.ofString "later")
theorem n_an : (PySem.Str.ofString "ahead" = PySem.Str.ofString "now") = False := by simp only [eq_iff_iff, iff_false]; decide +kernel
theorem n_al : (PySem.Str.ofString "ahead" = PySem.Str.ofString "later") = False := by simp only [eq_iff_iff, iff_false]; decide +kernel
theorem n_na : (PySem.Str.ofString "now" = PySem.Str.ofString "ahead") = False := by simp only [eq_iff_iff, iff_false]; decide +kernel
theorem n_nl : (PySem.Str.ofString "now" = PySem.Str.ofString "later") = False := by simp only [eq_iff_iff, iff_false]; decide +kernel
theorem n_la : (PySem.Str.ofString "later" = PySem.Str.ofString "ahead") = False := by simp only [eq_iff_iff, iff_false]; decide +kernel
theorem n_ln : (PySem.Str.ofString "later" = PySem.Str.ofString "now") = False := by simp only [eq_iff_iff, iff_false]; decide +kernel
@[irreducible] def pileV (r q : Nat) (v : Val) : List (L2.Key × Val) := [(kpa, .ref r), (kpn, v), (kpl, .ref q)]
theorem pile_def {r q : Nat} {v : Val} : pileV r q v = [(kpa, .ref r), (kpn, v), (kpl, .ref q)] := by unfold pileV; rfl
theorem pile_mg {a b d : Val} : mergeV [] [(kpa, a), (kpn, b), (kpl, d)] = [(kpa, a), (kpn, b), (kpl, d)] := by simp [mergeV, putV, n_an, n_al, n_na, n_nl, n_la, n_ln]
section
variable {r q k : Nat} {u v : Val}
theorem pl_a : getV (pileV r q v) kpa = some (.ref r) := by rw [pile_def]; simp [getV, List.find?]
theorem pl_n : getV (pileV r q v) kpn = some v := by rw [pile_def]; simp [getV, List.find?, n_an, n_na]
theorem pl_l : getV (pileV r q v) kpl = some (.ref q) := by rw [pile_def]; simp [getV, List.find?, n_al, n_la, n_nl, n_ln]
theorem pp_n : putV (pileV r q v) kpn u = pileV r q u := by rw [pile_def, pile_def]; simp [putV, n_an, n_na, n_nl, n_ln, n_al, n_la]
theorem pp_l : putV (pileV r q v) kpl (.ref k) = pileV r k v := by rw [pile_def, pile_def]; simp [putV, n_al, n_la, n_nl, n_ln, n_an, n_na]
theorem pile_mg2 : mergeV [] (pileV r q v) = pileV r q v := by rw [pile_def]; exact pile_mg
theorem pv_len : (pileV r q v).length = 3 := by rw [pile_def]; rfl
end
section
variable {S : Store} {p r q k : Nat} {u v : Val}
theorem sub_pa (h : S[p]? = some (.dct (pileV r q v))) : oSub2 (.ref p) (.str (PySem.Str.ofString "ahead")) S = .ok (.ref r) S := by
  rw [o_sub2R, h]; simp only [Gx.keyOf, pl_a]
theorem sub_pn (h : S[p]? = some (.dct (pileV r q v))) : oSub2 (.ref p) (.str (PySem.Str.ofString "now")) S = .ok v S := by
  rw [o_sub2R, h]; simp only [Gx.keyOf, pl_n]
theorem sub_pl (h : S[p]? = some (.dct (pileV r q v))) : oSub2 (.ref p) (.str (PySem.Str.ofString "later")) S = .ok (.ref q) S := by
  rw [o_sub2R, h]; simp only [Gx.keyOf, pl_l]
end
section
variable {rs : List Rk} {fs bs gs cs : List Int} {n a l : Nat} {S : Store} {A La : List Val}
theorem undo_no (h : Dsk c S n a l rs fs bs [] La) : f_p_Desk_undo c [.ref n] S = .exn ⟨.NothingToUndo, []⟩ S := by
  refine exn_of_w ?_
  unfold f_p_Desk_undo
  generalize hbb : b_p_Desk_undo c = bb
  refine wR_fnE (by rfl) ?_
  show wS _ _ _ (bb [some (.ref n)] _)
  subst hbb
  unfold b_p_Desk_undo
  simp_arith [obj_desk h.hn, dlk_ahead, h.ha, List.mem_singleton, w_raise0]
  rw [gcE_0 rfl]; exact hold ⟨rfl, rfl⟩
theorem redo_no (h : Dsk c S n a l rs fs bs A []) : f_p_Desk_redo c [.ref n] S = .exn ⟨.NothingToRedo, []⟩ S := by
  refine exn_of_w ?_
  unfold f_p_Desk_redo
  generalize hbb : b_p_Desk_redo c = bb
  refine wR_fnE (by rfl) ?_
  show wS _ _ _ (bb [some (.ref n)] _)
  subst hbb
  unfold b_p_Desk_redo
  simp_arith [obj_desk h.hn, dlk_later, h.hl, List.mem_singleton, w_raise0]
  rw [gcE_0 rfl]; exact hold ⟨rfl, rfl⟩
end
abbrev Bo := List Int × List Int
def bk (c : Cl) (x : Bo) : Val := bookV c x.1 x.2
def en (x : Bo) : Val := enH x.1 x.2
theorem trees_bk (X : List Bo) : trees (X.map (bk c)) = true := trees_map _ X fun _ _ => tree_book
structure Ne8 (d y n a l p r q : Nat) : Prop where
  nn : n ≠ d ∧ n ≠ y
  an : a ≠ d ∧ a ≠ y
  ln : l ≠ d ∧ l ≠ y
  pn : p ≠ d ∧ p ≠ y
  rn : r ≠ d ∧ r ≠ y
  qn : q ≠ d ∧ q ≠ y
  np : n ≠ p
  nr : n ≠ r
  nq : n ≠ q
  ap : a ≠ p
  ar : a ≠ r
  aq : a ≠ q
  lp : l ≠ p
  lr : l ≠ r
  lq : l ≠ q
  pr : p ≠ r
  pq : p ≠ q
  rq : r ≠ q
structure St (c : Cl) (rs : List Rk) (d y n a l p r q : Nat) (H : List Bo) (x : Bo) (R : List Bo) (S : Store) : Prop where
  i : In d y S
  k : Dsk c S n a l rs x.1 x.2 (H.map (bk c)) (R.map (bk c))
  cp : S[p]? = some (.dct (pileV r q (en x)))
  cr : S[r]? = some (.lst (H.map en))
  cq : S[q]? = some (.lst (R.map en))
  nx : Ne8 d y n a l p r q
end
end Pg
end
section
set_option maxHeartbeats 4000000
set_option maxRecDepth 100000
namespace K39
open Gx Pg
variable {c : Cl} {z : Kc}
open Lean in
local macro_rules
  | `(tactic| simp_arith [$xs,*]) => `(tactic| repeat (first | simp_arith! [$xs,*] | ((with_reducible refine And.intro ?_ ?_); (· ((try simp only [PySem.sizeLine_eq, List.length_map, List.length_append, List.length_cons, List.length_nil, List.length_take, List.length_drop]); omega))) | ((with_reducible refine wmul ?_ ?_ ?_); (· omega); (· omega)) | ((with_reducible refine wmod ?_ fun _ _ _ _ => ?_); (· omega)) | ((with_reducible refine wfdiv ?_ ?_ ?_); (· omega); (· omega)) | ((with_reducible refine draw_3_w (by assumption) ?_ ?_ ?_ ?_ fun _ _ _ _ _ => ?_); (· omega); (· (first | assumption | exact In.app (by assumption))); (· omega); (· omega)) | ((with_reducible refine pickI3_w (by with_unfolding_all rfl) (by assumption) ?_ ?_ ?_ ?_ fun _ _ _ _ => ?_); (· omega); (· (first | assumption | exact In.app (by assumption))); (· simp); (· simp))))
  | `(tactic| simp_arith) => `(tactic| repeat (first | simp_arith! [true_and] | ((with_reducible refine And.intro ?_ ?_); (· ((try simp only [PySem.sizeLine_eq, List.length_map, List.length_append, List.length_cons, List.length_nil, List.length_take, List.length_drop]); omega))) | ((with_reducible refine wmul ?_ ?_ ?_); (· omega); (· omega)) | ((with_reducible refine wmod ?_ fun _ _ _ _ => ?_); (· omega)) | ((with_reducible refine wfdiv ?_ ?_ ?_); (· omega); (· omega)) | ((with_reducible refine draw_3_w (by assumption) ?_ ?_ ?_ ?_ fun _ _ _ _ _ => ?_); (· omega); (· (first | assumption | exact In.app (by assumption))); (· omega); (· omega)) | ((with_reducible refine pickI3_w (by with_unfolding_all rfl) (by assumption) ?_ ?_ ?_ ?_ fun _ _ _ _ => ?_); (· omega); (· (first | assumption | exact In.app (by assumption))); (· simp); (· simp))))
section
section
variable {rs : List Rk} {fs bs gs cs : List Int} {n a l d y k : Nat} {S : Store} {A La : List Val} {Y : Dx}
theorem shown_non : (pd .non).shown = PySem.Str.ofString "None" := by decide +kernel
theorem rep_non {S : Store} : bRepr [.non] S = .ok (.str (PySem.Str.ofString "None")) S := by
  rw [← shown_non]; exact repr_ok (Dt.non (b := 64) (n := 0)) (by omega) (by omega) (by omega) (by omega) S
theorem ne_ur : (PySem.Str.ofString "redo" = PySem.Str.ofString "undo") = False := by simp only [eq_iff_iff, iff_false]; decide +kernel
theorem heard_undo (h : Dsk c S n a l rs fs bs (A ++ [bookV c gs cs]) La) (hL : La.length < 1000000) : f_w_heard c [.ref n, .str "undo"] S = .ok (.str "None") (udS c S n a l rs A (La ++ [bookV c fs bs]) gs cs) := by
  refine eq_of_w ?_
  have e := undo_eq h hL
  unfold f_w_heard
  generalize hbb : b_w_heard c = bb
  refine wR_fnE (by rfl) ?_
  show wS _ _ _ (bb [some (.ref n), some (.str "undo"), none, none] _)
  subst hbb
  unfold b_w_heard
  simp_arith [w_try, wX_asg, obj_desk h.hn, w_meth, dlm_undo, e, rep_non]
  exact wR_eq (gc_same rfl udS_len) (hold ⟨rfl, rfl⟩)
theorem heard_redo (h : Dsk c S n a l rs fs bs A (La ++ [bookV c gs cs])) (hL : A.length < 1000000) : f_w_heard c [.ref n, .str "redo"] S = .ok (.str "None") (rdS c S n a l rs (A ++ [bookV c fs bs]) La gs cs) := by
  refine eq_of_w ?_
  have e := redo_eq h hL
  unfold f_w_heard
  generalize hbb : b_w_heard c = bb
  refine wR_fnE (by rfl) ?_
  show wS _ _ _ (bb [some (.ref n), some (.str "redo"), none, none] _)
  subst hbb
  unfold b_w_heard
  simp_arith [w_try, wX_asg, obj_desk h.hn, w_meth, dlm_redo, e, rep_non, ne_ur]
  exact wR_eq (gc_same rfl rdS_len) (hold ⟨rfl, rfl⟩)
theorem heard_undo_no (h : Dsk c S n a l rs fs bs [] La) : f_w_heard c [.ref n, .str "undo"] S = .ok (.str "no undo") S := by
  refine ok_of_w ?_
  have e := undo_no h
  unfold f_w_heard
  generalize hbb : b_w_heard c = bb
  refine wR_fnE (by rfl) ?_
  show wS _ _ _ (bb [some (.ref n), some (.str "undo"), none, none] _)
  subst hbb
  unfold b_w_heard
  simp_arith [w_try, wX_asg, obj_desk h.hn, w_meth, dlm_undo, e, wR_exn]
  rw [show (xhds _ _ _ _ _ : RS) = .nx [some (.ref n), some (.str "undo"), some (.str "no undo"), none] S from rfl]
  simp_arith
  exact wR_gc0 rfl (hold ⟨rfl, rfl⟩)
theorem heard_redo_no (h : Dsk c S n a l rs fs bs A []) : f_w_heard c [.ref n, .str "redo"] S = .ok (.str "no redo") S := by
  refine ok_of_w ?_
  have e := redo_no h
  unfold f_w_heard
  generalize hbb : b_w_heard c = bb
  refine wR_fnE (by rfl) ?_
  show wS _ _ _ (bb [some (.ref n), some (.str "redo"), none, none] _)
  subst hbb
  unfold b_w_heard
  simp_arith [w_try, wX_asg, obj_desk h.hn, w_meth, dlm_redo, e, wR_exn, ne_ur]
  rw [show (xhds _ _ _ _ _ : RS) = .nx [some (.ref n), some (.str "redo"), some (.str "no redo"), none] S from rfl]
  simp_arith
  exact wR_gc0 rfl (hold ⟨rfl, rfl⟩)
structure Sm (i : Nat) (x : Bo) : Prop where
  bk : Bk x.1 x.2
  len : x.1.length ≤ i
  sp : ∀ b ∈ x.2, b ≤ 1000 * ((i : Int) + 1)
theorem Sm.le {i j : Nat} {x : Bo} (h : Sm i x) (hij : i ≤ j) : Sm j x := ⟨h.bk, by have := h.len; omega, fun b hb => by have := h.sp b hb; omega⟩
theorem dts_book {i : Nat} {x : Bo} (h : Sm i x) (hi : i ≤ 100) : Dt 64 1 16000 (.tup (x.1.map .int)) ∧ Dt 64 1 16000 (.tup (x.2.map .int)) := by
  have h2 := h.bk.len
  have h3 := h.len
  refine ⟨((dts_ints fun n hn => ?_).le (Nat.le_refl _) (by omega)).tup (by omega), ((dts_ints fun n hn => ?_).le (Nat.le_refl _) (by omega)).tup (by omega)⟩
  · obtain ⟨j, hj, rfl⟩ := List.mem_iff_getElem.mp hn
    have := h.bk.ups.fr j _ (List.getElem?_eq_getElem hj)
    omega
  · have := h.sp n hn
    have := h.bk.sp n hn
    omega
theorem isas_eq {x : Bo} {v : Val} (h : Dsk c S n a l rs x.1 x.2 A La) (hA : A.length ≤ 1000) (hx : Sm k x) (hk : k ≤ 100) (hv : bLen [v] S = .ok (.int (A.length : Nat)) S) :
    f_w_is_as c [.ref n, en x, v] S = .ok (.bl true) S := by
  refine ok_of_w ?_
  unfold f_w_is_as
  generalize hbb : b_w_is_as c = bb
  refine wR_fnE (by rfl) ?_
  show wS _ _ _ (bb [some (.ref n), some (en x), some v] _)
  subst hbb
  unfold b_w_is_as
  obtain ⟨d1, d2⟩ := dts_book hx hk
  have e1 := dlenX h (by omega)
  have e2 : ∀ S : Store, bRepr [.lst [.tup (x.1.map .int), .tup (x.2.map .int), .int (A.length : Nat)]] S = .ok (.str (pd (.lst [.tup (x.1.map .int), .tup (x.2.map .int), .int (A.length : Nat)])).shown) S := fun S =>
    repr_ok ((((Dts.nil.cons (Dt.int (b := 64) (by omega))).cons d2).cons d1).lst (by omega)) (by omega) (by omega) (by omega) (by omega) S
  simp_arith [obj_desk h.hn, dlk_book, List.mem_singleton, obj_book, lk_ups, lk_buys, e1, en, sub_h, sub_o, hv, e2]
  exact wR_gc0 rfl (hold ⟨rfl, rfl⟩)
theorem gc_new {kk : Nat} {Y' : Dx} {v : Val} {T : Store} (hn : n ≠ d ∧ n ≠ y) (h : Dsk c S n a l rs fs bs A La) (hT : T[n]? = some (deskC c rs gs cs a S.length)) : gcR kk (Dk d y Y S) (.ok v (Dk d y Y' T)) = .ok v (Dk d y Y' T) := by
  obtain ⟨h1, h2, h3⟩ := h.ln
  refine gc_no (fits_no (n := n) (x := deskC c rs gs cs a S.length) (by rw [Dk_len]; exact h1) ?_ ?_ (desk_below (by rw [Dk_len]; exact Nat.le_refl _)))
  · rw [Dk_get hn.1 hn.2]; exact hT
  · rw [Dk_get hn.1 hn.2, h.hn]
    intro q
    injection q with q
    rw [desk_def, desk_def] at q
    injection q with _ q
    simp only [dflds] at q
    injection q with _ q
    injection q with _ q
    injection q with _ q
    injection q with q _
    injection q with _ q
    injection q with q
    omega
theorem gc_dk {kk : Nat} {Y' : Dx} {old v : Val} (hn : n ≠ d ∧ n ≠ y) (h : Dsk c S n a l rs fs bs A La) : gcR kk (Dk d y Y S) (.ok v (Dk d y Y' (dkS c S n a rs A old gs cs))) = .ok v (Dk d y Y' (dkS c S n a rs A old gs cs)) := gc_new hn h (dkS_n h.ln.1)
theorem change_w {x : Bo} {Q : Val → Store → Prop} {X : Exc → Store → Prop} (hY : Y.Ok k) (hk : 10 ≤ k) (hI : In d y S) (h : Dsk c S n a l rs x.1 x.2 A La) (hn : n ≠ d ∧ n ≠ y) (ha : a ≠ d ∧ a ≠ y) (hl : l ≠ d ∧ l ≠ y) (hA : A.length < 1000) (hr : Kt 3 3 rs)
    (M : Nat) (hM : M ≤ 99) (hx : Sm M x)
    (hQ : ∀ z Y', Sm (M + 1) z → Y'.Ok (k - 10) → Q (en z) (Dk d y Y' (dkS c S n a rs A (bookV c x.1 x.2) z.1 z.2))) :
    wR Q X (f_w_change c [.ref d, .ref n, en x, .int (rs.headD default).le] (Dk d y Y S)) := by
  obtain ⟨fs, bs⟩ := x
  simp only [en] at *
  obtain ⟨hb, hfl, hbM⟩ := hx
  simp only at hb hfl hbM h
  have hr0 : rs.headD default ∈ rs := by
    have := hr.ok.ne
    cases rs with
    | nil => exact absurd rfl this
    | cons x xs => simp
  have hlo := (hr.sm _ hr0).1
  have hlo1 : 1 ≤ (rs.headD default).le := by obtain ⟨i, q⟩ := RkOk.mem hr.ok hr0; exact q.le
  have hbl := hb.len
  have hD : ∀ Y' : Dx, Dsk c (Dk d y Y' S) n a l rs fs bs A La := fun Y' => h.dk hn ha hl
  have dk : ∀ {Y' : Dx} {gs cs : List Int}, dkS c (Dk d y Y' S) n a rs A (bookV c fs bs) gs cs = Dk d y Y' (dkS c S n a rs A (bookV c fs bs) gs cs) := dkS_Dk hI hn ha
  unfold f_w_change
  generalize hbb : b_w_change c = bb
  refine wR_fnE (by rfl) ?_
  show wS _ _ _ (bb [some (.ref d), some (.ref n), some (enH fs bs), some (.int (rs.headD default).le), none, none, none, none, none] _)
  subst hbb
  unfold b_w_change
  simp_arith [sub_h, List.length_map]
  rename_i r Y1 r0 r1 hY1
  refine wR_mono (Q := fun b S1 => b = decide (fs.length = 0 ∨ r < 2) ∧ S1 = Dk d y Y1 S) ?_ ?_
  · by_cases q : fs.length = 0
    · simp_arith [q]
      simp [q]
    · have q1 : decide ((fs.length : Int) = 0) = false := decide_eq_false (by omega)
      simp_arith [q1]
      simp [q]
  rintro _ _ ⟨rfl, rfl⟩
  by_cases q : fs.length = 0 ∨ r < 2
  · simp_arith [decide_eq_true q]
    rename_i u Y2 u0 u1 hY2 z Y3 z0 z1 hY3
    have hB : Bk (fs ++ [u - 1]) (bs ++ [(rs.headD default).le + z]) := hb.snoc (by omega) (by omega) (by omega)
    have eJ : ∀ Y', f_p_Desk_join c [.ref n, .int (u - 1), .int ((rs.headD default).le + z)] (Dk d y Y' S) = .ok (.int (fs.length : Nat)) (Dk d y Y' (dkS c S n a rs A (bookV c fs bs) (fs ++ [u - 1]) (bs ++ [(rs.headD default).le + z]))) := fun Y' => by
      rw [join_eq hr.ok.ne (hD Y') (by omega) hB (by omega) (by omega), dk]
    simp_arith [obj_desk (hD _).hn, w_meth, dlm_join, eJ, sub_h, sub_o, List.length_map, mgH, ints_ext]
    rw [← enH_def]
    refine wR_eq (gc_dk hn h) (hQ (_, _) Y3 ⟨hB, by simp; omega, fun b hb' => ?_⟩ (hY3.le (by omega)))
    rcases List.mem_append.mp hb' with w | w
    · have := hbM b w; omega
    · rw [List.mem_singleton.mp w]; omega
  · simp_arith [decide_eq_false q]
    rename_i p Y2 p0 p1 hY2
    have hp : 0 < fs.length := by omega
    obtain ⟨m, rfl, hm⟩ : ∃ m : Nat, p = m ∧ m < fs.length := ⟨p.toNat, by omega, by omega⟩
    by_cases q3 : r = 2
    · have eB : ∀ Y', f_p_Desk_buy c [.ref n, .int m, .int 3] (Dk d y Y' S) = .ok .non (Dk d y Y' (dkS c S n a rs A (bookV c fs bs) fs (bs.set m (bs.getD m 0 + 3)))) := fun Y' => by
        rw [dbuy_eq (hD Y') (by omega) hb hm (by omega), dk]
      simp_arith [decide_eq_true q3, obj_desk (hD _).hn, w_meth, dlm_buy, eB, sub_h, sub_o, idx_lstI (ns := bs) (j := m) (by omega), List.length_map, mgH, cut_a, cut_b, List.length_take, List.length_drop, set_map (bs := bs) (j := m) (by omega)]
      rw [← enH_def]
      have hg : bs.getD m 0 ∈ bs := by
        rw [List.getD_eq_getElem?_getD, List.getElem?_eq_getElem (by omega)]; exact List.getElem_mem _
      have g1 := hb.sp _ hg
      have g2 := hbM _ hg
      refine wR_eq (gc_dk hn h) (hQ (_, _) Y2 ⟨bk_set hb (by omega), by show fs.length ≤ _; omega, fun b hb' => ?_⟩ (hY2.le (by omega)))
      rcases List.mem_or_eq_of_mem_set hb' with w | w
      · have := hbM b w; omega
      · rw [w]; omega
    · have eL : ∀ Y', f_p_Desk_leave c [.ref n, .int m] (Dk d y Y' S) = .ok .non (Dk d y Y' (dkS c S n a rs A (bookV c fs bs) (outN fs m fs.length) (delN bs m))) := fun Y' => by
        rw [dleave_eq (hD Y') (by omega) hb hm, dk]
      have eO := fun S : Store => hout_eq (c := c) (S := S) hb hm
      simp_arith [decide_eq_false q3, obj_desk (hD _).hn, w_meth, dlm_leave, eL, eO]
      refine wR_eq (gc_dk hn h) (hQ (_, _) Y2 ⟨bk_out hb hm, by rw [out_len hm]; omega, fun b hb' => ?_⟩ (hY2.le (by omega)))
      have : b ∈ bs := by
        rcases List.mem_append.mp hb' with w | w
        · exact List.mem_of_mem_take w
        · exact List.mem_of_mem_drop w
      have := hbM b this
      omega
end
end
section
section
variable {rs : List Rk} {n a l d y p r q k M : Nat} {S : Store} {A La : List Val} {Y : Dx} {H R : List Bo} {x : Bo}
theorem con_get {X : List Val} {v : Val} : (X ++ [v])[X.length + 1 - 1]? = some v := by simp
theorem ne_emp {X : List Val} {v : Val} : (X ++ [v]).isEmpty = false := by cases X <;> rfl
def Sms (M : Nat) (H : List Bo) (x : Bo) (R : List Bo) : Prop := (∀ z ∈ H, Sm M z) ∧ Sm M x ∧ ∀ z ∈ R, Sm M z
theorem Sms.le {M N : Nat} (h : Sms M H x R) (hn : M ≤ N) : Sms N H x R := ⟨fun z hz => (h.1 z hz).le hn, h.2.1.le hn, fun z hz => (h.2.2 z hz).le hn⟩
def lawS (S : Store) (p r q : Nat) (X1 X2 : Cell) (v : Val) : Store := ((S.set q X1).set r X2).set p (.dct (pileV r q v))
def lawR (S : Store) (p r q : Nat) (X1 X2 : Cell) (v : Val) : Store := ((S.set r X1).set q X2).set p (.dct (pileV r q v))
theorem Dsk_other3 {T : Store} {fs bs : List Int} (h : Dsk c S n a l rs fs bs A La) (h1 : T[n]? = S[n]?) (h2 : T[a]? = S[a]?) (h3 : T[l]? = S[l]?) : Dsk c T n a l rs fs bs A La :=
  ⟨by rw [h1]; exact h.hn, by rw [h2]; exact h.ha, by rw [h3]; exact h.hl, h.na, h.nl, h.al, h.ta, h.tl⟩
theorem lawS_get {j : Nat} {X1 X2 : Cell} {v : Val} (h1 : j ≠ p) (h2 : j ≠ r) (h3 : j ≠ q) : (lawS S p r q X1 X2 v)[j]? = S[j]? := by
  unfold lawS
  rw [List.getElem?_set_ne (Ne.symm h1), List.getElem?_set_ne (Ne.symm h2), List.getElem?_set_ne (Ne.symm h3)]
theorem lawR_get {j : Nat} {X1 X2 : Cell} {v : Val} (h1 : j ≠ p) (h2 : j ≠ r) (h3 : j ≠ q) : (lawR S p r q X1 X2 v)[j]? = S[j]? := by
  unfold lawR
  rw [List.getElem?_set_ne (Ne.symm h1), List.getElem?_set_ne (Ne.symm h3), List.getElem?_set_ne (Ne.symm h2)]
theorem lawS_len {X1 X2 : Cell} {v : Val} : (lawS S p r q X1 X2 v).length = S.length := by simp [lawS]
theorem lawR_len {X1 X2 : Cell} {v : Val} : (lawR S p r q X1 X2 v).length = S.length := by simp [lawR]
theorem lawS_Dk {X1 X2 : Cell} {v : Val} (hp : p ≠ d ∧ p ≠ y) (hr : r ≠ d ∧ r ≠ y) (hq : q ≠ d ∧ q ≠ y) : lawS (Dk d y Y S) p r q X1 X2 v = Dk d y Y (lawS S p r q X1 X2 v) := by
  unfold lawS
  rw [Dk_set hq.1 hq.2, Dk_set hr.1 hr.2, Dk_set hp.1 hp.2]
theorem lawR_Dk {X1 X2 : Cell} {v : Val} (hp : p ≠ d ∧ p ≠ y) (hr : r ≠ d ∧ r ≠ y) (hq : q ≠ d ∧ q ≠ y) : lawR (Dk d y Y S) p r q X1 X2 v = Dk d y Y (lawR S p r q X1 X2 v) := by
  unfold lawR
  rw [Dk_set hr.1 hr.2, Dk_set hq.1 hq.2, Dk_set hp.1 hp.2]
theorem St_lt (P : St c rs d y n a l p r q H x R S) : n < S.length ∧ a < S.length ∧ l < S.length ∧ p < S.length ∧ r < S.length ∧ q < S.length := by
  obtain ⟨h1, h2, h3⟩ := P.k.ln
  exact ⟨h1, h2, h3, (List.getElem?_eq_some_iff.mp P.cp).1, (List.getElem?_eq_some_iff.mp P.cr).1, (List.getElem?_eq_some_iff.mp P.cq).1⟩
theorem St_undo {z : Bo} (P : St c rs d y n a l p r q (H ++ [z]) x R S) : St c rs d y n a l p r q H z (R ++ [x]) (udS c (lawS S p r q (.lst ((R ++ [x]).map en)) (.lst (H.map en)) (en z)) n a l rs (H.map (bk c)) (R.map (bk c) ++ [bookV c x.1 x.2]) z.1 z.2) := by
  have ne := P.nx
  obtain ⟨l1, l2, l3, l4, l5, l6⟩ := (St_lt P)
  have D : Dsk c (lawS S p r q (.lst ((R ++ [x]).map en)) (.lst (H.map en)) (en z)) n a l rs x.1 x.2 ((H ++ [z]).map (bk c)) (R.map (bk c)) :=
    Dsk_other3 P.k (lawS_get ne.np ne.nr ne.nq) (lawS_get ne.ap ne.ar ne.aq) (lawS_get ne.lp ne.lr ne.lq)
  have e1 : R.map (bk c) ++ [bookV c x.1 x.2] = (R ++ [x]).map (bk c) := by rw [List.map_append]; rfl
  rw [e1]
  refine ⟨P.i.len (by rw [udS_len, lawS_len]), D.ud (trees_bk _) (trees_bk _), ?_, ?_, ?_, P.nx⟩
  · rw [udS_get ne.np.symm ne.ap.symm ne.lp.symm]
    unfold lawS
    rw [List.getElem?_set_self (by simpa using l4)]
  · rw [udS_get ne.nr.symm ne.ar.symm ne.lr.symm]
    unfold lawS
    rw [List.getElem?_set_ne ne.pr, List.getElem?_set_self (by simpa using l5)]
  · rw [udS_get ne.nq.symm ne.aq.symm ne.lq.symm]
    unfold lawS
    rw [List.getElem?_set_ne ne.pq, List.getElem?_set_ne ne.rq, List.getElem?_set_self l6]
theorem St_redo {z : Bo} (P : St c rs d y n a l p r q H x (R ++ [z]) S) : St c rs d y n a l p r q (H ++ [x]) z R (rdS c (lawR S p r q (.lst ((H ++ [x]).map en)) (.lst (R.map en)) (en z)) n a l rs (H.map (bk c) ++ [bookV c x.1 x.2]) (R.map (bk c)) z.1 z.2) := by
  have ne := P.nx
  obtain ⟨l1, l2, l3, l4, l5, l6⟩ := (St_lt P)
  have D : Dsk c (lawR S p r q (.lst ((H ++ [x]).map en)) (.lst (R.map en)) (en z)) n a l rs x.1 x.2 (H.map (bk c)) ((R ++ [z]).map (bk c)) :=
    Dsk_other3 P.k (lawR_get ne.np ne.nr ne.nq) (lawR_get ne.ap ne.ar ne.aq) (lawR_get ne.lp ne.lr ne.lq)
  have e1 : H.map (bk c) ++ [bookV c x.1 x.2] = (H ++ [x]).map (bk c) := by rw [List.map_append]; rfl
  rw [e1]
  refine ⟨P.i.len (by rw [rdS_len, lawR_len]), D.rd (trees_bk _) (trees_bk _), ?_, ?_, ?_, P.nx⟩
  · rw [rdS_get ne.np.symm ne.ap.symm ne.lp.symm]
    unfold lawR
    rw [List.getElem?_set_self (by simpa using l4)]
  · rw [rdS_get ne.nr.symm ne.ar.symm ne.lr.symm]
    unfold lawR
    rw [List.getElem?_set_ne ne.pr, List.getElem?_set_ne ne.rq.symm, List.getElem?_set_self l5]
  · rw [rdS_get ne.nq.symm ne.aq.symm ne.lq.symm]
    unfold lawR
    rw [List.getElem?_set_ne ne.pq, List.getElem?_set_self (by simpa using l6)]
def nxS (c : Cl) (S : Store) (n a p r : Nat) (rs : List Rk) (A : List Val) (x z : Bo) (H : List Bo) : Store :=
  ((((dkS c S n a rs A (bookV c x.1 x.2) z.1 z.2).set r (.lst ((H ++ [x]).map en))) ++ [Cell.lst []]).set p (.dct (pileV r (S.length + 1) (en z))))
theorem nxS_n {z : Bo} (P : St c rs d y n a l p r q H x R S) : (nxS c S n a p r rs (H.map (bk c)) x z H)[n]? = some (deskC c rs z.1 z.2 a S.length) := by
  have ne := P.nx
  obtain ⟨l1, l2, l3, l4, l5, l6⟩ := (St_lt P)
  unfold nxS
  rw [List.getElem?_set_ne ne.np.symm, List.getElem?_append_left (by simp [dkS_len]; omega), List.getElem?_set_ne ne.nr.symm, dkS_n l1]
theorem St_next {z : Bo} (P : St c rs d y n a l p r q H x R S) : St c rs d y n a S.length p r (S.length + 1) (H ++ [x]) z [] (nxS c S n a p r rs (H.map (bk c)) x z H) := by
  have ne := P.nx
  have lt := (St_lt P)
  obtain ⟨l1, l2, l3, l4, l5, l6⟩ := lt
  have i1 := P.i.d
  have i2 := P.i.c
  have b1 : S.length ≠ d ∧ S.length ≠ y := ⟨by omega, by omega⟩
  have b2 : S.length + 1 ≠ d ∧ S.length + 1 ≠ y := ⟨by omega, by omega⟩
  have D := P.k.next (gs := z.1) (cs := z.2)
  have g : ∀ j, j < S.length + 1 → j ≠ p → j ≠ r → (nxS c S n a p r rs (H.map (bk c)) x z H)[j]? = (dkS c S n a rs (H.map (bk c)) (bookV c x.1 x.2) z.1 z.2)[j]? := fun j h1 h2 h3 => by
    unfold nxS
    rw [List.getElem?_set_ne (Ne.symm h2), List.getElem?_append_left (by simp [dkS_len]; omega), List.getElem?_set_ne (Ne.symm h3)]
  have e1 : H.map (bk c) ++ [bookV c x.1 x.2] = (H ++ [x]).map (bk c) := by rw [List.map_append]; rfl
  rw [e1] at D
  have hl : (nxS c S n a p r rs (H.map (bk c)) x z H).length = S.length + 2 := by unfold nxS; simp [dkS_len]
  refine ⟨?_, Dsk_other3 D (g n (by omega) ne.np ne.nr) (g a (by omega) ne.ap ne.ar) (g S.length (by omega) (Nat.ne_of_gt l4) (Nat.ne_of_gt l5)), ?_, ?_, ?_, ?_⟩
  · exact ⟨P.i.ne, by omega, by omega⟩
  · unfold nxS
    rw [List.getElem?_set_self (by simp [dkS_len]; omega)]
  · unfold nxS
    rw [List.getElem?_set_ne ne.pr, List.getElem?_append_left (by simp [dkS_len]; omega), List.getElem?_set_self (by simp [dkS_len]; omega)]
  · unfold nxS
    rw [List.getElem?_set_ne (by omega), List.getElem?_append_right (by simp [dkS_len])]
    simp [dkS_len]
  · exact ⟨ne.nn, ne.an, b1, ne.pn, ne.rn, b2, ne.np, ne.nr, by omega, ne.ap, ne.ar, by omega, by omega, by omega, by omega, ne.pr, by omega, by omega⟩
def Els (n a l p r q : Nat) (S S' : Store) : Prop := S.length ≤ S'.length ∧ ∀ j, j < S.length → j ≠ n → j ≠ a → j ≠ l → j ≠ p → j ≠ r → j ≠ q → S'[j]? = S[j]?
theorem els_ud {X1 X2 : Cell} {v : Val} {A' La' : List Val} {gs cs : List Int} : Els n a l p r q S (udS c (lawS S p r q X1 X2 v) n a l rs A' La' gs cs) :=
  ⟨by rw [udS_len, lawS_len]; exact Nat.le_refl _, fun j _ h1 h2 h3 h4 h5 h6 => by rw [udS_get h1 h2 h3, lawS_get h4 h5 h6]⟩
theorem els_rd {X1 X2 : Cell} {v : Val} {A' La' : List Val} {gs cs : List Int} : Els n a l p r q S (rdS c (lawR S p r q X1 X2 v) n a l rs A' La' gs cs) :=
  ⟨by rw [rdS_len, lawR_len]; exact Nat.le_refl _, fun j _ h1 h2 h3 h4 h5 h6 => by rw [rdS_get h1 h2 h3, lawR_get h4 h5 h6]⟩
theorem els_nx {z : Bo} : Els n a l p r q S (nxS c S n a p r rs A x z H) := by
  refine ⟨by unfold nxS; simp [dkS_len]; omega, fun j h0 h1 h2 h3 h4 h5 h6 => ?_⟩
  unfold nxS
  rw [List.getElem?_set_ne (Ne.symm h4), List.getElem?_append_left (by simp [dkS_len]; omega), List.getElem?_set_ne (Ne.symm h5), dkS_get h1 h2 h0]
theorem deed_w {Q : Val → Store → Prop} {X : Exc → Store → Prop} (hY : Y.Ok k) (hk : 20 ≤ k) (P : St c rs d y n a l p r q H x R S) (hr : Kt 3 3 rs) (hsz : H.length + R.length ≤ 900) (hM : M ≤ 99) (hs : Sms M H x R)
    (hQ : ∀ l' q' H' x' R' S' Y', St c rs d y n a l' p r q' H' x' R' S' → (l' = l ∨ S.length ≤ l') → (q' = q ∨ S.length ≤ q') → Els n a l p r q S S' → Sms (M + 1) H' x' R' → H'.length + R'.length ≤ H.length + R.length + 1 → Y'.Ok (k - 20) → Q (.bl true) (Dk d y Y' S')) :
    wR Q X (f_w_deed_right c [.ref d, .ref n, .int (rs.headD default).le, .ref p] (Dk d y Y S)) := by
  have ne := P.nx
  have hI := P.i
  unfold f_w_deed_right
  generalize hbb : b_w_deed_right c = bb
  refine wR_fnE (by rfl) ?_
  show wS _ _ _ (bb [some (.ref d), some (.ref n), some (.int (rs.headD default).le), some (.ref p), none, none, none] _)
  subst hbb
  unfold b_w_deed_right
  simp_arith
  rename_i u Y1 u0 u1 h1
  have kD : Dsk c (Dk d y Y1 S) n a l rs x.1 x.2 (H.map (bk c)) (R.map (bk c)) := P.k.dk ne.nn ne.an ne.ln
  have gp : (Dk d y Y1 S)[p]? = some (.dct (pileV r q (en x))) := by rw [Dk_get ne.pn.1 ne.pn.2]; exact P.cp
  have gr : (Dk d y Y1 S)[r]? = some (.lst (H.map en)) := by rw [Dk_get ne.rn.1 ne.rn.2]; exact P.cr
  have gq : (Dk d y Y1 S)[q]? = some (.lst (R.map en)) := by rw [Dk_get ne.qn.1 ne.qn.2]; exact P.cq
  have z1 : ∀ X : List Bo, X.length ≤ 1000 → (X.map en).length < 16777216 := fun X h => by rw [List.length_map]; omega
  by_cases q1 : u < 2
  · rcases List.eq_nil_or_concat H with rfl | ⟨H0, z, rfl⟩
    · have e := heard_undo_no (c := c) kD
      simp_arith [decide_eq_true q1, sub_pa gp, gr, List.map_nil, e]
      exact wR_gcD0 hI rfl (hQ _ _ _ _ _ _ _ P (.inl rfl) (.inl rfl) ⟨Nat.le_refl _, fun _ _ _ _ _ _ _ _ => rfl⟩ (hs.le (by omega)) (by omega) (h1.le (by omega)))
    · rw [List.concat_eq_append] at *
      have w1 : ∀ X1, ((Dk d y Y1 S).set q X1)[p]? = some (.dct (pileV r q (en x))) := fun X1 => by rw [List.getElem?_set_ne ne.pq.symm]; exact gp
      have w2 : ∀ X1, ((Dk d y Y1 S).set q X1)[r]? = some (.lst (H0.map en ++ [en z])) := fun X1 => by rw [List.getElem?_set_ne ne.rq.symm, gr, List.map_append]; rfl
      have w3 : ∀ X1 X2, (((Dk d y Y1 S).set q X1).set r X2)[p]? = some (.dct (pileV r q (en x))) := fun X1 X2 => by rw [List.getElem?_set_ne ne.pr.symm]; exact w1 X1
      have D2 : Dsk c (lawS (Dk d y Y1 S) p r q (.lst ((R ++ [x]).map en)) (.lst (H0.map en)) (en z)) n a l rs x.1 x.2 (H0.map (bk c) ++ [bookV c z.1 z.2]) (R.map (bk c)) := by
        have := Dsk_other3 kD (T := lawS (Dk d y Y1 S) p r q (.lst ((R ++ [x]).map en)) (.lst (H0.map en)) (en z)) (lawS_get ne.np ne.nr ne.nq) (lawS_get ne.ap ne.ar ne.aq) (lawS_get ne.lp ne.lr ne.lq)
        rw [List.map_append (f := bk c) (l₁ := H0)] at this
        exact this
      have e := heard_undo (c := c) D2 (by simp at hsz ⊢; omega)
      have ee : (Dk d y Y1 S).set q (.lst (R.map en ++ [en x])) = (Dk d y Y1 S).set q (.lst ((R ++ [x]).map en)) := by rw [List.map_append]; rfl
      have gr' : (Dk d y Y1 S)[r]? = some (.lst (H0.map en ++ [en z])) := by rw [gr, List.map_append]; rfl
      have el : lawS (Dk d y Y1 S) p r q (.lst ((R ++ [x]).map en)) (.lst (H0.map en)) (en z) = (((Dk d y Y1 S).set q (.lst ((R ++ [x]).map en))).set r (.lst (H0.map en))).set p (.dct (pileV r q (en z))) := rfl
      have zR := z1 R (by simp at hsz; omega)
      have e' := e
      rw [el] at e'
      simp_arith [decide_eq_true q1, sub_pa gp, gr', ne_emp, sub_pl gp, sub_pn gp, gq, zR, ee, sub_pa (w1 _), w2, con_get, List.dropLast_concat, w3, pp_n, pv_len, e']
      rw [← el, lawS_Dk ne.pn ne.rn ne.qn, udS_Dk ne.nn ne.an ne.ln]
      refine wR_eq (gc_same rfl (by rw [Dk_len, Dk_len, udS_len, lawS_len])) (hQ _ _ _ _ _ _ _ (St_undo P) (.inl rfl) (.inl rfl) els_ud ?_ (by simp; omega) (h1.le (by omega)))
      refine Sms.le (M := M) ⟨fun w hw => hs.1 w (by simp [hw]), hs.1 z (by simp), fun w hw => ?_⟩ (by omega)
      rcases List.mem_append.mp hw with t | t
      · exact hs.2.2 w t
      · rw [List.mem_singleton.mp t]; exact hs.2.1
  · by_cases q2 : u = 2
    · rcases List.eq_nil_or_concat R with rfl | ⟨R0, z, rfl⟩
      · have e := heard_redo_no (c := c) kD
        simp_arith [decide_eq_false q1, decide_eq_true q2, sub_pl gp, gq, List.map_nil, e]
        exact wR_gcD0 hI rfl (hQ _ _ _ _ _ _ _ P (.inl rfl) (.inl rfl) ⟨Nat.le_refl _, fun _ _ _ _ _ _ _ _ => rfl⟩ (hs.le (by omega)) (by omega) (h1.le (by omega)))
      · rw [List.concat_eq_append] at *
        have w1 : ∀ X1, ((Dk d y Y1 S).set r X1)[p]? = some (.dct (pileV r q (en x))) := fun X1 => by rw [List.getElem?_set_ne ne.pr.symm]; exact gp
        have w2 : ∀ X1, ((Dk d y Y1 S).set r X1)[q]? = some (.lst (R0.map en ++ [en z])) := fun X1 => by rw [List.getElem?_set_ne ne.rq, gq, List.map_append]; rfl
        have w3 : ∀ X1 X2, (((Dk d y Y1 S).set r X1).set q X2)[p]? = some (.dct (pileV r q (en x))) := fun X1 X2 => by rw [List.getElem?_set_ne ne.pq.symm]; exact w1 X1
        have D2 : Dsk c (lawR (Dk d y Y1 S) p r q (.lst ((H ++ [x]).map en)) (.lst (R0.map en)) (en z)) n a l rs x.1 x.2 (H.map (bk c)) (R0.map (bk c) ++ [bookV c z.1 z.2]) := by
          have := Dsk_other3 kD (T := lawR (Dk d y Y1 S) p r q (.lst ((H ++ [x]).map en)) (.lst (R0.map en)) (en z)) (lawR_get ne.np ne.nr ne.nq) (lawR_get ne.ap ne.ar ne.aq) (lawR_get ne.lp ne.lr ne.lq)
          rw [List.map_append (f := bk c) (l₁ := R0)] at this
          exact this
        have e := heard_redo (c := c) D2 (by simp at hsz ⊢; omega)
        have ee : (Dk d y Y1 S).set r (.lst (H.map en ++ [en x])) = (Dk d y Y1 S).set r (.lst ((H ++ [x]).map en)) := by rw [List.map_append]; rfl
        have gq' : (Dk d y Y1 S)[q]? = some (.lst (R0.map en ++ [en z])) := by rw [gq, List.map_append]; rfl
        have el : lawR (Dk d y Y1 S) p r q (.lst ((H ++ [x]).map en)) (.lst (R0.map en)) (en z) = (((Dk d y Y1 S).set r (.lst ((H ++ [x]).map en))).set q (.lst (R0.map en))).set p (.dct (pileV r q (en z))) := rfl
        have zH := z1 H (by simp at hsz; omega)
        have e' := e
        rw [el] at e'
        simp_arith [decide_eq_false q1, decide_eq_true q2, sub_pl gp, gq', ne_emp, sub_pa gp, sub_pn gp, gr, zH, ee, sub_pl (w1 _), w2, con_get, List.dropLast_concat, w3, pp_n, pv_len, e']
        rw [← el, lawR_Dk ne.pn ne.rn ne.qn, rdS_Dk ne.nn ne.an ne.ln]
        refine wR_eq (gc_same rfl (by rw [Dk_len, Dk_len, rdS_len, lawR_len])) (hQ _ _ _ _ _ _ _ (St_redo P) (.inl rfl) (.inl rfl) els_rd ?_ (by simp; omega) (h1.le (by omega)))
        refine Sms.le (M := M) ⟨fun w hw => ?_, hs.2.2 z (by simp), fun w hw => hs.2.2 w (by simp [hw])⟩ (by omega)
        rcases List.mem_append.mp hw with t | t
        · exact hs.1 w t
        · rw [List.mem_singleton.mp t]; exact hs.2.1
    · simp_arith [decide_eq_false q1, decide_eq_false q2, sub_pn gp]
      refine change_w h1 (by omega) hI P.k ne.nn ne.an ne.ln (by simp; omega) hr M hM hs.2.1 fun z Y2 hz h2 => ?_
      obtain ⟨l1, l2, l3, l4, l5, l6⟩ := (St_lt P)
      have v1 : (Dk d y Y2 (dkS c S n a rs (H.map (bk c)) (bookV c x.1 x.2) z.1 z.2))[p]? = some (.dct (pileV r q (en x))) := by rw [Dk_get ne.pn.1 ne.pn.2, dkS_get ne.np.symm ne.ap.symm l4]; exact P.cp
      have v2 : (Dk d y Y2 (dkS c S n a rs (H.map (bk c)) (bookV c x.1 x.2) z.1 z.2))[r]? = some (.lst (H.map en)) := by rw [Dk_get ne.rn.1 ne.rn.2, dkS_get ne.nr.symm ne.ar.symm l5]; exact P.cr
      have v3 : ∀ X1, (Dk d y Y2 (dkS c S n a rs (H.map (bk c)) (bookV c x.1 x.2) z.1 z.2)).set r X1 = Dk d y Y2 ((dkS c S n a rs (H.map (bk c)) (bookV c x.1 x.2) z.1 z.2).set r X1) := fun X1 => Dk_set ne.rn.1 ne.rn.2
      have ee : ((dkS c S n a rs (H.map (bk c)) (bookV c x.1 x.2) z.1 z.2).set r (.lst (H.map en ++ [en x]))) = ((dkS c S n a rs (H.map (bk c)) (bookV c x.1 x.2) z.1 z.2).set r (.lst ((H ++ [x]).map en))) := by rw [List.map_append]; rfl
      have hI2 : In d y ((dkS c S n a rs (H.map (bk c)) (bookV c x.1 x.2) z.1 z.2).set r (.lst ((H ++ [x]).map en))) := ⟨hI.ne, by have := hI.d; simp [dkS_len]; omega, by have := hI.c; simp [dkS_len]; omega⟩
      have v4 : (Dk d y Y2 ((dkS c S n a rs (H.map (bk c)) (bookV c x.1 x.2) z.1 z.2).set r (.lst ((H ++ [x]).map en)) ++ [Cell.lst []]))[p]? = some (.dct (pileV r q (en x))) := by
        rw [Dk_get ne.pn.1 ne.pn.2, List.getElem?_append_left (by simp [dkS_len]; omega), List.getElem?_set_ne ne.pr.symm, dkS_get ne.np.symm ne.ap.symm l4]; exact P.cp
      have v5 : ∀ X1, (Dk d y Y2 ((dkS c S n a rs (H.map (bk c)) (bookV c x.1 x.2) z.1 z.2).set r (.lst ((H ++ [x]).map en)) ++ [Cell.lst []])).set p X1 = Dk d y Y2 (((dkS c S n a rs (H.map (bk c)) (bookV c x.1 x.2) z.1 z.2).set r (.lst ((H ++ [x]).map en)) ++ [Cell.lst []]).set p X1) := fun X1 => Dk_set ne.pn.1 ne.pn.2
      have v6 : ∀ X1, (Dk d y Y2 (((dkS c S n a rs (H.map (bk c)) (bookV c x.1 x.2) z.1 z.2).set r (.lst ((H ++ [x]).map en)) ++ [Cell.lst []]).set p (.dct X1)))[p]? = some (.dct X1) := fun X1 => by
        rw [Dk_get ne.pn.1 ne.pn.2, List.getElem?_set_self (by simp [dkS_len]; omega)]
      have v7 : ∀ X1 X2, (Dk d y Y2 (((dkS c S n a rs (H.map (bk c)) (bookV c x.1 x.2) z.1 z.2).set r (.lst ((H ++ [x]).map en)) ++ [Cell.lst []]).set p X1)).set p X2 = Dk d y Y2 (((dkS c S n a rs (H.map (bk c)) (bookV c x.1 x.2) z.1 z.2).set r (.lst ((H ++ [x]).map en)) ++ [Cell.lst []]).set p X2) := fun X1 X2 => by
        rw [Dk_set ne.pn.1 ne.pn.2, List.set_set]
      have zH := z1 H (by omega)
      have hL : ((dkS c S n a rs (H.map (bk c)) (bookV c x.1 x.2) z.1 z.2).set r (.lst ((H ++ [x]).map en))).length = S.length + 1 := by simp [dkS_len]
      simp_arith [sub_pa v1, sub_pn v1, v2, zH, v3, ee, hI2, v4, v5, pp_n, pp_l, pv_len, v6, v7, hL]
      refine wR_eq (gc_new (gs := z.1) (cs := z.2) ne.nn P.k (nxS_n P)) (hQ _ _ _ _ _ _ _ (St_next (z := z) P) (.inr (Nat.le_refl _)) (.inr (by omega)) els_nx ⟨fun w hw => ?_, hz, fun w hw => by cases hw⟩ (by simp) (h2.le (by omega)))
      rcases List.mem_append.mp hw with t | t
      · exact (hs.1 w t).le (by omega)
      · rw [List.mem_singleton.mp t]; exact hs.2.1.le (by omega)
end
end
section
section
variable {rs : List Rk} {F : List Bo} {d y n a l j : Nat} {S : Store} {Y : Dx}
structure At (c : Cl) (rs : List Rk) (F : List Bo) (d y n a l : Nat) (j : Nat) (S : Store) : Prop where
  i : In d y S
  k : Dsk c S n a l rs (F.getD j default).1 (F.getD j default).2 ((F.take j).map (bk c)) (((F.drop (j + 1)).reverse).map (bk c))
def Ne5 (d y n a l : Nat) : Prop := n ≠ d ∧ n ≠ y ∧ a ≠ d ∧ a ≠ y ∧ l ≠ d ∧ l ≠ y
theorem take_snoc (h : j < F.length) : F.take (j + 1) = F.take j ++ [F.getD j default] := by
  rw [List.take_succ_eq_append_getElem h, List.getD_eq_getElem?_getD, List.getElem?_eq_getElem h]; rfl
theorem drop_rev (h : j < F.length) : (F.drop j).reverse = (F.drop (j + 1)).reverse ++ [F.getD j default] := by
  rw [List.drop_eq_getElem_cons h, List.reverse_cons, List.getD_eq_getElem?_getD, List.getElem?_eq_getElem h]; rfl
theorem at_undo (P : Ne5 d y n a l) (h : At c rs F d y n a l (j + 1) S) (hj : j + 1 < F.length) (hF : F.length ≤ 1000) : ∃ S', (∀ Y : Dx, f_w_heard c [.ref n, .str "undo"] (Dk d y Y S) = .ok (.str "None") (Dk d y Y S')) ∧ (∀ Y : Dx, f_p_Desk_undo c [.ref n] (Dk d y Y S) = .ok .non (Dk d y Y S')) ∧ At c rs F d y n a l j S' ∧ Els n a l l l l S S' := by
  unfold Ne5 at P
  have hk := h.k
  rw [take_snoc (by omega), List.map_append, List.map_cons, List.map_nil] at hk
  have e1 : ((F.drop (j + 1)).reverse).map (bk c) = ((F.drop (j + 1 + 1)).reverse).map (bk c) ++ [bookV c (F.getD (j + 1) default).1 (F.getD (j + 1) default).2] := by
    rw [drop_rev (j := j + 1) hj, List.map_append]; rfl
  refine ⟨udS c S n a l rs ((F.take j).map (bk c)) (((F.drop (j + 1)).reverse).map (bk c)) (F.getD j default).1 (F.getD j default).2, fun Y => ?_, fun Y => ?_, ⟨h.i.len udS_len, hk.ud (trees_bk _) (trees_bk _)⟩, by rw [udS_len]; exact Nat.le_refl _, fun j _ h1 h2 h3 _ _ _ => udS_get h1 h2 h3⟩
  · rw [heard_undo (hk.dk (by omega) (by omega) (by omega)) (by simp; omega), ← e1, udS_Dk (by omega) (by omega) (by omega)]
  · rw [undo_eq (hk.dk (by omega) (by omega) (by omega)) (by simp; omega), ← e1, udS_Dk (by omega) (by omega) (by omega)]
theorem at_redo (P : Ne5 d y n a l) (h : At c rs F d y n a l j S) (hj : j + 1 < F.length) (hF : F.length ≤ 1000) : ∃ S', (∀ Y : Dx, f_w_heard c [.ref n, .str "redo"] (Dk d y Y S) = .ok (.str "None") (Dk d y Y S')) ∧ (∀ Y : Dx, f_p_Desk_redo c [.ref n] (Dk d y Y S) = .ok .non (Dk d y Y S')) ∧ At c rs F d y n a l (j + 1) S' ∧ Els n a l l l l S S' := by
  unfold Ne5 at P
  have hk := h.k
  rw [drop_rev (j := j + 1) hj, List.map_append, List.map_cons, List.map_nil] at hk
  have e1 : (F.take (j + 1)).map (bk c) = (F.take j).map (bk c) ++ [bookV c (F.getD j default).1 (F.getD j default).2] := by
    rw [take_snoc (j := j) (by omega), List.map_append]; rfl
  refine ⟨rdS c S n a l rs ((F.take (j + 1)).map (bk c)) (((F.drop (j + 1 + 1)).reverse).map (bk c)) (F.getD (j + 1) default).1 (F.getD (j + 1) default).2, fun Y => ?_, fun Y => ?_, ⟨h.i.len rdS_len, hk.rd (trees_bk _) (trees_bk _)⟩, by rw [rdS_len]; exact Nat.le_refl _, fun j _ h1 h2 h3 _ _ _ => rdS_get h1 h2 h3⟩
  · rw [heard_redo (hk.dk (by omega) (by omega) (by omega)) (by simp; omega), ← e1, rdS_Dk (by omega) (by omega) (by omega)]
  · rw [redo_eq (hk.dk (by omega) (by omega) (by omega)) (by simp; omega), ← e1, rdS_Dk (by omega) (by omega) (by omega)]
theorem at_is (P : Ne5 d y n a l) (h : At c rs F d y n a l j S) (hj : j < F.length) (hF : F.length ≤ 1000) (hs : ∀ z ∈ F, Sm 99 z) : ∀ Y : Dx, f_w_is_as c [.ref n, en (F.getD j default), .lst ((F.map en).take j)] (Dk d y Y S) = .ok (.bl true) (Dk d y Y S) := fun Y => by
  unfold Ne5 at P
  have hm : F.getD j default ∈ F := by rw [List.getD_eq_getElem?_getD, List.getElem?_eq_getElem hj]; exact List.getElem_mem _
  refine isas_eq (h.k.dk (by omega) (by omega) (by omega)) (by simp; omega) (hs _ hm) (by omega) ?_
  rw [len_lst]; simp
theorem nn0 {S : Store} : oNe (.str "None") (.str "None") S = .ok (.bl false) S := by
  simp only [oNe, pyEq]; rfl
theorem enum_en {X : List Val} {i : Nat} {x : Val} (h : (enumV 0 X)[i]? = some x) : ∃ v, X[i]? = some v ∧ x = .tup [.int i, v] := by
  unfold enumV at h
  rw [List.getElem?_map, List.getElem?_zipIdx] at h
  cases e : X[i]? with
  | none => rw [e] at h; cases h
  | some v => rw [e] at h; simp at h; exact ⟨v, rfl, h.symm⟩
theorem enum_len2 {X : List Val} : (enumV 0 X).length = X.length := by simp [enumV]
theorem app_of {S T : Store} (hl : S.length ≤ T.length) (h : ∀ j, j < S.length → T[j]? = S[j]?) : T = S ++ T.drop S.length := by
  refine List.ext_getElem? fun i => ?_
  by_cases q : i < S.length
  · rw [List.getElem?_append_left q, h i q]
  · rw [List.getElem?_append_right (by omega), List.getElem?_drop]
    congr 1
    omega
end
theorem wS_cut {a b : SS} {L : Loc} {S : Store} {N N' : Loc → Store → Prop} {T : Val → Store → Prop} {X : Exc → Store → Prop} (h : wS N' T X (a L S)) (h2 : ∀ L1 S1, N' L1 S1 → wS N T X (b L1 S1)) : wS N T X (sSeq a b L S) := by
  rw [w_seq]
  exact wS_mono h h2 fun _ _ h => h
theorem kit_r0 {rs : List Rk} {S : Store} (h : rs ≠ []) : oSub2 (kitV rs) (.int 0) S = .ok (rkV (rs.headD default)) S := kit_fst h
theorem desk_mkD {d y : Nat} {Y : Dx} {S : Store} {rs : List Rk} (hI : In d y S) : mkX c.Desk (f_p_Desk___init__ c) 0 [ruleV c rs] (Dk d y Y S) = .ok (.ref S.length) (Dk d y Y (S ++ [deskC c rs [] [] (S.length + 1) (S.length + 2), .lst [], .lst []])) := by
  rw [desk_mk, Dk_len, Dk_app hI]
theorem b0 : Bk [] [] := ⟨⟨by decide, fun i x h => by simp at h⟩, rfl, fun b h => by simp at h⟩
theorem cut_init {α : Type} {xs : List α} (h : xs ≠ []) : cutL xs none (some (-1)) = xs.dropLast := by
  have hl : 0 < xs.length := List.length_pos_iff.mpr h
  unfold cutL HT.sIx
  simp only [List.drop_zero, Nat.sub_zero]
  rw [List.dropLast_eq_take]
  congr 1
  simp
  omega
theorem last_eq {F : List Bo} {S : Store} (h : 0 < F.length) : oIdx (.lst (F.map en)) (.int (-1)) S = .ok (en (F.getD (F.length - 1) default)) S := by
  rw [idxL]
  have e : L2.atI (F.map en) (-1) = some (en (F.getD (F.length - 1) default)) := by
    unfold L2.atI L2.ixN
    rw [if_neg (by decide), if_pos (by rw [List.length_map]; omega)]
    simp only [Option.bind_some]
    rw [List.length_map, show ((-1 : Int) + (F.length : Nat)).toNat = F.length - 1 by omega, List.getElem?_map, List.getElem?_eq_getElem (by omega), List.getD_eq_getElem?_getD, List.getElem?_eq_getElem (by omega)]
    rfl
  rw [e]
theorem right_w {d y k cnt : Nat} {Y : Dx} {S : Store} {Q : Val → Store → Prop} {X : Exc → Store → Prop} (hY : Y.Ok k) (hk : 2000 ≤ k) (hI : In d y S) (hc : cnt ≤ 40)
    (hQ : ∀ Y', Y'.Ok (k - 2000) → Q (.bl true) (Dk d y Y' S)) : wR Q X (f_w_right c [.ref d, .int cnt] (Dk d y Y S)) := by
  unfold f_w_right
  generalize hbb : b_w_right c = bb
  refine wR_fnE (by rfl) ?_
  show wS _ _ _ (bb [some (.ref d), some (.int cnt), none, none, none, none, none, none, none, none] _)
  subst hbb
  unfold b_w_right
  simp_arith
  refine lines_w hY (by omega) hI fun rs Y1 hr h1 => ?_
  have hd1 := hI.d
  have hd2 := hI.c
  have hdy := hI.ne
  have eH0 : (.dct [(kh, .lst []), (ko, .lst [])] : Val) = en ([], []) := by rw [en, enH_def]; rfl
  have St0 : St c rs d y S.length (S.length + 1) (S.length + 2) (S.length + 5) (S.length + 3) (S.length + 4) [] ([], []) [] (S ++ [deskC c rs [] [] (S.length + 1) (S.length + 2), .lst [], .lst [], .lst [], .lst [], .dct (pileV (S.length + 3) (S.length + 4) (en ([], [])))]) :=
    ⟨hI.app, ⟨by simp, by simp, by simp, by omega, by omega, by omega, rfl, rfl⟩, by simp, by simp, by simp, ⟨by omega, by omega, by omega, by omega, by omega, by omega, by omega, by omega, by omega, by omega, by omega, by omega, by omega, by omega, by omega, by omega, by omega, by omega⟩⟩
  simp_arith [kit_mk hr.ok, desk_mkD hI, hI, mgH, eH0, pile_mg2, ← pile_def, pv_len]
  have hct : ((cnt : Nat) : Int).toNat = cnt := by omega
  rw [hct]
  refine wS_for (fun i L S1 => ∃ (l q : Nat) (H R : List Bo) (x : Bo) (S2 : Store) (l5 : Option Val) (Y2 : Dx), L = [some (.ref d), some (.int cnt), some (kitV rs), some (.ref S.length), some (.ref (S.length + 5)), l5, none, none, none, none] ∧ S1 = Dk d y Y2 S2 ∧
      St c rs d y S.length (S.length + 1) l (S.length + 5) (S.length + 3) q H x R S2 ∧ Sms i H x R ∧ H.length + R.length ≤ i ∧ S.length ≤ l ∧ S.length ≤ q ∧ S.length ≤ S2.length ∧ (∀ j, j < S.length → S2[j]? = S[j]?) ∧ Y2.Ok (k - 100 - 20 * i)) ?_ ?_ ?_ ?_
  · exact ⟨S.length + 2, S.length + 4, [], [], ([], []), _, none, Y1, rfl, rfl, St0, ⟨fun z h => by simp at h, ⟨b0, by simp, by simp⟩, fun z h => by simp at h⟩, by simp, by omega, by omega, by simp, fun j hj => List.getElem?_append_left hj, h1⟩
  · intros; rfl
  · rintro i x _ _ hx hi ⟨l, q, H, R, x0, S2, l5, Y2, rfl, rfl, P, hs, hsz, hl, hq, hS, hel, h2⟩
    obtain ⟨rfl, hi2⟩ := range_at hx
    have hi3 : i < 40 := by omega
    simp_arith [kit_r0 hr.ok.ne, sub_le]
    refine deed_w h2 (by omega) P hr (by omega) (by omega) hs fun l' q' H' x' R' S' Y3 P' hl' hq' he hs' hsz' h3 => ?_
    have kD : Dsk c (Dk d y Y3 S') S.length (S.length + 1) l' rs x'.1 x'.2 (H'.map (bk c)) (R'.map (bk c)) := P'.k.dk P'.nx.nn P'.nx.an P'.nx.ln
    have gp : (Dk d y Y3 S')[S.length + 5]? = some (.dct (pileV (S.length + 3) q' (en x'))) := by rw [Dk_get P'.nx.pn.1 P'.nx.pn.2]; exact P'.cp
    have gr : (Dk d y Y3 S')[S.length + 3]? = some (.lst (H'.map en)) := by rw [Dk_get P'.nx.rn.1 P'.nx.rn.2]; exact P'.cr
    have e1 := isas_eq (v := .ref (S.length + 3)) kD (by simp; omega) hs'.2.1 (by omega) (by
      simp only [len_ref, gr, List.length_map])
    simp_arith [sub_pn gp, sub_pa gp, e1]
    refine hold ⟨l', q', H', R', x', S', _, Y3, rfl, rfl, P', hs', by omega, by omega, by omega, by have := he.1; omega, fun j hj => ?_, h3.le (by omega)⟩
    rw [he.2 j (by omega) (by omega) (by omega) (by omega) (by omega) (by omega) (by omega), hel j hj]
  · rintro _ _ ⟨l, q, H, R, x, S2, l5, Y2, rfl, rfl, P, hs, hsz, hl, hq, hS, hel, h2⟩
    rw [range_len] at hs hsz h2
    have gp : (Dk d y Y2 S2)[S.length + 5]? = some (.dct (pileV (S.length + 3) q (en x))) := by rw [Dk_get P.nx.pn.1 P.nx.pn.2]; exact P.cp
    have gr : (Dk d y Y2 S2)[S.length + 3]? = some (.lst (H.map en)) := by rw [Dk_get P.nx.rn.1 P.nx.rn.2]; exact P.cr
    have gq : (Dk d y Y2 S2)[q]? = some (.lst (R.map en)) := by rw [Dk_get P.nx.qn.1 P.nx.qn.2]; exact P.cq
    obtain ⟨F, hF⟩ : ∃ F, F = H ++ x :: R.reverse := ⟨_, rfl⟩
    have eF : H.map en ++ [en x] ++ (R.map en).reverse = F.map en := by
      rw [hF, List.map_append, List.map_cons, List.map_reverse, List.append_assoc]; rfl
    have eF2 : H.map en ++ (en x :: (R.map en).reverse) = F.map en := by
      rw [hF, List.map_append, List.map_cons, List.map_reverse]
    have hFl : F.length = H.length + R.length + 1 := by rw [hF]; simp; omega
    have A0 : At c rs F d y S.length (S.length + 1) l H.length S2 := by
      refine ⟨P.i, ?_⟩
      have f1 : F.getD H.length default = x := by rw [hF, List.getD_eq_getElem?_getD, List.getElem?_append_right (Nat.le_refl _)]; simp
      have f2 : F.take H.length = H := by rw [hF, List.take_left]
      have f3 : (F.drop (H.length + 1)).reverse = R := by
        rw [hF, ← List.singleton_append, ← List.append_assoc, List.drop_left' (by simp)]
        simp
      rw [f1, f2, f3]
      exact P.k
    have hsF : ∀ z ∈ F, Sm 99 z := fun z hz => by
      rw [hF] at hz
      rcases List.mem_append.mp hz with t | t
      · exact (hs.1 z t).le (by omega)
      · rcases List.mem_cons.mp t with rfl | t
        · exact hs.2.1.le (by omega)
        · exact (hs.2.2 z (List.mem_reverse.mp t)).le (by omega)
    have N5 : Ne5 d y S.length (S.length + 1) l := ⟨P.nx.nn.1, P.nx.nn.2, P.nx.an.1, P.nx.an.2, P.nx.ln.1, P.nx.ln.2⟩
    have z1 : (R.map en).length < 16777216 := by simp; omega
    refine wS_cut (N' := fun L S1 => L = [some (.ref d), some (.int cnt), some (kitV rs), some (.ref S.length), some (.ref (S.length + 5)), l5, some (.lst (F.map en)), none, none, none] ∧ S1 = Dk d y Y2 S2) ?_ ?_
    · simp_arith [sub_pa gp, sub_pn gp, sub_pl gp, gr, gq, eF, eF2]
      simp; omega
    rintro _ _ ⟨rfl, rfl⟩
    refine wS_cut (N' := fun L S1 => ∃ (l7 : Option Val) (S3 : Store), L = [some (.ref d), some (.int cnt), some (kitV rs), some (.ref S.length), some (.ref (S.length + 5)), l5, some (.lst (F.map en)), l7, none, none] ∧ S1 = Dk d y Y2 S3 ∧ At c rs F d y S.length (S.length + 1) l 0 S3 ∧ S.length ≤ S3.length ∧ (∀ j, j < S.length → S3[j]? = S[j]?)) ?_ ?_
    · simp_arith [sub_pa gp, gr]
      rw [List.length_map]
      have hct2 : ((H.length : Nat) : Int).toNat = H.length := by omega
      rw [hct2]
      refine wS_for (fun i L S1 => ∃ (l7 : Option Val) (S3 : Store), L = [some (.ref d), some (.int cnt), some (kitV rs), some (.ref S.length), some (.ref (S.length + 5)), l5, some (.lst (F.map en)), l7, none, none] ∧ S1 = Dk d y Y2 S3 ∧ At c rs F d y S.length (S.length + 1) l (H.length - i) S3 ∧ S.length ≤ S3.length ∧ (∀ j, j < S.length → S3[j]? = S[j]?)) ?_ ?_ ?_ ?_
      · exact ⟨none, S2, rfl, rfl, A0, hS, hel⟩
      · intros; rfl
      · rintro i x' _ _ hx hi ⟨l7, S3, rfl, rfl, a3, hS3, he3⟩
        obtain ⟨rfl, hi2⟩ := range_at hx
        obtain ⟨j, hj⟩ : ∃ j, j = H.length - (i + 1) := ⟨_, rfl⟩
        rw [show H.length - i = j + 1 by omega] at a3
        obtain ⟨S4, e4, _, a4, el4⟩ := at_undo N5 a3 (by omega) (by omega)
        simp_arith [e4, nn0]
        refine hold ⟨_, S4, rfl, rfl, by rw [← hj]; exact a4, by have := el4.1; omega, fun j hj => ?_⟩
        rw [el4.2 j (by omega) (by omega) (by omega) (by omega) (by omega) (by omega) (by omega), he3 j hj]
      · rintro _ _ ⟨l7, S3, rfl, rfl, a3, hS3, he3⟩
        rw [range_len, Nat.sub_self] at a3
        exact ⟨l7, S3, rfl, rfl, a3, hS3, he3⟩
    rintro _ _ ⟨l7, S3, rfl, rfl, a3, hS3, he3⟩
    refine wS_cut (N' := fun L S1 => ∃ (l7 l8 l9 : Option Val) (S3 : Store), L = [some (.ref d), some (.int cnt), some (kitV rs), some (.ref S.length), some (.ref (S.length + 5)), l5, some (.lst (F.map en)), l7, l8, l9] ∧ S1 = Dk d y Y2 S3 ∧ At c rs F d y S.length (S.length + 1) l (F.length - 1) S3 ∧ S.length ≤ S3.length ∧ (∀ j, j < S.length → S3[j]? = S[j]?)) ?_ ?_
    · simp_arith
      refine wS_for (fun i L S1 => ∃ (l7 l8 l9 : Option Val) (S3 : Store), L = [some (.ref d), some (.int cnt), some (kitV rs), some (.ref S.length), some (.ref (S.length + 5)), l5, some (.lst (F.map en)), l7, l8, l9] ∧ S1 = Dk d y Y2 S3 ∧ At c rs F d y S.length (S.length + 1) l (min i (F.length - 1)) S3 ∧ S.length ≤ S3.length ∧ (∀ j, j < S.length → S3[j]? = S[j]?)) ?_ ?_ ?_ ?_
      · exact ⟨l7, none, none, S3, rfl, rfl, by rw [Nat.zero_min]; exact a3, hS3, he3⟩
      · intros; rfl
      · rintro i x' _ _ hx hi ⟨l7, l8, l9, S3, rfl, rfl, a3, hS3, he3⟩
        obtain ⟨v, hv, rfl⟩ := enum_en hx
        rw [enum_len2, List.length_map] at hi
        have hv2 : v = en (F.getD i default) := by
          rw [List.getElem?_map, List.getElem?_eq_getElem hi] at hv
          rw [List.getD_eq_getElem?_getD, List.getElem?_eq_getElem hi]
          exact (Option.some.inj hv).symm
        subst hv2
        rw [Nat.min_eq_left (by omega)] at a3
        have ei := at_is N5 a3 hi (by omega) hsF Y2
        have cu : cutL (F.map en) none (some ((i : Nat) : Int)) = (F.map en).take i := by
          rw [cut_to]
        by_cases q : i + 1 < F.length
        · obtain ⟨S4, e4, _, a4, el4⟩ := at_redo N5 a3 q (by omega)
          have q1 : decide (((i : Nat) : Int) + 1 < (F.length : Nat)) = true := decide_eq_true (by omega)
          simp_arith [List.length_map, q1, cu, ei, e4, nn0]
          refine hold ⟨_, _, _, S4, rfl, rfl, by rw [Nat.min_eq_left (by omega)]; exact a4, by have := el4.1; omega, fun j hj => ?_⟩
          rw [el4.2 j (by omega) (by omega) (by omega) (by omega) (by omega) (by omega) (by omega), he3 j hj]
        · have q1 : decide (((i : Nat) : Int) + 1 < (F.length : Nat)) = false := decide_eq_false (by omega)
          have kE : Dsk c (Dk d y Y2 S3) S.length (S.length + 1) l rs (F.getD i default).1 (F.getD i default).2 ((F.take i).map (bk c)) [] := by
            have := a3.k
            rw [List.drop_of_length_le (by omega)] at this
            exact this.dk P.nx.nn P.nx.an P.nx.ln
          have e4 := heard_redo_no (c := c) kE
          simp_arith [List.length_map, q1, cu, ei, e4]
          exact hold ⟨_, _, _, S3, rfl, rfl, by rw [Nat.min_eq_right (by omega), show F.length - 1 = i by omega]; exact a3, hS3, he3⟩
      · rintro _ _ ⟨l7, l8, l9, S3, rfl, rfl, a3, hS3, he3⟩
        rw [enum_len2, List.length_map, Nat.min_eq_right (by omega)] at a3
        exact ⟨l7, l8, l9, S3, rfl, rfl, a3, hS3, he3⟩
    rintro _ _ ⟨l7, l8, l9, S4, rfl, rfl, a4, hS4, he4⟩
    have ei := at_is N5 a4 (by omega) (by omega) hsF Y2
    have fne : F.map en ≠ [] := by intro z; rw [List.map_eq_nil_iff] at z; rw [z] at hFl; simp at hFl
    have dr : (F.map en).dropLast = (F.map en).take (F.length - 1) := by rw [List.dropLast_eq_take, List.length_map]
    have la : oIdx (.lst (F.map en)) (.int (-1)) (Dk d y Y2 S4) = .ok (en (F.getD (F.length - 1) default)) (Dk d y Y2 S4) := last_eq (by omega)
    simp_arith [cut_init fne, dr, ei, la]
    have eS : S4 = S ++ S4.drop S.length := app_of hS4 he4
    rw [eS]
    exact wR_gcDT hI rfl (hQ Y2 (h2.le (by omega)))
end
section
def rsL : List Rk := [⟨1, 0, 0, [50, 10]⟩]
theorem ruL : RuOk rsL := RuOk.one ⟨by decide, fun _ => rfl, fun q => absurd q (by decide), by decide, by decide, by decide, by decide⟩
theorem kitL : (.tup [.tup [.int 1, .int 0, .int 0, .tup [.int 50, .int 10]]] : Val) = kitV rsL := by rw [kit_def]; rfl
section
variable {n a l i : Nat} {S : Store} {F : List Bo}
structure Lg (i : Nat) (H : List Bo) (x : Bo) : Prop where
  len : H.length = i
  bk : Bk x.1 x.2
  m : x.1.length = min i 100
  s : x.2.sum = i
  h : ∀ j, j < i → ((H.getD j default).2.sum = j ∧ (H.getD j default).1.length = min j 100)
theorem sum_set {bs : List Int} {m : Nat} {z : Int} (h : m < bs.length) : (bs.set m (bs.getD m 0 + z)).sum = bs.sum + z := by
  induction bs generalizing m with
  | nil => cases h
  | cons b bs ih =>
    cases m with
    | zero => simp; omega
    | succ m =>
      have := ih (m := m) (by simpa using h)
      simp only [List.set_cons_succ, List.sum_cons]
      simp only [List.getD_eq_getElem?_getD, List.getElem?_cons_succ] at this ⊢
      omega
theorem Lg.next {H : List Bo} {x z : Bo} (h : Lg i H x) (hb : Bk z.1 z.2) (hm : z.1.length = min (i + 1) 100) (hs : z.2.sum = i + 1) : Lg (i + 1) (H ++ [x]) z := by
  refine ⟨by simp [h.len], hb, hm, by rw [hs]; rfl, fun j hj => ?_⟩
  by_cases q : j < i
  · have := h.h j q
    rw [List.getD_eq_getElem?_getD, List.getElem?_append_left (by rw [h.len]; exact q), ← List.getD_eq_getElem?_getD]
    exact this
  · have : j = i := by omega
    subst this
    rw [List.getD_eq_getElem?_getD, List.getElem?_append_right (by rw [h.len]; exact Nat.le_refl _), h.len, Nat.sub_self]
    exact ⟨h.s, h.m⟩
end
theorem long_w {d y : Nat} {Y : Dx} {S : Store} {Q : Val → Store → Prop} {X : Exc → Store → Prop} (hI : In d y S) (hQ : Q (.bl true) (Dk d y Y S)) : wR Q X (f_w_long_right c [] (Dk d y Y S)) := by
  unfold f_w_long_right
  generalize hbb : b_w_long_right c = bb
  refine wR_fnE (by rfl) ?_
  show wS _ _ _ (bb [none, none] _)
  subst hbb
  unfold b_w_long_right
  have hd1 := hI.d
  have hd2 := hI.c
  have D0 : Dsk c (S ++ [deskC c rsL [] [] (S.length + 1) (S.length + 2), .lst [], .lst []]) S.length (S.length + 1) (S.length + 2) rsL [] [] [] [] := ⟨by simp, by simp, by simp, by omega, by omega, by omega, rfl, rfl⟩
  refine wS_cut (N' := fun L S1 => L = [some (.ref S.length), none] ∧ S1 = Dk d y Y (S ++ [deskC c rsL [] [] (S.length + 1) (S.length + 2), .lst [], .lst []])) ?_ ?_
  · simp_arith [kitL, kit_mk ruL, desk_mkD hI]
  rintro _ _ ⟨rfl, rfl⟩
  refine wS_cut (N' := fun L S1 => ∃ (l : Nat) (H : List Bo) (x : Bo) (S2 : Store) (l1 : Option Val), L = [some (.ref S.length), l1] ∧ S1 = Dk d y Y S2 ∧ Dsk c S2 S.length (S.length + 1) l rsL x.1 x.2 (H.map (bk c)) [] ∧ In d y S2 ∧ Lg 600 H x ∧ S.length ≤ l ∧ S.length ≤ S2.length ∧ (∀ j, j < S.length → S2[j]? = S[j]?)) ?_ ?_
  · simp_arith
    refine wS_for (fun i L S1 => ∃ (l : Nat) (H : List Bo) (x : Bo) (S2 : Store) (l1 : Option Val), L = [some (.ref S.length), l1] ∧ S1 = Dk d y Y S2 ∧ Dsk c S2 S.length (S.length + 1) l rsL x.1 x.2 (H.map (bk c)) [] ∧ In d y S2 ∧ Lg i H x ∧ S.length ≤ l ∧ S.length ≤ S2.length ∧ (∀ j, j < S.length → S2[j]? = S[j]?)) ?_ ?_ ?_ ?_
    · exact ⟨_, [], ([], []), _, none, rfl, rfl, D0, hI.app, ⟨rfl, b0, rfl, rfl, fun j hj => by omega⟩, by omega, by simp, fun j hj => List.getElem?_append_left hj⟩
    · intros; rfl
    · rintro i x' _ _ hx hi ⟨l, H, x, S2, l1, rfl, rfl, D, hI2, hg, hl, hS, he⟩
      obtain ⟨rfl, hi2⟩ := range_at hx
      have hi3 : i < 600 := hi2
      rw [Int.zero_add]
      have hn : S.length ≠ d ∧ S.length ≠ y := ⟨by omega, by omega⟩
      have ha : S.length + 1 ≠ d ∧ S.length + 1 ≠ y := ⟨by omega, by omega⟩
      have hl' : l ≠ d ∧ l ≠ y := ⟨by omega, by omega⟩
      have kD := D.dk (Y := Y) hn ha hl'
      have hbl := hg.bk.len
      have hm := hg.m
      have hs := hg.s
      have dk : ∀ {gs cs : List Int}, dkS c (Dk d y Y S2) S.length (S.length + 1) rsL (H.map (bk c)) (bookV c x.1 x.2) gs cs = Dk d y Y (dkS c S2 S.length (S.length + 1) rsL (H.map (bk c)) (bookV c x.1 x.2) gs cs) := dkS_Dk hI2 hn ha
      have fin : ∀ z : Bo, Lg (i + 1) (H ++ [x]) z → ∃ (l : Nat) (H : List Bo) (x : Bo) (S3 : Store) (l1' : Option Val), [some (Val.ref S.length), some (.int (i : Nat))] = [some (.ref S.length), l1'] ∧ Dk d y Y (dkS c S2 S.length (S.length + 1) rsL (H.map (bk c)) (bookV c x.1 x.2) z.1 z.2) = Dk d y Y S3 ∧ True := fun z hz => ⟨l, H, x, _, _, rfl, rfl, trivial⟩
      have hA : (H.map (bk c)).length < 1000000 := by rw [List.length_map, hg.len]; omega
      have e1 : H.map (bk c) ++ [bookV c x.1 x.2] = (H ++ [x]).map (bk c) := by rw [List.map_append]; rfl
      have done : ∀ z : Bo, Lg (i + 1) (H ++ [x]) z → Dsk c (dkS c S2 S.length (S.length + 1) rsL (H.map (bk c)) (bookV c x.1 x.2) z.1 z.2) S.length (S.length + 1) S2.length rsL z.1 z.2 ((H ++ [x]).map (bk c)) [] ∧ In d y (dkS c S2 S.length (S.length + 1) rsL (H.map (bk c)) (bookV c x.1 x.2) z.1 z.2) ∧ S.length ≤ (dkS c S2 S.length (S.length + 1) rsL (H.map (bk c)) (bookV c x.1 x.2) z.1 z.2).length ∧ (∀ j, j < S.length → (dkS c S2 S.length (S.length + 1) rsL (H.map (bk c)) (bookV c x.1 x.2) z.1 z.2)[j]? = S[j]?) := fun z hz => by
        refine ⟨by rw [← e1]; exact D.next, ⟨hI2.ne, by rw [dkS_len]; omega, by rw [dkS_len]; omega⟩, by rw [dkS_len]; omega, fun j hj => ?_⟩
        rw [dkS_get (by omega) (by omega) (by omega), he j hj]
      clear fin
      by_cases q : i < 100
      · have q1 : decide (((i : Nat) : Int) < 100) = true := decide_eq_true (by omega)
        have hB : Bk (x.1 ++ [((i : Nat) : Int) - 1]) (x.2 ++ [1]) := hg.bk.snoc (by omega) (by omega) (by omega)
        have eJ : f_p_Desk_join c [.ref S.length, .int (((i : Nat) : Int) - 1), .int 1] (Dk d y Y S2) = .ok (.int (x.1.length : Nat)) (Dk d y Y (dkS c S2 S.length (S.length + 1) rsL (H.map (bk c)) (bookV c x.1 x.2) (x.1 ++ [((i : Nat) : Int) - 1]) (x.2 ++ [1]))) := by
          rw [join_eq ruL.ne kD hA hB (by omega) (by decide), dk]
        simp_arith [q1, obj_desk kD.hn, w_meth, dlm_join, eJ]
        have hz : Lg (i + 1) (H ++ [x]) (x.1 ++ [((i : Nat) : Int) - 1], x.2 ++ [1]) := hg.next hB (by simp; omega) (by simp [hs])
        obtain ⟨d1, d2, d3, d4⟩ := done _ hz
        exact hold ⟨_, _, _, _, _, rfl, rfl, d1, d2, hz, by omega, d3, d4⟩
      · have q1 : decide (((i : Nat) : Int) < 100) = false := decide_eq_false (by omega)
        simp_arith [q1, obj_desk kD.hn, w_meth, dlm_buy]
        rename_i m hm1 m0 m1
        obtain ⟨m', rfl⟩ : ∃ m' : Nat, m = m' := ⟨m.toNat, by omega⟩
        have hm2 : m' < x.1.length := by omega
        have eB : f_p_Desk_buy c [.ref S.length, .int m', .int 1] (Dk d y Y S2) = .ok .non (Dk d y Y (dkS c S2 S.length (S.length + 1) rsL (H.map (bk c)) (bookV c x.1 x.2) x.1 (x.2.set m' (x.2.getD m' 0 + 1)))) := by
          rw [dbuy_eq kD hA hg.bk hm2 (by omega), dk]
        simp_arith [eB]
        have hg1 : 1 ≤ x.2.getD m' 0 := hg.bk.sp _ (by rw [List.getD_eq_getElem?_getD, List.getElem?_eq_getElem (by omega)]; exact List.getElem_mem _)
        have hz : Lg (i + 1) (H ++ [x]) (x.1, x.2.set m' (x.2.getD m' 0 + 1)) := hg.next (bk_set hg.bk (by omega)) (by show x.1.length = _; omega) (by rw [sum_set (by omega), hs])
        obtain ⟨d1, d2, d3, d4⟩ := done _ hz
        exact hold ⟨_, _, _, _, _, rfl, rfl, d1, d2, hz, by omega, d3, d4⟩
    · rintro _ _ ⟨l, H, x, S2, l1, rfl, rfl, D, hI2, hg, hl, hS, he⟩
      exact ⟨l, H, x, S2, l1, rfl, rfl, D, hI2, hg, hl, hS, he⟩
  rintro _ _ ⟨l, H, x, S2, l1, rfl, rfl, D, hI2, hg, hl, hS, he⟩
  have N5 : Ne5 d y S.length (S.length + 1) l := ⟨by omega, by omega, by omega, by omega, by omega, by omega⟩
  obtain ⟨F, hF⟩ : ∃ F, F = H ++ [x] := ⟨_, rfl⟩
  have hFl : F.length = 601 := by rw [hF]; simp [hg.len]
  have hs : ∀ j, j ≤ 600 → (F.getD j default).2.sum = j ∧ (F.getD j default).1.length = min j 100 := fun j hj => by
    rw [hF]
    by_cases q : j < 600
    · rw [List.getD_eq_getElem?_getD, List.getElem?_append_left (by rw [hg.len]; exact q), ← List.getD_eq_getElem?_getD]
      exact hg.h j q
    · have : j = 600 := by omega
      subst this
      rw [List.getD_eq_getElem?_getD, List.getElem?_append_right (by rw [hg.len]; exact Nat.le_refl _), hg.len]
      exact ⟨hg.s, hg.m⟩
  have A0 : At c rsL F d y S.length (S.length + 1) l 600 S2 := by
    refine ⟨hI2, ?_⟩
    have f1 : F.getD 600 default = x := by rw [hF, List.getD_eq_getElem?_getD, List.getElem?_append_right (by rw [hg.len]; exact Nat.le_refl _), hg.len]; rfl
    have f2 : F.take 600 = H := by rw [hF, List.take_append_of_le_length (by rw [hg.len]; exact Nat.le_refl _), List.take_of_length_le (by rw [hg.len]; exact Nat.le_refl _)]
    have f3 : F.drop 601 = [] := List.drop_of_length_le (by omega)
    rw [f1, f2, f3]
    exact D
  clear D hg hF
  have nn1 : ∀ S : Store, oNotN .non .non S = .ok (.bl false) S := fun _ => rfl
  have ob : ∀ {j : Nat} {T : Store}, At c rsL F d y S.length (S.length + 1) l j T → objOf (Dk d y Y T) (.ref S.length) = some (c.Desk, dflds c rsL (F.getD j default).1 (F.getD j default).2 (S.length + 1) l) := fun h => obj_desk (h.k.dk ⟨N5.1, N5.2.1⟩ ⟨N5.2.2.1, N5.2.2.2.1⟩ ⟨N5.2.2.2.2.1, N5.2.2.2.2.2⟩).hn
  have ln : ∀ {j : Nat} {T : Store}, j ≤ 600 → At c rsL F d y S.length (S.length + 1) l j T → bLenX c.Desk (f_p_Desk___len__ c) [.ref S.length] (Dk d y Y T) = .ok (.int (j : Nat)) (Dk d y Y T) := fun {j T} hj h => by
    rw [dlenX (h.k.dk ⟨N5.1, N5.2.1⟩ ⟨N5.2.2.1, N5.2.2.2.1⟩ ⟨N5.2.2.2.2.1, N5.2.2.2.2.2⟩) (by simp; omega)]
    rw [List.length_map, List.length_take, Nat.min_eq_left (by omega)]
  refine wS_cut (N' := fun L S1 => ∃ (l1 : Option Val) (S3 : Store), L = [some (.ref S.length), l1] ∧ S1 = Dk d y Y S3 ∧ At c rsL F d y S.length (S.length + 1) l 0 S3 ∧ S.length ≤ S3.length ∧ (∀ j, j < S.length → S3[j]? = S[j]?)) ?_ ?_
  · simp_arith
    refine wS_for (fun i L S1 => ∃ (l1 : Option Val) (S3 : Store), L = [some (.ref S.length), l1] ∧ S1 = Dk d y Y S3 ∧ At c rsL F d y S.length (S.length + 1) l (600 - i) S3 ∧ S.length ≤ S3.length ∧ (∀ j, j < S.length → S3[j]? = S[j]?)) ?_ ?_ ?_ ?_
    · exact ⟨l1, S2, rfl, rfl, A0, hS, he⟩
    · intros; rfl
    · rintro i x' _ _ hx hi ⟨l1, S3, rfl, rfl, a3, hS3, he3⟩
      obtain ⟨rfl, hi2⟩ := range_at hx
      have hi3 : i < 600 := hi2
      obtain ⟨j, hj⟩ : ∃ j, j = 600 - (i + 1) := ⟨_, rfl⟩
      rw [show 600 - i = j + 1 by omega] at a3
      obtain ⟨S4, _, e4, a4, el4⟩ := at_undo N5 a3 (by omega) (by omega)
      have o3 := ob a3
      have l3 := ln (by omega) a3
      have s3 := (hs (j + 1) (by omega)).1
      have q1 : (600 : Int) - (0 + (i : Nat)) = ((j + 1 : Nat) : Int) := by omega
      simp_arith [q1, o3, l3, dlk_book, List.mem_singleton, obj_book, lk_sales, s3, w_meth, dlm_undo, e4, nn1]
      refine hold ⟨_, S4, rfl, rfl, by rw [← hj]; exact a4, by have := el4.1; omega, fun j hj => ?_⟩
      rw [el4.2 j (by omega) (by omega) (by omega) (by omega) (by omega) (by omega) (by omega), he3 j hj]
    · rintro _ _ ⟨l1, S3, rfl, rfl, a3, hS3, he3⟩
      exact ⟨l1, S3, rfl, rfl, a3, hS3, he3⟩
  rintro _ _ ⟨l1, S3, rfl, rfl, a3, hS3, he3⟩
  have k3 : Dsk c (Dk d y Y S3) S.length (S.length + 1) l rsL (F.getD 0 default).1 (F.getD 0 default).2 [] (((F.drop 1).reverse).map (bk c)) := a3.k.dk ⟨N5.1, N5.2.1⟩ ⟨N5.2.2.1, N5.2.2.2.1⟩ ⟨N5.2.2.2.2.1, N5.2.2.2.2.2⟩
  have u3 := heard_undo_no k3
  have o3 := ob a3
  have b3 : ∀ S : Store, bLenX c.Book (f_p_Book___len__ c) [bookV c (F.getD 0 default).1 (F.getD 0 default).2] S = .ok (.int 0) S := fun S => by
    rw [bookLen (by rw [(hs 0 (by omega)).2]; omega), (hs 0 (by omega)).2]; rfl
  refine wS_cut (N' := fun L S1 => L = [some (.ref S.length), l1] ∧ S1 = Dk d y Y S3) ?_ ?_
  · simp_arith [u3, o3, dlk_book, List.mem_singleton, b3]
  rintro _ _ ⟨rfl, rfl⟩
  refine wS_cut (N' := fun L S1 => ∃ (l1 : Option Val) (S3 : Store), L = [some (.ref S.length), l1] ∧ S1 = Dk d y Y S3 ∧ At c rsL F d y S.length (S.length + 1) l 600 S3 ∧ S.length ≤ S3.length ∧ (∀ j, j < S.length → S3[j]? = S[j]?)) ?_ ?_
  · simp_arith
    refine wS_for (fun i L S1 => ∃ (l1 : Option Val) (S3 : Store), L = [some (.ref S.length), l1] ∧ S1 = Dk d y Y S3 ∧ At c rsL F d y S.length (S.length + 1) l i S3 ∧ S.length ≤ S3.length ∧ (∀ j, j < S.length → S3[j]? = S[j]?)) ?_ ?_ ?_ ?_
    · exact ⟨l1, S3, rfl, rfl, a3, hS3, he3⟩
    · intros; rfl
    · rintro i x' _ _ hx hi ⟨l1, S3, rfl, rfl, a3, hS3, he3⟩
      obtain ⟨rfl, hi2⟩ := range_at hx
      have hi3 : i < 600 := hi2
      obtain ⟨S4, _, e4, a4, el4⟩ := at_redo N5 a3 (by omega) (by omega)
      have o3 := ob a3
      have o4 := ob a4
      have l4 := ln (by omega) a4
      have s4 := (hs (i + 1) (by omega)).1
      have q1 : (0 + (i : Nat) : Int) + 1 = ((i + 1 : Nat) : Int) := by omega
      simp_arith [q1, o3, o4, l4, dlk_book, List.mem_singleton, obj_book, lk_sales, s4, w_meth, dlm_redo, e4, nn1]
      refine hold ⟨_, S4, rfl, rfl, a4, by have := el4.1; omega, fun j hj => ?_⟩
      rw [el4.2 j (by omega) (by omega) (by omega) (by omega) (by omega) (by omega) (by omega), he3 j hj]
    · rintro _ _ ⟨l1, S3, rfl, rfl, a3, hS3, he3⟩
      exact ⟨l1, S3, rfl, rfl, a3, hS3, he3⟩
  rintro _ _ ⟨l1, S5, rfl, rfl, a5, hS5, he5⟩
  have k5 : Dsk c (Dk d y Y S5) S.length (S.length + 1) l rsL (F.getD 600 default).1 (F.getD 600 default).2 ((F.take 600).map (bk c)) [] := by
    have := a5.k
    rw [List.drop_of_length_le (by omega)] at this
    exact this.dk ⟨N5.1, N5.2.1⟩ ⟨N5.2.2.1, N5.2.2.2.1⟩ ⟨N5.2.2.2.2.1, N5.2.2.2.2.2⟩
  have u5 := heard_redo_no k5
  have o5 := ob a5
  have b5 : ∀ S : Store, bLenX c.Book (f_p_Book___len__ c) [bookV c (F.getD 600 default).1 (F.getD 600 default).2] S = .ok (.int 100) S := fun S => by
    rw [bookLen (by rw [(hs 600 (by omega)).2]; omega), (hs 600 (by omega)).2]; rfl
  simp_arith [u5, o5, dlk_book, List.mem_singleton, b5]
  have eS : S5 = S ++ S5.drop S.length := app_of hS5 he5
  rw [eS]
  exact wR_gcDT hI rfl hQ
theorem law_true (ns : List Int) (hl : ns.length ≤ 63) : ∃ S, f_law c [.frz (ns.map .int)] [] = .ok (.bl true) S := by
  have go : wR (fun v _ => v = .bl true) (fun _ _ => False) (f_law c [.frz (ns.map .int)] []) := by
    unfold f_law
    generalize hbb : b_law c = bb
    refine wR_fnE (by rfl) ?_
    show wS _ _ _ (bb [some (.frz (ns.map .int)), none, none] _)
    subst hbb
    unfold b_law
    simp_arith
    refine deck_w hl fun Y hY => ?_
    have hI : In 1 0 [Cell.lst [], Cell.lst []] := ⟨by decide, by decide, by decide⟩
    simp_arith [hI]
    generalize hS : [Cell.lst [], Cell.lst []] = S at hI ⊢
    refine wS_for (fun i L S1 => ∃ (l2 : Option Val) (Y1 : Dx), L = [some (.frz (ns.map .int)), some (.ref 1), l2] ∧ S1 = Dk 1 0 Y1 S ∧ Y1.Ok (900000000 - 4000 * i)) ?_ ?_ ?_ ?_
    · exact ⟨_, _, rfl, rfl, hY⟩
    · intros; rfl
    · rintro i x _ _ hx hi ⟨l2, Y1, rfl, rfl, h1⟩
      obtain ⟨rfl, hi2⟩ := range_at hx
      have hi3 : i < 4 := hi2
      simp_arith
      rename_i z Y2 z1 h2
      obtain ⟨cnt, rfl, hc⟩ : ∃ m : Nat, z = m ∧ m ≤ 40 := by
        simp at z1
        exact ⟨z.toNat, by omega, by omega⟩
      refine right_w h2 (by omega) hI hc fun Y3 h3 => ?_
      simp_arith
      exact hold ⟨_, _, rfl, rfl, h3.le (by omega)⟩
    · rintro _ _ ⟨l2, Y1, rfl, rfl, h1⟩
      simp_arith
      refine long_w hI ?_
      simp_arith
      exact wR_gcT (S := []) rfl rfl
  obtain ⟨v, S, e, rfl⟩ := wR_ok_of go
  exact ⟨S, e⟩
end
end K39
end
end
set_option maxHeartbeats 4000000
set_option maxRecDepth 100000
open PySem PySem.W PyProof.Rows
set_option maxRecDepth 100000 in
set_option maxHeartbeats 0 in
theorem PySem.Challenge.cw_chainshares_k39_changes_taken_back_holds : PySem.Challenge.rw_chainshares_k39_changes_taken_back.Holds := by
  w_on; o_law; k_head; (case hw => w_witness2)
  k_fill
  refine Gx.walkG (n := 63) (k := 11) (x := "_law_script") (l := PySem.Challenge.rw_chainshares_k39_changes_taken_back) (f := fun K => K39.f_law (K39.clK K)) rfl (by decide) rfl (Gx.room_of (by decide +kernel)) rfl (fun w h Y => PySem.W.kIn_of Y) ?F (fun _ ns hl => K39.law_true ns hl)
  case F =>
    intro w mg fa h KX G hmg
    refine' K39.all_mk KX G hmg ?g_Book ?q_Book ?mk_Book ?kp_Book ?g_Desk ?q_Desk ?mk_Desk ?kp_Desk ?g_Rule ?q_Rule ?mk_Rule ?kp_Rule ?g_ShareError ?X_ShareError ?g_BadRule ?X_BadRule ?L_BadRule ?O_BadRule ?A_BadRule ?F_BadRule ?B_BadRule ?T_BadRule ?K_BadRule ?g_BadBook ?X_BadBook ?L_BadBook ?O_BadBook ?A_BadBook ?F_BadBook ?B_BadBook ?T_BadBook ?K_BadBook ?g_BadText ?X_BadText ?g_NoMember ?X_NoMember ?L_NoMember ?O_NoMember ?A_NoMember ?F_NoMember ?B_NoMember ?T_NoMember ?K_NoMember ?g_NothingToUndo ?X_NothingToUndo ?E_NothingToUndo ?B_NothingToUndo ?T_NothingToUndo ?K_NothingToUndo ?g_NothingToRedo ?X_NothingToRedo ?E_NothingToRedo ?B_NothingToRedo ?T_NothingToRedo ?K_NothingToRedo ?s_ShareError_ShareError ?s_ShareError_BadRule ?s_ShareError_BadBook ?s_ShareError_BadText ?s_ShareError_NoMember ?s_ShareError_NothingToUndo ?s_ShareError_NothingToRedo ?s_BadRule_ShareError ?s_BadRule_BadRule ?s_BadRule_BadBook ?s_BadRule_BadText ?s_BadRule_NoMember ?s_BadRule_NothingToUndo ?s_BadRule_NothingToRedo ?s_BadBook_ShareError ?s_BadBook_BadRule ?s_BadBook_BadBook ?s_BadBook_BadText ?s_BadBook_NoMember ?s_BadBook_NothingToUndo ?s_BadBook_NothingToRedo ?s_BadText_ShareError ?s_BadText_BadRule ?s_BadText_BadBook ?s_BadText_BadText ?s_BadText_NoMember ?s_BadText_NothingToUndo ?s_BadText_NothingToRedo ?s_NoMember_ShareError ?s_NoMember_BadRule ?s_NoMember_BadBook ?s_NoMember_BadText ?s_NoMember_NoMember ?s_NoMember_NothingToUndo ?s_NoMember_NothingToRedo ?s_NothingToUndo_ShareError ?s_NothingToUndo_BadRule ?s_NothingToUndo_BadBook ?s_NothingToUndo_BadText ?s_NothingToUndo_NoMember ?s_NothingToUndo_NothingToUndo ?s_NothingToUndo_NothingToRedo ?s_NothingToRedo_ShareError ?s_NothingToRedo_BadRule ?s_NothingToRedo_BadBook ?s_NothingToRedo_BadText ?s_NothingToRedo_NoMember ?s_NothingToRedo_NothingToUndo ?s_NothingToRedo_NothingToRedo ?f_Book_ups ?f_Book_buys ?f_Book_pairs_kept ?f_Book_sales ?f_Desk_rule ?f_Desk_book ?f_Desk_books_ahead ?f_Desk_books_later ?f_Rule_ranks ?f_Rule_levels ?a0 ?l0 ?c0 ?k0 ?a1 ?l1 ?c1 ?k1 ?a2 ?l2 ?c2 ?k2 ?a3 ?l3 ?c3 ?k3 ?a4 ?l4 ?c4 ?k4 ?a5 ?l5 ?c5 ?k5 ?a6 ?l6 ?c6 ?k6 ?n6 ?a7 ?l7 ?c7 ?k7 ?a8 ?l8 ?c8 ?k8 ?a9 ?l9 ?c9 ?k9 ?n9 ?t9 ?w9_0 ?w9_1 ?a10 ?l10 ?c10 ?k10 ?n10 ?a11 ?l11 ?c11 ?k11 ?n11 ?a12 ?l12 ?c12 ?k12 ?a13 ?l13 ?c13 ?k13 ?a14 ?l14 ?c14 ?k14 ?a15 ?l15 ?c15 ?k15 ?a16 ?l16 ?c16 ?k16 ?n16 ?a17 ?l17 ?c17 ?k17 ?n17 ?a18 ?l18 ?c18 ?k18 ?n18 ?a19 ?l19 ?c19 ?k19 ?a20 ?l20 ?c20 ?k20 ?n20 ?a21 ?l21 ?c21 ?k21 ?n21 ?a22 ?l22 ?c22 ?k22 ?n22 ?a23 ?l23 ?c23 ?k23 ?n23 ?a24 ?l24 ?c24 ?k24 ?n24 ?a25 ?l25 ?c25 ?k25 ?n25 ?a26 ?l26 ?c26 ?k26 ?n26 ?a27 ?l27 ?c27 ?k27 ?n27 ?a28 ?l28 ?c28 ?k28 ?n28 ?a29 ?l29 ?c29 ?k29 ?n29 ?a30 ?l30 ?c30 ?k30 ?a31 ?l31 ?c31 ?k31 ?a32 ?l32 ?c32 ?k32 ?a33 ?l33 ?c33 ?k33 ?n33 ?a34 ?l34 ?c34 ?k34 ?a35 ?l35 ?c35 ?k35 ?a36 ?l36 ?c36 ?k36 ?a37 ?l37 ?c37 ?k37 ?v_BONUS ?v_BUYS ?v_LEAST ?v_MOST_SHARE ?v_NOBODY_books ?v_NOBODY_desk ?v_RANK_PARTS ?v_SHARES ?z_all ?z_bool ?z_enumerate ?z_int ?z_isinstance ?z_len ?z_list ?z_range ?z_repr ?z_sum ?z_tuple ?z_zip
    (case g_Book => k_is)
    (case q_Book => constructor <;> k_is)
    (case mk_Book => k_is)
    (case kp_Book => k_is)
    (case g_Desk => k_is)
    (case q_Desk => constructor <;> k_is)
    (case mk_Desk => k_is)
    (case kp_Desk => k_is)
    (case g_Rule => k_is)
    (case q_Rule => constructor <;> k_is)
    (case mk_Rule => k_is)
    (case kp_Rule => k_is)
    (case g_ShareError => k_is)
    (case X_ShareError => constructor <;> k_is)
    (case g_BadRule => k_is)
    (case X_BadRule => constructor <;> k_is)
    (case L_BadRule => k_is)
    (case O_BadRule => first | exact ⟨[], rfl⟩ | exact ⟨[_], rfl⟩)
    (case A_BadRule => k_is)
    (case F_BadRule => k_is)
    (case B_BadRule => k_is)
    (case T_BadRule => k_is)
    (case K_BadRule => k_is)
    (case g_BadBook => k_is)
    (case X_BadBook => constructor <;> k_is)
    (case L_BadBook => k_is)
    (case O_BadBook => first | exact ⟨[], rfl⟩ | exact ⟨[_], rfl⟩)
    (case A_BadBook => k_is)
    (case F_BadBook => k_is)
    (case B_BadBook => k_is)
    (case T_BadBook => k_is)
    (case K_BadBook => k_is)
    (case g_BadText => k_is)
    (case X_BadText => constructor <;> k_is)
    (case g_NoMember => k_is)
    (case X_NoMember => constructor <;> k_is)
    (case L_NoMember => k_is)
    (case O_NoMember => first | exact ⟨[], rfl⟩ | exact ⟨[_], rfl⟩)
    (case A_NoMember => k_is)
    (case F_NoMember => k_is)
    (case B_NoMember => k_is)
    (case T_NoMember => k_is)
    (case K_NoMember => k_is)
    (case g_NothingToUndo => k_is)
    (case X_NothingToUndo => constructor <;> k_is)
    (case E_NothingToUndo => k_exc)
    (case B_NothingToUndo => k_is)
    (case T_NothingToUndo => k_is)
    (case K_NothingToUndo => k_is)
    (case g_NothingToRedo => k_is)
    (case X_NothingToRedo => constructor <;> k_is)
    (case E_NothingToRedo => k_exc)
    (case B_NothingToRedo => k_is)
    (case T_NothingToRedo => k_is)
    (case K_NothingToRedo => k_is)
    (case s_ShareError_ShareError => k_is)
    (case s_ShareError_BadRule => k_is)
    (case s_ShareError_BadBook => k_is)
    (case s_ShareError_BadText => k_is)
    (case s_ShareError_NoMember => k_is)
    (case s_ShareError_NothingToUndo => k_is)
    (case s_ShareError_NothingToRedo => k_is)
    (case s_BadRule_ShareError => k_is)
    (case s_BadRule_BadRule => k_is)
    (case s_BadRule_BadBook => k_is)
    (case s_BadRule_BadText => k_is)
    (case s_BadRule_NoMember => k_is)
    (case s_BadRule_NothingToUndo => k_is)
    (case s_BadRule_NothingToRedo => k_is)
    (case s_BadBook_ShareError => k_is)
    (case s_BadBook_BadRule => k_is)
    (case s_BadBook_BadBook => k_is)
    (case s_BadBook_BadText => k_is)
    (case s_BadBook_NoMember => k_is)
    (case s_BadBook_NothingToUndo => k_is)
    (case s_BadBook_NothingToRedo => k_is)
    (case s_BadText_ShareError => k_is)
    (case s_BadText_BadRule => k_is)
    (case s_BadText_BadBook => k_is)
    (case s_BadText_BadText => k_is)
    (case s_BadText_NoMember => k_is)
    (case s_BadText_NothingToUndo => k_is)
    (case s_BadText_NothingToRedo => k_is)
    (case s_NoMember_ShareError => k_is)
    (case s_NoMember_BadRule => k_is)
    (case s_NoMember_BadBook => k_is)
    (case s_NoMember_BadText => k_is)
    (case s_NoMember_NoMember => k_is)
    (case s_NoMember_NothingToUndo => k_is)
    (case s_NoMember_NothingToRedo => k_is)
    (case s_NothingToUndo_ShareError => k_is)
    (case s_NothingToUndo_BadRule => k_is)
    (case s_NothingToUndo_BadBook => k_is)
    (case s_NothingToUndo_BadText => k_is)
    (case s_NothingToUndo_NoMember => k_is)
    (case s_NothingToUndo_NothingToUndo => k_is)
    (case s_NothingToUndo_NothingToRedo => k_is)
    (case s_NothingToRedo_ShareError => k_is)
    (case s_NothingToRedo_BadRule => k_is)
    (case s_NothingToRedo_BadBook => k_is)
    (case s_NothingToRedo_BadText => k_is)
    (case s_NothingToRedo_NoMember => k_is)
    (case s_NothingToRedo_NothingToUndo => k_is)
    (case s_NothingToRedo_NothingToRedo => k_is)
    (case f_Book_ups => k_is)
    (case f_Book_buys => k_is)
    (case f_Book_pairs_kept => k_is)
    (case f_Book_sales => k_is)
    (case f_Desk_rule => k_is)
    (case f_Desk_book => k_is)
    (case f_Desk_books_ahead => k_is)
    (case f_Desk_books_later => k_is)
    (case f_Rule_ranks => k_is)
    (case f_Rule_levels => k_is)
    (case a0 => k_is)
    (case l0 => k_is)
    (case c0 => k_is)
    (case k0 => k_is)
    (case a1 => k_is)
    (case l1 => k_is)
    (case c1 => k_is)
    (case k1 => k_is)
    (case a2 => k_is)
    (case l2 => k_is)
    (case c2 => k_is)
    (case k2 => k_is)
    (case a3 => k_is)
    (case l3 => k_is)
    (case c3 => k_is)
    (case k3 => k_is)
    (case a4 => k_is)
    (case l4 => k_is)
    (case c4 => k_is)
    (case k4 => k_is)
    (case a5 => k_is)
    (case l5 => k_is)
    (case c5 => k_is)
    (case k5 => k_is)
    (case a6 => k_is)
    (case l6 => k_is)
    (case c6 => k_is)
    (case k6 => k_is)
    (case n6 => k_is)
    (case a7 => k_is)
    (case l7 => k_is)
    (case c7 => k_is)
    (case k7 => k_is)
    (case a8 => k_is)
    (case l8 => k_is)
    (case c8 => k_is)
    (case k8 => k_is)
    (case a9 => k_is)
    (case l9 => k_is)
    (case c9 => k_is)
    (case k9 => k_is)
    (case n9 => k_is)
    (case t9 => k_is)
    (case w9_0 => k_is)
    (case w9_1 => k_is)
    (case a10 => k_is)
    (case l10 => k_is)
    (case c10 => k_is)
    (case k10 => k_is)
    (case n10 => k_is)
    (case a11 => k_is)
    (case l11 => k_is)
    (case c11 => k_is)
    (case k11 => k_is)
    (case n11 => k_is)
    (case a12 => k_is)
    (case l12 => k_is)
    (case c12 => k_is)
    (case k12 => k_is)
    (case a13 => k_is)
    (case l13 => k_is)
    (case c13 => k_is)
    (case k13 => k_is)
    (case a14 => k_is)
    (case l14 => k_is)
    (case c14 => k_is)
    (case k14 => k_is)
    (case a15 => k_is)
    (case l15 => k_is)
    (case c15 => k_is)
    (case k15 => k_is)
    (case a16 => k_is)
    (case l16 => k_is)
    (case c16 => k_is)
    (case k16 => k_is)
    (case n16 => k_is)
    (case a17 => k_is)
    (case l17 => k_is)
    (case c17 => k_is)
    (case k17 => k_is)
    (case n17 => k_is)
    (case a18 => k_is)
    (case l18 => k_is)
    (case c18 => k_is)
    (case k18 => k_is)
    (case n18 => k_is)
    (case a19 => k_is)
    (case l19 => k_is)
    (case c19 => k_is)
    (case k19 => k_is)
    (case a20 => k_is)
    (case l20 => k_is)
    (case c20 => k_is)
    (case k20 => k_is)
    (case n20 => k_is)
    (case a21 => k_is)
    (case l21 => k_is)
    (case c21 => k_is)
    (case k21 => k_is)
    (case n21 => k_is)
    (case a22 => k_is)
    (case l22 => k_is)
    (case c22 => k_is)
    (case k22 => k_is)
    (case n22 => k_is)
    (case a23 => k_is)
    (case l23 => k_is)
    (case c23 => k_is)
    (case k23 => k_is)
    (case n23 => k_is)
    (case a24 => k_is)
    (case l24 => k_is)
    (case c24 => k_is)
    (case k24 => k_is)
    (case n24 => k_is)
    (case a25 => k_is)
    (case l25 => k_is)
    (case c25 => k_is)
    (case k25 => k_is)
    (case n25 => k_is)
    (case a26 => k_is)
    (case l26 => k_is)
    (case c26 => k_is)
    (case k26 => k_is)
    (case n26 => k_is)
    (case a27 => k_is)
    (case l27 => k_is)
    (case c27 => k_is)
    (case k27 => k_is)
    (case n27 => k_is)
    (case a28 => k_is)
    (case l28 => k_is)
    (case c28 => k_is)
    (case k28 => k_is)
    (case n28 => k_is)
    (case a29 => k_is)
    (case l29 => k_is)
    (case c29 => k_is)
    (case k29 => k_is)
    (case n29 => k_is)
    (case a30 => k_is)
    (case l30 => k_is)
    (case c30 => k_is)
    (case k30 => k_is)
    (case a31 => k_is)
    (case l31 => k_is)
    (case c31 => k_is)
    (case k31 => k_is)
    (case a32 => k_is)
    (case l32 => k_is)
    (case c32 => k_is)
    (case k32 => k_is)
    (case a33 => k_is)
    (case l33 => k_is)
    (case c33 => k_is)
    (case k33 => k_is)
    (case n33 => k_is)
    (case a34 => k_is)
    (case l34 => k_is)
    (case c34 => k_is)
    (case k34 => k_is)
    (case a35 => k_is)
    (case l35 => k_is)
    (case c35 => k_is)
    (case k35 => k_is)
    (case a36 => k_is)
    (case l36 => k_is)
    (case c36 => k_is)
    (case k36 => k_is)
    (case a37 => k_is)
    (case l37 => k_is)
    (case c37 => k_is)
    (case k37 => k_is)
    (case v_BONUS => k_is)
    (case v_BUYS => k_is)
    (case v_LEAST => k_is)
    (case v_MOST_SHARE => k_is)
    (case v_NOBODY_books => k_is)
    (case v_NOBODY_desk => k_is)
    (case v_RANK_PARTS => k_is)
    (case v_SHARES => k_is)
    (case z_all => k_is)
    (case z_bool => k_is)
    (case z_enumerate => k_is)
    (case z_int => k_is)
    (case z_isinstance => k_is)
    (case z_len => k_is)
    (case z_list => k_is)
    (case z_range => k_is)
    (case z_repr => k_is)
    (case z_sum => k_is)
    (case z_tuple => k_is)
    (case z_zip => k_is)
