import PyProof.Rows.All
import Wide.All
import OpenK.AllK
import Wide.FinOn
import HandS.ForMost
import HandS.ForExc
import HandS.Lambda
import KE.DataCmp
import HandS.Iter
import HandS.Flow
import HandS.Defaults
import HandS.ExcOwn
import HandS.Comp
import HandS.More
import HandS.Star
import HandS.Style
import HandS.TupAny
import HandS.TupMul
import HandS.TupLe
import HandS.IsInst
import HandS.Wide
import KE.DataEq
import PyProof.ReprRoads
import HandS.Codes
import HandS.Ends
import HandS.HeadEnd
import HandS.EndBits
import HandS.TryOnly
import HandS.ExcIs
import HandS.ExcField
import KE.GoesEnum
import HandS.NoneIn
import HandS.Text
import KE.SortData
import HandS.SortInts
import HandS.Head2
import HandS.Head3
import HandS.Head4
import HandS.HeadHook4
import HandS.WordsExc
import HandS.TryMany
import HandS.Set
import HandS.SetFor
import HandS.SetTxt0
import HandS.StrMore
import KE.KStateDown
import HandS.Head0
import HandS.HeadHook1
import HandS.HeadHook2
import KE.KNestM
import PySem.Challenge.RW_seenabove_k05_expressions_and_their_text
set_option Elab.async false
section
set_option autoImplicit false
/-! Sv: a plain semantics by values. A program text is read as a Lean function over data (PyData); what a def changes in
    place (a list of its own) is a value of its environment. -/
namespace Sv
open PySem

/-- a value: data that never changes any more, or a list that its holder alone may change -/
inductive B where
  | d (x : PyData)
  | l (xs : List PyData)

/-- an error: its class's name, its fields -/
structure Ex where
  c : Str
  fs : List (Str × PyData)

abbrev Env := List (Option B)

/-- what an expression gives: a value, or the very thing that a slot holds -/
inductive Hd where
  | v (b : B)
  | s (i : Nat)

/-- an outcome: a result and the environment behind it, an error, or nothing said -/
inductive R (α : Type) where
  | ok (a : α) (e : Env)
  | ex (x : Ex) (e : Env)
  | no

namespace R
variable {α β : Type}
def bind (r : R α) (k : α → Env → R β) : R β :=
  match r with
  | .ok a e => k a e
  | .ex x e => .ex x e
  | .no => .no
@[simp] theorem bind_ok (a : α) (e : Env) (k : α → Env → R β) : (R.ok a e).bind k = k a e := rfl
@[simp] theorem bind_ex (x : Ex) (e : Env) (k : α → Env → R β) : (R.ex x e : R α).bind k = .ex x e := rfl
@[simp] theorem bind_no (k : α → Env → R β) : (R.no : R α).bind k = .no := rfl
/-- a result that may lack -/
def opt (o : Option α) (e : Env) : R α :=
  match o with
  | some a => .ok a e
  | none => .no
@[simp] theorem opt_some (a : α) (e : Env) : opt (some a) e = .ok a e := rfl
@[simp] theorem opt_none (e : Env) : opt (none : Option α) e = .no := rfl
end R

abbrev Cd := Env → R Hd
abbrev Td := Env → R Bool
abbrev Ad := Env → R (List Hd)

/-- the value in a slot -/
def slot (e : Env) (i : Nat) : Option B := e[i]?.join
/-- what a value reads as -/
def B.rd : B → PyData
  | .d x => x
  | .l xs => .list xs
@[simp] theorem rd_d (x : PyData) : (B.d x).rd = x := rfl
@[simp] theorem rd_l (xs : List PyData) : (B.l xs).rd = .list xs := rfl
/-- what a handle reads as, now -/
def Hd.rd (h : Hd) (e : Env) : Option PyData :=
  match h with
  | .v b => some b.rd
  | .s i => (slot e i).map B.rd
@[simp] theorem hrd_v (b : B) (e : Env) : (Hd.v b).rd e = some b.rd := rfl
@[simp] theorem hrd_s (i : Nat) (e : Env) : (Hd.s i).rd e = (slot e i).map B.rd := rfl
def rds (hs : List Hd) (e : Env) : Option (List PyData) :=
  match hs with
  | [] => some []
  | h :: r => match h.rd e, rds r e with
    | some x, some xs => some (x :: xs)
    | _, _ => none
@[simp] theorem rds_nil (e : Env) : rds [] e = some [] := rfl
@[simp] theorem rds_cons (h : Hd) (r : List Hd) (e : Env) : rds (h :: r) e = match h.rd e, rds r e with
    | some x, some xs => some (x :: xs)
    | _, _ => none := rfl

/-- kept for good: the thing in a slot becomes data -/
def hold (h : Hd) (e : Env) : R PyData :=
  match h with
  | .v b => .ok b.rd e
  | .s i => match slot e i with
    | some b => .ok b.rd (e.set i (some (.d b.rd)))
    | none => .no

/-! ### expressions -/
def cVar (i : Nat) : Cd := fun e =>
  match slot e i with
  | some _ => .ok (.s i) e
  | none => .no
def cK (x : PyData) : Cd := fun e => .ok (.v (.d x)) e
/-- the value as data, for good -/
def cE (c : Cd) : Cd := fun e => (c e).bind fun h e1 => (hold h e1).bind fun x e2 => .ok (.v (.d x)) e2
/-- the value to be read: a slot's thing stays where it is, a new list becomes data -/
def cP (c : Cd) : Cd := fun e => (c e).bind fun h e1 =>
  match h with
  | .v b => .ok (.v (.d b.rd)) e1
  | .s i => .ok (.s i) e1

/-- an operation on two, on one -/
def cOp (f : PyData → PyData → Option B) (a b : Cd) : Cd := fun e => (a e).bind fun x e1 => (b e1).bind fun y e2 =>
  match x.rd e2, y.rd e2 with
  | some p, some q => (R.opt (f p q) e2).bind fun r e3 => .ok (.v r) e3
  | _, _ => .no
def cUn (f : PyData → Option B) (a : Cd) : Cd := fun e => (a e).bind fun x e1 =>
  match x.rd e1 with
  | some p => (R.opt (f p) e1).bind fun r e3 => .ok (.v r) e3
  | none => .no
/-- x op y op' z -/
def cChain (f g : PyData → PyData → Option Bool) (a b c : Cd) : Cd := fun e => (a e).bind fun x e1 => (b e1).bind fun y e2 =>
  match x.rd e2, y.rd e2 with
  | some p, some q => match f p q with
    | some true => (c e2).bind fun z e3 => match y.rd e3, z.rd e3 with
      | some q', some r => match g q' r with
        | some k => .ok (.v (.d (.bool k))) e3
        | none => .no
      | _, _ => .no
    | some false => .ok (.v (.d (.bool false))) e2
    | none => .no
  | _, _ => .no
/-- a test, a choice -/
def cIf (t : Td) (a b : Cd) : Cd := fun e => (t e).bind fun k e1 => if k = true then a e1 else b e1
def asBool : PyData → Option Bool
  | .bool b => some b
  | _ => none
def cAnd (a b : Cd) : Cd := fun e => (a e).bind fun x e1 =>
  match x.rd e1 with
  | some (.bool true) => b e1
  | some (.bool false) => .ok (.v (.d (.bool false))) e1
  | _ => .no
def cOr (a b : Cd) : Cd := fun e => (a e).bind fun x e1 =>
  match x.rd e1 with
  | some (.bool true) => .ok (.v (.d (.bool true))) e1
  | some (.bool false) => b e1
  | _ => .no
def cNot (a : Cd) : Cd := fun e => (a e).bind fun x e1 =>
  match x.rd e1 with
  | some (.bool k) => .ok (.v (.d (.bool (!k)))) e1
  | _ => .no
/-! ### tests -/
def tB (a : Cd) : Td := fun e => (a e).bind fun x e1 =>
  match x.rd e1 with
  | some (.bool k) => .ok k e1
  | _ => .no
def tAnd (a b : Td) : Td := fun e => (a e).bind fun k e1 => if k = true then b e1 else .ok false e1
def tOr (a b : Td) : Td := fun e => (a e).bind fun k e1 => if k = true then .ok true e1 else b e1
def tNot (a : Td) : Td := fun e => (a e).bind fun k e1 => .ok (!k) e1
/-! ### arguments -/
def aNil : Ad := fun e => .ok [] e
def aCons (c : Cd) (r : Ad) : Ad := fun e => (c e).bind fun x e1 => (r e1).bind fun xs e2 => .ok (x :: xs) e2
/-- *xs among the items -/
def itemsX : PyData → Option (List PyData)
  | .list xs => some xs
  | .tuple xs => some xs
  | _ => none
def aStar (c : Cd) (r : Ad) : Ad := fun e => (cE c e).bind fun x e1 =>
  match x with
  | .v (.d y) => match itemsX y with
    | some xs => (r e1).bind fun hs e2 => .ok (xs.map (fun x => .v (.d x)) ++ hs) e2
    | none => .no
  | _ => .no
/-- a built-in function of values -/
def cCall (f : List PyData → Option B) (a : Ad) : Cd := fun e => (a e).bind fun hs e1 =>
  match rds hs e1 with
  | some xs => (R.opt (f xs) e1).bind fun r e2 => .ok (.v r) e2
  | none => .no

/-- all of them data -/
def datas : List Hd → Option (List PyData)
  | [] => some []
  | .v (.d x) :: r => (datas r).map (x :: ·)
  | _ :: _ => none
@[simp] theorem datas_nil : datas [] = some [] := rfl
@[simp] theorem datas_cons (x : PyData) (r : List Hd) : datas (.v (.d x) :: r) = (datas r).map (x :: ·) := rfl
/-- displays -/
def cTup (a : Ad) : Cd := fun e => (a e).bind fun hs e1 =>
  match datas hs with
  | some xs => if xs.length ≤ sizeLine then .ok (.v (.d (.tuple xs))) e1 else .no
  | none => .no
def cLst (a : Ad) : Cd := fun e => (a e).bind fun hs e1 =>
  match datas hs with
  | some xs => if xs.length ≤ sizeLine then .ok (.v (.l xs)) e1 else .no
  | none => .no
/-- a slice: its bounds are ints or left out -/
def asInt : PyData → Option Int
  | .int i => some i
  | _ => none
@[simp] theorem asInt_int (i : Int) : asInt (.int i) = some i := rfl
def cSl (f : PyData → Option Int → Option Int → Option B) (c : Cd) (lo hi : Option Cd) : Cd := fun e => (c e).bind fun h e1 =>
  (match lo with
    | none => .ok none e1
    | some l => (l e1).bind fun x e2 => match x.rd e2 with
      | some (.int i) => .ok (some i) e2
      | _ => .no : R (Option Int)).bind fun a e2 =>
  (match hi with
    | none => .ok none e2
    | some l => (l e2).bind fun x e3 => match x.rd e3 with
      | some (.int i) => .ok (some i) e3
      | _ => .no : R (Option Int)).bind fun b e3 =>
  match h.rd e3 with
  | some p => (R.opt (f p a b) e3).bind fun r e4 => .ok (.v r) e4
  | none => .no

/-! ### statements -/
inductive RS where
  | nx (e : Env)
  | rt (b : B) (e : Env)
  | bk (e : Env)
  | ct (e : Env)
  | ex (x : Ex) (e : Env)
  | no
abbrev Sd := Env → RS
namespace R
def toS {α : Type} (r : R α) (k : α → Env → RS) : RS :=
  match r with
  | .ok a e => k a e
  | .ex x e => .ex x e
  | .no => .no
@[simp] theorem toS_ok {α : Type} (a : α) (e : Env) (k : α → Env → RS) : (R.ok a e).toS k = k a e := rfl
@[simp] theorem toS_ex {α : Type} (x : Ex) (e : Env) (k : α → Env → RS) : (R.ex x e : R α).toS k = .ex x e := rfl
@[simp] theorem toS_no {α : Type} (k : α → Env → RS) : (R.no : R α).toS k = .no := rfl
end R
def RS.seq (r : RS) (k : Env → RS) : RS :=
  match r with
  | .nx e => k e
  | r => r
@[simp] theorem seq_nx (e : Env) (k : Env → RS) : (RS.nx e).seq k = k e := rfl
@[simp] theorem seq_rt (b : B) (e : Env) (k : Env → RS) : (RS.rt b e).seq k = .rt b e := rfl
@[simp] theorem seq_bk (e : Env) (k : Env → RS) : (RS.bk e).seq k = .bk e := rfl
@[simp] theorem seq_ct (e : Env) (k : Env → RS) : (RS.ct e).seq k = .ct e := rfl
@[simp] theorem seq_ex (x : Ex) (e : Env) (k : Env → RS) : (RS.ex x e).seq k = .ex x e := rfl
@[simp] theorem seq_no (k : Env → RS) : RS.no.seq k = .no := rfl

def sNil : Sd := fun e => .nx e
def sCons (a b : Sd) : Sd := fun e => (a e).seq b
def sPass : Sd := fun e => .nx e
def sBreak : Sd := fun e => .bk e
def sCont : Sd := fun e => .ct e
def sExpr (c : Cd) : Sd := fun e => (c e).toS fun _ e1 => .nx e1
/-- x = e: a new list is x's own; a slot's thing becomes data in both -/
def put (i : Nat) (h : Hd) (e : Env) : RS :=
  match h with
  | .v b => .nx (e.set i (some b))
  | .s j => match slot e j with
    | some b => .nx ((e.set j (some (.d b.rd))).set i (some (.d b.rd)))
    | none => .no
def sSet (i : Nat) (c : Cd) : Sd := fun e => (c e).toS fun h e1 => put i h e1
/-- return e: a slot's thing goes with it -/
def sRet (c : Cd) : Sd := fun e => (c e).toS fun h e1 =>
  match h with
  | .v b => .rt b e1
  | .s i => match slot e1 i with
    | some b => .rt b (e1.set i none)
    | none => .no
def sRetN : Sd := fun e => .rt (.d .none) e
def sIf (t : Td) (a b : Sd) : Sd := fun e => (t e).toS fun k e1 => if k = true then a e1 else b e1
/-- at most n turns -/
def sWhile (t : Td) (b : Sd) : Nat → Sd
  | 0, _ => .no
  | n + 1, e => (t e).toS fun k e1 => if k = true then
      match b e1 with
      | .nx e2 => sWhile t b n e2
      | .ct e2 => sWhile t b n e2
      | .bk e2 => .nx e2
      | r => r
    else .nx e1
/-! ### targets, loops -/
/-- a target: stores data -/
abbrev Gd := PyData → Sd
def gN (i : Nat) : Gd := fun x e => .nx (e.set i (some (.d x)))
def gRun : List Gd → List PyData → Sd
  | [], [], e => .nx e
  | t :: ts, x :: xs, e => (t x e).seq (gRun ts xs)
  | _, _, _ => .no
@[simp] theorem gRun_nil (e : Env) : gRun [] [] e = .nx e := rfl
@[simp] theorem gRun_cons (t : Gd) (ts : List Gd) (x : PyData) (xs : List PyData) (e : Env) : gRun (t :: ts) (x :: xs) e = (t x e).seq (gRun ts xs) := rfl
def gT (ts : List Gd) : Gd := fun x e =>
  match x with
  | .tuple xs => gRun ts xs e
  | _ => .no
def gL (ts : List Gd) : Gd := fun x e =>
  match x with
  | .list xs => gRun ts xs e
  | _ => .no
/-- t = e, the value as data -/
def sAsg (t : Gd) (c : Cd) : Sd := fun e => (c e).toS fun h e1 => (hold h e1).toS fun x e2 => t x e2
/-- what a for walks: the items, known before the first turn -/
abbrev Wd := Env → R (List PyData)
def loopF (t : Gd) (b : Sd) : List PyData → Sd
  | [], e => .nx e
  | x :: xs, e => match (t x e).seq b with
    | .nx e2 => loopF t b xs e2
    | .ct e2 => loopF t b xs e2
    | .bk e2 => .nx e2
    | r => r
def sFor (w : Wd) (t : Gd) (b : Sd) : Sd := fun e => (w e).toS fun xs e1 => loopF t b xs e1
def wSeq (c : Cd) : Wd := fun e => (cE c e).bind fun h e1 =>
  match h with
  | .v (.d (.list xs)) => .ok xs e1
  | .v (.d (.tuple xs)) => .ok xs e1
  | _ => .no
/-- the ints of a range; the signs of a text -/
def rngD (lo : Int) (n : Nat) : List PyData := (List.range n).map fun i => .int (lo + (i : Nat))
def signs (x : Str) : List PyData := x.cps.toList.map fun c => .str ⟨#[c]⟩
def wRange1 (c : Cd) : Wd := fun e => (c e).bind fun h e1 =>
  match h.rd e1 with
  | some (.int j) => if -(2 ^ 62) ≤ j ∧ j < 2 ^ 62 then .ok (rngD 0 j.toNat) e1 else .no
  | _ => .no
def wRange2 (c d : Cd) : Wd := fun e => (c e).bind fun h e1 => (d e1).bind fun g e2 =>
  match h.rd e2, g.rd e2 with
  | some (.int i), some (.int j) => if -(2 ^ 62) ≤ i ∧ i < 2 ^ 62 ∧ -(2 ^ 62) ≤ j ∧ j < 2 ^ 62 then .ok (rngD i (j - i).toNat) e2 else .no
  | _, _ => .no
def wStr (c : Cd) : Wd := fun e => (cE c e).bind fun h e1 =>
  match h with
  | .v (.d (.str x)) => .ok (signs x) e1
  | _ => .no
def enumD (xs : List PyData) : List PyData := xs.mapIdx fun i x => .tuple [.int i, x]
def wEnum (c : Cd) : Wd := fun e => (cE c e).bind fun h e1 =>
  match h with
  | .v (.d (.list xs)) => .ok (enumD xs) e1
  | .v (.d (.tuple xs)) => .ok (enumD xs) e1
  | _ => .no
/-- x op= e on a name that holds data -/
def sAug (i : Nat) (f : PyData → PyData → Option PyData) (c : Cd) : Sd := fun e =>
  match slot e i with
  | some (.d x) => (c e).toS fun h e1 => match h.rd e1 with
    | some y => match f x y with
      | some z => .nx (e1.set i (some (.d z)))
      | none => .no
    | none => .no
  | _ => .no
/-- a method that changes the list in slot i -/
def cMeth (m : List PyData → List PyData → Option (List PyData × PyData)) (i : Nat) (a : Ad) : Cd := fun e =>
  match slot e i with
  | some (.l _) => (a e).bind fun hs e1 => match slot e1 i, datas hs with
    | some (.l cs), some xs => match m cs xs with
      | some (cs', r) => .ok (.v (.d r)) (e1.set i (some (.l cs')))
      | none => .no
    | _, _ => .no
  | _ => .no
/-- x[k] = e on the list in slot i -/
def sSetIx (f : List PyData → PyData → PyData → Option (List PyData)) (i : Nat) (k c : Cd) : Sd := fun e => (cE c e).toS fun h e1 =>
  match slot e1 i with
  | some _ => (k e1).toS fun q e2 => match h, q.rd e2, slot e2 i with
    | .v (.d x), some j, some (.l cs) => match f cs j x with
      | some cs' => .nx (e2.set i (some (.l cs')))
      | none => .no
    | _, _, _ => .no
  | none => .no
/-- a, b = x, y -/
def sPar2 (i j : Nat) (a b : Cd) : Sd := fun e => (a e).toS fun h e1 => (b e1).toS fun g e2 =>
  match h, g with
  | .v x, .v y => .nx ((e2.set i (some x)).set j (some y))
  | _, _ => .no
def sPar3 (i j k : Nat) (a b c : Cd) : Sd := fun e => (a e).toS fun h e1 => (b e1).toS fun g e2 => (c e2).toS fun f e3 =>
  match h, g, f with
  | .v x, .v y, .v z => .nx (((e3.set i (some x)).set j (some y)).set k (some z))
  | _, _, _ => .no
def sRaise (x : Ex) : Sd := fun e => .ex x e

/-- try: .. except X as e: return h(e); m: which errors are caught, i: e's slot -/
def sTryR (i : Nat) (b : Sd) (m : Ex → Option Bool) (h : Ex → Cd) : Sd := fun e =>
  match b e with
  | .ex x e1 => match m x with
    | some true => match h x (e1.set i none) with
      | .ok (.v r) e2 => .rt r e2
      | _ => .no
    | some false => .ex x e1
    | none => .no
  | r => r
/-- the same without a name -/
def sTryN (b : Sd) (m : Ex → Option Bool) (h : Cd) : Sd := fun e =>
  match b e with
  | .ex x e1 => match m x with
    | some true => match h e1 with
      | .ok (.v r) e2 => .rt r e2
      | _ => .no
    | some false => .ex x e1
    | none => .no
  | r => r

/-! ### comprehensions -/
/-- the slots of the comprehension's own names, forgotten -/
def wipeE (e : Env) : List Nat → Env
  | [] => e
  | v :: vs => (wipeE e vs).set v none
/-- .. and as they were ahead of it -/
def restE (e0 e : Env) : List Nat → Env
  | [] => e
  | v :: vs => match e0[v]? with
    | some o => (restE e0 e vs).set v o
    | none => restE e0 e vs
/-- one turn: nothing, or an item more -/
def comp1 (vs : List Nat) (t : Gd) (tt : Td) (c : Cd) (x : PyData) (e : Env) : R (Option PyData) :=
  match t x e with
  | .nx e1 => match tt e1 with
    | .ok true e2 => match cE c e2 with
      | .ok (.v (.d y)) e3 => .ok (some y) (wipeE e3 vs)
      | _ => .no
    | .ok false e2 => .ok none (wipeE e2 vs)
    | _ => .no
  | _ => .no
def compL (vs : List Nat) (t : Gd) (tt : Td) (c : Cd) : List PyData → Env → R (List PyData)
  | [], e => .ok [] e
  | x :: xs, e => match comp1 vs t tt c x e with
    | .ok o e1 => match compL vs t tt c xs e1 with
      | .ok ys e2 => .ok (match o with
        | some y => y :: ys
        | none => ys) e2
      | _ => .no
    | _ => .no
def tYes : Td := fun e => .ok true e
def cComp (vs : List Nat) (w : Wd) (t : Gd) (tt : Td) (c : Cd) : Cd := fun e => (w e).bind fun xs e1 =>
  if xs.length ≤ sizeLine then
    match compL vs t tt c xs (wipeE e1 vs) with
    | .ok ys e2 => .ok (.v (.l ys)) (restE e1 e2 vs)
    | _ => .no
  else .no

/-! ### defs -/
/-- what a call gives: its value (or an error), and what has become of the arguments -/
inductive Rf where
  | ok (b : B) (ps : List (Option B))
  | ex (x : Ex) (ps : List (Option B))
  | no
abbrev Fn := List B → Rf
/-- what a caller knows of his arguments behind the call: io, the parameters that are never stored to -/
def outF (io : List Nat) (e : Env) : Nat → List B → List (Option B)
  | _, [] => []
  | j, b :: r => (if io.contains j = true then slot e j else match b with
      | .d x => some (.d x)
      | .l _ => none) :: outF io e (j + 1) r
def fnD (n : Nat) (io : List Nat) (c : Sd) : Fn := fun bs =>
  match c (bs.map some ++ List.replicate (n - bs.length) none) with
  | .nx e => .ok (.d .none) (outF io e 0 bs)
  | .rt b e => .ok b (outF io e 0 bs)
  | .ex x e => .ex x (outF io e 0 bs)
  | _ => .no
/-- the arguments of a call -/
def argsB : List Hd → Env → Option (List B)
  | [], _ => some []
  | .v b :: r, e => (argsB r e).map (b :: ·)
  | .s i :: r, e => match slot e i, argsB r e with
    | some b, some bs => some (b :: bs)
    | _, _ => none
def slotsOf : List Hd → List Nat
  | [] => []
  | .v _ :: r => slotsOf r
  | .s i :: r => i :: slotsOf r
def back : List Hd → List (Option B) → Env → Env
  | .s i :: hs, p :: ps, e => back hs ps (match slot e i with
    | some (.l _) => e.set i p
    | _ => e)
  | .v _ :: hs, _ :: ps, e => back hs ps e
  | _, _, e => e
def cFn (F : Fn) (a : Ad) : Cd := fun e => (a e).bind fun hs e1 =>
  match argsB hs e1 with
  | some bs => if (slotsOf hs).Nodup then
      match F bs with
      | .ok b ps => .ok (.v b) (back hs ps e1)
      | .ex x ps => .ex x (back hs ps e1)
      | .no => .no
    else .no
  | none => .no
end Sv
end
section
set_option autoImplicit false
set_option linter.all false
/-! Sv: how values of the plain semantics stand in the heap of the hand layer. -/
namespace Sv
open PySem PySem.Spec L2
open PyProof.Rows hiding St

/-- the tables of code objects that the walks know of -/
class HasT where
  t : PySem.W.Frag → List (Addr × Str)
variable [HasT]
/-- neither a table nor a thing of its own kind -/
def fixed : HO → Bool
  | .tbl _ => false
  | _ => true
theorem fixed_of {o : HO} (h : fixed o = true) : ∀ ps, o ≠ .tbl ps := fun ps z => by rw [z] at h; cases h
/-- nothing of ours stands at a -/
def New (H : Hp) (a : Addr) : Prop := ∀ o, H a = some o → fixed o = false
theorem New.of {H : Hp} {a : Addr} (h : H a = none) : New H a := fun o e => by rw [h] at e; cases e
theorem New.no {H : Hp} {a : Addr} {o : HO} (n : New H a) (h : H a = some o) (f : fixed o = true) : False := by
  have z := n o h
  rw [f] at z
  cases z
/-- the tables are as they should be -/
def TabsK (K : PySem.W.Frag) (H : Hp) : Prop := LamX.Tabs (HasT.t K) H
theorem TabsK.grow {K : PySem.W.Frag} {H H1 : Hp} (h : TabsK K H) (k : ∀ b o, H b = some o → H1 b = some o) : TabsK K H1 := LamX.Tabs.ext h k
/-- a list changes -/
theorem TabsK.chg {K : PySem.W.Frag} {H : Hp} {a : Addr} {ys : List V} (h : TabsK K H) (e : H a = some (.lst ys)) (u : HO) : TabsK K (upd H a u) := fun p hp => by
  obtain ⟨ps, h1, h2, h3⟩ := h p hp
  have n1 : p.1 ≠ a := fun z => by rw [z, e] at h1; cases h1
  refine ⟨ps, by rw [upd_ne n1]; exact h1, h2, fun pos cv hc => ?_⟩
  obtain ⟨c, e1, e2⟩ := h3 pos cv hc
  have n2 : c ≠ a := fun z => by
    rw [z, e] at e2
    unfold LamX.CodeO at e2
    cases e2
  exact ⟨c, e1, by rw [upd_ne n2]; exact e2⟩
/-- what never changes any more -/
def stays : HO → Bool
  | .tup _ => true
  | .frz _ _ => true
  | _ => false

/-- a list of the written part -/
def KLx (K : PySem.W.Frag) (a : Addr) (xs : List V) : Prop := ∃ (its : List Value) (n : Nat), K.lookup a = some { cls := .type "list", data := .seq its.toArray n } ∧ Vals xs its ∧ its.length ≤ sizeLine
/-- a list that never changes any more; one that is read -/
def FL (K : PySem.W.Frag) (H : Hp) (a : Addr) (xs : List V) : Prop := (∃ o, H a = some (.frz o (.lst xs))) ∨ KLx K a xs
def RL (K : PySem.W.Frag) (H : Hp) (a : Addr) (xs : List V) : Prop := Rd H a (.lst xs) ∨ KLx K a xs
/-- a dict's key as data -/
def keyD : Key → PyData
  | .inl i => .int i
  | .inr x => .str x
mutual
/-- v holds the data d, for good -/
inductive Fz (K : PySem.W.Frag) (H : Hp) : V → PyData → Prop
  | non : Fz K H .non .none
  | bl (b : Bool) : Fz K H (.bl b) (.bool b)
  | int (i : Int) : Fz K H (.int i) (.int i)
  | str (x : Str) : Fz K H (.str x) (.str x)
  | lst {a : Addr} {xs : List V} {ds : List PyData} : FL K H a xs → FzAll K H xs ds → Fz K H (.ref a) (.list ds)
  | tup {a : Addr} {xs : List V} {ds : List PyData} : SqT K H a xs → FzAll K H xs ds → Fz K H (.ref a) (.tuple ds)
  | dct {a : Addr} {o : Obj} {kvs : List (Key × V)} {ks : List PyData} {vs : List PyData} {ps : List (PyData × PyData)} : H a = some (.frz o (.dK kvs)) → ks = kvs.map (fun p => keyD p.1) → FzAll K H (kvs.map (·.2)) vs → ps = ks.zip vs → Fz K H (.ref a) (.dict ps)
inductive FzAll (K : PySem.W.Frag) (H : Hp) : List V → List PyData → Prop
  | nil : FzAll K H [] []
  | cons {v : V} {vs : List V} {d : PyData} {ds : List PyData} : Fz K H v d → FzAll K H vs ds → FzAll K H (v :: vs) (d :: ds)
end

section
variable {K : PySem.W.Frag} {H H' : Hp}
theorem KLx.sq {a : Addr} {xs : List V} (h : KLx K a xs) : SqL K H a xs := by
  obtain ⟨its, n, h1, h2, h3⟩ := h
  exact .inr ⟨_, its.toArray, n, h1, rfl, rfl, rfl, by simpa using h3, by simpa using h2⟩
theorem FL.sq {a : Addr} {xs : List V} (h : FL K H a xs) : SqL K H a xs := h.elim (fun ⟨o, h⟩ => .inl (.inr ⟨o, h⟩)) KLx.sq
theorem RL.sq {a : Addr} {xs : List V} (h : RL K H a xs) : SqL K H a xs := h.elim .inl KLx.sq
theorem FL.rl {a : Addr} {xs : List V} (h : FL K H a xs) : RL K H a xs := h.imp (fun ⟨o, h⟩ => .inr ⟨o, h⟩) id
theorem FL.of {a : Addr} {o : Obj} {xs : List V} (h : H a = some (.frz o (.lst xs))) : FL K H a xs := .inl ⟨o, h⟩
theorem SqT.keep {a : Addr} {xs : List V} (k : ∀ b o, H b = some o → stays o = true → H' b = some o) (h : SqT K H a xs) : SqT K H' a xs := by
  rcases h with (h | ⟨o, h⟩) | h
  · exact .inl (.inl (k _ _ h rfl))
  · exact .inl (.inr ⟨o, k _ _ h rfl⟩)
  · exact .inr h
mutual
theorem Fz.keep (k : ∀ b o, H b = some o → stays o = true → H' b = some o) : ∀ {v : V} {d : PyData}, Fz K H v d → Fz K H' v d
  | _, _, .non => .non
  | _, _, .bl b => .bl b
  | _, _, .int i => .int i
  | _, _, .str x => .str x
  | _, _, .lst h t => .lst (h.imp (fun ⟨o, h⟩ => ⟨o, k _ _ h rfl⟩) id) (FzAll.keep k t)
  | _, _, .tup h t => .tup (SqT.keep k h) (FzAll.keep k t)
  | _, _, .dct h e t f => .dct (k _ _ h rfl) e (FzAll.keep k t) f
theorem FzAll.keep (k : ∀ b o, H b = some o → stays o = true → H' b = some o) : ∀ {vs : List V} {ds : List PyData}, FzAll K H vs ds → FzAll K H' vs ds
  | _, _, .nil => .nil
  | _, _, .cons h t => .cons (Fz.keep k h) (FzAll.keep k t)
end
mutual
/-- v reads as the data d, now -/
inductive Vw (K : PySem.W.Frag) (H : Hp) : V → PyData → Prop
  | non : Vw K H .non .none
  | bl (b : Bool) : Vw K H (.bl b) (.bool b)
  | int (i : Int) : Vw K H (.int i) (.int i)
  | str (x : Str) : Vw K H (.str x) (.str x)
  | lst {a : Addr} {xs : List V} {ds : List PyData} : RL K H a xs → FzAll K H xs ds → Vw K H (.ref a) (.list ds)
  | tup {a : Addr} {xs : List V} {ds : List PyData} : SqT K H a xs → FzAll K H xs ds → Vw K H (.ref a) (.tuple ds)
  | dct {a : Addr} {kvs : List (Key × V)} {ks : List PyData} {vs : List PyData} {ps : List (PyData × PyData)} : Rd H a (.dK kvs) → ks = kvs.map (fun p => keyD p.1) → FzAll K H (kvs.map (·.2)) vs → ps = ks.zip vs → Vw K H (.ref a) (.dict ps)
end
theorem Fz.vw : ∀ {v : V} {d : PyData}, Fz K H v d → Vw K H v d
  | _, _, .non => .non
  | _, _, .bl b => .bl b
  | _, _, .int i => .int i
  | _, _, .str x => .str x
  | _, _, .lst h t => .lst (h.imp (fun ⟨o, h⟩ => .inr ⟨o, h⟩) id) t
  | _, _, .tup h t => .tup h t
  | _, _, .dct h e t f => .dct (.inr ⟨_, h⟩) e t f
inductive VwAll (K : PySem.W.Frag) (H : Hp) : List V → List PyData → Prop
  | nil : VwAll K H [] []
  | cons {v : V} {vs : List V} {d : PyData} {ds : List PyData} : Vw K H v d → VwAll K H vs ds → VwAll K H (v :: vs) (d :: ds)
theorem FzAll.length : ∀ {vs : List V} {ds : List PyData}, FzAll K H vs ds → vs.length = ds.length
  | _, _, .nil => rfl
  | _, _, .cons _ t => by rw [List.length_cons, List.length_cons, FzAll.length t]
theorem FzAll.get : ∀ {vs : List V} {ds : List PyData}, FzAll K H vs ds → ∀ {i : Nat} {d : PyData}, ds[i]? = some d → ∃ v, vs[i]? = some v ∧ Fz K H v d
  | _, _, .nil, _, _, e => by simp at e
  | _, _, .cons h _, 0, _, e => by simp at e; subst e; exact ⟨_, rfl, h⟩
  | _, _, .cons _ t, i + 1, d, e => by
    obtain ⟨v, e1, e2⟩ := FzAll.get t (i := i) (d := d) (by simpa using e)
    exact ⟨v, by simpa using e1, e2⟩
theorem FzAll.get' : ∀ {vs : List V} {ds : List PyData}, FzAll K H vs ds → ∀ {i : Nat} {v : V}, vs[i]? = some v → ∃ d, ds[i]? = some d ∧ Fz K H v d
  | _, _, .nil, _, _, e => by simp at e
  | _, _, .cons h _, 0, _, e => by simp at e; subst e; exact ⟨_, rfl, h⟩
  | _, _, .cons _ t, i + 1, d, e => by
    obtain ⟨v, e1, e2⟩ := FzAll.get' t (i := i) (v := d) (by simpa using e)
    exact ⟨v, by simpa using e1, e2⟩
theorem FzAll.append : ∀ {vs : List V} {ds : List PyData}, FzAll K H vs ds → ∀ {ws : List V} {es : List PyData}, FzAll K H ws es → FzAll K H (vs ++ ws) (ds ++ es)
  | _, _, .nil, _, _, h => h
  | _, _, .cons a t, _, _, h => .cons a (FzAll.append t h)
theorem FzAll.take : ∀ {vs : List V} {ds : List PyData} (n : Nat), FzAll K H vs ds → FzAll K H (vs.take n) (ds.take n)
  | _, _, 0, _ => .nil
  | _, _, _ + 1, .nil => .nil
  | _, _, n + 1, .cons h t => .cons h (FzAll.take n t)
theorem FzAll.drop : ∀ {vs : List V} {ds : List PyData} (n : Nat), FzAll K H vs ds → FzAll K H (vs.drop n) (ds.drop n)
  | _, _, 0, h => h
  | _, _, _ + 1, .nil => .nil
  | _, _, n + 1, .cons _ t => FzAll.drop n t
theorem FzAll.rev : ∀ {vs : List V} {ds : List PyData}, FzAll K H vs ds → FzAll K H vs.reverse ds.reverse
  | _, _, .nil => .nil
  | _, _, .cons h t => by
    rw [List.reverse_cons, List.reverse_cons]
    exact (FzAll.rev t).append (.cons h .nil)
theorem FzAll.set : ∀ {vs : List V} {ds : List PyData} (n : Nat) {v : V} {d : PyData}, FzAll K H vs ds → Fz K H v d → FzAll K H (vs.set n v) (ds.set n d)
  | _, _, _, _, _, .nil, _ => .nil
  | _, _, 0, _, _, .cons _ t, h => .cons h t
  | _, _, n + 1, _, _, .cons a t, h => .cons a (FzAll.set n t h)
theorem FzAll.nil_iff {ds : List PyData} (h : FzAll K H [] ds) : ds = [] := by cases h; rfl
end

/-- v holds the value b -/
def DenB (K : PySem.W.Frag) (H : Hp) (v : V) : B → Prop
  | .d x => Fz K H v x
  | .l xs => ∃ a ys, v = .ref a ∧ H a = some (.lst ys) ∧ FzAll K H ys xs
/-- the address that some slot owns -/
def Own (σ : St) (ρ : Env) (a : Addr) : Prop := ∃ (i : Nat) (xs : List PyData), ρ[i]? = some (some (.l xs)) ∧ σ[i]? = some (some (.ref a))
structure EnvRel (K : PySem.W.Frag) (H : Hp) (σ : St) (ρ : Env) : Prop where
  tab : TabsK K H
  len : ρ.length = σ.length
  den : ∀ (i : Nat) (b : B), ρ[i]? = some (some b) → ∃ v, σ[i]? = some (some v) ∧ DenB K H v b
  inj : ∀ (i j : Nat) (xs ys : List PyData) (a : Addr), ρ[i]? = some (some (.l xs)) → ρ[j]? = some (some (.l ys)) → σ[i]? = some (some (.ref a)) → σ[j]? = some (some (.ref a)) → i = j

section
variable {K : PySem.W.Frag} {H H1 H2 : Hp} {σ σ1 σ2 : St} {ρ ρ1 ρ2 : Env}
theorem EnvRel.owned (e : EnvRel K H σ ρ) {a : Addr} (h : Own σ ρ a) : ∃ ys, H a = some (.lst ys) := by
  obtain ⟨i, xs, h1, h2⟩ := h
  obtain ⟨v, e1, a', ys, rfl, e2, _⟩ := e.den i _ h1
  rw [h2] at e1
  cases e1
  exact ⟨ys, e2⟩
theorem EnvRel.notOwn (e : EnvRel K H σ ρ) {a : Addr} {o : HO} (h : H a = some o) (s : stays o = true) : ¬ Own σ ρ a := fun q => by
  obtain ⟨ys, e2⟩ := e.owned q
  rw [h] at e2
  cases e2
  cases s

/-- from one state to another: what nobody here owns is kept; what is owned was owned or is new -/
structure Pst (K : PySem.W.Frag) (H : Hp) (σ : St) (ρ : Env) (H1 : Hp) (σ1 : St) (ρ1 : Env) : Prop where
  env : EnvRel K H1 σ1 ρ1
  keep : ∀ b o, H b = some o → fixed o = true → ¬ Own σ ρ b → H1 b = some o
  own : ∀ b, Own σ1 ρ1 b → Own σ ρ b ∨ New H b
theorem Pst.refl (e : EnvRel K H σ ρ) : Pst K H σ ρ H σ ρ := ⟨e, fun _ _ h _ _ => h, fun _ h => .inl h⟩
/-- what is new later is new, or was owned -/
theorem Pst.new {b : Addr} (p : Pst K H σ ρ H1 σ1 ρ1) (z : New H1 b) (n : ¬ Own σ ρ b) : New H b := fun o e => by
  cases f : fixed o with
  | false => rfl
  | true => exact (z.no (p.keep b o e f n) f).elim
theorem Pst.trans (p : Pst K H σ ρ H1 σ1 ρ1) (q : Pst K H1 σ1 ρ1 H2 σ2 ρ2) : Pst K H σ ρ H2 σ2 ρ2 where
  env := q.env
  keep := fun b o h f n => q.keep b o (p.keep b o h f n) f fun w => (p.own b w).elim n fun z => z.no h f
  own := fun b w => by
    rcases q.own b w with w | z
    · exact p.own b w
    · by_cases hb : Own σ ρ b
      · exact .inl hb
      · exact .inr (p.new z hb)
/-- what stays, stays -/
theorem Pst.stay (p : Pst K H σ ρ H1 σ1 ρ1) (e : EnvRel K H σ ρ) : ∀ b o, H b = some o → stays o = true → H1 b = some o :=
  fun b o h s => p.keep b o h (by cases o <;> first | rfl | cases s) (e.notOwn h s)
theorem Pst.fz (p : Pst K H σ ρ H1 σ1 ρ1) (e : EnvRel K H σ ρ) {v : V} {d : PyData} (h : Fz K H v d) : Fz K H1 v d := h.keep (p.stay e)
theorem Pst.fzAll (p : Pst K H σ ρ H1 σ1 ρ1) (e : EnvRel K H σ ρ) {v : List V} {d : List PyData} (h : FzAll K H v d) : FzAll K H1 v d := h.keep (p.stay e)

/-- what an expression's end holds: H, σ, ρ at its start -/
def DenR (K : PySem.W.Frag) (H : Hp) (σ : St) (ρ : Env) (H1 : Hp) (σ1 : St) (ρ1 : Env) (v : V) : Hd → Prop
  | .s i => σ1[i]? = some (some v)
  | .v (.d x) => Fz K H1 v x
  | .v (.l xs) => ∃ a ys, v = .ref a ∧ H1 a = some (.lst ys) ∧ FzAll K H1 ys xs ∧ ¬ Own σ1 ρ1 a ∧ (Own σ ρ a ∨ New H a)
theorem DenR.start {v : V} {h : Hd} (p : Pst K H σ ρ H1 σ1 ρ1) (q : DenR K H1 σ1 ρ1 H2 σ2 ρ2 v h) : DenR K H σ ρ H2 σ2 ρ2 v h := by
  cases h with
  | s i => exact q
  | v b =>
    cases b with
    | d x => exact q
    | l xs =>
      obtain ⟨a, ys, e, h1, h2, h3, h4⟩ := q
      refine ⟨a, ys, e, h1, h2, h3, ?_⟩
      rcases h4 with w | z
      · exact p.own a w
      · by_cases hb : Own σ ρ a
        · exact .inl hb
        · exact .inr (p.new z hb)
end

/-- an error's class and fields in the heap -/
def ExRel (K : PySem.W.Frag) (mg : Str → Option Value) (H : Hp) (x : Ex) (cls : Value) (dd : Option Addr) : Prop :=
  mg x.c = some cls ∧ ((x.fs = [] ∧ dd = none) ∨ ∃ d fs, x.fs ≠ [] ∧ dd = some d ∧ H d = some (.xd fs) ∧ fs.map (·.1) = x.fs.map (·.1) ∧ FzAll K H (fs.map (·.2)) (x.fs.map (·.2)))

/-- what an outcome asks of the ends: Q of a result, W of an error -/
def Fin {α β : Type} (K : PySem.W.Frag) (mg : Str → Option Value) (W : WX) (σ : St) (H : Hp) (ρ : Env) (Rel : Hp → Env → β → α → Prop) (r : R α) (Q : β → Hp → Prop) : Prop :=
  match r with
  | .ok a ρ1 => ∀ v H1, Pst K H σ ρ H1 σ ρ1 → Rel H1 ρ1 v a → Q v H1
  | .ex x ρ1 => ∀ cls dd H1, Pst K H σ ρ H1 σ ρ1 → ExRel K mg H1 x cls dd → W cls dd σ H1
  | .no => False

/-- the readings of the layer, by the plain semantics -/
def tC (K : PySem.W.Frag) (mg : Str → Option Value) (W : WX) (c : Cd) : TE := fun σ H Q =>
  ∃ ρ, EnvRel K H σ ρ ∧ Fin K mg W σ H ρ (fun H1 ρ1 v h => DenR K H σ ρ H1 σ ρ1 v h) (c ρ) Q
def tT (K : PySem.W.Frag) (mg : Str → Option Value) (W : WX) (c : Td) : TT := fun σ H Q =>
  ∃ ρ, EnvRel K H σ ρ ∧ Fin K mg W σ H ρ (fun _ _ (v : Bool) k => v = k) (c ρ) Q
/-- arguments: each is data, or a slot's thing -/
inductive DenA (K : PySem.W.Frag) (H : Hp) (σ : St) : List V → List Hd → Prop
  | nil : DenA K H σ [] []
  | data {v : V} {x : PyData} {vs : List V} {hs : List Hd} : Fz K H v x → DenA K H σ vs hs → DenA K H σ (v :: vs) (.v (.d x) :: hs)
  | slot {v : V} {i : Nat} {vs : List V} {hs : List Hd} : σ[i]? = some (some v) → DenA K H σ vs hs → DenA K H σ (v :: vs) (.s i :: hs)
def tA (K : PySem.W.Frag) (mg : Str → Option Value) (W : WX) (c : Ad) : TA := fun σ H Q =>
  ∃ ρ, EnvRel K H σ ρ ∧ Fin K mg W σ H ρ (fun H1 _ v h => DenA K H1 σ v h) (c ρ) Q

section
variable {K : PySem.W.Frag} {mg : Str → Option Value} {W : WX} {H H1 H2 : Hp} {σ : St} {ρ ρ1 ρ2 : Env}
/-- the same outcome from a later state -/
theorem Fin.later {α β : Type} {Rel Rel' : Hp → Env → β → α → Prop} {r : R α} {Q : β → Hp → Prop} (p : Pst K H σ ρ H1 σ ρ1)
    (hr : ∀ a ρ2, r = .ok a ρ2 → ∀ v H2, Pst K H1 σ ρ1 H2 σ ρ2 → Rel' H2 ρ2 v a → Rel H2 ρ2 v a) (f : Fin K mg W σ H ρ Rel r Q) : Fin K mg W σ H1 ρ1 Rel' r Q := by
  cases r with
  | ok a ρ2 => exact fun v H2 q d => f v H2 (p.trans q) (hr a ρ2 rfl v H2 q d)
  | ex x ρ2 => exact fun cls dd H2 q d => f cls dd H2 (p.trans q) d
  | no => exact f
/-- one part of a whole -/
theorem Fin.part {α β γ δ : Type} {Rel : Hp → Env → β → α → Prop} {Rel' : Hp → Env → δ → γ → Prop} {r : R α} {k : α → Env → R γ} {Q : δ → Hp → Prop} {G : β → Hp → Prop}
    (f : Fin K mg W σ H ρ Rel' (r.bind k) Q) (g : ∀ a ρ1, r = .ok a ρ1 → Fin K mg W σ H ρ Rel' (k a ρ1) Q → ∀ v H1, Pst K H σ ρ H1 σ ρ1 → Rel H1 ρ1 v a → G v H1) : Fin K mg W σ H ρ Rel r G := by
  cases r with
  | ok a ρ1 => exact fun v H1 p d => g a ρ1 rfl f v H1 p d
  | ex x ρ1 => exact f
  | no => exact f
end
end Sv
end
section
set_option autoImplicit false
set_option linter.all false
/-! Sv: names, constants, keeping a thing for good, arguments, operators. -/
namespace Sv
open PySem PySem.Spec L2
open PyProof.Rows hiding St
variable [HasT]

section
variable {K : PySem.W.Frag} {H H1 H2 : Hp} {σ σ1 σ2 : St} {ρ ρ1 ρ2 : Env}
theorem slot_some {i : Nat} {b : B} (h : slot ρ i = some b) : ρ[i]? = some (some b) := by
  unfold slot at h
  cases e : ρ[i]? with
  | none => rw [e] at h; cases h
  | some o => rw [e] at h; cases o with
    | none => cases h
    | some c => cases h; rfl
theorem slot_of {i : Nat} {b : B} (h : ρ[i]? = some (some b)) : slot ρ i = some b := by unfold slot; rw [h]; rfl
theorem set_same {i : Nat} {b : B} (h : ρ[i]? = some (some b)) : ρ.set i (some b) = ρ := by
  apply List.ext_getElem?
  intro j
  by_cases hj : i = j
  · subst hj
    have hl : i < ρ.length := (List.getElem?_eq_some_iff.mp h).1
    rw [List.getElem?_set_self hl, h]
  · rw [List.getElem?_set_ne hj]

/-- a state grows: all that stood stands -/
theorem EnvRel.grow (er : EnvRel K H σ ρ) (k : ∀ b o, H b = some o → H1 b = some o) : EnvRel K H1 σ ρ := by
  refine ⟨er.tab.grow k, er.len, fun i b h => ?_, er.inj⟩
  obtain ⟨v, e, d⟩ := er.den i b h
  refine ⟨v, e, ?_⟩
  cases b with
  | d x => exact Fz.keep (fun b o h _ => k b o h) d
  | l xs =>
    obtain ⟨a, ys, e1, e2, e3⟩ := d
    exact ⟨a, ys, e1, k _ _ e2, FzAll.keep (fun b o h _ => k b o h) e3⟩
theorem Pst.grow (er : EnvRel K H σ ρ) (k : ∀ b o, H b = some o → H1 b = some o) : Pst K H σ ρ H1 σ ρ :=
  ⟨er.grow k, fun b o h _ _ => k b o h, fun _ h => .inl h⟩
theorem grow_upd {a : Addr} {o : HO} (h : H a = none) : ∀ b u, H b = some u → upd H a o b = some u := fun b u e => by
  rw [upd_ne (ne_of_none e h)]; exact e
/-- a list that no slot owns becomes data -/
theorem stay_frz {a : Addr} {ys : List V} (o : Obj) (h : H a = some (.lst ys)) : ∀ b u, H b = some u → stays u = true → upd H a (.frz o (.lst ys)) b = some u := fun b u e s => by
  have : b ≠ a := fun z => by rw [z, h] at e; cases e; cases s
  rw [upd_ne this]; exact e
theorem EnvRel.frzTemp {a : Addr} {ys : List V} (o : Obj) (er : EnvRel K H σ ρ) (h : H a = some (.lst ys)) (no : ¬ Own σ ρ a) : EnvRel K (upd H a (.frz o (.lst ys))) σ ρ := by
  refine ⟨er.tab.chg h _, er.len, fun i b hb => ?_, er.inj⟩
  obtain ⟨v, e, d⟩ := er.den i b hb
  refine ⟨v, e, ?_⟩
  cases b with
  | d x => exact Fz.keep (stay_frz o h) d
  | l xs =>
    obtain ⟨a', ys', rfl, e2, e3⟩ := d
    have ne : a' ≠ a := fun z => no ⟨i, xs, hb, by rw [← z]; exact e⟩
    exact ⟨a', ys', rfl, by rw [upd_ne ne]; exact e2, FzAll.keep (stay_frz o h) e3⟩
theorem EnvRel.frzSlot {i : Nat} {xs : List PyData} {a : Addr} {ys : List V} (o : Obj) (er : EnvRel K H σ ρ) (hi : ρ[i]? = some (some (.l xs))) (hs : σ[i]? = some (some (.ref a))) (h : H a = some (.lst ys)) (hx : FzAll K H ys xs) :
    EnvRel K (upd H a (.frz o (.lst ys))) σ (ρ.set i (some (.d (.list xs)))) := by
  have hil : i < ρ.length := (List.getElem?_eq_some_iff.mp hi).1
  refine ⟨er.tab.chg h _, by rw [List.length_set]; exact er.len, fun j b hb => ?_, fun j k xs' ys' a' h1 h2 h3 h4 => ?_⟩
  · by_cases hj : i = j
    · subst hj
      rw [List.getElem?_set_self hil] at hb
      cases hb
      exact ⟨_, hs, .lst (.of upd_same) (hx.keep (stay_frz o h))⟩
    · rw [List.getElem?_set_ne hj] at hb
      obtain ⟨v, e, d⟩ := er.den j b hb
      refine ⟨v, e, ?_⟩
      cases b with
      | d x => exact Fz.keep (stay_frz o h) d
      | l zs =>
        obtain ⟨a', ys', rfl, e2, e3⟩ := d
        have ne : a' ≠ a := fun z => hj (er.inj i j xs zs a hi hb hs (by rw [← z]; exact e))
        exact ⟨a', ys', rfl, by rw [upd_ne ne]; exact e2, FzAll.keep (stay_frz o h) e3⟩
  · by_cases hj : i = j
    · subst hj
      rw [List.getElem?_set_self hil] at h1
      cases h1
    · by_cases hk : i = k
      · subst hk
        rw [List.getElem?_set_self hil] at h2
        cases h2
      · rw [List.getElem?_set_ne hj] at h1
        rw [List.getElem?_set_ne hk] at h2
        exact er.inj j k _ _ _ h1 h2 h3 h4
theorem own_frz {i : Nat} {x : PyData} {b : Addr} (h : Own σ (ρ.set i (some (.d x))) b) : Own σ ρ b := by
  obtain ⟨j, xs, h1, h2⟩ := h
  by_cases hj : i = j
  · subst hj
    by_cases hl : i < ρ.length
    · rw [List.getElem?_set_self hl] at h1; cases h1
    · rw [List.set_eq_of_length_le (by omega)] at h1; exact ⟨i, xs, h1, h2⟩
  · rw [List.getElem?_set_ne hj] at h1
    exact ⟨j, xs, h1, h2⟩
theorem upd_there {a : Addr} {o : HO} (b : Addr) (h : H b ≠ none) : upd H a o b ≠ none := by
  by_cases e : b = a
  · subst e; rw [upd_same]; exact fun z => nomatch z
  · rw [upd_ne e]; exact h
theorem Pst.frzTemp {a : Addr} {ys : List V} (o : Obj) (p : Pst K H σ ρ H1 σ1 ρ1) (h : H1 a = some (.lst ys)) (no : ¬ Own σ1 ρ1 a) (fr : Own σ ρ a ∨ New H a) : Pst K H σ ρ (upd H1 a (.frz o (.lst ys))) σ1 ρ1 :=
  ⟨p.env.frzTemp o h no, fun b u e f n => by
    have ne : b ≠ a := fun z => by
      subst z
      rcases fr with w | w
      · exact n w
      · exact w.no e f
    rw [upd_ne ne]; exact p.keep b u e f n, p.own⟩
theorem Pst.frzSlot {i : Nat} {xs : List PyData} {a : Addr} {ys : List V} (o : Obj) (p : Pst K H σ ρ H1 σ1 ρ1) (hi : ρ1[i]? = some (some (.l xs))) (hs : σ1[i]? = some (some (.ref a))) (h : H1 a = some (.lst ys)) (hx : FzAll K H1 ys xs) :
    Pst K H σ ρ (upd H1 a (.frz o (.lst ys))) σ1 (ρ1.set i (some (.d (.list xs)))) :=
  ⟨p.env.frzSlot o hi hs h hx, fun b u e f n => by
    have ne : b ≠ a := fun z => by
      subst z
      rcases p.own b ⟨i, xs, hi, hs⟩ with w | w
      · exact n w
      · exact w.no e f
    rw [upd_ne ne]; exact p.keep b u e f n, fun b w => p.own b (own_frz w)⟩
end

section
variable {X : Cx} {W : WX}
theorem pe_weak {e : Expr} {t t' : TE} (h : PE X e t) (w : ∀ σ H Q, t' σ H Q → t σ H Q) : PE X e t' := ⟨fun pins s σ H Q I q => h.run pins s σ H Q I (w σ H Q q)⟩
theorem pt_weak {e : Expr} {t t' : TT} (h : PT X e t) (w : ∀ σ H Q, t' σ H Q → t σ H Q) : PT X e t' := ⟨fun pins s σ H Q I q => h.run pins s σ H Q I (w σ H Q q)⟩
theorem pw_weak {e : Expr} {t t' : TT} (h : PW X e t) (w : ∀ σ H Q, t' σ H Q → t σ H Q) : PW X e t' := ⟨fun wh pins s σ H Q I q => h.run wh pins s σ H Q I (w σ H Q q)⟩
theorem pa_weak {e : List Expr} {t t' : TA} (h : PA X e t) (w : ∀ σ H Q, t' σ H Q → t σ H Q) : PA X e t' := ⟨fun pos pins s σ H Q I q => h.run pos pins s σ H Q I (w σ H Q q)⟩
theorem ps_weak {e : Stmt} {t t' : TS} (h : PS X e t) (w : ∀ D σ H, t' D σ H → t D σ H) : PS X e t' := ⟨fun pins s σ H D I q => h.run pins s σ H D I (w D σ H q)⟩
theorem pss_weak {e : List Stmt} {t t' : TS} (h : PSs X e t) (w : ∀ D σ H, t' D σ H → t D σ H) : PSs X e t' := ⟨fun pins s σ H D I q => h.run pins s σ H D I (w D σ H q)⟩

/-- a list may be locked behind an expression -/
def tFz (t : TE) : TE := fun σ H Q => t σ H fun v H1 => Q v H1 ∨ ∃ a ys, H1 a = some (.lst ys) ∧ ∀ o, Q v (upd H1 a (.frz o (.lst ys)))
theorem pe_fz {e : Expr} {t : TE} (h : PE X e t) : PE X e (tFz t) := by
  refine ⟨fun pins s σ H Q I hw => ?_⟩
  refine thn (h.run pins s σ H _ I hw) fun u s1 ⟨v, H1, I1, r, q⟩ => ?_
  rcases q with q | ⟨a, ys, e1, q⟩
  · exact ⟨v, H1, I1, r, q⟩
  · obtain ⟨o, I2⟩ := Inv.lock I1 e1 trivial
    exact ⟨v, _, I2, r, q o⟩

abbrev JE (X : Cx) (W : WX) (e : Expr) (c : Cd) : Prop := PE X e (tC X.K X.mg W c)
abbrev JT (X : Cx) (W : WX) (e : Expr) (c : Td) : Prop := PT X e (tT X.K X.mg W c)
abbrev JW (X : Cx) (W : WX) (e : Expr) (c : Td) : Prop := PW X e (tT X.K X.mg W c)
abbrev JA (X : Cx) (W : WX) (e : List Expr) (c : Ad) : Prop := PA X e (tA X.K X.mg W c)

theorem e_var {i : Nat} {x : Str} {pos : Pos} (hN : X.N[i]? = some x) (hv : Vis X.env.scope x) (hd : (x == ("__debug__" : Str)) = false := by decide) (hcd : (x == ("__classdict__" : Str)) = false := by decide) : JE X W (.Name x pos) (cVar i) :=
  pe_weak (pe_var hN hv hd hcd) fun σ H Q ⟨ρ, er, f⟩ => by
    unfold cVar at f
    cases e : slot ρ i with
    | none => rw [e] at f; exact f.elim
    | some b =>
      rw [e] at f
      obtain ⟨v, e1, _⟩ := er.den i b (slot_some e)
      exact ⟨v, e1, f v H (Pst.refl er) e1⟩
theorem e_c {e : Expr} {v : V} {x : PyData} (h : PE X e (L2.tC v)) (fz : ∀ H, Fz X.K H v x) : JE X W e (cK x) :=
  pe_weak h fun σ H Q ⟨ρ, er, f⟩ => f v H (Pst.refl er) (fz H)
theorem e_int {i : Int} {j : Nat} {pos : Pos} : JE X W (.Constant (.int i) j pos) (cK (.int i)) := e_c pe_int fun _ => .int i
theorem e_str {i : Str} {j : Nat} {pos : Pos} : JE X W (.Constant (.str i) j pos) (cK (.str i)) := e_c pe_str fun _ => .str i
theorem e_bl {i : Bool} {j : Nat} {pos : Pos} : JE X W (.Constant (.bool i) j pos) (cK (.bool i)) := e_c pe_bl fun _ => .bl i
theorem e_non {j : Nat} {pos : Pos} : JE X W (.Constant .none j pos) (cK .none) := e_c pe_non fun _ => .non
/-- a constant of the module -/
theorem e_glob {x : Str} {v : V} {u : Value} {d : PyData} {pos : Pos} (hg : Gl X x) (hm : X.mg x = some u) (r : RelV v u) (fz : ∀ H, Fz X.K H v d) (hd : (x == ("__debug__" : Str)) = false := by decide) : JE X W (.Name x pos) (cK d) :=
  e_c (pe_glob hg hm r hd) fz

theorem e_hold {e : Expr} {c : Cd} (h : JE X W e c) : JE X W e (cE c) :=
  pe_weak (pe_fz h) fun σ H Q ⟨ρ, er, f⟩ => by
    refine ⟨ρ, er, Fin.part f fun hd ρ1 _ f1 v H1 p dn => ?_⟩
    cases hd with
    | v b =>
      cases b with
      | d x => exact .inl (f1 v H1 p dn)
      | l xs =>
        obtain ⟨a, ys, rfl, h1, h2, no, fr⟩ := dn
        exact .inr ⟨a, ys, h1, fun o => f1 _ _ (p.frzTemp o h1 no fr) (.lst (.of upd_same) (h2.keep (stay_frz o h1)))⟩
    | s i =>
      simp only [hold] at f1
      cases e : slot ρ1 i with
      | none => rw [e] at f1; exact f1.elim
      | some b =>
        rw [e] at f1
        obtain ⟨v', e1, d1⟩ := p.env.den i b (slot_some e)
        have ev : v' = v := Option.some.inj (Option.some.inj (e1.symm.trans dn))
        subst ev
        cases b with
        | d x =>
          simp only [R.bind_ok, rd_d, set_same (slot_some e)] at f1
          exact .inl (f1 _ H1 p d1)
        | l xs =>
          obtain ⟨a, ys, rfl, h1, h2⟩ := d1
          exact .inr ⟨a, ys, h1, fun o => f1 _ _ (p.frzSlot o (slot_some e) e1 h1 h2) (.lst (.of upd_same) (h2.keep (stay_frz o h1)))⟩
theorem e_peek {e : Expr} {c : Cd} (h : JE X W e c) : JE X W e (cP c) :=
  pe_weak (pe_fz h) fun σ H Q ⟨ρ, er, f⟩ => by
    refine ⟨ρ, er, Fin.part f fun hd ρ1 _ f1 v H1 p dn => ?_⟩
    cases hd with
    | v b =>
      cases b with
      | d x => exact .inl (f1 v H1 p dn)
      | l xs =>
        obtain ⟨a, ys, rfl, h1, h2, no, fr⟩ := dn
        exact .inr ⟨a, ys, h1, fun o => f1 _ _ (p.frzTemp o h1 no fr) (.lst (.of upd_same) (h2.keep (stay_frz o h1)))⟩
    | s i => exact .inl (f1 v H1 p dn)

/-- what is given to an operator: data, or a slot's thing -/
def plainH : Hd → Prop
  | .v (.l _) => False
  | _ => True
def Pl (c : Cd) : Prop := ∀ ρ hd ρ1, c ρ = .ok hd ρ1 → plainH hd
theorem pl_var (i : Nat) : Pl (cVar i) := fun ρ hd ρ1 h => by
  unfold cVar at h
  cases e : slot ρ i with
  | none => rw [e] at h; cases h
  | some b => rw [e] at h; cases h; trivial
theorem pl_k (x : PyData) : Pl (cK x) := fun ρ hd ρ1 h => by cases h; trivial
theorem pl_E (c : Cd) : Pl (cE c) := fun ρ hd ρ1 h => by
  unfold cE at h
  cases e : c ρ with
  | ok h0 ρ0 =>
    rw [e, R.bind_ok] at h
    cases e1 : hold h0 ρ0 with
    | ok x ρ3 => rw [e1, R.bind_ok] at h; cases h; trivial
    | ex x ρ3 => rw [e1] at h; cases h
    | no => rw [e1] at h; cases h
  | ex x ρ0 => rw [e] at h; cases h
  | no => rw [e] at h; cases h
theorem pl_P (c : Cd) : Pl (cP c) := fun ρ hd ρ1 h => by
  unfold cP at h
  cases e : c ρ with
  | ok h0 ρ0 =>
    rw [e, R.bind_ok] at h
    cases h0 with
    | v b => cases h; trivial
    | s i => cases h; trivial
  | ex x ρ0 => rw [e] at h; cases h
  | no => rw [e] at h; cases h

section
variable {K : PySem.W.Frag} {H H1 H2 : Hp} {σ σ1 σ2 : St} {ρ ρ1 ρ2 : Env}
/-- a handle's thing, read at a later state -/
theorem DenR.vw {v : V} {hd : Hd} {x : PyData} (pl : plainH hd) (dn : DenR K H σ ρ H1 σ ρ1 v hd) (e1 : EnvRel K H1 σ ρ1) (q : Pst K H1 σ ρ1 H2 σ ρ2) (h : hd.rd ρ2 = some x) : Vw K H2 v x := by
  cases hd with
  | v b =>
    cases b with
    | d y => cases h; exact (q.fz e1 dn).vw
    | l xs => exact pl.elim
  | s i =>
    rw [hrd_s] at h
    cases e : slot ρ2 i with
    | none => rw [e] at h; cases h
    | some b =>
      rw [e] at h
      cases h
      obtain ⟨v', e2, d⟩ := q.env.den i b (slot_some e)
      have ev : v' = v := Option.some.inj (Option.some.inj (e2.symm.trans dn))
      subst ev
      cases b with
      | d y => exact Fz.vw d
      | l xs =>
        obtain ⟨a, ys, rfl, h1, h2⟩ := d
        exact .lst (.inl (.inl h1)) h2
end

/-- what an operation by values gives: something new, all that stood stands -/
def NewB (K : PySem.W.Frag) (H H1 : Hp) (v : V) (b : B) : Prop :=
  (∀ p o, H p = some o → H1 p = some o) ∧ match b with
    | .d x => Fz K H1 v x
    | .l xs => ∃ a ys, v = .ref a ∧ H1 a = some (.lst ys) ∧ FzAll K H1 ys xs ∧ H a = none
theorem NewB.fin {K : PySem.W.Frag} {mg : Str → Option Value} {H H1 H2 : Hp} {σ : St} {ρ ρ1 : Env} {v : V} {b : B} {Q : VK} (p : Pst K H σ ρ H1 σ ρ1) (n : NewB K H1 H2 v b)
    (f : Fin K mg W σ H ρ (fun H1 ρ1 v h => DenR K H σ ρ H1 σ ρ1 v h) (.ok (.v b) ρ1) Q) : Q v H2 := by
  have pg := Pst.grow p.env n.1
  refine f v H2 (p.trans pg) ?_
  refine DenR.start p (?_ : DenR K H1 σ ρ1 H2 σ ρ1 v (.v b))
  obtain ⟨k, n⟩ := n
  cases b with
  | d x => exact n
  | l xs =>
    obtain ⟨a, ys, e, h1, h2, h3⟩ := n
    refine ⟨a, ys, e, h1, h2, fun w => ?_, .inr (.of h3)⟩
    obtain ⟨zs, h4⟩ := p.env.owned w
    rw [h3] at h4
    cases h4

theorem Fin.laterC {K : PySem.W.Frag} {mg : Str → Option Value} {H H1 : Hp} {σ : St} {ρ ρ1 : Env} {r : R Hd} {Q : VK} (p : Pst K H σ ρ H1 σ ρ1)
    (f : Fin K mg W σ H ρ (fun H2 ρ2 v h => DenR K H σ ρ H2 σ ρ2 v h) r Q) : Fin K mg W σ H1 ρ1 (fun H2 ρ2 v h => DenR K H1 σ ρ1 H2 σ ρ2 v h) r Q :=
  Fin.later p (fun _ _ _ _ _ _ d => DenR.start p d) f

/-- an operation by values -/
def rB2 (K : PySem.W.Frag) (f : PyData → PyData → Option B) : V → V → Hp → VK → Prop := fun x y H Q => ∃ a b r, Vw K H x a ∧ Vw K H y b ∧ f a b = some r ∧ ∀ v H1, NewB K H H1 v r → Q v H1
def rB1 (K : PySem.W.Frag) (f : PyData → Option B) : V → Hp → VK → Prop := fun x H Q => ∃ a r, Vw K H x a ∧ f a = some r ∧ ∀ v H1, NewB K H H1 v r → Q v H1

theorem op_fin {f : PyData → PyData → Option B} {a b : Cd} (pa : Pl a) (pb : Pl b) {σ : St} {H : Hp} {Q : VK} (h : tC X.K X.mg W (cOp f a b) σ H Q) : tOp (rB2 X.K f) (tC X.K X.mg W a) (tC X.K X.mg W b) σ H Q := by
  obtain ⟨ρ, er, f0⟩ := h
  refine ⟨ρ, er, Fin.part f0 fun hd ρ1 c1 f1 v H1 p dn => ?_⟩
  refine ⟨ρ1, p.env, Fin.part (Fin.laterC p f1) fun hd2 ρ2 c2 f2 v2 H2 p2 dn2 => ?_⟩
  cases e1 : hd.rd ρ2 with
  | none => rw [e1] at f2; exact f2.elim
  | some x =>
    cases e2 : hd2.rd ρ2 with
    | none => rw [e1, e2] at f2; exact f2.elim
    | some y =>
      rw [e1, e2] at f2
      simp only at f2
      cases e3 : f x y with
      | none => rw [e3] at f2; exact f2.elim
      | some r =>
        rw [e3] at f2
        exact ⟨x, y, r, dn.vw (pa _ _ _ c1) p.env p2 e1, dn2.vw (pb _ _ _ c2) p2.env (Pst.refl p2.env) e2, e3, fun v3 H3 n => n.fin p2 f2⟩
theorem e_op {op : Operator} {f : PyData → PyData → Option B} {a b : Expr} {ca cb : Cd} {pos : Pos} (ho : OpR X (binaryOp op) (rB2 X.K f)) (ha : JE X W a ca) (hb : JE X W b cb) (pa : Pl ca) (pb : Pl cb) : JE X W (.BinOp a op b pos) (cOp f ca cb) :=
  pe_weak (pe_op ho ha hb) fun σ H Q h => op_fin pa pb h
theorem e_cmp {op : CmpOp} {f : PyData → PyData → Option B} {a b : Expr} {ca cb : Cd} {pos : Pos} (ho : OpR X (compareOp op) (rB2 X.K f)) (ha : JE X W a ca) (hb : JE X W b cb) (pa : Pl ca) (pb : Pl cb) (hm : behindInMarks op b = false) : JE X W (.Compare a [op] [b] pos) (cOp f ca cb) :=
  pe_weak (pe_cmpR ho ha hb hm) fun σ H Q h => op_fin pa pb h
theorem e_un {op : UnaryOp} {f : PyData → Option B} {a : Expr} {ca : Cd} {pos : Pos} (ho : UnR X (unaryOp op) (rB1 X.K f)) (ha : JE X W a ca) (pa : Pl ca) : JE X W (.UnaryOp op a pos) (cUn f ca) :=
  pe_weak (pe_un ho ha) fun σ H Q h => by
    obtain ⟨ρ, er, f0⟩ := h
    refine ⟨ρ, er, Fin.part f0 fun hd ρ1 c1 f1 v H1 p dn => ?_⟩
    cases e1 : hd.rd ρ1 with
    | none => rw [e1] at f1; exact f1.elim
    | some x =>
      rw [e1] at f1
      simp only at f1
      cases e3 : f x with
      | none => rw [e3] at f1; exact f1.elim
      | some r =>
        rw [e3] at f1
        exact ⟨x, r, dn.vw (pa _ _ _ c1) p.env (Pst.refl p.env) e1, e3, fun v3 H3 n => n.fin p f1⟩
end
end Sv
end
section
set_option autoImplicit false
set_option linter.all false
/-! Sv: choices, tests, arguments, displays, calls of built-ins, subscripts. -/
namespace Sv
open PySem PySem.Spec L2
open PyProof.Rows hiding St
variable [HasT]

section
variable {X : Cx} {W : WX}
section
variable {K : PySem.W.Frag} {mg : Str → Option Value} {H H1 H2 : Hp} {σ : St} {ρ ρ1 ρ2 : Env}
theorem Fin.laterT {β : Type} {r : R β} {Q : β → Hp → Prop} (p : Pst K H σ ρ H1 σ ρ1) (f : Fin K mg W σ H ρ (fun _ _ (v : β) k => v = k) r Q) : Fin K mg W σ H1 ρ1 (fun _ _ (v : β) k => v = k) r Q := Fin.later p (fun _ _ _ _ _ _ d => d) f
theorem Fin.laterA {r : R (List Hd)} {Q : List V → Hp → Prop} (p : Pst K H σ ρ H1 σ ρ1) (f : Fin K mg W σ H ρ (fun H1 _ v h => DenA K H1 σ v h) r Q) : Fin K mg W σ H1 ρ1 (fun H1 _ v h => DenA K H1 σ v h) r Q := Fin.later p (fun _ _ _ _ _ _ d => d) f
theorem Vw.bool {v : V} {k : Bool} (h : Vw K H v (.bool k)) : v = .bl k := by cases h; rfl
theorem Vw.int' {v : V} {k : Int} (h : Vw K H v (.int k)) : v = .int k := by cases h; rfl
theorem Vw.str' {v : V} {k : Str} (h : Vw K H v (.str k)) : v = .str k := by cases h; rfl
theorem Vw.non' {v : V} (h : Vw K H v .none) : v = .non := by cases h; rfl
end

theorem e_if {c a b : Expr} {t : Td} {ca cb : Cd} {pos : Pos} (hc : JT X W c t) (ha : JE X W a ca) (hb : JE X W b cb) : JE X W (.IfExp c a b pos) (cIf t ca cb) :=
  pe_weak (pe_ifExp hc ha hb) fun σ H Q ⟨ρ, er, f⟩ => by
    refine ⟨ρ, er, Fin.part f fun k ρ1 _ f1 v H1 p dn => ?_⟩
    subst dn
    cases v with
    | true => exact ⟨ρ1, p.env, Fin.laterC p f1⟩
    | false => exact ⟨ρ1, p.env, Fin.laterC p f1⟩
theorem e_one {op : BoolOp} {a : Expr} {ca : Cd} {pos : Pos} (ha : JE X W a ca) : JE X W (.BoolOp op [a] pos) ca := pe_one ha
theorem e_and {a b : Expr} {rest : List Expr} {ca cb : Cd} {pos : Pos} (ha : JE X W a ca) (pa : Pl ca) (hb : JE X W (.BoolOp .And (b :: rest) pos) cb) : JE X W (.BoolOp .And (a :: b :: rest) pos) (cAnd ca cb) :=
  pe_weak (pe_and ha hb) fun σ H Q ⟨ρ, er, f⟩ => by
    refine ⟨ρ, er, Fin.part f fun hd ρ1 c1 f1 v H1 p dn => ?_⟩
    cases e1 : hd.rd ρ1 with
    | none => rw [e1] at f1; exact f1.elim
    | some x =>
      rw [e1] at f1
      have hx := dn.vw (pa _ _ _ c1) p.env (Pst.refl p.env) e1
      cases x with
      | bool k =>
        cases Vw.bool hx
        cases k with
        | true => exact ⟨true, rfl, ρ1, p.env, Fin.laterC p f1⟩
        | false => exact ⟨false, rfl, f1 _ H1 p (.bl false)⟩
      | _ => exact f1.elim
theorem e_or {a b : Expr} {rest : List Expr} {ca cb : Cd} {pos : Pos} (ha : JE X W a ca) (pa : Pl ca) (hb : JE X W (.BoolOp .Or (b :: rest) pos) cb) : JE X W (.BoolOp .Or (a :: b :: rest) pos) (cOr ca cb) :=
  pe_weak (pe_or ha hb) fun σ H Q ⟨ρ, er, f⟩ => by
    refine ⟨ρ, er, Fin.part f fun hd ρ1 c1 f1 v H1 p dn => ?_⟩
    cases e1 : hd.rd ρ1 with
    | none => rw [e1] at f1; exact f1.elim
    | some x =>
      rw [e1] at f1
      have hx := dn.vw (pa _ _ _ c1) p.env (Pst.refl p.env) e1
      cases x with
      | bool k =>
        cases Vw.bool hx
        cases k with
        | true => exact ⟨true, rfl, f1 _ H1 p (.bl true)⟩
        | false => exact ⟨false, rfl, ρ1, p.env, Fin.laterC p f1⟩
      | _ => exact f1.elim
theorem e_not {a : Expr} {ca : Cd} {pos : Pos} (ha : JE X W a ca) (pa : Pl ca) : JE X W (.UnaryOp .Not a pos) (cNot ca) :=
  pe_weak (pe_not ha) fun σ H Q ⟨ρ, er, f⟩ => by
    refine ⟨ρ, er, Fin.part f fun hd ρ1 c1 f1 v H1 p dn => ?_⟩
    cases e1 : hd.rd ρ1 with
    | none => rw [e1] at f1; exact f1.elim
    | some x =>
      rw [e1] at f1
      have hx := dn.vw (pa _ _ _ c1) p.env (Pst.refl p.env) e1
      cases x with
      | bool k =>
        cases Vw.bool hx
        exact ⟨k, rfl, f1 _ H1 p (.bl (!k))⟩
      | _ => exact f1.elim

/-! ### tests -/
/-- an expression whose value is a bool, as a test -/
theorem t_val {a : Expr} {ca : Cd} (ha : JE X W a ca) (pa : Pl ca) (he : ∀ whole, isTrue a X.env whole = (do let v ← whole; standAt a.pos; holding [v] (truthy v)) := by intro _; rfl) : JT X W a (Sv.tB ca) :=
  pt_weak (pt_val ha he) fun σ H Q ⟨ρ, er, f⟩ => by
    refine ⟨ρ, er, Fin.part f fun hd ρ1 c1 f1 v H1 p dn => ?_⟩
    cases e1 : hd.rd ρ1 with
    | none => rw [e1] at f1; exact f1.elim
    | some x =>
      rw [e1] at f1
      have hx := dn.vw (pa _ _ _ c1) p.env (Pst.refl p.env) e1
      cases x with
      | bool k =>
        cases Vw.bool hx
        exact ⟨k, rfl, f1 k H1 p rfl⟩
      | _ => exact f1.elim
theorem t_cmp {op : CmpOp} {f : PyData → PyData → Option B} {a b : Expr} {ca cb : Cd} {pos : Pos} (ho : OpR X (compareOp op) (rB2 X.K f)) (ha : JE X W a ca) (hb : JE X W b cb) (pa : Pl ca) (pb : Pl cb) (hm : behindInMarks op b = false)
    (hp : ∀ x y r, f x y = some r → ∃ z, r = .d z) : JT X W (.Compare a [op] [b] pos) (Sv.tB (cOp f ca cb)) :=
  pt_weak (pt_cmpR ho ha hb hm) fun σ H Q ⟨ρ, er, f0⟩ => by
    refine op_fin (Q := fun x H1 => ∃ k, x = .bl k ∧ Q k H1) pa pb ⟨ρ, er, Fin.part f0 fun hd ρ1 c1 f1 v H1 p dn => ?_⟩
    have pl : plainH hd := by
      unfold cOp at c1
      cases e : ca ρ with
      | ok h0 ρ0 =>
        rw [e, R.bind_ok] at c1
        cases e' : cb ρ0 with
        | ok h2 ρ2 =>
          rw [e', R.bind_ok] at c1
          cases e1 : h0.rd ρ2 with
          | none => rw [e1] at c1; cases c1
          | some x =>
            cases e2 : h2.rd ρ2 with
            | none => rw [e1, e2] at c1; cases c1
            | some y =>
              rw [e1, e2] at c1
              simp only at c1
              cases e3 : f x y with
              | none => rw [e3] at c1; cases c1
              | some r =>
                rw [e3] at c1
                obtain ⟨z, rfl⟩ := hp x y r e3
                cases c1
                trivial
        | ex x ρ2 => rw [e'] at c1; cases c1
        | no => rw [e'] at c1; cases c1
      | ex x ρ0 => rw [e] at c1; cases c1
      | no => rw [e] at c1; cases c1
    cases e1 : hd.rd ρ1 with
    | none => rw [e1] at f1; exact f1.elim
    | some x =>
      rw [e1] at f1
      have hx := dn.vw pl p.env (Pst.refl p.env) e1
      cases x with
      | bool k =>
        cases Vw.bool hx
        exact ⟨k, rfl, f1 k H1 p rfl⟩
      | _ => exact f1.elim
theorem t_not {a : Expr} {t : Td} {pos : Pos} (ha : JT X W a t) : JT X W (.UnaryOp .Not a pos) (Sv.tNot t) :=
  pt_weak (pt_not ha) fun σ H Q ⟨ρ, er, f⟩ => by
    refine ⟨ρ, er, Fin.part f fun k ρ1 _ f1 v H1 p dn => ?_⟩
    subst dn
    exact f1 (!v) H1 p rfl
theorem w_and1 {a : Expr} {t : Td} {pos : Pos} (ha : JT X W a t) : JW X W (.BoolOp .And [a] pos) t := pw_and1 ha
theorem w_or1 {a : Expr} {t : Td} {pos : Pos} (ha : JT X W a t) : JW X W (.BoolOp .Or [a] pos) t := pw_or1 ha
theorem w_and {a b : Expr} {rest : List Expr} {t u : Td} {pos : Pos} (ha : JT X W a t) (hb : JW X W (.BoolOp .And (b :: rest) pos) u) : JW X W (.BoolOp .And (a :: b :: rest) pos) (Sv.tAnd t u) :=
  pw_weak (pw_and ha hb) fun σ H Q ⟨ρ, er, f⟩ => by
    refine ⟨ρ, er, Fin.part f fun k ρ1 _ f1 v H1 p dn => ?_⟩
    subst dn
    cases v with
    | true => exact ⟨ρ1, p.env, Fin.laterT p f1⟩
    | false => exact f1 false H1 p rfl
theorem w_or {a b : Expr} {rest : List Expr} {t u : Td} {pos : Pos} (ha : JT X W a t) (hb : JW X W (.BoolOp .Or (b :: rest) pos) u) : JW X W (.BoolOp .Or (a :: b :: rest) pos) (Sv.tOr t u) :=
  pw_weak (pw_or ha hb) fun σ H Q ⟨ρ, er, f⟩ => by
    refine ⟨ρ, er, Fin.part f fun k ρ1 _ f1 v H1 p dn => ?_⟩
    subst dn
    cases v with
    | true => exact f1 true H1 p rfl
    | false => exact ⟨ρ1, p.env, Fin.laterT p f1⟩
theorem t_w {a : Expr} {t : Td} (h : JW X W a t) : JT X W a t := h.pt

/-! ### arguments -/
theorem a_nil : JA X W [] aNil := pa_weak pa_nil fun σ H Q ⟨ρ, er, f⟩ => f [] H (Pst.refl er) .nil
section
variable {K : PySem.W.Frag} {H H1 H2 : Hp} {σ : St} {ρ ρ1 ρ2 : Env}
theorem DenA.of {v : V} {hd : Hd} {vs : List V} {hs : List Hd} (pl : plainH hd) (dn : DenR K H σ ρ H1 σ ρ1 v hd) (e1 : EnvRel K H1 σ ρ1) (q : Pst K H1 σ ρ1 H2 σ ρ2) (t : DenA K H2 σ vs hs) : DenA K H2 σ (v :: vs) (hd :: hs) := by
  cases hd with
  | v b => cases b with
    | d x => exact .data (q.fz e1 dn) t
    | l xs => exact pl.elim
  | s i => exact .slot dn t
theorem DenA.dps : ∀ {vs : List V} {hs : List Hd}, DenA K H σ vs hs → EnvRel K H σ ρ → ∀ {xs : List PyData}, rds hs ρ = some xs → VwAll K H vs xs
  | _, _, .nil, _, xs, h => by cases h; exact .nil
  | _, _, .data fz t, er, xs, h => by
    rw [rds_cons, hrd_v] at h
    cases e : rds _ ρ with
    | none => rw [e] at h; cases h
    | some ys => rw [e] at h; cases h; exact .cons fz.vw (DenA.dps t er e)
  | _, _, .slot (i := i) (v := v) hs t, er, xs, h => by
    rw [rds_cons] at h
    cases e1 : (Hd.s i).rd ρ with
    | none => rw [e1] at h; cases h
    | some y =>
      cases e : rds _ ρ with
      | none => rw [e1, e] at h; cases h
      | some ys =>
        rw [e1, e] at h
        cases h
        exact .cons (DenR.vw (H := H) (ρ := ρ) (hd := .s i) trivial hs er (Pst.refl er) e1) (DenA.dps t er e)
theorem DenA.datas : ∀ {vs : List V} {hs : List Hd}, DenA K H σ vs hs → ∀ {xs : List PyData}, Sv.datas hs = some xs → FzAll K H vs xs
  | _, _, .nil, xs, h => by cases h; exact .nil
  | _, _, .data fz t, xs, h => by
    rw [datas_cons] at h
    cases e : Sv.datas _ with
    | none => rw [e] at h; cases h
    | some ys => rw [e] at h; cases h; exact .cons fz (DenA.datas t e)
  | _, _, .slot _ _, xs, h => by cases h
end
theorem a_cons {e : Expr} {es : List Expr} {c : Cd} {a : Ad} (ha : JE X W e c) (pl : Pl c) (hr : JA X W es a) (hs : starEach (e :: es) X.env = (false, eval e X.env) :: starEach es X.env := by rfl) : JA X W (e :: es) (aCons c a) :=
  pa_weak (pa_cons ha hr hs) fun σ H Q ⟨ρ, er, f⟩ => by
    refine ⟨ρ, er, Fin.part f fun hd ρ1 c1 f1 v H1 p dn => ?_⟩
    refine ⟨ρ1, p.env, Fin.part (Fin.laterA p f1) fun hs ρ2 c2 f2 vs H2 p2 dn2 => ?_⟩
    exact f2 (v :: vs) H2 p2 (DenA.of (pl _ _ _ c1) dn p.env p2 dn2)

/-! ### displays -/
theorem new_tup {K : PySem.W.Frag} {H : Hp} {p : Addr} {vs : List V} {xs : List PyData} (hp : H p = none) (h : FzAll K H vs xs) : NewB K H (upd H p (.tup vs)) (.ref p) (.d (.tuple xs)) :=
  ⟨grow_upd hp, .tup (.inl (.inl upd_same)) (h.keep fun b o e _ => grow_upd hp b o e)⟩
theorem new_lst {K : PySem.W.Frag} {H : Hp} {p : Addr} {vs : List V} {xs : List PyData} (hp : H p = none) (h : FzAll K H vs xs) : NewB K H (upd H p (.lst vs)) (.ref p) (.l xs) :=
  ⟨grow_upd hp, p, vs, rfl, upd_same, h.keep fun b o e _ => grow_upd hp b o e, hp⟩
theorem e_tup {es : List Expr} {a : Ad} {x1 : Nat} {pos : Pos} (h : JA X W es a) : JE X W (.Tuple es x1 pos) (cTup a) :=
  pe_weak (pe_tup h) fun σ H Q ⟨ρ, er, f⟩ => by
    refine ⟨ρ, er, Fin.part f fun hs ρ1 c1 f1 vs H1 p dn => ?_⟩
    cases e : Sv.datas hs with
    | none => rw [e] at f1; exact f1.elim
    | some xs =>
      rw [e] at f1
      simp only at f1
      split at f1
      · rename_i hl
        have hx := dn.datas e
        exact ⟨by rw [hx.length]; exact hl, fun q hq => (new_tup hq hx).fin p f1⟩
      · exact f1.elim
theorem e_lst {es : List Expr} {a : Ad} {pos : Pos} (h : JA X W es a) : JE X W (.List es pos) (cLst a) :=
  pe_weak (pe_lst h) fun σ H Q ⟨ρ, er, f⟩ => by
    refine ⟨ρ, er, Fin.part f fun hs ρ1 c1 f1 vs H1 p dn => ?_⟩
    cases e : Sv.datas hs with
    | none => rw [e] at f1; exact f1.elim
    | some xs =>
      rw [e] at f1
      simp only at f1
      split at f1
      · rename_i hl
        have hx := dn.datas e
        exact ⟨by rw [hx.length]; exact hl, fun q hq => (new_lst hq hx).fin p f1⟩
      · exact f1.elim

/-! ### built-ins -/
def rBn (K : PySem.W.Frag) (f : List PyData → Option B) : List V → Hp → VK → Prop := fun vs H Q => ∃ xs r, VwAll K H vs xs ∧ f xs = some r ∧ ∀ v H1, NewB K H H1 v r → Q v H1
theorem call_fin {f : List PyData → Option B} {a : Ad} {σ : St} {H : Hp} {Q : VK} (h : tC X.K X.mg W (cCall f a) σ H Q) : tCB (rBn X.K f) (tA X.K X.mg W a) σ H Q := by
  obtain ⟨ρ, er, f0⟩ := h
  refine ⟨ρ, er, Fin.part f0 fun hs ρ1 c1 f1 vs H1 p dn => ?_⟩
  cases e : rds hs ρ1 with
  | none => rw [e] at f1; exact f1.elim
  | some xs =>
    rw [e] at f1
    simp only at f1
    cases e3 : f xs with
    | none => rw [e3] at f1; exact f1.elim
    | some r =>
      rw [e3] at f1
      exact ⟨xs, r, dn.dps p.env e, e3, fun v H2 n => n.fin p f1⟩
theorem e_callB {x : Str} {p pos : Pos} {e : Expr} {es : List Expr} {id : String} {f : List PyData → Option B} {a : Ad} (hc : CallR X (.builtin id) (rBn X.K f)) (hg : Gl X x) (hm : X.mg x = none) (hv : bootBuiltins x = some (.builtin id)) (ha : JA X W (e :: es) a) (hn : x ≠ "__name__" := by decide) (hdb : (x == ("__debug__" : Str)) = false := by decide)
    (he : starEach (e :: es) X.env = (false, eval e X.env) :: starEach es X.env := by rfl) (hpl : (backTo pos (starEach es X.env)).any (·.1) = false := by rfl) : JE X W (.Call (.Name x p) (e :: es) [] pos) (cCall f a) :=
  pe_weak (pe_callB hc hg hm hv ha hn hdb he hpl) fun σ H Q h => call_fin h
theorem e_callTy {x : Str} {p pos : Pos} {e : Expr} {es : List Expr} {T : String} {f : List PyData → Option B} {a : Ad} (hc : CallR X (.type T) (rBn X.K f)) (hg : Gl X x) (hm : X.mg x = none) (hv : bootBuiltins x = some (.type T)) (ha : JA X W (e :: es) a) (hn : x ≠ "__name__" := by decide) (hdb : (x == ("__debug__" : Str)) = false := by decide)
    (he : starEach (e :: es) X.env = (false, eval e X.env) :: starEach es X.env := by rfl) (hpl : (backTo pos (starEach es X.env)).any (·.1) = false := by rfl) : JE X W (.Call (.Name x p) (e :: es) [] pos) (cCall f a) :=
  pe_weak (pe_callTy hc hg hm hv ha hn hdb he hpl) fun σ H Q h => call_fin h
/-! ### subscripts -/
theorem e_ix {a b : Expr} {f : PyData → PyData → Option B} {ca cb : Cd} {pos : Pos} (hr : IxR X (rB2 X.K f)) (ha : JE X W a ca) (hb : JE X W b cb) (pa : Pl ca) (pb : Pl cb) (hs : PlainIx b) : JE X W (.Subscript a b pos) (cOp f ca cb) :=
  pe_weak (pe_ix hr ha hb hs) fun σ H Q h => op_fin pa pb h
end
end Sv
end
section
set_option autoImplicit false
set_option linter.all false
/-! Sv: statements. -/
namespace Sv
open PySem PySem.Spec L2
open PyProof.Rows hiding St
variable [HasT]

/-- the slots that are never stored to keep their values -/
structure Fx (io : List Nat) (σ σ1 : St) : Prop where
  len : σ1.length = σ.length
  at_ : ∀ j ∈ io, σ1[j]? = σ[j]?
theorem Fx.refl {io : List Nat} {σ : St} : Fx io σ σ := ⟨rfl, fun _ _ => rfl⟩
theorem Fx.trans {io : List Nat} {σ σ1 σ2 : St} (a : Fx io σ σ1) (b : Fx io σ1 σ2) : Fx io σ σ2 := ⟨b.len.trans a.len, fun j h => (b.at_ j h).trans (a.at_ j h)⟩
theorem Fx.set {io : List Nat} {σ : St} {i : Nat} {v : Option V} (h : i ∉ io) : Fx io σ (σ.set i v) := ⟨List.length_set, fun j hj => List.getElem?_set_ne fun (e : i = j) => h (by rw [e]; exact hj)⟩

def FinS (K : PySem.W.Frag) (mg : Str → Option Value) (W : WX) (io : List Nat) (D : Ends) (σ : St) (H : Hp) (ρ : Env) (r : RS) : Prop :=
  match r with
  | .nx ρ1 => ∀ σ1 H1, Pst K H σ ρ H1 σ1 ρ1 → Fx io σ σ1 → D.nx σ1 H1
  | .bk ρ1 => ∀ σ1 H1, Pst K H σ ρ H1 σ1 ρ1 → Fx io σ σ1 → D.bk σ1 H1
  | .ct ρ1 => ∀ σ1 H1, Pst K H σ ρ H1 σ1 ρ1 → Fx io σ σ1 → D.ct σ1 H1
  | .rt b ρ1 => ∀ v σ1 H1, Pst K H σ ρ H1 σ1 ρ1 → Fx io σ σ1 → DenR K H σ ρ H1 σ1 ρ1 v (.v b) → D.rt v H1
  | .ex x ρ1 => ∀ cls dd σ1 H1, Pst K H σ ρ H1 σ1 ρ1 → Fx io σ σ1 → ExRel K mg H1 x cls dd → W cls dd σ1 H1
  | .no => False
def tS (K : PySem.W.Frag) (mg : Str → Option Value) (W : WX) (io : List Nat) (c : Sd) : TS := fun D σ H => ∃ ρ, EnvRel K H σ ρ ∧ FinS K mg W io D σ H ρ (c ρ)

section
variable {K : PySem.W.Frag} {mg : Str → Option Value} {W : WX} {io : List Nat} {D : Ends} {H H1 H2 : Hp} {σ σ1 σ2 : St} {ρ ρ1 ρ2 : Env}
theorem FinS.later {r : RS} (p : Pst K H σ ρ H1 σ1 ρ1) (x : Fx io σ σ1) (f : FinS K mg W io D σ H ρ r) : FinS K mg W io D σ1 H1 ρ1 r := by
  cases r with
  | nx ρ2 => exact fun σ2 H2 q y => f σ2 H2 (p.trans q) (x.trans y)
  | bk ρ2 => exact fun σ2 H2 q y => f σ2 H2 (p.trans q) (x.trans y)
  | ct ρ2 => exact fun σ2 H2 q y => f σ2 H2 (p.trans q) (x.trans y)
  | rt b ρ2 => exact fun v σ2 H2 q y d => f v σ2 H2 (p.trans q) (x.trans y) (DenR.start p d)
  | ex e ρ2 => exact fun cls dd σ2 H2 q y d => f cls dd σ2 H2 (p.trans q) (x.trans y) d
  | no => exact f
/-- an expression ahead of a statement's rest -/
theorem FinS.part {α β : Type} {Rel : Hp → Env → β → α → Prop} {r : R α} {k : α → Env → RS} {G : β → Hp → Prop}
    (f : FinS K mg W io D σ H ρ (r.toS k)) (g : ∀ a ρ1, r = .ok a ρ1 → FinS K mg W io D σ H ρ (k a ρ1) → ∀ v H1, Pst K H σ ρ H1 σ ρ1 → Rel H1 ρ1 v a → G v H1) : Fin K mg W σ H ρ Rel r G := by
  cases r with
  | ok a ρ1 => exact fun v H1 p d => g a ρ1 rfl f v H1 p d
  | ex x ρ1 => exact fun cls dd H1 p d => f cls dd σ H1 p .refl d
  | no => exact f
/-- a statement ahead of others -/
theorem FinS.seq {r : RS} {k : Env → RS} {D' : Ends} (hr : D'.rt = D.rt) (hb : D'.bk = D.bk) (hc : D'.ct = D.ct)
    (f : FinS K mg W io D σ H ρ (r.seq k)) (g : ∀ ρ1, r = .nx ρ1 → FinS K mg W io D σ H ρ (k ρ1) → ∀ σ1 H1, Pst K H σ ρ H1 σ1 ρ1 → Fx io σ σ1 → D'.nx σ1 H1) : FinS K mg W io D' σ H ρ r := by
  cases r with
  | nx ρ1 => exact fun σ1 H1 p x => g ρ1 rfl f σ1 H1 p x
  | bk ρ2 => exact fun σ2 H2 q y => by rw [hb]; exact f σ2 H2 q y
  | ct ρ2 => exact fun σ2 H2 q y => by rw [hc]; exact f σ2 H2 q y
  | rt b ρ2 => exact fun v σ2 H2 q y d => by rw [hr]; exact f v σ2 H2 q y d
  | ex e ρ2 => exact f
  | no => exact f

/-! ### stores -/
theorem own_set {i : Nat} {v : Option V} {b : Option B} {a : Addr} (er : EnvRel K H σ ρ) (h : Own (σ.set i v) (ρ.set i b) a) : Own σ ρ a ∨ (v = some (.ref a) ∧ ∃ xs, b = some (.l xs)) := by
  obtain ⟨j, xs, h1, h2⟩ := h
  by_cases hj : i = j
  · subst hj
    by_cases hl : i < ρ.length
    · rw [List.getElem?_set_self hl] at h1
      rw [List.getElem?_set_self (by rw [← er.len]; exact hl)] at h2
      exact .inr ⟨Option.some.inj h2, xs, Option.some.inj h1⟩
    · rw [List.set_eq_of_length_le (by omega)] at h1
      rw [List.set_eq_of_length_le (by rw [← er.len]; omega)] at h2
      exact .inl ⟨i, xs, h1, h2⟩
  · rw [List.getElem?_set_ne hj] at h1 h2
    exact .inl ⟨j, xs, h1, h2⟩
/-- a slot gets a value: data, or a list that no slot owns -/
theorem EnvRel.put {i : Nat} {v : V} {b : B} (er : EnvRel K H σ ρ) (hd : DenB K H v b) (hn : ∀ xs a, b = .l xs → v = .ref a → ¬ Own σ ρ a) : EnvRel K H (σ.set i (some v)) (ρ.set i (some b)) := by
  refine ⟨er.tab, by rw [List.length_set, List.length_set]; exact er.len, fun j c hc => ?_, fun j k xs ys a h1 h2 h3 h4 => ?_⟩
  · by_cases hj : i = j
    · subst hj
      by_cases hl : i < ρ.length
      · rw [List.getElem?_set_self hl] at hc
        cases hc
        exact ⟨v, List.getElem?_set_self (by rw [← er.len]; exact hl), hd⟩
      · rw [List.set_eq_of_length_le (by omega)] at hc
        exact absurd (List.getElem?_eq_some_iff.mp hc).1 hl
    · rw [List.getElem?_set_ne hj] at hc ⊢
      exact er.den j c hc
  · by_cases hl : i < ρ.length
    · have hl' : i < σ.length := by rw [← er.len]; exact hl
      by_cases hj : i = j
      · subst hj
        by_cases hk : i = k
        · exact hk
        · rw [List.getElem?_set_self hl] at h1
          rw [List.getElem?_set_self hl'] at h3
          rw [List.getElem?_set_ne hk] at h2 h4
          exact absurd ⟨k, ys, h2, h4⟩ (hn xs a (Option.some.inj (Option.some.inj h1)) (Option.some.inj (Option.some.inj h3)))
      · by_cases hk : i = k
        · subst hk
          rw [List.getElem?_set_self hl] at h2
          rw [List.getElem?_set_self hl'] at h4
          rw [List.getElem?_set_ne hj] at h1 h3
          exact absurd ⟨j, xs, h1, h3⟩ (hn ys a (Option.some.inj (Option.some.inj h2)) (Option.some.inj (Option.some.inj h4)))
        · rw [List.getElem?_set_ne hj] at h1 h3
          rw [List.getElem?_set_ne hk] at h2 h4
          exact er.inj j k xs ys a h1 h2 h3 h4
    · rw [List.set_eq_of_length_le (by omega)] at h1 h2
      rw [List.set_eq_of_length_le (by rw [← er.len]; omega)] at h3 h4
      exact er.inj j k xs ys a h1 h2 h3 h4
theorem Pst.put {i : Nat} {v : V} {b : B} (p : Pst K H σ ρ H1 σ1 ρ1) (d : DenR K H σ ρ H1 σ1 ρ1 v (.v b)) : Pst K H σ ρ H1 (σ1.set i (some v)) (ρ1.set i (some b)) := by
  cases b with
  | d x =>
    refine ⟨p.env.put (b := .d x) d (fun xs a e => nomatch e), p.keep, fun a w => ?_⟩
    rcases own_set p.env w with w | ⟨_, xs, e⟩
    · exact p.own a w
    · cases e
  | l xs =>
    obtain ⟨a, ys, rfl, h1, h2, h3, h4⟩ := d
    refine ⟨p.env.put (b := .l xs) ⟨a, ys, rfl, h1, h2⟩ (fun _ a' _ e => by cases e; exact h3), p.keep, fun a' w => ?_⟩
    rcases own_set p.env w with w | ⟨e, _⟩
    · exact p.own a' w
    · cases e
      exact h4
/-- a slot is forgotten -/
theorem EnvRel.drop {i : Nat} (er : EnvRel K H σ ρ) : EnvRel K H σ (ρ.set i none) := by
  have sub : ∀ {j : Nat} {b : B}, (ρ.set i none)[j]? = some (some b) → ρ[j]? = some (some b) ∧ i ≠ j := fun {j b} h => by
    by_cases hj : i = j
    · subst hj
      by_cases hl : i < ρ.length
      · rw [List.getElem?_set_self hl] at h; cases h
      · rw [List.set_eq_of_length_le (by omega)] at h
        exact absurd (List.getElem?_eq_some_iff.mp h).1 hl
    · rw [List.getElem?_set_ne hj] at h
      exact ⟨h, hj⟩
  exact ⟨er.tab, by rw [List.length_set]; exact er.len, fun j b h => er.den j b (sub h).1, fun j k xs ys a h1 h2 => er.inj j k xs ys a (sub h1).1 (sub h2).1⟩
theorem own_drop {i : Nat} {a : Addr} (h : Own σ (ρ.set i none) a) : Own σ ρ a := by
  obtain ⟨j, xs, h1, h2⟩ := h
  by_cases hj : i = j
  · subst hj
    by_cases hl : i < ρ.length
    · rw [List.getElem?_set_self hl] at h1; cases h1
    · rw [List.set_eq_of_length_le (by omega)] at h1
      exact ⟨i, xs, h1, h2⟩
  · rw [List.getElem?_set_ne hj] at h1
    exact ⟨j, xs, h1, h2⟩
theorem Pst.drop {i : Nat} (p : Pst K H σ ρ H1 σ1 ρ1) : Pst K H σ ρ H1 σ1 (ρ1.set i none) := ⟨p.env.drop, p.keep, fun a w => p.own a (own_drop w)⟩
end

section
variable {X : Cx} {W : WX} {io : List Nat}
abbrev JS (X : Cx) (W : WX) (io : List Nat) (st : Stmt) (c : Sd) : Prop := PS X st (tS X.K X.mg W io c)
abbrev JB (X : Cx) (W : WX) (io : List Nat) (st : List Stmt) (c : Sd) : Prop := PSs X st (tS X.K X.mg W io c)

theorem b_nil : JB X W io [] sNil := pss_weak pss_nil fun D σ H ⟨ρ, er, f⟩ => f σ H (Pst.refl er) .refl
theorem b_cons {st : Stmt} {rest : List Stmt} {a b : Sd} (ha : JS X W io st a) (hb : JB X W io rest b) : JB X W io (st :: rest) (sCons a b) :=
  pss_weak (pss_cons ha hb) fun D σ H ⟨ρ, er, f⟩ => ⟨ρ, er, FinS.seq (D := D) (k := b) rfl rfl rfl f fun ρ1 _ f1 σ1 H1 p x => ⟨ρ1, p.env, FinS.later p x f1⟩⟩
theorem b_one {st : Stmt} {a : Sd} (ha : JS X W io st a) : JB X W io [st] a := pss_one ha
theorem s_pass {pos : Pos} : JS X W io (.Pass pos) sPass := ps_weak ps_pass fun D σ H ⟨ρ, er, f⟩ => f σ H (Pst.refl er) .refl
theorem s_break {pos : Pos} : JS X W io (.Break pos) sBreak := ps_weak ps_break fun D σ H ⟨ρ, er, f⟩ => f σ H (Pst.refl er) .refl
theorem s_cont {pos : Pos} : JS X W io (.Continue pos) sCont := ps_weak ps_continue fun D σ H ⟨ρ, er, f⟩ => f σ H (Pst.refl er) .refl
theorem s_expr {e : Expr} {c : Cd} {pos : Pos} (h : JE X W e c) (hs : swapsWith e none pos.line X.env = pure false := by rfl) : JS X W io (.Expr e pos) (sExpr c) :=
  ps_weak (ps_expr h hs) fun D σ H ⟨ρ, er, f⟩ => ⟨ρ, er, FinS.part f fun hd ρ1 _ f1 v H1 p _ => f1 σ H1 p .refl⟩
theorem s_ret {e : Expr} {c : Cd} {pos : Pos} (h : JE X W e c) : JS X W io (.Return (some e) pos) (sRet c) :=
  ps_weak (ps_ret h) fun D σ H ⟨ρ, er, f⟩ => by
    refine ⟨ρ, er, FinS.part f fun hd ρ1 _ f1 v H1 p dn => ?_⟩
    cases hd with
    | v b => exact f1 v σ H1 p .refl dn
    | s i =>
      simp only at f1
      cases e : slot ρ1 i with
      | none => rw [e] at f1; exact f1.elim
      | some b =>
        rw [e] at f1
        obtain ⟨v', e1, d1⟩ := p.env.den i b (slot_some e)
        have ev : v' = v := Option.some.inj (Option.some.inj (e1.symm.trans dn))
        subst ev
        refine f1 _ σ H1 p.drop .refl ?_
        cases b with
        | d x => exact d1
        | l xs =>
          obtain ⟨a, ys, rfl, h1, h2⟩ := d1
          refine ⟨a, ys, rfl, h1, h2, fun w => ?_, p.own a ⟨i, xs, slot_some e, e1⟩⟩
          obtain ⟨j, zs, w1, w2⟩ := w
          have hj : i ≠ j := fun z => by
            subst z
            have hl : i < ρ1.length := (List.getElem?_eq_some_iff.mp (slot_some e)).1
            rw [List.getElem?_set_self hl] at w1
            cases w1
          rw [List.getElem?_set_ne hj] at w1
          exact hj (p.env.inj i j xs zs a (slot_some e) w1 e1 w2)
theorem s_retN {pos : Pos} : JS X W io (.Return none pos) sRetN := ps_weak ps_retN fun D σ H ⟨ρ, er, f⟩ => f .non σ H (Pst.refl er) .refl .non
theorem s_if {c : Expr} {a b : List Stmt} {t : Td} {sa sb : Sd} {pos : Pos} (hc : JT X W c t) (ha : JB X W io a sa) (hb : JB X W io b sb) : JS X W io (.If c a b pos) (sIf t sa sb) :=
  ps_weak (ps_if hc ha hb) fun D σ H ⟨ρ, er, f⟩ => by
    refine ⟨ρ, er, FinS.part f fun k ρ1 _ f1 v H1 p dn => ?_⟩
    subst dn
    cases v with
    | true => exact ⟨ρ1, p.env, FinS.later p .refl f1⟩
    | false => exact ⟨ρ1, p.env, FinS.later p .refl f1⟩
/-- x = e -/
theorem s_set {i : Nat} {x : Str} {e : Expr} {c : Cd} {pos pos' : Pos} (hN : X.N.Nodup) (hi : X.N[i]? = some x) (hx : Loc X.env.scope x) (h : JE X W e c) (hio : i ∉ io)
    (hst : swapsWith e (some (.Name x pos')) pos.line X.env = pure false := by rfl) (hf : X.fn x = true ∨ X.env.scope.names.lookup x = some .local := by first | exact .inl rfl | exact .inr rfl | assumption) :
    JS X W io (.Assign [.Name x pos'] e pos) (sSet i c) :=
  ps_weak (ps_asg (pe_fz h) (pg_name hN hi hx hf) hst) fun D σ H ⟨ρ, er, f⟩ => by
    refine ⟨ρ, er, FinS.part f fun hd ρ1 _ f1 v H1 p dn => ?_⟩
    cases hd with
    | v b => exact .inl (f1 _ H1 (p.put dn) (Fx.set hio))
    | s j =>
      simp only [Sv.put] at f1
      cases e : slot ρ1 j with
      | none => rw [e] at f1; exact f1.elim
      | some b =>
        rw [e] at f1
        obtain ⟨v', e1, d1⟩ := p.env.den j b (slot_some e)
        have ev : v' = v := Option.some.inj (Option.some.inj (e1.symm.trans dn))
        subst ev
        cases b with
        | d x =>
          simp only [rd_d, set_same (slot_some e)] at f1
          exact .inl (f1 _ H1 (p.put (b := .d x) d1) (Fx.set hio))
        | l xs =>
          obtain ⟨a, ys, rfl, h1, h2⟩ := d1
          refine .inr ⟨a, ys, h1, fun o => ?_⟩
          have p2 := p.frzSlot o (slot_some e) e1 h1 h2
          exact f1 _ _ (p2.put (b := .d (.list xs)) (.lst (.of upd_same) (h2.keep (stay_frz o h1)))) (Fx.set hio)
theorem s_while {c : Expr} {body : List Stmt} {t : Td} {b : Sd} {pos : Pos} (n : Nat) (hp : PassesOwn (model X.prog X.w) X.A X.env X.xe) (hc : JT X W c t) (hb : JB X W io body b) : JS X W io (.While c body [] pos) (sWhile t b n) :=
  ps_weak (ps_while hp hc hb) fun D σ H h => by
    refine ⟨fun m σ H => tS X.K X.mg W io (sWhile t b m) D σ H, ⟨n, h⟩, fun m σ H h => ?_⟩
    obtain ⟨ρ, er, f⟩ := h
    cases m with
    | zero => exact f.elim
    | succ m =>
      refine ⟨ρ, er, FinS.part f fun k ρ1 _ f1 v H1 p dn => ?_⟩
      subst dn
      cases v with
      | false => exact f1 σ H1 p .refl
      | true =>
        refine ⟨fun σ' H' => tS X.K X.mg W io (sWhile t b m) D σ' H', fun σ' H' h => ⟨m, Nat.lt_succ_self m, h⟩, ρ1, p.env, ?_⟩
        have f2 := FinS.later p .refl f1
        simp only [if_pos] at f2
        cases e : b ρ1 with
        | nx ρ2 => rw [e] at f2; exact fun σ2 H2 q x => ⟨ρ2, q.env, FinS.later q x f2⟩
        | ct ρ2 => rw [e] at f2; exact fun σ2 H2 q x => ⟨ρ2, q.env, FinS.later q x f2⟩
        | bk ρ2 => rw [e] at f2; exact f2
        | rt b ρ2 => rw [e] at f2; exact f2
        | ex x ρ2 => rw [e] at f2; exact f2
        | no => rw [e] at f2; exact f2
end
end Sv
end
section
set_option autoImplicit false
set_option linter.all false
/-! Sv: defs and their calls. -/
namespace Sv
open PySem PySem.Spec L2
open PyProof.Rows hiding St
variable [HasT]

/-- room for k calls, and no repr under way -/
structure RoomG (k : Nat) (A : Around) : Prop where
  room : Room k A
  gd : A.guards = some []
theorem RoomG.mono {j k : Nat} {A : Around} (r : RoomG k A) (h : j ≤ k) : RoomG j A := ⟨r.room.mono h, r.gd⟩

section
variable {K : PySem.W.Frag} {H H1 H2 : Hp} {σ σ1 : St} {ρ ρ1 : Env} {vs : List V} {bs : List B} {io : List Nat}
theorem outF_len (io : List Nat) (e : Env) : ∀ (bs : List B) (j : Nat), (outF io e j bs).length = bs.length
  | [], _ => rfl
  | _ :: r, j => by
    show (outF io e (j + 1) r).length + 1 = r.length + 1
    rw [outF_len io e r (j + 1)]
theorem outF_get (io : List Nat) (e : Env) : ∀ (bs : List B) (j i : Nat) (b : B), (outF io e j bs)[i]? = some (some b) → (j + i ∈ io ∧ slot e (j + i) = some b) ∨ ∃ x, b = .d x ∧ bs[i]? = some (.d x)
  | [], _, _, _, h => by cases h
  | c :: r, j, 0, b, h => by
    by_cases hc : io.contains j = true
    · have h' : (if io.contains j = true then slot e j else _) = some b := Option.some.inj h
      rw [if_pos hc] at h'
      exact .inl ⟨by simpa using hc, h'⟩
    · have h' : (if io.contains j = true then slot e j else _) = some b := Option.some.inj h
      rw [if_neg hc] at h'
      cases c with
      | d x => cases h'; exact .inr ⟨x, rfl, rfl⟩
      | l xs => cases h'
  | c :: r, j, i + 1, b, h => by
    have h' : (outF io e (j + 1) r)[i]? = some (some b) := h
    rcases outF_get io e r (j + 1) i b h' with ⟨h1, h2⟩ | ⟨x, h1, h2⟩
    · have e1 : j + 1 + i = j + (i + 1) := by omega
      rw [e1] at h1 h2
      exact .inl ⟨h1, h2⟩
    · exact .inr ⟨x, h1, h2⟩
theorem start_get {N : List Str} {i : Nat} {v : V} : (L2.start N vs)[i]? = some (some v) ↔ (vs.map some)[i]? = some (some v) := by
  unfold L2.start
  by_cases hi : i < vs.length
  · rw [List.getElem?_append_left (by simpa using hi)]
  · rw [List.getElem?_append_right (by simpa using hi), List.getElem?_replicate, List.getElem?_eq_none (by simpa using hi)]
    constructor
    · intro h; split at h <;> cases h
    · intro h; cases h
theorem startB_get {n i : Nat} {b : B} : (bs.map some ++ List.replicate n none)[i]? = some (some b) ↔ (bs.map some)[i]? = some (some b) := by
  by_cases hi : i < bs.length
  · rw [List.getElem?_append_left (by simpa using hi)]
  · rw [List.getElem?_append_right (by simpa using hi), List.getElem?_replicate, List.getElem?_eq_none (by simpa using hi)]
    constructor
    · intro h; split at h <;> cases h
    · intro h; cases h
theorem own_start {N : List Str} {n : Nat} {a : Addr} : Own (L2.start N vs) (bs.map some ++ List.replicate n none) a ↔ Own (vs.map some) (bs.map some) a := by
  constructor
  · rintro ⟨i, xs, h1, h2⟩
    exact ⟨i, xs, startB_get.mp h1, start_get.mp h2⟩
  · rintro ⟨i, xs, h1, h2⟩
    exact ⟨i, xs, startB_get.mpr h1, start_get.mpr h2⟩
theorem EnvRel.start {N : List Str} (er : EnvRel K H (vs.map some) (bs.map some)) (hl : vs.length ≤ N.length) : EnvRel K H (L2.start N vs) (bs.map some ++ List.replicate (N.length - bs.length) none) := by
  have e0 : bs.length = vs.length := by simpa using er.len
  refine ⟨er.tab, by unfold L2.start; simp [e0], fun i b h => ?_, fun i j xs ys a h1 h2 h3 h4 => er.inj i j xs ys a (startB_get.mp h1) (startB_get.mp h2) (start_get.mp h3) (start_get.mp h4)⟩
  obtain ⟨v, h1, h2⟩ := er.den i b (startB_get.mp h)
  exact ⟨v, start_get.mpr h1, h2⟩
/-- back from a body to its caller -/
theorem own_out {N : List Str} {n : Nat} (p : Pst K H (L2.start N vs) (bs.map some ++ List.replicate n none) H1 σ1 ρ1) (x : Fx io (L2.start N vs) σ1) {a : Addr} (h : Own (vs.map some) (outF io ρ1 0 bs) a) : Own σ1 ρ1 a := by
  obtain ⟨i, xs, h1, h2⟩ := h
  rcases outF_get io ρ1 bs 0 i _ h1 with ⟨hi, hs⟩ | ⟨y, e, _⟩
  · rw [Nat.zero_add] at hi hs
    exact ⟨i, xs, slot_some hs, by rw [x.at_ i hi]; exact start_get.mpr h2⟩
  · cases e
theorem Pst.out {N : List Str} {n : Nat} (er : EnvRel K H (vs.map some) (bs.map some)) (er0 : EnvRel K H (L2.start N vs) (bs.map some ++ List.replicate n none)) (p : Pst K H (L2.start N vs) (bs.map some ++ List.replicate n none) H1 σ1 ρ1) (x : Fx io (L2.start N vs) σ1) :
    Pst K H (vs.map some) (bs.map some) H1 (vs.map some) (outF io ρ1 0 bs) := by
  refine ⟨⟨p.env.tab, ?_, fun i b h => ?_, fun i j xs ys a h1 h2 h3 h4 => ?_⟩, fun b o h f n => p.keep b o h f fun w => n (own_start.mp w), fun a w => ?_⟩
  · rw [outF_len]
    simpa using er.len
  · rcases outF_get io ρ1 bs 0 i b h with ⟨hi, hs⟩ | ⟨y, e, hb⟩
    · rw [Nat.zero_add] at hi hs
      obtain ⟨v, h1, h2⟩ := p.env.den i b (slot_some hs)
      rw [x.at_ i hi] at h1
      exact ⟨v, start_get.mp h1, h2⟩
    · subst e
      obtain ⟨v, h1, h2⟩ := er.den i (.d y) (by rw [List.getElem?_map, hb]; rfl)
      exact ⟨v, h1, p.fz er0 h2⟩
  · rcases outF_get io ρ1 bs 0 i _ h1 with ⟨hi, hs⟩ | ⟨y, e, _⟩
    · rcases outF_get io ρ1 bs 0 j _ h2 with ⟨hj, ht⟩ | ⟨y, e, _⟩
      · rw [Nat.zero_add] at hi hs hj ht
        exact p.env.inj i j xs ys a (slot_some hs) (slot_some ht) (by rw [x.at_ i hi]; exact start_get.mpr h3) (by rw [x.at_ j hj]; exact start_get.mpr h4)
      · cases e
    · cases e
  · rcases p.own a (own_out p x w) with w | w
    · exact .inl (own_start.mp w)
    · exact .inr w
theorem DenR.out {N : List Str} {n : Nat} {v : V} {b : B} (p : Pst K H (L2.start N vs) (bs.map some ++ List.replicate n none) H1 σ1 ρ1) (x : Fx io (L2.start N vs) σ1)
    (d : DenR K H (L2.start N vs) (bs.map some ++ List.replicate n none) H1 σ1 ρ1 v (.v b)) : DenR K H (vs.map some) (bs.map some) H1 (vs.map some) (outF io ρ1 0 bs) v (.v b) := by
  cases b with
  | d y => exact d
  | l xs =>
    obtain ⟨a, ys, e, h1, h2, h3, h4⟩ := d
    exact ⟨a, ys, e, h1, h2, fun w => h3 (own_out p x w), h4.imp (fun w => own_start.mp w) id⟩
end

/-- the code object of the function at f -/
def CdOf (K : PySem.W.Frag) (f : Addr) (cdv : Value) : Prop := ∃ (oc : Value) (od : Option Addr) (osl : Array (Option Value)) (fd : FuncData), K.lookup f = some ⟨oc, od, .func fd, osl⟩ ∧ fd.code = cdv ∧ ∃ q, PySem.W.codeIn K cdv q = true
/-- what a call's outcome asks -/
def FinF (K : PySem.W.Frag) (mg : Str → Option Value) (H : Hp) (vs : List V) (bs : List B) (Q : VK) (E : XK) : Rf → Prop
  | .ok b ps => ∀ v H1, Pst K H (vs.map some) (bs.map some) H1 (vs.map some) ps → DenR K H (vs.map some) (bs.map some) H1 (vs.map some) ps v (.v b) → Q v H1
  | .ex x ps => ∀ cls dd H1, Pst K H (vs.map some) (bs.map some) H1 (vs.map some) ps → ExRel K mg H1 x cls dd → E cls dd H1
  | .no => False
/-- the def at f does what F says, k levels deep at most -/
structure FnG (P : Program) (w : World) (K : PySem.W.Frag) (mg : Str → Option Value) (base : Heap) (k : Nat) (f : Addr) (fd : FuncData) (ps : List Str) (F : Fn) : Prop where
  run : ∀ (A : Around) (outer : List PySem.Env) (s : Shared) (H : Hp) (args : Args) (us : List Value) (vs : List V) (bs : List B) (Q : VK) (E : XK), RoomG k A → Env0 P w K mg base A outer s H → BindsTo s fd args (ps.zip us) → Vals vs us → vs.length = ps.length →
    EnvRel K H (vs.map some) (bs.map some) → FinF K mg H vs bs Q E (F bs) → codeAny (model P w) A (.call (.ref f) args) (CR (CX P w) outer P w H s Q E) s
theorem FnG.mono {P : Program} {w : World} {K : PySem.W.Frag} {mg : Str → Option Value} {base : Heap} {j k : Nat} {f : Addr} {fd : FuncData} {ps : List Str} {F : Fn} (G : FnG P w K mg base j f fd ps F) (h : j ≤ k) : FnG P w K mg base k f fd ps F :=
  ⟨fun A outer s H args us vs bs Q E hr => G.run A outer s H args us vs bs Q E (hr.mono h)⟩

section
variable {P : Program} {w : World} {K : PySem.W.Frag} {mg : Str → Option Value} {base : Heap} {k : Nat} {f : Addr} {fd : FuncData} {x qual : Str} {params : Arguments} {body : List Stmt} {scope : Scope} {dvs : List V} {kws : List (Str × V)} {N ps : List Str} {io : List Nat} {c : Sd}
/-- THE RULE: a def by its body -/
theorem fn_sv (F : FunD K x qual params body scope dvs kws f fd) (S : FnScope N ps scope)
    (hb : ∀ (cdv : Value), CdOf K f cdv → ∀ (A : Around) (outer : List PySem.Env) (s : Shared) (H : Hp) (E : XK), RoomG k (A.deeper (envOfC qual scope s.heap.objs.size f cdv)) →
      JB (cxOf (CX P w) P w K mg base N qual scope f cdv A outer s H E) (fun cls d _ H => E cls d H) io body c) : FnG P w K mg base (k + 1) f fd ps (fnD N.length io c) := by
  obtain ⟨oc, od, dV, kV, doc, pm, an, cdv, ct, osl, rfl, lk, hcd, _, _⟩ := F.ex
  refine ⟨fun A outer s H args us vs bs Q E hr e0 bind rv hl er fin => ?_⟩
  have hNl : vs.length ≤ N.length := by
    have e := congrArg List.length S.pre
    rw [List.length_take] at e
    omega
  have er0 := er.start (N := N) hNl
  have KX : K.In s.heap := e0.mod.kin.keeps fun b o e => (e0.bs b o e).1
  have NL : s.heap.NoLimit := e0.mod.nolimit.keeps fun b o e => (e0.bs b o e).1
  have kinds : ∀ y ∈ ps.zip us, scope.names.lookup y.1 = some .local ∨ (scope.names.lookup y.1 = some .cell ∧ ((cellsFrom (s.heap.objs.size + 1) scope.names []).lookup y.1).isSome = true) := by
    rintro ⟨n, u⟩ hy
    exact (S.par n (List.of_mem_zip hy).1).imp id fun q => ⟨q, PySem.W.cellsFrom_some _ _ _ (.inl q)⟩
  refine codeAny_call_function hr.room.depth (KX _ _ lk) rfl S.co S.gen rfl (PySem.W.codeRec_of KX hcd) (bind _ _ _ _ ?_)
  refine wpAny_newFunctionEnv_cells S.kind kinds fun env he s1 inC => ?_
  subst he
  refine ⟨NL.keeps inC.toInCall.keep, codeAny_func ?_⟩
  have I : Inv (cxOf (CX P w) P w K mg base N qual scope f cdv A outer s H E) [] (L2.start N vs) H s1 := inv_start S hr.room.hd e0 hl rv inC
  have B := hb cdv ⟨_, _, _, _, lk, rfl, _, hcd⟩ A outer s H E ⟨hr.room.deeper _, hr.gd⟩
  have goal : tS K mg (fun cls d _ H => E cls d H) io c { nx := fun _ H' => Q .non H', rt := Q } (L2.start N vs) H := by
    refine ⟨_, er0, ?_⟩
    unfold fnD at fin
    cases e : c (bs.map some ++ List.replicate (N.length - bs.length) none) with
    | nx e1 =>
      rw [e] at fin
      exact fun σ1 H1 p y => fin .non H1 (Pst.out er er0 p y) .non
    | rt b e1 =>
      rw [e] at fin
      exact fun v σ1 H1 p y d => fin v H1 (Pst.out er er0 p y) (DenR.out p y d)
    | ex z e1 =>
      rw [e] at fin
      exact fun cls dd σ1 H1 p y d => fin cls dd H1 (Pst.out er er0 p y) d
    | bk e1 => rw [e] at fin; exact fin.elim
    | ct e1 => rw [e] at fin; exact fin.elim
    | no => rw [e] at fin; exact fin.elim
  refine wpAny_mono (B.run [] s1 (L2.start N vs) H _ I goal) (fun fl s' hs => ?_) fun e s' hs => hs
  cases fl with
  | ret u =>
    obtain ⟨v, σ', H', J, r, q⟩ := hs
    exact ⟨v, H', J.os, J.bare, J.base, J.hok, r, q⟩
  | next =>
    obtain ⟨σ', H', J, q⟩ := hs
    exact ⟨.non, H', J.os, J.bare, J.base, J.hok, rfl, q⟩
  | brk =>
    obtain ⟨_, _, _, q⟩ := hs
    exact q.elim
  | cont =>
    obtain ⟨_, _, _, q⟩ := hs
    exact q.elim
end

/-! ### a call -/
section
variable {K : PySem.W.Frag} {H H1 H2 : Hp} {σ : St} {ρ ρ1 : Env}
theorem args_get : ∀ {hs : List Hd} {bs : List B}, argsB hs ρ = some bs → ∀ {j : Nat} {b : B}, bs[j]? = some b → hs[j]? = some (.v b) ∨ ∃ i, hs[j]? = some (.s i) ∧ ρ[i]? = some (some b)
  | [], bs, h, j, b, hb => by cases h; simp at hb
  | .v c :: r, bs, h, j, b, hb => by
    cases e : argsB r ρ with
    | none => simp [argsB, e] at h
    | some cs =>
      simp [argsB, e] at h
      subst h
      cases j with
      | zero => cases hb; exact .inl rfl
      | succ j => exact args_get e (j := j) (b := b) hb
  | .s i :: r, bs, h, j, b, hb => by
    cases e : argsB r ρ with
    | none => simp only [argsB, e] at h; split at h <;> cases h <;> contradiction
    | some cs =>
      cases e2 : slot ρ i with
      | none => simp [argsB, e, e2] at h
      | some c =>
        simp [argsB, e, e2] at h
        subst h
        cases j with
        | zero => cases hb; exact .inr ⟨i, rfl, slot_some e2⟩
        | succ j => exact args_get e (j := j) (b := b) hb
theorem DenA.get : ∀ {vs : List V} {hs : List Hd}, DenA K H σ vs hs → ∀ {j : Nat} {h : Hd}, hs[j]? = some h → ∃ v, vs[j]? = some v ∧ match h with
    | .v (.d x) => Fz K H v x
    | .v (.l _) => False
    | .s i => σ[i]? = some (some v)
  | _, _, .nil, _, _, h => by simp at h
  | _, _, .data fz t, 0, _, h => by cases h; exact ⟨_, rfl, fz⟩
  | _, _, .slot hs t, 0, _, h => by cases h; exact ⟨_, rfl, hs⟩
  | _, _, .data fz t, j + 1, _, h => DenA.get t (j := j) h
  | _, _, .slot hs t, j + 1, _, h => DenA.get t (j := j) h
theorem DenA.length : ∀ {vs : List V} {hs : List Hd}, DenA K H σ vs hs → vs.length = hs.length
  | _, _, .nil => rfl
  | _, _, .data _ t => by rw [List.length_cons, List.length_cons, DenA.length t]
  | _, _, .slot _ t => by rw [List.length_cons, List.length_cons, DenA.length t]
theorem args_len : ∀ {hs : List Hd} {bs : List B}, argsB hs ρ = some bs → bs.length = hs.length
  | [], bs, h => by cases h; rfl
  | .v c :: r, bs, h => by
    cases e : argsB r ρ with
    | none => simp [argsB, e] at h
    | some cs => simp [argsB, e] at h; subst h; rw [List.length_cons, List.length_cons, args_len e]
  | .s i :: r, bs, h => by
    cases e : argsB r ρ with
    | none => simp only [argsB, e] at h; split at h <;> cases h <;> contradiction
    | some cs =>
      cases e2 : slot ρ i with
      | none => simp [argsB, e, e2] at h
      | some c => simp [argsB, e, e2] at h; subst h; rw [List.length_cons, List.length_cons, args_len e]
theorem slotsOf_mem : ∀ {hs : List Hd} {j i : Nat}, hs[j]? = some (.s i) → i ∈ slotsOf hs
  | [], _, _, h => by simp at h
  | .v _ :: r, 0, _, h => by cases h
  | .v _ :: r, j + 1, i, h => slotsOf_mem (hs := r) (j := j) h
  | .s k :: r, 0, i, h => by cases h; exact List.mem_cons_self
  | .s k :: r, j + 1, i, h => List.mem_cons_of_mem _ (slotsOf_mem (hs := r) (j := j) h)
theorem slots_inj : ∀ {hs : List Hd}, (slotsOf hs).Nodup → ∀ {j k i : Nat}, hs[j]? = some (.s i) → hs[k]? = some (.s i) → j = k
  | [], _, _, _, _, h, _ => by simp at h
  | .v _ :: r, nd, 0, _, _, h, _ => by cases h
  | .v _ :: r, nd, j + 1, 0, _, _, h => by cases h
  | .v _ :: r, nd, j + 1, k + 1, i, h, h' => congrArg (· + 1) (slots_inj (hs := r) nd h h')
  | .s l :: r, nd, 0, 0, _, _, _ => rfl
  | .s l :: r, nd, 0, k + 1, i, h, h' => by cases h; exact absurd (slotsOf_mem (hs := r) (j := k) h') (List.nodup_cons.mp nd).1
  | .s l :: r, nd, j + 1, 0, i, h, h' => by cases h'; exact absurd (slotsOf_mem (hs := r) (j := j) h) (List.nodup_cons.mp nd).1
  | .s l :: r, nd, j + 1, k + 1, i, h, h' => congrArg (· + 1) (slots_inj (hs := r) (List.nodup_cons.mp nd).2 h h')
theorem EnvRel.args {vs : List V} {hs : List Hd} {bs : List B} (er : EnvRel K H σ ρ) (dn : DenA K H σ vs hs) (ea : argsB hs ρ = some bs) (nd : (slotsOf hs).Nodup) : EnvRel K H (vs.map some) (bs.map some) := by
  have lb := args_len ea
  have lv := dn.length
  refine ⟨er.tab, by simp [lb, lv], fun j b h => ?_, fun j k xs ys a h1 h2 h3 h4 => ?_⟩
  · have hb : bs[j]? = some b := by
      rw [List.getElem?_map] at h
      cases e : bs[j]? with
      | none => rw [e] at h; cases h
      | some c => rw [e] at h; cases h; rfl
    rcases args_get ea hb with h1 | ⟨i, h1, h2⟩
    · obtain ⟨v, h3, h4⟩ := dn.get h1
      refine ⟨v, by rw [List.getElem?_map, h3]; rfl, ?_⟩
      cases b with
      | d x => exact h4
      | l xs => exact h4.elim
    · obtain ⟨v, h3, h4⟩ := dn.get h1
      obtain ⟨v', h5, h6⟩ := er.den i b h2
      have ev : v' = v := Option.some.inj (Option.some.inj (h5.symm.trans h4))
      subst ev
      exact ⟨v', by rw [List.getElem?_map, h3]; rfl, h6⟩
  · have gb : ∀ {j : Nat} {zs : List PyData}, (bs.map some)[j]? = some (some (.l zs)) → (vs.map some)[j]? = some (some (.ref a)) → ∃ i, hs[j]? = some (.s i) ∧ ρ[i]? = some (some (.l zs)) ∧ σ[i]? = some (some (.ref a)) := fun {j zs} h h' => by
      have hb : bs[j]? = some (.l zs) := by
        rw [List.getElem?_map] at h
        cases e : bs[j]? with
        | none => rw [e] at h; cases h
        | some c => rw [e] at h; cases h; rfl
      rcases args_get ea hb with q | ⟨i, q, q2⟩
      · obtain ⟨v, _, q4⟩ := dn.get q
        exact q4.elim
      · obtain ⟨v, q3, q4⟩ := dn.get q
        have ev : v = .ref a := by
          rw [List.getElem?_map, q3] at h'
          exact Option.some.inj (Option.some.inj h')
        subst ev
        exact ⟨i, q, q2, q4⟩
    obtain ⟨i1, p1, p2, p3⟩ := gb h1 h3
    obtain ⟨i2, q1, q2, q3⟩ := gb h2 h4
    have : i1 = i2 := er.inj i1 i2 xs ys a p2 q2 p3 q3
    subst this
    exact slots_inj nd p1 q1
theorem own_args {vs : List V} {hs : List Hd} {bs : List B} (dn : DenA K H σ vs hs) (ea : argsB hs ρ = some bs) {a : Addr} (h : Own (vs.map some) (bs.map some) a) : ∃ (j i : Nat) (xs : List PyData), hs[j]? = some (.s i) ∧ ρ[i]? = some (some (.l xs)) ∧ σ[i]? = some (some (.ref a)) := by
  obtain ⟨j, xs, h1, h2⟩ := h
  have hb : bs[j]? = some (.l xs) := by
    rw [List.getElem?_map] at h1
    cases e : bs[j]? with
    | none => rw [e] at h1; cases h1
    | some c => rw [e] at h1; cases h1; rfl
  rcases args_get ea hb with q | ⟨i, q, q2⟩
  · obtain ⟨v, _, q4⟩ := dn.get q
    exact q4.elim
  · obtain ⟨v, q3, q4⟩ := dn.get q
    have ev : v = .ref a := by
      rw [List.getElem?_map, q3] at h2
      exact Option.some.inj (Option.some.inj h2)
    subst ev
    exact ⟨j, i, xs, q, q2, q4⟩
/-- the slots behind a call -/
theorem back_len : ∀ (hs : List Hd) (ps : List (Option B)) (e : Env), (back hs ps e).length = e.length
  | [], _, _ => by simp [back]
  | .v _ :: r, [], _ => by simp [back]
  | .s _ :: r, [], _ => by simp [back]
  | .v _ :: r, p :: ps, e => by simp only [back]; exact back_len r ps e
  | .s i :: r, p :: ps, e => by
    simp only [back]
    rw [back_len r ps]
    split
    · rw [List.length_set]
    · rfl
theorem back_get : ∀ (hs : List Hd) (ps : List (Option B)) (e : Env), (slotsOf hs).Nodup → hs.length ≤ ps.length → ∀ i : Nat,
    (∃ (j : Nat) (xs : List PyData), hs[j]? = some (.s i) ∧ e[i]? = some (some (.l xs)) ∧ (back hs ps e)[i]? = ps[j]?) ∨ ((back hs ps e)[i]? = e[i]? ∧ ∀ (j : Nat) (xs : List PyData), hs[j]? = some (.s i) → e[i]? ≠ some (some (.l xs)))
  | [], _, _, _, _, i => .inr ⟨by simp [back], fun j xs h => by simp at h⟩
  | .v _ :: r, [], _, _, hl, i => by simp at hl
  | .s _ :: r, [], _, _, hl, i => by simp at hl
  | .v _ :: r, p :: ps, e, nd, hl, i => by
    rcases back_get r ps e nd (by simpa using hl) i with ⟨j, xs, h1, h2, h3⟩ | ⟨h1, h2⟩
    · exact .inl ⟨j + 1, xs, h1, h2, h3⟩
    · refine .inr ⟨h1, fun j xs h => ?_⟩
      cases j with
      | zero => cases h
      | succ j => exact h2 j xs h
  | .s k :: r, p :: ps, e, nd, hl, i => by
    obtain ⟨nk, nd'⟩ := List.nodup_cons.mp nd
    have hl' : r.length ≤ ps.length := by simpa using hl
    have other : ∀ e' : Env, i ≠ k → e'[i]? = e[i]? → (back (.s k :: r) (p :: ps) e) = back r ps e' →
        (∃ (j : Nat) (xs : List PyData), (Hd.s k :: r)[j]? = some (.s i) ∧ e[i]? = some (some (.l xs)) ∧ (back (.s k :: r) (p :: ps) e)[i]? = (p :: ps)[j]?) ∨ ((back (.s k :: r) (p :: ps) e)[i]? = e[i]? ∧ ∀ (j : Nat) (xs : List PyData), (Hd.s k :: r)[j]? = some (.s i) → e[i]? ≠ some (some (.l xs))) := fun e' hik he hb => by
      rw [hb]
      rcases back_get r ps e' nd' hl' i with ⟨j, xs, h1, h2, h3⟩ | ⟨h1, h2⟩
      · exact .inl ⟨j + 1, xs, h1, by rw [← he]; exact h2, h3⟩
      · refine .inr ⟨by rw [h1, he], fun j xs h => ?_⟩
        cases j with
        | zero => cases h; exact absurd rfl hik
        | succ j => rw [← he]; exact h2 j xs h
    have same : ∀ e' : Env, (back r ps e')[k]? = e'[k]? := fun e' => by
      rcases back_get r ps e' nd' hl' k with ⟨j, xs, h1, h2, h3⟩ | ⟨h1, _⟩
      · exact absurd (slotsOf_mem h1) nk
      · exact h1
    cases es : slot e k with
    | none =>
      have hb : back (.s k :: r) (p :: ps) e = back r ps e := by simp only [back, es]
      by_cases hik : i = k
      · subst hik
        refine .inr ⟨by rw [hb]; exact same e, fun j xs _ z => ?_⟩
        rw [slot_of z] at es
        cases es
      · exact other e hik rfl hb
    | some b =>
      cases b with
      | d x =>
        have hb : back (.s k :: r) (p :: ps) e = back r ps e := by simp only [back, es]
        by_cases hik : i = k
        · subst hik
          refine .inr ⟨by rw [hb]; exact same e, fun j xs _ z => ?_⟩
          rw [slot_of z] at es
          cases es
        · exact other e hik rfl hb
      | l xs =>
        have hb : back (.s k :: r) (p :: ps) e = back r ps (e.set k p) := by simp only [back, es]
        by_cases hik : i = k
        · subst hik
          have hlt : i < e.length := (List.getElem?_eq_some_iff.mp (slot_some es)).1
          exact .inl ⟨0, xs, rfl, slot_some es, by rw [hb, same, List.getElem?_set_self hlt]; rfl⟩
        · exact other _ hik (List.getElem?_set_ne (Ne.symm hik)) hb
theorem Pst.back {vs : List V} {hs : List Hd} {bs : List B} {ps : List (Option B)} (er : EnvRel K H σ ρ) (dn : DenA K H σ vs hs) (ea : argsB hs ρ = some bs) (nd : (slotsOf hs).Nodup)
    (p : Pst K H (vs.map some) (bs.map some) H1 (vs.map some) ps) : Pst K H σ ρ H1 σ (Sv.back hs ps ρ) := by
  have lp : hs.length ≤ ps.length := by
    have e1 := p.env.len
    have e2 := dn.length
    simp only [List.length_map] at e1
    omega
  have sub : ∀ a, Own (vs.map some) (bs.map some) a → Own σ ρ a := fun a h => by
    obtain ⟨j, i, xs, _, h2, h3⟩ := own_args dn ea h
    exact ⟨i, xs, h2, h3⟩
  have eA := er.args dn ea nd
  -- a slot's value behind the call
  have val : ∀ (i : Nat) (b : B), (Sv.back hs ps ρ)[i]? = some (some b) → (∃ (j : Nat) (v : V), hs[j]? = some (.s i) ∧ (∃ xs, ρ[i]? = some (some (.l xs))) ∧ ps[j]? = some (some b) ∧ vs[j]? = some v ∧ σ[i]? = some (some v)) ∨
      (ρ[i]? = some (some b) ∧ ∀ (j : Nat) (xs : List PyData), hs[j]? = some (.s i) → ρ[i]? ≠ some (some (.l xs))) := fun i b h => by
    rcases back_get hs ps ρ nd lp i with ⟨j, xs, h1, h2, h3⟩ | ⟨h1, h2⟩
    · obtain ⟨v, h4, h5⟩ := dn.get h1
      exact .inl ⟨j, v, h1, ⟨xs, h2⟩, by rw [← h3]; exact h, h4, h5⟩
    · exact .inr ⟨by rw [← h1]; exact h, h2⟩
  -- an untouched list is not among the arguments
  have apart : ∀ (i : Nat) (xs : List PyData) (a : Addr), ρ[i]? = some (some (.l xs)) → σ[i]? = some (some (.ref a)) → (∀ (j : Nat) (zs : List PyData), hs[j]? = some (.s i) → ρ[i]? ≠ some (some (.l zs))) → ¬ Own (vs.map some) (bs.map some) a := fun i xs a h1 h2 h3 w => by
    obtain ⟨j, i', zs, q1, q2, q3⟩ := own_args dn ea w
    have : i' = i := er.inj i' i zs xs a q2 h1 q3 h2
    subst this
    exact h3 j zs q1 q2
  have toMap : ∀ {j : Nat} {v : V}, vs[j]? = some v → (vs.map some)[j]? = some (some v) := fun {j v} h => by rw [List.getElem?_map, h]; rfl
  refine ⟨⟨p.env.tab, by rw [back_len]; exact er.len, fun i b h => ?_, fun i i' xs ys a h1 h2 h3 h4 => ?_⟩, fun b o h f n => p.keep b o h f fun w => n (sub b w), fun a w => ?_⟩
  · rcases val i b h with ⟨j, v, _, _, h2, h3, h4⟩ | ⟨h1, h2⟩
    · obtain ⟨v', e1, e2⟩ := p.env.den j b h2
      have ev : v' = v := Option.some.inj (Option.some.inj (e1.symm.trans (toMap h3)))
      subst ev
      exact ⟨v', h4, e2⟩
    · obtain ⟨v, e1, e2⟩ := er.den i b h1
      refine ⟨v, e1, ?_⟩
      cases b with
      | d x => exact p.fz eA e2
      | l xs =>
        obtain ⟨a, ys, rfl, q1, q2⟩ := e2
        exact ⟨a, ys, rfl, p.keep a _ q1 rfl (apart i xs a h1 e1 h2), p.fzAll eA q2⟩
  · rcases val i _ h1 with ⟨j, v, s1, ⟨zs, z1⟩, h5, h6, h7⟩ | ⟨h5, h6⟩
    · have ev : v = .ref a := Option.some.inj (Option.some.inj (h7.symm.trans h3))
      subst ev
      rcases val i' _ h2 with ⟨j', v', s2, _, h8, h9, h10⟩ | ⟨h8, h9⟩
      · have ev : v' = .ref a := Option.some.inj (Option.some.inj (h10.symm.trans h4))
        subst ev
        have hj : j = j' := p.env.inj j j' xs ys a h5 h8 (toMap h6) (toMap h9)
        subst hj
        rw [s1] at s2
        cases s2
        rfl
      · rcases p.own a ⟨j, xs, h5, toMap h6⟩ with w | w
        · exact absurd w (apart i' ys a h8 h4 h9)
        · obtain ⟨zs', q⟩ := er.owned ⟨i', ys, h8, h4⟩
          exact (w.no q rfl).elim
    · rcases val i' _ h2 with ⟨j', v', s2, _, h8, h9, h10⟩ | ⟨h8, h9⟩
      · have ev : v' = .ref a := Option.some.inj (Option.some.inj (h10.symm.trans h4))
        subst ev
        rcases p.own a ⟨j', ys, h8, toMap h9⟩ with w | w
        · exact absurd w (apart i xs a h5 h3 h6)
        · obtain ⟨zs', q⟩ := er.owned ⟨i, xs, h5, h3⟩
          exact (w.no q rfl).elim
      · exact er.inj i i' xs ys a h5 h8 h3 h4
  · obtain ⟨i, xs, h1, h2⟩ := w
    rcases val i _ h1 with ⟨j, v, _, _, h5, h6, h7⟩ | ⟨h5, h6⟩
    · have ev : v = .ref a := Option.some.inj (Option.some.inj (h7.symm.trans h2))
      subst ev
      rcases p.own a ⟨j, xs, h5, toMap h6⟩ with w | w
      · exact .inl (sub a w)
      · exact .inr w
    · exact .inl ⟨i, xs, h5, h2⟩
end
end Sv
end
section
set_option autoImplicit false
set_option linter.all false
/-! Sv: the call of a def. -/
namespace Sv
open PySem PySem.Spec L2
open PyProof.Rows hiding St
variable [HasT]

/-- so many arguments -/
def AL (n : Nat) (a : Ad) : Prop := ∀ ρ hs ρ1, a ρ = .ok hs ρ1 → hs.length = n
theorem al_nil : AL 0 aNil := fun ρ hs ρ1 h => by cases h; rfl
theorem al_cons {n : Nat} {c : Cd} {a : Ad} (h : AL n a) : AL (n + 1) (aCons c a) := fun ρ hs ρ1 e => by
  unfold aCons at e
  cases e1 : c ρ with
  | ok x ρ2 =>
    rw [e1, R.bind_ok] at e
    cases e2 : a ρ2 with
    | ok xs ρ3 =>
      rw [e2, R.bind_ok] at e
      cases e
      rw [List.length_cons, h _ _ _ e2]
    | ex x ρ3 => rw [e2] at e; cases e
    | no => rw [e2] at e; cases e
  | ex x ρ2 => rw [e1] at e; cases e
  | no => rw [e1] at e; cases e

/-- the rest of a call, its arguments told -/
def callB (F : Fn) (hs : List Hd) (e1 : Env) : R Hd :=
  match argsB hs e1 with
  | some bs => if (slotsOf hs).Nodup then
      match F bs with
      | .ok b ps => .ok (.v b) (back hs ps e1)
      | .ex x ps => .ex x (back hs ps e1)
      | .no => .no
    else .no
  | none => .no
theorem cFn_eq (F : Fn) (a : Ad) (e : Env) : cFn F a e = (a e).bind fun hs e1 => callB F hs e1 := rfl

section
variable {X : Cx} {W : WX} {k : Nat} {f : Addr} {fd : FuncData} {ps : List Str} {F : Fn}
theorem call_run {pins : List (Addr × Obj)} {σ : St} {H H1 : Hp} {s : Shared} {ρ ρ1 : Env} {us : List Value} {vs : List V} {hs : List Hd} {Q : VK} (G : FnG X.prog X.w X.K X.mg X.base k f fd ps F) (hr : RoomG k X.A) (hb : Binds X.K fd ps []) (tk : Takes X W)
    (I : Inv X pins σ H1 s) (r : Vals vs us) (hl : hs.length = ps.length) (p : Pst X.K H σ ρ H1 σ ρ1) (dn : DenA X.K H1 σ vs hs)
    (fin : Fin X.K X.mg W σ H ρ (fun H2 ρ2 v h => DenR X.K H σ ρ H2 σ ρ2 v h) (callB F hs ρ1) Q) : wpAny (model X.prog X.w) X.A (call (.ref f) us) (EP X pins σ Q) X.xe s := by
  have fin1 := Fin.laterC p fin
  unfold callB at fin1
  cases ea : argsB hs ρ1 with
  | none => rw [ea] at fin1; exact fin1.elim
  | some bs =>
    rw [ea] at fin1
    simp only at fin1
    by_cases nd : (slotsOf hs).Nodup
    · rw [if_pos nd] at fin1
      have er := p.env.args dn ea nd
      have lv : vs.length = ps.length := by rw [dn.length]; exact hl
      have bnd := hb s us I.kIn (by rw [List.append_nil, ← r.length]; exact lv)
      rw [List.append_nil] at bnd
      have want : FinF X.K X.mg H1 vs bs Q (WE W σ) (F bs) := by
        cases ef : F bs with
        | ok b qs =>
          rw [ef] at fin1
          intro v H2 q d
          refine fin1 v H2 (Pst.back p.env dn ea nd q) ?_
          cases b with
          | d x => exact d
          | l xs =>
            obtain ⟨a, ys, rfl, h1, h2, h3, h4⟩ := d
            refine ⟨a, ys, rfl, h1, h2, fun w => ?_, ?_⟩
            · obtain ⟨i, zs, w1, w2⟩ := w
              have lp : hs.length ≤ qs.length := by
                have e1 := q.env.len
                simp only [List.length_map] at e1
                have e2 := dn.length
                omega
              rcases back_get hs qs ρ1 nd lp i with ⟨j, xs', g1, g2, g3⟩ | ⟨g1, g2⟩
              · obtain ⟨v', g4, g5⟩ := dn.get g1
                have ev : v' = .ref a := Option.some.inj (Option.some.inj (g5.symm.trans w2))
                subst ev
                exact h3 ⟨j, zs, by rw [← g3]; exact w1, by rw [List.getElem?_map, g4]; rfl⟩
              · rw [g1] at w1
                rcases h4 with w | w
                · obtain ⟨j, i', zs', q1, q2, q3⟩ := own_args dn ea w
                  have : i' = i := p.env.inj i' i zs' zs a q2 w1 q3 w2
                  subst this
                  exact g2 j zs' q1 q2
                · obtain ⟨zs', g⟩ := p.env.owned ⟨i, zs, w1, w2⟩
                  exact (w.no g rfl).elim
            · rcases h4 with w | w
              · obtain ⟨j, i', zs', _, q2, q3⟩ := own_args dn ea w
                exact .inl ⟨i', zs', q2, q3⟩
              · exact .inr w
        | ex x qs =>
          rw [ef] at fin1
          exact fun cls dd H2 q d => fin1 cls dd H2 (Pst.back p.env dn ea nd q) d
        | no => rw [ef] at fin1; exact fin1
      refine wpAny_call (codeAny_mono (G.run X.A X.stack s H1 ⟨us, []⟩ us vs bs Q (WE W σ) hr I.env0 bnd r lv er want) fun res s' hq => ?_)
      cases res with
      | error e => exact passAt tk σ pins H1 s e s' I hq
      | ok fl =>
        cases fl with
        | ret u => exact I.after hq
        | next => exact hq.elim
        | brk => exact hq.elim
        | cont => exact hq.elim
    · rw [if_neg nd] at fin1
      exact fin1.elim
variable {x : Str} {p pos : Pos} {e : Expr} {es : List Expr} {a : Ad}
theorem e_call (G : FnG X.prog X.w X.K X.mg X.base k f fd ps F) (hr : RoomG k X.A) (hg : Gl X x) (hm : X.mg x = some (.ref f)) (hk : PySem.W.keepIn X.K (.ref f) = true) (hb : Binds X.K fd ps []) (tk : Takes X W) (ha : JA X W (e :: es) a) (al : AL ps.length a)
    (hdb : (x == ("__debug__" : Str)) = false := by decide) (he : starEach (e :: es) X.env = (false, eval e X.env) :: starEach es X.env := by rfl) (hpl : (backTo pos (starEach es X.env)).any (·.1) = false := by rfl) : JE X W (.Call (.Name x p) (e :: es) [] pos) (cFn F a) := by
  refine ⟨fun pins s σ H Q I ⟨ρ, er, f0⟩ => ?_⟩
  refine wpAny_Call_Name_kw (ld_glob I hg hm ?_ hdb)
  refine PySem.W.callWith_K (h₀ := X.base) I.ok.mod.kin hk (thn (ha.run pos pins s σ H (fun vs H1 => ∃ hs ρ1, hs.length = ps.length ∧ Pst X.K H σ ρ H1 σ ρ1 ∧ DenA X.K H1 σ vs hs ∧
    Fin X.K X.mg W σ H ρ (fun H2 ρ2 v h => DenR X.K H σ ρ H2 σ ρ2 v h) (callB F hs ρ1) Q) I ⟨ρ, er, ?_⟩) fun us s1 ⟨vs, H1, I1, r, hs, ρ1, hl, q, dn, fin⟩ => ⟨I1.kIn, call_run G hr hb tk I1 r hl q dn fin⟩) he hpl
  exact Fin.part (cFn_eq F a ρ ▸ f0) fun hs ρ1 c1 f1 vs H1 q dn => ⟨hs, ρ1, al _ _ _ c1, q, dn, f1⟩
theorem e_call0 (G : FnG X.prog X.w X.K X.mg X.base k f fd [] F) (hr : RoomG k X.A) (hg : Gl X x) (hm : X.mg x = some (.ref f)) (hk : PySem.W.keepIn X.K (.ref f) = true) (hb : Binds X.K fd [] []) (tk : Takes X W)
    (hdb : (x == ("__debug__" : Str)) = false := by decide) : JE X W (.Call (.Name x p) [] [] pos) (cFn F aNil) := by
  refine ⟨fun pins s σ H Q I ⟨ρ, er, f0⟩ => ?_⟩
  refine wpAny_Call_Name_kw (ld_glob I hg hm ?_ hdb)
  exact PySem.W.callWith_K0 I.kIn hk (call_run (us := []) (vs := []) (hs := []) G hr hb tk I .nil rfl (Pst.refl er) .nil f0)
end
end Sv
end
section
set_option autoImplicit false
set_option linter.all false
/-! Sv: targets, what is walked, for. -/
namespace Sv
open PySem PySem.Spec L2
open PyProof.Rows hiding St
variable [HasT]

/-! ### targets -/
def FinG (K : PySem.W.Frag) (io : List Nat) (σ : St) (H : Hp) (ρ : Env) (Q : St → Hp → Prop) : RS → Prop
  | .nx ρ1 => ∀ σ1 H1, Pst K H σ ρ H1 σ1 ρ1 → Fx io σ σ1 → Q σ1 H1
  | _ => False
def tG (K : PySem.W.Frag) (io : List Nat) (t : Gd) : TG := fun v σ H Q => ∃ ρ x, EnvRel K H σ ρ ∧ Fz K H v x ∧ FinG K io σ H ρ Q (t x ρ)
def tGs (K : PySem.W.Frag) (io : List Nat) (ts : List Gd) : TGs := fun vs σ H Q => ∃ ρ xs, EnvRel K H σ ρ ∧ FzAll K H vs xs ∧ FinG K io σ H ρ Q (gRun ts xs ρ)
/-- a target stores, or says nothing -/
def Tame (t : Gd) : Prop := ∀ x ρ, (∃ ρ1, t x ρ = .nx ρ1) ∨ t x ρ = .no
section
variable {K : PySem.W.Frag} {io : List Nat} {H H1 : Hp} {σ σ1 : St} {ρ ρ1 : Env} {Q : St → Hp → Prop}
theorem FinG.later {r : RS} (p : Pst K H σ ρ H1 σ1 ρ1) (x : Fx io σ σ1) (f : FinG K io σ H ρ Q r) : FinG K io σ1 H1 ρ1 Q r := by
  cases r with
  | nx ρ2 => exact fun σ2 H2 q y => f σ2 H2 (p.trans q) (x.trans y)
  | _ => exact f
end
section
variable {X : Cx} {W : WX} {io : List Nat}
structure JG (X : Cx) (io : List Nat) (e : Expr) (t : Gd) : Prop where
  pg : PG X e (tG X.K io t)
  tame : Tame t
structure JGs (X : Cx) (io : List Nat) (es : List Expr) (ts : List Gd) : Prop where
  pgs : PGs X es (tGs X.K io ts)
  tame : ∀ xs ρ, (∃ ρ1, gRun ts xs ρ = .nx ρ1) ∨ gRun ts xs ρ = .no
theorem pg_weak {e : Expr} {t t' : TG} (h : PG X e t) (w : ∀ v σ H Q, t' v σ H Q → t v σ H Q) : PG X e t' := ⟨fun pins s σ H v u Q I r q => h.run pins s σ H v u Q I r (w v σ H Q q)⟩
theorem pgs_weak {e : List Expr} {t t' : TGs} (h : PGs X e t) (w : ∀ v σ H Q, t' v σ H Q → t v σ H Q) : PGs X e t' := ⟨fun pins s σ H v u Q I r q => h.run pins s σ H v u Q I r (w v σ H Q q)⟩
theorem g_name {i : Nat} {x : Str} {pos : Pos} (hN : X.N.Nodup) (hi : X.N[i]? = some x) (hx : Loc X.env.scope x) (hio : i ∉ io) (hf : X.fn x = true ∨ X.env.scope.names.lookup x = some .local := by first | exact .inl rfl | exact .inr rfl | assumption) : JG X io (.Name x pos) (gN i) :=
  ⟨pg_weak (pg_name hN hi hx hf) fun v σ H Q ⟨ρ, x, er, fz, f⟩ => f _ H ((Pst.refl er).put (b := .d x) fz) (Fx.set hio), fun x ρ => .inl ⟨_, rfl⟩⟩
theorem gs_nil : JGs X io [] [] :=
  ⟨pgs_weak pgs_nil fun vs σ H Q ⟨ρ, xs, er, fz, f⟩ => by
    cases fz with
    | nil => exact ⟨rfl, f σ H (Pst.refl er) .refl⟩
    | cons _ _ => exact f.elim, fun xs ρ => by
    cases xs with
    | nil => exact .inl ⟨ρ, rfl⟩
    | cons _ _ => exact .inr rfl⟩
theorem gs_cons {e : Expr} {es : List Expr} {t : Gd} {ts : List Gd} (h1 : JG X io e t) (h2 : JGs X io es ts) (hs : (assignEach (e :: es) X.env).map (·.2) = assign e X.env :: (assignEach es X.env).map (·.2) := by rfl) : JGs X io (e :: es) (t :: ts) := by
  refine ⟨pgs_weak (pgs_cons h1.pg h2.pgs hs) fun vs σ H Q ⟨ρ, xs, er, fz, f⟩ => ?_, fun xs ρ => ?_⟩
  · cases fz with
    | nil => exact f.elim
    | @cons v vs x xs a b =>
      refine ⟨v, vs, rfl, ρ, x, er, a, ?_⟩
      rcases h1.tame x ρ with ⟨ρ1, e1⟩ | e1
      · rw [e1]
        rw [gRun_cons, e1, seq_nx] at f
        exact fun σ1 H1 p y => ⟨ρ1, xs, p.env, p.fzAll er b, FinG.later p y f⟩
      · rw [gRun_cons, e1] at f
        exact f.elim
  · cases xs with
    | nil => exact .inr rfl
    | cons x xs =>
      rw [gRun_cons]
      rcases h1.tame x ρ with ⟨ρ1, e1⟩ | e1
      · rw [e1]; exact h2.tame xs ρ1
      · rw [e1]; exact .inr rfl
theorem gRun_len : ∀ {ts : List Gd} {xs : List PyData} {ρ ρ1 : Env}, gRun ts xs ρ = .nx ρ1 → (∀ t ∈ ts, Tame t) → xs.length = ts.length
  | [], [], _, _, _, _ => rfl
  | [], _ :: _, _, _, h, _ => by cases h
  | _ :: _, [], _, _, h, _ => by cases h
  | t :: ts, x :: xs, ρ, ρ1, h, ht => by
    rw [gRun_cons] at h
    rcases ht t List.mem_cons_self x ρ with ⟨ρ2, e⟩ | e
    · rw [e, seq_nx] at h
      rw [List.length_cons, List.length_cons, gRun_len h fun t' h' => ht t' (List.mem_cons_of_mem _ h')]
    · rw [e] at h; cases h
theorem g_tup {es : List Expr} {ts : List Gd} {k : Nat} {pos : Pos} (hc : X.calm = true) (h : JGs X io es ts) (ht : ∀ t ∈ ts, Tame t) (hn : (assignEach es X.env).length = ts.length := by rfl) (hst : (assignEach es X.env).findIdx? (·.1) = none := by rfl) : JG X io (.Tuple es k pos) (gT ts) := by
  refine ⟨pg_weak (pg_tup hc h.pgs hn hst) fun v σ H Q ⟨ρ, x, er, fz, f⟩ => ?_, fun x ρ => ?_⟩
  · cases fz with
    | @tup a vs xs hq hx =>
      refine ⟨a, vs, rfl, hq, ?_, ρ, xs, er, hx, f⟩
      have f' : FinG X.K io σ H ρ Q (gRun ts xs ρ) := f
      rcases h.tame xs ρ with ⟨ρ1, e⟩ | e
      · rw [hx.length, gRun_len e ht]
      · rw [e] at f'; exact f'.elim
    | _ => exact f.elim
  · cases x with
    | tuple xs => exact h.tame xs ρ
    | _ => exact .inr rfl
/-- t = e by any target -/
theorem s_asg {tg e : Expr} {t : Gd} {c : Cd} {pos : Pos} (he : JE X W e c) (hg : JG X io tg t) (hs : swapsWithSole [tg] e pos.line X.env = pure false := by rfl) (hw : swappedStores [tg] e X.env = pure none := by rfl)
    (h1 : (assignEach [tg] X.env).map (·.2) = [assign tg X.env] := by rfl) : JS X W io (.Assign [tg] e pos) (sAsg t c) :=
  ps_weak (ps_asg (e_hold he) hg.pg hs hw h1) fun D σ H ⟨ρ, er, f⟩ => by
    have f' : FinS X.K X.mg W io D σ H ρ ((cE c ρ).toS fun h e1 => match h with
      | .v (.d x) => t x e1
      | _ => .no) := by
      unfold sAsg at f
      unfold cE
      cases e1 : c ρ with
      | ok h ρ1 =>
        rw [e1] at f
        simp only [R.toS_ok, R.bind_ok] at f ⊢
        cases e2 : hold h ρ1 with
        | ok x ρ2 => rw [e2] at f; exact f
        | ex x ρ2 => rw [e2] at f; exact f
        | no => rw [e2] at f; exact f
      | ex x ρ1 => rw [e1] at f; exact f
      | no => rw [e1] at f; exact f
    refine ⟨ρ, er, FinS.part f' fun hd ρ1 c1 f1 v H1 p dn => ?_⟩
    cases hd with
    | s i => exact f1.elim
    | v b =>
      cases b with
      | l xs => exact f1.elim
      | d x =>
        refine ⟨ρ1, x, p.env, dn, ?_⟩
        have f2 := FinS.later p .refl f1
        rcases hg.tame x ρ1 with ⟨ρ2, e⟩ | e
        · simp only [e] at f2 ⊢
          exact f2
        · simp only [e] at f2
          exact f2.elim

/-! ### what is walked -/
def WalkJ (K : PySem.W.Frag) (H1 : Hp) (J : It) (xs : List PyData) : Prop := ∀ (i : Nat) (H : Hp), (∀ b o, H1 b = some o → stays o = true → H b = some o) →
  (i = xs.length → J.stop i H) ∧ (i < xs.length → J.go i H) ∧ ∀ x H', J.yld i H x H' → ∀ d, xs[i]? = some d → Fz K H' x d ∧ ∀ b o, H b = some o → H' b = some o
def tI (K : PySem.W.Frag) (mg : Str → Option Value) (W : WX) (c : Wd) : TI := fun σ H R => ∃ ρ, EnvRel K H σ ρ ∧ Fin K mg W σ H ρ (fun H1 _ (J : It) xs => WalkJ K H1 J xs) (c ρ) R
abbrev JI (X : Cx) (W : WX) (tg e : Expr) (c : Wd) : Prop := PI X tg e (tI X.K X.mg W c)
theorem pi_weak {tg e : Expr} {t t' : TI} (h : PI X tg e t) (w : ∀ σ H R, t' σ H R → t σ H R) : PI X tg e t' := ⟨fun pins s σ H R I q => h.run pins s σ H R I (w σ H R q)⟩
theorem pi_or {tg e : Expr} {t t' : TI} (h : PI X tg e t) (h' : PI X tg e t') : PI X tg e (fun σ H R => t σ H R ∨ t' σ H R) :=
  ⟨fun pins s σ H R I q => q.elim (fun q => h.run pins s σ H R I q) fun q => h'.run pins s σ H R I q⟩
theorem walk_lst {K : PySem.W.Frag} {H : Hp} {a : Addr} {vs : List V} {xs : List PyData} (h : FL K H a vs) (hx : FzAll K H vs xs) : WalkJ K H (Itl K a) xs := fun i H1 k => by
  have hq : SqL K H1 a vs := FL.sq (h.imp (fun ⟨o, h⟩ => ⟨o, k _ _ h rfl⟩) id)
  have hx1 := hx.keep k
  refine ⟨fun hi => ⟨vs, hq, by rw [hx.length]; exact Nat.le_of_eq hi.symm⟩, fun hi => ?_, fun x H' hy d hd => ?_⟩
  · obtain ⟨v, hv, _⟩ := hx1.get (List.getElem?_eq_getElem hi)
    exact ⟨vs, v, hq, hv⟩
  · obtain ⟨rfl, hy⟩ := hy
    obtain ⟨v, hv, fz⟩ := hx1.get hd
    have ev : v = x := Option.some.inj (hv.symm.trans (hy vs hq))
    subst ev
    exact ⟨fz, fun b o h => h⟩
theorem walk_tup {K : PySem.W.Frag} {H : Hp} {a : Addr} {vs : List V} {xs : List PyData} (h : SqT K H a vs) (hx : FzAll K H vs xs) : WalkJ K H (Itt K a) xs := fun i H1 k => by
  have hq : SqT K H1 a vs := SqT.keep k h
  have hx1 := hx.keep k
  refine ⟨fun hi => ⟨vs, hq, by rw [hx.length]; exact Nat.le_of_eq hi.symm⟩, fun hi => ?_, fun x H' hy d hd => ?_⟩
  · obtain ⟨v, hv, _⟩ := hx1.get (List.getElem?_eq_getElem hi)
    exact ⟨vs, v, hq, hv⟩
  · obtain ⟨rfl, hy⟩ := hy
    obtain ⟨v, hv, fz⟩ := hx1.get hd
    have ev : v = x := Option.some.inj (hv.symm.trans (hy vs hq))
    subst ev
    exact ⟨fz, fun b o h => h⟩
theorem i_seq {tg e : Expr} {c : Cd} (h : JE X W e c) : JI X W tg e (wSeq c) :=
  pi_weak (pi_or (pi_list (e_hold h)) (pi_tup (e_hold h))) fun σ H R ⟨ρ, er, f⟩ => by
    unfold wSeq at f
    cases e1 : cE c ρ with
    | no => rw [e1] at f; exact f.elim
    | ex x ρ1 => rw [e1] at f; exact .inl ⟨ρ, er, by rw [e1]; exact f⟩
    | ok hd ρ1 =>
      rw [e1, Sv.R.bind_ok] at f
      cases hd with
      | s i => exact f.elim
      | v b =>
        cases b with
        | l xs => exact f.elim
        | d x =>
          cases x with
          | list xs =>
            refine .inl ⟨ρ, er, ?_⟩
            rw [e1]
            intro v H1 p dn
            cases dn with
            | lst ha hx => exact ⟨_, rfl, ⟨_, ha.sq⟩, f _ H1 p (walk_lst ha hx)⟩
          | tuple xs =>
            refine .inr ⟨ρ, er, ?_⟩
            rw [e1]
            intro v H1 p dn
            cases dn with
            | tup ha hx => exact ⟨_, rfl, ⟨_, ha⟩, f _ H1 p (walk_tup ha hx)⟩
          | _ => exact f.elim

/-! ### for -/
theorem s_for {tg iter : Expr} {body : List Stmt} {w : Wd} {t : Gd} {b : Sd} {pos : Pos} (hp : PassesOwn (model X.prog X.w) X.A X.env X.xe) (hc : X.calm = true) (hi : JI X W tg iter w) (hg : JG X io tg t) (hb : JB X W io body b)
    (hs : ∀ x, foldedSetIterable iter X.env x = pure x := by intro _; rfl) : JS X W io (.For tg iter body [] pos) (sFor w t b) :=
  ps_weak (ps_for hp hc hi hg.pg hb hs) fun D σ H ⟨ρ, er, f⟩ => by
    refine ⟨ρ, er, FinS.part f fun xs ρ1 _ f1 J H1 p wk => ?_⟩
    refine ⟨fun i m σ' H' => m + i = xs.length ∧ (∀ a o, H1 a = some o → stays o = true → H' a = some o) ∧ tS X.K X.mg W io (loopF t b (xs.drop i)) D σ' H',
      ⟨xs.length, rfl, fun _ _ h _ => h, ρ1, p.env, FinS.later p .refl f1⟩, fun i m σ' H' ⟨hm, k, ρ', er', f'⟩ => ?_⟩
    obtain ⟨w1, w2, w3⟩ := wk i H' k
    by_cases hi : i < xs.length
    · have hd : xs.drop i = xs[i] :: xs.drop (i + 1) := List.drop_eq_getElem_cons hi
      rw [hd] at f'
      refine .inr ⟨w2 hi, fun σ2 H2 => (∀ a o, H1 a = some o → stays o = true → H2 a = some o) ∧ tS X.K X.mg W io (loopF t b (xs.drop (i + 1))) D σ2 H2, fun σ2 H2 q => ⟨m - 1, by omega, by omega, q⟩, fun v H2 hy => ?_⟩
      obtain ⟨fz, gr⟩ := w3 v H2 hy xs[i] (List.getElem?_eq_getElem hi)
      have er2 := er'.grow gr
      have p2 := Pst.grow er' gr
      have k2 : ∀ a o, H1 a = some o → stays o = true → H2 a = some o := fun a o h s => gr a o (k a o h s)
      have f2 := FinS.later p2 .refl f'
      refine ⟨ρ', xs[i], er2, fz, ?_⟩
      simp only [loopF] at f2
      rcases hg.tame xs[i] ρ' with ⟨ρ3, e3⟩ | e3
      · rw [e3]
        rw [e3, seq_nx] at f2
        intro σ3 H3 p3 x3
        have k3 : ∀ a o, H1 a = some o → stays o = true → H3 a = some o := fun a o h s => p3.stay er2 a o (k2 a o h s) s
        have f3 := FinS.later p3 x3 f2
        refine ⟨ρ3, p3.env, ?_⟩
        cases e : b ρ3 with
        | nx ρ4 => rw [e] at f3; exact fun σ4 H4 q x => ⟨fun a o h s => q.stay p3.env a o (k3 a o h s) s, ρ4, q.env, FinS.later q x f3⟩
        | ct ρ4 => rw [e] at f3; exact fun σ4 H4 q x => ⟨fun a o h s => q.stay p3.env a o (k3 a o h s) s, ρ4, q.env, FinS.later q x f3⟩
        | bk ρ4 => rw [e] at f3; exact f3
        | rt b ρ4 => rw [e] at f3; exact f3
        | ex x ρ4 => rw [e] at f3; exact f3
        | no => rw [e] at f3; exact f3
      · rw [e3] at f2
        exact f2.elim
    · have hd : xs.drop i = [] := List.drop_eq_nil_of_le (by omega)
      rw [hd] at f'
      exact .inl ⟨w1 (by omega), f' σ' H' (Pst.refl er') .refl⟩
end
end Sv
end
section
set_option autoImplicit false
set_option linter.all false
/-! Sv: list comprehensions. -/
namespace Sv
open PySem PySem.Spec L2
open PyProof.Rows hiding St
variable [HasT]

/-- no error leaves -/
def WF : WX := fun _ _ _ _ => False
theorem takesF (X : Cx) : Takes X WF := fun u s' ⟨_, _, _, _, _, _, _, _, _, _, _, _, _, _, _, _, h⟩ => h.elim

section
variable {K : PySem.W.Frag} {H H1 H2 : Hp} {σ σ1 : St} {ρ ρ1 ρ2 : Env} {vs : List Nat}
theorem wipe_get (σ : St) : ∀ (vs : List Nat) (i : Nat), (i ∉ vs ∧ (wipe σ vs)[i]? = σ[i]?) ∨ (i ∈ vs ∧ ∀ v, (wipe σ vs)[i]? ≠ some (some v))
  | [], i => .inl ⟨List.not_mem_nil, rfl⟩
  | v :: vs, i => by
    by_cases e : v = i
    · subst e
      refine .inr ⟨List.mem_cons_self, fun x h => ?_⟩
      unfold wipe at h
      by_cases hl : v < (wipe σ vs).length
      · rw [List.getElem?_set_self hl] at h; cases h
      · rw [List.getElem?_eq_none (by rw [List.length_set]; omega)] at h; cases h
    · have h : (wipe σ (v :: vs))[i]? = (wipe σ vs)[i]? := List.getElem?_set_ne e
      rw [h]
      rcases wipe_get σ vs i with ⟨a, b⟩ | ⟨a, b⟩
      · exact .inl ⟨fun q => (List.mem_cons.mp q).elim (fun z => e z.symm) a, b⟩
      · exact .inr ⟨List.mem_cons_of_mem _ a, b⟩
theorem wipeE_get (ρ : Env) : ∀ (vs : List Nat) (i : Nat), (i ∉ vs ∧ (wipeE ρ vs)[i]? = ρ[i]?) ∨ (i ∈ vs ∧ ∀ v, (wipeE ρ vs)[i]? ≠ some (some v))
  | [], i => .inl ⟨List.not_mem_nil, rfl⟩
  | v :: vs, i => by
    by_cases e : v = i
    · subst e
      refine .inr ⟨List.mem_cons_self, fun x h => ?_⟩
      unfold wipeE at h
      by_cases hl : v < (wipeE ρ vs).length
      · rw [List.getElem?_set_self hl] at h; cases h
      · rw [List.getElem?_eq_none (by rw [List.length_set]; omega)] at h; cases h
    · have h : (wipeE ρ (v :: vs))[i]? = (wipeE ρ vs)[i]? := List.getElem?_set_ne e
      rw [h]
      rcases wipeE_get ρ vs i with ⟨a, b⟩ | ⟨a, b⟩
      · exact .inl ⟨fun q => (List.mem_cons.mp q).elim (fun z => e z.symm) a, b⟩
      · exact .inr ⟨List.mem_cons_of_mem _ a, b⟩
theorem wipeE_len (ρ : Env) : ∀ vs : List Nat, (wipeE ρ vs).length = ρ.length
  | [] => rfl
  | v :: vs => by unfold wipeE; rw [List.length_set, wipeE_len ρ vs]
theorem restE_len (ρ0 ρ : Env) : ∀ vs : List Nat, (restE ρ0 ρ vs).length = ρ.length
  | [] => rfl
  | v :: vs => by
    unfold restE
    split
    · rw [List.length_set, restE_len ρ0 ρ vs]
    · exact restE_len ρ0 ρ vs
theorem restE_get (ρ0 ρ : Env) (hl : ρ0.length = ρ.length) : ∀ (vs : List Nat) (i : Nat), (i ∉ vs ∧ (restE ρ0 ρ vs)[i]? = ρ[i]?) ∨ (i ∈ vs ∧ (restE ρ0 ρ vs)[i]? = ρ0[i]?)
  | [], i => .inl ⟨List.not_mem_nil, rfl⟩
  | v :: vs, i => by
    unfold restE
    cases e0 : ρ0[v]? with
    | none =>
      simp only
      rcases restE_get ρ0 ρ hl vs i with ⟨a, b⟩ | ⟨a, b⟩
      · by_cases e : v = i
        · subst e
          refine .inr ⟨List.mem_cons_self, ?_⟩
          rw [b, e0, List.getElem?_eq_none_iff]
          have := List.getElem?_eq_none_iff.mp e0
          omega
        · exact .inl ⟨fun q => (List.mem_cons.mp q).elim (fun z => e z.symm) a, b⟩
      · exact .inr ⟨List.mem_cons_of_mem _ a, b⟩
    | some o =>
      simp only
      by_cases e : v = i
      · subst e
        have hv : v < ρ0.length := (List.getElem?_eq_some_iff.mp e0).1
        exact .inr ⟨List.mem_cons_self, by rw [List.getElem?_set_self (by rw [restE_len]; omega), e0]⟩
      · rw [List.getElem?_set_ne e]
        rcases restE_get ρ0 ρ hl vs i with ⟨a, b⟩ | ⟨a, b⟩
        · exact .inl ⟨fun q => (List.mem_cons.mp q).elim (fun z => e z.symm) a, b⟩
        · exact .inr ⟨List.mem_cons_of_mem _ a, b⟩
theorem EnvRel.wipe (er : EnvRel K H σ ρ) (vs : List Nat) : EnvRel K H (L2.wipe σ vs) (wipeE ρ vs) := by
  have sub : ∀ {i : Nat} {b : B}, (wipeE ρ vs)[i]? = some (some b) → ρ[i]? = some (some b) ∧ i ∉ vs := fun {i b} h => by
    rcases wipeE_get ρ vs i with ⟨a, e⟩ | ⟨_, e⟩
    · exact ⟨by rw [← e]; exact h, a⟩
    · exact absurd h (e b)
  have sam : ∀ {i : Nat}, i ∉ vs → (L2.wipe σ vs)[i]? = σ[i]? := fun {i} h => by
    rcases wipe_get σ vs i with ⟨_, e⟩ | ⟨a, _⟩
    · exact e
    · exact absurd a h
  refine ⟨er.tab, by rw [wipeE_len, wipe_length]; exact er.len, fun i b h => ?_, fun i j xs ys a h1 h2 h3 h4 => ?_⟩
  · obtain ⟨h1, h2⟩ := sub h
    obtain ⟨v, e1, e2⟩ := er.den i b h1
    exact ⟨v, by rw [sam h2]; exact e1, e2⟩
  · obtain ⟨p1, p2⟩ := sub h1
    obtain ⟨q1, q2⟩ := sub h2
    rw [sam p2] at h3
    rw [sam q2] at h4
    exact er.inj i j xs ys a p1 q1 h3 h4
theorem own_wipe {a : Addr} (h : Own (L2.wipe σ vs) (wipeE ρ vs) a) : ∃ (i : Nat) (xs : List PyData), i ∉ vs ∧ ρ[i]? = some (some (.l xs)) ∧ σ[i]? = some (some (.ref a)) := by
  obtain ⟨i, xs, h1, h2⟩ := h
  rcases wipeE_get ρ vs i with ⟨n, e⟩ | ⟨_, e⟩
  · rcases wipe_get σ vs i with ⟨_, e'⟩ | ⟨q, _⟩
    · exact ⟨i, xs, n, by rw [← e]; exact h1, by rw [← e']; exact h2⟩
    · exact absurd q n
  · exact absurd h1 (e _)
/-- behind the block: its own names are as they were -/
theorem Pst.rest (er : EnvRel K H σ ρ) (p : Pst K H (L2.wipe σ vs) (wipeE ρ vs) H1 (L2.wipe σ vs) ρ1) : Pst K H σ ρ H1 σ (restE ρ ρ1 vs) := by
  have hl : ρ.length = ρ1.length := by
    have e1 := p.env.len
    rw [wipe_length, ← er.len] at e1
    exact e1.symm
  have sam : ∀ {i : Nat}, i ∉ vs → (L2.wipe σ vs)[i]? = σ[i]? := fun {i} h => by
    rcases wipe_get σ vs i with ⟨_, e⟩ | ⟨a, _⟩
    · exact e
    · exact absurd a h
  have sub : ∀ a, Own (L2.wipe σ vs) (wipeE ρ vs) a → Own σ ρ a := fun a h => by
    obtain ⟨i, xs, _, h1, h2⟩ := own_wipe h
    exact ⟨i, xs, h1, h2⟩
  have val : ∀ {i : Nat} {b : B}, (restE ρ ρ1 vs)[i]? = some (some b) → (i ∈ vs ∧ ρ[i]? = some (some b)) ∨ (i ∉ vs ∧ ρ1[i]? = some (some b)) := fun {i b} h => by
    rcases restE_get ρ ρ1 hl vs i with ⟨a, e⟩ | ⟨a, e⟩
    · exact .inr ⟨a, by rw [← e]; exact h⟩
    · exact .inl ⟨a, by rw [← e]; exact h⟩
  have hid : ∀ {i : Nat} {xs : List PyData} {a : Addr}, i ∈ vs → ρ[i]? = some (some (.l xs)) → σ[i]? = some (some (.ref a)) → ¬ Own (L2.wipe σ vs) (wipeE ρ vs) a := fun {i xs a} hi h1 h2 w => by
    obtain ⟨j, ys, hj, h3, h4⟩ := own_wipe w
    exact hj (er.inj i j xs ys a h1 h3 h2 h4 ▸ hi)
  have ew := er.wipe vs
  refine ⟨⟨p.env.tab, by rw [restE_len, ← hl]; exact er.len, fun i b h => ?_, fun i j xs ys a h1 h2 h3 h4 => ?_⟩, fun b o h f n => p.keep b o h f fun w => n (sub b w), fun a w => ?_⟩
  · rcases val h with ⟨hi, h1⟩ | ⟨hi, h1⟩
    · obtain ⟨v, e1, e2⟩ := er.den i b h1
      refine ⟨v, e1, ?_⟩
      cases b with
      | d x => exact p.fz ew e2
      | l xs =>
        obtain ⟨a, ys, rfl, q1, q2⟩ := e2
        exact ⟨a, ys, rfl, p.keep a _ q1 rfl (hid hi h1 e1), p.fzAll ew q2⟩
    · obtain ⟨v, e1, e2⟩ := p.env.den i b h1
      rw [sam hi] at e1
      exact ⟨v, e1, e2⟩
  · have cross : ∀ {i j : Nat} {xs ys : List PyData}, i ∈ vs → ρ[i]? = some (some (.l xs)) → σ[i]? = some (some (.ref a)) → j ∉ vs → ρ1[j]? = some (some (.l ys)) → σ[j]? = some (some (.ref a)) → False := fun {i j xs ys} hi q1 q2 hj q3 q4 => by
      rcases p.own a ⟨j, ys, q3, by rw [sam hj]; exact q4⟩ with w | w
      · exact hid hi q1 q2 w
      · obtain ⟨zs, z⟩ := er.owned ⟨i, xs, q1, q2⟩
        exact (w.no z rfl).elim
    rcases val h1 with ⟨hi, p1⟩ | ⟨hi, p1⟩
    · rcases val h2 with ⟨hj, p2⟩ | ⟨hj, p2⟩
      · exact er.inj i j xs ys a p1 p2 h3 h4
      · exact (cross hi p1 h3 hj p2 h4).elim
    · rcases val h2 with ⟨hj, p2⟩ | ⟨hj, p2⟩
      · exact (cross hj p2 h4 hi p1 h3).elim
      · exact p.env.inj i j xs ys a p1 p2 (by rw [sam hi]; exact h3) (by rw [sam hj]; exact h4)
  · obtain ⟨i, xs, h1, h2⟩ := w
    rcases val h1 with ⟨hi, p1⟩ | ⟨hi, p1⟩
    · exact .inl ⟨i, xs, p1, h2⟩
    · rcases p.own a ⟨i, xs, p1, by rw [sam hi]; exact h2⟩ with w | w
      · exact .inl (sub a w)
      · exact .inr w
/-- a turn's end: the block's own names are forgotten -/
theorem wipe_of_eq {σ2 : St} (h : L2.wipe σ2 vs = L2.wipe σ vs) (p : Pst K H σ1 ρ1 H1 σ2 ρ2) : Pst K H σ1 ρ1 H1 (L2.wipe σ vs) (wipeE ρ2 vs) := by
  rw [← h]
  refine ⟨p.env.wipe vs, p.keep, fun a w => ?_⟩
  obtain ⟨i, xs, _, h1, h2⟩ := own_wipe w
  exact p.own a ⟨i, xs, h1, h2⟩
end

section
variable {X : Cx} {W : WX}
abbrev JTs (X : Cx) (ifs : List Expr) (t : Td) : Prop := PTs X ifs (tT X.K X.mg WF t)
theorem ts_nil : JTs X [] Sv.tYes := ⟨fun pins s σ H Q I ⟨ρ, er, f⟩ => pts_nil.run pins s σ H Q I (f true H (Pst.refl er) rfl)⟩
theorem ts_one {c : Expr} {t : Td} (h : JT X WF c t) : JTs X [c] t := pts_one h
theorem wipe_set {σ : St} {vs : List Nat} {i : Nat} {v : Option V} (h : i ∈ vs) : L2.wipe (σ.set i v) vs = L2.wipe σ vs := by
  apply List.ext_getElem?
  intro j
  have hlen : (L2.wipe (σ.set i v) vs).length = (L2.wipe σ vs).length := by rw [wipe_length, wipe_length, List.length_set]
  rcases wipe_get (σ.set i v) vs j with ⟨a, e⟩ | ⟨a, e⟩
  · rcases wipe_get σ vs j with ⟨_, e'⟩ | ⟨a', _⟩
    · rw [e, e', List.getElem?_set_ne fun (z : i = j) => a (by rw [← z]; exact h)]
    · exact absurd a' a
  · rcases wipe_get σ vs j with ⟨a', _⟩ | ⟨_, e'⟩
    · exact absurd a a'
    · cases q : (L2.wipe (σ.set i v) vs)[j]? with
      | none =>
        have q1 := List.getElem?_eq_none_iff.mp q
        exact (List.getElem?_eq_none_iff.mpr (by omega)).symm
      | some o =>
        cases o with
        | some z => exact absurd q (e z)
        | none =>
          have q1 : j < (L2.wipe σ vs).length := by
            have := (List.getElem?_eq_some_iff.mp q).1
            omega
          cases q' : (L2.wipe σ vs)[j]? with
          | none => exact absurd (List.getElem?_eq_none_iff.mp q') (by omega)
          | some o' =>
            cases o' with
            | some z => exact absurd q' (e' z)
            | none => rfl
theorem wipe_same {σ σ1 : St} {vs io : List Nat} (x : Fx io (L2.wipe σ vs) σ1) (h : ∀ j, j < σ.length → j ∉ vs → j ∈ io) : L2.wipe σ1 vs = L2.wipe σ vs := by
  have hl : σ1.length = σ.length := by rw [x.len, wipe_length]
  apply List.ext_getElem?
  intro j
  rcases wipe_get σ1 vs j with ⟨a, e⟩ | ⟨a, e⟩
  · rcases wipe_get σ vs j with ⟨_, e'⟩ | ⟨a', _⟩
    · by_cases hj : j < σ.length
      · rw [e, x.at_ j (h j hj a)]
      · rw [e, List.getElem?_eq_none (by omega), List.getElem?_eq_none (by rw [wipe_length]; omega)]
    · exact absurd a' a
  · rcases wipe_get σ vs j with ⟨a', _⟩ | ⟨_, e'⟩
    · exact absurd a a'
    · by_cases hj : j < σ.length
      · have h1 : j < (L2.wipe σ1 vs).length := by rw [wipe_length]; omega
        have h2 : j < (L2.wipe σ vs).length := by rw [wipe_length]; omega
        have g1 : (L2.wipe σ1 vs)[j]? = some none := by
          rw [List.getElem?_eq_getElem h1]
          cases q : (L2.wipe σ1 vs)[j] with
          | none => rfl
          | some z => exact absurd (by rw [List.getElem?_eq_getElem h1, q]) (e z)
        have g2 : (L2.wipe σ vs)[j]? = some none := by
          rw [List.getElem?_eq_getElem h2]
          cases q : (L2.wipe σ vs)[j] with
          | none => rfl
          | some z => exact absurd (by rw [List.getElem?_eq_getElem h2, q]) (e' z)
        rw [g1, g2]
      · rw [List.getElem?_eq_none (by rw [wipe_length]; omega), List.getElem?_eq_none (by rw [wipe_length]; omega)]
/-- a list that no slot owns is changed -/
theorem stay_chg {H : Hp} {a : Addr} {ys zs : List V} (h : H a = some (.lst ys)) : ∀ b u, H b = some u → stays u = true → upd H a (.lst zs) b = some u := fun b u e s => by
  have : b ≠ a := fun z => by rw [z, h] at e; cases e; cases s
  rw [upd_ne this]; exact e
theorem EnvRel.chg {K : PySem.W.Frag} {H : Hp} {σ : St} {ρ : Env} {a : Addr} {ys : List V} (zs : List V) (er : EnvRel K H σ ρ) (h : H a = some (.lst ys)) (no : ¬ Own σ ρ a) : EnvRel K (upd H a (.lst zs)) σ ρ := by
  refine ⟨er.tab.chg h _, er.len, fun i b hb => ?_, er.inj⟩
  obtain ⟨v, e, d⟩ := er.den i b hb
  refine ⟨v, e, ?_⟩
  cases b with
  | d x => exact Fz.keep (stay_chg h) d
  | l xs =>
    obtain ⟨a', ys', rfl, e2, e3⟩ := d
    have ne : a' ≠ a := fun z => no ⟨i, xs, hb, by rw [← z]; exact e⟩
    exact ⟨a', ys', rfl, by rw [upd_ne ne]; exact e2, FzAll.keep (stay_chg h) e3⟩
theorem compL_cons {vs : List Nat} {t : Gd} {tt : Td} {c : Cd} {x : PyData} {xs : List PyData} {e e2 : Env} {zs : List PyData} (h : compL vs t tt c (x :: xs) e = .ok zs e2) :
    ∃ o e1 ys, comp1 vs t tt c x e = .ok o e1 ∧ compL vs t tt c xs e1 = .ok ys e2 ∧ zs = o.toList ++ ys := by
  unfold compL at h
  cases e1 : comp1 vs t tt c x e with
  | ok o e1' =>
    rw [e1] at h
    simp only at h
    cases e3 : compL vs t tt c xs e1' with
    | ok ys e4 =>
      rw [e3] at h
      simp only at h
      cases h
      exact ⟨o, e1', ys, rfl, e3, by cases o <;> rfl⟩
    | ex _ _ => rw [e3] at h; cases h
    | no => rw [e3] at h; cases h
  | ex _ _ => rw [e1] at h; cases h
  | no => rw [e1] at h; cases h
/-- what a comprehension asks, over its walk -/
theorem comp_fin {σ : St} {H : Hp} {Q : VK} {vs io : List Nat} {w : Wd} {t : Gd} {tt : Td} {c : Cd} {elt tg : Expr} {K : PySem.W.Frag} {mg : Str → Option Value} (tm : Tame t) (hio : ∀ j, j < σ.length → j ∉ vs → j ∈ io)
    (h : tC K mg W (cComp vs w t tt c) σ H Q) : tLc (tI K mg W w) (tG K io t) (tT K mg WF tt) (tC K mg WF (cE c)) vs σ H Q := by
  obtain ⟨ρ, er, f⟩ := h
  refine ⟨ρ, er, Fin.part f fun xs ρ1 _ f1 J H1 p wk => ?_⟩
  intro D hD
  by_cases hl : xs.length ≤ sizeLine
  · rw [if_pos hl] at f1
    cases ez : compL vs t tt c xs (wipeE ρ1 vs) with
    | ex _ _ => rw [ez] at f1; exact f1.elim
    | no => rw [ez] at f1; exact f1.elim
    | ok zs ρe =>
      rw [ez] at f1
      have ew := p.env.wipe vs
      refine ⟨fun i m H' => m + i = xs.length ∧ (∀ a o, H1 a = some o → stays o = true → H' a = some o) ∧ ∃ (ρ' : Env) (acc ys : List PyData) (av : List V), Pst K H1 (L2.wipe σ vs) (wipeE ρ1 vs) H' (L2.wipe σ vs) ρ' ∧ H' D = some (.lst av) ∧ FzAll K H' av acc ∧
          acc.length ≤ i ∧ compL vs t tt c (xs.drop i) ρ' = .ok ys ρe ∧ zs = acc ++ ys ∧ ¬ Own (L2.wipe σ vs) ρ' D, ⟨xs.length, rfl, fun a o h _ => grow_upd hD a o h, _, [], zs, [], Pst.grow ew (grow_upd hD), upd_same, .nil, Nat.le_refl 0, ez, rfl, fun z => ?_⟩, fun i m H' ⟨hm, k, ρ', acc, ys, av, q, hv, hx, hlen, ec, ezs, no⟩ => ?_⟩
      · obtain ⟨_, z1⟩ := ew.owned z
        rw [hD] at z1
        cases z1
      · obtain ⟨w1, w2, w3⟩ := wk i H' k
        by_cases hi : i < xs.length
        · rw [List.drop_eq_getElem_cons hi] at ec
          obtain ⟨o, ρn, ys', c1, c2, c3⟩ := compL_cons ec
          refine .inr ⟨w2 hi, fun H2 => (∀ a o, H1 a = some o → stays o = true → H2 a = some o) ∧ ∃ (ρ' : Env) (acc ys : List PyData) (av : List V), Pst K H1 (L2.wipe σ vs) (wipeE ρ1 vs) H2 (L2.wipe σ vs) ρ' ∧ H2 D = some (.lst av) ∧ FzAll K H2 av acc ∧
            acc.length ≤ i + 1 ∧ compL vs t tt c (xs.drop (i + 1)) ρ' = .ok ys ρe ∧ zs = acc ++ ys ∧ ¬ Own (L2.wipe σ vs) ρ' D, fun H2 z => ⟨m - 1, by omega, by omega, z⟩, fun v H2 hy => ?_⟩
          obtain ⟨fz, gr⟩ := w3 v H2 hy xs[i] (List.getElem?_eq_getElem hi)
          have p2 := Pst.grow q.env gr
          refine ⟨ρ', xs[i], p2.env, fz, ?_⟩
          unfold comp1 at c1
          rcases tm xs[i] ρ' with ⟨ρa, ea⟩ | ea
          · rw [ea] at c1 ⊢
            intro σ3 H3 p3 x3
            have we := wipe_same x3 hio
            refine ⟨we, ρa, p3.env, ?_⟩
            simp only at c1
            -- to the turn's end
            have fin : ∀ {ρb : Env} {H4 : Hp} {acc' : List PyData} {av' : List V}, Pst K H3 σ3 ρa H4 σ3 ρb → compL vs t tt c (xs.drop (i + 1)) (wipeE ρb vs) = .ok ys' ρe → zs = acc' ++ ys' → acc'.length ≤ i + 1 → FzAll K H4 av' acc' → ∀ H5 : Hp, (H5 = H4 ∧ av' = av ∨ H5 = upd H4 D (.lst av')) →
                (∀ a o, H1 a = some o → stays o = true → H5 a = some o) ∧ ∃ (ρ' : Env) (acc ys : List PyData) (av : List V), Pst K H1 (L2.wipe σ vs) (wipeE ρ1 vs) H5 (L2.wipe σ vs) ρ' ∧ H5 D = some (.lst av) ∧ FzAll K H5 av acc ∧ acc.length ≤ i + 1 ∧ compL vs t tt c (xs.drop (i + 1)) ρ' = .ok ys ρe ∧ zs = acc ++ ys ∧ ¬ Own (L2.wipe σ vs) ρ' D := by
              intro ρb H4 acc' av' p4 g1 g2 g3 g4 H5 g5
              have pt := ((p2.trans p3).trans p4)
              have pe := wipe_of_eq we pt
              have hD4 : H4 D = some (.lst av) := pe.keep D _ hv rfl no
              have no4 : ¬ Own (L2.wipe σ vs) (wipeE ρb vs) D := fun z => by
                rcases pe.own D z with z | z
                · exact no z
                · exact (z.no hv rfl).elim
              have p1 := q.trans pe
              have st4 : ∀ a o, H1 a = some o → stays o = true → H4 a = some o := fun a o h s => p1.stay ew a o h s
              rcases g5 with ⟨rfl, rfl⟩ | rfl
              · exact ⟨st4, _, acc', ys', av', p1, hD4, g4, g3, g1, g2, no4⟩
              · refine ⟨fun a o h s => stay_chg hD4 a o (st4 a o h s) s, _, acc', ys', av', ⟨p1.env.chg av' hD4 no4, fun b o h f n => ?_, p1.own⟩, upd_same, g4.keep (stay_chg hD4), g3, g1, g2, no4⟩
                have ne : b ≠ D := fun z => by rw [z, hD] at h; cases h
                rw [upd_ne ne]
                exact p1.keep b o h f n
            cases eb : tt ρa with
            | ex _ _ => rw [eb] at c1; cases c1
            | no => rw [eb] at c1; cases c1
            | ok kb ρb =>
              rw [eb] at c1
              intro kb' H4 p4 ekb
              subst ekb
              cases kb' with
              | false =>
                simp only at c1
                cases c1
                refine fin p4 c2 (by rw [ezs, c3]; rfl) (by omega) (hx.keep fun a o h s => ?_) H4 (.inl ⟨rfl, rfl⟩)
                exact ((p2.trans p3).trans p4).stay q.env a o h s
              | true =>
                simp only at c1
                refine ⟨ρb, p4.env, ?_⟩
                cases ey : cE c ρb with
                | ex _ _ => rw [ey] at c1; cases c1
                | no => rw [ey] at c1; cases c1
                | ok hd ρc =>
                  rw [ey] at c1
                  cases hd with
                  | s _ => cases c1
                  | v b =>
                    cases b with
                    | l _ => cases c1
                    | d y =>
                      simp only at c1
                      cases c1
                      intro vy H5 p5 dn
                      have p6 := p4.trans p5
                      have pt := ((p2.trans p3).trans p6)
                      have hx5 := hx.keep (pt.stay q.env)
                      have hD5 : H5 D = some (.lst av) := (wipe_of_eq we pt).keep D _ hv rfl no
                      refine ⟨av, hD5, by rw [hx.length]; omega, ?_⟩
                      exact fin p6 c2 (by rw [ezs, c3]; simp) (by simp; omega) (hx5.append (.cons dn .nil)) _ (.inr rfl)
          · rw [ea] at c1; cases c1
        · refine .inl ⟨w1 (by omega), ?_⟩
          rw [List.drop_eq_nil_of_le (by omega)] at ec
          cases ec
          rw [List.append_nil] at ezs
          subst ezs
          have pr := Pst.rest p.env q
          refine f1 (.ref D) H' (p.trans pr) (DenR.start p (?_ : DenR K H1 σ ρ1 H' σ (restE ρ1 ρe vs) (.ref D) (.v (.l zs))))
          refine ⟨D, av, rfl, hv, hx, fun z => ?_, .inr (.of hD)⟩
          obtain ⟨i', zs', z1, z2⟩ := z
          have hll : ρ1.length = ρe.length := by
            have e1 := q.env.len
            rw [wipe_length, ← p.env.len] at e1
            exact e1.symm
          rcases restE_get ρ1 ρe hll vs i' with ⟨n1, n2⟩ | ⟨n1, n2⟩
          · rw [n2] at z1
            rcases wipe_get σ vs i' with ⟨_, e'⟩ | ⟨a', _⟩
            · exact no ⟨i', zs', z1, by rw [e']; exact z2⟩
            · exact n1 a'
          · rw [n2] at z1
            obtain ⟨_, z3⟩ := p.env.owned ⟨i', zs', z1, z2⟩
            rw [hD] at z3
            cases z3
  · rw [if_neg hl] at f1
    exact f1.elim
/-- [elt for tg in iter if ..] -/
theorem e_comp {elt tg iter : Expr} {ifs : List Expr} {scope : Scope} {own : List (Str × Nat)} {pos : Pos} {w : Wd} {t : Gd} {tt : Td} {c : Cd} {io : List Nat} (hc : X.calm = true) (hN : X.N.Nodup) (hi : JI X W tg iter w) (ok : BlkOk X.N X.env.scope scope own)
    (hg : ∀ (s : Shared) (H : Hp) (C : Addr) (cl : List (Str × Addr)) (fp : List Addr), JG (X.blk s H scope (compEnvC scope cl C X.env) fp) io tg t) (ht : ∀ (s : Shared) (H : Hp) (C : Addr) (cl : List (Str × Addr)) (fp : List Addr), JTs (X.blk s H scope (compEnvC scope cl C X.env) fp) ifs tt)
    (he : ∀ (s : Shared) (H : Hp) (C : Addr) (cl : List (Str × Addr)) (fp : List Addr), JE (X.blk s H scope (compEnvC scope cl C X.env) fp) WF elt c) (hio : ∀ j, j < X.N.length → j ∉ own.map (·.2) → j ∈ io) (tm : Tame t) (hs : ∀ x, foldedSetIterable iter X.env x = pure x := by intro _; rfl) :
    JE X W (.ListComp elt [⟨tg, iter, ifs, 0⟩] scope pos) (cComp (own.map (·.2)) w t tt c) := by
  refine ⟨fun pins s σ H Q I h => ?_⟩
  exact (pe_lc hc hN hi ok (fun s H C cl fp => (hg s H C cl fp).pg) ht (fun s H C cl fp => e_hold (he s H C cl fp)) hs).run pins s σ H Q I (comp_fin (elt := elt) (tg := tg) tm (by rw [I.len]; exact hio) h)
end
end Sv
end
section
set_option autoImplicit false
set_option linter.all false
/-! Sv: methods that change a list, stores to places, x op= e, a, b = x, y, x = [..], raise. -/
namespace Sv
open PySem PySem.Spec L2
open PyProof.Rows hiding St
variable [HasT]

section
variable {K : PySem.W.Frag} {H H1 H2 : Hp} {σ σ1 : St} {ρ ρ1 : Env}
/-- the list that slot i owns is changed -/
theorem Pst.mut {i : Nat} {cs cs' : List PyData} {a : Addr} {ys ys' : List V} (p : Pst K H σ ρ H1 σ1 ρ1) (hi : ρ1[i]? = some (some (.l cs))) (hs : σ1[i]? = some (some (.ref a))) (h : H1 a = some (.lst ys)) (hx : FzAll K H1 ys' cs') :
    Pst K H σ ρ (upd H1 a (.lst ys')) σ1 (ρ1.set i (some (.l cs'))) := by
  have hil : i < ρ1.length := (List.getElem?_eq_some_iff.mp hi).1
  have get : ∀ {j : Nat} {b : B}, (ρ1.set i (some (.l cs')))[j]? = some (some b) → (i = j ∧ b = .l cs') ∨ (i ≠ j ∧ ρ1[j]? = some (some b)) := fun {j b} h => by
    by_cases hj : i = j
    · subst hj
      rw [List.getElem?_set_self hil] at h
      exact .inl ⟨rfl, (Option.some.inj (Option.some.inj h)).symm⟩
    · rw [List.getElem?_set_ne hj] at h
      exact .inr ⟨hj, h⟩
  have sub : ∀ {b : Addr}, Own σ1 (ρ1.set i (some (.l cs'))) b → Own σ1 ρ1 b := fun {b} ⟨j, zs, h1, h2⟩ => by
    rcases get h1 with ⟨rfl, _⟩ | ⟨_, q⟩
    · exact ⟨i, cs, hi, h2⟩
    · exact ⟨j, zs, q, h2⟩
  refine ⟨⟨p.env.tab.chg h _, by rw [List.length_set]; exact p.env.len, fun j b hb => ?_, fun j k xs zs c h1 h2 h3 h4 => ?_⟩, fun b o e f n => ?_, fun b w => p.own b (sub w)⟩
  · rcases get hb with ⟨rfl, rfl⟩ | ⟨hj, q⟩
    · exact ⟨_, hs, a, ys', rfl, upd_same, hx.keep (stay_chg h)⟩
    · obtain ⟨v, e1, e2⟩ := p.env.den j b q
      refine ⟨v, e1, ?_⟩
      cases b with
      | d x => exact Fz.keep (stay_chg h) e2
      | l xs =>
        obtain ⟨a', ys'', rfl, q1, q2⟩ := e2
        have ne : a' ≠ a := fun z => hj (p.env.inj i j cs xs a hi q hs (by rw [← z]; exact e1))
        exact ⟨a', ys'', rfl, by rw [upd_ne ne]; exact q1, q2.keep (stay_chg h)⟩
  · have up : ∀ {j : Nat} {zs : List PyData}, (ρ1.set i (some (.l cs')))[j]? = some (some (.l zs)) → ∃ ws, ρ1[j]? = some (some (.l ws)) := fun {j zs} h => by
      rcases get h with ⟨rfl, _⟩ | ⟨_, q⟩
      · exact ⟨cs, hi⟩
      · exact ⟨zs, q⟩
    obtain ⟨w1, q1⟩ := up h1
    obtain ⟨w2, q2⟩ := up h2
    exact p.env.inj j k w1 w2 c q1 q2 h3 h4
  · have ne : b ≠ a := fun z => by
      subst z
      rcases p.own b ⟨i, cs, hi, hs⟩ with w | w
      · exact n w
      · exact w.no e f
    rw [upd_ne ne]
    exact p.keep b o e f n
end

/-! ### methods -/
abbrev Mth := List PyData → List PyData → Option (List PyData × PyData)
def rMt (K : PySem.W.Frag) (m : Mth) : V → List V → Hp → VK → Prop := fun x vs H Q => ∃ a ys cs xs cs' r, x = .ref a ∧ H a = some (.lst ys) ∧ FzAll K H ys cs ∧ FzAll K H vs xs ∧ m cs xs = some (cs', r) ∧
  ∀ v ys', FzAll K H ys' cs' → Fz K H v r → Q v (upd H a (.lst ys'))
section
variable {X : Cx} {W : WX} {io : List Nat}
theorem meth_fin {m : Mth} {i : Nat} {a : Ad} {σ : St} {H : Hp} {Q : VK} (h : tC X.K X.mg W (cMeth m i a) σ H Q) : tBM X.K "list" (rMt X.K m) (tC X.K X.mg W (cVar i)) (tA X.K X.mg W a) σ H Q := by
  obtain ⟨ρ, er, f⟩ := h
  unfold cMeth at f
  cases e0 : slot ρ i with
  | none => rw [e0] at f; exact f.elim
  | some b =>
    cases b with
    | d x => rw [e0] at f; exact f.elim
    | l cs0 =>
      rw [e0] at f
      refine ⟨ρ, er, ?_⟩
      unfold cVar
      rw [e0]
      intro v H1 p dn
      have dn : σ[i]? = some (some v) := dn
      obtain ⟨v', e1, a0, ys0, rfl, h0, h00⟩ := p.env.den i _ (slot_some e0)
      have ev : V.ref a0 = v := Option.some.inj (Option.some.inj (e1.symm.trans dn))
      subst ev
      refine ⟨.inl ⟨rfl, ys0, .inl (.inl h0)⟩, ρ, p.env, ?_⟩
      have fl : Fin X.K X.mg W σ H1 ρ (fun H2 ρ2 v h => DenR X.K H1 σ ρ H2 σ ρ2 v h) _ Q := Fin.laterC p f
      refine Fin.part fl fun hs ρ1 c1 f1 vs H2 q dnA => ?_
      cases e2 : slot ρ1 i with
      | none => rw [e2] at f1; exact f1.elim
      | some b =>
        cases b with
        | d x => rw [e2] at f1; exact f1.elim
        | l cs =>
          cases e3 : Sv.datas hs with
          | none => rw [e2, e3] at f1; exact f1.elim
          | some xs =>
            rw [e2, e3] at f1
            simp only at f1
            cases e4 : m cs xs with
            | none => rw [e4] at f1; exact f1.elim
            | some r =>
              obtain ⟨cs', r⟩ := r
              rw [e4] at f1
              obtain ⟨v', e5, a', ys, rfl, h1, h2⟩ := q.env.den i _ (slot_some e2)
              have ev : V.ref a' = V.ref a0 := Option.some.inj (Option.some.inj (e5.symm.trans dn))
              cases ev
              exact ⟨a0, ys, cs, xs, cs', r, rfl, h1, h2, dnA.datas e3, e4, fun v ys' g1 g2 => f1 v _ (q.mut (slot_some e2) dn h1 g1) (g2.keep (stay_chg h1))⟩
variable {o e : Expr} {es : List Expr} {name : Str} {apos cpos : Pos} {id : String} {m : Mth} {i : Nat} {a : Ad}
theorem e_meth (slot : Slot "list" name id) (hty : typeOf (.builtin id) = pure (.type "method_descriptor")) (hm : MtR X id (rMt X.K m)) (ho : JE X W o (cVar i)) (ha : JA X W (e :: es) a)
    (hbase : attributeBase o name X.env (eval o X.env) = eval o X.env := by rfl)
    (hfew : ((backTo cpos (starEach (e :: es) X.env)).all (fun x => !x.1) && (backToKw cpos (keywordEach [] X.env)).all (fun x => x.1.isSome) && decide ((e :: es).length + ([] : List Keyword).length + (if ([] : List Keyword).isEmpty then 0 else 1) < 30)) = true := by rfl)
    (hline : (apos.endLine == cpos.line) = true := by rfl) (hs : starEach (e :: es) X.env = (false, eval e X.env) :: starEach es X.env := by rfl) (hplain : (backTo cpos (starEach es X.env)).any (·.1) = false := by rfl) :
    JE X W (.Call (.Attribute o name apos) (e :: es) [] cpos) (cMeth m i a) :=
  pe_weak (pe_bm PySem.F.plainAttrs_list slot hty hm ho ha hbase hfew hline hs hplain) fun σ H Q h => meth_fin h
theorem e_meth0 (slot : Slot "list" name id) (hty : typeOf (.builtin id) = pure (.type "method_descriptor")) (hm : MtR X id (rMt X.K m)) (ho : JE X W o (cVar i))
    (hbase : attributeBase o name X.env (eval o X.env) = eval o X.env := by rfl) (hline : (apos.endLine == cpos.line) = true := by rfl) : JE X W (.Call (.Attribute o name apos) [] [] cpos) (cMeth m i aNil) :=
  pe_weak (pe_bm0 PySem.F.plainAttrs_list slot hty hm ho hbase hline) fun σ H Q h => by
    refine (show tC X.K X.mg W (cVar i) σ H _ from ?_)
    have h' := meth_fin h
    obtain ⟨ρ, er, f⟩ := h'
    refine ⟨ρ, er, ?_⟩
    cases e : cVar i ρ with
    | ok hd ρ1 =>
      rw [e] at f
      exact fun v H1 p dn => by
        obtain ⟨ty, ρ2, er2, g⟩ := f v H1 p dn
        exact ⟨ty, g [] H1 (Pst.refl er2) .nil⟩
    | ex x ρ1 => rw [e] at f; exact f
    | no => rw [e] at f; exact f
theorem mt_weak {r r' : V → List V → Hp → VK → Prop} (h : MtR X id r) (w : ∀ x vs H Q, r' x vs H Q → r x vs H Q) : MtR X id r' := fun pins s σ H x xs v us Q I rx rv q => h pins s σ H x xs v us Q I rx rv (w x xs H Q q)

/-! ### the methods of lists -/
def mAppend : Mth := fun cs xs => match xs with
  | [x] => if cs.length < sizeLine then some (cs ++ [x], .none) else none
  | _ => none
theorem m_append : MtR X "list.append" (rMt X.K mAppend) := mt_weak mt_append fun x vs H Q ⟨a, ys, cs, xs, cs', r, hx, h1, h2, h3, h4, q⟩ => by
  cases h3 with
  | nil => cases h4
  | cons fz t =>
    cases t with
    | cons _ _ => cases h4
    | nil =>
      simp only [mAppend] at h4
      split at h4
      · rename_i hl
        cases h4
        exact ⟨a, ys, _, hx, rfl, h1, by rw [h2.length]; exact hl, q _ _ (h2.append (.cons fz .nil)) .non⟩
      · cases h4
def mPop : Mth := fun cs xs => match xs with
  | [] => match cs.getLast? with
    | some y => some (cs.dropLast, y)
    | none => none
  | _ => none
theorem FzAll.dropLast {K : PySem.W.Frag} {H : Hp} {vs : List V} {ds : List PyData} (h : FzAll K H vs ds) : FzAll K H vs.dropLast ds.dropLast := by
  rw [List.dropLast_eq_take, List.dropLast_eq_take, h.length]
  exact h.take _
theorem m_pop : MtR X "list.pop" (rMt X.K mPop) := mt_weak mt_pop fun x vs H Q ⟨a, ys, cs, xs, cs', r, hx, h1, h2, h3, h4, q⟩ => by
  cases h3 with
  | cons _ _ => cases h4
  | nil =>
    simp only [mPop] at h4
    cases e : cs.getLast? with
    | none => rw [e] at h4; cases h4
    | some y =>
      rw [e] at h4
      cases h4
      rw [List.getLast?_eq_getElem?] at e
      obtain ⟨v, e1, fz⟩ := h2.get e
      rw [← h2.length] at e1
      exact ⟨a, ys, v, hx, rfl, h1, e1, q _ _ h2.dropLast fz⟩

/-! ### stores to places -/
def rSt (K : PySem.W.Frag) (f : List PyData → PyData → PyData → Option (List PyData)) : TSet := fun o i v H Q => ∃ a ys cs j x cs', o = .ref a ∧ H a = some (.lst ys) ∧ FzAll K H ys cs ∧ Vw K H i j ∧ Fz K H v x ∧ f cs j x = some cs' ∧
  ∀ ys', FzAll K H ys' cs' → Q (upd H a (.lst ys'))
theorem s_setIx {o k e : Expr} {f : List PyData → PyData → PyData → Option (List PyData)} {i : Nat} {ck c : Cd} {pos pos' : Pos} (hset : PSet X (rSt X.K f)) (ho : JE X W o (cVar i)) (hk : JE X W k ck) (pk : Pl ck) (he : JE X W e c)
    (hs : swapsWithSole [.Subscript o k pos'] e pos.line X.env = pure false := by rfl) (hw : swappedStores [.Subscript o k pos'] e X.env = pure none := by rfl) (h1 : (assignEach [.Subscript o k pos'] X.env).map (·.2) = [assign (.Subscript o k pos') X.env] := by rfl)
    (ha : ∀ v, assign (.Subscript o k pos') X.env v = (do
      let ov ← holding [v] (eval o X.env)
      let iv ← holding [v, ov] (eval k X.env)
      standAt pos'
      holding [v, ov, iv] (setItem ov iv v)
      release [v, ov, iv] []) := by intro _; rfl) :
    JS X W io (.Assign [.Subscript o k pos'] e pos) (sSetIx f i ck c) :=
  ps_weak (ps_asg (e_hold he) (pg_sub ho hk hset ha) hs hw h1) fun D σ H ⟨ρ, er, f0⟩ => by
    refine ⟨ρ, er, FinS.part f0 fun hd ρ1 c1 f1 v H1 p dn => ?_⟩
    have pl := pl_E c _ _ _ c1
    cases e0 : slot ρ1 i with
    | none => rw [e0] at f1; exact f1.elim
    | some b0 =>
      rw [e0] at f1
      refine ⟨ρ1, p.env, ?_⟩
      unfold cVar
      rw [e0]
      intro ov H2 p2 do2
      have do2 : σ[i]? = some (some ov) := do2
      have f2 := FinS.later (p.trans p2) .refl f1
      refine ⟨ρ1, p2.env, FinS.part f2 fun hk ρ2 c2 f3 iv H3 p3 dk => ?_⟩
      cases hd with
      | s j => exact f3.elim
      | v b =>
        cases b with
        | l xs => exact pl.elim
        | d x =>
          cases e1 : hk.rd ρ2 with
          | none => rw [e1] at f3; exact f3.elim
          | some j =>
            cases e2 : slot ρ2 i with
            | none => rw [e1, e2] at f3; exact f3.elim
            | some b =>
              cases b with
              | d y => rw [e1, e2] at f3; exact f3.elim
              | l cs =>
                rw [e1, e2] at f3
                simp only at f3
                cases e3 : f cs j x with
                | none => rw [e3] at f3; exact f3.elim
                | some cs' =>
                  rw [e3] at f3
                  obtain ⟨v', e5, a, ys, rfl, g1, g2⟩ := p3.env.den i _ (slot_some e2)
                  have ev : V.ref a = ov := Option.some.inj (Option.some.inj (e5.symm.trans do2))
                  subst ev
                  exact ⟨a, ys, cs, j, x, cs', rfl, g1, g2, dk.vw (pk _ _ _ c2) p3.env (Pst.refl p3.env) e1, p3.fz p2.env (p2.fz p.env dn), e3, fun ys' g => f3 σ _ (p3.mut (slot_some e2) e5 g1 g) .refl⟩
/-! ### x op= e -/
def rIp (K : PySem.W.Frag) (f : PyData → PyData → Option PyData) : TIp := fun x y H Q => ∃ a b r, Fz K H x a ∧ Vw K H y b ∧ f a b = some r ∧ ∀ v H1, (∀ p o, H p = some o → H1 p = some o) → Fz K H1 v r → Q v H1
theorem s_aug {i : Nat} {x : Str} {e : Expr} {c : Cd} {op : Operator} {f : PyData → PyData → Option PyData} {pos pos' : Pos} (hN : X.N.Nodup) (hi : X.N[i]? = some x) (hx : Loc X.env.scope x) (he : JE X W e c) (pl : Pl c) (ho : PIp X op (rIp X.K f)) (hio : i ∉ io)
    (hf : X.fn x = true ∨ X.env.scope.names.lookup x = some .local := by first | exact .inl rfl | exact .inr rfl | assumption) : JS X W io (.AugAssign (.Name x pos') op e pos) (sAug i f c) :=
  ps_weak (ps_aug hN hi hx he ho hf) fun D σ H ⟨ρ, er, f0⟩ => by
    unfold sAug at f0
    cases e0 : slot ρ i with
    | none => rw [e0] at f0; exact f0.elim
    | some b =>
      cases b with
      | l xs => rw [e0] at f0; exact f0.elim
      | d x0 =>
        rw [e0] at f0
        obtain ⟨v0, e1, d0⟩ := er.den i _ (slot_some e0)
        refine ⟨v0, e1, ρ, er, FinS.part f0 fun hd ρ1 c1 f1 v H1 p dn => ?_⟩
        cases e2 : hd.rd ρ1 with
        | none => rw [e2] at f1; exact f1.elim
        | some y =>
          rw [e2] at f1
          simp only at f1
          cases e3 : f x0 y with
          | none => rw [e3] at f1; exact f1.elim
          | some z =>
            rw [e3] at f1
            refine ⟨x0, y, z, p.fz er d0, dn.vw (pl _ _ _ c1) p.env (Pst.refl p.env) e2, e3, fun v2 H2 g fz => ?_⟩
            exact f1 _ H2 ((p.trans (Pst.grow p.env g)).put (b := .d z) fz) (Fx.set hio)
/-! ### a, b = x, y -/
theorem DenR.stay {K : PySem.W.Frag} {H H1 H2 : Hp} {σ : St} {ρ ρ1 ρ2 : Env} {v : V} {b : B} (d : DenR K H σ ρ H1 σ ρ1 v (.v b)) (e1 : EnvRel K H1 σ ρ1) (q : Pst K H1 σ ρ1 H2 σ ρ2) : DenR K H σ ρ H2 σ ρ2 v (.v b) := by
  cases b with
  | d x => exact q.fz e1 d
  | l xs =>
    obtain ⟨a, ys, rfl, h1, h2, h3, h4⟩ := d
    refine ⟨a, ys, rfl, q.keep a _ h1 rfl h3, q.fzAll e1 h2, fun w => ?_, h4⟩
    rcases q.own a w with w | w
    · exact h3 w
    · exact (w.no h1 rfl).elim
theorem FinS.partL {K : PySem.W.Frag} {mg : Str → Option Value} {D : Ends} {H H1 : Hp} {σ : St} {ρ ρ1 : Env} {α β : Type} {Rel : Hp → Env → β → α → Prop} {r : R α} {k : α → Env → RS} {G : β → Hp → Prop} (p : Pst K H σ ρ H1 σ ρ1)
    (f : FinS K mg W io D σ H ρ (r.toS k)) (g : ∀ a ρ2, r = .ok a ρ2 → FinS K mg W io D σ H ρ (k a ρ2) → ∀ v H2, Pst K H1 σ ρ1 H2 σ ρ2 → Rel H2 ρ2 v a → G v H2) : Fin K mg W σ H1 ρ1 Rel r G := by
  cases r with
  | ok a ρ2 => exact fun v H2 q d => g a ρ2 rfl f v H2 q d
  | ex x ρ2 => exact fun cls dd H2 q d => f cls dd σ H2 (p.trans q) .refl d
  | no => exact f
section
variable {K : PySem.W.Frag} {H H1 H2 H3 : Hp} {σ σ2 : St} {ρ ρ1 ρ2 ρ3 : Env} {v v2 v3 : V} {b1 b2 b3 : B} {i j k : Nat}
/-- a new list is not the one before -/
theorem new_ne {a1 a2 : Addr} {ys : List V} (h : H a1 = some (.lst ys)) (n : ¬ Own σ ρ a1) (f : Own σ ρ a2 ∨ New H a2) : a1 ≠ a2 := fun e => by
  subst e
  rcases f with w | w
  · exact n w
  · exact w.no h rfl
/-- still nobody's, when another list is put into a slot -/
theorem DenR.put {vs : St} {ρs : Env} (d : DenR K H σ ρ H1 vs ρs v2 (.v b2)) (er : EnvRel K H1 vs ρs) (ne : ∀ a1 a2 xs ys, v = .ref a1 → b1 = .l xs → v2 = .ref a2 → b2 = .l ys → a1 ≠ a2) : DenR K H σ ρ H1 (vs.set i (some v)) (ρs.set i (some b1)) v2 (.v b2) := by
  cases b2 with
  | d x => exact d
  | l xs =>
    obtain ⟨a, ys, rfl, h1, h2, h3, h4⟩ := d
    refine ⟨a, ys, rfl, h1, h2, fun w => ?_, h4⟩
    rcases own_set er w with w | ⟨e, zs, e2⟩
    · exact h3 w
    · cases e
      cases e2
      exact ne a a zs xs rfl rfl rfl rfl rfl
theorem DenR.apart (d1 : DenR K H σ ρ H1 σ ρ1 v (.v b1)) (d2 : DenR K H1 σ ρ1 H2 σ ρ2 v2 (.v b2)) : ∀ a1 a2 xs ys, v = .ref a1 → b1 = .l xs → v2 = .ref a2 → b2 = .l ys → a1 ≠ a2 := by
  intro a1 a2 xs ys e1 e2 e3 e4
  subst e1 e2 e3 e4
  obtain ⟨a, zs, e, h1, _, h3, _⟩ := d1
  cases e
  obtain ⟨a', zs', e', _, _, _, h4⟩ := d2
  cases e'
  exact new_ne h1 h3 h4
theorem put2 (p : Pst K H σ ρ H1 σ ρ1) (q : Pst K H1 σ ρ1 H2 σ ρ2) (d1 : DenR K H σ ρ H1 σ ρ1 v (.v b1)) (d2 : DenR K H1 σ ρ1 H2 σ ρ2 v2 (.v b2)) : Pst K H σ ρ H2 ((σ.set i (some v)).set j (some v2)) ((ρ2.set i (some b1)).set j (some b2)) :=
  ((p.trans q).put (d1.stay p.env q)).put ((DenR.start p d2).put q.env (d1.apart d2))
theorem put3 (p : Pst K H σ ρ H1 σ ρ1) (q : Pst K H1 σ ρ1 H2 σ ρ2) (r : Pst K H2 σ ρ2 H3 σ ρ3) (d1 : DenR K H σ ρ H1 σ ρ1 v (.v b1)) (d2 : DenR K H1 σ ρ1 H2 σ ρ2 v2 (.v b2)) (d3 : DenR K H2 σ ρ2 H3 σ ρ3 v3 (.v b3)) :
    Pst K H σ ρ H3 (((σ.set i (some v)).set j (some v2)).set k (some v3)) (((ρ3.set i (some b1)).set j (some b2)).set k (some b3)) := by
  have e1 := (d1.stay p.env q)
  have e2 := DenR.start p d2
  have P1 := ((p.trans q).trans r).put (i := i) (e1.stay q.env r)
  have E2 := ((e2.stay q.env r).put (i := i) (v := v) (b1 := b1) r.env (d1.apart d2))
  have P2 := P1.put (i := j) E2
  have E3 := (DenR.start (p.trans q) d3).put (i := i) (v := v) (b1 := b1) r.env (DenR.apart e1 d3)
  exact P2.put (E3.put P1.env (DenR.apart e2 d3))
end
theorem s_par2 {i j : Nat} {x y : Str} {a b : Expr} {ca cb : Cd} {px py pt pt2 pos : Pos} {kt k2 : Nat} (hc : X.calm = true) (hN : X.N.Nodup) (hi : X.N[i]? = some x) (hj : X.N[j]? = some y) (hij : i ≠ j)
    (hx : X.env.scope.names.lookup x = some .local) (hy : X.env.scope.names.lookup y = some .local) (ha : JE X W a ca) (hb : JE X W b cb) (hii : i ∉ io) (hjo : j ∉ io)
    (hw : swappedStores [.Tuple [.Name x px, .Name y py] kt pt] (.Tuple [a, b] k2 pt2) X.env = pure (some [x, y]))
    (hs : swapsWithSole [.Tuple [.Name x px, .Name y py] kt pt] (.Tuple [a, b] k2 pt2) pos.line X.env = pure false := by rfl)
    (h1 : starEach [a, b] X.env = (false, eval a X.env) :: starEach [b] X.env := by rfl) (h2 : starEach [b] X.env = (false, eval b X.env) :: starEach [] X.env := by rfl) :
    JS X W io (.Assign [.Tuple [.Name x px, .Name y py] kt pt] (.Tuple [a, b] k2 pt2) pos) (sPar2 i j ca cb) :=
  ps_weak (ps_par hc hN hi hj hij hx hy (pa_cons ha (pa_cons hb pa_nil h2) h1) hw hs) fun D σ H ⟨ρ, er, f0⟩ => by
    refine ⟨ρ, er, FinS.part f0 fun hd ρ1 c1 f1 v H1 p dn => ?_⟩
    refine ⟨ρ1, p.env, FinS.partL p f1 fun hd2 ρ2 c2 f3 v2 H2 q dn2 => ?_⟩
    cases hd with
    | s _ => exact f3.elim
    | v b1 =>
      cases hd2 with
      | s _ => exact f3.elim
      | v b2 => exact ⟨v, v2, rfl, f3 _ H2 (put2 p q dn dn2) ((Fx.set hii).trans (Fx.set hjo))⟩
theorem s_par3 {i j k : Nat} {x y z : Str} {a b c : Expr} {ca cb cc : Cd} {px py pz pt pt2 pos : Pos} {kt k2 : Nat} (hc : X.calm = true) (hN : X.N.Nodup) (hi : X.N[i]? = some x) (hj : X.N[j]? = some y) (hk : X.N[k]? = some z) (hij : i ≠ j) (hik : i ≠ k) (hjk : j ≠ k)
    (hx : X.env.scope.names.lookup x = some .local) (hy : X.env.scope.names.lookup y = some .local) (hz : X.env.scope.names.lookup z = some .local) (ha : JE X W a ca) (hb : JE X W b cb) (hcc : JE X W c cc) (hii : i ∉ io) (hjo : j ∉ io) (hko : k ∉ io)
    (hw : swappedStores [.Tuple [.Name x px, .Name y py, .Name z pz] kt pt] (.Tuple [a, b, c] k2 pt2) X.env = pure (some [x, y, z]))
    (hs : swapsWithSole [.Tuple [.Name x px, .Name y py, .Name z pz] kt pt] (.Tuple [a, b, c] k2 pt2) pos.line X.env = pure false := by rfl)
    (h1 : starEach [a, b, c] X.env = (false, eval a X.env) :: starEach [b, c] X.env := by rfl) (h2 : starEach [b, c] X.env = (false, eval b X.env) :: starEach [c] X.env := by rfl) (h3 : starEach [c] X.env = (false, eval c X.env) :: starEach [] X.env := by rfl) :
    JS X W io (.Assign [.Tuple [.Name x px, .Name y py, .Name z pz] kt pt] (.Tuple [a, b, c] k2 pt2) pos) (sPar3 i j k ca cb cc) :=
  ps_weak (ps_par3 hc hN hi hj hk hij hik hjk hx hy hz (pa_cons ha (pa_cons hb (pa_cons hcc pa_nil h3) h2) h1) hw hs) fun D σ H ⟨ρ, er, f0⟩ => by
    refine ⟨ρ, er, FinS.part f0 fun hd ρ1 c1 f1 v H1 p dn => ?_⟩
    refine ⟨ρ1, p.env, FinS.partL p f1 fun hd2 ρ2 c2 f3 v2 H2 q dn2 => ?_⟩
    refine ⟨ρ2, q.env, FinS.partL (p.trans q) f3 fun hd3 ρ3 c3 f5 v3 H3 r dn3 => ?_⟩
    cases hd with
    | s _ => exact f5.elim
    | v b1 =>
      cases hd2 with
      | s _ => exact f5.elim
      | v b2 =>
        cases hd3 with
        | s _ => exact f5.elim
        | v b3 => exact ⟨v, v2, v3, rfl, f5 _ H3 (put3 p q r dn dn2 dn3) (((Fx.set hii).trans (Fx.set hjo)).trans (Fx.set hko))⟩
/-- x = [..] on one line -/
theorem s_setLc {i : Nat} {y : Str} {py : Pos} {elt tg iter : Expr} {ifs : List Expr} {scope : Scope} {own : List (Str × Nat)} {pos spos : Pos} {w : Wd} {t : Gd} {tt : Td} {c : Cd} {io' : List Nat} (hc : X.calm = true) (hN : X.N.Nodup) (hy : X.N[i]? = some y) (hyl : X.env.scope.names.lookup y = some .local)
    (hsw : swapsWith (.ListComp elt [⟨tg, iter, ifs, 0⟩] scope pos) (some (.Name y py)) spos.line X.env = pure true) (hi : JI X W tg iter w) (ok : BlkOk X.N X.env.scope scope own)
    (hg : ∀ (s : Shared) (H : Hp) (C : Addr) (cl : List (Str × Addr)) (fp : List Addr), JG (X.blk s H scope (compEnvC scope cl C X.env) fp) io' tg t) (ht : ∀ (s : Shared) (H : Hp) (C : Addr) (cl : List (Str × Addr)) (fp : List Addr), JTs (X.blk s H scope (compEnvC scope cl C X.env) fp) ifs tt)
    (he : ∀ (s : Shared) (H : Hp) (C : Addr) (cl : List (Str × Addr)) (fp : List Addr), JE (X.blk s H scope (compEnvC scope cl C X.env) fp) WF elt c) (hio : ∀ j, j < X.N.length → j ∉ own.map (·.2) → j ∈ io') (tm : Tame t) (hii : i ∉ io) (hs : ∀ x, foldedSetIterable iter X.env x = pure x := by intro _; rfl) :
    JS X W io (.Assign [.Name y py] (.ListComp elt [⟨tg, iter, ifs, 0⟩] scope pos) spos) (sSet i (cComp (own.map (·.2)) w t tt c)) := by
  refine ⟨fun pins s σ H D I ⟨ρ, er, f⟩ => ?_⟩
  refine (ps_setLc (te := tC X.K X.mg WF (cE c)) (g := tG X.K io' t) (tt := tT X.K X.mg WF tt) hc hN hy hyl hsw hi ok (fun s H C cl fp => (hg s H C cl fp).pg) ht (fun s H C cl fp => e_hold (he s H C cl fp)) hs).run pins s σ H D I ?_
  refine comp_fin (elt := elt) (tg := tg) tm (by rw [I.len]; exact hio) ⟨ρ, er, FinS.part f fun hd ρ1 c1 f1 v H1 p dn => ?_⟩
  cases hd with
  | v b => exact f1 _ H1 (p.put dn) (Fx.set hii)
  | s j =>
    unfold cComp at c1
    cases ew : w ρ with
    | ex _ _ => rw [ew] at c1; cases c1
    | no => rw [ew] at c1; cases c1
    | ok xs ρ2 =>
      rw [ew, R.bind_ok] at c1
      split at c1
      · split at c1
        · cases c1
        · cases c1
      · cases c1

/-! ### raise -/
theorem s_raise {e : Expr} {C : Addr} {x : Str} {pos : Pos} (hc : X.calm = true) (tk : Takes X W) (hm : X.mg x = some (.ref C)) (he : PMk X e (fun _ H Q => Q (.ref C) none H)) : JS X W io (.Raise (some e) none pos) (sRaise ⟨x, []⟩) :=
  ps_weak (ps_raise hc tk he) fun D σ H ⟨ρ, er, f⟩ => f (.ref C) none σ H (Pst.refl er) .refl ⟨hm, .inl ⟨rfl, rfl⟩⟩
end
end Sv
end
section
set_option autoImplicit false
set_option linter.all false
/-! Sv: operations by values. -/
namespace Sv
open PySem PySem.Spec L2
open PyProof.Rows hiding St
variable [HasT]

/-! ### what reads as data, in the true heap -/
section
variable {X : Cx} {pins : List (Addr × Obj)} {σ : St} {H : Hp} {s : Shared}
theorem lst_obj {a : Addr} {xs : List V} (I : Inv X pins σ H s) (h : RL X.K H a xs) : ∃ its n, Vals xs its ∧ xs.length ≤ sizeLine ∧ IsL s.heap a its.toArray n := by
  rcases h with h | ⟨its, n, h1, h2, h3⟩
  · obtain ⟨z, its, n, rv, e⟩ := (Rd.ok h I.hok : ObjOk X.prog X.w H s.heap _ (.lst _))
    exact ⟨its, n, rv, z, e⟩
  · exact ⟨its, n, h2, by rw [h2.length]; exact h3, I.kIn a _ h1⟩
mutual
theorem Fz.reads (I : Inv X pins σ H s) : ∀ {v : V} {d : PyData}, Fz X.K H v d → d.plain = true → ∀ {u : Value}, RelV v u → ∃ as, Reads s.heap u d as
  | _, _, .non, _, _, r => by cases r; exact ⟨_, .none⟩
  | _, _, .bl b, _, _, r => by cases r; exact ⟨_, .bool b⟩
  | _, _, .int i, _, _, r => by obtain ⟨t, rfl⟩ := r; exact ⟨_, .int i t⟩
  | _, _, .str x, _, _, r => by obtain ⟨t, rfl⟩ := r; exact ⟨_, .str x t⟩
  | _, _, .lst h t, p, _, r => by
    cases r
    obtain ⟨its, n, rv, _, e⟩ := lst_obj I h.rl
    obtain ⟨as, q⟩ := FzAll.reads I t (by simpa [PyData.plain] using p) rv
    exact ⟨_, .list e rfl rfl (by simpa using q)⟩
  | _, _, .tup h t, p, _, r => by
    cases r
    obtain ⟨its, rv, ⟨o, e, c, n, d⟩, _⟩ := I.tuple h
    obtain ⟨as, q⟩ := FzAll.reads I t (by simpa [PyData.plain] using p) rv
    exact ⟨_, .tuple e c d (by simpa using q)⟩
  | _, _, .dct h e t f, p, _, r => by cases p
theorem FzAll.reads (I : Inv X pins σ H s) : ∀ {vs : List V} {ds : List PyData}, FzAll X.K H vs ds → PyData.plainAll ds = true → ∀ {us : List Value}, Vals vs us → ∃ as, ReadsAll s.heap us ds as
  | _, _, .nil, _, _, r => by cases r; exact ⟨_, .nil⟩
  | _, _, .cons h t, p, _, r => by
    cases r with
    | cons r1 r2 =>
      simp only [PyData.plainAll, Bool.and_eq_true] at p
      obtain ⟨as, q1⟩ := Fz.reads I h p.1 r1
      obtain ⟨bs, q2⟩ := FzAll.reads I t p.2 r2
      exact ⟨_, .cons q1 q2⟩
end
theorem Vw.reads (I : Inv X pins σ H s) : ∀ {v : V} {d : PyData}, Vw X.K H v d → d.plain = true → ∀ {u : Value}, RelV v u → ∃ as, Reads s.heap u d as
  | _, _, .non, _, _, r => by cases r; exact ⟨_, .none⟩
  | _, _, .bl b, _, _, r => by cases r; exact ⟨_, .bool b⟩
  | _, _, .int i, _, _, r => by obtain ⟨t, rfl⟩ := r; exact ⟨_, .int i t⟩
  | _, _, .str x, _, _, r => by obtain ⟨t, rfl⟩ := r; exact ⟨_, .str x t⟩
  | _, _, .lst h t, p, _, r => by
    cases r
    obtain ⟨its, n, rv, _, e⟩ := lst_obj I h
    obtain ⟨as, q⟩ := FzAll.reads I t (by simpa [PyData.plain] using p) rv
    exact ⟨_, .list e rfl rfl (by simpa using q)⟩
  | _, _, .tup h t, p, _, r => by
    cases r
    obtain ⟨its, rv, ⟨o, e, c, n, d⟩, _⟩ := I.tuple h
    obtain ⟨as, q⟩ := FzAll.reads I t (by simpa [PyData.plain] using p) rv
    exact ⟨_, .tuple e c d (by simpa using q)⟩
  | _, _, .dct h e t f, p, _, r => by cases p
end

/-! ### results -/
section
variable {K : PySem.W.Frag} {H : Hp}
theorem nb_int (i : Int) : NewB K H H (.int i) (.d (.int i)) := ⟨fun _ _ h => h, .int i⟩
theorem nb_str (i : Str) : NewB K H H (.str i) (.d (.str i)) := ⟨fun _ _ h => h, .str i⟩
theorem nb_bl (i : Bool) : NewB K H H (.bl i) (.d (.bool i)) := ⟨fun _ _ h => h, .bl i⟩
theorem nb_fz {v : V} {x : PyData} (h : Fz K H v x) : NewB K H H v (.d x) := ⟨fun _ _ h => h, h⟩
theorem Vw.fzT {v : V} {xs : List PyData} (h : Vw K H v (.tuple xs)) : Fz K H v (.tuple xs) := by cases h with | tup a b => exact .tup a b
end

/-! ### + - * // % ** -/
def addP : PyData → PyData → Option B
  | .int a, .int b => some (.d (.int (a + b)))
  | .str a, .str b => if a.length + b.length ≤ sizeLine then some (.d (.str (a ++ b))) else none
  | .tuple a, .tuple b => if a.length + b.length ≤ sizeLine then some (.d (.tuple (a ++ b))) else none
  | .list a, .list b => if a.length + b.length ≤ sizeLine then some (.l (a ++ b)) else none
  | _, _ => none
def subP : PyData → PyData → Option B
  | .int a, .int b => some (.d (.int (a - b)))
  | _, _ => none
def small64 (i : Int) : Bool := decide (i.natAbs < 18446744073709551616)
def mulP : PyData → PyData → Option B
  | .int a, .int b => if (small64 a || small64 b) = true then some (.d (.int (a * b))) else none
  | .tuple a, .int k => if a ≠ [] ∧ 2 ≤ k ∧ k ≤ 1000 ∧ a.length ≤ 1000 then some (.d (.tuple (List.replicate k.toNat a).flatten)) else none
  | .list a, .int k => if 0 ≤ k ∧ k ≤ 1000 ∧ a.length ≤ 1000 then some (.l (List.replicate k.toNat a).flatten) else none
  | _, _ => none
def fdivP : PyData → PyData → Option B
  | .int a, .int b => if 0 < b ∧ b < 1073741824 then some (.d (.int (a / b))) else none
  | _, _ => none
def modP : PyData → PyData → Option B
  | .int a, .int b => if 0 < b then some (.d (.int (a % b))) else none
  | _, _ => none
def powP : PyData → PyData → Option B
  | .int a, .int b => if 0 ≤ b ∧ (Builtin.Int.intBits a : Int) * b ≤ 134217728 then some (.d (.int (a ^ b.toNat))) else none
  | _, _ => none
section
variable {X : Cx}
theorem opr {f : Value → Value → Sem Value} {g : PyData → PyData → Option B} (h : ∀ (pins : List (Addr × Obj)) (s : Shared) (σ : St) (H : Hp) (x y : V) (v u : Value) (a b : PyData) (r : B) (Q : VK), Inv X pins σ H s → RelV x v → RelV y u → Vw X.K H x a → Vw X.K H y b → g a b = some r →
    (∀ v H1, NewB X.K H H1 v r → Q v H1) → wpAny (model X.prog X.w) X.A (f v u) (EP X pins σ Q) X.xe s) : OpR X f (rB2 X.K g) :=
  fun pins s σ H x y v u Q I rx ry ⟨a, b, r, ha, hb, e, q⟩ => h pins s σ H x y v u a b r Q I rx ry ha hb e q
/-- a new list laid -/
theorem lay_list {pins : List (Addr × Obj)} {s : Shared} {σ : St} {H : Hp} {ys : List V} {us : List Value} {xs : List PyData} {Q : VK} (I : Inv X pins σ H s) (r : Vals ys us) (hl : ys.length ≤ sizeLine) (hx : FzAll X.K H ys xs) (q : ∀ v H1, NewB X.K H H1 v (.l xs) → Q v H1) :
    EP X pins σ Q (.ref s.heap.objs.size) { s with heap := s.heap.push { cls := .type "list", data := .seq us.toArray } } := by
  have hf : H s.heap.objs.size = none := I.hok.fresh (Nat.le_refl _)
  refine ⟨.ref s.heap.objs.size, _, I.laid (t' := s.toks) (o := .lst ys) (fun b u e => Heap.get?_push_of_some _ e) (Nat.le_refl _) ?_, rfl, q _ _ (new_lst hf hx)⟩
  exact ⟨hl, us, 0, r, Heap.get?_push_size _ rfl⟩
theorem o_add : OpR X (binaryOp .Add) (rB2 X.K addP) := opr fun pins s σ H x y v u a b r Q I rx ry ha hb e q => by
  cases ha with
  | int i =>
    cases hb with
    | int j => cases e; exact op_add pins s σ H _ _ v u Q I rx ry ⟨_, _, rfl, rfl, q _ _ (nb_int _)⟩
    | _ => cases e
  | str i =>
    cases hb with
    | str j =>
      simp only [addP] at e
      split at e
      · rename_i hl
        cases e
        exact op_add_str pins s σ H _ _ v u Q I rx ry ⟨_, _, rfl, rfl, hl, q _ _ (nb_str _)⟩
      · cases e
    | _ => cases e
  | @tup a1 xs1 ds1 h1 t1 =>
    cases hb with
    | @tup a2 xs2 ds2 h2 t2 =>
      simp only [addP] at e
      split at e
      · rename_i hl
        cases e
        refine op_catA pins s σ H _ _ v u Q I rx ry ⟨a1, a2, xs1, xs2, rfl, rfl, h1, h2, by rw [t1.length, t2.length]; exact hl, fun z => ?_, fun _ z => ?_, fun _ _ p hp => q _ _ (new_tup hp (t1.append t2))⟩
        · subst z
          cases t1
          exact q _ _ (nb_fz (.tup h2 t2))
        · subst z
          cases t2
          rw [List.append_nil] at q
          exact q _ _ (nb_fz (.tup h1 t1))
      · cases e
    | _ => cases e
  | @lst a1 xs1 ds1 h1 t1 =>
    cases hb with
    | @lst a2 xs2 ds2 h2 t2 =>
      simp only [addP] at e
      split at e
      · rename_i hl
        cases e
        cases rx
        cases ry
        obtain ⟨i1, n1, r1, z1, e1⟩ := lst_obj I h1
        obtain ⟨i2, n2, r2, z2, e2⟩ := lst_obj I h2
        have hz : xs1.length + xs2.length ≤ sizeLine := by rw [t1.length, t2.length]; exact hl
        refine PySem.P.add_list e1 e2 ?_ (by rw [List.size_toArray, List.size_toArray, ← r1.length, ← r2.length]; exact hz)
        have ea : i1.toArray ++ i2.toArray = (i1 ++ i2).toArray := by simp
        rw [ea]
        exact lay_list I (r1.append r2) (by rw [List.length_append]; exact hz) (t1.append t2) q
      · cases e
    | _ => cases e
  | _ => cases e
theorem o_sub : OpR X (binaryOp .Sub) (rB2 X.K subP) := opr fun pins s σ H x y v u a b r Q I rx ry ha hb e q => by
  cases ha with
  | int i =>
    cases hb with
    | int j => cases e; exact op_sub pins s σ H _ _ v u Q I rx ry ⟨_, _, rfl, rfl, q _ _ (nb_int _)⟩
    | _ => cases e
  | _ => cases e
theorem small_ok {a : Int} (h : small64 a = true) : -(2 ^ 64) < a ∧ a < 2 ^ 64 := by
  have h1 : a.natAbs < 18446744073709551616 := of_decide_eq_true h
  constructor <;> omega
theorem FzAll.rep {K : PySem.W.Frag} {H : Hp} {vs : List V} {ds : List PyData} (h : FzAll K H vs ds) : ∀ n : Nat, FzAll K H (List.replicate n vs).flatten (List.replicate n ds).flatten
  | 0 => .nil
  | n + 1 => by
    rw [List.replicate_succ, List.replicate_succ, List.flatten_cons, List.flatten_cons]
    exact h.append (FzAll.rep h n)
theorem Vals.repN {vs : List V} {us : List Value} (h : Vals vs us) : ∀ n : Nat, Vals (List.replicate n vs).flatten (List.replicate n us).flatten
  | 0 => .nil
  | n + 1 => by
    rw [List.replicate_succ, List.replicate_succ, List.flatten_cons, List.flatten_cons]
    exact Vals.append h (Vals.repN h n)
theorem rep_arr (us : List Value) (k : Nat) : List.foldl (fun x1 x2 => x1 ++ x2) #[] (List.replicate (if us.toArray.isEmpty = true then 0 else k) us.toArray) = (List.replicate k us).flatten.toArray := by
  have gen : ∀ (n : Nat) (acc : List Value), List.foldl (fun x1 x2 => x1 ++ x2) acc.toArray (List.replicate n us.toArray) = (acc ++ (List.replicate n us).flatten).toArray := by
    intro n
    induction n with
    | zero => intro acc; simp
    | succ n ih =>
      intro acc
      rw [List.replicate_succ, List.foldl_cons, List.replicate_succ, List.flatten_cons]
      have e : acc.toArray ++ us.toArray = (acc ++ us).toArray := by simp
      rw [e, ih, List.append_assoc]
  have g := gen (if us.toArray.isEmpty = true then 0 else k) []
  rw [List.nil_append] at g
  cases us with
  | nil => simp
  | cons a r => rw [if_neg (by simp)] at g ⊢; exact g
theorem mul_lst {pins : List (Addr × Obj)} {s : Shared} {σ : St} {H : Hp} {a : Addr} {k : Int} {t : Tok} {its : List Value} {n : Nat} {xs : List V} {ds : List PyData} {Q : VK} (I : Inv X pins σ H s) (ho : IsL s.heap a its.toArray n) (rv : Vals xs its) (z : xs.length ≤ sizeLine) (t1 : FzAll X.K H xs ds)
    (hk : -(2 ^ 63) ≤ k ∧ k < 2 ^ 63) (few : its.length * k.toNat ≤ 1000000) (q : ∀ v H1, NewB X.K H H1 v (.l (List.replicate k.toNat ds).flatten) → Q v H1) : wpAny (model X.prog X.w) X.A (binaryOp .Mult (.ref a) (.int k t)) (EP X pins σ Q) X.xe s := by
  have fit : ¬ (!Builtin.List.listFitsIndex k) = true := by
    rw [fitsIndex_both hk.1 hk.2]
    decide
  have f2 : its.toArray.size * k.toNat ≤ 1000000 := by rw [List.size_toArray]; exact few
  have f3 : ¬ its.toArray.size * k.toNat > (2 ^ 63 - 1) / 8 := by omega
  have f4 : ¬ Builtin.List.listTooLong (its.toArray.size * k.toNat) = true := by
    rw [notLongL (Nat.le_trans f2 (by decide))]
    decide
  refine wpAny_binaryOp_repeat_ref (T := "list") (U := "int") (by decide) ⟨_, ho, rfl⟩ (fun s1 => typeIs_int s1 k t) noFill_list_mul PySem.F.fills_int_mul PySem.F.slot_int_rmul repeat_list PySem.F.slot_int_index.lookup ?_
  refine call_meets PySem.F.slot_int_rmul (typeIs_int s k t) PySem.F.entry_int_rmul (PySem.F.args_int_rmul_2 _ _) (int___rmul___int_list k t a its.toArray n) ⟨ho, rfl, ⟨_, ho, rfl⟩, ?_⟩
  refine call_meets PySem.F.slot_list_mul ⟨_, ho, rfl⟩ PySem.F.entry_list_mul (PySem.F.args_list_mul_2 _ _) (AutoListH.list___mul___list_int_3 a its.toArray n k t fit f3 f4) ⟨ho, ?_⟩
  rw [rep_arr]
  refine lay_list I (Vals.repN rv k.toNat) ?_ (t1.rep k.toNat) q
  have e : (List.replicate k.toNat xs).flatten.length = its.length * k.toNat := by
    rw [PyProof.Rows.lm_len_rep_flat, rv.length, Nat.mul_comm]
  rw [e]
  exact Nat.le_trans few (by decide)
theorem o_mul : OpR X (binaryOp .Mult) (rB2 X.K mulP) := opr fun pins s σ H x y v u a b r Q I rx ry ha hb e q => by
  cases ha with
  | int i =>
    cases hb with
    | int j =>
      simp only [mulP] at e
      split at e
      · rename_i hs
        cases e
        refine op_mul pins s σ H _ _ v u Q I rx ry ⟨_, _, rfl, rfl, ?_, q _ _ (nb_int _)⟩
        rcases Bool.or_eq_true _ _ ▸ hs with h | h
        · exact .inl (small_ok h)
        · exact .inr (small_ok h)
      · cases e
    | _ => cases e
  | @tup a1 xs1 ds1 h1 t1 =>
    cases hb with
    | int k =>
      simp only [mulP] at e
      split at e
      · rename_i hc
        cases e
        obtain ⟨c1, c2, c3, c4⟩ := hc
        have hne : xs1 ≠ [] := fun z => by subst z; cases t1; exact c1 rfl
        refine op_repT pins s σ H _ _ v u Q I rx ry ⟨a1, k, xs1, rfl, rfl, h1, hne, c2, c3, by rw [t1.length]; exact c4, fun p hp => q _ _ (new_tup hp ?_)⟩
        exact t1.rep _
      · cases e
    | _ => cases e
  | @lst a1 xs1 ds1 h1 t1 =>
    cases hb with
    | int k =>
      simp only [mulP] at e
      split at e
      · rename_i hc
        cases e
        obtain ⟨c1, c2, c3⟩ := hc
        cases rx
        obtain ⟨t, rfl⟩ := ry
        obtain ⟨its, n, rv, z, ho⟩ := lst_obj I h1
        have len : its.length = ds1.length := by rw [← rv.length, t1.length]
        have kn : k.toNat ≤ 1000 := by omega
        have few : its.length * k.toNat ≤ 1000000 := Nat.mul_le_mul (show its.length ≤ 1000 by omega) kn
        exact mul_lst I ho rv z t1 ⟨by omega, by omega⟩ few q
      · cases e
    | _ => cases e
  | _ => cases e
theorem o_fdiv : OpR X (binaryOp .FloorDiv) (rB2 X.K fdivP) := opr fun pins s σ H x y v u a b r Q I rx ry ha hb e q => by
  cases ha with
  | int i =>
    cases hb with
    | int j =>
      simp only [fdivP] at e
      split at e
      · rename_i hc
        cases e
        exact op_fdiv pins s σ H _ _ v u Q I rx ry ⟨_, _, rfl, rfl, hc, q _ _ (nb_int _)⟩
      · cases e
    | _ => cases e
  | _ => cases e
theorem o_mod : OpR X (binaryOp .Mod) (rB2 X.K modP) := opr fun pins s σ H x y v u a b r Q I rx ry ha hb e q => by
  cases ha with
  | int i =>
    cases hb with
    | int j =>
      simp only [modP] at e
      split at e
      · rename_i hc
        cases e
        exact op_mod pins s σ H _ _ v u Q I rx ry ⟨_, _, rfl, rfl, hc, q _ _ (nb_int _)⟩
      · cases e
    | _ => cases e
  | _ => cases e
theorem o_pow : OpR X (binaryOp .Pow) (rB2 X.K powP) := opr fun pins s σ H x y v u a b r Q I rx ry ha hb e q => by
  cases ha with
  | int i =>
    cases hb with
    | int j =>
      simp only [powP] at e
      split at e
      · rename_i hc
        cases e
        obtain ⟨t, rfl⟩ := rx
        obtain ⟨t', rfl⟩ := ry
        exact pow_int hc.1 hc.2 ⟨.int (i ^ j.toNat), H, I.tok _, ⟨_, rfl⟩, q _ _ (nb_int _)⟩
      · cases e
    | _ => cases e
  | _ => cases e
end
end Sv
end
section
set_option autoImplicit false
set_option linter.all false
/-! Sv: comparisons, subscripts, built-ins by values. -/
namespace Sv
open PySem PySem.Spec L2
open PyProof.Rows hiding St
variable [HasT]

/-! ### == != < <= > >= -/
/-- not too deep to be compared -/
def shal (a b : PyData) : Bool := decide (b.depth ≤ 190) || decide (a.depth ≤ 190)
theorem shal_ok {a b : PyData} (h : shal a b = true) : min a.depth b.depth ≤ 190 := by
  unfold shal at h
  rcases Bool.or_eq_true _ _ ▸ h with h | h
  · have := of_decide_eq_true h; omega
  · have := of_decide_eq_true h; omega
def eqB (a b : PyData) : Option Bool := if (shal a b && b.plain && a.plain) = true then some (PyData.eqv a b) else none
def eqP (a b : PyData) : Option B := (eqB a b).map fun k => .d (.bool k)
def neP (a b : PyData) : Option B := (eqB a b).map fun k => .d (.bool (!k))
theorem eqB_ok {a b : PyData} {k : Bool} (h : eqB a b = some k) : min a.depth b.depth ≤ 190 ∧ a.plain = true ∧ b.plain = true ∧ k = PyData.eqv a b := by
  unfold eqB at h
  split at h
  · rename_i hc
    simp only [Bool.and_eq_true] at hc
    cases h
    exact ⟨shal_ok hc.1.1, hc.2, hc.1.2, rfl⟩
  · cases h
def ordB (f : Int → Int → Bool) (g : PyData → PyData → Bool) (a b : PyData) : Option Bool :=
  match a, b with
  | .int i, .int j => some (f i j)
  | .none, _ => none
  | a, b => if (PySem.W.alike a b && a.plain && b.plain && shal a b) = true then some (g a b) else none
def ltB : PyData → PyData → Option Bool := ordB (fun i j => decide (i < j)) fun a b => PySem.W.dataLt a b
def gtB : PyData → PyData → Option Bool := ordB (fun i j => decide (j < i)) fun a b => PySem.W.dataLt b a
def leB : PyData → PyData → Option Bool := ordB (fun i j => decide (i ≤ j)) fun a b => !PySem.W.dataLt b a
def geB : PyData → PyData → Option Bool := ordB (fun i j => decide (j ≤ i)) fun a b => !PySem.W.dataLt a b
def toP (f : PyData → PyData → Option Bool) (a b : PyData) : Option B := (f a b).map fun k => .d (.bool k)
theorem toP_ok {f : PyData → PyData → Option Bool} {a b : PyData} {r : B} (h : toP f a b = some r) : ∃ k, f a b = some k ∧ r = .d (.bool k) := by
  unfold toP at h
  cases e : f a b with
  | none => rw [e] at h; cases h
  | some k => rw [e] at h; cases h; exact ⟨k, rfl, rfl⟩
section
variable {X : Cx}
theorem fin_b {pins : List (Addr × Obj)} {s : Shared} {σ : St} {H : Hp} {k : Bool} {Q : VK} (I : Inv X pins σ H s) (q : ∀ v H1, NewB X.K H H1 v (.d (.bool k)) → Q v H1) : EP X pins σ Q (.bool k) s := ⟨.bl k, H, I, rfl, q _ _ (nb_bl k)⟩
theorem o_eq (hu : X.A.units + 190 < cLine) : OpR X (compareOp .Eq) (rB2 X.K eqP) := opr fun pins s σ H x y v u a b r Q I rx ry ha hb e q => by
  unfold eqP at e
  cases e1 : eqB a b with
  | none => rw [e1] at e; cases e
  | some k =>
    rw [e1] at e
    cases e
    obtain ⟨h1, h2, h3, rfl⟩ := eqB_ok e1
    obtain ⟨as, ra⟩ := ha.reads I h2 rx
    obtain ⟨bs, rb⟩ := hb.reads I h3 ry
    exact PySem.SeqAt.eq_plain ra rb h2 h3 (by omega) (fin_b I q)
theorem o_ne (hu : X.A.units + 190 < cLine) : OpR X (compareOp .NotEq) (rB2 X.K neP) := opr fun pins s σ H x y v u a b r Q I rx ry ha hb e q => by
  unfold neP at e
  cases e1 : eqB a b with
  | none => rw [e1] at e; cases e
  | some k =>
    rw [e1] at e
    cases e
    obtain ⟨h1, h2, h3, rfl⟩ := eqB_ok e1
    obtain ⟨as, ra⟩ := ha.reads I h2 rx
    obtain ⟨bs, rb⟩ := hb.reads I h3 ry
    exact PySem.SeqAt.ne_plain ra rb h2 h3 (by omega) (fin_b I q)
theorem ord_ok {f : Int → Int → Bool} {g : PyData → PyData → Bool} {a b : PyData} {k : Bool} (h : ordB f g a b = some k) : (∃ i j, a = .int i ∧ b = .int j ∧ k = f i j) ∨ (PySem.W.alike a b = true ∧ a ≠ .none ∧ a.plain = true ∧ b.plain = true ∧ min a.depth b.depth ≤ 190 ∧ k = g a b) := by
  unfold ordB at h
  split at h
  · cases h; exact .inl ⟨_, _, rfl, rfl, rfl⟩
  · cases h
  · rename_i h2 h1
    split at h
    · rename_i hc
      simp only [Bool.and_eq_true] at hc
      cases h
      exact .inr ⟨hc.1.1.1, fun z => h2 z, hc.1.1.2, hc.1.2, shal_ok hc.2, rfl⟩
    · cases h
theorem o_ord {op : CmpOp} {f : Int → Int → Bool} {g : PyData → PyData → Bool} (hu : X.A.units + 190 < cLine)
    (r1 : ∀ (i j : Int) (t u : Tok) (Q : Value → Shared → Prop) (s : Shared), Q (.bool (f i j)) s → wpAny (model X.prog X.w) X.A (compareOp op (.int i t) (.int j u)) Q X.xe s)
    (r2 : ∀ (s : Shared) (a b : Value) (da db : PyData) (as bs : List Addr) (Q : Value → Shared → Prop), Reads s.heap a da as → Reads s.heap b db bs → PySem.W.alike da db = true → da ≠ .none → X.A.units + min da.depth db.depth < cLine → Q (.bool (g da db)) s → wpAny (model X.prog X.w) X.A (compareOp op a b) Q X.xe s) :
    OpR X (compareOp op) (rB2 X.K (toP (ordB f g))) := opr fun pins s σ H x y v u a b r Q I rx ry ha hb e q => by
  obtain ⟨k, e1, rfl⟩ := toP_ok e
  rcases ord_ok e1 with ⟨i, j, rfl, rfl, rfl⟩ | ⟨h1, h2, h3, h4, h5, rfl⟩
  · cases Vw.int' ha
    cases Vw.int' hb
    obtain ⟨t, rfl⟩ := rx
    obtain ⟨t', rfl⟩ := ry
    exact r1 i j t t' _ s (fin_b I q)
  · obtain ⟨as, ra⟩ := ha.reads I h3 rx
    obtain ⟨bs, rb⟩ := hb.reads I h4 ry
    exact r2 s v u a b as bs _ ra rb h1 h2 (by omega) (fin_b I q)
theorem o_lt (hu : X.A.units + 190 < cLine) : OpR X (compareOp .Lt) (rB2 X.K (toP ltB)) := o_ord hu (fun _ _ _ _ _ _ h => lt_int h) fun _ _ _ _ _ _ _ _ ra rb h hn hu h' => PySem.W.lt_data ra rb h hn hu h'
theorem o_gt (hu : X.A.units + 190 < cLine) : OpR X (compareOp .Gt) (rB2 X.K (toP gtB)) := o_ord hu (fun _ _ _ _ _ _ h => gt_int h) fun _ _ _ _ _ _ _ _ ra rb h hn hu h' => PySem.W.gt_data ra rb h hn hu h'
theorem o_le (hu : X.A.units + 190 < cLine) : OpR X (compareOp .LtE) (rB2 X.K (toP leB)) := o_ord hu (fun _ _ _ _ _ _ h => le_int h) fun _ _ _ _ _ _ _ _ ra rb h hn hu h' => PySem.W.le_data ra rb h hn hu h'
theorem o_ge (hu : X.A.units + 190 < cLine) : OpR X (compareOp .GtE) (rB2 X.K (toP geB)) := o_ord hu (fun _ _ _ _ _ _ h => ge_int h) fun _ _ _ _ _ _ _ _ ra rb h hn hu h' => PySem.W.ge_data ra rb h hn hu h'
/-! ### in, is -/
def inB (a b : PyData) : Option Bool :=
  match b with
  | .str z => match a with
    | .str x => match x.cps.toList with
      | [c] => some (decide (c ∈ z.cps.toList))
      | _ => none
    | _ => none
  | .list xs => if (a.plain && PyData.plainAll xs && decide (a.depth ≤ 180)) = true then some (xs.any fun y => PyData.eqv y a) else none
  | .tuple xs => if (a.plain && PyData.plainAll xs && decide (a.depth ≤ 180)) = true then some (xs.any fun y => PyData.eqv y a) else none
  | _ => none
def notInB (a b : PyData) : Option Bool := (inB a b).map (!·)
theorem sign_of {x : Str} {c : Nat} (h : x.cps.toList = [c]) : x = ⟨#[c]⟩ := by
  cases x with
  | mk a =>
    have e : a = #[c] := by
      apply Array.toList_inj.mp
      rw [h]
    rw [e]
theorem o_in (hu : X.A.units + 190 < cLine) : OpR X (compareOp .In) (rB2 X.K (toP inB)) := opr fun pins s σ H x y v u a b r Q I rx ry ha hb e q => by
  obtain ⟨k, e1, rfl⟩ := toP_ok e
  unfold inB at e1
  split at e1
  · split at e1
    · rename_i z x
      cases Vw.str' ha
      cases Vw.str' hb
      split at e1
      · rename_i c hc
        cases e1
        exact op_in_sign pins s σ H _ _ v u Q I rx ry ⟨c, _, by rw [sign_of hc], rfl, q _ _ (nb_bl _)⟩
      · cases e1
    · cases e1
  · split at e1
    · rename_i xs hc
      simp only [Bool.and_eq_true, decide_eq_true_eq] at hc
      cases e1
      obtain ⟨as, ra⟩ := ha.reads I hc.1.1 rx
      obtain ⟨bs, rb⟩ := hb.reads I (by simpa [PyData.plain] using hc.1.2) ry
      exact PySem.SeqAt.in_list_data rb ra hc.1.2 hc.1.1 (by omega) (fin_b I q)
    · cases e1
  · split at e1
    · rename_i xs hc
      simp only [Bool.and_eq_true, decide_eq_true_eq] at hc
      cases e1
      obtain ⟨as, ra⟩ := ha.reads I hc.1.1 rx
      obtain ⟨bs, rb⟩ := hb.reads I (by simpa [PyData.plain] using hc.1.2) ry
      exact PySem.SeqAt.in_tuple_data rb ra hc.1.2 hc.1.1 (by omega) (fin_b I q)
    · cases e1
  · cases e1
theorem o_notIn (hu : X.A.units + 190 < cLine) : OpR X (compareOp .NotIn) (rB2 X.K (toP notInB)) := opr fun pins s σ H x y v u a b r Q I rx ry ha hb e q => by
  obtain ⟨k, e0, rfl⟩ := toP_ok e
  unfold notInB at e0
  cases e1 : inB a b with
  | none => rw [e1] at e0; cases e0
  | some k' =>
    rw [e1] at e0
    cases e0
    unfold inB at e1
    split at e1
    · split at e1
      · rename_i z x
        cases Vw.str' ha
        cases Vw.str' hb
        split at e1
        · rename_i c hc
          cases e1
          exact op_notIn_sign pins s σ H _ _ v u Q I rx ry ⟨c, _, by rw [sign_of hc], rfl, q _ _ (nb_bl _)⟩
        · cases e1
      · cases e1
    · split at e1
      · rename_i xs hc
        simp only [Bool.and_eq_true, decide_eq_true_eq] at hc
        cases e1
        obtain ⟨as, ra⟩ := ha.reads I hc.1.1 rx
        obtain ⟨bs, rb⟩ := hb.reads I (by simpa [PyData.plain] using hc.1.2) ry
        exact PySem.SeqAt.notIn_list_data rb ra hc.1.2 hc.1.1 (by omega) (fin_b I q)
      · cases e1
    · split at e1
      · rename_i xs hc
        simp only [Bool.and_eq_true, decide_eq_true_eq] at hc
        cases e1
        obtain ⟨as, ra⟩ := ha.reads I hc.1.1 rx
        obtain ⟨bs, rb⟩ := hb.reads I (by simpa [PyData.plain] using hc.1.2) ry
        exact PySem.SeqAt.notIn_tuple_data rb ra hc.1.2 hc.1.1 (by omega) (fin_b I q)
      · cases e1
    · cases e1
/-- is None, is True, is False -/
def isB (a b : PyData) : Option Bool :=
  match b with
  | .none => match a with
    | .none => some true
    | _ => some false
  | .bool k => match a with
    | .bool j => some (j == k)
    | _ => none
  | _ => none
def isNotB (a b : PyData) : Option Bool := (isB a b).map (!·)
theorem non_iff {K : PySem.W.Frag} {H : Hp} {v : V} {d : PyData} (h : Vw K H v d) : decide (v = .non) = (match d with | .none => true | _ => false) := by
  cases h <;> rfl
theorem bl_beq (a b : Bool) : decide (a = b) = (a == b) := by cases a <;> cases b <;> rfl
theorem o_is : OpR X (compareOp .Is) (rB2 X.K (toP isB)) := opr fun pins s σ H x y v u a b r Q I rx ry ha hb e q => by
  obtain ⟨k, e1, rfl⟩ := toP_ok e
  unfold isB at e1
  split at e1
  · cases Vw.non' hb
    refine op_isN pins s σ H _ _ v u Q I rx ry ⟨rfl, ?_⟩
    rw [non_iff ha]
    cases a <;> (cases e1; exact q _ _ (nb_bl _))
  · cases Vw.bool hb
    cases a with
    | bool j =>
      cases Vw.bool ha
      cases e1
      refine op_is_bl pins s σ H _ _ v u Q I rx ry ⟨_, _, rfl, rfl, ?_⟩
      rw [bl_beq]
      exact q _ _ (nb_bl _)
    | _ => cases e1
  · cases e1
theorem o_isNot : OpR X (compareOp .IsNot) (rB2 X.K (toP isNotB)) := opr fun pins s σ H x y v u a b r Q I rx ry ha hb e q => by
  obtain ⟨k, e0, rfl⟩ := toP_ok e
  unfold isNotB at e0
  cases e1 : isB a b with
  | none => rw [e1] at e0; cases e0
  | some k' =>
    rw [e1] at e0
    cases e0
    unfold isB at e1
    split at e1
    · cases Vw.non' hb
      refine op_notN pins s σ H _ _ v u Q I rx ry ⟨rfl, ?_⟩
      rw [non_iff ha]
      cases a <;> (cases e1; exact q _ _ (nb_bl _))
    · cases Vw.bool hb
      cases a with
      | bool j =>
        cases Vw.bool ha
        cases e1
        refine op_isnot_bl pins s σ H _ _ v u Q I rx ry ⟨_, _, rfl, rfl, ?_⟩
        rw [bl_beq]
        exact q _ _ (nb_bl _)
      | _ => cases e1
    · cases e1
end
end Sv
end
section
set_option autoImplicit false
set_option linter.all false
/-! Sv: subscripts, slices, built-in functions by values. -/
namespace Sv
open PySem PySem.Spec L2
open PyProof.Rows hiding St
variable [HasT]

/-! ### subscripts -/
def getP (a b : PyData) : Option B :=
  match a, b with
  | .list xs, .int i => (atI xs i).map .d
  | .tuple xs, .int i => (atI xs i).map .d
  | .str z, .int i => if z.length ≤ sizeLine then (atI z.cps.toList i).map fun c => .d (.str ⟨#[c]⟩) else none
  | _, _ => none
/-- xs[lo:hi] -/
def cutD {α : Type} (xs : List α) (lo hi : Option Int) : List α := (xs.drop (HT.sIx xs.length 0 lo)).take (HT.sIx xs.length xs.length hi - HT.sIx xs.length 0 lo)
def slP (a : PyData) (lo hi : Option Int) : Option B :=
  match a with
  | .list xs => some (.l (cutD xs lo hi))
  | .tuple xs => some (.d (.tuple (cutD xs lo hi)))
  | .str z => if z.length ≤ sizeLine then some (.d (.str (Txt.slice z lo hi))) else none
  | _ => none
section
variable {K : PySem.W.Frag} {H : Hp}
theorem FzAll.atI {vs : List V} {ds : List PyData} (h : FzAll K H vs ds) {i : Int} {d : PyData} (e : L2.atI ds i = some d) : ∃ v, L2.atI vs i = some v ∧ Fz K H v d := by
  unfold L2.atI at e ⊢
  rw [h.length]
  cases q : ixN ds.length i with
  | none => rw [q] at e; cases e
  | some j => rw [q] at e; exact h.get e
theorem FzAll.cut {vs : List V} {ds : List PyData} (h : FzAll K H vs ds) (lo hi : Option Int) : FzAll K H (cutV vs lo hi) (cutD ds lo hi) := by
  unfold cutV cutD
  rw [h.length]
  exact (h.drop _).take _
theorem cutD_len {α : Type} (xs : List α) (lo hi : Option Int) : (cutD xs lo hi).length ≤ xs.length := by
  unfold cutD
  rw [List.length_take, List.length_drop]
  omega
theorem cutD_all {α : Type} {xs : List α} {lo hi : Option Int} (h : HT.sIx xs.length 0 lo = 0 ∧ HT.sIx xs.length xs.length hi = xs.length) : cutD xs lo hi = xs := by
  unfold cutD
  rw [h.1, h.2]
  simp
end
section
variable {X : Cx} {W : WX}
theorem ix_get : IxR X (rB2 X.K getP) := fun value slice pins s σ H x y v u Q I rx ry ⟨a, b, r, ha, hb, e, q⟩ hs => by
  refine ix_seq value slice pins s σ H x y v u Q I rx ry ?_ hs
  cases ha with
  | @lst p xs ds h1 t1 =>
    cases hb with
    | int i =>
      simp only [getP] at e
      cases e1 : L2.atI ds i with
      | none => rw [e1] at e; cases e
      | some d =>
        rw [e1] at e
        cases e
        obtain ⟨w, h2, h3⟩ := t1.atI e1
        exact .inl ⟨p, xs, i, w, rfl, rfl, h1.sq, h2, q _ _ (nb_fz h3)⟩
    | _ => cases e
  | @tup p xs ds h1 t1 =>
    cases hb with
    | int i =>
      simp only [getP] at e
      cases e1 : L2.atI ds i with
      | none => rw [e1] at e; cases e
      | some d =>
        rw [e1] at e
        cases e
        obtain ⟨w, h2, h3⟩ := t1.atI e1
        exact .inr (.inl ⟨p, xs, i, w, rfl, rfl, h1, h2, q _ _ (nb_fz h3)⟩)
    | _ => cases e
  | str z =>
    cases hb with
    | int i =>
      simp only [getP] at e
      split at e
      · rename_i hz
        cases e1 : L2.atI z.cps.toList i with
        | none => rw [e1] at e; cases e
        | some d =>
          rw [e1] at e
          cases e
          exact .inr (.inr ⟨z, i, d, rfl, rfl, hz, e1, q _ _ (nb_str _)⟩)
      · cases e
    | _ => cases e
  | _ => cases e
def rSl (K : PySem.W.Frag) (f : PyData → Option Int → Option Int → Option B) : V → Option Int → Option Int → Hp → VK → Prop := fun x lo hi H Q => ∃ a r, Vw K H x a ∧ f a lo hi = some r ∧ ∀ v H1, NewB K H H1 v r → Q v H1
theorem sl_weak {r r' : V → Option Int → Option Int → Hp → VK → Prop} (h : SlR X r) (w : ∀ x lo hi H Q, r' x lo hi H Q → r x lo hi H Q) : SlR X r' := fun pins s σ H x v vl vu lo hi sl Q I rx hs pl pu q => h pins s σ H x v vl vu lo hi sl Q I rx hs pl pu (w x lo hi H Q q)
theorem sl_P : SlR X (rSl X.K slP) := sl_weak ((sl_list.or sl_tupA).or C8.sl_txt) fun x lo hi H Q ⟨a, r, ha, e, q⟩ => by
  cases ha with
  | @lst p xs ds h1 t1 =>
    cases e
    exact .inl (.inl ⟨p, xs, rfl, h1.sq, fun l hl => q _ _ (new_lst hl (t1.cut lo hi))⟩)
  | @tup p xs ds h1 t1 =>
    cases e
    refine .inl (.inr ⟨p, xs, rfl, h1, fun hw => ?_, fun _ l hl => q _ _ (new_tup hl (t1.cut lo hi))⟩)
    rw [t1.length] at hw
    rw [cutD_all hw] at q
    exact q _ _ (nb_fz (.tup h1 t1))
  | str z =>
    simp only [slP] at e
    split at e
    · rename_i hz
      cases e
      exact .inr ⟨z, rfl, hz, q _ _ (nb_str _)⟩
    · cases e
  | _ => cases e
/-- a bound of a slice -/
def bd (o : Option Cd) (e : Env) : R (Option Int) :=
  match o with
  | none => .ok none e
  | some l => (l e).bind fun x e2 => match x.rd e2 with
    | some (.int i) => .ok (some i) e2
    | _ => .no
inductive JO (X : Cx) (W : WX) : Option Expr → Option Cd → Prop
  | none : JO X W Option.none Option.none
  | some {e : Expr} {c : Cd} : JE X W e c → Pl c → JO X W (Option.some e) (Option.some c)
def tO (K : PySem.W.Frag) (mg : Str → Option Value) (W : WX) (c : Option Cd) : TO := fun σ H Q => ∃ ρ, EnvRel K H σ ρ ∧ Fin K mg W σ H ρ (fun _ _ (v : Option Int) k => v = k) (bd c ρ) Q
theorem JO.po {o : Option Expr} {c : Option Cd} (h : JO X W o c) : PO X o (tO X.K X.mg W c) := by
  cases h with
  | none => exact ⟨fun pins s σ H Q I ⟨ρ, er, f⟩ => po_none.run pins s σ H Q I (f Option.none H (Pst.refl er) rfl)⟩
  | some he pl =>
    refine ⟨fun pins s σ H Q I ⟨ρ, er, f⟩ => (po_some he).run pins s σ H Q I ⟨ρ, er, Fin.part f fun hd ρ1 c1 f1 v H1 p dn => ?_⟩⟩
    cases e1 : hd.rd ρ1 with
    | none => rw [e1] at f1; exact f1.elim
    | some x =>
      rw [e1] at f1
      have hx := dn.vw (pl _ _ _ c1) p.env (Pst.refl p.env) e1
      cases x with
      | int i =>
        cases Vw.int' hx
        exact ⟨i, rfl, f1 (Option.some i) H1 p rfl⟩
      | _ => exact f1.elim
theorem cSl_eq (f : PyData → Option Int → Option Int → Option B) (c : Cd) (lo hi : Option Cd) (e : Env) : cSl f c lo hi e = (c e).bind fun h e1 => (bd lo e1).bind fun a e2 => (bd hi e2).bind fun b e3 =>
    match h.rd e3 with
    | some p => (R.opt (f p a b) e3).bind fun r e4 => .ok (.v r) e4
    | none => .no := rfl
theorem e_sl {e : Expr} {lo hi : Option Expr} {c : Cd} {cl ch : Option Cd} {f : PyData → Option Int → Option Int → Option B} {p2 pos : Pos} (hr : SlR X (rSl X.K f)) (he : JE X W e c) (pl : Pl c) (hl : JO X W lo cl) (hh : JO X W hi ch) : JE X W (.Subscript e (.Slice lo hi none p2) pos) (cSl f c cl ch) :=
  pe_weak (pe_slice hr he hl.po hh.po) fun σ H Q ⟨ρ, er, f0⟩ => by
    rw [cSl_eq] at f0
    refine ⟨ρ, er, Fin.part f0 fun hd ρ1 c1 f1 v H1 p dn => ?_⟩
    refine ⟨ρ1, p.env, Fin.part (Fin.laterC p f1) fun a ρ2 c2 f2 a' H2 p2 da => ?_⟩
    subst da
    refine ⟨ρ2, p2.env, Fin.part (Fin.laterC p2 f2) fun b ρ3 c3 f3 b' H3 p3 db => ?_⟩
    subst db
    cases e1 : hd.rd ρ3 with
    | none => rw [e1] at f3; exact f3.elim
    | some x =>
      rw [e1] at f3
      simp only at f3
      cases e2 : f x a' b' with
      | none => rw [e2] at f3; exact f3.elim
      | some r =>
        rw [e2] at f3
        exact ⟨x, r, dn.vw (pl _ _ _ c1) p.env (p2.trans p3) e1, e2, fun w H4 n => n.fin p3 f3⟩

/-! ### built-in functions -/
theorem cr_weak {f : Value} {r r' : List V → Hp → VK → Prop} (h : CallR X f r) (w : ∀ xs H Q, r' xs H Q → r xs H Q) : CallR X f r' := fun pins s σ H xs us Q I rv q => h pins s σ H xs us Q I rv (w xs H Q q)
def one (f : PyData → Option B) : List PyData → Option B
  | [x] => f x
  | _ => none
def two (f : PyData → PyData → Option B) : List PyData → Option B
  | [x, y] => f x y
  | _ => none
theorem VwAll.one {K : PySem.W.Frag} {H : Hp} {vs : List V} {x : PyData} (h : VwAll K H vs [x]) : ∃ v, vs = [v] ∧ Vw K H v x := by
  cases h with
  | cons a t => cases t; exact ⟨_, rfl, a⟩
theorem VwAll.two {K : PySem.W.Frag} {H : Hp} {vs : List V} {x y : PyData} (h : VwAll K H vs [x, y]) : ∃ v w, vs = [v, w] ∧ Vw K H v x ∧ Vw K H w y := by
  cases h with
  | cons a t => cases t with
    | cons b t => cases t; exact ⟨_, _, rfl, a, b⟩
theorem cr_one {f : Value} {g : PyData → Option B} {r : List V → Hp → VK → Prop} (h : CallR X f r) (w : ∀ v x b H Q, Vw X.K H v x → g x = some b → (∀ v H1, NewB X.K H H1 v b → Q v H1) → r [v] H Q) : CallR X f (rBn X.K (one g)) :=
  cr_weak h fun vs H Q ⟨xs, b, hv, e, q⟩ => by
    unfold one at e
    split at e
    · obtain ⟨v, rfl, hx⟩ := hv.one
      exact w v _ b H Q hx e q
    · cases e
theorem cr_two {f : Value} {g : PyData → PyData → Option B} {r : List V → Hp → VK → Prop} (h : CallR X f r) (w : ∀ v u x y b H Q, Vw X.K H v x → Vw X.K H u y → g x y = some b → (∀ v H1, NewB X.K H H1 v b → Q v H1) → r [v, u] H Q) : CallR X f (rBn X.K (two g)) :=
  cr_weak h fun vs H Q ⟨xs, b, hv, e, q⟩ => by
    unfold two at e
    split at e
    · obtain ⟨v, u, rfl, hx, hy⟩ := hv.two
      exact w v u _ _ b H Q hx hy e q
    · cases e
def lenP : PyData → Option B
  | .list xs => some (.d (.int xs.length))
  | .tuple xs => some (.d (.int xs.length))
  | .str z => if z.length ≤ sizeLine then some (.d (.int z.length)) else none
  | _ => none
theorem f_len : CallR X (.builtin "len") (rBn X.K (one lenP)) := cr_one (call_len_seq.or call_len_str) fun v x b H Q hx e q => by
  cases hx with
  | @lst p xs ds h1 t1 =>
    cases e
    rw [← t1.length] at q
    exact .inl ⟨p, xs, rfl, .inl h1.sq, q _ _ (nb_int _)⟩
  | @tup p xs ds h1 t1 =>
    cases e
    rw [← t1.length] at q
    exact .inl ⟨p, xs, rfl, .inr h1, q _ _ (nb_int _)⟩
  | str z =>
    simp only [lenP] at e
    split at e
    · rename_i hz
      cases e
      exact .inr ⟨z, rfl, hz, q _ _ (nb_int _)⟩
    · cases e
  | _ => cases e
def tupleP : PyData → Option B
  | .list xs => some (.d (.tuple xs))
  | .tuple xs => some (.d (.tuple xs))
  | _ => none
theorem f_tuple : CallR X (.type "tuple") (rBn X.K (one tupleP)) := cr_one call_tuple_of fun v x b H Q hx e q => by
  cases hx with
  | @lst p xs ds h1 t1 =>
    cases e
    exact ⟨p, xs, rfl, .inl ⟨h1.sq, fun l hl => q _ _ (new_tup hl t1)⟩⟩
  | @tup p xs ds h1 t1 =>
    cases e
    exact ⟨p, xs, rfl, .inr ⟨h1, q _ _ (nb_fz (.tup h1 t1))⟩⟩
  | _ => cases e
def listP : PyData → Option B
  | .list xs => some (.l xs)
  | .tuple xs => some (.l xs)
  | _ => none
theorem f_list : CallR X (.type "list") (rBn X.K (one listP)) := cr_one call_list_of fun v x b H Q hx e q => by
  cases hx with
  | @lst p xs ds h1 t1 =>
    cases e
    exact ⟨p, xs, rfl, .inl h1.sq, fun l hl => q _ _ (new_lst hl t1)⟩
  | @tup p xs ds h1 t1 =>
    cases e
    exact ⟨p, xs, rfl, .inr h1, fun l hl => q _ _ (new_lst hl t1)⟩
  | _ => cases e
def intP : PyData → Option B
  | .int i => some (.d (.int i))
  | .bool k => some (.d (.int (if k then 1 else 0)))
  | _ => none
theorem f_int : CallR X (.type "int") (rBn X.K (one intP)) := cr_one call_int1 fun v x b H Q hx e q => by
  cases hx with
  | int i => cases e; exact .inl ⟨i, rfl, q _ _ (nb_int _)⟩
  | bl k => cases e; exact .inr ⟨k, rfl, q _ _ (nb_int _)⟩
  | _ => cases e
def absP : PyData → Option B
  | .int i => some (.d (.int (if i < 0 then -i else i)))
  | _ => none
theorem f_abs : CallR X (.builtin "abs") (rBn X.K (one absP)) := cr_one call_abs fun v x b H Q hx e q => by
  cases hx with
  | int i => cases e; exact ⟨i, rfl, q _ _ (nb_int _)⟩
  | _ => cases e
def max2P : PyData → PyData → Option B
  | .int i, .int j => some (.d (.int (if j > i then j else i)))
  | _, _ => none
def min2P : PyData → PyData → Option B
  | .int i, .int j => some (.d (.int (if j < i then j else i)))
  | _, _ => none
theorem f_max2 (hc : X.calm = true) : CallR X (.builtin "max") (rBn X.K (two max2P)) := cr_two (call_max2 hc) fun v u x y b H Q hx hy e q => by
  cases hx with
  | int i => cases hy with
    | int j => cases e; exact ⟨i, j, rfl, q _ _ (nb_int _)⟩
    | _ => cases e
  | _ => cases e
theorem f_min2 (hc : X.calm = true) : CallR X (.builtin "min") (rBn X.K (two min2P)) := cr_two (call_min2 hc) fun v u x y b H Q hx hy e q => by
  cases hx with
  | int i => cases hy with
    | int j => cases e; exact ⟨i, j, rfl, q _ _ (nb_int _)⟩
    | _ => cases e
  | _ => cases e
/-- a list of whole numbers, of truth values -/
def intsOf : List PyData → Option (List Int)
  | [] => some []
  | .int i :: r => (intsOf r).map (i :: ·)
  | _ :: _ => none
def boolsOf : List PyData → Option (List Bool)
  | [] => some []
  | .bool i :: r => (boolsOf r).map (i :: ·)
  | _ :: _ => none
theorem FzAll.intsOf {K : PySem.W.Frag} {H : Hp} : ∀ {vs : List V} {ds : List PyData}, FzAll K H vs ds → ∀ {ns : List Int}, Sv.intsOf ds = some ns → vs = ns.map V.int
  | _, _, .nil, ns, e => by cases e; rfl
  | _, _, .cons (d := d) h t, ns, e => by
    cases h with
    | int i =>
      simp only [Sv.intsOf] at e
      cases e1 : Sv.intsOf _ with
      | none => rw [e1] at e; cases e
      | some ms => rw [e1] at e; cases e; rw [FzAll.intsOf t e1]; rfl
    | _ => cases e
theorem FzAll.boolsOf {K : PySem.W.Frag} {H : Hp} : ∀ {vs : List V} {ds : List PyData}, FzAll K H vs ds → ∀ {ns : List Bool}, Sv.boolsOf ds = some ns → vs = ns.map V.bl
  | _, _, .nil, ns, e => by cases e; rfl
  | _, _, .cons (d := d) h t, ns, e => by
    cases h with
    | bl i =>
      simp only [Sv.boolsOf] at e
      cases e1 : Sv.boolsOf _ with
      | none => rw [e1] at e; cases e
      | some ms => rw [e1] at e; cases e; rw [FzAll.boolsOf t e1]; rfl
    | _ => cases e
def sumP : PyData → Option B
  | .list xs => (intsOf xs).map fun ns => .d (.int ns.sum)
  | _ => none
theorem f_sum (hc : X.calm = true) : CallR X (.builtin "sum") (rBn X.K (one sumP)) := cr_one (cr_sum hc) fun v x b H Q hx e q => by
  cases hx with
  | @lst p xs ds h1 t1 =>
    simp only [sumP] at e
    cases e1 : intsOf ds with
    | none => rw [e1] at e; cases e
    | some ns =>
      rw [e1] at e
      cases e
      exact ⟨p, ns, rfl, (by rw [← t1.intsOf e1]; exact h1.sq), q _ _ (nb_int _)⟩
  | _ => cases e
def allP : PyData → Option B
  | .list xs => (boolsOf xs).map fun ns => .d (.bool (ns.all id))
  | _ => none
theorem f_all (hc : X.calm = true) : CallR X (.builtin "all") (rBn X.K (one allP)) := cr_one (cr_all hc) fun v x b H Q hx e q => by
  cases hx with
  | @lst p xs ds h1 t1 =>
    simp only [allP] at e
    cases e1 : boolsOf ds with
    | none => rw [e1] at e; cases e
    | some ns =>
      rw [e1] at e
      cases e
      exact ⟨p, ns, rfl, (by rw [← t1.boolsOf e1]; exact h1.sq), q _ _ (nb_bl _)⟩
  | _ => cases e
def anyP : PyData → Option B
  | .list xs => (boolsOf xs).map fun ns => .d (.bool (ns.any id))
  | _ => none
theorem f_any (hc : X.calm = true) : CallR X (.builtin "any") (rBn X.K (one anyP)) := cr_one (cr_any hc) fun v x b H Q hx e q => by
  cases hx with
  | @lst p xs ds h1 t1 =>
    simp only [anyP] at e
    cases e1 : boolsOf ds with
    | none => rw [e1] at e; cases e
    | some ns =>
      rw [e1] at e
      cases e
      exact ⟨p, ns, rfl, (by rw [← t1.boolsOf e1]; exact h1.sq), q _ _ (nb_bl _)⟩
  | _ => cases e
/-! ### repr -/
def reprP (x : PyData) : Option B := if (x.plain && x.showable && decide (x.depth ≤ 180) && decide (x.shown.length ≤ sizeLine)) = true then some (.d (.str x.shown)) else none
mutual
theorem plain_noDict : ∀ d : PyData, d.plain = true → d.hasDict = false
  | .none, _ => by simp only [PyData.hasDict]
  | .bool _, _ => by simp only [PyData.hasDict]
  | .int _, _ => by simp only [PyData.hasDict]
  | .str _, _ => by simp only [PyData.hasDict]
  | .list xs, h => by
    simp only [PyData.hasDict]
    exact plainAll_noDict xs (by simpa only [PyData.plain] using h)
  | .tuple xs, h => by
    simp only [PyData.hasDict]
    exact plainAll_noDict xs (by simpa only [PyData.plain] using h)
  | .dict _, h => by cases h
theorem plainAll_noDict : ∀ ds : List PyData, PyData.plainAll ds = true → PyData.hasDictAll ds = false
  | [], _ => by simp only [PyData.hasDictAll]
  | x :: xs, h => by
    simp only [PyData.plainAll, Bool.and_eq_true] at h
    simp only [PyData.hasDictAll, plain_noDict x h.1, plainAll_noDict xs h.2, Bool.or_self]
end
theorem f_repr (hg : X.A.guards = some []) (hu : X.A.units + 190 < cLine) : CallR X (.builtin "repr") (rBn X.K (one reprP)) := fun pins s σ H vs us Q I rv ⟨xs, b, hv, e, q⟩ => by
  unfold one at e
  split at e
  · rename_i x
    obtain ⟨v, rfl, hx⟩ := hv.one
    unfold reprP at e
    split at e
    · rename_i hc
      simp only [Bool.and_eq_true, decide_eq_true_eq] at hc
      cases e
      cases rv with
      | cons r1 r2 =>
        cases r2
        obtain ⟨as, ra⟩ := hx.reads I hc.1.1.1 r1
        have fin : ∀ (h' : Heap) (u : Tok) (tk : Nat), (∀ b o, s.heap.get? b = some o → h'.get? b = some o) → EP X pins σ Q (.str x.shown u) { s with heap := h', toks := tk } := fun h' u tk k => ⟨.str x.shown, H, I.kept k, ⟨u, rfl⟩, q _ _ (nb_str _)⟩
        have far : ∀ {a : Addr}, v = .ref a → wpAny (model X.prog X.w) X.A (call (.builtin "repr") [.ref a]) (EP X pins σ Q) X.xe s := fun {a} ev => by
          subst ev
          cases r1
          exact repr_of_reads' ra hc.1.1.2 (PyData.noDict_hsm (plain_noDict x hc.1.1.1)) hg (by omega) (fun _ _ h => h) fin hc.2
        cases hx with
        | non => cases r1; exact PySem.P.repr_of_none (fin s.heap _ _ fun _ _ h => h)
        | bl k => cases r1; exact PySem.P.repr_of_bool (fin s.heap _ _ fun _ _ h => h)
        | int i =>
          obtain ⟨t, rfl⟩ := r1
          exact PySem.P.repr_of_int (by simpa [PyData.showable] using hc.1.1.2) (fin s.heap _ _ fun _ _ h => h)
        | str z =>
          obtain ⟨t, rfl⟩ := r1
          exact PySem.P.repr_of_str (fin s.heap _ _ fun _ _ h => h) hc.2
        | lst _ _ => cases r1; exact far rfl
        | tup _ _ => cases r1; exact far rfl
        | dct _ _ _ _ => cases r1; exact far rfl
    · cases e
  · cases e
end
end Sv
end
section
set_option autoImplicit false
set_option linter.all false
/-! Sv: isinstance; more methods of lists; stores; x op= y; stars; what is walked: range, a text. -/
namespace Sv
open PySem PySem.Spec L2
open PyProof.Rows hiding St
variable [HasT]

/-! ### isinstance(x, T), T a built-in class -/
def tyName : PyData → String
  | .none => "NoneType"
  | .bool _ => "bool"
  | .int _ => "int"
  | .str _ => "str"
  | .list _ => "list"
  | .tuple _ => "tuple"
  | .dict _ => "dict"
section
variable {K : PySem.W.Frag} {H : Hp}
theorem Vw.ty {v : V} {d : PyData} (h : Vw K H v d) : TyX K H v (.type (tyName d)) := by
  cases h with
  | non => exact .base .non
  | bl b => exact .base (.bl b)
  | int i => exact .base (.int i)
  | str x => exact .base (.str x)
  | lst h t =>
    rcases h with (h | ⟨o, h⟩) | ⟨its, n, h, _⟩
    · exact .base (.lst h)
    · exact .base (.frz h)
    · exact .kList h rfl
  | tup h t =>
    rcases h with (h | ⟨o, h⟩) | ⟨o, its, n, h1, h2, _⟩
    · exact .base (.tup h)
    · exact .fTuple h
    · exact .kTuple h1 h2
  | dct h e t f =>
    rcases h with h | ⟨o, h⟩
    · exact .base (.dK h)
    · exact .fDict h
end
def isP (f : PyData → Bool) (x : PyData) : Option B := some (.d (.bool (f x)))
def isStr : PyData → Bool
  | .str _ => true
  | _ => false
def isTup : PyData → Bool
  | .tuple _ => true
  | _ => false
def isLst : PyData → Bool
  | .list _ => true
  | _ => false
def isDct : PyData → Bool
  | .dict _ => true
  | _ => false
def isInt : PyData → Bool
  | .int _ => true
  | .bool _ => true
  | _ => false
def isBool : PyData → Bool
  | .bool _ => true
  | _ => false
/-- what isinstance says of T -/
def Isi (T : String) (f : PyData → Bool) : Prop := ∀ x, kitB (tyName x) T = some (f x)
theorem isi_str : Isi "str" isStr := fun x => by cases x <;> (simp only [tyName, isStr]; decide +kernel)
theorem isi_tup : Isi "tuple" isTup := fun x => by cases x <;> (simp only [tyName, isTup]; decide +kernel)
theorem isi_lst : Isi "list" isLst := fun x => by cases x <;> (simp only [tyName, isLst]; decide +kernel)
theorem isi_dct : Isi "dict" isDct := fun x => by cases x <;> (simp only [tyName, isDct]; decide +kernel)
theorem isi_int : Isi "int" isInt := fun x => by cases x <;> (simp only [tyName, isInt]; decide +kernel)
theorem isi_bool : Isi "bool" isBool := fun x => by cases x <;> (simp only [tyName, isBool]; decide +kernel)
section
variable {X : Cx} {W : WX} {io : List Nat}
theorem e_isi {e : Expr} {c : Cd} {T : String} {T' : Str} {f : PyData → Bool} {p pT pos : Pos} (hT : Isi T f) (hm : X.mg "isinstance" = none) (hg : Gl X "isinstance") (he : JE X W e c) (pl : Pl c) (hgT : Gl X T') (hmT : X.mg T' = none) (hv : bootBuiltins T' = some (.type T)) (hn : T' ≠ "__name__" := by decide)
    (hd : (T' == ("__debug__" : Str)) = false := by decide) (h1 : starEach [e, .Name T' pT] X.env = (false, eval e X.env) :: starEach [.Name T' pT] X.env := by rfl) (h2 : starEach [.Name T' pT] X.env = (false, eval (.Name T' pT) X.env) :: starEach [] X.env := by rfl)
    (hpl : (backTo pos (starEach [.Name T' pT] X.env)).any (·.1) = false := by rfl) : JE X W (.Call (.Name "isinstance" p) [e, .Name T' pT] [] pos) (cUn (isP f) c) :=
  pe_weak (pe_callB call_isi hg hm boot_isinstance (pa_cons he (pa_cons (pe_bltn (v := .ty T) hgT hmT hv rfl hn hd) pa_nil h2) h1) (by decide) (by decide) h1 hpl) fun σ H Q ⟨ρ, er, f0⟩ => by
    refine ⟨ρ, er, Fin.part f0 fun hd ρ1 c1 f1 v H1 p dn => ?_⟩
    cases e1 : hd.rd ρ1 with
    | none => rw [e1] at f1; exact f1.elim
    | some x =>
      rw [e1] at f1
      have hx := dn.vw (pl _ _ _ c1) p.env (Pst.refl p.env) e1
      exact ⟨v, .ty T, .type (tyName x), .type T, f x, rfl, .ty T, hx.ty, kit_ty (hT x), (nb_bl (f x)).fin p f1⟩

/-! ### xs.extend(ys), xs.insert(i, y), xs.pop(i) -/
def mExtend : Mth := fun cs xs => match xs with
  | [.list ys] => if cs.length + ys.length ≤ sizeLine then some (cs ++ ys, .none) else none
  | [.tuple ys] => if cs.length + ys.length ≤ sizeLine then some (cs ++ ys, .none) else none
  | _ => none
theorem not_long {items items2 : Array Value} (h : items.size + items2.size ≤ sizeLine) : ¬ (!items.isEmpty && Builtin.List.listTooLong (items.size + items2.size)) = true := by
  rw [notLongL h, Bool.and_false]
  decide
theorem extend_tup_any (l : Addr) (items : Array Value) (n : Nat) (b : Addr) (items2 : Array Value) (n2 : Nat) (dd : Option Addr) (sl : Array (Option Value)) (hs0 : ¬(!items.isEmpty && Builtin.List.listTooLong (items.size + items2.size)) = true) (hs1 : items.size ≤ sizeLine) (hs2 : items.size + items2.size ≤ sizeLine + 1) :
    Meets (Builtin.«list.extend» ⟨[.ref l, .ref b], []⟩) (fun _ R s => IsL s.heap l items n ∧ s.heap.get? b = some { cls := .type "tuple", dict := dd, data := .seq items2 n2, slots := sl } ∧ R (.ok (.ret Value.none)) { s with heap := s.heap.update l (Obj.mapSeq fun x => x ++ items2), toks := s.toks }) :=
  .of_wp fun prog w A R s h => by
    obtain ⟨hp, g, d, tk, os⟩ := s
    obtain ⟨hl, hb, h⟩ := h
    have f1 := PySem.AutoSeq1.idx_int
    have f2 := PySem.AutoSeq1.sub_tuple_tuple
    have f3 := PySem.AutoSeq1.sub_list_list
    have f4 := PySem.AutoSeq1.sub_tuple_list
    have f5 := PySem.AutoSeq1.sub_list_tuple
    have hz' : (items ++ items2).size ≤ sizeLine + 1 := by rw [Array.size_append]; exact hs2
    wp_walk using (wpAny_updateSeq hl rfl (hz := hs1) (_hz' := hz')), PySem.AutoSeq1.wpAny_loadPart' hl, PySem.AutoSeq1.wpAny_loadPart' hb
    exact ⟨_, rfl, h⟩
theorem m_extend : MtR X "list.extend" (rMt X.K mExtend) := fun pins s σ H x vs v us Q I rx rv ⟨a, ys, cs, xs, cs', r, ex, h1, h2, h3, h4, q⟩ => by
  subst ex
  cases rx
  obtain ⟨z, its, n, r1, hl, e1⟩ := I.lstM h1
  cases h3 with
  | nil => cases h4
  | cons fz t =>
    cases t with
    | cons _ _ => cases fz <;> cases h4
    | nil =>
      cases rv with
      | cons ru rn =>
        cases rn
        cases fz with
        | @lst b zs ds hb hz =>
          simp only [mExtend] at h4
          split at h4
          · rename_i hlen
            cases h4
            cases ru
            obtain ⟨its2, n2, r2, z2, e2⟩ := lst_obj I hb.rl
            have len : its.length + its2.length ≤ sizeLine := by rw [← hl, ← r2.length, h2.length, hz.length]; exact hlen
            refine call_meets PySem.F.slot_list_extend ⟨_, e1, rfl⟩ PySem.F.entry_list_extend (PySem.F.args_list_extend_2 _ _) (PySem.AutoSeq1.list_extend_list_list_0 a its.toArray n b its2.toArray n2 (not_long (by simpa using len)) (by rw [List.size_toArray]; omega) (by rw [List.size_toArray, List.size_toArray]; omega)) ⟨e1, e2, ?_⟩
            refine ⟨.non, _, I.lset (its' := its ++ its2) h1 e1 (by simp) (r1.append r2) ?_, rfl, q _ _ (h2.append hz) .non⟩
            rw [List.length_append, r1.length, r2.length]
            exact len
          · cases h4
        | @tup b zs ds hb hz =>
          simp only [mExtend] at h4
          split at h4
          · rename_i hlen
            cases h4
            cases ru
            obtain ⟨its2, r2, ⟨⟨oc, od, odt, osl⟩, e2, hcl, n2, hdt⟩, z2⟩ := I.tuple hb
            simp only at hcl hdt
            subst hcl hdt
            have len : its.length + its2.length ≤ sizeLine := by rw [← hl, ← r2.length, h2.length, hz.length]; exact hlen
            refine call_meets PySem.F.slot_list_extend ⟨_, e1, rfl⟩ PySem.F.entry_list_extend (PySem.F.args_list_extend_2 _ _) (extend_tup_any a its.toArray n b its2.toArray n2 od osl (not_long (by simpa using len)) (by rw [List.size_toArray]; omega) (by rw [List.size_toArray, List.size_toArray]; omega)) ⟨e1, e2, ?_⟩
            refine ⟨.non, _, I.lset (its' := its ++ its2) h1 e1 (by simp) (r1.append r2) ?_, rfl, q _ _ (h2.append hz) .non⟩
            rw [List.length_append, r1.length, r2.length]
            exact len
          · cases h4
        | _ => cases h4
def mPopAt : Mth := fun cs xs => match xs with
  | [.int i] => match seqIndex? i cs.length with
    | some k => match cs[k]? with
      | some y => if -(2 ^ 63) ≤ i ∧ i < 2 ^ 63 then some (cs.eraseIdx k, y) else none
      | none => none
    | none => none
  | _ => none
theorem FzAll.erase {K : PySem.W.Frag} {H : Hp} : ∀ {vs : List V} {ds : List PyData} (k : Nat), FzAll K H vs ds → FzAll K H (vs.eraseIdx k) (ds.eraseIdx k)
  | _, _, _, .nil => .nil
  | _, _, 0, .cons _ t => t
  | _, _, k + 1, .cons h t => .cons h (FzAll.erase k t)
theorem m_popAt : MtR X "list.pop" (rMt X.K mPopAt) := mt_weak mt_popAt fun x vs H Q ⟨a, ys, cs, xs, cs', r, hx, h1, h2, h3, h4, q⟩ => by
  cases h3 with
  | nil => cases h4
  | cons fz t =>
    cases t with
    | cons _ _ => cases fz <;> cases h4
    | nil =>
      cases fz with
      | int i =>
        simp only [mPopAt] at h4
        cases e1 : seqIndex? i cs.length with
        | none => rw [e1] at h4; cases h4
        | some k =>
          rw [e1] at h4
          simp only at h4
          cases e2 : cs[k]? with
          | none => rw [e2] at h4; cases h4
          | some y =>
            rw [e2] at h4
            simp only at h4
            split at h4
            · rename_i hr
              cases h4
              obtain ⟨v, e3, fz⟩ := h2.get e2
              exact ⟨a, ys, i, k, v, hx, rfl, h1, hr.1, hr.2, by rw [h2.length]; exact e1, e3, q _ _ (h2.erase k) fz⟩
            · cases h4
      | _ => cases h4
def mInsert : Mth := fun cs xs => match xs with
  | [.int i, y] => if cs.length < sizeLine ∧ 0 ≤ i ∧ i < 2 ^ 63 then some (cs.take i.toNat ++ [y] ++ cs.drop i.toNat, .none) else none
  | _ => none
theorem m_insert : MtR X "list.insert" (rMt X.K mInsert) := mt_weak mt_insert fun x vs H Q ⟨a, ys, cs, xs, cs', r, hx, h1, h2, h3, h4, q⟩ => by
  cases h3 with
  | nil => cases h4
  | cons fz t =>
    cases t with
    | nil => cases fz <;> cases h4
    | cons fy t =>
      cases t with
      | cons _ _ => cases fz <;> cases h4
      | nil =>
        cases fz with
        | int i =>
          simp only [mInsert] at h4
          split at h4
          · rename_i hc
            cases h4
            exact ⟨a, ys, i, _, hx, rfl, h1, by rw [h2.length]; exact hc.1, hc.2.1, hc.2.2, q _ _ (((h2.take _).append (.cons fy .nil)).append (h2.drop _)) .non⟩
          · cases h4
        | _ => cases h4
/-! ### xs[i] = v -/
def setD (cs : List PyData) (j x : PyData) : Option (List PyData) :=
  match j with
  | .int i => (ixN cs.length i).map fun k => cs.set k x
  | _ => none
theorem st_list : PSet X (rSt X.K setD) := fun pins s σ H o i v ov iv u Q I ro ri rv ⟨a, ys, cs, j, x, cs', eo, h1, h2, h3, h4, h5, q⟩ => by
  cases h3 with
  | int k =>
    simp only [setD] at h5
    cases e : ixN cs.length k with
    | none => rw [e] at h5; cases h5
    | some m =>
      rw [e] at h5
      cases h5
      exact set_list pins s σ H o _ v ov iv u Q I ro ri rv ⟨a, ys, k, m, eo, rfl, h1, by rw [h2.length]; exact e, q _ (h2.set m h4)⟩
  | _ => cases h5
/-! ### x += y of ints -/
def augAdd : PyData → PyData → Option PyData
  | .int a, .int b => some (.int (a + b))
  | _, _ => none
theorem ip_addD : PIp X .Add (rIp X.K augAdd) := fun pins s σ H x y v u Q I rx ry ⟨a, b, r, ha, hb, e, q⟩ => by
  cases ha with
  | int i =>
    cases hb with
    | int j =>
      cases e
      exact iop_add pins s σ H _ _ v u Q I rx ry ⟨i, j, rfl, rfl, q _ H (fun _ _ h => h) (.int _)⟩
    | _ => cases e
  | _ => cases e
/-! ### [*xs, y] -/
theorem FzAll.denA {K : PySem.W.Frag} {H : Hp} {σ : St} : ∀ {vs : List V} {xs : List PyData}, FzAll K H vs xs → ∀ {ws : List V} {hs : List Hd}, DenA K H σ ws hs → DenA K H σ (vs ++ ws) (xs.map (fun x => Hd.v (.d x)) ++ hs)
  | _, _, .nil, _, _, d => d
  | _, _, .cons h t, _, _, d => .data h (FzAll.denA t d)
theorem a_star {e : Expr} {es : List Expr} {c : Cd} {a : Ad} {p : Pos} (he : JE X W e c) (hr : JA X W es a) (hs : starEach (.Starred e p :: es) X.env = (true, eval e X.env) :: starEach es X.env := by rfl) : JA X W (.Starred e p :: es) (aStar c a) :=
  pa_weak (StX.pa_star (e_hold he) hr hs) fun σ H Q ⟨ρ, er, f⟩ => by
    refine ⟨ρ, er, Fin.part f fun hd ρ1 c1 f1 v H1 p dn => ?_⟩
    cases hd with
    | s i => exact f1.elim
    | v b =>
      cases b with
      | l xs => exact (pl_E c _ _ _ c1).elim
      | d x =>
        simp only at f1
        cases e1 : itemsX x with
        | none => rw [e1] at f1; exact f1.elim
        | some xs =>
          rw [e1] at f1
          have seq : ∃ q vs, v = .ref q ∧ (SqT X.K H1 q vs ∨ SqL X.K H1 q vs) ∧ FzAll X.K H1 vs xs := by
            cases dn with
            | lst ha hx => cases e1; exact ⟨_, _, rfl, .inr ha.sq, hx⟩
            | tup ha hx => cases e1; exact ⟨_, _, rfl, .inl ha, hx⟩
            | _ => cases e1
          obtain ⟨q, vs, rfl, hq, hx⟩ := seq
          refine ⟨q, vs, rfl, hq, ρ1, p.env, Fin.part (Fin.laterA p f1) fun hs ρ2 c2 f2 ws H2 p2 dn2 => ?_⟩
          refine f2 (vs ++ ws) H2 p2 ?_
          exact (p2.fzAll p.env hx).denA dn2
/-! ### what is walked: range, a text -/
theorem walk_rng {K : PySem.W.Frag} {H : Hp} (lo : Int) (n : Nat) : WalkJ K H (Itr lo n) (rngD lo n) := fun i H1 k => by
  have hl : (rngD lo n).length = n := by unfold rngD; rw [List.length_map, List.length_range]
  refine ⟨fun hi => (by rw [hl] at hi; exact Nat.le_of_eq hi.symm), fun hi => (by rw [hl] at hi; exact hi), fun x H' hy d hd => ?_⟩
  obtain ⟨rfl, rfl⟩ := hy
  have hi : i < n := by
    have := (List.getElem?_eq_some_iff.mp hd).1
    omega
  have e : d = .int (lo + i) := by
    unfold rngD at hd
    rw [List.getElem?_map, List.getElem?_range hi] at hd
    exact (Option.some.inj hd).symm
  subst e
  exact ⟨.int _, fun b o h => h⟩
theorem i_range1 {tg a : Expr} {c : Cd} {p pos : Pos} (hg : Gl X "range") (hm : X.mg "range" = none) (ha : JE X W a c) (pl : Pl c) (hs : starEach [a] X.env = [(false, eval a X.env)] := by rfl) : JI X W tg (.Call (.Name "range" p) [a] [] pos) (wRange1 c) :=
  pi_weak (pi_range1 hg hm (pa_cons ha pa_nil hs) hs) fun σ H R ⟨ρ, er, f⟩ => by
    refine ⟨ρ, er, Fin.part f fun hd ρ1 c1 f1 v H1 p dn => ?_⟩
    cases e1 : hd.rd ρ1 with
    | none => rw [e1] at f1; exact f1.elim
    | some x =>
      rw [e1] at f1
      have hx := dn.vw (pl _ _ _ c1) p.env (Pst.refl p.env) e1
      cases x with
      | int j =>
        cases Vw.int' hx
        simp only at f1
        split at f1
        · rename_i hj
          exact ⟨j, rfl, hj.1, hj.2, f1 _ H1 p (walk_rng 0 j.toNat)⟩
        · exact f1.elim
      | _ => exact f1.elim
theorem i_range2 {tg a b : Expr} {c d : Cd} {p pos : Pos} (hg : Gl X "range") (hm : X.mg "range" = none) (ha : JE X W a c) (pa : Pl c) (hb : JE X W b d) (pb : Pl d) (hs : starEach [a, b] X.env = [(false, eval a X.env), (false, eval b X.env)] := by rfl) (hs2 : starEach [b] X.env = [(false, eval b X.env)] := by rfl) :
    JI X W tg (.Call (.Name "range" p) [a, b] [] pos) (wRange2 c d) :=
  pi_weak (pi_range2 hg hm (pa_cons ha (pa_cons hb pa_nil hs2) (by rw [hs, hs2])) hs hs2) fun σ H R ⟨ρ, er, f⟩ => by
    refine ⟨ρ, er, Fin.part f fun hd ρ1 c1 f1 v H1 p dn => ?_⟩
    refine ⟨ρ1, p.env, ?_⟩
    have f1' := Fin.later (Rel' := fun H1 _ (J : It) xs => WalkJ X.K H1 J xs) p (fun _ _ _ _ _ _ d => d) f1
    refine Fin.part f1' fun hd2 ρ2 c2 f2 v2 H2 p2 dn2 => ?_
    cases e1 : hd.rd ρ2 with
    | none => rw [e1] at f2; exact f2.elim
    | some x =>
      cases e2 : hd2.rd ρ2 with
      | none => rw [e1, e2] at f2; split at f2 <;> first | exact f2.elim | contradiction
      | some y =>
        rw [e1, e2] at f2
        have hx := dn.vw (pa _ _ _ c1) p.env p2 e1
        have hy := dn2.vw (pb _ _ _ c2) p2.env (Pst.refl p2.env) e2
        cases x with
        | int i =>
          cases y with
          | int j =>
            cases Vw.int' hx
            cases Vw.int' hy
            simp only at f2
            split at f2
            · rename_i hj
              exact ⟨i, j, rfl, hj, f2 _ H2 p2 (walk_rng i (j - i).toNat)⟩
            · exact f2.elim
          | _ => exact f2.elim
        | _ => exact f2.elim
theorem walk_str {K : PySem.W.Frag} {H : Hp} (x : Str) : WalkJ K H (Its x) (signs x) := fun i H1 k => by
  have hl : (signs x).length = x.cps.size := by unfold signs; rw [List.length_map, Array.length_toList]
  refine ⟨fun hi => (by rw [hl] at hi; exact Nat.le_of_eq hi.symm), fun hi => (by rw [hl] at hi; exact hi), fun v H' hy d hd => ?_⟩
  obtain ⟨rfl, c, hc, rfl⟩ := hy
  have e : d = .str ⟨#[c]⟩ := by
    unfold signs at hd
    rw [List.getElem?_map, Array.getElem?_toList, hc] at hd
    exact (Option.some.inj hd).symm
  subst e
  exact ⟨.str _, fun b o h => h⟩
theorem i_str {tg e : Expr} {c : Cd} (he : JE X W e c) : JI X W tg e (wStr c) :=
  pi_weak (pi_str (e_hold he)) fun σ H R ⟨ρ, er, f⟩ => by
    refine ⟨ρ, er, Fin.part f fun hd ρ1 c1 f1 v H1 p dn => ?_⟩
    cases hd with
    | s i => exact f1.elim
    | v b =>
      cases b with
      | l xs => exact f1.elim
      | d x =>
        cases dn with
        | str z => exact ⟨z, rfl, f1 _ H1 p (walk_str z)⟩
        | _ => exact f1.elim
end
end Sv
end
section
set_option autoImplicit false
set_option linter.all false
/-! Sv: dicts that are data; repr of them. -/
namespace Sv
open PySem PySem.Spec L2
open PyProof.Rows hiding St
variable [HasT]

section
variable {X : Cx} {W : WX}
/-- a thing may be locked behind an expression -/
def tFzA (t : TE) : TE := fun σ H Q => t σ H fun v H1 => ∃ a u, H1 a = some u ∧ Mut (some u) ∧ ∀ o, Q v (upd H1 a (.frz o u))
theorem pe_fzA {e : Expr} {t : TE} (h : PE X e t) : PE X e (tFzA t) := by
  refine ⟨fun pins s σ H Q I hw => ?_⟩
  refine thn (h.run pins s σ H _ I hw) fun u s1 ⟨v, H1, I1, r, a, w, e1, mu, q⟩ => ?_
  obtain ⟨o, I2⟩ := Inv.lock I1 e1 mu
  exact ⟨v, _, I2, r, q o⟩
theorem grow_new {H : Hp} {p : Addr} {u w : HO} (hp : H p = none) : ∀ b o, H b = some o → upd (upd H p u) p w b = some o := fun b o e => by
  rw [upd_upd, upd_ne (ne_of_none e hp)]; exact e
/-- {} -/
theorem e_dict0 {pos : Pos} : JE X W (.Dict [] [] pos) (cK (.dict [])) :=
  pe_weak (pe_fzA pe_dnewK) fun σ H Q ⟨ρ, er, f⟩ p hp => ⟨p, .dK [], upd_same, trivial, fun o => f _ _ (Pst.grow er (grow_new hp)) (.dct (kvs := []) (ks := []) (vs := []) (by rw [upd_upd]; exact upd_same) rfl .nil rfl)⟩
/-- {'k': v}, both written -/
theorem e_dict1 {k v : Expr} {z : Str} {x : PyData} {w : V} {pos : Pos} (hk : PE X k (L2.tC (.str z))) (hv : PE X v (L2.tC w)) (fz : ∀ H, Fz X.K H w x) : JE X W (.Dict [some k] [v] pos) (cK (.dict [(.str z, x)])) :=
  pe_weak (pe_fzA (pe_disp (pps_cons hk hv pps_nil) rfl rfl (by simp) (by simp))) fun σ H Q ⟨ρ, er, f⟩ p hp => by
    refine ⟨upd_same, [(.inr z, w)], rfl, by simp, p, .dK [(.inr z, w)], upd_same, trivial, fun o => ?_⟩
    refine f _ _ (Pst.grow er ?_) (.dct (kvs := [(.inr z, w)]) (ks := [.str z]) (vs := [x]) (by rw [upd_upd]; exact upd_same) rfl (.cons (fz _) .nil) rfl)
    intro b u e
    rw [upd_upd, upd_upd, upd_ne (ne_of_none e hp)]
    exact e
/-- no list in it -/
def nol : PyData → Bool
  | .none => true
  | .bool _ => true
  | .int _ => true
  | .str _ => true
  | .list _ => false
  | .tuple xs => nolAll xs
  | .dict ps => nolKv ps
where
  nolAll : List PyData → Bool
    | [] => true
    | x :: xs => nol x && nolAll xs
  nolKv : List (PyData × PyData) → Bool
    | [] => true
    | (_, v) :: r => nol v && nolKv r
theorem nolKv_zip : ∀ (ks vs : List PyData), ks.length = vs.length → nol.nolKv (ks.zip vs) = nol.nolAll vs
  | [], [], _ => rfl
  | [], _ :: _, h => by simp at h
  | _ :: _, [], h => by simp at h
  | k :: ks, v :: vs, h => by
    show (nol v && nol.nolKv (ks.zip vs)) = (nol v && nol.nolAll vs)
    rw [nolKv_zip ks vs (by simpa using h)]
section
variable {pins : List (Addr × Obj)} {σ : St} {H : Hp} {s : Shared}
theorem keys_read {h : Heap} {es : List DictEntry} {us : List (Key × Value)} {kvs : List (Key × V)} (p : Pairs (mixKind X.prog X.w) es us) (kv : KV kvs us) : ReadsAll h (es.map (·.key)) (kvs.map fun p => keyD p.1) [] := by
  induction p generalizing kvs with
  | nil => cases kv; exact .nil
  | @cons e0 kv0 es us hk _ _ ih =>
    cases kv with
    | @cons p0 _ ps _ e r =>
      have hk' : keyIs kv0.1 e0.key = true := hk
      have one : Reads h e0.key (keyD p0.1) [] := by
        rw [e.1]
        rcases keyIs_shape hk' with ⟨i, u, e1, e2⟩ | ⟨x, u, e1, e2⟩
        · rw [e1, e2]; exact .int i u
        · rw [e1, e2]; exact .str x u
      exact .cons (as := []) (bs := []) one (ih r)
theorem vals_of {es : List DictEntry} {us : List (Key × Value)} {kvs : List (Key × V)} (p : Pairs (mixKind X.prog X.w) es us) (kv : KV kvs us) : Vals (kvs.map (·.2)) (es.map (·.val)) := by
  induction p generalizing kvs with
  | nil => cases kv; exact .nil
  | @cons e0 kv0 es us _ hv _ ih =>
    cases kv with
    | @cons p0 _ ps _ e r =>
      have q : RelV p0.2 e0.val := by rw [hv]; exact e.2
      exact .cons q (ih r)
theorem dict_reads {a : Addr} {kvs : List (Key × V)} {vs : List PyData} (I : Inv X pins σ H s) (h : Rd H a (.dK kvs)) (hl : kvs.length = vs.length) (hv : ∀ us, Vals (kvs.map (·.2)) us → ∃ as, ReadsAll s.heap us vs as ∧ sysModules ∉ as) :
    ∃ as, Reads s.heap (.ref a) (.dict ((kvs.map fun p => keyD p.1).zip vs)) as ∧ sysModules ∉ as := by
  obtain ⟨_, hm, us, kv, o, es, ep, h1, h2, h3, _, h4, _⟩ := (Rd.ok h I.hok : ObjOk X.prog X.w H s.heap _ (.dK _))
  obtain ⟨bs, q, na⟩ := hv _ (vals_of h4 kv)
  refine ⟨_, .dict (as := []) (bs := bs) h1 h2.1 h3 ?_ ?_, ?_⟩
  · rw [List.map_fst_zip (by rw [List.length_map]; omega)]
    exact keys_read h4 kv
  · rw [List.map_snd_zip (by rw [List.length_map]; omega)]
    exact q
  · simp only [List.append_nil, List.cons_append, List.nil_append, List.mem_cons, not_or]
    exact ⟨fun z => by rw [← z] at hm; simp at hm, na⟩
theorem nol_vals {kvs : List (Key × V)} {vs : List PyData} (hl : kvs.length = vs.length) (p : nol (.dict ((kvs.map fun p => keyD p.1).zip vs)) = true) : nol.nolAll vs = true := by
  have q : nol.nolKv ((kvs.map fun p => keyD p.1).zip vs) = true := p
  rw [nolKv_zip _ _ (by rw [List.length_map]; exact hl)] at q
  exact q
mutual
theorem Fz.readsD (I : Inv X pins σ H s) : ∀ {v : V} {d : PyData}, Fz X.K H v d → nol d = true → ∀ {u : Value}, RelV v u → ∃ as, Reads s.heap u d as ∧ sysModules ∉ as
  | _, _, .non, _, _, r => by cases r; exact ⟨_, .none, by simp⟩
  | _, _, .bl b, _, _, r => by cases r; exact ⟨_, .bool b, by simp⟩
  | _, _, .int i, _, _, r => by obtain ⟨t, rfl⟩ := r; exact ⟨_, .int i t, by simp⟩
  | _, _, .str x, _, _, r => by obtain ⟨t, rfl⟩ := r; exact ⟨_, .str x t, by simp⟩
  | _, _, .lst h t, p, _, r => by cases p
  | _, _, .tup h t, p, _, r => by
    cases r
    obtain ⟨its, rv, ⟨o, e, c, n, d⟩, _⟩ := I.tuple h
    obtain ⟨as, q, na⟩ := FzAll.readsD I t (by simpa [nol] using p) rv
    exact ⟨_, .tuple e c d (by simpa using q), na⟩
  | _, _, .dct h e t f, p, _, r => by
    cases r
    subst e f
    have hl := t.length
    rw [List.length_map] at hl
    exact dict_reads I (.inr ⟨_, h⟩) hl fun us rv => FzAll.readsD I t (nol_vals hl p) rv
theorem FzAll.readsD (I : Inv X pins σ H s) : ∀ {vs : List V} {ds : List PyData}, FzAll X.K H vs ds → nol.nolAll ds = true → ∀ {us : List Value}, Vals vs us → ∃ as, ReadsAll s.heap us ds as ∧ sysModules ∉ as
  | _, _, .nil, _, _, r => by cases r; exact ⟨_, .nil, by simp⟩
  | _, _, .cons h t, p, _, r => by
    cases r with
    | cons r1 r2 =>
      have p2 := Bool.and_eq_true _ _ ▸ (show (nol _ && nol.nolAll _) = true from p)
      obtain ⟨as, q1, n1⟩ := Fz.readsD I h p2.1 r1
      obtain ⟨bs, q2, n2⟩ := FzAll.readsD I t p2.2 r2
      exact ⟨_, .cons q1 q2, by simp [n1, n2]⟩
end
end
/-- repr(x): of data without dicts, or without lists -/
def reprW (x : PyData) : Option B := if ((x.plain || nol x) && x.showable && decide (x.depth ≤ 180) && decide (x.shown.length ≤ sizeLine)) = true then some (.d (.str x.shown)) else none
theorem f_reprW (hg : X.A.guards = some []) (hu : X.A.units + 190 < cLine) : CallR X (.builtin "repr") (rBn X.K (one reprW)) := fun pins s σ H vs us Q I rv ⟨xs, b, hv, e, q⟩ => by
  unfold one at e
  split at e
  · rename_i x
    obtain ⟨v, rfl, hx⟩ := hv.one
    unfold reprW at e
    split at e
    · rename_i hc
      simp only [Bool.and_eq_true, decide_eq_true_eq] at hc
      cases e
      by_cases hp : x.plain = true
      · refine f_repr hg hu pins s σ H [v] us Q I rv ⟨[x], .d (.str x.shown), .cons hx .nil, ?_, q⟩
        show reprP x = _
        unfold reprP
        rw [if_pos (by simp only [Bool.and_eq_true, decide_eq_true_eq]; exact ⟨⟨⟨hp, hc.1.1.2⟩, hc.1.2⟩, hc.2⟩)]
      · have hn : nol x = true := by
          rcases Bool.or_eq_true _ _ ▸ hc.1.1.1 with h | h
          · exact absurd h hp
          · exact h
        cases rv with
        | cons r1 r2 =>
          cases r2
          have fin : ∀ (h' : Heap) (u : Tok) (tk : Nat), (∀ b o, s.heap.get? b = some o → h'.get? b = some o) → EP X pins σ Q (.str x.shown u) { s with heap := h', toks := tk } := fun h' u tk k => ⟨.str x.shown, H, I.kept k, ⟨u, rfl⟩, q _ _ (nb_str _)⟩
          have far : ∀ {a : Addr} {as : List Addr}, v = .ref a → Reads s.heap (.ref a) x as → sysModules ∉ as → wpAny (model X.prog X.w) X.A (call (.builtin "repr") [.ref a]) (EP X pins σ Q) X.xe s := fun {a as} ev ra na => by
            subst ev
            exact repr_of_reads' ra hc.1.1.2 (fun _ => na) hg (by omega) (fun _ _ h => h) fin hc.2
          cases hx with
          | non => exact absurd rfl hp
          | bl k => exact absurd rfl hp
          | int i => exact absurd rfl hp
          | str z => exact absurd rfl hp
          | lst _ _ => cases hn
          | tup h t =>
            cases r1
            obtain ⟨as, ra, na⟩ := Fz.readsD I (.tup h t) hn rfl
            exact far rfl ra na
          | @dct a kvs ks ws ps h e t f =>
            cases r1
            subst e f
            have hl := t.length
            rw [List.length_map] at hl
            obtain ⟨as, ra, na⟩ := dict_reads I h hl fun us rv => FzAll.readsD I t (nol_vals hl hn) rv
            exact far rfl ra na
    · cases e
  · cases e
end
end Sv
end
section
set_option autoImplicit false
set_option linter.all false
/-! Sv: the end, from the law's own def to the row. -/
namespace Sv
open PySem PySem.Spec L2
open PyProof.Rows hiding St
variable [HasT]

theorem fz_ints {K : PySem.W.Frag} {H : Hp} : ∀ ns : List Int, FzAll K H (ns.map V.int) (ns.map PyData.int)
  | [] => .nil
  | n :: r => .cons (.int n) (fz_ints r)
/-- the heap that the walk starts from: the tables, and the script (if it is not of the written part) -/
def startH (ts : List Addr) (a : Addr) (pin : Option HO) : Hp := fun b => if b ∈ ts then some (.tbl #[]) else if b = a then pin else none
theorem startH_some {ts : List Addr} {a b : Addr} {pin : Option HO} {u : HO} (h : startH ts a pin b = some u) : (b ∈ ts ∧ u = .tbl #[]) ∨ (b ∉ ts ∧ b = a ∧ pin = some u) := by
  unfold startH at h
  split at h
  · rename_i q
    exact .inl ⟨q, (Option.some.inj h).symm⟩
  · rename_i q
    split at h
    · rename_i q2
      exact .inr ⟨q, q2, h⟩
    · cases h
theorem law_sv {P : Program} {w : World} {K : PySem.W.Frag} {mg mb : Str → Option Value} {k : Nat} {fa a : Addr} {fd : FuncData} {x : Str} {F : Fn} {s1 : Shared} {us : List Value} {ns : List Int} {cs : List (Addr × Addr)}
    (kin : K.In s1.heap) (glob : s1.heap.Ns mainGlobals mg) (blt : s1.heap.Ns builtinsNs mb) (boot : ∀ y : Str, y ≠ "__name__" → mb y = bootBuiltins y) (lim : s1.heap.NoLimit) (gens : s1.gens = #[])
    (tabs : ∀ p ∈ cs, s1.heap.get? p.2 = some { cls := .none, data := .fields #[] } ∧ K.lookup p.2 = none ∧ PySem.W.CodeHd s1.heap p.1 p.2)
    (bmod : ∃ (bm : Addr) (ob : Obj), mg "__builtins__" = some (.ref bm) ∧ bm ≠ builtinsNs ∧ s1.heap.get? bm = some ob ∧ ob.cls = .type "module" ∧ ob.dict = some builtinsNs ∧ ob.data = .plain)
    (all : ∀ p ∈ HasT.t K, p.1 ∈ cs.map (·.2))
    (obj : s1.heap.get? a = some { cls := .type "list", data := .seq us.toArray }) (are : IntsAre us ns) (few : ns.length ≤ sizeLine) (room : RoomG k callerA)
    (G : ∀ base : Heap, K.In base → base.Ns mainGlobals mg → (∀ p ∈ cs, LamX.TabB base mg p.1 p.2) → FnG P w K mg base k fa fd [x] F) (bind : ∀ (s : Shared) (u : Value), BindsTo s fd ⟨[u], []⟩ [(x, u)])
    (law : ∃ qs, F [.d (.list (ns.map .int))] = .ok (.d (.bool true)) qs) :
    codeAny (model P w) callerA (.call (.ref fa) ⟨[.ref a], []⟩) (fun r s' => r = .ok (.ret (.bool true)) ∧ OldK s1.heap s'.heap ∧ s'.os = s1.os ∧ AllBare s'.gens) s1 := by
  have vals := vals_ints are
  have tabAt : ∀ b ∈ cs.map (·.2), s1.heap.get? b = some { cls := .none, data := .fields #[] } ∧ K.lookup b = none := fun b hb => by
    obtain ⟨p, hp, rfl⟩ := List.mem_map.mp hb
    exact ⟨(tabs p hp).1, (tabs p hp).2.1⟩
  have aNot : a ∉ cs.map (·.2) := fun hb => by
    have e := (tabAt a hb).1
    rw [obj] at e
    exact absurd (congrArg Obj.data (Option.some.inj e)) fun z => nomatch z
  have core : ∀ pin : Option HO, (∀ u, pin = some u → ∃ o xs, u = .frz o (.lst xs)) → Fz K (startH (cs.map (·.2)) a pin) (.ref a) (.list (ns.map .int)) → (∀ u, pin = some u → ObjOk P w (startH (cs.map (·.2)) a pin) s1.heap a u) → (pin ≠ none → K.lookup a = none) →
      codeAny (model P w) callerA (.call (.ref fa) ⟨[.ref a], []⟩) (fun r s' => r = .ok (.ret (.bool true)) ∧ OldK s1.heap s'.heap ∧ s'.os = s1.os ∧ AllBare s'.gens) s1 := by
    intro pin only fz hpin out
    generalize hH : startH (cs.map (·.2)) a pin = H at fz hpin
    have at_ : ∀ {b : Addr} {u : HO}, H b = some u → (b ∈ cs.map (·.2) ∧ u = .tbl #[]) ∨ (b ∉ cs.map (·.2) ∧ b = a ∧ pin = some u) := fun {b u} h => startH_some (by rw [hH]; exact h)
    have tabH : ∀ b ∈ cs.map (·.2), H b = some (.tbl #[]) := fun b hb => by rw [← hH]; exact if_pos hb
    have hok : HOk P w H s1.heap := fun b u h => by
      rcases at_ h with ⟨hb, rfl⟩ | ⟨_, rfl, e⟩
      · exact (tabAt b hb).1
      · exact hpin u e
    have there : ∀ {b : Addr} {o : Obj}, s1.heap.get? b = some o → H b = none → (hidT s1.heap H).get? b = some o := fun e n => hidT_get e n
    /- what is neither a sequence nor an empty table is not ours -/
    have notOurs : ∀ {b : Addr} {o : Obj}, s1.heap.get? b = some o → (∀ v n, o.data ≠ .seq v n) → o.data ≠ .fields #[] → H b = none := fun {b o} e n1 n2 => by
      cases q : H b with
      | none => rfl
      | some u =>
        rcases at_ q with ⟨hb, _⟩ | ⟨_, rfl, _⟩
        · rw [(tabAt b hb).1] at e
          cases e
          exact absurd rfl n2
        · rw [obj] at e
          cases e
          exact absurd rfl (n1 _ _)
    have ns_ : ∀ {b : Addr} {m : Str → Option Value}, s1.heap.Ns b m → (hidT s1.heap H).Ns b m := by
      rintro b m ⟨o, es, ep, e, d, r⟩
      exact ⟨o, es, ep, there e (notOurs e (fun v n z => nomatch d.symm.trans z) fun z => nomatch d.symm.trans z), d, r⟩
    have kb : K.In (hidT s1.heap H) := by
      intro b o e
      refine there (kin b o e) ?_
      cases q : H b with
      | none => rfl
      | some u =>
        rcases at_ q with ⟨hb, _⟩ | ⟨_, rfl, ep⟩
        · rw [(tabAt b hb).2] at e; cases e
        · rw [out (by rw [ep]; exact fun z => nomatch z)] at e; cases e
    have md : Mod K mg (hidT s1.heap H) := by
      obtain ⟨mc, l1, l2⟩ := lim
      exact ⟨kb, ns_ glob, ⟨mb, ns_ blt, boot⟩, ⟨mc, ns_ l1, l2⟩⟩
    have env0 : Env0 P w K mg (hidT s1.heap H) callerA [] s1 H := by
      refine ⟨rfl, md, fun b o e => of_hidT e, Nat.le_of_eq (hidT_size _ _), trivial, fun b hb => ?_, hok, .of_eq gens⟩
      exact absurd (show b ∈ ([] : List Addr) from hb) List.not_mem_nil
    have TB : ∀ p ∈ cs, LamX.TabB (hidT s1.heap H) mg p.1 p.2 := by
      intro p hp
      obtain ⟨t1, _, t3⟩ := tabs p hp
      refine { code := ?_, bm := ?_, gP := ?_ }
      · obtain ⟨o, vs, file, tf, flags, tg, inF, text, tt, e1, r1, r2, r3, r⟩ := t3
        refine ⟨o, vs, file, tf, flags, tg, inF, text, tt, there e1 (notOurs e1 (fun v n z => nomatch r2.symm.trans z) fun z => ?_), r1, r2, r3, r⟩
        have ev := r2.symm.trans z
        injection ev with ev
        subst ev
        simp at r3
      · obtain ⟨bm, ob, b1, b2, b3, b4, b5, b6⟩ := bmod
        refine ⟨bm, ob, b1, b2, fun z => ?_, fun z => ?_, there b3 (notOurs b3 (fun v n z => nomatch b6.symm.trans z) fun z => nomatch b6.symm.trans z), b4, b5, b6⟩
        · obtain ⟨o, es, ep, e, hd, _⟩ := glob
          rw [z, e] at b3
          cases b3
          exact absurd (hd.symm.trans b6) fun z => nomatch z
        · rw [z, t1] at b3
          cases b3
          exact absurd b6 fun z => nomatch z
      · intro z
        obtain ⟨o, es, ep, e, hd, _⟩ := glob
        rw [z, t1] at e
        cases e
        exact absurd hd fun z => nomatch z
    have er : EnvRel K H ([V.ref a].map some) ([B.d (.list (ns.map .int))].map some) := by
      refine ⟨fun p hp => .nil (tabH _ (all p hp)), rfl, fun i b h => ?_, fun i j xs ys c h1 _ _ _ => ?_⟩
      · cases i with
        | zero => cases h; exact ⟨_, rfl, fz⟩
        | succ i => cases h
      · cases i with
        | zero => cases h1
        | succ i => cases h1
    obtain ⟨qs, law⟩ := law
    have fin : FinF K mg H [.ref a] [.d (.list (ns.map .int))] (fun v _ => v = .bl true) (fun _ _ _ => False) (F [.d (.list (ns.map .int))]) := by
      rw [law]
      intro v H1 p d
      cases d
      rfl
    refine codeAny_mono ((G _ kb (ns_ glob) TB).run callerA [] s1 H ⟨[.ref a], []⟩ [.ref a] [.ref a] _ _ _ room env0 (bind s1 (.ref a)) (.cons rfl .nil) rfl er fin) fun r s' h => ?_
    cases r with
    | error e =>
      obtain ⟨_, _, _, _, _, _, _, _, _, _, _, _, z⟩ := h
      exact z.elim
    | ok fl =>
      cases fl with
      | next => exact h.elim
      | brk => exact h.elim
      | cont => exact h.elim
      | ret u =>
        obtain ⟨v, H', hos, hbare, hun, hok', rel, hv⟩ := h
        have hv : v = .bl true := hv
        subst hv
        obtain rfl : u = Value.bool true := rel
        have stay : ∀ b o, b ∉ cs.map (·.2) → s1.heap.get? b = some o → s'.heap.get? b = some o := fun b o hb e => by
          cases z : H b with
          | none => exact hun.keep b o e z (fun q => absurd (show b ∈ ([] : List Addr) from q) List.not_mem_nil) List.not_mem_nil
          | some u =>
            rcases at_ z with ⟨q, _⟩ | ⟨_, _, ep⟩
            · exact absurd q hb
            · obtain ⟨ob, xs, rfl⟩ := only u ep
              obtain ⟨e1, _⟩ := hok b _ z
              obtain ⟨e2, _⟩ := hok' b _ (hun.frzs b ob _ z)
              rw [e] at e1
              cases e1
              exact e2
        have more : ∀ b ∈ cs.map (·.2), ∃ m : Array Value, s'.heap.get? b = some { cls := .none, data := .fields m } := fun b hb => by
          obtain ⟨m, z⟩ := hun.tbls b #[] (tabH b hb)
          exact ⟨_, hok' b _ z⟩
        refine ⟨rfl, ⟨fun b o e => ?_, fun b o e => ?_⟩, hos, hbare⟩
        · by_cases hb : b ∈ cs.map (·.2)
          · obtain ⟨m, hm⟩ := more b hb
            obtain ⟨p, hp, rfl⟩ := List.mem_map.mp hb
            obtain ⟨t1, _, t3⟩ := tabs p hp
            rw [t1] at e
            cases e
            refine .inr (.inl ⟨(t3.tab t1).isCodeTable, rfl, #[], m, rfl, ?_⟩)
            rw [Array.empty_append]
            exact hm
          · exact .inl (stay b o hb e)
        · by_cases hb : b ∈ cs.map (·.2)
          · obtain ⟨m, hm⟩ := more b hb
            exact ⟨_, hm⟩
          · exact ⟨o, stay b o hb e⟩
  cases hk : K.lookup a with
  | some o =>
    have e := kin a o hk
    rw [obj] at e
    cases e
    exact core none (fun u z => nomatch z) (.lst (.inr ⟨us, _, hk, vals, by rw [← vals.length, List.length_map]; exact few⟩) (fz_ints ns)) (fun u z => nomatch z) fun z => absurd rfl z
  | none =>
    have eA : startH (cs.map (·.2)) a (some (.frz { cls := .type "list", data := .seq us.toArray } (.lst (ns.map V.int)))) a = some (.frz { cls := .type "list", data := .seq us.toArray } (.lst (ns.map V.int))) := by
      unfold startH
      rw [if_neg aNot, if_pos rfl]
    refine core (some (.frz { cls := .type "list", data := .seq us.toArray } (.lst (ns.map V.int)))) (fun u z => ⟨_, _, (Option.some.inj z).symm⟩) (.lst (.of eA) (fz_ints ns)) (fun u z => ?_) fun _ => hk
    cases z
    exact ⟨obj, by rw [List.length_map]; exact few, us, _, vals, obj⟩
/-- the row's goal behind its head, from the law's own def -/
theorem walk_sv {l : PySem.W.OpenLaw} {n k : Nat} {q : Program} {loose : List Str} {XP : (Str → Option Value) → Heap → Prop} {YP : World → Heap → Prop} {d : DefRec} {x : Str} {F : Fn}
    (hn : l.most = some n) (hn2 : n ≤ sizeLine) (hdf : d.params.defaults = []) (room : RoomG k callerA)
    (G : ∀ (w : World) (mg : Str → Option Value) (fa : Addr) (h : Heap), YP w h → h.Ns mainGlobals mg → mg d.name = some (.ref fa) →
      ∃ (K : PySem.W.Frag) (fd : FuncData) (cs : List (Addr × Addr)), K.In h ∧ (∀ (s : Shared) (u : Value), BindsTo s fd ⟨[u], []⟩ [(x, u)]) ∧ (∀ p ∈ cs, h.get? p.2 = some { cls := .none, data := .fields #[] } ∧ K.lookup p.2 = none ∧ PySem.W.CodeHd h p.1 p.2) ∧ (∀ p ∈ HasT.t K, p.1 ∈ cs.map (·.2)) ∧
        ∀ base : Heap, K.In base → base.Ns mainGlobals mg → (∀ p ∈ cs, LamX.TabB base mg p.1 p.2) → FnG l.prog w K mg base k fa fd [x] F)
    (law : ∀ ns : List Int, ns.length ≤ n → (∀ i ∈ ns, Builtin.Int.intBits i ≤ 1048576) → ∃ qs, F [.d (.list (ns.map .int))] = .ok (.d (.bool true)) qs) :
    PySem.W.WalkO q loose XP YP l.row.toRowW d [] (fun f vs => PySem.call f vs) := by
  refine Att.attach_callB hn hdf fun w s0 s1 mg mb fa o pm cd doc a us ns Gr Y ho hd hcd hmg hobj hints hlen hbits hg => ?_
  obtain ⟨K, fd, cs, kin, hb, ht, ha, hF⟩ := G w mg fa _ Y Gr.T.g hmg
  exact law_sv kin Gr.T.g Gr.T.b Gr.T.builtins Gr.T.nolimit hg ht Gr.T.bmain ha hobj hints (Nat.le_trans hlen hn2) room hF hb (law ns hlen hbits)
end Sv
end
section
set_option autoImplicit false
set_option linter.all false
/-! Sv: try .. except. -/
namespace Sv
open PySem PySem.Spec L2
open PyProof.Rows hiding St
variable [HasT]

/-- an expression in an except suite: a the error, slot i its name -/
def tX (K : PySem.W.Frag) (mg : Str → Option Value) (i : Nat) (a : Addr) (cls : Value) (d : Option Addr) (h : Ex → Cd) : TE := fun σ H Q =>
  ∃ x ρ, ExRel K mg H x cls d ∧ EnvRel K H σ ρ ∧ σ[i]? = some (some (.ref a)) ∧ Fin K mg WF σ H ρ (fun H1 ρ1 v hd => DenR K H σ ρ H1 σ ρ1 v hd) (h x ρ) Q
section
variable {X : Cx} {W : WX} {io : List Nat}
theorem x_const {e : Expr} {c : Cd} {i : Nat} {a : Addr} {cls : Value} {d : Option Addr} (h : JE X WF e c) : PE X e (tX X.K X.mg i a cls d fun _ => c) := pe_weak h fun σ H Q ⟨x, ρ, _, er, _, f⟩ => ⟨ρ, er, f⟩
/-- the slot of the error is forgotten -/
theorem EnvRel.err {K : PySem.W.Frag} {H : Hp} {σ : St} {ρ : Env} {i : Nat} {v : Option V} (er : EnvRel K H σ ρ) : EnvRel K H (σ.set i v) (ρ.set i none) := by
  have sub : ∀ {j : Nat} {b : B}, (ρ.set i none)[j]? = some (some b) → ρ[j]? = some (some b) ∧ i ≠ j := fun {j b} h => by
    by_cases hj : i = j
    · subst hj
      by_cases hl : i < ρ.length
      · rw [List.getElem?_set_self hl] at h; cases h
      · rw [List.set_eq_of_length_le (by omega)] at h
        exact absurd (List.getElem?_eq_some_iff.mp h).1 hl
    · rw [List.getElem?_set_ne hj] at h
      exact ⟨h, hj⟩
  refine ⟨er.tab, by rw [List.length_set, List.length_set]; exact er.len, fun j b h => ?_, fun j k xs ys a h1 h2 h3 h4 => ?_⟩
  · obtain ⟨v, e, d⟩ := er.den j b (sub h).1
    exact ⟨v, by rw [List.getElem?_set_ne (sub h).2]; exact e, d⟩
  · rw [List.getElem?_set_ne (sub h1).2] at h3
    rw [List.getElem?_set_ne (sub h2).2] at h4
    exact er.inj j k xs ys a (sub h1).1 (sub h2).1 h3 h4
theorem Pst.err {K : PySem.W.Frag} {H H1 : Hp} {σ σ1 : St} {ρ ρ1 : Env} {i : Nat} {v : Option V} (p : Pst K H σ ρ H1 σ1 ρ1) : Pst K H σ ρ H1 (σ1.set i v) (ρ1.set i none) := by
  refine ⟨p.env.err, p.keep, fun a w => ?_⟩
  rcases own_set p.env w with w | ⟨_, xs, e⟩
  · exact p.own a w
  · cases e
theorem s_tryR {x n : Str} {c : Value} {i : Nat} {body : List Stmt} {e : Expr} {np pr pos pos' : Pos} {b : Sd} {m : Ex → Option Bool} {h : Ex → Cd} (hs : X.stack = X.env :: X.outer) (hf : X.env.frame = some X.env.locals) (hN : X.N.Nodup) (hi : X.N[i]? = some n) (hln : X.env.kindOf n = some .local)
    (hc : Names X x c) (tk : Takes X W) (hb : ∀ (W' : WX) (pn : List (Addr × Obj)) (xe : Value → Shared → Prop), Takes (X.tr pn xe) W' → PassesOwn (model X.prog X.w) X.A X.env xe → JB (X.tr pn xe) W' io body b)
    (hm : ∀ (y : Ex) (cls : Value) (k : Bool), X.mg y.c = some cls → m y = some k → PySem.W.exmOne X.K cls c = some k)
    (hsu : ∀ (a : Addr) (oe : Obj) (cls : Value) (d : Option Addr) (pn : List (Addr × Obj)), Zc cls d oe → (∃ vs, oe.data = .fields vs) → PE (X.suite a ((a, oe) :: pn)) e (tX X.K X.mg i a cls d h)) (hio : i ∉ io) :
    JS X W io (.Try body [.ExceptHandler (some (.Name x np)) (some n) [.Return (some e) pr] pos'] [] [] pos) (sTryR i b m h) := by
  refine ⟨fun pins s σ H D I ⟨ρ, er, f⟩ => ?_⟩
  refine (ps_try_as (tb := fun W' => tS X.K X.mg W' io b) (ts := fun a cls d => tRet (tX X.K X.mg i a cls d h)) hs hf hN hi hln hc tk hb (fun a oe cls d pn hz hd => pss_one (ps_ret (hsu a oe cls d pn hz hd)))).run pins s σ H D I ⟨ρ, er, ?_⟩
  have hil : i < σ.length := by rw [I.len]; exact (List.getElem?_eq_some_iff.mp hi).1
  unfold sTryR at f
  cases eb : b ρ with
  | nx ρ1 => rw [eb] at f; exact f
  | bk ρ1 => rw [eb] at f; exact f
  | ct ρ1 => rw [eb] at f; exact f
  | rt r ρ1 => rw [eb] at f; exact f
  | no => rw [eb] at f; exact f
  | ex y ρ1 =>
    rw [eb] at f
    simp only at f
    intro cls dd σ1 H1 p fx er1
    cases em : m y with
    | none => rw [em] at f; exact f.elim
    | some k =>
      rw [em] at f
      refine ⟨k, hm y cls k er1.1 em, fun hk a ha => ?_, fun hk => ?_⟩
      · subst hk
        simp only at f
        have pe : Pst X.K H σ ρ H1 (σ1.set i (some (.ref a))) (ρ1.set i none) := p.err
        refine ⟨y, ρ1.set i none, er1, pe.env, List.getElem?_set_self (by rw [fx.len]; exact hil), ?_⟩
        cases eh : h y (ρ1.set i none) with
        | ex _ _ => rw [eh] at f; exact f.elim
        | no => rw [eh] at f; exact f.elim
        | ok hd ρ2 =>
          rw [eh] at f
          cases hd with
          | s _ => exact f.elim
          | v r => exact fun v H2 q dn => f v _ H2 (pe.trans q) (fx.trans (Fx.set hio)) (DenR.start pe dn)
      · subst hk
        exact f cls dd σ1 H1 p fx er1
theorem s_tryN {x : Str} {c : Value} {body : List Stmt} {e : Expr} {np pr pos pos' : Pos} {b : Sd} {m : Ex → Option Bool} {h : Cd} (hs : X.stack = X.env :: X.outer) (hf : X.env.frame = some X.env.locals)
    (hc : Names X x c) (tk : Takes X W) (hb : ∀ (W' : WX) (pn : List (Addr × Obj)) (xe : Value → Shared → Prop), Takes (X.tr pn xe) W' → PassesOwn (model X.prog X.w) X.A X.env xe → JB (X.tr pn xe) W' io body b)
    (hm : ∀ (y : Ex) (cls : Value) (k : Bool), X.mg y.c = some cls → m y = some k → PySem.W.exmOne X.K cls c = some k)
    (hsu : ∀ (a : Addr) (oe : Obj) (cls : Value) (d : Option Addr) (pn : List (Addr × Obj)), Zc cls d oe → (∃ vs, oe.data = .fields vs) → JE (X.suite a ((a, oe) :: pn)) WF e h) :
    JS X W io (.Try body [.ExceptHandler (some (.Name x np)) none [.Return (some e) pr] pos'] [] [] pos) (sTryN b m h) := by
  refine ⟨fun pins s σ H D I ⟨ρ, er, f⟩ => ?_⟩
  refine (ps_try_only (tb := fun W' => tS X.K X.mg W' io b) (ts := fun a cls d => tRet (tC X.K X.mg WF h)) hs hf hc tk hb (fun a oe cls d pn hz hd => pss_one (ps_ret (hsu a oe cls d pn hz hd)))).run pins s σ H D I ⟨ρ, er, ?_⟩
  unfold sTryN at f
  cases eb : b ρ with
  | nx ρ1 => rw [eb] at f; exact f
  | bk ρ1 => rw [eb] at f; exact f
  | ct ρ1 => rw [eb] at f; exact f
  | rt r ρ1 => rw [eb] at f; exact f
  | no => rw [eb] at f; exact f
  | ex y ρ1 =>
    rw [eb] at f
    simp only at f
    intro cls dd σ1 H1 p fx er1
    cases em : m y with
    | none => rw [em] at f; exact f.elim
    | some k =>
      rw [em] at f
      refine ⟨k, hm y cls k er1.1 em, fun hk a ha => ?_, fun hk => ?_⟩
      · subst hk
        simp only at f
        refine ⟨ρ1, p.env, ?_⟩
        cases eh : h ρ1 with
        | ex _ _ => rw [eh] at f; exact f.elim
        | no => rw [eh] at f; exact f.elim
        | ok hd ρ2 =>
          rw [eh] at f
          cases hd with
          | s _ => exact f.elim
          | v r => exact fun v H2 q dn => f v _ H2 (p.trans q) fx (DenR.start p dn)
      · subst hk
        exact f cls dd σ1 H1 p fx er1
end
end Sv
end
section
set_option autoImplicit false
set_option linter.all false
set_option maxRecDepth 100000
/-! Sv: enumerate of a tuple. -/
namespace Sv
open PySem PySem.Spec L2
open PyProof.Rows hiding St
variable [HasT]

set_option maxHeartbeats 1000000 in
theorem enum_new1 {v : Value} {o : Obj} {S : Heap → Prop} (bg : Begins v o S) :
    Meets (Builtin.«enumerate.__new__» ⟨[.type "enumerate", v], []⟩) (fun _ R s => S s.heap ∧
      R (.ok (.ret (.ref (s.heap.push o).objs.size))) { s with heap := (s.heap.push o).push { cls := .type "enumerate", data := .fields #[.none, .bool false, .ref s.heap.objs.size, rawInt 0, .none, .none] } }) :=
  .of_wp fun prog w A R s h => by
    obtain ⟨hp, g, d, tk, os⟩ := s
    obtain ⟨h1, h⟩ := h
    have hsub := sub_enumerate
    have step : ∀ {A' : Around} {E : Value → Shared → Prop} {Q : Value → Shared → Prop}, Q (.ref hp.objs.size) ⟨hp.push o, g, d, tk, os⟩ → wpAny (model prog w) A' (pyIter v) Q E ⟨hp, g, d, tk, os⟩ := fun q => bg.iter prog w _ _ ⟨hp, g, d, tk, os⟩ _ h1 q
    wp_walk using step
    refine wpAny_stack_any fun st => wpAny_pure ?_
    split
    · rename_i c _ _ _ _ _
      cases (c == Value.type "enumerate")
      · wp_walk using step
        exact ⟨_, rfl, h⟩
      · wp_walk using step
        exact ⟨_, rfl, h⟩
    · wp_walk using step
      exact ⟨_, rfl, h⟩
section
variable {prog : Program} {w : World} {A : Around} {E : Value → Shared → Prop} {s : Shared}
theorem enum_call1 {v : Value} {o : Obj} {S : Heap → Prop} {Q : Value → Shared → Prop} (bg : Begins v o S) (h1 : S s.heap)
    (h : ∀ h', IsEnum h' (s.heap.objs.size + 1) s.heap.objs.size 0 .none → h'.get? s.heap.objs.size = some o → h'.objs.size = s.heap.objs.size + 2 → (∀ b ob, s.heap.get? b = some ob → h'.get? b = some ob) → Q (.ref (s.heap.objs.size + 1)) { s with heap := h' }) :
    wpAny (model prog w) A (call (.type "enumerate") [v]) Q E s := by
  refine callType_new PySem.F.called_enumerate (by decide) (PySem.F.typeCall_enumerate_1 _) (PySem.F.newCall_enumerate_1 _) (fun ob => PySem.F.args_object_init_2 ob _) PySem.F.entry_enumerate_new (enum_new1 bg) ⟨h1, ?_⟩
  have hz : (s.heap.push o).objs.size = s.heap.objs.size + 1 := Heap.size_push ..
  show _ ∧ _
  rw [hz]
  have he : IsEnum ((s.heap.push o).push { cls := .type "enumerate", data := .fields #[.none, .bool false, .ref s.heap.objs.size, rawInt 0, .none, .none] }) (s.heap.objs.size + 1) s.heap.objs.size 0 .none := by
    have q := Heap.get?_push_size (s.heap.push o) (o := { cls := .type "enumerate", data := .fields #[.none, .bool false, .ref s.heap.objs.size, rawInt 0, .none, .none] }) rfl
    rw [hz] at q
    exact q
  exact ⟨⟨_, he, rfl⟩, h _ he (Heap.get?_push_of_some _ (Heap.get?_push_size _ bg.free)) (by rw [Heap.size_push, hz]) fun b ob x => Heap.get?_push_of_some _ (Heap.get?_push_of_some _ x)⟩
end
/-- the tuple at a, each item in a new pair behind its place -/
def ItE (K : PySem.W.Frag) (a : Addr) : It :=
  ⟨fun i H => ∃ (xs : List V) (x : V), SqT K H a xs ∧ xs[i]? = some x, fun i H v H' => ∃ T x, v = .ref T ∧ H T = none ∧ H' = upd H T (.tup [.int (i : Nat), x]) ∧ ∀ xs, SqT K H a xs → xs[i]? = some x, fun i H => ∃ xs : List V, SqT K H a xs ∧ xs.length = i⟩
theorem turn_enumT {P : Program} {w : World} {K : PySem.W.Frag} {elts : List Expr} {kk : Nat} {tpos : Pos} (a e it : Addr) (hne : e ≠ it) (hai : a ≠ it) (hae : e ≠ a) :
    Turn P w K (.Tuple elts kk tpos) (ItE K a) [e, it] e (fun i h => (∃ old, IsEnum h e it ((i : Nat) : Int) old) ∧ h.IsTupleIter it a i) where
  mem := by simp
  obj := fun i h st b hb => by
    obtain ⟨⟨old, he⟩, o, ho, hc, hd⟩ := st
    rcases (by simpa using hb : b = e ∨ b = it) with z | z
    · rw [z]; exact ⟨_, he, fun v q => nomatch q⟩
    · rw [z]; exact ⟨o, ho, fun v q => by rw [hd] at q; cases q⟩
  keep := fun i h h' st k => ⟨let ⟨old, he⟩ := st.1; ⟨old, k e (by simp) _ he⟩, st.2.at fun o q => k it (by simp) o q⟩
  item := by
    intro X hP hw hK hc i pins s σ H E I hf st hg
    subst hP hw hK
    obtain ⟨⟨old, he⟩, hit⟩ := st
    obtain ⟨xs, x, hq, hx⟩ := hg
    obtain ⟨its, rv, tup, hz⟩ := I.tuple hq
    obtain ⟨u0, hu0, ru0⟩ := rv.get hx
    have hT : s.heap.IsTuple a its.toArray := tup
    have Dr : Draws X.prog X.w X.A.in1 it [it, a] its.toArray.size (fun i v => its.toArray[i]? = some v) (fun i h => h.IsTupleIter it a i ∧ h.IsTuple a its.toArray) := Draws.tuple (show X.A.in1.handled = none from I.ok.hd hc) it a hai its.toArray
    have hi : i < its.toArray.size := by
      have := (List.getElem?_eq_some_iff.mp hu0).1
      simpa using this
    have hel : e < s.heap.objs.size := Heap.lt_size he
    have hil : it < s.heap.objs.size := by obtain ⟨_, q, _⟩ := hit; exact Heap.lt_size q
    refine wpAny_pyNext_enum_itemC Dr he ⟨hit, hT⟩ hi hne (by simp [hne, hae]) fun u h' tk hu ho hst' hTn hsz hk => ?_
    have ue : u = u0 := by
      have q : its[i]? = some u := by simpa using hu
      exact Option.some.inj (q.symm.trans hu0)
    subst ue
    refine ⟨_, rfl, wpAny_letOwnedTupleGo_enum (s := { s with heap := h', toks := tk + 1 }) ho fun h'' he' sb => ?_⟩
    have hT2 : h''.get? s.heap.objs.size = some { cls := .type "tuple", data := .seq #[.int i tk, u] } := (sb.2 _ (Nat.ne_of_gt hel)).trans hTn
    have new : ObjOk X.prog X.w (upd H s.heap.objs.size (.tup [.int (i : Nat), x])) h'' s.heap.objs.size (.tup [.int (i : Nat), x]) :=
      ⟨by show 2 ≤ sizeLine; decide, [.int i tk, u], .cons ⟨_, rfl⟩ (.cons ru0 .nil), ⟨_, hT2, rfl, _, rfl⟩⟩
    have I1 : Inv X pins σ (upd H s.heap.objs.size (.tup [.int (i : Nat), x])) { s with heap := h'', toks := tk + 1 } :=
      I.turnedNew (ch := [e, it]) (fun b ob hb q => (sb.2 b (fun z => hb (by simp [z]))).trans (hk b ob (fun z => hb (by simp [z])) (fun z => hb (by simp [z])) q)) hf (Nat.le_refl _) new
    refine ⟨.ref s.heap.objs.size, _, I1, rfl, ⟨_, x, rfl, I.hok.fresh (Nat.le_refl _), rfl, fun ys hy => by rw [I.tuple_inj hy hq]; exact hx⟩, ⟨⟨u, ?_⟩, hst'.1.at fun o q => (sb.2 it (Ne.symm hne)).trans q⟩, fun b hb => ?_⟩
    · have e1 : ((i + 1 : Nat) : Int) = (i : Int) + 1 := by omega
      rw [e1]
      exact he'
    · have hb' : b < s.heap.objs.size := by
        rcases (by simpa using hb : b = e ∨ b = it) with z | z
        · rw [z]; exact hel
        · rw [z]; exact hil
      rw [upd_ne (Nat.ne_of_lt hb')]
      exact (hf b hb).1
  done := by
    intro X hP hw hK hc i pins s σ H E I hf st hg
    subst hP hw hK
    obtain ⟨⟨old, he⟩, hit⟩ := st
    obtain ⟨xs, hq, hx⟩ := hg
    obtain ⟨its, rv, tup, hz⟩ := I.tuple hq
    obtain ⟨f0, f1, f2, f3, f4, f5⟩ := hf it (by simp)
    have Dr : Draws X.prog X.w X.A.in1 it [it, a] its.toArray.size (fun i v => its.toArray[i]? = some v) (fun i h => h.IsTupleIter it a i ∧ h.IsTuple a its.toArray) := Draws.tuple (show X.A.in1.handled = none from I.ok.hd hc) it a hai its.toArray
    have hn : its.toArray.size = i := by rw [List.size_toArray, ← rv.length]; exact hx
    exact wpAny_pyNext_enum_endD Dr he (by rw [hn]; exact ⟨hit, tup⟩) fun h' eb => ⟨rfl, I.turned (t' := s.toks) (fun b o hb q => eb b o hb q) f0 f1 f3 f4 f5⟩
  self := fun A i s Q E st h => let ⟨_, he⟩ := st.1; wpAny_pyIter_enum he h
section
variable {X : Cx} {W : WX}
def iEnT (K : PySem.W.Frag) (ta : TA) : TI := fun σ H R => ta σ H fun vs H1 => ∃ a xs, vs = [.ref a] ∧ SqT K H1 a xs ∧ R (ItE K a) H1
theorem pi_enT {e : Expr} {ta : TA} {p pos tpos : Pos} {elts : List Expr} {kk : Nat} (hg : Gl X "enumerate") (hm : X.mg "enumerate" = none) (ha : PA X [e] ta) (hs : starEach [e] X.env = [(false, eval e X.env)]) :
    PI X (.Tuple elts kk tpos) (.Call (.Name "enumerate" p) [e] [] pos) (iEnT X.K ta) := by
  refine ⟨fun pins s σ H R I h => ?_⟩
  refine Call_ (ld_blt I hg hm boot_enumerate (PyProof.Rows.callWith_type1 (thn (ha.run pos pins s σ H _ I h) fun us s1 ⟨vs, H1, I1, r1, a, xs, ex, hq, q⟩ => ?_) hs rfl))
  subst ex
  cases r1 with
  | cons r rr =>
    cases rr
    cases r
    obtain ⟨its, rv, tup, hz⟩ := I1.tuple hq
    have hal : a < s1.heap.objs.size := tup.lt
    refine enum_call1 (begins_tuple a its.toArray) tup fun h' he hit hsz hk => wpAny_pyIter_enum he ?_
    have I2 : Inv X pins σ H1 { s1 with heap := h' } := I1.kept (t' := s1.toks) hk
    refine ⟨s1.heap.objs.size + 1, [s1.heap.objs.size + 1, s1.heap.objs.size], _, _, H1, rfl, I2, turn_enumT a _ _ (Nat.succ_ne_self _) (Nat.ne_of_lt hal) (Ne.symm (Nat.ne_of_lt (Nat.lt_succ_of_lt hal))), ⟨⟨_, he⟩, ⟨_, hit, rfl, rfl⟩⟩, fun b hb => ?_, q⟩
    rcases (by simpa using hb : b = s1.heap.objs.size + 1 ∨ b = s1.heap.objs.size) with z | z
    · rw [z]; exact I1.fpOk (Nat.le_succ _) (I1.hok.fresh (Nat.le_succ _))
    · rw [z]; exact I1.fpOk (Nat.le_refl _) (I1.hok.fresh (Nat.le_refl _))
theorem pairs_get (xs : List PyData) (i : Nat) : (enumD xs)[i]? = (xs[i]?).map fun x => .tuple [.int i, x] := by
  unfold enumD
  rw [List.getElem?_mapIdx]
theorem enumD_len (xs : List PyData) : (enumD xs).length = xs.length := by unfold enumD; rw [List.length_mapIdx]
theorem pair_fz {K : PySem.W.Frag} {H H2 : Hp} {T : Addr} {i : Nat} {v : V} {d : PyData} (hT : H T = none) (e : H2 = upd H T (.tup [.int (i : Nat), v])) (fz : Fz K H v d) : Fz K H2 (.ref T) (.tuple [.int i, d]) ∧ ∀ b o, H b = some o → H2 b = some o := by
  subst e
  exact ⟨.tup (.inl (.inl upd_same)) (.cons (.int _) (.cons (fz.keep fun b o h _ => grow_upd hT b o h) .nil)), grow_upd hT⟩
theorem walk_enT {K : PySem.W.Frag} {H : Hp} {a : Addr} {vs : List V} {xs : List PyData} (h : SqT K H a vs) (hx : FzAll K H vs xs) : WalkJ K H (ItE K a) (enumD xs) := fun i H1 k => by
  have hq : SqT K H1 a vs := SqT.keep k h
  have hx1 := hx.keep k
  have hl := enumD_len xs
  refine ⟨fun hi => ⟨vs, hq, by rw [hx.length, hi, hl]⟩, fun hi => ?_, fun x H' hy d hd => ?_⟩
  · obtain ⟨v, hv, _⟩ := hx1.get (List.getElem?_eq_getElem (by rw [← hl]; exact hi : i < xs.length))
    exact ⟨vs, v, hq, hv⟩
  · obtain ⟨T, y, rfl, hT, e, hy⟩ := hy
    rw [pairs_get] at hd
    cases e1 : xs[i]? with
    | none => rw [e1] at hd; cases hd
    | some z =>
      rw [e1] at hd
      cases hd
      obtain ⟨v, hv, fz⟩ := hx1.get e1
      have ev : v = y := Option.some.inj (hv.symm.trans (hy vs hq))
      subst ev
      exact pair_fz hT e fz
theorem walk_enL {K : PySem.W.Frag} {H : Hp} {a : Addr} {vs : List V} {xs : List PyData} (h : FL K H a vs) (hx : FzAll K H vs xs) : WalkJ K H (Ite K a) (enumD xs) := fun i H1 k => by
  have hq : SqL K H1 a vs := FL.sq (h.imp (fun ⟨o, h⟩ => ⟨o, k _ _ h rfl⟩) id)
  have hx1 := hx.keep k
  have hl := enumD_len xs
  refine ⟨fun hi => ⟨vs, hq, by rw [hx.length, hi, hl]; exact Nat.le_refl _⟩, fun hi => ?_, fun x H' hy d hd => ?_⟩
  · obtain ⟨v, hv, _⟩ := hx1.get (List.getElem?_eq_getElem (by rw [← hl]; exact hi : i < xs.length))
    exact ⟨vs, v, hq, hv⟩
  · obtain ⟨T, y, rfl, hT, e, hy⟩ := hy
    rw [pairs_get] at hd
    cases e1 : xs[i]? with
    | none => rw [e1] at hd; cases hd
    | some z =>
      rw [e1] at hd
      cases hd
      obtain ⟨v, hv, fz⟩ := hx1.get e1
      have ev : v = y := Option.some.inj (hv.symm.trans (hy vs hq))
      subst ev
      exact pair_fz hT e fz
theorem i_enum {e : Expr} {c : Cd} {p pos tpos : Pos} {elts : List Expr} {kk : Nat} (hg : Gl X "enumerate") (hm : X.mg "enumerate" = none) (he : JE X W e c) (hs : starEach [e] X.env = [(false, eval e X.env)] := by rfl) :
    JI X W (.Tuple elts kk tpos) (.Call (.Name "enumerate" p) [e] [] pos) (wEnum c) :=
  pi_weak (pi_or (pi_enum hg hm (pa_cons (e_hold he) pa_nil hs) hs) (pi_enT hg hm (pa_cons (e_hold he) pa_nil hs) hs)) fun σ H R ⟨ρ, er, f⟩ => by
    unfold wEnum at f
    cases e1 : cE c ρ with
    | no => rw [e1] at f; exact f.elim
    | ex x ρ1 => rw [e1] at f; exact .inl ⟨ρ, er, by rw [e1]; exact f⟩
    | ok hd ρ1 =>
      rw [e1, Sv.R.bind_ok] at f
      cases hd with
      | s i => exact f.elim
      | v b =>
        cases b with
        | l xs => exact f.elim
        | d x =>
          cases x with
          | list xs =>
            refine .inl ⟨ρ, er, ?_⟩
            rw [e1]
            intro v H1 p dn
            cases dn with
            | lst ha hx => exact ⟨_, _, rfl, ha.sq, f _ H1 p (walk_enL ha hx)⟩
          | tuple xs =>
            refine .inr ⟨ρ, er, ?_⟩
            rw [e1]
            intro v H1 p dn
            cases dn with
            | tup ha hx => exact ⟨_, _, rfl, ha, f _ H1 p (walk_enT ha hx)⟩
          | _ => exact f.elim
end
end Sv
end
section
set_option autoImplicit false
set_option linter.all false
set_option maxRecDepth 100000
/-! Sv: slices from the end, join, unpacked lists, chains, signs. -/
namespace Sv
open PySem PySem.Spec L2
open PyProof.Rows hiding St
variable [HasT]

section
variable {prog : Program} {w : World} {A : Around} {E : Value → Shared → Prop} {s : Shared}
theorem tup_back {t sl : Addr} {items : Array Value} {vl vu vs : Value} {hi : Option Int} {zs : List Value} {a b : Int} {k : Nat} {Q : Value → Shared → Prop} (ht : IsTup s.heap t items) (hs : s.heap.IsSliceOf sl vl vu vs) (pl : IsPart vl none) (pu : IsPart vu hi) (ps : IsPart vs (some (-1)))
    (ha : Builtin.Slice.sliceAdjust none hi (-1) (items.size : Int) = (a, b)) (hp : Builtin.Slice.slicePlaces a b (-1) = k) (hz : ((List.range k).filterMap fun (m : Nat) => items[(a + (m : Int) * (-1)).toNat]?) = zs) (hl : zs.length ≤ sizeLine)
    (h : Q (.ref s.heap.objs.size) { s with heap := s.heap.push { cls := .type "tuple", data := .seq zs.toArray } }) : wpAny (model prog w) A (getItem (.ref t) (.ref sl)) Q E s := by
  have htake : sizeOk (.seq zs.toArray) := by
    show zs.toArray.size ≤ sizeLine
    rw [List.size_toArray]
    exact hl
  obtain ⟨os, hos, hcs, hds⟩ := id hs
  have hTs : s.TypeIs (.ref sl) "slice" := ⟨os, hos, hcs⟩
  unfold getItem
  try with_reducible refine wpAny_holding ?_
  first | refine wpAny_bind (wpAny_pure ?_) | skip
  refine wpAny_bind (wpAny_sequenceKey ht.typeIs (by decide) ?_)
  refine wpAny_bind (wpAny_callSpecial?_slot (name := Str.ofString "__getitem__") ht.typeIs PyProof.Rows.slot_tuple_getitem
    (wpAny_call_entry PyProof.Rows.slot_tuple_getitem ht.typeIs entry_tuple_getitem ?_ (args_tuple_getitem _ _)))
  show wpAny _ _ (Builtin.Tuple.tupleItemsOf (.ref t) >>= _) _ _ s
  refine wpAny_bind (tupleItemsOf_ ht ?_)
  refine wpAny_bind (wpAny_typeOf hTs ?_)
  rw [if_pos (by decide)]
  refine wpAny_bind ?_
  unfold Builtin.Slice.sliceApplied Builtin.Slice.sliceFields
  refine wpAny_bind (wpAny_bind (wpAny_field hos hds (x := vl) rfl (wpAny_bind (wpAny_field hos hds (x := vu) rfl (wpAny_bind (wpAny_field hos hds (x := vs) rfl (wpAny_pure ?_)))))))
  refine wpAny_bind (HT.slicePart_ ps ?_)
  show wpAny _ _ (if ((-1 : Int) == 0) = true then _ else _) _ _ s
  rw [if_neg (by decide)]
  refine wpAny_bind (HT.slicePart_ pl (wpAny_bind (HT.slicePart_ pu (wpAny_bind (wpAny_pure ?_)))))
  show wpAny _ _ (match Builtin.Slice.sliceAdjust none hi (-1) (items.size : Int) with | (lo, hi) => pure (lo, (-1 : Int), Builtin.Slice.slicePlaces lo hi (-1))) _ _ s
  rw [ha]
  show wpAny _ _ (pure (a, (-1 : Int), Builtin.Slice.slicePlaces a b (-1))) _ _ s
  rw [hp]
  refine wpAny_pure ?_
  have hno : ¬ ((a == 0 && (-1 : Int) == 1 && k == items.size) = true) := by
    intro q
    rw [Bool.and_eq_true, Bool.and_eq_true] at q
    exact absurd q.1.2 (by decide)
  show wpAny _ _ (if (a == 0 && (-1 : Int) == 1 && k == items.size) = true then _ else _) _ _ s
  rw [if_neg hno, hz]
  first
    | exact wpAny_bind (m := Builtin.Tuple.tupleExact _) (wpAny_newObj_type (wpAny_pure ⟨_, rfl, wpAny_pure h⟩) htake)
    | exact wpAny_bind (m := Builtin.Tuple.tupleExact _) (wpAny_newObj_type (wpAny_bind (wpAny_pure (wpAny_pure ⟨_, rfl, wpAny_pure h⟩))) htake)
    | exact wpAny_bind (wpAny_bind (m := Builtin.Tuple.tupleExact _) (wpAny_newObj_type (wpAny_pure (wpAny_pure ⟨_, rfl, wpAny_pure h⟩)) htake))
    | exact wpAny_bind (wpAny_bind (m := Builtin.Tuple.tupleExact _) (wpAny_newObj_type (wpAny_pure ⟨_, rfl, wpAny_pure h⟩) htake))
theorem back_pick (xs : Array Value) (k : Nat) (hk : k ≤ xs.size) : ((List.range k).filterMap fun (m : Nat) => xs[(((xs.size : Int) - 1) + (m : Int) * (-1)).toNat]?) = (xs.toList.drop (xs.size - k)).reverse := by
  apply List.ext_getElem?
  intro i
  have e : ∀ l : List Nat, (∀ m ∈ l, m < xs.size) → (l.filterMap fun (m : Nat) => xs[(((xs.size : Int) - 1) + (m : Int) * (-1)).toNat]?) = l.map fun m => xs[xs.size - 1 - m]! := by
    intro l
    induction l with
    | nil => intro _; rfl
    | cons m r ih =>
      intro hm
      have h1 := hm m List.mem_cons_self
      have e2 : (((xs.size : Int) - 1) + (m : Int) * (-1)).toNat = xs.size - 1 - m := by omega
      rw [List.filterMap_cons, e2, List.map_cons, ih fun m hq => hm m (List.mem_cons_of_mem _ hq)]
      have h3 : xs.size - 1 - m < xs.size := by omega
      rw [Array.getElem?_eq_getElem h3, getElem!_pos xs _ h3]
  rw [e _ fun m hm => by have := List.mem_range.mp hm; omega]
  by_cases hi : i < k
  · rw [List.getElem?_map, List.getElem?_range hi, List.getElem?_reverse (by rw [List.length_drop, Array.length_toList]; omega), List.getElem?_drop, List.length_drop, Array.length_toList]
    have h3 : xs.size - 1 - i < xs.size := by omega
    have e3 : xs.size - k + (xs.size - (xs.size - k) - 1 - i) = xs.size - 1 - i := by omega
    rw [e3, Option.map_some, getElem!_pos xs _ h3, Array.getElem?_toList, Array.getElem?_eq_getElem h3]
  · rw [List.getElem?_eq_none (by rw [List.length_map, List.length_range]; omega), List.getElem?_eq_none (by rw [List.length_reverse, List.length_drop, Array.length_toList]; omega)]
end
/-! ### xs[::-1], xs[:0:-1] -/
def revP : PyData → Option B
  | .list xs => some (.l xs.reverse)
  | .tuple xs => some (.d (.tuple xs.reverse))
  | _ => none
def rev0P : PyData → Option B
  | .tuple xs => some (.d (.tuple xs.tail.reverse))
  | _ => none
section
variable {X : Cx} {W : WX}
def tPt (K : PySem.W.Frag) (r : V → Hp → VK → Prop) (te : TE) : TE := fun σ H Q => te σ H fun x H1 => r x H1 Q
theorem pe_back {e : Expr} {te : TE} {k : Nat} {p1 p2 p3 pos : Pos} {hi : Option Expr} {th : TO} {o : Option Int} {r : V → Hp → VK → Prop} (he : PE X e te) (hh : PO X hi th) (hth : ∀ σ H Q, Q o H → th σ H Q)
    (hr : ∀ (pins : List (Addr × Obj)) (s : Shared) (σ : St) (H : Hp) (x : V) (v vl vu vs : Value) (sl : Addr) (Q : VK), Inv X pins σ H s → RelV x v → s.heap.IsSliceOf sl vl vu vs → IsPart vl none → IsPart vu o → IsPart vs (some (-1)) → r x H Q →
      (∃ (T g : String), typeLookup (.type T) "__getitem__" = pure (some (.builtin g)) ∧ s.TypeIs v T) ∧ wpAny (model X.prog X.w) X.A (getItem v (.ref sl)) (EP X pins σ Q) X.xe s) :
    PE X (.Subscript e (.Slice none hi (some (.UnaryOp .USub (.Constant (.int 1) k p1) p2)) p3) pos) (tPt X.K r te) := by
  refine ⟨fun pins s σ H Q I h => ?_⟩
  refine Subscript_ (thn (he.run pins s σ H _ I h) fun v s1 ⟨x, H1, I1, r1, q1⟩ => ?_)
  have hst : PO X (some (.UnaryOp .USub (.Constant (.int 1) k p1) p2)) (tPart (tUn (rU fun i => .int (-i)) (L2.tC (.int 1)))) := po_some (pe_un un_neg pe_int)
  refine wpAny_Slice (thn (po_none.run pins s1 σ H1 (fun o H2 => o = none ∧ H2 = H1) I1 ⟨rfl, rfl⟩) fun vl s2 ⟨l, H2, I2, pl, el, e2⟩ => ?_)
  subst el e2
  refine thn (hh.run pins s2 σ H2 (fun o' H3 => o' = o ∧ H3 = H2) I2 (hth _ _ _ ⟨rfl, rfl⟩)) fun vu s3 ⟨u, H3, I3, pu, eu, e3⟩ => ?_
  subst eu e3
  refine thn (hst.run pins s3 σ H3 (fun o H4 => o = some (-1) ∧ H4 = H3) I3 ⟨1, rfl, -1, rfl, rfl, rfl⟩) fun vs s4 ⟨o, H4, I4, ps, eo, e4⟩ => ?_
  subst eo e4
  have I5 : Inv X pins σ H4 { s4 with heap := s4.heap.push { cls := .type "slice", data := .fields #[vl, vu, vs] } } := I4.kept (t' := s4.toks) fun b ob q => Heap.get?_push_of_some _ q
  obtain ⟨⟨T, g, hg, ht⟩, hw⟩ := hr pins _ σ H4 x v vl vu vs s4.heap.objs.size Q I5 r1 (Heap.IsSliceOf.new _ vl vu vs) pl pu ps q1
  show wpAny (model X.prog X.w) X.A (subscriptTail e (.Slice none hi (some (.UnaryOp .USub (.Constant (.int 1) k p1) p2)) p3) v (.ref s4.heap.objs.size)) (EP X pins σ Q) X.xe { s4 with heap := s4.heap.push { cls := .type "slice", data := .fields #[vl, vu, vs] } }
  exact tail_any (ops := [v, .ref s4.heap.objs.size]) ht hg hw (by with_unfolding_all rfl)
theorem adj_n (n : Nat) : Builtin.Slice.sliceAdjust none none (-1) (n : Int) = ((n : Int) - 1, -1) := by
  unfold Builtin.Slice.sliceAdjust
  simp
theorem adj_0 (n : Nat) : Builtin.Slice.sliceAdjust none (some 0) (-1) (n : Int) = ((n : Int) - 1, if n = 0 then -1 else 0) := by
  unfold Builtin.Slice.sliceAdjust
  simp
  first | (done) | (split <;> omega) | omega
theorem pl_n (n : Nat) : Builtin.Slice.slicePlaces ((n : Int) - 1) (-1) (-1) = n := by
  unfold Builtin.Slice.slicePlaces
  simp
  omega
theorem pl_0 (n : Nat) : Builtin.Slice.slicePlaces ((n : Int) - 1) (if n = 0 then -1 else 0) (-1) = n - 1 := by
  unfold Builtin.Slice.slicePlaces
  by_cases h : n = 0
  · subst h; simp
  · simp [h]
    omega
theorem pt_fin {f : PyData → Option B} {a : Cd} (pa : Pl a) {σ : St} {H : Hp} {Q : VK} (h : tC X.K X.mg W (cUn f a) σ H Q) : tPt X.K (rB1 X.K f) (tC X.K X.mg W a) σ H Q := by
  obtain ⟨ρ, er, f0⟩ := h
  refine ⟨ρ, er, Fin.part f0 fun hd ρ1 c1 f1 v H1 p dn => ?_⟩
  cases e1 : hd.rd ρ1 with
  | none => rw [e1] at f1; exact f1.elim
  | some x =>
    rw [e1] at f1
    simp only at f1
    cases e2 : f x with
    | none => rw [e2] at f1; exact f1.elim
    | some r =>
      rw [e2] at f1
      exact ⟨x, r, dn.vw (pa _ _ _ c1) p.env (Pst.refl p.env) e1, e2, fun w H4 n => n.fin p f1⟩
theorem FzAll.tail {K : PySem.W.Frag} {H : Hp} {vs : List V} {ds : List PyData} (h : FzAll K H vs ds) : FzAll K H vs.tail ds.tail := by
  cases h with
  | nil => exact .nil
  | cons a t => exact t
theorem vals_tail {xs : List V} {us : List Value} (h : Vals xs us) : Vals xs.tail us.tail := by
  cases h with
  | nil => exact .nil
  | cons a t => exact t
theorem e_rev {e : Expr} {c : Cd} {k : Nat} {p1 p2 p3 pos : Pos} (he : JE X W e c) (pl : Pl c) : JE X W (.Subscript e (.Slice none none (some (.UnaryOp .USub (.Constant (.int 1) k p1) p2)) p3) pos) (cUn revP c) :=
  pe_weak (pe_back (o := none) (r := rB1 X.K revP) he po_none (fun _ _ _ q => q) fun pins s σ H x v vl vu vs sl Q I rx hs pl pu ps ⟨a, r, ha, e1, q⟩ => by
    cases ha with
    | @lst p xs ds h1 t1 =>
      cases e1
      cases rx
      obtain ⟨its, rv, ht, hz⟩ := I.list h1.sq
      have hlen := rv.length
      refine ⟨⟨"list", _, PySem.slot_list_getitem.lookup, ht.isList.typeIs⟩, ?_⟩
      refine wpAny_getItem_list_slice ht.isList hs pl pu ps (by decide) ?_ (by rw [List.size_toArray]; omega)
      rw [PySem.W.krv_pick]
      refine ⟨.ref _, _, I.laid (t' := s.toks) (o := .lst xs.reverse) (fun b ob q => Heap.get?_push_of_some _ q) (Nat.le_refl _) ?_, rfl, q _ _ (new_lst (I.hok.fresh (Nat.le_refl _)) t1.rev)⟩
      exact ⟨by rw [List.length_reverse]; exact hz, _, 0, rv.reverse, Heap.get?_push_size _ rfl⟩
    | @tup p xs ds h1 t1 =>
      cases e1
      cases rx
      obtain ⟨its, rv, ht, hz⟩ := I.tuple h1
      have hlen := rv.length
      refine ⟨⟨"tuple", _, PyProof.Rows.slot_tuple_getitem.lookup, ht.typeIs⟩, ?_⟩
      refine tup_back ht hs pl pu ps (adj_n _) (pl_n _) (back_pick _ _ (Nat.le_refl _)) ?_ ?_
      · simp; omega
      · rw [Nat.sub_self, List.drop_zero]
        refine ⟨.ref _, _, I.laid (t' := s.toks) (o := .tup xs.reverse) (fun b ob q => Heap.get?_push_of_some _ q) (Nat.le_refl _) ?_, rfl, q _ _ (new_tup (I.hok.fresh (Nat.le_refl _)) t1.rev)⟩
        first
          | exact ⟨by rw [List.length_reverse]; exact hz, _, 0, rv.reverse, Heap.get?_push_size _ rfl⟩
          | exact ⟨by rw [List.length_reverse]; exact hz, _, rv.reverse, ⟨_, Heap.get?_push_size _ rfl, rfl, 0, rfl⟩⟩
    | _ => cases e1) fun σ H Q h => pt_fin pl h
theorem e_rev0 {e : Expr} {c : Cd} {k k0 : Nat} {p0 p1 p2 p3 pos : Pos} (he : JE X W e c) (pl : Pl c) : JE X W (.Subscript e (.Slice none (some (.Constant (.int 0) k0 p0)) (some (.UnaryOp .USub (.Constant (.int 1) k p1) p2)) p3) pos) (cUn rev0P c) :=
  pe_weak (pe_back (o := some 0) (r := rB1 X.K rev0P) he (po_some pe_int) (fun _ _ _ q => ⟨0, rfl, q⟩) fun pins s σ H x v vl vu vs sl Q I rx hs pl pu ps ⟨a, r, ha, e1, q⟩ => by
    cases ha with
    | @tup p xs ds h1 t1 =>
      cases e1
      cases rx
      obtain ⟨its, rv, ht, hz⟩ := I.tuple h1
      have hlen := rv.length
      refine ⟨⟨"tuple", _, PyProof.Rows.slot_tuple_getitem.lookup, ht.typeIs⟩, ?_⟩
      refine tup_back ht hs pl pu ps (adj_0 _) (pl_0 _) (back_pick _ _ (Nat.sub_le _ _)) ?_ ?_
      · simp; omega
      · have e2 : (its.toArray.toList.drop (its.toArray.size - (its.toArray.size - 1))) = its.tail := by
          cases its with
          | nil => rfl
          | cons a t => simp
        rw [e2]
        refine ⟨.ref _, _, I.laid (t' := s.toks) (o := .tup xs.tail.reverse) (fun b ob q => Heap.get?_push_of_some _ q) (Nat.le_refl _) ?_, rfl, q _ _ (new_tup (I.hok.fresh (Nat.le_refl _)) t1.tail.rev)⟩
        have hz' : xs.tail.reverse.length ≤ sizeLine := by rw [List.length_reverse, List.length_tail]; omega
        first
          | exact ⟨hz', _, 0, (vals_tail rv).reverse, Heap.get?_push_size _ rfl⟩
          | exact ⟨hz', _, (vals_tail rv).reverse, ⟨_, Heap.get?_push_size _ rfl, rfl, 0, rfl⟩⟩
    | _ => cases e1) fun σ H Q h => pt_fin pl h
end
end Sv
end
section
set_option autoImplicit false
set_option linter.all false
set_option maxRecDepth 100000
/-! Sv: chains, signs, join, unpacked lists, errors asked in their suites. -/
namespace Sv
open PySem PySem.Spec L2
open PyProof.Rows hiding St
variable [HasT]

section
variable {X : Cx} {W : WX} {io : List Nat}
theorem chain_fin {f g : PyData → PyData → Option Bool} {a b c : Cd} (pa : Pl a) (pb : Pl b) (pc : Pl c) {σ : St} {H : Hp} {Q : VK} (h : tC X.K X.mg W (cChain f g a b c) σ H Q) : tChain (rB2 X.K (toP f)) (rB2 X.K (toP g)) (tC X.K X.mg W a) (tC X.K X.mg W b) (tC X.K X.mg W c) σ H Q := by
  obtain ⟨ρ, er, f0⟩ := h
  refine ⟨ρ, er, Fin.part f0 fun hd ρ1 c1 f1 v H1 p dn => ?_⟩
  refine ⟨ρ1, p.env, Fin.part (Fin.laterC p f1) fun hd2 ρ2 c2 f2 v2 H2 p2 dn2 => ?_⟩
  cases e1 : hd.rd ρ2 with
  | none => rw [e1] at f2; exact f2.elim
  | some x =>
    cases e2 : hd2.rd ρ2 with
    | none => rw [e1, e2] at f2; exact f2.elim
    | some y =>
      rw [e1, e2] at f2
      simp only at f2
      cases e3 : f x y with
      | none => rw [e3] at f2; exact f2.elim
      | some k =>
        rw [e3] at f2
        refine ⟨x, y, .d (.bool k), dn.vw (pa _ _ _ c1) p.env p2 e1, dn2.vw (pb _ _ _ c2) p2.env (Pst.refl p2.env) e2, by unfold toP; rw [e3]; rfl, fun z H3 n => ?_⟩
        obtain ⟨gr, fz⟩ := n
        have hz : z = .bl k := by cases fz; rfl
        refine ⟨k, hz, ?_⟩
        have pg : Pst X.K H2 σ ρ2 H3 σ ρ2 := Pst.grow p2.env gr
        cases k with
        | false =>
          rw [if_neg Bool.false_ne_true]
          have q : NewB X.K H2 H3 (.bl false) (.d (.bool false)) := ⟨gr, .bl false⟩
          exact q.fin p2 f2
        | true =>
          rw [if_pos rfl]
          simp only at f2
          refine ⟨ρ2, pg.env, Fin.part (Fin.laterC (p2.trans pg) f2) fun hd3 ρ3 c3 f3 v3 H4 p4 dn3 => ?_⟩
          cases e4 : hd2.rd ρ3 with
          | none => rw [e4] at f3; exact f3.elim
          | some y' =>
            cases e5 : hd3.rd ρ3 with
            | none => rw [e4, e5] at f3; exact f3.elim
            | some z' =>
              rw [e4, e5] at f3
              simp only at f3
              cases e6 : g y' z' with
              | none => rw [e6] at f3; exact f3.elim
              | some k' =>
                rw [e6] at f3
                exact ⟨y', z', .d (.bool k'), dn2.vw (pb _ _ _ c2) p2.env (pg.trans p4) e4, dn3.vw (pc _ _ _ c3) p4.env (Pst.refl p4.env) e5, by unfold toP; rw [e6]; rfl, fun w H5 n => n.fin p4 f3⟩
theorem e_chain {op op' : CmpOp} {f g : PyData → PyData → Option Bool} {a b c : Expr} {ca cb cc : Cd} {pos : Pos} (ho : OpR X (compareOp op) (rB2 X.K (toP f))) (ho' : OpR X (compareOp op') (rB2 X.K (toP g))) (ha : JE X W a ca) (hb : JE X W b cb) (hc : JE X W c cc) (pa : Pl ca) (pb : Pl cb) (pc : Pl cc)
    (hm : lastMarks [op, op'] [b, c] = false := by with_unfolding_all rfl) : JE X W (.Compare a [op, op'] [b, c] pos) (cChain f g ca cb cc) :=
  pe_weak (pe_chain ho ho' ha hb hc hm) fun σ H Q h => chain_fin pa pb pc h
theorem tB_fin {ca : Cd} (pa : Pl ca) {t : TE} (w : ∀ σ H Q, tC X.K X.mg W ca σ H Q → t σ H Q) {σ : St} {H : Hp} {Q : Bool → Hp → Prop} (h : tT X.K X.mg W (Sv.tB ca) σ H Q) : tTest t σ H Q := by
  obtain ⟨ρ, er, f0⟩ := h
  refine w σ H _ ⟨ρ, er, Fin.part f0 fun hd ρ1 c1 f1 v H1 p dn => ?_⟩
  cases e1 : hd.rd ρ1 with
  | none => rw [e1] at f1; exact f1.elim
  | some x =>
    rw [e1] at f1
    have hx := dn.vw (pa _ _ _ c1) p.env (Pst.refl p.env) e1
    cases x with
    | bool k => cases Vw.bool hx; exact ⟨k, rfl, f1 k H1 p rfl⟩
    | _ => exact f1.elim
theorem pl_chain (f g : PyData → PyData → Option Bool) (a b c : Cd) : Pl (cChain f g a b c) := fun ρ hd ρ1 h => by
  unfold cChain at h
  cases ea : a ρ with
  | ex x e => rw [ea] at h; cases h
  | no => rw [ea] at h; cases h
  | ok x e1 =>
    rw [ea] at h
    simp only [R.bind_ok] at h
    cases eb : b e1 with
    | ex x e => rw [eb] at h; cases h
    | no => rw [eb] at h; cases h
    | ok y e2 =>
      rw [eb] at h
      simp only [R.bind_ok] at h
      split at h
      · split at h
        · cases ec : c e2 with
          | ex x e => rw [ec] at h; cases h
          | no => rw [ec] at h; cases h
          | ok z e3 =>
            rw [ec] at h
            simp only [R.bind_ok] at h
            split at h
            · split at h
              · cases h; trivial
              · cases h
            · cases h
        · cases h; trivial
        · cases h
      · cases h
theorem t_chain {op op' : CmpOp} {f g : PyData → PyData → Option Bool} {a b c : Expr} {ca cb cc : Cd} {pos : Pos} (ho : OpR X (compareOp op) (rB2 X.K (toP f))) (ho' : OpR X (compareOp op') (rB2 X.K (toP g))) (ha : JE X W a ca) (hb : JE X W b cb) (hc : JE X W c cc) (pa : Pl ca) (pb : Pl cb) (pc : Pl cc)
    (hm : lastMarks [op, op'] [b, c] = false := by with_unfolding_all rfl) : JT X W (.Compare a [op, op'] [b, c] pos) (Sv.tB (cChain f g ca cb cc)) :=
  pt_weak (pt_chain ho ho' ha hb hc hm) fun σ H Q h => tB_fin (pl_chain f g ca cb cc) (fun σ H Q h => chain_fin pa pb pc h) h
/-! ### -x -/
def negP : PyData → Option B
  | .int i => some (.d (.int (-i)))
  | _ => none
theorem u_neg : UnR X (unaryOp .USub) (rB1 X.K negP) := fun pins s σ H x v Q I rx ⟨a, r, ha, e, q⟩ => by
  cases ha with
  | int i =>
    cases e
    exact un_neg pins s σ H _ v Q I rx ⟨i, rfl, q _ _ (nb_int _)⟩
  | _ => cases e
/-! ### t.join(xs) -/
def strsOf : List PyData → Option (List Str)
  | [] => some []
  | .str x :: r => (strsOf r).map (x :: ·)
  | _ => none
theorem FzAll.strsOf {K : PySem.W.Frag} {H : Hp} : ∀ {vs : List V} {ds : List PyData}, FzAll K H vs ds → ∀ {ns : List Str}, Sv.strsOf ds = some ns → vs = ns.map V.str
  | _, _, .nil, ns, h => by cases h; rfl
  | _, _, .cons (.str i) t, ns, h => by
    simp only [Sv.strsOf] at h
    cases e : Sv.strsOf _ with
    | none => rw [e] at h; cases h
    | some r => rw [e] at h; cases h; rw [FzAll.strsOf t e]; rfl
  | _, _, .cons (.int i) t, ns, h => by cases h
  | _, _, .cons .non t, ns, h => by cases h
  | _, _, .cons (.bl _) t, ns, h => by cases h
  | _, _, .cons (.lst _ _) t, ns, h => by cases h
  | _, _, .cons (.tup _ _) t, ns, h => by cases h
  | _, _, .cons (.dct _ _ _ _) t, ns, h => by cases h
def joinL (a : Str) (ys : List Str) : Option B := if (ys.map (·.length)).sum + ys.length * a.length ≤ 16777216 then some (.d (.str (Txt.join a ys))) else none
def joinP (z : Str) : PyData → Option B
  | .list xs => (strsOf xs).bind (joinL z)
  | .tuple xs => (strsOf xs).bind (joinL z)
  | _ => none
theorem e_join {e : Expr} {z : Str} {ce : Cd} {j : Nat} {opos apos pos : Pos} (he : JE X W e ce) (pe : Pl ce) (hs : starEach [e] X.env = [(false, eval e X.env)] := by rfl) (hbase : attributeBase (.Constant (.str z) j opos) "join" X.env (eval (.Constant (.str z) j opos) X.env) = eval (.Constant (.str z) j opos) X.env := by rfl) (hline : (apos.endLine == pos.line) = true := by rfl) :
    JE X W (.Call (.Attribute (.Constant (.str z) j opos) "join" apos) [e] [] pos) (cUn (joinP z) ce) :=
  pe_weak (pe_join pe_str he hs hbase hline) fun σ H Q h => by
    obtain ⟨ρ, er, f0⟩ := h
    refine ⟨⟨z, rfl⟩, ρ, er, Fin.part f0 fun hd ρ1 c1 f1 v H1 p dn => ?_⟩
    cases e2 : hd.rd ρ1 with
    | none => rw [e2] at f1; exact f1.elim
    | some y =>
      rw [e2] at f1
      simp only at f1
      have hy := dn.vw (pe _ _ _ c1) p.env (Pst.refl p.env) e2
      cases e3 : joinP z y with
      | none => rw [e3] at f1; exact f1.elim
      | some r =>
        rw [e3] at f1
        unfold joinP at e3
        split at e3
        · rename_i xs
          cases e4 : strsOf xs with
          | none => rw [e4] at e3; cases e3
          | some ys =>
            rw [e4] at e3
            simp only [Option.bind_some, joinL] at e3
            split at e3
            · rename_i hl
              cases e3
              cases hy with
              | lst h1 t1 =>
                refine ⟨z, _, ys, rfl, rfl, .inl ?_, hl, (nb_str _).fin p f1⟩
                rw [← FzAll.strsOf t1 e4]
                exact h1.sq
            · cases e3
        · rename_i xs
          cases e4 : strsOf xs with
          | none => rw [e4] at e3; cases e3
          | some ys =>
            rw [e4] at e3
            simp only [Option.bind_some, joinL] at e3
            split at e3
            · rename_i hl
              cases e3
              cases hy with
              | tup h1 t1 =>
                refine ⟨z, _, ys, rfl, rfl, .inr ?_, hl, (nb_str _).fin p f1⟩
                rw [← FzAll.strsOf t1 e4]
                exact h1
            · cases e3
        · cases e3
/-! ### a, b = a list -/
theorem g_lst {es : List Expr} {ts : List Gd} {k : Nat} {pos : Pos} (hc : X.calm = true) (h : JGs X io es ts) (ht : ∀ t ∈ ts, Tame t) (hn : (assignEach es X.env).length = ts.length := by rfl) (hst : (assignEach es X.env).findIdx? (·.1) = none := by rfl) : JG X io (.Tuple es k pos) (gL ts) := by
  refine ⟨pg_weak (pg_unl hc h.pgs hn hst) fun v σ H Q ⟨ρ, x, er, fz, f⟩ => ?_, fun x ρ => ?_⟩
  · cases fz with
    | @lst a vs xs hq hx =>
      refine ⟨a, vs, rfl, hq.sq, ?_, ρ, xs, er, hx, f⟩
      have f' : FinG X.K io σ H ρ Q (gRun ts xs ρ) := f
      rcases h.tame xs ρ with ⟨ρ1, e⟩ | e
      · rw [hx.length, gRun_len e ht]
      · rw [e] at f'; exact f'.elim
    | _ => exact f.elim
  · cases x with
    | list xs => exact h.tame xs ρ
    | _ => exact .inr rfl
/-! ### asking an error in its suite -/
/-- isinstance(e, T) in the suite of e -/
structure IsE (K : PySem.W.Frag) (mg : Str → Option Value) (T : Str) (D : Addr) (m : Ex → Option Bool) : Prop where
  gl : mg T = some (.ref D)
  ok : ∀ (y : Ex) (cls : Value) (k : Bool), mg y.c = some cls → m y = some k → y.fs = [] ∧ ∃ C, cls = .ref C ∧ ExcC K C ∧ PySem.W.kitOne K (.ref C) (.ref D) = some k
/-- A if isinstance(e, T) else B -/
def hIf (m : Ex → Option Bool) (a b : Cd) : Ex → Cd := fun y e => match m y with
  | some true => a e
  | some false => b e
  | none => .no
theorem x_ifIs {i : Nat} {a D : Addr} {cls : Value} {d : Option Addr} {oe : Obj} {pn : List (Addr × Obj)} {n T : Str} {m : Ex → Option Bool} {ea eb : Expr} {ca cb : Cd} {p pn' pT pos pos' : Pos} (hm : X.mg "isinstance" = none) (hg : Gl X "isinstance") (hN : X.N[i]? = some n) (hv : Vis X.env.scope n)
    (hgT : Gl X T) (hx : IsE X.K X.mg T D m) (hz : Zc cls d oe) (hf : ∃ vs, oe.data = .fields vs) (ha : JE (X.suite a ((a, oe) :: pn)) WF ea ca) (hb : JE (X.suite a ((a, oe) :: pn)) WF eb cb)
    (hd : (n == ("__debug__" : Str)) = false := by decide) (hcd : (n == ("__classdict__" : Str)) = false := by decide) (hdT : (T == ("__debug__" : Str)) = false := by decide)
    (h1 : starEach [.Name n pn', .Name T pT] X.env = (false, eval (.Name n pn') X.env) :: starEach [.Name T pT] X.env := by rfl) (h2 : starEach [.Name T pT] X.env = (false, eval (.Name T pT) X.env) :: starEach [] X.env := by rfl)
    (hpl : (backTo pos (starEach [.Name T pT] X.env)).any (·.1) = false := by rfl) :
    PE (X.suite a ((a, oe) :: pn)) (.IfExp (.Call (.Name "isinstance" p) [.Name n pn', .Name T pT] [] pos) ea eb pos') (tX X.K X.mg i a cls d (hIf m ca cb)) := by
  refine ⟨fun pins s σ H Q I ⟨y, ρ, ex, er, hs, f⟩ => ?_⟩
  cases em : m y with
  | none => simp only [hIf, em] at f; exact f.elim
  | some k =>
    obtain ⟨hfs, C, rfl, xc, hk⟩ := hx.ok y cls k ex.1 em
    have hd0 : d = none := by
      rcases ex.2 with ⟨_, h⟩ | ⟨_, _, h, _⟩
      · exact h
      · exact absurd hfs h
    subst hd0
    have hN' : (X.suite a ((a, oe) :: pn)).N[i]? = some n := hN
    refine (pe_ifExp (pt_val (pe_callB (call_isE xc hz hf) hg hm boot_isinstance (pa_cons (pe_var hN' hv hd hcd) (pa_cons (pe_glob (v := .ref D) hgT hx.gl rfl hdT) pa_nil h2) h1) (by decide) (by decide) h1 hpl)) ha hb).run pins s σ H Q I ?_
    refine ⟨.ref a, hs, .ref D, .ref D, k, rfl, fun u r => r, hk, k, rfl, ?_⟩
    cases k with
    | true => simp only [hIf, em] at f; exact ⟨ρ, er, f⟩
    | false => simp only [hIf, em] at f; exact ⟨ρ, er, f⟩
end
end Sv
end
section
set_option autoImplicit false
set_option linter.all false
set_option maxRecDepth 100000
/-! Sv: sorted, range with a step, defs that take any number of arguments, nothing said. -/
namespace Sv
open PySem PySem.Spec L2
open PyProof.Rows hiding St
variable [HasT]

/-! ### nothing said -/
def sNo : Sd := fun _ => .no
def cNo : Cd := fun _ => .no
def tNo : Td := fun _ => .no
section
variable {X : Cx} {W : WX} {io : List Nat}
theorem s_no {st : Stmt} : JS X W io st sNo := ⟨fun pins s σ H D I ⟨ρ, er, f⟩ => f.elim⟩
theorem b_no {st : List Stmt} : JB X W io st sNo := ⟨fun pins s σ H D I ⟨ρ, er, f⟩ => f.elim⟩
theorem e_no {e : Expr} : JE X W e cNo := ⟨fun pins s σ H Q I ⟨ρ, er, f⟩ => f.elim⟩
theorem t_no {e : Expr} : JT X W e tNo := ⟨fun pins s σ H Q I ⟨ρ, er, f⟩ => f.elim⟩
end
/-! ### sorted -/
def tupNE : PyData → Bool
  | .tuple (_ :: _) => true
  | _ => false
def noTup : PyData → Bool
  | .none => false
  | .tuple _ => false
  | _ => true
def sortOk (ds : List PyData) : Bool := (ds.all fun d => ds.all fun d' => PySem.W.alike d d') && (ds.all tupNE || ds.all noTup) && ds.all fun d => d.plain && decide (d.depth ≤ 180)
def sortD (ds : List PyData) : List PyData := ds.mergeSort (PySem.W.dataLe false id)
def sortedP : PyData → Option B
  | .list ds => if sortOk ds = true then some (.l (sortD ds)) else none
  | _ => none
theorem each_of {K : PySem.W.Frag} {H : Hp} : ∀ {vs : List V} {ds : List PyData} {us : List Value}, FzAll K H vs ds → Vals vs us → PySem.W.EachIs (fun u d => ∃ v, RelV v u ∧ Fz K H v d) us ds
  | _, _, _, .nil, .nil => .nil
  | _, _, _, .cons h t, .cons r rs => .cons ⟨_, r, h⟩ (each_of t rs)
theorem of_each {K : PySem.W.Frag} {H : Hp} : ∀ {ds : List PyData} {us : List Value}, PySem.W.EachIs (fun u d => ∃ v, RelV v u ∧ Fz K H v d) us ds → ∃ vs, Vals vs us ∧ FzAll K H vs ds
  | _, _, .nil => ⟨[], .nil, .nil⟩
  | _, _, .cons ⟨v, r, h⟩ t => by
    obtain ⟨vs, r2, h2⟩ := of_each t
    exact ⟨v :: vs, .cons r r2, .cons h h2⟩
section
variable {X : Cx} {W : WX}
theorem f_sorted (hu : X.A.units + 190 < cLine) : CallR X (.builtin "sorted") (rBn X.K (one sortedP)) := fun pins s σ H vs us Q I rv ⟨xs, b, hv, e, q⟩ => by
  match xs, e, hv with
  | [x], e, hv =>
    obtain ⟨v, rfl, hx⟩ := hv.one
    simp only [one] at e
    cases hx with
    | @lst p ys ds h1 t1 =>
      simp only [sortedP] at e
      split at e
      · rename_i ok
        cases e
        simp only [sortOk, Bool.and_eq_true] at ok
        obtain ⟨⟨o1, o2⟩, o3⟩ := ok
        obtain ⟨its, rl, hl, hz⟩ := I.list h1.sq
        rw [Vals.ref1 rv]
        have pl : PyData.plainAll ds = true := by
          have : ∀ l : List PyData, (∀ d ∈ l, d.plain = true) → PyData.plainAll l = true := fun l => by
            induction l with
            | nil => intro _; rfl
            | cons a t ih => intro h; simp only [PyData.plainAll, Bool.and_eq_true]; exact ⟨h a List.mem_cons_self, ih fun d hd => h d (List.mem_cons_of_mem _ hd)⟩
          exact this ds fun d hd => ((Bool.and_eq_true _ _).mp (List.all_eq_true.mp o3 d hd)).1
        obtain ⟨as, rd⟩ := FzAll.reads I t1 pl rl
        refine PySem.W.sorted_data (enc := id) (R := fun u d => ∃ v, RelV v u ∧ Fz X.K H v d) hl.isList (each_of t1 rl) (PySem.W.readsAll_each id (by rw [List.map_id]; exact rd)) ?_ ?_ ?_ ?_ ?_
        · rw [List.map_id]
          intro d hd d' hd'
          exact List.all_eq_true.mp (List.all_eq_true.mp o1 d hd) d' hd'
        · rw [List.map_id]
          rcases (Bool.or_eq_true _ _).mp o2 with o2 | o2
          · refine .inl fun d hd => ?_
            have := List.all_eq_true.mp o2 d hd
            unfold tupNE at this
            split at this
            · exact ⟨_, _, rfl⟩
            · cases this
          · refine .inr fun d hd => ?_
            have := List.all_eq_true.mp o2 d hd
            unfold noTup at this
            split at this
            · cases this
            · cases this
            · rename_i n1 n2
              exact ⟨n1, n2⟩
        · have := t1.length
          omega
        · intro d hd
          have := of_decide_eq_true ((Bool.and_eq_true _ _).mp (List.all_eq_true.mp o3 d hd)).2
          show X.A.units + 2 + d.depth < cLine
          omega
        · intro out hlen he
          obtain ⟨zs, r2, h2⟩ := of_each he
          obtain ⟨ep, he'⟩ := PyProof.Rows.sortedAll_at s.heap its out.toArray
          have hlz : zs.length ≤ sizeLine := by
            have := t1.length
            have := r2.length
            omega
          exact ⟨.ref _, upd H (s.heap.objs.size + 1) (.lst zs), I.laid (t' := s.toks) (fun _ _ => PyProof.Rows.sortedAll_old) (Nat.le_succ _) ⟨hlz, out, ep, r2, he'⟩, rfl, q _ _ (new_lst (I.hok.fresh (Nat.le_succ _)) h2)⟩
      · cases e
    | _ => cases e
  | [], e, _ => cases e
  | _ :: _ :: _, e, _ => cases e
end
/-! ### range(i, j, -1) -/
def rngDn (hi : Int) (n : Nat) : List PyData := (List.range n).map fun i => .int (hi - (i : Nat))
def wRangeDn (c d : Cd) : Wd := fun e => (c e).bind fun h e1 => (d e1).bind fun g e2 =>
  match h.rd e2, g.rd e2 with
  | some (.int i), some (.int j) => if -(2 ^ 62) ≤ i ∧ i < 2 ^ 62 ∧ -(2 ^ 62) ≤ j ∧ j < 2 ^ 62 then .ok (rngDn i (i - j).toNat) e2 else .no
  | _, _ => .no
section
variable {X : Cx} {W : WX}
theorem walk_dn {K : PySem.W.Frag} {H : Hp} (hi : Int) (n : Nat) : WalkJ K H (Itc hi (-1) n) (rngDn hi n) := fun i H1 k => by
  have hl : (rngDn hi n).length = n := by unfold rngDn; rw [List.length_map, List.length_range]
  refine ⟨fun hi => (by rw [hl] at hi; exact Nat.le_of_eq hi.symm), fun hi => (by rw [hl] at hi; exact hi), fun x H' hy d hd => ?_⟩
  obtain ⟨rfl, rfl⟩ := hy
  have hi' : i < n := by
    have := (List.getElem?_eq_some_iff.mp hd).1
    omega
  have e : d = .int (hi + (i : Nat) * -1) := by
    unfold rngDn at hd
    rw [List.getElem?_map, List.getElem?_range hi'] at hd
    rw [← Option.some.inj hd]
    rw [show hi + ((i : Nat) : Int) * -1 = hi - (i : Nat) by omega]
  subst e
  exact ⟨.int _, fun b o h => h⟩
theorem i_rangeDn {tg a b : Expr} {c d : Cd} {k : Nat} {p1 p2 p pos : Pos} (hg : Gl X "range") (hm : X.mg "range" = none) (ha : JE X W a c) (pa : Pl c) (hb : JE X W b d) (pb : Pl d)
    (hs : starEach [a, b, .UnaryOp .USub (.Constant (.int 1) k p1) p2] X.env = (false, eval a X.env) :: starEach [b, .UnaryOp .USub (.Constant (.int 1) k p1) p2] X.env := by rfl)
    (hs2 : starEach [b, .UnaryOp .USub (.Constant (.int 1) k p1) p2] X.env = (false, eval b X.env) :: starEach [.UnaryOp .USub (.Constant (.int 1) k p1) p2] X.env := by rfl)
    (hpl : (backTo pos (starEach [b, .UnaryOp .USub (.Constant (.int 1) k p1) p2] X.env)).any (·.1) = false := by rfl) :
    JI X W tg (.Call (.Name "range" p) [a, b, .UnaryOp .USub (.Constant (.int 1) k p1) p2] [] pos) (wRangeDn c d) :=
  pi_weak (pi_range3 hg hm (pa_cons ha (pa_cons hb (pa_cons (pe_un un_neg pe_int) pa_nil) hs2) hs) hs hpl) fun σ H R ⟨ρ, er, f⟩ => by
    refine ⟨ρ, er, Fin.part f fun hd ρ1 c1 f1 v H1 p dn => ?_⟩
    refine ⟨ρ1, p.env, ?_⟩
    have f1' := Fin.later (Rel' := fun H1 _ (J : It) xs => WalkJ X.K H1 J xs) p (fun _ _ _ _ _ _ d => d) f1
    refine Fin.part f1' fun hd2 ρ2 c2 f2 v2 H2 p2 dn2 => ?_
    cases e1 : hd.rd ρ2 with
    | none => rw [e1] at f2; exact f2.elim
    | some x =>
      cases e2 : hd2.rd ρ2 with
      | none => rw [e1, e2] at f2; split at f2 <;> first | exact f2.elim | contradiction
      | some y =>
        rw [e1, e2] at f2
        have hx := dn.vw (pa _ _ _ c1) p.env p2 e1
        have hy := dn2.vw (pb _ _ _ c2) p2.env (Pst.refl p2.env) e2
        cases x with
        | int i =>
          cases y with
          | int j =>
            cases Vw.int' hx
            cases Vw.int' hy
            simp only at f2
            split at f2
            · rename_i hj
              exact ⟨1, rfl, i, j, -1, (i - j).toNat, rfl, RgC.neg hj.1 hj.2.1 hj.2.2.1 hj.2.2.2, f2 _ H2 p2 (walk_dn i (i - j).toNat)⟩
            · exact f2.elim
          | _ => exact f2.elim
        | _ => exact f2.elim
end
end Sv
end
section
set_option autoImplicit false
set_option linter.all false
set_option maxRecDepth 100000
/-! Sv: rules as the printed walks use them. -/
namespace Sv
open PySem PySem.Spec L2
open PyProof.Rows hiding St
variable [HasT]

section
variable {P : Program} {w : World} {K : PySem.W.Frag} {mg : Str → Option Value} {base : Heap} {k : Nat} {x : Str} {ps N : List Str} {F : Fn} {st : Stmt} {io : List Nat} {c : Sd} {dvs : List V}
/-- a def of the top, and what it does -/
def Fun1 (P : Program) (w : World) (K : PySem.W.Frag) (mg : Str → Option Value) (base : Heap) (k : Nat) (x : Str) (ps : List Str) (F : Fn) : Prop :=
  ∃ f fd, FnG P w K mg base k f fd ps F ∧ Binds K fd ps [] ∧ PySem.W.keepIn K (.ref f) = true ∧ mg x = some (.ref f)
/-- a def of the top, as it stands there -/
def DefF (K : PySem.W.Frag) (mg : Str → Option Value) (x : Str) (st : Stmt) (dvs : List V) : Prop :=
  ∃ fd, FunD K x x (defArgs st) (defBody st) (defScope st) dvs [] (He.ga K x) fd ∧ mg x = some (.ref (He.ga K x))
theorem no_fn {f : Addr} {fd : FuncData} : FnG P w K mg base k f fd ps (fun _ => .no) := ⟨fun _ _ _ _ _ _ _ _ _ _ _ _ _ _ _ _ z => z.elim⟩
abbrev BindN (x : Str) (st : Stmt) (ps : List Str) : Prop := ∀ (kV doc pm : Value) (an : Option Addr) (cdv ct : Value) (us : List Value), us.length = ps.length → bindArgs (PySem.W.fnOf x x (defArgs st) (defBody st) (defScope st) .none kV doc pm an cdv ct) ⟨us, []⟩ = pure (ps.zip us)
/-- every parameter is written, though there are defaults -/
abbrev BindD (x : Str) (st : Stmt) (ps : List Str) (n : Nat) : Prop := ∀ (T : Addr) (kV doc pm : Value) (an : Option Addr) (cdv ct : Value) (us its : List Value), us.length = ps.length → its.length = n →
  ∃ k, bindArgs (PySem.W.fnOf x x (defArgs st) (defBody st) (defScope st) (.ref T) kV doc pm an cdv ct) ⟨us, []⟩ = seqItems? (.ref T) >>= k ∧ k (some its.toArray) = pure (ps.zip (us ++ its.drop n))
abbrev BodyJ (P : Program) (w : World) (K : PySem.W.Frag) (mg : Str → Option Value) (base : Heap) (k : Nat) (x : Str) (N : List Str) (st : Stmt) (io : List Nat) (c : Sd) : Prop :=
  ∀ (cdv : Value), CdOf K (He.ga K x) cdv → ∀ (A : Around) (outer : List PySem.Env) (s : Shared) (H : Hp) (E : XK), RoomG k (A.deeper (envOfC x (defScope st) s.heap.objs.size (He.ga K x) cdv)) →
      JB (cxOf (CX P w) P w K mg base N x (defScope st) (He.ga K x) cdv A outer s H E) (fun cls d _ H => E cls d H) io (defBody st) c
theorem def_sv (D : DefF K mg x st []) (S : FnScope N ps (defScope st)) (hb : BindN x st ps) (hB : BodyJ P w K mg base k x N st io c) : Fun1 P w K mg base (k + 1) x ps (fnD N.length io c) := by
  obtain ⟨fd, F, hm⟩ := D
  exact ⟨_, fd, fn_sv F S hB, F.bindsN hb, F.kp, hm⟩
theorem def_svD {n : Nat} (D : DefF K mg x st dvs) (S : FnScope N ps (defScope st)) (hn : dvs.length = n) (hn0 : n ≠ 0) (hb : BindD x st ps n) (hB : BodyJ P w K mg base k x N st io c) : Fun1 P w K mg base (k + 1) x ps (fnD N.length io c) := by
  obtain ⟨fd, F, hm⟩ := D
  subst hn
  obtain ⟨ds, hv, hb'⟩ := F.binds1 (ps := ps) ps.length dvs.length (fun z => hn0 (by rw [z]; rfl)) (by omega) fun T kV doc pm an cdv ct us its h1 h2 => hb T kV doc pm an cdv ct us its h1 h2
  rw [List.drop_length] at hv
  cases hv
  exact ⟨_, fd, fn_sv F S hB, hb', F.kp, hm⟩
theorem fun_no (D : DefF K mg x st []) (hb : BindN x st ps) : Fun1 P w K mg base k x ps (fun _ => .no) := by
  obtain ⟨fd, F, hm⟩ := D
  exact ⟨_, fd, no_fn, F.bindsN hb, F.kp, hm⟩
theorem RoomG.u {A : Around} (r : RoomG k A) : A.units + 190 < cLine := by
  have := r.room.un
  omega
end
section
variable {X : Cx} {W : WX} {io : List Nat} {k : Nat} {x : Str} {ps : List Str} {F : Fn} {e : Expr} {es : List Expr} {a : Ad} {p pos : Pos}
theorem e_f {j : Nat} (G : Fun1 X.prog X.w X.K X.mg X.base j x ps F) (hr : RoomG j X.A) (hg : Gl X x) (tk : Takes X W) (ha : JA X W (e :: es) a) (al : AL ps.length a)
    (hdb : (x == ("__debug__" : Str)) = false := by decide) (he : starEach (e :: es) X.env = (false, eval e X.env) :: starEach es X.env := by rfl) (hpl : (backTo pos (starEach es X.env)).any (·.1) = false := by rfl) : JE X W (.Call (.Name x p) (e :: es) [] pos) (cFn F a) := by
  obtain ⟨f, fd, G, hb, hk, hm⟩ := G
  exact e_call G hr hg hm hk hb tk ha al hdb he hpl
theorem e_f0 {j : Nat} (G : Fun1 X.prog X.w X.K X.mg X.base j x [] F) (hr : RoomG j X.A) (hg : Gl X x) (tk : Takes X W) (hdb : (x == ("__debug__" : Str)) = false := by decide) : JE X W (.Call (.Name x p) [] [] pos) (cFn F aNil) := by
  obtain ⟨f, fd, G, hb, hk, hm⟩ := G
  exact e_call0 G hr hg hm hk hb tk hdb
theorem e_gi {i : Int} (hm : ∃ t, X.mg x = some (.int i t)) (hg : Gl X x) (hd : (x == ("__debug__" : Str)) = false := by decide) : JE X W (.Name x pos) (cK (.int i)) := by
  obtain ⟨t, hm⟩ := hm
  exact e_glob (v := .int i) hg hm ⟨t, rfl⟩ (fun _ => .int i) hd
theorem e_gs {i : Str} (hm : ∃ t, X.mg x = some (.str i t)) (hg : Gl X x) (hd : (x == ("__debug__" : Str)) = false := by decide) : JE X W (.Name x pos) (cK (.str i)) := by
  obtain ⟨t, hm⟩ := hm
  exact e_glob (v := .str i) hg hm ⟨t, rfl⟩ (fun _ => .str i) hd
/-- an own class over ValueError, without __init__ -/
structure ExF (K : PySem.W.Frag) (mg : Str → Option Value) (x : Str) : Prop where
  g : mg x = some (.ref (He.ga K x))
  e : PySem.W.excIn K (He.ga K x) He.veBase "ValueError.__new__" = true
  k : PySem.W.keepIn K (.ref (He.ga K x)) = true
  b : PySem.W.subIn K (.ref (He.ga K x)) (.type "BaseException") = some true
  t : PySem.W.typeIn K (.ref (He.ga K x)) = some (.type "type")
theorem s_raiseO {m : Str} {j : Nat} {p2 rpos : Pos} (T : ExF X.K X.mg x) (hc : X.calm = true) (tk : Takes X W) (hg : Gl X x) (hdb : (x == ("__debug__" : Str)) = false := by decide) : JS X W io (.Raise (some (.Call (.Name x p) [.Constant (.str m) j p2] [] pos)) none rpos) (sRaise ⟨x, []⟩) :=
  s_raise hc tk T.g (pmk_own PySem.F.excBase_ValueError T.e T.g T.k (raises_own T.b T.t) hg hdb)
theorem tame_gN (i : Nat) : Tame (gN i) := fun x ρ => .inl ⟨_, rfl⟩
theorem tm_nil : ∀ t ∈ ([] : List Gd), Tame t := fun t h => by cases h
theorem tm_cons {g : Gd} {gs : List Gd} (h1 : Tame g) (h2 : ∀ t ∈ gs, Tame t) : ∀ t ∈ g :: gs, Tame t := fun t h => by
  rcases List.mem_cons.mp h with e | h
  · rw [e]; exact h1
  · exact h2 t h
theorem tame_run : ∀ {gs : List Gd}, (∀ t ∈ gs, Tame t) → ∀ (xs : List PyData) (ρ : Env), (∃ ρ1, gRun gs xs ρ = .nx ρ1) ∨ gRun gs xs ρ = .no
  | [], _, [], ρ => .inl ⟨ρ, rfl⟩
  | [], _, _ :: _, ρ => .inr rfl
  | _ :: _, _, [], ρ => .inr rfl
  | g :: gs, h, x :: xs, ρ => by
    rw [gRun_cons]
    rcases h g List.mem_cons_self x ρ with ⟨ρ1, e⟩ | e
    · rw [e, seq_nx]; exact tame_run (fun t ht => h t (List.mem_cons_of_mem _ ht)) xs ρ1
    · rw [e]; exact .inr rfl
theorem tame_gT {gs : List Gd} (h : ∀ t ∈ gs, Tame t) : Tame (gT gs) := fun x ρ => by
  cases x with
  | tuple xs => exact tame_run h xs ρ
  | _ => exact .inr rfl
theorem hio_by {N : List Str} {own : List (Str × Nat)} {io : List Nat} (h : ((List.range N.length).all fun j => (own.map (·.2)).contains j || io.contains j) = true) : ∀ j, j < N.length → j ∉ own.map (·.2) → j ∈ io := fun j hj hn => by
  have q := List.all_eq_true.mp h j (List.mem_range.mpr hj)
  rcases Bool.or_eq_true _ _ ▸ q with q | q
  · exact absurd (List.contains_iff_mem.mp q) hn
  · exact List.contains_iff_mem.mp q
theorem vis_f {X : Cx} {x : Str} (h : X.env.kindOf x = some .free) : Vis X.env.scope x := .inr (.inr h)
theorem exF_of {K : PySem.W.Frag} {h : Heap} {mg : Str → Option Value} {x : Str} (X : K.In h) (G : h.Ns mainGlobals mg) (c : (He.Fa.glo x).ok K = true) (e : (He.Fa.exc x).ok K = true) : ExF K mg x := by
  obtain ⟨e1, e2, e3, e4⟩ := He.exc_ok e
  exact ⟨He.glo_ok X G c, e1, e2, e3, e4⟩
theorem defF_of {K : PySem.W.Frag} {h : Heap} {mg : Str → Option Value} {x : Str} {st : Stmt} {dvs : List V} (X : K.In h) (G : h.Ns mainGlobals mg) (c : (He.Fa.glo x).ok K = true) (d : ∃ fd, FunD K x x (defArgs st) (defBody st) (defScope st) dvs [] (He.ga K x) fd) : DefF K mg x st dvs := by
  obtain ⟨fd, F⟩ := d
  exact ⟨fd, F, He.glo_ok X G c⟩
theorem hp_eq : ∀ x y r, eqP x y = some r → ∃ z, r = .d z := fun x y r h => by
  unfold eqP at h
  cases e : eqB x y with
  | none => rw [e] at h; cases h
  | some k => rw [e] at h; cases h; exact ⟨_, rfl⟩
theorem hp_ne : ∀ x y r, neP x y = some r → ∃ z, r = .d z := fun x y r h => by
  unfold neP at h
  cases e : eqB x y with
  | none => rw [e] at h; cases h
  | some k => rw [e] at h; cases h; exact ⟨_, rfl⟩
theorem hp_to (f : PyData → PyData → Option Bool) : ∀ x y r, toP f x y = some r → ∃ z, r = .d z := fun x y r h => by
  obtain ⟨k, _, e⟩ := toP_ok h
  exact ⟨_, e⟩
theorem boot_len' : bootBuiltins "len" = some (.builtin "len") := by decide +kernel
theorem boot_abs' : bootBuiltins "abs" = some (.builtin "abs") := by decide +kernel
theorem boot_max' : bootBuiltins "max" = some (.builtin "max") := by decide +kernel
theorem boot_min' : bootBuiltins "min" = some (.builtin "min") := by decide +kernel
theorem boot_sum' : bootBuiltins "sum" = some (.builtin "sum") := by decide +kernel
theorem boot_all' : bootBuiltins "all" = some (.builtin "all") := by decide +kernel
theorem boot_any' : bootBuiltins "any" = some (.builtin "any") := by decide +kernel
theorem boot_repr' : bootBuiltins "repr" = some (.builtin "repr") := by decide +kernel
theorem boot_sorted' : bootBuiltins "sorted" = some (.builtin "sorted") := by decide +kernel
theorem boot_int' : bootBuiltins "int" = some (.type "int") := by decide +kernel
theorem boot_str' : bootBuiltins "str" = some (.type "str") := by decide +kernel
theorem boot_tuple' : bootBuiltins "tuple" = some (.type "tuple") := by decide +kernel
theorem boot_list' : bootBuiltins "list" = some (.type "list") := by decide +kernel
theorem boot_dict' : bootBuiltins "dict" = some (.type "dict") := by decide +kernel
theorem boot_bool' : bootBuiltins "bool" = some (.type "bool") := by decide +kernel
end
end Sv
end
section
set_option autoImplicit false
set_option linter.all false
set_option maxRecDepth 100000
/-! Sv: def f(a, .., *v), called with data alone. -/
namespace Sv
open PySem PySem.Spec L2
open PyProof.Rows hiding St
open StX
variable [HasT]

/-- all of them data -/
def dataB : List B → Option (List PyData)
  | [] => some []
  | .d x :: r => (dataB r).map (x :: ·)
  | .l _ :: _ => none
/-- m arguments, the others as a tuple -/
def starF (m : Nat) (F : Fn) : Fn := fun bs =>
  match dataB bs with
  | none => .no
  | some xs => if m ≤ xs.length ∧ xs.length ≤ sizeLine then
      match F ((xs.take m).map B.d ++ [.d (.tuple (xs.drop m))]) with
      | .ok b _ => .ok b (bs.map some)
      | .ex x _ => .ex x (bs.map some)
      | .no => .no
    else .no
theorem dataB_eq : ∀ {bs : List B} {xs : List PyData}, dataB bs = some xs → bs = xs.map B.d
  | [], xs, h => by cases h; rfl
  | .d x :: r, xs, h => by
    simp only [dataB] at h
    cases e : dataB r with
    | none => rw [e] at h; cases h
    | some ys => rw [e] at h; cases h; rw [dataB_eq e]; rfl
  | .l _ :: _, xs, h => by cases h
section
variable {P : Program} {w : World} {K : PySem.W.Frag} {mg : Str → Option Value} {base : Heap} {k : Nat} {x : Str} {ps N : List Str} {F : Fn} {st : Stmt} {io : List Nat} {c : Sd} {H H1 : Hp}
/-- a def that takes any number of arguments -/
structure FnS (P : Program) (w : World) (K : PySem.W.Frag) (mg : Str → Option Value) (base : Heap) (k : Nat) (f : Addr) (F : Fn) : Prop where
  run : ∀ (A : Around) (outer : List PySem.Env) (s : Shared) (H : Hp) (us : List Value) (vs : List V) (bs : List B) (Q : VK) (E : XK), RoomG k A → Env0 P w K mg base A outer s H → Vals vs us →
    EnvRel K H (vs.map some) (bs.map some) → FinF K mg H vs bs Q E (F bs) → codeAny (model P w) A (.call (.ref f) ⟨us, []⟩) (CR (CX P w) outer P w H s Q E) s
theorem fz_of_env : ∀ {vs : List V} {xs : List PyData}, EnvRel K H (vs.map some) ((xs.map B.d).map some) → FzAll K H vs xs := fun {vs xs} er => by
  have hl : vs.length = xs.length := by
    have := er.len
    simp at this
    omega
  have key : ∀ (i : Nat) (x : PyData), xs[i]? = some x → ∃ v, vs[i]? = some v ∧ Fz K H v x := fun i x h => by
    obtain ⟨v, e, d⟩ := er.den i (.d x) (by rw [List.getElem?_map, List.getElem?_map, h]; rfl)
    rw [List.getElem?_map] at e
    cases q : vs[i]? with
    | none => rw [q] at e; cases e
    | some u => rw [q] at e; cases e; exact ⟨_, rfl, d⟩
  clear er
  induction xs generalizing vs with
  | nil =>
    cases vs with
    | nil => exact .nil
    | cons a t => cases hl
  | cons x r ih =>
    cases vs with
    | nil => cases hl
    | cons a t =>
      obtain ⟨v, e, d⟩ := key 0 x rfl
      cases e
      exact .cons d (ih (by simpa using hl) fun i y h => key (i + 1) y h)
theorem env_of_fz {vs : List V} {xs : List PyData} (tb : TabsK K H) (h : FzAll K H vs xs) : EnvRel K H (vs.map some) ((xs.map B.d).map some) := by
  refine ⟨tb, by simp [h.length], fun i b q => ?_, fun i j ys zs a q1 _ _ _ => ?_⟩
  · rw [List.getElem?_map, List.getElem?_map] at q
    cases e : xs[i]? with
    | none => rw [e] at q; cases q
    | some x =>
      rw [e] at q
      cases q
      obtain ⟨v, e1, d⟩ := h.get e
      exact ⟨v, by rw [List.getElem?_map, e1]; rfl, d⟩
  · rw [List.getElem?_map, List.getElem?_map] at q1
    cases e : xs[i]? with
    | none => rw [e] at q1; cases q1
    | some x => rw [e] at q1; cases q1
theorem noOwn {vs : List V} {xs : List PyData} {a : Addr} (h : Own (vs.map some) ((xs.map B.d).map some) a) : False := by
  obtain ⟨i, ys, q, _⟩ := h
  rw [List.getElem?_map, List.getElem?_map] at q
  cases e : xs[i]? with
  | none => rw [e] at q; cases q
  | some x => rw [e] at q; cases q
theorem fn_svS {f : Addr} {fd : FuncData} {pv : Str} {m : Nat} (D : FunD K x x (defArgs st) (defBody st) (defScope st) [] [] f fd) (S : FnScope N (ps ++ [pv]) (defScope st)) (hm : ps.length = m)
    (hb : ∀ (kV doc pm : Value) (an : Option Addr) (cdv ct : Value) (us rest : List Value), us.length = ps.length → bindArgs (PySem.W.fnOf x x (defArgs st) (defBody st) (defScope st) .none kV doc pm an cdv ct) ⟨us ++ rest, []⟩ = (newTuple rest >>= fun t => pure (ps.zip us ++ [(pv, t)])))
    (hB : ∀ (cdv : Value), CdOf K f cdv → ∀ (A : Around) (outer : List PySem.Env) (s : Shared) (H : Hp) (E : XK), RoomG k (A.deeper (envOfC x (defScope st) s.heap.objs.size f cdv)) →
      JB (cxOf (CX P w) P w K mg base N x (defScope st) f cdv A outer s H E) (fun cls d _ H => E cls d H) io (defBody st) c) : FnS P w K mg base (k + 1) f (starF m (fnD N.length io c)) := by
  subst hm
  obtain ⟨oc, od, dV, kV, doc, pm, an, cdv, ct, osl, rfl, lk, hcd, hD, _⟩ := D.ex
  obtain rfl : dV = .none := by
    rcases hD with ⟨_, e⟩ | ⟨e, _⟩
    · exact e
    · exact absurd rfl e
  refine ⟨fun A outer s H us vs bs Q E hr e0 rv er fin => ?_⟩
  unfold starF at fin
  cases eb : dataB bs with
  | none => rw [eb] at fin; exact fin.elim
  | some xs =>
    rw [eb] at fin
    simp only at fin
    split at fin
    · rename_i hlen
      have ebs := dataB_eq eb
      subst ebs
      have fz := fz_of_env er
      have hvl := fz.length
      obtain ⟨u1, u2, eu, r1, r2⟩ := vals_split (ws := vs.take ps.length) (rest := vs.drop ps.length) (by rw [List.take_append_drop]; exact rv)
      subst eu
      have hn : H s.heap.objs.size = Option.none := e0.hok.fresh (Nat.le_refl _)
      have hl0 : (vs.take ps.length).length = ps.length := by rw [List.length_take]; omega
      have hl1 : u1.length = ps.length := by rw [← r1.length]; exact hl0
      have hz : (vs.drop ps.length).length ≤ sizeLine := by rw [List.length_drop]; omega
      have hl2 : u2.length ≤ sizeLine := by rw [← r2.length]; exact hz
      refine run_bnd lk hcd S hr.room e0 (G := fun zs H2 => ∃ p, H p = Option.none ∧ zs = vs.take ps.length ++ [V.ref p] ∧ H2 = upd H p (.tup (vs.drop ps.length))) (fun A' Ex Q' h => ?_) fun s2 H2 zs ⟨p, hp, ex, eH⟩ hr' => ?_
      · rw [hb kV doc pm an cdv ct u1 u2 hl1]
        refine wpAny_bind (wpAny_newTuple (wpAny_pure ?_) hl2)
        have new : ObjOk P w (upd H s.heap.objs.size (.tup (vs.drop ps.length))) (s.heap.push ({ cls := .type "tuple", data := .seq u2.toArray } : Obj)) s.heap.objs.size (.tup (vs.drop ps.length)) := ⟨hz, u2, r2, ⟨_, Heap.get?_push_size _ rfl, rfl, _, rfl⟩⟩
        have un := un_laid (fs := frs outer) (s := s) (o := ({ cls := .type "tuple", data := .seq u2.toArray } : Obj)) (u := .tup (vs.drop ps.length)) hn
        have z := h _ _ (vs.take ps.length ++ [V.ref s.heap.objs.size]) (u1 ++ [Value.ref s.heap.objs.size]) (env0_laid e0 new) un rfl (fun e s' => cxUp outer s H _ _ E e s' un (fun b o q => Heap.get?_push_of_some _ q) rfl) (r1.append (.cons rfl .nil))
          (by rw [List.length_append, List.length_append, hl0] <;> rfl) ⟨_, hn, rfl, rfl⟩
        rw [List.zip_append hl1.symm] at z
        exact z
      · subst ex eH
        have BJ := hB cdv ⟨_, _, _, _, lk, rfl, _, hcd⟩ A outer s2 (upd H p (.tup (vs.drop ps.length))) E ⟨hr', hr.gd⟩
        refine ⟨_, BJ, ?_⟩
        have gr : ∀ b o, H b = some o → upd H p (.tup (vs.drop ps.length)) b = some o := grow_upd hp
        have fz2 : FzAll K (upd H p (.tup (vs.drop ps.length))) vs xs := fz.keep fun b o h _ => gr b o h
        have fzT : FzAll K (upd H p (.tup (vs.drop ps.length))) (vs.take ps.length ++ [V.ref p]) (xs.take ps.length ++ [.tuple (xs.drop ps.length)]) :=
          (fz2.take ps.length).append (.cons (.tup (.inl (.inl upd_same)) (fz2.drop ps.length)) .nil)
        have eA : EnvRel K (upd H p (.tup (vs.drop ps.length))) ((vs.take ps.length ++ [V.ref p]).map some) (((xs.take ps.length ++ [PyData.tuple (xs.drop ps.length)]).map B.d).map some) := env_of_fz (er.tab.grow gr) fzT
        have ebs : (xs.take ps.length ++ [PyData.tuple (xs.drop ps.length)]).map B.d = (xs.take ps.length).map B.d ++ [B.d (.tuple (xs.drop ps.length))] := by simp
        have hlN : (vs.take ps.length ++ [V.ref p]).length ≤ N.length := by
          have e := congrArg List.length S.pre
          rw [List.length_take, List.length_append] at e
          rw [List.length_append, hl0]
          simp at e ⊢
          omega
        have er0 := eA.start (N := N) hlN
        rw [ebs] at er0
        have back : ∀ {H1 : Hp} {qs : List (Option B)}, Pst K (upd H p (.tup (vs.drop ps.length))) ((vs.take ps.length ++ [V.ref p]).map some) (((xs.take ps.length ++ [PyData.tuple (xs.drop ps.length)]).map B.d).map some) H1 ((vs.take ps.length ++ [V.ref p]).map some) qs →
            Pst K H (vs.map some) ((xs.map B.d).map some) H1 (vs.map some) ((xs.map B.d).map some) := fun {H1 qs} q => by
          have st : ∀ b o, H b = some o → fixed o = true → H1 b = some o := fun b o h f => q.keep b o (gr b o h) f fun w => noOwn w
          exact ⟨env_of_fz q.env.tab (fz.keep fun b o h s => st b o h (by cases o <;> first | rfl | cases s)), fun b o h f _ => st b o h f, fun a w => (noOwn w).elim⟩
        unfold fnD at fin
        refine ⟨_, er0, ?_⟩
        cases e : c (((xs.take ps.length).map B.d ++ [B.d (.tuple (xs.drop ps.length))]).map some ++ List.replicate (N.length - ((xs.take ps.length).map B.d ++ [B.d (.tuple (xs.drop ps.length))]).length) none) with
        | nx e1 =>
          rw [e] at fin
          refine fun σ1 H1 q y => fin .non H1 (back (Pst.out eA (ebs ▸ er0) (ebs ▸ q) y)) .non
        | rt b e1 =>
          rw [e] at fin
          refine fun v σ1 H1 q y d => fin v H1 (back (Pst.out eA (ebs ▸ er0) (ebs ▸ q) y)) ?_
          cases b with
          | d z => exact d
          | l zs =>
            obtain ⟨a, ys, ev, g1, g2, g3, g4⟩ := d
            refine ⟨a, ys, ev, g1, g2, fun w => noOwn w, .inr ?_⟩
            rcases g4 with g4 | g4
            · rw [← ebs] at g4
              exact (noOwn (own_start.mp g4)).elim
            · exact fun o eh => g4 o (gr a o eh)
        | ex z e1 =>
          rw [e] at fin
          exact fun cls dd σ1 H1 q y d => fin cls dd H1 (back (Pst.out eA (ebs ▸ er0) (ebs ▸ q) y)) d
        | bk e1 => rw [e] at fin; exact fin.elim
        | ct e1 => rw [e] at fin; exact fin.elim
        | no => rw [e] at fin; exact fin.elim
    · exact fin.elim
end
section
variable {X : Cx} {W : WX} {k : Nat} {f : Addr} {F : Fn}
theorem call_runS {pins : List (Addr × Obj)} {σ : St} {H H1 : Hp} {s : Shared} {ρ ρ1 : Env} {us : List Value} {vs : List V} {hs : List Hd} {Q : VK} (G : FnS X.prog X.w X.K X.mg X.base k f F) (hr : RoomG k X.A) (tk : Takes X W)
    (I : Inv X pins σ H1 s) (r : Vals vs us) (p : Pst X.K H σ ρ H1 σ ρ1) (dn : DenA X.K H1 σ vs hs)
    (fin : Fin X.K X.mg W σ H ρ (fun H2 ρ2 v h => DenR X.K H σ ρ H2 σ ρ2 v h) (callB F hs ρ1) Q) : wpAny (model X.prog X.w) X.A (call (.ref f) us) (EP X pins σ Q) X.xe s := by
  have fin1 := Fin.laterC p fin
  unfold callB at fin1
  cases ea : argsB hs ρ1 with
  | none => rw [ea] at fin1; exact fin1.elim
  | some bs =>
    rw [ea] at fin1
    simp only at fin1
    by_cases nd : (slotsOf hs).Nodup
    · rw [if_pos nd] at fin1
      have er := p.env.args dn ea nd
      have want : FinF X.K X.mg H1 vs bs Q (WE W σ) (F bs) := by
        cases ef : F bs with
        | ok b qs =>
          rw [ef] at fin1
          intro v H2 q d
          refine fin1 v H2 (Pst.back p.env dn ea nd q) ?_
          cases b with
          | d x => exact d
          | l xs =>
            obtain ⟨a, ys, rfl, h1, h2, h3, h4⟩ := d
            refine ⟨a, ys, rfl, h1, h2, fun w => ?_, ?_⟩
            · obtain ⟨i, zs, w1, w2⟩ := w
              have lp : hs.length ≤ qs.length := by
                have e1 := q.env.len
                simp only [List.length_map] at e1
                have e2 := dn.length
                omega
              rcases back_get hs qs ρ1 nd lp i with ⟨j, xs', g1, g2, g3⟩ | ⟨g1, g2⟩
              · obtain ⟨v', g4, g5⟩ := dn.get g1
                have ev : v' = .ref a := Option.some.inj (Option.some.inj (g5.symm.trans w2))
                subst ev
                exact h3 ⟨j, zs, by rw [← g3]; exact w1, by rw [List.getElem?_map, g4]; rfl⟩
              · rw [g1] at w1
                rcases h4 with w | w
                · obtain ⟨j, i', zs', q1, q2, q3⟩ := own_args dn ea w
                  have : i' = i := p.env.inj i' i zs' zs a q2 w1 q3 w2
                  subst this
                  exact g2 j zs' q1 q2
                · obtain ⟨zs', g⟩ := p.env.owned ⟨i, zs, w1, w2⟩
                  exact (w.no g rfl).elim
            · rcases h4 with w | w
              · obtain ⟨j, i', zs', _, q2, q3⟩ := own_args dn ea w
                exact .inl ⟨i', zs', q2, q3⟩
              · exact .inr w
        | ex x qs =>
          rw [ef] at fin1
          exact fun cls dd H2 q d => fin1 cls dd H2 (Pst.back p.env dn ea nd q) d
        | no => rw [ef] at fin1; exact fin1
      refine wpAny_call (codeAny_mono (G.run X.A X.stack s H1 us vs bs Q (WE W σ) hr I.env0 r er want) fun res s' hq => ?_)
      cases res with
      | error e => exact passAt tk σ pins H1 s e s' I hq
      | ok fl =>
        cases fl with
        | ret u => exact I.after hq
        | next => exact hq.elim
        | brk => exact hq.elim
        | cont => exact hq.elim
    · rw [if_neg nd] at fin1
      exact fin1.elim
variable {x : Str} {p pos : Pos} {e : Expr} {es : List Expr} {a : Ad}
/-- a def of the top that takes any number of arguments, and what it does -/
def Fun2 (P : Program) (w : World) (K : PySem.W.Frag) (mg : Str → Option Value) (base : Heap) (k : Nat) (x : Str) (F : Fn) : Prop :=
  ∃ f, FnS P w K mg base k f F ∧ PySem.W.keepIn K (.ref f) = true ∧ mg x = some (.ref f)
theorem e_fS {j : Nat} (G : Fun2 X.prog X.w X.K X.mg X.base j x F) (hr : RoomG j X.A) (hg : Gl X x) (tk : Takes X W) (ha : JA X W (e :: es) a)
    (hdb : (x == ("__debug__" : Str)) = false := by decide) (he : starEach (e :: es) X.env = (false, eval e X.env) :: starEach es X.env := by rfl) (hpl : (backTo pos (starEach es X.env)).any (·.1) = false := by rfl) : JE X W (.Call (.Name x p) (e :: es) [] pos) (cFn F a) := by
  obtain ⟨f, G, hk, hm⟩ := G
  refine ⟨fun pins s σ H Q I ⟨ρ, er, f0⟩ => ?_⟩
  refine wpAny_Call_Name_kw (ld_glob I hg hm ?_ hdb)
  refine PySem.W.callWith_K (h₀ := X.base) I.ok.mod.kin hk (thn (ha.run pos pins s σ H (fun vs H1 => ∃ hs ρ1, Pst X.K H σ ρ H1 σ ρ1 ∧ DenA X.K H1 σ vs hs ∧
    Fin X.K X.mg W σ H ρ (fun H2 ρ2 v h => DenR X.K H σ ρ H2 σ ρ2 v h) (callB F hs ρ1) Q) I ⟨ρ, er, ?_⟩) fun us s1 ⟨vs, H1, I1, r, hs, ρ1, q, dn, fin⟩ => ⟨I1.kIn, call_runS G hr tk I1 r q dn fin⟩) he hpl
  exact Fin.part (cFn_eq F a ρ ▸ f0) fun hs ρ1 c1 f1 vs H1 q dn => ⟨hs, ρ1, q, dn, f1⟩
end
section
variable {P : Program} {w : World} {K : PySem.W.Frag} {mg : Str → Option Value} {base : Heap} {k : Nat} {x : Str} {ps N : List Str} {st : Stmt} {io : List Nat} {c : Sd}
abbrev BindS (x : Str) (st : Stmt) (ps : List Str) (pv : Str) : Prop := ∀ (kV doc pm : Value) (an : Option Addr) (cdv ct : Value) (us rest : List Value), us.length = ps.length → bindArgs (PySem.W.fnOf x x (defArgs st) (defBody st) (defScope st) .none kV doc pm an cdv ct) ⟨us ++ rest, []⟩ = (newTuple rest >>= fun t => pure (ps.zip us ++ [(pv, t)]))
theorem def_svS {pv : Str} {m : Nat} (D : DefF K mg x st []) (S : FnScope N (ps ++ [pv]) (defScope st)) (hm : ps.length = m) (hb : BindS x st ps pv) (hB : BodyJ P w K mg base k x N st io c) : Fun2 P w K mg base (k + 1) x (starF m (fnD N.length io c)) := by
  obtain ⟨fd, F, g⟩ := D
  exact ⟨_, fn_svS F S hm hb hB, F.kp, g⟩
end
end Sv
end
section
set_option autoImplicit false
set_option linter.all false
set_option maxRecDepth 100000
set_option maxHeartbeats 1000000
/-! Sv: a lambda without parameters, handed to a def that calls it under try. -/
namespace Sv
open PySem PySem.Spec L2
open PyProof.Rows hiding St
variable [HasT]

section
variable {X : Cx} {pins : List (Addr × Obj)} {σ : St} {H : Hp} {s : Shared}
/-- where the lambda is called: around, frames -/
abbrev inDef (X : Cx) (qg : Str) (sg : Scope) (n : Nat) (g : Addr) (cdg : Value) : PySem.Env := envOfC qg sg n g cdg
/-- what was made of the lambda stands at f -/
def LamAt (X : Cx) (H : Hp) (s : Shared) (params : Arguments) (body : Expr) (scope : Scope) (f c : Addr) : Prop :=
  (∃ pm ct, s.heap.get? f = some (PySem.W.kla_obj "<lambda>" (X.env.qual ++ "<lambda>") params body scope (cloFrom X.env.cells scope.names []) pm c ct)) ∧ H f = none ∧ f ∉ frs X.stack
theorem act_sv {CXg : CXT} {Eg E : XK} {Ng : List Str} {qg a : Str} {sg scope : Scope} {g f c : Addr} {cdg : Value} {params : Arguments} {body : Expr} {k i : Nat} {pn : List (Addr × Obj)} {xe : Value → Shared → Prop} {W : WX} {tb : TE} {p1 p2 : Pos}
    (I : Inv X pins σ H s) (L : LamX.LamS X.env.scope scope) (hl : LamAt X H s params body scope f c)
    (hb : ∀ (cl : List (Str × Addr)) (q : Str) (pm cv ct : Value), bindArgs (PySem.W.kla_fn "<lambda>" q params body scope cl pm cv ct) ⟨[], []⟩ = pure [])
    (tk : Takes ((cxOf CXg X.prog X.w X.K X.mg X.base Ng qg sg g cdg X.A X.stack s H Eg).tr pn xe) W) (hW : ∀ cls d τ H', E cls d H' → W cls d τ H')
    (hr : RoomG (k + 1) (X.A.deeper (inDef X qg sg s.heap.objs.size g cdg)))
    (he : ∀ (s2 : Shared) (H2 : Hp), RoomG k ((X.A.deeper (inDef X qg sg s.heap.objs.size g cdg)).deeper (LamX.lamEnv X scope s2.heap.objs.size f c)) →
      PE (LamX.lamCx X (X.A.deeper (inDef X qg sg s.heap.objs.size g cdg)) (inDef X qg sg s.heap.objs.size g cdg :: X.stack) s2 H2 E scope f c) body tb)
    (hN : Ng[i]? = some a) (hv : Vis sg a) (h1 : (a == ("__debug__" : Str)) = false := by decide) (h2 : (a == ("__classdict__" : Str)) = false := by decide) :
    PE ((cxOf CXg X.prog X.w X.K X.mg X.base Ng qg sg g cdg X.A X.stack s H Eg).tr pn xe) (.Call (.Name a p1) [] [] p2)
      (fun τ HZ Q => τ[i]? = some (some (.ref f)) ∧ HZ c = some (LamX.CodeO c (X.env.qual ++ "<lambda>")) ∧ tb σ HZ Q) := by
  obtain ⟨⟨pm, ct, of0⟩, fn0, fr0⟩ := hl
  refine ⟨fun pz sz τ HZ Q IZ hq => ?_⟩
  obtain ⟨q1, q2, q3⟩ := hq
  have ev := (pe_var (pos := p1) (i := i) hN hv h1 h2).run pz sz τ HZ (fun v H1 => v = .ref f ∧ H1 = HZ) IZ ⟨.ref f, q1, rfl, rfl⟩
  refine wpAny_Call_Name_kw (thn ev fun u s1 hu => ?_)
  obtain ⟨v, H1, I1, rv, rfl, rfl⟩ := hu
  obtain rfl : u = Value.ref f := rv
  have of1 := I1.base.keep f _ of0 fn0 fr0 fun z => nomatch (show f ∈ ([] : List Addr) from z)
  refine PySem.W.callWith_F0 ⟨_, _, _, _, of1⟩ ?_
  obtain ⟨⟨oc, vs, tt, c1, c2, c3⟩, _, _⟩ := I1.hok c _ q2
  have run : codeAny (model X.prog X.w) (X.A.deeper (inDef X qg sg s.heap.objs.size g cdg)) (.call (.ref f) ⟨[], []⟩) (CR (L2.CX X.prog X.w) (inDef X qg sg s.heap.objs.size g cdg :: X.stack) X.prog X.w H1 s1 Q E) s1 := by
    refine PySem.W.kla_callFunE hr.room.depth of1 rfl L.co L.gen rfl ⟨c, oc, vs, tt, rfl, c1, c2, c3⟩ ?_
    rw [hb]
    refine wpAny_pure (wpAny_newFunctionEnv (fun y hy => (L.own y hy).2) (fun y hy => absurd hy List.not_mem_nil) (fun h3 n3 k3 => ⟨I1.nolimit.fresh _ k3, ?_⟩) L.kind)
    have kept : ∀ b o, s1.heap.get? b = some o → h3.get? b = some o := fun b o e => k3.extBut b o (Nat.ne_of_lt (Heap.lt_size e)) (Heap.get?_push_of_some _ e)
    have J := LamX.lam_start2 (E := E) (f := f) (c' := c) (tk := s1.toks + ([] : List (Str × Value)).length) I L I1.env0 hr.room.hd (show Un (frs X.stack) [] H H1 s.heap s1.heap from I1.base) n3 kept
    have fin := (he s1 H1 ⟨hr.room.deeper _, hr.gd⟩).run [] _ _ H1 Q J q3
    show codeAny _ _ (.expr body (LamX.lamEnv X scope s1.heap.objs.size f c)) _ _
    refine PySem.W.kla_codeExpr (wpAny_mono fin (fun v s' z => ?_) fun e s' z => z)
    obtain ⟨y, H', J', ry, q⟩ := z
    exact ⟨y, H', J'.os, J'.bare, J'.base, J'.hok, ry, q⟩
  have pass := passes_call tk hW
  refine wpAny_call (codeAny_mono run fun r s' z => ?_)
  match r, z with
  | .error e, z => exact pass pz τ H1 s1 e s' I1 z
  | .ok (.ret u), z => exact I1.after z
  | .ok .next, z => exact z.elim
  | .ok .brk, z => exact z.elim
  | .ok .cont, z => exact z.elim
end

section
variable {X : Cx}
/-- g(lambda: body) -/
theorem lam_call {T : List (Addr × Str)} {TT : (XK → Hp → VK → Prop) → Hp → VK → Prop} {x a : Str} {g c P : Addr} {k : Nat} {pg : Arguments} {bg : List Stmt} {sg scope : Scope} {dV kV doc pm cdv ct oc : Value} {an od : Option Addr} {osl : Array (Option Value)} {Ng : List Str}
    {params : Arguments} {body : Expr} {t : XK → TE} {p lpos pos : Pos}
    (hg : Gl X x) (hm : X.mg x = some (.ref g)) (hk : PySem.W.keepIn X.K (.ref g) = true) (lk : X.K.lookup g = some ⟨oc, od, .func (PySem.W.fnOf x x pg bg sg dV kV doc pm an cdv ct), osl⟩) (hcg : PySem.W.codeIn X.K cdv x = true)
    (hb : L2.Binds X.K (PySem.W.fnOf x x pg bg sg dV kV doc pm an cdv ct) [a] []) (Sg : FnScope Ng [a] sg) (hN : Ng[0]? = some a) (hv : Vis sg a) (hG : LamX.GivesTo X Ng x sg g cdv bg a (X.env.qual ++ "<lambda>") TT)
    (TB : LamX.TabB X.base X.mg c P) (hc : X.env.code = .ref c) (hT : (P, X.env.qual ++ "<lambda>") ∈ T) (hu : ∀ q ∈ T, q.1 = P → q.2 = X.env.qual ++ "<lambda>") (hr : RoomG (k + 2) X.A) (L : LamX.LamS X.env.scope scope) (hd : defaultsOf params X.env = ([], []))
    (hbl : ∀ (cl : List (Str × Addr)) (q : Str) (pm cv ct : Value), bindArgs (PySem.W.kla_fn "<lambda>" q params body scope cl pm cv ct) ⟨[], []⟩ = pure [])
    (he : ∀ (A : Around) (outer : List PySem.Env) (s : Shared) (H : Hp) (E : XK) (f c' : Addr), RoomG k (A.deeper (LamX.lamEnv X scope s.heap.objs.size f c')) → PE (LamX.lamCx X A outer s H E scope f c') body (t E))
    (h1 : (x == ("__debug__" : Str)) = false := by decide) (h2 : (a == ("__debug__" : Str)) = false := by decide) (h3 : (a == ("__classdict__" : Str)) = false := by decide) :
    PE X (.Call (.Name x p) [.Lambda params body scope lpos] [] pos) (LamX.tLam T TT t) := by
  refine ⟨fun pins s σ H Q I h => ?_⟩
  obtain ⟨tabs, h⟩ := h
  refine wpAny_Call_Name_kw (ld_glob I hg hm ?_ h1)
  refine PySem.W.callWith_K (h₀ := X.base) I.ok.mod.kin hk ?_ (by rfl) (by rfl)
  show wpAny _ _ (spliced ((false, eval (.Lambda params body scope lpos) X.env) :: backTo pos (starEach [] X.env))) _ _ s
  have made := LamX.lam_make2 (pos := lpos) (E := X.xe) (Q := fun v s' => wpAny (model X.prog X.w) X.A (spliced (backTo pos (starEach [] X.env))) (fun vs s2 => X.K.In s2.heap ∧ wpAny (model X.prog X.w) X.A (call (.ref g) (v :: vs)) (EP X pins σ Q) X.xe s2) X.xe s')
    (body := body) (scope := scope) (params := params) I TB hc hT hu tabs hd (L.has I.ok) ?_
  · exact Calls.spliced_cons made
  intro f c' pm' ctv H1 s' I1 more T1 of1 fn1 fr1 co1
  refine Calls.spliced_nil ⟨I1.kIn, ?_⟩
  have run : codeAny (model X.prog X.w) X.A (.call (.ref g) ⟨[.ref f], []⟩) (CR C8.CX0 X.stack X.prog X.w H1 s' Q C8.E0) s' := by
    refine LamX.run_ofS (N := Ng) (ps := [a]) (us := [.ref f]) (vs := [.ref f]) lk hcg Sg hr.room I1.env0 (hb s' [.ref f] I1.kIn rfl) (.cons rfl .nil) rfl fun room => ?_
    have acts := fun (W : WX) (pn : List (Addr × Obj)) (xe : Value → Shared → Prop) (E : XK) (p1 p2 : Pos) tk hW => act_sv (CXg := C8.CX0) (Eg := C8.E0) (Ng := Ng) (qg := x) (a := a) (sg := sg) (g := g) (cdg := cdv) (k := k) (i := 0) (pn := pn) (xe := xe) (W := W) (E := E) (tb := t E) (p1 := p1) (p2 := p2)
      I1 L ⟨⟨pm', ctv, of1⟩, fn1, fr1⟩ hbl tk hW ⟨room, hr.gd⟩ (fun s2 H2 r2 => he _ _ s2 H2 E f c' r2) hN hv h2 h3
    obtain ⟨t', ht, hq⟩ := hG f c' s' H1 Q (fun E H' Q' => t E σ H' Q') acts co1 (h H1 more T1)
    exact ⟨t', ht.nox, hq⟩
  refine wpAny_call (codeAny_mono run fun r s2 z => ?_)
  match r, z with
  | .error e, z => exact (show False from z).elim
  | .ok (.ret u), z => exact I1.after z
  | .ok .next, z => exact z.elim
  | .ok .brk, z => exact z.elim
  | .ok .cont, z => exact z.elim
end

/-! ### told: try: return [t0, a()] / except C1: return [t1] / except C2: return [t2] -/
def cTold (t0 t1 t2 : Str) (m1 m2 : Ex → Option Bool) (c : Cd) : Cd := fun e =>
  match c e with
  | .ok (.v (.d x)) e1 => .ok (.v (.l [.str t0, x])) e1
  | .ex x e1 => match m1 x with
    | some true => .ok (.v (.l [.str t1])) e1
    | some false => match m2 x with
      | some true => .ok (.v (.l [.str t2])) e1
      | _ => .no
    | none => .no
  | _ => .no
/-- the text of such a def -/
structure IsTold (st : Stmt) (a n1 n2 t0 t1 t2 : Str) : Prop where
  body : ∃ (j0 j1 j2 : Nat) (p0 p1 p2 p3 p4 q0 q1 q2 q3 q4 r0 r1 r2 r3 r4 pp : Pos), defBody st = [.Try [.Return (some (.List [.Constant (.str t0) j0 p0, .Call (.Name a p1) [] [] p2] p3)) p4]
    [.ExceptHandler (some (.Name n1 q0)) none [.Return (some (.List [.Constant (.str t1) j1 q1] q2)) q3] q4, .ExceptHandler (some (.Name n2 r0)) none [.Return (some (.List [.Constant (.str t2) j2 r1] r2)) r3] r4] [] [] pp]
def tTold (K : PySem.W.Frag) (c1 c2 : Value) (t0 t1 t2 : Str) : (XK → Hp → VK → Prop) → Hp → VK → Prop := fun tl H Q =>
  tl (fun cls _ H' => ∃ b, PySem.W.exmOne K cls c1 = some b ∧ (b = true → ∀ p, H' p = none → Q (.ref p) (upd H' p (.lst [.str t1]))) ∧
      (b = false → ∃ b2, PySem.W.exmOne K cls c2 = some b2 ∧ (b2 = true → ∀ p, H' p = none → Q (.ref p) (upd H' p (.lst [.str t2]))) ∧ (b2 = false → False)))
    H fun v H1 => ∀ p, H1 p = none → Q (.ref p) (upd H1 p (.lst [.str t0, v]))
section
variable {X : Cx}
theorem told_gives2 {Ng : List Str} {x a n1 n2 q t0 t1 t2 : Str} {sg : Scope} {g : Addr} {c1 c2 cdg : Value} {j0 j1 j2 : Nat} {p0 p1 p2 p3 p4 q0 q1 q2 q3 q4 r0 r1 r2 r3 r4 pp : Pos}
    (h1 : sg.names.lookup n1 = some .globalImplicit) (h2 : sg.names.lookup n2 = some .globalImplicit) (m1 : X.mg n1 = some c1) (m2 : X.mg n2 = some c2) (d1 : (n1 == ("__debug__" : Str)) = false) (d2 : (n2 == ("__debug__" : Str)) = false)
    (h0 : ∀ f : Addr, (L2.start Ng [V.ref f])[0]? = some (some (V.ref f))) :
    LamX.GivesTo X Ng x sg g cdg [.Try [.Return (some (.List [.Constant (.str t0) j0 p0, .Call (.Name a p1) [] [] p2] p3)) p4]
      [.ExceptHandler (some (.Name n1 q0)) none [.Return (some (.List [.Constant (.str t1) j1 q1] q2)) q3] q4, .ExceptHandler (some (.Name n2 r0)) none [.Return (some (.List [.Constant (.str t2) j2 r1] r2)) r3] r4] [] [] pp] a q (tTold X.K c1 c2 t0 t1 t2) := by
  intro f c' s H Q tl act hc h
  have z1 : 1 ≤ sizeLine := by decide
  have z2 : 2 ≤ sizeLine := by decide
  have g1 : Gl (cxOf C8.CX0 X.prog X.w X.K X.mg X.base Ng x sg g cdg X.A X.stack s H C8.E0).nox n1 := h1
  have g2 : Gl (cxOf C8.CX0 X.prog X.w X.K X.mg X.base Ng x sg g cdg X.A X.stack s H C8.E0).nox n2 := h2
  refine ⟨_, pss_one (ps_try_many (X := (cxOf C8.CX0 X.prog X.w X.K X.mg X.base Ng x sg g cdg X.A X.stack s H C8.E0).nox)
    (tb := fun W D τ H => ∃ Ech : XK, (∀ cls d τ' H', Ech cls d H' → W cls d τ' H') ∧ τ[0]? = some (some (.ref f)) ∧ H c' = some (LamX.CodeO c' q) ∧ tl Ech H fun v H1 => ∀ p, H1 p = none → D.rt (.ref p) (upd H1 p (.lst [.str t0, v])))
    rfl rfl LamX.takes0 (fun W pn xe tk _ => ?_)
    (.cons ⟨g1, d1, .inl m1⟩ (fun a oe cls d pn _ _ => pss_one (ps_ret (pe_lst (pa_cons pe_str pa_nil))))
      (.cons ⟨g2, d2, .inl m2⟩ (fun a oe cls d pn _ _ => pss_one (ps_ret (pe_lst (pa_cons pe_str pa_nil)))) .nil))), ?_⟩
  · refine ⟨fun pins s' τ H' D I h' => ?_⟩
    obtain ⟨Ech, hW, e1, e2, e3⟩ := h'
    have call := act W pn xe Ech p1 p2 tk hW
    have ret := pss_one (ps_ret (pos := p4) (pe_lst (pos := p3) (pa_cons (pe_str (x := t0) (j := j0) (pos := p0)) (pa_cons call pa_nil))))
    refine ret.run pins s' τ H' D I ⟨e1, e2, ?_⟩
    have mono := e3
    refine (?_ : tl Ech H' fun v H1 => _)
    exact cast (congrArg (tl Ech H') (funext fun v => funext fun H1 => propext ⟨fun z => ⟨z2, z⟩, fun z => z.2⟩)) e3
  · refine ⟨_, fun cls d τ' H' hb => ?_, h0 f, hc, h⟩
    obtain ⟨b, e1, e2, e3⟩ := hb
    refine ⟨b, e1, fun hb a _ => ⟨z1, e2 hb⟩, fun hb => ?_⟩
    obtain ⟨b2, e4, e5, e6⟩ := e3 hb
    exact ⟨b2, e4, fun hb a _ => ⟨z1, e5 hb⟩, fun hb => (e6 hb).elim⟩
end

/-! ### the rule -/
/-- nothing but the tables has changed -/
theorem EnvRel.ext {K : PySem.W.Frag} {H H1 : Hp} {σ : St} {ρ : Env} (er : EnvRel K H σ ρ) (e : LamX.ExtN H H1) (t : TabsK K H1) : EnvRel K H1 σ ρ := by
  have stay : ∀ b o, H b = some o → stays o = true → H1 b = some o := fun b o h s => e b o h (fun ps z => by rw [z] at s; cases s)
  refine ⟨t, er.len, fun i b h => ?_, er.inj⟩
  obtain ⟨v, e1, d⟩ := er.den i b h
  refine ⟨v, e1, ?_⟩
  cases b with
  | d x => exact Fz.keep stay d
  | l xs =>
    obtain ⟨a, ys, e2, e3, e4⟩ := d
    exact ⟨a, ys, e2, e a _ e3 (fun ps z => nomatch z), FzAll.keep stay e4⟩
theorem Pst.ext {K : PySem.W.Frag} {H H1 : Hp} {σ : St} {ρ : Env} (er : EnvRel K H σ ρ) (e : LamX.ExtN H H1) (t : TabsK K H1) : Pst K H σ ρ H1 σ ρ :=
  ⟨er.ext e t, fun b o h f _ => e b o h (fixed_of f), fun _ w => .inl w⟩
/-- the table of the def x -/
structure TabF (K : PySem.W.Frag) (mg : Str → Option Value) (base : Heap) (x : Str) : Prop where
  tb : LamX.TabB base mg (He.cT K (x, none)).1 (He.cT K (x, none)).2
  mem : ((He.cT K (x, none)).2, x ++ ".<locals>." ++ "<lambda>") ∈ HasT.t K
  one : ∀ q ∈ HasT.t K, q.1 = (He.cT K (x, none)).2 → q.2 = x ++ ".<locals>." ++ "<lambda>"
theorem cd_eq {K : PySem.W.Frag} {x : Str} {cdv : Value} (h : CdOf K (He.ga K x) cdv) : cdv = .ref (He.cT K (x, none)).1 := by
  obtain ⟨oc, od, osl, fd, lk, e, q, hq⟩ := h
  obtain ⟨c, rfl⟩ := He.codeIn_ref hq
  have := He.codeOf_eq (p := (x, none)) lk e
  show Value.ref c = .ref (He.codeOf K (x, none))
  rw [this]
section
variable {X : Cx} {W : WX}
theorem e_told {x y a n1 n2 t0 t1 t2 : Str} {k : Nat} {st : Stmt} {Ng : List Str} {m1 m2 : Ex → Option Bool} {params : Arguments} {body : Expr} {scope : Scope} {c : Cd} {p lpos pos : Pos}
    (D : DefF X.K X.mg x st []) (Sg : FnScope Ng [a] (defScope st)) (hb : BindN x st [a]) (T : IsTold st a n1 n2 t0 t1 t2) (hN : Ng[0]? = some a) (hv : Vis (defScope st) a)
    (l1 : (defScope st).names.lookup n1 = some .globalImplicit) (l2 : (defScope st).names.lookup n2 = some .globalImplicit) (g1 : X.mg n1 = some (.ref (He.ga X.K n1))) (g2 : X.mg n2 = some (.ref (He.ga X.K n2)))
    (hm1 : ∀ (y : Ex) (cls : Value) (k : Bool), X.mg y.c = some cls → m1 y = some k → PySem.W.exmOne X.K cls (.ref (He.ga X.K n1)) = some k)
    (hm2 : ∀ (y : Ex) (cls : Value) (k : Bool), X.mg y.c = some cls → m2 y = some k → PySem.W.exmOne X.K cls (.ref (He.ga X.K n2)) = some k)
    (TF : TabF X.K X.mg X.base y) (hq : X.env.qual = y ++ ".<locals>.") (hc : X.env.code = .ref (He.cT X.K (y, none)).1) (hr : RoomG (k + 2) X.A) (hg : Gl X x) (L : LamX.LamS X.env.scope scope) (hd : defaultsOf params X.env = ([], []))
    (hbl : ∀ (cl : List (Str × Addr)) (q : Str) (pm cv ct : Value), bindArgs (PySem.W.kla_fn "<lambda>" q params body scope cl pm cv ct) ⟨[], []⟩ = pure [])
    (he : ∀ (A : Around) (outer : List PySem.Env) (s : Shared) (H : Hp) (E : XK) (f c' : Addr), RoomG k (A.deeper (LamX.lamEnv X scope s.heap.objs.size f c')) → JE (LamX.lamCx X A outer s H E scope f c') (fun cls d _ H => E cls d H) body c)
    (h1 : (x == ("__debug__" : Str)) = false := by decide) (h2 : (a == ("__debug__" : Str)) = false := by decide) (h3 : (a == ("__classdict__" : Str)) = false := by decide) (h4 : (n1 == ("__debug__" : Str)) = false := by decide) (h5 : (n2 == ("__debug__" : Str)) = false := by decide)
    (h6 : ∀ f : Addr, (L2.start Ng [V.ref f])[0]? = some (some (V.ref f)) := by intro _; rfl) :
    JE X W (.Call (.Name x p) [.Lambda params body scope lpos] [] pos) (cTold t0 t1 t2 m1 m2 c) := by
  obtain ⟨fd, F, hm⟩ := D
  have hB := F.bindsN hb
  have hkp := F.kp
  obtain ⟨oc, od, dV, kV, doc, pm, an, cdv, ct, osl, rfl, lk, hcd, _, _⟩ := F.ex
  obtain ⟨j0, j1, j2, p0, p1, p2, p3, p4, q0, q1, q2, q3, q4, r0, r1, r2, r3, r4, pp, eb⟩ := T.body
  rw [eb] at lk hB
  have gives := told_gives2 (X := X) (Ng := Ng) (x := x) (a := a) (n1 := n1) (n2 := n2) (q := X.env.qual ++ "<lambda>") (t0 := t0) (t1 := t1) (t2 := t2) (sg := defScope st) (g := He.ga X.K x) (cdg := cdv)
    (j0 := j0) (j1 := j1) (j2 := j2) (p0 := p0) (p1 := p1) (p2 := p2) (p3 := p3) (p4 := p4) (q0 := q0) (q1 := q1) (q2 := q2) (q3 := q3) (q4 := q4) (r0 := r0) (r1 := r1) (r2 := r2) (r3 := r3) (r4 := r4) (pp := pp) l1 l2 g1 g2 h4 h5 h6
  have call := lam_call (t := fun E => tC X.K X.mg (fun cls d _ H => E cls d H) c) (p := p) (lpos := lpos) (pos := pos) hg hm hkp lk hcd hB Sg hN hv gives TF.tb hc (by rw [hq]; exact TF.mem) (by rw [hq]; exact TF.one) hr L hd hbl he h1 h2 h3
  refine pe_weak call fun σ H Q ⟨ρ, er, f⟩ => ⟨er.tab, fun H1 ext tabs => ⟨ρ, er.ext ext tabs, ?_⟩⟩
  have pe := Pst.ext er ext tabs
  unfold cTold at f
  cases ec : c ρ with
  | ok h ρ1 =>
    rw [ec] at f
    match h, f with
    | .v (.d z), f =>
      intro v H2 q d r hn
      have new : ∀ b o, H2 b = some o → upd H2 r (.lst [.str t0, v]) b = some o := grow_upd hn
      have p2 := (pe.trans q).trans (Pst.grow q.env new)
      refine f (.ref r) _ p2 ⟨r, [.str t0, v], rfl, upd_same, .cons (.str t0) (.cons (Fz.keep (fun b o h _ => new b o h) d) .nil), fun w => ?_, ?_⟩
      · obtain ⟨ys, e⟩ := q.env.owned w
        rw [hn] at e
        cases e
      · by_cases w : Own σ ρ r
        · exact .inl w
        · exact .inr ((pe.trans q).new (.of hn) w)
    | .v (.l zs), f => exact f.elim
    | .s i, f => exact f.elim
  | ex z ρ1 =>
    rw [ec] at f
    intro cls dd H2 q xr
    have xr' := xr
    obtain ⟨xc, _⟩ := xr'
    have list1 : ∀ {t : Str}, Fin X.K X.mg W σ H ρ (fun H1 ρ1 v h => DenR X.K H σ ρ H1 σ ρ1 v h) (.ok (.v (.l [.str t])) ρ1) Q → ∀ r, H2 r = none → Q (.ref r) (upd H2 r (.lst [.str t])) := fun {t} f r hn => by
      have new : ∀ b o, H2 b = some o → upd H2 r (.lst [.str t]) b = some o := grow_upd hn
      have p2 := (pe.trans q).trans (Pst.grow q.env new)
      refine f (.ref r) _ p2 ⟨r, [.str t], rfl, upd_same, .cons (.str t) .nil, fun w => ?_, ?_⟩
      · obtain ⟨ys, e⟩ := q.env.owned w
        rw [hn] at e
        cases e
      · by_cases w : Own σ ρ r
        · exact .inl w
        · exact .inr ((pe.trans q).new (.of hn) w)
    cases e1 : m1 z with
    | none => simp only [e1] at f; exact f.elim
    | some b =>
      refine ⟨b, hm1 z cls b xc e1, fun hb => ?_, fun hb => ?_⟩
      · subst hb
        simp only [e1] at f
        exact list1 f
      · subst hb
        simp only [e1] at f
        cases e2 : m2 z with
        | none => simp only [e2] at f; exact f.elim
        | some b2 =>
          refine ⟨b2, hm2 z cls b2 xc e2, fun hb => ?_, fun hb => ?_⟩
          · subst hb
            simp only [e2] at f
            exact list1 f
          · subst hb
            simp only [e2] at f
            exact f.elim
  | no => rw [ec] at f; exact f.elim
end
end Sv
end
section
set_option autoImplicit false
set_option linter.all false
set_option maxRecDepth 100000
/-! Sv: sorted(set(xs)), xs a list of texts. -/
namespace Sv
open PySem PySem.Spec L2
open PyProof.Rows hiding St
variable [HasT]

/-- the set at a holds the texts l -/
structure TxSet (P : Program) (w : World) (h : Heap) (a : Addr) (l : List Str) : Prop where
  ex : ∃ D : Froz.SD, h.get? a = some (Froz.sObj "set" D) ∧ Froz.TxOk P w D l ∧ Ris D.2.2.place.toList ∧ (w.params.followText "set-order" = true ∨ D.2.2.led = true)
  nd : l.Nodup
/-- the texts seen, each once, the last one first -/
def seen : List Str → List Str → List Str
  | acc, [] => acc
  | acc, k :: r => seen (if k ∈ acc then acc else k :: acc) r
theorem seen_mem : ∀ (r acc : List Str) (x : Str), x ∈ seen acc r ↔ x ∈ acc ∨ x ∈ r
  | [], acc, x => by simp [seen]
  | k :: r, acc, x => by
    rw [seen, seen_mem r]
    split
    · rename_i h
      simp only [List.mem_cons]
      constructor
      · rintro (h | h)
        · exact .inl h
        · exact .inr (.inr h)
      · rintro (h' | rfl | h')
        · exact .inl h'
        · exact .inl h
        · exact .inr h'
    · simp only [List.mem_cons]
      constructor
      · rintro ((h | h) | h)
        · exact .inr (.inl h)
        · exact .inl h
        · exact .inr (.inr h)
      · rintro (h' | h' | h')
        · exact .inl (.inr h')
        · exact .inl (.inl h')
        · exact .inr h'
theorem seen_len : ∀ (r acc : List Str), (seen acc r).length ≤ acc.length + r.length
  | [], acc => by simp [seen]
  | k :: r, acc => by
    rw [seen]
    refine Nat.le_trans (seen_len r _) ?_
    split <;> simp only [List.length_cons] <;> omega
theorem seen_nd : ∀ (r acc : List Str), acc.Nodup → (seen acc r).Nodup
  | [], acc, h => h
  | k :: r, acc, h => by
    rw [seen]
    refine seen_nd r _ ?_
    split
    · exact h
    · rename_i q
      exact List.nodup_cons.mpr ⟨q, h⟩
section
variable {P : Program} {w : World} {A : Around} {E : Value → Shared → Prop} {s : Shared} {a : Addr} {l : List Str}
theorem TxSet.keep {h h' : Heap} (R : TxSet P w h a l) (k : ∀ o, h.get? a = some o → h'.get? a = some o) : TxSet P w h' a l := by
  obtain ⟨D, h1, h2⟩ := R.ex
  exact ⟨⟨D, k _ h1, h2⟩, R.nd⟩
theorem tail_ris {ep : Nat} {es : Array (Int × Value)} {t : SetTable} {b : Bool} (r : Ris t.place.toList) : Ris (Froz.tailTx ep es t b).2.2.place.toList := by
  unfold Froz.tailTx
  split
  · exact relayAll_ris _ _ _
  · exact r
theorem tail_led {ep : Nat} {es : Array (Int × Value)} {t : SetTable} {b : Bool} : (Froz.tailTx ep es t b).2.2.led = t.led := by
  unfold Froz.tailTx
  split
  · exact relayAll_led _ _ _
  · rfl
theorem add_ris {D : Froz.SD} (x : Int) (v : Value) (r : Ris D.2.2.place.toList) : Ris (Froz.addTx x v D).2.2.place.toList := by
  obtain ⟨es, ep, t⟩ := D
  have r1 := layNew_ris t es x v r
  unfold Froz.addTx
  refine tail_ris ?_
  split
  · exact r1
  · exact r1
theorem add_led {D : Froz.SD} (x : Int) (v : Value) : (Froz.addTx x v D).2.2.led = D.2.2.led := by
  obtain ⟨es, ep, t⟩ := D
  have r1 := layNew_led t es x v
  unfold Froz.addTx
  refine tail_led.trans ?_
  split
  · exact r1
  · exact r1
theorem txset_add {k : Str} {u : Tok} {Q : Bool → Shared → Prop} (R : TxSet P w s.heap a l) (hb : l.length + 1 < scanBound)
    (h : ∀ (b : Bool) (h' : Heap), Heap.SameBut a s.heap h' → TxSet P w h' a (if k ∈ l then l else k :: l) → Q b { s with heap := h' }) : wpAny (model P w) A (setAddHashed a (.str k u) (hashStr w k)) Q E s := by
  obtain ⟨D, ho, F, ris, led⟩ := R.ex
  by_cases hk : k ∈ l
  · have q := h false s.heap (Heap.SameBut.refl _ _) (by rw [if_pos hk]; exact R)
    have hd : (Froz.sObj "set" D).data = .set D.1 D.2.1 D.2.2 := rfl
    have key : (strKind P w).is k (.str k u) = true := Froz.is_str k u
    unfold setAddHashed setAddHashedIn
    refine wpAny_holding (wpAny_bind (wpAny_setState_of ho hd F.fit ?_))
    dsimp only
    rw [byScan_of rfl (by rw [F.sz]; omega) F.el]
    simp only [↓reduceIte]
    unfold setAddByScan
    refine wpAny_bind (wpAny_bind (wpAny_rule (wpAny_bind (wpAny_setScan_of (knd := strKind P w) (k := k) key ho hd F.fit F.el ?_))))
    cases e : List.findIdx? (fun e => (strKind P w).is k e.2) D.1.toList with
    | none =>
      obtain ⟨y, hy, hz⟩ := (F.mem k).mp hk
      exact absurd hz (by simpa using List.findIdx?_eq_none_iff.mp e y hy)
    | some j =>
      dsimp only
      exact wpAny_pure (wpAny_pure q)
  · refine Froz.add_x ho F hk hb ?_
    refine h true _ (Heap.SameBut.update s.heap a _) ?_
    rw [if_neg hk]
    exact ⟨⟨_, Froz.get_upd _ ho rfl, Froz.add_ok u F, add_ris _ _ ris, by rw [add_led]; exact led⟩, List.nodup_cons.mpr ⟨hk, R.nd⟩⟩
/-- set.update's loop -/
theorem txset_loop {I S : Addr} {fp wr : List Addr} {G : Array GenState → Array GenState → Prop} {n : Nat} {Pv : Nat → Value → Prop} {Sv : Nat → Shared → Prop} {R : Result → Shared → Prop} (W : WalksS P w A.in1 I fp wr G n Pv Sv) (hS : S ∉ fp) (xs : List Str) (hn : n = xs.length)
    (hv : ∀ i v, Pv i v → ∃ k u, xs[i]? = some k ∧ v = .str k u) :
    ∀ (m i : Nat) (acc : List Str) (s : Shared), n - i = m → i ≤ n → Sv i s → acc.length + m + 1 < scanBound → TxSet P w s.heap S acc →
      (∀ s', Moved (S :: wr) G s s' → TxSet P w s'.heap S (seen acc (xs.drop i)) → R (.ok (.ret .none)) s') →
      codeAny (model P w) A (.builtin "set.update.loop" ⟨[.ref S, .ref I], []⟩) R s := by
  have out : S ∉ wr := fun h => hS (W.sub _ h)
  intro m
  induction m with
  | zero =>
    intro i acc s hm hi st hz T hR
    obtain rfl : i = n := by omega
    refine codeAny_builtin F.entry_set_update_loop ?_
    rw [Around.under_plainId F.plain_set_update_loop _]
    show wpAny (model P w) A.in1 (pyNext (.ref I) >>= _) _ _ s
    refine wpAny_bind (W.done s _ _ st fun s' mv => wpAny_pure (hR s' (mv.mono fun b hb => List.mem_cons_of_mem _ hb) ?_))
    rw [hn, List.drop_length]
    exact T.keep fun o e => mv.heap S o out e
  | succ m ih =>
    intro i acc s hm hi st hz T hR
    have lt : i < n := by omega
    refine codeAny_builtin F.entry_set_update_loop ?_
    rw [Around.under_plainId F.plain_set_update_loop _]
    show wpAny (model P w) A.in1 (pyNext (.ref I) >>= _) _ _ s
    refine wpAny_bind (W.item i s _ _ lt st fun v s1 pv st1 mv => ?_)
    obtain ⟨k, u, hk, rfl⟩ := hv i v pv
    have T1 : TxSet P w s1.heap S acc := T.keep fun o e => mv.heap S o out e
    show wpAny (model P w) A.in1 (holding [Value.str k u] (setAdd S (.str k u)) >>= _) _ _ s1
    refine wpAny_bind (wpAny_holding ?_)
    unfold setAdd
    refine wpAny_holding (wpAny_bind ((strKind P w).pyHash (Froz.is_str k u) ?_))
    refine txset_add (s := { s1 with toks := s1.toks + 1 }) T1 (by omega) fun b h' sb T2 => ?_
    have hd : xs.drop i = k :: xs.drop (i + 1) := by
      obtain ⟨hl, e⟩ := List.getElem?_eq_some_iff.mp hk
      rw [List.drop_eq_getElem_cons hl, e]
    refine wpAny_pure ⟨plainId_quiet F.plain_set_update_loop _, ih (i + 1) _ _ (by omega) lt (W.frame _ s1 _ _ st1 (Nat.le_succ _) fun c hc o e => ?_) ?_ T2 fun s2 mv2 T3 => ?_⟩
    · rw [sb.2 c (fun z => hS (by rw [← z]; exact hc))]
      exact e
    · split <;> (try simp only [List.length_cons]) <;> omega
    · refine hR s2 (Moved.trans W.gtrans ((mv.mono fun b hb => List.mem_cons_of_mem _ hb).then_heap (Nat.le_succ _) fun c o hc e => ?_) mv2) ?_
      · rw [sb.2 c (fun z => hc (by rw [z]; exact List.mem_cons_self))]
        exact e
      · rw [hd, seen]
        exact T3
/-- a new set, a list's iterator -/
def set0 (w : World) : Obj := { cls := .type "set", dict := none, data := .set #[] 0 (.fresh 0 0 (!w.params.followText "set-order")) }
def iter0 (l : Addr) : Obj := { cls := .type "list_iterator", data := .fields #[.ref l, .int 0 0] }
theorem txset_new {h : Heap} (e : h.get? a = some (set0 w)) : TxSet P w h a [] :=
  ⟨⟨(#[], 0, .fresh 0 0 (!w.params.followText "set-order")), e, .nil rfl, List.Pairwise.nil, by
    show _ ∨ (!w.params.followText "set-order") = true
    cases w.params.followText "set-order"
    · exact .inr rfl
    · exact .inl rfl⟩, List.nodup_nil⟩
set_option maxHeartbeats 3200000 in
/-- set(xs) -/
theorem txset_call {xl : Addr} {items : Array Value} (xs : List Str) {Q : Value → Shared → Prop} (hh : A.handled = none) (hl : s.heap.IsList xl items) (hn : items.size = xs.length) (hv : ∀ (i : Nat) (v : Value), items[i]? = some v → ∃ k u, xs[i]? = some k ∧ v = .str k u) (hz : xs.length + 1 < scanBound)
    (h : ∀ (h' : Heap) (tk : Nat), TxSet P w h' s.heap.objs.size (seen [] xs) → (∀ b o, s.heap.get? b = some o → h'.get? b = some o) → Q (.ref s.heap.objs.size) { s with heap := h', toks := tk }) :
    wpAny (model P w) A (call (.type "set") [.ref xl]) Q E s := by
  have called := F.called_set
  obtain ⟨c, tl, m1⟩ := called.mro
  have m2 := called.made
  have m3 := called.sub
  have m4 := called.notType
  have m5 := called.canCreate
  have m6 := F.typeCall_set_1 (.ref xl)
  refine wpAny_call (codeAny_of_tree ?_)
  show wpAny (model P w) _ (callAny (.type "set") _) _ _ _
  refine wpAny_pure ⟨Code.quiet_builtin _ (by decide +kernel), codeAny_builtin F.entry_type_call ?_⟩
  rw [Around.under_plain (weight_type_call_type "set" [.ref xl] []) rfl]
  repeat any_goals first | assumption | wp_step
  have made := code_set_led1 (P := P) (w := w) (A := A.in1) (s := s) (.ref xl) (E := E) (Q₁ := fun obj s1 => obj = .ref s.heap.objs.size ∧ s1 = { s with heap := s.heap.push (set0 w) }) ⟨rfl, rfl⟩
  refine codeAny_mono made fun r s1 hr => ?_
  match r, hr with
  | .error e, hr => exact hr
  | .ok .next, hr => exact hr.elim
  | .ok .brk, hr => exact hr.elim
  | .ok .cont, hr => exact hr.elim
  | .ok (.ret obj), hr =>
    obtain ⟨rfl, rfl⟩ := hr
    have eS : (s.heap.push (set0 w)).get? s.heap.objs.size = some (set0 w) := Heap.get?_push_size _ rfl
    have ty : Shared.TypeIs { s with heap := s.heap.push (set0 w) } (.ref s.heap.objs.size) "set" := ⟨_, eS, rfl⟩
    have n1 := called.init.lookup
    have n2 := called.init.bind (.ref s.heap.objs.size)
    repeat any_goals first | assumption | wp_step
    refine codeAny_mono (codeAny_call_builtin (R := wants (fun r s2 => r = .none ∧ ∃ h' tk, s2 = { s with heap := h', toks := tk } ∧ TxSet P w h' s.heap.objs.size (seen [] xs) ∧ ∀ b o, s.heap.get? b = some o → h'.get? b = some o) E)
      called.init.plain F.entry_set_init (check_set_init_1 ty ?_)) fun r2 s2 hr2 => ?_
    · obtain ⟨⟨ocls, odict, odata, oslots⟩, ho, hc, nl, hd⟩ := hl
      simp only at hc hd
      subst hc
      subst hd
      have ho1 : (s.heap.push (set0 w)).get? xl = some { cls := .type "list", dict := odict, data := .seq items nl, slots := oslots } := Heap.get?_push_of_some _ ho
      have t1 := F.sub_list_set
      have t2 := F.sub_list_frozenset
      have t3 : (Value.type "list" == Value.type "dict") = false := by decide
      have hl1 : (s.heap.push (set0 w)).IsList xl items := ⟨_, ho1, rfl, nl, rfl⟩
      unfold Builtin.«set.__init__»
      unfold noKeywords
      unfold Builtin.Frozenset.updateFrom
      generalize hp : pyIter = pit
      wp_walk
      subst hp
      refine wpAny_pyIter_list hl1 (wpAny_bind (wpAny_runValue ?_))
      have lt : xl < s.heap.objs.size := Heap.lt_size ho
      have z1 : (s.heap.push (set0 w)).objs.size = s.heap.objs.size + 1 := Heap.size_push ..
      have ne : xl ≠ (s.heap.push (set0 w)).objs.size := by rw [z1]; exact Nat.ne_of_lt (Nat.lt_succ_of_lt lt)
      have nf : s.heap.objs.size ∉ [(s.heap.push (set0 w)).objs.size, xl] := by
        rw [z1]
        simp only [List.mem_cons, List.not_mem_nil, or_false, not_or]
        exact ⟨Nat.ne_of_lt (Nat.lt_succ_self _), Nat.ne_of_gt lt⟩
      have hh3 : A.in1.in1.in1.handled = none := by simp [hh]
      refine txset_loop ((Walks.list hh3 _ xl ne items).toS) nf xs hn hv (items.size - 0) 0 [] _ (by omega) (Nat.zero_le _) ⟨⟨_, Heap.get?_push_size _ rfl, rfl, rfl⟩, hl1.push _⟩ (by simp only [List.length_nil]; omega)
        (txset_new (Heap.get?_push_of_some _ eS)) fun s3 mv T => ?_
      obtain ⟨h3, g3, d3, t3, o3⟩ := s3
      have eg : g3 = s.gens := mv.gens
      have ed : d3 = s.drawn := mv.drawn
      have eo : o3 = s.os := mv.os
      subst eg
      subst ed
      subst eo
      show wpAny (model P w) _ _ _ _ _
      refine wpAny_pure ?_
      show wpAny (model P w) _ (ret Value.none) _ _ _
      refine wpAny_pure ⟨rfl, h3, t3, rfl, T, fun b o e => ?_⟩
      have lb := Heap.lt_size e
      refine mv.heap b o (fun z => ?_) (Heap.get?_push_of_some _ (Heap.get?_push_of_some _ e))
      simp only [List.mem_cons, List.not_mem_nil, or_false] at z
      rcases z with z | z
      · exact absurd z (Nat.ne_of_lt lb)
      · rw [z1] at z
        exact absurd z (Nat.ne_of_lt (Nat.lt_succ_of_lt lb))
    · match r2, hr2 with
      | .error e, hr2 => exact hr2
      | .ok .next, hr2 => exact hr2.elim
      | .ok .brk, hr2 => exact hr2.elim
      | .ok .cont, hr2 => exact hr2.elim
      | .ok (.ret r), hr2 =>
        obtain ⟨rfl, h', tk, rfl, T, kp⟩ := hr2
        repeat any_goals first | assumption | wp_step
        exact h _ _ T kp
end
end Sv
end
section
set_option autoImplicit false
set_option linter.all false
set_option maxRecDepth 100000
/-! Sv: sorted(set(xs)), xs a list of texts: the operation. -/
namespace Sv
open PySem PySem.Spec L2
open PyProof.Rows hiding St
variable [HasT]

/-! ### the order of texts -/
def leS (a b : Str) : Bool := PySem.W.dataLe false PyData.str a b
theorem leS_total : PySem.W.TotalLe leS := PySem.W.sortLe_total (PyProof.Rows.listOrd PyProof.Rows.itemOrd) false fun b => PySem.W.keyToks (.str b)
theorem leS_eq (a b : Str) : leS a b = decide (a.cps.toList ≤ b.cps.toList) := by
  have h := PySem.W.dataLe_str (β := Str) (fun b => b)
  exact congrFun (congrFun h a) b
theorem str_ext {a b : Str} (h : a.cps.toList = b.cps.toList) : a = b := by
  obtain ⟨x⟩ := a
  obtain ⟨y⟩ := b
  have h' : x.toList = y.toList := h
  rw [Array.toList_inj.mp h']
theorem leS_anti {a b : Str} (h1 : leS a b = true) (h2 : leS b a = true) : a = b := by
  rw [leS_eq, decide_eq_true_eq] at h1 h2
  exact str_ext (List.le_antisymm h1 h2)
def sortS (l : List Str) : List Str := l.mergeSort leS
theorem sortS_perm (l : List Str) : (sortS l).Perm l := List.mergeSort_perm l leS
theorem sortS_ord (l : List Str) : (sortS l).Pairwise fun a b => leS a b = true := PySem.W.sort_pairwise leS_total l
theorem sortS_of {l m : List Str} (h : l.Perm m) : sortS l = sortS m :=
  List.Perm.eq_of_pairwise (le := fun a b => leS a b = true) (fun a b _ _ => leS_anti) (sortS_ord l) (sortS_ord m) ((sortS_perm l).trans (h.trans (sortS_perm m).symm))

section
variable {P : Program} {w : World} {A : Around} {E : Value → Shared → Prop} {s : Shared} {a : Addr} {l : List Str}
/-- the values are texts -/
abbrev TxV (v : Value) (k : Str) : Prop := ∃ u, v = .str k u
theorem each_tx : ∀ (vs : List Value), (∀ v ∈ vs, ∃ k, TxV v k) → ∃ ks, PySem.W.EachIs TxV vs ks
  | [], _ => ⟨[], .nil⟩
  | v :: vs, h => by
    obtain ⟨k, hk⟩ := h v List.mem_cons_self
    obtain ⟨ks, hs⟩ := each_tx vs fun v hv => h v (List.mem_cons_of_mem _ hv)
    exact ⟨k :: ks, .cons hk hs⟩
theorem each_mem1 : ∀ {vs : List Value} {ks : List Str}, PySem.W.EachIs TxV vs ks → ∀ k ∈ ks, ∃ v ∈ vs, TxV v k
  | _, _, .nil, k, h => by cases h
  | _, _, .cons r t, k, h => by
    rcases List.mem_cons.mp h with rfl | h
    · exact ⟨_, List.mem_cons_self, r⟩
    · obtain ⟨v, hv, e⟩ := each_mem1 t k h
      exact ⟨v, List.mem_cons_of_mem _ hv, e⟩
theorem each_mem2 : ∀ {vs : List Value} {ks : List Str}, PySem.W.EachIs TxV vs ks → ∀ v ∈ vs, ∃ k ∈ ks, TxV v k
  | _, _, .nil, k, h => by cases h
  | _, _, .cons r t, k, h => by
    rcases List.mem_cons.mp h with rfl | h
    · exact ⟨_, List.mem_cons_self, r⟩
    · obtain ⟨v, hv, e⟩ := each_mem2 t k h
      exact ⟨v, List.mem_cons_of_mem _ hv, e⟩
theorem each_len : ∀ {vs : List Value} {ks : List Str}, PySem.W.EachIs TxV vs ks → vs.length = ks.length
  | _, _, .nil => rfl
  | _, _, .cons _ t => congrArg (· + 1) (each_len t)
theorem each_imp {R R' : Value → Str → Prop} (f : ∀ v k, R v k → R' v k) : ∀ {vs : List Value} {ks : List Str}, PySem.W.EachIs R vs ks → PySem.W.EachIs R' vs ks
  | _, _, .nil => .nil
  | _, _, .cons r t => .cons (f _ _ r) (each_imp f t)
/-- l has no repeats, m as many and all of them -/
theorem perm_cover : ∀ {l m : List Str}, l.Nodup → (∀ x ∈ l, x ∈ m) → m.length = l.length → m.Perm l
  | [], m, _, _, len => by
    obtain rfl : m = [] := List.length_eq_zero_iff.mp len
    exact .refl _
  | x :: r, m, nd, sub, len => by
    have hx := sub x List.mem_cons_self
    have p := List.perm_cons_erase hx
    obtain ⟨n1, n2⟩ := List.nodup_cons.mp nd
    refine p.trans ((perm_cover n2 (fun y hy => ?_) ?_).cons x)
    · have ne : y ≠ x := fun e => n1 (by rw [← e]; exact hy)
      exact (List.mem_erase_of_ne ne).mpr (sub y (List.mem_cons_of_mem _ hy))
    · have e := p.length_eq
      simp only [List.length_cons] at e len
      omega
theorem alike_str (ks : List Str) : PySem.W.AllAlike (ks.map PyData.str) := PySem.W.AllAlike.of fun b b' => rfl
theorem sortable_str (ks : List Str) : PySem.W.Sortable (ks.map PyData.str) := PySem.W.Sortable.others fun b => ⟨fun z => (nomatch z), fun xs z => (nomatch z)⟩
/-- sorted(the set) -/
theorem txset_sorted {Q : Value → Shared → Prop} (R : TxSet P w s.heap a l) (hh : A.handled = none) (hb : l.length < scanBound) (hu : A.units + 190 < cLine)
    (hQ : ∀ (s' : Shared) (p c : Nat) (out : List Value), (∀ b o, s.heap.get? b = some o → s'.heap.get? b = some o) → s'.gens = s.gens → s'.os = s.os → s.heap.objs.size ≤ p → s'.heap.get? p = some (seqObj "list" out.toArray c) → PySem.W.EachIs TxV out (sortS l) → Q (.ref p) s') :
    wpAny (model P w) A (call (.builtin "sorted") [.ref a]) Q E s := by
  obtain ⟨⟨es, ep, t⟩, ho, F, ris, led⟩ := R.ex
  refine Calls.call_function_entry kind_sorted plain_sorted entry_sorted (args_sorted1 _) ?_
  unfold Builtin.«sorted»
  refine wpAny_bind (m := checkCount "sorted" 1 1 _) (wpAny_pure ?_)
  have sz : es.size = l.length := F.sz
  refine wpAny_bind (collect_set (A := A.in1) hh ⟨_, ho, rfl, rfl⟩ F.fit (by rw [sz]; exact hb) ris led fun s1 vs k1 z1 g1 o1 pm => ?_)
  have tx : ∀ v ∈ vs, ∃ k, TxV v k := fun v hv => by
    obtain ⟨e, he, rfl⟩ := List.mem_map.mp (pm.mem_iff.mp hv)
    obtain ⟨⟨k, hk, _⟩, _⟩ := F.el e he
    obtain ⟨u, hu⟩ := Value.isStrOf_shape hk
    exact ⟨k, u, hu⟩
  obtain ⟨ks, hks⟩ := each_tx vs tx
  have vl : vs.length = l.length := by rw [pm.length_eq, List.length_map, Array.length_toList, sz]
  have kl : ks.length = l.length := by rw [← each_len hks, vl]
  have cover : ks.Perm l := by
    refine perm_cover R.nd (fun x hx => ?_) kl
    obtain ⟨e, he, hz⟩ := (F.mem x).mp hx
    have hv : e.2 ∈ vs := pm.mem_iff.mpr (List.mem_map.mpr ⟨e, he, rfl⟩)
    obtain ⟨k, hk, u, hu⟩ := each_mem2 hks _ hv
    obtain ⟨u', hu'⟩ := Value.isStrOf_shape hz
    rw [hu] at hu'
    injection hu' with e1 _
    rw [← e1]
    exact hk
  have zl : vs.length ≤ sizeLine := by
    have : scanBound ≤ sizeLine := by decide
    omega
  refine wpAny_bind (wpAny_newList ?_ zl)
  have hoL : (s1.heap.push (seqObj "list" vs.toArray 0)).get? s1.heap.objs.size = some (seqObj "list" vs.toArray 0) := Heap.get?_push_size _ rfl
  refine wpAny_bind (wpAny_holding ?_)
  refine PySem.W.list_sort_data (R := TxV) (enc := PyData.str) (s := { s1 with heap := s1.heap.push (seqObj "list" vs.toArray 0) }) hoL hks ?_ (alike_str ks) (sortable_str ks) (by rw [kl]; omega) (fun k _ => ?_) fun out ol oe => ?_
  · exact each_imp (fun v k ⟨u, hu⟩ => ⟨[], by rw [hu]; exact .str k u, List.not_mem_nil⟩) hks
  · show A.units + 1 + 1 + 0 < cLine
    omega
  · obtain ⟨c, hc⟩ := sortedHeap_at (vs := vs) (out := out.toArray) hoL
    have oe' : PySem.W.EachIs TxV out (sortS l) := by rw [← sortS_of cover]; exact oe
    refine wpAny_pure ⟨_, rfl, hQ _ s1.heap.objs.size c out (fun b o e => ?_) g1 o1 z1 hc oe'⟩
    have q := k1 b o e
    have lt := Heap.lt_size q
    show (sortedHeap (s1.heap.push (seqObj "list" vs.toArray 0)) s1.heap.objs.size vs out.toArray).get? b = some o
    rw [sortedHeap_old (Nat.ne_of_lt lt) (by rw [size_push']; exact Nat.lt_succ_of_lt lt)]
    exact Heap.get?_push_of_some _ q
end

/-! ### sorted(set(e)) -/
def textsOf : List PyData → Option (List Str)
  | [] => some []
  | .str x :: r => (textsOf r).map (x :: ·)
  | _ :: _ => none
def sortSetP : PyData → Option B
  | .list ds => match textsOf ds with
    | some xs => if xs.length ≤ 4000 then some (.l ((sortS (seen [] xs)).map .str)) else none
    | none => none
  | _ => none
theorem textsOf_eq : ∀ {ds : List PyData} {xs : List Str}, textsOf ds = some xs → ds = xs.map .str
  | [], xs, h => by cases h; rfl
  | .str x :: r, xs, h => by
    cases e : textsOf r with
    | none => simp [textsOf, e] at h
    | some ys =>
      simp [textsOf, e] at h
      subst h
      rw [textsOf_eq e]
      rfl
  | .none :: _, xs, h => by cases h
  | .bool _ :: _, xs, h => by cases h
  | .int _ :: _, xs, h => by cases h
  | .list _ :: _, xs, h => by cases h
  | .tuple _ :: _, xs, h => by cases h
  | .dict _ :: _, xs, h => by cases h
theorem textsOf_map : ∀ xs : List Str, textsOf (xs.map .str) = some xs
  | [] => rfl
  | x :: r => by rw [List.map_cons, textsOf, textsOf_map r]; rfl
/-- the set of texts at a -/
def TxO (P : Program) (w : World) (a : Addr) (l : List Str) : HO := .ext fun h => TxSet P w h a l
theorem txO_new {P : Program} {w : World} {H : Hp} {h : Heap} {a : Addr} {l : List Str} (R : TxSet P w h a l) : ObjOk P w H h a (TxO P w a l) := by
  obtain ⟨D, e, _⟩ := R.ex
  exact ⟨R, ⟨_, e⟩, fun h1 h2 p k => p.keep k⟩
section
variable {X : Cx} {W : WX}
theorem vals_tx {K : PySem.W.Frag} {H : Hp} : ∀ {vs : List V} {xs : List Str} {us : List Value}, FzAll K H vs (xs.map .str) → Vals vs us → us.length = xs.length ∧ ∀ (i : Nat) (v : Value), us[i]? = some v → ∃ k u, xs[i]? = some k ∧ v = .str k u
  | _, [], _, .nil, .nil => ⟨rfl, fun i v h => by simp at h⟩
  | _, x :: r, _, .cons h t, .cons r1 r2 => by
    obtain ⟨e, f⟩ := vals_tx t r2
    refine ⟨by simp [e], fun i v hi => ?_⟩
    cases i with
    | zero =>
      cases hi
      cases h
      obtain ⟨u, rfl⟩ := r1
      exact ⟨x, u, rfl, rfl⟩
    | succ i => exact f i v hi
def rSetTx (K : PySem.W.Frag) (P : Program) (w : World) : List V → Hp → VK → Prop := fun vs H Q => ∃ (a : Addr) (ys : List V) (xs : List Str), vs = [.ref a] ∧ RL K H a ys ∧ FzAll K H ys (xs.map .str) ∧ xs.length ≤ 4000 ∧ ∀ p, H p = none → Q (.ref p) (upd H p (TxO P w p (seen [] xs)))
theorem cr_setTx (hc : X.calm = true) : CallR X (.type "set") (rSetTx X.K X.prog X.w) := fun pins s σ H vs us Q I rv ⟨a, ys, xs, ev, hl, fz, hz, q⟩ => by
  subst ev
  rw [Vals.ref1 rv]
  obtain ⟨its, rl, hl1, _⟩ := I.list hl.sq
  obtain ⟨e, f⟩ := vals_tx fz rl
  have bound : xs.length + 1 < scanBound := by
    have : (4001 : Nat) < scanBound := by decide
    omega
  refine txset_call (items := its.toArray) xs (I.ok.hd hc) hl1.isList (by simpa using e) (fun i v h => f i v (by simpa using h)) bound fun h' tk T kp => ?_
  exact ⟨.ref _, upd H s.heap.objs.size (TxO X.prog X.w s.heap.objs.size (seen [] xs)), I.laid (t' := tk) kp (Nat.le_refl _) (txO_new T), rfl, q _ (I.hok.fresh (Nat.le_refl _))⟩
theorem each_vals : ∀ {out : List Value} {ks : List Str}, PySem.W.EachIs TxV out ks → Vals (ks.map V.str) out
  | _, _, .nil => .nil
  | _, _, .cons ⟨u, e⟩ t => .cons (by rw [e]; exact ⟨u, rfl⟩) (each_vals t)
def rSortTx (P : Program) (w : World) : List V → Hp → VK → Prop := fun vs H Q => ∃ (a : Addr) (l : List Str), vs = [.ref a] ∧ H a = some (TxO P w a l) ∧ l.length ≤ 4000 ∧ ∀ p, H p = none → Q (.ref p) (upd H p (.lst ((sortS l).map V.str)))
theorem cr_sortTx (hc : X.calm = true) (hu : X.A.units + 190 < cLine) : CallR X (.builtin "sorted") (rSortTx X.prog X.w) := fun pins s σ H vs us Q I rv ⟨a, l, ev, ha, hz, q⟩ => by
  subst ev
  rw [Vals.ref1 rv]
  have T : TxSet X.prog X.w s.heap a l := (I.hok a _ ha).1
  have bound : l.length < scanBound := by
    have : (4001 : Nat) < scanBound := by decide
    omega
  refine txset_sorted T (I.ok.hd hc) bound hu fun s' p c out kp g o hp hl he => ?_
  have r := each_vals he
  have ln : ((sortS l).map V.str).length ≤ sizeLine := by
    rw [List.length_map, (sortS_perm l).length_eq]
    have : (4000 : Nat) ≤ sizeLine := by decide
    omega
  refine ⟨.ref p, upd H p (.lst ((sortS l).map V.str)), ?_, rfl, q _ (I.hok.fresh hp)⟩
  obtain ⟨sh, sg, sd, st, so⟩ := s'
  cases o
  exact I.call (g' := sg) (d' := sd) (t' := st) (ch := []) (Un.laid kp hp (I.hok.fresh hp)) (I.hok.laid kp hp ⟨ln, out, c, r, hl⟩) (by rw [show sg = s.gens from g]; exact I.bare) (fun _ z => nomatch z)
theorem fz_tx {K : PySem.W.Frag} {H : Hp} : ∀ ks : List Str, FzAll K H (ks.map V.str) (ks.map PyData.str)
  | [] => .nil
  | k :: r => .cons (.str k) (fz_tx r)
theorem e_sortSet {e : Expr} {p p2 q pos : Pos} {c : Cd} (hc : X.calm = true) (hu : X.A.units + 190 < cLine) (g1 : Gl X "sorted") (m1 : X.mg "sorted" = none) (g2 : Gl X "set") (m2 : X.mg "set" = none) (he : JE X W e c) (pc : Pl c)
    (hs : starEach [e] X.env = (false, eval e X.env) :: starEach [] X.env := by rfl) : JE X W (.Call (.Name "sorted" p) [.Call (.Name "set" p2) [e] [] q] [] pos) (cUn sortSetP c) :=
  pe_weak (pe_callB (cr_sortTx hc hu) g1 m1 (by decide +kernel) (pa_cons (pe_callTy (cr_setTx hc) g2 m2 (by decide +kernel) (pa_cons he pa_nil hs) (by decide) (by decide) hs rfl) pa_nil)) fun σ H Q h => by
    obtain ⟨ρ, er, f0⟩ := h
    refine ⟨ρ, er, Fin.part f0 fun hd ρ1 c1 f1 v H1 p dn => ?_⟩
    cases e1 : hd.rd ρ1 with
    | none => rw [e1] at f1; exact f1.elim
    | some x =>
      rw [e1] at f1
      simp only at f1
      have hx := dn.vw (pc _ _ _ c1) p.env (Pst.refl p.env) e1
      cases x with
      | list ds =>
        cases hx with
        | lst hl fz =>
          cases e2 : textsOf ds with
          | none => simp only [sortSetP, e2] at f1; exact f1.elim
          | some xs =>
            simp only [sortSetP, e2] at f1
            split at f1
            · rename_i hz
              rw [textsOf_eq e2] at fz
              refine ⟨_, _, xs, rfl, hl, fz, hz, fun r hr => ⟨r, seen [] xs, rfl, upd_same, ?_, fun r2 hr2 => ?_⟩⟩
              · have := seen_len xs []
                simp only [List.length_nil, Nat.zero_add] at this
                omega
              · refine NewB.fin (b := .l ((sortS (seen [] xs)).map .str)) p ⟨fun b o h => ?_, r2, _, rfl, upd_same, fz_tx _, ?_⟩ f1
                · have h1 := grow_upd (o := TxO X.prog X.w r (seen [] xs)) hr b o h
                  exact grow_upd hr2 b o h1
                · cases z : H1 r2 with
                  | none => rfl
                  | some o =>
                    have h1 := grow_upd (o := TxO X.prog X.w r (seen [] xs)) hr r2 o z
                    rw [hr2] at h1
                    cases h1
            · exact f1.elim
      | _ => exact f1.elim
end
end Sv
end
section
set_option autoImplicit false
set_option linter.all false
set_option maxRecDepth 100000
set_option maxHeartbeats 1000000
/-! Sv: more of texts and tuples: x == (), x * k, text.startswith(z, i). -/
namespace Sv
open PySem PySem.Spec L2
open PyProof.Rows hiding St
variable [HasT]

/-! ### x == () -/
def eq0B (a b : PyData) : Option Bool :=
  match a, b with
  | .tuple xs, .tuple [] => some xs.isEmpty
  | a, b => eqB a b
def eq0P (a b : PyData) : Option B := (eq0B a b).map fun k => .d (.bool k)
section
variable {X : Cx} {W : WX}
theorem o_eq0 (hu : X.A.units + 190 < cLine) : OpR X (compareOp .Eq) (rB2 X.K eq0P) := opr fun pins s σ H x y v u a b r Q I rx ry ha hb e q => by
  unfold eq0P eq0B at e
  split at e
  · rename_i xs
    cases e
    cases ha with
    | @tup a1 ys1 ds1 h1 t1 =>
      cases hb with
      | @tup a2 ys2 ds2 h2 t2 =>
        cases rx
        cases ry
        obtain ⟨i1, r1, e1, _⟩ := I.tuple h1
        obtain ⟨i2, r2, e2, _⟩ := I.tuple h2
        cases t2
        cases r2
        have l1 : i1.length = xs.length := by rw [← r1.length, t1.length]
        refine PySem.SeqAt.eq_tupleAt (e := fun _ => true) e1 e2 (by omega) (fun j _ z => absurd z (by simp)) ?_
        have ev : ((List.range (min i1.toArray.size ([] : List Value).toArray.size)).all (fun _ => true) && i1.toArray.size == ([] : List Value).toArray.size) = xs.isEmpty := by
          cases xs with
          | nil => simp at l1; simp [l1]
          | cons z r =>
            cases i1 with
            | nil => simp at l1
            | cons z' r' => simp
        rw [ev]
        exact fin_b I q
  · exact o_eq hu pins s σ H x y v u Q I rx ry ⟨a, b, r, ha, hb, e, q⟩
theorem hp_eq0 : ∀ x y r, eq0P x y = some r → ∃ z, r = .d z := fun x y r h => by
  unfold eq0P at h
  cases e : eq0B x y with
  | none => rw [e] at h; cases h
  | some k => rw [e] at h; cases h; exact ⟨_, rfl⟩
end

/-! ### x * k -/
/-- k times the text -/
def repS (x : Str) (k : Nat) : Str := ⟨(List.replicate k x.cps).foldl (· ++ ·) #[]⟩
def mulQ (a b : PyData) : Option B :=
  match a, b with
  | .tuple xs, .int k => if xs ≠ [] ∧ -1000 ≤ k ∧ k ≤ 1000 ∧ xs.length ≤ 1000 then some (.d (.tuple (List.replicate k.toNat xs).flatten)) else none
  | .str x, .int k => if 2 ≤ k ∧ k ≤ 10000 ∧ 0 < x.length ∧ x.length ≤ 100 then some (.d (.str (repS x k.toNat))) else none
  | a, b => mulP a b
section
variable {X : Cx} {W : WX}
theorem tup_mul1 (l : Addr) (items : Array Value) (n : Nat) (dd : Option Addr) (sl : Array (Option Value)) (u : Tok) :
    Meets (Builtin.«tuple.__mul__» ⟨[.ref l, .int 1 u], []⟩) (fun _ R s => s.heap.get? l = some { cls := .type "tuple", dict := dd, data := .seq items n, slots := sl } ∧ R (.ok (.ret (Value.ref l))) s) :=
  .of_wp fun prog w A R s h => by
    obtain ⟨hp, g, d, tk, os⟩ := s
    obtain ⟨hl, h⟩ := h
    have f1 := AutoSeq1.idx_int
    have c1 : (items.isEmpty || (1 : Int) == 1) = true := by simp
    wp_walk using wpAny_loadPart' hl
    exact ⟨_, rfl, h⟩
theorem tup_mul0 (l : Addr) (items : Array Value) (n : Nat) (dd : Option Addr) (sl : Array (Option Value)) (k : Int) (u : Tok) (c0 : (decide (k < -(2 ^ 63)) || decide (k ≥ 2 ^ 63)) = false) (c1 : (items.isEmpty || k == 1) = false) (c2 : (decide (k ≤ 0) || items.isEmpty) = true) :
    Meets (Builtin.«tuple.__mul__» ⟨[.ref l, .int k u], []⟩) (fun _ R s => s.heap.get? l = some { cls := .type "tuple", dict := dd, data := .seq items n, slots := sl } ∧
      R (.ok (.ret (Value.ref s.heap.objs.size))) { s with heap := s.heap.push { cls := Value.type "tuple", data := Data.seq #[] }, toks := s.toks }) :=
  .of_wp fun prog w A R s h => by
    obtain ⟨hp, g, d, tk, os⟩ := s
    obtain ⟨hl, h⟩ := h
    have f1 := AutoSeq1.idx_int
    wp_walk using wpAny_loadPart' hl
    refine wpAny_ite_false (decide_eq_false (by rw [c0]; exact Bool.false_ne_true)) ?_
    wp_walk using wpAny_loadPart' hl
    exact ⟨_, rfl, h⟩
theorem rep_len (x : Str) (k : Nat) : (repS x k).length = k * x.length := by
  have : ∀ (k : Nat) (acc : Array Nat), ((List.replicate k x.cps).foldl (· ++ ·) acc).size = acc.size + k * x.cps.size := fun k => by
    induction k with
    | zero => intro acc; simp
    | succ k ih => intro acc; rw [List.replicate_succ, List.foldl_cons, ih, Array.size_append, Nat.succ_mul]; omega
  have h := this k #[]
  simpa [repS, Str.length] using h
theorem o_mulQ : OpR X (binaryOp .Mult) (rB2 X.K mulQ) := opr fun pins s σ H x y v u a b r Q I rx ry ha hb e q => by
  unfold mulQ at e
  split at e
  · rename_i xs k
    split at e
    · rename_i hc
      cases e
      obtain ⟨c1, c2, c3, c4⟩ := hc
      by_cases hk : 2 ≤ k
      · exact o_mul pins s σ H x y v u Q I rx ry ⟨_, _, _, ha, hb, by unfold mulP; exact if_pos ⟨c1, hk, c3, c4⟩, q⟩
      · cases ha with
        | @tup a1 ys1 ds1 h1 t1 =>
          cases hb with
          | int k' =>
            cases rx
            obtain ⟨t, rfl⟩ := ry
            obtain ⟨its, r1, ⟨⟨cls, dd, data, sl⟩, ho, hc, n, hd⟩, hs⟩ := I.tuple h1
            simp only at hc hd
            subst hc hd
            have ne : its.toArray.isEmpty = false := by
              cases its with
              | nil =>
                have := r1.length
                rw [t1.length] at this
                exact absurd (List.eq_nil_of_length_eq_zero this) c1
              | cons z r => rfl
            have road : ∀ (Q' : Value → Shared → Prop), wpAny (model X.prog X.w) X.A (call (.builtin "tuple.__mul__") [.ref a1, .int k t]) Q' X.xe s → wpAny (model X.prog X.w) X.A (binaryOp .Mult (.ref a1) (.int k t)) Q' X.xe s := fun Q' h =>
              wpAny_binaryOp_repeat_ref (T := "tuple") (U := "int") (by decide) ⟨_, ho, rfl⟩ (fun s' => typeIs_int s' k t) noFill_tuple_mul F.fills_int_mul F.slot_int_rmul repeat_tuple F.slot_int_index.lookup
                (call_meets F.slot_int_rmul (typeIs_int s k t) F.entry_int_rmul (F.args_int_rmul_2 _ _) (int_rmul_tuple k t a1 its.toArray n dd sl) ⟨ho, rfl, ⟨_, ho, rfl⟩, h⟩)
            refine road _ ?_
            by_cases h1k : k = 1
            · subst h1k
              refine call_meets F.slot_tuple_mul ⟨_, ho, rfl⟩ F.entry_tuple_mul (F.args_tuple_mul_2 _ _) (tup_mul1 a1 its.toArray n dd sl t) ⟨ho, ?_⟩
              have ev : (List.replicate (1 : Int).toNat xs).flatten = xs := by simp
              rw [ev] at q
              exact ⟨.ref a1, H, I, rfl, q _ _ (nb_fz (.tup h1 t1))⟩
            · have c0 : (decide (k < -(2 ^ 63)) || decide (k ≥ 2 ^ 63)) = false := by
                rw [decide_eq_false (by omega), decide_eq_false (by omega)] <;> rfl
              have d1 : (its.toArray.isEmpty || k == 1) = false := by
                rw [ne, Bool.false_or]
                exact beq_eq_false_iff_ne.mpr h1k
              have d2 : (decide (k ≤ 0) || its.toArray.isEmpty) = true := by
                rw [decide_eq_true (by omega)] <;> rfl
              refine call_meets F.slot_tuple_mul ⟨_, ho, rfl⟩ F.entry_tuple_mul (F.args_tuple_mul_2 _ _) (tup_mul0 a1 its.toArray n dd sl k t c0 d1 d2) ⟨ho, ?_⟩
              have ev : (List.replicate k.toNat xs).flatten = [] := by
                rw [show k.toNat = 0 by omega] <;> rfl
              rw [ev] at q
              have hf : H s.heap.objs.size = none := I.hok.fresh (Nat.le_refl _)
              refine ⟨.ref s.heap.objs.size, _, I.laid (t' := s.toks) (o := .tup []) (fun b ob q => Heap.get?_push_of_some _ q) (Nat.le_refl _) ⟨Nat.zero_le _, [], .nil, IsTup.new _ _⟩, rfl, q _ _ (new_tup hf .nil)⟩
    · cases e
  · rename_i z k
    split at e
    · rename_i hc
      cases e
      obtain ⟨c1, c2, c3, c4⟩ := hc
      cases ha with
      | str z' =>
        cases hb with
        | int k' =>
          obtain ⟨t1, rfl⟩ := rx
          obtain ⟨t2, rfl⟩ := ry
          have zl : (z.length : Int) ≤ 100 := by omega
          refine PySem.P.mul_str (by rw [decide_eq_false (by omega), decide_eq_false (by omega)] <;> rfl) (fun _ _ => ?_) (fun _ _ => ?_) ?_
          · have : (100 : Int) ≤ (2 ^ 63 - 1) / k := by
              refine Int.le_ediv_of_mul_le (by omega) ?_
              omega
            omega
          · have : z.length * k.toNat ≤ 100 * 10000 := Nat.mul_le_mul c4 (by omega)
            unfold Builtin.Str.tooLong
            rw [decide_eq_false_iff_not]
            have : sizeLine = 16777216 := by decide
            omega
          · have n1 : ¬ k < 1 := by omega
            have n2 : ¬ (k == 1 || z.length == 0) = true := by
              simp only [Bool.or_eq_true, beq_iff_eq, not_or]
              omega
            rw [if_neg n1, if_neg n2]
            refine ⟨?_, .str (repS z k.toNat), H, I.tok _, ⟨_, rfl⟩, q _ _ (nb_str _)⟩
            have l := rep_len z k.toNat
            have m : k.toNat * z.length ≤ 10000 * 100 := Nat.mul_le_mul (by omega) c4
            have : sizeLine = 16777216 := by decide
            show (repS z k.toNat).length ≤ sizeLine
            omega
    · cases e
  · exact o_mul pins s σ H x y v u Q I rx ry ⟨a, b, r, ha, hb, e, q⟩
/-! ### text.startswith(z, i) -/
def cStarts (z : Str) (a b : Cd) : Cd := fun e => (a e).bind fun x e1 =>
  match x.rd e1 with
  | some (.str t) => (b e1).bind fun y e2 => match y.rd e2 with
    | some (.int j) => .ok (.v (.d (.bool (Txt.startswith3 t z j)))) e2
    | _ => .no
  | _ => .no
theorem e_starts {o e : Expr} {z : Str} {a b : Cd} {j : Nat} {pc apos cpos : Pos} (ho : JE X W o a) (pa : Pl a) (he : JE X W e b) (pb : Pl b)
    (hs2 : starEach [e] X.env = (false, eval e X.env) :: starEach [] X.env := by rfl)
    (hbase : attributeBase o "startswith" X.env (eval o X.env) = eval o X.env := by rfl)
    (hfew : ((backTo cpos (starEach [.Constant (.str z) j pc, e] X.env)).all (fun x => !x.1) && (backToKw cpos (keywordEach [] X.env)).all (fun x => x.1.isSome)
      && decide (([.Constant (.str z) j pc, e] : List Expr).length + ([] : List Keyword).length + (if ([] : List Keyword).isEmpty then 0 else 1) < 30)) = true := by rfl)
    (hline : (apos.endLine == cpos.line) = true := by rfl) (hs : starEach [.Constant (.str z) j pc, e] X.env = (false, eval (.Constant (.str z) j pc) X.env) :: starEach [e] X.env := by rfl) (hpl : (backTo cpos (starEach [e] X.env)).any (·.1) = false := by rfl) :
    JE X W (.Call (.Attribute o "startswith" apos) [.Constant (.str z) j pc, e] [] cpos) (cStarts z a b) :=
  pe_weak (pe_bm PySem.F.plainAttrs_str PySem.F.slot_str_startswith PySem.F.type_str_startswith mt_startswith3 ho (pa_cons pe_str (pa_cons he pa_nil hs2) hs) hbase hfew hline hs hpl) fun σ H Q h => by
    obtain ⟨ρ, er, f0⟩ := h
    refine ⟨ρ, er, Fin.part f0 fun hd ρ1 c1 f1 v H1 p dn => ?_⟩
    cases e1 : hd.rd ρ1 with
    | none => rw [e1] at f1; exact f1.elim
    | some x =>
      rw [e1] at f1
      have hx := dn.vw (pa _ _ _ c1) p.env (Pst.refl p.env) e1
      cases x with
      | str t =>
        cases hx
        refine ⟨rfl, ρ1, p.env, Fin.part (Fin.laterC p f1) fun hd2 ρ2 c2 f2 v2 H2 p2 dn2 => ?_⟩
        cases e2 : hd2.rd ρ2 with
        | none => rw [e2] at f2; exact f2.elim
        | some y =>
          rw [e2] at f2
          have hy := dn2.vw (pb _ _ _ c2) p2.env (Pst.refl p2.env) e2
          cases y with
          | int i =>
            cases hy
            exact ⟨t, z, i, rfl, rfl, (nb_bl _).fin p2 f2⟩
          | _ => exact f2.elim
      | _ => exact f1.elim
end
end Sv
end
section
set_option autoImplicit false
set_option linter.all false
set_option maxRecDepth 100000
set_option maxHeartbeats 1000000
/-! Sv: [c for t in w for t1 in w1]. -/
namespace Sv
open PySem PySem.Spec L2
open PyProof.Rows hiding St
variable [HasT]

def comp2L (vs vs1 : List Nat) (t : Gd) (w1 : Wd) (t1 : Gd) (c : Cd) : List PyData → Env → R (List PyData)
  | [], e => .ok [] e
  | x :: xs, e => match t x e with
    | .nx e1 => match w1 e1 with
      | .ok ys e2 => match compL vs1 t1 tYes c ys (wipeE e2 vs1) with
        | .ok zs e3 => match comp2L vs vs1 t w1 t1 c xs (wipeE e3 vs) with
          | .ok rs e4 => .ok (zs ++ rs) e4
          | _ => .no
        | _ => .no
      | _ => .no
    | _ => .no
def cComp2 (vs vs1 : List Nat) (w : Wd) (t : Gd) (w1 : Wd) (t1 : Gd) (c : Cd) : Cd := fun e => (w e).bind fun xs e1 =>
  match comp2L vs vs1 t w1 t1 c xs (wipeE e1 vs) with
  | .ok ys e2 => if ys.length ≤ sizeLine then .ok (.v (.l ys)) (restE e1 e2 vs) else .no
  | _ => .no
section
variable {X : Cx} {W : WX} {K : PySem.W.Frag} {mg : Str → Option Value}
/-- a walk whose items go to the list at D -/
theorem comp_go {H0 H1 : Hp} {σ0 σ : St} {ρ0 ρ1 ρe : Env} {vs io : List Nat} {t : Gd} {tt : Td} {c : Cd} {xs zs acc0 : List PyData} {av0 : List V} {J : It} {D : Addr} {Nx : Hp → Prop} (tm : Tame t) (hio : ∀ j, j < σ.length → j ∉ vs → j ∈ io) (hD : H0 D = none)
    (p : Pst K H0 σ0 ρ0 H1 (L2.wipe σ vs) (wipeE ρ1 vs)) (wk : WalkJ K H1 J xs) (hv0 : H1 D = some (.lst av0)) (hx0 : FzAll K H1 av0 acc0) (no0 : ¬ Own (L2.wipe σ vs) (wipeE ρ1 vs) D) (hl : acc0.length + zs.length ≤ sizeLine) (ez : compL vs t tt c xs (wipeE ρ1 vs) = .ok zs ρe)
    (fin : ∀ H' av, (∀ a o, H1 a = some o → stays o = true → H' a = some o) → Pst K H0 σ0 ρ0 H' (L2.wipe σ vs) ρe → H' D = some (.lst av) → FzAll K H' av (acc0 ++ zs) → ¬ Own (L2.wipe σ vs) ρe D → Nx H') :
    ∃ W : Nat → Nat → Hp → Prop, (∃ m, W 0 m H1) ∧ ∀ i m H, W i m H → (J.stop i H ∧ Nx H) ∨ (J.go i H ∧ ∃ Nx1 : Hp → Prop, (∀ H', Nx1 H' → ∃ m', m' < m ∧ W (i + 1) m' H') ∧ ∀ x H', J.yld i H x H' → tG K io t x (L2.wipe σ vs) H' fun σ2 H2 => L2.wipe σ2 vs = L2.wipe σ vs ∧ tT K mg WF tt σ2 H2 fun b H3 =>
      if b = true then tC K mg WF (cE c) σ2 H3 fun y H4 => ∃ acc, H4 D = some (.lst acc) ∧ acc.length < sizeLine ∧ Nx1 (upd H4 D (.lst (acc ++ [y]))) else Nx1 H3) := by
  /- behind i items -/
  let At (i : Nat) (H' : Hp) : Prop := (∀ a o, H1 a = some o → stays o = true → H' a = some o) ∧ ∃ (ρ' : Env) (acc ys : List PyData) (av : List V), Pst K H0 σ0 ρ0 H' (L2.wipe σ vs) ρ' ∧ H' D = some (.lst av) ∧ FzAll K H' av acc ∧ compL vs t tt c (xs.drop i) ρ' = .ok ys ρe ∧ acc0 ++ zs = acc ++ ys ∧ ¬ Own (L2.wipe σ vs) ρ' D
  refine ⟨fun i m H' => m + i = xs.length ∧ At i H', ⟨xs.length, rfl, fun a o h _ => h, _, acc0, zs, av0, p, hv0, hx0, ez, rfl, no0⟩, fun i m H' ⟨hm, k, ρ', acc, ys, av, q, hv, hx, ec, ezs, no⟩ => ?_⟩
  obtain ⟨w1, w2, w3⟩ := wk i H' k
  by_cases hi : i < xs.length
  · rw [List.drop_eq_getElem_cons hi] at ec
    obtain ⟨o, ρn, ys', c1, c2, c3⟩ := compL_cons ec
    refine .inr ⟨w2 hi, At (i + 1), fun H2 z => ⟨m - 1, by omega, by omega, z⟩, fun v H2 hy => ?_⟩
    obtain ⟨fz, gr⟩ := w3 v H2 hy xs[i] (List.getElem?_eq_getElem hi)
    have p2 := Pst.grow q.env gr
    refine ⟨ρ', xs[i], p2.env, fz, ?_⟩
    unfold comp1 at c1
    rcases tm xs[i] ρ' with ⟨ρa, ea⟩ | ea
    · rw [ea] at c1 ⊢
      intro σ3 H3 p3 x3
      have we := wipe_same x3 hio
      refine ⟨we, ρa, p3.env, ?_⟩
      simp only at c1
      have turnEnd : ∀ {ρb : Env} {H4 : Hp} {acc' : List PyData} {av' : List V}, Pst K H3 σ3 ρa H4 σ3 ρb → compL vs t tt c (xs.drop (i + 1)) (wipeE ρb vs) = .ok ys' ρe → acc0 ++ zs = acc' ++ ys' → FzAll K H4 av' acc' → ∀ H5 : Hp, (H5 = H4 ∧ av' = av ∨ H5 = upd H4 D (.lst av')) → At (i + 1) H5 := by
        intro ρb H4 acc' av' p4 g1 g2 g4 H5 g5
        have pt := (p2.trans p3).trans p4
        have pe := wipe_of_eq we pt
        have hD4 : H4 D = some (.lst av) := pe.keep D _ hv rfl no
        have no4 : ¬ Own (L2.wipe σ vs) (wipeE ρb vs) D := fun z => (pe.own D z).elim no fun z => z.no hv rfl
        have p1 := q.trans pe
        have st4 : ∀ a o, H1 a = some o → stays o = true → H4 a = some o := fun a o h s => pe.stay q.env a o (k a o h s) s
        rcases g5 with ⟨rfl, rfl⟩ | rfl
        · exact ⟨st4, _, acc', ys', av', p1, hD4, g4, g1, g2, no4⟩
        · refine ⟨fun a o h s => stay_chg hD4 a o (st4 a o h s) s, _, acc', ys', av', ⟨p1.env.chg av' hD4 no4, fun b o h f n => ?_, p1.own⟩, upd_same, g4.keep (stay_chg hD4), g1, g2, no4⟩
          have ne : b ≠ D := fun z => by rw [z, hD] at h; cases h
          rw [upd_ne ne]
          exact p1.keep b o h f n
      cases eb : tt ρa with
      | ex _ _ => rw [eb] at c1; cases c1
      | no => rw [eb] at c1; cases c1
      | ok kb ρb =>
        rw [eb] at c1
        intro kb' H4 p4 ekb
        subst ekb
        cases kb' with
        | false =>
          simp only at c1
          cases c1
          exact turnEnd p4 c2 (by rw [ezs, c3]; rfl) (hx.keep (((p2.trans p3).trans p4).stay q.env)) H4 (.inl ⟨rfl, rfl⟩)
        | true =>
          simp only at c1
          refine ⟨ρb, p4.env, ?_⟩
          cases ey : cE c ρb with
          | ex _ _ => rw [ey] at c1; cases c1
          | no => rw [ey] at c1; cases c1
          | ok hd ρc =>
            rw [ey] at c1
            match hd, c1 with
            | .s _, c1 => cases c1
            | .v (.l _), c1 => cases c1
            | .v (.d y), c1 =>
              simp only at c1
              cases c1
              intro vy H5 p5 dn
              have p6 := p4.trans p5
              have pt := (p2.trans p3).trans p6
              have hx5 := hx.keep (pt.stay q.env)
              have hD5 : H5 D = some (.lst av) := (wipe_of_eq we pt).keep D _ hv rfl no
              refine ⟨av, hD5, ?_, turnEnd p6 c2 (by rw [ezs, c3]; simp) (hx5.append (.cons dn .nil)) _ (.inr rfl)⟩
              have e := congrArg List.length ezs
              rw [c3] at e
              simp at e
              rw [hx.length]
              omega
    · rw [ea] at c1; cases c1
  · refine .inl ⟨w1 (by omega), ?_⟩
    rw [List.drop_eq_nil_of_le (by omega)] at ec
    cases ec
    rw [List.append_nil] at ezs
    rw [← ezs] at hx
    exact fin H' av k q hv hx no
theorem comp2L_cons {vs vs1 : List Nat} {t t1 : Gd} {w1 : Wd} {c : Cd} {x : PyData} {xs : List PyData} {e e4 : Env} {rs : List PyData} (h : comp2L vs vs1 t w1 t1 c (x :: xs) e = .ok rs e4) :
    ∃ e1 ys e2 zs e3 qs, t x e = .nx e1 ∧ w1 e1 = .ok ys e2 ∧ compL vs1 t1 tYes c ys (wipeE e2 vs1) = .ok zs e3 ∧ comp2L vs vs1 t w1 t1 c xs (wipeE e3 vs) = .ok qs e4 ∧ rs = zs ++ qs := by
  unfold comp2L at h
  cases h1 : t x e with
  | nx e1 =>
    rw [h1] at h
    simp only at h
    cases h2 : w1 e1 with
    | ok ys e2 =>
      rw [h2] at h
      simp only at h
      cases h3 : compL vs1 t1 tYes c ys (wipeE e2 vs1) with
      | ok zs e3 =>
        rw [h3] at h
        simp only at h
        cases h4 : comp2L vs vs1 t w1 t1 c xs (wipeE e3 vs) with
        | ok qs e5 =>
          rw [h4] at h
          simp only at h
          cases h
          exact ⟨e1, ys, e2, zs, e3, qs, rfl, h2, h3, h4, rfl⟩
        | ex _ _ => rw [h4] at h; cases h
        | no => rw [h4] at h; cases h
      | ex _ _ => rw [h3] at h; cases h
      | no => rw [h3] at h; cases h
    | ex _ _ => rw [h2] at h; cases h
    | no => rw [h2] at h; cases h
  | _ => rw [h1] at h; cases h
theorem wipe_wipe {σ : St} {vs : List Nat} : ∀ (us : List Nat), (∀ i ∈ us, i ∈ vs) → L2.wipe (L2.wipe σ us) vs = L2.wipe σ vs
  | [], _ => rfl
  | u :: us, h => by
    show L2.wipe ((L2.wipe σ us).set u none) vs = _
    rw [wipe_set (h u List.mem_cons_self)]
    exact wipe_wipe us fun i hi => h i (List.mem_cons_of_mem _ hi)
theorem comp2_fin {σ : St} {H : Hp} {Q : VK} {vs vs1 io io1 : List Nat} {w w1 : Wd} {t t1 : Gd} {c : Cd} (tm : Tame t) (tm1 : Tame t1) (hio : ∀ j, j < σ.length → j ∉ vs → j ∈ io) (hio1 : ∀ j, j < σ.length → j ∉ vs1 → j ∈ io1) (sub : ∀ i ∈ vs1, i ∈ vs)
    (h : tC K mg W (cComp2 vs vs1 w t w1 t1 c) σ H Q) : tLc2 (tI K mg W w) (tG K io t) (tT K mg WF Sv.tYes) (tI K mg WF w1) (tG K io1 t1) (tT K mg WF Sv.tYes) (tC K mg WF (cE c)) vs vs1 σ H Q := by
  obtain ⟨ρ, er, f⟩ := h
  refine ⟨ρ, er, Fin.part f fun xs ρ1 _ f1 J H1 p wk => ?_⟩
  intro D hD
  cases ez : comp2L vs vs1 t w1 t1 c xs (wipeE ρ1 vs) with
  | ex _ _ => rw [ez] at f1; exact f1.elim
  | no => rw [ez] at f1; exact f1.elim
  | ok zs ρe =>
    rw [ez] at f1
    simp only at f1
    split at f1
    case isFalse => exact f1.elim
    rename_i hl
    have ew := p.env.wipe vs
    let At (i : Nat) (H' : Hp) : Prop := ∃ (ρ' : Env) (acc ys : List PyData) (av : List V), Pst K H1 (L2.wipe σ vs) (wipeE ρ1 vs) H' (L2.wipe σ vs) ρ' ∧ H' D = some (.lst av) ∧ FzAll K H' av acc ∧ comp2L vs vs1 t w1 t1 c (xs.drop i) ρ' = .ok ys ρe ∧ zs = acc ++ ys ∧ ¬ Own (L2.wipe σ vs) ρ' D
    refine ⟨fun i m H' => m + i = xs.length ∧ At i H', ⟨xs.length, rfl, _, [], zs, [], Pst.grow ew (grow_upd hD), upd_same, .nil, ez, rfl, fun z => ?_⟩, fun i m H' ⟨hm, ρ', acc, ys, av, q, hv, hx, ec, ezs, no⟩ => ?_⟩
    · obtain ⟨_, z1⟩ := ew.owned z
      rw [hD] at z1
      cases z1
    · obtain ⟨j1, j2, j3⟩ := wk i H' (q.stay ew)
      by_cases hi : i < xs.length
      · rw [List.drop_eq_getElem_cons hi] at ec
        obtain ⟨ρa, ins, ρb, zi, ρc, qs, c1, c2, c3, c4, c5⟩ := comp2L_cons ec
        refine .inr ⟨j2 hi, At (i + 1), fun H2 z => ⟨m - 1, by omega, by omega, z⟩, fun v H2 hy => ?_⟩
        obtain ⟨fz, gr⟩ := j3 v H2 hy xs[i] (List.getElem?_eq_getElem hi)
        have p2 := Pst.grow q.env gr
        refine ⟨ρ', xs[i], p2.env, fz, ?_⟩
        rw [c1]
        intro σ3 H3 p3 x3
        have we := wipe_same x3 hio
        have l3 : σ3.length = σ.length := by rw [x3.len, wipe_length]
        refine ⟨we, ρa, p3.env, fun b H4 p4 eb => ?_⟩
        subst eb
        refine ⟨ρa, p4.env, ?_⟩
        rw [c2]
        intro J1 H5 p5 wk1
        have pt := ((p2.trans p3).trans p4).trans p5
        have pI := wipe_of_eq (vs := vs1) (σ := σ3) rfl (q.trans pt)
        have hD5 : H5 D = some (.lst av) := pt.keep D _ hv rfl no
        have noI : ¬ Own (L2.wipe σ3 vs1) (wipeE ρb vs1) D := fun z => by
          rcases (wipe_of_eq (vs := vs1) (σ := σ3) rfl pt).own D z with z | z
          · exact no z
          · exact z.no hv rfl
        have len : acc.length + zi.length ≤ sizeLine := by
          rw [ezs, c5] at hl
          simp at hl
          omega
        refine comp_go (H0 := H1) (σ := σ3) tm1 (by rw [l3]; exact hio1) hD pI wk1 hD5 (hx.keep (pt.stay q.env)) noI len c3 fun H6 av6 st6 p6 h6 x6 no6 => ?_
        have ws : L2.wipe (L2.wipe σ3 vs1) vs = L2.wipe σ vs := (wipe_wipe vs1 sub).trans we
        refine ⟨_, acc ++ zi, qs, av6, wipe_of_eq ws p6, h6, x6, c4, by rw [ezs, c5, List.append_assoc], fun z => ?_⟩
        rcases (wipe_of_eq ws (Pst.refl p6.env)).own D z with z | z
        · exact no6 z
        · exact z.no h6 rfl
      · refine .inl ⟨j1 (by omega), ?_⟩
        rw [List.drop_eq_nil_of_le (by omega)] at ec
        cases ec
        rw [List.append_nil] at ezs
        subst ezs
        have pr := Pst.rest p.env q
        refine f1 (.ref D) H' (p.trans pr) (DenR.start p (?_ : DenR K H1 σ ρ1 H' σ (restE ρ1 ρe vs) (.ref D) (.v (.l zs))))
        refine ⟨D, av, rfl, hv, hx, fun z => ?_, .inr (.of hD)⟩
        obtain ⟨i', zs', z1, z2⟩ := z
        have hll : ρ1.length = ρe.length := by
          have e1 := q.env.len
          rw [wipe_length, ← p.env.len] at e1
          exact e1.symm
        rcases restE_get ρ1 ρe hll vs i' with ⟨n1, n2⟩ | ⟨n1, n2⟩
        · rw [n2] at z1
          rcases wipe_get σ vs i' with ⟨_, e'⟩ | ⟨a', _⟩
          · exact no ⟨i', zs', z1, by rw [e']; exact z2⟩
          · exact n1 a'
        · rw [n2] at z1
          obtain ⟨_, z3⟩ := p.env.owned ⟨i', zs', z1, z2⟩
          rw [hD] at z3
          cases z3
/-- [elt for tg in iter for tg1 in iter1] -/
theorem e_comp2 {elt tg iter tg1 iter1 : Expr} {scope : Scope} {own : List (Str × Nat)} {vs1 : List Nat} {pos : Pos} {w w1 : Wd} {t t1 : Gd} {c : Cd} {io io1 : List Nat} (hc : X.calm = true) (hN : X.N.Nodup) (hi : JI X W tg iter w) (ok : BlkOk X.N X.env.scope scope own) (sub : ∀ i ∈ vs1, i ∈ own.map (·.2))
    (hg : ∀ (s : Shared) (H : Hp) (C : Addr) (cl : List (Str × Addr)) (fp : List Addr), JG (X.blk s H scope (compEnvC scope cl C X.env) fp) io tg t)
    (hi1 : ∀ (s : Shared) (H : Hp) (C : Addr) (cl : List (Str × Addr)) (fp : List Addr), JI (X.blk s H scope (compEnvC scope cl C X.env) fp) WF tg1 iter1 w1)
    (hg1 : ∀ (s : Shared) (H : Hp) (C : Addr) (cl : List (Str × Addr)) (fp : List Addr), JG (X.blk s H scope (compEnvC scope cl C X.env) fp) io1 tg1 t1)
    (he : ∀ (s : Shared) (H : Hp) (C : Addr) (cl : List (Str × Addr)) (fp : List Addr), JE (X.blk s H scope (compEnvC scope cl C X.env) fp) WF elt c)
    (hio : ∀ j, j < X.N.length → j ∉ own.map (·.2) → j ∈ io) (hio1 : ∀ j, j < X.N.length → j ∉ vs1 → j ∈ io1) (tm : Tame t) (tm1 : Tame t1) (hs : ∀ x, foldedSetIterable iter X.env x = pure x := by intro _; rfl) (hs1 : ∀ env x, foldedSetIterable iter1 env x = pure x := by intro _ _; rfl) :
    JE X W (.ListComp elt [⟨tg, iter, [], 0⟩, ⟨tg1, iter1, [], 0⟩] scope pos) (cComp2 (own.map (·.2)) vs1 w t w1 t1 c) := by
  refine ⟨fun pins s σ H Q I h => ?_⟩
  exact (pe_lc2 hc hN hi ok sub (fun s H C cl fp => (hg s H C cl fp).pg) (fun _ _ _ _ _ => ts_nil) hi1 (fun s H C cl fp => (hg1 s H C cl fp).pg) (fun _ _ _ _ _ => ts_nil) (fun s H C cl fp => e_hold (he s H C cl fp)) hs hs1).run pins s σ H Q I
    (comp2_fin tm tm1 (by rw [I.len]; exact hio) (by rw [I.len]; exact hio1) sub h)
end
end Sv
end
section
set_option autoImplicit false
set_option linter.all false
set_option maxRecDepth 100000
/-! Sv: a tuple of texts that a global names; what the head says of it. -/
namespace Sv
open PySem PySem.Spec L2
open PyProof.Rows hiding St
variable [HasT]

def txB : List Value → List Str → Bool
  | [], [] => true
  | .str x _ :: r, y :: ys => decide (x = y) && txB r ys
  | _, _ => false
theorem txB_ok : ∀ {us : List Value} {ks : List Str}, txB us ks = true → Vals (ks.map V.str) us
  | [], [], _ => .nil
  | u :: r, y :: ys, h => by
    cases u with
    | str x t =>
      have q := (Bool.and_eq_true _ _).mp h
      have e := of_decide_eq_true q.1
      subst e
      exact .cons ⟨t, rfl⟩ (txB_ok q.2)
    | _ => cases h
  | [], _ :: _, h => by cases h
  | u :: _, [], h => by cases u <;> cases h
def tupB (K : PySem.W.Frag) (x : Str) (ks : List Str) : Bool := match K.lookup (He.ga K x) with
  | some ⟨.type c, _, .seq its _, _⟩ => decide (c = "tuple") && (decide (its.size ≤ sizeLine) && txB its.toList ks)
  | _ => false
structure TupF (K : PySem.W.Frag) (mg : Str → Option Value) (x : Str) (ks : List Str) : Prop where
  g : mg x = some (.ref (He.ga K x))
  t : ∃ (o : Obj) (its : Array Value) (n : Nat), K.lookup (He.ga K x) = some o ∧ o.cls = .type "tuple" ∧ o.data = .seq its n ∧ its.size ≤ sizeLine ∧ Vals (ks.map V.str) its.toList
theorem tupF_of {K : PySem.W.Frag} {h : Heap} {mg : Str → Option Value} {x : Str} {ks : List Str} (X : K.In h) (G : h.Ns mainGlobals mg) (c : (He.Fa.glo x).ok K = true) (e : tupB K x ks = true) : TupF K mg x ks := by
  refine ⟨He.glo_ok X G c, ?_⟩
  unfold tupB at e
  split at e
  · rename_i c dd its n sl lk
    have q := (Bool.and_eq_true _ _).mp e
    have q2 := (Bool.and_eq_true _ _).mp q.2
    have ec := of_decide_eq_true q.1
    subst ec
    exact ⟨_, its, n, lk, rfl, rfl, of_decide_eq_true q2.1, txB_ok q2.2⟩
  · cases e
section
variable {X : Cx} {W : WX}
theorem e_gt {x : Str} {ks : List Str} {pos : Pos} (T : TupF X.K X.mg x ks) (hg : Gl X x) (hd : (x == ("__debug__" : Str)) = false := by decide) : JE X W (.Name x pos) (cK (.tuple (ks.map .str))) :=
  e_glob (v := .ref (He.ga X.K x)) hg T.g rfl (fun H => .tup (.inr T.t) (fz_tx ks)) hd
end
/-! ### the tables -/
theorem tabF_of {K : PySem.W.Frag} {mg : Str → Option Value} {base : Heap} {x : Str} (tb : LamX.TabB base mg (He.cT K (x, none)).1 (He.cT K (x, none)).2) (mem : ((He.cT K (x, none)).2, x ++ ".<locals>." ++ "<lambda>") ∈ HasT.t K) (one : ∀ q ∈ HasT.t K, q.1 = (He.cT K (x, none)).2 → q.2 = x ++ ".<locals>." ++ "<lambda>") : TabF K mg base x := ⟨tb, mem, one⟩
/-- tables apart -/
def apartB : List (Addr × Str) → Bool
  | [] => true
  | p :: r => (r.all fun q => decide (p.1 ≠ q.1)) && apartB r
theorem apart_ok : ∀ {l : List (Addr × Str)}, apartB l = true → ∀ p ∈ l, ∀ q ∈ l, p.1 = q.1 → p = q
  | [], _, p, hp, _, _, _ => by cases hp
  | a :: r, h, p, hp, q, hq, e => by
    have z := (Bool.and_eq_true _ _).mp h
    rcases List.mem_cons.mp hp with hp1 | hp1
    · rcases List.mem_cons.mp hq with hq1 | hq1
      · rw [hp1, hq1]
      · exact absurd (by rw [← hp1]; exact e) (of_decide_eq_true (List.all_eq_true.mp z.1 q hq1))
    · rcases List.mem_cons.mp hq with hq1 | hq1
      · exact absurd (by rw [← hq1]; exact e.symm) (of_decide_eq_true (List.all_eq_true.mp z.1 p hp1))
      · exact apart_ok z.2 p hp1 q hq1 e
theorem hio1_by {N : List Str} {vs io : List Nat} (h : ((List.range N.length).all fun j => vs.contains j || io.contains j) = true) : ∀ j, j < N.length → j ∉ vs → j ∈ io := fun j hj hn => by
  have q := List.all_eq_true.mp h j (List.mem_range.mpr hj)
  rcases Bool.or_eq_true _ _ ▸ q with q | q
  · exact absurd (List.contains_iff_mem.mp q) hn
  · exact List.contains_iff_mem.mp q
end Sv
end
section
set_option autoImplicit false
set_option linter.all false
set_option maxRecDepth 100000
/-! printed by gen.py: the defs of seenabove_k05_expressions_and_their_text -/
namespace K05
open PySem PySem.Spec L2 Sv
open PyProof.Rows hiding St
def top (i : Nat) : Stmt := PySem.Challenge.pw_seenabove_k05_expressions_and_their_text.main.body.getD i (.Pass ⟨0, 0, 0, 0⟩)
def m_InvalidExpression (y : Ex) : Option Bool := if y.c = "InvalidExpression" then some true else if y.c = "ParseError" then some false else none
def m_ParseError (y : Ex) : Option Bool := if y.c = "InvalidExpression" then some false else if y.c = "ParseError" then some true else none
def N_tap : List Str := ["_law_script", "_law_at", "_law_cell", "_law_great", "_law_mixed"]
def d_tap : Fn := fnD 5 [0, 1]
   ((sCons (sSet 2 (cOp addP (cP (cOp mulQ (cK (.int 17)) (cVar 1))) (cK (.int 3))))
    (sCons (sIf (Sv.tB (cOp (toP ltB) (cVar 1) (cP (cCall (one lenP) (aCons (cVar 0) aNil))))) (sSet 2 (cOp getP (cVar 0) (cVar 1))) sNil)
    (sCons (sSet 3 (cOp modP (cP (cCall (one intP) (aCons (cP (cCall (one absP) (aCons (cVar 2) aNil))) aNil))) (cP (cOp powP (cP (cOp powP (cK (.int 10)) (cK (.int 60)))) (cK (.int 12))))))
    (sCons (sSet 4 (cOp addP (cP (cOp addP (cP (cOp addP (cP (cOp mulQ (cP (cOp modP (cP (cCall (one intP) (aCons (cVar 3) aNil))) (cK (.int 2147483549)))) (cK (.int 48271)))) (cP (cOp mulQ (cK (.int 1009)) (cVar 1))))) (cP (cOp mulQ (cK (.int 7)) (cP (cCall (one intP) (aCons (cP (cOp (toP ltB) (cVar 2) (cK (.int 0)))) aNil))))))) (cK (.int 29))))
    (sRet (cLst (aCons (cE (cCall (two max2P) (aCons (cK (.int 0)) (aCons (cP (cOp subP (cVar 3) (cP (cOp powP (cK (.int 10)) (cK (.int 18)))))) aNil)))) (aCons (cE (cOp modP (cP (cCall (one intP) (aCons (cVar 4) aNil))) (cK (.int 2147483543)))) (aCons (cK (.int 0)) aNil))))))))))
def N_is_name : List Str := ["value", "sign"]
def ce_is_name_0 : Cd := (cOp (toP inB) (cVar 1) (cK (.str "abcdefghijklmnopqrstuvwxyz")))
def d_is_name : Fn := fnD 2 [0]
   ((sRet (cAnd (cP (cUn (isP isStr) (cVar 0))) (cAnd (cP (cChain leB leB (cK (.int 1)) (cP (cCall (one lenP) (aCons (cVar 0) aNil))) (cK (.int 8)))) (cCall (one allP) (aCons (cP (cComp [1] (wStr (cVar 0)) (gN 1) tYes ce_is_name_0)) aNil))))))
def N_has_front : List Str := ["value"]
def d_has_front : Fn := fnD 1 [0]
   ((sCons (sIf (Sv.tOr (Sv.tNot (Sv.tB (cP (cUn (isP isTup) (cVar 0))))) (Sv.tOr (Sv.tB (cOp eq0P (cVar 0) (cP (cTup aNil)))) (Sv.tNot (Sv.tB (cP (cUn (isP isStr) (cP (cOp getP (cVar 0) (cK (.int 0)))))))))) (sRet (cK (.bool false))) sNil)
    (sRet (cOr (cP (cOp (toP inB) (cP (cOp getP (cVar 0) (cK (.int 0)))) (cK (.tuple ((["then", "or"] : List Str).map .str))))) (cAnd (cP (cOp (toP inB) (cP (cOp getP (cVar 0) (cK (.int 0)))) (cK (.tuple ((["any", "some", "maybe"] : List Str).map .str))))) (cOp eqP (cP (cCall (one lenP) (aCons (cVar 0) aNil))) (cK (.int 2))))))))
def N_counts_within : List Str := ["value", "level", "names", "tuples", "part", "found"]
def fb_counts_within_0 (F : Fn) : Sd := (sCons (sSet 5 (cFn F (aCons (cVar 4) (aCons (cP (cOp addP (cVar 1) (cK (.int 1)))) aNil))))
    (sCons (sIf (Sv.tB (cOp (toP isB) (cVar 5) (cK .none))) (sRet (cK .none)) sNil)
    (sCons (sPar2 2 3 (cOp addP (cVar 2) (cP (cOp getP (cVar 5) (cK (.int 0))))) (cOp addP (cVar 3) (cP (cOp getP (cVar 5) (cK (.int 1))))))
    (sIf (Sv.tOr (Sv.tB (cOp (toP gtB) (cVar 2) (cK (.int 12)))) (Sv.tB (cOp (toP gtB) (cVar 3) (cK (.int 40))))) (sRet (cK .none)) sNil))))
def d_counts_within : Nat → Fn
  | 0 => fun _ => .no
  | n + 1 => fnD 6 [0, 1]
   ((sCons (sIf (Sv.tB (cP (cFn d_is_name (aCons (cVar 0) aNil)))) (sRet (cTup (aCons (cK (.int 1)) (aCons (cK (.int 0)) aNil)))) sNil)
    (sCons (sIf (Sv.tOr (Sv.tB (cOp eqP (cVar 1) (cK (.int 6)))) (Sv.tNot (Sv.tB (cP (cFn d_has_front (aCons (cVar 0) aNil)))))) (sRet (cK .none)) sNil)
    (sCons (sAsg (gT [(gN 2), (gN 3)]) (cTup (aCons (cK (.int 0)) (aCons (cK (.int 1)) aNil))))
    (sCons (sFor (wSeq (cSl slP (cVar 0) (some (cK (.int 1))) none)) (gN 4) (fb_counts_within_0 (d_counts_within n)))
    (sRet (cTup (aCons (cE (cVar 2)) (aCons (cE (cVar 3)) aNil)))))))))
def N_is_expression : List Str := ["value"]
def d_is_expression : Fn := fnD 1 [0]
   ((sRet (cOp (toP isNotB) (cP (cFn (d_counts_within 8) (aCons (cVar 0) (aCons (cK (.int 0)) aNil)))) (cK .none))))
def N_told : List Str := ["_law_call"]
def N_turn : List Str := ["_law_tap_here", "_law_total", "_law_found", "_law_one", "_law_two"]
def d_turn : Fn := fnD 5 [0, 1]
   ((sCons (sIf (Sv.tB (cOp (toP gtB) (cP (cOp getP (cVar 0) (cK (.int 0)))) (cK (.int 0)))) (sCons (sSet 2 (cOp modP (cP (cCall (one intP) (aCons (cP (cOp getP (cVar 0) (cK (.int 0)))) aNil))) (cVar 1)))
    (sCons (sSetIx setD 0 (cK (.int 0)) (cOp fdivP (cP (cOp getP (cVar 0) (cK (.int 0)))) (cVar 1)))
    (sRet (cVar 2)))) sNil)
    (sCons (sSetIx setD 0 (cK (.int 2)) (cOp addP (cP (cOp getP (cVar 0) (cK (.int 2)))) (cK (.int 1))))
    (sCons (sSet 3 (cOp modP (cP (cCall (one intP) (aCons (cP (cOp addP (cP (cOp getP (cVar 0) (cK (.int 1)))) (cP (cOp mulQ (cK (.int 1000151)) (cP (cOp getP (cVar 0) (cK (.int 2)))))))) aNil))) (cK (.int 2305843009213693951))))
    (sCons (sSet 4 (cOp addP (cP (cOp mulQ (cP (cOp modP (cP (cCall (one intP) (aCons (cP (cOp mulQ (cVar 3) (cVar 3))) aNil))) (cK (.int 2305843009213693921)))) (cVar 3))) (cP (cOp mulQ (cK (.int 9173)) (cP (cOp getP (cVar 0) (cK (.int 2))))))))
    (sRet (cOp modP (cP (cCall (one intP) (aCons (cP (cOp fdivP (cP (cOp modP (cP (cCall (one intP) (aCons (cVar 4) aNil))) (cK (.int 2305843009213693907)))) (cK (.int 4096)))) aNil))) (cVar 1))))))))
def N_names : List Str := ["_law_tap_here", "_law_total", "_law_signs", "_law_found", "_law_at", "_law_word"]
def fb_names_0 : Sd := (sCons (sSet 5 (cOp getP (cVar 2) (cP (cOp addP (cP (cOp mulQ (cK (.int 3)) (cVar 4))) (cP (cFn d_turn (aCons (cVar 0) (aCons (cK (.int 3)) aNil))))))))
    (sExpr (cMeth mAppend 3 (aCons (cE (cOp addP (cVar 5) (cP (cOp getP (cP (cLst (aCons (cK (.str "")) (aCons (cK (.str "")) (aCons (cK (.str "")) (aCons (cK (.str "a")) (aCons (cK (.str "zz")) (aCons (cK (.str "abcdefg")) aNil)))))))) (cP (cFn d_turn (aCons (cVar 0) (aCons (cK (.int 6)) aNil)))))))) aNil))))
def d_names : Fn := fnD 6 [0, 1]
   ((sCons (sPar2 2 3 (cK (.str "abcdefghijklmnopqrstuvwxyz")) (cLst aNil))
    (sCons (sFor (wRange1 (cVar 1)) (gN 4) fb_names_0)
    (sRet (cVar 3)))))
def N_pick : List Str := ["_law_tap_here", "_law_items"]
def d_pick : Fn := fnD 2 [0, 1]
   ((sRet (cOp getP (cVar 1) (cP (cFn d_turn (aCons (cVar 0) (aCons (cP (cCall (one lenP) (aCons (cVar 1) aNil))) aNil)))))))
def N_expression : List Str := ["_law_tap_here", "_law_names_here", "_law_most", "_law_deep", "_law_lot", "_law_left", "_law_word", "_law_first"]
def d_expression : Nat → Fn
  | 0 => fun _ => .no
  | n + 1 => fnD 8 [0, 1, 2, 3]
   ((sCons (sSet 4 (cFn d_turn (aCons (cVar 0) (aCons (cK (.int 12)) aNil))))
    (sCons (sIf (Sv.tOr (Sv.tB (cOp (toP ltB) (cVar 2) (cK (.int 1)))) (Sv.tB (cOp eqP (cVar 4) (cK (.int 0))))) (sRet (cIf (Sv.tB (cOp eqP (cP (cFn d_turn (aCons (cVar 0) (aCons (cK (.int 8)) aNil)))) (cK (.int 0)))) (cTup (aCons (cK (.str "or")) aNil)) (cTup (aCons (cK (.str "then")) aNil)))) sNil)
    (sCons (sIf (Sv.tOr (Sv.tB (cOp eqP (cVar 3) (cK (.int 0)))) (Sv.tB (cOp (toP ltB) (cVar 4) (cK (.int 4))))) (sRet (cFn d_pick (aCons (cVar 0) (aCons (cVar 1) aNil)))) sNil)
    (sCons (sIf (Sv.tAnd (Sv.tB (cOp (toP gtB) (cVar 2) (cK (.int 1)))) (Sv.tB (cOp (toP ltB) (cVar 4) (cK (.int 10))))) (sCons (sSet 5 (cOp addP (cK (.int 1)) (cP (cFn d_turn (aCons (cVar 0) (aCons (cP (cOp subP (cVar 2) (cK (.int 1)))) aNil))))))
    (sCons (sSet 6 (cIf (Sv.tB (cOp (toP ltB) (cVar 4) (cK (.int 8)))) (cK (.str "then")) (cK (.str "or"))))
    (sCons (sSet 7 (cFn (d_expression n) (aCons (cVar 0) (aCons (cVar 1) (aCons (cVar 5) (aCons (cP (cOp subP (cVar 3) (cK (.int 1)))) aNil))))))
    (sRet (cTup (aCons (cE (cVar 6)) (aCons (cE (cVar 7)) (aCons (cE (cFn (d_expression n) (aCons (cVar 0) (aCons (cVar 1) (aCons (cP (cOp subP (cVar 2) (cVar 5))) (aCons (cP (cOp subP (cVar 3) (cK (.int 1)))) aNil)))))) aNil)))))))) sNil)
    (sCons (sSet 6 (cFn d_pick (aCons (cVar 0) (aCons (cP (cLst (aCons (cK (.str "any")) (aCons (cK (.str "some")) (aCons (cK (.str "maybe")) (aCons (cK (.str "maybe")) aNil)))))) aNil))))
    (sRet (cTup (aCons (cE (cVar 6)) (aCons (cE (cFn (d_expression n) (aCons (cVar 0) (aCons (cVar 1) (aCons (cVar 2) (aCons (cP (cOp subP (cVar 3) (cK (.int 1)))) aNil)))))) aNil))))))))))
def N_text : List Str := ["_law_content", "_law_part"]
def ce_text_0 (F : Fn) : Cd := (cFn F (aCons (cVar 1) aNil))
def d_text : Nat → Fn
  | 0 => fun _ => .no
  | n + 1 => fnD 2 [0]
   ((sCons (sIf (Sv.tB (cP (cUn (isP isStr) (cVar 0)))) (sRet (cVar 0)) sNil)
    (sRet (cOp addP (cP (cOp addP (cK (.str "(")) (cP (cUn (joinP " ") (cP (cOp addP (cP (cLst (aCons (cE (cOp getP (cVar 0) (cK (.int 0)))) aNil))) (cP (cComp [1] (wSeq (cSl slP (cVar 0) (some (cK (.int 1))) none)) (gN 1) tYes (ce_text_0 (d_text n)))))))))) (cK (.str ")"))))))
def N_letters_from : List Str := ["text", "at", "end"]
def wt_letters_from_0 : Td := (Sv.tAnd (Sv.tB (cOp (toP ltB) (cVar 2) (cP (cCall (one lenP) (aCons (cVar 0) aNil))))) (Sv.tB (cOp (toP inB) (cP (cOp getP (cVar 0) (cVar 2))) (cK (.str "abcdefghijklmnopqrstuvwxyz")))))
def wb_letters_from_1 : Sd := (sAug 2 augAdd (cK (.int 1)))
def d_letters_from : Fn := fnD 3 [0, 1]
   ((sCons (sSet 2 (cVar 1))
    (sCons (sWhile wt_letters_from_0 wb_letters_from_1 100000)
    (sRet (cSl slP (cVar 0) (some (cVar 1)) (some (cVar 2)))))))
def N_read_from : List Str := ["text", "at", "level", "name", "word", "parts", "end", "part"]
def wt_read_from_0 (F : Fn) : Td := (Sv.tB (cP (cStarts " " (cVar 0) (cVar 6))))
def wb_read_from_1 (F : Fn) : Sd := (sCons (sAsg (gT [(gN 7), (gN 6)]) (cFn F (aCons (cVar 0) (aCons (cP (cOp addP (cVar 6) (cK (.int 1)))) (aCons (cP (cOp addP (cVar 2) (cK (.int 1)))) aNil)))))
    (sExpr (cMeth mAppend 5 (aCons (cE (cVar 7)) aNil))))
def d_read_from : Nat → Fn
  | 0 => fun _ => .no
  | n + 1 => fnD 8 [0, 1, 2]
   ((sCons (sIf (Sv.tB (cOp (toP gtB) (cVar 2) (cK (.int 6)))) (sRaise ⟨"ParseError", []⟩) sNil)
    (sCons (sIf (Sv.tNot (Sv.tB (cP (cStarts "(" (cVar 0) (cVar 1))))) (sCons (sSet 3 (cFn d_letters_from (aCons (cVar 0) (aCons (cVar 1) aNil))))
    (sRet (cTup (aCons (cE (cVar 3)) (aCons (cE (cOp addP (cVar 1) (cP (cCall (one lenP) (aCons (cVar 3) aNil))))) aNil))))) sNil)
    (sCons (sSet 4 (cFn d_letters_from (aCons (cVar 0) (aCons (cP (cOp addP (cVar 1) (cK (.int 1)))) aNil))))
    (sCons (sPar2 5 6 (cLst (aCons (cE (cVar 4)) aNil)) (cOp addP (cP (cOp addP (cVar 1) (cK (.int 1)))) (cP (cCall (one lenP) (aCons (cVar 4) aNil)))))
    (sCons (sWhile (wt_read_from_0 (d_read_from n)) (wb_read_from_1 (d_read_from n)) 100000)
    (sCons (sIf (Sv.tNot (Sv.tB (cP (cStarts ")" (cVar 0) (cVar 6))))) (sRaise ⟨"ParseError", []⟩) sNil)
    (sRet (cTup (aCons (cE (cCall (one tupleP) (aCons (cVar 5) aNil))) (aCons (cE (cOp addP (cVar 6) (cK (.int 1)))) aNil)))))))))))
def N_expression_of : List Str := ["text", "expression", "end"]
def d_expression_of : Fn := fnD 3 [0]
   ((sCons (sIf (Sv.tNot (Sv.tB (cP (cUn (isP isStr) (cVar 0))))) (sRaise ⟨"ParseError", []⟩) sNil)
    (sCons (sAsg (gT [(gN 1), (gN 2)]) (cFn (d_read_from 9) (aCons (cVar 0) (aCons (cK (.int 0)) (aCons (cK (.int 0)) aNil)))))
    (sCons (sIf (Sv.tOr (Sv.tB (cOp (toP ltB) (cVar 2) (cP (cCall (one lenP) (aCons (cVar 0) aNil))))) (Sv.tNot (Sv.tB (cP (cFn d_is_expression (aCons (cVar 1) aNil)))))) (sRaise ⟨"ParseError", []⟩) sNil)
    (sRet (cVar 1))))))
def N_l_is_name : List Str := ["_law_thing", "_law_sign"]
def ce_l_is_name_0 : Cd := (cVar 1)
def ct_l_is_name_1 : Td := (Sv.tB (cOp (toP notInB) (cVar 1) (cK (.str "abcdefghijklmnopqrstuvwxyz"))))
def d_l_is_name : Fn := fnD 2 [0]
   ((sCons (sIf (Sv.tOr (Sv.tNot (Sv.tB (cP (cUn (isP isStr) (cVar 0))))) (Sv.tOr (Sv.tB (cOp (toP ltB) (cP (cCall (one lenP) (aCons (cVar 0) aNil))) (cK (.int 1)))) (Sv.tB (cOp (toP gtB) (cP (cCall (one lenP) (aCons (cVar 0) aNil))) (cK (.int 8)))))) (sRet (cK (.bool false))) sNil)
    (sRet (cOp eqP (cP (cComp [1] (wStr (cVar 0)) (gN 1) ct_l_is_name_1 ce_l_is_name_0)) (cP (cLst aNil))))))
def N_shape : List Str := ["_law_thing", "_law_level", "_law_counts", "_law_part", "_law_more"]
def fb_shape_0 (F : Fn) : Sd := (sCons (sSet 4 (cFn F (aCons (cVar 3) (aCons (cP (cOp addP (cVar 1) (cK (.int 1)))) aNil))))
    (sCons (sIf (Sv.tB (cOp (toP isB) (cVar 4) (cK .none))) (sRet (cK .none)) sNil)
    (sSet 2 (cLst (aCons (cE (cOp addP (cP (cOp getP (cVar 2) (cK (.int 0)))) (cP (cOp getP (cVar 4) (cK (.int 0)))))) (aCons (cE (cOp addP (cP (cOp getP (cVar 2) (cK (.int 1)))) (cP (cOp getP (cVar 4) (cK (.int 1)))))) (aCons (cE (cCall (two max2P) (aCons (cP (cOp getP (cVar 2) (cK (.int 2)))) (aCons (cP (cOp getP (cVar 4) (cK (.int 2)))) aNil)))) aNil)))))))
def d_shape : Nat → Fn
  | 0 => fun _ => .no
  | n + 1 => fnD 5 [0, 1]
   ((sCons (sIf (Sv.tB (cP (cFn d_l_is_name (aCons (cVar 0) aNil)))) (sRet (cLst (aCons (cK (.int 1)) (aCons (cK (.int 0)) (aCons (cE (cVar 1)) aNil))))) sNil)
    (sCons (sIf (Sv.tOr (Sv.tNot (Sv.tB (cP (cUn (isP isTup) (cVar 0))))) (Sv.tOr (Sv.tB (cOp eq0P (cVar 0) (cP (cTup aNil)))) (Sv.tOr (Sv.tB (cOp (toP gtB) (cVar 1) (cK (.int 19)))) (Sv.tNot (Sv.tB (cP (cUn (isP isStr) (cP (cOp getP (cVar 0) (cK (.int 0))))))))))) (sRet (cK .none)) sNil)
    (sCons (sIf (Sv.tB (cOp (toP notInB) (cP (cOp getP (cVar 0) (cK (.int 0)))) (cP (cLst (aCons (cK (.str "then")) (aCons (cK (.str "or")) (aCons (cK (.str "any")) (aCons (cK (.str "some")) (aCons (cK (.str "maybe")) aNil))))))))) (sRet (cK .none)) sNil)
    (sCons (sIf (Sv.tAnd (Sv.tB (cOp (toP notInB) (cP (cOp getP (cVar 0) (cK (.int 0)))) (cP (cLst (aCons (cK (.str "then")) (aCons (cK (.str "or")) aNil)))))) (Sv.tB (cOp neP (cP (cCall (one lenP) (aCons (cVar 0) aNil))) (cK (.int 2))))) (sRet (cK .none)) sNil)
    (sCons (sSet 2 (cLst (aCons (cK (.int 0)) (aCons (cK (.int 1)) (aCons (cE (cOp addP (cVar 1) (cK (.int 1)))) aNil)))))
    (sCons (sFor (wSeq (cSl slP (cVar 0) (some (cK (.int 1))) none)) (gN 3) (fb_shape_0 (d_shape n)))
    (sRet (cVar 2)))))))))
def N_is_one : List Str := ["_law_thing", "_law_counts"]
def d_is_one : Fn := fnD 2 [0]
   ((sCons (sSet 1 (cFn (d_shape 25) (aCons (cVar 0) (aCons (cK (.int 0)) aNil))))
    (sRet (cAnd (cP (cOp (toP isNotB) (cVar 1) (cK .none))) (cAnd (cP (cOp (toP leB) (cP (cOp getP (cVar 1) (cK (.int 0)))) (cK (.int 12)))) (cAnd (cP (cOp (toP leB) (cP (cOp getP (cVar 1) (cK (.int 1)))) (cK (.int 40)))) (cOp (toP leB) (cP (cOp getP (cVar 1) (cK (.int 2)))) (cK (.int 6)))))))))
def N_is_word : List Str := ["value", "name"]
def ce_is_word_0 : Cd := (cFn d_is_name (aCons (cVar 1) aNil))
def d_is_word : Fn := fnD 2 [0]
   ((sRet (cAnd (cP (cUn (isP isTup) (cVar 0))) (cCall (one allP) (aCons (cP (cComp [1] (wSeq (cVar 0)) (gN 1) tYes ce_is_word_0)) aNil)))))
def N_require_expression : List Str := ["expression"]
def d_require_expression : Fn := fnD 1 [0]
   ((sIf (Sv.tNot (Sv.tB (cP (cFn d_is_expression (aCons (cVar 0) aNil))))) (sRaise ⟨"InvalidExpression", []⟩) sNil))
def N_written_names : List Str := ["expression", "part", "name"]
def ce_written_names_0 (F : Fn) : Cd := (cVar 2)
def cw_written_names_1 (F : Fn) : Wd := (wSeq (cFn F (aCons (cVar 1) aNil)))
def d_written_names : Nat → Fn
  | 0 => fun _ => .no
  | n + 1 => fnD 3 [0]
   ((sCons (sIf (Sv.tB (cP (cUn (isP isStr) (cVar 0)))) (sRet (cLst (aCons (cE (cVar 0)) aNil))) sNil)
    (sRet (cComp2 [1, 2] [2] (wSeq (cSl slP (cVar 0) (some (cK (.int 1))) none)) (gN 1) (cw_written_names_1 (d_written_names n)) (gN 2) (ce_written_names_0 (d_written_names n))))))
def N_names_in : List Str := ["expression"]
def d_names_in : Fn := fnD 1 [0]
   ((sCons (sExpr (cFn d_require_expression (aCons (cVar 0) aNil)))
    (sRet (cCall (one tupleP) (aCons (cP (cUn sortSetP (cP (cFn (d_written_names 10) (aCons (cVar 0) aNil))))) aNil)))))
def N_text_by : List Str := ["expression", "part"]
def ce_text_by_0 (F : Fn) : Cd := (cFn F (aCons (cVar 1) aNil))
def d_text_by : Nat → Fn
  | 0 => fun _ => .no
  | n + 1 => fnD 2 [0]
   ((sCons (sIf (Sv.tB (cP (cUn (isP isStr) (cVar 0)))) (sRet (cVar 0)) sNil)
    (sRet (cOp addP (cP (cOp addP (cK (.str "(")) (cP (cUn (joinP " ") (cP (cLst (aCons (cE (cOp getP (cVar 0) (cK (.int 0)))) (aStar (cComp [1] (wSeq (cSl slP (cVar 0) (some (cK (.int 1))) none)) (gN 1) tYes (ce_text_by_0 (d_text_by n))) aNil)))))))) (cK (.str ")"))))))
def N_text_of : List Str := ["expression"]
def d_text_of : Fn := fnD 1 [0]
   ((sCons (sExpr (cFn d_require_expression (aCons (cVar 0) aNil)))
    (sRet (cFn (d_text_by 10) (aCons (cVar 0) aNil)))))
def N_written : List Str := ["_law_content", "_law_found", "_law_part"]
def fb_written_0 (F : Fn) : Sd := (sExpr (cMeth mExtend 1 (aCons (cE (cFn F (aCons (cVar 2) aNil))) aNil)))
def d_written : Nat → Fn
  | 0 => fun _ => .no
  | n + 1 => fnD 3 [0]
   ((sCons (sIf (Sv.tB (cP (cUn (isP isStr) (cVar 0)))) (sRet (cLst (aCons (cE (cVar 0)) aNil))) sNil)
    (sCons (sSet 1 (cLst aNil))
    (sCons (sFor (wSeq (cSl slP (cVar 0) (some (cK (.int 1))) none)) (gN 2) (fb_written_0 (d_written n)))
    (sRet (cVar 1))))))
def N_value_right : List Str := ["_law_thing", "_law_kept", "_law_due", "_law_words", "_law_told_here", "_law_word"]
def ce_value_right_0 : Cd := (cFn d_is_word (aCons (cVar 5) aNil))
def d_value_right : Fn := fnD 6 [0]
   ((sCons (sPar2 1 2 (cCall (one reprW) (aCons (cVar 0) aNil)) (cFn d_is_one (aCons (cVar 0) aNil)))
    (sCons (sIf (Sv.tB (cOp neP (cP (cCall (one reprW) (aCons (cP (cFn d_is_expression (aCons (cVar 0) aNil))) aNil))) (cP (cCall (one reprW) (aCons (cVar 2) aNil))))) (sRet (cK (.bool false))) sNil)
    (sCons (sIf (Sv.tAnd (Sv.tB (cVar 2)) (Sv.tB (cOp neP (cP (cCall (one reprW) (aCons (cP (cFn d_names_in (aCons (cVar 0) aNil))) aNil))) (cP (cCall (one reprW) (aCons (cP (cCall (one tupleP) (aCons (cP (cUn sortSetP (cP (cFn (d_written 10) (aCons (cVar 0) aNil))))) aNil))) aNil)))))) (sRet (cK (.bool false))) sNil)
    (sCons (sIf (Sv.tAnd (Sv.tB (cVar 2)) (Sv.tOr (Sv.tB (cOp neP (cP (cFn d_text_of (aCons (cVar 0) aNil))) (cP (cFn (d_text 10) (aCons (cVar 0) aNil))))) (Sv.tB (cOp neP (cP (cFn d_expression_of (aCons (cP (cFn (d_text 10) (aCons (cVar 0) aNil))) aNil))) (cVar 0))))) (sRet (cK (.bool false))) sNil)
    (sCons (sIf (Sv.tAnd (Sv.tNot (Sv.tB (cVar 2))) (Sv.tB (cOp neP (cP (cTold "told" "parse" "expression" m_ParseError m_InvalidExpression (cE (cFn d_text_of (aCons (cVar 0) aNil))))) (cP (cLst (aCons (cK (.str "expression")) aNil)))))) (sRet (cK (.bool false))) sNil)
    (sCons (sSet 3 (cLst (aCons (cE (cTup (aCons (cE (cVar 0)) aNil))) (aCons (cE (cTup (aCons (cK (.str "a")) (aCons (cE (cVar 0)) aNil)))) (aCons (cE (cLst (aCons (cE (cVar 0)) aNil))) (aCons (cE (cTup (aCons (cK (.str "a")) (aCons (cK (.str "abcdefgh")) aNil)))) (aCons (cE (cTup (aCons (cK (.str "a")) (aCons (cK (.str "abcdefghi")) aNil)))) (aCons (cE (cTup aNil)) aNil))))))))
    (sCons (sSet 4 (cComp [5] (wSeq (cVar 3)) (gN 5) tYes ce_value_right_0))
    (sRet (cAnd (cP (cOp eqP (cVar 4) (cP (cLst (aCons (cE (cFn d_l_is_name (aCons (cVar 0) aNil))) (aCons (cE (cFn d_l_is_name (aCons (cVar 0) aNil))) (aCons (cK (.bool false)) (aCons (cK (.bool true)) (aCons (cK (.bool false)) (aCons (cK (.bool true)) aNil)))))))))) (cOp eqP (cP (cCall (one reprW) (aCons (cVar 0) aNil))) (cVar 1))))))))))))
def N_read : List Str := ["_law_text_here", "_law_at", "_law_level", "_law_signs", "_law_front", "_law_end", "_law_word", "_law_parts", "_law_more"]
def wt_read_0 (F : Fn) : Td := (Sv.tB (cOp eqP (cP (cSl slP (cVar 0) (some (cVar 5)) (some (cP (cOp addP (cVar 5) (cK (.int 1))))))) (cK (.str " "))))
def wb_read_1 (F : Fn) : Sd := (sCons (sSet 8 (cFn F (aCons (cVar 0) (aCons (cP (cOp addP (cVar 5) (cK (.int 1)))) (aCons (cP (cOp addP (cVar 2) (cK (.int 1)))) aNil)))))
    (sCons (sIf (Sv.tB (cOp (toP isB) (cVar 8) (cK .none))) (sRet (cK .none)) sNil)
    (sCons (sExpr (cMeth mAppend 7 (aCons (cE (cOp getP (cVar 8) (cK (.int 0)))) aNil)))
    (sSet 5 (cOp getP (cVar 8) (cK (.int 1)))))))
def wt_read_2 (F : Fn) : Td := (Sv.tAnd (Sv.tB (cOp (toP ltB) (cVar 5) (cP (cCall (one lenP) (aCons (cVar 0) aNil))))) (Sv.tB (cOp (toP inB) (cP (cOp getP (cVar 0) (cVar 5))) (cVar 3))))
def wb_read_3 (F : Fn) : Sd := (sSet 5 (cOp addP (cVar 5) (cK (.int 1))))
def d_read : Nat → Fn
  | 0 => fun _ => .no
  | n + 1 => fnD 9 [0, 1, 2]
   ((sCons (sSet 3 (cK (.str "abcdefghijklmnopqrstuvwxyz")))
    (sCons (sSet 4 (cOp eqP (cP (cSl slP (cVar 0) (some (cVar 1)) (some (cP (cOp addP (cVar 1) (cK (.int 1))))))) (cK (.str "("))))
    (sCons (sSet 5 (cOp addP (cVar 1) (cP (cCall (one intP) (aCons (cVar 4) aNil)))))
    (sCons (sWhile (wt_read_2 (d_read n)) (wb_read_3 (d_read n)) 100000)
    (sCons (sPar2 6 7 (cSl slP (cVar 0) (some (cP (cOp addP (cVar 1) (cP (cCall (one intP) (aCons (cVar 4) aNil)))))) (some (cVar 5))) (cLst aNil))
    (sCons (sIf (Sv.tOr (Sv.tNot (Sv.tB (cVar 4))) (Sv.tB (cOp (toP gtB) (cVar 2) (cK (.int 19))))) (sRet (cIf (Sv.tB (cVar 4)) (cK .none) (cTup (aCons (cE (cVar 6)) (aCons (cE (cVar 5)) aNil))))) sNil)
    (sCons (sWhile (wt_read_0 (d_read n)) (wb_read_1 (d_read n)) 100000)
    (sRet (cIf (Sv.tB (cOp eqP (cP (cSl slP (cVar 0) (some (cVar 5)) (some (cP (cOp addP (cVar 5) (cK (.int 1))))))) (cK (.str ")")))) (cTup (aCons (cE (cOp addP (cP (cTup (aCons (cE (cVar 6)) aNil))) (cP (cCall (one tupleP) (aCons (cVar 7) aNil))))) (aCons (cE (cOp addP (cVar 5) (cK (.int 1)))) aNil))) (cK .none)))))))))))
def N_text_right : List Str := ["_law_text_here", "_law_read_here", "_law_due"]
def d_text_right : Fn := fnD 3 [0]
   ((sCons (sSet 1 (cFn (d_read 25) (aCons (cVar 0) (aCons (cK (.int 0)) (aCons (cK (.int 0)) aNil)))))
    (sCons (sSet 2 (cLst (aCons (cK (.str "parse")) aNil)))
    (sCons (sIf (Sv.tAnd (Sv.tB (cOp (toP isNotB) (cVar 1) (cK .none))) (Sv.tAnd (Sv.tB (cOp eqP (cP (cOp getP (cVar 1) (cK (.int 1)))) (cP (cCall (one lenP) (aCons (cVar 0) aNil))))) (Sv.tB (cP (cFn d_is_one (aCons (cP (cOp getP (cVar 1) (cK (.int 0)))) aNil)))))) (sSet 2 (cLst (aCons (cK (.str "told")) (aCons (cE (cOp getP (cVar 1) (cK (.int 0)))) aNil)))) sNil)
    (sRet (cOp eqP (cP (cCall (one reprW) (aCons (cP (cTold "told" "parse" "expression" m_ParseError m_InvalidExpression (cE (cFn d_expression_of (aCons (cVar 0) aNil))))) aNil))) (cP (cCall (one reprW) (aCons (cVar 2) aNil)))))))))
def N_bent : List Str := ["_law_tap_here", "_law_content", "_law_odd", "_law_chance", "_law_at"]
def fb_bent_0 : Sd := (sSet 1 (cTup (aCons (cE (cFn d_pick (aCons (cVar 0) (aCons (cP (cLst (aCons (cK (.str "any")) (aCons (cK (.str "some")) (aCons (cK (.str "maybe")) (aCons (cK (.str "then")) (aCons (cK (.str "or")) aNil))))))) aNil)))) (aCons (cE (cVar 1)) aNil))))
def d_bent : Fn := fnD 5 [0]
   ((sCons (sSet 2 (cFn d_pick (aCons (cVar 0) (aCons (cP (cLst (aCons (cK .none) (aCons (cK (.int 7)) (aCons (cK (.bool true)) (aCons (cK (.str "")) (aCons (cK (.str "A")) (aCons (cK (.str "a b")) (aCons (cK (.str "abcdefghi")) (aCons (cE (cLst aNil)) (aCons (cE (cK (.dict []))) (aCons (cE (cTup aNil)) (aCons (cE (cTup (aCons (cK (.str "then")) (aCons (cK (.int 3)) aNil)))) (aCons (cE (cTup (aCons (cK (.str "a")) (aCons (cK (.str "b")) aNil)))) (aCons (cK (.str "a1")) (aCons (cE (cTup (aCons (cE (cTup aNil)) aNil))) aNil)))))))))))))))) aNil))))
    (sCons (sSet 3 (cFn d_turn (aCons (cVar 0) (aCons (cK (.int 9)) aNil))))
    (sCons (sIf (Sv.tB (cOp eqP (cVar 3) (cK (.int 0)))) (sRet (cVar 2)) sNil)
    (sCons (sIf (Sv.tB (cOp eqP (cVar 3) (cK (.int 1)))) (sRet (cTup (aCons (cK (.str "then")) (aCons (cE (cVar 1)) (aCons (cE (cVar 2)) aNil))))) sNil)
    (sCons (sIf (Sv.tB (cOp eqP (cVar 3) (cK (.int 2)))) (sRet (cOp addP (cP (cTup (aCons (cK (.str "or")) aNil))) (cP (cOp mulQ (cP (cTup (aCons (cE (cVar 1)) aNil))) (cP (cOp addP (cK (.int 1)) (cP (cFn d_turn (aCons (cVar 0) (aCons (cK (.int 5)) aNil)))))))))) sNil)
    (sCons (sIf (Sv.tB (cOp eqP (cVar 3) (cK (.int 3)))) (sCons (sFor (wRange1 (cP (cFn d_turn (aCons (cVar 0) (aCons (cK (.int 7)) aNil))))) (gN 4) fb_bent_0)
    (sRet (cVar 1))) sNil)
    (sCons (sIf (Sv.tB (cOp eqP (cVar 3) (cK (.int 4)))) (sRet (cOp addP (cP (cTup (aCons (cE (cFn d_pick (aCons (cVar 0) (aCons (cP (cLst (aCons (cK (.str "any")) (aCons (cK (.str "some")) (aCons (cK (.str "maybe")) (aCons (cK (.str "not")) (aCons (cK (.str "Then")) (aCons (cK (.str "")) aNil)))))))) aNil)))) aNil))) (cP (cOp mulQ (cP (cTup (aCons (cE (cVar 1)) aNil))) (cP (cFn d_turn (aCons (cVar 0) (aCons (cK (.int 3)) aNil)))))))) sNil)
    (sCons (sIf (Sv.tB (cOp eqP (cVar 3) (cK (.int 5)))) (sRet (cLst (aCons (cK (.str "then")) (aCons (cE (cVar 1)) aNil)))) sNil)
    (sCons (sIf (Sv.tB (cOp eqP (cVar 3) (cK (.int 6)))) (sRet (cOp addP (cP (cTup (aCons (cK (.str "or")) (aCons (cE (cVar 1)) aNil)))) (cP (cOp mulQ (cP (cTup (aCons (cE (cTup (aCons (cK (.str "then")) aNil))) aNil))) (cP (cOp addP (cK (.int 36)) (cP (cFn d_turn (aCons (cVar 0) (aCons (cK (.int 6)) aNil)))))))))) sNil)
    (sCons (sIf (Sv.tAnd (Sv.tB (cOp eqP (cVar 3) (cK (.int 7)))) (Sv.tB (cP (cUn (isP isTup) (cVar 1))))) (sRet (cOp addP (cP (cTup (aCons (cE (cOp getP (cVar 1) (cK (.int 0)))) aNil))) (cP (cSl slP (cVar 1) (some (cK (.int 2))) none)))) sNil)
    (sRet (cTup (aCons (cK (.str "then")) (aCons (cE (cVar 1)) (aCons (cE (cOp addP (cP (cTup (aCons (cK (.str "then")) aNil))) (cP (cOp mulQ (cP (cTup (aCons (cK (.str "b")) aNil))) (cP (cFn d_turn (aCons (cVar 0) (aCons (cK (.int 13)) aNil)))))))) aNil))))))))))))))))
def N_law : List Str := ["_law_script", "_law_k", "_law_tap_here", "_law_turn_here", "_law_names_here", "_law_content", "_law_text_here", "_law_at", "_law_sign", "_law_bent_here", "_law_great", "_law_odd", "_law_told_here", "_law_thing"]
def ce_law_0 : Cd := (cTold "told" "parse" "expression" m_ParseError m_InvalidExpression (cE (cFn d_expression_of (aCons (cVar 13) aNil))))
def fb_law_1 : Sd := (sSet 10 (cTup (aCons (cK (.str "or")) (aCons (cE (cVar 10)) (aCons (cE (cVar 10)) (aCons (cE (cVar 10)) (aCons (cE (cVar 10)) aNil)))))))
def fb_law_2 : Sd := (sCons (sSet 4 (cFn d_names (aCons (cVar 2) (aCons (cP (cOp addP (cK (.int 1)) (cP (cFn d_turn (aCons (cVar 2) (aCons (cK (.int 5)) aNil)))))) aNil))))
    (sCons (sSet 5 (cFn (d_expression 10) (aCons (cVar 2) (aCons (cVar 4) (aCons (cP (cOp addP (cK (.int 1)) (cP (cFn d_turn (aCons (cVar 2) (aCons (cK (.int 12)) aNil)))))) (aCons (cP (cFn d_turn (aCons (cVar 2) (aCons (cK (.int 7)) aNil)))) aNil))))))
    (sCons (sIf (Sv.tOr (Sv.tNot (Sv.tB (cP (cFn d_value_right (aCons (cVar 5) aNil))))) (Sv.tNot (Sv.tB (cP (cFn d_value_right (aCons (cP (cFn d_bent (aCons (cVar 2) (aCons (cVar 5) aNil)))) aNil)))))) (sRet (cK (.bool false))) sNil)
    (sCons (sSet 6 (cFn (d_text 10) (aCons (cVar 5) aNil)))
    (sCons (sPar2 7 8 (cFn d_turn (aCons (cVar 2) (aCons (cP (cOp addP (cP (cCall (one lenP) (aCons (cVar 6) aNil))) (cK (.int 1)))) aNil))) (cFn d_pick (aCons (cVar 2) (aCons (cP (cLst (aCons (cK (.str "(")) (aCons (cK (.str ")")) (aCons (cK (.str " ")) (aCons (cK (.str "a")) (aCons (cK (.str "then")) (aCons (cK (.str "A")) (aCons (cK (.str "\n")) (aCons (cK (.str "")) aNil)))))))))) aNil))))
    (sCons (sSet 9 (cOp addP (cP (cOp addP (cP (cSl slP (cVar 6) none (some (cVar 7)))) (cVar 8))) (cP (cSl slP (cVar 6) (some (cP (cOp addP (cVar 7) (cP (cFn d_turn (aCons (cVar 2) (aCons (cK (.int 2)) aNil))))))) none))))
    (sIf (Sv.tOr (Sv.tNot (Sv.tB (cP (cFn d_text_right (aCons (cVar 6) aNil))))) (Sv.tOr (Sv.tNot (Sv.tB (cP (cFn d_text_right (aCons (cVar 9) aNil))))) (Sv.tNot (Sv.tB (cP (cFn d_text_right (aCons (cP (cOp addP (cVar 9) (cVar 8))) aNil))))))) (sRet (cK (.bool false))) sNil)))))))
def fb_law_3 : Sd := (sCons (sSet 2 (cFn d_tap (aCons (cVar 0) (aCons (cVar 1) aNil))))
    (sFor (wRange1 (cK (.int 6))) (gN 3) fb_law_2))
def c_law : Sd :=
   ((sCons (sFor (wRange1 (cP (cCall (two max2P) (aCons (cK (.int 2)) (aCons (cP (cCall (two min2P) (aCons (cK (.int 12)) (aCons (cP (cCall (one lenP) (aCons (cVar 0) aNil))) aNil)))) aNil))))) (gN 1) fb_law_3)
    (sCons (sSet 10 (cK (.str "a")))
    (sCons (sFor (wRange1 (cK (.int 18))) (gN 7) fb_law_1)
    (sCons (sIf (Sv.tB (cOp (toP isNotB) (cP (cFn d_is_expression (aCons (cVar 10) aNil))) (cK (.bool false)))) (sRet (cK (.bool false))) sNil)
    (sCons (sSet 11 (cLst (aCons (cK .none) (aCons (cK (.int 3)) (aCons (cE (cTup (aCons (cK (.str "then")) aNil))) (aCons (cE (cLst (aCons (cK (.str "a")) aNil))) (aCons (cK (.str "")) (aCons (cK (.str "()")) (aCons (cK (.str "(any)")) (aCons (cK (.str "(then )")) (aCons (cK (.str "( then)")) (aCons (cK (.str "(a)")) (aCons (cK (.str "((then))")) (aCons (cK (.str "a b")) (aCons (cK (.str "(or a")) aNil)))))))))))))))
    (sCons (sSet 11 (cOp addP (cVar 11) (cP (cLst (aCons (cE (cOp mulQ (cK (.str "(any ")) (cK (.int 5000)))) (aCons (cE (cOp addP (cP (cOp addP (cP (cOp mulQ (cK (.str "(any ")) (cK (.int 5000)))) (cK (.str "a")))) (cP (cOp mulQ (cK (.str ")")) (cK (.int 5000)))))) (aCons (cE (cOp addP (cP (cOp addP (cK (.str "(or")) (cP (cOp mulQ (cK (.str " a")) (cK (.int 5000)))))) (cK (.str ")")))) (aCons (cE (cOp mulQ (cK (.str "a")) (cK (.int 5000)))) (aCons (cE (cOp mulQ (cK (.str "(")) (cK (.int 5000)))) aNil)))))))))
    (sCons (sSet 12 (cComp [13] (wSeq (cVar 11)) (gN 13) tYes ce_law_0))
    (sRet (cAnd (cP (cOp eqP (cVar 12) (cP (cOp mulQ (cP (cLst (aCons (cE (cLst (aCons (cK (.str "parse")) aNil))) aNil))) (cP (cCall (one lenP) (aCons (cVar 11) aNil))))))) (cOp eqP (cP (cFn d_expression_of (aCons (cK (.str "(or)")) aNil))) (cP (cTup (aCons (cK (.str "or")) aNil))))))))))))))
def d_law : Fn := fnD 14 [0] c_law
end K05
end
section
set_option autoImplicit false
set_option linter.all false
set_option maxRecDepth 100000
namespace K05
open PySem Sv

theorem turn_spec (a b c t : Int) (ht : 0 < t) (ht2 : t < 1073741824) : ∃ r a' c', 0 ≤ r ∧ r < t ∧ d_turn [.l [.int a, .int b, .int c], .d (.int t)] = .ok (.d (.int r)) [some (.l [.int a', .int b, .int c']), some (.d (.int t))] := by
  by_cases h : 0 < a
  · refine ⟨a % t, a / t, c, Int.emod_nonneg _ (by omega), Int.emod_lt_of_pos _ ht, ?_⟩
    simp [d_turn, Sv.sNil, Sv.sCons, Sv.sPass, Sv.sBreak, Sv.sCont, Sv.sExpr, Sv.put, Sv.sSet, Sv.sRet, Sv.sRetN, Sv.sIf, Sv.cVar, Sv.cK, Sv.cE, Sv.cP, Sv.cOp, Sv.cUn, Sv.cChain, Sv.cIf, Sv.cAnd, Sv.cOr, Sv.cNot, Sv.tB, Sv.tAnd, Sv.tOr, Sv.tNot, Sv.tYes, Sv.aNil, Sv.aCons, Sv.aStar, Sv.cCall, Sv.cTup, Sv.cLst, Sv.cSl, Sv.cMeth, Sv.sSetIx, Sv.sPar2, Sv.sPar3, Sv.sAsg, Sv.sAug, Sv.hold, Sv.slot, Sv.outF, Sv.argsB, Sv.slotsOf, Sv.back, Sv.rds, Sv.datas, Sv.gN, Sv.gT, Sv.gL, Sv.gRun, Sv.cFn, Sv.fnD, Sv.sRaise, Sv.R.bind, Sv.R.opt, Sv.R.toS, Sv.RS.seq, Sv.Hd.rd, Sv.B.rd, Sv.toP, Sv.eqP, Sv.neP, Sv.one, Sv.two, Sv.getP, Sv.lenP, Sv.addP, Sv.subP, Sv.mulP, Sv.mulQ, Sv.fdivP, Sv.modP, Sv.powP, Sv.intP, Sv.absP, Sv.max2P, Sv.min2P, Sv.negP, Sv.augAdd, Sv.setD, Sv.mAppend, Sv.ltB, Sv.gtB, Sv.leB, Sv.geB, Sv.ordB, Sv.small64, Sv.isP, Sv.wSeq, Sv.wRange1, Sv.sFor, h, ht, ht2, L2.atI, L2.ixN]
  · have b1 : ((b + 1000151 * (c + 1)) % 2305843009213693951).natAbs < 18446744073709551616 := by omega
    refine ⟨((((b + 1000151 * (c + 1)) % 2305843009213693951) * ((b + 1000151 * (c + 1)) % 2305843009213693951) % 2305843009213693921 * ((b + 1000151 * (c + 1)) % 2305843009213693951) + 9173 * (c + 1)) % 2305843009213693907 / 4096) % t, a, c + 1, Int.emod_nonneg _ (by omega), Int.emod_lt_of_pos _ ht, ?_⟩
    simp [d_turn, Sv.sNil, Sv.sCons, Sv.sPass, Sv.sBreak, Sv.sCont, Sv.sExpr, Sv.put, Sv.sSet, Sv.sRet, Sv.sRetN, Sv.sIf, Sv.cVar, Sv.cK, Sv.cE, Sv.cP, Sv.cOp, Sv.cUn, Sv.cChain, Sv.cIf, Sv.cAnd, Sv.cOr, Sv.cNot, Sv.tB, Sv.tAnd, Sv.tOr, Sv.tNot, Sv.tYes, Sv.aNil, Sv.aCons, Sv.aStar, Sv.cCall, Sv.cTup, Sv.cLst, Sv.cSl, Sv.cMeth, Sv.sSetIx, Sv.sPar2, Sv.sPar3, Sv.sAsg, Sv.sAug, Sv.hold, Sv.slot, Sv.outF, Sv.argsB, Sv.slotsOf, Sv.back, Sv.rds, Sv.datas, Sv.gN, Sv.gT, Sv.gL, Sv.gRun, Sv.cFn, Sv.fnD, Sv.sRaise, Sv.R.bind, Sv.R.opt, Sv.R.toS, Sv.RS.seq, Sv.Hd.rd, Sv.B.rd, Sv.toP, Sv.eqP, Sv.neP, Sv.one, Sv.two, Sv.getP, Sv.lenP, Sv.addP, Sv.subP, Sv.mulP, Sv.mulQ, Sv.fdivP, Sv.modP, Sv.powP, Sv.intP, Sv.absP, Sv.max2P, Sv.min2P, Sv.negP, Sv.augAdd, Sv.setD, Sv.mAppend, Sv.ltB, Sv.gtB, Sv.leB, Sv.geB, Sv.ordB, Sv.small64, Sv.isP, Sv.wSeq, Sv.wRange1, Sv.sFor, h, ht, ht2, L2.atI, L2.ixN, b1]
/-- a tap -/
def Tap (x : B) : Prop := ∃ a b c : Int, x = .l [.int a, .int b, .int c]
theorem tap_spec (ns : List Int) (i : Nat) : ∃ x, Tap x ∧ d_tap [.d (.list (ns.map .int)), .d (.int i)] = .ok x [some (.d (.list (ns.map .int))), some (.d (.int i))] := by
  have p1 : Builtin.Int.intBits 10 = 4 := by decide
  have p2 : (Builtin.Int.intBits (1000000000000000000000000000000000000000000000000000000000000 : Int) : Int) * 12 ≤ 134217728 := by decide +kernel
  have p3 : 3 ≤ sizeLine := by rw [sizeLine_eq]; decide
  by_cases h : i < ns.length
  · simp [d_tap, Sv.sNil, Sv.sCons, Sv.sPass, Sv.sBreak, Sv.sCont, Sv.sExpr, Sv.put, Sv.sSet, Sv.sRet, Sv.sRetN, Sv.sIf, Sv.cVar, Sv.cK, Sv.cE, Sv.cP, Sv.cOp, Sv.cUn, Sv.cChain, Sv.cIf, Sv.cAnd, Sv.cOr, Sv.cNot, Sv.tB, Sv.tAnd, Sv.tOr, Sv.tNot, Sv.tYes, Sv.aNil, Sv.aCons, Sv.aStar, Sv.cCall, Sv.cTup, Sv.cLst, Sv.cSl, Sv.cMeth, Sv.sSetIx, Sv.sPar2, Sv.sPar3, Sv.sAsg, Sv.sAug, Sv.hold, Sv.slot, Sv.outF, Sv.argsB, Sv.slotsOf, Sv.back, Sv.rds, Sv.datas, Sv.gN, Sv.gT, Sv.gL, Sv.gRun, Sv.cFn, Sv.fnD, Sv.sRaise, Sv.R.bind, Sv.R.opt, Sv.R.toS, Sv.RS.seq, Sv.Hd.rd, Sv.B.rd, Sv.toP, Sv.eqP, Sv.neP, Sv.one, Sv.two, Sv.getP, Sv.lenP, Sv.addP, Sv.subP, Sv.mulP, Sv.mulQ, Sv.fdivP, Sv.modP, Sv.powP, Sv.intP, Sv.absP, Sv.max2P, Sv.min2P, Sv.negP, Sv.augAdd, Sv.setD, Sv.mAppend, Sv.ltB, Sv.gtB, Sv.leB, Sv.geB, Sv.ordB, Sv.small64, Sv.isP, Sv.wSeq, Sv.wRange1, Sv.sFor, L2.atI, L2.ixN, h, p1, p2, p3]
    exact ⟨_, _, _, rfl⟩
  · simp [d_tap, Sv.sNil, Sv.sCons, Sv.sPass, Sv.sBreak, Sv.sCont, Sv.sExpr, Sv.put, Sv.sSet, Sv.sRet, Sv.sRetN, Sv.sIf, Sv.cVar, Sv.cK, Sv.cE, Sv.cP, Sv.cOp, Sv.cUn, Sv.cChain, Sv.cIf, Sv.cAnd, Sv.cOr, Sv.cNot, Sv.tB, Sv.tAnd, Sv.tOr, Sv.tNot, Sv.tYes, Sv.aNil, Sv.aCons, Sv.aStar, Sv.cCall, Sv.cTup, Sv.cLst, Sv.cSl, Sv.cMeth, Sv.sSetIx, Sv.sPar2, Sv.sPar3, Sv.sAsg, Sv.sAug, Sv.hold, Sv.slot, Sv.outF, Sv.argsB, Sv.slotsOf, Sv.back, Sv.rds, Sv.datas, Sv.gN, Sv.gT, Sv.gL, Sv.gRun, Sv.cFn, Sv.fnD, Sv.sRaise, Sv.R.bind, Sv.R.opt, Sv.R.toS, Sv.RS.seq, Sv.Hd.rd, Sv.B.rd, Sv.toP, Sv.eqP, Sv.neP, Sv.one, Sv.two, Sv.getP, Sv.lenP, Sv.addP, Sv.subP, Sv.mulP, Sv.mulQ, Sv.fdivP, Sv.modP, Sv.powP, Sv.intP, Sv.absP, Sv.max2P, Sv.min2P, Sv.negP, Sv.augAdd, Sv.setD, Sv.mAppend, Sv.ltB, Sv.gtB, Sv.leB, Sv.geB, Sv.ordB, Sv.small64, Sv.isP, Sv.wSeq, Sv.wRange1, Sv.sFor, L2.atI, L2.ixN, h, p1, p2, p3]
    exact ⟨_, _, _, rfl⟩
theorem turn_tap {x : B} (h : Tap x) (t : Int) (ht : 0 < t) (ht2 : t < 1073741824) : ∃ r y, 0 ≤ r ∧ r < t ∧ Tap y ∧ d_turn [x, .d (.int t)] = .ok (.d (.int r)) [some y, some (.d (.int t))] := by
  obtain ⟨a, b, c, rfl⟩ := h
  obtain ⟨r, a', c', h1, h2, h3⟩ := turn_spec a b c t ht ht2
  exact ⟨r, _, h1, h2, ⟨a', b, c', rfl⟩, h3⟩
theorem pick_tap {x : B} (h : Tap x) (l : List PyData) (hl : 0 < l.length) (hz : l.length ≤ 1000) : ∃ r y, r ∈ l ∧ Tap y ∧ d_pick [x, .d (.list l)] = .ok (.d r) [some y, some (.d (.list l))] := by
  obtain ⟨r, y, h1, h2, h3, h4⟩ := turn_tap h (l.length : Int) (by omega) (by omega)
  have hr : r.toNat < l.length := by omega
  have e : (r.toNat : Int) = r := by omega
  obtain ⟨a, b, c, rfl⟩ := h
  obtain ⟨a', b', c', rfl⟩ := h3
  refine ⟨l[r.toNat], _, List.getElem_mem hr, ⟨a', b', c', rfl⟩, ?_⟩
  simp [d_pick, Sv.sNil, Sv.sCons, Sv.sPass, Sv.sBreak, Sv.sCont, Sv.sExpr, Sv.put, Sv.sSet, Sv.sRet, Sv.sRetN, Sv.sIf, Sv.cVar, Sv.cK, Sv.cE, Sv.cP, Sv.cOp, Sv.cUn, Sv.cChain, Sv.cIf, Sv.cAnd, Sv.cOr, Sv.cNot, Sv.tB, Sv.tAnd, Sv.tOr, Sv.tNot, Sv.tYes, Sv.aNil, Sv.aCons, Sv.aStar, Sv.cCall, Sv.cTup, Sv.cLst, Sv.cSl, Sv.cMeth, Sv.sSetIx, Sv.sPar2, Sv.sPar3, Sv.sAsg, Sv.sAug, Sv.hold, Sv.slot, Sv.outF, Sv.argsB, Sv.slotsOf, Sv.back, Sv.rds, Sv.datas, Sv.gN, Sv.gT, Sv.gL, Sv.gRun, Sv.cFn, Sv.fnD, Sv.sRaise, Sv.R.bind, Sv.R.opt, Sv.R.toS, Sv.RS.seq, Sv.Hd.rd, Sv.B.rd, Sv.toP, Sv.eqP, Sv.neP, Sv.one, Sv.two, Sv.getP, Sv.lenP, Sv.addP, Sv.subP, Sv.mulP, Sv.mulQ, Sv.fdivP, Sv.modP, Sv.powP, Sv.intP, Sv.absP, Sv.max2P, Sv.min2P, Sv.negP, Sv.augAdd, Sv.setD, Sv.mAppend, Sv.ltB, Sv.gtB, Sv.leB, Sv.geB, Sv.ordB, Sv.small64, Sv.isP, Sv.wSeq, Sv.wRange1, Sv.sFor, h4, L2.atI, L2.ixN, h1, h2, hr]
/-! ### trees -/
theorem while_step {t : Td} {b : Sd} {n : Nat} {e e1 e2 : Sv.Env} (ht : t e = .ok true e1) (hb : b e1 = .nx e2) : sWhile t b (n + 1) e = sWhile t b n e2 := by
  rw [sWhile, ht, R.toS_ok, if_pos rfl, hb]
theorem while_end {t : Td} {b : Sd} {n : Nat} {e e1 : Sv.Env} (ht : t e = .ok false e1) : sWhile t b (n + 1) e = .nx e1 := by
  rw [sWhile, ht, R.toS_ok, if_neg Bool.false_ne_true]
theorem while_ret {t : Td} {b : Sd} {n : Nat} {e e1 e2 : Sv.Env} {x : B} (ht : t e = .ok true e1) (hb : b e1 = .rt x e2) : sWhile t b (n + 1) e = .rt x e2 := by
  rw [sWhile, ht, R.toS_ok, if_pos rfl, hb]
theorem while_ex {t : Td} {b : Sd} {n : Nat} {e e1 e2 : Sv.Env} {x : Ex} (ht : t e = .ok true e1) (hb : b e1 = .ex x e2) : sWhile t b (n + 1) e = .ex x e2 := by
  rw [sWhile, ht, R.toS_ok, if_pos rfl, hb]
theorem cut1 {α : Type} (x : α) (xs : List α) : cutD (x :: xs) (some 1) none = xs := by
  unfold cutD HT.sIx
  simp
theorem set_back {e : Sv.Env} {v : Nat} (he : e[v]? = some none) (b : Option B) : (e.set v b).set v none = e := by
  rw [List.set_set]
  apply List.ext_getElem?
  intro i
  by_cases hi : v = i
  · subst hi
    rw [List.getElem?_set_self (List.getElem?_eq_some_iff.mp he).1, he]
  · rw [List.getElem?_set_ne hi]
theorem compL_map {α : Type} {v : Nat} {c : Cd} {f g : α → PyData} {e : Sv.Env} (he : e[v]? = some none) : ∀ (xs : List α), (∀ x ∈ xs, cE c (e.set v (some (.d (f x)))) = .ok (.v (.d (g x))) (e.set v (some (.d (f x))))) → compL [v] (gN v) tYes c (xs.map f) e = .ok (xs.map g) e
  | [], _ => rfl
  | x :: xs, h => by
    have h1 := h x List.mem_cons_self
    have ih := compL_map he xs fun y hy => h y (List.mem_cons_of_mem _ hy)
    simp only [List.map_cons, compL, comp1, gN, tYes, h1, wipeE, set_back he, ih]
theorem seq_gen {a b : Sd} {e e1 : Sv.Env} {r : RS} (h : a e = .nx e1) (k : b e1 = r) : sCons a b e = r := by
  unfold sCons
  rw [h, seq_nx]
  exact k
theorem for_gen {W : Wd} {g : Gd} {b : Sd} {e e1 : Sv.Env} {r : RS} {xs : List PyData} (w : W e = .ok xs e1) (k : loopF g b xs e1 = r) : sFor W g b e = r := by
  unfold sFor
  rw [w, R.toS_ok]
  exact k
theorem fn_gen {n : Nat} {io : List Nat} {c : Sd} {bs : List B} {r : B} {e : Sv.Env} (h : c (bs.map some ++ List.replicate (n - bs.length) none) = .rt r e) : fnD n io c bs = .ok r (outF io e 0 bs) := by
  unfold fnD
  rw [h]
end K05
end
section
set_option autoImplicit false
set_option linter.all false
set_option maxRecDepth 100000
namespace K05
open PySem Sv

/-! ### names -/
def lets : List Nat := (Str.ofString "abcdefghijklmnopqrstuvwxyz").cps.toList
def isL (c : Nat) : Bool := decide (c ∈ lets)
def nmS (x : Str) : Bool := decide (1 ≤ x.length) && (decide (x.length ≤ 8) && x.cps.toList.all isL)
def isNm : PyData → Bool
  | .str x => nmS x
  | _ => false
theorem bools_map {α : Type} (g : α → Bool) : ∀ l : List α, boolsOf (l.map fun a => .bool (g a)) = some (l.map g)
  | [] => rfl
  | a :: r => by simp only [List.map_cons, boolsOf, bools_map g r, Option.map_some]
theorem name_spec (v : PyData) (h : ∀ x, v = .str x → x.length ≤ sizeLine) : d_is_name [.d v] = .ok (.d (.bool (isNm v))) [some (.d v)] := by
  cases v with
  | str x =>
    have hx := h x rfl
    have hl : x.cps.toList.length = x.length := by simp [Str.length]
    by_cases h1 : 1 ≤ x.length
    · have i1 : (1 : Int) ≤ (x.length : Int) := by omega
      by_cases h2 : x.length ≤ 8
      · have i2 : (x.length : Int) ≤ 8 := by omega
        have k : compL [1] (gN 1) tYes ce_is_name_0 (x.cps.toList.map fun c => .str ⟨#[c]⟩) [some (.d (.str x)), none] = .ok (x.cps.toList.map fun c => .bool (isL c)) [some (.d (.str x)), none] := by
          refine compL_map rfl _ fun c hc => ?_
          simp [ce_is_name_0, Sv.sNil, Sv.sCons, Sv.sPass, Sv.sBreak, Sv.sCont, Sv.sExpr, Sv.put, Sv.sSet, Sv.sRet, Sv.sRetN, Sv.sIf, Sv.cVar, Sv.cK, Sv.cE, Sv.cP, Sv.cOp, Sv.cUn, Sv.cChain, Sv.cIf, Sv.cAnd, Sv.cOr, Sv.cNot, Sv.tB, Sv.tAnd, Sv.tOr, Sv.tNot, Sv.tYes, Sv.aNil, Sv.aCons, Sv.aStar, Sv.cCall, Sv.cTup, Sv.cLst, Sv.cSl, Sv.cMeth, Sv.sSetIx, Sv.sPar2, Sv.sPar3, Sv.sAsg, Sv.sAug, Sv.hold, Sv.slot, Sv.outF, Sv.argsB, Sv.slotsOf, Sv.back, Sv.rds, Sv.datas, Sv.gN, Sv.gT, Sv.gL, Sv.gRun, Sv.cFn, Sv.fnD, Sv.sRaise, Sv.R.bind, Sv.R.opt, Sv.R.toS, Sv.RS.seq, Sv.Hd.rd, Sv.B.rd, Sv.toP, Sv.eqP, Sv.neP, Sv.one, Sv.two, Sv.getP, Sv.lenP, Sv.addP, Sv.subP, Sv.mulP, Sv.mulQ, Sv.fdivP, Sv.modP, Sv.powP, Sv.intP, Sv.absP, Sv.max2P, Sv.min2P, Sv.negP, Sv.augAdd, Sv.setD, Sv.mAppend, Sv.ltB, Sv.gtB, Sv.leB, Sv.geB, Sv.ordB, Sv.small64, Sv.isP, Sv.wSeq, Sv.wRange1, Sv.sFor, inB, isL, lets]
        have hz : x.cps.toList.length ≤ sizeLine := by omega
        simp [d_is_name, Sv.sNil, Sv.sCons, Sv.sPass, Sv.sBreak, Sv.sCont, Sv.sExpr, Sv.put, Sv.sSet, Sv.sRet, Sv.sRetN, Sv.sIf, Sv.cVar, Sv.cK, Sv.cE, Sv.cP, Sv.cOp, Sv.cUn, Sv.cChain, Sv.cIf, Sv.cAnd, Sv.cOr, Sv.cNot, Sv.tB, Sv.tAnd, Sv.tOr, Sv.tNot, Sv.tYes, Sv.aNil, Sv.aCons, Sv.aStar, Sv.cCall, Sv.cTup, Sv.cLst, Sv.cSl, Sv.cMeth, Sv.sSetIx, Sv.sPar2, Sv.sPar3, Sv.sAsg, Sv.sAug, Sv.hold, Sv.slot, Sv.outF, Sv.argsB, Sv.slotsOf, Sv.back, Sv.rds, Sv.datas, Sv.gN, Sv.gT, Sv.gL, Sv.gRun, Sv.cFn, Sv.fnD, Sv.sRaise, Sv.R.bind, Sv.R.opt, Sv.R.toS, Sv.RS.seq, Sv.Hd.rd, Sv.B.rd, Sv.toP, Sv.eqP, Sv.neP, Sv.one, Sv.two, Sv.getP, Sv.lenP, Sv.addP, Sv.subP, Sv.mulP, Sv.mulQ, Sv.fdivP, Sv.modP, Sv.powP, Sv.intP, Sv.absP, Sv.max2P, Sv.min2P, Sv.negP, Sv.augAdd, Sv.setD, Sv.mAppend, Sv.ltB, Sv.gtB, Sv.leB, Sv.geB, Sv.ordB, Sv.small64, Sv.isP, Sv.wSeq, Sv.wRange1, Sv.sFor, isStr, hx, i1, i2, h1, h2, cComp, wStr, signs, wipeE, restE, hz, k, allP, bools_map, isNm, nmS, hl]
      · have i2 : ¬ (x.length : Int) ≤ 8 := by omega
        simp [d_is_name, Sv.sNil, Sv.sCons, Sv.sPass, Sv.sBreak, Sv.sCont, Sv.sExpr, Sv.put, Sv.sSet, Sv.sRet, Sv.sRetN, Sv.sIf, Sv.cVar, Sv.cK, Sv.cE, Sv.cP, Sv.cOp, Sv.cUn, Sv.cChain, Sv.cIf, Sv.cAnd, Sv.cOr, Sv.cNot, Sv.tB, Sv.tAnd, Sv.tOr, Sv.tNot, Sv.tYes, Sv.aNil, Sv.aCons, Sv.aStar, Sv.cCall, Sv.cTup, Sv.cLst, Sv.cSl, Sv.cMeth, Sv.sSetIx, Sv.sPar2, Sv.sPar3, Sv.sAsg, Sv.sAug, Sv.hold, Sv.slot, Sv.outF, Sv.argsB, Sv.slotsOf, Sv.back, Sv.rds, Sv.datas, Sv.gN, Sv.gT, Sv.gL, Sv.gRun, Sv.cFn, Sv.fnD, Sv.sRaise, Sv.R.bind, Sv.R.opt, Sv.R.toS, Sv.RS.seq, Sv.Hd.rd, Sv.B.rd, Sv.toP, Sv.eqP, Sv.neP, Sv.one, Sv.two, Sv.getP, Sv.lenP, Sv.addP, Sv.subP, Sv.mulP, Sv.mulQ, Sv.fdivP, Sv.modP, Sv.powP, Sv.intP, Sv.absP, Sv.max2P, Sv.min2P, Sv.negP, Sv.augAdd, Sv.setD, Sv.mAppend, Sv.ltB, Sv.gtB, Sv.leB, Sv.geB, Sv.ordB, Sv.small64, Sv.isP, Sv.wSeq, Sv.wRange1, Sv.sFor, isStr, hx, i1, i2, h1, h2, isNm, nmS]
    · have i1 : ¬ (1 : Int) ≤ (x.length : Int) := by omega
      simp [d_is_name, Sv.sNil, Sv.sCons, Sv.sPass, Sv.sBreak, Sv.sCont, Sv.sExpr, Sv.put, Sv.sSet, Sv.sRet, Sv.sRetN, Sv.sIf, Sv.cVar, Sv.cK, Sv.cE, Sv.cP, Sv.cOp, Sv.cUn, Sv.cChain, Sv.cIf, Sv.cAnd, Sv.cOr, Sv.cNot, Sv.tB, Sv.tAnd, Sv.tOr, Sv.tNot, Sv.tYes, Sv.aNil, Sv.aCons, Sv.aStar, Sv.cCall, Sv.cTup, Sv.cLst, Sv.cSl, Sv.cMeth, Sv.sSetIx, Sv.sPar2, Sv.sPar3, Sv.sAsg, Sv.sAug, Sv.hold, Sv.slot, Sv.outF, Sv.argsB, Sv.slotsOf, Sv.back, Sv.rds, Sv.datas, Sv.gN, Sv.gT, Sv.gL, Sv.gRun, Sv.cFn, Sv.fnD, Sv.sRaise, Sv.R.bind, Sv.R.opt, Sv.R.toS, Sv.RS.seq, Sv.Hd.rd, Sv.B.rd, Sv.toP, Sv.eqP, Sv.neP, Sv.one, Sv.two, Sv.getP, Sv.lenP, Sv.addP, Sv.subP, Sv.mulP, Sv.mulQ, Sv.fdivP, Sv.modP, Sv.powP, Sv.intP, Sv.absP, Sv.max2P, Sv.min2P, Sv.negP, Sv.augAdd, Sv.setD, Sv.mAppend, Sv.ltB, Sv.gtB, Sv.leB, Sv.geB, Sv.ordB, Sv.small64, Sv.isP, Sv.wSeq, Sv.wRange1, Sv.sFor, isStr, hx, i1, h1, isNm, nmS]
  | _ => simp [d_is_name, Sv.sNil, Sv.sCons, Sv.sPass, Sv.sBreak, Sv.sCont, Sv.sExpr, Sv.put, Sv.sSet, Sv.sRet, Sv.sRetN, Sv.sIf, Sv.cVar, Sv.cK, Sv.cE, Sv.cP, Sv.cOp, Sv.cUn, Sv.cChain, Sv.cIf, Sv.cAnd, Sv.cOr, Sv.cNot, Sv.tB, Sv.tAnd, Sv.tOr, Sv.tNot, Sv.tYes, Sv.aNil, Sv.aCons, Sv.aStar, Sv.cCall, Sv.cTup, Sv.cLst, Sv.cSl, Sv.cMeth, Sv.sSetIx, Sv.sPar2, Sv.sPar3, Sv.sAsg, Sv.sAug, Sv.hold, Sv.slot, Sv.outF, Sv.argsB, Sv.slotsOf, Sv.back, Sv.rds, Sv.datas, Sv.gN, Sv.gT, Sv.gL, Sv.gRun, Sv.cFn, Sv.fnD, Sv.sRaise, Sv.R.bind, Sv.R.opt, Sv.R.toS, Sv.RS.seq, Sv.Hd.rd, Sv.B.rd, Sv.toP, Sv.eqP, Sv.neP, Sv.one, Sv.two, Sv.getP, Sv.lenP, Sv.addP, Sv.subP, Sv.mulP, Sv.mulQ, Sv.fdivP, Sv.modP, Sv.powP, Sv.intP, Sv.absP, Sv.max2P, Sv.min2P, Sv.negP, Sv.augAdd, Sv.setD, Sv.mAppend, Sv.ltB, Sv.gtB, Sv.leB, Sv.geB, Sv.ordB, Sv.small64, Sv.isP, Sv.wSeq, Sv.wRange1, Sv.sFor, isStr, isNm]
theorem compL_filter {α : Type} {v : Nat} {c : Cd} {tt : Td} {f : α → PyData} {p : α → Bool} {e : Sv.Env} (he : e[v]? = some none) : ∀ (xs : List α), (∀ x ∈ xs, tt (e.set v (some (.d (f x)))) = .ok (p x) (e.set v (some (.d (f x)))) ∧ cE c (e.set v (some (.d (f x)))) = .ok (.v (.d (f x))) (e.set v (some (.d (f x))))) →
    compL [v] (gN v) tt c (xs.map f) e = .ok ((xs.filter p).map f) e
  | [], _ => rfl
  | x :: xs, h => by
    obtain ⟨h1, h2⟩ := h x List.mem_cons_self
    have ih := compL_filter he xs fun y hy => h y (List.mem_cons_of_mem _ hy)
    cases hp : p x with
    | true =>
      rw [hp] at h1
      simp only [List.map_cons, compL, comp1, gN, h1, h2, wipeE, set_back he, ih, List.filter_cons, hp, if_true]
    | false =>
      rw [hp] at h1
      simp only [List.map_cons, compL, comp1, gN, h1, wipeE, set_back he, ih, List.filter_cons, hp, Bool.false_eq_true, if_false]
theorem eq_nil {xs : List PyData} (h : PyData.plainAll xs = true) : eqB (.list xs) (.list []) = some xs.isEmpty := by
  cases xs with
  | nil => decide
  | cons a r =>
    have e : PyData.eqv (.list (a :: r)) (.list []) = false := by simp [PyData.eqv, PyData.eqvAll]
    have p : (PyData.list (a :: r)).plain = true := by simpa [PyData.plain] using h
    have q : shal (.list (a :: r)) (.list []) = true := by simp [shal, PyData.depth, PyData.depthAll]
    have q2 : (PyData.list []).plain = true := by simp [PyData.plain, PyData.plainAll]
    simp [eqB, e, p, q, q2]
theorem plain_strs {α : Type} (f : α → Str) : ∀ l : List α, PyData.plainAll (l.map fun a => .str (f a)) = true
  | [] => rfl
  | a :: r => by simp [PyData.plainAll, PyData.plain, plain_strs f r]
theorem l_name_spec (v : PyData) (h : ∀ x, v = .str x → x.length ≤ sizeLine) : d_l_is_name [.d v] = .ok (.d (.bool (isNm v))) [some (.d v)] := by
  cases v with
  | str x =>
    have hx := h x rfl
    have hl : x.cps.toList.length = x.length := by simp [Str.length]
    by_cases h1 : 1 ≤ x.length
    · have i1 : ¬ (x.length : Int) < 1 := by omega
      by_cases h2 : x.length ≤ 8
      · have i2 : ¬ (8 : Int) < (x.length : Int) := by omega
        have k : compL [1] (gN 1) ct_l_is_name_1 ce_l_is_name_0 (x.cps.toList.map fun c => .str ⟨#[c]⟩) [some (.d (.str x)), none] = .ok ((x.cps.toList.filter fun c => !isL c).map fun c => .str ⟨#[c]⟩) [some (.d (.str x)), none] := by
          refine compL_filter rfl _ fun c hc => ⟨?_, ?_⟩
          · simp [ct_l_is_name_1, Sv.sNil, Sv.sCons, Sv.sPass, Sv.sBreak, Sv.sCont, Sv.sExpr, Sv.put, Sv.sSet, Sv.sRet, Sv.sRetN, Sv.sIf, Sv.cVar, Sv.cK, Sv.cE, Sv.cP, Sv.cOp, Sv.cUn, Sv.cChain, Sv.cIf, Sv.cAnd, Sv.cOr, Sv.cNot, Sv.tB, Sv.tAnd, Sv.tOr, Sv.tNot, Sv.tYes, Sv.aNil, Sv.aCons, Sv.aStar, Sv.cCall, Sv.cTup, Sv.cLst, Sv.cSl, Sv.cMeth, Sv.sSetIx, Sv.sPar2, Sv.sPar3, Sv.sAsg, Sv.sAug, Sv.hold, Sv.slot, Sv.outF, Sv.argsB, Sv.slotsOf, Sv.back, Sv.rds, Sv.datas, Sv.gN, Sv.gT, Sv.gL, Sv.gRun, Sv.cFn, Sv.fnD, Sv.sRaise, Sv.R.bind, Sv.R.opt, Sv.R.toS, Sv.RS.seq, Sv.Hd.rd, Sv.B.rd, Sv.toP, Sv.eqP, Sv.neP, Sv.one, Sv.two, Sv.getP, Sv.lenP, Sv.addP, Sv.subP, Sv.mulP, Sv.mulQ, Sv.fdivP, Sv.modP, Sv.powP, Sv.intP, Sv.absP, Sv.max2P, Sv.min2P, Sv.negP, Sv.augAdd, Sv.setD, Sv.mAppend, Sv.ltB, Sv.gtB, Sv.leB, Sv.geB, Sv.ordB, Sv.small64, Sv.isP, Sv.wSeq, Sv.wRange1, Sv.sFor, notInB, inB, isL, lets]
          · simp [ce_l_is_name_0, Sv.sNil, Sv.sCons, Sv.sPass, Sv.sBreak, Sv.sCont, Sv.sExpr, Sv.put, Sv.sSet, Sv.sRet, Sv.sRetN, Sv.sIf, Sv.cVar, Sv.cK, Sv.cE, Sv.cP, Sv.cOp, Sv.cUn, Sv.cChain, Sv.cIf, Sv.cAnd, Sv.cOr, Sv.cNot, Sv.tB, Sv.tAnd, Sv.tOr, Sv.tNot, Sv.tYes, Sv.aNil, Sv.aCons, Sv.aStar, Sv.cCall, Sv.cTup, Sv.cLst, Sv.cSl, Sv.cMeth, Sv.sSetIx, Sv.sPar2, Sv.sPar3, Sv.sAsg, Sv.sAug, Sv.hold, Sv.slot, Sv.outF, Sv.argsB, Sv.slotsOf, Sv.back, Sv.rds, Sv.datas, Sv.gN, Sv.gT, Sv.gL, Sv.gRun, Sv.cFn, Sv.fnD, Sv.sRaise, Sv.R.bind, Sv.R.opt, Sv.R.toS, Sv.RS.seq, Sv.Hd.rd, Sv.B.rd, Sv.toP, Sv.eqP, Sv.neP, Sv.one, Sv.two, Sv.getP, Sv.lenP, Sv.addP, Sv.subP, Sv.mulP, Sv.mulQ, Sv.fdivP, Sv.modP, Sv.powP, Sv.intP, Sv.absP, Sv.max2P, Sv.min2P, Sv.negP, Sv.augAdd, Sv.setD, Sv.mAppend, Sv.ltB, Sv.gtB, Sv.leB, Sv.geB, Sv.ordB, Sv.small64, Sv.isP, Sv.wSeq, Sv.wRange1, Sv.sFor]
        have hz : x.cps.toList.length ≤ sizeLine := by omega
        have q := eq_nil (plain_strs (fun c => (⟨#[c]⟩ : Str)) (x.cps.toList.filter fun c => !isL c))
        have ev : ((x.cps.toList.filter fun c => !isL c).map fun c => PyData.str ⟨#[c]⟩).isEmpty = x.cps.toList.all isL := by
          cases ha : x.cps.toList.all isL with
          | true =>
            have : (x.cps.toList.filter fun c => !isL c) = [] := by
              rw [List.filter_eq_nil_iff]
              intro c hc
              simp [List.all_eq_true.mp ha c hc]
            rw [this]
            rfl
          | false =>
            have : (x.cps.toList.filter fun c => !isL c) ≠ [] := by
              intro z
              rw [List.filter_eq_nil_iff] at z
              have : x.cps.toList.all isL = true := List.all_eq_true.mpr fun c hc => by simpa using z c hc
              rw [this] at ha
              cases ha
            cases hq : (x.cps.toList.filter fun c => !isL c) with
            | nil => exact absurd hq this
            | cons a r => rfl
        rw [ev] at q
        have hz2 : x.cps.size ≤ sizeLine := hx
        simp [d_l_is_name, Sv.sNil, Sv.sCons, Sv.sPass, Sv.sBreak, Sv.sCont, Sv.sExpr, Sv.put, Sv.sSet, Sv.sRet, Sv.sRetN, Sv.sIf, Sv.cVar, Sv.cK, Sv.cE, Sv.cP, Sv.cOp, Sv.cUn, Sv.cChain, Sv.cIf, Sv.cAnd, Sv.cOr, Sv.cNot, Sv.tB, Sv.tAnd, Sv.tOr, Sv.tNot, Sv.tYes, Sv.aNil, Sv.aCons, Sv.aStar, Sv.cCall, Sv.cTup, Sv.cLst, Sv.cSl, Sv.cMeth, Sv.sSetIx, Sv.sPar2, Sv.sPar3, Sv.sAsg, Sv.sAug, Sv.hold, Sv.slot, Sv.outF, Sv.argsB, Sv.slotsOf, Sv.back, Sv.rds, Sv.datas, Sv.gN, Sv.gT, Sv.gL, Sv.gRun, Sv.cFn, Sv.fnD, Sv.sRaise, Sv.R.bind, Sv.R.opt, Sv.R.toS, Sv.RS.seq, Sv.Hd.rd, Sv.B.rd, Sv.toP, Sv.eqP, Sv.neP, Sv.one, Sv.two, Sv.getP, Sv.lenP, Sv.addP, Sv.subP, Sv.mulP, Sv.mulQ, Sv.fdivP, Sv.modP, Sv.powP, Sv.intP, Sv.absP, Sv.max2P, Sv.min2P, Sv.negP, Sv.augAdd, Sv.setD, Sv.mAppend, Sv.ltB, Sv.gtB, Sv.leB, Sv.geB, Sv.ordB, Sv.small64, Sv.isP, Sv.wSeq, Sv.wRange1, Sv.sFor, isStr, hx, i1, i2, cComp, wStr, signs, wipeE, restE, hz2, k, q, isNm, nmS, h1, h2]
      · have i2 : (8 : Int) < (x.length : Int) := by omega
        simp [d_l_is_name, Sv.sNil, Sv.sCons, Sv.sPass, Sv.sBreak, Sv.sCont, Sv.sExpr, Sv.put, Sv.sSet, Sv.sRet, Sv.sRetN, Sv.sIf, Sv.cVar, Sv.cK, Sv.cE, Sv.cP, Sv.cOp, Sv.cUn, Sv.cChain, Sv.cIf, Sv.cAnd, Sv.cOr, Sv.cNot, Sv.tB, Sv.tAnd, Sv.tOr, Sv.tNot, Sv.tYes, Sv.aNil, Sv.aCons, Sv.aStar, Sv.cCall, Sv.cTup, Sv.cLst, Sv.cSl, Sv.cMeth, Sv.sSetIx, Sv.sPar2, Sv.sPar3, Sv.sAsg, Sv.sAug, Sv.hold, Sv.slot, Sv.outF, Sv.argsB, Sv.slotsOf, Sv.back, Sv.rds, Sv.datas, Sv.gN, Sv.gT, Sv.gL, Sv.gRun, Sv.cFn, Sv.fnD, Sv.sRaise, Sv.R.bind, Sv.R.opt, Sv.R.toS, Sv.RS.seq, Sv.Hd.rd, Sv.B.rd, Sv.toP, Sv.eqP, Sv.neP, Sv.one, Sv.two, Sv.getP, Sv.lenP, Sv.addP, Sv.subP, Sv.mulP, Sv.mulQ, Sv.fdivP, Sv.modP, Sv.powP, Sv.intP, Sv.absP, Sv.max2P, Sv.min2P, Sv.negP, Sv.augAdd, Sv.setD, Sv.mAppend, Sv.ltB, Sv.gtB, Sv.leB, Sv.geB, Sv.ordB, Sv.small64, Sv.isP, Sv.wSeq, Sv.wRange1, Sv.sFor, isStr, hx, i1, i2, h1, h2, isNm, nmS]
    · have i1 : (x.length : Int) < 1 := by omega
      simp [d_l_is_name, Sv.sNil, Sv.sCons, Sv.sPass, Sv.sBreak, Sv.sCont, Sv.sExpr, Sv.put, Sv.sSet, Sv.sRet, Sv.sRetN, Sv.sIf, Sv.cVar, Sv.cK, Sv.cE, Sv.cP, Sv.cOp, Sv.cUn, Sv.cChain, Sv.cIf, Sv.cAnd, Sv.cOr, Sv.cNot, Sv.tB, Sv.tAnd, Sv.tOr, Sv.tNot, Sv.tYes, Sv.aNil, Sv.aCons, Sv.aStar, Sv.cCall, Sv.cTup, Sv.cLst, Sv.cSl, Sv.cMeth, Sv.sSetIx, Sv.sPar2, Sv.sPar3, Sv.sAsg, Sv.sAug, Sv.hold, Sv.slot, Sv.outF, Sv.argsB, Sv.slotsOf, Sv.back, Sv.rds, Sv.datas, Sv.gN, Sv.gT, Sv.gL, Sv.gRun, Sv.cFn, Sv.fnD, Sv.sRaise, Sv.R.bind, Sv.R.opt, Sv.R.toS, Sv.RS.seq, Sv.Hd.rd, Sv.B.rd, Sv.toP, Sv.eqP, Sv.neP, Sv.one, Sv.two, Sv.getP, Sv.lenP, Sv.addP, Sv.subP, Sv.mulP, Sv.mulQ, Sv.fdivP, Sv.modP, Sv.powP, Sv.intP, Sv.absP, Sv.max2P, Sv.min2P, Sv.negP, Sv.augAdd, Sv.setD, Sv.mAppend, Sv.ltB, Sv.gtB, Sv.leB, Sv.geB, Sv.ordB, Sv.small64, Sv.isP, Sv.wSeq, Sv.wRange1, Sv.sFor, isStr, hx, i1, h1, isNm, nmS]
  | _ => simp [d_l_is_name, Sv.sNil, Sv.sCons, Sv.sPass, Sv.sBreak, Sv.sCont, Sv.sExpr, Sv.put, Sv.sSet, Sv.sRet, Sv.sRetN, Sv.sIf, Sv.cVar, Sv.cK, Sv.cE, Sv.cP, Sv.cOp, Sv.cUn, Sv.cChain, Sv.cIf, Sv.cAnd, Sv.cOr, Sv.cNot, Sv.tB, Sv.tAnd, Sv.tOr, Sv.tNot, Sv.tYes, Sv.aNil, Sv.aCons, Sv.aStar, Sv.cCall, Sv.cTup, Sv.cLst, Sv.cSl, Sv.cMeth, Sv.sSetIx, Sv.sPar2, Sv.sPar3, Sv.sAsg, Sv.sAug, Sv.hold, Sv.slot, Sv.outF, Sv.argsB, Sv.slotsOf, Sv.back, Sv.rds, Sv.datas, Sv.gN, Sv.gT, Sv.gL, Sv.gRun, Sv.cFn, Sv.fnD, Sv.sRaise, Sv.R.bind, Sv.R.opt, Sv.R.toS, Sv.RS.seq, Sv.Hd.rd, Sv.B.rd, Sv.toP, Sv.eqP, Sv.neP, Sv.one, Sv.two, Sv.getP, Sv.lenP, Sv.addP, Sv.subP, Sv.mulP, Sv.mulQ, Sv.fdivP, Sv.modP, Sv.powP, Sv.intP, Sv.absP, Sv.max2P, Sv.min2P, Sv.negP, Sv.augAdd, Sv.setD, Sv.mAppend, Sv.ltB, Sv.gtB, Sv.leB, Sv.geB, Sv.ordB, Sv.small64, Sv.isP, Sv.wSeq, Sv.wRange1, Sv.sFor, isStr, isNm]
/-! ### fronts -/
def wThen : Str := Str.ofString "then"
def wOr : Str := Str.ofString "or"
def wAny : Str := Str.ofString "any"
def wSome : Str := Str.ofString "some"
def wMaybe : Str := Str.ofString "maybe"
/-- a word that may stand in front of so many parts -/
def isFr (x : Str) (n : Nat) : Bool := decide (x = wThen) || decide (x = wOr) || ((decide (x = wAny) || decide (x = wSome) || decide (x = wMaybe)) && decide (n = 1))
def front : PyData → Bool
  | .tuple (.str x :: ps) => isFr x ps.length
  | _ => false
def parts : PyData → List PyData
  | .tuple (_ :: ps) => ps
  | _ => []
theorem at0 {α : Type} (x : α) (xs : List α) : L2.atI (x :: xs) 0 = some x := by
  unfold L2.atI L2.ixN
  simp
theorem in_texts (x : Str) (ks : List Str) : inB (.str x) (.tuple (ks.map .str)) = some (ks.any fun k => decide (k = x)) := by
  have p := plain_strs (fun k : Str => k) ks
  have e : ((ks.map PyData.str).any fun y => PyData.eqv y (.str x)) = ks.any fun k => decide (k = x) := by
    rw [List.any_map]
    congr 1
  unfold inB
  simp only [e]
  rw [if_pos (by simp [PyData.plain, PyData.depth]; simpa using p)]
theorem in_textsL (x : Str) (ks : List Str) : inB (.str x) (.list (ks.map .str)) = some (ks.any fun k => decide (k = x)) := by
  have p := plain_strs (fun k : Str => k) ks
  have e : ((ks.map PyData.str).any fun y => PyData.eqv y (.str x)) = ks.any fun k => decide (k = x) := by
    rw [List.any_map]
    congr 1
  unfold inB
  simp only [e]
  rw [if_pos (by simp [PyData.plain, PyData.depth]; simpa using p)]
theorem eq_int (a b : Int) : eqB (.int a) (.int b) = some (decide (a = b)) := by
  by_cases h : a = b <;> simp [eqB, shal, PyData.depth, PyData.plain, PyData.eqv, h]
theorem dsym {α : Type} [DecidableEq α] (a b : α) : decide (a = b) = decide (b = a) := decide_eq_decide.mpr ⟨Eq.symm, Eq.symm⟩
theorem front_spec (v : PyData) : d_has_front [.d v] = .ok (.d (.bool (front v))) [some (.d v)] := by
  have z0 : (0 : Nat) ≤ sizeLine := Nat.zero_le _
  cases v with
  | tuple xs =>
    cases xs with
    | nil => simp [d_has_front, Sv.sNil, Sv.sCons, Sv.sPass, Sv.sBreak, Sv.sCont, Sv.sExpr, Sv.put, Sv.sSet, Sv.sRet, Sv.sRetN, Sv.sIf, Sv.cVar, Sv.cK, Sv.cE, Sv.cP, Sv.cOp, Sv.cUn, Sv.cChain, Sv.cIf, Sv.cAnd, Sv.cOr, Sv.cNot, Sv.tB, Sv.tAnd, Sv.tOr, Sv.tNot, Sv.tYes, Sv.aNil, Sv.aCons, Sv.aStar, Sv.cCall, Sv.cTup, Sv.cLst, Sv.cSl, Sv.cMeth, Sv.sSetIx, Sv.sPar2, Sv.sPar3, Sv.sAsg, Sv.sAug, Sv.hold, Sv.slot, Sv.outF, Sv.argsB, Sv.slotsOf, Sv.back, Sv.rds, Sv.datas, Sv.gN, Sv.gT, Sv.gL, Sv.gRun, Sv.cFn, Sv.fnD, Sv.sRaise, Sv.R.bind, Sv.R.opt, Sv.R.toS, Sv.RS.seq, Sv.Hd.rd, Sv.B.rd, Sv.toP, Sv.eqP, Sv.neP, Sv.one, Sv.two, Sv.getP, Sv.lenP, Sv.addP, Sv.subP, Sv.mulP, Sv.mulQ, Sv.fdivP, Sv.modP, Sv.powP, Sv.intP, Sv.absP, Sv.max2P, Sv.min2P, Sv.negP, Sv.augAdd, Sv.setD, Sv.mAppend, Sv.ltB, Sv.gtB, Sv.leB, Sv.geB, Sv.ordB, Sv.small64, Sv.isP, Sv.wSeq, Sv.wRange1, Sv.sFor, isTup, eq0P, eq0B, front]
    | cons w ps =>
      cases w with
      | str x =>
        have e1 := in_texts x [Str.ofString "then", Str.ofString "or"]
        have e2 := in_texts x [Str.ofString "any", Str.ofString "some", Str.ofString "maybe"]
        have e3 := eq_int ((ps.length : Int) + 1) 2
        simp only [List.map_cons, List.map_nil, List.any_cons, List.any_nil, Bool.or_false] at e1 e2
        have f1 : (decide (Str.ofString "then" = x) || decide (Str.ofString "or" = x)) = (decide (x = wThen) || decide (x = wOr)) := by
          rw [dsym x wThen, dsym x wOr]
          rfl
        have f2 : (decide (Str.ofString "any" = x) || (decide (Str.ofString "some" = x) || decide (Str.ofString "maybe" = x))) = (decide (x = wAny) || decide (x = wSome) || decide (x = wMaybe)) := by
          rw [dsym x wAny, dsym x wSome, dsym x wMaybe, Bool.or_assoc]
          rfl
        have f3 : decide ((ps.length : Int) + 1 = 2) = decide (ps.length = 1) := by
          rw [decide_eq_decide]
          omega
        rw [f1] at e1
        rw [f2] at e2
        rw [f3] at e3
        cases g1 : (decide (x = wThen) || decide (x = wOr)) with
        | true =>
          rw [g1] at e1
          simp [d_has_front, Sv.sNil, Sv.sCons, Sv.sPass, Sv.sBreak, Sv.sCont, Sv.sExpr, Sv.put, Sv.sSet, Sv.sRet, Sv.sRetN, Sv.sIf, Sv.cVar, Sv.cK, Sv.cE, Sv.cP, Sv.cOp, Sv.cUn, Sv.cChain, Sv.cIf, Sv.cAnd, Sv.cOr, Sv.cNot, Sv.tB, Sv.tAnd, Sv.tOr, Sv.tNot, Sv.tYes, Sv.aNil, Sv.aCons, Sv.aStar, Sv.cCall, Sv.cTup, Sv.cLst, Sv.cSl, Sv.cMeth, Sv.sSetIx, Sv.sPar2, Sv.sPar3, Sv.sAsg, Sv.sAug, Sv.hold, Sv.slot, Sv.outF, Sv.argsB, Sv.slotsOf, Sv.back, Sv.rds, Sv.datas, Sv.gN, Sv.gT, Sv.gL, Sv.gRun, Sv.cFn, Sv.fnD, Sv.sRaise, Sv.R.bind, Sv.R.opt, Sv.R.toS, Sv.RS.seq, Sv.Hd.rd, Sv.B.rd, Sv.toP, Sv.eqP, Sv.neP, Sv.one, Sv.two, Sv.getP, Sv.lenP, Sv.addP, Sv.subP, Sv.mulP, Sv.mulQ, Sv.fdivP, Sv.modP, Sv.powP, Sv.intP, Sv.absP, Sv.max2P, Sv.min2P, Sv.negP, Sv.augAdd, Sv.setD, Sv.mAppend, Sv.ltB, Sv.gtB, Sv.leB, Sv.geB, Sv.ordB, Sv.small64, Sv.isP, Sv.wSeq, Sv.wRange1, Sv.sFor, isTup, isStr, eq0P, eq0B, at0, e1, front, isFr, g1]
        | false =>
          rw [g1] at e1
          cases g2 : (decide (x = wAny) || decide (x = wSome) || decide (x = wMaybe)) with
          | true =>
            rw [g2] at e2
            simp [d_has_front, Sv.sNil, Sv.sCons, Sv.sPass, Sv.sBreak, Sv.sCont, Sv.sExpr, Sv.put, Sv.sSet, Sv.sRet, Sv.sRetN, Sv.sIf, Sv.cVar, Sv.cK, Sv.cE, Sv.cP, Sv.cOp, Sv.cUn, Sv.cChain, Sv.cIf, Sv.cAnd, Sv.cOr, Sv.cNot, Sv.tB, Sv.tAnd, Sv.tOr, Sv.tNot, Sv.tYes, Sv.aNil, Sv.aCons, Sv.aStar, Sv.cCall, Sv.cTup, Sv.cLst, Sv.cSl, Sv.cMeth, Sv.sSetIx, Sv.sPar2, Sv.sPar3, Sv.sAsg, Sv.sAug, Sv.hold, Sv.slot, Sv.outF, Sv.argsB, Sv.slotsOf, Sv.back, Sv.rds, Sv.datas, Sv.gN, Sv.gT, Sv.gL, Sv.gRun, Sv.cFn, Sv.fnD, Sv.sRaise, Sv.R.bind, Sv.R.opt, Sv.R.toS, Sv.RS.seq, Sv.Hd.rd, Sv.B.rd, Sv.toP, Sv.eqP, Sv.neP, Sv.one, Sv.two, Sv.getP, Sv.lenP, Sv.addP, Sv.subP, Sv.mulP, Sv.mulQ, Sv.fdivP, Sv.modP, Sv.powP, Sv.intP, Sv.absP, Sv.max2P, Sv.min2P, Sv.negP, Sv.augAdd, Sv.setD, Sv.mAppend, Sv.ltB, Sv.gtB, Sv.leB, Sv.geB, Sv.ordB, Sv.small64, Sv.isP, Sv.wSeq, Sv.wRange1, Sv.sFor, isTup, isStr, eq0P, eq0B, at0, e1, e2, e3, front, isFr, g1, g2]
          | false =>
            rw [g2] at e2
            simp [d_has_front, Sv.sNil, Sv.sCons, Sv.sPass, Sv.sBreak, Sv.sCont, Sv.sExpr, Sv.put, Sv.sSet, Sv.sRet, Sv.sRetN, Sv.sIf, Sv.cVar, Sv.cK, Sv.cE, Sv.cP, Sv.cOp, Sv.cUn, Sv.cChain, Sv.cIf, Sv.cAnd, Sv.cOr, Sv.cNot, Sv.tB, Sv.tAnd, Sv.tOr, Sv.tNot, Sv.tYes, Sv.aNil, Sv.aCons, Sv.aStar, Sv.cCall, Sv.cTup, Sv.cLst, Sv.cSl, Sv.cMeth, Sv.sSetIx, Sv.sPar2, Sv.sPar3, Sv.sAsg, Sv.sAug, Sv.hold, Sv.slot, Sv.outF, Sv.argsB, Sv.slotsOf, Sv.back, Sv.rds, Sv.datas, Sv.gN, Sv.gT, Sv.gL, Sv.gRun, Sv.cFn, Sv.fnD, Sv.sRaise, Sv.R.bind, Sv.R.opt, Sv.R.toS, Sv.RS.seq, Sv.Hd.rd, Sv.B.rd, Sv.toP, Sv.eqP, Sv.neP, Sv.one, Sv.two, Sv.getP, Sv.lenP, Sv.addP, Sv.subP, Sv.mulP, Sv.mulQ, Sv.fdivP, Sv.modP, Sv.powP, Sv.intP, Sv.absP, Sv.max2P, Sv.min2P, Sv.negP, Sv.augAdd, Sv.setD, Sv.mAppend, Sv.ltB, Sv.gtB, Sv.leB, Sv.geB, Sv.ordB, Sv.small64, Sv.isP, Sv.wSeq, Sv.wRange1, Sv.sFor, isTup, isStr, eq0P, eq0B, at0, e1, e2, front, isFr, g1, g2]
      | _ => simp [d_has_front, Sv.sNil, Sv.sCons, Sv.sPass, Sv.sBreak, Sv.sCont, Sv.sExpr, Sv.put, Sv.sSet, Sv.sRet, Sv.sRetN, Sv.sIf, Sv.cVar, Sv.cK, Sv.cE, Sv.cP, Sv.cOp, Sv.cUn, Sv.cChain, Sv.cIf, Sv.cAnd, Sv.cOr, Sv.cNot, Sv.tB, Sv.tAnd, Sv.tOr, Sv.tNot, Sv.tYes, Sv.aNil, Sv.aCons, Sv.aStar, Sv.cCall, Sv.cTup, Sv.cLst, Sv.cSl, Sv.cMeth, Sv.sSetIx, Sv.sPar2, Sv.sPar3, Sv.sAsg, Sv.sAug, Sv.hold, Sv.slot, Sv.outF, Sv.argsB, Sv.slotsOf, Sv.back, Sv.rds, Sv.datas, Sv.gN, Sv.gT, Sv.gL, Sv.gRun, Sv.cFn, Sv.fnD, Sv.sRaise, Sv.R.bind, Sv.R.opt, Sv.R.toS, Sv.RS.seq, Sv.Hd.rd, Sv.B.rd, Sv.toP, Sv.eqP, Sv.neP, Sv.one, Sv.two, Sv.getP, Sv.lenP, Sv.addP, Sv.subP, Sv.mulP, Sv.mulQ, Sv.fdivP, Sv.modP, Sv.powP, Sv.intP, Sv.absP, Sv.max2P, Sv.min2P, Sv.negP, Sv.augAdd, Sv.setD, Sv.mAppend, Sv.ltB, Sv.gtB, Sv.leB, Sv.geB, Sv.ordB, Sv.small64, Sv.isP, Sv.wSeq, Sv.wRange1, Sv.sFor, isTup, isStr, eq0P, eq0B, at0, front]
  | _ => simp [d_has_front, Sv.sNil, Sv.sCons, Sv.sPass, Sv.sBreak, Sv.sCont, Sv.sExpr, Sv.put, Sv.sSet, Sv.sRet, Sv.sRetN, Sv.sIf, Sv.cVar, Sv.cK, Sv.cE, Sv.cP, Sv.cOp, Sv.cUn, Sv.cChain, Sv.cIf, Sv.cAnd, Sv.cOr, Sv.cNot, Sv.tB, Sv.tAnd, Sv.tOr, Sv.tNot, Sv.tYes, Sv.aNil, Sv.aCons, Sv.aStar, Sv.cCall, Sv.cTup, Sv.cLst, Sv.cSl, Sv.cMeth, Sv.sSetIx, Sv.sPar2, Sv.sPar3, Sv.sAsg, Sv.sAug, Sv.hold, Sv.slot, Sv.outF, Sv.argsB, Sv.slotsOf, Sv.back, Sv.rds, Sv.datas, Sv.gN, Sv.gT, Sv.gL, Sv.gRun, Sv.cFn, Sv.fnD, Sv.sRaise, Sv.R.bind, Sv.R.opt, Sv.R.toS, Sv.RS.seq, Sv.Hd.rd, Sv.B.rd, Sv.toP, Sv.eqP, Sv.neP, Sv.one, Sv.two, Sv.getP, Sv.lenP, Sv.addP, Sv.subP, Sv.mulP, Sv.mulQ, Sv.fdivP, Sv.modP, Sv.powP, Sv.intP, Sv.absP, Sv.max2P, Sv.min2P, Sv.negP, Sv.augAdd, Sv.setD, Sv.mAppend, Sv.ltB, Sv.gtB, Sv.leB, Sv.geB, Sv.ordB, Sv.small64, Sv.isP, Sv.wSeq, Sv.wRange1, Sv.sFor, isTup, front]
end K05
end
section
set_option autoImplicit false
set_option linter.all false
set_option maxRecDepth 100000
namespace K05
open PySem Sv

mutual
/-- every text within is short enough -/
def fit : PyData → Bool
  | .str x => decide (x.length ≤ sizeLine)
  | .tuple xs => fitAll xs
  | _ => true
def fitAll : List PyData → Bool
  | [] => true
  | x :: r => fit x && fitAll r
end
theorem fitAll_mem : ∀ {xs : List PyData}, fitAll xs = true → ∀ x ∈ xs, fit x = true
  | a :: r, h, x, hx => by
    rw [fitAll, Bool.and_eq_true] at h
    rcases List.mem_cons.mp hx with e | hx
    · rw [e]; exact h.1
    · exact fitAll_mem h.2 x hx
theorem fitAll_of : ∀ {xs : List PyData}, (∀ x ∈ xs, fit x = true) → fitAll xs = true
  | [], _ => rfl
  | a :: r, h => by
    rw [fitAll, Bool.and_eq_true]
    exact ⟨h a List.mem_cons_self, fitAll_of fun x hx => h x (List.mem_cons_of_mem _ hx)⟩
theorem fit_str {v : PyData} (h : fit v = true) : ∀ x, v = .str x → x.length ≤ sizeLine := fun x e => by
  subst e
  simpa [fit] using h
theorem fit_parts {v : PyData} (h : fit v = true) : ∀ p ∈ parts v, fit p = true := fun p hp => by
  cases v with
  | tuple xs =>
    cases xs with
    | nil => cases hp
    | cons w ps =>
      have hp : p ∈ ps := hp
      rw [fit] at h
      exact fitAll_mem h p (List.mem_cons_of_mem _ hp)
  | _ => cases hp
/-! ### counts -/
def cwGo (f : PyData → Option (Nat × Nat)) : List PyData → Nat × Nat → Option (Nat × Nat)
  | [], s => some s
  | p :: ps, s => match f p with
    | none => none
    | some t => if 12 < s.1 + t.1 ∨ 40 < s.2 + t.2 then none else cwGo f ps (s.1 + t.1, s.2 + t.2)
def cw : Nat → PyData → Option (Nat × Nat)
  | 0, v => if isNm v = true then some (1, 0) else none
  | n + 1, v => if isNm v = true then some (1, 0) else if front v = true then cwGo (cw n) (parts v) (0, 1) else none
def encR : Option (Nat × Nat) → PyData
  | none => .none
  | some (a, b) => .tuple [.int a, .int b]
theorem cb1 {F : Fn} {v p : PyData} {l : Int} {a b : Nat} {q4 q5 : Option B} {o1 o2 : Option B} (h : F [.d p, .d (.int (l + 1))] = .ok (.d .none) [o1, o2]) :
    ∃ e, fb_counts_within_0 F [some (.d v), some (.d (.int l)), some (.d (.int a)), some (.d (.int b)), some (.d p), q5] = .rt (.d .none) (some (.d v) :: some (.d (.int l)) :: e) := by
  refine ⟨[some (.d (.int a)), some (.d (.int b)), some (.d p), some (.d .none)], ?_⟩
  simp [fb_counts_within_0, Sv.sNil, Sv.sCons, Sv.sPass, Sv.sBreak, Sv.sCont, Sv.sExpr, Sv.put, Sv.sSet, Sv.sRet, Sv.sRetN, Sv.sIf, Sv.cVar, Sv.cK, Sv.cE, Sv.cP, Sv.cOp, Sv.cUn, Sv.cChain, Sv.cIf, Sv.cAnd, Sv.cOr, Sv.cNot, Sv.tB, Sv.tAnd, Sv.tOr, Sv.tNot, Sv.tYes, Sv.aNil, Sv.aCons, Sv.aStar, Sv.cCall, Sv.cTup, Sv.cLst, Sv.cSl, Sv.cMeth, Sv.sSetIx, Sv.sPar2, Sv.sPar3, Sv.sAsg, Sv.sAug, Sv.hold, Sv.slot, Sv.outF, Sv.argsB, Sv.slotsOf, Sv.back, Sv.rds, Sv.datas, Sv.gN, Sv.gT, Sv.gL, Sv.gRun, Sv.cFn, Sv.fnD, Sv.sRaise, Sv.R.bind, Sv.R.opt, Sv.R.toS, Sv.RS.seq, Sv.Hd.rd, Sv.B.rd, Sv.toP, Sv.eqP, Sv.neP, Sv.one, Sv.two, Sv.getP, Sv.lenP, Sv.addP, Sv.subP, Sv.mulP, Sv.mulQ, Sv.fdivP, Sv.modP, Sv.powP, Sv.intP, Sv.absP, Sv.max2P, Sv.min2P, Sv.negP, Sv.augAdd, Sv.setD, Sv.mAppend, Sv.ltB, Sv.gtB, Sv.leB, Sv.geB, Sv.ordB, Sv.small64, Sv.isP, Sv.wSeq, Sv.wRange1, Sv.sFor, h, isB]
theorem cb2 {F : Fn} {v p : PyData} {l : Int} {a b x y : Nat} {q4 q5 : Option B} {o1 o2 : Option B} (h : F [.d p, .d (.int (l + 1))] = .ok (.d (.tuple [.int x, .int y])) [o1, o2]) (hc : 12 < a + x ∨ 40 < b + y) :
    ∃ e, fb_counts_within_0 F [some (.d v), some (.d (.int l)), some (.d (.int a)), some (.d (.int b)), some (.d p), q5] = .rt (.d .none) (some (.d v) :: some (.d (.int l)) :: e) := by
  refine ⟨[some (.d (.int (a + x))), some (.d (.int (b + y))), some (.d p), some (.d (.tuple [.int x, .int y]))], ?_⟩
  have a0 : L2.atI [PyData.int x, PyData.int y] 0 = some (.int x) := at0 _ _
  have a1 : L2.atI [PyData.int x, PyData.int y] 1 = some (.int y) := by simp [L2.atI, L2.ixN]
  rcases hc with hc | hc
  · have i1 : (12 : Int) < (a : Int) + x := by omega
    simp [fb_counts_within_0, Sv.sNil, Sv.sCons, Sv.sPass, Sv.sBreak, Sv.sCont, Sv.sExpr, Sv.put, Sv.sSet, Sv.sRet, Sv.sRetN, Sv.sIf, Sv.cVar, Sv.cK, Sv.cE, Sv.cP, Sv.cOp, Sv.cUn, Sv.cChain, Sv.cIf, Sv.cAnd, Sv.cOr, Sv.cNot, Sv.tB, Sv.tAnd, Sv.tOr, Sv.tNot, Sv.tYes, Sv.aNil, Sv.aCons, Sv.aStar, Sv.cCall, Sv.cTup, Sv.cLst, Sv.cSl, Sv.cMeth, Sv.sSetIx, Sv.sPar2, Sv.sPar3, Sv.sAsg, Sv.sAug, Sv.hold, Sv.slot, Sv.outF, Sv.argsB, Sv.slotsOf, Sv.back, Sv.rds, Sv.datas, Sv.gN, Sv.gT, Sv.gL, Sv.gRun, Sv.cFn, Sv.fnD, Sv.sRaise, Sv.R.bind, Sv.R.opt, Sv.R.toS, Sv.RS.seq, Sv.Hd.rd, Sv.B.rd, Sv.toP, Sv.eqP, Sv.neP, Sv.one, Sv.two, Sv.getP, Sv.lenP, Sv.addP, Sv.subP, Sv.mulP, Sv.mulQ, Sv.fdivP, Sv.modP, Sv.powP, Sv.intP, Sv.absP, Sv.max2P, Sv.min2P, Sv.negP, Sv.augAdd, Sv.setD, Sv.mAppend, Sv.ltB, Sv.gtB, Sv.leB, Sv.geB, Sv.ordB, Sv.small64, Sv.isP, Sv.wSeq, Sv.wRange1, Sv.sFor, h, isB, a0, a1, i1]
  · have i1 : (40 : Int) < (b : Int) + y := by omega
    by_cases i2 : (12 : Int) < (a : Int) + x
    · simp [fb_counts_within_0, Sv.sNil, Sv.sCons, Sv.sPass, Sv.sBreak, Sv.sCont, Sv.sExpr, Sv.put, Sv.sSet, Sv.sRet, Sv.sRetN, Sv.sIf, Sv.cVar, Sv.cK, Sv.cE, Sv.cP, Sv.cOp, Sv.cUn, Sv.cChain, Sv.cIf, Sv.cAnd, Sv.cOr, Sv.cNot, Sv.tB, Sv.tAnd, Sv.tOr, Sv.tNot, Sv.tYes, Sv.aNil, Sv.aCons, Sv.aStar, Sv.cCall, Sv.cTup, Sv.cLst, Sv.cSl, Sv.cMeth, Sv.sSetIx, Sv.sPar2, Sv.sPar3, Sv.sAsg, Sv.sAug, Sv.hold, Sv.slot, Sv.outF, Sv.argsB, Sv.slotsOf, Sv.back, Sv.rds, Sv.datas, Sv.gN, Sv.gT, Sv.gL, Sv.gRun, Sv.cFn, Sv.fnD, Sv.sRaise, Sv.R.bind, Sv.R.opt, Sv.R.toS, Sv.RS.seq, Sv.Hd.rd, Sv.B.rd, Sv.toP, Sv.eqP, Sv.neP, Sv.one, Sv.two, Sv.getP, Sv.lenP, Sv.addP, Sv.subP, Sv.mulP, Sv.mulQ, Sv.fdivP, Sv.modP, Sv.powP, Sv.intP, Sv.absP, Sv.max2P, Sv.min2P, Sv.negP, Sv.augAdd, Sv.setD, Sv.mAppend, Sv.ltB, Sv.gtB, Sv.leB, Sv.geB, Sv.ordB, Sv.small64, Sv.isP, Sv.wSeq, Sv.wRange1, Sv.sFor, h, isB, a0, a1, i1, i2]
    · simp [fb_counts_within_0, Sv.sNil, Sv.sCons, Sv.sPass, Sv.sBreak, Sv.sCont, Sv.sExpr, Sv.put, Sv.sSet, Sv.sRet, Sv.sRetN, Sv.sIf, Sv.cVar, Sv.cK, Sv.cE, Sv.cP, Sv.cOp, Sv.cUn, Sv.cChain, Sv.cIf, Sv.cAnd, Sv.cOr, Sv.cNot, Sv.tB, Sv.tAnd, Sv.tOr, Sv.tNot, Sv.tYes, Sv.aNil, Sv.aCons, Sv.aStar, Sv.cCall, Sv.cTup, Sv.cLst, Sv.cSl, Sv.cMeth, Sv.sSetIx, Sv.sPar2, Sv.sPar3, Sv.sAsg, Sv.sAug, Sv.hold, Sv.slot, Sv.outF, Sv.argsB, Sv.slotsOf, Sv.back, Sv.rds, Sv.datas, Sv.gN, Sv.gT, Sv.gL, Sv.gRun, Sv.cFn, Sv.fnD, Sv.sRaise, Sv.R.bind, Sv.R.opt, Sv.R.toS, Sv.RS.seq, Sv.Hd.rd, Sv.B.rd, Sv.toP, Sv.eqP, Sv.neP, Sv.one, Sv.two, Sv.getP, Sv.lenP, Sv.addP, Sv.subP, Sv.mulP, Sv.mulQ, Sv.fdivP, Sv.modP, Sv.powP, Sv.intP, Sv.absP, Sv.max2P, Sv.min2P, Sv.negP, Sv.augAdd, Sv.setD, Sv.mAppend, Sv.ltB, Sv.gtB, Sv.leB, Sv.geB, Sv.ordB, Sv.small64, Sv.isP, Sv.wSeq, Sv.wRange1, Sv.sFor, h, isB, a0, a1, i1, i2]
theorem cb3 {F : Fn} {v p : PyData} {l : Int} {a b x y : Nat} {q4 q5 : Option B} {o1 o2 : Option B} (h : F [.d p, .d (.int (l + 1))] = .ok (.d (.tuple [.int x, .int y])) [o1, o2]) (hc : ¬ (12 < a + x ∨ 40 < b + y)) :
    fb_counts_within_0 F [some (.d v), some (.d (.int l)), some (.d (.int a)), some (.d (.int b)), some (.d p), q5] = .nx [some (.d v), some (.d (.int l)), some (.d (.int (a + x : Nat))), some (.d (.int (b + y : Nat))), some (.d p), some (.d (.tuple [.int x, .int y]))] := by
  have a0 : L2.atI [PyData.int x, PyData.int y] 0 = some (.int x) := at0 _ _
  have a1 : L2.atI [PyData.int x, PyData.int y] 1 = some (.int y) := by simp [L2.atI, L2.ixN]
  have i1 : ¬ (12 : Int) < (a : Int) + x := by omega
  have i2 : ¬ (40 : Int) < (b : Int) + y := by omega
  simp [fb_counts_within_0, Sv.sNil, Sv.sCons, Sv.sPass, Sv.sBreak, Sv.sCont, Sv.sExpr, Sv.put, Sv.sSet, Sv.sRet, Sv.sRetN, Sv.sIf, Sv.cVar, Sv.cK, Sv.cE, Sv.cP, Sv.cOp, Sv.cUn, Sv.cChain, Sv.cIf, Sv.cAnd, Sv.cOr, Sv.cNot, Sv.tB, Sv.tAnd, Sv.tOr, Sv.tNot, Sv.tYes, Sv.aNil, Sv.aCons, Sv.aStar, Sv.cCall, Sv.cTup, Sv.cLst, Sv.cSl, Sv.cMeth, Sv.sSetIx, Sv.sPar2, Sv.sPar3, Sv.sAsg, Sv.sAug, Sv.hold, Sv.slot, Sv.outF, Sv.argsB, Sv.slotsOf, Sv.back, Sv.rds, Sv.datas, Sv.gN, Sv.gT, Sv.gL, Sv.gRun, Sv.cFn, Sv.fnD, Sv.sRaise, Sv.R.bind, Sv.R.opt, Sv.R.toS, Sv.RS.seq, Sv.Hd.rd, Sv.B.rd, Sv.toP, Sv.eqP, Sv.neP, Sv.one, Sv.two, Sv.getP, Sv.lenP, Sv.addP, Sv.subP, Sv.mulP, Sv.mulQ, Sv.fdivP, Sv.modP, Sv.powP, Sv.intP, Sv.absP, Sv.max2P, Sv.min2P, Sv.negP, Sv.augAdd, Sv.setD, Sv.mAppend, Sv.ltB, Sv.gtB, Sv.leB, Sv.geB, Sv.ordB, Sv.small64, Sv.isP, Sv.wSeq, Sv.wRange1, Sv.sFor, h, isB, a0, a1, i1, i2]
theorem cwLoop {F : Fn} {f : PyData → Option (Nat × Nat)} {v : PyData} {l : Int} : ∀ (ps : List PyData) (a b : Nat) (q4 q5 : Option B), (∀ p ∈ ps, ∃ o1 o2, F [.d p, .d (.int (l + 1))] = .ok (.d (encR (f p))) [o1, o2]) →
    (∃ x y q4' q5', cwGo f ps (a, b) = some (x, y) ∧ loopF (gN 4) (fb_counts_within_0 F) ps [some (.d v), some (.d (.int l)), some (.d (.int a)), some (.d (.int b)), q4, q5] = .nx [some (.d v), some (.d (.int l)), some (.d (.int x)), some (.d (.int y)), q4', q5']) ∨
    (cwGo f ps (a, b) = none ∧ ∃ e, loopF (gN 4) (fb_counts_within_0 F) ps [some (.d v), some (.d (.int l)), some (.d (.int a)), some (.d (.int b)), q4, q5] = .rt (.d .none) (some (.d v) :: some (.d (.int l)) :: e))
  | [], a, b, q4, q5, _ => .inl ⟨a, b, q4, q5, rfl, rfl⟩
  | p :: ps, a, b, q4, q5, h => by
    obtain ⟨o1, o2, hp⟩ := h p List.mem_cons_self
    have step : ∀ r : RS, fb_counts_within_0 F [some (.d v), some (.d (.int l)), some (.d (.int a)), some (.d (.int b)), some (.d p), q5] = r → (gN 4 p [some (.d v), some (.d (.int l)), some (.d (.int a)), some (.d (.int b)), q4, q5]).seq (fb_counts_within_0 F) = r := fun r h => h
    cases ef : f p with
    | none =>
      rw [ef] at hp
      obtain ⟨e, k⟩ := cb1 (q4 := none) (v := v) (a := a) (b := b) (q5 := q5) hp
      refine .inr ⟨by simp [cwGo, ef], e, ?_⟩
      rw [loopF, step _ k]
    | some t =>
      obtain ⟨x, y⟩ := t
      rw [ef] at hp
      by_cases hc : 12 < a + x ∨ 40 < b + y
      · obtain ⟨e, k⟩ := cb2 (q4 := none) (v := v) (q5 := q5) hp hc
        refine .inr ⟨by simp [cwGo, ef, hc], e, ?_⟩
        rw [loopF, step _ k]
      · have k := cb3 (q4 := none) (v := v) (q5 := q5) hp hc
        rw [loopF, step _ k]
        have e1 : cwGo f (p :: ps) (a, b) = cwGo f ps (a + x, b + y) := by simp [cwGo, ef, hc]
        rw [e1]
        exact cwLoop ps (a + x) (b + y) _ _ fun q hq => h q (List.mem_cons_of_mem _ hq)
theorem front_shape {v : PyData} (h : front v = true) : ∃ x ps, v = .tuple (.str x :: ps) ∧ parts v = ps := by
  cases v with
  | tuple xs =>
    match xs, h with
    | [], h => simp [front] at h
    | .str x :: ps, _ => exact ⟨x, ps, rfl, rfl⟩
    | .none :: ps, h => simp [front] at h
    | .bool _ :: ps, h => simp [front] at h
    | .int _ :: ps, h => simp [front] at h
    | .list _ :: ps, h => simp [front] at h
    | .tuple _ :: ps, h => simp [front] at h
    | .dict _ :: ps, h => simp [front] at h
  | _ => simp [front] at h
theorem counts_spec : ∀ (n fuel : Nat) (v : PyData) (L : Int), L = 6 - (n : Int) → n < fuel → fit v = true → d_counts_within fuel [.d v, .d (.int L)] = .ok (.d (encR (cw n v))) [some (.d v), some (.d (.int L))]
  | n, 0, v, L, _, h, _ => by omega
  | n, fuel + 1, v, L, hL, hf, hv => by
    have nm := name_spec v (fit_str hv)
    have fr := front_spec v
    have z2 : 2 ≤ sizeLine := by rw [sizeLine_eq]; decide
    by_cases h1 : isNm v = true
    · rw [h1] at nm
      have e : cw n v = some (1, 0) := by cases n <;> simp [cw, h1]
      rw [e]
      simp [d_counts_within, Sv.sNil, Sv.sCons, Sv.sPass, Sv.sBreak, Sv.sCont, Sv.sExpr, Sv.put, Sv.sSet, Sv.sRet, Sv.sRetN, Sv.sIf, Sv.cVar, Sv.cK, Sv.cE, Sv.cP, Sv.cOp, Sv.cUn, Sv.cChain, Sv.cIf, Sv.cAnd, Sv.cOr, Sv.cNot, Sv.tB, Sv.tAnd, Sv.tOr, Sv.tNot, Sv.tYes, Sv.aNil, Sv.aCons, Sv.aStar, Sv.cCall, Sv.cTup, Sv.cLst, Sv.cSl, Sv.cMeth, Sv.sSetIx, Sv.sPar2, Sv.sPar3, Sv.sAsg, Sv.sAug, Sv.hold, Sv.slot, Sv.outF, Sv.argsB, Sv.slotsOf, Sv.back, Sv.rds, Sv.datas, Sv.gN, Sv.gT, Sv.gL, Sv.gRun, Sv.cFn, Sv.fnD, Sv.sRaise, Sv.R.bind, Sv.R.opt, Sv.R.toS, Sv.RS.seq, Sv.Hd.rd, Sv.B.rd, Sv.toP, Sv.eqP, Sv.neP, Sv.one, Sv.two, Sv.getP, Sv.lenP, Sv.addP, Sv.subP, Sv.mulP, Sv.mulQ, Sv.fdivP, Sv.modP, Sv.powP, Sv.intP, Sv.absP, Sv.max2P, Sv.min2P, Sv.negP, Sv.augAdd, Sv.setD, Sv.mAppend, Sv.ltB, Sv.gtB, Sv.leB, Sv.geB, Sv.ordB, Sv.small64, Sv.isP, Sv.wSeq, Sv.wRange1, Sv.sFor, nm, z2, encR]
    · rw [Bool.not_eq_true] at h1
      rw [h1] at nm
      have q := eq_int L 6
      cases n with
      | zero =>
        have q1 : decide (L = 6) = true := decide_eq_true (by omega)
        rw [q1] at q
        have e : cw 0 v = none := by simp [cw, h1]
        rw [e]
        simp [d_counts_within, Sv.sNil, Sv.sCons, Sv.sPass, Sv.sBreak, Sv.sCont, Sv.sExpr, Sv.put, Sv.sSet, Sv.sRet, Sv.sRetN, Sv.sIf, Sv.cVar, Sv.cK, Sv.cE, Sv.cP, Sv.cOp, Sv.cUn, Sv.cChain, Sv.cIf, Sv.cAnd, Sv.cOr, Sv.cNot, Sv.tB, Sv.tAnd, Sv.tOr, Sv.tNot, Sv.tYes, Sv.aNil, Sv.aCons, Sv.aStar, Sv.cCall, Sv.cTup, Sv.cLst, Sv.cSl, Sv.cMeth, Sv.sSetIx, Sv.sPar2, Sv.sPar3, Sv.sAsg, Sv.sAug, Sv.hold, Sv.slot, Sv.outF, Sv.argsB, Sv.slotsOf, Sv.back, Sv.rds, Sv.datas, Sv.gN, Sv.gT, Sv.gL, Sv.gRun, Sv.cFn, Sv.fnD, Sv.sRaise, Sv.R.bind, Sv.R.opt, Sv.R.toS, Sv.RS.seq, Sv.Hd.rd, Sv.B.rd, Sv.toP, Sv.eqP, Sv.neP, Sv.one, Sv.two, Sv.getP, Sv.lenP, Sv.addP, Sv.subP, Sv.mulP, Sv.mulQ, Sv.fdivP, Sv.modP, Sv.powP, Sv.intP, Sv.absP, Sv.max2P, Sv.min2P, Sv.negP, Sv.augAdd, Sv.setD, Sv.mAppend, Sv.ltB, Sv.gtB, Sv.leB, Sv.geB, Sv.ordB, Sv.small64, Sv.isP, Sv.wSeq, Sv.wRange1, Sv.sFor, nm, q, encR]
      | succ n =>
        have q1 : decide (L = 6) = false := decide_eq_false (by omega)
        rw [q1] at q
        by_cases h2 : front v = true
        · rw [h2] at fr
          obtain ⟨x, ps, ev, ep⟩ := front_shape h2
          have e : cw (n + 1) v = cwGo (cw n) ps (0, 1) := by simp [cw, h1, h2, ep]
          rw [e]
          have sub : ∀ p ∈ ps, ∃ o1 o2, d_counts_within fuel [.d p, .d (.int (L + 1))] = .ok (.d (encR (cw n p))) [o1, o2] := fun p hp =>
            ⟨_, _, counts_spec n fuel p (L + 1) (by omega) (by omega) (fit_parts hv p (by rw [ep]; exact hp))⟩
          have k := cwLoop (f := cw n) (v := v) ps 0 1 none none sub
          subst ev
          rcases k with ⟨x', y', q4, q5, k1, k2⟩ | ⟨k1, e', k2⟩
          · rw [k1]
            simp at k2
            simp [d_counts_within, Sv.sNil, Sv.sCons, Sv.sPass, Sv.sBreak, Sv.sCont, Sv.sExpr, Sv.put, Sv.sSet, Sv.sRet, Sv.sRetN, Sv.sIf, Sv.cVar, Sv.cK, Sv.cE, Sv.cP, Sv.cOp, Sv.cUn, Sv.cChain, Sv.cIf, Sv.cAnd, Sv.cOr, Sv.cNot, Sv.tB, Sv.tAnd, Sv.tOr, Sv.tNot, Sv.tYes, Sv.aNil, Sv.aCons, Sv.aStar, Sv.cCall, Sv.cTup, Sv.cLst, Sv.cSl, Sv.cMeth, Sv.sSetIx, Sv.sPar2, Sv.sPar3, Sv.sAsg, Sv.sAug, Sv.hold, Sv.slot, Sv.outF, Sv.argsB, Sv.slotsOf, Sv.back, Sv.rds, Sv.datas, Sv.gN, Sv.gT, Sv.gL, Sv.gRun, Sv.cFn, Sv.fnD, Sv.sRaise, Sv.R.bind, Sv.R.opt, Sv.R.toS, Sv.RS.seq, Sv.Hd.rd, Sv.B.rd, Sv.toP, Sv.eqP, Sv.neP, Sv.one, Sv.two, Sv.getP, Sv.lenP, Sv.addP, Sv.subP, Sv.mulP, Sv.mulQ, Sv.fdivP, Sv.modP, Sv.powP, Sv.intP, Sv.absP, Sv.max2P, Sv.min2P, Sv.negP, Sv.augAdd, Sv.setD, Sv.mAppend, Sv.ltB, Sv.gtB, Sv.leB, Sv.geB, Sv.ordB, Sv.small64, Sv.isP, Sv.wSeq, Sv.wRange1, Sv.sFor, nm, fr, q, slP, cut1, k2, z2, encR]
          · rw [k1]
            simp at k2
            simp [d_counts_within, Sv.sNil, Sv.sCons, Sv.sPass, Sv.sBreak, Sv.sCont, Sv.sExpr, Sv.put, Sv.sSet, Sv.sRet, Sv.sRetN, Sv.sIf, Sv.cVar, Sv.cK, Sv.cE, Sv.cP, Sv.cOp, Sv.cUn, Sv.cChain, Sv.cIf, Sv.cAnd, Sv.cOr, Sv.cNot, Sv.tB, Sv.tAnd, Sv.tOr, Sv.tNot, Sv.tYes, Sv.aNil, Sv.aCons, Sv.aStar, Sv.cCall, Sv.cTup, Sv.cLst, Sv.cSl, Sv.cMeth, Sv.sSetIx, Sv.sPar2, Sv.sPar3, Sv.sAsg, Sv.sAug, Sv.hold, Sv.slot, Sv.outF, Sv.argsB, Sv.slotsOf, Sv.back, Sv.rds, Sv.datas, Sv.gN, Sv.gT, Sv.gL, Sv.gRun, Sv.cFn, Sv.fnD, Sv.sRaise, Sv.R.bind, Sv.R.opt, Sv.R.toS, Sv.RS.seq, Sv.Hd.rd, Sv.B.rd, Sv.toP, Sv.eqP, Sv.neP, Sv.one, Sv.two, Sv.getP, Sv.lenP, Sv.addP, Sv.subP, Sv.mulP, Sv.mulQ, Sv.fdivP, Sv.modP, Sv.powP, Sv.intP, Sv.absP, Sv.max2P, Sv.min2P, Sv.negP, Sv.augAdd, Sv.setD, Sv.mAppend, Sv.ltB, Sv.gtB, Sv.leB, Sv.geB, Sv.ordB, Sv.small64, Sv.isP, Sv.wSeq, Sv.wRange1, Sv.sFor, nm, fr, q, slP, cut1, k2, z2, encR]
        · rw [Bool.not_eq_true] at h2
          rw [h2] at fr
          have e : cw (n + 1) v = none := by simp [cw, h1, h2]
          rw [e]
          simp [d_counts_within, Sv.sNil, Sv.sCons, Sv.sPass, Sv.sBreak, Sv.sCont, Sv.sExpr, Sv.put, Sv.sSet, Sv.sRet, Sv.sRetN, Sv.sIf, Sv.cVar, Sv.cK, Sv.cE, Sv.cP, Sv.cOp, Sv.cUn, Sv.cChain, Sv.cIf, Sv.cAnd, Sv.cOr, Sv.cNot, Sv.tB, Sv.tAnd, Sv.tOr, Sv.tNot, Sv.tYes, Sv.aNil, Sv.aCons, Sv.aStar, Sv.cCall, Sv.cTup, Sv.cLst, Sv.cSl, Sv.cMeth, Sv.sSetIx, Sv.sPar2, Sv.sPar3, Sv.sAsg, Sv.sAug, Sv.hold, Sv.slot, Sv.outF, Sv.argsB, Sv.slotsOf, Sv.back, Sv.rds, Sv.datas, Sv.gN, Sv.gT, Sv.gL, Sv.gRun, Sv.cFn, Sv.fnD, Sv.sRaise, Sv.R.bind, Sv.R.opt, Sv.R.toS, Sv.RS.seq, Sv.Hd.rd, Sv.B.rd, Sv.toP, Sv.eqP, Sv.neP, Sv.one, Sv.two, Sv.getP, Sv.lenP, Sv.addP, Sv.subP, Sv.mulP, Sv.mulQ, Sv.fdivP, Sv.modP, Sv.powP, Sv.intP, Sv.absP, Sv.max2P, Sv.min2P, Sv.negP, Sv.augAdd, Sv.setD, Sv.mAppend, Sv.ltB, Sv.gtB, Sv.leB, Sv.geB, Sv.ordB, Sv.small64, Sv.isP, Sv.wSeq, Sv.wRange1, Sv.sFor, nm, fr, q, encR]
def isExpr (v : PyData) : Bool := (cw 6 v).isSome
theorem expr_spec (v : PyData) (hv : fit v = true) : d_is_expression [.d v] = .ok (.d (.bool (isExpr v))) [some (.d v)] := by
  have k := counts_spec 6 8 v 0 (by omega) (by omega) hv
  unfold isExpr
  cases e : cw 6 v with
  | none =>
    rw [e] at k
    simp [encR] at k
    simp [d_is_expression, Sv.sNil, Sv.sCons, Sv.sPass, Sv.sBreak, Sv.sCont, Sv.sExpr, Sv.put, Sv.sSet, Sv.sRet, Sv.sRetN, Sv.sIf, Sv.cVar, Sv.cK, Sv.cE, Sv.cP, Sv.cOp, Sv.cUn, Sv.cChain, Sv.cIf, Sv.cAnd, Sv.cOr, Sv.cNot, Sv.tB, Sv.tAnd, Sv.tOr, Sv.tNot, Sv.tYes, Sv.aNil, Sv.aCons, Sv.aStar, Sv.cCall, Sv.cTup, Sv.cLst, Sv.cSl, Sv.cMeth, Sv.sSetIx, Sv.sPar2, Sv.sPar3, Sv.sAsg, Sv.sAug, Sv.hold, Sv.slot, Sv.outF, Sv.argsB, Sv.slotsOf, Sv.back, Sv.rds, Sv.datas, Sv.gN, Sv.gT, Sv.gL, Sv.gRun, Sv.cFn, Sv.fnD, Sv.sRaise, Sv.R.bind, Sv.R.opt, Sv.R.toS, Sv.RS.seq, Sv.Hd.rd, Sv.B.rd, Sv.toP, Sv.eqP, Sv.neP, Sv.one, Sv.two, Sv.getP, Sv.lenP, Sv.addP, Sv.subP, Sv.mulP, Sv.mulQ, Sv.fdivP, Sv.modP, Sv.powP, Sv.intP, Sv.absP, Sv.max2P, Sv.min2P, Sv.negP, Sv.augAdd, Sv.setD, Sv.mAppend, Sv.ltB, Sv.gtB, Sv.leB, Sv.geB, Sv.ordB, Sv.small64, Sv.isP, Sv.wSeq, Sv.wRange1, Sv.sFor, k, isNotB, isB]
  | some t =>
    obtain ⟨a, b⟩ := t
    rw [e] at k
    simp [encR] at k
    simp [d_is_expression, Sv.sNil, Sv.sCons, Sv.sPass, Sv.sBreak, Sv.sCont, Sv.sExpr, Sv.put, Sv.sSet, Sv.sRet, Sv.sRetN, Sv.sIf, Sv.cVar, Sv.cK, Sv.cE, Sv.cP, Sv.cOp, Sv.cUn, Sv.cChain, Sv.cIf, Sv.cAnd, Sv.cOr, Sv.cNot, Sv.tB, Sv.tAnd, Sv.tOr, Sv.tNot, Sv.tYes, Sv.aNil, Sv.aCons, Sv.aStar, Sv.cCall, Sv.cTup, Sv.cLst, Sv.cSl, Sv.cMeth, Sv.sSetIx, Sv.sPar2, Sv.sPar3, Sv.sAsg, Sv.sAug, Sv.hold, Sv.slot, Sv.outF, Sv.argsB, Sv.slotsOf, Sv.back, Sv.rds, Sv.datas, Sv.gN, Sv.gT, Sv.gL, Sv.gRun, Sv.cFn, Sv.fnD, Sv.sRaise, Sv.R.bind, Sv.R.opt, Sv.R.toS, Sv.RS.seq, Sv.Hd.rd, Sv.B.rd, Sv.toP, Sv.eqP, Sv.neP, Sv.one, Sv.two, Sv.getP, Sv.lenP, Sv.addP, Sv.subP, Sv.mulP, Sv.mulQ, Sv.fdivP, Sv.modP, Sv.powP, Sv.intP, Sv.absP, Sv.max2P, Sv.min2P, Sv.negP, Sv.augAdd, Sv.setD, Sv.mAppend, Sv.ltB, Sv.gtB, Sv.leB, Sv.geB, Sv.ordB, Sv.small64, Sv.isP, Sv.wSeq, Sv.wRange1, Sv.sFor, k, isNotB, isB]
end K05
end
section
set_option autoImplicit false
set_option linter.all false
set_option maxRecDepth 100000
namespace K05
open PySem Sv

/-! ### shapes -/
abbrev N3 := Nat × Nat × Nat
def shGo (f : PyData → Option N3) : List PyData → N3 → Option N3
  | [], s => some s
  | p :: ps, s => match f p with
    | none => none
    | some t => shGo f ps (s.1 + t.1, s.2.1 + t.2.1, max s.2.2 t.2.2)
def sh : Nat → Nat → PyData → Option N3
  | 0, l, v => if isNm v = true then some (1, 0, l) else none
  | n + 1, l, v => if isNm v = true then some (1, 0, l) else if front v = true then shGo (sh n (l + 1)) (parts v) (0, 1, l + 1) else none
def encS : Option N3 → B
  | none => .d .none
  | some (a, b, c) => .l [.int a, .int b, .int c]
theorem sb1 {F : Fn} {v p : PyData} {l : Int} {s : List PyData} {q4 : Option B} {o1 o2 : Option B} (h : F [.d p, .d (.int (l + 1))] = .ok (.d .none) [o1, o2]) :
    ∃ e, fb_shape_0 F [some (.d v), some (.d (.int l)), some (.l s), some (.d p), q4] = .rt (.d .none) (some (.d v) :: some (.d (.int l)) :: e) := by
  refine ⟨[some (.l s), some (.d p), some (.d .none)], ?_⟩
  simp [fb_shape_0, Sv.sNil, Sv.sCons, Sv.sPass, Sv.sBreak, Sv.sCont, Sv.sExpr, Sv.put, Sv.sSet, Sv.sRet, Sv.sRetN, Sv.sIf, Sv.cVar, Sv.cK, Sv.cE, Sv.cP, Sv.cOp, Sv.cUn, Sv.cChain, Sv.cIf, Sv.cAnd, Sv.cOr, Sv.cNot, Sv.tB, Sv.tAnd, Sv.tOr, Sv.tNot, Sv.tYes, Sv.aNil, Sv.aCons, Sv.aStar, Sv.cCall, Sv.cTup, Sv.cLst, Sv.cSl, Sv.cMeth, Sv.sSetIx, Sv.sPar2, Sv.sPar3, Sv.sAsg, Sv.sAug, Sv.hold, Sv.slot, Sv.outF, Sv.argsB, Sv.slotsOf, Sv.back, Sv.rds, Sv.datas, Sv.gN, Sv.gT, Sv.gL, Sv.gRun, Sv.cFn, Sv.fnD, Sv.sRaise, Sv.R.bind, Sv.R.opt, Sv.R.toS, Sv.RS.seq, Sv.Hd.rd, Sv.B.rd, Sv.toP, Sv.eqP, Sv.neP, Sv.one, Sv.two, Sv.getP, Sv.lenP, Sv.addP, Sv.subP, Sv.mulP, Sv.mulQ, Sv.fdivP, Sv.modP, Sv.powP, Sv.intP, Sv.absP, Sv.max2P, Sv.min2P, Sv.negP, Sv.augAdd, Sv.setD, Sv.mAppend, Sv.ltB, Sv.gtB, Sv.leB, Sv.geB, Sv.ordB, Sv.small64, Sv.isP, Sv.wSeq, Sv.wRange1, Sv.sFor, h, isB]
theorem sb2 {F : Fn} {v p : PyData} {l : Int} {a b c x y z : Nat} {q4 : Option B} {o1 o2 : Option B} (h : F [.d p, .d (.int (l + 1))] = .ok (.l [.int x, .int y, .int z]) [o1, o2]) :
    fb_shape_0 F [some (.d v), some (.d (.int l)), some (.l [.int a, .int b, .int c]), some (.d p), q4] =
      .nx [some (.d v), some (.d (.int l)), some (.l [.int (a + x : Nat), .int (b + y : Nat), .int (max c z : Nat)]), some (.d p), some (.l [.int x, .int y, .int z])] := by
  have a0 : ∀ a b c : Nat, L2.atI [PyData.int a, PyData.int b, PyData.int c] 0 = some (.int a) := fun _ _ _ => at0 _ _
  have a1 : ∀ a b c : Nat, L2.atI [PyData.int a, PyData.int b, PyData.int c] 1 = some (.int b) := fun _ _ _ => by simp [L2.atI, L2.ixN]
  have a2 : ∀ a b c : Nat, L2.atI [PyData.int a, PyData.int b, PyData.int c] 2 = some (.int c) := fun _ _ _ => by simp [L2.atI, L2.ixN]
  have z3 : 3 ≤ sizeLine := by rw [sizeLine_eq]; decide
  have em : (max (c : Int) (z : Int)) = ((max c z : Nat) : Int) := by omega
  simp [fb_shape_0, Sv.sNil, Sv.sCons, Sv.sPass, Sv.sBreak, Sv.sCont, Sv.sExpr, Sv.put, Sv.sSet, Sv.sRet, Sv.sRetN, Sv.sIf, Sv.cVar, Sv.cK, Sv.cE, Sv.cP, Sv.cOp, Sv.cUn, Sv.cChain, Sv.cIf, Sv.cAnd, Sv.cOr, Sv.cNot, Sv.tB, Sv.tAnd, Sv.tOr, Sv.tNot, Sv.tYes, Sv.aNil, Sv.aCons, Sv.aStar, Sv.cCall, Sv.cTup, Sv.cLst, Sv.cSl, Sv.cMeth, Sv.sSetIx, Sv.sPar2, Sv.sPar3, Sv.sAsg, Sv.sAug, Sv.hold, Sv.slot, Sv.outF, Sv.argsB, Sv.slotsOf, Sv.back, Sv.rds, Sv.datas, Sv.gN, Sv.gT, Sv.gL, Sv.gRun, Sv.cFn, Sv.fnD, Sv.sRaise, Sv.R.bind, Sv.R.opt, Sv.R.toS, Sv.RS.seq, Sv.Hd.rd, Sv.B.rd, Sv.toP, Sv.eqP, Sv.neP, Sv.one, Sv.two, Sv.getP, Sv.lenP, Sv.addP, Sv.subP, Sv.mulP, Sv.mulQ, Sv.fdivP, Sv.modP, Sv.powP, Sv.intP, Sv.absP, Sv.max2P, Sv.min2P, Sv.negP, Sv.augAdd, Sv.setD, Sv.mAppend, Sv.ltB, Sv.gtB, Sv.leB, Sv.geB, Sv.ordB, Sv.small64, Sv.isP, Sv.wSeq, Sv.wRange1, Sv.sFor, h, isB, a0, a1, a2, z3]
  split <;> omega
theorem shLoop {F : Fn} {f : PyData → Option N3} {v : PyData} {l : Int} : ∀ (ps : List PyData) (a b c : Nat) (q3 q4 : Option B), (∀ p ∈ ps, ∃ o1 o2, F [.d p, .d (.int (l + 1))] = .ok (encS (f p)) [o1, o2]) →
    (∃ x y z q3' q4', shGo f ps (a, b, c) = some (x, y, z) ∧ loopF (gN 3) (fb_shape_0 F) ps [some (.d v), some (.d (.int l)), some (.l [.int a, .int b, .int c]), q3, q4] = .nx [some (.d v), some (.d (.int l)), some (.l [.int x, .int y, .int z]), q3', q4']) ∨
    (shGo f ps (a, b, c) = none ∧ ∃ e, loopF (gN 3) (fb_shape_0 F) ps [some (.d v), some (.d (.int l)), some (.l [.int a, .int b, .int c]), q3, q4] = .rt (.d .none) (some (.d v) :: some (.d (.int l)) :: e))
  | [], a, b, c, q3, q4, _ => .inl ⟨a, b, c, q3, q4, rfl, rfl⟩
  | p :: ps, a, b, c, q3, q4, h => by
    obtain ⟨o1, o2, hp⟩ := h p List.mem_cons_self
    have step : ∀ r : RS, fb_shape_0 F [some (.d v), some (.d (.int l)), some (.l [.int a, .int b, .int c]), some (.d p), q4] = r → (gN 3 p [some (.d v), some (.d (.int l)), some (.l [.int a, .int b, .int c]), q3, q4]).seq (fb_shape_0 F) = r := fun r h => h
    cases ef : f p with
    | none =>
      rw [ef] at hp
      obtain ⟨e, k⟩ := sb1 (v := v) (s := [.int a, .int b, .int c]) (q4 := q4) hp
      refine .inr ⟨by simp [shGo, ef], e, ?_⟩
      rw [loopF, step _ k]
    | some t =>
      obtain ⟨x, y, z⟩ := t
      rw [ef] at hp
      have k := sb2 (v := v) (a := a) (b := b) (c := c) (q4 := q4) hp
      rw [loopF, step _ k]
      have e1 : shGo f (p :: ps) (a, b, c) = shGo f ps (a + x, b + y, max c z) := by simp [shGo, ef]
      rw [e1]
      exact shLoop ps (a + x) (b + y) (max c z) _ _ fun q hq => h q (List.mem_cons_of_mem _ hq)
theorem shape_spec : ∀ (n fuel l : Nat) (v : PyData), n + l = 20 → n < fuel → fit v = true → d_shape fuel [.d v, .d (.int l)] = .ok (encS (sh n l v)) [some (.d v), some (.d (.int l))]
  | n, 0, l, v, _, h, _ => by omega
  | n, fuel + 1, l, v, hL, hf, hv => by
    have nm := l_name_spec v (fit_str hv)
    have z3 : 3 ≤ sizeLine := by rw [sizeLine_eq]; decide
    have z0 : (0 : Nat) ≤ sizeLine := Nat.zero_le _
    by_cases h1 : isNm v = true
    · rw [h1] at nm
      have e : sh n l v = some (1, 0, l) := by cases n <;> simp [sh, h1]
      rw [e]
      simp [d_shape, Sv.sNil, Sv.sCons, Sv.sPass, Sv.sBreak, Sv.sCont, Sv.sExpr, Sv.put, Sv.sSet, Sv.sRet, Sv.sRetN, Sv.sIf, Sv.cVar, Sv.cK, Sv.cE, Sv.cP, Sv.cOp, Sv.cUn, Sv.cChain, Sv.cIf, Sv.cAnd, Sv.cOr, Sv.cNot, Sv.tB, Sv.tAnd, Sv.tOr, Sv.tNot, Sv.tYes, Sv.aNil, Sv.aCons, Sv.aStar, Sv.cCall, Sv.cTup, Sv.cLst, Sv.cSl, Sv.cMeth, Sv.sSetIx, Sv.sPar2, Sv.sPar3, Sv.sAsg, Sv.sAug, Sv.hold, Sv.slot, Sv.outF, Sv.argsB, Sv.slotsOf, Sv.back, Sv.rds, Sv.datas, Sv.gN, Sv.gT, Sv.gL, Sv.gRun, Sv.cFn, Sv.fnD, Sv.sRaise, Sv.R.bind, Sv.R.opt, Sv.R.toS, Sv.RS.seq, Sv.Hd.rd, Sv.B.rd, Sv.toP, Sv.eqP, Sv.neP, Sv.one, Sv.two, Sv.getP, Sv.lenP, Sv.addP, Sv.subP, Sv.mulP, Sv.mulQ, Sv.fdivP, Sv.modP, Sv.powP, Sv.intP, Sv.absP, Sv.max2P, Sv.min2P, Sv.negP, Sv.augAdd, Sv.setD, Sv.mAppend, Sv.ltB, Sv.gtB, Sv.leB, Sv.geB, Sv.ordB, Sv.small64, Sv.isP, Sv.wSeq, Sv.wRange1, Sv.sFor, nm, z3, encS]
    · rw [Bool.not_eq_true] at h1
      rw [h1] at nm
      have none0 : (n = 0 ∨ front v = false) → sh n l v = none := by
        rintro (h | h)
        · subst h; simp [sh, h1]
        · cases n <;> simp [sh, h1, h]
      cases v with
      | tuple xs =>
        cases xs with
        | nil =>
          rw [none0 (.inr rfl)]
          simp [d_shape, Sv.sNil, Sv.sCons, Sv.sPass, Sv.sBreak, Sv.sCont, Sv.sExpr, Sv.put, Sv.sSet, Sv.sRet, Sv.sRetN, Sv.sIf, Sv.cVar, Sv.cK, Sv.cE, Sv.cP, Sv.cOp, Sv.cUn, Sv.cChain, Sv.cIf, Sv.cAnd, Sv.cOr, Sv.cNot, Sv.tB, Sv.tAnd, Sv.tOr, Sv.tNot, Sv.tYes, Sv.aNil, Sv.aCons, Sv.aStar, Sv.cCall, Sv.cTup, Sv.cLst, Sv.cSl, Sv.cMeth, Sv.sSetIx, Sv.sPar2, Sv.sPar3, Sv.sAsg, Sv.sAug, Sv.hold, Sv.slot, Sv.outF, Sv.argsB, Sv.slotsOf, Sv.back, Sv.rds, Sv.datas, Sv.gN, Sv.gT, Sv.gL, Sv.gRun, Sv.cFn, Sv.fnD, Sv.sRaise, Sv.R.bind, Sv.R.opt, Sv.R.toS, Sv.RS.seq, Sv.Hd.rd, Sv.B.rd, Sv.toP, Sv.eqP, Sv.neP, Sv.one, Sv.two, Sv.getP, Sv.lenP, Sv.addP, Sv.subP, Sv.mulP, Sv.mulQ, Sv.fdivP, Sv.modP, Sv.powP, Sv.intP, Sv.absP, Sv.max2P, Sv.min2P, Sv.negP, Sv.augAdd, Sv.setD, Sv.mAppend, Sv.ltB, Sv.gtB, Sv.leB, Sv.geB, Sv.ordB, Sv.small64, Sv.isP, Sv.wSeq, Sv.wRange1, Sv.sFor, nm, isTup, eq0P, eq0B, encS]
        | cons w ps =>
          by_cases h19 : 19 < l
          · have i19 : (19 : Int) < (l : Int) := by omega
            rw [none0 (.inl (by omega))]
            simp [d_shape, Sv.sNil, Sv.sCons, Sv.sPass, Sv.sBreak, Sv.sCont, Sv.sExpr, Sv.put, Sv.sSet, Sv.sRet, Sv.sRetN, Sv.sIf, Sv.cVar, Sv.cK, Sv.cE, Sv.cP, Sv.cOp, Sv.cUn, Sv.cChain, Sv.cIf, Sv.cAnd, Sv.cOr, Sv.cNot, Sv.tB, Sv.tAnd, Sv.tOr, Sv.tNot, Sv.tYes, Sv.aNil, Sv.aCons, Sv.aStar, Sv.cCall, Sv.cTup, Sv.cLst, Sv.cSl, Sv.cMeth, Sv.sSetIx, Sv.sPar2, Sv.sPar3, Sv.sAsg, Sv.sAug, Sv.hold, Sv.slot, Sv.outF, Sv.argsB, Sv.slotsOf, Sv.back, Sv.rds, Sv.datas, Sv.gN, Sv.gT, Sv.gL, Sv.gRun, Sv.cFn, Sv.fnD, Sv.sRaise, Sv.R.bind, Sv.R.opt, Sv.R.toS, Sv.RS.seq, Sv.Hd.rd, Sv.B.rd, Sv.toP, Sv.eqP, Sv.neP, Sv.one, Sv.two, Sv.getP, Sv.lenP, Sv.addP, Sv.subP, Sv.mulP, Sv.mulQ, Sv.fdivP, Sv.modP, Sv.powP, Sv.intP, Sv.absP, Sv.max2P, Sv.min2P, Sv.negP, Sv.augAdd, Sv.setD, Sv.mAppend, Sv.ltB, Sv.gtB, Sv.leB, Sv.geB, Sv.ordB, Sv.small64, Sv.isP, Sv.wSeq, Sv.wRange1, Sv.sFor, nm, isTup, eq0P, eq0B, i19, encS]
          · have i19 : ¬ (19 : Int) < (l : Int) := by omega
            obtain ⟨n', rfl⟩ : ∃ n', n = n' + 1 := ⟨n - 1, by omega⟩
            cases w with
            | str x =>
              have e1 := in_textsL x [Str.ofString "then", Str.ofString "or", Str.ofString "any", Str.ofString "some", Str.ofString "maybe"]
              have e2 := in_textsL x [Str.ofString "then", Str.ofString "or"]
              have e3 := eq_int ((ps.length : Int) + 1) 2
              simp only [List.map_cons, List.map_nil, List.any_cons, List.any_nil, Bool.or_false] at e1 e2
              rw [dsym (Str.ofString "then") x, dsym (Str.ofString "or") x] at e1 e2
              rw [dsym (Str.ofString "any") x, dsym (Str.ofString "some") x, dsym (Str.ofString "maybe") x] at e1
              have f3 : decide ((ps.length : Int) + 1 = 2) = decide (ps.length = 1) := by
                rw [decide_eq_decide]
                omega
              rw [f3] at e3
              have fr : front (.tuple (.str x :: ps)) = ((decide (x = Str.ofString "then") || decide (x = Str.ofString "or")) || ((decide (x = Str.ofString "any") || decide (x = Str.ofString "some") || decide (x = Str.ofString "maybe")) && decide (ps.length = 1))) := rfl
              have z5 : 5 ≤ sizeLine := by rw [sizeLine_eq]; decide
              have z2 : 2 ≤ sizeLine := by rw [sizeLine_eq]; decide
              have sub : ∀ p ∈ ps, ∃ o1 o2, d_shape fuel [.d p, .d (.int ((l : Int) + 1))] = .ok (encS (sh n' (l + 1) p)) [o1, o2] := fun p hp =>
                ⟨_, _, shape_spec n' fuel (l + 1) p (by omega) (by omega) (fit_parts hv p hp)⟩
              have k := shLoop (f := sh n' (l + 1)) (v := .tuple (.str x :: ps)) ps 0 1 (l + 1) none none sub
              cases g1 : (decide (x = Str.ofString "then") || decide (x = Str.ofString "or")) with
              | true =>
                have g2 : (decide (x = Str.ofString "then") || (decide (x = Str.ofString "or") || (decide (x = Str.ofString "any") || (decide (x = Str.ofString "some") || decide (x = Str.ofString "maybe"))))) = true := by
                  rw [← Bool.or_assoc, g1]; rfl
                rw [g1] at e2
                rw [g2] at e1
                have es : sh (n' + 1) l (.tuple (.str x :: ps)) = shGo (sh n' (l + 1)) ps (0, 1, l + 1) := by
                  rw [g1] at fr
                  simp [sh, h1, fr, parts]
                rw [es]
                rcases k with ⟨x', y', z', q3, q4, k1, k2⟩ | ⟨k1, e', k2⟩
                · rw [k1]
                  simp at k2
                  simp [d_shape, Sv.sNil, Sv.sCons, Sv.sPass, Sv.sBreak, Sv.sCont, Sv.sExpr, Sv.put, Sv.sSet, Sv.sRet, Sv.sRetN, Sv.sIf, Sv.cVar, Sv.cK, Sv.cE, Sv.cP, Sv.cOp, Sv.cUn, Sv.cChain, Sv.cIf, Sv.cAnd, Sv.cOr, Sv.cNot, Sv.tB, Sv.tAnd, Sv.tOr, Sv.tNot, Sv.tYes, Sv.aNil, Sv.aCons, Sv.aStar, Sv.cCall, Sv.cTup, Sv.cLst, Sv.cSl, Sv.cMeth, Sv.sSetIx, Sv.sPar2, Sv.sPar3, Sv.sAsg, Sv.sAug, Sv.hold, Sv.slot, Sv.outF, Sv.argsB, Sv.slotsOf, Sv.back, Sv.rds, Sv.datas, Sv.gN, Sv.gT, Sv.gL, Sv.gRun, Sv.cFn, Sv.fnD, Sv.sRaise, Sv.R.bind, Sv.R.opt, Sv.R.toS, Sv.RS.seq, Sv.Hd.rd, Sv.B.rd, Sv.toP, Sv.eqP, Sv.neP, Sv.one, Sv.two, Sv.getP, Sv.lenP, Sv.addP, Sv.subP, Sv.mulP, Sv.mulQ, Sv.fdivP, Sv.modP, Sv.powP, Sv.intP, Sv.absP, Sv.max2P, Sv.min2P, Sv.negP, Sv.augAdd, Sv.setD, Sv.mAppend, Sv.ltB, Sv.gtB, Sv.leB, Sv.geB, Sv.ordB, Sv.small64, Sv.isP, Sv.wSeq, Sv.wRange1, Sv.sFor, nm, isTup, isStr, eq0P, eq0B, i19, at0, notInB, e1, e2, z5, z2, z3, slP, cut1, k2, encS]
                · rw [k1]
                  simp at k2
                  simp [d_shape, Sv.sNil, Sv.sCons, Sv.sPass, Sv.sBreak, Sv.sCont, Sv.sExpr, Sv.put, Sv.sSet, Sv.sRet, Sv.sRetN, Sv.sIf, Sv.cVar, Sv.cK, Sv.cE, Sv.cP, Sv.cOp, Sv.cUn, Sv.cChain, Sv.cIf, Sv.cAnd, Sv.cOr, Sv.cNot, Sv.tB, Sv.tAnd, Sv.tOr, Sv.tNot, Sv.tYes, Sv.aNil, Sv.aCons, Sv.aStar, Sv.cCall, Sv.cTup, Sv.cLst, Sv.cSl, Sv.cMeth, Sv.sSetIx, Sv.sPar2, Sv.sPar3, Sv.sAsg, Sv.sAug, Sv.hold, Sv.slot, Sv.outF, Sv.argsB, Sv.slotsOf, Sv.back, Sv.rds, Sv.datas, Sv.gN, Sv.gT, Sv.gL, Sv.gRun, Sv.cFn, Sv.fnD, Sv.sRaise, Sv.R.bind, Sv.R.opt, Sv.R.toS, Sv.RS.seq, Sv.Hd.rd, Sv.B.rd, Sv.toP, Sv.eqP, Sv.neP, Sv.one, Sv.two, Sv.getP, Sv.lenP, Sv.addP, Sv.subP, Sv.mulP, Sv.mulQ, Sv.fdivP, Sv.modP, Sv.powP, Sv.intP, Sv.absP, Sv.max2P, Sv.min2P, Sv.negP, Sv.augAdd, Sv.setD, Sv.mAppend, Sv.ltB, Sv.gtB, Sv.leB, Sv.geB, Sv.ordB, Sv.small64, Sv.isP, Sv.wSeq, Sv.wRange1, Sv.sFor, nm, isTup, isStr, eq0P, eq0B, i19, at0, notInB, e1, e2, z5, z2, z3, slP, cut1, k2, encS]
              | false =>
                cases g3 : (decide (x = Str.ofString "any") || decide (x = Str.ofString "some") || decide (x = Str.ofString "maybe")) with
                | false =>
                  have g2 : (decide (x = Str.ofString "then") || (decide (x = Str.ofString "or") || (decide (x = Str.ofString "any") || (decide (x = Str.ofString "some") || decide (x = Str.ofString "maybe"))))) = false := by
                    rw [← Bool.or_assoc, g1, Bool.false_or, ← Bool.or_assoc, g3]
                  rw [g2] at e1
                  have f0 : front (.tuple (.str x :: ps)) = false := by rw [fr, g1, g3]; rfl
                  rw [none0 (.inr f0)]
                  simp [d_shape, Sv.sNil, Sv.sCons, Sv.sPass, Sv.sBreak, Sv.sCont, Sv.sExpr, Sv.put, Sv.sSet, Sv.sRet, Sv.sRetN, Sv.sIf, Sv.cVar, Sv.cK, Sv.cE, Sv.cP, Sv.cOp, Sv.cUn, Sv.cChain, Sv.cIf, Sv.cAnd, Sv.cOr, Sv.cNot, Sv.tB, Sv.tAnd, Sv.tOr, Sv.tNot, Sv.tYes, Sv.aNil, Sv.aCons, Sv.aStar, Sv.cCall, Sv.cTup, Sv.cLst, Sv.cSl, Sv.cMeth, Sv.sSetIx, Sv.sPar2, Sv.sPar3, Sv.sAsg, Sv.sAug, Sv.hold, Sv.slot, Sv.outF, Sv.argsB, Sv.slotsOf, Sv.back, Sv.rds, Sv.datas, Sv.gN, Sv.gT, Sv.gL, Sv.gRun, Sv.cFn, Sv.fnD, Sv.sRaise, Sv.R.bind, Sv.R.opt, Sv.R.toS, Sv.RS.seq, Sv.Hd.rd, Sv.B.rd, Sv.toP, Sv.eqP, Sv.neP, Sv.one, Sv.two, Sv.getP, Sv.lenP, Sv.addP, Sv.subP, Sv.mulP, Sv.mulQ, Sv.fdivP, Sv.modP, Sv.powP, Sv.intP, Sv.absP, Sv.max2P, Sv.min2P, Sv.negP, Sv.augAdd, Sv.setD, Sv.mAppend, Sv.ltB, Sv.gtB, Sv.leB, Sv.geB, Sv.ordB, Sv.small64, Sv.isP, Sv.wSeq, Sv.wRange1, Sv.sFor, nm, isTup, isStr, eq0P, eq0B, i19, at0, notInB, e1, z5, encS]
                | true =>
                  have g2 : (decide (x = Str.ofString "then") || (decide (x = Str.ofString "or") || (decide (x = Str.ofString "any") || (decide (x = Str.ofString "some") || decide (x = Str.ofString "maybe"))))) = true := by
                    rw [← Bool.or_assoc, g1, Bool.false_or, ← Bool.or_assoc, g3]
                  rw [g2] at e1
                  rw [g1] at e2
                  cases g4 : decide (ps.length = 1) with
                  | false =>
                    rw [g4] at e3
                    have f0 : front (.tuple (.str x :: ps)) = false := by rw [fr, g1, g3, g4]; rfl
                    rw [none0 (.inr f0)]
                    simp [d_shape, Sv.sNil, Sv.sCons, Sv.sPass, Sv.sBreak, Sv.sCont, Sv.sExpr, Sv.put, Sv.sSet, Sv.sRet, Sv.sRetN, Sv.sIf, Sv.cVar, Sv.cK, Sv.cE, Sv.cP, Sv.cOp, Sv.cUn, Sv.cChain, Sv.cIf, Sv.cAnd, Sv.cOr, Sv.cNot, Sv.tB, Sv.tAnd, Sv.tOr, Sv.tNot, Sv.tYes, Sv.aNil, Sv.aCons, Sv.aStar, Sv.cCall, Sv.cTup, Sv.cLst, Sv.cSl, Sv.cMeth, Sv.sSetIx, Sv.sPar2, Sv.sPar3, Sv.sAsg, Sv.sAug, Sv.hold, Sv.slot, Sv.outF, Sv.argsB, Sv.slotsOf, Sv.back, Sv.rds, Sv.datas, Sv.gN, Sv.gT, Sv.gL, Sv.gRun, Sv.cFn, Sv.fnD, Sv.sRaise, Sv.R.bind, Sv.R.opt, Sv.R.toS, Sv.RS.seq, Sv.Hd.rd, Sv.B.rd, Sv.toP, Sv.eqP, Sv.neP, Sv.one, Sv.two, Sv.getP, Sv.lenP, Sv.addP, Sv.subP, Sv.mulP, Sv.mulQ, Sv.fdivP, Sv.modP, Sv.powP, Sv.intP, Sv.absP, Sv.max2P, Sv.min2P, Sv.negP, Sv.augAdd, Sv.setD, Sv.mAppend, Sv.ltB, Sv.gtB, Sv.leB, Sv.geB, Sv.ordB, Sv.small64, Sv.isP, Sv.wSeq, Sv.wRange1, Sv.sFor, nm, isTup, isStr, eq0P, eq0B, i19, at0, notInB, e1, e2, e3, z5, z2, encS]
                  | true =>
                    rw [g4] at e3
                    have f0 : front (.tuple (.str x :: ps)) = true := by rw [fr, g1, g3, g4]; rfl
                    have es : sh (n' + 1) l (.tuple (.str x :: ps)) = shGo (sh n' (l + 1)) ps (0, 1, l + 1) := by simp [sh, h1, f0, parts]
                    rw [es]
                    rcases k with ⟨x', y', z', q3, q4, k1, k2⟩ | ⟨k1, e', k2⟩
                    · rw [k1]
                      simp at k2
                      simp [d_shape, Sv.sNil, Sv.sCons, Sv.sPass, Sv.sBreak, Sv.sCont, Sv.sExpr, Sv.put, Sv.sSet, Sv.sRet, Sv.sRetN, Sv.sIf, Sv.cVar, Sv.cK, Sv.cE, Sv.cP, Sv.cOp, Sv.cUn, Sv.cChain, Sv.cIf, Sv.cAnd, Sv.cOr, Sv.cNot, Sv.tB, Sv.tAnd, Sv.tOr, Sv.tNot, Sv.tYes, Sv.aNil, Sv.aCons, Sv.aStar, Sv.cCall, Sv.cTup, Sv.cLst, Sv.cSl, Sv.cMeth, Sv.sSetIx, Sv.sPar2, Sv.sPar3, Sv.sAsg, Sv.sAug, Sv.hold, Sv.slot, Sv.outF, Sv.argsB, Sv.slotsOf, Sv.back, Sv.rds, Sv.datas, Sv.gN, Sv.gT, Sv.gL, Sv.gRun, Sv.cFn, Sv.fnD, Sv.sRaise, Sv.R.bind, Sv.R.opt, Sv.R.toS, Sv.RS.seq, Sv.Hd.rd, Sv.B.rd, Sv.toP, Sv.eqP, Sv.neP, Sv.one, Sv.two, Sv.getP, Sv.lenP, Sv.addP, Sv.subP, Sv.mulP, Sv.mulQ, Sv.fdivP, Sv.modP, Sv.powP, Sv.intP, Sv.absP, Sv.max2P, Sv.min2P, Sv.negP, Sv.augAdd, Sv.setD, Sv.mAppend, Sv.ltB, Sv.gtB, Sv.leB, Sv.geB, Sv.ordB, Sv.small64, Sv.isP, Sv.wSeq, Sv.wRange1, Sv.sFor, nm, isTup, isStr, eq0P, eq0B, i19, at0, notInB, e1, e2, e3, z5, z2, z3, slP, cut1, k2, encS]
                    · rw [k1]
                      simp at k2
                      simp [d_shape, Sv.sNil, Sv.sCons, Sv.sPass, Sv.sBreak, Sv.sCont, Sv.sExpr, Sv.put, Sv.sSet, Sv.sRet, Sv.sRetN, Sv.sIf, Sv.cVar, Sv.cK, Sv.cE, Sv.cP, Sv.cOp, Sv.cUn, Sv.cChain, Sv.cIf, Sv.cAnd, Sv.cOr, Sv.cNot, Sv.tB, Sv.tAnd, Sv.tOr, Sv.tNot, Sv.tYes, Sv.aNil, Sv.aCons, Sv.aStar, Sv.cCall, Sv.cTup, Sv.cLst, Sv.cSl, Sv.cMeth, Sv.sSetIx, Sv.sPar2, Sv.sPar3, Sv.sAsg, Sv.sAug, Sv.hold, Sv.slot, Sv.outF, Sv.argsB, Sv.slotsOf, Sv.back, Sv.rds, Sv.datas, Sv.gN, Sv.gT, Sv.gL, Sv.gRun, Sv.cFn, Sv.fnD, Sv.sRaise, Sv.R.bind, Sv.R.opt, Sv.R.toS, Sv.RS.seq, Sv.Hd.rd, Sv.B.rd, Sv.toP, Sv.eqP, Sv.neP, Sv.one, Sv.two, Sv.getP, Sv.lenP, Sv.addP, Sv.subP, Sv.mulP, Sv.mulQ, Sv.fdivP, Sv.modP, Sv.powP, Sv.intP, Sv.absP, Sv.max2P, Sv.min2P, Sv.negP, Sv.augAdd, Sv.setD, Sv.mAppend, Sv.ltB, Sv.gtB, Sv.leB, Sv.geB, Sv.ordB, Sv.small64, Sv.isP, Sv.wSeq, Sv.wRange1, Sv.sFor, nm, isTup, isStr, eq0P, eq0B, i19, at0, notInB, e1, e2, e3, z5, z2, z3, slP, cut1, k2, encS]
            | _ =>
              rw [none0 (.inr rfl)]
              simp [d_shape, Sv.sNil, Sv.sCons, Sv.sPass, Sv.sBreak, Sv.sCont, Sv.sExpr, Sv.put, Sv.sSet, Sv.sRet, Sv.sRetN, Sv.sIf, Sv.cVar, Sv.cK, Sv.cE, Sv.cP, Sv.cOp, Sv.cUn, Sv.cChain, Sv.cIf, Sv.cAnd, Sv.cOr, Sv.cNot, Sv.tB, Sv.tAnd, Sv.tOr, Sv.tNot, Sv.tYes, Sv.aNil, Sv.aCons, Sv.aStar, Sv.cCall, Sv.cTup, Sv.cLst, Sv.cSl, Sv.cMeth, Sv.sSetIx, Sv.sPar2, Sv.sPar3, Sv.sAsg, Sv.sAug, Sv.hold, Sv.slot, Sv.outF, Sv.argsB, Sv.slotsOf, Sv.back, Sv.rds, Sv.datas, Sv.gN, Sv.gT, Sv.gL, Sv.gRun, Sv.cFn, Sv.fnD, Sv.sRaise, Sv.R.bind, Sv.R.opt, Sv.R.toS, Sv.RS.seq, Sv.Hd.rd, Sv.B.rd, Sv.toP, Sv.eqP, Sv.neP, Sv.one, Sv.two, Sv.getP, Sv.lenP, Sv.addP, Sv.subP, Sv.mulP, Sv.mulQ, Sv.fdivP, Sv.modP, Sv.powP, Sv.intP, Sv.absP, Sv.max2P, Sv.min2P, Sv.negP, Sv.augAdd, Sv.setD, Sv.mAppend, Sv.ltB, Sv.gtB, Sv.leB, Sv.geB, Sv.ordB, Sv.small64, Sv.isP, Sv.wSeq, Sv.wRange1, Sv.sFor, nm, isTup, isStr, eq0P, eq0B, i19, at0, encS]
      | _ =>
        rw [none0 (.inr rfl)]
        simp [d_shape, Sv.sNil, Sv.sCons, Sv.sPass, Sv.sBreak, Sv.sCont, Sv.sExpr, Sv.put, Sv.sSet, Sv.sRet, Sv.sRetN, Sv.sIf, Sv.cVar, Sv.cK, Sv.cE, Sv.cP, Sv.cOp, Sv.cUn, Sv.cChain, Sv.cIf, Sv.cAnd, Sv.cOr, Sv.cNot, Sv.tB, Sv.tAnd, Sv.tOr, Sv.tNot, Sv.tYes, Sv.aNil, Sv.aCons, Sv.aStar, Sv.cCall, Sv.cTup, Sv.cLst, Sv.cSl, Sv.cMeth, Sv.sSetIx, Sv.sPar2, Sv.sPar3, Sv.sAsg, Sv.sAug, Sv.hold, Sv.slot, Sv.outF, Sv.argsB, Sv.slotsOf, Sv.back, Sv.rds, Sv.datas, Sv.gN, Sv.gT, Sv.gL, Sv.gRun, Sv.cFn, Sv.fnD, Sv.sRaise, Sv.R.bind, Sv.R.opt, Sv.R.toS, Sv.RS.seq, Sv.Hd.rd, Sv.B.rd, Sv.toP, Sv.eqP, Sv.neP, Sv.one, Sv.two, Sv.getP, Sv.lenP, Sv.addP, Sv.subP, Sv.mulP, Sv.mulQ, Sv.fdivP, Sv.modP, Sv.powP, Sv.intP, Sv.absP, Sv.max2P, Sv.min2P, Sv.negP, Sv.augAdd, Sv.setD, Sv.mAppend, Sv.ltB, Sv.gtB, Sv.leB, Sv.geB, Sv.ordB, Sv.small64, Sv.isP, Sv.wSeq, Sv.wRange1, Sv.sFor, nm, isTup, encS]
def isOne (v : PyData) : Bool := match sh 20 0 v with
  | none => false
  | some (a, b, c) => decide (a ≤ 12) && (decide (b ≤ 40) && decide (c ≤ 6))
theorem one_spec (v : PyData) (hv : fit v = true) : d_is_one [.d v] = .ok (.d (.bool (isOne v))) [some (.d v)] := by
  have k := shape_spec 20 25 0 v rfl (by omega) hv
  unfold isOne
  cases e : sh 20 0 v with
  | none =>
    rw [e] at k
    simp [encS] at k
    simp [d_is_one, Sv.sNil, Sv.sCons, Sv.sPass, Sv.sBreak, Sv.sCont, Sv.sExpr, Sv.put, Sv.sSet, Sv.sRet, Sv.sRetN, Sv.sIf, Sv.cVar, Sv.cK, Sv.cE, Sv.cP, Sv.cOp, Sv.cUn, Sv.cChain, Sv.cIf, Sv.cAnd, Sv.cOr, Sv.cNot, Sv.tB, Sv.tAnd, Sv.tOr, Sv.tNot, Sv.tYes, Sv.aNil, Sv.aCons, Sv.aStar, Sv.cCall, Sv.cTup, Sv.cLst, Sv.cSl, Sv.cMeth, Sv.sSetIx, Sv.sPar2, Sv.sPar3, Sv.sAsg, Sv.sAug, Sv.hold, Sv.slot, Sv.outF, Sv.argsB, Sv.slotsOf, Sv.back, Sv.rds, Sv.datas, Sv.gN, Sv.gT, Sv.gL, Sv.gRun, Sv.cFn, Sv.fnD, Sv.sRaise, Sv.R.bind, Sv.R.opt, Sv.R.toS, Sv.RS.seq, Sv.Hd.rd, Sv.B.rd, Sv.toP, Sv.eqP, Sv.neP, Sv.one, Sv.two, Sv.getP, Sv.lenP, Sv.addP, Sv.subP, Sv.mulP, Sv.mulQ, Sv.fdivP, Sv.modP, Sv.powP, Sv.intP, Sv.absP, Sv.max2P, Sv.min2P, Sv.negP, Sv.augAdd, Sv.setD, Sv.mAppend, Sv.ltB, Sv.gtB, Sv.leB, Sv.geB, Sv.ordB, Sv.small64, Sv.isP, Sv.wSeq, Sv.wRange1, Sv.sFor, k, isNotB, isB]
  | some t =>
    obtain ⟨a, b, c⟩ := t
    rw [e] at k
    simp [encS] at k
    have a0 : L2.atI [PyData.int a, PyData.int b, PyData.int c] 0 = some (.int a) := at0 _ _
    have a1 : L2.atI [PyData.int a, PyData.int b, PyData.int c] 1 = some (.int b) := by simp [L2.atI, L2.ixN]
    have a2 : L2.atI [PyData.int a, PyData.int b, PyData.int c] 2 = some (.int c) := by simp [L2.atI, L2.ixN]
    by_cases h1 : a ≤ 12
    · have i1 : (a : Int) ≤ 12 := by omega
      by_cases h2 : b ≤ 40
      · have i2 : (b : Int) ≤ 40 := by omega
        by_cases h3 : c ≤ 6
        · have i3 : (c : Int) ≤ 6 := by omega
          simp [d_is_one, Sv.sNil, Sv.sCons, Sv.sPass, Sv.sBreak, Sv.sCont, Sv.sExpr, Sv.put, Sv.sSet, Sv.sRet, Sv.sRetN, Sv.sIf, Sv.cVar, Sv.cK, Sv.cE, Sv.cP, Sv.cOp, Sv.cUn, Sv.cChain, Sv.cIf, Sv.cAnd, Sv.cOr, Sv.cNot, Sv.tB, Sv.tAnd, Sv.tOr, Sv.tNot, Sv.tYes, Sv.aNil, Sv.aCons, Sv.aStar, Sv.cCall, Sv.cTup, Sv.cLst, Sv.cSl, Sv.cMeth, Sv.sSetIx, Sv.sPar2, Sv.sPar3, Sv.sAsg, Sv.sAug, Sv.hold, Sv.slot, Sv.outF, Sv.argsB, Sv.slotsOf, Sv.back, Sv.rds, Sv.datas, Sv.gN, Sv.gT, Sv.gL, Sv.gRun, Sv.cFn, Sv.fnD, Sv.sRaise, Sv.R.bind, Sv.R.opt, Sv.R.toS, Sv.RS.seq, Sv.Hd.rd, Sv.B.rd, Sv.toP, Sv.eqP, Sv.neP, Sv.one, Sv.two, Sv.getP, Sv.lenP, Sv.addP, Sv.subP, Sv.mulP, Sv.mulQ, Sv.fdivP, Sv.modP, Sv.powP, Sv.intP, Sv.absP, Sv.max2P, Sv.min2P, Sv.negP, Sv.augAdd, Sv.setD, Sv.mAppend, Sv.ltB, Sv.gtB, Sv.leB, Sv.geB, Sv.ordB, Sv.small64, Sv.isP, Sv.wSeq, Sv.wRange1, Sv.sFor, k, isNotB, isB, a0, a1, a2, i1, i2, i3, h1, h2, h3]
        · have i3 : ¬ (c : Int) ≤ 6 := by omega
          simp [d_is_one, Sv.sNil, Sv.sCons, Sv.sPass, Sv.sBreak, Sv.sCont, Sv.sExpr, Sv.put, Sv.sSet, Sv.sRet, Sv.sRetN, Sv.sIf, Sv.cVar, Sv.cK, Sv.cE, Sv.cP, Sv.cOp, Sv.cUn, Sv.cChain, Sv.cIf, Sv.cAnd, Sv.cOr, Sv.cNot, Sv.tB, Sv.tAnd, Sv.tOr, Sv.tNot, Sv.tYes, Sv.aNil, Sv.aCons, Sv.aStar, Sv.cCall, Sv.cTup, Sv.cLst, Sv.cSl, Sv.cMeth, Sv.sSetIx, Sv.sPar2, Sv.sPar3, Sv.sAsg, Sv.sAug, Sv.hold, Sv.slot, Sv.outF, Sv.argsB, Sv.slotsOf, Sv.back, Sv.rds, Sv.datas, Sv.gN, Sv.gT, Sv.gL, Sv.gRun, Sv.cFn, Sv.fnD, Sv.sRaise, Sv.R.bind, Sv.R.opt, Sv.R.toS, Sv.RS.seq, Sv.Hd.rd, Sv.B.rd, Sv.toP, Sv.eqP, Sv.neP, Sv.one, Sv.two, Sv.getP, Sv.lenP, Sv.addP, Sv.subP, Sv.mulP, Sv.mulQ, Sv.fdivP, Sv.modP, Sv.powP, Sv.intP, Sv.absP, Sv.max2P, Sv.min2P, Sv.negP, Sv.augAdd, Sv.setD, Sv.mAppend, Sv.ltB, Sv.gtB, Sv.leB, Sv.geB, Sv.ordB, Sv.small64, Sv.isP, Sv.wSeq, Sv.wRange1, Sv.sFor, k, isNotB, isB, a0, a1, a2, i1, i2, i3, h1, h2, h3]
      · have i2 : ¬ (b : Int) ≤ 40 := by omega
        simp [d_is_one, Sv.sNil, Sv.sCons, Sv.sPass, Sv.sBreak, Sv.sCont, Sv.sExpr, Sv.put, Sv.sSet, Sv.sRet, Sv.sRetN, Sv.sIf, Sv.cVar, Sv.cK, Sv.cE, Sv.cP, Sv.cOp, Sv.cUn, Sv.cChain, Sv.cIf, Sv.cAnd, Sv.cOr, Sv.cNot, Sv.tB, Sv.tAnd, Sv.tOr, Sv.tNot, Sv.tYes, Sv.aNil, Sv.aCons, Sv.aStar, Sv.cCall, Sv.cTup, Sv.cLst, Sv.cSl, Sv.cMeth, Sv.sSetIx, Sv.sPar2, Sv.sPar3, Sv.sAsg, Sv.sAug, Sv.hold, Sv.slot, Sv.outF, Sv.argsB, Sv.slotsOf, Sv.back, Sv.rds, Sv.datas, Sv.gN, Sv.gT, Sv.gL, Sv.gRun, Sv.cFn, Sv.fnD, Sv.sRaise, Sv.R.bind, Sv.R.opt, Sv.R.toS, Sv.RS.seq, Sv.Hd.rd, Sv.B.rd, Sv.toP, Sv.eqP, Sv.neP, Sv.one, Sv.two, Sv.getP, Sv.lenP, Sv.addP, Sv.subP, Sv.mulP, Sv.mulQ, Sv.fdivP, Sv.modP, Sv.powP, Sv.intP, Sv.absP, Sv.max2P, Sv.min2P, Sv.negP, Sv.augAdd, Sv.setD, Sv.mAppend, Sv.ltB, Sv.gtB, Sv.leB, Sv.geB, Sv.ordB, Sv.small64, Sv.isP, Sv.wSeq, Sv.wRange1, Sv.sFor, k, isNotB, isB, a0, a1, a2, i1, i2, h1, h2]
    · have i1 : ¬ (a : Int) ≤ 12 := by omega
      simp [d_is_one, Sv.sNil, Sv.sCons, Sv.sPass, Sv.sBreak, Sv.sCont, Sv.sExpr, Sv.put, Sv.sSet, Sv.sRet, Sv.sRetN, Sv.sIf, Sv.cVar, Sv.cK, Sv.cE, Sv.cP, Sv.cOp, Sv.cUn, Sv.cChain, Sv.cIf, Sv.cAnd, Sv.cOr, Sv.cNot, Sv.tB, Sv.tAnd, Sv.tOr, Sv.tNot, Sv.tYes, Sv.aNil, Sv.aCons, Sv.aStar, Sv.cCall, Sv.cTup, Sv.cLst, Sv.cSl, Sv.cMeth, Sv.sSetIx, Sv.sPar2, Sv.sPar3, Sv.sAsg, Sv.sAug, Sv.hold, Sv.slot, Sv.outF, Sv.argsB, Sv.slotsOf, Sv.back, Sv.rds, Sv.datas, Sv.gN, Sv.gT, Sv.gL, Sv.gRun, Sv.cFn, Sv.fnD, Sv.sRaise, Sv.R.bind, Sv.R.opt, Sv.R.toS, Sv.RS.seq, Sv.Hd.rd, Sv.B.rd, Sv.toP, Sv.eqP, Sv.neP, Sv.one, Sv.two, Sv.getP, Sv.lenP, Sv.addP, Sv.subP, Sv.mulP, Sv.mulQ, Sv.fdivP, Sv.modP, Sv.powP, Sv.intP, Sv.absP, Sv.max2P, Sv.min2P, Sv.negP, Sv.augAdd, Sv.setD, Sv.mAppend, Sv.ltB, Sv.gtB, Sv.leB, Sv.geB, Sv.ordB, Sv.small64, Sv.isP, Sv.wSeq, Sv.wRange1, Sv.sFor, k, isNotB, isB, a0, a1, a2, i1, h1]
/-! ### both tell the same -/
/-- names, tuples, height of what is well formed -/
def ttGo (f : PyData → Option N3) : List PyData → N3 → Option N3
  | [], s => some s
  | p :: ps, s => match f p with
    | none => none
    | some t => ttGo f ps (s.1 + t.1, s.2.1 + t.2.1, max s.2.2 (t.2.2 + 1))
def tt : Nat → PyData → Option N3
  | 0, v => if isNm v = true then some (1, 0, 0) else none
  | n + 1, v => if isNm v = true then some (1, 0, 0) else if front v = true then ttGo (tt n) (parts v) (0, 1, 1) else none
theorem shGo_tt {f g : PyData → Option N3} {l : Nat} (h : ∀ v, f v = (g v).map fun t => (t.1, t.2.1, t.2.2 + (l + 1))) : ∀ (ps : List PyData) (a b c : Nat), shGo f ps (a, b, c + l) = (ttGo g ps (a, b, c)).map fun t => (t.1, t.2.1, t.2.2 + l)
  | [], a, b, c => rfl
  | p :: ps, a, b, c => by
    rw [shGo, ttGo, h p]
    cases e : g p with
    | none => rfl
    | some t =>
      simp only [Option.map_some]
      rw [show max (c + l) (t.2.2 + (l + 1)) = max c (t.2.2 + 1) + l by omega]
      exact shGo_tt h ps _ _ _
theorem sh_tt : ∀ (n l : Nat) (v : PyData), sh n l v = (tt n v).map fun t => (t.1, t.2.1, t.2.2 + l)
  | 0, l, v => by
    rw [sh, tt]
    split <;> simp
  | n + 1, l, v => by
    rw [sh, tt]
    split
    · simp
    · split
      · have k := shGo_tt (l := l) (sh_tt n (l + 1)) (parts v) 0 1 1
        rw [show 1 + l = l + 1 by omega] at k
        exact k
      · rfl
/-- within the bounds -/
def bnd (t : N3) : Option (Nat × Nat) := if t.1 ≤ 12 ∧ t.2.1 ≤ 40 then some (t.1, t.2.1) else none
theorem ttGo_ge {f : PyData → Option N3} : ∀ (ps : List PyData) (s t : N3), ttGo f ps s = some t → s.1 ≤ t.1 ∧ s.2.1 ≤ t.2.1 ∧ s.2.2 ≤ t.2.2
  | [], s, t, h => by cases h; exact ⟨Nat.le_refl _, Nat.le_refl _, Nat.le_refl _⟩
  | p :: ps, s, t, h => by
    rw [ttGo] at h
    cases e : f p with
    | none => rw [e] at h; cases h
    | some u =>
      rw [e] at h
      have := ttGo_ge ps _ _ h
      simp only at this
      omega
theorem cwGo_tt {f : PyData → Option (Nat × Nat)} {g : PyData → Option N3} (h : ∀ v, f v = (g v).bind bnd) : ∀ (ps : List PyData) (a b c : Nat), a ≤ 12 → b ≤ 40 → cwGo f ps (a, b) = (ttGo g ps (a, b, c)).bind bnd
  | [], a, b, c, h1, h2 => by simp [cwGo, ttGo, bnd, h1, h2]
  | p :: ps, a, b, c, h1, h2 => by
    rw [cwGo, ttGo, h p]
    cases e : g p with
    | none => rfl
    | some t =>
      simp only [Option.bind_some]
      by_cases hb : t.1 ≤ 12 ∧ t.2.1 ≤ 40
      · have eb : bnd t = some (t.1, t.2.1) := by unfold bnd; rw [if_pos hb]
        rw [eb]
        simp only
        by_cases hc : 12 < a + t.1 ∨ 40 < b + t.2.1
        · rw [if_pos hc]
          cases e2 : ttGo g ps (a + t.1, b + t.2.1, max c (t.2.2 + 1)) with
          | none => rfl
          | some u =>
            have := ttGo_ge ps _ _ e2
            simp only at this
            simp only [Option.bind_some, bnd]
            rw [if_neg (by omega)]
        · rw [if_neg hc]
          exact cwGo_tt h ps _ _ _ (by omega) (by omega)
      · have eb : bnd t = none := by unfold bnd; rw [if_neg hb]
        rw [eb]
        simp only
        cases e2 : ttGo g ps (a + t.1, b + t.2.1, max c (t.2.2 + 1)) with
        | none => rfl
        | some u =>
          have := ttGo_ge ps _ _ e2
          simp only at this
          simp only [Option.bind_some, bnd]
          rw [if_neg (by omega)]
theorem cw_tt : ∀ (n : Nat) (v : PyData), cw n v = (tt n v).bind bnd
  | 0, v => by
    rw [cw, tt]
    split <;> simp [bnd]
  | n + 1, v => by
    rw [cw, tt]
    split
    · simp [bnd]
    · split
      · exact cwGo_tt (cw_tt n) (parts v) 0 1 1 (by omega) (by omega)
      · rfl
/-- by height -/
def low (n : Nat) (t : N3) : Option N3 := if t.2.2 ≤ n then some t else none
theorem ttGo_low {f g : PyData → Option N3} {n : Nat} (h : ∀ v, f v = (g v).bind (low n)) : ∀ (ps : List PyData) (a b c : Nat), c ≤ n + 1 → ttGo f ps (a, b, c) = (ttGo g ps (a, b, c)).bind (low (n + 1))
  | [], a, b, c, h1 => by simp [ttGo, low, h1]
  | p :: ps, a, b, c, h1 => by
    rw [ttGo, ttGo, h p]
    cases e : g p with
    | none => rfl
    | some t =>
      simp only [Option.bind_some]
      by_cases hb : t.2.2 ≤ n
      · have eb : low n t = some t := by unfold low; rw [if_pos hb]
        rw [eb]
        exact ttGo_low h ps _ _ _ (by omega)
      · have eb : low n t = none := by unfold low; rw [if_neg hb]
        rw [eb]
        simp only
        cases e2 : ttGo g ps (a + t.1, b + t.2.1, max c (t.2.2 + 1)) with
        | none => rfl
        | some u =>
          have := ttGo_ge ps _ _ e2
          simp only at this
          simp only [Option.bind_some, low]
          rw [if_neg (by omega)]
theorem tt_low : ∀ (n m : Nat) (v : PyData), n ≤ m → tt n v = (tt m v).bind (low n)
  | 0, 0, v, _ => by
    rw [tt]
    split <;> simp [low]
  | 0, m + 1, v, _ => by
    rw [tt, tt]
    split
    · simp [low]
    · split
      · cases e : ttGo (tt m) (parts v) (0, 1, 1) with
        | none => rfl
        | some u =>
          have := ttGo_ge _ _ _ e
          simp only at this
          simp only [Option.bind_some, low]
          rw [if_neg (by omega)]
      · rfl
  | n + 1, 0, v, h => by omega
  | n + 1, m + 1, v, h => by
    rw [tt, tt]
    split
    · simp [low]
    · split
      · exact ttGo_low (fun v => tt_low n m v (by omega)) (parts v) 0 1 1 (by omega)
      · rfl
theorem one_expr (v : PyData) : isOne v = isExpr v := by
  unfold isOne isExpr
  rw [sh_tt, cw_tt, tt_low 6 20 v (by omega)]
  cases e : tt 20 v with
  | none => rfl
  | some t =>
    obtain ⟨a, b, c⟩ := t
    simp only [Option.map_some, Option.bind_some, low, Nat.add_zero]
    by_cases h3 : c ≤ 6
    · by_cases h1 : a ≤ 12
      · by_cases h2 : b ≤ 40
        · simp [h1, h2, h3, bnd]
        · simp [h1, h2, h3, bnd]
      · simp [h1, h3, bnd]
    · simp [h3]
end K05
end
section
set_option autoImplicit false
set_option linter.all false
set_option maxRecDepth 100000
namespace K05
open PySem Sv

/-! ### the names, in order -/
def wr : Nat → PyData → List Str
  | _, .str x => [x]
  | n + 1, .tuple (_ :: ps) => ps.flatMap (wr n)
  | _, _ => []
theorem w2L {F : Fn} {v : PyData} {g : PyData → List Str} : ∀ (ps : List PyData), (∀ p ∈ ps, ∃ o, F [.d p] = .ok (.l ((g p).map .str)) [o]) →
    comp2L [1, 2] [2] (gN 1) (cw_written_names_1 F) (gN 2) (ce_written_names_0 F) ps [some (.d v), none, none] = .ok ((ps.flatMap g).map .str) [some (.d v), none, none]
  | [], _ => rfl
  | p :: ps, h => by
    obtain ⟨o, hp⟩ := h p List.mem_cons_self
    have ih := w2L (v := v) ps fun q hq => h q (List.mem_cons_of_mem _ hq)
    have k1 : cw_written_names_1 F [some (.d v), some (.d p), none] = .ok ((g p).map .str) [some (.d v), some (.d p), none] := by
      simp [cw_written_names_1, Sv.sNil, Sv.sCons, Sv.sPass, Sv.sBreak, Sv.sCont, Sv.sExpr, Sv.put, Sv.sSet, Sv.sRet, Sv.sRetN, Sv.sIf, Sv.cVar, Sv.cK, Sv.cE, Sv.cP, Sv.cOp, Sv.cUn, Sv.cChain, Sv.cIf, Sv.cAnd, Sv.cOr, Sv.cNot, Sv.tB, Sv.tAnd, Sv.tOr, Sv.tNot, Sv.tYes, Sv.aNil, Sv.aCons, Sv.aStar, Sv.cCall, Sv.cTup, Sv.cLst, Sv.cSl, Sv.cMeth, Sv.sSetIx, Sv.sPar2, Sv.sPar3, Sv.sAsg, Sv.sAug, Sv.hold, Sv.slot, Sv.outF, Sv.argsB, Sv.slotsOf, Sv.back, Sv.rds, Sv.datas, Sv.gN, Sv.gT, Sv.gL, Sv.gRun, Sv.cFn, Sv.fnD, Sv.sRaise, Sv.R.bind, Sv.R.opt, Sv.R.toS, Sv.RS.seq, Sv.Hd.rd, Sv.B.rd, Sv.toP, Sv.eqP, Sv.neP, Sv.one, Sv.two, Sv.getP, Sv.lenP, Sv.addP, Sv.subP, Sv.mulP, Sv.mulQ, Sv.fdivP, Sv.modP, Sv.powP, Sv.intP, Sv.absP, Sv.max2P, Sv.min2P, Sv.negP, Sv.augAdd, Sv.setD, Sv.mAppend, Sv.ltB, Sv.gtB, Sv.leB, Sv.geB, Sv.ordB, Sv.small64, Sv.isP, Sv.wSeq, Sv.wRange1, Sv.sFor, hp]
    have k2 : compL [2] (gN 2) tYes (ce_written_names_0 F) ((g p).map .str) [some (.d v), some (.d p), none] = .ok ((g p).map .str) [some (.d v), some (.d p), none] := by
      refine compL_map rfl _ fun x hx => ?_
      simp [ce_written_names_0, Sv.sNil, Sv.sCons, Sv.sPass, Sv.sBreak, Sv.sCont, Sv.sExpr, Sv.put, Sv.sSet, Sv.sRet, Sv.sRetN, Sv.sIf, Sv.cVar, Sv.cK, Sv.cE, Sv.cP, Sv.cOp, Sv.cUn, Sv.cChain, Sv.cIf, Sv.cAnd, Sv.cOr, Sv.cNot, Sv.tB, Sv.tAnd, Sv.tOr, Sv.tNot, Sv.tYes, Sv.aNil, Sv.aCons, Sv.aStar, Sv.cCall, Sv.cTup, Sv.cLst, Sv.cSl, Sv.cMeth, Sv.sSetIx, Sv.sPar2, Sv.sPar3, Sv.sAsg, Sv.sAug, Sv.hold, Sv.slot, Sv.outF, Sv.argsB, Sv.slotsOf, Sv.back, Sv.rds, Sv.datas, Sv.gN, Sv.gT, Sv.gL, Sv.gRun, Sv.cFn, Sv.fnD, Sv.sRaise, Sv.R.bind, Sv.R.opt, Sv.R.toS, Sv.RS.seq, Sv.Hd.rd, Sv.B.rd, Sv.toP, Sv.eqP, Sv.neP, Sv.one, Sv.two, Sv.getP, Sv.lenP, Sv.addP, Sv.subP, Sv.mulP, Sv.mulQ, Sv.fdivP, Sv.modP, Sv.powP, Sv.intP, Sv.absP, Sv.max2P, Sv.min2P, Sv.negP, Sv.augAdd, Sv.setD, Sv.mAppend, Sv.ltB, Sv.gtB, Sv.leB, Sv.geB, Sv.ordB, Sv.small64, Sv.isP, Sv.wSeq, Sv.wRange1, Sv.sFor]
    have k0 : gN 1 p [some (.d v), none, none] = .nx [some (.d v), some (.d p), none] := rfl
    rw [comp2L, k0]
    simp only [k1, wipeE, List.set_cons_succ, List.set_cons_zero, k2, ih, List.flatMap_cons, List.map_append]
theorem ttGo_mem {f : PyData → Option N3} : ∀ {ps : List PyData} {s t : N3}, ttGo f ps s = some t → ∀ p ∈ ps, ∃ u, f p = some u ∧ s.1 + u.1 ≤ t.1 ∧ s.2.1 + u.2.1 ≤ t.2.1
  | q :: ps, s, t, h, p, hp => by
    rw [ttGo] at h
    cases e : f q with
    | none => rw [e] at h; cases h
    | some u =>
      rw [e] at h
      rcases List.mem_cons.mp hp with rfl | hp
      · have := ttGo_ge ps _ _ h
        simp only at this
        exact ⟨u, e, by omega, by omega⟩
      · obtain ⟨u', e', h1, h2⟩ := ttGo_mem h p hp
        simp only at h1 h2
        exact ⟨u', e', by omega, by omega⟩
theorem nm_str {v : PyData} (h : isNm v = true) : ∃ x, v = .str x ∧ nmS x = true := by
  cases v with
  | str x => exact ⟨x, rfl, h⟩
  | _ => cases h
/-- what is well formed: a name, or a front and its parts -/
theorem tt_cases {n : Nat} {v : PyData} {t : N3} (h : tt n v = some t) : (∃ x, v = .str x ∧ nmS x = true ∧ t = (1, 0, 0)) ∨ ∃ m x ps, n = m + 1 ∧ v = .tuple (.str x :: ps) ∧ isFr x ps.length = true ∧ isNm v = false ∧ ttGo (tt m) ps (0, 1, 1) = some t := by
  cases n with
  | zero =>
    rw [tt] at h
    split at h
    · rename_i hn
      obtain ⟨x, e, k⟩ := nm_str hn
      cases h
      exact .inl ⟨x, e, k, rfl⟩
    · cases h
  | succ m =>
    rw [tt] at h
    split at h
    · rename_i hn
      obtain ⟨x, e, k⟩ := nm_str hn
      cases h
      exact .inl ⟨x, e, k, rfl⟩
    · rename_i hn
      split at h
      · rename_i hf
        obtain ⟨x, ps, ev, ep⟩ := front_shape hf
        rw [ep] at h
        subst ev
        exact .inr ⟨m, x, ps, rfl, rfl, hf, by simpa using hn, h⟩
      · cases h
theorem wr_len : ∀ (n : Nat) (v : PyData) (t : N3), tt n v = some t → (wr n v).length = t.1 := by
  intro n
  induction n with
  | zero =>
    intro v t h
    rcases tt_cases h with ⟨x, rfl, _, rfl⟩ | ⟨m, x, ps, hm, _⟩
    · rfl
    · omega
  | succ n ih =>
    intro v t h
    rcases tt_cases h with ⟨x, rfl, _, rfl⟩ | ⟨m, x, ps, hm, rfl, _, _, k⟩
    · rfl
    · obtain rfl : n = m := by omega
      have go : ∀ (ps : List PyData) (s : N3), ttGo (tt n) ps s = some t → s.1 + (ps.flatMap (wr n)).length = t.1 := fun ps => by
        induction ps with
        | nil => intro s h; cases h; simp
        | cons p ps ihp =>
          intro s h
          rw [ttGo] at h
          cases e : tt n p with
          | none => rw [e] at h; cases h
          | some u =>
            rw [e] at h
            have := ihp _ h
            have := ih p u e
            simp only [List.flatMap_cons, List.length_append] at *
            omega
      have := go ps _ k
      simpa [wr] using this
theorem written_names_spec : ∀ (n fuel : Nat) (v : PyData) (t : N3), tt n v = some t → t.1 ≤ 12 → n < fuel → d_written_names fuel [.d v] = .ok (.l ((wr n v).map .str)) [some (.d v)]
  | n, 0, v, t, _, _, h => by omega
  | n, fuel + 1, v, t, h, h12, hf => by
    have z1 : 1 ≤ sizeLine := by rw [sizeLine_eq]; decide
    have hl := wr_len n v t h
    rcases tt_cases h with ⟨x, rfl, _, rfl⟩ | ⟨m, x, ps, rfl, rfl, _, _, k⟩
    · simp [d_written_names, Sv.sNil, Sv.sCons, Sv.sPass, Sv.sBreak, Sv.sCont, Sv.sExpr, Sv.put, Sv.sSet, Sv.sRet, Sv.sRetN, Sv.sIf, Sv.cVar, Sv.cK, Sv.cE, Sv.cP, Sv.cOp, Sv.cUn, Sv.cChain, Sv.cIf, Sv.cAnd, Sv.cOr, Sv.cNot, Sv.tB, Sv.tAnd, Sv.tOr, Sv.tNot, Sv.tYes, Sv.aNil, Sv.aCons, Sv.aStar, Sv.cCall, Sv.cTup, Sv.cLst, Sv.cSl, Sv.cMeth, Sv.sSetIx, Sv.sPar2, Sv.sPar3, Sv.sAsg, Sv.sAug, Sv.hold, Sv.slot, Sv.outF, Sv.argsB, Sv.slotsOf, Sv.back, Sv.rds, Sv.datas, Sv.gN, Sv.gT, Sv.gL, Sv.gRun, Sv.cFn, Sv.fnD, Sv.sRaise, Sv.R.bind, Sv.R.opt, Sv.R.toS, Sv.RS.seq, Sv.Hd.rd, Sv.B.rd, Sv.toP, Sv.eqP, Sv.neP, Sv.one, Sv.two, Sv.getP, Sv.lenP, Sv.addP, Sv.subP, Sv.mulP, Sv.mulQ, Sv.fdivP, Sv.modP, Sv.powP, Sv.intP, Sv.absP, Sv.max2P, Sv.min2P, Sv.negP, Sv.augAdd, Sv.setD, Sv.mAppend, Sv.ltB, Sv.gtB, Sv.leB, Sv.geB, Sv.ordB, Sv.small64, Sv.isP, Sv.wSeq, Sv.wRange1, Sv.sFor, isStr, z1, wr]
    · have sub : ∀ p ∈ ps, ∃ o, d_written_names fuel [.d p] = .ok (.l ((wr m p).map .str)) [o] := fun p hp => by
        obtain ⟨u, e, h1, _⟩ := ttGo_mem k p hp
        exact ⟨_, written_names_spec m fuel p u e (by simp only at h1; omega) (by omega)⟩
      have kk := w2L (v := .tuple (.str x :: ps)) ps sub
      have zl : (ps.flatMap (wr m)).length ≤ sizeLine := by
        have : (ps.flatMap (wr m)).length = t.1 := by simpa [wr] using hl
        rw [this, sizeLine_eq]
        omega
      have zl2 : ((ps.flatMap (wr m)).map PyData.str).length ≤ sizeLine := by rw [List.length_map]; exact zl
      simp [-List.length_flatMap, d_written_names, Sv.sNil, Sv.sCons, Sv.sPass, Sv.sBreak, Sv.sCont, Sv.sExpr, Sv.put, Sv.sSet, Sv.sRet, Sv.sRetN, Sv.sIf, Sv.cVar, Sv.cK, Sv.cE, Sv.cP, Sv.cOp, Sv.cUn, Sv.cChain, Sv.cIf, Sv.cAnd, Sv.cOr, Sv.cNot, Sv.tB, Sv.tAnd, Sv.tOr, Sv.tNot, Sv.tYes, Sv.aNil, Sv.aCons, Sv.aStar, Sv.cCall, Sv.cTup, Sv.cLst, Sv.cSl, Sv.cMeth, Sv.sSetIx, Sv.sPar2, Sv.sPar3, Sv.sAsg, Sv.sAug, Sv.hold, Sv.slot, Sv.outF, Sv.argsB, Sv.slotsOf, Sv.back, Sv.rds, Sv.datas, Sv.gN, Sv.gT, Sv.gL, Sv.gRun, Sv.cFn, Sv.fnD, Sv.sRaise, Sv.R.bind, Sv.R.opt, Sv.R.toS, Sv.RS.seq, Sv.Hd.rd, Sv.B.rd, Sv.toP, Sv.eqP, Sv.neP, Sv.one, Sv.two, Sv.getP, Sv.lenP, Sv.addP, Sv.subP, Sv.mulP, Sv.mulQ, Sv.fdivP, Sv.modP, Sv.powP, Sv.intP, Sv.absP, Sv.max2P, Sv.min2P, Sv.negP, Sv.augAdd, Sv.setD, Sv.mAppend, Sv.ltB, Sv.gtB, Sv.leB, Sv.geB, Sv.ordB, Sv.small64, Sv.isP, Sv.wSeq, Sv.wRange1, Sv.sFor, isStr, cComp2, slP, cut1, wipeE, restE, kk, zl, wr]
theorem wLoop {F : Fn} {v : PyData} {g : PyData → List Str} : ∀ (ps : List PyData) (acc : List Str) (q : Option B), acc.length + (ps.flatMap g).length ≤ sizeLine → (∀ p ∈ ps, ∃ o, F [.d p] = .ok (.l ((g p).map .str)) [o]) →
    ∃ q', loopF (gN 2) (fb_written_0 F) ps [some (.d v), some (.l (acc.map .str)), q] = .nx [some (.d v), some (.l ((acc ++ ps.flatMap g).map .str)), q']
  | [], acc, q, _, _ => ⟨q, by simp [loopF]⟩
  | p :: ps, acc, q, hl, h => by
    obtain ⟨o, hp⟩ := h p List.mem_cons_self
    rw [List.flatMap_cons, List.length_append] at hl
    have z : acc.length + (g p).length ≤ sizeLine := by omega
    have k : fb_written_0 F [some (.d v), some (.l (acc.map .str)), some (.d p)] = .nx [some (.d v), some (.l ((acc ++ g p).map .str)), some (.d p)] := by
      simp [fb_written_0, Sv.sNil, Sv.sCons, Sv.sPass, Sv.sBreak, Sv.sCont, Sv.sExpr, Sv.put, Sv.sSet, Sv.sRet, Sv.sRetN, Sv.sIf, Sv.cVar, Sv.cK, Sv.cE, Sv.cP, Sv.cOp, Sv.cUn, Sv.cChain, Sv.cIf, Sv.cAnd, Sv.cOr, Sv.cNot, Sv.tB, Sv.tAnd, Sv.tOr, Sv.tNot, Sv.tYes, Sv.aNil, Sv.aCons, Sv.aStar, Sv.cCall, Sv.cTup, Sv.cLst, Sv.cSl, Sv.cMeth, Sv.sSetIx, Sv.sPar2, Sv.sPar3, Sv.sAsg, Sv.sAug, Sv.hold, Sv.slot, Sv.outF, Sv.argsB, Sv.slotsOf, Sv.back, Sv.rds, Sv.datas, Sv.gN, Sv.gT, Sv.gL, Sv.gRun, Sv.cFn, Sv.fnD, Sv.sRaise, Sv.R.bind, Sv.R.opt, Sv.R.toS, Sv.RS.seq, Sv.Hd.rd, Sv.B.rd, Sv.toP, Sv.eqP, Sv.neP, Sv.one, Sv.two, Sv.getP, Sv.lenP, Sv.addP, Sv.subP, Sv.mulP, Sv.mulQ, Sv.fdivP, Sv.modP, Sv.powP, Sv.intP, Sv.absP, Sv.max2P, Sv.min2P, Sv.negP, Sv.augAdd, Sv.setD, Sv.mAppend, Sv.ltB, Sv.gtB, Sv.leB, Sv.geB, Sv.ordB, Sv.small64, Sv.isP, Sv.wSeq, Sv.wRange1, Sv.sFor, hp, mExtend, z]
    obtain ⟨q', ih⟩ := wLoop (v := v) ps (acc ++ g p) (some (.d p)) (by rw [List.length_append]; omega) fun q hq => h q (List.mem_cons_of_mem _ hq)
    refine ⟨q', ?_⟩
    have k0 : (gN 2 p [some (.d v), some (.l (acc.map .str)), q]).seq (fb_written_0 F) = .nx [some (.d v), some (.l ((acc ++ g p).map .str)), some (.d p)] := k
    rw [loopF, k0]
    simp only [ih, List.flatMap_cons, List.append_assoc]
theorem written_spec : ∀ (n fuel : Nat) (v : PyData) (t : N3), tt n v = some t → t.1 ≤ 12 → n < fuel → d_written fuel [.d v] = .ok (.l ((wr n v).map .str)) [some (.d v)]
  | n, 0, v, t, _, _, h => by omega
  | n, fuel + 1, v, t, h, h12, hf => by
    have z1 : 1 ≤ sizeLine := by rw [sizeLine_eq]; decide
    have hl := wr_len n v t h
    rcases tt_cases h with ⟨x, rfl, _, rfl⟩ | ⟨m, x, ps, rfl, rfl, _, _, k⟩
    · simp [d_written, Sv.sNil, Sv.sCons, Sv.sPass, Sv.sBreak, Sv.sCont, Sv.sExpr, Sv.put, Sv.sSet, Sv.sRet, Sv.sRetN, Sv.sIf, Sv.cVar, Sv.cK, Sv.cE, Sv.cP, Sv.cOp, Sv.cUn, Sv.cChain, Sv.cIf, Sv.cAnd, Sv.cOr, Sv.cNot, Sv.tB, Sv.tAnd, Sv.tOr, Sv.tNot, Sv.tYes, Sv.aNil, Sv.aCons, Sv.aStar, Sv.cCall, Sv.cTup, Sv.cLst, Sv.cSl, Sv.cMeth, Sv.sSetIx, Sv.sPar2, Sv.sPar3, Sv.sAsg, Sv.sAug, Sv.hold, Sv.slot, Sv.outF, Sv.argsB, Sv.slotsOf, Sv.back, Sv.rds, Sv.datas, Sv.gN, Sv.gT, Sv.gL, Sv.gRun, Sv.cFn, Sv.fnD, Sv.sRaise, Sv.R.bind, Sv.R.opt, Sv.R.toS, Sv.RS.seq, Sv.Hd.rd, Sv.B.rd, Sv.toP, Sv.eqP, Sv.neP, Sv.one, Sv.two, Sv.getP, Sv.lenP, Sv.addP, Sv.subP, Sv.mulP, Sv.mulQ, Sv.fdivP, Sv.modP, Sv.powP, Sv.intP, Sv.absP, Sv.max2P, Sv.min2P, Sv.negP, Sv.augAdd, Sv.setD, Sv.mAppend, Sv.ltB, Sv.gtB, Sv.leB, Sv.geB, Sv.ordB, Sv.small64, Sv.isP, Sv.wSeq, Sv.wRange1, Sv.sFor, isStr, z1, wr]
    · have sub : ∀ p ∈ ps, ∃ o, d_written fuel [.d p] = .ok (.l ((wr m p).map .str)) [o] := fun p hp => by
        obtain ⟨u, e, h1, _⟩ := ttGo_mem k p hp
        exact ⟨_, written_spec m fuel p u e (by simp only at h1; omega) (by omega)⟩
      have zl : ([] : List Str).length + (ps.flatMap (wr m)).length ≤ sizeLine := by
        have : (ps.flatMap (wr m)).length = t.1 := by simpa [wr] using hl
        rw [this, sizeLine_eq]
        simp only [List.length_nil]
        omega
      obtain ⟨q', kk⟩ := wLoop (v := .tuple (.str x :: ps)) ps [] none zl sub
      simp only [List.map_nil, List.nil_append] at kk
      simp [d_written, Sv.sNil, Sv.sCons, Sv.sPass, Sv.sBreak, Sv.sCont, Sv.sExpr, Sv.put, Sv.sSet, Sv.sRet, Sv.sRetN, Sv.sIf, Sv.cVar, Sv.cK, Sv.cE, Sv.cP, Sv.cOp, Sv.cUn, Sv.cChain, Sv.cIf, Sv.cAnd, Sv.cOr, Sv.cNot, Sv.tB, Sv.tAnd, Sv.tOr, Sv.tNot, Sv.tYes, Sv.aNil, Sv.aCons, Sv.aStar, Sv.cCall, Sv.cTup, Sv.cLst, Sv.cSl, Sv.cMeth, Sv.sSetIx, Sv.sPar2, Sv.sPar3, Sv.sAsg, Sv.sAug, Sv.hold, Sv.slot, Sv.outF, Sv.argsB, Sv.slotsOf, Sv.back, Sv.rds, Sv.datas, Sv.gN, Sv.gT, Sv.gL, Sv.gRun, Sv.cFn, Sv.fnD, Sv.sRaise, Sv.R.bind, Sv.R.opt, Sv.R.toS, Sv.RS.seq, Sv.Hd.rd, Sv.B.rd, Sv.toP, Sv.eqP, Sv.neP, Sv.one, Sv.two, Sv.getP, Sv.lenP, Sv.addP, Sv.subP, Sv.mulP, Sv.mulQ, Sv.fdivP, Sv.modP, Sv.powP, Sv.intP, Sv.absP, Sv.max2P, Sv.min2P, Sv.negP, Sv.augAdd, Sv.setD, Sv.mAppend, Sv.ltB, Sv.gtB, Sv.leB, Sv.geB, Sv.ordB, Sv.small64, Sv.isP, Sv.wSeq, Sv.wRange1, Sv.sFor, isStr, slP, cut1, kk, wr]
end K05
end
section
set_option autoImplicit false
set_option linter.all false
set_option maxRecDepth 100000
namespace K05
open PySem Sv

/-! ### the text -/
def txt : Nat → PyData → Str
  | _, .str x => x
  | n + 1, .tuple (.str w :: ps) => Str.ofString "(" ++ Txt.join (Str.ofString " ") (w :: ps.map (txt n)) ++ Str.ofString ")"
  | _, _ => Str.empty
theorem strs_map : ∀ ks : List Str, Sv.strsOf (ks.map .str) = some ks
  | [] => rfl
  | k :: r => by rw [List.map_cons, Sv.strsOf, strs_map r]; rfl
theorem app_cps (a b : Str) : (a ++ b).cps.toList = a.cps.toList ++ b.cps.toList := by
  show (a.cps ++ b.cps).toList = _
  simp
theorem join_cps : ∀ (w : Str) (ts : List Str), (Txt.join (Str.ofString " ") (w :: ts)).cps.toList = w.cps.toList ++ ts.flatMap fun t => 32 :: t.cps.toList := by
  have key : ∀ (ts : List Str) (w : Str), (Str.join (Str.ofString " ") (w :: ts)).cps.toList = w.cps.toList ++ ts.flatMap fun t => 32 :: t.cps.toList := fun ts => by
    induction ts with
    | nil => intro w; show w.cps.toList = _; simp
    | cons t r ih =>
      intro w
      show (w ++ Str.ofString " " ++ Str.join (Str.ofString " ") (t :: r)).cps.toList = _
      rw [app_cps, app_cps, ih t, List.flatMap_cons]
      have e : (Str.ofString " ").cps.toList = [32] := by decide
      rw [e]
      simp
  intro w ts
  show (PySem.Txt.join _ _).cps.toList = _
  unfold Txt.join
  rw [StrLaws.glued_eq_join]
  exact key ts w
theorem txt_cps (n : Nat) (w : Str) (ps : List PyData) : (txt (n + 1) (.tuple (.str w :: ps))).cps.toList = 40 :: (w.cps.toList ++ ps.flatMap (fun p => 32 :: (txt n p).cps.toList) ++ [41]) := by
  rw [txt, app_cps, app_cps, join_cps, List.flatMap_map]
  have e1 : (Str.ofString "(").cps.toList = [40] := by decide
  have e2 : (Str.ofString ")").cps.toList = [41] := by decide
  rw [e1, e2]
  simp
theorem len_cps (x : Str) : x.length = x.cps.toList.length := by simp [Str.length]
theorem fr_len {x : Str} {n : Nat} (h : isFr x n = true) : x.length ≤ 5 := by
  unfold isFr at h
  simp only [Bool.or_eq_true, Bool.and_eq_true, decide_eq_true_eq] at h
  rcases h with (rfl | rfl) | ⟨(rfl | rfl) | rfl, _⟩ <;> decide
theorem nm_len {x : Str} (h : nmS x = true) : 1 ≤ x.length ∧ x.length ≤ 8 := by
  unfold nmS at h
  simp only [Bool.and_eq_true, decide_eq_true_eq] at h
  exact ⟨h.1, h.2.1⟩
theorem txt_len : ∀ (n : Nat) (v : PyData) (t : N3), tt n v = some t → (txt n v).length + 1 ≤ 9 * t.1 + 8 * t.2.1 := by
  intro n
  induction n with
  | zero =>
    intro v t h
    rcases tt_cases h with ⟨x, rfl, k, rfl⟩ | ⟨m, x, ps, hm, _⟩
    · have := nm_len k
      show x.length + 1 ≤ _
      omega
    · omega
  | succ n ih =>
    intro v t h
    rcases tt_cases h with ⟨x, rfl, k, rfl⟩ | ⟨m, x, ps, hm, rfl, fr, _, k⟩
    · have := nm_len k
      show x.length + 1 ≤ _
      omega
    · obtain rfl : n = m := by omega
      have go : ∀ (ps : List PyData) (s : N3), ttGo (tt n) ps s = some t → 9 * s.1 + 8 * s.2.1 + (ps.flatMap (fun p => 32 :: (txt n p).cps.toList)).length ≤ 9 * t.1 + 8 * t.2.1 := fun ps => by
        induction ps with
        | nil => intro s h; cases h; simp
        | cons p ps ihp =>
          intro s h
          rw [ttGo] at h
          cases e : tt n p with
          | none => rw [e] at h; cases h
          | some u =>
            rw [e] at h
            have a1 := ihp _ h
            have a2 := ih p u e
            rw [len_cps] at a2
            rw [List.flatMap_cons, List.length_append, List.length_cons]
            simp only at a1
            omega
      have a1 := go ps _ k
      have a2 := fr_len fr
      rw [len_cps, txt_cps]
      rw [len_cps] at a2
      simp only [List.length_cons, List.length_append, List.length_nil]
      simp only at a1
      omega
theorem sum_len (ts : List Str) : (ts.map (·.length)).sum + ts.length = (ts.flatMap fun t => 32 :: t.cps.toList).length := by
  induction ts with
  | nil => rfl
  | cons t r ih =>
    rw [List.flatMap_cons, List.length_append, ← ih]
    have e := len_cps t
    simp only [List.map_cons, List.sum_cons, List.length_cons]
    omega
/-- the bounds that the joining asks -/
theorem txt_fits {n : Nat} {w : Str} {ps : List PyData} (h : (txt (n + 1) (.tuple (.str w :: ps))).length ≤ 100000) : ((w :: ps.map (txt n)).map (·.length)).sum + (w :: ps.map (txt n)).length * (Str.ofString " ").length ≤ 16777216 ∧
    (Str.ofString "(").length + (Txt.join (Str.ofString " ") (w :: ps.map (txt n))).length ≤ sizeLine ∧ (Str.ofString "(" ++ Txt.join (Str.ofString " ") (w :: ps.map (txt n))).length + (Str.ofString ")").length ≤ sizeLine ∧ 1 + ps.length ≤ sizeLine := by
  have e0 : (Str.ofString " ").length = 1 := by decide
  have e1 : (Str.ofString "(").length = 1 := by decide
  have e2 : (Str.ofString ")").length = 1 := by decide
  have e3 : (Str.ofString "(").cps.toList.length = 1 := by decide
  have j := congrArg List.length (join_cps w (ps.map (txt n)))
  rw [← len_cps, List.length_append, ← sum_len, ← len_cps] at j
  rw [len_cps, txt_cps] at h
  have s := sum_len (ps.map (txt n))
  rw [List.flatMap_map] at s
  simp only [List.length_cons, List.length_append, List.length_nil, ← len_cps] at h
  have l : (ps.map (txt n)).length = ps.length := List.length_map ..
  rw [e0, e1, e2, sizeLine_eq]
  have a : (Str.ofString "(" ++ Txt.join (Str.ofString " ") (w :: ps.map (txt n))).length = 1 + (Txt.join (Str.ofString " ") (w :: ps.map (txt n))).length := by
    rw [len_cps, app_cps, List.length_append, e3, ← len_cps]
  rw [a]
  simp only [List.map_cons, List.sum_cons, List.length_cons]
  have s' : ((ps.map (txt n)).map (·.length)).sum + (ps.map (txt n)).length = (ps.flatMap fun p => 32 :: (txt n p).cps.toList).length := s
  omega
theorem txt_sub {n : Nat} {w : Str} {ps : List PyData} (h : (txt (n + 1) (.tuple (.str w :: ps))).length ≤ 100000) : ∀ p ∈ ps, (txt n p).length ≤ 100000 := fun p hp => by
  rw [len_cps, txt_cps] at h
  have : ∀ qs : List PyData, p ∈ qs → (txt n p).cps.toList.length ≤ (qs.flatMap fun p => 32 :: (txt n p).cps.toList).length := fun qs => by
    induction qs with
    | nil => intro h; cases h
    | cons q r ih =>
      intro h
      rw [List.flatMap_cons, List.length_append, List.length_cons]
      rcases List.mem_cons.mp h with rfl | h
      · omega
      · have := ih h
        omega
  have := this ps hp
  simp only [List.length_cons, List.length_append, List.length_nil] at h
  rw [len_cps]
  omega
theorem dat_map : ∀ xs : List PyData, Sv.datas (xs.map fun x => Hd.v (B.d x)) = some xs
  | [] => rfl
  | x :: r => by rw [List.map_cons, Sv.datas, dat_map r]; rfl
theorem text_by_spec : ∀ (n fuel : Nat) (v : PyData) (t : N3), tt n v = some t → (txt n v).length ≤ 100000 → n < fuel → ∃ o, d_text_by fuel [.d v] = .ok (.d (.str (txt n v))) [o]
  | n, 0, v, t, _, _, h => by omega
  | n, fuel + 1, v, t, h, hl, hf => by
    rcases tt_cases h with ⟨x, rfl, _, rfl⟩ | ⟨m, x, ps, rfl, rfl, _, _, k⟩
    · have : txt n (.str x) = x := by cases n <;> rfl
      rw [this]
      refine ⟨none, ?_⟩
      simp [d_text_by, Sv.sNil, Sv.sCons, Sv.sPass, Sv.sBreak, Sv.sCont, Sv.sExpr, Sv.put, Sv.sSet, Sv.sRet, Sv.sRetN, Sv.sIf, Sv.cVar, Sv.cK, Sv.cE, Sv.cP, Sv.cOp, Sv.cUn, Sv.cChain, Sv.cIf, Sv.cAnd, Sv.cOr, Sv.cNot, Sv.tB, Sv.tAnd, Sv.tOr, Sv.tNot, Sv.tYes, Sv.aNil, Sv.aCons, Sv.aStar, Sv.cCall, Sv.cTup, Sv.cLst, Sv.cSl, Sv.cMeth, Sv.sSetIx, Sv.sPar2, Sv.sPar3, Sv.sAsg, Sv.sAug, Sv.hold, Sv.slot, Sv.outF, Sv.argsB, Sv.slotsOf, Sv.back, Sv.rds, Sv.datas, Sv.gN, Sv.gT, Sv.gL, Sv.gRun, Sv.cFn, Sv.fnD, Sv.sRaise, Sv.R.bind, Sv.R.opt, Sv.R.toS, Sv.RS.seq, Sv.Hd.rd, Sv.B.rd, Sv.toP, Sv.eqP, Sv.neP, Sv.one, Sv.two, Sv.getP, Sv.lenP, Sv.addP, Sv.subP, Sv.mulP, Sv.mulQ, Sv.fdivP, Sv.modP, Sv.powP, Sv.intP, Sv.absP, Sv.max2P, Sv.min2P, Sv.negP, Sv.augAdd, Sv.setD, Sv.mAppend, Sv.ltB, Sv.gtB, Sv.leB, Sv.geB, Sv.ordB, Sv.small64, Sv.isP, Sv.wSeq, Sv.wRange1, Sv.sFor, isStr]
    · obtain ⟨b1, b2, b3, b4⟩ := txt_fits hl
      have sub : compL [1] (gN 1) tYes (ce_text_by_0 (d_text_by fuel)) (ps.map id) [some (.d (.tuple (.str x :: ps))), none] = .ok (ps.map fun p => .str (txt m p)) [some (.d (.tuple (.str x :: ps))), none] := by
        refine compL_map rfl ps fun p hp => ?_
        obtain ⟨u, e, _, _⟩ := ttGo_mem k p hp
        obtain ⟨o, ih⟩ := text_by_spec m fuel p u e (txt_sub hl p hp) (by omega)
        simp [ce_text_by_0, Sv.sNil, Sv.sCons, Sv.sPass, Sv.sBreak, Sv.sCont, Sv.sExpr, Sv.put, Sv.sSet, Sv.sRet, Sv.sRetN, Sv.sIf, Sv.cVar, Sv.cK, Sv.cE, Sv.cP, Sv.cOp, Sv.cUn, Sv.cChain, Sv.cIf, Sv.cAnd, Sv.cOr, Sv.cNot, Sv.tB, Sv.tAnd, Sv.tOr, Sv.tNot, Sv.tYes, Sv.aNil, Sv.aCons, Sv.aStar, Sv.cCall, Sv.cTup, Sv.cLst, Sv.cSl, Sv.cMeth, Sv.sSetIx, Sv.sPar2, Sv.sPar3, Sv.sAsg, Sv.sAug, Sv.hold, Sv.slot, Sv.outF, Sv.argsB, Sv.slotsOf, Sv.back, Sv.rds, Sv.datas, Sv.gN, Sv.gT, Sv.gL, Sv.gRun, Sv.cFn, Sv.fnD, Sv.sRaise, Sv.R.bind, Sv.R.opt, Sv.R.toS, Sv.RS.seq, Sv.Hd.rd, Sv.B.rd, Sv.toP, Sv.eqP, Sv.neP, Sv.one, Sv.two, Sv.getP, Sv.lenP, Sv.addP, Sv.subP, Sv.mulP, Sv.mulQ, Sv.fdivP, Sv.modP, Sv.powP, Sv.intP, Sv.absP, Sv.max2P, Sv.min2P, Sv.negP, Sv.augAdd, Sv.setD, Sv.mAppend, Sv.ltB, Sv.gtB, Sv.leB, Sv.geB, Sv.ordB, Sv.small64, Sv.isP, Sv.wSeq, Sv.wRange1, Sv.sFor, ih]
      rw [List.map_id] at sub
      have zl : ps.length ≤ sizeLine := by omega
      have em : (ps.map fun p => PyData.str (txt m p)) = (ps.map (txt m)).map .str := by rw [List.map_map]; rfl
      rw [em] at sub
      have sm := strs_map (x :: ps.map (txt m))
      rw [List.map_cons] at sm
      have b4' : ps.length + 1 ≤ sizeLine := by omega
      have dm := dat_map ((ps.map (txt m)).map .str)
      have jj : joinP (Str.ofString " ") (.list (.str x :: (ps.map (txt m)).map .str)) = some (.d (.str (Txt.join (Str.ofString " ") (x :: ps.map (txt m))))) := by
        simp only [joinP, sm, Option.bind_some, joinL]
        rw [if_pos b1]
      rw [txt]
      refine ⟨some (.d (.tuple (.str x :: ps))), ?_⟩
      generalize hz : (ps.map (txt m)).map PyData.str = zs at sub dm jj
      have lz : zs.length = ps.length := by rw [← hz, List.length_map, List.length_map]
      simp [d_text_by, Sv.sNil, Sv.sCons, Sv.sPass, Sv.sBreak, Sv.sCont, Sv.sExpr, Sv.put, Sv.sSet, Sv.sRet, Sv.sRetN, Sv.sIf, Sv.cVar, Sv.cK, Sv.cE, Sv.cP, Sv.cOp, Sv.cUn, Sv.cChain, Sv.cIf, Sv.cAnd, Sv.cOr, Sv.cNot, Sv.tB, Sv.tAnd, Sv.tOr, Sv.tNot, Sv.tYes, Sv.aNil, Sv.aCons, Sv.aStar, Sv.cCall, Sv.cTup, Sv.cLst, Sv.cSl, Sv.cMeth, Sv.sSetIx, Sv.sPar2, Sv.sPar3, Sv.sAsg, Sv.sAug, Sv.hold, Sv.slot, Sv.outF, Sv.argsB, Sv.slotsOf, Sv.back, Sv.rds, Sv.datas, Sv.gN, Sv.gT, Sv.gL, Sv.gRun, Sv.cFn, Sv.fnD, Sv.sRaise, Sv.R.bind, Sv.R.opt, Sv.R.toS, Sv.RS.seq, Sv.Hd.rd, Sv.B.rd, Sv.toP, Sv.eqP, Sv.neP, Sv.one, Sv.two, Sv.getP, Sv.lenP, Sv.addP, Sv.subP, Sv.mulP, Sv.mulQ, Sv.fdivP, Sv.modP, Sv.powP, Sv.intP, Sv.absP, Sv.max2P, Sv.min2P, Sv.negP, Sv.augAdd, Sv.setD, Sv.mAppend, Sv.ltB, Sv.gtB, Sv.leB, Sv.geB, Sv.ordB, Sv.small64, Sv.isP, Sv.wSeq, Sv.wRange1, Sv.sFor, isStr, at0, cComp, slP, cut1, wipeE, restE, zl, sub, itemsX, dm, lz, b4', jj, b2, b3]
theorem text_spec : ∀ (n fuel : Nat) (v : PyData) (t : N3), tt n v = some t → (txt n v).length ≤ 100000 → n < fuel → ∃ o, d_text fuel [.d v] = .ok (.d (.str (txt n v))) [o]
  | n, 0, v, t, _, _, h => by omega
  | n, fuel + 1, v, t, h, hl, hf => by
    rcases tt_cases h with ⟨x, rfl, _, rfl⟩ | ⟨m, x, ps, rfl, rfl, _, _, k⟩
    · have : txt n (.str x) = x := by cases n <;> rfl
      rw [this]
      refine ⟨none, ?_⟩
      simp [d_text, Sv.sNil, Sv.sCons, Sv.sPass, Sv.sBreak, Sv.sCont, Sv.sExpr, Sv.put, Sv.sSet, Sv.sRet, Sv.sRetN, Sv.sIf, Sv.cVar, Sv.cK, Sv.cE, Sv.cP, Sv.cOp, Sv.cUn, Sv.cChain, Sv.cIf, Sv.cAnd, Sv.cOr, Sv.cNot, Sv.tB, Sv.tAnd, Sv.tOr, Sv.tNot, Sv.tYes, Sv.aNil, Sv.aCons, Sv.aStar, Sv.cCall, Sv.cTup, Sv.cLst, Sv.cSl, Sv.cMeth, Sv.sSetIx, Sv.sPar2, Sv.sPar3, Sv.sAsg, Sv.sAug, Sv.hold, Sv.slot, Sv.outF, Sv.argsB, Sv.slotsOf, Sv.back, Sv.rds, Sv.datas, Sv.gN, Sv.gT, Sv.gL, Sv.gRun, Sv.cFn, Sv.fnD, Sv.sRaise, Sv.R.bind, Sv.R.opt, Sv.R.toS, Sv.RS.seq, Sv.Hd.rd, Sv.B.rd, Sv.toP, Sv.eqP, Sv.neP, Sv.one, Sv.two, Sv.getP, Sv.lenP, Sv.addP, Sv.subP, Sv.mulP, Sv.mulQ, Sv.fdivP, Sv.modP, Sv.powP, Sv.intP, Sv.absP, Sv.max2P, Sv.min2P, Sv.negP, Sv.augAdd, Sv.setD, Sv.mAppend, Sv.ltB, Sv.gtB, Sv.leB, Sv.geB, Sv.ordB, Sv.small64, Sv.isP, Sv.wSeq, Sv.wRange1, Sv.sFor, isStr]
    · obtain ⟨b1, b2, b3, b4⟩ := txt_fits hl
      have sub : compL [1] (gN 1) tYes (ce_text_0 (d_text fuel)) (ps.map id) [some (.d (.tuple (.str x :: ps))), none] = .ok (ps.map fun p => .str (txt m p)) [some (.d (.tuple (.str x :: ps))), none] := by
        refine compL_map rfl ps fun p hp => ?_
        obtain ⟨u, e, _, _⟩ := ttGo_mem k p hp
        obtain ⟨o, ih⟩ := text_spec m fuel p u e (txt_sub hl p hp) (by omega)
        simp [ce_text_0, Sv.sNil, Sv.sCons, Sv.sPass, Sv.sBreak, Sv.sCont, Sv.sExpr, Sv.put, Sv.sSet, Sv.sRet, Sv.sRetN, Sv.sIf, Sv.cVar, Sv.cK, Sv.cE, Sv.cP, Sv.cOp, Sv.cUn, Sv.cChain, Sv.cIf, Sv.cAnd, Sv.cOr, Sv.cNot, Sv.tB, Sv.tAnd, Sv.tOr, Sv.tNot, Sv.tYes, Sv.aNil, Sv.aCons, Sv.aStar, Sv.cCall, Sv.cTup, Sv.cLst, Sv.cSl, Sv.cMeth, Sv.sSetIx, Sv.sPar2, Sv.sPar3, Sv.sAsg, Sv.sAug, Sv.hold, Sv.slot, Sv.outF, Sv.argsB, Sv.slotsOf, Sv.back, Sv.rds, Sv.datas, Sv.gN, Sv.gT, Sv.gL, Sv.gRun, Sv.cFn, Sv.fnD, Sv.sRaise, Sv.R.bind, Sv.R.opt, Sv.R.toS, Sv.RS.seq, Sv.Hd.rd, Sv.B.rd, Sv.toP, Sv.eqP, Sv.neP, Sv.one, Sv.two, Sv.getP, Sv.lenP, Sv.addP, Sv.subP, Sv.mulP, Sv.mulQ, Sv.fdivP, Sv.modP, Sv.powP, Sv.intP, Sv.absP, Sv.max2P, Sv.min2P, Sv.negP, Sv.augAdd, Sv.setD, Sv.mAppend, Sv.ltB, Sv.gtB, Sv.leB, Sv.geB, Sv.ordB, Sv.small64, Sv.isP, Sv.wSeq, Sv.wRange1, Sv.sFor, ih]
      rw [List.map_id] at sub
      have zl : ps.length ≤ sizeLine := by omega
      have em : (ps.map fun p => PyData.str (txt m p)) = (ps.map (txt m)).map .str := by rw [List.map_map]; rfl
      rw [em] at sub
      have sm := strs_map (x :: ps.map (txt m))
      rw [List.map_cons] at sm
      have jj : joinP (Str.ofString " ") (.list (.str x :: (ps.map (txt m)).map .str)) = some (.d (.str (Txt.join (Str.ofString " ") (x :: ps.map (txt m))))) := by
        simp only [joinP, sm, Option.bind_some, joinL]
        rw [if_pos b1]
      rw [txt]
      refine ⟨some (.d (.tuple (.str x :: ps))), ?_⟩
      generalize hz : (ps.map (txt m)).map PyData.str = zs at sub jj
      have lz : zs.length = ps.length := by rw [← hz, List.length_map, List.length_map]
      have z1 : 1 ≤ sizeLine := by omega
      simp [d_text, Sv.sNil, Sv.sCons, Sv.sPass, Sv.sBreak, Sv.sCont, Sv.sExpr, Sv.put, Sv.sSet, Sv.sRet, Sv.sRetN, Sv.sIf, Sv.cVar, Sv.cK, Sv.cE, Sv.cP, Sv.cOp, Sv.cUn, Sv.cChain, Sv.cIf, Sv.cAnd, Sv.cOr, Sv.cNot, Sv.tB, Sv.tAnd, Sv.tOr, Sv.tNot, Sv.tYes, Sv.aNil, Sv.aCons, Sv.aStar, Sv.cCall, Sv.cTup, Sv.cLst, Sv.cSl, Sv.cMeth, Sv.sSetIx, Sv.sPar2, Sv.sPar3, Sv.sAsg, Sv.sAug, Sv.hold, Sv.slot, Sv.outF, Sv.argsB, Sv.slotsOf, Sv.back, Sv.rds, Sv.datas, Sv.gN, Sv.gT, Sv.gL, Sv.gRun, Sv.cFn, Sv.fnD, Sv.sRaise, Sv.R.bind, Sv.R.opt, Sv.R.toS, Sv.RS.seq, Sv.Hd.rd, Sv.B.rd, Sv.toP, Sv.eqP, Sv.neP, Sv.one, Sv.two, Sv.getP, Sv.lenP, Sv.addP, Sv.subP, Sv.mulP, Sv.mulQ, Sv.fdivP, Sv.modP, Sv.powP, Sv.intP, Sv.absP, Sv.max2P, Sv.min2P, Sv.negP, Sv.augAdd, Sv.setD, Sv.mAppend, Sv.ltB, Sv.gtB, Sv.leB, Sv.geB, Sv.ordB, Sv.small64, Sv.isP, Sv.wSeq, Sv.wRange1, Sv.sFor, isStr, at0, cComp, slP, cut1, wipeE, restE, zl, sub, lz, b4, z1, jj, b2, b3]
end K05
end
section
set_option autoImplicit false
set_option linter.all false
set_option maxRecDepth 100000
namespace K05
open PySem Sv

/-! ### reading: places in a text -/
def strOf (l : List Nat) : Str := ⟨l.toArray⟩
theorem strOf_cps (l : List Nat) : (strOf l).cps.toList = l := rfl
theorem strOf_self (x : Str) : strOf x.cps.toList = x := by
  obtain ⟨a⟩ := x
  simp [strOf]
theorem strOf_len (l : List Nat) : (strOf l).length = l.length := by simp [strOf, Str.length]
def lw (l : List Nat) : List Nat := l.takeWhile isL
def ld (l : List Nat) : List Nat := l.dropWhile isL
theorem lw_ld (l : List Nat) : lw l ++ ld l = l := List.takeWhile_append_dropWhile
theorem ld_suf (l : List Nat) : ld l <:+ l := List.dropWhile_suffix _
theorem slice_nat (x : Str) (i j : Nat) : Txt.slice x (some (i : Int)) (some (j : Int)) = strOf ((x.cps.toList.drop i).take (j - i)) := by
  show StrLaws.sliceText x _ _ = _
  rw [L2.sliceText_cut]
  unfold L2.cutS strOf
  have hl : x.length = x.cps.toList.length := len_cps x
  rw [HT.sIx_nat, HT.sIx_nat, hl]
  congr 2
  by_cases h : i ≤ x.cps.toList.length
  · rw [Nat.min_eq_left h]
    by_cases h2 : j ≤ x.cps.toList.length
    · rw [Nat.min_eq_left h2]
    · rw [Nat.min_eq_right (by omega), List.take_of_length_le (by rw [List.length_drop]; omega), List.take_of_length_le (by rw [List.length_drop]; omega)]
  · have e1 : x.cps.toList.drop (min i x.cps.toList.length) = [] := List.drop_of_length_le (by omega)
    have e2 : x.cps.toList.drop i = [] := List.drop_of_length_le (by omega)
    rw [e1, e2, List.take_nil, List.take_nil]
/-- the place of what is left -/
def pos (T l : List Nat) : Int := ((T.length - l.length : Nat) : Int)
theorem suf_drop {T l : List Nat} (h : l <:+ T) : T.drop (T.length - l.length) = l := (List.suffix_iff_eq_drop.mp h).symm
theorem suf_len {T l : List Nat} (h : l <:+ T) : l.length ≤ T.length := h.length_le
theorem suf_at {T r : List Nat} {c : Nat} (h : c :: r <:+ T) : T[T.length - (c :: r).length]? = some c := by
  have e := suf_drop h
  have : (T.drop (T.length - (c :: r).length))[0]? = some c := by rw [e]; rfl
  rw [List.getElem?_drop] at this
  simpa using this
theorem suf_tail {T r : List Nat} {c : Nat} (h : c :: r <:+ T) : r <:+ T := (List.suffix_cons c r).trans h
theorem pos_tail {T r : List Nat} {c : Nat} (h : c :: r <:+ T) : pos T (c :: r) + 1 = pos T r := by
  have := suf_len h
  unfold pos
  simp only [List.length_cons] at *
  omega
theorem atI_nat {α : Type} (xs : List α) (i : Nat) (a : α) (h : xs[i]? = some a) : L2.atI xs (i : Int) = some a := by
  have hi := (List.getElem?_eq_some_iff.mp h).1
  unfold L2.atI L2.ixN
  rw [if_pos (by omega), if_pos (by omega), Int.toNat_natCast]
  exact h
section
variable {x : Str} {a : Option B}
theorem lt1 (hx : x.length ≤ sizeLine) {l : List Nat} (h : l <:+ x.cps.toList) : wt_letters_from_0 [some (.d (.str x)), a, some (.d (.int (pos x.cps.toList l)))] = .ok (match l with | c :: _ => isL c | [] => false) [some (.d (.str x)), a, some (.d (.int (pos x.cps.toList l)))] := by
  have hl := len_cps x
  cases l with
  | nil =>
    have i1 : ¬ pos x.cps.toList [] < (x.length : Int) := by unfold pos; simp only [List.length_nil]; omega
    simp [wt_letters_from_0, Sv.sNil, Sv.sCons, Sv.sPass, Sv.sBreak, Sv.sCont, Sv.sExpr, Sv.put, Sv.sSet, Sv.sRet, Sv.sRetN, Sv.sIf, Sv.cVar, Sv.cK, Sv.cE, Sv.cP, Sv.cOp, Sv.cUn, Sv.cChain, Sv.cIf, Sv.cAnd, Sv.cOr, Sv.cNot, Sv.tB, Sv.tAnd, Sv.tOr, Sv.tNot, Sv.tYes, Sv.aNil, Sv.aCons, Sv.aStar, Sv.cCall, Sv.cTup, Sv.cLst, Sv.cSl, Sv.cMeth, Sv.sSetIx, Sv.sPar2, Sv.sPar3, Sv.sAsg, Sv.sAug, Sv.hold, Sv.slot, Sv.outF, Sv.argsB, Sv.slotsOf, Sv.back, Sv.rds, Sv.datas, Sv.gN, Sv.gT, Sv.gL, Sv.gRun, Sv.cFn, Sv.fnD, Sv.sRaise, Sv.R.bind, Sv.R.opt, Sv.R.toS, Sv.RS.seq, Sv.Hd.rd, Sv.B.rd, Sv.toP, Sv.eqP, Sv.neP, Sv.one, Sv.two, Sv.getP, Sv.lenP, Sv.addP, Sv.subP, Sv.mulP, Sv.mulQ, Sv.fdivP, Sv.modP, Sv.powP, Sv.intP, Sv.absP, Sv.max2P, Sv.min2P, Sv.negP, Sv.augAdd, Sv.setD, Sv.mAppend, Sv.ltB, Sv.gtB, Sv.leB, Sv.geB, Sv.ordB, Sv.small64, Sv.isP, Sv.wSeq, Sv.wRange1, Sv.sFor, hx, i1]
  | cons c r =>
    have := suf_len h
    have i1 : pos x.cps.toList (c :: r) < (x.length : Int) := by unfold pos; simp only [List.length_cons] at *; omega
    have i2 : L2.atI x.cps.toList (pos x.cps.toList (c :: r)) = some c := atI_nat _ _ _ (suf_at h)
    simp [wt_letters_from_0, Sv.sNil, Sv.sCons, Sv.sPass, Sv.sBreak, Sv.sCont, Sv.sExpr, Sv.put, Sv.sSet, Sv.sRet, Sv.sRetN, Sv.sIf, Sv.cVar, Sv.cK, Sv.cE, Sv.cP, Sv.cOp, Sv.cUn, Sv.cChain, Sv.cIf, Sv.cAnd, Sv.cOr, Sv.cNot, Sv.tB, Sv.tAnd, Sv.tOr, Sv.tNot, Sv.tYes, Sv.aNil, Sv.aCons, Sv.aStar, Sv.cCall, Sv.cTup, Sv.cLst, Sv.cSl, Sv.cMeth, Sv.sSetIx, Sv.sPar2, Sv.sPar3, Sv.sAsg, Sv.sAug, Sv.hold, Sv.slot, Sv.outF, Sv.argsB, Sv.slotsOf, Sv.back, Sv.rds, Sv.datas, Sv.gN, Sv.gT, Sv.gL, Sv.gRun, Sv.cFn, Sv.fnD, Sv.sRaise, Sv.R.bind, Sv.R.opt, Sv.R.toS, Sv.RS.seq, Sv.Hd.rd, Sv.B.rd, Sv.toP, Sv.eqP, Sv.neP, Sv.one, Sv.two, Sv.getP, Sv.lenP, Sv.addP, Sv.subP, Sv.mulP, Sv.mulQ, Sv.fdivP, Sv.modP, Sv.powP, Sv.intP, Sv.absP, Sv.max2P, Sv.min2P, Sv.negP, Sv.augAdd, Sv.setD, Sv.mAppend, Sv.ltB, Sv.gtB, Sv.leB, Sv.geB, Sv.ordB, Sv.small64, Sv.isP, Sv.wSeq, Sv.wRange1, Sv.sFor, hx, i1, i2, inB, isL, lets]
theorem lt2 (hx : x.length ≤ sizeLine) : ∀ (l : List Nat) (m : Nat), l <:+ x.cps.toList → l.length ≤ m → sWhile wt_letters_from_0 wb_letters_from_1 (m + 1) [some (.d (.str x)), a, some (.d (.int (pos x.cps.toList l)))] = .nx [some (.d (.str x)), a, some (.d (.int (pos x.cps.toList (ld l))))]
  | [], m, h, _ => by
    rw [while_end (lt1 hx h)]
    rfl
  | c :: r, m, h, hm => by
    cases hc : isL c with
    | false =>
      have t := lt1 (a := a) hx h
      simp only [hc] at t
      rw [while_end t]
      simp [ld, List.dropWhile_cons, hc]
    | true =>
      have t := lt1 (a := a) hx h
      simp only [hc] at t
      have b : wb_letters_from_1 [some (.d (.str x)), a, some (.d (.int (pos x.cps.toList (c :: r))))] = .nx [some (.d (.str x)), a, some (.d (.int (pos x.cps.toList r)))] := by
        have e := pos_tail h
        simp [wb_letters_from_1, Sv.sNil, Sv.sCons, Sv.sPass, Sv.sBreak, Sv.sCont, Sv.sExpr, Sv.put, Sv.sSet, Sv.sRet, Sv.sRetN, Sv.sIf, Sv.cVar, Sv.cK, Sv.cE, Sv.cP, Sv.cOp, Sv.cUn, Sv.cChain, Sv.cIf, Sv.cAnd, Sv.cOr, Sv.cNot, Sv.tB, Sv.tAnd, Sv.tOr, Sv.tNot, Sv.tYes, Sv.aNil, Sv.aCons, Sv.aStar, Sv.cCall, Sv.cTup, Sv.cLst, Sv.cSl, Sv.cMeth, Sv.sSetIx, Sv.sPar2, Sv.sPar3, Sv.sAsg, Sv.sAug, Sv.hold, Sv.slot, Sv.outF, Sv.argsB, Sv.slotsOf, Sv.back, Sv.rds, Sv.datas, Sv.gN, Sv.gT, Sv.gL, Sv.gRun, Sv.cFn, Sv.fnD, Sv.sRaise, Sv.R.bind, Sv.R.opt, Sv.R.toS, Sv.RS.seq, Sv.Hd.rd, Sv.B.rd, Sv.toP, Sv.eqP, Sv.neP, Sv.one, Sv.two, Sv.getP, Sv.lenP, Sv.addP, Sv.subP, Sv.mulP, Sv.mulQ, Sv.fdivP, Sv.modP, Sv.powP, Sv.intP, Sv.absP, Sv.max2P, Sv.min2P, Sv.negP, Sv.augAdd, Sv.setD, Sv.mAppend, Sv.ltB, Sv.gtB, Sv.leB, Sv.geB, Sv.ordB, Sv.small64, Sv.isP, Sv.wSeq, Sv.wRange1, Sv.sFor, e]
      obtain ⟨k, rfl⟩ : ∃ k, m = k + 1 := ⟨m - 1, by simp only [List.length_cons] at hm; omega⟩
      rw [while_step t b, lt2 hx r k (suf_tail h) (by simp only [List.length_cons] at hm; omega)]
      simp [ld, List.dropWhile_cons, hc]
theorem cut_lw (hx : x.length ≤ sizeLine) {l : List Nat} (h : l <:+ x.cps.toList) : slP (.str x) (some (pos x.cps.toList l)) (some (pos x.cps.toList (ld l))) = some (.d (.str (strOf (lw l)))) := by
  have h1 := suf_len h
  have h2 := suf_len (ld_suf l)
  have e := congrArg List.length (lw_ld l)
  rw [List.length_append] at e
  have s := slice_nat x (x.cps.toList.length - l.length) (x.cps.toList.length - (ld l).length)
  rw [suf_drop h, show x.cps.toList.length - (ld l).length - (x.cps.toList.length - l.length) = (lw l).length by omega] at s
  have t : l.take (lw l).length = lw l := by
    have := congrArg (List.take (lw l).length) (lw_ld l)
    rw [List.take_left] at this
    exact this.symm
  rw [t] at s
  simp only [slP, hx, if_true]
  rw [show pos x.cps.toList l = ((x.cps.toList.length - l.length : Nat) : Int) from rfl, show pos x.cps.toList (ld l) = ((x.cps.toList.length - (ld l).length : Nat) : Int) from rfl, s]
theorem letters_spec (hx : x.length ≤ 90000) {l : List Nat} (h : l <:+ x.cps.toList) : d_letters_from [.d (.str x), .d (.int (pos x.cps.toList l))] = .ok (.d (.str (strOf (lw l)))) [some (.d (.str x)), some (.d (.int (pos x.cps.toList l)))] := by
  have hz : x.length ≤ sizeLine := by rw [sizeLine_eq]; omega
  have hl := suf_len h
  have hlx := len_cps x
  have k := lt2 (a := some (.d (.int (pos x.cps.toList l)))) hz l 99999 h (by omega)
  have c := cut_lw hz h
  simp [d_letters_from, Sv.sNil, Sv.sCons, Sv.sPass, Sv.sBreak, Sv.sCont, Sv.sExpr, Sv.put, Sv.sSet, Sv.sRet, Sv.sRetN, Sv.sIf, Sv.cVar, Sv.cK, Sv.cE, Sv.cP, Sv.cOp, Sv.cUn, Sv.cChain, Sv.cIf, Sv.cAnd, Sv.cOr, Sv.cNot, Sv.tB, Sv.tAnd, Sv.tOr, Sv.tNot, Sv.tYes, Sv.aNil, Sv.aCons, Sv.aStar, Sv.cCall, Sv.cTup, Sv.cLst, Sv.cSl, Sv.cMeth, Sv.sSetIx, Sv.sPar2, Sv.sPar3, Sv.sAsg, Sv.sAug, Sv.hold, Sv.slot, Sv.outF, Sv.argsB, Sv.slotsOf, Sv.back, Sv.rds, Sv.datas, Sv.gN, Sv.gT, Sv.gL, Sv.gRun, Sv.cFn, Sv.fnD, Sv.sRaise, Sv.R.bind, Sv.R.opt, Sv.R.toS, Sv.RS.seq, Sv.Hd.rd, Sv.B.rd, Sv.toP, Sv.eqP, Sv.neP, Sv.one, Sv.two, Sv.getP, Sv.lenP, Sv.addP, Sv.subP, Sv.mulP, Sv.mulQ, Sv.fdivP, Sv.modP, Sv.powP, Sv.intP, Sv.absP, Sv.max2P, Sv.min2P, Sv.negP, Sv.augAdd, Sv.setD, Sv.mAppend, Sv.ltB, Sv.gtB, Sv.leB, Sv.geB, Sv.ordB, Sv.small64, Sv.isP, Sv.wSeq, Sv.wRange1, Sv.sFor, k, c]
theorem starts_spec (c : Nat) {l : List Nat} (h : l <:+ x.cps.toList) : Txt.startswith3 x ⟨#[c]⟩ (pos x.cps.toList l) = decide (l.head? = some c) := by
  have hl := suf_len h
  have hlx := len_cps x
  have e0 : fromIndex x.length (pos x.cps.toList l) = x.cps.toList.length - l.length := by
    unfold fromIndex pos
    rw [if_neg (by omega)]
    omega
  have e1 : (⟨#[c]⟩ : Str).length = 1 := rfl
  unfold Txt.startswith3
  rw [e0, e1]
  cases l with
  | nil =>
    rw [decide_eq_false (by simp only [List.length_nil]; omega)]
    rfl
  | cons d r =>
    have h1 : x.cps.toList.length - (d :: r).length + 1 ≤ x.length := by simp only [List.length_cons] at *; omega
    rw [decide_eq_true h1, Bool.true_and]
    unfold Builtin.Str.subAt
    have a := suf_at h
    have ex : x.cps.extract (x.cps.toList.length - (d :: r).length) (x.cps.toList.length - (d :: r).length + (⟨#[c]⟩ : Str).length) = #[d] := by
      apply Array.toList_inj.mp
      rw [Array.toList_extract, List.extract_eq_drop_take, suf_drop h, e1]
      simp
    rw [ex]
    by_cases hd : d = c
    · subst hd; simp
    · have : (#[d] == #[c]) = false := by simp [hd]
      simp [this, hd]
end
end K05
end
section
set_option autoImplicit false
set_option linter.all false
set_option maxRecDepth 100000
namespace K05
open PySem Sv

/-! ### the two readers -/
abbrev Rd := List Nat → Option (PyData × List Nat)
def goP (f : Rd) : Nat → List Nat → List PyData → Option (List PyData × List Nat)
  | 0, _, _ => none
  | m + 1, l, acc => match l with
    | 32 :: r => match f r with
      | none => none
      | some (v, r') => goP f m r' (acc ++ [v])
    | l => some (acc, l)
def one1 (f : Rd) : Rd := fun l => match l with
  | 40 :: r => match goP f (r.length + 1) (ld r) [] with
    | some (ps, 41 :: r') => some (.tuple (.str (strOf (lw r)) :: ps), r')
    | _ => none
  | l => some (.str (strOf (lw l)), ld l)
/-- the package's, n levels left -/
def pr : Nat → Rd
  | 0 => fun _ => none
  | n + 1 => one1 (pr n)
/-- the law's -/
def rl : Nat → Rd
  | 0 => fun l => match l with
    | 40 :: _ => none
    | l => some (.str (strOf (lw l)), ld l)
  | n + 1 => one1 (rl n)
/-- what is left is a part of it -/
def Shr (f : Rd) : Prop := ∀ l v r, f l = some (v, r) → r <:+ l
theorem goP_shr {f : Rd} (hf : Shr f) : ∀ (m : Nat) (l : List Nat) (acc ps : List PyData) (r : List Nat), goP f m l acc = some (ps, r) → r <:+ l
  | 0, l, acc, ps, r, h => by cases h
  | m + 1, l, acc, ps, r, h => by
    unfold goP at h
    split at h
    · rename_i r0
      split at h
      · cases h
      · rename_i v r' e
        exact (goP_shr hf m r' _ _ _ h).trans ((hf _ _ _ e).trans (List.suffix_cons _ _))
    · cases h
      exact List.suffix_refl _
theorem one1_shr {f : Rd} (hf : Shr f) : Shr (one1 f) := fun l v r h => by
  unfold one1 at h
  split at h
  · rename_i r0
    split at h
    · rename_i ps r' e
      cases h
      have := goP_shr hf _ _ _ _ _ e
      exact (List.suffix_cons _ _).trans (this.trans ((ld_suf _).trans (List.suffix_cons _ _)))
    · cases h
  · cases h
    exact ld_suf _
theorem pr_shr : ∀ n, Shr (pr n)
  | 0 => fun l v r h => by cases h
  | n + 1 => one1_shr (pr_shr n)
theorem rl_shr : ∀ n, Shr (rl n)
  | 0 => fun l v r h => by
    unfold rl at h
    split at h
    · cases h
    · cases h
      exact ld_suf _
  | n + 1 => one1_shr (rl_shr n)
/-- turns enough -/
theorem goP_more {f : Rd} (hf : Shr f) : ∀ (m k : Nat) (l : List Nat) (acc : List PyData), l.length < m → l.length < k → goP f m l acc = goP f k l acc
  | 0, k, l, acc, h, _ => by omega
  | m + 1, 0, l, acc, _, h => by omega
  | m + 1, k + 1, l, acc, h1, h2 => by
    unfold goP
    split
    · rename_i r0
      cases e : f r0 with
      | none => rfl
      | some t =>
        obtain ⟨v, r'⟩ := t
        have := suf_len (hf _ _ _ e)
        simp only [List.length_cons] at h1 h2
        exact goP_more hf m k r' _ (by omega) (by omega)
    · rfl
section
variable {x : Str}
abbrev sx (x : Str) : Option B := some (.d (.str x))
/-- what the package's reader says -/
def RdOk (x : Str) (F : Fn) (L : Int) (f : Rd) : Prop := ∀ l, l <:+ x.cps.toList → match f l with
  | some (v, r) => ∃ o1 o2 o3, F [.d (.str x), .d (.int (pos x.cps.toList l)), .d (.int L)] = .ok (.d (.tuple [v, .int (pos x.cps.toList r)])) [o1, o2, o3]
  | none => ∃ o1 o2 o3, F [.d (.str x), .d (.int (pos x.cps.toList l)), .d (.int L)] = .ex ⟨"ParseError", []⟩ [o1, o2, o3]
theorem rt1 {F : Fn} {s1 s2 s3 s4 s5 s7 : Option B} {l : List Nat} (h : l <:+ x.cps.toList) : wt_read_from_0 F [sx x, s1, s2, s3, s4, s5, some (.d (.int (pos x.cps.toList l))), s7] = .ok (decide (l.head? = some 32)) [sx x, s1, s2, s3, s4, s5, some (.d (.int (pos x.cps.toList l))), s7] := by
  have e := starts_spec (x := x) 32 h
  have e2 : (Str.ofString " ") = ⟨#[32]⟩ := by decide
  simp [wt_read_from_0, Sv.sNil, Sv.sCons, Sv.sPass, Sv.sBreak, Sv.sCont, Sv.sExpr, Sv.put, Sv.sSet, Sv.sRet, Sv.sRetN, Sv.sIf, Sv.cVar, Sv.cK, Sv.cE, Sv.cP, Sv.cOp, Sv.cUn, Sv.cChain, Sv.cIf, Sv.cAnd, Sv.cOr, Sv.cNot, Sv.tB, Sv.tAnd, Sv.tOr, Sv.tNot, Sv.tYes, Sv.aNil, Sv.aCons, Sv.aStar, Sv.cCall, Sv.cTup, Sv.cLst, Sv.cSl, Sv.cMeth, Sv.sSetIx, Sv.sPar2, Sv.sPar3, Sv.sAsg, Sv.sAug, Sv.hold, Sv.slot, Sv.outF, Sv.argsB, Sv.slotsOf, Sv.back, Sv.rds, Sv.datas, Sv.gN, Sv.gT, Sv.gL, Sv.gRun, Sv.cFn, Sv.fnD, Sv.sRaise, Sv.R.bind, Sv.R.opt, Sv.R.toS, Sv.RS.seq, Sv.Hd.rd, Sv.B.rd, Sv.toP, Sv.eqP, Sv.neP, Sv.one, Sv.two, Sv.getP, Sv.lenP, Sv.addP, Sv.subP, Sv.mulP, Sv.mulQ, Sv.fdivP, Sv.modP, Sv.powP, Sv.intP, Sv.absP, Sv.max2P, Sv.min2P, Sv.negP, Sv.augAdd, Sv.setD, Sv.mAppend, Sv.ltB, Sv.gtB, Sv.leB, Sv.geB, Sv.ordB, Sv.small64, Sv.isP, Sv.wSeq, Sv.wRange1, Sv.sFor, cStarts, e2, e]
theorem rb1 {F : Fn} {s1 s3 s4 s7 : Option B} {L : Int} {acc : List PyData} {r : List Nat} {o1 o2 o3 : Option B} (h : 32 :: r <:+ x.cps.toList) (k : F [.d (.str x), .d (.int (pos x.cps.toList r)), .d (.int (L + 1))] = .ex ⟨"ParseError", []⟩ [o1, o2, o3]) :
    ∃ e, wb_read_from_1 F [sx x, s1, some (.d (.int L)), s3, s4, some (.l acc), some (.d (.int (pos x.cps.toList (32 :: r)))), s7] = .ex ⟨"ParseError", []⟩ e := by
  have e := pos_tail h
  exact ⟨_, by simp [wb_read_from_1, Sv.sNil, Sv.sCons, Sv.sPass, Sv.sBreak, Sv.sCont, Sv.sExpr, Sv.put, Sv.sSet, Sv.sRet, Sv.sRetN, Sv.sIf, Sv.cVar, Sv.cK, Sv.cE, Sv.cP, Sv.cOp, Sv.cUn, Sv.cChain, Sv.cIf, Sv.cAnd, Sv.cOr, Sv.cNot, Sv.tB, Sv.tAnd, Sv.tOr, Sv.tNot, Sv.tYes, Sv.aNil, Sv.aCons, Sv.aStar, Sv.cCall, Sv.cTup, Sv.cLst, Sv.cSl, Sv.cMeth, Sv.sSetIx, Sv.sPar2, Sv.sPar3, Sv.sAsg, Sv.sAug, Sv.hold, Sv.slot, Sv.outF, Sv.argsB, Sv.slotsOf, Sv.back, Sv.rds, Sv.datas, Sv.gN, Sv.gT, Sv.gL, Sv.gRun, Sv.cFn, Sv.fnD, Sv.sRaise, Sv.R.bind, Sv.R.opt, Sv.R.toS, Sv.RS.seq, Sv.Hd.rd, Sv.B.rd, Sv.toP, Sv.eqP, Sv.neP, Sv.one, Sv.two, Sv.getP, Sv.lenP, Sv.addP, Sv.subP, Sv.mulP, Sv.mulQ, Sv.fdivP, Sv.modP, Sv.powP, Sv.intP, Sv.absP, Sv.max2P, Sv.min2P, Sv.negP, Sv.augAdd, Sv.setD, Sv.mAppend, Sv.ltB, Sv.gtB, Sv.leB, Sv.geB, Sv.ordB, Sv.small64, Sv.isP, Sv.wSeq, Sv.wRange1, Sv.sFor, e, k]; rfl⟩
theorem rb2 {F : Fn} {s1 s3 s4 s7 : Option B} {L : Int} {acc : List PyData} {r r' : List Nat} {v : PyData} {o1 o2 o3 : Option B} (hz : acc.length < sizeLine) (h : 32 :: r <:+ x.cps.toList) (k : F [.d (.str x), .d (.int (pos x.cps.toList r)), .d (.int (L + 1))] = .ok (.d (.tuple [v, .int (pos x.cps.toList r')])) [o1, o2, o3]) :
    wb_read_from_1 F [sx x, s1, some (.d (.int L)), s3, s4, some (.l acc), some (.d (.int (pos x.cps.toList (32 :: r)))), s7] = .nx [sx x, s1, some (.d (.int L)), s3, s4, some (.l (acc ++ [v])), some (.d (.int (pos x.cps.toList r'))), some (.d v)] := by
  have e := pos_tail h
  simp [wb_read_from_1, Sv.sNil, Sv.sCons, Sv.sPass, Sv.sBreak, Sv.sCont, Sv.sExpr, Sv.put, Sv.sSet, Sv.sRet, Sv.sRetN, Sv.sIf, Sv.cVar, Sv.cK, Sv.cE, Sv.cP, Sv.cOp, Sv.cUn, Sv.cChain, Sv.cIf, Sv.cAnd, Sv.cOr, Sv.cNot, Sv.tB, Sv.tAnd, Sv.tOr, Sv.tNot, Sv.tYes, Sv.aNil, Sv.aCons, Sv.aStar, Sv.cCall, Sv.cTup, Sv.cLst, Sv.cSl, Sv.cMeth, Sv.sSetIx, Sv.sPar2, Sv.sPar3, Sv.sAsg, Sv.sAug, Sv.hold, Sv.slot, Sv.outF, Sv.argsB, Sv.slotsOf, Sv.back, Sv.rds, Sv.datas, Sv.gN, Sv.gT, Sv.gL, Sv.gRun, Sv.cFn, Sv.fnD, Sv.sRaise, Sv.R.bind, Sv.R.opt, Sv.R.toS, Sv.RS.seq, Sv.Hd.rd, Sv.B.rd, Sv.toP, Sv.eqP, Sv.neP, Sv.one, Sv.two, Sv.getP, Sv.lenP, Sv.addP, Sv.subP, Sv.mulP, Sv.mulQ, Sv.fdivP, Sv.modP, Sv.powP, Sv.intP, Sv.absP, Sv.max2P, Sv.min2P, Sv.negP, Sv.augAdd, Sv.setD, Sv.mAppend, Sv.ltB, Sv.gtB, Sv.leB, Sv.geB, Sv.ordB, Sv.small64, Sv.isP, Sv.wSeq, Sv.wRange1, Sv.sFor, e, k, hz]
theorem rLoop {F : Fn} {f : Rd} {L : Int} (hx : x.length ≤ 90000) (hF : RdOk x F (L + 1) f) (hf : Shr f) {s1 s3 s4 : Option B} : ∀ (m k : Nat) (l : List Nat) (acc : List PyData) (s7 : Option B), l <:+ x.cps.toList → l.length < m → l.length < k → acc.length + l.length ≤ 90000 →
    match goP f m l acc with
    | some (ps, r) => ps.length ≤ 90000 ∧ ∃ s7', sWhile (wt_read_from_0 F) (wb_read_from_1 F) k [sx x, s1, some (.d (.int L)), s3, s4, some (.l acc), some (.d (.int (pos x.cps.toList l))), s7] = .nx [sx x, s1, some (.d (.int L)), s3, s4, some (.l ps), some (.d (.int (pos x.cps.toList r))), s7']
    | none => ∃ e, sWhile (wt_read_from_0 F) (wb_read_from_1 F) k [sx x, s1, some (.d (.int L)), s3, s4, some (.l acc), some (.d (.int (pos x.cps.toList l))), s7] = .ex ⟨"ParseError", []⟩ e
  | 0, k, l, acc, s7, _, h, _, _ => by omega
  | m + 1, 0, l, acc, s7, _, _, h, _ => by omega
  | m + 1, k + 1, l, acc, s7, hl, h1, h2, hz => by
    have t := rt1 (F := F) (s1 := s1) (s2 := some (.d (.int L))) (s3 := s3) (s4 := s4) (s5 := some (.l acc)) (s7 := s7) hl
    unfold goP
    split
    rename_i g
    split at g
    · rename_i r
      have c := hF r (suf_tail hl)
      simp only [List.head?_cons, decide_true] at t
      cases e : f r with
      | none =>
        rw [e] at g
        cases g
      | some u =>
        obtain ⟨v, r'⟩ := u
        rw [e] at c g
        obtain ⟨o1, o2, o3, c⟩ := c
        have hs := hf _ _ _ e
        have l2 := suf_len hs
        simp only [List.length_cons] at h1 h2 hz
        have b := rb2 (F := F) (s1 := s1) (s3 := s3) (s4 := s4) (s7 := s7) (acc := acc) (by rw [sizeLine_eq]; omega) hl c
        have ih := rLoop hx hF hf (s1 := s1) (s3 := s3) (s4 := s4) m k r' (acc ++ [v]) (some (.d v)) (hs.trans (suf_tail hl)) (by omega) (by omega) (by simp only [List.length_append, List.length_cons, List.length_nil]; omega)
        simp only at g
        rw [g] at ih
        rw [while_step t b]
        exact ih
    · rename_i h32
      cases g
      have tf : decide (l.head? = some 32) = false := by
        cases l with
        | nil => rfl
        | cons c r =>
          have : c ≠ 32 := fun z => h32 r (by rw [z])
          simp [this]
      rw [tf] at t
      exact ⟨by omega, s7, while_end t⟩
    · rename_i g
      split at g
      · rename_i r
        have c := hF r (suf_tail hl)
        simp only [List.head?_cons, decide_true] at t
        cases e : f r with
        | none =>
          rw [e] at c
          obtain ⟨o1, o2, o3, c⟩ := c
          obtain ⟨e', b⟩ := rb1 (F := F) (s1 := s1) (s3 := s3) (s4 := s4) (s7 := s7) (acc := acc) hl c
          exact ⟨e', while_ex t b⟩
        | some u =>
          obtain ⟨v, r'⟩ := u
          rw [e] at c g
          obtain ⟨o1, o2, o3, c⟩ := c
          have hs := hf _ _ _ e
          have l2 := suf_len hs
          simp only [List.length_cons] at h1 h2 hz
          have b := rb2 (F := F) (s1 := s1) (s3 := s3) (s4 := s4) (s7 := s7) (acc := acc) (by rw [sizeLine_eq]; omega) hl c
          have ih := rLoop hx hF hf (s1 := s1) (s3 := s3) (s4 := s4) m k r' (acc ++ [v]) (some (.d v)) (hs.trans (suf_tail hl)) (by omega) (by omega) (by simp only [List.length_append, List.length_cons, List.length_nil]; omega)
          simp only at g
          rw [g] at ih
          rw [while_step t b]
          exact ih
      · cases g
theorem goP_acc {f : Rd} (a : List PyData) : ∀ (m : Nat) (l : List Nat) (acc : List PyData), goP f m l (a ++ acc) = (goP f m l acc).map fun t => (a ++ t.1, t.2)
  | 0, l, acc => rfl
  | m + 1, l, acc => by
    unfold goP
    split
    · rename_i r
      cases e : f r with
      | none => rfl
      | some u =>
        obtain ⟨v, r'⟩ := u
        simp only
        rw [List.append_assoc]
        exact goP_acc a m r' _
    · rfl
theorem pos_ld {l : List Nat} (h : l <:+ x.cps.toList) : pos x.cps.toList l + ((lw l).length : Int) = pos x.cps.toList (ld l) := by
  have h1 := suf_len h
  have e := congrArg List.length (lw_ld l)
  rw [List.length_append] at e
  unfold pos
  omega
theorem read_from_spec (hx : x.length ≤ 90000) : ∀ (n fuel : Nat) (L : Int), L = 7 - (n : Int) → n < fuel → RdOk x (d_read_from fuel) L (pr n)
  | n, 0, L, _, h => by omega
  | 0, fuel + 1, L, hL, _ => fun l hl => by
    have i1 : (6 : Int) < L := by omega
    show ∃ o1 o2 o3, _
    refine ⟨some (.d (.str x)), some (.d (.int (pos x.cps.toList l))), some (.d (.int L)), ?_⟩
    simp [d_read_from, Sv.sNil, Sv.sCons, Sv.sPass, Sv.sBreak, Sv.sCont, Sv.sExpr, Sv.put, Sv.sSet, Sv.sRet, Sv.sRetN, Sv.sIf, Sv.cVar, Sv.cK, Sv.cE, Sv.cP, Sv.cOp, Sv.cUn, Sv.cChain, Sv.cIf, Sv.cAnd, Sv.cOr, Sv.cNot, Sv.tB, Sv.tAnd, Sv.tOr, Sv.tNot, Sv.tYes, Sv.aNil, Sv.aCons, Sv.aStar, Sv.cCall, Sv.cTup, Sv.cLst, Sv.cSl, Sv.cMeth, Sv.sSetIx, Sv.sPar2, Sv.sPar3, Sv.sAsg, Sv.sAug, Sv.hold, Sv.slot, Sv.outF, Sv.argsB, Sv.slotsOf, Sv.back, Sv.rds, Sv.datas, Sv.gN, Sv.gT, Sv.gL, Sv.gRun, Sv.cFn, Sv.fnD, Sv.sRaise, Sv.R.bind, Sv.R.opt, Sv.R.toS, Sv.RS.seq, Sv.Hd.rd, Sv.B.rd, Sv.toP, Sv.eqP, Sv.neP, Sv.one, Sv.two, Sv.getP, Sv.lenP, Sv.addP, Sv.subP, Sv.mulP, Sv.mulQ, Sv.fdivP, Sv.modP, Sv.powP, Sv.intP, Sv.absP, Sv.max2P, Sv.min2P, Sv.negP, Sv.augAdd, Sv.setD, Sv.mAppend, Sv.ltB, Sv.gtB, Sv.leB, Sv.geB, Sv.ordB, Sv.small64, Sv.isP, Sv.wSeq, Sv.wRange1, Sv.sFor, i1]
  | n + 1, fuel + 1, L, hL, hf => fun l hl => by
    have ih := read_from_spec hx n fuel (L + 1) (by omega) (by omega)
    have i1 : ¬ (6 : Int) < L := by omega
    have hlx := len_cps x
    have z2 : 2 ≤ sizeLine := by rw [sizeLine_eq]; decide
    have z1 : 1 ≤ sizeLine := by rw [sizeLine_eq]; decide
    have p40 : Str.ofString "(" = ⟨#[40]⟩ := by decide
    have p41 : Str.ofString ")" = ⟨#[41]⟩ := by decide
    have e40 := starts_spec (x := x) 40 hl
    have hll := suf_len hl
    by_cases h40 : ∃ r, l = 40 :: r
    · obtain ⟨r, rfl⟩ := h40
      have hr := suf_tail hl
      have kl := letters_spec hx hr
      have ep := pos_tail hl
      have el := pos_ld hr
      have wl : (strOf (lw r)).length ≤ sizeLine := by
        rw [strOf_len, sizeLine_eq]
        have e := congrArg List.length (lw_ld r)
        rw [List.length_append] at e
        simp only [List.length_cons] at hll
        omega
      simp only [List.head?_cons, decide_true] at e40
      have hd := ld_suf r
      have ldl := suf_len hd
      have hrl := suf_len hr
      simp only [List.length_cons] at hll
      have loop := rLoop (L := L) hx ih (pr_shr n) (s1 := some (.d (.int (pos x.cps.toList (40 :: r))))) (s3 := none) (s4 := some (.d (.str (strOf (lw r))))) (r.length + 1) 100000 (ld r) [.str (strOf (lw r))] none (hd.trans hr) (by omega) (by omega) (by simp only [List.length_cons, List.length_nil]; omega)
      have ga := goP_acc (f := pr n) [.str (strOf (lw r))] (r.length + 1) (ld r) []
      rw [List.append_nil] at ga
      rw [ga] at loop
      have lp : pos x.cps.toList (40 :: r) + 1 + ((lw r).length : Int) = pos x.cps.toList (ld r) := by rw [ep, el]
      have wl2 : ((strOf (lw r)).length : Int) = ((lw r).length : Int) := by rw [strOf_len]
      show match one1 (pr n) (40 :: r) with | some (v, r') => _ | none => _
      cases g : goP (pr n) (r.length + 1) (ld r) [] with
      | none =>
        have o : one1 (pr n) (40 :: r) = none := by simp only [one1, g]
        rw [o]
        rw [g] at loop
        obtain ⟨e, loop⟩ := loop
        refine ⟨slot e 0, slot e 1, slot e 2, ?_⟩
        simp [d_read_from, Sv.sNil, Sv.sCons, Sv.sPass, Sv.sBreak, Sv.sCont, Sv.sExpr, Sv.put, Sv.sSet, Sv.sRet, Sv.sRetN, Sv.sIf, Sv.cVar, Sv.cK, Sv.cE, Sv.cP, Sv.cOp, Sv.cUn, Sv.cChain, Sv.cIf, Sv.cAnd, Sv.cOr, Sv.cNot, Sv.tB, Sv.tAnd, Sv.tOr, Sv.tNot, Sv.tYes, Sv.aNil, Sv.aCons, Sv.aStar, Sv.cCall, Sv.cTup, Sv.cLst, Sv.cSl, Sv.cMeth, Sv.sSetIx, Sv.sPar2, Sv.sPar3, Sv.sAsg, Sv.sAug, Sv.hold, Sv.slot, Sv.outF, Sv.argsB, Sv.slotsOf, Sv.back, Sv.rds, Sv.datas, Sv.gN, Sv.gT, Sv.gL, Sv.gRun, Sv.cFn, Sv.fnD, Sv.sRaise, Sv.R.bind, Sv.R.opt, Sv.R.toS, Sv.RS.seq, Sv.Hd.rd, Sv.B.rd, Sv.toP, Sv.eqP, Sv.neP, Sv.one, Sv.two, Sv.getP, Sv.lenP, Sv.addP, Sv.subP, Sv.mulP, Sv.mulQ, Sv.fdivP, Sv.modP, Sv.powP, Sv.intP, Sv.absP, Sv.max2P, Sv.min2P, Sv.negP, Sv.augAdd, Sv.setD, Sv.mAppend, Sv.ltB, Sv.gtB, Sv.leB, Sv.geB, Sv.ordB, Sv.small64, Sv.isP, Sv.wSeq, Sv.wRange1, Sv.sFor, cStarts, i1, p40, e40, ep, kl, z1, wl, wl2, el, loop]
      | some u =>
        obtain ⟨ps, r'⟩ := u
        rw [g] at loop
        obtain ⟨psl, s7, loop⟩ := loop
        have hs := (goP_shr (pr_shr n) _ _ _ _ _ g).trans (hd.trans hr)
        have e41 := starts_spec (x := x) 41 hs
        by_cases h41 : ∃ r'', r' = 41 :: r''
        · obtain ⟨r'', rfl⟩ := h41
          have o : one1 (pr n) (40 :: r) = some (.tuple (.str (strOf (lw r)) :: ps), r'') := by simp only [one1, g]
          rw [o]
          simp only [List.head?_cons, decide_true] at e41
          have ep2 := pos_tail hs
          refine ⟨some (.d (.str x)), some (.d (.int (pos x.cps.toList (40 :: r)))), some (.d (.int L)), ?_⟩
          simp [d_read_from, Sv.sNil, Sv.sCons, Sv.sPass, Sv.sBreak, Sv.sCont, Sv.sExpr, Sv.put, Sv.sSet, Sv.sRet, Sv.sRetN, Sv.sIf, Sv.cVar, Sv.cK, Sv.cE, Sv.cP, Sv.cOp, Sv.cUn, Sv.cChain, Sv.cIf, Sv.cAnd, Sv.cOr, Sv.cNot, Sv.tB, Sv.tAnd, Sv.tOr, Sv.tNot, Sv.tYes, Sv.aNil, Sv.aCons, Sv.aStar, Sv.cCall, Sv.cTup, Sv.cLst, Sv.cSl, Sv.cMeth, Sv.sSetIx, Sv.sPar2, Sv.sPar3, Sv.sAsg, Sv.sAug, Sv.hold, Sv.slot, Sv.outF, Sv.argsB, Sv.slotsOf, Sv.back, Sv.rds, Sv.datas, Sv.gN, Sv.gT, Sv.gL, Sv.gRun, Sv.cFn, Sv.fnD, Sv.sRaise, Sv.R.bind, Sv.R.opt, Sv.R.toS, Sv.RS.seq, Sv.Hd.rd, Sv.B.rd, Sv.toP, Sv.eqP, Sv.neP, Sv.one, Sv.two, Sv.getP, Sv.lenP, Sv.addP, Sv.subP, Sv.mulP, Sv.mulQ, Sv.fdivP, Sv.modP, Sv.powP, Sv.intP, Sv.absP, Sv.max2P, Sv.min2P, Sv.negP, Sv.augAdd, Sv.setD, Sv.mAppend, Sv.ltB, Sv.gtB, Sv.leB, Sv.geB, Sv.ordB, Sv.small64, Sv.isP, Sv.wSeq, Sv.wRange1, Sv.sFor, cStarts, i1, p40, p41, e40, e41, ep, ep2, kl, z1, z2, wl, wl2, el, loop, tupleP]
        · have o : one1 (pr n) (40 :: r) = none := by
            simp only [one1, g]
            split
            · rename_i q
              cases q
              exact absurd ⟨_, rfl⟩ h41
            · rfl
          rw [o]
          have tf : decide (r'.head? = some 41) = false := by
            cases r' with
            | nil => rfl
            | cons c q =>
              have : c ≠ 41 := fun z => h41 ⟨q, by rw [z]⟩
              simp [this]
          rw [tf] at e41
          refine ⟨some (.d (.str x)), some (.d (.int (pos x.cps.toList (40 :: r)))), some (.d (.int L)), ?_⟩
          simp [d_read_from, Sv.sNil, Sv.sCons, Sv.sPass, Sv.sBreak, Sv.sCont, Sv.sExpr, Sv.put, Sv.sSet, Sv.sRet, Sv.sRetN, Sv.sIf, Sv.cVar, Sv.cK, Sv.cE, Sv.cP, Sv.cOp, Sv.cUn, Sv.cChain, Sv.cIf, Sv.cAnd, Sv.cOr, Sv.cNot, Sv.tB, Sv.tAnd, Sv.tOr, Sv.tNot, Sv.tYes, Sv.aNil, Sv.aCons, Sv.aStar, Sv.cCall, Sv.cTup, Sv.cLst, Sv.cSl, Sv.cMeth, Sv.sSetIx, Sv.sPar2, Sv.sPar3, Sv.sAsg, Sv.sAug, Sv.hold, Sv.slot, Sv.outF, Sv.argsB, Sv.slotsOf, Sv.back, Sv.rds, Sv.datas, Sv.gN, Sv.gT, Sv.gL, Sv.gRun, Sv.cFn, Sv.fnD, Sv.sRaise, Sv.R.bind, Sv.R.opt, Sv.R.toS, Sv.RS.seq, Sv.Hd.rd, Sv.B.rd, Sv.toP, Sv.eqP, Sv.neP, Sv.one, Sv.two, Sv.getP, Sv.lenP, Sv.addP, Sv.subP, Sv.mulP, Sv.mulQ, Sv.fdivP, Sv.modP, Sv.powP, Sv.intP, Sv.absP, Sv.max2P, Sv.min2P, Sv.negP, Sv.augAdd, Sv.setD, Sv.mAppend, Sv.ltB, Sv.gtB, Sv.leB, Sv.geB, Sv.ordB, Sv.small64, Sv.isP, Sv.wSeq, Sv.wRange1, Sv.sFor, cStarts, i1, p40, p41, e40, e41, ep, kl, z1, z2, wl, wl2, el, loop, tupleP]
    · have tf : decide (l.head? = some 40) = false := by
        cases l with
        | nil => rfl
        | cons c q =>
          have : c ≠ 40 := fun z => h40 ⟨q, by rw [z]⟩
          simp [this]
      rw [tf] at e40
      have o : one1 (pr n) l = some (.str (strOf (lw l)), ld l) := by
        unfold one1
        split
        · exact absurd ⟨_, rfl⟩ h40
        · rfl
      show match one1 (pr n) l with | some (v, r') => _ | none => _
      rw [o]
      have kl := letters_spec hx hl
      have el := pos_ld hl
      have wl : (strOf (lw l)).length ≤ sizeLine := by
        rw [strOf_len, sizeLine_eq]
        have e := congrArg List.length (lw_ld l)
        rw [List.length_append] at e
        omega
      have wl2 : ((strOf (lw l)).length : Int) = ((lw l).length : Int) := by rw [strOf_len]
      refine ⟨some (.d (.str x)), some (.d (.int (pos x.cps.toList l))), some (.d (.int L)), ?_⟩
      simp [d_read_from, Sv.sNil, Sv.sCons, Sv.sPass, Sv.sBreak, Sv.sCont, Sv.sExpr, Sv.put, Sv.sSet, Sv.sRet, Sv.sRetN, Sv.sIf, Sv.cVar, Sv.cK, Sv.cE, Sv.cP, Sv.cOp, Sv.cUn, Sv.cChain, Sv.cIf, Sv.cAnd, Sv.cOr, Sv.cNot, Sv.tB, Sv.tAnd, Sv.tOr, Sv.tNot, Sv.tYes, Sv.aNil, Sv.aCons, Sv.aStar, Sv.cCall, Sv.cTup, Sv.cLst, Sv.cSl, Sv.cMeth, Sv.sSetIx, Sv.sPar2, Sv.sPar3, Sv.sAsg, Sv.sAug, Sv.hold, Sv.slot, Sv.outF, Sv.argsB, Sv.slotsOf, Sv.back, Sv.rds, Sv.datas, Sv.gN, Sv.gT, Sv.gL, Sv.gRun, Sv.cFn, Sv.fnD, Sv.sRaise, Sv.R.bind, Sv.R.opt, Sv.R.toS, Sv.RS.seq, Sv.Hd.rd, Sv.B.rd, Sv.toP, Sv.eqP, Sv.neP, Sv.one, Sv.two, Sv.getP, Sv.lenP, Sv.addP, Sv.subP, Sv.mulP, Sv.mulQ, Sv.fdivP, Sv.modP, Sv.powP, Sv.intP, Sv.absP, Sv.max2P, Sv.min2P, Sv.negP, Sv.augAdd, Sv.setD, Sv.mAppend, Sv.ltB, Sv.gtB, Sv.leB, Sv.geB, Sv.ordB, Sv.small64, Sv.isP, Sv.wSeq, Sv.wRange1, Sv.sFor, cStarts, i1, p40, e40, kl, z2, wl, wl2, el]
end
end K05
end
section
set_option autoImplicit false
set_option linter.all false
set_option maxRecDepth 100000
namespace K05
open PySem Sv

theorem eq_strs (a b : Str) : eqB (.str a) (.str b) = some (decide (a = b)) := by
  by_cases h : a = b <;> simp [eqB, shal, PyData.depth, PyData.plain, PyData.eqv, h]
section
variable {x : Str}
theorem sl1 (hz : x.length ≤ sizeLine) {l : List Nat} (h : l <:+ x.cps.toList) : slP (.str x) (some (pos x.cps.toList l)) (some (pos x.cps.toList l + 1)) = some (.d (.str (strOf (l.take 1)))) := by
  have s := slice_nat x (x.cps.toList.length - l.length) (x.cps.toList.length - l.length + 1)
  rw [suf_drop h, show x.cps.toList.length - l.length + 1 - (x.cps.toList.length - l.length) = 1 by omega] at s
  simp only [slP, hz, if_true]
  rw [show pos x.cps.toList l + 1 = ((x.cps.toList.length - l.length + 1 : Nat) : Int) by unfold pos; omega, show pos x.cps.toList l = ((x.cps.toList.length - l.length : Nat) : Int) from rfl, s]
theorem head_eq (c : Nat) (l : List Nat) : eqB (.str (strOf (l.take 1))) (.str ⟨#[c]⟩) = some (decide (l.head? = some c)) := by
  rw [eq_strs]
  congr 1
  rw [decide_eq_decide]
  cases l with
  | nil =>
    constructor
    · intro h
      have := congrArg (fun s => s.cps.toList) h
      simp [strOf] at this
    · intro h
      cases h
  | cons d r =>
    constructor
    · intro h
      have := congrArg (fun s => s.cps.toList) h
      simp [strOf] at this
      simp [this]
    · intro h
      simp at h
      subst h
      simp [strOf]
abbrev sg : Option B := some (.d (.str (Str.ofString "abcdefghijklmnopqrstuvwxyz")))
theorem qt1 {F : Fn} {s1 s2 s4 s6 s7 s8 : Option B} (hx : x.length ≤ sizeLine) {l : List Nat} (h : l <:+ x.cps.toList) : wt_read_2 F [sx x, s1, s2, sg, s4, some (.d (.int (pos x.cps.toList l))), s6, s7, s8] = .ok (match l with | c :: _ => isL c | [] => false) [sx x, s1, s2, sg, s4, some (.d (.int (pos x.cps.toList l))), s6, s7, s8] := by
  have hl := len_cps x
  cases l with
  | nil =>
    have i1 : ¬ pos x.cps.toList [] < (x.length : Int) := by unfold pos; simp only [List.length_nil]; omega
    simp [wt_read_2, Sv.sNil, Sv.sCons, Sv.sPass, Sv.sBreak, Sv.sCont, Sv.sExpr, Sv.put, Sv.sSet, Sv.sRet, Sv.sRetN, Sv.sIf, Sv.cVar, Sv.cK, Sv.cE, Sv.cP, Sv.cOp, Sv.cUn, Sv.cChain, Sv.cIf, Sv.cAnd, Sv.cOr, Sv.cNot, Sv.tB, Sv.tAnd, Sv.tOr, Sv.tNot, Sv.tYes, Sv.aNil, Sv.aCons, Sv.aStar, Sv.cCall, Sv.cTup, Sv.cLst, Sv.cSl, Sv.cMeth, Sv.sSetIx, Sv.sPar2, Sv.sPar3, Sv.sAsg, Sv.sAug, Sv.hold, Sv.slot, Sv.outF, Sv.argsB, Sv.slotsOf, Sv.back, Sv.rds, Sv.datas, Sv.gN, Sv.gT, Sv.gL, Sv.gRun, Sv.cFn, Sv.fnD, Sv.sRaise, Sv.R.bind, Sv.R.opt, Sv.R.toS, Sv.RS.seq, Sv.Hd.rd, Sv.B.rd, Sv.toP, Sv.eqP, Sv.neP, Sv.one, Sv.two, Sv.getP, Sv.lenP, Sv.addP, Sv.subP, Sv.mulP, Sv.mulQ, Sv.fdivP, Sv.modP, Sv.powP, Sv.intP, Sv.absP, Sv.max2P, Sv.min2P, Sv.negP, Sv.augAdd, Sv.setD, Sv.mAppend, Sv.ltB, Sv.gtB, Sv.leB, Sv.geB, Sv.ordB, Sv.small64, Sv.isP, Sv.wSeq, Sv.wRange1, Sv.sFor, hx, i1]
  | cons c r =>
    have := suf_len h
    have i1 : pos x.cps.toList (c :: r) < (x.length : Int) := by unfold pos; simp only [List.length_cons] at *; omega
    have i2 : L2.atI x.cps.toList (pos x.cps.toList (c :: r)) = some c := atI_nat _ _ _ (suf_at h)
    simp [wt_read_2, Sv.sNil, Sv.sCons, Sv.sPass, Sv.sBreak, Sv.sCont, Sv.sExpr, Sv.put, Sv.sSet, Sv.sRet, Sv.sRetN, Sv.sIf, Sv.cVar, Sv.cK, Sv.cE, Sv.cP, Sv.cOp, Sv.cUn, Sv.cChain, Sv.cIf, Sv.cAnd, Sv.cOr, Sv.cNot, Sv.tB, Sv.tAnd, Sv.tOr, Sv.tNot, Sv.tYes, Sv.aNil, Sv.aCons, Sv.aStar, Sv.cCall, Sv.cTup, Sv.cLst, Sv.cSl, Sv.cMeth, Sv.sSetIx, Sv.sPar2, Sv.sPar3, Sv.sAsg, Sv.sAug, Sv.hold, Sv.slot, Sv.outF, Sv.argsB, Sv.slotsOf, Sv.back, Sv.rds, Sv.datas, Sv.gN, Sv.gT, Sv.gL, Sv.gRun, Sv.cFn, Sv.fnD, Sv.sRaise, Sv.R.bind, Sv.R.opt, Sv.R.toS, Sv.RS.seq, Sv.Hd.rd, Sv.B.rd, Sv.toP, Sv.eqP, Sv.neP, Sv.one, Sv.two, Sv.getP, Sv.lenP, Sv.addP, Sv.subP, Sv.mulP, Sv.mulQ, Sv.fdivP, Sv.modP, Sv.powP, Sv.intP, Sv.absP, Sv.max2P, Sv.min2P, Sv.negP, Sv.augAdd, Sv.setD, Sv.mAppend, Sv.ltB, Sv.gtB, Sv.leB, Sv.geB, Sv.ordB, Sv.small64, Sv.isP, Sv.wSeq, Sv.wRange1, Sv.sFor, hx, i1, i2, inB, isL, lets]
theorem qt2 {F : Fn} {s1 s2 s4 s6 s7 s8 : Option B} (hx : x.length ≤ sizeLine) : ∀ (l : List Nat) (m : Nat), l <:+ x.cps.toList → l.length ≤ m → sWhile (wt_read_2 F) (wb_read_3 F) (m + 1) [sx x, s1, s2, sg, s4, some (.d (.int (pos x.cps.toList l))), s6, s7, s8] = .nx [sx x, s1, s2, sg, s4, some (.d (.int (pos x.cps.toList (ld l)))), s6, s7, s8]
  | [], m, h, _ => by
    rw [while_end (qt1 hx h)]
    rfl
  | c :: r, m, h, hm => by
    cases hc : isL c with
    | false =>
      have t := qt1 (F := F) (s1 := s1) (s2 := s2) (s4 := s4) (s6 := s6) (s7 := s7) (s8 := s8) hx h
      simp only [hc] at t
      rw [while_end t]
      simp [ld, List.dropWhile_cons, hc]
    | true =>
      have t := qt1 (F := F) (s1 := s1) (s2 := s2) (s4 := s4) (s6 := s6) (s7 := s7) (s8 := s8) hx h
      simp only [hc] at t
      have b : wb_read_3 F [sx x, s1, s2, sg, s4, some (.d (.int (pos x.cps.toList (c :: r)))), s6, s7, s8] = .nx [sx x, s1, s2, sg, s4, some (.d (.int (pos x.cps.toList r))), s6, s7, s8] := by
        have e := pos_tail h
        simp [wb_read_3, Sv.sNil, Sv.sCons, Sv.sPass, Sv.sBreak, Sv.sCont, Sv.sExpr, Sv.put, Sv.sSet, Sv.sRet, Sv.sRetN, Sv.sIf, Sv.cVar, Sv.cK, Sv.cE, Sv.cP, Sv.cOp, Sv.cUn, Sv.cChain, Sv.cIf, Sv.cAnd, Sv.cOr, Sv.cNot, Sv.tB, Sv.tAnd, Sv.tOr, Sv.tNot, Sv.tYes, Sv.aNil, Sv.aCons, Sv.aStar, Sv.cCall, Sv.cTup, Sv.cLst, Sv.cSl, Sv.cMeth, Sv.sSetIx, Sv.sPar2, Sv.sPar3, Sv.sAsg, Sv.sAug, Sv.hold, Sv.slot, Sv.outF, Sv.argsB, Sv.slotsOf, Sv.back, Sv.rds, Sv.datas, Sv.gN, Sv.gT, Sv.gL, Sv.gRun, Sv.cFn, Sv.fnD, Sv.sRaise, Sv.R.bind, Sv.R.opt, Sv.R.toS, Sv.RS.seq, Sv.Hd.rd, Sv.B.rd, Sv.toP, Sv.eqP, Sv.neP, Sv.one, Sv.two, Sv.getP, Sv.lenP, Sv.addP, Sv.subP, Sv.mulP, Sv.mulQ, Sv.fdivP, Sv.modP, Sv.powP, Sv.intP, Sv.absP, Sv.max2P, Sv.min2P, Sv.negP, Sv.augAdd, Sv.setD, Sv.mAppend, Sv.ltB, Sv.gtB, Sv.leB, Sv.geB, Sv.ordB, Sv.small64, Sv.isP, Sv.wSeq, Sv.wRange1, Sv.sFor, e]
      obtain ⟨k, rfl⟩ : ∃ k, m = k + 1 := ⟨m - 1, by simp only [List.length_cons] at hm; omega⟩
      rw [while_step t b, qt2 hx r k (suf_tail h) (by simp only [List.length_cons] at hm; omega)]
      simp [ld, List.dropWhile_cons, hc]
/-- what the law's reader says -/
def LdOk (x : Str) (F : Fn) (L : Int) (f : Rd) : Prop := ∀ l, l <:+ x.cps.toList → ∃ o1 o2 o3, F [.d (.str x), .d (.int (pos x.cps.toList l)), .d (.int L)] = .ok (.d (match f l with
  | some (v, r) => .tuple [v, .int (pos x.cps.toList r)]
  | none => .none)) [o1, o2, o3]
theorem qs1 {F : Fn} {s1 s2 s3 s4 s6 s7 s8 : Option B} (hz : x.length ≤ sizeLine) {l : List Nat} (h : l <:+ x.cps.toList) : wt_read_0 F [sx x, s1, s2, s3, s4, some (.d (.int (pos x.cps.toList l))), s6, s7, s8] = .ok (decide (l.head? = some 32)) [sx x, s1, s2, s3, s4, some (.d (.int (pos x.cps.toList l))), s6, s7, s8] := by
  have e := sl1 hz h
  have e2 : (Str.ofString " ") = ⟨#[32]⟩ := by decide
  have e3 := head_eq 32 l
  simp [wt_read_0, Sv.sNil, Sv.sCons, Sv.sPass, Sv.sBreak, Sv.sCont, Sv.sExpr, Sv.put, Sv.sSet, Sv.sRet, Sv.sRetN, Sv.sIf, Sv.cVar, Sv.cK, Sv.cE, Sv.cP, Sv.cOp, Sv.cUn, Sv.cChain, Sv.cIf, Sv.cAnd, Sv.cOr, Sv.cNot, Sv.tB, Sv.tAnd, Sv.tOr, Sv.tNot, Sv.tYes, Sv.aNil, Sv.aCons, Sv.aStar, Sv.cCall, Sv.cTup, Sv.cLst, Sv.cSl, Sv.cMeth, Sv.sSetIx, Sv.sPar2, Sv.sPar3, Sv.sAsg, Sv.sAug, Sv.hold, Sv.slot, Sv.outF, Sv.argsB, Sv.slotsOf, Sv.back, Sv.rds, Sv.datas, Sv.gN, Sv.gT, Sv.gL, Sv.gRun, Sv.cFn, Sv.fnD, Sv.sRaise, Sv.R.bind, Sv.R.opt, Sv.R.toS, Sv.RS.seq, Sv.Hd.rd, Sv.B.rd, Sv.toP, Sv.eqP, Sv.neP, Sv.one, Sv.two, Sv.getP, Sv.lenP, Sv.addP, Sv.subP, Sv.mulP, Sv.mulQ, Sv.fdivP, Sv.modP, Sv.powP, Sv.intP, Sv.absP, Sv.max2P, Sv.min2P, Sv.negP, Sv.augAdd, Sv.setD, Sv.mAppend, Sv.ltB, Sv.gtB, Sv.leB, Sv.geB, Sv.ordB, Sv.small64, Sv.isP, Sv.wSeq, Sv.wRange1, Sv.sFor, e, e2, e3]
theorem qb1 {F : Fn} {s1 s3 s4 s6 s8 : Option B} {L : Int} {acc : List PyData} {r : List Nat} {o1 o2 o3 : Option B} (h : 32 :: r <:+ x.cps.toList) (k : F [.d (.str x), .d (.int (pos x.cps.toList r)), .d (.int (L + 1))] = .ok (.d .none) [o1, o2, o3]) :
    ∃ e0 e1 e2 e, wb_read_1 F [sx x, s1, some (.d (.int L)), s3, s4, some (.d (.int (pos x.cps.toList (32 :: r)))), s6, some (.l acc), s8] = .rt (.d .none) (e0 :: e1 :: e2 :: e) := by
  have e := pos_tail h
  refine ⟨sx x, s1, some (.d (.int L)), [s3, s4, some (.d (.int (pos x.cps.toList (32 :: r)))), s6, some (.l acc), some (.d .none)], ?_⟩
  simp [wb_read_1, Sv.sNil, Sv.sCons, Sv.sPass, Sv.sBreak, Sv.sCont, Sv.sExpr, Sv.put, Sv.sSet, Sv.sRet, Sv.sRetN, Sv.sIf, Sv.cVar, Sv.cK, Sv.cE, Sv.cP, Sv.cOp, Sv.cUn, Sv.cChain, Sv.cIf, Sv.cAnd, Sv.cOr, Sv.cNot, Sv.tB, Sv.tAnd, Sv.tOr, Sv.tNot, Sv.tYes, Sv.aNil, Sv.aCons, Sv.aStar, Sv.cCall, Sv.cTup, Sv.cLst, Sv.cSl, Sv.cMeth, Sv.sSetIx, Sv.sPar2, Sv.sPar3, Sv.sAsg, Sv.sAug, Sv.hold, Sv.slot, Sv.outF, Sv.argsB, Sv.slotsOf, Sv.back, Sv.rds, Sv.datas, Sv.gN, Sv.gT, Sv.gL, Sv.gRun, Sv.cFn, Sv.fnD, Sv.sRaise, Sv.R.bind, Sv.R.opt, Sv.R.toS, Sv.RS.seq, Sv.Hd.rd, Sv.B.rd, Sv.toP, Sv.eqP, Sv.neP, Sv.one, Sv.two, Sv.getP, Sv.lenP, Sv.addP, Sv.subP, Sv.mulP, Sv.mulQ, Sv.fdivP, Sv.modP, Sv.powP, Sv.intP, Sv.absP, Sv.max2P, Sv.min2P, Sv.negP, Sv.augAdd, Sv.setD, Sv.mAppend, Sv.ltB, Sv.gtB, Sv.leB, Sv.geB, Sv.ordB, Sv.small64, Sv.isP, Sv.wSeq, Sv.wRange1, Sv.sFor, e, k, isB]
theorem qb2 {F : Fn} {s1 s3 s4 s6 s8 : Option B} {L : Int} {acc : List PyData} {r r' : List Nat} {v : PyData} {o1 o2 o3 : Option B} (hz : acc.length < sizeLine) (h : 32 :: r <:+ x.cps.toList) (k : F [.d (.str x), .d (.int (pos x.cps.toList r)), .d (.int (L + 1))] = .ok (.d (.tuple [v, .int (pos x.cps.toList r')])) [o1, o2, o3]) :
    wb_read_1 F [sx x, s1, some (.d (.int L)), s3, s4, some (.d (.int (pos x.cps.toList (32 :: r)))), s6, some (.l acc), s8] = .nx [sx x, s1, some (.d (.int L)), s3, s4, some (.d (.int (pos x.cps.toList r'))), s6, some (.l (acc ++ [v])), some (.d (.tuple [v, .int (pos x.cps.toList r')]))] := by
  have e := pos_tail h
  have a0 : L2.atI [v, PyData.int (pos x.cps.toList r')] 0 = some v := at0 _ _
  have a1 : L2.atI [v, PyData.int (pos x.cps.toList r')] 1 = some (.int (pos x.cps.toList r')) := by simp [L2.atI, L2.ixN]
  simp [wb_read_1, Sv.sNil, Sv.sCons, Sv.sPass, Sv.sBreak, Sv.sCont, Sv.sExpr, Sv.put, Sv.sSet, Sv.sRet, Sv.sRetN, Sv.sIf, Sv.cVar, Sv.cK, Sv.cE, Sv.cP, Sv.cOp, Sv.cUn, Sv.cChain, Sv.cIf, Sv.cAnd, Sv.cOr, Sv.cNot, Sv.tB, Sv.tAnd, Sv.tOr, Sv.tNot, Sv.tYes, Sv.aNil, Sv.aCons, Sv.aStar, Sv.cCall, Sv.cTup, Sv.cLst, Sv.cSl, Sv.cMeth, Sv.sSetIx, Sv.sPar2, Sv.sPar3, Sv.sAsg, Sv.sAug, Sv.hold, Sv.slot, Sv.outF, Sv.argsB, Sv.slotsOf, Sv.back, Sv.rds, Sv.datas, Sv.gN, Sv.gT, Sv.gL, Sv.gRun, Sv.cFn, Sv.fnD, Sv.sRaise, Sv.R.bind, Sv.R.opt, Sv.R.toS, Sv.RS.seq, Sv.Hd.rd, Sv.B.rd, Sv.toP, Sv.eqP, Sv.neP, Sv.one, Sv.two, Sv.getP, Sv.lenP, Sv.addP, Sv.subP, Sv.mulP, Sv.mulQ, Sv.fdivP, Sv.modP, Sv.powP, Sv.intP, Sv.absP, Sv.max2P, Sv.min2P, Sv.negP, Sv.augAdd, Sv.setD, Sv.mAppend, Sv.ltB, Sv.gtB, Sv.leB, Sv.geB, Sv.ordB, Sv.small64, Sv.isP, Sv.wSeq, Sv.wRange1, Sv.sFor, e, k, hz, isB, a0, a1]
theorem qLoop {F : Fn} {f : Rd} {L : Int} (hx : x.length ≤ 90000) (hF : LdOk x F (L + 1) f) (hf : Shr f) {s1 s3 s4 s6 : Option B} : ∀ (m k : Nat) (l : List Nat) (acc : List PyData) (s8 : Option B), l <:+ x.cps.toList → l.length < m → l.length < k → acc.length + l.length ≤ 90000 →
    (∀ ps r, goP f m l acc = some (ps, r) → ps.length ≤ 90000 ∧ ∃ s8', sWhile (wt_read_0 F) (wb_read_1 F) k [sx x, s1, some (.d (.int L)), s3, s4, some (.d (.int (pos x.cps.toList l))), s6, some (.l acc), s8] = .nx [sx x, s1, some (.d (.int L)), s3, s4, some (.d (.int (pos x.cps.toList r))), s6, some (.l ps), s8']) ∧
    (goP f m l acc = none → ∃ e0 e1 e2 e, sWhile (wt_read_0 F) (wb_read_1 F) k [sx x, s1, some (.d (.int L)), s3, s4, some (.d (.int (pos x.cps.toList l))), s6, some (.l acc), s8] = .rt (.d .none) (e0 :: e1 :: e2 :: e))
  | 0, k, l, acc, s8, _, h, _, _ => by omega
  | m + 1, 0, l, acc, s8, _, _, h, _ => by omega
  | m + 1, k + 1, l, acc, s8, hl, h1, h2, hz => by
    have hz0 : x.length ≤ sizeLine := by rw [sizeLine_eq]; omega
    have t := qs1 (F := F) (s1 := s1) (s2 := some (.d (.int L))) (s3 := s3) (s4 := s4) (s6 := s6) (s7 := some (.l acc)) (s8 := s8) hz0 hl
    by_cases h32 : ∃ r, l = 32 :: r
    · obtain ⟨r, rfl⟩ := h32
      obtain ⟨o1, o2, o3, c⟩ := hF r (suf_tail hl)
      simp only [List.head?_cons, decide_true] at t
      cases e : f r with
      | none =>
        rw [e] at c
        obtain ⟨e0, e1, e2, e', b⟩ := qb1 (F := F) (s1 := s1) (s3 := s3) (s4 := s4) (s6 := s6) (s8 := s8) (acc := acc) hl c
        have g : goP f (m + 1) (32 :: r) acc = none := by simp only [goP, e]
        rw [g]
        exact ⟨fun ps r h => (by cases h), fun _ => ⟨e0, e1, e2, e', while_ret t b⟩⟩
      | some u =>
        obtain ⟨v, r'⟩ := u
        rw [e] at c
        have hs := hf _ _ _ e
        have l2 := suf_len hs
        simp only [List.length_cons] at h1 h2 hz
        have b := qb2 (F := F) (s1 := s1) (s3 := s3) (s4 := s4) (s6 := s6) (s8 := s8) (acc := acc) (by rw [sizeLine_eq]; omega) hl c
        have ih := qLoop hx hF hf (s1 := s1) (s3 := s3) (s4 := s4) (s6 := s6) m k r' (acc ++ [v]) (some (.d (.tuple [v, .int (pos x.cps.toList r')]))) (hs.trans (suf_tail hl)) (by omega) (by omega) (by simp only [List.length_append, List.length_cons, List.length_nil]; omega)
        have g : goP f (m + 1) (32 :: r) acc = goP f m r' (acc ++ [v]) := by simp only [goP, e]
        rw [g, while_step t b]
        exact ih
    · have g : goP f (m + 1) l acc = some (acc, l) := by
        unfold goP
        split
        · exact absurd ⟨_, rfl⟩ h32
        · rfl
      have tf : decide (l.head? = some 32) = false := by
        cases l with
        | nil => rfl
        | cons c q =>
          have : c ≠ 32 := fun z => h32 ⟨q, by rw [z]⟩
          simp [this]
      rw [tf] at t
      rw [g]
      refine ⟨fun ps r h => ?_, fun h => by cases h⟩
      cases h
      exact ⟨by omega, s8, while_end t⟩
end
end K05
end
section
set_option autoImplicit false
set_option linter.all false
set_option maxRecDepth 100000
namespace K05
open PySem Sv
section
variable {x : Str}
theorem head_no {c : Nat} {l : List Nat} (h : ¬ ∃ r, l = c :: r) : decide (l.head? = some c) = false := by
  cases l with
  | nil => rfl
  | cons d q =>
    have : d ≠ c := fun z => h ⟨q, by rw [z]⟩
    simp [this]
theorem read_word (hx : x.length ≤ 90000) {l : List Nat} (hl : l <:+ x.cps.toList) (h40 : ¬ ∃ r, l = 40 :: r) (L : Int) (fuel : Nat) : ∃ o1 o2 o3, d_read (fuel + 1) [.d (.str x), .d (.int (pos x.cps.toList l)), .d (.int L)] = .ok (.d (.tuple [.str (strOf (lw l)), .int (pos x.cps.toList (ld l))])) [o1, o2, o3] := by
  have hz : x.length ≤ sizeLine := by rw [sizeLine_eq]; omega
  have hlx := len_cps x
  have hll := suf_len hl
  have z2 : 2 ≤ sizeLine := by rw [sizeLine_eq]; decide
  have s := sl1 hz hl
  have p40 : Str.ofString "(" = ⟨#[40]⟩ := by decide
  have e := head_eq 40 l
  rw [head_no h40] at e
  have lp := qt2 (F := d_read fuel) (s1 := some (.d (.int (pos x.cps.toList l)))) (s2 := some (.d (.int L))) (s4 := some (.d (.bool false))) (s6 := none) (s7 := none) (s8 := none) hz l 99999 hl (by omega)
  have c := cut_lw hz hl
  refine ⟨sx x, some (.d (.int (pos x.cps.toList l))), some (.d (.int L)), ?_⟩
  simp [d_read, Sv.sNil, Sv.sCons, Sv.sPass, Sv.sBreak, Sv.sCont, Sv.sExpr, Sv.put, Sv.sSet, Sv.sRet, Sv.sRetN, Sv.sIf, Sv.cVar, Sv.cK, Sv.cE, Sv.cP, Sv.cOp, Sv.cUn, Sv.cChain, Sv.cIf, Sv.cAnd, Sv.cOr, Sv.cNot, Sv.tB, Sv.tAnd, Sv.tOr, Sv.tNot, Sv.tYes, Sv.aNil, Sv.aCons, Sv.aStar, Sv.cCall, Sv.cTup, Sv.cLst, Sv.cSl, Sv.cMeth, Sv.sSetIx, Sv.sPar2, Sv.sPar3, Sv.sAsg, Sv.sAug, Sv.hold, Sv.slot, Sv.outF, Sv.argsB, Sv.slotsOf, Sv.back, Sv.rds, Sv.datas, Sv.gN, Sv.gT, Sv.gL, Sv.gRun, Sv.cFn, Sv.fnD, Sv.sRaise, Sv.R.bind, Sv.R.opt, Sv.R.toS, Sv.RS.seq, Sv.Hd.rd, Sv.B.rd, Sv.toP, Sv.eqP, Sv.neP, Sv.one, Sv.two, Sv.getP, Sv.lenP, Sv.addP, Sv.subP, Sv.mulP, Sv.mulQ, Sv.fdivP, Sv.modP, Sv.powP, Sv.intP, Sv.absP, Sv.max2P, Sv.min2P, Sv.negP, Sv.augAdd, Sv.setD, Sv.mAppend, Sv.ltB, Sv.gtB, Sv.leB, Sv.geB, Sv.ordB, Sv.small64, Sv.isP, Sv.wSeq, Sv.wRange1, Sv.sFor, s, p40, e, lp, c, z2]
theorem read_spec (hx : x.length ≤ 90000) : ∀ (n fuel : Nat) (L : Int), L = 20 - (n : Int) → n < fuel → LdOk x (d_read fuel) L (rl n)
  | n, 0, L, _, h => by omega
  | 0, fuel + 1, L, hL, _ => fun l hl => by
    have hz : x.length ≤ sizeLine := by rw [sizeLine_eq]; omega
    have hlx := len_cps x
    have hll := suf_len hl
    have i1 : (19 : Int) < L := by omega
    by_cases h40 : ∃ r, l = 40 :: r
    · obtain ⟨r, rfl⟩ := h40
      have hr := suf_tail hl
      simp only [List.length_cons] at hll
      have s := sl1 hz hl
      have p40 : Str.ofString "(" = ⟨#[40]⟩ := by decide
      have e := head_eq 40 (40 :: r)
      simp only [List.head?_cons, decide_true] at e
      have ep := pos_tail hl
      have lp := qt2 (F := d_read fuel) (s1 := some (.d (.int (pos x.cps.toList (40 :: r))))) (s2 := some (.d (.int L))) (s4 := some (.d (.bool true))) (s6 := none) (s7 := none) (s8 := none) hz r 99999 hr (by omega)
      have c := cut_lw hz hr
      have o : rl 0 (40 :: r) = none := rfl
      rw [o]
      refine ⟨sx x, some (.d (.int (pos x.cps.toList (40 :: r)))), some (.d (.int L)), ?_⟩
      rw [ep] at s
      simp [-List.take_succ_cons, d_read, Sv.sNil, Sv.sCons, Sv.sPass, Sv.sBreak, Sv.sCont, Sv.sExpr, Sv.put, Sv.sSet, Sv.sRet, Sv.sRetN, Sv.sIf, Sv.cVar, Sv.cK, Sv.cE, Sv.cP, Sv.cOp, Sv.cUn, Sv.cChain, Sv.cIf, Sv.cAnd, Sv.cOr, Sv.cNot, Sv.tB, Sv.tAnd, Sv.tOr, Sv.tNot, Sv.tYes, Sv.aNil, Sv.aCons, Sv.aStar, Sv.cCall, Sv.cTup, Sv.cLst, Sv.cSl, Sv.cMeth, Sv.sSetIx, Sv.sPar2, Sv.sPar3, Sv.sAsg, Sv.sAug, Sv.hold, Sv.slot, Sv.outF, Sv.argsB, Sv.slotsOf, Sv.back, Sv.rds, Sv.datas, Sv.gN, Sv.gT, Sv.gL, Sv.gRun, Sv.cFn, Sv.fnD, Sv.sRaise, Sv.R.bind, Sv.R.opt, Sv.R.toS, Sv.RS.seq, Sv.Hd.rd, Sv.B.rd, Sv.toP, Sv.eqP, Sv.neP, Sv.one, Sv.two, Sv.getP, Sv.lenP, Sv.addP, Sv.subP, Sv.mulP, Sv.mulQ, Sv.fdivP, Sv.modP, Sv.powP, Sv.intP, Sv.absP, Sv.max2P, Sv.min2P, Sv.negP, Sv.augAdd, Sv.setD, Sv.mAppend, Sv.ltB, Sv.gtB, Sv.leB, Sv.geB, Sv.ordB, Sv.small64, Sv.isP, Sv.wSeq, Sv.wRange1, Sv.sFor, ep, s, p40, e, lp, c, i1]
    · have o : rl 0 l = some (.str (strOf (lw l)), ld l) := by
        unfold rl
        split
        · exact absurd ⟨_, rfl⟩ h40
        · rfl
      rw [o]
      exact read_word hx hl h40 L fuel
  | n + 1, fuel + 1, L, hL, hf => fun l hl => by
    have ih := read_spec hx n fuel (L + 1) (by omega) (by omega)
    have hz : x.length ≤ sizeLine := by rw [sizeLine_eq]; omega
    have hlx := len_cps x
    have hll := suf_len hl
    have i1 : ¬ (19 : Int) < L := by omega
    by_cases h40 : ∃ r, l = 40 :: r
    · obtain ⟨r, rfl⟩ := h40
      have hr := suf_tail hl
      simp only [List.length_cons] at hll
      have s := sl1 hz hl
      have p40 : Str.ofString "(" = ⟨#[40]⟩ := by decide
      have p41 : Str.ofString ")" = ⟨#[41]⟩ := by decide
      have e := head_eq 40 (40 :: r)
      simp only [List.head?_cons, decide_true] at e
      have ep := pos_tail hl
      have lp := qt2 (F := d_read fuel) (s1 := some (.d (.int (pos x.cps.toList (40 :: r))))) (s2 := some (.d (.int L))) (s4 := some (.d (.bool true))) (s6 := none) (s7 := none) (s8 := none) hz r 99999 hr (by omega)
      have c := cut_lw hz hr
      rw [ep] at s
      have hd := ld_suf r
      have ldl := suf_len hd
      have hrl := suf_len hr
      obtain ⟨l1, l2⟩ := qLoop (L := L) hx ih (rl_shr n) (s1 := some (.d (.int (pos x.cps.toList (40 :: r))))) (s3 := sg) (s4 := some (.d (.bool true))) (s6 := some (.d (.str (strOf (lw r))))) (r.length + 1) 100000 (ld r) [] none (hd.trans hr) (by omega) (by omega) (by simp only [List.length_nil]; omega)
      have z1 : 1 ≤ sizeLine := by rw [sizeLine_eq]; decide
      have z2 : 2 ≤ sizeLine := by rw [sizeLine_eq]; decide
      show ∃ o1 o2 o3, d_read (fuel + 1) _ = .ok (.d (match one1 (rl n) (40 :: r) with | some (v, r) => _ | none => _)) [o1, o2, o3]
      cases g : goP (rl n) (r.length + 1) (ld r) [] with
      | none =>
        have o : one1 (rl n) (40 :: r) = none := by simp only [one1, g]
        rw [o]
        obtain ⟨e0, e1, e2, e', lo⟩ := l2 g
        refine ⟨e0, e1, e2, ?_⟩
        simp [-List.take_succ_cons, d_read, Sv.sNil, Sv.sCons, Sv.sPass, Sv.sBreak, Sv.sCont, Sv.sExpr, Sv.put, Sv.sSet, Sv.sRet, Sv.sRetN, Sv.sIf, Sv.cVar, Sv.cK, Sv.cE, Sv.cP, Sv.cOp, Sv.cUn, Sv.cChain, Sv.cIf, Sv.cAnd, Sv.cOr, Sv.cNot, Sv.tB, Sv.tAnd, Sv.tOr, Sv.tNot, Sv.tYes, Sv.aNil, Sv.aCons, Sv.aStar, Sv.cCall, Sv.cTup, Sv.cLst, Sv.cSl, Sv.cMeth, Sv.sSetIx, Sv.sPar2, Sv.sPar3, Sv.sAsg, Sv.sAug, Sv.hold, Sv.slot, Sv.outF, Sv.argsB, Sv.slotsOf, Sv.back, Sv.rds, Sv.datas, Sv.gN, Sv.gT, Sv.gL, Sv.gRun, Sv.cFn, Sv.fnD, Sv.sRaise, Sv.R.bind, Sv.R.opt, Sv.R.toS, Sv.RS.seq, Sv.Hd.rd, Sv.B.rd, Sv.toP, Sv.eqP, Sv.neP, Sv.one, Sv.two, Sv.getP, Sv.lenP, Sv.addP, Sv.subP, Sv.mulP, Sv.mulQ, Sv.fdivP, Sv.modP, Sv.powP, Sv.intP, Sv.absP, Sv.max2P, Sv.min2P, Sv.negP, Sv.augAdd, Sv.setD, Sv.mAppend, Sv.ltB, Sv.gtB, Sv.leB, Sv.geB, Sv.ordB, Sv.small64, Sv.isP, Sv.wSeq, Sv.wRange1, Sv.sFor, ep, s, p40, e, lp, c, i1, lo]
      | some u =>
        obtain ⟨ps, r'⟩ := u
        obtain ⟨psl, s8, lo⟩ := l1 ps r' g
        have hs := (goP_shr (rl_shr n) _ _ _ _ _ g).trans (hd.trans hr)
        have s' := sl1 hz hs
        have e' := head_eq 41 r'
        by_cases h41 : ∃ r'', r' = 41 :: r''
        · obtain ⟨r'', rfl⟩ := h41
          have o : one1 (rl n) (40 :: r) = some (.tuple (.str (strOf (lw r)) :: ps), r'') := by simp only [one1, g]
          rw [o]
          simp only [List.head?_cons, decide_true] at e'
          have ep2 := pos_tail hs
          rw [ep2] at s'
          refine ⟨sx x, some (.d (.int (pos x.cps.toList (40 :: r)))), some (.d (.int L)), ?_⟩
          have zz : 1 + ps.length ≤ sizeLine := by rw [sizeLine_eq]; omega
          simp [-List.take_succ_cons, d_read, Sv.sNil, Sv.sCons, Sv.sPass, Sv.sBreak, Sv.sCont, Sv.sExpr, Sv.put, Sv.sSet, Sv.sRet, Sv.sRetN, Sv.sIf, Sv.cVar, Sv.cK, Sv.cE, Sv.cP, Sv.cOp, Sv.cUn, Sv.cChain, Sv.cIf, Sv.cAnd, Sv.cOr, Sv.cNot, Sv.tB, Sv.tAnd, Sv.tOr, Sv.tNot, Sv.tYes, Sv.aNil, Sv.aCons, Sv.aStar, Sv.cCall, Sv.cTup, Sv.cLst, Sv.cSl, Sv.cMeth, Sv.sSetIx, Sv.sPar2, Sv.sPar3, Sv.sAsg, Sv.sAug, Sv.hold, Sv.slot, Sv.outF, Sv.argsB, Sv.slotsOf, Sv.back, Sv.rds, Sv.datas, Sv.gN, Sv.gT, Sv.gL, Sv.gRun, Sv.cFn, Sv.fnD, Sv.sRaise, Sv.R.bind, Sv.R.opt, Sv.R.toS, Sv.RS.seq, Sv.Hd.rd, Sv.B.rd, Sv.toP, Sv.eqP, Sv.neP, Sv.one, Sv.two, Sv.getP, Sv.lenP, Sv.addP, Sv.subP, Sv.mulP, Sv.mulQ, Sv.fdivP, Sv.modP, Sv.powP, Sv.intP, Sv.absP, Sv.max2P, Sv.min2P, Sv.negP, Sv.augAdd, Sv.setD, Sv.mAppend, Sv.ltB, Sv.gtB, Sv.leB, Sv.geB, Sv.ordB, Sv.small64, Sv.isP, Sv.wSeq, Sv.wRange1, Sv.sFor, ep, s, p40, p41, e, lp, c, i1, lo, ep2, s', e', tupleP, z1, z2, zz]
        · have o : one1 (rl n) (40 :: r) = none := by
            simp only [one1, g]
            split
            · rename_i q
              cases q
              exact absurd ⟨_, rfl⟩ h41
            · rfl
          rw [o]
          rw [head_no h41] at e'
          refine ⟨sx x, some (.d (.int (pos x.cps.toList (40 :: r)))), some (.d (.int L)), ?_⟩
          simp [-List.take_succ_cons, d_read, Sv.sNil, Sv.sCons, Sv.sPass, Sv.sBreak, Sv.sCont, Sv.sExpr, Sv.put, Sv.sSet, Sv.sRet, Sv.sRetN, Sv.sIf, Sv.cVar, Sv.cK, Sv.cE, Sv.cP, Sv.cOp, Sv.cUn, Sv.cChain, Sv.cIf, Sv.cAnd, Sv.cOr, Sv.cNot, Sv.tB, Sv.tAnd, Sv.tOr, Sv.tNot, Sv.tYes, Sv.aNil, Sv.aCons, Sv.aStar, Sv.cCall, Sv.cTup, Sv.cLst, Sv.cSl, Sv.cMeth, Sv.sSetIx, Sv.sPar2, Sv.sPar3, Sv.sAsg, Sv.sAug, Sv.hold, Sv.slot, Sv.outF, Sv.argsB, Sv.slotsOf, Sv.back, Sv.rds, Sv.datas, Sv.gN, Sv.gT, Sv.gL, Sv.gRun, Sv.cFn, Sv.fnD, Sv.sRaise, Sv.R.bind, Sv.R.opt, Sv.R.toS, Sv.RS.seq, Sv.Hd.rd, Sv.B.rd, Sv.toP, Sv.eqP, Sv.neP, Sv.one, Sv.two, Sv.getP, Sv.lenP, Sv.addP, Sv.subP, Sv.mulP, Sv.mulQ, Sv.fdivP, Sv.modP, Sv.powP, Sv.intP, Sv.absP, Sv.max2P, Sv.min2P, Sv.negP, Sv.augAdd, Sv.setD, Sv.mAppend, Sv.ltB, Sv.gtB, Sv.leB, Sv.geB, Sv.ordB, Sv.small64, Sv.isP, Sv.wSeq, Sv.wRange1, Sv.sFor, ep, s, p40, p41, e, lp, c, i1, lo, s', e']
    · have o : rl (n + 1) l = some (.str (strOf (lw l)), ld l) := by
        show one1 _ _ = _
        unfold one1
        split
        · exact absurd ⟨_, rfl⟩ h40
        · rfl
      rw [o]
      exact read_word hx hl h40 L fuel
end
end K05
end
section
set_option autoImplicit false
set_option linter.all false
set_option maxRecDepth 100000
namespace K05
open PySem Sv
/-! ### the readers agree -/
theorem goP_sub {f g : Rd} (h : ∀ l t, f l = some t → g l = some t) : ∀ (m : Nat) (l : List Nat) (acc : List PyData) (t : List PyData × List Nat), goP f m l acc = some t → goP g m l acc = some t
  | 0, l, acc, t, k => by cases k
  | m + 1, l, acc, t, k => by
    unfold goP at k ⊢
    split at k
    · rename_i r
      cases e : f r with
      | none => rw [e] at k; cases k
      | some u =>
        obtain ⟨v, r'⟩ := u
        rw [e] at k
        have e2 := h _ _ e
        simp only [e2]
        exact goP_sub h m r' _ t k
    · exact k
theorem one1_sub {f g : Rd} (h : ∀ l t, f l = some t → g l = some t) : ∀ l t, one1 f l = some t → one1 g l = some t := fun l t k => by
  by_cases h40 : ∃ r, l = 40 :: r
  · obtain ⟨r, rfl⟩ := h40
    simp only [one1] at k ⊢
    cases e : goP f (r.length + 1) (ld r) [] with
    | none => rw [e] at k; cases k
    | some u =>
      rw [e] at k
      rw [goP_sub h _ _ _ _ e]
      exact k
  · unfold one1 at k ⊢
    split at k
    · exact absurd ⟨_, rfl⟩ h40
    · exact k
theorem pr_rl : ∀ (n m : Nat), n ≤ m → ∀ l t, pr n l = some t → rl m l = some t
  | 0, m, _, l, t, k => by cases k
  | n + 1, 0, h, l, t, k => by omega
  | n + 1, m + 1, h, l, t, k => one1_sub (pr_rl n m (by omega)) l t k
theorem goP_acc_mem {f : Rd} : ∀ (m : Nat) (l : List Nat) (acc ps : List PyData) (r : List Nat), goP f m l acc = some (ps, r) → ∀ v ∈ acc, v ∈ ps
  | 0, l, acc, ps, r, k, v, hv => by cases k
  | m + 1, l, acc, ps, r, k, v, hv => by
    unfold goP at k
    split at k
    · rename_i r0
      cases e : f r0 with
      | none => rw [e] at k; cases k
      | some u =>
        obtain ⟨w, r'⟩ := u
        rw [e] at k
        exact goP_acc_mem m r' _ _ _ k v (List.mem_append_left _ hv)
    · cases k
      exact hv
theorem goP_gap {f g : Rd} (h : ∀ l t, f l = some t → g l = some t) : ∀ (m : Nat) (l : List Nat) (acc ps : List PyData) (r : List Nat), goP f m l acc = none → goP g m l acc = some (ps, r) → ∃ l' v' r', f l' = none ∧ g l' = some (v', r') ∧ v' ∈ ps
  | 0, l, acc, ps, r, k, q => by cases q
  | m + 1, l, acc, ps, r, k, q => by
    unfold goP at k q
    split at q
    · rename_i r0
      cases e : f r0 with
      | none =>
        cases e2 : g r0 with
        | none => rw [e2] at q; cases q
        | some u =>
          obtain ⟨v', r'⟩ := u
          rw [e2] at q
          exact ⟨r0, v', r', e, e2, goP_acc_mem _ _ _ _ _ q v' (by simp)⟩
      | some u =>
        obtain ⟨v', r'⟩ := u
        rw [h _ _ e] at q
        simp only [e] at k
        exact goP_gap h m r' _ _ _ k q
    · rename_i h32
      split at k
      · rename_i r1
        exact absurd rfl (h32 r1)
      · cases k
theorem ttGo_none {f : PyData → Option N3} : ∀ {ps : List PyData} {s : N3} {p : PyData}, p ∈ ps → f p = none → ttGo f ps s = none := fun {ps s p} hp hn => by
  cases e : ttGo f ps s with
  | none => rfl
  | some t =>
    obtain ⟨u, k, _⟩ := ttGo_mem e p hp
    rw [hn] at k
    cases k
theorem pr_gap : ∀ (n m : Nat), n + 1 ≤ m → ∀ l v r, pr (n + 1) l = none → rl m l = some (v, r) → tt n v = none
  | n, 0, h, l, v, r, k, q => by omega
  | n, m + 1, h, l, v, r, k, q => by
    by_cases h40 : ∃ r, l = 40 :: r
    · obtain ⟨r0, rfl⟩ := h40
      have k : one1 (pr n) (40 :: r0) = none := k
      have q : one1 (rl m) (40 :: r0) = some (v, r) := q
      simp only [one1] at k q
      cases e2 : goP (rl m) (r0.length + 1) (ld r0) [] with
      | none => rw [e2] at q; cases q
      | some u =>
        obtain ⟨ps, r1⟩ := u
        rw [e2] at q
        have nn : isNm v = false ∧ parts v = ps := by
          split at q
          · rename_i z
            cases q
            cases z
            exact ⟨rfl, rfl⟩
          · cases q
        have gn : goP (pr n) (r0.length + 1) (ld r0) [] = none := by
          cases e : goP (pr n) (r0.length + 1) (ld r0) [] with
          | none => rfl
          | some u =>
            have z := goP_sub (pr_rl n m (by omega)) _ _ _ _ e
            rw [e2] at z
            cases z
            rw [e] at k
            split at k
            · cases k
            · rename_i hne
              split at q
              · rename_i ps' r' z
                exact absurd z (hne ps' r')
              · cases q
        obtain ⟨l', v', r', f1, f2, f3⟩ := goP_gap (pr_rl n m (by omega)) _ _ _ _ _ gn e2
        cases n with
        | zero => simp [tt, nn.1]
        | succ n =>
          have := pr_gap n m (by omega) l' v' r' f1 f2
          rw [tt]
          simp only [nn.1, nn.2, Bool.false_eq_true, if_false, ttGo_none f3 this]
          split <;> rfl
    · have : pr (n + 1) l ≠ none := by
        show one1 (pr n) l ≠ none
        unfold one1
        split
        · exact absurd ⟨_, rfl⟩ h40
        · intro z; cases z
      exact absurd k this
/-! ### what the readers give is short enough -/
theorem goP_fit {f : Rd} (N : Nat) (hs : Shr f) (h : ∀ l v r, l.length ≤ N → f l = some (v, r) → fit v = true) : ∀ (m : Nat) (l : List Nat) (acc ps : List PyData) (r : List Nat), l.length ≤ N → fitAll acc = true → goP f m l acc = some (ps, r) → fitAll ps = true
  | 0, l, acc, ps, r, _, _, k => by cases k
  | m + 1, l, acc, ps, r, hl, ha, k => by
    unfold goP at k
    split at k
    · rename_i r0
      simp only [List.length_cons] at hl
      cases e : f r0 with
      | none => rw [e] at k; cases k
      | some u =>
        obtain ⟨w, r'⟩ := u
        rw [e] at k
        have := suf_len (hs _ _ _ e)
        refine goP_fit N hs h m r' _ _ _ (by omega) ?_ k
        refine fitAll_of fun y hy => ?_
        rcases List.mem_append.mp hy with hy | hy
        · exact fitAll_mem ha y hy
        · rw [List.mem_singleton.mp hy]
          exact h r0 w r' (by omega) e
    · cases k
      exact ha
theorem lw_len (l : List Nat) : (lw l).length ≤ l.length := by
  have e := congrArg List.length (lw_ld l)
  rw [List.length_append] at e
  omega
theorem fit_lw {l : List Nat} (h : l.length ≤ 90000) : fit (.str (strOf (lw l))) = true := by
  have := lw_len l
  simp only [fit, strOf_len, decide_eq_true_eq, sizeLine_eq]
  omega
theorem one1_fit {f : Rd} (hs : Shr f) (h : ∀ l v r, l.length ≤ 90000 → f l = some (v, r) → fit v = true) : ∀ l v r, l.length ≤ 90000 → one1 f l = some (v, r) → fit v = true := fun l v r hl k => by
  unfold one1 at k
  split at k
  · rename_i r0
    simp only [List.length_cons] at hl
    split at k
    · rename_i ps r' e
      cases k
      have := suf_len (ld_suf r0)
      have a := goP_fit 90000 hs h _ _ _ _ _ (by omega) rfl e
      simp only [fit, fitAll, Bool.and_eq_true] at a ⊢
      have := fit_lw (l := r0) (by omega)
      simp only [fit] at this
      exact ⟨this, a⟩
    · cases k
  · cases k
    exact fit_lw hl
theorem pr_fit : ∀ n l v r, l.length ≤ 90000 → pr n l = some (v, r) → fit v = true
  | 0, l, v, r, _, k => by cases k
  | n + 1, l, v, r, hl, k => one1_fit (pr_shr n) (pr_fit n) l v r hl k
theorem rl_fit : ∀ n l v r, l.length ≤ 90000 → rl n l = some (v, r) → fit v = true
  | 0, l, v, r, hl, k => by
    unfold rl at k
    split at k
    · cases k
    · cases k
      exact fit_lw hl
  | n + 1, l, v, r, hl, k => one1_fit (rl_shr n) (rl_fit n) l v r hl k
/-! ### there and back -/
def noL (r : List Nat) : Prop := ∀ c q, r = c :: q → isL c = false
theorem lw_app {w r : List Nat} (hw : w.all isL = true) (hr : noL r) : lw (w ++ r) = w ∧ ld (w ++ r) = r := by
  induction w with
  | nil =>
    cases r with
    | nil => exact ⟨rfl, rfl⟩
    | cons c q =>
      have := hr c q rfl
      simp [lw, ld, List.takeWhile_cons, List.dropWhile_cons, this]
  | cons c w ih =>
    simp only [List.all_cons, Bool.and_eq_true] at hw
    obtain ⟨a, b⟩ := ih hw.2
    simp only [lw, ld] at a b
    simp [lw, ld, List.takeWhile_cons, List.dropWhile_cons, hw.1, a, b]
theorem fr_lets {x : Str} {n : Nat} (h : isFr x n = true) : x.cps.toList.all isL = true := by
  unfold isFr at h
  simp only [Bool.or_eq_true, Bool.and_eq_true, decide_eq_true_eq] at h
  rcases h with (rfl | rfl) | ⟨(rfl | rfl) | rfl, _⟩ <;> decide
theorem goP_back {f : Rd} {g : PyData → List Nat} (hs : Shr f) {r : List Nat} : ∀ (ps : List PyData) (m : Nat) (acc : List PyData), (∀ p ∈ ps, ∀ r, noL r → f (g p ++ r) = some (p, r)) → (ps.flatMap (fun p => 32 :: g p) ++ 41 :: r).length < m → goP f m (ps.flatMap (fun p => 32 :: g p) ++ 41 :: r) acc = some (acc ++ ps, 41 :: r)
  | ps, 0, acc, _, h => by omega
  | [], m + 1, acc, _, h => by
    simp [goP]
  | p :: ps, m + 1, acc, hp, h => by
    have e : (p :: ps).flatMap (fun p => 32 :: g p) ++ 41 :: r = 32 :: (g p ++ (ps.flatMap (fun p => 32 :: g p) ++ 41 :: r)) := by simp
    rw [e] at h ⊢
    have nl : noL (ps.flatMap (fun p => 32 :: g p) ++ 41 :: r) := fun c q z => by
      cases ps with
      | nil =>
        simp at z
        rw [← z.1]
        decide
      | cons p' ps' =>
        simp at z
        rw [← z.1]
        decide
    have k := hp p List.mem_cons_self _ nl
    simp only [goP, k]
    simp only [List.length_cons, List.length_append] at h
    rw [goP_back hs ps m _ (fun p h => hp p (List.mem_cons_of_mem _ h)) (by simp only [List.length_cons, List.length_append]; omega)]
    simp
theorem nm_lets {x : Str} (h : nmS x = true) : x.cps.toList.all isL = true := by
  unfold nmS at h
  simp only [Bool.and_eq_true] at h
  exact h.2.2
theorem back : ∀ (n : Nat) (v : PyData) (t : N3), tt n v = some t → ∀ r, noL r → pr (n + 1) ((txt n v).cps.toList ++ r) = some (v, r) := by
  intro n
  have word : ∀ (m : Nat) (x : Str), nmS x = true → ∀ r, noL r → pr (m + 1) (x.cps.toList ++ r) = some (.str x, r) := fun m x hx r hr => by
    obtain ⟨a, b⟩ := lw_app (nm_lets hx) hr
    have h1 := (nm_len hx).1
    rw [len_cps] at h1
    have h40 : ¬ ∃ q, x.cps.toList ++ r = 40 :: q := by
      rintro ⟨q, z⟩
      cases e : x.cps.toList with
      | nil => rw [e] at h1; simp at h1
      | cons c w =>
        have al := nm_lets hx
        rw [e] at z al
        simp at z
        rw [z.1] at al
        simp only [List.all_cons, Bool.and_eq_true] at al
        exact absurd al.1 (by decide)
    show one1 (pr m) _ = _
    unfold one1
    split
    · rename_i z
      exact absurd ⟨_, z⟩ h40
    · rw [a, b, strOf_self]
  induction n with
  | zero =>
    intro v t h r hr
    rcases tt_cases h with ⟨x, rfl, k, rfl⟩ | ⟨m, x, ps, hm, _⟩
    · exact word 0 x k r hr
    · omega
  | succ n ih =>
    intro v t h r hr
    rcases tt_cases h with ⟨x, rfl, k, rfl⟩ | ⟨m, x, ps, hm, rfl, fr, _, k⟩
    · exact word _ x k r hr
    · obtain rfl : n = m := by omega
      rw [txt_cps]
      have sub : ∀ p ∈ ps, ∀ r, noL r → pr (n + 1) ((txt n p).cps.toList ++ r) = some (p, r) := fun p hp => by
        obtain ⟨u, e, _, _⟩ := ttGo_mem k p hp
        exact ih p u e
      have e : 40 :: (x.cps.toList ++ ps.flatMap (fun p => 32 :: (txt n p).cps.toList) ++ [41]) ++ r = 40 :: (x.cps.toList ++ (ps.flatMap (fun p => 32 :: (txt n p).cps.toList) ++ 41 :: r)) := by simp
      rw [e]
      have nl : noL (ps.flatMap (fun p => 32 :: (txt n p).cps.toList) ++ 41 :: r) := fun c q z => by
        cases ps with
        | nil =>
          simp at z
          rw [← z.1]
          decide
        | cons p' ps' =>
          simp at z
          rw [← z.1]
          decide
      obtain ⟨a, b⟩ := lw_app (fr_lets fr) nl
      have g := goP_back (g := fun p => (txt n p).cps.toList) (pr_shr (n + 1)) (r := r) ps ((x.cps.toList ++ (ps.flatMap (fun p => 32 :: (txt n p).cps.toList) ++ 41 :: r)).length + 1) [] sub (by simp only [List.length_append, List.length_cons]; omega)
      show one1 (pr (n + 1)) _ = _
      simp only [one1, b, g, a, strOf_self, List.nil_append]
end K05
end
section
set_option autoImplicit false
set_option linter.all false
set_option maxRecDepth 100000
namespace K05
open PySem Sv
/-! ### expression_of -/
def exo (l : List Nat) : Option PyData := match pr 7 l with
  | some (v, []) => if isExpr v = true then some v else none
  | _ => none
def errP : Ex := ⟨"ParseError", []⟩
def errE : Ex := ⟨"InvalidExpression", []⟩
theorem pos_self (T : List Nat) : pos T T = 0 := by unfold pos; omega
theorem eof_none {x : Str} (hx : x.length ≤ 90000) (h : exo x.cps.toList = none) : ∃ o, d_expression_of [.d (.str x)] = .ex errP [o] := by
  have hz : x.length ≤ sizeLine := by rw [sizeLine_eq]; omega
  have k := read_from_spec hx 7 9 0 (by omega) (by omega) x.cps.toList (List.suffix_refl _)
  rw [pos_self] at k
  have hl := len_cps x
  cases e : pr 7 x.cps.toList with
  | none =>
    rw [e] at k
    obtain ⟨o1, o2, o3, k⟩ := k
    refine ⟨some (.d (.str x)), ?_⟩
    simp [d_expression_of, Sv.sNil, Sv.sCons, Sv.sPass, Sv.sBreak, Sv.sCont, Sv.sExpr, Sv.put, Sv.sSet, Sv.sRet, Sv.sRetN, Sv.sIf, Sv.cVar, Sv.cK, Sv.cE, Sv.cP, Sv.cOp, Sv.cUn, Sv.cChain, Sv.cIf, Sv.cAnd, Sv.cOr, Sv.cNot, Sv.tB, Sv.tAnd, Sv.tOr, Sv.tNot, Sv.tYes, Sv.aNil, Sv.aCons, Sv.aStar, Sv.cCall, Sv.cTup, Sv.cLst, Sv.cSl, Sv.cMeth, Sv.sSetIx, Sv.sPar2, Sv.sPar3, Sv.sAsg, Sv.sAug, Sv.hold, Sv.slot, Sv.outF, Sv.argsB, Sv.slotsOf, Sv.back, Sv.rds, Sv.datas, Sv.gN, Sv.gT, Sv.gL, Sv.gRun, Sv.cFn, Sv.fnD, Sv.sRaise, Sv.R.bind, Sv.R.opt, Sv.R.toS, Sv.RS.seq, Sv.Hd.rd, Sv.B.rd, Sv.toP, Sv.eqP, Sv.neP, Sv.one, Sv.two, Sv.getP, Sv.lenP, Sv.addP, Sv.subP, Sv.mulP, Sv.mulQ, Sv.fdivP, Sv.modP, Sv.powP, Sv.intP, Sv.absP, Sv.max2P, Sv.min2P, Sv.negP, Sv.augAdd, Sv.setD, Sv.mAppend, Sv.ltB, Sv.gtB, Sv.leB, Sv.geB, Sv.ordB, Sv.small64, Sv.isP, Sv.wSeq, Sv.wRange1, Sv.sFor, isStr, k, errP]
  | some u =>
    obtain ⟨v, r⟩ := u
    rw [e] at k
    obtain ⟨o1, o2, o3, k⟩ := k
    have ft := pr_fit 7 _ v r (by omega) e
    have es := expr_spec v ft
    refine ⟨some (.d (.str x)), ?_⟩
    cases r with
    | nil =>
      have i1 : ¬ pos x.cps.toList [] < (x.length : Int) := by unfold pos; simp only [List.length_nil]; omega
      have i2 : isExpr v = false := by
        cases i : isExpr v with
        | false => rfl
        | true => simp [exo, e, i] at h
      rw [i2] at es
      simp [d_expression_of, Sv.sNil, Sv.sCons, Sv.sPass, Sv.sBreak, Sv.sCont, Sv.sExpr, Sv.put, Sv.sSet, Sv.sRet, Sv.sRetN, Sv.sIf, Sv.cVar, Sv.cK, Sv.cE, Sv.cP, Sv.cOp, Sv.cUn, Sv.cChain, Sv.cIf, Sv.cAnd, Sv.cOr, Sv.cNot, Sv.tB, Sv.tAnd, Sv.tOr, Sv.tNot, Sv.tYes, Sv.aNil, Sv.aCons, Sv.aStar, Sv.cCall, Sv.cTup, Sv.cLst, Sv.cSl, Sv.cMeth, Sv.sSetIx, Sv.sPar2, Sv.sPar3, Sv.sAsg, Sv.sAug, Sv.hold, Sv.slot, Sv.outF, Sv.argsB, Sv.slotsOf, Sv.back, Sv.rds, Sv.datas, Sv.gN, Sv.gT, Sv.gL, Sv.gRun, Sv.cFn, Sv.fnD, Sv.sRaise, Sv.R.bind, Sv.R.opt, Sv.R.toS, Sv.RS.seq, Sv.Hd.rd, Sv.B.rd, Sv.toP, Sv.eqP, Sv.neP, Sv.one, Sv.two, Sv.getP, Sv.lenP, Sv.addP, Sv.subP, Sv.mulP, Sv.mulQ, Sv.fdivP, Sv.modP, Sv.powP, Sv.intP, Sv.absP, Sv.max2P, Sv.min2P, Sv.negP, Sv.augAdd, Sv.setD, Sv.mAppend, Sv.ltB, Sv.gtB, Sv.leB, Sv.geB, Sv.ordB, Sv.small64, Sv.isP, Sv.wSeq, Sv.wRange1, Sv.sFor, isStr, k, errP, hz, i1, es]
    | cons c r =>
      have := suf_len (pr_shr 7 _ _ _ e)
      simp only [List.length_cons] at this
      have i1 : pos x.cps.toList (c :: r) < (x.length : Int) := by unfold pos; simp only [List.length_cons]; omega
      simp [d_expression_of, Sv.sNil, Sv.sCons, Sv.sPass, Sv.sBreak, Sv.sCont, Sv.sExpr, Sv.put, Sv.sSet, Sv.sRet, Sv.sRetN, Sv.sIf, Sv.cVar, Sv.cK, Sv.cE, Sv.cP, Sv.cOp, Sv.cUn, Sv.cChain, Sv.cIf, Sv.cAnd, Sv.cOr, Sv.cNot, Sv.tB, Sv.tAnd, Sv.tOr, Sv.tNot, Sv.tYes, Sv.aNil, Sv.aCons, Sv.aStar, Sv.cCall, Sv.cTup, Sv.cLst, Sv.cSl, Sv.cMeth, Sv.sSetIx, Sv.sPar2, Sv.sPar3, Sv.sAsg, Sv.sAug, Sv.hold, Sv.slot, Sv.outF, Sv.argsB, Sv.slotsOf, Sv.back, Sv.rds, Sv.datas, Sv.gN, Sv.gT, Sv.gL, Sv.gRun, Sv.cFn, Sv.fnD, Sv.sRaise, Sv.R.bind, Sv.R.opt, Sv.R.toS, Sv.RS.seq, Sv.Hd.rd, Sv.B.rd, Sv.toP, Sv.eqP, Sv.neP, Sv.one, Sv.two, Sv.getP, Sv.lenP, Sv.addP, Sv.subP, Sv.mulP, Sv.mulQ, Sv.fdivP, Sv.modP, Sv.powP, Sv.intP, Sv.absP, Sv.max2P, Sv.min2P, Sv.negP, Sv.augAdd, Sv.setD, Sv.mAppend, Sv.ltB, Sv.gtB, Sv.leB, Sv.geB, Sv.ordB, Sv.small64, Sv.isP, Sv.wSeq, Sv.wRange1, Sv.sFor, isStr, k, errP, hz, i1]
theorem eof_some {x : Str} (hx : x.length ≤ 90000) {v : PyData} (h : exo x.cps.toList = some v) : isExpr v = true ∧ ∃ o, d_expression_of [.d (.str x)] = .ok (.d v) [o] := by
  have hz : x.length ≤ sizeLine := by rw [sizeLine_eq]; omega
  have k := read_from_spec hx 7 9 0 (by omega) (by omega) x.cps.toList (List.suffix_refl _)
  rw [pos_self] at k
  have hl := len_cps x
  unfold exo at h
  split at h
  · rename_i w e
    split at h
    · rename_i i2
      cases h
      rw [e] at k
      obtain ⟨o1, o2, o3, k⟩ := k
      have ft := pr_fit 7 _ v [] (by omega) e
      have es := expr_spec v ft
      rw [i2] at es
      have i1 : ¬ pos x.cps.toList [] < (x.length : Int) := by unfold pos; simp only [List.length_nil]; omega
      refine ⟨i2, some (.d (.str x)), ?_⟩
      simp [d_expression_of, Sv.sNil, Sv.sCons, Sv.sPass, Sv.sBreak, Sv.sCont, Sv.sExpr, Sv.put, Sv.sSet, Sv.sRet, Sv.sRetN, Sv.sIf, Sv.cVar, Sv.cK, Sv.cE, Sv.cP, Sv.cOp, Sv.cUn, Sv.cChain, Sv.cIf, Sv.cAnd, Sv.cOr, Sv.cNot, Sv.tB, Sv.tAnd, Sv.tOr, Sv.tNot, Sv.tYes, Sv.aNil, Sv.aCons, Sv.aStar, Sv.cCall, Sv.cTup, Sv.cLst, Sv.cSl, Sv.cMeth, Sv.sSetIx, Sv.sPar2, Sv.sPar3, Sv.sAsg, Sv.sAug, Sv.hold, Sv.slot, Sv.outF, Sv.argsB, Sv.slotsOf, Sv.back, Sv.rds, Sv.datas, Sv.gN, Sv.gT, Sv.gL, Sv.gRun, Sv.cFn, Sv.fnD, Sv.sRaise, Sv.R.bind, Sv.R.opt, Sv.R.toS, Sv.RS.seq, Sv.Hd.rd, Sv.B.rd, Sv.toP, Sv.eqP, Sv.neP, Sv.one, Sv.two, Sv.getP, Sv.lenP, Sv.addP, Sv.subP, Sv.mulP, Sv.mulQ, Sv.fdivP, Sv.modP, Sv.powP, Sv.intP, Sv.absP, Sv.max2P, Sv.min2P, Sv.negP, Sv.augAdd, Sv.setD, Sv.mAppend, Sv.ltB, Sv.gtB, Sv.leB, Sv.geB, Sv.ordB, Sv.small64, Sv.isP, Sv.wSeq, Sv.wRange1, Sv.sFor, isStr, k, hz, i1, es]
    · cases h
  · cases h
theorem eof_not {v : PyData} (h : isStr v = false) : ∃ o, d_expression_of [.d v] = .ex errP [o] := by
  refine ⟨some (.d v), ?_⟩
  simp [d_expression_of, Sv.sNil, Sv.sCons, Sv.sPass, Sv.sBreak, Sv.sCont, Sv.sExpr, Sv.put, Sv.sSet, Sv.sRet, Sv.sRetN, Sv.sIf, Sv.cVar, Sv.cK, Sv.cE, Sv.cP, Sv.cOp, Sv.cUn, Sv.cChain, Sv.cIf, Sv.cAnd, Sv.cOr, Sv.cNot, Sv.tB, Sv.tAnd, Sv.tOr, Sv.tNot, Sv.tYes, Sv.aNil, Sv.aCons, Sv.aStar, Sv.cCall, Sv.cTup, Sv.cLst, Sv.cSl, Sv.cMeth, Sv.sSetIx, Sv.sPar2, Sv.sPar3, Sv.sAsg, Sv.sAug, Sv.hold, Sv.slot, Sv.outF, Sv.argsB, Sv.slotsOf, Sv.back, Sv.rds, Sv.datas, Sv.gN, Sv.gT, Sv.gL, Sv.gRun, Sv.cFn, Sv.fnD, Sv.sRaise, Sv.R.bind, Sv.R.opt, Sv.R.toS, Sv.RS.seq, Sv.Hd.rd, Sv.B.rd, Sv.toP, Sv.eqP, Sv.neP, Sv.one, Sv.two, Sv.getP, Sv.lenP, Sv.addP, Sv.subP, Sv.mulP, Sv.mulQ, Sv.fdivP, Sv.modP, Sv.powP, Sv.intP, Sv.absP, Sv.max2P, Sv.min2P, Sv.negP, Sv.augAdd, Sv.setD, Sv.mAppend, Sv.ltB, Sv.gtB, Sv.leB, Sv.geB, Sv.ordB, Sv.small64, Sv.isP, Sv.wSeq, Sv.wRange1, Sv.sFor, h, errP]
/-- the law's due, of the text -/
theorem due_ex (l : List Nat) : (match rl 20 l with | some (v, []) => if isExpr v = true then some v else none | _ => none) = exo l := by
  unfold exo
  cases e : pr 7 l with
  | some u => rw [pr_rl 7 20 (by omega) l u e]
  | none =>
    cases e2 : rl 20 l with
    | none => rfl
    | some u =>
      obtain ⟨v, r⟩ := u
      have g := pr_gap 6 20 (by omega) l v r e e2
      have i : isExpr v = false := by
        unfold isExpr
        rw [cw_tt, g]
        rfl
      cases r with
      | nil => simp [i]
      | cons c r => rfl
/-! ### what is an expression -/
theorem expr_tt {v : PyData} (h : isExpr v = true) : ∃ t, tt 6 v = some t ∧ t.1 ≤ 12 ∧ t.2.1 ≤ 40 := by
  unfold isExpr at h
  rw [cw_tt] at h
  cases e : tt 6 v with
  | none => rw [e] at h; cases h
  | some t =>
    rw [e] at h
    simp only [Option.bind_some, bnd] at h
    split at h
    · rename_i hb
      exact ⟨t, rfl, hb.1, hb.2⟩
    · cases h
theorem ex_txt {v : PyData} (h : isExpr v = true) : exo (txt 6 v).cps.toList = some v := by
  obtain ⟨t, e, _, _⟩ := expr_tt h
  have b := back 6 v t e [] (fun c q z => by cases z)
  rw [List.append_nil] at b
  simp only [exo, b, h, if_true]
theorem require_spec {v : PyData} (hv : fit v = true) (h : isExpr v = true) : ∃ o, d_require_expression [.d v] = .ok (.d .none) [o] := by
  have es := expr_spec v hv
  rw [h] at es
  refine ⟨some (.d v), ?_⟩
  simp [d_require_expression, Sv.sNil, Sv.sCons, Sv.sPass, Sv.sBreak, Sv.sCont, Sv.sExpr, Sv.put, Sv.sSet, Sv.sRet, Sv.sRetN, Sv.sIf, Sv.cVar, Sv.cK, Sv.cE, Sv.cP, Sv.cOp, Sv.cUn, Sv.cChain, Sv.cIf, Sv.cAnd, Sv.cOr, Sv.cNot, Sv.tB, Sv.tAnd, Sv.tOr, Sv.tNot, Sv.tYes, Sv.aNil, Sv.aCons, Sv.aStar, Sv.cCall, Sv.cTup, Sv.cLst, Sv.cSl, Sv.cMeth, Sv.sSetIx, Sv.sPar2, Sv.sPar3, Sv.sAsg, Sv.sAug, Sv.hold, Sv.slot, Sv.outF, Sv.argsB, Sv.slotsOf, Sv.back, Sv.rds, Sv.datas, Sv.gN, Sv.gT, Sv.gL, Sv.gRun, Sv.cFn, Sv.fnD, Sv.sRaise, Sv.R.bind, Sv.R.opt, Sv.R.toS, Sv.RS.seq, Sv.Hd.rd, Sv.B.rd, Sv.toP, Sv.eqP, Sv.neP, Sv.one, Sv.two, Sv.getP, Sv.lenP, Sv.addP, Sv.subP, Sv.mulP, Sv.mulQ, Sv.fdivP, Sv.modP, Sv.powP, Sv.intP, Sv.absP, Sv.max2P, Sv.min2P, Sv.negP, Sv.augAdd, Sv.setD, Sv.mAppend, Sv.ltB, Sv.gtB, Sv.leB, Sv.geB, Sv.ordB, Sv.small64, Sv.isP, Sv.wSeq, Sv.wRange1, Sv.sFor, es]
theorem require_not {v : PyData} (hv : fit v = true) (h : isExpr v = false) : ∃ o, d_require_expression [.d v] = .ex errE [o] := by
  have es := expr_spec v hv
  rw [h] at es
  refine ⟨some (.d v), ?_⟩
  simp [d_require_expression, Sv.sNil, Sv.sCons, Sv.sPass, Sv.sBreak, Sv.sCont, Sv.sExpr, Sv.put, Sv.sSet, Sv.sRet, Sv.sRetN, Sv.sIf, Sv.cVar, Sv.cK, Sv.cE, Sv.cP, Sv.cOp, Sv.cUn, Sv.cChain, Sv.cIf, Sv.cAnd, Sv.cOr, Sv.cNot, Sv.tB, Sv.tAnd, Sv.tOr, Sv.tNot, Sv.tYes, Sv.aNil, Sv.aCons, Sv.aStar, Sv.cCall, Sv.cTup, Sv.cLst, Sv.cSl, Sv.cMeth, Sv.sSetIx, Sv.sPar2, Sv.sPar3, Sv.sAsg, Sv.sAug, Sv.hold, Sv.slot, Sv.outF, Sv.argsB, Sv.slotsOf, Sv.back, Sv.rds, Sv.datas, Sv.gN, Sv.gT, Sv.gL, Sv.gRun, Sv.cFn, Sv.fnD, Sv.sRaise, Sv.R.bind, Sv.R.opt, Sv.R.toS, Sv.RS.seq, Sv.Hd.rd, Sv.B.rd, Sv.toP, Sv.eqP, Sv.neP, Sv.one, Sv.two, Sv.getP, Sv.lenP, Sv.addP, Sv.subP, Sv.mulP, Sv.mulQ, Sv.fdivP, Sv.modP, Sv.powP, Sv.intP, Sv.absP, Sv.max2P, Sv.min2P, Sv.negP, Sv.augAdd, Sv.setD, Sv.mAppend, Sv.ltB, Sv.gtB, Sv.leB, Sv.geB, Sv.ordB, Sv.small64, Sv.isP, Sv.wSeq, Sv.wRange1, Sv.sFor, es, errE]
theorem txt6_len {v : PyData} (h : isExpr v = true) : (txt 6 v).length ≤ 428 := by
  obtain ⟨t, e, h1, h2⟩ := expr_tt h
  have := txt_len 6 v t e
  omega
theorem text_of_spec {v : PyData} (hv : fit v = true) (h : isExpr v = true) : ∃ o, d_text_of [.d v] = .ok (.d (.str (txt 6 v))) [o] := by
  obtain ⟨t, e, h1, h2⟩ := expr_tt h
  obtain ⟨o, r⟩ := require_spec hv h
  have l := txt6_len h
  obtain ⟨o2, k⟩ := text_by_spec 6 10 v t e (by omega) (by omega)
  refine ⟨some (.d v), ?_⟩
  simp [d_text_of, Sv.sNil, Sv.sCons, Sv.sPass, Sv.sBreak, Sv.sCont, Sv.sExpr, Sv.put, Sv.sSet, Sv.sRet, Sv.sRetN, Sv.sIf, Sv.cVar, Sv.cK, Sv.cE, Sv.cP, Sv.cOp, Sv.cUn, Sv.cChain, Sv.cIf, Sv.cAnd, Sv.cOr, Sv.cNot, Sv.tB, Sv.tAnd, Sv.tOr, Sv.tNot, Sv.tYes, Sv.aNil, Sv.aCons, Sv.aStar, Sv.cCall, Sv.cTup, Sv.cLst, Sv.cSl, Sv.cMeth, Sv.sSetIx, Sv.sPar2, Sv.sPar3, Sv.sAsg, Sv.sAug, Sv.hold, Sv.slot, Sv.outF, Sv.argsB, Sv.slotsOf, Sv.back, Sv.rds, Sv.datas, Sv.gN, Sv.gT, Sv.gL, Sv.gRun, Sv.cFn, Sv.fnD, Sv.sRaise, Sv.R.bind, Sv.R.opt, Sv.R.toS, Sv.RS.seq, Sv.Hd.rd, Sv.B.rd, Sv.toP, Sv.eqP, Sv.neP, Sv.one, Sv.two, Sv.getP, Sv.lenP, Sv.addP, Sv.subP, Sv.mulP, Sv.mulQ, Sv.fdivP, Sv.modP, Sv.powP, Sv.intP, Sv.absP, Sv.max2P, Sv.min2P, Sv.negP, Sv.augAdd, Sv.setD, Sv.mAppend, Sv.ltB, Sv.gtB, Sv.leB, Sv.geB, Sv.ordB, Sv.small64, Sv.isP, Sv.wSeq, Sv.wRange1, Sv.sFor, r, k]
theorem text_of_not {v : PyData} (hv : fit v = true) (h : isExpr v = false) : ∃ o, d_text_of [.d v] = .ex errE [o] := by
  obtain ⟨o, r⟩ := require_not hv h
  refine ⟨some (.d v), ?_⟩
  simp [d_text_of, Sv.sNil, Sv.sCons, Sv.sPass, Sv.sBreak, Sv.sCont, Sv.sExpr, Sv.put, Sv.sSet, Sv.sRet, Sv.sRetN, Sv.sIf, Sv.cVar, Sv.cK, Sv.cE, Sv.cP, Sv.cOp, Sv.cUn, Sv.cChain, Sv.cIf, Sv.cAnd, Sv.cOr, Sv.cNot, Sv.tB, Sv.tAnd, Sv.tOr, Sv.tNot, Sv.tYes, Sv.aNil, Sv.aCons, Sv.aStar, Sv.cCall, Sv.cTup, Sv.cLst, Sv.cSl, Sv.cMeth, Sv.sSetIx, Sv.sPar2, Sv.sPar3, Sv.sAsg, Sv.sAug, Sv.hold, Sv.slot, Sv.outF, Sv.argsB, Sv.slotsOf, Sv.back, Sv.rds, Sv.datas, Sv.gN, Sv.gT, Sv.gL, Sv.gRun, Sv.cFn, Sv.fnD, Sv.sRaise, Sv.R.bind, Sv.R.opt, Sv.R.toS, Sv.RS.seq, Sv.Hd.rd, Sv.B.rd, Sv.toP, Sv.eqP, Sv.neP, Sv.one, Sv.two, Sv.getP, Sv.lenP, Sv.addP, Sv.subP, Sv.mulP, Sv.mulQ, Sv.fdivP, Sv.modP, Sv.powP, Sv.intP, Sv.absP, Sv.max2P, Sv.min2P, Sv.negP, Sv.augAdd, Sv.setD, Sv.mAppend, Sv.ltB, Sv.gtB, Sv.leB, Sv.geB, Sv.ordB, Sv.small64, Sv.isP, Sv.wSeq, Sv.wRange1, Sv.sFor, r]
theorem texts_map : ∀ ks : List Str, textsOf (ks.map .str) = some ks
  | [] => rfl
  | k :: r => by rw [List.map_cons, textsOf, texts_map r]; rfl
def nmsOf (v : PyData) : List Str := sortS (seen [] (wr 6 v))
theorem names_in_spec {v : PyData} (hv : fit v = true) (h : isExpr v = true) : ∃ o, d_names_in [.d v] = .ok (.d (.tuple ((nmsOf v).map .str))) [o] := by
  obtain ⟨t, e, h1, h2⟩ := expr_tt h
  obtain ⟨o, r⟩ := require_spec hv h
  have k := written_names_spec 6 10 v t e h1 (by omega)
  have wl := wr_len 6 v t e
  have ss : sortSetP (.list ((wr 6 v).map .str)) = some (.l ((nmsOf v).map .str)) := by
    simp only [sortSetP, texts_map]
    rw [if_pos (by omega)]
    rfl
  refine ⟨some (.d v), ?_⟩
  simp [d_names_in, Sv.sNil, Sv.sCons, Sv.sPass, Sv.sBreak, Sv.sCont, Sv.sExpr, Sv.put, Sv.sSet, Sv.sRet, Sv.sRetN, Sv.sIf, Sv.cVar, Sv.cK, Sv.cE, Sv.cP, Sv.cOp, Sv.cUn, Sv.cChain, Sv.cIf, Sv.cAnd, Sv.cOr, Sv.cNot, Sv.tB, Sv.tAnd, Sv.tOr, Sv.tNot, Sv.tYes, Sv.aNil, Sv.aCons, Sv.aStar, Sv.cCall, Sv.cTup, Sv.cLst, Sv.cSl, Sv.cMeth, Sv.sSetIx, Sv.sPar2, Sv.sPar3, Sv.sAsg, Sv.sAug, Sv.hold, Sv.slot, Sv.outF, Sv.argsB, Sv.slotsOf, Sv.back, Sv.rds, Sv.datas, Sv.gN, Sv.gT, Sv.gL, Sv.gRun, Sv.cFn, Sv.fnD, Sv.sRaise, Sv.R.bind, Sv.R.opt, Sv.R.toS, Sv.RS.seq, Sv.Hd.rd, Sv.B.rd, Sv.toP, Sv.eqP, Sv.neP, Sv.one, Sv.two, Sv.getP, Sv.lenP, Sv.addP, Sv.subP, Sv.mulP, Sv.mulQ, Sv.fdivP, Sv.modP, Sv.powP, Sv.intP, Sv.absP, Sv.max2P, Sv.min2P, Sv.negP, Sv.augAdd, Sv.setD, Sv.mAppend, Sv.ltB, Sv.gtB, Sv.leB, Sv.geB, Sv.ordB, Sv.small64, Sv.isP, Sv.wSeq, Sv.wRange1, Sv.sFor, r, k, ss, tupleP]
theorem bools_of (bs : List Bool) : boolsOf (bs.map .bool) = some bs := by
  have := bools_map (fun b : Bool => b) bs
  simpa using this
theorem is_word_spec {vs : List PyData} (hv : fitAll vs = true) (hl : vs.length ≤ 1000) : d_is_word [.d (.tuple vs)] = .ok (.d (.bool (vs.all isNm))) [some (.d (.tuple vs))] := by
  have k : compL [1] (gN 1) tYes ce_is_word_0 (vs.map id) [some (.d (.tuple vs)), none] = .ok (vs.map fun v => .bool (isNm v)) [some (.d (.tuple vs)), none] := by
    refine compL_map rfl _ fun p hp => ?_
    have n := name_spec p (fit_str (fitAll_mem hv p hp))
    simp [ce_is_word_0, Sv.sNil, Sv.sCons, Sv.sPass, Sv.sBreak, Sv.sCont, Sv.sExpr, Sv.put, Sv.sSet, Sv.sRet, Sv.sRetN, Sv.sIf, Sv.cVar, Sv.cK, Sv.cE, Sv.cP, Sv.cOp, Sv.cUn, Sv.cChain, Sv.cIf, Sv.cAnd, Sv.cOr, Sv.cNot, Sv.tB, Sv.tAnd, Sv.tOr, Sv.tNot, Sv.tYes, Sv.aNil, Sv.aCons, Sv.aStar, Sv.cCall, Sv.cTup, Sv.cLst, Sv.cSl, Sv.cMeth, Sv.sSetIx, Sv.sPar2, Sv.sPar3, Sv.sAsg, Sv.sAug, Sv.hold, Sv.slot, Sv.outF, Sv.argsB, Sv.slotsOf, Sv.back, Sv.rds, Sv.datas, Sv.gN, Sv.gT, Sv.gL, Sv.gRun, Sv.cFn, Sv.fnD, Sv.sRaise, Sv.R.bind, Sv.R.opt, Sv.R.toS, Sv.RS.seq, Sv.Hd.rd, Sv.B.rd, Sv.toP, Sv.eqP, Sv.neP, Sv.one, Sv.two, Sv.getP, Sv.lenP, Sv.addP, Sv.subP, Sv.mulP, Sv.mulQ, Sv.fdivP, Sv.modP, Sv.powP, Sv.intP, Sv.absP, Sv.max2P, Sv.min2P, Sv.negP, Sv.augAdd, Sv.setD, Sv.mAppend, Sv.ltB, Sv.gtB, Sv.leB, Sv.geB, Sv.ordB, Sv.small64, Sv.isP, Sv.wSeq, Sv.wRange1, Sv.sFor, n]
  rw [List.map_id] at k
  have zl : vs.length ≤ sizeLine := by rw [sizeLine_eq]; omega
  have b := bools_map isNm vs
  have al : (vs.map isNm).all id = vs.all isNm := by rw [List.all_map]; rfl
  simp [d_is_word, Sv.sNil, Sv.sCons, Sv.sPass, Sv.sBreak, Sv.sCont, Sv.sExpr, Sv.put, Sv.sSet, Sv.sRet, Sv.sRetN, Sv.sIf, Sv.cVar, Sv.cK, Sv.cE, Sv.cP, Sv.cOp, Sv.cUn, Sv.cChain, Sv.cIf, Sv.cAnd, Sv.cOr, Sv.cNot, Sv.tB, Sv.tAnd, Sv.tOr, Sv.tNot, Sv.tYes, Sv.aNil, Sv.aCons, Sv.aStar, Sv.cCall, Sv.cTup, Sv.cLst, Sv.cSl, Sv.cMeth, Sv.sSetIx, Sv.sPar2, Sv.sPar3, Sv.sAsg, Sv.sAug, Sv.hold, Sv.slot, Sv.outF, Sv.argsB, Sv.slotsOf, Sv.back, Sv.rds, Sv.datas, Sv.gN, Sv.gT, Sv.gL, Sv.gRun, Sv.cFn, Sv.fnD, Sv.sRaise, Sv.R.bind, Sv.R.opt, Sv.R.toS, Sv.RS.seq, Sv.Hd.rd, Sv.B.rd, Sv.toP, Sv.eqP, Sv.neP, Sv.one, Sv.two, Sv.getP, Sv.lenP, Sv.addP, Sv.subP, Sv.mulP, Sv.mulQ, Sv.fdivP, Sv.modP, Sv.powP, Sv.intP, Sv.absP, Sv.max2P, Sv.min2P, Sv.negP, Sv.augAdd, Sv.setD, Sv.mAppend, Sv.ltB, Sv.gtB, Sv.leB, Sv.geB, Sv.ordB, Sv.small64, Sv.isP, Sv.wSeq, Sv.wRange1, Sv.sFor, isTup, cComp, wipeE, restE, zl, k, allP, b, al]
theorem is_word_not {vs : List PyData} : d_is_word [.d (.list vs)] = .ok (.d (.bool false)) [some (.d (.list vs))] := by
  simp [d_is_word, Sv.sNil, Sv.sCons, Sv.sPass, Sv.sBreak, Sv.sCont, Sv.sExpr, Sv.put, Sv.sSet, Sv.sRet, Sv.sRetN, Sv.sIf, Sv.cVar, Sv.cK, Sv.cE, Sv.cP, Sv.cOp, Sv.cUn, Sv.cChain, Sv.cIf, Sv.cAnd, Sv.cOr, Sv.cNot, Sv.tB, Sv.tAnd, Sv.tOr, Sv.tNot, Sv.tYes, Sv.aNil, Sv.aCons, Sv.aStar, Sv.cCall, Sv.cTup, Sv.cLst, Sv.cSl, Sv.cMeth, Sv.sSetIx, Sv.sPar2, Sv.sPar3, Sv.sAsg, Sv.sAug, Sv.hold, Sv.slot, Sv.outF, Sv.argsB, Sv.slotsOf, Sv.back, Sv.rds, Sv.datas, Sv.gN, Sv.gT, Sv.gL, Sv.gRun, Sv.cFn, Sv.fnD, Sv.sRaise, Sv.R.bind, Sv.R.opt, Sv.R.toS, Sv.RS.seq, Sv.Hd.rd, Sv.B.rd, Sv.toP, Sv.eqP, Sv.neP, Sv.one, Sv.two, Sv.getP, Sv.lenP, Sv.addP, Sv.subP, Sv.mulP, Sv.mulQ, Sv.fdivP, Sv.modP, Sv.powP, Sv.intP, Sv.absP, Sv.max2P, Sv.min2P, Sv.negP, Sv.augAdd, Sv.setD, Sv.mAppend, Sv.ltB, Sv.gtB, Sv.leB, Sv.geB, Sv.ordB, Sv.small64, Sv.isP, Sv.wSeq, Sv.wRange1, Sv.sFor, isTup]
end K05
end
section
set_option autoImplicit false
set_option linter.all false
set_option maxRecDepth 100000
namespace K05
open PySem Sv
/-! ### what may be shown -/
theorem tupleText_le (ts : List Str) : (tupleText ts).length ≤ piled ts + 3 := by
  unfold tupleText
  rw [strLen_append, strLen_append]
  have e1 : ((("(" : String) : Str)).length = 1 := rfl
  have e3 : (((if ts.length == 1 then ",)" else ")" : String) : Str)).length ≤ 2 := by split <;> decide
  rw [e1]
  by_cases h : ts = []
  · subst h; simp [piled]; decide
  · have := join_length_add ts h
    omega
theorem textFrom_le : ∀ (ts : List Str) (k : Nat) (acc : Str), (textFrom k acc ts).length ≤ acc.length + piled ts
  | [], k, acc => by show acc.length ≤ _; omega
  | t :: r, k, acc => by
    have ih := textFrom_le r (k + 1) (acc ++ (if k > 0 then ", " else "" : String) ++ t)
    have e : (acc ++ (if k > 0 then ", " else "" : String) ++ t).length = acc.length + (if k > 0 then 2 else 0) + t.length := by
      rw [strLen_append, strLen_append]
      split <;> rfl
    rw [e] at ih
    rw [piled_cons]
    show (textFrom (k + 1) _ r).length ≤ _
    have : (if k > 0 then 2 else 0 : Nat) ≤ 2 := by split <;> omega
    omega
theorem listText_le (ts : List Str) : (listText ts).length ≤ piled ts + 2 := by
  unfold listText
  rw [strLen_append]
  have := textFrom_le ts 0 "["
  have e1 : ((("[" : String) : Str)).length = 1 := rfl
  have e2 : ((("]" : String) : Str)).length = 1 := rfl
  omega
structure Fine (p q : Bool) (d w : Nat) (v : PyData) : Prop where
  ft : fit v = true
  sh : v.showable = true
  dp : v.depth ≤ d
  wt : v.shown.length + 2 ≤ w
  pl : p = true → v.plain = true
  nl : q = true → nol v = true
structure FineL (p q : Bool) (d w : Nat) (v : List PyData) : Prop where
  ft : fitAll v = true
  sh : PyData.showableAll v = true
  dp : PyData.depthAll v ≤ d
  wt : piled (PyData.shownAll v) ≤ w
  pl : p = true → PyData.plainAll v = true
  nl : q = true → nol.nolAll v = true
section
variable {p q : Bool} {d w : Nat}
theorem FineL.nil : FineL p q d w [] := ⟨rfl, rfl, Nat.zero_le _, Nat.zero_le _, fun _ => rfl, fun _ => rfl⟩
theorem FineL.cons {w1 w2 : Nat} {v : PyData} {xs : List PyData} (h : Fine p q d w1 v) (k : FineL p q d w2 xs) : FineL p q d (w1 + w2) (v :: xs) := by
  refine ⟨?_, ?_, ?_, ?_, fun z => ?_, fun z => ?_⟩
  · rw [fitAll, h.ft, k.ft]; rfl
  · simp only [PyData.showableAll, h.sh, k.sh, Bool.and_self]
  · have := h.dp
    have := k.dp
    simp only [PyData.depthAll]
    omega
  · have := h.wt
    have := k.wt
    simp only [PyData.shownAll, piled_cons]
    omega
  · simp only [PyData.plainAll, h.pl z, k.pl z, Bool.and_self]
  · simp only [nol.nolAll, h.nl z, k.nl z, Bool.and_self]
theorem FineL.app {w1 w2 : Nat} {ys : List PyData} (k : FineL p q d w2 ys) : ∀ {xs : List PyData} {w1 : Nat}, FineL p q d w1 xs → FineL p q d (w1 + w2) (xs ++ ys)
  | [], w1, h => ⟨k.ft, k.sh, k.dp, Nat.le_trans k.wt (Nat.le_add_left _ _), k.pl, k.nl⟩
  | x :: xs, w1, h => by
    have a := h.ft
    have b := h.sh
    have c := h.dp
    have e := h.wt
    simp only [fitAll, PyData.showableAll, PyData.depthAll, PyData.shownAll, piled_cons, Bool.and_eq_true] at a b c e
    have f : p = true → x.plain = true ∧ PyData.plainAll xs = true := fun z => by
      have := h.pl z
      simpa only [PyData.plainAll, Bool.and_eq_true] using this
    have g : q = true → nol x = true ∧ nol.nolAll xs = true := fun z => by
      have := h.nl z
      simpa only [nol.nolAll, Bool.and_eq_true] using this
    have hx : Fine p q d (x.shown.length + 2) x := ⟨a.1, b.1, by omega, Nat.le_refl _, fun z => (f z).1, fun z => (g z).1⟩
    have hr : FineL p q d (piled (PyData.shownAll xs)) xs := ⟨a.2, b.2, by omega, Nat.le_refl _, fun z => (f z).2, fun z => (g z).2⟩
    have := FineL.cons hx (FineL.app (w1 := 0) k hr)
    exact ⟨this.ft, this.sh, this.dp, Nat.le_trans this.wt (by omega), this.pl, this.nl⟩
theorem FineL.rep {v : PyData} (h : Fine p q d w v) : ∀ n, FineL p q d (n * w) (List.replicate n v)
  | 0 => FineL.nil
  | n + 1 => by
    have := FineL.cons h (FineL.rep h n)
    rw [Nat.succ_mul, Nat.add_comm]
    exact this
theorem Fine.tup {xs : List PyData} (h : FineL p q d w xs) : Fine p q (d + 1) (w + 5) (.tuple xs) := by
  have t := tupleText_le (PyData.shownAll xs)
  have := h.wt
  refine ⟨h.ft, h.sh, ?_, ?_, h.pl, h.nl⟩
  · have := h.dp
    simp only [PyData.depth]
    omega
  · simp only [PyData.shown]
    omega
theorem Fine.lst {xs : List PyData} (h : FineL p q d w xs) : Fine p false (d + 1) (w + 5) (.list xs) := by
  have t := listText_le (PyData.shownAll xs)
  have := h.wt
  refine ⟨rfl, h.sh, ?_, ?_, h.pl, fun z => by cases z⟩
  · have := h.dp
    simp only [PyData.depth]
    omega
  · simp only [PyData.shown]
    omega
theorem Fine.mono {d' w' : Nat} {v : PyData} (h : Fine p q d w v) (h1 : d ≤ d') (h2 : w ≤ w') : Fine p q d' w' v := ⟨h.ft, h.sh, Nat.le_trans h.dp h1, Nat.le_trans h.wt h2, h.pl, h.nl⟩
theorem FineL.mono {d' w' : Nat} {v : List PyData} (h : FineL p q d w v) (h1 : d ≤ d') (h2 : w ≤ w') : FineL p q d' w' v := ⟨h.ft, h.sh, Nat.le_trans h.dp h1, Nat.le_trans h.wt h2, h.pl, h.nl⟩
theorem Fine.any {v : PyData} (h : Fine true true d w v) : Fine p q d w v := ⟨h.ft, h.sh, h.dp, h.wt, fun _ => h.pl rfl, fun _ => h.nl rfl⟩
theorem FineL.any {v : List PyData} (h : FineL true true d w v) : FineL p q d w v := ⟨h.ft, h.sh, h.dp, h.wt, fun _ => h.pl rfl, fun _ => h.nl rfl⟩
theorem Fine.str {x : Str} (hx : ∀ c ∈ x.cps.toList, c < 16 ^ 8) (hl : x.length ≤ 1000) : Fine p q 0 (10 * x.length + 4) (.str x) := by
  have := StrLaws.reprText_len x hx
  refine ⟨?_, rfl, Nat.le_refl _, ?_, fun _ => rfl, fun _ => rfl⟩
  · simp only [fit, decide_eq_true_eq, sizeLine_eq]
    omega
  · simp only [PyData.shown]
    omega
theorem isL_lt {c : Nat} (h : isL c = true) : c < 16 ^ 8 := by
  have : ∀ c ∈ lets, c < 16 ^ 8 := by decide +kernel
  exact this c (of_decide_eq_true h)
theorem Fine.nm {x : Str} (h : nmS x = true) : Fine p q 0 90 (.str x) := by
  have l := nm_len h
  exact (Fine.str (fun c hc => isL_lt (List.all_eq_true.mp (nm_lets h) c hc)) (by omega)).mono (Nat.le_refl _) (by omega)
theorem Fine.fr {x : Str} {n : Nat} (h : isFr x n = true) : Fine p q 0 54 (.str x) := by
  have l := fr_len h
  exact (Fine.str (fun c hc => isL_lt (List.all_eq_true.mp (fr_lets h) c hc)) (by omega)).mono (Nat.le_refl _) (by omega)
end
theorem fine_tt : ∀ (n : Nat) (v : PyData) (t : N3), tt n v = some t → Fine true true n (90 * t.1 + 60 * t.2.1) v := by
  intro n
  induction n with
  | zero =>
    intro v t h
    rcases tt_cases h with ⟨x, rfl, k, rfl⟩ | ⟨m, x, ps, hm, _⟩
    · exact (Fine.nm k).mono (Nat.zero_le _) (by omega)
    · omega
  | succ n ih =>
    intro v t h
    rcases tt_cases h with ⟨x, rfl, k, rfl⟩ | ⟨m, x, ps, hm, rfl, fr, _, k⟩
    · exact (Fine.nm k).mono (Nat.zero_le _) (by omega)
    · obtain rfl : n = m := by omega
      have go : ∀ (ps : List PyData) (s : N3), ttGo (tt n) ps s = some t → ∃ w, w + (90 * s.1 + 60 * s.2.1) ≤ 90 * t.1 + 60 * t.2.1 ∧ FineL true true n w ps := fun ps => by
        induction ps with
        | nil => intro s h; cases h; exact ⟨0, by omega, FineL.nil⟩
        | cons p ps ihp =>
          intro s h
          rw [ttGo] at h
          cases e : tt n p with
          | none => rw [e] at h; cases h
          | some u =>
            rw [e] at h
            obtain ⟨w, a1, a2⟩ := ihp _ h
            have a3 := ih p u e
            simp only at a1
            exact ⟨_, by omega, FineL.cons a3 a2⟩
      obtain ⟨w, a1, a2⟩ := go ps _ k
      simp only at a1
      have f := Fine.tup (FineL.cons ((Fine.fr (p := true) (q := true) fr).mono (Nat.zero_le n) (Nat.le_refl _)) a2)
      exact f.mono (Nat.le_refl _) (by omega)
theorem fine_expr {v : PyData} (h : isExpr v = true) : Fine true true 6 3480 v := by
  obtain ⟨t, e, h1, h2⟩ := expr_tt h
  exact (fine_tt 6 v t e).mono (Nat.le_refl _) (by omega)
theorem repr_fine {p q : Bool} {d w : Nat} {v : PyData} (h : Fine p q d w v) (hpq : (p || q) = true) (hd : d ≤ 180) (hw : w ≤ 1000000) : reprW v = some (.d (.str v.shown)) := by
  have h1 := h.dp
  have h2 := h.wt
  unfold reprW
  rw [if_pos]
  simp only [Bool.and_eq_true, Bool.or_eq_true, decide_eq_true_eq] at hpq ⊢
  refine ⟨⟨⟨?_, h.sh⟩, by omega⟩, by rw [sizeLine_eq]; omega⟩
  rcases hpq with z | z
  · exact .inl (h.pl z)
  · exact .inr (h.nl z)
theorem eq_self {v : PyData} (hp : v.plain = true) (hd : v.depth ≤ 190) : eqB v v = some true := by
  have e := PySem.SeqAt.eqv_refl_plain _ hp
  have q : shal v v = true := by simp [shal, hd]
  simp [eqB, q, hp, e]
theorem wr_nm : ∀ (n : Nat) (v : PyData) (t : N3), tt n v = some t → ∀ x ∈ wr n v, nmS x = true := by
  intro n
  induction n with
  | zero =>
    intro v t h x hx
    rcases tt_cases h with ⟨y, rfl, k, rfl⟩ | ⟨m, y, ps, hm, _⟩
    · simp [wr] at hx; rw [hx]; exact k
    · omega
  | succ n ih =>
    intro v t h x hx
    rcases tt_cases h with ⟨y, rfl, k, rfl⟩ | ⟨m, y, ps, hm, rfl, fr, _, k⟩
    · simp [wr] at hx; rw [hx]; exact k
    · obtain rfl : n = m := by omega
      rw [wr, List.mem_flatMap] at hx
      obtain ⟨p, hp, hx⟩ := hx
      obtain ⟨u, e, _, _⟩ := ttGo_mem k p hp
      exact ih p u e x hx
theorem seen_len : ∀ (r acc : List Str), (seen acc r).length ≤ acc.length + r.length
  | [], acc => by simp [seen]
  | k :: r, acc => by
    rw [seen]
    have := seen_len r (if k ∈ acc then acc else k :: acc)
    have : (if k ∈ acc then acc else k :: acc).length ≤ acc.length + 1 := by split <;> simp
    simp only [List.length_cons]
    omega
theorem seen_in : ∀ (r acc : List Str) (x : Str), x ∈ seen acc r → x ∈ acc ∨ x ∈ r
  | [], acc, x, h => .inl h
  | k :: r, acc, x, h => by
    rw [seen] at h
    rcases seen_in r _ x h with z | z
    · split at z
      · exact .inl z
      · rcases List.mem_cons.mp z with z | z
        · exact .inr (z ▸ List.mem_cons_self)
        · exact .inl z
    · exact .inr (List.mem_cons_of_mem _ z)
theorem nms_of {v : PyData} (h : isExpr v = true) : (nmsOf v).length ≤ 12 ∧ ∀ x ∈ nmsOf v, nmS x = true := by
  obtain ⟨t, e, h1, h2⟩ := expr_tt h
  have l := wr_len 6 v t e
  have p : (sortS (seen [] (wr 6 v))).Perm (seen [] (wr 6 v)) := List.mergeSort_perm _ _
  have s := seen_len (wr 6 v) []
  have pl := p.length_eq
  refine ⟨?_, fun x hx => ?_⟩
  · unfold nmsOf
    simp only [List.length_nil] at s
    omega
  · have := seen_in _ _ _ (p.mem_iff.mp hx)
    rcases this with z | z
    · cases z
    · exact wr_nm 6 v t e x z
theorem fine_nms : ∀ (l : List Str), (∀ x ∈ l, nmS x = true) → FineL true true 0 (l.length * 90) (l.map .str)
  | [], _ => FineL.nil
  | x :: l, h => by
    have := FineL.cons (Fine.nm (p := true) (q := true) (h x List.mem_cons_self)) (fine_nms l fun y hy => h y (List.mem_cons_of_mem _ hy))
    exact this.mono (Nat.le_refl _) (by simp only [List.length_cons]; omega)
end K05
end
section
set_option autoImplicit false
set_option linter.all false
set_option maxRecDepth 100000
namespace K05
open PySem Sv
def isWd : PyData → Bool
  | .tuple xs => xs.all isNm
  | _ => false
theorem sA : isNm (.str (Str.ofString "a")) = true := by decide
theorem sB : isNm (.str (Str.ofString "abcdefgh")) = true := by decide
theorem sC : isNm (.str (Str.ofString "abcdefghi")) = false := by decide
def wds (v : PyData) : List PyData := [.tuple [v], .tuple [.str (Str.ofString "a"), v], .list [v], .tuple [.str (Str.ofString "a"), .str (Str.ofString "abcdefgh")], .tuple [.str (Str.ofString "a"), .str (Str.ofString "abcdefghi")], .tuple []]
theorem words_spec {v : PyData} (hv : fit v = true) (a b c : Option B) (e : Sv.Env) (he : e = [a, b, c, some (.d (.list (wds v))), none, none]) : compL [5] (gN 5) tYes ce_value_right_0 (wds v) e = .ok [.bool (isNm v), .bool (isNm v), .bool false, .bool true, .bool false, .bool true] e := by
  subst he
  have z : ∀ w ∈ wds v, d_is_word [.d w] = .ok (.d (.bool (isWd w))) [some (.d w)] := fun w hw => by
    simp only [wds, List.mem_cons, List.not_mem_nil, or_false] at hw
    have f1 : fit (.str (Str.ofString "a")) = true := by decide +kernel
    have f2 : fit (.str (Str.ofString "abcdefgh")) = true := by decide +kernel
    have f3 : fit (.str (Str.ofString "abcdefghi")) = true := by decide +kernel
    rcases hw with rfl | rfl | rfl | rfl | rfl | rfl
    · exact is_word_spec (by rw [fitAll, hv]; rfl) (by simp)
    · exact is_word_spec (by rw [fitAll, fitAll, hv, f1]; rfl) (by simp)
    · exact is_word_not
    · exact is_word_spec (by rw [fitAll, fitAll, f1, f2]; rfl) (by simp)
    · exact is_word_spec (by rw [fitAll, fitAll, f1, f3]; rfl) (by simp)
    · exact is_word_spec rfl (by simp)
  have k := compL_map (v := 5) (c := ce_value_right_0) (f := id) (g := fun w => .bool (isWd w)) (e := [a, b, c, some (.d (.list (wds v))), none, none]) rfl (wds v) fun w hw => by
    have := z w hw
    simp [ce_value_right_0, Sv.sNil, Sv.sCons, Sv.sPass, Sv.sBreak, Sv.sCont, Sv.sExpr, Sv.put, Sv.sSet, Sv.sRet, Sv.sRetN, Sv.sIf, Sv.cVar, Sv.cK, Sv.cE, Sv.cP, Sv.cOp, Sv.cUn, Sv.cChain, Sv.cIf, Sv.cAnd, Sv.cOr, Sv.cNot, Sv.tB, Sv.tAnd, Sv.tOr, Sv.tNot, Sv.tYes, Sv.aNil, Sv.aCons, Sv.aStar, Sv.cCall, Sv.cTup, Sv.cLst, Sv.cSl, Sv.cMeth, Sv.sSetIx, Sv.sPar2, Sv.sPar3, Sv.sAsg, Sv.sAug, Sv.hold, Sv.slot, Sv.outF, Sv.argsB, Sv.slotsOf, Sv.back, Sv.rds, Sv.datas, Sv.gN, Sv.gT, Sv.gL, Sv.gRun, Sv.cFn, Sv.fnD, Sv.sRaise, Sv.R.bind, Sv.R.opt, Sv.R.toS, Sv.RS.seq, Sv.Hd.rd, Sv.B.rd, Sv.toP, Sv.eqP, Sv.neP, Sv.one, Sv.two, Sv.getP, Sv.lenP, Sv.addP, Sv.subP, Sv.mulP, Sv.mulQ, Sv.fdivP, Sv.modP, Sv.powP, Sv.intP, Sv.absP, Sv.max2P, Sv.min2P, Sv.negP, Sv.augAdd, Sv.setD, Sv.mAppend, Sv.ltB, Sv.gtB, Sv.leB, Sv.geB, Sv.ordB, Sv.small64, Sv.isP, Sv.wSeq, Sv.wRange1, Sv.sFor, this]
  rw [List.map_id] at k
  rw [k]
  simp [wds, isWd, sA, sB, sC]
theorem eq_bools (a b : Bool) : eqB (.list [.bool a, .bool b, .bool false, .bool true, .bool false, .bool true]) (.list [.bool a, .bool b, .bool false, .bool true, .bool false, .bool true]) = some true := eq_self (by simp [PyData.plain, PyData.plainAll]) (by simp [PyData.depth, PyData.depthAll])
theorem eq_str (x : Str) : eqB (.str x) (.str x) = some true := eq_self rfl (by simp [PyData.depth])
theorem value_right_spec {p q : Bool} {d w : Nat} {v : PyData} (h : Fine p q d w v) (hpq : (p || q) = true) (hd : d ≤ 180) (hw : w ≤ 1000000) : d_value_right [.d v] = .ok (.d (.bool true)) [some (.d v)] := by
  have rp := repr_fine h hpq hd hw
  have on := one_spec v h.ft
  rw [one_expr] at on
  have es := expr_spec v h.ft
  have ln := l_name_spec v (fit_str h.ft)
  have z1 : 1 ≤ sizeLine := by rw [sizeLine_eq]; decide
  have z2 : 2 ≤ sizeLine := by rw [sizeLine_eq]; decide
  have z6 : 6 ≤ sizeLine := by rw [sizeLine_eq]; decide
  have eb := eq_bools (isNm v) (isNm v)
  have e0 := eq_str v.shown
  cases ev : isExpr v with
  | true =>
    rw [ev] at on es
    obtain ⟨t, e, h1, h2⟩ := expr_tt ev
    obtain ⟨o1, ni⟩ := names_in_spec h.ft ev
    obtain ⟨o2, tof⟩ := text_of_spec h.ft ev
    have wt := written_spec 6 10 v t e h1 (by omega)
    have tl := txt6_len ev
    obtain ⟨o3, tx⟩ := text_spec 6 10 v t e (by omega) (by omega)
    obtain ⟨_, o4, eo⟩ := eof_some (x := txt 6 v) (by omega) (ex_txt ev)
    have wl := wr_len 6 v t e
    have ss : sortSetP (.list ((wr 6 v).map .str)) = some (.l ((nmsOf v).map .str)) := by
      simp only [sortSetP, texts_map]
      rw [if_pos (by omega)]
      rfl
    obtain ⟨nl, nn⟩ := nms_of ev
    have fn := Fine.tup (fine_nms (nmsOf v) nn)
    have rn := repr_fine fn rfl (by omega) (by omega)
    have rb : reprW (.bool true) = some (.d (.str (PyData.bool true).shown)) := by
      have : Fine true true 0 10 (.bool true) := ⟨rfl, rfl, by decide, by decide, fun _ => rfl, fun _ => rfl⟩
      exact repr_fine this rfl (by omega) (by omega)
    have fx := fine_expr ev
    have ee := eq_self (fx.pl rfl) (by have := fx.dp; omega)
    have e1 := eq_str (PyData.bool true).shown
    have e2 := eq_str (PyData.tuple ((nmsOf v).map .str)).shown
    have e3 := eq_str (txt 6 v)
    have wd := words_spec h.ft (some (.d v)) (some (.d (.str v.shown))) (some (.d (.bool true))) _ rfl
    unfold wds at wd
    generalize hns : (nmsOf v).map PyData.str = ns at *
    simp [d_value_right, Sv.sNil, Sv.sCons, Sv.sPass, Sv.sBreak, Sv.sCont, Sv.sExpr, Sv.put, Sv.sSet, Sv.sRet, Sv.sRetN, Sv.sIf, Sv.cVar, Sv.cK, Sv.cE, Sv.cP, Sv.cOp, Sv.cUn, Sv.cChain, Sv.cIf, Sv.cAnd, Sv.cOr, Sv.cNot, Sv.tB, Sv.tAnd, Sv.tOr, Sv.tNot, Sv.tYes, Sv.aNil, Sv.aCons, Sv.aStar, Sv.cCall, Sv.cTup, Sv.cLst, Sv.cSl, Sv.cMeth, Sv.sSetIx, Sv.sPar2, Sv.sPar3, Sv.sAsg, Sv.sAug, Sv.hold, Sv.slot, Sv.outF, Sv.argsB, Sv.slotsOf, Sv.back, Sv.rds, Sv.datas, Sv.gN, Sv.gT, Sv.gL, Sv.gRun, Sv.cFn, Sv.fnD, Sv.sRaise, Sv.R.bind, Sv.R.opt, Sv.R.toS, Sv.RS.seq, Sv.Hd.rd, Sv.B.rd, Sv.toP, Sv.eqP, Sv.neP, Sv.one, Sv.two, Sv.getP, Sv.lenP, Sv.addP, Sv.subP, Sv.mulP, Sv.mulQ, Sv.fdivP, Sv.modP, Sv.powP, Sv.intP, Sv.absP, Sv.max2P, Sv.min2P, Sv.negP, Sv.augAdd, Sv.setD, Sv.mAppend, Sv.ltB, Sv.gtB, Sv.leB, Sv.geB, Sv.ordB, Sv.small64, Sv.isP, Sv.wSeq, Sv.wRange1, Sv.sFor, rp, on, es, rb, ni, rn, wt, ss, tupleP, e0, e1, e2, e3, tof, tx, eo, ee, z1, z2, z6, cComp, wipeE, restE, wd, ln, eb]
  | false =>
    rw [ev] at on es
    have rb : reprW (.bool false) = some (.d (.str (PyData.bool false).shown)) := by
      have : Fine true true 0 10 (.bool false) := ⟨rfl, rfl, by decide, by decide, fun _ => rfl, fun _ => rfl⟩
      exact repr_fine this rfl (by omega) (by omega)
    have e1 := eq_str (PyData.bool false).shown
    obtain ⟨o1, tn⟩ := text_of_not h.ft ev
    have el : eqB (.list [.str (Str.ofString "expression")]) (.list [.str (Str.ofString "expression")]) = some true := eq_self (by simp [PyData.plain, PyData.plainAll]) (by simp [PyData.depth, PyData.depthAll])
    have wd := words_spec h.ft (some (.d v)) (some (.d (.str v.shown))) (some (.d (.bool false))) _ rfl
    unfold wds at wd
    simp [d_value_right, Sv.sNil, Sv.sCons, Sv.sPass, Sv.sBreak, Sv.sCont, Sv.sExpr, Sv.put, Sv.sSet, Sv.sRet, Sv.sRetN, Sv.sIf, Sv.cVar, Sv.cK, Sv.cE, Sv.cP, Sv.cOp, Sv.cUn, Sv.cChain, Sv.cIf, Sv.cAnd, Sv.cOr, Sv.cNot, Sv.tB, Sv.tAnd, Sv.tOr, Sv.tNot, Sv.tYes, Sv.aNil, Sv.aCons, Sv.aStar, Sv.cCall, Sv.cTup, Sv.cLst, Sv.cSl, Sv.cMeth, Sv.sSetIx, Sv.sPar2, Sv.sPar3, Sv.sAsg, Sv.sAug, Sv.hold, Sv.slot, Sv.outF, Sv.argsB, Sv.slotsOf, Sv.back, Sv.rds, Sv.datas, Sv.gN, Sv.gT, Sv.gL, Sv.gRun, Sv.cFn, Sv.fnD, Sv.sRaise, Sv.R.bind, Sv.R.opt, Sv.R.toS, Sv.RS.seq, Sv.Hd.rd, Sv.B.rd, Sv.toP, Sv.eqP, Sv.neP, Sv.one, Sv.two, Sv.getP, Sv.lenP, Sv.addP, Sv.subP, Sv.mulP, Sv.mulQ, Sv.fdivP, Sv.modP, Sv.powP, Sv.intP, Sv.absP, Sv.max2P, Sv.min2P, Sv.negP, Sv.augAdd, Sv.setD, Sv.mAppend, Sv.ltB, Sv.gtB, Sv.leB, Sv.geB, Sv.ordB, Sv.small64, Sv.isP, Sv.wSeq, Sv.wRange1, Sv.sFor, rp, on, es, rb, e0, e1, tn, cTold, errE, m_ParseError, m_InvalidExpression, el, z1, z2, z6, cComp, wipeE, restE, wd, ln, eb]
end K05
end
section
set_option autoImplicit false
set_option linter.all false
set_option maxRecDepth 100000
namespace K05
open PySem Sv
theorem repr_parse : reprW (.list [.str (Str.ofString "parse")]) = some (.d (.str (PyData.list [.str (Str.ofString "parse")]).shown)) := by
  have f : Fine true true 0 100 (.str (Str.ofString "parse")) := (Fine.str (by decide) (by decide)).mono (Nat.le_refl _) (by decide)
  exact repr_fine (Fine.lst (FineL.cons f FineL.nil (w2 := 0))) rfl (by omega) (by omega)
theorem repr_told {v : PyData} (h : isExpr v = true) : reprW (.list [.str (Str.ofString "told"), v]) = some (.d (.str (PyData.list [.str (Str.ofString "told"), v]).shown)) := by
  have f : Fine true true 6 100 (.str (Str.ofString "told")) := (Fine.str (by decide) (by decide)).mono (by omega) (by decide)
  exact repr_fine (Fine.lst (FineL.cons f (FineL.cons (fine_expr h) FineL.nil (w2 := 0)))) rfl (by omega) (by omega)
theorem text_right_spec {x : Str} (hx : x.length ≤ 90000) : d_text_right [.d (.str x)] = .ok (.d (.bool true)) [some (.d (.str x))] := by
  have hz : x.length ≤ sizeLine := by rw [sizeLine_eq]; omega
  have z1 : 1 ≤ sizeLine := by rw [sizeLine_eq]; decide
  have z2 : 2 ≤ sizeLine := by rw [sizeLine_eq]; decide
  have hl := len_cps x
  obtain ⟨o1, o2, o3, k⟩ := read_spec hx 20 25 0 (by omega) (by omega) x.cps.toList (List.suffix_refl _)
  rw [pos_self] at k
  have due := due_ex x.cps.toList
  have rp := repr_parse
  have ep := eq_str (PyData.list [.str (Str.ofString "parse")]).shown
  have mp : m_ParseError errP = some true := rfl
  cases e : rl 20 x.cps.toList with
  | none =>
    rw [e] at k due
    obtain ⟨o4, eo⟩ := eof_none hx due.symm
    simp [d_text_right, Sv.sNil, Sv.sCons, Sv.sPass, Sv.sBreak, Sv.sCont, Sv.sExpr, Sv.put, Sv.sSet, Sv.sRet, Sv.sRetN, Sv.sIf, Sv.cVar, Sv.cK, Sv.cE, Sv.cP, Sv.cOp, Sv.cUn, Sv.cChain, Sv.cIf, Sv.cAnd, Sv.cOr, Sv.cNot, Sv.tB, Sv.tAnd, Sv.tOr, Sv.tNot, Sv.tYes, Sv.aNil, Sv.aCons, Sv.aStar, Sv.cCall, Sv.cTup, Sv.cLst, Sv.cSl, Sv.cMeth, Sv.sSetIx, Sv.sPar2, Sv.sPar3, Sv.sAsg, Sv.sAug, Sv.hold, Sv.slot, Sv.outF, Sv.argsB, Sv.slotsOf, Sv.back, Sv.rds, Sv.datas, Sv.gN, Sv.gT, Sv.gL, Sv.gRun, Sv.cFn, Sv.fnD, Sv.sRaise, Sv.R.bind, Sv.R.opt, Sv.R.toS, Sv.RS.seq, Sv.Hd.rd, Sv.B.rd, Sv.toP, Sv.eqP, Sv.neP, Sv.one, Sv.two, Sv.getP, Sv.lenP, Sv.addP, Sv.subP, Sv.mulP, Sv.mulQ, Sv.fdivP, Sv.modP, Sv.powP, Sv.intP, Sv.absP, Sv.max2P, Sv.min2P, Sv.negP, Sv.augAdd, Sv.setD, Sv.mAppend, Sv.ltB, Sv.gtB, Sv.leB, Sv.geB, Sv.ordB, Sv.small64, Sv.isP, Sv.wSeq, Sv.wRange1, Sv.sFor, k, z1, isNotB, isB, eo, cTold, mp, rp, ep]
  | some u =>
    obtain ⟨v, r⟩ := u
    rw [e] at k due
    have ft := rl_fit 20 _ v r (by omega) e
    have on := one_spec v ft
    rw [one_expr] at on
    have a0 : L2.atI [v, PyData.int (pos x.cps.toList r)] 0 = some v := at0 _ _
    have a1 : L2.atI [v, PyData.int (pos x.cps.toList r)] 1 = some (.int (pos x.cps.toList r)) := by simp [L2.atI, L2.ixN]
    have eq := eq_int (pos x.cps.toList r) (x.length : Int)
    have rs := suf_len (rl_shr 20 _ _ _ e)
    cases r with
    | nil =>
      rw [decide_eq_true (by unfold pos; simp only [List.length_nil]; omega)] at eq
      cases ev : isExpr v with
      | true =>
        rw [ev] at on
        simp only [ev, if_true] at due
        obtain ⟨_, o4, eo⟩ := eof_some hx due.symm
        have rt := repr_told ev
        have et := eq_str (PyData.list [.str (Str.ofString "told"), v]).shown
        simp [d_text_right, Sv.sNil, Sv.sCons, Sv.sPass, Sv.sBreak, Sv.sCont, Sv.sExpr, Sv.put, Sv.sSet, Sv.sRet, Sv.sRetN, Sv.sIf, Sv.cVar, Sv.cK, Sv.cE, Sv.cP, Sv.cOp, Sv.cUn, Sv.cChain, Sv.cIf, Sv.cAnd, Sv.cOr, Sv.cNot, Sv.tB, Sv.tAnd, Sv.tOr, Sv.tNot, Sv.tYes, Sv.aNil, Sv.aCons, Sv.aStar, Sv.cCall, Sv.cTup, Sv.cLst, Sv.cSl, Sv.cMeth, Sv.sSetIx, Sv.sPar2, Sv.sPar3, Sv.sAsg, Sv.sAug, Sv.hold, Sv.slot, Sv.outF, Sv.argsB, Sv.slotsOf, Sv.back, Sv.rds, Sv.datas, Sv.gN, Sv.gT, Sv.gL, Sv.gRun, Sv.cFn, Sv.fnD, Sv.sRaise, Sv.R.bind, Sv.R.opt, Sv.R.toS, Sv.RS.seq, Sv.Hd.rd, Sv.B.rd, Sv.toP, Sv.eqP, Sv.neP, Sv.one, Sv.two, Sv.getP, Sv.lenP, Sv.addP, Sv.subP, Sv.mulP, Sv.mulQ, Sv.fdivP, Sv.modP, Sv.powP, Sv.intP, Sv.absP, Sv.max2P, Sv.min2P, Sv.negP, Sv.augAdd, Sv.setD, Sv.mAppend, Sv.ltB, Sv.gtB, Sv.leB, Sv.geB, Sv.ordB, Sv.small64, Sv.isP, Sv.wSeq, Sv.wRange1, Sv.sFor, k, z1, z2, hz, isNotB, isB, a0, a1, eq, on, eo, cTold, rt, et]
      | false =>
        rw [ev] at on
        simp only [ev, Bool.false_eq_true, if_false] at due
        obtain ⟨o4, eo⟩ := eof_none hx due.symm
        simp [d_text_right, Sv.sNil, Sv.sCons, Sv.sPass, Sv.sBreak, Sv.sCont, Sv.sExpr, Sv.put, Sv.sSet, Sv.sRet, Sv.sRetN, Sv.sIf, Sv.cVar, Sv.cK, Sv.cE, Sv.cP, Sv.cOp, Sv.cUn, Sv.cChain, Sv.cIf, Sv.cAnd, Sv.cOr, Sv.cNot, Sv.tB, Sv.tAnd, Sv.tOr, Sv.tNot, Sv.tYes, Sv.aNil, Sv.aCons, Sv.aStar, Sv.cCall, Sv.cTup, Sv.cLst, Sv.cSl, Sv.cMeth, Sv.sSetIx, Sv.sPar2, Sv.sPar3, Sv.sAsg, Sv.sAug, Sv.hold, Sv.slot, Sv.outF, Sv.argsB, Sv.slotsOf, Sv.back, Sv.rds, Sv.datas, Sv.gN, Sv.gT, Sv.gL, Sv.gRun, Sv.cFn, Sv.fnD, Sv.sRaise, Sv.R.bind, Sv.R.opt, Sv.R.toS, Sv.RS.seq, Sv.Hd.rd, Sv.B.rd, Sv.toP, Sv.eqP, Sv.neP, Sv.one, Sv.two, Sv.getP, Sv.lenP, Sv.addP, Sv.subP, Sv.mulP, Sv.mulQ, Sv.fdivP, Sv.modP, Sv.powP, Sv.intP, Sv.absP, Sv.max2P, Sv.min2P, Sv.negP, Sv.augAdd, Sv.setD, Sv.mAppend, Sv.ltB, Sv.gtB, Sv.leB, Sv.geB, Sv.ordB, Sv.small64, Sv.isP, Sv.wSeq, Sv.wRange1, Sv.sFor, k, z1, hz, isNotB, isB, a0, a1, eq, on, eo, cTold, mp, rp, ep]
    | cons c r =>
      rw [decide_eq_false (by unfold pos; simp only [List.length_cons] at *; omega)] at eq
      obtain ⟨o4, eo⟩ := eof_none hx due.symm
      simp [d_text_right, Sv.sNil, Sv.sCons, Sv.sPass, Sv.sBreak, Sv.sCont, Sv.sExpr, Sv.put, Sv.sSet, Sv.sRet, Sv.sRetN, Sv.sIf, Sv.cVar, Sv.cK, Sv.cE, Sv.cP, Sv.cOp, Sv.cUn, Sv.cChain, Sv.cIf, Sv.cAnd, Sv.cOr, Sv.cNot, Sv.tB, Sv.tAnd, Sv.tOr, Sv.tNot, Sv.tYes, Sv.aNil, Sv.aCons, Sv.aStar, Sv.cCall, Sv.cTup, Sv.cLst, Sv.cSl, Sv.cMeth, Sv.sSetIx, Sv.sPar2, Sv.sPar3, Sv.sAsg, Sv.sAug, Sv.hold, Sv.slot, Sv.outF, Sv.argsB, Sv.slotsOf, Sv.back, Sv.rds, Sv.datas, Sv.gN, Sv.gT, Sv.gL, Sv.gRun, Sv.cFn, Sv.fnD, Sv.sRaise, Sv.R.bind, Sv.R.opt, Sv.R.toS, Sv.RS.seq, Sv.Hd.rd, Sv.B.rd, Sv.toP, Sv.eqP, Sv.neP, Sv.one, Sv.two, Sv.getP, Sv.lenP, Sv.addP, Sv.subP, Sv.mulP, Sv.mulQ, Sv.fdivP, Sv.modP, Sv.powP, Sv.intP, Sv.absP, Sv.max2P, Sv.min2P, Sv.negP, Sv.augAdd, Sv.setD, Sv.mAppend, Sv.ltB, Sv.gtB, Sv.leB, Sv.geB, Sv.ordB, Sv.small64, Sv.isP, Sv.wSeq, Sv.wRange1, Sv.sFor, k, z1, hz, isNotB, isB, a0, a1, eq, eo, cTold, mp, rp, ep]
end K05
end
section
set_option autoImplicit false
set_option linter.all false
set_option maxRecDepth 100000
namespace K05
open PySem Sv
/-! ### names drawn -/
theorem atI_in {α : Type} (xs : List α) (j : Int) (h0 : 0 ≤ j) (h1 : j < xs.length) : ∃ a ∈ xs, L2.atI xs j = some a := by
  obtain ⟨i, rfl⟩ : ∃ i : Nat, j = i := ⟨j.toNat, by omega⟩
  have h : i < xs.length := by omega
  exact ⟨xs[i], List.getElem_mem h, atI_nat xs i _ (List.getElem?_eq_getElem h)⟩
def tails : List Str := [Str.ofString "", Str.ofString "", Str.ofString "", Str.ofString "a", Str.ofString "zz", Str.ofString "abcdefg"]
theorem nm_app {c : Nat} {s : Str} (hc : c ∈ lets) (hs : s ∈ tails) : nmS (⟨#[c]⟩ ++ s) = true := by
  have h1 : ∀ s ∈ tails, s.length ≤ 7 ∧ s.cps.toList.all isL = true := by decide
  obtain ⟨a, b⟩ := h1 s hs
  have hl : (⟨#[c]⟩ ++ s : Str).length = 1 + s.length := by
    rw [len_cps, app_cps, List.length_append, ← len_cps, ← len_cps]
    rfl
  unfold nmS
  rw [hl, app_cps, List.all_append, b]
  have : isL c = true := decide_eq_true hc
  simp [this]
  omega
theorem names_body {x : B} (hx : Tap x) (i : Nat) (hi : i < 5) (S : Str) (hS : S.cps.toList = lets) (acc : List PyData) (ha : acc.length < 100) (s1 q : Option B) : ∃ y w q', Tap y ∧ nmS w = true ∧
    fb_names_0 [some x, s1, some (.d (.str S)), some (.l acc), some (.d (.int i)), q] = .nx [some y, s1, some (.d (.str S)), some (.l (acc ++ [.str w])), some (.d (.int i)), q'] := by
  obtain ⟨r, y, h1, h2, hy, k⟩ := turn_tap hx 3 (by omega) (by omega)
  obtain ⟨r2, z, h3, h4, hz, k2⟩ := turn_tap hy 6 (by omega) (by omega)
  have ll : lets.length = 26 := by decide
  obtain ⟨c, hc, e1⟩ := atI_in lets (3 * (i : Int) + r) (by omega) (by rw [ll]; omega)
  rw [← hS] at e1
  obtain ⟨t, ht, e2⟩ := atI_in tails r2 h3 (by show r2 < 6; omega)
  have e3 : L2.atI (tails.map PyData.str) r2 = some (.str t) := by
    obtain ⟨j, rfl⟩ : ∃ j : Nat, r2 = j := ⟨r2.toNat, by omega⟩
    have hj : j < tails.length := by show j < 6; omega
    have := atI_nat tails j _ (List.getElem?_eq_getElem hj)
    rw [this] at e2
    refine atI_nat _ j _ ?_
    rw [List.getElem?_map, List.getElem?_eq_getElem hj]
    cases e2
    rfl
  simp only [tails, List.map_cons, List.map_nil] at e3
  have tl : t.length ≤ 7 := by
    have : ∀ s ∈ tails, s.length ≤ 7 := by decide
    exact this t ht
  have zl : (⟨#[c]⟩ : Str).length + t.length ≤ sizeLine := by
    rw [sizeLine_eq, show (⟨#[c]⟩ : Str).length = 1 from rfl]
    omega
  have z6 : 6 ≤ sizeLine := by rw [sizeLine_eq]; decide
  have za : acc.length < sizeLine := by rw [sizeLine_eq]; omega
  have zS : S.length ≤ sizeLine := by
    rw [len_cps, hS, ll, sizeLine_eq]
    decide
  obtain ⟨xa, xb, xc, rfl⟩ := hx
  obtain ⟨ya, yb, yc, rfl⟩ := hy
  obtain ⟨wa, wb, wc, rfl⟩ := hz
  refine ⟨_, _, some (.d (.str ⟨#[c]⟩)), ⟨wa, wb, wc, rfl⟩, nm_app hc ht, ?_⟩
  simp [fb_names_0, Sv.sNil, Sv.sCons, Sv.sPass, Sv.sBreak, Sv.sCont, Sv.sExpr, Sv.put, Sv.sSet, Sv.sRet, Sv.sRetN, Sv.sIf, Sv.cVar, Sv.cK, Sv.cE, Sv.cP, Sv.cOp, Sv.cUn, Sv.cChain, Sv.cIf, Sv.cAnd, Sv.cOr, Sv.cNot, Sv.tB, Sv.tAnd, Sv.tOr, Sv.tNot, Sv.tYes, Sv.aNil, Sv.aCons, Sv.aStar, Sv.cCall, Sv.cTup, Sv.cLst, Sv.cSl, Sv.cMeth, Sv.sSetIx, Sv.sPar2, Sv.sPar3, Sv.sAsg, Sv.sAug, Sv.hold, Sv.slot, Sv.outF, Sv.argsB, Sv.slotsOf, Sv.back, Sv.rds, Sv.datas, Sv.gN, Sv.gT, Sv.gL, Sv.gRun, Sv.cFn, Sv.fnD, Sv.sRaise, Sv.R.bind, Sv.R.opt, Sv.R.toS, Sv.RS.seq, Sv.Hd.rd, Sv.B.rd, Sv.toP, Sv.eqP, Sv.neP, Sv.one, Sv.two, Sv.getP, Sv.lenP, Sv.addP, Sv.subP, Sv.mulP, Sv.mulQ, Sv.fdivP, Sv.modP, Sv.powP, Sv.intP, Sv.absP, Sv.max2P, Sv.min2P, Sv.negP, Sv.augAdd, Sv.setD, Sv.mAppend, Sv.ltB, Sv.gtB, Sv.leB, Sv.geB, Sv.ordB, Sv.small64, Sv.isP, Sv.wSeq, Sv.wRange1, Sv.sFor, mulP, k, k2, e1, e3, z6, zl, za, zS]
theorem names_loop (s1 : Option B) (S : Str) (hS : S.cps.toList = lets) : ∀ (n i : Nat) (x : B) (acc : List Str) (q4 q : Option B), Tap x → i + n ≤ 5 → acc.length = i → (∀ w ∈ acc, nmS w = true) → ∃ (y : B) (ws : List Str) (q4' q' : Option B), Tap y ∧ ws.length = i + n ∧ (∀ w ∈ ws, nmS w = true) ∧
    loopF (gN 4) fb_names_0 ((List.range' i n).map fun i => .int (0 + (i : Nat))) [some x, s1, some (.d (.str S)), some (.l (acc.map .str)), q4, q] = .nx [some y, s1, some (.d (.str S)), some (.l (ws.map .str)), q4', q']
  | 0, i, x, acc, q4, q, hx, _, ha, hn => ⟨x, acc, q4, q, hx, by omega, hn, rfl⟩
  | n + 1, i, x, acc, q4, q, hx, hi, ha, hn => by
    obtain ⟨y, w, q', hy, hw, k⟩ := names_body hx i (by omega) S hS (acc.map .str) (by rw [List.length_map]; omega) s1 q
    have ea : acc.map PyData.str ++ [.str w] = (acc ++ [w]).map .str := by simp
    rw [ea] at k
    obtain ⟨z, ws, q4', q'', hz, hl, hws, k2⟩ := names_loop s1 S hS n (i + 1) y (acc ++ [w]) (some (.d (.int i))) q' hy (by omega) (by rw [List.length_append]; simp; omega) (fun v hv => by
      rcases List.mem_append.mp hv with h | h
      · exact hn v h
      · rw [List.mem_singleton.mp h]; exact hw)
    refine ⟨z, ws, q4', q'', hz, by omega, hws, ?_⟩
    have e0 : (0 : Int) + (i : Nat) = (i : Nat) := by omega
    rw [List.range'_succ, List.map_cons, loopF, e0]
    simp only [gN, RS.seq, List.set_cons_succ, List.set_cons_zero]
    rw [k]
    exact k2
theorem lets_eq : (Str.ofString "abcdefghijklmnopqrstuvwxyz").cps.toList = lets := by unfold lets; rfl
theorem wr_gen {c : Cd} {e e1 : Sv.Env} {h : Hd} {j : Int} (hc : c e = .ok h e1) (hr : h.rd e1 = some (.int j)) (hj : -(2 ^ 62) ≤ j ∧ j < 2 ^ 62) : wRange1 c e = .ok (rngD 0 j.toNat) e1 := by
  unfold wRange1
  rw [hc, R.bind_ok, hr]
  exact if_pos hj
theorem names_spec {x : B} (hx : Tap x) (n : Nat) (hn : n ≤ 5) : ∃ (y : B) (ws : List Str), Tap y ∧ ws.length = n ∧ (∀ w ∈ ws, nmS w = true) ∧ ∃ o, d_names [x, .d (.int n)] = .ok (.l (ws.map .str)) [some y, o] := by
  obtain ⟨y, ws, q4, q, hy, hl, hw, k⟩ := names_loop (some (.d (.int n))) (Str.ofString "abcdefghijklmnopqrstuvwxyz") lets_eq n 0 x [] none none hx (by omega) rfl (by simp)
  rw [← List.range_eq_range'] at k
  refine ⟨y, ws, hy, by omega, hw, some (.d (.int n)), ?_⟩
  obtain ⟨xa, xb, xc, rfl⟩ := hx
  obtain ⟨ya, yb, yc, rfl⟩ := hy
  have w := wr_gen (c := cVar 1) (e := [some (.l [.int xa, .int xb, .int xc]), some (.d (.int n)), some (.d (.str (Str.ofString "abcdefghijklmnopqrstuvwxyz"))), some (.l []), none, none]) (j := (n : Int)) rfl rfl (by omega)
  rw [Int.toNat_natCast] at w
  have k' := for_gen w k
  have s1 : sPar2 2 3 (cK (.str (Str.ofString "abcdefghijklmnopqrstuvwxyz"))) (cLst aNil) [some (.l [.int xa, .int xb, .int xc]), some (.d (.int n)), none, none, none, none] = .nx [some (.l [.int xa, .int xb, .int xc]), some (.d (.int n)), some (.d (.str (Str.ofString "abcdefghijklmnopqrstuvwxyz"))), some (.l []), none, none] := by simp [Sv.sNil, Sv.sCons, Sv.sPass, Sv.sBreak, Sv.sCont, Sv.sExpr, Sv.put, Sv.sSet, Sv.sRet, Sv.sRetN, Sv.sIf, Sv.cVar, Sv.cK, Sv.cE, Sv.cP, Sv.cOp, Sv.cUn, Sv.cChain, Sv.cIf, Sv.cAnd, Sv.cOr, Sv.cNot, Sv.tB, Sv.tAnd, Sv.tOr, Sv.tNot, Sv.tYes, Sv.aNil, Sv.aCons, Sv.aStar, Sv.cCall, Sv.cTup, Sv.cLst, Sv.cSl, Sv.cMeth, Sv.sSetIx, Sv.sPar2, Sv.sPar3, Sv.sAsg, Sv.sAug, Sv.hold, Sv.slot, Sv.outF, Sv.argsB, Sv.slotsOf, Sv.back, Sv.rds, Sv.datas, Sv.gN, Sv.gT, Sv.gL, Sv.gRun, Sv.cFn, Sv.fnD, Sv.sRaise, Sv.R.bind, Sv.R.opt, Sv.R.toS, Sv.RS.seq, Sv.Hd.rd, Sv.B.rd, Sv.toP, Sv.eqP, Sv.neP, Sv.one, Sv.two, Sv.getP, Sv.lenP, Sv.addP, Sv.subP, Sv.mulP, Sv.mulQ, Sv.fdivP, Sv.modP, Sv.powP, Sv.intP, Sv.absP, Sv.max2P, Sv.min2P, Sv.negP, Sv.augAdd, Sv.setD, Sv.mAppend, Sv.ltB, Sv.gtB, Sv.leB, Sv.geB, Sv.ordB, Sv.small64, Sv.isP, Sv.wSeq, Sv.wRange1, Sv.sFor]
  have s3 : sRet (cVar 3) [some (.l [.int ya, .int yb, .int yc]), some (.d (.int n)), some (.d (.str (Str.ofString "abcdefghijklmnopqrstuvwxyz"))), some (.l (ws.map .str)), q4, q] = .rt (.l (ws.map .str)) [some (.l [.int ya, .int yb, .int yc]), some (.d (.int n)), some (.d (.str (Str.ofString "abcdefghijklmnopqrstuvwxyz"))), none, q4, q] := by
    generalize ws.map PyData.str = wl
    simp [Sv.sNil, Sv.sCons, Sv.sPass, Sv.sBreak, Sv.sCont, Sv.sExpr, Sv.put, Sv.sSet, Sv.sRet, Sv.sRetN, Sv.sIf, Sv.cVar, Sv.cK, Sv.cE, Sv.cP, Sv.cOp, Sv.cUn, Sv.cChain, Sv.cIf, Sv.cAnd, Sv.cOr, Sv.cNot, Sv.tB, Sv.tAnd, Sv.tOr, Sv.tNot, Sv.tYes, Sv.aNil, Sv.aCons, Sv.aStar, Sv.cCall, Sv.cTup, Sv.cLst, Sv.cSl, Sv.cMeth, Sv.sSetIx, Sv.sPar2, Sv.sPar3, Sv.sAsg, Sv.sAug, Sv.hold, Sv.slot, Sv.outF, Sv.argsB, Sv.slotsOf, Sv.back, Sv.rds, Sv.datas, Sv.gN, Sv.gT, Sv.gL, Sv.gRun, Sv.cFn, Sv.fnD, Sv.sRaise, Sv.R.bind, Sv.R.opt, Sv.R.toS, Sv.RS.seq, Sv.Hd.rd, Sv.B.rd, Sv.toP, Sv.eqP, Sv.neP, Sv.one, Sv.two, Sv.getP, Sv.lenP, Sv.addP, Sv.subP, Sv.mulP, Sv.mulQ, Sv.fdivP, Sv.modP, Sv.powP, Sv.intP, Sv.absP, Sv.max2P, Sv.min2P, Sv.negP, Sv.augAdd, Sv.setD, Sv.mAppend, Sv.ltB, Sv.gtB, Sv.leB, Sv.geB, Sv.ordB, Sv.small64, Sv.isP, Sv.wSeq, Sv.wRange1, Sv.sFor]
  exact fn_gen (seq_gen s1 (seq_gen k' s3))
theorem pick_l {x : B} (h : Tap x) (l : List PyData) (hl : 0 < l.length) (hz : l.length ≤ 1000) : ∃ r y, r ∈ l ∧ Tap y ∧ d_pick [x, .l l] = .ok (.d r) [some y, some (.l l)] := by
  obtain ⟨r, y, h1, h2, h3, h4⟩ := turn_tap h (l.length : Int) (by omega) (by omega)
  have hr : r.toNat < l.length := by omega
  have e : (r.toNat : Int) = r := by omega
  obtain ⟨a, b, c, rfl⟩ := h
  obtain ⟨a', b', c', rfl⟩ := h3
  refine ⟨l[r.toNat], _, List.getElem_mem hr, ⟨a', b', c', rfl⟩, ?_⟩
  simp [d_pick, Sv.sNil, Sv.sCons, Sv.sPass, Sv.sBreak, Sv.sCont, Sv.sExpr, Sv.put, Sv.sSet, Sv.sRet, Sv.sRetN, Sv.sIf, Sv.cVar, Sv.cK, Sv.cE, Sv.cP, Sv.cOp, Sv.cUn, Sv.cChain, Sv.cIf, Sv.cAnd, Sv.cOr, Sv.cNot, Sv.tB, Sv.tAnd, Sv.tOr, Sv.tNot, Sv.tYes, Sv.aNil, Sv.aCons, Sv.aStar, Sv.cCall, Sv.cTup, Sv.cLst, Sv.cSl, Sv.cMeth, Sv.sSetIx, Sv.sPar2, Sv.sPar3, Sv.sAsg, Sv.sAug, Sv.hold, Sv.slot, Sv.outF, Sv.argsB, Sv.slotsOf, Sv.back, Sv.rds, Sv.datas, Sv.gN, Sv.gT, Sv.gL, Sv.gRun, Sv.cFn, Sv.fnD, Sv.sRaise, Sv.R.bind, Sv.R.opt, Sv.R.toS, Sv.RS.seq, Sv.Hd.rd, Sv.B.rd, Sv.toP, Sv.eqP, Sv.neP, Sv.one, Sv.two, Sv.getP, Sv.lenP, Sv.addP, Sv.subP, Sv.mulP, Sv.mulQ, Sv.fdivP, Sv.modP, Sv.powP, Sv.intP, Sv.absP, Sv.max2P, Sv.min2P, Sv.negP, Sv.augAdd, Sv.setD, Sv.mAppend, Sv.ltB, Sv.gtB, Sv.leB, Sv.geB, Sv.ordB, Sv.small64, Sv.isP, Sv.wSeq, Sv.wRange1, Sv.sFor, h4, L2.atI, L2.ixN, h1, h2, hr]
end K05
end
section
set_option autoImplicit false
set_option linter.all false
set_option maxRecDepth 100000
namespace K05
open PySem Sv
/-! ### expressions drawn -/
theorem tt_nm {n : Nat} {x : Str} (h : nmS x = true) : tt n (.str x) = some (1, 0, 0) := by
  have : isNm (.str x) = true := h
  cases n <;> simp [tt, this]
theorem tt_front {n : Nat} {x : Str} {ps : List PyData} (h : isFr x ps.length = true) : tt (n + 1) (.tuple (.str x :: ps)) = ttGo (tt n) ps (0, 1, 1) := by
  have h1 : isNm (.tuple (.str x :: ps)) = false := rfl
  have h2 : front (.tuple (.str x :: ps)) = true := h
  simp [tt, h1, h2, parts]
theorem fr1 {w : Str} (h : w ∈ [Str.ofString "any", Str.ofString "some", Str.ofString "maybe", Str.ofString "maybe"]) : isFr w 1 = true := by
  have : ∀ w ∈ [Str.ofString "any", Str.ofString "some", Str.ofString "maybe", Str.ofString "maybe"], isFr w 1 = true := by decide
  exact this w h
theorem expression_spec (names : List Str) (hn : ∀ w ∈ names, nmS w = true) (n0 : 0 < names.length) (n1 : names.length ≤ 5) : ∀ (d fuel m : Nat) (x : B), Tap x → 1 ≤ m → m ≤ 12 → d < fuel → ∃ v t y, Tap y ∧ tt (d + 1) v = some t ∧ t.1 ≤ m ∧ t.2.1 ≤ m * (d + 1) ∧
    ∃ o1 o2, d_expression fuel [x, .l (names.map .str), .d (.int m), .d (.int d)] = .ok (.d v) [some y, some (.l (names.map .str)), o1, o2]
  | d, 0, m, x, _, _, _, h => by omega
  | d, fuel + 1, m, x, hx, m1, m2, hf => by
    obtain ⟨lot, y, a1, a2, hy, k⟩ := turn_tap hx 12 (by omega) (by omega)
    have z1 : 1 ≤ sizeLine := by rw [sizeLine_eq]; decide
    have z2 : 2 ≤ sizeLine := by rw [sizeLine_eq]; decide
    have z3 : 3 ≤ sizeLine := by rw [sizeLine_eq]; decide
    have z4 : 4 ≤ sizeLine := by rw [sizeLine_eq]; decide
    have i1 : ¬ (m : Int) < 1 := by omega
    have q0 := eq_int lot 0
    have hmd : 1 ≤ m * (d + 1) := Nat.mul_pos m1 (Nat.succ_pos d)
    by_cases h0 : lot = 0
    · rw [decide_eq_true h0] at q0
      obtain ⟨r, z, b1, b2, hz, k2⟩ := turn_tap hy 8 (by omega) (by omega)
      have q1 := eq_int r 0
      have t1 : ∀ w : Str, isFr w 0 = true → tt (d + 1) (.tuple [.str w]) = some (0, 1, 1) := fun w h => tt_front h
      obtain ⟨xa, xb, xc, rfl⟩ := hx
      obtain ⟨ya, yb, yc, rfl⟩ := hy
      obtain ⟨wa, wb, wc, rfl⟩ := hz
      by_cases hr : r = 0
      · rw [decide_eq_true hr] at q1
        refine ⟨_, _, _, ⟨wa, wb, wc, rfl⟩, t1 (Str.ofString "or") (by decide), by simp, hmd, some (.d (.int m)), some (.d (.int d)), ?_⟩
        simp [d_expression, Sv.sNil, Sv.sCons, Sv.sPass, Sv.sBreak, Sv.sCont, Sv.sExpr, Sv.put, Sv.sSet, Sv.sRet, Sv.sRetN, Sv.sIf, Sv.cVar, Sv.cK, Sv.cE, Sv.cP, Sv.cOp, Sv.cUn, Sv.cChain, Sv.cIf, Sv.cAnd, Sv.cOr, Sv.cNot, Sv.tB, Sv.tAnd, Sv.tOr, Sv.tNot, Sv.tYes, Sv.aNil, Sv.aCons, Sv.aStar, Sv.cCall, Sv.cTup, Sv.cLst, Sv.cSl, Sv.cMeth, Sv.sSetIx, Sv.sPar2, Sv.sPar3, Sv.sAsg, Sv.sAug, Sv.hold, Sv.slot, Sv.outF, Sv.argsB, Sv.slotsOf, Sv.back, Sv.rds, Sv.datas, Sv.gN, Sv.gT, Sv.gL, Sv.gRun, Sv.cFn, Sv.fnD, Sv.sRaise, Sv.R.bind, Sv.R.opt, Sv.R.toS, Sv.RS.seq, Sv.Hd.rd, Sv.B.rd, Sv.toP, Sv.eqP, Sv.neP, Sv.one, Sv.two, Sv.getP, Sv.lenP, Sv.addP, Sv.subP, Sv.mulP, Sv.mulQ, Sv.fdivP, Sv.modP, Sv.powP, Sv.intP, Sv.absP, Sv.max2P, Sv.min2P, Sv.negP, Sv.augAdd, Sv.setD, Sv.mAppend, Sv.ltB, Sv.gtB, Sv.leB, Sv.geB, Sv.ordB, Sv.small64, Sv.isP, Sv.wSeq, Sv.wRange1, Sv.sFor, k, k2, i1, q0, q1, z1]
      · rw [decide_eq_false hr] at q1
        refine ⟨_, _, _, ⟨wa, wb, wc, rfl⟩, t1 (Str.ofString "then") (by decide), by simp, hmd, some (.d (.int m)), some (.d (.int d)), ?_⟩
        simp [d_expression, Sv.sNil, Sv.sCons, Sv.sPass, Sv.sBreak, Sv.sCont, Sv.sExpr, Sv.put, Sv.sSet, Sv.sRet, Sv.sRetN, Sv.sIf, Sv.cVar, Sv.cK, Sv.cE, Sv.cP, Sv.cOp, Sv.cUn, Sv.cChain, Sv.cIf, Sv.cAnd, Sv.cOr, Sv.cNot, Sv.tB, Sv.tAnd, Sv.tOr, Sv.tNot, Sv.tYes, Sv.aNil, Sv.aCons, Sv.aStar, Sv.cCall, Sv.cTup, Sv.cLst, Sv.cSl, Sv.cMeth, Sv.sSetIx, Sv.sPar2, Sv.sPar3, Sv.sAsg, Sv.sAug, Sv.hold, Sv.slot, Sv.outF, Sv.argsB, Sv.slotsOf, Sv.back, Sv.rds, Sv.datas, Sv.gN, Sv.gT, Sv.gL, Sv.gRun, Sv.cFn, Sv.fnD, Sv.sRaise, Sv.R.bind, Sv.R.opt, Sv.R.toS, Sv.RS.seq, Sv.Hd.rd, Sv.B.rd, Sv.toP, Sv.eqP, Sv.neP, Sv.one, Sv.two, Sv.getP, Sv.lenP, Sv.addP, Sv.subP, Sv.mulP, Sv.mulQ, Sv.fdivP, Sv.modP, Sv.powP, Sv.intP, Sv.absP, Sv.max2P, Sv.min2P, Sv.negP, Sv.augAdd, Sv.setD, Sv.mAppend, Sv.ltB, Sv.gtB, Sv.leB, Sv.geB, Sv.ordB, Sv.small64, Sv.isP, Sv.wSeq, Sv.wRange1, Sv.sFor, k, k2, i1, q0, q1, z1]
    · rw [decide_eq_false h0] at q0
      have q2 := eq_int (d : Int) 0
      by_cases hl : d = 0 ∨ lot < 4
      · obtain ⟨r, z, b1, hz, k2⟩ := pick_l hy (names.map .str) (by rw [List.length_map]; omega) (by rw [List.length_map]; omega)
        obtain ⟨w, hw, rfl⟩ := List.mem_map.mp b1
        obtain ⟨xa, xb, xc, rfl⟩ := hx
        obtain ⟨ya, yb, yc, rfl⟩ := hy
        obtain ⟨wa, wb, wc, rfl⟩ := hz
        refine ⟨_, _, _, ⟨wa, wb, wc, rfl⟩, tt_nm (hn w hw), m1, Nat.zero_le _, some (.d (.int m)), some (.d (.int d)), ?_⟩
        generalize names.map PyData.str = nl at *
        by_cases hd : d = 0
        · rw [decide_eq_true (by omega)] at q2
          simp [d_expression, Sv.sNil, Sv.sCons, Sv.sPass, Sv.sBreak, Sv.sCont, Sv.sExpr, Sv.put, Sv.sSet, Sv.sRet, Sv.sRetN, Sv.sIf, Sv.cVar, Sv.cK, Sv.cE, Sv.cP, Sv.cOp, Sv.cUn, Sv.cChain, Sv.cIf, Sv.cAnd, Sv.cOr, Sv.cNot, Sv.tB, Sv.tAnd, Sv.tOr, Sv.tNot, Sv.tYes, Sv.aNil, Sv.aCons, Sv.aStar, Sv.cCall, Sv.cTup, Sv.cLst, Sv.cSl, Sv.cMeth, Sv.sSetIx, Sv.sPar2, Sv.sPar3, Sv.sAsg, Sv.sAug, Sv.hold, Sv.slot, Sv.outF, Sv.argsB, Sv.slotsOf, Sv.back, Sv.rds, Sv.datas, Sv.gN, Sv.gT, Sv.gL, Sv.gRun, Sv.cFn, Sv.fnD, Sv.sRaise, Sv.R.bind, Sv.R.opt, Sv.R.toS, Sv.RS.seq, Sv.Hd.rd, Sv.B.rd, Sv.toP, Sv.eqP, Sv.neP, Sv.one, Sv.two, Sv.getP, Sv.lenP, Sv.addP, Sv.subP, Sv.mulP, Sv.mulQ, Sv.fdivP, Sv.modP, Sv.powP, Sv.intP, Sv.absP, Sv.max2P, Sv.min2P, Sv.negP, Sv.augAdd, Sv.setD, Sv.mAppend, Sv.ltB, Sv.gtB, Sv.leB, Sv.geB, Sv.ordB, Sv.small64, Sv.isP, Sv.wSeq, Sv.wRange1, Sv.sFor, k, k2, i1, q0, q2]
        · rw [decide_eq_false (by omega)] at q2
          have i4 : lot < 4 := by omega
          simp [d_expression, Sv.sNil, Sv.sCons, Sv.sPass, Sv.sBreak, Sv.sCont, Sv.sExpr, Sv.put, Sv.sSet, Sv.sRet, Sv.sRetN, Sv.sIf, Sv.cVar, Sv.cK, Sv.cE, Sv.cP, Sv.cOp, Sv.cUn, Sv.cChain, Sv.cIf, Sv.cAnd, Sv.cOr, Sv.cNot, Sv.tB, Sv.tAnd, Sv.tOr, Sv.tNot, Sv.tYes, Sv.aNil, Sv.aCons, Sv.aStar, Sv.cCall, Sv.cTup, Sv.cLst, Sv.cSl, Sv.cMeth, Sv.sSetIx, Sv.sPar2, Sv.sPar3, Sv.sAsg, Sv.sAug, Sv.hold, Sv.slot, Sv.outF, Sv.argsB, Sv.slotsOf, Sv.back, Sv.rds, Sv.datas, Sv.gN, Sv.gT, Sv.gL, Sv.gRun, Sv.cFn, Sv.fnD, Sv.sRaise, Sv.R.bind, Sv.R.opt, Sv.R.toS, Sv.RS.seq, Sv.Hd.rd, Sv.B.rd, Sv.toP, Sv.eqP, Sv.neP, Sv.one, Sv.two, Sv.getP, Sv.lenP, Sv.addP, Sv.subP, Sv.mulP, Sv.mulQ, Sv.fdivP, Sv.modP, Sv.powP, Sv.intP, Sv.absP, Sv.max2P, Sv.min2P, Sv.negP, Sv.augAdd, Sv.setD, Sv.mAppend, Sv.ltB, Sv.gtB, Sv.leB, Sv.geB, Sv.ordB, Sv.small64, Sv.isP, Sv.wSeq, Sv.wRange1, Sv.sFor, k, k2, i1, q0, q2, i4]
      · obtain ⟨d', rfl⟩ : ∃ d', d = d' + 1 := ⟨d - 1, by omega⟩
        rw [decide_eq_false (by omega)] at q2
        have i4 : ¬ lot < 4 := by omega
        have ed : ((d' + 1 : Nat) : Int) - 1 = (d' : Int) := by omega
        have ed2 : ((d' : Int) + 1) - 1 = (d' : Int) := by omega
        have q3 : eqB (.int ((d' : Int) + 1)) (.int 0) = some false := by rw [eq_int, decide_eq_false (by omega)]
        by_cases hs : 1 < m ∧ lot < 10
        · have i5 : (1 : Int) < (m : Int) := by omega
          have i6 : lot < 10 := hs.2
          obtain ⟨r, z, b1, b2, hz, k2⟩ := turn_tap hy ((m : Int) - 1) (by omega) (by omega)
          obtain ⟨l, rfl⟩ : ∃ l : Nat, r = l := ⟨r.toNat, by omega⟩
          obtain ⟨v1, t1, y1, hy1, c1, c2, c3, o1, o2, k3⟩ := expression_spec names hn n0 n1 d' fuel (1 + l) z hz (by omega) (by omega) (by omega)
          obtain ⟨v2, t2, y2, hy2, e1, e2, e3, o3, o4, k4⟩ := expression_spec names hn n0 n1 d' fuel (m - (1 + l)) y1 hy1 (by omega) (by omega) (by omega)
          rw [show ((m - (1 + l) : Nat) : Int) = (m : Int) - (1 + l) by omega] at k4
          rw [show ((1 + l : Nat) : Int) = 1 + (l : Int) by omega] at k3
          have tv : ∀ w : Str, isFr w 2 = true → tt (d' + 1 + 1) (.tuple [.str w, v1, v2]) = some (0 + t1.1 + t2.1, 1 + t1.2.1 + t2.2.1, max (max 1 (t1.2.2 + 1)) (t2.2.2 + 1)) := fun w h => by
            rw [tt_front h]
            simp only [ttGo, c1, e1]
          have c5 : (1 + l) * (d' + 1) + (m - (1 + l)) * (d' + 1) = m * (d' + 1) := by rw [← Nat.add_mul]; congr 1; omega
          have c6 : m * (d' + 1 + 1) = m * (d' + 1) + m := Nat.mul_succ _ _
          obtain ⟨xa, xb, xc, rfl⟩ := hx
          obtain ⟨ya, yb, yc, rfl⟩ := hy
          obtain ⟨wa, wb, wc, rfl⟩ := hz
          obtain ⟨wa, wb, wc, rfl⟩ := hy1
          obtain ⟨ua, ub, uc, rfl⟩ := hy2
          generalize names.map PyData.str = nl at *
          by_cases i8 : lot < 8
          · refine ⟨_, _, _, ⟨ua, ub, uc, rfl⟩, tv (Str.ofString "then") (by decide), by simp only; omega, by simp only; omega, some (.d (.int m)), some (.d (.int ((d' + 1 : Nat) : Int))), ?_⟩
            simp [d_expression, Sv.sNil, Sv.sCons, Sv.sPass, Sv.sBreak, Sv.sCont, Sv.sExpr, Sv.put, Sv.sSet, Sv.sRet, Sv.sRetN, Sv.sIf, Sv.cVar, Sv.cK, Sv.cE, Sv.cP, Sv.cOp, Sv.cUn, Sv.cChain, Sv.cIf, Sv.cAnd, Sv.cOr, Sv.cNot, Sv.tB, Sv.tAnd, Sv.tOr, Sv.tNot, Sv.tYes, Sv.aNil, Sv.aCons, Sv.aStar, Sv.cCall, Sv.cTup, Sv.cLst, Sv.cSl, Sv.cMeth, Sv.sSetIx, Sv.sPar2, Sv.sPar3, Sv.sAsg, Sv.sAug, Sv.hold, Sv.slot, Sv.outF, Sv.argsB, Sv.slotsOf, Sv.back, Sv.rds, Sv.datas, Sv.gN, Sv.gT, Sv.gL, Sv.gRun, Sv.cFn, Sv.fnD, Sv.sRaise, Sv.R.bind, Sv.R.opt, Sv.R.toS, Sv.RS.seq, Sv.Hd.rd, Sv.B.rd, Sv.toP, Sv.eqP, Sv.neP, Sv.one, Sv.two, Sv.getP, Sv.lenP, Sv.addP, Sv.subP, Sv.mulP, Sv.mulQ, Sv.fdivP, Sv.modP, Sv.powP, Sv.intP, Sv.absP, Sv.max2P, Sv.min2P, Sv.negP, Sv.augAdd, Sv.setD, Sv.mAppend, Sv.ltB, Sv.gtB, Sv.leB, Sv.geB, Sv.ordB, Sv.small64, Sv.isP, Sv.wSeq, Sv.wRange1, Sv.sFor, k, k2, k3, k4, i1, q0, q3, i4, i5, i6, i8, ed, ed2, z3]
          · refine ⟨_, _, _, ⟨ua, ub, uc, rfl⟩, tv (Str.ofString "or") (by decide), by simp only; omega, by simp only; omega, some (.d (.int m)), some (.d (.int ((d' + 1 : Nat) : Int))), ?_⟩
            simp [d_expression, Sv.sNil, Sv.sCons, Sv.sPass, Sv.sBreak, Sv.sCont, Sv.sExpr, Sv.put, Sv.sSet, Sv.sRet, Sv.sRetN, Sv.sIf, Sv.cVar, Sv.cK, Sv.cE, Sv.cP, Sv.cOp, Sv.cUn, Sv.cChain, Sv.cIf, Sv.cAnd, Sv.cOr, Sv.cNot, Sv.tB, Sv.tAnd, Sv.tOr, Sv.tNot, Sv.tYes, Sv.aNil, Sv.aCons, Sv.aStar, Sv.cCall, Sv.cTup, Sv.cLst, Sv.cSl, Sv.cMeth, Sv.sSetIx, Sv.sPar2, Sv.sPar3, Sv.sAsg, Sv.sAug, Sv.hold, Sv.slot, Sv.outF, Sv.argsB, Sv.slotsOf, Sv.back, Sv.rds, Sv.datas, Sv.gN, Sv.gT, Sv.gL, Sv.gRun, Sv.cFn, Sv.fnD, Sv.sRaise, Sv.R.bind, Sv.R.opt, Sv.R.toS, Sv.RS.seq, Sv.Hd.rd, Sv.B.rd, Sv.toP, Sv.eqP, Sv.neP, Sv.one, Sv.two, Sv.getP, Sv.lenP, Sv.addP, Sv.subP, Sv.mulP, Sv.mulQ, Sv.fdivP, Sv.modP, Sv.powP, Sv.intP, Sv.absP, Sv.max2P, Sv.min2P, Sv.negP, Sv.augAdd, Sv.setD, Sv.mAppend, Sv.ltB, Sv.gtB, Sv.leB, Sv.geB, Sv.ordB, Sv.small64, Sv.isP, Sv.wSeq, Sv.wRange1, Sv.sFor, k, k2, k3, k4, i1, q0, q3, i4, i5, i6, i8, ed, ed2, z3]
        · obtain ⟨r, z, b1, hz, k2⟩ := pick_tap hy ([Str.ofString "any", Str.ofString "some", Str.ofString "maybe", Str.ofString "maybe"].map PyData.str) (by simp) (by simp)
          obtain ⟨w, hw, rfl⟩ := List.mem_map.mp b1
          obtain ⟨v1, t1, y1, hy1, c1, c2, c3, o1, o2, k3⟩ := expression_spec names hn n0 n1 d' fuel m z hz (by omega) (by omega) (by omega)
          have tv : tt (d' + 1 + 1) (.tuple [.str w, v1]) = some (0 + t1.1, 1 + t1.2.1, max 1 (t1.2.2 + 1)) := by
            rw [tt_front (fr1 hw)]
            simp only [ttGo, c1]
          have c6 : m * (d' + 1 + 1) = m * (d' + 1) + m := Nat.mul_succ _ _
          obtain ⟨xa, xb, xc, rfl⟩ := hx
          obtain ⟨ya, yb, yc, rfl⟩ := hy
          obtain ⟨wa, wb, wc, rfl⟩ := hz
          obtain ⟨ua, ub, uc, rfl⟩ := hy1
          simp only [List.map_cons, List.map_nil] at k2
          generalize names.map PyData.str = nl at *
          refine ⟨_, _, _, ⟨ua, ub, uc, rfl⟩, tv, by simp only; omega, by simp only; omega, some (.d (.int m)), some (.d (.int ((d' + 1 : Nat) : Int))), ?_⟩
          by_cases h5 : 1 < m
          · have i5 : (1 : Int) < (m : Int) := by omega
            have i6 : ¬ lot < 10 := by omega
            simp [d_expression, Sv.sNil, Sv.sCons, Sv.sPass, Sv.sBreak, Sv.sCont, Sv.sExpr, Sv.put, Sv.sSet, Sv.sRet, Sv.sRetN, Sv.sIf, Sv.cVar, Sv.cK, Sv.cE, Sv.cP, Sv.cOp, Sv.cUn, Sv.cChain, Sv.cIf, Sv.cAnd, Sv.cOr, Sv.cNot, Sv.tB, Sv.tAnd, Sv.tOr, Sv.tNot, Sv.tYes, Sv.aNil, Sv.aCons, Sv.aStar, Sv.cCall, Sv.cTup, Sv.cLst, Sv.cSl, Sv.cMeth, Sv.sSetIx, Sv.sPar2, Sv.sPar3, Sv.sAsg, Sv.sAug, Sv.hold, Sv.slot, Sv.outF, Sv.argsB, Sv.slotsOf, Sv.back, Sv.rds, Sv.datas, Sv.gN, Sv.gT, Sv.gL, Sv.gRun, Sv.cFn, Sv.fnD, Sv.sRaise, Sv.R.bind, Sv.R.opt, Sv.R.toS, Sv.RS.seq, Sv.Hd.rd, Sv.B.rd, Sv.toP, Sv.eqP, Sv.neP, Sv.one, Sv.two, Sv.getP, Sv.lenP, Sv.addP, Sv.subP, Sv.mulP, Sv.mulQ, Sv.fdivP, Sv.modP, Sv.powP, Sv.intP, Sv.absP, Sv.max2P, Sv.min2P, Sv.negP, Sv.augAdd, Sv.setD, Sv.mAppend, Sv.ltB, Sv.gtB, Sv.leB, Sv.geB, Sv.ordB, Sv.small64, Sv.isP, Sv.wSeq, Sv.wRange1, Sv.sFor, k, k2, k3, i1, q0, q3, i4, i5, i6, ed, ed2, z2, z4]
          · have i5 : ¬ (1 : Int) < (m : Int) := by omega
            simp [d_expression, Sv.sNil, Sv.sCons, Sv.sPass, Sv.sBreak, Sv.sCont, Sv.sExpr, Sv.put, Sv.sSet, Sv.sRet, Sv.sRetN, Sv.sIf, Sv.cVar, Sv.cK, Sv.cE, Sv.cP, Sv.cOp, Sv.cUn, Sv.cChain, Sv.cIf, Sv.cAnd, Sv.cOr, Sv.cNot, Sv.tB, Sv.tAnd, Sv.tOr, Sv.tNot, Sv.tYes, Sv.aNil, Sv.aCons, Sv.aStar, Sv.cCall, Sv.cTup, Sv.cLst, Sv.cSl, Sv.cMeth, Sv.sSetIx, Sv.sPar2, Sv.sPar3, Sv.sAsg, Sv.sAug, Sv.hold, Sv.slot, Sv.outF, Sv.argsB, Sv.slotsOf, Sv.back, Sv.rds, Sv.datas, Sv.gN, Sv.gT, Sv.gL, Sv.gRun, Sv.cFn, Sv.fnD, Sv.sRaise, Sv.R.bind, Sv.R.opt, Sv.R.toS, Sv.RS.seq, Sv.Hd.rd, Sv.B.rd, Sv.toP, Sv.eqP, Sv.neP, Sv.one, Sv.two, Sv.getP, Sv.lenP, Sv.addP, Sv.subP, Sv.mulP, Sv.mulQ, Sv.fdivP, Sv.modP, Sv.powP, Sv.intP, Sv.absP, Sv.max2P, Sv.min2P, Sv.negP, Sv.augAdd, Sv.setD, Sv.mAppend, Sv.ltB, Sv.gtB, Sv.leB, Sv.geB, Sv.ordB, Sv.small64, Sv.isP, Sv.wSeq, Sv.wRange1, Sv.sFor, k, k2, k3, i1, q0, q3, i4, i5, ed, ed2, z2, z4]
end K05
end
section
set_option autoImplicit false
set_option linter.all false
set_option maxRecDepth 100000
namespace K05
open PySem Sv
/-! ### bent values -/
def fineB (p q : Bool) (d w : Nat) (v : PyData) : Bool := fit v && (v.showable && (decide (v.depth ≤ d) && (decide (v.shown.length + 2 ≤ w) && ((!p || v.plain) && (!q || nol v)))))
theorem fine_of {p q : Bool} {d w : Nat} {v : PyData} (h : fineB p q d w v = true) : Fine p q d w v := by
  unfold fineB at h
  simp only [Bool.and_eq_true, decide_eq_true_eq, Bool.or_eq_true, Bool.not_eq_true'] at h
  obtain ⟨h1, h2, h3, h4, h5, h6⟩ := h
  refine ⟨h1, h2, h3, h4, fun z => ?_, fun z => ?_⟩
  · rcases h5 with h | h
    · rw [z] at h; cases h
    · exact h
  · rcases h6 with h | h
    · rw [z] at h; cases h
    · exact h
def odds : List PyData := [.none, .int 7, .bool true, .str (Str.ofString ""), .str (Str.ofString "A"), .str (Str.ofString "a b"), .str (Str.ofString "abcdefghi"), .list [], .dict [], .tuple [], .tuple [.str (Str.ofString "then"), .int 3], .tuple [.str (Str.ofString "a"), .str (Str.ofString "b")], .str (Str.ofString "a1"), .tuple [.tuple []]]
theorem odds_all : ∀ r ∈ odds, (fineB true false 7 200 r || fineB false true 7 200 r) = true := by decide +kernel
theorem odd_fine {r : PyData} (h : r ∈ odds) : ∃ p q, (p || q) = true ∧ Fine p q 7 200 r := by
  have := odds_all r h
  rw [Bool.or_eq_true] at this
  rcases this with h | h
  · exact ⟨true, false, rfl, fine_of h⟩
  · exact ⟨false, true, rfl, fine_of h⟩
theorem word_fine (p q : Bool) {w : Str} (h : w ∈ [Str.ofString "any", Str.ofString "some", Str.ofString "maybe", Str.ofString "not", Str.ofString "Then", Str.ofString "", Str.ofString "then", Str.ofString "or", Str.ofString "b"]) {d : Nat} : Fine p q d 100 (.str w) := by
  have : ∀ w ∈ [Str.ofString "any", Str.ofString "some", Str.ofString "maybe", Str.ofString "not", Str.ofString "Then", Str.ofString "", Str.ofString "then", Str.ofString "or", Str.ofString "b"], fineB true true 0 100 (.str w) = true := by decide +kernel
  exact (fine_of (this w h)).any.mono (Nat.zero_le _) (Nat.le_refl _)
theorem bent_body {x : B} (hx : Tap x) {v : PyData} {d w : Nat} (hv : Fine true true d w v) (s2 s3 s4 : Option B) : ∃ y v', Tap y ∧ Fine true true (d + 1) (w + 200) v' ∧ fb_bent_0 [some x, some (.d v), s2, s3, s4] = .nx [some y, some (.d v'), s2, s3, s4] := by
  obtain ⟨r, z, b1, hz, k2⟩ := pick_tap hx ([Str.ofString "any", Str.ofString "some", Str.ofString "maybe", Str.ofString "then", Str.ofString "or"].map PyData.str) (by simp) (by simp)
  obtain ⟨u, hu, rfl⟩ := List.mem_map.mp b1
  have f : Fine true true (d + 1) (w + 200) (.tuple [.str u, v]) := (Fine.tup (FineL.cons (word_fine true true (w := u) (d := d) (by simp only [List.mem_cons, List.not_mem_nil, or_false] at hu ⊢; rcases hu with h | h | h | h | h <;> simp [h])) (FineL.cons hv FineL.nil (w2 := 0)))).mono (Nat.le_refl _) (by omega)
  have z5 : 5 ≤ sizeLine := by rw [sizeLine_eq]; decide
  have z2 : 2 ≤ sizeLine := by rw [sizeLine_eq]; decide
  obtain ⟨xa, xb, xc, rfl⟩ := hx
  obtain ⟨ya, yb, yc, rfl⟩ := hz
  simp only [List.map_cons, List.map_nil] at k2
  refine ⟨_, _, ⟨ya, yb, yc, rfl⟩, f, ?_⟩
  simp [fb_bent_0, Sv.sNil, Sv.sCons, Sv.sPass, Sv.sBreak, Sv.sCont, Sv.sExpr, Sv.put, Sv.sSet, Sv.sRet, Sv.sRetN, Sv.sIf, Sv.cVar, Sv.cK, Sv.cE, Sv.cP, Sv.cOp, Sv.cUn, Sv.cChain, Sv.cIf, Sv.cAnd, Sv.cOr, Sv.cNot, Sv.tB, Sv.tAnd, Sv.tOr, Sv.tNot, Sv.tYes, Sv.aNil, Sv.aCons, Sv.aStar, Sv.cCall, Sv.cTup, Sv.cLst, Sv.cSl, Sv.cMeth, Sv.sSetIx, Sv.sPar2, Sv.sPar3, Sv.sAsg, Sv.sAug, Sv.hold, Sv.slot, Sv.outF, Sv.argsB, Sv.slotsOf, Sv.back, Sv.rds, Sv.datas, Sv.gN, Sv.gT, Sv.gL, Sv.gRun, Sv.cFn, Sv.fnD, Sv.sRaise, Sv.R.bind, Sv.R.opt, Sv.R.toS, Sv.RS.seq, Sv.Hd.rd, Sv.B.rd, Sv.toP, Sv.eqP, Sv.neP, Sv.one, Sv.two, Sv.getP, Sv.lenP, Sv.addP, Sv.subP, Sv.mulP, Sv.mulQ, Sv.fdivP, Sv.modP, Sv.powP, Sv.intP, Sv.absP, Sv.max2P, Sv.min2P, Sv.negP, Sv.augAdd, Sv.setD, Sv.mAppend, Sv.ltB, Sv.gtB, Sv.leB, Sv.geB, Sv.ordB, Sv.small64, Sv.isP, Sv.wSeq, Sv.wRange1, Sv.sFor, k2, z5, z2]
theorem bent_loop (s2 s3 : Option B) : ∀ (n i : Nat) (x : B) (v : PyData) (d w : Nat) (q4 : Option B), Tap x → Fine true true d w v → ∃ y v' q4', Tap y ∧ Fine true true (d + n) (w + 200 * n) v' ∧
    loopF (gN 4) fb_bent_0 ((List.range' i n).map fun i => .int (0 + (i : Nat))) [some x, some (.d v), s2, s3, q4] = .nx [some y, some (.d v'), s2, s3, q4']
  | 0, i, x, v, d, w, q4, hx, hv => ⟨x, v, q4, hx, hv.mono (by omega) (by omega), rfl⟩
  | n + 1, i, x, v, d, w, q4, hx, hv => by
    obtain ⟨y, v', hy, hv', k⟩ := bent_body hx hv s2 s3 (some (.d (.int (0 + (i : Nat)))))
    obtain ⟨z, v2, q, hz, hv2, k2⟩ := bent_loop s2 s3 n (i + 1) y v' (d + 1) (w + 200) (some (.d (.int (0 + (i : Nat))))) hy hv'
    refine ⟨z, v2, q, hz, hv2.mono (by omega) (by omega), ?_⟩
    rw [List.range'_succ, List.map_cons, loopF]
    simp only [gN, RS.seq, List.set_cons_succ, List.set_cons_zero]
    rw [k]
    exact k2
theorem fine_parts {n : Nat} {t : N3} : ∀ (ps : List PyData) (s : N3), ttGo (tt n) ps s = some t → ∃ w, w + (90 * s.1 + 60 * s.2.1) ≤ 90 * t.1 + 60 * t.2.1 ∧ FineL true true n w ps
  | [], s, h => by cases h; exact ⟨0, by omega, FineL.nil⟩
  | p :: ps, s, h => by
    rw [ttGo] at h
    cases e : tt n p with
    | none => rw [e] at h; cases h
    | some u =>
      rw [e] at h
      obtain ⟨w, a1, a2⟩ := fine_parts ps _ h
      have a3 := fine_tt n p u e
      simp only at a1
      exact ⟨_, by omega, FineL.cons a3 a2⟩
theorem FineL.tail {p q : Bool} {d w : Nat} : ∀ {xs : List PyData}, FineL p q d w xs → FineL p q d w (xs.drop 1)
  | [], h => h
  | x :: xs, h => by
    have a := h.ft
    have b := h.sh
    have c := h.dp
    have e := h.wt
    simp only [fitAll, PyData.showableAll, PyData.depthAll, PyData.shownAll, piled_cons, Bool.and_eq_true] at a b c e
    refine ⟨a.2, b.2, by show PyData.depthAll xs ≤ d; omega, by show piled (PyData.shownAll xs) ≤ w; omega, fun z => ?_, fun z => ?_⟩
    · have := h.pl z
      simp only [PyData.plainAll, Bool.and_eq_true] at this
      exact this.2
    · have := h.nl z
      simp only [nol.nolAll, Bool.and_eq_true] at this
      exact this.2
theorem cut2 {α : Type} (x : α) (xs : List α) : cutD (x :: xs) (some 2) none = xs.drop 1 := by
  unfold cutD HT.sIx
  simp
  cases xs with
  | nil => simp
  | cons a r =>
    simp
structure Bent (x : B) (v : PyData) : Prop where
  out : ∃ b w y p q, Tap y ∧ (p || q) = true ∧ Fine p q 100 1000000 w ∧ b.rd = w ∧ d_bent [x, .d v] = .ok b [some y, some (.d v)]
theorem Bent.d {x y : B} {v w : PyData} {p q : Bool} (hy : Tap y) (pq : (p || q) = true) (f : Fine p q 100 1000000 w) (k : d_bent [x, .d v] = .ok (.d w) [some y, some (.d v)]) : Bent x v := ⟨.d w, w, y, p, q, hy, pq, f, rfl, k⟩
theorem bent_spec {x : B} (hx : Tap x) {v : PyData} {t : N3} (hv : tt 7 v = some t) (t1 : t.1 ≤ 12) (t2 : t.2.1 ≤ 84) : Bent x v := by
  obtain ⟨od, y, b1, hy, k1⟩ := pick_tap hx odds (by simp [odds]) (by simp [odds])
  obtain ⟨p, q, pq, ho⟩ := odd_fine b1
  obtain ⟨c, z, c1, c2, hz, k2⟩ := turn_tap hy 9 (by omega) (by omega)
  have hf : Fine true true 7 6120 v := (fine_tt 7 v t hv).mono (Nat.le_refl _) (by omega)
  have zz : ∀ n : Nat, n ≤ 1000 → n ≤ sizeLine := fun n h => by rw [sizeLine_eq]; omega
  have z0 := zz 0 (by omega)
  have z1 := zz 1 (by omega)
  have z2 := zz 2 (by omega)
  have z3 := zz 3 (by omega)
  have z5 := zz 5 (by omega)
  have z6 := zz 6 (by omega)
  have z14 := zz 14 (by omega)
  unfold odds at k1
  have wt : ∀ (p q : Bool) (d : Nat), Fine p q d 100 (.str (Str.ofString "then")) := fun p q d => word_fine p q (by simp)
  have wo : ∀ (p q : Bool) (d : Nat), Fine p q d 100 (.str (Str.ofString "or")) := fun p q d => word_fine p q (by simp)
  have wb : ∀ (p q : Bool) (d : Nat), Fine p q d 100 (.str (Str.ofString "b")) := fun p q d => word_fine p q (by simp)
  have last : (c = 8 ∨ (c = 7 ∧ isTup v = false)) → Bent x v := fun hc => by
    obtain ⟨r, y2, r1, r2, hy2, k3⟩ := turn_tap hz 13 (by omega) (by omega)
    have zr : 1 + r.toNat ≤ sizeLine := zz _ (by omega)
    have f : Fine true true 100 1000000 (.tuple [.str (Str.ofString "then"), v, .tuple (.str (Str.ofString "then") :: List.replicate r.toNat (.str (Str.ofString "b")))]) :=
      (Fine.tup (FineL.cons (wt _ _ 7) (FineL.cons hf (FineL.cons (Fine.tup (FineL.cons (wt _ _ 6) (FineL.rep (wb _ _ 6) r.toNat))) FineL.nil (w2 := 0))))).mono (by omega) (by omega)
    obtain ⟨xa, xb, xc, rfl⟩ := hx
    obtain ⟨ya, yb, yc, rfl⟩ := hy
    obtain ⟨za, zb, zc, rfl⟩ := hz
    obtain ⟨ua, ub, uc, rfl⟩ := hy2
    have i1 : (-1000 : Int) ≤ r := by omega
    have i2 : r ≤ 1000 := by omega
    refine Bent.d ⟨ua, ub, uc, rfl⟩ rfl (f) ?_
    rcases hc with rfl | ⟨rfl, ht⟩
    · simp [d_bent, Sv.sNil, Sv.sCons, Sv.sPass, Sv.sBreak, Sv.sCont, Sv.sExpr, Sv.put, Sv.sSet, Sv.sRet, Sv.sRetN, Sv.sIf, Sv.cVar, Sv.cK, Sv.cE, Sv.cP, Sv.cOp, Sv.cUn, Sv.cChain, Sv.cIf, Sv.cAnd, Sv.cOr, Sv.cNot, Sv.tB, Sv.tAnd, Sv.tOr, Sv.tNot, Sv.tYes, Sv.aNil, Sv.aCons, Sv.aStar, Sv.cCall, Sv.cTup, Sv.cLst, Sv.cSl, Sv.cMeth, Sv.sSetIx, Sv.sPar2, Sv.sPar3, Sv.sAsg, Sv.sAug, Sv.hold, Sv.slot, Sv.outF, Sv.argsB, Sv.slotsOf, Sv.back, Sv.rds, Sv.datas, Sv.gN, Sv.gT, Sv.gL, Sv.gRun, Sv.cFn, Sv.fnD, Sv.sRaise, Sv.R.bind, Sv.R.opt, Sv.R.toS, Sv.RS.seq, Sv.Hd.rd, Sv.B.rd, Sv.toP, Sv.eqP, Sv.neP, Sv.one, Sv.two, Sv.getP, Sv.lenP, Sv.addP, Sv.subP, Sv.mulP, Sv.mulQ, Sv.fdivP, Sv.modP, Sv.powP, Sv.intP, Sv.absP, Sv.max2P, Sv.min2P, Sv.negP, Sv.augAdd, Sv.setD, Sv.mAppend, Sv.ltB, Sv.gtB, Sv.leB, Sv.geB, Sv.ordB, Sv.small64, Sv.isP, Sv.wSeq, Sv.wRange1, Sv.sFor, k1, k2, k3, z1, z2, z3, z14, eq_int, i1, i2, zr]
    · simp [d_bent, Sv.sNil, Sv.sCons, Sv.sPass, Sv.sBreak, Sv.sCont, Sv.sExpr, Sv.put, Sv.sSet, Sv.sRet, Sv.sRetN, Sv.sIf, Sv.cVar, Sv.cK, Sv.cE, Sv.cP, Sv.cOp, Sv.cUn, Sv.cChain, Sv.cIf, Sv.cAnd, Sv.cOr, Sv.cNot, Sv.tB, Sv.tAnd, Sv.tOr, Sv.tNot, Sv.tYes, Sv.aNil, Sv.aCons, Sv.aStar, Sv.cCall, Sv.cTup, Sv.cLst, Sv.cSl, Sv.cMeth, Sv.sSetIx, Sv.sPar2, Sv.sPar3, Sv.sAsg, Sv.sAug, Sv.hold, Sv.slot, Sv.outF, Sv.argsB, Sv.slotsOf, Sv.back, Sv.rds, Sv.datas, Sv.gN, Sv.gT, Sv.gL, Sv.gRun, Sv.cFn, Sv.fnD, Sv.sRaise, Sv.R.bind, Sv.R.opt, Sv.R.toS, Sv.RS.seq, Sv.Hd.rd, Sv.B.rd, Sv.toP, Sv.eqP, Sv.neP, Sv.one, Sv.two, Sv.getP, Sv.lenP, Sv.addP, Sv.subP, Sv.mulP, Sv.mulQ, Sv.fdivP, Sv.modP, Sv.powP, Sv.intP, Sv.absP, Sv.max2P, Sv.min2P, Sv.negP, Sv.augAdd, Sv.setD, Sv.mAppend, Sv.ltB, Sv.gtB, Sv.leB, Sv.geB, Sv.ordB, Sv.small64, Sv.isP, Sv.wSeq, Sv.wRange1, Sv.sFor, k1, k2, k3, z1, z2, z3, z14, eq_int, i1, i2, zr, ht]
  have hc : c = 0 ∨ c = 1 ∨ c = 2 ∨ c = 3 ∨ c = 4 ∨ c = 5 ∨ c = 6 ∨ c = 7 ∨ c = 8 := by omega
  rcases hc with rfl | rfl | rfl | rfl | rfl | rfl | rfl | rfl | rfl
  · obtain ⟨xa, xb, xc, rfl⟩ := hx
    obtain ⟨ya, yb, yc, rfl⟩ := hy
    obtain ⟨za, zb, zc, rfl⟩ := hz
    refine Bent.d ⟨za, zb, zc, rfl⟩ pq (ho.mono (by omega) (by omega)) ?_
    simp [d_bent, Sv.sNil, Sv.sCons, Sv.sPass, Sv.sBreak, Sv.sCont, Sv.sExpr, Sv.put, Sv.sSet, Sv.sRet, Sv.sRetN, Sv.sIf, Sv.cVar, Sv.cK, Sv.cE, Sv.cP, Sv.cOp, Sv.cUn, Sv.cChain, Sv.cIf, Sv.cAnd, Sv.cOr, Sv.cNot, Sv.tB, Sv.tAnd, Sv.tOr, Sv.tNot, Sv.tYes, Sv.aNil, Sv.aCons, Sv.aStar, Sv.cCall, Sv.cTup, Sv.cLst, Sv.cSl, Sv.cMeth, Sv.sSetIx, Sv.sPar2, Sv.sPar3, Sv.sAsg, Sv.sAug, Sv.hold, Sv.slot, Sv.outF, Sv.argsB, Sv.slotsOf, Sv.back, Sv.rds, Sv.datas, Sv.gN, Sv.gT, Sv.gL, Sv.gRun, Sv.cFn, Sv.fnD, Sv.sRaise, Sv.R.bind, Sv.R.opt, Sv.R.toS, Sv.RS.seq, Sv.Hd.rd, Sv.B.rd, Sv.toP, Sv.eqP, Sv.neP, Sv.one, Sv.two, Sv.getP, Sv.lenP, Sv.addP, Sv.subP, Sv.mulP, Sv.mulQ, Sv.fdivP, Sv.modP, Sv.powP, Sv.intP, Sv.absP, Sv.max2P, Sv.min2P, Sv.negP, Sv.augAdd, Sv.setD, Sv.mAppend, Sv.ltB, Sv.gtB, Sv.leB, Sv.geB, Sv.ordB, Sv.small64, Sv.isP, Sv.wSeq, Sv.wRange1, Sv.sFor, k1, k2, z0, z1, z2, z14, eq_int]
  · have f : Fine p q 100 1000000 (.tuple [.str (Str.ofString "then"), v, od]) := (Fine.tup (FineL.cons (wt _ _ 7) (FineL.cons hf.any (FineL.cons ho FineL.nil (w2 := 0))))).mono (by omega) (by omega)
    obtain ⟨xa, xb, xc, rfl⟩ := hx
    obtain ⟨ya, yb, yc, rfl⟩ := hy
    obtain ⟨za, zb, zc, rfl⟩ := hz
    refine Bent.d ⟨za, zb, zc, rfl⟩ pq (f) ?_
    simp [d_bent, Sv.sNil, Sv.sCons, Sv.sPass, Sv.sBreak, Sv.sCont, Sv.sExpr, Sv.put, Sv.sSet, Sv.sRet, Sv.sRetN, Sv.sIf, Sv.cVar, Sv.cK, Sv.cE, Sv.cP, Sv.cOp, Sv.cUn, Sv.cChain, Sv.cIf, Sv.cAnd, Sv.cOr, Sv.cNot, Sv.tB, Sv.tAnd, Sv.tOr, Sv.tNot, Sv.tYes, Sv.aNil, Sv.aCons, Sv.aStar, Sv.cCall, Sv.cTup, Sv.cLst, Sv.cSl, Sv.cMeth, Sv.sSetIx, Sv.sPar2, Sv.sPar3, Sv.sAsg, Sv.sAug, Sv.hold, Sv.slot, Sv.outF, Sv.argsB, Sv.slotsOf, Sv.back, Sv.rds, Sv.datas, Sv.gN, Sv.gT, Sv.gL, Sv.gRun, Sv.cFn, Sv.fnD, Sv.sRaise, Sv.R.bind, Sv.R.opt, Sv.R.toS, Sv.RS.seq, Sv.Hd.rd, Sv.B.rd, Sv.toP, Sv.eqP, Sv.neP, Sv.one, Sv.two, Sv.getP, Sv.lenP, Sv.addP, Sv.subP, Sv.mulP, Sv.mulQ, Sv.fdivP, Sv.modP, Sv.powP, Sv.intP, Sv.absP, Sv.max2P, Sv.min2P, Sv.negP, Sv.augAdd, Sv.setD, Sv.mAppend, Sv.ltB, Sv.gtB, Sv.leB, Sv.geB, Sv.ordB, Sv.small64, Sv.isP, Sv.wSeq, Sv.wRange1, Sv.sFor, k1, k2, z0, z1, z2, z3, z14, eq_int]
  · obtain ⟨r, y2, r1, r2, hy2, k3⟩ := turn_tap hz 5 (by omega) (by omega)
    have zr : 1 + (1 + r).toNat ≤ sizeLine := zz _ (by omega)
    have f : Fine true true 100 1000000 (.tuple (.str (Str.ofString "or") :: List.replicate (1 + r).toNat v)) := (Fine.tup (FineL.cons (wo _ _ 7) (FineL.rep hf (1 + r).toNat))).mono (by omega) (by omega)
    obtain ⟨xa, xb, xc, rfl⟩ := hx
    obtain ⟨ya, yb, yc, rfl⟩ := hy
    obtain ⟨za, zb, zc, rfl⟩ := hz
    obtain ⟨ua, ub, uc, rfl⟩ := hy2
    have i1 : (-1000 : Int) ≤ 1 + r := by omega
    have i2 : 1 + r ≤ 1000 := by omega
    refine Bent.d ⟨ua, ub, uc, rfl⟩ rfl (f) ?_
    simp [d_bent, Sv.sNil, Sv.sCons, Sv.sPass, Sv.sBreak, Sv.sCont, Sv.sExpr, Sv.put, Sv.sSet, Sv.sRet, Sv.sRetN, Sv.sIf, Sv.cVar, Sv.cK, Sv.cE, Sv.cP, Sv.cOp, Sv.cUn, Sv.cChain, Sv.cIf, Sv.cAnd, Sv.cOr, Sv.cNot, Sv.tB, Sv.tAnd, Sv.tOr, Sv.tNot, Sv.tYes, Sv.aNil, Sv.aCons, Sv.aStar, Sv.cCall, Sv.cTup, Sv.cLst, Sv.cSl, Sv.cMeth, Sv.sSetIx, Sv.sPar2, Sv.sPar3, Sv.sAsg, Sv.sAug, Sv.hold, Sv.slot, Sv.outF, Sv.argsB, Sv.slotsOf, Sv.back, Sv.rds, Sv.datas, Sv.gN, Sv.gT, Sv.gL, Sv.gRun, Sv.cFn, Sv.fnD, Sv.sRaise, Sv.R.bind, Sv.R.opt, Sv.R.toS, Sv.RS.seq, Sv.Hd.rd, Sv.B.rd, Sv.toP, Sv.eqP, Sv.neP, Sv.one, Sv.two, Sv.getP, Sv.lenP, Sv.addP, Sv.subP, Sv.mulP, Sv.mulQ, Sv.fdivP, Sv.modP, Sv.powP, Sv.intP, Sv.absP, Sv.max2P, Sv.min2P, Sv.negP, Sv.augAdd, Sv.setD, Sv.mAppend, Sv.ltB, Sv.gtB, Sv.leB, Sv.geB, Sv.ordB, Sv.small64, Sv.isP, Sv.wSeq, Sv.wRange1, Sv.sFor, k1, k2, k3, z0, z1, z2, z3, z14, eq_int, i1, i2, zr]
  · obtain ⟨r, y2, r1, r2, hy2, k3⟩ := turn_tap hz 7 (by omega) (by omega)
    obtain ⟨y3, v', q4, hy3, hf', k4⟩ := bent_loop (some (.d od)) (some (.d (.int 3))) r.toNat 0 y2 v 7 6120 none hy2 hf
    rw [← List.range_eq_range'] at k4
    obtain ⟨xa, xb, xc, rfl⟩ := hx
    obtain ⟨ya, yb, yc, rfl⟩ := hy
    obtain ⟨za, zb, zc, rfl⟩ := hz
    obtain ⟨ua, ub, uc, rfl⟩ := hy2
    obtain ⟨ta, tb, tc, rfl⟩ := hy3
    have w := wr_gen (c := cP (cFn d_turn (aCons (cVar 0) (aCons (cK (.int 7)) aNil)))) (e := [some (.l [.int za, .int zb, .int zc]), some (.d v), some (.d od), some (.d (.int 3)), none]) (e1 := [some (.l [.int ua, .int ub, .int uc]), some (.d v), some (.d od), some (.d (.int 3)), none]) (h := .v (.d (.int r))) (j := r) (by simp [Sv.sNil, Sv.sCons, Sv.sPass, Sv.sBreak, Sv.sCont, Sv.sExpr, Sv.put, Sv.sSet, Sv.sRet, Sv.sRetN, Sv.sIf, Sv.cVar, Sv.cK, Sv.cE, Sv.cP, Sv.cOp, Sv.cUn, Sv.cChain, Sv.cIf, Sv.cAnd, Sv.cOr, Sv.cNot, Sv.tB, Sv.tAnd, Sv.tOr, Sv.tNot, Sv.tYes, Sv.aNil, Sv.aCons, Sv.aStar, Sv.cCall, Sv.cTup, Sv.cLst, Sv.cSl, Sv.cMeth, Sv.sSetIx, Sv.sPar2, Sv.sPar3, Sv.sAsg, Sv.sAug, Sv.hold, Sv.slot, Sv.outF, Sv.argsB, Sv.slotsOf, Sv.back, Sv.rds, Sv.datas, Sv.gN, Sv.gT, Sv.gL, Sv.gRun, Sv.cFn, Sv.fnD, Sv.sRaise, Sv.R.bind, Sv.R.opt, Sv.R.toS, Sv.RS.seq, Sv.Hd.rd, Sv.B.rd, Sv.toP, Sv.eqP, Sv.neP, Sv.one, Sv.two, Sv.getP, Sv.lenP, Sv.addP, Sv.subP, Sv.mulP, Sv.mulQ, Sv.fdivP, Sv.modP, Sv.powP, Sv.intP, Sv.absP, Sv.max2P, Sv.min2P, Sv.negP, Sv.augAdd, Sv.setD, Sv.mAppend, Sv.ltB, Sv.gtB, Sv.leB, Sv.geB, Sv.ordB, Sv.small64, Sv.isP, Sv.wSeq, Sv.sFor, k3]) rfl (by omega)
    have kf := for_gen w k4
    refine Bent.d ⟨ta, tb, tc, rfl⟩ rfl (hf'.mono (by omega) (by omega)) ?_
    simp [d_bent, Sv.sNil, Sv.sCons, Sv.sPass, Sv.sBreak, Sv.sCont, Sv.sExpr, Sv.put, Sv.sSet, Sv.sRet, Sv.sRetN, Sv.sIf, Sv.cVar, Sv.cK, Sv.cE, Sv.cP, Sv.cOp, Sv.cUn, Sv.cChain, Sv.cIf, Sv.cAnd, Sv.cOr, Sv.cNot, Sv.tB, Sv.tAnd, Sv.tOr, Sv.tNot, Sv.tYes, Sv.aNil, Sv.aCons, Sv.aStar, Sv.cCall, Sv.cTup, Sv.cLst, Sv.cSl, Sv.cMeth, Sv.sSetIx, Sv.sPar2, Sv.sPar3, Sv.sAsg, Sv.sAug, Sv.hold, Sv.slot, Sv.outF, Sv.argsB, Sv.slotsOf, Sv.back, Sv.rds, Sv.datas, Sv.gN, Sv.gT, Sv.gL, Sv.gRun, Sv.cFn, Sv.fnD, Sv.sRaise, Sv.R.bind, Sv.R.opt, Sv.R.toS, Sv.RS.seq, Sv.Hd.rd, Sv.B.rd, Sv.toP, Sv.eqP, Sv.neP, Sv.one, Sv.two, Sv.getP, Sv.lenP, Sv.addP, Sv.subP, Sv.mulP, Sv.mulQ, Sv.fdivP, Sv.modP, Sv.powP, Sv.intP, Sv.absP, Sv.max2P, Sv.min2P, Sv.negP, Sv.augAdd, Sv.setD, Sv.mAppend, Sv.ltB, Sv.gtB, Sv.leB, Sv.geB, Sv.ordB, Sv.small64, Sv.isP, Sv.wSeq, k1, k2, z0, z1, z2, z3, z14, eq_int, kf]
  · obtain ⟨u, y2, u1, hy2, k3⟩ := pick_tap hz ([Str.ofString "any", Str.ofString "some", Str.ofString "maybe", Str.ofString "not", Str.ofString "Then", Str.ofString ""].map PyData.str) (by simp) (by simp)
    obtain ⟨u, hu, rfl⟩ := List.mem_map.mp u1
    obtain ⟨r, y3, r1, r2, hy3, k4⟩ := turn_tap hy2 3 (by omega) (by omega)
    have zr : 1 + r.toNat ≤ sizeLine := zz _ (by omega)
    have f : Fine true true 100 1000000 (.tuple (.str u :: List.replicate r.toNat v)) := (Fine.tup (FineL.cons (word_fine true true (w := u) (d := 7) (by simp only [List.mem_cons, List.not_mem_nil, or_false] at hu ⊢; rcases hu with h | h | h | h | h | h <;> simp [h])) (FineL.rep hf r.toNat))).mono (by omega) (by omega)
    simp only [List.map_cons, List.map_nil] at k3
    obtain ⟨xa, xb, xc, rfl⟩ := hx
    obtain ⟨ya, yb, yc, rfl⟩ := hy
    obtain ⟨za, zb, zc, rfl⟩ := hz
    obtain ⟨ua, ub, uc, rfl⟩ := hy2
    obtain ⟨ta, tb, tc, rfl⟩ := hy3
    have i1 : (-1000 : Int) ≤ r := by omega
    have i2 : r ≤ 1000 := by omega
    refine Bent.d ⟨ta, tb, tc, rfl⟩ rfl (f) ?_
    simp [d_bent, Sv.sNil, Sv.sCons, Sv.sPass, Sv.sBreak, Sv.sCont, Sv.sExpr, Sv.put, Sv.sSet, Sv.sRet, Sv.sRetN, Sv.sIf, Sv.cVar, Sv.cK, Sv.cE, Sv.cP, Sv.cOp, Sv.cUn, Sv.cChain, Sv.cIf, Sv.cAnd, Sv.cOr, Sv.cNot, Sv.tB, Sv.tAnd, Sv.tOr, Sv.tNot, Sv.tYes, Sv.aNil, Sv.aCons, Sv.aStar, Sv.cCall, Sv.cTup, Sv.cLst, Sv.cSl, Sv.cMeth, Sv.sSetIx, Sv.sPar2, Sv.sPar3, Sv.sAsg, Sv.sAug, Sv.hold, Sv.slot, Sv.outF, Sv.argsB, Sv.slotsOf, Sv.back, Sv.rds, Sv.datas, Sv.gN, Sv.gT, Sv.gL, Sv.gRun, Sv.cFn, Sv.fnD, Sv.sRaise, Sv.R.bind, Sv.R.opt, Sv.R.toS, Sv.RS.seq, Sv.Hd.rd, Sv.B.rd, Sv.toP, Sv.eqP, Sv.neP, Sv.one, Sv.two, Sv.getP, Sv.lenP, Sv.addP, Sv.subP, Sv.mulP, Sv.mulQ, Sv.fdivP, Sv.modP, Sv.powP, Sv.intP, Sv.absP, Sv.max2P, Sv.min2P, Sv.negP, Sv.augAdd, Sv.setD, Sv.mAppend, Sv.ltB, Sv.gtB, Sv.leB, Sv.geB, Sv.ordB, Sv.small64, Sv.isP, Sv.wSeq, Sv.wRange1, Sv.sFor, k1, k2, k3, k4, z0, z1, z2, z3, z6, z14, eq_int, i1, i2, zr]
  · have f : Fine true false 100 1000000 (.list [.str (Str.ofString "then"), v]) := (Fine.lst (FineL.cons (wt _ _ 7) (FineL.cons hf FineL.nil (w2 := 0)))).mono (by omega) (by omega)
    obtain ⟨xa, xb, xc, rfl⟩ := hx
    obtain ⟨ya, yb, yc, rfl⟩ := hy
    obtain ⟨za, zb, zc, rfl⟩ := hz
    refine ⟨.l [.str (Str.ofString "then"), v], _, _, _, _, ⟨za, zb, zc, rfl⟩, rfl, f, rfl, ?_⟩
    simp [d_bent, Sv.sNil, Sv.sCons, Sv.sPass, Sv.sBreak, Sv.sCont, Sv.sExpr, Sv.put, Sv.sSet, Sv.sRet, Sv.sRetN, Sv.sIf, Sv.cVar, Sv.cK, Sv.cE, Sv.cP, Sv.cOp, Sv.cUn, Sv.cChain, Sv.cIf, Sv.cAnd, Sv.cOr, Sv.cNot, Sv.tB, Sv.tAnd, Sv.tOr, Sv.tNot, Sv.tYes, Sv.aNil, Sv.aCons, Sv.aStar, Sv.cCall, Sv.cTup, Sv.cLst, Sv.cSl, Sv.cMeth, Sv.sSetIx, Sv.sPar2, Sv.sPar3, Sv.sAsg, Sv.sAug, Sv.hold, Sv.slot, Sv.outF, Sv.argsB, Sv.slotsOf, Sv.back, Sv.rds, Sv.datas, Sv.gN, Sv.gT, Sv.gL, Sv.gRun, Sv.cFn, Sv.fnD, Sv.sRaise, Sv.R.bind, Sv.R.opt, Sv.R.toS, Sv.RS.seq, Sv.Hd.rd, Sv.B.rd, Sv.toP, Sv.eqP, Sv.neP, Sv.one, Sv.two, Sv.getP, Sv.lenP, Sv.addP, Sv.subP, Sv.mulP, Sv.mulQ, Sv.fdivP, Sv.modP, Sv.powP, Sv.intP, Sv.absP, Sv.max2P, Sv.min2P, Sv.negP, Sv.augAdd, Sv.setD, Sv.mAppend, Sv.ltB, Sv.gtB, Sv.leB, Sv.geB, Sv.ordB, Sv.small64, Sv.isP, Sv.wSeq, Sv.wRange1, Sv.sFor, k1, k2, z0, z1, z2, z3, z14, eq_int]
  · obtain ⟨r, y2, r1, r2, hy2, k3⟩ := turn_tap hz 6 (by omega) (by omega)
    have zr : 2 + (36 + r).toNat ≤ sizeLine := zz _ (by omega)
    have f : Fine true true 100 1000000 (.tuple (.str (Str.ofString "or") :: v :: List.replicate (36 + r).toNat (.tuple [.str (Str.ofString "then")]))) := (Fine.tup (FineL.cons (wo _ _ 7) (FineL.cons hf (FineL.rep (Fine.tup (FineL.cons (wt _ _ 6) FineL.nil (w2 := 0))) (36 + r).toNat)))).mono (by omega) (by omega)
    obtain ⟨xa, xb, xc, rfl⟩ := hx
    obtain ⟨ya, yb, yc, rfl⟩ := hy
    obtain ⟨za, zb, zc, rfl⟩ := hz
    obtain ⟨ua, ub, uc, rfl⟩ := hy2
    have i1 : (-1000 : Int) ≤ 36 + r := by omega
    have i2 : 36 + r ≤ 1000 := by omega
    refine Bent.d ⟨ua, ub, uc, rfl⟩ rfl (f) ?_
    simp [d_bent, Sv.sNil, Sv.sCons, Sv.sPass, Sv.sBreak, Sv.sCont, Sv.sExpr, Sv.put, Sv.sSet, Sv.sRet, Sv.sRetN, Sv.sIf, Sv.cVar, Sv.cK, Sv.cE, Sv.cP, Sv.cOp, Sv.cUn, Sv.cChain, Sv.cIf, Sv.cAnd, Sv.cOr, Sv.cNot, Sv.tB, Sv.tAnd, Sv.tOr, Sv.tNot, Sv.tYes, Sv.aNil, Sv.aCons, Sv.aStar, Sv.cCall, Sv.cTup, Sv.cLst, Sv.cSl, Sv.cMeth, Sv.sSetIx, Sv.sPar2, Sv.sPar3, Sv.sAsg, Sv.sAug, Sv.hold, Sv.slot, Sv.outF, Sv.argsB, Sv.slotsOf, Sv.back, Sv.rds, Sv.datas, Sv.gN, Sv.gT, Sv.gL, Sv.gRun, Sv.cFn, Sv.fnD, Sv.sRaise, Sv.R.bind, Sv.R.opt, Sv.R.toS, Sv.RS.seq, Sv.Hd.rd, Sv.B.rd, Sv.toP, Sv.eqP, Sv.neP, Sv.one, Sv.two, Sv.getP, Sv.lenP, Sv.addP, Sv.subP, Sv.mulP, Sv.mulQ, Sv.fdivP, Sv.modP, Sv.powP, Sv.intP, Sv.absP, Sv.max2P, Sv.min2P, Sv.negP, Sv.augAdd, Sv.setD, Sv.mAppend, Sv.ltB, Sv.gtB, Sv.leB, Sv.geB, Sv.ordB, Sv.small64, Sv.isP, Sv.wSeq, Sv.wRange1, Sv.sFor, k1, k2, k3, z0, z1, z2, z3, z14, eq_int, i1, i2, zr]
  · rcases tt_cases hv with ⟨s, rfl, _, _⟩ | ⟨m, s, ps, hm, rfl, fr, _, k⟩
    · exact last (.inr ⟨rfl, rfl⟩)
    · obtain rfl : m = 6 := by omega
      obtain ⟨w, w1, w2⟩ := fine_parts ps _ k
      simp only at w1
      have f : Fine true true 100 1000000 (.tuple (.str s :: ps.drop 1)) := (Fine.tup (FineL.cons ((Fine.fr fr).mono (Nat.zero_le 6) (Nat.le_refl _)) w2.tail)).mono (by omega) (by omega)
      have pl : ps.length ≤ 10000 := by
        have : ∀ (xs : List PyData), xs.length ≤ piled (PyData.shownAll xs) := fun xs => by
          induction xs with
          | nil => simp
          | cons a r ih =>
            simp only [PyData.shownAll, piled_cons, List.length_cons]
            omega
        have := this ps
        have := w2.wt
        omega
      have zl : 1 + (ps.length - 1) ≤ sizeLine := by rw [sizeLine_eq]; omega
      obtain ⟨xa, xb, xc, rfl⟩ := hx
      obtain ⟨ya, yb, yc, rfl⟩ := hy
      obtain ⟨za, zb, zc, rfl⟩ := hz
      refine Bent.d ⟨za, zb, zc, rfl⟩ rfl (f) ?_
      simp [-List.drop_one, d_bent, Sv.sNil, Sv.sCons, Sv.sPass, Sv.sBreak, Sv.sCont, Sv.sExpr, Sv.put, Sv.sSet, Sv.sRet, Sv.sRetN, Sv.sIf, Sv.cVar, Sv.cK, Sv.cE, Sv.cP, Sv.cOp, Sv.cUn, Sv.cChain, Sv.cIf, Sv.cAnd, Sv.cOr, Sv.cNot, Sv.tB, Sv.tAnd, Sv.tOr, Sv.tNot, Sv.tYes, Sv.aNil, Sv.aCons, Sv.aStar, Sv.cCall, Sv.cTup, Sv.cLst, Sv.cSl, Sv.cMeth, Sv.sSetIx, Sv.sPar2, Sv.sPar3, Sv.sAsg, Sv.sAug, Sv.hold, Sv.slot, Sv.outF, Sv.argsB, Sv.slotsOf, Sv.back, Sv.rds, Sv.datas, Sv.gN, Sv.gT, Sv.gL, Sv.gRun, Sv.cFn, Sv.fnD, Sv.sRaise, Sv.R.bind, Sv.R.opt, Sv.R.toS, Sv.RS.seq, Sv.Hd.rd, Sv.B.rd, Sv.toP, Sv.eqP, Sv.neP, Sv.one, Sv.two, Sv.getP, Sv.lenP, Sv.addP, Sv.subP, Sv.mulP, Sv.mulQ, Sv.fdivP, Sv.modP, Sv.powP, Sv.intP, Sv.absP, Sv.max2P, Sv.min2P, Sv.negP, Sv.augAdd, Sv.setD, Sv.mAppend, Sv.ltB, Sv.gtB, Sv.leB, Sv.geB, Sv.ordB, Sv.small64, Sv.isP, Sv.wSeq, Sv.wRange1, Sv.sFor, k1, k2, z0, z1, z2, z3, z14, eq_int, isTup, at0, slP, cut2, zl]
  · exact last (.inl rfl)
end K05
end
section
set_option autoImplicit false
set_option linter.all false
set_option maxRecDepth 100000
namespace K05
open PySem Sv
/-! ### the two loops -/
theorem slice_len (x : Str) (a b : Option Int) : (Txt.slice x a b).length ≤ x.length := by
  show (StrLaws.sliceText x _ _).length ≤ _
  rw [L2.sliceText_cut]
  unfold L2.cutS
  rw [len_cps x]
  show (List.toArray _).size ≤ _
  simp only [List.size_toArray, List.length_take, List.length_drop]
  omega
theorem app_len (a b : Str) : (a ++ b).length = a.length + b.length := by
  rw [len_cps, app_cps, List.length_append, ← len_cps, ← len_cps]
section
variable {s0 s1 s2 s3 s4 s5 s6 s7 s8 s9 s10 s11 s12 s13 : Option B}
theorem b1 {F T : Fn} {X Y Z N : List PyData} {r : Int} {o o' : Option B} (h1 : T [.l X, .d (.int 5)] = .ok (.d (.int r)) [some (.l Y), o]) (h2 : F [.l Y, .d (.int (1 + r))] = .ok (.l N) [some (.l Z), o']) :
    sSet 4 (cFn F (aCons (cVar 2) (aCons (cP (cOp addP (cK (.int 1)) (cP (cFn T (aCons (cVar 2) (aCons (cK (.int 5)) aNil)))))) aNil))) [s0, s1, some (.l X), s3, s4, s5, s6, s7, s8, s9, s10, s11, s12, s13] = .nx [s0, s1, some (.l Z), s3, some (.l N), s5, s6, s7, s8, s9, s10, s11, s12, s13] := by
  simp [Sv.sNil, Sv.sCons, Sv.sPass, Sv.sBreak, Sv.sCont, Sv.sExpr, Sv.put, Sv.sSet, Sv.sRet, Sv.sRetN, Sv.sIf, Sv.cVar, Sv.cK, Sv.cE, Sv.cP, Sv.cOp, Sv.cUn, Sv.cChain, Sv.cIf, Sv.cAnd, Sv.cOr, Sv.cNot, Sv.tB, Sv.tAnd, Sv.tOr, Sv.tNot, Sv.tYes, Sv.aNil, Sv.aCons, Sv.aStar, Sv.cCall, Sv.cTup, Sv.cLst, Sv.cSl, Sv.cMeth, Sv.sSetIx, Sv.sPar2, Sv.sPar3, Sv.sAsg, Sv.sAug, Sv.hold, Sv.slot, Sv.outF, Sv.argsB, Sv.slotsOf, Sv.back, Sv.rds, Sv.datas, Sv.gN, Sv.gT, Sv.gL, Sv.gRun, Sv.cFn, Sv.fnD, Sv.sRaise, Sv.R.bind, Sv.R.opt, Sv.R.toS, Sv.RS.seq, Sv.Hd.rd, Sv.B.rd, Sv.toP, Sv.eqP, Sv.neP, Sv.one, Sv.two, Sv.getP, Sv.lenP, Sv.addP, Sv.subP, Sv.mulP, Sv.mulQ, Sv.fdivP, Sv.modP, Sv.powP, Sv.intP, Sv.absP, Sv.max2P, Sv.min2P, Sv.negP, Sv.augAdd, Sv.setD, Sv.mAppend, Sv.ltB, Sv.gtB, Sv.leB, Sv.geB, Sv.ordB, Sv.small64, Sv.isP, Sv.wSeq, Sv.wRange1, Sv.sFor, h1, h2]
theorem b2 {F T : Fn} {X Y Z W N : List PyData} {r r2 : Int} {v : PyData} {o o' o1 o2 : Option B} (h1 : T [.l X, .d (.int 12)] = .ok (.d (.int r)) [some (.l Y), o]) (h2 : T [.l Y, .d (.int 7)] = .ok (.d (.int r2)) [some (.l Z), o']) (h3 : F [.l Z, .l N, .d (.int (1 + r)), .d (.int r2)] = .ok (.d v) [some (.l W), some (.l N), o1, o2]) :
    sSet 5 (cFn F (aCons (cVar 2) (aCons (cVar 4) (aCons (cP (cOp addP (cK (.int 1)) (cP (cFn T (aCons (cVar 2) (aCons (cK (.int 12)) aNil)))))) (aCons (cP (cFn T (aCons (cVar 2) (aCons (cK (.int 7)) aNil)))) aNil))))) [s0, s1, some (.l X), s3, some (.l N), s5, s6, s7, s8, s9, s10, s11, s12, s13] = .nx [s0, s1, some (.l W), s3, some (.l N), some (.d v), s6, s7, s8, s9, s10, s11, s12, s13] := by
  simp [Sv.sNil, Sv.sCons, Sv.sPass, Sv.sBreak, Sv.sCont, Sv.sExpr, Sv.put, Sv.sSet, Sv.sRet, Sv.sRetN, Sv.sIf, Sv.cVar, Sv.cK, Sv.cE, Sv.cP, Sv.cOp, Sv.cUn, Sv.cChain, Sv.cIf, Sv.cAnd, Sv.cOr, Sv.cNot, Sv.tB, Sv.tAnd, Sv.tOr, Sv.tNot, Sv.tYes, Sv.aNil, Sv.aCons, Sv.aStar, Sv.cCall, Sv.cTup, Sv.cLst, Sv.cSl, Sv.cMeth, Sv.sSetIx, Sv.sPar2, Sv.sPar3, Sv.sAsg, Sv.sAug, Sv.hold, Sv.slot, Sv.outF, Sv.argsB, Sv.slotsOf, Sv.back, Sv.rds, Sv.datas, Sv.gN, Sv.gT, Sv.gL, Sv.gRun, Sv.cFn, Sv.fnD, Sv.sRaise, Sv.R.bind, Sv.R.opt, Sv.R.toS, Sv.RS.seq, Sv.Hd.rd, Sv.B.rd, Sv.toP, Sv.eqP, Sv.neP, Sv.one, Sv.two, Sv.getP, Sv.lenP, Sv.addP, Sv.subP, Sv.mulP, Sv.mulQ, Sv.fdivP, Sv.modP, Sv.powP, Sv.intP, Sv.absP, Sv.max2P, Sv.min2P, Sv.negP, Sv.augAdd, Sv.setD, Sv.mAppend, Sv.ltB, Sv.gtB, Sv.leB, Sv.geB, Sv.ordB, Sv.small64, Sv.isP, Sv.wSeq, Sv.wRange1, Sv.sFor, h1, h2, h3]
theorem b3 {V E : Fn} {X Y : List PyData} {b : B} {v w : PyData} (hb : b.rd = w) (h1 : V [.d v] = .ok (.d (.bool true)) [some (.d v)]) (h2 : E [.l X, .d v] = .ok b [some (.l Y), some (.d v)]) (h3 : V [.d w] = .ok (.d (.bool true)) [some (.d w)]) :
    sIf (Sv.tOr (Sv.tNot (Sv.tB (cP (cFn V (aCons (cVar 5) aNil))))) (Sv.tNot (Sv.tB (cP (cFn V (aCons (cP (cFn E (aCons (cVar 2) (aCons (cVar 5) aNil)))) aNil)))))) (sRet (cK (.bool false))) sNil [s0, s1, some (.l X), s3, s4, some (.d v), s6, s7, s8, s9, s10, s11, s12, s13] = .nx [s0, s1, some (.l Y), s3, s4, some (.d v), s6, s7, s8, s9, s10, s11, s12, s13] := by
  subst hb
  cases b with
  | d x =>
    simp only [B.rd] at h3
    simp [Sv.sNil, Sv.sCons, Sv.sPass, Sv.sBreak, Sv.sCont, Sv.sExpr, Sv.put, Sv.sSet, Sv.sRet, Sv.sRetN, Sv.sIf, Sv.cVar, Sv.cK, Sv.cE, Sv.cP, Sv.cOp, Sv.cUn, Sv.cChain, Sv.cIf, Sv.cAnd, Sv.cOr, Sv.cNot, Sv.tB, Sv.tAnd, Sv.tOr, Sv.tNot, Sv.tYes, Sv.aNil, Sv.aCons, Sv.aStar, Sv.cCall, Sv.cTup, Sv.cLst, Sv.cSl, Sv.cMeth, Sv.sSetIx, Sv.sPar2, Sv.sPar3, Sv.sAsg, Sv.sAug, Sv.hold, Sv.slot, Sv.outF, Sv.argsB, Sv.slotsOf, Sv.back, Sv.rds, Sv.datas, Sv.gN, Sv.gT, Sv.gL, Sv.gRun, Sv.cFn, Sv.fnD, Sv.sRaise, Sv.R.bind, Sv.R.opt, Sv.R.toS, Sv.RS.seq, Sv.Hd.rd, Sv.B.rd, Sv.toP, Sv.eqP, Sv.neP, Sv.one, Sv.two, Sv.getP, Sv.lenP, Sv.addP, Sv.subP, Sv.mulP, Sv.mulQ, Sv.fdivP, Sv.modP, Sv.powP, Sv.intP, Sv.absP, Sv.max2P, Sv.min2P, Sv.negP, Sv.augAdd, Sv.setD, Sv.mAppend, Sv.ltB, Sv.gtB, Sv.leB, Sv.geB, Sv.ordB, Sv.small64, Sv.isP, Sv.wSeq, Sv.wRange1, Sv.sFor, h1, h2, h3]
  | l xs =>
    simp only [B.rd] at h3
    simp [Sv.sNil, Sv.sCons, Sv.sPass, Sv.sBreak, Sv.sCont, Sv.sExpr, Sv.put, Sv.sSet, Sv.sRet, Sv.sRetN, Sv.sIf, Sv.cVar, Sv.cK, Sv.cE, Sv.cP, Sv.cOp, Sv.cUn, Sv.cChain, Sv.cIf, Sv.cAnd, Sv.cOr, Sv.cNot, Sv.tB, Sv.tAnd, Sv.tOr, Sv.tNot, Sv.tYes, Sv.aNil, Sv.aCons, Sv.aStar, Sv.cCall, Sv.cTup, Sv.cLst, Sv.cSl, Sv.cMeth, Sv.sSetIx, Sv.sPar2, Sv.sPar3, Sv.sAsg, Sv.sAug, Sv.hold, Sv.slot, Sv.outF, Sv.argsB, Sv.slotsOf, Sv.back, Sv.rds, Sv.datas, Sv.gN, Sv.gT, Sv.gL, Sv.gRun, Sv.cFn, Sv.fnD, Sv.sRaise, Sv.R.bind, Sv.R.opt, Sv.R.toS, Sv.RS.seq, Sv.Hd.rd, Sv.B.rd, Sv.toP, Sv.eqP, Sv.neP, Sv.one, Sv.two, Sv.getP, Sv.lenP, Sv.addP, Sv.subP, Sv.mulP, Sv.mulQ, Sv.fdivP, Sv.modP, Sv.powP, Sv.intP, Sv.absP, Sv.max2P, Sv.min2P, Sv.negP, Sv.augAdd, Sv.setD, Sv.mAppend, Sv.ltB, Sv.gtB, Sv.leB, Sv.geB, Sv.ordB, Sv.small64, Sv.isP, Sv.wSeq, Sv.wRange1, Sv.sFor, h1, h2, h3]
theorem b4 {F : Fn} {v : PyData} {x : Str} {o : Option B} (h : F [.d v] = .ok (.d (.str x)) [o]) : ∃ t5, sSet 6 (cFn F (aCons (cVar 5) aNil)) [s0, s1, s2, s3, s4, some (.d v), s6, s7, s8, s9, s10, s11, s12, s13] = .nx [s0, s1, s2, s3, s4, t5, some (.d (.str x)), s7, s8, s9, s10, s11, s12, s13] := by
  refine ⟨some (.d v), ?_⟩
  simp [Sv.sNil, Sv.sCons, Sv.sPass, Sv.sBreak, Sv.sCont, Sv.sExpr, Sv.put, Sv.sSet, Sv.sRet, Sv.sRetN, Sv.sIf, Sv.cVar, Sv.cK, Sv.cE, Sv.cP, Sv.cOp, Sv.cUn, Sv.cChain, Sv.cIf, Sv.cAnd, Sv.cOr, Sv.cNot, Sv.tB, Sv.tAnd, Sv.tOr, Sv.tNot, Sv.tYes, Sv.aNil, Sv.aCons, Sv.aStar, Sv.cCall, Sv.cTup, Sv.cLst, Sv.cSl, Sv.cMeth, Sv.sSetIx, Sv.sPar2, Sv.sPar3, Sv.sAsg, Sv.sAug, Sv.hold, Sv.slot, Sv.outF, Sv.argsB, Sv.slotsOf, Sv.back, Sv.rds, Sv.datas, Sv.gN, Sv.gT, Sv.gL, Sv.gRun, Sv.cFn, Sv.fnD, Sv.sRaise, Sv.R.bind, Sv.R.opt, Sv.R.toS, Sv.RS.seq, Sv.Hd.rd, Sv.B.rd, Sv.toP, Sv.eqP, Sv.neP, Sv.one, Sv.two, Sv.getP, Sv.lenP, Sv.addP, Sv.subP, Sv.mulP, Sv.mulQ, Sv.fdivP, Sv.modP, Sv.powP, Sv.intP, Sv.absP, Sv.max2P, Sv.min2P, Sv.negP, Sv.augAdd, Sv.setD, Sv.mAppend, Sv.ltB, Sv.gtB, Sv.leB, Sv.geB, Sv.ordB, Sv.small64, Sv.isP, Sv.wSeq, Sv.wRange1, Sv.sFor, h]
theorem b5 {T P : Fn} {X Y Z : List PyData} {x g : Str} {r : Int} {o o' : Option B} (hx : x.length ≤ sizeLine) (h1 : T [.l X, .d (.int ((x.length : Int) + 1))] = .ok (.d (.int r)) [some (.l Y), o])
    (h2 : P [.l Y, .d (.list [.str (Str.ofString "("), .str (Str.ofString ")"), .str (Str.ofString " "), .str (Str.ofString "a"), .str (Str.ofString "then"), .str (Str.ofString "A"), .str (Str.ofString "\n"), .str (Str.ofString "")])] = .ok (.d (.str g)) [some (.l Z), o']) :
    sPar2 7 8 (cFn T (aCons (cVar 2) (aCons (cP (cOp addP (cP (cCall (one lenP) (aCons (cVar 6) aNil))) (cK (.int 1)))) aNil))) (cFn P (aCons (cVar 2) (aCons (cP (cLst (aCons (cK (.str "(")) (aCons (cK (.str ")")) (aCons (cK (.str " ")) (aCons (cK (.str "a")) (aCons (cK (.str "then")) (aCons (cK (.str "A")) (aCons (cK (.str "\n")) (aCons (cK (.str "")) aNil)))))))))) aNil)))
      [s0, s1, some (.l X), s3, s4, s5, some (.d (.str x)), s7, s8, s9, s10, s11, s12, s13] = .nx [s0, s1, some (.l Z), s3, s4, s5, some (.d (.str x)), some (.d (.int r)), some (.d (.str g)), s9, s10, s11, s12, s13] := by
  have z8 : 8 ≤ sizeLine := by rw [sizeLine_eq]; decide
  simp [Sv.sNil, Sv.sCons, Sv.sPass, Sv.sBreak, Sv.sCont, Sv.sExpr, Sv.put, Sv.sSet, Sv.sRet, Sv.sRetN, Sv.sIf, Sv.cVar, Sv.cK, Sv.cE, Sv.cP, Sv.cOp, Sv.cUn, Sv.cChain, Sv.cIf, Sv.cAnd, Sv.cOr, Sv.cNot, Sv.tB, Sv.tAnd, Sv.tOr, Sv.tNot, Sv.tYes, Sv.aNil, Sv.aCons, Sv.aStar, Sv.cCall, Sv.cTup, Sv.cLst, Sv.cSl, Sv.cMeth, Sv.sSetIx, Sv.sPar2, Sv.sPar3, Sv.sAsg, Sv.sAug, Sv.hold, Sv.slot, Sv.outF, Sv.argsB, Sv.slotsOf, Sv.back, Sv.rds, Sv.datas, Sv.gN, Sv.gT, Sv.gL, Sv.gRun, Sv.cFn, Sv.fnD, Sv.sRaise, Sv.R.bind, Sv.R.opt, Sv.R.toS, Sv.RS.seq, Sv.Hd.rd, Sv.B.rd, Sv.toP, Sv.eqP, Sv.neP, Sv.one, Sv.two, Sv.getP, Sv.lenP, Sv.addP, Sv.subP, Sv.mulP, Sv.mulQ, Sv.fdivP, Sv.modP, Sv.powP, Sv.intP, Sv.absP, Sv.max2P, Sv.min2P, Sv.negP, Sv.augAdd, Sv.setD, Sv.mAppend, Sv.ltB, Sv.gtB, Sv.leB, Sv.geB, Sv.ordB, Sv.small64, Sv.isP, Sv.wSeq, Sv.wRange1, Sv.sFor, hx, h1, h2, z8]
theorem b6 {T : Fn} {X Y : List PyData} {x g : Str} {r r2 : Int} {o : Option B} (hx : x.length ≤ 1000) (hg : g.length ≤ 10) (h : T [.l X, .d (.int 2)] = .ok (.d (.int r2)) [some (.l Y), o]) : ∃ z : Str, z.length ≤ 3000 ∧
    sSet 9 (cOp addP (cP (cOp addP (cP (cSl slP (cVar 6) none (some (cVar 7)))) (cVar 8))) (cP (cSl slP (cVar 6) (some (cP (cOp addP (cVar 7) (cP (cFn T (aCons (cVar 2) (aCons (cK (.int 2)) aNil))))))) none)))
      [s0, s1, some (.l X), s3, s4, s5, some (.d (.str x)), some (.d (.int r)), some (.d (.str g)), s9, s10, s11, s12, s13] = .nx [s0, s1, some (.l Y), s3, s4, s5, some (.d (.str x)), some (.d (.int r)), some (.d (.str g)), some (.d (.str z)), s10, s11, s12, s13] := by
  have hz : x.length ≤ sizeLine := by rw [sizeLine_eq]; omega
  have l1 := slice_len x none (some r)
  have l2 := slice_len x (some (r + r2)) none
  have i1 : (Txt.slice x none (some r)).length + g.length ≤ sizeLine := by rw [sizeLine_eq]; omega
  have i2 : (Txt.slice x none (some r) ++ g).length + (Txt.slice x (some (r + r2)) none).length ≤ sizeLine := by rw [app_len, sizeLine_eq]; omega
  refine ⟨Txt.slice x none (some r) ++ g ++ Txt.slice x (some (r + r2)) none, by rw [app_len, app_len]; omega, ?_⟩
  simp [Sv.sNil, Sv.sCons, Sv.sPass, Sv.sBreak, Sv.sCont, Sv.sExpr, Sv.put, Sv.sSet, Sv.sRet, Sv.sRetN, Sv.sIf, Sv.cVar, Sv.cK, Sv.cE, Sv.cP, Sv.cOp, Sv.cUn, Sv.cChain, Sv.cIf, Sv.cAnd, Sv.cOr, Sv.cNot, Sv.tB, Sv.tAnd, Sv.tOr, Sv.tNot, Sv.tYes, Sv.aNil, Sv.aCons, Sv.aStar, Sv.cCall, Sv.cTup, Sv.cLst, Sv.cSl, Sv.cMeth, Sv.sSetIx, Sv.sPar2, Sv.sPar3, Sv.sAsg, Sv.sAug, Sv.hold, Sv.slot, Sv.outF, Sv.argsB, Sv.slotsOf, Sv.back, Sv.rds, Sv.datas, Sv.gN, Sv.gT, Sv.gL, Sv.gRun, Sv.cFn, Sv.fnD, Sv.sRaise, Sv.R.bind, Sv.R.opt, Sv.R.toS, Sv.RS.seq, Sv.Hd.rd, Sv.B.rd, Sv.toP, Sv.eqP, Sv.neP, Sv.one, Sv.two, Sv.getP, Sv.lenP, Sv.addP, Sv.subP, Sv.mulP, Sv.mulQ, Sv.fdivP, Sv.modP, Sv.powP, Sv.intP, Sv.absP, Sv.max2P, Sv.min2P, Sv.negP, Sv.augAdd, Sv.setD, Sv.mAppend, Sv.ltB, Sv.gtB, Sv.leB, Sv.geB, Sv.ordB, Sv.small64, Sv.isP, Sv.wSeq, Sv.wRange1, Sv.sFor, slP, hz, h, i1, i2]
theorem b7 {R : Fn} {x z g : Str} (hz : z.length + g.length ≤ sizeLine) (h1 : R [.d (.str x)] = .ok (.d (.bool true)) [some (.d (.str x))]) (h2 : R [.d (.str z)] = .ok (.d (.bool true)) [some (.d (.str z))]) (h3 : R [.d (.str (z ++ g))] = .ok (.d (.bool true)) [some (.d (.str (z ++ g)))]) :
    sIf (Sv.tOr (Sv.tNot (Sv.tB (cP (cFn R (aCons (cVar 6) aNil))))) (Sv.tOr (Sv.tNot (Sv.tB (cP (cFn R (aCons (cVar 9) aNil))))) (Sv.tNot (Sv.tB (cP (cFn R (aCons (cP (cOp addP (cVar 9) (cVar 8))) aNil))))))) (sRet (cK (.bool false))) sNil
      [s0, s1, s2, s3, s4, s5, some (.d (.str x)), s7, some (.d (.str g)), some (.d (.str z)), s10, s11, s12, s13] = .nx [s0, s1, s2, s3, s4, s5, some (.d (.str x)), s7, some (.d (.str g)), some (.d (.str z)), s10, s11, s12, s13] := by
  simp [Sv.sNil, Sv.sCons, Sv.sPass, Sv.sBreak, Sv.sCont, Sv.sExpr, Sv.put, Sv.sSet, Sv.sRet, Sv.sRetN, Sv.sIf, Sv.cVar, Sv.cK, Sv.cE, Sv.cP, Sv.cOp, Sv.cUn, Sv.cChain, Sv.cIf, Sv.cAnd, Sv.cOr, Sv.cNot, Sv.tB, Sv.tAnd, Sv.tOr, Sv.tNot, Sv.tYes, Sv.aNil, Sv.aCons, Sv.aStar, Sv.cCall, Sv.cTup, Sv.cLst, Sv.cSl, Sv.cMeth, Sv.sSetIx, Sv.sPar2, Sv.sPar3, Sv.sAsg, Sv.sAug, Sv.hold, Sv.slot, Sv.outF, Sv.argsB, Sv.slotsOf, Sv.back, Sv.rds, Sv.datas, Sv.gN, Sv.gT, Sv.gL, Sv.gRun, Sv.cFn, Sv.fnD, Sv.sRaise, Sv.R.bind, Sv.R.opt, Sv.R.toS, Sv.RS.seq, Sv.Hd.rd, Sv.B.rd, Sv.toP, Sv.eqP, Sv.neP, Sv.one, Sv.two, Sv.getP, Sv.lenP, Sv.addP, Sv.subP, Sv.mulP, Sv.mulQ, Sv.fdivP, Sv.modP, Sv.powP, Sv.intP, Sv.absP, Sv.max2P, Sv.min2P, Sv.negP, Sv.augAdd, Sv.setD, Sv.mAppend, Sv.ltB, Sv.gtB, Sv.leB, Sv.geB, Sv.ordB, Sv.small64, Sv.isP, Sv.wSeq, Sv.wRange1, Sv.sFor, hz, h1, h2, h3]
end
def sgs : List Str := [Str.ofString "(", Str.ofString ")", Str.ofString " ", Str.ofString "a", Str.ofString "then", Str.ofString "A", Str.ofString "\n", Str.ofString ""]
theorem sgs_len : ∀ g ∈ sgs, g.length ≤ 10 := by decide
theorem tt_up {n m : Nat} {v : PyData} {t : N3} (h : n ≤ m) (k : tt n v = some t) : tt m v = some t := by
  rw [tt_low n m v h] at k
  cases e : tt m v with
  | none => rw [e] at k; cases k
  | some u =>
    rw [e] at k
    simp only [Option.bind_some, low] at k
    split at k
    · exact k
    · cases k
theorem body2 (s0 s1 s3 s4 s5 s6 s7 s8 s9 s10 s11 s12 s13 : Option B) {x : B} (hx : Tap x) : ∃ y t4 t5 t6 t7 t8 t9, Tap y ∧ fb_law_2 [s0, s1, some x, s3, s4, s5, s6, s7, s8, s9, s10, s11, s12, s13] = .nx [s0, s1, some y, s3, t4, t5, t6, t7, t8, t9, s10, s11, s12, s13] := by
  obtain ⟨r1, x1, p1, q1, hx1, k1⟩ := turn_tap hx 5 (by omega) (by omega)
  obtain ⟨r1, rfl⟩ : ∃ l : Nat, r1 = l := ⟨r1.toNat, by omega⟩
  obtain ⟨x2, ws, hx2, wl, wn, o2, k2⟩ := names_spec hx1 (1 + r1) (by omega)
  rw [show ((1 + r1 : Nat) : Int) = 1 + (r1 : Int) by omega] at k2
  obtain ⟨r3, x3, p3, q3, hx3, k3⟩ := turn_tap hx2 12 (by omega) (by omega)
  obtain ⟨r3, rfl⟩ : ∃ l : Nat, r3 = l := ⟨r3.toNat, by omega⟩
  obtain ⟨r4, x4, p4, q4, hx4, k4⟩ := turn_tap hx3 7 (by omega) (by omega)
  obtain ⟨r4, rfl⟩ : ∃ l : Nat, r4 = l := ⟨r4.toNat, by omega⟩
  obtain ⟨v, t, x5, hx5, e1, e2, e3, o5, o6, k5⟩ := expression_spec ws wn (by omega) (by omega) r4 10 (1 + r3) x4 hx4 (by omega) (by omega) (by omega)
  rw [show ((1 + r3 : Nat) : Int) = 1 + (r3 : Int) by omega] at k5
  have tv := tt_up (show r4 + 1 ≤ 7 by omega) e1
  have m1 : (1 + r3) * (r4 + 1) ≤ 12 * 7 := Nat.mul_le_mul (by omega) (by omega)
  have t1 : t.1 ≤ 12 := by omega
  have t2 : t.2.1 ≤ 84 := by omega
  have fv := (fine_tt 7 v t tv)
  have v1 := value_right_spec fv rfl (by omega) (by omega)
  obtain ⟨⟨b, w, x6, p, q, hx6, pq, fw, hb, k6⟩⟩ := bent_spec hx5 tv t1 t2
  have v2 := value_right_spec fw pq (by omega) (by omega)
  have tl := txt_len 7 v t tv
  obtain ⟨o7, k7⟩ := text_spec 7 10 v t tv (by omega) (by omega)
  have xl : (txt 7 v).length ≤ 1000 := by omega
  have zl : (txt 7 v).length ≤ sizeLine := by rw [sizeLine_eq]; omega
  obtain ⟨r8, x8, p8, q8, hx8, k8⟩ := turn_tap hx6 (((txt 7 v).length : Int) + 1) (by omega) (by omega)
  obtain ⟨g, x9, g1, hx9, k9⟩ := pick_tap hx8 (sgs.map PyData.str) (by simp [sgs]) (by simp [sgs])
  obtain ⟨g, hg, rfl⟩ := List.mem_map.mp g1
  have gl := sgs_len g hg
  simp only [sgs, List.map_cons, List.map_nil] at k9
  obtain ⟨r10, x10, p10, q10, hx10, k10⟩ := turn_tap hx9 2 (by omega) (by omega)
  obtain ⟨a0, a1, a2, rfl⟩ := hx
  obtain ⟨a0, a1, a2, rfl⟩ := hx1
  obtain ⟨a0, a1, a2, rfl⟩ := hx2
  obtain ⟨a0, a1, a2, rfl⟩ := hx3
  obtain ⟨a0, a1, a2, rfl⟩ := hx4
  obtain ⟨a0, a1, a2, rfl⟩ := hx5
  obtain ⟨a0, a1, a2, rfl⟩ := hx6
  obtain ⟨a0, a1, a2, rfl⟩ := hx8
  obtain ⟨a0, a1, a2, rfl⟩ := hx9
  obtain ⟨a0, a1, a2, rfl⟩ := hx10
  obtain ⟨t5, l4⟩ := b4 (s0 := s0) (s1 := s1) (s2 := some _) (s3 := s3) (s4 := some _) (s6 := s6) (s7 := s7) (s8 := s8) (s9 := s9) (s10 := s10) (s11 := s11) (s12 := s12) (s13 := s13) k7
  obtain ⟨z, z1, l6⟩ := b6 (s0 := s0) (s1 := s1) (s3 := s3) (s4 := some _) (s5 := t5) (s9 := s9) (s10 := s10) (s11 := s11) (s12 := s12) (s13 := s13) (x := txt 7 v) (g := g) (r := r8) xl gl k10
  have zg : z.length + g.length ≤ sizeLine := by rw [sizeLine_eq]; omega
  have f1 := text_right_spec (x := txt 7 v) (by omega)
  have f2 := text_right_spec (x := z) (by omega)
  have f3 := text_right_spec (x := z ++ g) (by rw [app_len]; omega)
  exact ⟨_, _, _, _, _, _, _, ⟨a0, a1, a2, rfl⟩, seq_gen (b1 k1 k2) (seq_gen (b2 k3 k4 k5) (seq_gen (b3 hb v1 k6 v2) (seq_gen l4 (seq_gen (b5 zl k8 k9) (seq_gen l6 (b7 zg f1 f2 f3))))))⟩
theorem loop2 (s0 s1 s10 s11 s12 s13 : Option B) : ∀ (n i : Nat) (x : B) (s3 s4 s5 s6 s7 s8 s9 : Option B), Tap x → ∃ y t3 t4 t5 t6 t7 t8 t9, Tap y ∧ loopF (gN 3) fb_law_2 ((List.range' i n).map fun i => .int (0 + (i : Nat))) [s0, s1, some x, s3, s4, s5, s6, s7, s8, s9, s10, s11, s12, s13] = .nx [s0, s1, some y, t3, t4, t5, t6, t7, t8, t9, s10, s11, s12, s13]
  | 0, i, x, s3, s4, s5, s6, s7, s8, s9, hx => ⟨x, s3, s4, s5, s6, s7, s8, s9, hx, rfl⟩
  | n + 1, i, x, s3, s4, s5, s6, s7, s8, s9, hx => by
    obtain ⟨y, t4, t5, t6, t7, t8, t9, hy, k⟩ := body2 s0 s1 (some (.d (.int (0 + (i : Nat))))) s4 s5 s6 s7 s8 s9 s10 s11 s12 s13 hx
    obtain ⟨z, u3, u4, u5, u6, u7, u8, u9, hz, k2⟩ := loop2 s0 s1 s10 s11 s12 s13 n (i + 1) y (some (.d (.int (0 + (i : Nat))))) t4 t5 t6 t7 t8 t9 hy
    refine ⟨z, u3, u4, u5, u6, u7, u8, u9, hz, ?_⟩
    rw [List.range'_succ, List.map_cons, loopF]
    simp only [gN, RS.seq, List.set_cons_succ, List.set_cons_zero]
    rw [k]
    exact k2
theorem wr_k (n : Nat) (hz : n < 100000) (e : Sv.Env) : wRange1 (cK (.int n)) e = .ok (rngD 0 n) e := by
  have k := wr_gen (c := cK (.int n)) (e := e) (e1 := e) (h := .v (.d (.int n))) (j := (n : Int)) rfl rfl (by omega)
  rw [Int.toNat_natCast] at k
  exact k
theorem body3 (ns : List Int) (i : Nat) (s2 s3 s4 s5 s6 s7 s8 s9 s10 s11 s12 s13 : Option B) : ∃ t2 t3 t4 t5 t6 t7 t8 t9, fb_law_3 [some (.d (.list (ns.map .int))), some (.d (.int i)), s2, s3, s4, s5, s6, s7, s8, s9, s10, s11, s12, s13] = .nx [some (.d (.list (ns.map .int))), some (.d (.int i)), t2, t3, t4, t5, t6, t7, t8, t9, s10, s11, s12, s13] := by
  obtain ⟨x, hx, k1⟩ := tap_spec ns i
  obtain ⟨y, t3, t4, t5, t6, t7, t8, t9, hy, k2⟩ := loop2 (some (.d (.list (ns.map .int)))) (some (.d (.int i))) s10 s11 s12 s13 6 0 x s3 s4 s5 s6 s7 s8 s9 hx
  rw [← List.range_eq_range'] at k2
  have l1 : sSet 2 (cFn d_tap (aCons (cVar 0) (aCons (cVar 1) aNil))) [some (.d (.list (ns.map .int))), some (.d (.int i)), s2, s3, s4, s5, s6, s7, s8, s9, s10, s11, s12, s13] = .nx [some (.d (.list (ns.map .int))), some (.d (.int i)), some x, s3, s4, s5, s6, s7, s8, s9, s10, s11, s12, s13] := by
    obtain ⟨a, b, c, rfl⟩ := hx
    generalize ns.map PyData.int = nl at *
    simp [Sv.sNil, Sv.sCons, Sv.sPass, Sv.sBreak, Sv.sCont, Sv.sExpr, Sv.put, Sv.sSet, Sv.sRet, Sv.sRetN, Sv.sIf, Sv.cVar, Sv.cK, Sv.cE, Sv.cP, Sv.cOp, Sv.cUn, Sv.cChain, Sv.cIf, Sv.cAnd, Sv.cOr, Sv.cNot, Sv.tB, Sv.tAnd, Sv.tOr, Sv.tNot, Sv.tYes, Sv.aNil, Sv.aCons, Sv.aStar, Sv.cCall, Sv.cTup, Sv.cLst, Sv.cSl, Sv.cMeth, Sv.sSetIx, Sv.sPar2, Sv.sPar3, Sv.sAsg, Sv.sAug, Sv.hold, Sv.slot, Sv.outF, Sv.argsB, Sv.slotsOf, Sv.back, Sv.rds, Sv.datas, Sv.gN, Sv.gT, Sv.gL, Sv.gRun, Sv.cFn, Sv.fnD, Sv.sRaise, Sv.R.bind, Sv.R.opt, Sv.R.toS, Sv.RS.seq, Sv.Hd.rd, Sv.B.rd, Sv.toP, Sv.eqP, Sv.neP, Sv.one, Sv.two, Sv.getP, Sv.lenP, Sv.addP, Sv.subP, Sv.mulP, Sv.mulQ, Sv.fdivP, Sv.modP, Sv.powP, Sv.intP, Sv.absP, Sv.max2P, Sv.min2P, Sv.negP, Sv.augAdd, Sv.setD, Sv.mAppend, Sv.ltB, Sv.gtB, Sv.leB, Sv.geB, Sv.ordB, Sv.small64, Sv.isP, Sv.wSeq, Sv.wRange1, Sv.sFor, k1]
  exact ⟨_, _, _, _, _, _, _, _, seq_gen l1 (for_gen (wr_k 6 (by omega) _) k2)⟩
theorem loop3 (ns : List Int) (s10 s11 s12 s13 : Option B) : ∀ (n i : Nat) (s1 s2 s3 s4 s5 s6 s7 s8 s9 : Option B), ∃ t1 t2 t3 t4 t5 t6 t7 t8 t9, loopF (gN 1) fb_law_3 ((List.range' i n).map fun i => .int (0 + (i : Nat))) [some (.d (.list (ns.map .int))), s1, s2, s3, s4, s5, s6, s7, s8, s9, s10, s11, s12, s13] = .nx [some (.d (.list (ns.map .int))), t1, t2, t3, t4, t5, t6, t7, t8, t9, s10, s11, s12, s13]
  | 0, i, s1, s2, s3, s4, s5, s6, s7, s8, s9 => ⟨s1, s2, s3, s4, s5, s6, s7, s8, s9, rfl⟩
  | n + 1, i, s1, s2, s3, s4, s5, s6, s7, s8, s9 => by
    obtain ⟨t2, t3, t4, t5, t6, t7, t8, t9, k⟩ := body3 ns i s2 s3 s4 s5 s6 s7 s8 s9 s10 s11 s12 s13
    obtain ⟨u1, u2, u3, u4, u5, u6, u7, u8, u9, k2⟩ := loop3 ns s10 s11 s12 s13 n (i + 1) (some (.d (.int i))) t2 t3 t4 t5 t6 t7 t8 t9
    refine ⟨u1, u2, u3, u4, u5, u6, u7, u8, u9, ?_⟩
    have e0 : (0 : Int) + (i : Nat) = (i : Nat) := by omega
    rw [List.range'_succ, List.map_cons, loopF, e0]
    simp only [gN, RS.seq, List.set_cons_succ, List.set_cons_zero]
    rw [k]
    exact k2
end K05
end
section
set_option autoImplicit false
set_option linter.all false
set_option maxRecDepth 100000
namespace K05
open PySem Sv
/-! ### the great value -/
def gr : Nat → PyData
  | 0 => .str (Str.ofString "a")
  | n + 1 => .tuple [.str (Str.ofString "or"), gr n, gr n, gr n, gr n]
theorem gr_fit : ∀ n, fit (gr n) = true
  | 0 => by
    have : fit (.str (Str.ofString "a")) = true := by decide +kernel
    exact this
  | n + 1 => by
    have f : fit (.str (Str.ofString "or")) = true := by decide +kernel
    have := gr_fit n
    simp only [gr, fit, fitAll, this, Bool.and_true]
    exact f
theorem gr_cw : ∀ n m, n < m → cw n (gr m) = none
  | n, 0, h => by omega
  | 0, m + 1, _ => by
    have : isNm (gr (m + 1)) = false := rfl
    simp [cw, this]
  | n + 1, m + 1, h => by
    have k := gr_cw n m (by omega)
    have h1 : isNm (gr (m + 1)) = false := rfl
    have h2 : parts (gr (m + 1)) = [gr m, gr m, gr m, gr m] := rfl
    rw [cw, h1, h2]
    simp only [cwGo, k]
    simp
theorem gr_loop (s0 s1 s2 s3 s4 s5 s6 s8 s9 s11 s12 s13 : Option B) : ∀ (n i j : Nat) (s7 : Option B), ∃ t7, loopF (gN 7) fb_law_1 ((List.range' i n).map fun i => .int (0 + (i : Nat))) [s0, s1, s2, s3, s4, s5, s6, s7, s8, s9, some (.d (gr j)), s11, s12, s13] = .nx [s0, s1, s2, s3, s4, s5, s6, t7, s8, s9, some (.d (gr (j + n))), s11, s12, s13]
  | 0, i, j, s7 => ⟨s7, rfl⟩
  | n + 1, i, j, s7 => by
    obtain ⟨t7, k⟩ := gr_loop s0 s1 s2 s3 s4 s5 s6 s8 s9 s11 s12 s13 n (i + 1) (j + 1) (some (.d (.int (0 + (i : Nat)))))
    have z5 : 5 ≤ sizeLine := by rw [sizeLine_eq]; decide
    have b : fb_law_1 [s0, s1, s2, s3, s4, s5, s6, some (.d (.int (0 + (i : Nat)))), s8, s9, some (.d (gr j)), s11, s12, s13] = .nx [s0, s1, s2, s3, s4, s5, s6, some (.d (.int (0 + (i : Nat)))), s8, s9, some (.d (gr (j + 1))), s11, s12, s13] := by
      rw [gr]
      generalize gr j = g
      simp [fb_law_1, Sv.sNil, Sv.sCons, Sv.sPass, Sv.sBreak, Sv.sCont, Sv.sExpr, Sv.put, Sv.sSet, Sv.sRet, Sv.sRetN, Sv.sIf, Sv.cVar, Sv.cK, Sv.cE, Sv.cP, Sv.cOp, Sv.cUn, Sv.cChain, Sv.cIf, Sv.cAnd, Sv.cOr, Sv.cNot, Sv.tB, Sv.tAnd, Sv.tOr, Sv.tNot, Sv.tYes, Sv.aNil, Sv.aCons, Sv.aStar, Sv.cCall, Sv.cTup, Sv.cLst, Sv.cSl, Sv.cMeth, Sv.sSetIx, Sv.sPar2, Sv.sPar3, Sv.sAsg, Sv.sAug, Sv.hold, Sv.slot, Sv.outF, Sv.argsB, Sv.slotsOf, Sv.back, Sv.rds, Sv.datas, Sv.gN, Sv.gT, Sv.gL, Sv.gRun, Sv.cFn, Sv.fnD, Sv.sRaise, Sv.R.bind, Sv.R.opt, Sv.R.toS, Sv.RS.seq, Sv.Hd.rd, Sv.B.rd, Sv.toP, Sv.eqP, Sv.neP, Sv.one, Sv.two, Sv.getP, Sv.lenP, Sv.addP, Sv.subP, Sv.mulP, Sv.mulQ, Sv.fdivP, Sv.modP, Sv.powP, Sv.intP, Sv.absP, Sv.max2P, Sv.min2P, Sv.negP, Sv.augAdd, Sv.setD, Sv.mAppend, Sv.ltB, Sv.gtB, Sv.leB, Sv.geB, Sv.ordB, Sv.small64, Sv.isP, Sv.wSeq, Sv.wRange1, Sv.sFor, z5]
    refine ⟨t7, ?_⟩
    rw [List.range'_succ, List.map_cons, loopF]
    simp only [gN, RS.seq, List.set_cons_succ, List.set_cons_zero]
    rw [b, show j + (n + 1) = j + 1 + n by omega]
    exact k
/-! ### great texts -/
theorem rep_cps (x : Str) (k : Nat) : (repS x k).cps.toList = (List.replicate k x.cps.toList).flatten := by
  have key : ∀ (k : Nat) (a : Array Nat), ((List.replicate k x.cps).foldl (· ++ ·) a).toList = a.toList ++ (List.replicate k x.cps.toList).flatten := fun k => by
    induction k with
    | zero => intro a; simp
    | succ k ih =>
      intro a
      rw [List.replicate_succ, List.foldl_cons, ih, List.replicate_succ, List.flatten_cons, Array.toList_append, List.append_assoc]
  have := key k #[]
  simpa [repS] using this
theorem rep_len (x : Str) (k : Nat) : (repS x k).length = k * x.length := by
  rw [len_cps, rep_cps, List.length_flatten, len_cps x]
  simp
theorem pr_word {n : Nat} {r : List Nat} : pr n r = none → ∀ w : List Nat, w.all isL = true → pr (n + 1) (40 :: (w ++ 32 :: r)) = none := fun h w hw => by
  have nl : noL (32 :: r) := fun c q z => by cases z; decide
  obtain ⟨a, b⟩ := lw_app hw nl
  show one1 (pr n) _ = none
  simp only [one1, b, goP, h]
theorem any_deep (rest : List Nat) : ∀ n k, n ≤ k → pr n ((List.replicate k (Str.ofString "(any ").cps.toList).flatten ++ rest) = none
  | 0, k, _ => rfl
  | n + 1, 0, h => by omega
  | n + 1, k + 1, h => by
    have ih := any_deep rest n k (by omega)
    have e : (Str.ofString "(any ").cps.toList = 40 :: ([97, 110, 121] ++ [32]) := by decide
    rw [List.replicate_succ, List.flatten_cons, List.append_assoc]
    generalize (List.replicate k (Str.ofString "(any ").cps.toList).flatten ++ rest = l at *
    rw [e]
    have := pr_word ih [97, 110, 121] (by decide)
    simpa using this
theorem ex_of_pr {l : List Nat} (h : pr 7 l = none) : exo l = none := by
  unfold exo
  rw [h]
theorem ex_any (rest : List Nat) : exo ((List.replicate 5000 (Str.ofString "(any ").cps.toList).flatten ++ rest) = none := ex_of_pr (any_deep rest 7 5000 (by omega))
theorem cwGo_rep {f : PyData → Option (Nat × Nat)} {a : PyData} (h : f a = some (1, 0)) : ∀ (k s1 s2 : Nat), s1 ≤ 12 → 12 < s1 + k → s2 ≤ 40 → cwGo f (List.replicate k a) (s1, s2) = none
  | 0, s1, s2, h1, h2, _ => by omega
  | k + 1, s1, s2, h1, h2, h3 => by
    rw [List.replicate_succ, cwGo, h]
    simp only
    split
    · rfl
    · exact cwGo_rep h k (s1 + 1) (s2 + 0) (by omega) (by omega) (by omega)
theorem rep_map (k : Nat) (a : PyData) (g : List Nat) : (List.replicate k a).flatMap (fun _ => g) = (List.replicate k g).flatten := by
  induction k with
  | zero => rfl
  | succ k ih => rw [List.replicate_succ, List.flatMap_cons, ih, List.replicate_succ, List.flatten_cons]
theorem ex_or (k : Nat) (hk : 12 < k) : exo (40 :: ([111, 114] ++ ((List.replicate k [32, 97]).flatten ++ [41]))) = none := by
  have nm : nmS (Str.ofString "a") = true := by decide
  have ca : (Str.ofString "a").cps.toList = [97] := by decide
  have w : ∀ r, noL r → pr 6 ([97] ++ r) = some (.str (Str.ofString "a"), r) := fun r hr => by
    have := back 5 (.str (Str.ofString "a")) _ (tt_nm nm) r hr
    rw [← ca]
    exact this
  have e : (List.replicate k [32, 97]).flatten = (List.replicate k (PyData.str (Str.ofString "a"))).flatMap (fun _ => 32 :: [97]) := (rep_map _ _ _).symm
  rw [e]
  have g := goP_back (f := pr 6) (g := fun _ => [97]) (pr_shr 6) (r := []) (List.replicate k (PyData.str (Str.ofString "a"))) (([111, 114] ++ ((List.replicate k (PyData.str (Str.ofString "a"))).flatMap (fun _ => 32 :: [97]) ++ [41])).length + 1) [] (fun p hp r hr => by
    rw [List.eq_of_mem_replicate hp]
    exact w r hr) (by simp only [List.length_append, List.length_cons]; omega)
  have nl : noL ((List.replicate k (PyData.str (Str.ofString "a"))).flatMap (fun _ => 32 :: [97]) ++ [41]) := fun c q z => by
    cases k with
    | zero => omega
    | succ k =>
      rw [List.replicate_succ, List.flatMap_cons] at z
      simp at z
      rw [← z.1]
      decide
  obtain ⟨a, b⟩ := lw_app (w := [111, 114]) (by decide) nl
  have p : pr 7 (40 :: ([111, 114] ++ ((List.replicate k (PyData.str (Str.ofString "a"))).flatMap (fun _ => 32 :: [97]) ++ [41]))) = some (.tuple (.str (strOf [111, 114]) :: List.replicate k (.str (Str.ofString "a"))), []) := by
    show one1 (pr 6) _ = _
    simp only [one1, b, g, a, List.nil_append]
  have ev : isExpr (.tuple (.str (strOf [111, 114]) :: List.replicate k (.str (Str.ofString "a")))) = false := by
    have c5 : cw 5 (.str (Str.ofString "a")) = some (1, 0) := by decide
    have c := cwGo_rep c5 k 0 1 (by omega) (by omega) (by omega)
    unfold isExpr
    rw [cw]
    have n1 : isNm (.tuple (.str (strOf [111, 114]) :: List.replicate k (.str (Str.ofString "a")))) = false := rfl
    have n2 : parts (.tuple (.str (strOf [111, 114]) :: List.replicate k (.str (Str.ofString "a")))) = List.replicate k (.str (Str.ofString "a")) := rfl
    rw [n1, n2, c]
    simp
  unfold exo
  rw [p]
  simp only [ev]
  rfl
theorem ex_as (k : Nat) (hk : 8 < k) : exo (List.replicate k 97) = none := by
  have al : (List.replicate k 97).all isL = true := by
    rw [List.all_replicate]
    have : isL 97 = true := by decide
    simp [this]
  have nl : noL [] := fun c q z => by cases z
  obtain ⟨a, b⟩ := lw_app al nl
  rw [List.append_nil] at a b
  have p : pr 7 (List.replicate k 97) = some (.str (strOf (List.replicate k 97)), []) := by
    show one1 (pr 6) _ = _
    unfold one1
    split
    · rename_i r z
      cases k with
      | zero => cases z
      | succ k => rw [List.replicate_succ] at z; cases z
    · rw [a, b]
  have ev : isExpr (.str (strOf (List.replicate k 97))) = false := by
    have n1 : isNm (.str (strOf (List.replicate k 97))) = false := by
      show nmS _ = false
      unfold nmS
      have : (strOf (List.replicate k 97)).length = k := by rw [strOf_len, List.length_replicate]
      rw [this, decide_eq_false (show ¬ k ≤ 8 by omega)]
      simp
    unfold isExpr
    rw [cw, n1]
    simp [front]
  unfold exo
  rw [p]
  simp only [ev]
  rfl
theorem ex_par (k : Nat) : exo (40 :: 40 :: List.replicate k 40) = none := by
  refine ex_of_pr ?_
  show one1 (pr 6) _ = none
  have e : ld (40 :: List.replicate k 40) = 40 :: List.replicate k 40 := by
    have : isL 40 = false := by decide
    simp [ld, List.dropWhile_cons, this]
  simp only [one1, e]
  simp [goP]
end K05
end
section
set_option autoImplicit false
set_option linter.all false
set_option maxRecDepth 100000
namespace K05
open PySem Sv
/-! ### the odd things -/
def tA : Str := repS (Str.ofString "(any ") 5000
def tC : Str := repS (Str.ofString ")") 5000
def tD : Str := repS (Str.ofString " a") 5000
def tG : Str := repS (Str.ofString "a") 5000
def tH : Str := repS (Str.ofString "(") 5000
def odd1 : List PyData := [.none, .int 3, .tuple [.str (Str.ofString "then")], .list [.str (Str.ofString "a")], .str (Str.ofString ""), .str (Str.ofString "()"), .str (Str.ofString "(any)"), .str (Str.ofString "(then )"), .str (Str.ofString "( then)"), .str (Str.ofString "(a)"), .str (Str.ofString "((then))"), .str (Str.ofString "a b"), .str (Str.ofString "(or a")]
def odd2 : List PyData := [.str tA, .str (tA ++ Str.ofString "a" ++ tC), .str (Str.ofString "(or" ++ tD ++ Str.ofString ")"), .str tG, .str tH]
def Bad (v : PyData) : Prop := ∃ o, d_expression_of [.d v] = .ex errP [o]
theorem bad_str {x : Str} (hx : x.length ≤ 90000) (h : exo x.cps.toList = none) : Bad (.str x) := eof_none hx h
theorem lA : tA.length = 25000 := by unfold tA; rw [rep_len]; rfl
theorem lC : tC.length = 5000 := by unfold tC; rw [rep_len]; rfl
theorem lD : tD.length = 10000 := by unfold tD; rw [rep_len]; rfl
theorem lG : tG.length = 5000 := by unfold tG; rw [rep_len]; rfl
theorem lH : tH.length = 5000 := by unfold tH; rw [rep_len]; rfl
theorem small_ex : ∀ x ∈ [Str.ofString "", Str.ofString "()", Str.ofString "(any)", Str.ofString "(then )", Str.ofString "( then)", Str.ofString "(a)", Str.ofString "((then))", Str.ofString "a b", Str.ofString "(or a"], (x.length ≤ 100 ∧ (exo x.cps.toList).isNone = true) := by decide +kernel
theorem bad_small {x : Str} (h : x ∈ [Str.ofString "", Str.ofString "()", Str.ofString "(any)", Str.ofString "(then )", Str.ofString "( then)", Str.ofString "(a)", Str.ofString "((then))", Str.ofString "a b", Str.ofString "(or a"]) : Bad (.str x) := by
  obtain ⟨a, b⟩ := small_ex x h
  exact bad_str (by omega) (Option.isNone_iff_eq_none.mp b)
theorem bad1 : ∀ v ∈ odd1, Bad v := fun v hv => by
  simp only [odd1, List.mem_cons, List.not_mem_nil, or_false] at hv
  rcases hv with rfl | rfl | rfl | rfl | rfl | rfl | rfl | rfl | rfl | rfl | rfl | rfl | rfl
  · exact eof_not rfl
  · exact eof_not rfl
  · exact eof_not rfl
  · exact eof_not rfl
  all_goals exact bad_small (by simp)
theorem l1 : (Str.ofString "a").length = 1 := by decide
theorem l2 : (Str.ofString "(or").length = 3 := by decide
theorem l3 : (Str.ofString ")").length = 1 := by decide
theorem bad2 : ∀ v ∈ odd2, Bad v := fun v hv => by
  simp only [odd2, List.mem_cons, List.not_mem_nil, or_false] at hv
  rcases hv with rfl | rfl | rfl | rfl | rfl
  · refine bad_str (by rw [lA]; omega) ?_
    have := ex_any []
    rw [List.append_nil] at this
    rw [tA, rep_cps]
    exact this
  · refine bad_str (by rw [app_len, app_len, lA, lC, l1]; omega) ?_
    have := ex_any ((Str.ofString "a").cps.toList ++ tC.cps.toList)
    rw [app_cps, app_cps, List.append_assoc, tA, rep_cps]
    exact this
  · refine bad_str (by rw [app_len, app_len, lD, l2, l3]; omega) ?_
    have e1 : (Str.ofString "(or").cps.toList = 40 :: [111, 114] := by decide
    have e2 : (Str.ofString ")").cps.toList = [41] := by decide
    have e3 : (Str.ofString " a").cps.toList = [32, 97] := by decide
    rw [app_cps, app_cps, tD, rep_cps, e1, e2, e3]
    have := ex_or 5000 (by omega)
    generalize (List.replicate 5000 [32, 97]).flatten = l at *
    simpa using this
  · refine bad_str (by rw [lG]; omega) ?_
    have e3 : (Str.ofString "a").cps.toList = [97] := by decide
    rw [tG, rep_cps, e3, List.flatten_replicate_singleton]
    exact ex_as 5000 (by omega)
  · refine bad_str (by rw [lH]; omega) ?_
    have e3 : (Str.ofString "(").cps.toList = [40] := by decide
    rw [tH, rep_cps, e3, List.flatten_replicate_singleton]
    exact ex_par 4998
def pz : PyData := .list [.str (Str.ofString "parse")]
section
variable {s0 s1 s2 s3 s4 s5 s6 s7 s8 s9 s10 s11 s12 s13 : Option B}
theorem c2 : sSet 10 (cK (.str "a")) [s0, s1, s2, s3, s4, s5, s6, s7, s8, s9, s10, s11, s12, s13] = .nx [s0, s1, s2, s3, s4, s5, s6, s7, s8, s9, some (.d (gr 0)), s11, s12, s13] := by
  rw [gr]
  simp [Sv.sNil, Sv.sCons, Sv.sPass, Sv.sBreak, Sv.sCont, Sv.sExpr, Sv.put, Sv.sSet, Sv.sRet, Sv.sRetN, Sv.sIf, Sv.cVar, Sv.cK, Sv.cE, Sv.cP, Sv.cOp, Sv.cUn, Sv.cChain, Sv.cIf, Sv.cAnd, Sv.cOr, Sv.cNot, Sv.tB, Sv.tAnd, Sv.tOr, Sv.tNot, Sv.tYes, Sv.aNil, Sv.aCons, Sv.aStar, Sv.cCall, Sv.cTup, Sv.cLst, Sv.cSl, Sv.cMeth, Sv.sSetIx, Sv.sPar2, Sv.sPar3, Sv.sAsg, Sv.sAug, Sv.hold, Sv.slot, Sv.outF, Sv.argsB, Sv.slotsOf, Sv.back, Sv.rds, Sv.datas, Sv.gN, Sv.gT, Sv.gL, Sv.gRun, Sv.cFn, Sv.fnD, Sv.sRaise, Sv.R.bind, Sv.R.opt, Sv.R.toS, Sv.RS.seq, Sv.Hd.rd, Sv.B.rd, Sv.toP, Sv.eqP, Sv.neP, Sv.one, Sv.two, Sv.getP, Sv.lenP, Sv.addP, Sv.subP, Sv.mulP, Sv.mulQ, Sv.fdivP, Sv.modP, Sv.powP, Sv.intP, Sv.absP, Sv.max2P, Sv.min2P, Sv.negP, Sv.augAdd, Sv.setD, Sv.mAppend, Sv.ltB, Sv.gtB, Sv.leB, Sv.geB, Sv.ordB, Sv.small64, Sv.isP, Sv.wSeq, Sv.wRange1, Sv.sFor]
theorem c4 {F : Fn} {g : PyData} (h : F [.d g] = .ok (.d (.bool false)) [some (.d g)]) : sIf (Sv.tB (cOp (toP isNotB) (cP (cFn F (aCons (cVar 10) aNil))) (cK (.bool false)))) (sRet (cK (.bool false))) sNil [s0, s1, s2, s3, s4, s5, s6, s7, s8, s9, some (.d g), s11, s12, s13] = .nx [s0, s1, s2, s3, s4, s5, s6, s7, s8, s9, some (.d g), s11, s12, s13] := by
  simp [Sv.sNil, Sv.sCons, Sv.sPass, Sv.sBreak, Sv.sCont, Sv.sExpr, Sv.put, Sv.sSet, Sv.sRet, Sv.sRetN, Sv.sIf, Sv.cVar, Sv.cK, Sv.cE, Sv.cP, Sv.cOp, Sv.cUn, Sv.cChain, Sv.cIf, Sv.cAnd, Sv.cOr, Sv.cNot, Sv.tB, Sv.tAnd, Sv.tOr, Sv.tNot, Sv.tYes, Sv.aNil, Sv.aCons, Sv.aStar, Sv.cCall, Sv.cTup, Sv.cLst, Sv.cSl, Sv.cMeth, Sv.sSetIx, Sv.sPar2, Sv.sPar3, Sv.sAsg, Sv.sAug, Sv.hold, Sv.slot, Sv.outF, Sv.argsB, Sv.slotsOf, Sv.back, Sv.rds, Sv.datas, Sv.gN, Sv.gT, Sv.gL, Sv.gRun, Sv.cFn, Sv.fnD, Sv.sRaise, Sv.R.bind, Sv.R.opt, Sv.R.toS, Sv.RS.seq, Sv.Hd.rd, Sv.B.rd, Sv.toP, Sv.eqP, Sv.neP, Sv.one, Sv.two, Sv.getP, Sv.lenP, Sv.addP, Sv.subP, Sv.mulP, Sv.mulQ, Sv.fdivP, Sv.modP, Sv.powP, Sv.intP, Sv.absP, Sv.max2P, Sv.min2P, Sv.negP, Sv.augAdd, Sv.setD, Sv.mAppend, Sv.ltB, Sv.gtB, Sv.leB, Sv.geB, Sv.ordB, Sv.small64, Sv.isP, Sv.wSeq, Sv.wRange1, Sv.sFor, h, isNotB, isB]
theorem c5 : sSet 11 (cLst (aCons (cK .none) (aCons (cK (.int 3)) (aCons (cE (cTup (aCons (cK (.str "then")) aNil))) (aCons (cE (cLst (aCons (cK (.str "a")) aNil))) (aCons (cK (.str "")) (aCons (cK (.str "()")) (aCons (cK (.str "(any)")) (aCons (cK (.str "(then )")) (aCons (cK (.str "( then)")) (aCons (cK (.str "(a)")) (aCons (cK (.str "((then))")) (aCons (cK (.str "a b")) (aCons (cK (.str "(or a")) aNil))))))))))))))
    [s0, s1, s2, s3, s4, s5, s6, s7, s8, s9, s10, s11, s12, s13] = .nx [s0, s1, s2, s3, s4, s5, s6, s7, s8, s9, s10, some (.l odd1), s12, s13] := by
  have z1 : 1 ≤ sizeLine := by rw [sizeLine_eq]; decide
  have z13 : 13 ≤ sizeLine := by rw [sizeLine_eq]; decide
  simp [Sv.sNil, Sv.sCons, Sv.sPass, Sv.sBreak, Sv.sCont, Sv.sExpr, Sv.put, Sv.sSet, Sv.sRet, Sv.sRetN, Sv.sIf, Sv.cVar, Sv.cK, Sv.cE, Sv.cP, Sv.cOp, Sv.cUn, Sv.cChain, Sv.cIf, Sv.cAnd, Sv.cOr, Sv.cNot, Sv.tB, Sv.tAnd, Sv.tOr, Sv.tNot, Sv.tYes, Sv.aNil, Sv.aCons, Sv.aStar, Sv.cCall, Sv.cTup, Sv.cLst, Sv.cSl, Sv.cMeth, Sv.sSetIx, Sv.sPar2, Sv.sPar3, Sv.sAsg, Sv.sAug, Sv.hold, Sv.slot, Sv.outF, Sv.argsB, Sv.slotsOf, Sv.back, Sv.rds, Sv.datas, Sv.gN, Sv.gT, Sv.gL, Sv.gRun, Sv.cFn, Sv.fnD, Sv.sRaise, Sv.R.bind, Sv.R.opt, Sv.R.toS, Sv.RS.seq, Sv.Hd.rd, Sv.B.rd, Sv.toP, Sv.eqP, Sv.neP, Sv.one, Sv.two, Sv.getP, Sv.lenP, Sv.addP, Sv.subP, Sv.mulP, Sv.mulQ, Sv.fdivP, Sv.modP, Sv.powP, Sv.intP, Sv.absP, Sv.max2P, Sv.min2P, Sv.negP, Sv.augAdd, Sv.setD, Sv.mAppend, Sv.ltB, Sv.gtB, Sv.leB, Sv.geB, Sv.ordB, Sv.small64, Sv.isP, Sv.wSeq, Sv.wRange1, Sv.sFor, z1, z13, odd1]
theorem c6 {M : PyData → PyData → Option B} {O : List PyData} (hO : O.length + 5 ≤ sizeLine) {A C D G H : Str} (h1 : M (.str (Str.ofString "(any ")) (.int 5000) = some (.d (.str A))) (h2 : M (.str (Str.ofString ")")) (.int 5000) = some (.d (.str C))) (h3 : M (.str (Str.ofString " a")) (.int 5000) = some (.d (.str D))) (h4 : M (.str (Str.ofString "a")) (.int 5000) = some (.d (.str G))) (h5 : M (.str (Str.ofString "(")) (.int 5000) = some (.d (.str H)))
    (e1 : A.length + (Str.ofString "a").length ≤ sizeLine) (e2 : (A ++ Str.ofString "a").length + C.length ≤ sizeLine) (e3 : (Str.ofString "(or").length + D.length ≤ sizeLine) (e4 : (Str.ofString "(or" ++ D).length + (Str.ofString ")").length ≤ sizeLine) :
    sSet 11 (cOp addP (cVar 11) (cP (cLst (aCons (cE (cOp M (cK (.str "(any ")) (cK (.int 5000)))) (aCons (cE (cOp addP (cP (cOp addP (cP (cOp M (cK (.str "(any ")) (cK (.int 5000)))) (cK (.str "a")))) (cP (cOp M (cK (.str ")")) (cK (.int 5000)))))) (aCons (cE (cOp addP (cP (cOp addP (cK (.str "(or")) (cP (cOp M (cK (.str " a")) (cK (.int 5000)))))) (cK (.str ")")))) (aCons (cE (cOp M (cK (.str "a")) (cK (.int 5000)))) (aCons (cE (cOp M (cK (.str "(")) (cK (.int 5000)))) aNil))))))))
    [s0, s1, s2, s3, s4, s5, s6, s7, s8, s9, s10, some (.l O), s12, s13] = .nx [s0, s1, s2, s3, s4, s5, s6, s7, s8, s9, s10, some (.l (O ++ [.str A, .str (A ++ Str.ofString "a" ++ C), .str (Str.ofString "(or" ++ D ++ Str.ofString ")"), .str G, .str H])), s12, s13] := by
  have z5 : 5 ≤ sizeLine := by rw [sizeLine_eq]; decide
  simp [Sv.sNil, Sv.sCons, Sv.sPass, Sv.sBreak, Sv.sCont, Sv.sExpr, Sv.put, Sv.sSet, Sv.sRet, Sv.sRetN, Sv.sIf, Sv.cVar, Sv.cK, Sv.cE, Sv.cP, Sv.cOp, Sv.cUn, Sv.cChain, Sv.cIf, Sv.cAnd, Sv.cOr, Sv.cNot, Sv.tB, Sv.tAnd, Sv.tOr, Sv.tNot, Sv.tYes, Sv.aNil, Sv.aCons, Sv.aStar, Sv.cCall, Sv.cTup, Sv.cLst, Sv.cSl, Sv.cMeth, Sv.sSetIx, Sv.sPar2, Sv.sPar3, Sv.sAsg, Sv.sAug, Sv.hold, Sv.slot, Sv.outF, Sv.argsB, Sv.slotsOf, Sv.back, Sv.rds, Sv.datas, Sv.gN, Sv.gT, Sv.gL, Sv.gRun, Sv.cFn, Sv.fnD, Sv.sRaise, Sv.R.bind, Sv.R.opt, Sv.R.toS, Sv.RS.seq, Sv.Hd.rd, Sv.B.rd, Sv.toP, Sv.eqP, Sv.neP, Sv.one, Sv.two, Sv.getP, Sv.lenP, Sv.addP, Sv.subP, Sv.fdivP, Sv.modP, Sv.powP, Sv.intP, Sv.absP, Sv.max2P, Sv.min2P, Sv.negP, Sv.augAdd, Sv.setD, Sv.mAppend, Sv.ltB, Sv.gtB, Sv.leB, Sv.geB, Sv.ordB, Sv.small64, Sv.isP, Sv.wSeq, Sv.wRange1, Sv.sFor, h1, h2, h3, h4, h5, e1, e2, e3, e4, z5, hO]
theorem c7 {L : List PyData} (hL : L.length ≤ 100) (h : ∀ v ∈ L, Bad v) : sSet 12 (cComp [13] (wSeq (cVar 11)) (gN 13) tYes ce_law_0) [s0, s1, s2, s3, s4, s5, s6, s7, s8, s9, s10, some (.l L), s12, none] = .nx [s0, s1, s2, s3, s4, s5, s6, s7, s8, s9, s10, some (.d (.list L)), some (.l (L.map fun _ => pz)), none] := by
  have k := compL_map (v := 13) (c := ce_law_0) (f := id) (g := fun _ => pz) (e := [s0, s1, s2, s3, s4, s5, s6, s7, s8, s9, s10, some (.d (.list L)), s12, none]) rfl L fun w hw => by
    obtain ⟨o, b⟩ := h w hw
    have mp : m_ParseError errP = some true := rfl
    simp [ce_law_0, Sv.sNil, Sv.sCons, Sv.sPass, Sv.sBreak, Sv.sCont, Sv.sExpr, Sv.put, Sv.sSet, Sv.sRet, Sv.sRetN, Sv.sIf, Sv.cVar, Sv.cK, Sv.cE, Sv.cP, Sv.cOp, Sv.cUn, Sv.cChain, Sv.cIf, Sv.cAnd, Sv.cOr, Sv.cNot, Sv.tB, Sv.tAnd, Sv.tOr, Sv.tNot, Sv.tYes, Sv.aNil, Sv.aCons, Sv.aStar, Sv.cCall, Sv.cTup, Sv.cLst, Sv.cSl, Sv.cMeth, Sv.sSetIx, Sv.sPar2, Sv.sPar3, Sv.sAsg, Sv.sAug, Sv.hold, Sv.slot, Sv.outF, Sv.argsB, Sv.slotsOf, Sv.back, Sv.rds, Sv.datas, Sv.gN, Sv.gT, Sv.gL, Sv.gRun, Sv.cFn, Sv.fnD, Sv.sRaise, Sv.R.bind, Sv.R.opt, Sv.R.toS, Sv.RS.seq, Sv.Hd.rd, Sv.B.rd, Sv.toP, Sv.eqP, Sv.neP, Sv.one, Sv.two, Sv.getP, Sv.lenP, Sv.addP, Sv.subP, Sv.mulP, Sv.mulQ, Sv.fdivP, Sv.modP, Sv.powP, Sv.intP, Sv.absP, Sv.max2P, Sv.min2P, Sv.negP, Sv.augAdd, Sv.setD, Sv.mAppend, Sv.ltB, Sv.gtB, Sv.leB, Sv.geB, Sv.ordB, Sv.small64, Sv.isP, Sv.wSeq, Sv.wRange1, Sv.sFor, b, cTold, mp, pz]
  rw [List.map_id] at k
  have zl : L.length ≤ sizeLine := by rw [sizeLine_eq]; omega
  generalize L.map (fun _ => pz) = P at *
  simp [Sv.sNil, Sv.sCons, Sv.sPass, Sv.sBreak, Sv.sCont, Sv.sExpr, Sv.put, Sv.sSet, Sv.sRet, Sv.sRetN, Sv.sIf, Sv.cVar, Sv.cK, Sv.cE, Sv.cP, Sv.cOp, Sv.cUn, Sv.cChain, Sv.cIf, Sv.cAnd, Sv.cOr, Sv.cNot, Sv.tB, Sv.tAnd, Sv.tOr, Sv.tNot, Sv.tYes, Sv.aNil, Sv.aCons, Sv.aStar, Sv.cCall, Sv.cTup, Sv.cLst, Sv.cSl, Sv.cMeth, Sv.sSetIx, Sv.sPar2, Sv.sPar3, Sv.sAsg, Sv.sAug, Sv.hold, Sv.slot, Sv.outF, Sv.argsB, Sv.slotsOf, Sv.back, Sv.rds, Sv.datas, Sv.gN, Sv.gT, Sv.gL, Sv.gRun, Sv.cFn, Sv.fnD, Sv.sRaise, Sv.R.bind, Sv.R.opt, Sv.R.toS, Sv.RS.seq, Sv.Hd.rd, Sv.B.rd, Sv.toP, Sv.eqP, Sv.neP, Sv.one, Sv.two, Sv.getP, Sv.lenP, Sv.addP, Sv.subP, Sv.mulP, Sv.mulQ, Sv.fdivP, Sv.modP, Sv.powP, Sv.intP, Sv.absP, Sv.max2P, Sv.min2P, Sv.negP, Sv.augAdd, Sv.setD, Sv.mAppend, Sv.ltB, Sv.gtB, Sv.leB, Sv.geB, Sv.ordB, Sv.small64, Sv.isP, Sv.wSeq, Sv.wRange1, Sv.sFor, cComp, wipeE, restE, zl, k]
theorem c8 {M : PyData → PyData → Option B} {F : Fn} {L P : List PyData} {o : Option B} (hL : L.length = 18) (hm : M (.list [.list [.str (Str.ofString "parse")]]) (.int 18) = some (.l P)) (hP : eqB (.list P) (.list P) = some true) (hF : F [.d (.str (Str.ofString "(or)"))] = .ok (.d (.tuple [.str (Str.ofString "or")])) [o]) :
    ∃ e, sRet (cAnd (cP (cOp eqP (cVar 12) (cP (cOp M (cP (cLst (aCons (cE (cLst (aCons (cK (.str "parse")) aNil))) aNil))) (cP (cCall (one lenP) (aCons (cVar 11) aNil))))))) (cOp eqP (cP (cFn F (aCons (cK (.str "(or)")) aNil))) (cP (cTup (aCons (cK (.str "or")) aNil)))))
      [s0, s1, s2, s3, s4, s5, s6, s7, s8, s9, s10, some (.d (.list L)), some (.l P), s13] = .rt (.d (.bool true)) (s0 :: e) := by
  have z1 : 1 ≤ sizeLine := by rw [sizeLine_eq]; decide
  have e := eq_self (v := .tuple [.str (Str.ofString "or")]) (by simp [PyData.plain, PyData.plainAll]) (by simp [PyData.depth, PyData.depthAll])
  refine ⟨[s1, s2, s3, s4, s5, s6, s7, s8, s9, s10, some (.d (.list L)), some (.l P), s13], ?_⟩
  simp [Sv.sNil, Sv.sCons, Sv.sPass, Sv.sBreak, Sv.sCont, Sv.sExpr, Sv.put, Sv.sSet, Sv.sRet, Sv.sRetN, Sv.sIf, Sv.cVar, Sv.cK, Sv.cE, Sv.cP, Sv.cOp, Sv.cUn, Sv.cChain, Sv.cIf, Sv.cAnd, Sv.cOr, Sv.cNot, Sv.tB, Sv.tAnd, Sv.tOr, Sv.tNot, Sv.tYes, Sv.aNil, Sv.aCons, Sv.aStar, Sv.cCall, Sv.cTup, Sv.cLst, Sv.cSl, Sv.cMeth, Sv.sSetIx, Sv.sPar2, Sv.sPar3, Sv.sAsg, Sv.sAug, Sv.hold, Sv.slot, Sv.outF, Sv.argsB, Sv.slotsOf, Sv.back, Sv.rds, Sv.datas, Sv.gN, Sv.gT, Sv.gL, Sv.gRun, Sv.cFn, Sv.fnD, Sv.sRaise, Sv.R.bind, Sv.R.opt, Sv.R.toS, Sv.RS.seq, Sv.Hd.rd, Sv.B.rd, Sv.toP, Sv.eqP, Sv.neP, Sv.one, Sv.two, Sv.getP, Sv.lenP, Sv.addP, Sv.subP, Sv.fdivP, Sv.modP, Sv.powP, Sv.intP, Sv.absP, Sv.max2P, Sv.min2P, Sv.negP, Sv.augAdd, Sv.setD, Sv.mAppend, Sv.ltB, Sv.gtB, Sv.leB, Sv.geB, Sv.ordB, Sv.small64, Sv.isP, Sv.wSeq, Sv.wRange1, Sv.sFor, z1, hL, hm, hP, hF, e]
end
theorem mul_str {x : Str} (h1 : 0 < x.length) (h2 : x.length ≤ 100) : mulQ (.str x) (.int 5000) = some (.d (.str (repS x 5000))) := by
  unfold mulQ
  simp only
  rw [if_pos ⟨by omega, by omega, h1, h2⟩]
  rfl
theorem mul_lst : mulQ (.list [pz]) (.int 18) = some (.l (List.replicate 18 pz)) := by
  unfold mulQ mulP
  simp only
  rw [if_pos ⟨by omega, by omega, by simp⟩, show (18 : Int).toNat = 18 from rfl, List.flatten_replicate_singleton]
theorem plain_rep {v : PyData} (h : v.plain = true) : ∀ k, PyData.plainAll (List.replicate k v) = true
  | 0 => rfl
  | k + 1 => by rw [List.replicate_succ, PyData.plainAll, h, plain_rep h k]; rfl
theorem depth_rep {v : PyData} : ∀ k, PyData.depthAll (List.replicate k v) ≤ v.depth
  | 0 => Nat.zero_le _
  | k + 1 => by
    have := depth_rep (v := v) k
    rw [List.replicate_succ, PyData.depthAll]
    omega
theorem law_true (ns : List Int) (hl : ns.length ≤ 63) (hb : ∀ i ∈ ns, Builtin.Int.intBits i ≤ 1048576) : ∃ qs, d_law [.d (.list (ns.map .int))] = .ok (.d (.bool true)) qs := by
  have e1 : ∀ (a : Option B) (r : List (Option B)), wRange1 (cP (cCall (two max2P) (aCons (cK (.int 2)) (aCons (cP (cCall (two min2P) (aCons (cK (.int 12)) (aCons (cP (cCall (one lenP) (aCons (cVar 0) aNil))) aNil)))) aNil)))) (some (.d (.list (ns.map .int))) :: a :: r) = .ok (rngD 0 (max 2 (min 12 ns.length))) (some (.d (.list (ns.map .int))) :: a :: r) := by
    intro a r
    have h1 : (cP (cCall (two max2P) (aCons (cK (.int 2)) (aCons (cP (cCall (two min2P) (aCons (cK (.int 12)) (aCons (cP (cCall (one lenP) (aCons (cVar 0) aNil))) aNil)))) aNil)))) (some (.d (.list (ns.map .int))) :: a :: r) = .ok (.v (.d (.int (max 2 (min 12 ns.length : Nat) : Nat)))) (some (.d (.list (ns.map .int))) :: a :: r) := by
      simp [Sv.sNil, Sv.sCons, Sv.sPass, Sv.sBreak, Sv.sCont, Sv.sExpr, Sv.put, Sv.sSet, Sv.sRet, Sv.sRetN, Sv.sIf, Sv.cVar, Sv.cK, Sv.cE, Sv.cP, Sv.cOp, Sv.cUn, Sv.cChain, Sv.cIf, Sv.cAnd, Sv.cOr, Sv.cNot, Sv.tB, Sv.tAnd, Sv.tOr, Sv.tNot, Sv.tYes, Sv.aNil, Sv.aCons, Sv.aStar, Sv.cCall, Sv.cTup, Sv.cLst, Sv.cSl, Sv.cMeth, Sv.sSetIx, Sv.sPar2, Sv.sPar3, Sv.sAsg, Sv.sAug, Sv.hold, Sv.slot, Sv.outF, Sv.argsB, Sv.slotsOf, Sv.back, Sv.rds, Sv.datas, Sv.gN, Sv.gT, Sv.gL, Sv.gRun, Sv.cFn, Sv.fnD, Sv.sRaise, Sv.R.bind, Sv.R.opt, Sv.R.toS, Sv.RS.seq, Sv.Hd.rd, Sv.B.rd, Sv.toP, Sv.eqP, Sv.neP, Sv.one, Sv.two, Sv.getP, Sv.lenP, Sv.addP, Sv.subP, Sv.mulP, Sv.mulQ, Sv.fdivP, Sv.modP, Sv.powP, Sv.intP, Sv.absP, Sv.max2P, Sv.min2P, Sv.negP, Sv.augAdd, Sv.setD, Sv.mAppend, Sv.ltB, Sv.gtB, Sv.leB, Sv.geB, Sv.ordB, Sv.small64, Sv.isP, Sv.wSeq, Sv.sFor]
      omega
    have k := wr_gen (j := ((max 2 (min 12 ns.length : Nat) : Nat) : Int)) h1 rfl (by omega)
    rw [Int.toNat_natCast] at k
    exact k
  obtain ⟨t1, t2, t3, t4, t5, t6, t7, t8, t9, k1⟩ := loop3 ns none none none none (max 2 (min 12 ns.length)) 0 none none none none none none none none none
  rw [← List.range_eq_range'] at k1
  obtain ⟨u7, k3⟩ := gr_loop (some (.d (.list (ns.map .int)))) t1 t2 t3 t4 t5 t6 t8 t9 none none none 18 0 0 t7
  rw [← List.range_eq_range', Nat.zero_add] at k3
  have g4 := expr_spec (gr 18) (gr_fit 18)
  have i4 : isExpr (gr 18) = false := by
    unfold isExpr
    rw [gr_cw 6 18 (by omega)]
    rfl
  rw [i4] at g4
  have ol : (odd1 ++ odd2).length = 18 := by rfl
  have bad : ∀ v ∈ odd1 ++ odd2, Bad v := fun v hv => by
    rcases List.mem_append.mp hv with h | h
    · exact bad1 v h
    · exact bad2 v h
  have pm : (odd1 ++ odd2).map (fun _ => pz) = List.replicate 18 pz := by rw [← ol]; exact List.map_const' ..
  have pp : pz.plain = true := by decide
  have pd : pz.depth ≤ 100 := by decide
  have hP : eqB (.list (List.replicate 18 pz)) (.list (List.replicate 18 pz)) = some true := eq_self (by simpa only [PyData.plain] using plain_rep pp 18) (by
    have := depth_rep (v := pz) 18
    simp only [PyData.depth]
    omega)
  have vx : isExpr (.tuple [.str (Str.ofString "or")]) = true := by decide
  have tx : txt 6 (.tuple [.str (Str.ofString "or")]) = Str.ofString "(or)" := by decide +kernel
  have ex1 := ex_txt vx
  rw [tx] at ex1
  obtain ⟨_, o, k8⟩ := eof_some (x := Str.ofString "(or)") (by decide) ex1
  have r6 := c6 (s0 := some (.d (.list (ns.map .int)))) (s1 := t1) (s2 := t2) (s3 := t3) (s4 := t4) (s5 := t5) (s6 := t6) (s7 := u7) (s8 := t8) (s9 := t9) (s10 := some (.d (gr 18))) (s12 := none) (s13 := none) (O := odd1) (A := tA) (C := tC) (D := tD) (G := tG) (H := tH) (by rw [sizeLine_eq]; decide)
    (mul_str (by decide) (by decide)) (mul_str (by decide) (by decide)) (mul_str (by decide) (by decide)) (mul_str (by decide) (by decide)) (mul_str (by decide) (by decide))
    (by rw [lA, l1, sizeLine_eq]; omega) (by rw [app_len, lA, l1, lC, sizeLine_eq]; omega) (by rw [l2, lD, sizeLine_eq]; omega) (by rw [app_len, l2, lD, l3, sizeLine_eq]; omega)
  have r7 := c7 (s0 := some (.d (.list (ns.map .int)))) (s1 := t1) (s2 := t2) (s3 := t3) (s4 := t4) (s5 := t5) (s6 := t6) (s7 := u7) (s8 := t8) (s9 := t9) (s10 := some (.d (gr 18))) (s12 := none) (L := odd1 ++ odd2) (by rw [ol]; omega) bad
  rw [pm] at r7
  obtain ⟨e8, r8⟩ := c8 (s0 := some (.d (.list (ns.map .int)))) (s1 := t1) (s2 := t2) (s3 := t3) (s4 := t4) (s5 := t5) (s6 := t6) (s7 := u7) (s8 := t8) (s9 := t9) (s10 := some (.d (gr 18))) (s13 := none) ol mul_lst hP k8
  exact ⟨_, fn_gen (seq_gen (for_gen (e1 _ _) k1) (seq_gen c2 (seq_gen (for_gen (wr_k 18 (by omega) _) k3) (seq_gen (c4 g4) (seq_gen c5 (seq_gen r6 (seq_gen r7 r8)))))))⟩
end K05
end
section
set_option autoImplicit false
set_option linter.all false
set_option maxRecDepth 100000
set_option maxHeartbeats 2000000
namespace K05
open PySem PySem.Spec L2 Sv
open PyProof.Rows hiding St
/-- what the walks know of the top -/
instance : HasT := ⟨fun K => [((He.cT K ("_law_value_right", none)).2, ("_law_value_right" : Str) ++ ".<locals>." ++ "<lambda>"), ((He.cT K ("_law_text_right", none)).2, ("_law_text_right" : Str) ++ ".<locals>." ++ "<lambda>"), ((He.cT K ("law", none)).2, ("law" : Str) ++ ".<locals>." ++ "<lambda>")]⟩
structure Fa (K : PySem.W.Frag) (mg : Str → Option Value) (base : Heap) : Prop where
  c_InvalidExpression : ∀ (y : Ex) (cls : Value) (k : Bool), mg y.c = some cls → m_InvalidExpression y = some k → PySem.W.exmOne K cls (.ref (He.ga K "InvalidExpression")) = some k
  c_ParseError : ∀ (y : Ex) (cls : Value) (k : Bool), mg y.c = some cls → m_ParseError y = some k → PySem.W.exmOne K cls (.ref (He.ga K "ParseError")) = some k
  x_InvalidExpression : ExF K mg "InvalidExpression"
  x_ParseError : ExF K mg "ParseError"
  n_abs : mg "abs" = none
  n_all : mg "all" = none
  n_int : mg "int" = none
  n_isinstance : mg "isinstance" = none
  n_len : mg "len" = none
  n_max : mg "max" = none
  n_min : mg "min" = none
  n_range : mg "range" = none
  n_repr : mg "repr" = none
  n_set : mg "set" = none
  n_sorted : mg "sorted" = none
  n_str : mg "str" = none
  n_tuple : mg "tuple" = none
  i_MAX_DEPTH : ∃ t, mg "MAX_DEPTH" = some (.int 6 t)
  i_MAX_NAMES : ∃ t, mg "MAX_NAMES" = some (.int 12 t)
  i_MAX_SIGNS : ∃ t, mg "MAX_SIGNS" = some (.int 8 t)
  i_MAX_TUPLES : ∃ t, mg "MAX_TUPLES" = some (.int 40 t)
  s_LETTERS : ∃ t, mg "LETTERS" = some (.str "abcdefghijklmnopqrstuvwxyz" t)
  u_SERIES : TupF K mg "SERIES" ["then", "or"]
  u_SINGLE : TupF K mg "SINGLE" ["any", "some", "maybe"]
  f_tap : DefF K mg "_law_tap" (top 27) []
  f_is_name : DefF K mg "is_name" (top 7) []
  f_has_front : DefF K mg "has_front" (top 14) []
  f_counts_within : DefF K mg "counts_within" (top 15) []
  f_is_expression : DefF K mg "is_expression" (top 16) []
  f_told : DefF K mg "_law_told" (top 38) []
  f_turn : DefF K mg "_law_turn" (top 28) []
  f_names : DefF K mg "_law_names" (top 30) []
  f_pick : DefF K mg "_law_pick" (top 29) []
  f_expression : DefF K mg "_law_expression" (top 31) []
  f_text : DefF K mg "_law_text" (top 36) []
  f_letters_from : DefF K mg "letters_from" (top 23) []
  f_read_from : DefF K mg "read_from" (top 24) []
  f_expression_of : DefF K mg "expression_of" (top 25) []
  f_l_is_name : DefF K mg "_law_is_name" (top 32) []
  f_shape : DefF K mg "_law_shape" (top 33) []
  f_is_one : DefF K mg "_law_is_one" (top 34) []
  f_is_word : DefF K mg "is_word" (top 18) []
  f_require_expression : DefF K mg "require_expression" (top 17) []
  f_written_names : DefF K mg "written_names" (top 19) []
  f_names_in : DefF K mg "names_in" (top 20) []
  f_text_by : DefF K mg "text_by" (top 21) []
  f_text_of : DefF K mg "text_of" (top 22) []
  f_written : DefF K mg "_law_written" (top 35) []
  f_value_right : DefF K mg "_law_value_right" (top 41) []
  f_read : DefF K mg "_law_read" (top 39) []
  f_text_right : DefF K mg "_law_text_right" (top 40) []
  f_bent : DefF K mg "_law_bent" (top 37) []
  f_law : DefF K mg "law" (top 42) []
  t_value_right : TabF K mg base "_law_value_right"
  t_text_right : TabF K mg base "_law_text_right"
  t_law : TabF K mg base "law"
section
variable {P : Program} {w : World} {K : PySem.W.Frag} {mg : Str → Option Value} {base : Heap}
theorem sc_tap : FnScope N_tap ["_law_script", "_law_at"] (defScope (top 27)) := ⟨rfl, rfl, rfl, by decide +kernel, rfl, by decide +kernel, by decide +kernel⟩
theorem bd_tap : BindN "_law_tap" (top 27) ["_law_script", "_law_at"] := fun _ _ _ _ _ _ us hl => match us, hl with | [_, _], _ => rfl
theorem ok_tap (h : Fa K mg base) : Fun1 P w K mg base 1 "_law_tap" ["_law_script", "_law_at"] d_tap := by
  refine def_sv h.f_tap sc_tap bd_tap fun cdv hcd A outer s H E hr => ?_
  have hu := hr.u
  have hgd := hr.gd
  exact (b_cons (s_set (i := 2) sc_tap.nd rfl (.inl rfl) (e_op o_add (e_peek (e_op o_mulQ e_int (e_var (i := 1) rfl (.inl rfl)) (pl_k _) (pl_var _))) e_int (pl_P _) (pl_k _)) (by decide))
    (b_cons (s_if (t_cmp (o_lt hu) (e_var (i := 1) rfl (.inl rfl)) (e_peek (e_callB f_len rfl h.n_len boot_len' (a_cons (e_var (i := 0) rfl (.inl rfl)) (pl_var _) a_nil))) (pl_var _) (pl_P _) (nomark _) (hp_to _)) (b_one (s_set (i := 2) sc_tap.nd rfl (.inl rfl) (e_ix ix_get (e_var (i := 0) rfl (.inl rfl)) (e_var (i := 1) rfl (.inl rfl)) (pl_var _) (pl_var _) (fun _ _ => rfl)) (by decide))) b_nil)
    (b_cons (s_set (i := 3) sc_tap.nd rfl (.inl rfl) (e_op o_mod (e_peek (e_callTy f_int rfl h.n_int boot_int' (a_cons (e_peek (e_callB f_abs rfl h.n_abs boot_abs' (a_cons (e_var (i := 2) rfl (.inl rfl)) (pl_var _) a_nil))) (pl_P _) a_nil))) (e_peek (e_op o_pow (e_peek (e_op o_pow e_int e_int (pl_k _) (pl_k _))) e_int (pl_P _) (pl_k _))) (pl_P _) (pl_P _)) (by decide))
    (b_cons (s_set (i := 4) sc_tap.nd rfl (.inl rfl) (e_op o_add (e_peek (e_op o_add (e_peek (e_op o_add (e_peek (e_op o_mulQ (e_peek (e_op o_mod (e_peek (e_callTy f_int rfl h.n_int boot_int' (a_cons (e_var (i := 3) rfl (.inl rfl)) (pl_var _) a_nil))) e_int (pl_P _) (pl_k _))) e_int (pl_P _) (pl_k _))) (e_peek (e_op o_mulQ e_int (e_var (i := 1) rfl (.inl rfl)) (pl_k _) (pl_var _))) (pl_P _) (pl_P _))) (e_peek (e_op o_mulQ e_int (e_peek (e_callTy f_int rfl h.n_int boot_int' (a_cons (e_peek (e_cmp (o_lt hu) (e_var (i := 2) rfl (.inl rfl)) e_int (pl_var _) (pl_k _) (nomark _))) (pl_P _) a_nil))) (pl_k _) (pl_P _))) (pl_P _) (pl_P _))) e_int (pl_P _) (pl_k _)) (by decide))
    (b_one (s_ret (e_lst (a_cons (e_hold (e_callB (f_max2 rfl) rfl h.n_max boot_max' (a_cons e_int (pl_k _) (a_cons (e_peek (e_op o_sub (e_var (i := 3) rfl (.inl rfl)) (e_peek (e_op o_pow e_int e_int (pl_k _) (pl_k _))) (pl_var _) (pl_P _))) (pl_P _) a_nil)))) (pl_E _) (a_cons (e_hold (e_op o_mod (e_peek (e_callTy f_int rfl h.n_int boot_int' (a_cons (e_var (i := 4) rfl (.inl rfl)) (pl_var _) a_nil))) e_int (pl_P _) (pl_k _))) (pl_E _) (a_cons e_int (pl_k _) a_nil))))))))))
theorem sc_is_name : FnScope N_is_name ["value"] (defScope (top 7)) := ⟨rfl, rfl, rfl, by decide +kernel, rfl, by decide +kernel, by decide +kernel⟩
theorem bd_is_name : BindN "is_name" (top 7) ["value"] := fun _ _ _ _ _ _ us hl => match us, hl with | [_], _ => rfl
theorem ok_is_name (h : Fa K mg base) : Fun1 P w K mg base 1 "is_name" ["value"] d_is_name := by
  refine def_sv h.f_is_name sc_is_name bd_is_name fun cdv hcd A outer s H E hr => ?_
  have hu := hr.u
  have hgd := hr.gd
  exact (b_one (s_ret (e_and (e_peek (e_isi isi_str h.n_isinstance rfl (e_var (i := 0) rfl (.inl rfl)) (pl_var _) rfl h.n_str boot_str')) (pl_P _) (e_and (e_peek (e_chain (o_le hu) (o_le hu) e_int (e_peek (e_callB f_len rfl h.n_len boot_len' (a_cons (e_var (i := 0) rfl (.inl rfl)) (pl_var _) a_nil))) (e_gi h.i_MAX_SIGNS rfl) (pl_k _) (pl_P _) (pl_k _))) (pl_P _) (e_one (e_callB (f_all rfl) rfl h.n_all boot_all' (a_cons (e_peek (e_comp (own := [("sign", 1)]) (io := [0]) rfl sc_is_name.nd (i_str (e_var (i := 0) rfl (.inl rfl))) (blkOk_by (N := N_is_name) (sc := defScope (top 7)) (by decide +kernel)) (fun _ _ _ _ _ => (g_name (i := 1) sc_is_name.nd rfl (.inl rfl) (by decide))) (fun _ _ _ _ _ => ts_nil) (fun _ _ _ _ _ => (e_cmp (o_in hu) (e_var (i := 1) rfl (.inl rfl)) (e_gs h.s_LETTERS rfl) (pl_var _) (pl_k _) rfl)) (hio_by (N := N_is_name) (by decide)) (tame_gN _))) (pl_P _) a_nil)))))))
theorem sc_has_front : FnScope N_has_front ["value"] (defScope (top 14)) := ⟨rfl, rfl, rfl, by decide +kernel, rfl, by decide +kernel, by decide +kernel⟩
theorem bd_has_front : BindN "has_front" (top 14) ["value"] := fun _ _ _ _ _ _ us hl => match us, hl with | [_], _ => rfl
theorem ok_has_front (h : Fa K mg base) : Fun1 P w K mg base 1 "has_front" ["value"] d_has_front := by
  refine def_sv h.f_has_front sc_has_front bd_has_front fun cdv hcd A outer s H E hr => ?_
  have hu := hr.u
  have hgd := hr.gd
  exact (b_cons (s_if (t_w (w_or (t_not (t_val (e_peek (e_isi isi_tup h.n_isinstance rfl (e_var (i := 0) rfl (.inl rfl)) (pl_var _) rfl h.n_tuple boot_tuple')) (pl_P _))) (w_or (t_cmp (o_eq0 hu) (e_var (i := 0) rfl (.inl rfl)) (e_peek (e_tup a_nil)) (pl_var _) (pl_P _) (nomark _) hp_eq0) (w_or1 (t_not (t_val (e_peek (e_isi isi_str h.n_isinstance rfl (e_peek (e_ix ix_get (e_var (i := 0) rfl (.inl rfl)) e_int (pl_var _) (pl_k _) (fun _ _ => rfl))) (pl_P _) rfl h.n_str boot_str')) (pl_P _))))))) (b_one (s_ret e_bl)) b_nil)
    (b_one (s_ret (e_or (e_peek (e_cmp (o_in hu) (e_peek (e_ix ix_get (e_var (i := 0) rfl (.inl rfl)) e_int (pl_var _) (pl_k _) (fun _ _ => rfl))) (e_gt (ks := (["then", "or"] : List Str)) h.u_SERIES rfl) (pl_P _) (pl_k _) rfl)) (pl_P _) (e_one (e_and (e_peek (e_cmp (o_in hu) (e_peek (e_ix ix_get (e_var (i := 0) rfl (.inl rfl)) e_int (pl_var _) (pl_k _) (fun _ _ => rfl))) (e_gt (ks := (["any", "some", "maybe"] : List Str)) h.u_SINGLE rfl) (pl_P _) (pl_k _) rfl)) (pl_P _) (e_one (e_cmp (o_eq hu) (e_peek (e_callB f_len rfl h.n_len boot_len' (a_cons (e_var (i := 0) rfl (.inl rfl)) (pl_var _) a_nil))) e_int (pl_P _) (pl_k _) (nomark _)))))))))
theorem sc_counts_within : FnScope N_counts_within ["value", "level"] (defScope (top 15)) := ⟨rfl, rfl, rfl, by decide +kernel, rfl, by decide +kernel, by decide +kernel⟩
theorem bd_counts_within : BindN "counts_within" (top 15) ["value", "level"] := fun _ _ _ _ _ _ us hl => match us, hl with | [_, _], _ => rfl
theorem ok_counts_within (h : Fa K mg base) : ∀ n : Nat, Fun1 P w K mg base (1 + n) "counts_within" ["value", "level"] (d_counts_within n)
  | 0 => fun_no h.f_counts_within bd_counts_within
  | n + 1 => by
    have ih := ok_counts_within h n
    refine def_sv h.f_counts_within sc_counts_within bd_counts_within fun cdv hcd A outer s H E hr => ?_
    have hu := hr.u
    have hgd := hr.gd
    exact (b_cons (s_if (t_val (e_peek (e_f (ok_is_name h) (hr.mono (Nat.le_trans (show 1 ≤ 1 by decide) (Nat.le_add_right _ _))) rfl (takes_of rfl rfl rfl rfl) (a_cons (e_var (i := 0) rfl (.inl rfl)) (pl_var _) a_nil) (al_cons al_nil))) (pl_P _)) (b_one (s_ret (e_tup (a_cons e_int (pl_k _) (a_cons e_int (pl_k _) a_nil))))) b_nil)
    (b_cons (s_if (t_w (w_or (t_cmp (o_eq hu) (e_var (i := 1) rfl (.inl rfl)) (e_gi h.i_MAX_DEPTH rfl) (pl_var _) (pl_k _) (nomark _) hp_eq) (w_or1 (t_not (t_val (e_peek (e_f (ok_has_front h) (hr.mono (Nat.le_trans (show 1 ≤ 1 by decide) (Nat.le_add_right _ _))) rfl (takes_of rfl rfl rfl rfl) (a_cons (e_var (i := 0) rfl (.inl rfl)) (pl_var _) a_nil) (al_cons al_nil))) (pl_P _)))))) (b_one (s_ret e_non)) b_nil)
    (b_cons (s_asg (e_tup (a_cons e_int (pl_k _) (a_cons e_int (pl_k _) a_nil))) (g_tup rfl (gs_cons (g_name (i := 2) sc_counts_within.nd rfl (.inl rfl) (by decide)) (gs_cons (g_name (i := 3) sc_counts_within.nd rfl (.inl rfl) (by decide)) gs_nil)) (tm_cons (tame_gN _) (tm_cons (tame_gN _) tm_nil))))
    (b_cons (s_for (passes_of rfl) rfl (i_seq (e_sl sl_P (e_var (i := 0) rfl (.inl rfl)) (pl_var _) (.some e_int (pl_k _)) .none)) (g_name (i := 4) sc_counts_within.nd rfl (.inl rfl) (by decide)) (b_cons (s_set (i := 5) sc_counts_within.nd rfl (.inl rfl) (e_f ih hr rfl (takes_of rfl rfl rfl rfl) (a_cons (e_var (i := 4) rfl (.inl rfl)) (pl_var _) (a_cons (e_peek (e_op o_add (e_var (i := 1) rfl (.inl rfl)) e_int (pl_var _) (pl_k _))) (pl_P _) a_nil)) (al_cons (al_cons al_nil))) (by decide))
    (b_cons (s_if (t_cmp o_is (e_var (i := 5) rfl (.inl rfl)) e_non (pl_var _) (pl_k _) (nomark _) (hp_to _)) (b_one (s_ret e_non)) b_nil)
    (b_cons (s_par2 (i := 2) (j := 3) rfl sc_counts_within.nd rfl rfl (by decide) rfl rfl (e_op o_add (e_var (i := 2) rfl (.inl rfl)) (e_peek (e_ix ix_get (e_var (i := 5) rfl (.inl rfl)) e_int (pl_var _) (pl_k _) (fun _ _ => rfl))) (pl_var _) (pl_P _)) (e_op o_add (e_var (i := 3) rfl (.inl rfl)) (e_peek (e_ix ix_get (e_var (i := 5) rfl (.inl rfl)) e_int (pl_var _) (pl_k _) (fun _ _ => rfl))) (pl_var _) (pl_P _)) (by decide) (by decide) rfl)
    (b_one (s_if (t_w (w_or (t_cmp (o_gt hu) (e_var (i := 2) rfl (.inl rfl)) (e_gi h.i_MAX_NAMES rfl) (pl_var _) (pl_k _) (nomark _) (hp_to _)) (w_or1 (t_cmp (o_gt hu) (e_var (i := 3) rfl (.inl rfl)) (e_gi h.i_MAX_TUPLES rfl) (pl_var _) (pl_k _) (nomark _) (hp_to _))))) (b_one (s_ret e_non)) b_nil))))))
    (b_one (s_ret (e_tup (a_cons (e_hold (e_var (i := 2) rfl (.inl rfl))) (pl_E _) (a_cons (e_hold (e_var (i := 3) rfl (.inl rfl))) (pl_E _) a_nil)))))))))
theorem sc_is_expression : FnScope N_is_expression ["value"] (defScope (top 16)) := ⟨rfl, rfl, rfl, by decide +kernel, rfl, by decide +kernel, by decide +kernel⟩
theorem bd_is_expression : BindN "is_expression" (top 16) ["value"] := fun _ _ _ _ _ _ us hl => match us, hl with | [_], _ => rfl
theorem ok_is_expression (h : Fa K mg base) : Fun1 P w K mg base 10 "is_expression" ["value"] d_is_expression := by
  refine def_sv h.f_is_expression sc_is_expression bd_is_expression fun cdv hcd A outer s H E hr => ?_
  have hu := hr.u
  have hgd := hr.gd
  exact (b_one (s_ret (e_cmp o_isNot (e_peek (e_f (ok_counts_within h 8) (hr.mono (by decide)) rfl (takes_of rfl rfl rfl rfl) (a_cons (e_var (i := 0) rfl (.inl rfl)) (pl_var _) (a_cons e_int (pl_k _) a_nil)) (al_cons (al_cons al_nil)))) e_non (pl_P _) (pl_k _) (nomark _))))
theorem sc_told : FnScope N_told ["_law_call"] (defScope (top 38)) := ⟨rfl, rfl, rfl, by decide +kernel, rfl, by decide +kernel, by decide +kernel⟩
theorem bd_told : BindN "_law_told" (top 38) ["_law_call"] := fun _ _ _ _ _ _ us hl => match us, hl with | [_], _ => rfl
theorem it_told : IsTold (top 38) "_law_call" "ParseError" "InvalidExpression" "told" "parse" "expression" := ⟨⟨_, _, _, _, _, _, _, _, _, _, _, _, _, _, _, _, _, _, _, rfl⟩⟩
theorem sc_turn : FnScope N_turn ["_law_tap_here", "_law_total"] (defScope (top 28)) := ⟨rfl, rfl, rfl, by decide +kernel, rfl, by decide +kernel, by decide +kernel⟩
theorem bd_turn : BindN "_law_turn" (top 28) ["_law_tap_here", "_law_total"] := fun _ _ _ _ _ _ us hl => match us, hl with | [_, _], _ => rfl
theorem ok_turn (h : Fa K mg base) : Fun1 P w K mg base 1 "_law_turn" ["_law_tap_here", "_law_total"] d_turn := by
  refine def_sv h.f_turn sc_turn bd_turn fun cdv hcd A outer s H E hr => ?_
  have hu := hr.u
  have hgd := hr.gd
  exact (b_cons (s_if (t_cmp (o_gt hu) (e_peek (e_ix ix_get (e_var (i := 0) rfl (.inl rfl)) e_int (pl_var _) (pl_k _) (fun _ _ => rfl))) e_int (pl_P _) (pl_k _) (nomark _) (hp_to _)) (b_cons (s_set (i := 2) sc_turn.nd rfl (.inl rfl) (e_op o_mod (e_peek (e_callTy f_int rfl h.n_int boot_int' (a_cons (e_peek (e_ix ix_get (e_var (i := 0) rfl (.inl rfl)) e_int (pl_var _) (pl_k _) (fun _ _ => rfl))) (pl_P _) a_nil))) (e_var (i := 1) rfl (.inl rfl)) (pl_P _) (pl_var _)) (by decide))
    (b_cons (s_setIx st_list (e_var (i := 0) rfl (.inl rfl)) e_int (pl_k _) (e_op o_fdiv (e_peek (e_ix ix_get (e_var (i := 0) rfl (.inl rfl)) e_int (pl_var _) (pl_k _) (fun _ _ => rfl))) (e_var (i := 1) rfl (.inl rfl)) (pl_P _) (pl_var _)))
    (b_one (s_ret (e_var (i := 2) rfl (.inl rfl)))))) b_nil)
    (b_cons (s_setIx st_list (e_var (i := 0) rfl (.inl rfl)) e_int (pl_k _) (e_op o_add (e_peek (e_ix ix_get (e_var (i := 0) rfl (.inl rfl)) e_int (pl_var _) (pl_k _) (fun _ _ => rfl))) e_int (pl_P _) (pl_k _)))
    (b_cons (s_set (i := 3) sc_turn.nd rfl (.inl rfl) (e_op o_mod (e_peek (e_callTy f_int rfl h.n_int boot_int' (a_cons (e_peek (e_op o_add (e_peek (e_ix ix_get (e_var (i := 0) rfl (.inl rfl)) e_int (pl_var _) (pl_k _) (fun _ _ => rfl))) (e_peek (e_op o_mulQ e_int (e_peek (e_ix ix_get (e_var (i := 0) rfl (.inl rfl)) e_int (pl_var _) (pl_k _) (fun _ _ => rfl))) (pl_k _) (pl_P _))) (pl_P _) (pl_P _))) (pl_P _) a_nil))) e_int (pl_P _) (pl_k _)) (by decide))
    (b_cons (s_set (i := 4) sc_turn.nd rfl (.inl rfl) (e_op o_add (e_peek (e_op o_mulQ (e_peek (e_op o_mod (e_peek (e_callTy f_int rfl h.n_int boot_int' (a_cons (e_peek (e_op o_mulQ (e_var (i := 3) rfl (.inl rfl)) (e_var (i := 3) rfl (.inl rfl)) (pl_var _) (pl_var _))) (pl_P _) a_nil))) e_int (pl_P _) (pl_k _))) (e_var (i := 3) rfl (.inl rfl)) (pl_P _) (pl_var _))) (e_peek (e_op o_mulQ e_int (e_peek (e_ix ix_get (e_var (i := 0) rfl (.inl rfl)) e_int (pl_var _) (pl_k _) (fun _ _ => rfl))) (pl_k _) (pl_P _))) (pl_P _) (pl_P _)) (by decide))
    (b_one (s_ret (e_op o_mod (e_peek (e_callTy f_int rfl h.n_int boot_int' (a_cons (e_peek (e_op o_fdiv (e_peek (e_op o_mod (e_peek (e_callTy f_int rfl h.n_int boot_int' (a_cons (e_var (i := 4) rfl (.inl rfl)) (pl_var _) a_nil))) e_int (pl_P _) (pl_k _))) e_int (pl_P _) (pl_k _))) (pl_P _) a_nil))) (e_var (i := 1) rfl (.inl rfl)) (pl_P _) (pl_var _))))))))
theorem sc_names : FnScope N_names ["_law_tap_here", "_law_total"] (defScope (top 30)) := ⟨rfl, rfl, rfl, by decide +kernel, rfl, by decide +kernel, by decide +kernel⟩
theorem bd_names : BindN "_law_names" (top 30) ["_law_tap_here", "_law_total"] := fun _ _ _ _ _ _ us hl => match us, hl with | [_, _], _ => rfl
theorem ok_names (h : Fa K mg base) : Fun1 P w K mg base 2 "_law_names" ["_law_tap_here", "_law_total"] d_names := by
  refine def_sv h.f_names sc_names bd_names fun cdv hcd A outer s H E hr => ?_
  have hu := hr.u
  have hgd := hr.gd
  exact (b_cons (s_par2 (i := 2) (j := 3) rfl sc_names.nd rfl rfl (by decide) rfl rfl e_str (e_lst a_nil) (by decide) (by decide) rfl)
    (b_cons (s_for (passes_of rfl) rfl (i_range1 rfl h.n_range (e_var (i := 1) rfl (.inl rfl)) (pl_var _)) (g_name (i := 4) sc_names.nd rfl (.inl rfl) (by decide)) (b_cons (s_set (i := 5) sc_names.nd rfl (.inl rfl) (e_ix ix_get (e_var (i := 2) rfl (.inl rfl)) (e_peek (e_op o_add (e_peek (e_op o_mulQ e_int (e_var (i := 4) rfl (.inl rfl)) (pl_k _) (pl_var _))) (e_peek (e_f (ok_turn h) (hr.mono (by decide)) rfl (takes_of rfl rfl rfl rfl) (a_cons (e_var (i := 0) rfl (.inl rfl)) (pl_var _) (a_cons e_int (pl_k _) a_nil)) (al_cons (al_cons al_nil)))) (pl_P _) (pl_P _))) (pl_var _) (pl_P _) (fun _ _ => rfl)) (by decide))
    (b_one (s_expr (e_meth PySem.F.slot_list_append PySem.F.type_list_append m_append (e_var (i := 3) rfl (.inl rfl)) (a_cons (e_hold (e_op o_add (e_var (i := 5) rfl (.inl rfl)) (e_peek (e_ix ix_get (e_peek (e_lst (a_cons e_str (pl_k _) (a_cons e_str (pl_k _) (a_cons e_str (pl_k _) (a_cons e_str (pl_k _) (a_cons e_str (pl_k _) (a_cons e_str (pl_k _) a_nil)))))))) (e_peek (e_f (ok_turn h) (hr.mono (by decide)) rfl (takes_of rfl rfl rfl rfl) (a_cons (e_var (i := 0) rfl (.inl rfl)) (pl_var _) (a_cons e_int (pl_k _) a_nil)) (al_cons (al_cons al_nil)))) (pl_P _) (pl_P _) (fun _ _ => rfl))) (pl_var _) (pl_P _))) (pl_E _) a_nil))))))
    (b_one (s_ret (e_var (i := 3) rfl (.inl rfl))))))
theorem sc_pick : FnScope N_pick ["_law_tap_here", "_law_items"] (defScope (top 29)) := ⟨rfl, rfl, rfl, by decide +kernel, rfl, by decide +kernel, by decide +kernel⟩
theorem bd_pick : BindN "_law_pick" (top 29) ["_law_tap_here", "_law_items"] := fun _ _ _ _ _ _ us hl => match us, hl with | [_, _], _ => rfl
theorem ok_pick (h : Fa K mg base) : Fun1 P w K mg base 2 "_law_pick" ["_law_tap_here", "_law_items"] d_pick := by
  refine def_sv h.f_pick sc_pick bd_pick fun cdv hcd A outer s H E hr => ?_
  have hu := hr.u
  have hgd := hr.gd
  exact (b_one (s_ret (e_ix ix_get (e_var (i := 1) rfl (.inl rfl)) (e_peek (e_f (ok_turn h) (hr.mono (by decide)) rfl (takes_of rfl rfl rfl rfl) (a_cons (e_var (i := 0) rfl (.inl rfl)) (pl_var _) (a_cons (e_peek (e_callB f_len rfl h.n_len boot_len' (a_cons (e_var (i := 1) rfl (.inl rfl)) (pl_var _) a_nil))) (pl_P _) a_nil)) (al_cons (al_cons al_nil)))) (pl_var _) (pl_P _) (fun _ _ => rfl))))
theorem sc_expression : FnScope N_expression ["_law_tap_here", "_law_names_here", "_law_most", "_law_deep"] (defScope (top 31)) := ⟨rfl, rfl, rfl, by decide +kernel, rfl, by decide +kernel, by decide +kernel⟩
theorem bd_expression : BindN "_law_expression" (top 31) ["_law_tap_here", "_law_names_here", "_law_most", "_law_deep"] := fun _ _ _ _ _ _ us hl => match us, hl with | [_, _, _, _], _ => rfl
theorem ok_expression (h : Fa K mg base) : ∀ n : Nat, Fun1 P w K mg base (2 + n) "_law_expression" ["_law_tap_here", "_law_names_here", "_law_most", "_law_deep"] (d_expression n)
  | 0 => fun_no h.f_expression bd_expression
  | n + 1 => by
    have ih := ok_expression h n
    refine def_sv h.f_expression sc_expression bd_expression fun cdv hcd A outer s H E hr => ?_
    have hu := hr.u
    have hgd := hr.gd
    exact (b_cons (s_set (i := 4) sc_expression.nd rfl (.inl rfl) (e_f (ok_turn h) (hr.mono (Nat.le_trans (show 1 ≤ 2 by decide) (Nat.le_add_right _ _))) rfl (takes_of rfl rfl rfl rfl) (a_cons (e_var (i := 0) rfl (.inl rfl)) (pl_var _) (a_cons e_int (pl_k _) a_nil)) (al_cons (al_cons al_nil))) (by decide))
    (b_cons (s_if (t_w (w_or (t_cmp (o_lt hu) (e_var (i := 2) rfl (.inl rfl)) e_int (pl_var _) (pl_k _) (nomark _) (hp_to _)) (w_or1 (t_cmp (o_eq hu) (e_var (i := 4) rfl (.inl rfl)) e_int (pl_var _) (pl_k _) (nomark _) hp_eq)))) (b_one (s_ret (e_if (t_cmp (o_eq hu) (e_peek (e_f (ok_turn h) (hr.mono (Nat.le_trans (show 1 ≤ 2 by decide) (Nat.le_add_right _ _))) rfl (takes_of rfl rfl rfl rfl) (a_cons (e_var (i := 0) rfl (.inl rfl)) (pl_var _) (a_cons e_int (pl_k _) a_nil)) (al_cons (al_cons al_nil)))) e_int (pl_P _) (pl_k _) (nomark _) hp_eq) (e_tup (a_cons e_str (pl_k _) a_nil)) (e_tup (a_cons e_str (pl_k _) a_nil))))) b_nil)
    (b_cons (s_if (t_w (w_or (t_cmp (o_eq hu) (e_var (i := 3) rfl (.inl rfl)) e_int (pl_var _) (pl_k _) (nomark _) hp_eq) (w_or1 (t_cmp (o_lt hu) (e_var (i := 4) rfl (.inl rfl)) e_int (pl_var _) (pl_k _) (nomark _) (hp_to _))))) (b_one (s_ret (e_f (ok_pick h) (hr.mono (Nat.le_trans (show 2 ≤ 2 by decide) (Nat.le_add_right _ _))) rfl (takes_of rfl rfl rfl rfl) (a_cons (e_var (i := 0) rfl (.inl rfl)) (pl_var _) (a_cons (e_var (i := 1) rfl (.inl rfl)) (pl_var _) a_nil)) (al_cons (al_cons al_nil))))) b_nil)
    (b_cons (s_if (t_w (w_and (t_cmp (o_gt hu) (e_var (i := 2) rfl (.inl rfl)) e_int (pl_var _) (pl_k _) (nomark _) (hp_to _)) (w_and1 (t_cmp (o_lt hu) (e_var (i := 4) rfl (.inl rfl)) e_int (pl_var _) (pl_k _) (nomark _) (hp_to _))))) (b_cons (s_set (i := 5) sc_expression.nd rfl (.inl rfl) (e_op o_add e_int (e_peek (e_f (ok_turn h) (hr.mono (Nat.le_trans (show 1 ≤ 2 by decide) (Nat.le_add_right _ _))) rfl (takes_of rfl rfl rfl rfl) (a_cons (e_var (i := 0) rfl (.inl rfl)) (pl_var _) (a_cons (e_peek (e_op o_sub (e_var (i := 2) rfl (.inl rfl)) e_int (pl_var _) (pl_k _))) (pl_P _) a_nil)) (al_cons (al_cons al_nil)))) (pl_k _) (pl_P _)) (by decide))
    (b_cons (s_set (i := 6) sc_expression.nd rfl (.inl rfl) (e_if (t_cmp (o_lt hu) (e_var (i := 4) rfl (.inl rfl)) e_int (pl_var _) (pl_k _) (nomark _) (hp_to _)) e_str e_str) (by decide))
    (b_cons (s_set (i := 7) sc_expression.nd rfl (.inl rfl) (e_f ih hr rfl (takes_of rfl rfl rfl rfl) (a_cons (e_var (i := 0) rfl (.inl rfl)) (pl_var _) (a_cons (e_var (i := 1) rfl (.inl rfl)) (pl_var _) (a_cons (e_var (i := 5) rfl (.inl rfl)) (pl_var _) (a_cons (e_peek (e_op o_sub (e_var (i := 3) rfl (.inl rfl)) e_int (pl_var _) (pl_k _))) (pl_P _) a_nil)))) (al_cons (al_cons (al_cons (al_cons al_nil))))) (by decide))
    (b_one (s_ret (e_tup (a_cons (e_hold (e_var (i := 6) rfl (.inl rfl))) (pl_E _) (a_cons (e_hold (e_var (i := 7) rfl (.inl rfl))) (pl_E _) (a_cons (e_hold (e_f ih hr rfl (takes_of rfl rfl rfl rfl) (a_cons (e_var (i := 0) rfl (.inl rfl)) (pl_var _) (a_cons (e_var (i := 1) rfl (.inl rfl)) (pl_var _) (a_cons (e_peek (e_op o_sub (e_var (i := 2) rfl (.inl rfl)) (e_var (i := 5) rfl (.inl rfl)) (pl_var _) (pl_var _))) (pl_P _) (a_cons (e_peek (e_op o_sub (e_var (i := 3) rfl (.inl rfl)) e_int (pl_var _) (pl_k _))) (pl_P _) a_nil)))) (al_cons (al_cons (al_cons (al_cons al_nil)))))) (pl_E _) a_nil))))))))) b_nil)
    (b_cons (s_set (i := 6) sc_expression.nd rfl (.inl rfl) (e_f (ok_pick h) (hr.mono (Nat.le_trans (show 2 ≤ 2 by decide) (Nat.le_add_right _ _))) rfl (takes_of rfl rfl rfl rfl) (a_cons (e_var (i := 0) rfl (.inl rfl)) (pl_var _) (a_cons (e_peek (e_lst (a_cons e_str (pl_k _) (a_cons e_str (pl_k _) (a_cons e_str (pl_k _) (a_cons e_str (pl_k _) a_nil)))))) (pl_P _) a_nil)) (al_cons (al_cons al_nil))) (by decide))
    (b_one (s_ret (e_tup (a_cons (e_hold (e_var (i := 6) rfl (.inl rfl))) (pl_E _) (a_cons (e_hold (e_f ih hr rfl (takes_of rfl rfl rfl rfl) (a_cons (e_var (i := 0) rfl (.inl rfl)) (pl_var _) (a_cons (e_var (i := 1) rfl (.inl rfl)) (pl_var _) (a_cons (e_var (i := 2) rfl (.inl rfl)) (pl_var _) (a_cons (e_peek (e_op o_sub (e_var (i := 3) rfl (.inl rfl)) e_int (pl_var _) (pl_k _))) (pl_P _) a_nil)))) (al_cons (al_cons (al_cons (al_cons al_nil)))))) (pl_E _) a_nil))))))))))
theorem sc_text : FnScope N_text ["_law_content"] (defScope (top 36)) := ⟨rfl, rfl, rfl, by decide +kernel, rfl, by decide +kernel, by decide +kernel⟩
theorem bd_text : BindN "_law_text" (top 36) ["_law_content"] := fun _ _ _ _ _ _ us hl => match us, hl with | [_], _ => rfl
theorem ok_text (h : Fa K mg base) : ∀ n : Nat, Fun1 P w K mg base (0 + n) "_law_text" ["_law_content"] (d_text n)
  | 0 => fun_no h.f_text bd_text
  | n + 1 => by
    have ih := ok_text h n
    refine def_sv h.f_text sc_text bd_text fun cdv hcd A outer s H E hr => ?_
    have hu := hr.u
    have hgd := hr.gd
    exact (b_cons (s_if (t_val (e_peek (e_isi isi_str h.n_isinstance rfl (e_var (i := 0) rfl (.inl rfl)) (pl_var _) rfl h.n_str boot_str')) (pl_P _)) (b_one (s_ret (e_var (i := 0) rfl (.inl rfl)))) b_nil)
    (b_one (s_ret (e_op o_add (e_peek (e_op o_add e_str (e_peek (e_join (e_peek (e_op o_add (e_peek (e_lst (a_cons (e_hold (e_ix ix_get (e_var (i := 0) rfl (.inl rfl)) e_int (pl_var _) (pl_k _) (fun _ _ => rfl))) (pl_E _) a_nil))) (e_peek (e_comp (own := [("_law_part", 1)]) (io := [0]) rfl sc_text.nd (i_seq (e_sl sl_P (e_var (i := 0) rfl (.inl rfl)) (pl_var _) (.some e_int (pl_k _)) .none)) (blkOk_by (N := N_text) (sc := defScope (top 36)) (by decide +kernel)) (fun _ _ _ _ _ => (g_name (i := 1) sc_text.nd rfl (.inl rfl) (by decide))) (fun _ _ _ _ _ => ts_nil) (fun _ _ _ _ _ => (e_f ih hr rfl (takesF _) (a_cons (e_var (i := 1) rfl (.inl rfl)) (pl_var _) a_nil) (al_cons al_nil))) (hio_by (N := N_text) (by decide)) (tame_gN _))) (pl_P _) (pl_P _))) (pl_P _))) (pl_k _) (pl_P _))) e_str (pl_P _) (pl_k _)))))
theorem sc_letters_from : FnScope N_letters_from ["text", "at"] (defScope (top 23)) := ⟨rfl, rfl, rfl, by decide +kernel, rfl, by decide +kernel, by decide +kernel⟩
theorem bd_letters_from : BindN "letters_from" (top 23) ["text", "at"] := fun _ _ _ _ _ _ us hl => match us, hl with | [_, _], _ => rfl
theorem ok_letters_from (h : Fa K mg base) : Fun1 P w K mg base 1 "letters_from" ["text", "at"] d_letters_from := by
  refine def_sv h.f_letters_from sc_letters_from bd_letters_from fun cdv hcd A outer s H E hr => ?_
  have hu := hr.u
  have hgd := hr.gd
  exact (b_cons (s_set (i := 2) sc_letters_from.nd rfl (.inl rfl) (e_var (i := 1) rfl (.inl rfl)) (by decide))
    (b_cons (s_while 100000 (passes_of rfl) (t_w (w_and (t_cmp (o_lt hu) (e_var (i := 2) rfl (.inl rfl)) (e_peek (e_callB f_len rfl h.n_len boot_len' (a_cons (e_var (i := 0) rfl (.inl rfl)) (pl_var _) a_nil))) (pl_var _) (pl_P _) (nomark _) (hp_to _)) (w_and1 (t_cmp (o_in hu) (e_peek (e_ix ix_get (e_var (i := 0) rfl (.inl rfl)) (e_var (i := 2) rfl (.inl rfl)) (pl_var _) (pl_var _) (fun _ _ => rfl))) (e_gs h.s_LETTERS rfl) (pl_P _) (pl_k _) rfl (hp_to _))))) (b_one (s_aug (i := 2) sc_letters_from.nd rfl (.inl rfl) e_int (pl_k _) ip_addD (by decide))))
    (b_one (s_ret (e_sl sl_P (e_var (i := 0) rfl (.inl rfl)) (pl_var _) (.some (e_var (i := 1) rfl (.inl rfl)) (pl_var _)) (.some (e_var (i := 2) rfl (.inl rfl)) (pl_var _)))))))
theorem sc_read_from : FnScope N_read_from ["text", "at", "level"] (defScope (top 24)) := ⟨rfl, rfl, rfl, by decide +kernel, rfl, by decide +kernel, by decide +kernel⟩
theorem bd_read_from : BindN "read_from" (top 24) ["text", "at", "level"] := fun _ _ _ _ _ _ us hl => match us, hl with | [_, _, _], _ => rfl
theorem ok_read_from (h : Fa K mg base) : ∀ n : Nat, Fun1 P w K mg base (1 + n) "read_from" ["text", "at", "level"] (d_read_from n)
  | 0 => fun_no h.f_read_from bd_read_from
  | n + 1 => by
    have ih := ok_read_from h n
    refine def_sv h.f_read_from sc_read_from bd_read_from fun cdv hcd A outer s H E hr => ?_
    have hu := hr.u
    have hgd := hr.gd
    exact (b_cons (s_if (t_cmp (o_gt hu) (e_var (i := 2) rfl (.inl rfl)) (e_gi h.i_MAX_DEPTH rfl) (pl_var _) (pl_k _) (nomark _) (hp_to _)) (b_one (s_raiseO h.x_ParseError rfl (takes_of rfl rfl rfl rfl) rfl)) b_nil)
    (b_cons (s_if (t_not (t_val (e_peek (e_starts (e_var (i := 0) rfl (.inl rfl)) (pl_var _) (e_var (i := 1) rfl (.inl rfl)) (pl_var _))) (pl_P _))) (b_cons (s_set (i := 3) sc_read_from.nd rfl (.inl rfl) (e_f (ok_letters_from h) (hr.mono (Nat.le_trans (show 1 ≤ 1 by decide) (Nat.le_add_right _ _))) rfl (takes_of rfl rfl rfl rfl) (a_cons (e_var (i := 0) rfl (.inl rfl)) (pl_var _) (a_cons (e_var (i := 1) rfl (.inl rfl)) (pl_var _) a_nil)) (al_cons (al_cons al_nil))) (by decide))
    (b_one (s_ret (e_tup (a_cons (e_hold (e_var (i := 3) rfl (.inl rfl))) (pl_E _) (a_cons (e_hold (e_op o_add (e_var (i := 1) rfl (.inl rfl)) (e_peek (e_callB f_len rfl h.n_len boot_len' (a_cons (e_var (i := 3) rfl (.inl rfl)) (pl_var _) a_nil))) (pl_var _) (pl_P _))) (pl_E _) a_nil)))))) b_nil)
    (b_cons (s_set (i := 4) sc_read_from.nd rfl (.inl rfl) (e_f (ok_letters_from h) (hr.mono (Nat.le_trans (show 1 ≤ 1 by decide) (Nat.le_add_right _ _))) rfl (takes_of rfl rfl rfl rfl) (a_cons (e_var (i := 0) rfl (.inl rfl)) (pl_var _) (a_cons (e_peek (e_op o_add (e_var (i := 1) rfl (.inl rfl)) e_int (pl_var _) (pl_k _))) (pl_P _) a_nil)) (al_cons (al_cons al_nil))) (by decide))
    (b_cons (s_par2 (i := 5) (j := 6) rfl sc_read_from.nd rfl rfl (by decide) rfl rfl (e_lst (a_cons (e_hold (e_var (i := 4) rfl (.inl rfl))) (pl_E _) a_nil)) (e_op o_add (e_peek (e_op o_add (e_var (i := 1) rfl (.inl rfl)) e_int (pl_var _) (pl_k _))) (e_peek (e_callB f_len rfl h.n_len boot_len' (a_cons (e_var (i := 4) rfl (.inl rfl)) (pl_var _) a_nil))) (pl_P _) (pl_P _)) (by decide) (by decide) rfl)
    (b_cons (s_while 100000 (passes_of rfl) (t_val (e_peek (e_starts (e_var (i := 0) rfl (.inl rfl)) (pl_var _) (e_var (i := 6) rfl (.inl rfl)) (pl_var _))) (pl_P _)) (b_cons (s_asg (e_f ih hr rfl (takes_of rfl rfl rfl rfl) (a_cons (e_var (i := 0) rfl (.inl rfl)) (pl_var _) (a_cons (e_peek (e_op o_add (e_var (i := 6) rfl (.inl rfl)) e_int (pl_var _) (pl_k _))) (pl_P _) (a_cons (e_peek (e_op o_add (e_var (i := 2) rfl (.inl rfl)) e_int (pl_var _) (pl_k _))) (pl_P _) a_nil))) (al_cons (al_cons (al_cons al_nil)))) (g_tup rfl (gs_cons (g_name (i := 7) sc_read_from.nd rfl (.inl rfl) (by decide)) (gs_cons (g_name (i := 6) sc_read_from.nd rfl (.inl rfl) (by decide)) gs_nil)) (tm_cons (tame_gN _) (tm_cons (tame_gN _) tm_nil))))
    (b_one (s_expr (e_meth PySem.F.slot_list_append PySem.F.type_list_append m_append (e_var (i := 5) rfl (.inl rfl)) (a_cons (e_hold (e_var (i := 7) rfl (.inl rfl))) (pl_E _) a_nil))))))
    (b_cons (s_if (t_not (t_val (e_peek (e_starts (e_var (i := 0) rfl (.inl rfl)) (pl_var _) (e_var (i := 6) rfl (.inl rfl)) (pl_var _))) (pl_P _))) (b_one (s_raiseO h.x_ParseError rfl (takes_of rfl rfl rfl rfl) rfl)) b_nil)
    (b_one (s_ret (e_tup (a_cons (e_hold (e_callTy f_tuple rfl h.n_tuple boot_tuple' (a_cons (e_var (i := 5) rfl (.inl rfl)) (pl_var _) a_nil))) (pl_E _) (a_cons (e_hold (e_op o_add (e_var (i := 6) rfl (.inl rfl)) e_int (pl_var _) (pl_k _))) (pl_E _) a_nil)))))))))))
theorem sc_expression_of : FnScope N_expression_of ["text"] (defScope (top 25)) := ⟨rfl, rfl, rfl, by decide +kernel, rfl, by decide +kernel, by decide +kernel⟩
theorem bd_expression_of : BindN "expression_of" (top 25) ["text"] := fun _ _ _ _ _ _ us hl => match us, hl with | [_], _ => rfl
theorem ok_expression_of (h : Fa K mg base) : Fun1 P w K mg base 11 "expression_of" ["text"] d_expression_of := by
  refine def_sv h.f_expression_of sc_expression_of bd_expression_of fun cdv hcd A outer s H E hr => ?_
  have hu := hr.u
  have hgd := hr.gd
  exact (b_cons (s_if (t_not (t_val (e_peek (e_isi isi_str h.n_isinstance rfl (e_var (i := 0) rfl (.inl rfl)) (pl_var _) rfl h.n_str boot_str')) (pl_P _))) (b_one (s_raiseO h.x_ParseError rfl (takes_of rfl rfl rfl rfl) rfl)) b_nil)
    (b_cons (s_asg (e_f (ok_read_from h 9) (hr.mono (by decide)) rfl (takes_of rfl rfl rfl rfl) (a_cons (e_var (i := 0) rfl (.inl rfl)) (pl_var _) (a_cons e_int (pl_k _) (a_cons e_int (pl_k _) a_nil))) (al_cons (al_cons (al_cons al_nil)))) (g_tup rfl (gs_cons (g_name (i := 1) sc_expression_of.nd rfl (.inl rfl) (by decide)) (gs_cons (g_name (i := 2) sc_expression_of.nd rfl (.inl rfl) (by decide)) gs_nil)) (tm_cons (tame_gN _) (tm_cons (tame_gN _) tm_nil))))
    (b_cons (s_if (t_w (w_or (t_cmp (o_lt hu) (e_var (i := 2) rfl (.inl rfl)) (e_peek (e_callB f_len rfl h.n_len boot_len' (a_cons (e_var (i := 0) rfl (.inl rfl)) (pl_var _) a_nil))) (pl_var _) (pl_P _) (nomark _) (hp_to _)) (w_or1 (t_not (t_val (e_peek (e_f (ok_is_expression h) (hr.mono (by decide)) rfl (takes_of rfl rfl rfl rfl) (a_cons (e_var (i := 1) rfl (.inl rfl)) (pl_var _) a_nil) (al_cons al_nil))) (pl_P _)))))) (b_one (s_raiseO h.x_ParseError rfl (takes_of rfl rfl rfl rfl) rfl)) b_nil)
    (b_one (s_ret (e_var (i := 1) rfl (.inl rfl)))))))
theorem sc_l_is_name : FnScope N_l_is_name ["_law_thing"] (defScope (top 32)) := ⟨rfl, rfl, rfl, by decide +kernel, rfl, by decide +kernel, by decide +kernel⟩
theorem bd_l_is_name : BindN "_law_is_name" (top 32) ["_law_thing"] := fun _ _ _ _ _ _ us hl => match us, hl with | [_], _ => rfl
theorem ok_l_is_name (h : Fa K mg base) : Fun1 P w K mg base 1 "_law_is_name" ["_law_thing"] d_l_is_name := by
  refine def_sv h.f_l_is_name sc_l_is_name bd_l_is_name fun cdv hcd A outer s H E hr => ?_
  have hu := hr.u
  have hgd := hr.gd
  exact (b_cons (s_if (t_w (w_or (t_not (t_val (e_peek (e_isi isi_str h.n_isinstance rfl (e_var (i := 0) rfl (.inl rfl)) (pl_var _) rfl h.n_str boot_str')) (pl_P _))) (w_or (t_cmp (o_lt hu) (e_peek (e_callB f_len rfl h.n_len boot_len' (a_cons (e_var (i := 0) rfl (.inl rfl)) (pl_var _) a_nil))) e_int (pl_P _) (pl_k _) (nomark _) (hp_to _)) (w_or1 (t_cmp (o_gt hu) (e_peek (e_callB f_len rfl h.n_len boot_len' (a_cons (e_var (i := 0) rfl (.inl rfl)) (pl_var _) a_nil))) e_int (pl_P _) (pl_k _) (nomark _) (hp_to _)))))) (b_one (s_ret e_bl)) b_nil)
    (b_one (s_ret (e_cmp (o_eq hu) (e_peek (e_comp (own := [("_law_sign", 1)]) (io := [0]) rfl sc_l_is_name.nd (i_str (e_var (i := 0) rfl (.inl rfl))) (blkOk_by (N := N_l_is_name) (sc := defScope (top 32)) (by decide +kernel)) (fun _ _ _ _ _ => (g_name (i := 1) sc_l_is_name.nd rfl (.inl rfl) (by decide))) (fun _ _ _ _ _ => (ts_one (t_cmp (o_notIn hu) (e_var (i := 1) rfl (.inl rfl)) e_str (pl_var _) (pl_k _) rfl (hp_to _)))) (fun _ _ _ _ _ => (e_var (i := 1) rfl (.inl rfl))) (hio_by (N := N_l_is_name) (by decide)) (tame_gN _))) (e_peek (e_lst a_nil)) (pl_P _) (pl_P _) (nomark _)))))
theorem sc_shape : FnScope N_shape ["_law_thing", "_law_level"] (defScope (top 33)) := ⟨rfl, rfl, rfl, by decide +kernel, rfl, by decide +kernel, by decide +kernel⟩
theorem bd_shape : BindN "_law_shape" (top 33) ["_law_thing", "_law_level"] := fun _ _ _ _ _ _ us hl => match us, hl with | [_, _], _ => rfl
theorem ok_shape (h : Fa K mg base) : ∀ n : Nat, Fun1 P w K mg base (1 + n) "_law_shape" ["_law_thing", "_law_level"] (d_shape n)
  | 0 => fun_no h.f_shape bd_shape
  | n + 1 => by
    have ih := ok_shape h n
    refine def_sv h.f_shape sc_shape bd_shape fun cdv hcd A outer s H E hr => ?_
    have hu := hr.u
    have hgd := hr.gd
    exact (b_cons (s_if (t_val (e_peek (e_f (ok_l_is_name h) (hr.mono (Nat.le_trans (show 1 ≤ 1 by decide) (Nat.le_add_right _ _))) rfl (takes_of rfl rfl rfl rfl) (a_cons (e_var (i := 0) rfl (.inl rfl)) (pl_var _) a_nil) (al_cons al_nil))) (pl_P _)) (b_one (s_ret (e_lst (a_cons e_int (pl_k _) (a_cons e_int (pl_k _) (a_cons (e_hold (e_var (i := 1) rfl (.inl rfl))) (pl_E _) a_nil)))))) b_nil)
    (b_cons (s_if (t_w (w_or (t_not (t_val (e_peek (e_isi isi_tup h.n_isinstance rfl (e_var (i := 0) rfl (.inl rfl)) (pl_var _) rfl h.n_tuple boot_tuple')) (pl_P _))) (w_or (t_cmp (o_eq0 hu) (e_var (i := 0) rfl (.inl rfl)) (e_peek (e_tup a_nil)) (pl_var _) (pl_P _) (nomark _) hp_eq0) (w_or (t_cmp (o_gt hu) (e_var (i := 1) rfl (.inl rfl)) e_int (pl_var _) (pl_k _) (nomark _) (hp_to _)) (w_or1 (t_not (t_val (e_peek (e_isi isi_str h.n_isinstance rfl (e_peek (e_ix ix_get (e_var (i := 0) rfl (.inl rfl)) e_int (pl_var _) (pl_k _) (fun _ _ => rfl))) (pl_P _) rfl h.n_str boot_str')) (pl_P _)))))))) (b_one (s_ret e_non)) b_nil)
    (b_cons (s_if (t_cmp (o_notIn hu) (e_peek (e_ix ix_get (e_var (i := 0) rfl (.inl rfl)) e_int (pl_var _) (pl_k _) (fun _ _ => rfl))) (e_peek (e_lst (a_cons e_str (pl_k _) (a_cons e_str (pl_k _) (a_cons e_str (pl_k _) (a_cons e_str (pl_k _) (a_cons e_str (pl_k _) a_nil))))))) (pl_P _) (pl_P _) rfl (hp_to _)) (b_one (s_ret e_non)) b_nil)
    (b_cons (s_if (t_w (w_and (t_cmp (o_notIn hu) (e_peek (e_ix ix_get (e_var (i := 0) rfl (.inl rfl)) e_int (pl_var _) (pl_k _) (fun _ _ => rfl))) (e_peek (e_lst (a_cons e_str (pl_k _) (a_cons e_str (pl_k _) a_nil)))) (pl_P _) (pl_P _) rfl (hp_to _)) (w_and1 (t_cmp (o_ne hu) (e_peek (e_callB f_len rfl h.n_len boot_len' (a_cons (e_var (i := 0) rfl (.inl rfl)) (pl_var _) a_nil))) e_int (pl_P _) (pl_k _) (nomark _) hp_ne)))) (b_one (s_ret e_non)) b_nil)
    (b_cons (s_set (i := 2) sc_shape.nd rfl (.inl rfl) (e_lst (a_cons e_int (pl_k _) (a_cons e_int (pl_k _) (a_cons (e_hold (e_op o_add (e_var (i := 1) rfl (.inl rfl)) e_int (pl_var _) (pl_k _))) (pl_E _) a_nil)))) (by decide))
    (b_cons (s_for (passes_of rfl) rfl (i_seq (e_sl sl_P (e_var (i := 0) rfl (.inl rfl)) (pl_var _) (.some e_int (pl_k _)) .none)) (g_name (i := 3) sc_shape.nd rfl (.inl rfl) (by decide)) (b_cons (s_set (i := 4) sc_shape.nd rfl (.inl rfl) (e_f ih hr rfl (takes_of rfl rfl rfl rfl) (a_cons (e_var (i := 3) rfl (.inl rfl)) (pl_var _) (a_cons (e_peek (e_op o_add (e_var (i := 1) rfl (.inl rfl)) e_int (pl_var _) (pl_k _))) (pl_P _) a_nil)) (al_cons (al_cons al_nil))) (by decide))
    (b_cons (s_if (t_cmp o_is (e_var (i := 4) rfl (.inl rfl)) e_non (pl_var _) (pl_k _) (nomark _) (hp_to _)) (b_one (s_ret e_non)) b_nil)
    (b_one (s_set (i := 2) sc_shape.nd rfl (.inl rfl) (e_lst (a_cons (e_hold (e_op o_add (e_peek (e_ix ix_get (e_var (i := 2) rfl (.inl rfl)) e_int (pl_var _) (pl_k _) (fun _ _ => rfl))) (e_peek (e_ix ix_get (e_var (i := 4) rfl (.inl rfl)) e_int (pl_var _) (pl_k _) (fun _ _ => rfl))) (pl_P _) (pl_P _))) (pl_E _) (a_cons (e_hold (e_op o_add (e_peek (e_ix ix_get (e_var (i := 2) rfl (.inl rfl)) e_int (pl_var _) (pl_k _) (fun _ _ => rfl))) (e_peek (e_ix ix_get (e_var (i := 4) rfl (.inl rfl)) e_int (pl_var _) (pl_k _) (fun _ _ => rfl))) (pl_P _) (pl_P _))) (pl_E _) (a_cons (e_hold (e_callB (f_max2 rfl) rfl h.n_max boot_max' (a_cons (e_peek (e_ix ix_get (e_var (i := 2) rfl (.inl rfl)) e_int (pl_var _) (pl_k _) (fun _ _ => rfl))) (pl_P _) (a_cons (e_peek (e_ix ix_get (e_var (i := 4) rfl (.inl rfl)) e_int (pl_var _) (pl_k _) (fun _ _ => rfl))) (pl_P _) a_nil)))) (pl_E _) a_nil)))) (by decide))))))
    (b_one (s_ret (e_var (i := 2) rfl (.inl rfl))))))))))
theorem sc_is_one : FnScope N_is_one ["_law_thing"] (defScope (top 34)) := ⟨rfl, rfl, rfl, by decide +kernel, rfl, by decide +kernel, by decide +kernel⟩
theorem bd_is_one : BindN "_law_is_one" (top 34) ["_law_thing"] := fun _ _ _ _ _ _ us hl => match us, hl with | [_], _ => rfl
theorem ok_is_one (h : Fa K mg base) : Fun1 P w K mg base 27 "_law_is_one" ["_law_thing"] d_is_one := by
  refine def_sv h.f_is_one sc_is_one bd_is_one fun cdv hcd A outer s H E hr => ?_
  have hu := hr.u
  have hgd := hr.gd
  exact (b_cons (s_set (i := 1) sc_is_one.nd rfl (.inl rfl) (e_f (ok_shape h 25) (hr.mono (by decide)) rfl (takes_of rfl rfl rfl rfl) (a_cons (e_var (i := 0) rfl (.inl rfl)) (pl_var _) (a_cons e_int (pl_k _) a_nil)) (al_cons (al_cons al_nil))) (by decide))
    (b_one (s_ret (e_and (e_peek (e_cmp o_isNot (e_var (i := 1) rfl (.inl rfl)) e_non (pl_var _) (pl_k _) (nomark _))) (pl_P _) (e_and (e_peek (e_cmp (o_le hu) (e_peek (e_ix ix_get (e_var (i := 1) rfl (.inl rfl)) e_int (pl_var _) (pl_k _) (fun _ _ => rfl))) e_int (pl_P _) (pl_k _) (nomark _))) (pl_P _) (e_and (e_peek (e_cmp (o_le hu) (e_peek (e_ix ix_get (e_var (i := 1) rfl (.inl rfl)) e_int (pl_var _) (pl_k _) (fun _ _ => rfl))) e_int (pl_P _) (pl_k _) (nomark _))) (pl_P _) (e_one (e_cmp (o_le hu) (e_peek (e_ix ix_get (e_var (i := 1) rfl (.inl rfl)) e_int (pl_var _) (pl_k _) (fun _ _ => rfl))) e_int (pl_P _) (pl_k _) (nomark _)))))))))
theorem sc_is_word : FnScope N_is_word ["value"] (defScope (top 18)) := ⟨rfl, rfl, rfl, by decide +kernel, rfl, by decide +kernel, by decide +kernel⟩
theorem bd_is_word : BindN "is_word" (top 18) ["value"] := fun _ _ _ _ _ _ us hl => match us, hl with | [_], _ => rfl
theorem ok_is_word (h : Fa K mg base) : Fun1 P w K mg base 2 "is_word" ["value"] d_is_word := by
  refine def_sv h.f_is_word sc_is_word bd_is_word fun cdv hcd A outer s H E hr => ?_
  have hu := hr.u
  have hgd := hr.gd
  exact (b_one (s_ret (e_and (e_peek (e_isi isi_tup h.n_isinstance rfl (e_var (i := 0) rfl (.inl rfl)) (pl_var _) rfl h.n_tuple boot_tuple')) (pl_P _) (e_one (e_callB (f_all rfl) rfl h.n_all boot_all' (a_cons (e_peek (e_comp (own := [("name", 1)]) (io := [0]) rfl sc_is_word.nd (i_seq (e_var (i := 0) rfl (.inl rfl))) (blkOk_by (N := N_is_word) (sc := defScope (top 18)) (by decide +kernel)) (fun _ _ _ _ _ => (g_name (i := 1) sc_is_word.nd rfl (.inl rfl) (by decide))) (fun _ _ _ _ _ => ts_nil) (fun _ _ _ _ _ => (e_f (ok_is_name h) (hr.mono (by decide)) rfl (takesF _) (a_cons (e_var (i := 1) rfl (.inl rfl)) (pl_var _) a_nil) (al_cons al_nil))) (hio_by (N := N_is_word) (by decide)) (tame_gN _))) (pl_P _) a_nil))))))
theorem sc_require_expression : FnScope N_require_expression ["expression"] (defScope (top 17)) := ⟨rfl, rfl, rfl, by decide +kernel, rfl, by decide +kernel, by decide +kernel⟩
theorem bd_require_expression : BindN "require_expression" (top 17) ["expression"] := fun _ _ _ _ _ _ us hl => match us, hl with | [_], _ => rfl
theorem ok_require_expression (h : Fa K mg base) : Fun1 P w K mg base 11 "require_expression" ["expression"] d_require_expression := by
  refine def_sv h.f_require_expression sc_require_expression bd_require_expression fun cdv hcd A outer s H E hr => ?_
  have hu := hr.u
  have hgd := hr.gd
  exact (b_one (s_if (t_not (t_val (e_peek (e_f (ok_is_expression h) (hr.mono (by decide)) rfl (takes_of rfl rfl rfl rfl) (a_cons (e_var (i := 0) rfl (.inl rfl)) (pl_var _) a_nil) (al_cons al_nil))) (pl_P _))) (b_one (s_raiseO h.x_InvalidExpression rfl (takes_of rfl rfl rfl rfl) rfl)) b_nil))
theorem sc_written_names : FnScope N_written_names ["expression"] (defScope (top 19)) := ⟨rfl, rfl, rfl, by decide +kernel, rfl, by decide +kernel, by decide +kernel⟩
theorem bd_written_names : BindN "written_names" (top 19) ["expression"] := fun _ _ _ _ _ _ us hl => match us, hl with | [_], _ => rfl
theorem ok_written_names (h : Fa K mg base) : ∀ n : Nat, Fun1 P w K mg base (0 + n) "written_names" ["expression"] (d_written_names n)
  | 0 => fun_no h.f_written_names bd_written_names
  | n + 1 => by
    have ih := ok_written_names h n
    refine def_sv h.f_written_names sc_written_names bd_written_names fun cdv hcd A outer s H E hr => ?_
    have hu := hr.u
    have hgd := hr.gd
    exact (b_cons (s_if (t_val (e_peek (e_isi isi_str h.n_isinstance rfl (e_var (i := 0) rfl (.inl rfl)) (pl_var _) rfl h.n_str boot_str')) (pl_P _)) (b_one (s_ret (e_lst (a_cons (e_hold (e_var (i := 0) rfl (.inl rfl))) (pl_E _) a_nil)))) b_nil)
    (b_one (s_ret (e_comp2 (own := [("part", 1), ("name", 2)]) (vs1 := [2]) (io := [0]) (io1 := [0, 1]) rfl sc_written_names.nd (i_seq (e_sl sl_P (e_var (i := 0) rfl (.inl rfl)) (pl_var _) (.some e_int (pl_k _)) .none)) (blkOk_by (N := N_written_names) (sc := defScope (top 19)) (by decide +kernel)) (by decide) (fun _ _ _ _ _ => (g_name (i := 1) sc_written_names.nd rfl (.inl rfl) (by decide))) (fun _ _ _ _ _ => (i_seq (e_f ih hr rfl (takesF _) (a_cons (e_var (i := 1) rfl (.inl rfl)) (pl_var _) a_nil) (al_cons al_nil)))) (fun _ _ _ _ _ => (g_name (i := 2) sc_written_names.nd rfl (.inl rfl) (by decide))) (fun _ _ _ _ _ => (e_var (i := 2) rfl (.inl rfl))) (hio_by (N := N_written_names) (by decide)) (hio1_by (N := N_written_names) (by decide)) (tame_gN _) (tame_gN _)))))
theorem sc_names_in : FnScope N_names_in ["expression"] (defScope (top 20)) := ⟨rfl, rfl, rfl, by decide +kernel, rfl, by decide +kernel, by decide +kernel⟩
theorem bd_names_in : BindN "names_in" (top 20) ["expression"] := fun _ _ _ _ _ _ us hl => match us, hl with | [_], _ => rfl
theorem ok_names_in (h : Fa K mg base) : Fun1 P w K mg base 12 "names_in" ["expression"] d_names_in := by
  refine def_sv h.f_names_in sc_names_in bd_names_in fun cdv hcd A outer s H E hr => ?_
  have hu := hr.u
  have hgd := hr.gd
  exact (b_cons (s_expr (e_f (ok_require_expression h) (hr.mono (by decide)) rfl (takes_of rfl rfl rfl rfl) (a_cons (e_var (i := 0) rfl (.inl rfl)) (pl_var _) a_nil) (al_cons al_nil)))
    (b_one (s_ret (e_callTy f_tuple rfl h.n_tuple boot_tuple' (a_cons (e_peek (e_sortSet rfl hu rfl h.n_sorted rfl h.n_set (e_peek (e_f (ok_written_names h 10) (hr.mono (by decide)) rfl (takes_of rfl rfl rfl rfl) (a_cons (e_var (i := 0) rfl (.inl rfl)) (pl_var _) a_nil) (al_cons al_nil))) (pl_P _))) (pl_P _) a_nil)))))
theorem sc_text_by : FnScope N_text_by ["expression"] (defScope (top 21)) := ⟨rfl, rfl, rfl, by decide +kernel, rfl, by decide +kernel, by decide +kernel⟩
theorem bd_text_by : BindN "text_by" (top 21) ["expression"] := fun _ _ _ _ _ _ us hl => match us, hl with | [_], _ => rfl
theorem ok_text_by (h : Fa K mg base) : ∀ n : Nat, Fun1 P w K mg base (0 + n) "text_by" ["expression"] (d_text_by n)
  | 0 => fun_no h.f_text_by bd_text_by
  | n + 1 => by
    have ih := ok_text_by h n
    refine def_sv h.f_text_by sc_text_by bd_text_by fun cdv hcd A outer s H E hr => ?_
    have hu := hr.u
    have hgd := hr.gd
    exact (b_cons (s_if (t_val (e_peek (e_isi isi_str h.n_isinstance rfl (e_var (i := 0) rfl (.inl rfl)) (pl_var _) rfl h.n_str boot_str')) (pl_P _)) (b_one (s_ret (e_var (i := 0) rfl (.inl rfl)))) b_nil)
    (b_one (s_ret (e_op o_add (e_peek (e_op o_add e_str (e_peek (e_join (e_peek (e_lst (a_cons (e_hold (e_ix ix_get (e_var (i := 0) rfl (.inl rfl)) e_int (pl_var _) (pl_k _) (fun _ _ => rfl))) (pl_E _) (a_star (e_comp (own := [("part", 1)]) (io := [0]) rfl sc_text_by.nd (i_seq (e_sl sl_P (e_var (i := 0) rfl (.inl rfl)) (pl_var _) (.some e_int (pl_k _)) .none)) (blkOk_by (N := N_text_by) (sc := defScope (top 21)) (by decide +kernel)) (fun _ _ _ _ _ => (g_name (i := 1) sc_text_by.nd rfl (.inl rfl) (by decide))) (fun _ _ _ _ _ => ts_nil) (fun _ _ _ _ _ => (e_f ih hr rfl (takesF _) (a_cons (e_var (i := 1) rfl (.inl rfl)) (pl_var _) a_nil) (al_cons al_nil))) (hio_by (N := N_text_by) (by decide)) (tame_gN _)) a_nil)))) (pl_P _))) (pl_k _) (pl_P _))) e_str (pl_P _) (pl_k _)))))
theorem sc_text_of : FnScope N_text_of ["expression"] (defScope (top 22)) := ⟨rfl, rfl, rfl, by decide +kernel, rfl, by decide +kernel, by decide +kernel⟩
theorem bd_text_of : BindN "text_of" (top 22) ["expression"] := fun _ _ _ _ _ _ us hl => match us, hl with | [_], _ => rfl
theorem ok_text_of (h : Fa K mg base) : Fun1 P w K mg base 12 "text_of" ["expression"] d_text_of := by
  refine def_sv h.f_text_of sc_text_of bd_text_of fun cdv hcd A outer s H E hr => ?_
  have hu := hr.u
  have hgd := hr.gd
  exact (b_cons (s_expr (e_f (ok_require_expression h) (hr.mono (by decide)) rfl (takes_of rfl rfl rfl rfl) (a_cons (e_var (i := 0) rfl (.inl rfl)) (pl_var _) a_nil) (al_cons al_nil)))
    (b_one (s_ret (e_f (ok_text_by h 10) (hr.mono (by decide)) rfl (takes_of rfl rfl rfl rfl) (a_cons (e_var (i := 0) rfl (.inl rfl)) (pl_var _) a_nil) (al_cons al_nil)))))
theorem sc_written : FnScope N_written ["_law_content"] (defScope (top 35)) := ⟨rfl, rfl, rfl, by decide +kernel, rfl, by decide +kernel, by decide +kernel⟩
theorem bd_written : BindN "_law_written" (top 35) ["_law_content"] := fun _ _ _ _ _ _ us hl => match us, hl with | [_], _ => rfl
theorem ok_written (h : Fa K mg base) : ∀ n : Nat, Fun1 P w K mg base (0 + n) "_law_written" ["_law_content"] (d_written n)
  | 0 => fun_no h.f_written bd_written
  | n + 1 => by
    have ih := ok_written h n
    refine def_sv h.f_written sc_written bd_written fun cdv hcd A outer s H E hr => ?_
    have hu := hr.u
    have hgd := hr.gd
    exact (b_cons (s_if (t_val (e_peek (e_isi isi_str h.n_isinstance rfl (e_var (i := 0) rfl (.inl rfl)) (pl_var _) rfl h.n_str boot_str')) (pl_P _)) (b_one (s_ret (e_lst (a_cons (e_hold (e_var (i := 0) rfl (.inl rfl))) (pl_E _) a_nil)))) b_nil)
    (b_cons (s_set (i := 1) sc_written.nd rfl (.inl rfl) (e_lst a_nil) (by decide))
    (b_cons (s_for (passes_of rfl) rfl (i_seq (e_sl sl_P (e_var (i := 0) rfl (.inl rfl)) (pl_var _) (.some e_int (pl_k _)) .none)) (g_name (i := 2) sc_written.nd rfl (.inl rfl) (by decide)) (b_one (s_expr (e_meth PySem.F.slot_list_extend PySem.F.type_list_extend m_extend (e_var (i := 1) rfl (.inl rfl)) (a_cons (e_hold (e_f ih hr rfl (takes_of rfl rfl rfl rfl) (a_cons (e_var (i := 2) rfl (.inl rfl)) (pl_var _) a_nil) (al_cons al_nil))) (pl_E _) a_nil)))))
    (b_one (s_ret (e_var (i := 1) rfl (.inl rfl)))))))
theorem sc_value_right : FnScope N_value_right ["_law_thing"] (defScope (top 41)) := ⟨rfl, rfl, rfl, by decide +kernel, rfl, by decide +kernel, by decide +kernel⟩
theorem bd_value_right : BindN "_law_value_right" (top 41) ["_law_thing"] := fun _ _ _ _ _ _ us hl => match us, hl with | [_], _ => rfl
theorem ok_value_right (h : Fa K mg base) : Fun1 P w K mg base 30 "_law_value_right" ["_law_thing"] d_value_right := by
  refine def_sv h.f_value_right sc_value_right bd_value_right fun cdv hcd A outer s H E hr => ?_
  have ecd := cd_eq hcd
  subst ecd
  have hu := hr.u
  have hgd := hr.gd
  exact (b_cons (s_par2 (i := 1) (j := 2) rfl sc_value_right.nd rfl rfl (by decide) rfl rfl (e_callB (f_reprW hgd hu) rfl h.n_repr boot_repr' (a_cons (e_var (i := 0) rfl (.inr (.inl rfl))) (pl_var _) a_nil)) (e_f (ok_is_one h) (hr.mono (by decide)) rfl (takes_of rfl rfl rfl rfl) (a_cons (e_var (i := 0) rfl (.inr (.inl rfl))) (pl_var _) a_nil) (al_cons al_nil)) (by decide) (by decide) rfl)
    (b_cons (s_if (t_cmp (o_ne hu) (e_peek (e_callB (f_reprW hgd hu) rfl h.n_repr boot_repr' (a_cons (e_peek (e_f (ok_is_expression h) (hr.mono (by decide)) rfl (takes_of rfl rfl rfl rfl) (a_cons (e_var (i := 0) rfl (.inr (.inl rfl))) (pl_var _) a_nil) (al_cons al_nil))) (pl_P _) a_nil))) (e_peek (e_callB (f_reprW hgd hu) rfl h.n_repr boot_repr' (a_cons (e_var (i := 2) rfl (.inl rfl)) (pl_var _) a_nil))) (pl_P _) (pl_P _) (nomark _) hp_ne) (b_one (s_ret e_bl)) b_nil)
    (b_cons (s_if (t_w (w_and (t_val (e_var (i := 2) rfl (.inl rfl)) (pl_var _)) (w_and1 (t_cmp (o_ne hu) (e_peek (e_callB (f_reprW hgd hu) rfl h.n_repr boot_repr' (a_cons (e_peek (e_f (ok_names_in h) (hr.mono (by decide)) rfl (takes_of rfl rfl rfl rfl) (a_cons (e_var (i := 0) rfl (.inr (.inl rfl))) (pl_var _) a_nil) (al_cons al_nil))) (pl_P _) a_nil))) (e_peek (e_callB (f_reprW hgd hu) rfl h.n_repr boot_repr' (a_cons (e_peek (e_callTy f_tuple rfl h.n_tuple boot_tuple' (a_cons (e_peek (e_sortSet rfl hu rfl h.n_sorted rfl h.n_set (e_peek (e_f (ok_written h 10) (hr.mono (by decide)) rfl (takes_of rfl rfl rfl rfl) (a_cons (e_var (i := 0) rfl (.inr (.inl rfl))) (pl_var _) a_nil) (al_cons al_nil))) (pl_P _))) (pl_P _) a_nil))) (pl_P _) a_nil))) (pl_P _) (pl_P _) (nomark _) hp_ne)))) (b_one (s_ret e_bl)) b_nil)
    (b_cons (s_if (t_w (w_and (t_val (e_var (i := 2) rfl (.inl rfl)) (pl_var _)) (w_and1 (t_w (w_or (t_cmp (o_ne hu) (e_peek (e_f (ok_text_of h) (hr.mono (by decide)) rfl (takes_of rfl rfl rfl rfl) (a_cons (e_var (i := 0) rfl (.inr (.inl rfl))) (pl_var _) a_nil) (al_cons al_nil))) (e_peek (e_f (ok_text h 10) (hr.mono (by decide)) rfl (takes_of rfl rfl rfl rfl) (a_cons (e_var (i := 0) rfl (.inr (.inl rfl))) (pl_var _) a_nil) (al_cons al_nil))) (pl_P _) (pl_P _) (nomark _) hp_ne) (w_or1 (t_cmp (o_ne hu) (e_peek (e_f (ok_expression_of h) (hr.mono (by decide)) rfl (takes_of rfl rfl rfl rfl) (a_cons (e_peek (e_f (ok_text h 10) (hr.mono (by decide)) rfl (takes_of rfl rfl rfl rfl) (a_cons (e_var (i := 0) rfl (.inr (.inl rfl))) (pl_var _) a_nil) (al_cons al_nil))) (pl_P _) a_nil) (al_cons al_nil))) (e_var (i := 0) rfl (.inr (.inl rfl))) (pl_P _) (pl_var _) (nomark _) hp_ne))))))) (b_one (s_ret e_bl)) b_nil)
    (b_cons (s_if (t_w (w_and (t_not (t_val (e_var (i := 2) rfl (.inl rfl)) (pl_var _))) (w_and1 (t_cmp (o_ne hu) (e_peek (e_told (k := 12) h.f_told sc_told bd_told it_told rfl (.inl rfl) rfl rfl h.x_ParseError.g h.x_InvalidExpression.g h.c_ParseError h.c_InvalidExpression h.t_value_right rfl rfl (hr.mono (by decide)) rfl (LamX.lamS_by (by kernel_rfl)) rfl (fun _ _ _ _ _ => rfl) (fun A outer s H E f c' hr => by
      have hu := hr.u
      have hgd := hr.gd
      exact (e_hold (e_f (ok_text_of h) (hr.mono (by decide)) rfl (takes_of rfl rfl rfl rfl) (a_cons (e_var (i := 0) rfl (.inr (.inr rfl))) (pl_var _) a_nil) (al_cons al_nil)))))) (e_peek (e_lst (a_cons e_str (pl_k _) a_nil))) (pl_P _) (pl_P _) (nomark _) hp_ne)))) (b_one (s_ret e_bl)) b_nil)
    (b_cons (s_set (i := 3) sc_value_right.nd rfl (.inl rfl) (e_lst (a_cons (e_hold (e_tup (a_cons (e_hold (e_var (i := 0) rfl (.inr (.inl rfl)))) (pl_E _) a_nil))) (pl_E _) (a_cons (e_hold (e_tup (a_cons e_str (pl_k _) (a_cons (e_hold (e_var (i := 0) rfl (.inr (.inl rfl)))) (pl_E _) a_nil)))) (pl_E _) (a_cons (e_hold (e_lst (a_cons (e_hold (e_var (i := 0) rfl (.inr (.inl rfl)))) (pl_E _) a_nil))) (pl_E _) (a_cons (e_hold (e_tup (a_cons e_str (pl_k _) (a_cons e_str (pl_k _) a_nil)))) (pl_E _) (a_cons (e_hold (e_tup (a_cons e_str (pl_k _) (a_cons e_str (pl_k _) a_nil)))) (pl_E _) (a_cons (e_hold (e_tup a_nil)) (pl_E _) a_nil))))))) (by decide))
    (b_cons (s_setLc (i := 4) (own := [("_law_word", 5)]) (io' := [0, 1, 2, 3, 4]) rfl sc_value_right.nd rfl rfl (sw_true rfl rfl rfl (by decide +kernel)) (i_seq (e_var (i := 3) rfl (.inl rfl))) (blkOk_by (N := N_value_right) (sc := defScope (top 41)) (by decide +kernel)) (fun _ _ _ _ _ => (g_name (i := 5) sc_value_right.nd rfl (.inl rfl) (by decide))) (fun _ _ _ _ _ => ts_nil) (fun _ _ _ _ _ => (e_f (ok_is_word h) (hr.mono (by decide)) rfl (takesF _) (a_cons (e_var (i := 5) rfl (.inl rfl)) (pl_var _) a_nil) (al_cons al_nil))) (hio_by (N := N_value_right) (by decide)) (tame_gN _) (by decide))
    (b_one (s_ret (e_and (e_peek (e_cmp (o_eq hu) (e_var (i := 4) rfl (.inl rfl)) (e_peek (e_lst (a_cons (e_hold (e_f (ok_l_is_name h) (hr.mono (by decide)) rfl (takes_of rfl rfl rfl rfl) (a_cons (e_var (i := 0) rfl (.inr (.inl rfl))) (pl_var _) a_nil) (al_cons al_nil))) (pl_E _) (a_cons (e_hold (e_f (ok_l_is_name h) (hr.mono (by decide)) rfl (takes_of rfl rfl rfl rfl) (a_cons (e_var (i := 0) rfl (.inr (.inl rfl))) (pl_var _) a_nil) (al_cons al_nil))) (pl_E _) (a_cons e_bl (pl_k _) (a_cons e_bl (pl_k _) (a_cons e_bl (pl_k _) (a_cons e_bl (pl_k _) a_nil)))))))) (pl_var _) (pl_P _) (nomark _))) (pl_P _) (e_one (e_cmp (o_eq hu) (e_peek (e_callB (f_reprW hgd hu) rfl h.n_repr boot_repr' (a_cons (e_var (i := 0) rfl (.inr (.inl rfl))) (pl_var _) a_nil))) (e_var (i := 1) rfl (.inl rfl)) (pl_P _) (pl_var _) (nomark _)))))))))))))
theorem sc_read : FnScope N_read ["_law_text_here", "_law_at", "_law_level"] (defScope (top 39)) := ⟨rfl, rfl, rfl, by decide +kernel, rfl, by decide +kernel, by decide +kernel⟩
theorem bd_read : BindN "_law_read" (top 39) ["_law_text_here", "_law_at", "_law_level"] := fun _ _ _ _ _ _ us hl => match us, hl with | [_, _, _], _ => rfl
theorem ok_read (h : Fa K mg base) : ∀ n : Nat, Fun1 P w K mg base (0 + n) "_law_read" ["_law_text_here", "_law_at", "_law_level"] (d_read n)
  | 0 => fun_no h.f_read bd_read
  | n + 1 => by
    have ih := ok_read h n
    refine def_sv h.f_read sc_read bd_read fun cdv hcd A outer s H E hr => ?_
    have hu := hr.u
    have hgd := hr.gd
    exact (b_cons (s_set (i := 3) sc_read.nd rfl (.inl rfl) e_str (by decide))
    (b_cons (s_set (i := 4) sc_read.nd rfl (.inl rfl) (e_cmp (o_eq hu) (e_peek (e_sl sl_P (e_var (i := 0) rfl (.inl rfl)) (pl_var _) (.some (e_var (i := 1) rfl (.inl rfl)) (pl_var _)) (.some (e_peek (e_op o_add (e_var (i := 1) rfl (.inl rfl)) e_int (pl_var _) (pl_k _))) (pl_P _)))) e_str (pl_P _) (pl_k _) (nomark _)) (by decide))
    (b_cons (s_set (i := 5) sc_read.nd rfl (.inl rfl) (e_op o_add (e_var (i := 1) rfl (.inl rfl)) (e_peek (e_callTy f_int rfl h.n_int boot_int' (a_cons (e_var (i := 4) rfl (.inl rfl)) (pl_var _) a_nil))) (pl_var _) (pl_P _)) (by decide))
    (b_cons (s_while 100000 (passes_of rfl) (t_w (w_and (t_cmp (o_lt hu) (e_var (i := 5) rfl (.inl rfl)) (e_peek (e_callB f_len rfl h.n_len boot_len' (a_cons (e_var (i := 0) rfl (.inl rfl)) (pl_var _) a_nil))) (pl_var _) (pl_P _) (nomark _) (hp_to _)) (w_and1 (t_cmp (o_in hu) (e_peek (e_ix ix_get (e_var (i := 0) rfl (.inl rfl)) (e_var (i := 5) rfl (.inl rfl)) (pl_var _) (pl_var _) (fun _ _ => rfl))) (e_var (i := 3) rfl (.inl rfl)) (pl_P _) (pl_var _) rfl (hp_to _))))) (b_one (s_set (i := 5) sc_read.nd rfl (.inl rfl) (e_op o_add (e_var (i := 5) rfl (.inl rfl)) e_int (pl_var _) (pl_k _)) (by decide))))
    (b_cons (s_par2 (i := 6) (j := 7) rfl sc_read.nd rfl rfl (by decide) rfl rfl (e_sl sl_P (e_var (i := 0) rfl (.inl rfl)) (pl_var _) (.some (e_peek (e_op o_add (e_var (i := 1) rfl (.inl rfl)) (e_peek (e_callTy f_int rfl h.n_int boot_int' (a_cons (e_var (i := 4) rfl (.inl rfl)) (pl_var _) a_nil))) (pl_var _) (pl_P _))) (pl_P _)) (.some (e_var (i := 5) rfl (.inl rfl)) (pl_var _))) (e_lst a_nil) (by decide) (by decide) rfl)
    (b_cons (s_if (t_w (w_or (t_not (t_val (e_var (i := 4) rfl (.inl rfl)) (pl_var _))) (w_or1 (t_cmp (o_gt hu) (e_var (i := 2) rfl (.inl rfl)) e_int (pl_var _) (pl_k _) (nomark _) (hp_to _))))) (b_one (s_ret (e_if (t_val (e_var (i := 4) rfl (.inl rfl)) (pl_var _)) e_non (e_tup (a_cons (e_hold (e_var (i := 6) rfl (.inl rfl))) (pl_E _) (a_cons (e_hold (e_var (i := 5) rfl (.inl rfl))) (pl_E _) a_nil)))))) b_nil)
    (b_cons (s_while 100000 (passes_of rfl) (t_cmp (o_eq hu) (e_peek (e_sl sl_P (e_var (i := 0) rfl (.inl rfl)) (pl_var _) (.some (e_var (i := 5) rfl (.inl rfl)) (pl_var _)) (.some (e_peek (e_op o_add (e_var (i := 5) rfl (.inl rfl)) e_int (pl_var _) (pl_k _))) (pl_P _)))) e_str (pl_P _) (pl_k _) (nomark _) hp_eq) (b_cons (s_set (i := 8) sc_read.nd rfl (.inl rfl) (e_f ih hr rfl (takes_of rfl rfl rfl rfl) (a_cons (e_var (i := 0) rfl (.inl rfl)) (pl_var _) (a_cons (e_peek (e_op o_add (e_var (i := 5) rfl (.inl rfl)) e_int (pl_var _) (pl_k _))) (pl_P _) (a_cons (e_peek (e_op o_add (e_var (i := 2) rfl (.inl rfl)) e_int (pl_var _) (pl_k _))) (pl_P _) a_nil))) (al_cons (al_cons (al_cons al_nil)))) (by decide))
    (b_cons (s_if (t_cmp o_is (e_var (i := 8) rfl (.inl rfl)) e_non (pl_var _) (pl_k _) (nomark _) (hp_to _)) (b_one (s_ret e_non)) b_nil)
    (b_cons (s_expr (e_meth PySem.F.slot_list_append PySem.F.type_list_append m_append (e_var (i := 7) rfl (.inl rfl)) (a_cons (e_hold (e_ix ix_get (e_var (i := 8) rfl (.inl rfl)) e_int (pl_var _) (pl_k _) (fun _ _ => rfl))) (pl_E _) a_nil)))
    (b_one (s_set (i := 5) sc_read.nd rfl (.inl rfl) (e_ix ix_get (e_var (i := 8) rfl (.inl rfl)) e_int (pl_var _) (pl_k _) (fun _ _ => rfl)) (by decide)))))))
    (b_one (s_ret (e_if (t_cmp (o_eq hu) (e_peek (e_sl sl_P (e_var (i := 0) rfl (.inl rfl)) (pl_var _) (.some (e_var (i := 5) rfl (.inl rfl)) (pl_var _)) (.some (e_peek (e_op o_add (e_var (i := 5) rfl (.inl rfl)) e_int (pl_var _) (pl_k _))) (pl_P _)))) e_str (pl_P _) (pl_k _) (nomark _) hp_eq) (e_tup (a_cons (e_hold (e_op o_add (e_peek (e_tup (a_cons (e_hold (e_var (i := 6) rfl (.inl rfl))) (pl_E _) a_nil))) (e_peek (e_callTy f_tuple rfl h.n_tuple boot_tuple' (a_cons (e_var (i := 7) rfl (.inl rfl)) (pl_var _) a_nil))) (pl_P _) (pl_P _))) (pl_E _) (a_cons (e_hold (e_op o_add (e_var (i := 5) rfl (.inl rfl)) e_int (pl_var _) (pl_k _))) (pl_E _) a_nil))) e_non))))))))))
theorem sc_text_right : FnScope N_text_right ["_law_text_here"] (defScope (top 40)) := ⟨rfl, rfl, rfl, by decide +kernel, rfl, by decide +kernel, by decide +kernel⟩
theorem bd_text_right : BindN "_law_text_right" (top 40) ["_law_text_here"] := fun _ _ _ _ _ _ us hl => match us, hl with | [_], _ => rfl
theorem ok_text_right (h : Fa K mg base) : Fun1 P w K mg base 30 "_law_text_right" ["_law_text_here"] d_text_right := by
  refine def_sv h.f_text_right sc_text_right bd_text_right fun cdv hcd A outer s H E hr => ?_
  have ecd := cd_eq hcd
  subst ecd
  have hu := hr.u
  have hgd := hr.gd
  exact (b_cons (s_set (i := 1) sc_text_right.nd rfl (.inl rfl) (e_f (ok_read h 25) (hr.mono (by decide)) rfl (takes_of rfl rfl rfl rfl) (a_cons (e_var (i := 0) rfl (.inr (.inl rfl))) (pl_var _) (a_cons e_int (pl_k _) (a_cons e_int (pl_k _) a_nil))) (al_cons (al_cons (al_cons al_nil)))) (by decide))
    (b_cons (s_set (i := 2) sc_text_right.nd rfl (.inl rfl) (e_lst (a_cons e_str (pl_k _) a_nil)) (by decide))
    (b_cons (s_if (t_w (w_and (t_cmp o_isNot (e_var (i := 1) rfl (.inl rfl)) e_non (pl_var _) (pl_k _) (nomark _) (hp_to _)) (w_and (t_cmp (o_eq hu) (e_peek (e_ix ix_get (e_var (i := 1) rfl (.inl rfl)) e_int (pl_var _) (pl_k _) (fun _ _ => rfl))) (e_peek (e_callB f_len rfl h.n_len boot_len' (a_cons (e_var (i := 0) rfl (.inr (.inl rfl))) (pl_var _) a_nil))) (pl_P _) (pl_P _) (nomark _) hp_eq) (w_and1 (t_val (e_peek (e_f (ok_is_one h) (hr.mono (by decide)) rfl (takes_of rfl rfl rfl rfl) (a_cons (e_peek (e_ix ix_get (e_var (i := 1) rfl (.inl rfl)) e_int (pl_var _) (pl_k _) (fun _ _ => rfl))) (pl_P _) a_nil) (al_cons al_nil))) (pl_P _)))))) (b_one (s_set (i := 2) sc_text_right.nd rfl (.inl rfl) (e_lst (a_cons e_str (pl_k _) (a_cons (e_hold (e_ix ix_get (e_var (i := 1) rfl (.inl rfl)) e_int (pl_var _) (pl_k _) (fun _ _ => rfl))) (pl_E _) a_nil))) (by decide))) b_nil)
    (b_one (s_ret (e_cmp (o_eq hu) (e_peek (e_callB (f_reprW hgd hu) rfl h.n_repr boot_repr' (a_cons (e_peek (e_told (k := 11) h.f_told sc_told bd_told it_told rfl (.inl rfl) rfl rfl h.x_ParseError.g h.x_InvalidExpression.g h.c_ParseError h.c_InvalidExpression h.t_text_right rfl rfl (hr.mono (by decide)) rfl (LamX.lamS_by (by kernel_rfl)) rfl (fun _ _ _ _ _ => rfl) (fun A outer s H E f c' hr => by
      have hu := hr.u
      have hgd := hr.gd
      exact (e_hold (e_f (ok_expression_of h) (hr.mono (by decide)) rfl (takes_of rfl rfl rfl rfl) (a_cons (e_var (i := 0) rfl (.inr (.inr rfl))) (pl_var _) a_nil) (al_cons al_nil)))))) (pl_P _) a_nil))) (e_peek (e_callB (f_reprW hgd hu) rfl h.n_repr boot_repr' (a_cons (e_var (i := 2) rfl (.inl rfl)) (pl_var _) a_nil))) (pl_P _) (pl_P _) (nomark _)))))))
theorem sc_bent : FnScope N_bent ["_law_tap_here", "_law_content"] (defScope (top 37)) := ⟨rfl, rfl, rfl, by decide +kernel, rfl, by decide +kernel, by decide +kernel⟩
theorem bd_bent : BindN "_law_bent" (top 37) ["_law_tap_here", "_law_content"] := fun _ _ _ _ _ _ us hl => match us, hl with | [_, _], _ => rfl
theorem ok_bent (h : Fa K mg base) : Fun1 P w K mg base 3 "_law_bent" ["_law_tap_here", "_law_content"] d_bent := by
  refine def_sv h.f_bent sc_bent bd_bent fun cdv hcd A outer s H E hr => ?_
  have hu := hr.u
  have hgd := hr.gd
  exact (b_cons (s_set (i := 2) sc_bent.nd rfl (.inl rfl) (e_f (ok_pick h) (hr.mono (by decide)) rfl (takes_of rfl rfl rfl rfl) (a_cons (e_var (i := 0) rfl (.inl rfl)) (pl_var _) (a_cons (e_peek (e_lst (a_cons e_non (pl_k _) (a_cons e_int (pl_k _) (a_cons e_bl (pl_k _) (a_cons e_str (pl_k _) (a_cons e_str (pl_k _) (a_cons e_str (pl_k _) (a_cons e_str (pl_k _) (a_cons (e_hold (e_lst a_nil)) (pl_E _) (a_cons (e_hold e_dict0) (pl_E _) (a_cons (e_hold (e_tup a_nil)) (pl_E _) (a_cons (e_hold (e_tup (a_cons e_str (pl_k _) (a_cons e_int (pl_k _) a_nil)))) (pl_E _) (a_cons (e_hold (e_tup (a_cons e_str (pl_k _) (a_cons e_str (pl_k _) a_nil)))) (pl_E _) (a_cons e_str (pl_k _) (a_cons (e_hold (e_tup (a_cons (e_hold (e_tup a_nil)) (pl_E _) a_nil))) (pl_E _) a_nil)))))))))))))))) (pl_P _) a_nil)) (al_cons (al_cons al_nil))) (by decide))
    (b_cons (s_set (i := 3) sc_bent.nd rfl (.inl rfl) (e_f (ok_turn h) (hr.mono (by decide)) rfl (takes_of rfl rfl rfl rfl) (a_cons (e_var (i := 0) rfl (.inl rfl)) (pl_var _) (a_cons e_int (pl_k _) a_nil)) (al_cons (al_cons al_nil))) (by decide))
    (b_cons (s_if (t_cmp (o_eq hu) (e_var (i := 3) rfl (.inl rfl)) e_int (pl_var _) (pl_k _) (nomark _) hp_eq) (b_one (s_ret (e_var (i := 2) rfl (.inl rfl)))) b_nil)
    (b_cons (s_if (t_cmp (o_eq hu) (e_var (i := 3) rfl (.inl rfl)) e_int (pl_var _) (pl_k _) (nomark _) hp_eq) (b_one (s_ret (e_tup (a_cons e_str (pl_k _) (a_cons (e_hold (e_var (i := 1) rfl (.inl rfl))) (pl_E _) (a_cons (e_hold (e_var (i := 2) rfl (.inl rfl))) (pl_E _) a_nil)))))) b_nil)
    (b_cons (s_if (t_cmp (o_eq hu) (e_var (i := 3) rfl (.inl rfl)) e_int (pl_var _) (pl_k _) (nomark _) hp_eq) (b_one (s_ret (e_op o_add (e_peek (e_tup (a_cons e_str (pl_k _) a_nil))) (e_peek (e_op o_mulQ (e_peek (e_tup (a_cons (e_hold (e_var (i := 1) rfl (.inl rfl))) (pl_E _) a_nil))) (e_peek (e_op o_add e_int (e_peek (e_f (ok_turn h) (hr.mono (by decide)) rfl (takes_of rfl rfl rfl rfl) (a_cons (e_var (i := 0) rfl (.inl rfl)) (pl_var _) (a_cons e_int (pl_k _) a_nil)) (al_cons (al_cons al_nil)))) (pl_k _) (pl_P _))) (pl_P _) (pl_P _))) (pl_P _) (pl_P _)))) b_nil)
    (b_cons (s_if (t_cmp (o_eq hu) (e_var (i := 3) rfl (.inl rfl)) e_int (pl_var _) (pl_k _) (nomark _) hp_eq) (b_cons (s_for (passes_of rfl) rfl (i_range1 rfl h.n_range (e_peek (e_f (ok_turn h) (hr.mono (by decide)) rfl (takes_of rfl rfl rfl rfl) (a_cons (e_var (i := 0) rfl (.inl rfl)) (pl_var _) (a_cons e_int (pl_k _) a_nil)) (al_cons (al_cons al_nil)))) (pl_P _)) (g_name (i := 4) sc_bent.nd rfl (.inl rfl) (by decide)) (b_one (s_set (i := 1) sc_bent.nd rfl (.inl rfl) (e_tup (a_cons (e_hold (e_f (ok_pick h) (hr.mono (by decide)) rfl (takes_of rfl rfl rfl rfl) (a_cons (e_var (i := 0) rfl (.inl rfl)) (pl_var _) (a_cons (e_peek (e_lst (a_cons e_str (pl_k _) (a_cons e_str (pl_k _) (a_cons e_str (pl_k _) (a_cons e_str (pl_k _) (a_cons e_str (pl_k _) a_nil))))))) (pl_P _) a_nil)) (al_cons (al_cons al_nil)))) (pl_E _) (a_cons (e_hold (e_var (i := 1) rfl (.inl rfl))) (pl_E _) a_nil))) (by decide))))
    (b_one (s_ret (e_var (i := 1) rfl (.inl rfl))))) b_nil)
    (b_cons (s_if (t_cmp (o_eq hu) (e_var (i := 3) rfl (.inl rfl)) e_int (pl_var _) (pl_k _) (nomark _) hp_eq) (b_one (s_ret (e_op o_add (e_peek (e_tup (a_cons (e_hold (e_f (ok_pick h) (hr.mono (by decide)) rfl (takes_of rfl rfl rfl rfl) (a_cons (e_var (i := 0) rfl (.inl rfl)) (pl_var _) (a_cons (e_peek (e_lst (a_cons e_str (pl_k _) (a_cons e_str (pl_k _) (a_cons e_str (pl_k _) (a_cons e_str (pl_k _) (a_cons e_str (pl_k _) (a_cons e_str (pl_k _) a_nil)))))))) (pl_P _) a_nil)) (al_cons (al_cons al_nil)))) (pl_E _) a_nil))) (e_peek (e_op o_mulQ (e_peek (e_tup (a_cons (e_hold (e_var (i := 1) rfl (.inl rfl))) (pl_E _) a_nil))) (e_peek (e_f (ok_turn h) (hr.mono (by decide)) rfl (takes_of rfl rfl rfl rfl) (a_cons (e_var (i := 0) rfl (.inl rfl)) (pl_var _) (a_cons e_int (pl_k _) a_nil)) (al_cons (al_cons al_nil)))) (pl_P _) (pl_P _))) (pl_P _) (pl_P _)))) b_nil)
    (b_cons (s_if (t_cmp (o_eq hu) (e_var (i := 3) rfl (.inl rfl)) e_int (pl_var _) (pl_k _) (nomark _) hp_eq) (b_one (s_ret (e_lst (a_cons e_str (pl_k _) (a_cons (e_hold (e_var (i := 1) rfl (.inl rfl))) (pl_E _) a_nil))))) b_nil)
    (b_cons (s_if (t_cmp (o_eq hu) (e_var (i := 3) rfl (.inl rfl)) e_int (pl_var _) (pl_k _) (nomark _) hp_eq) (b_one (s_ret (e_op o_add (e_peek (e_tup (a_cons e_str (pl_k _) (a_cons (e_hold (e_var (i := 1) rfl (.inl rfl))) (pl_E _) a_nil)))) (e_peek (e_op o_mulQ (e_peek (e_tup (a_cons (e_hold (e_tup (a_cons e_str (pl_k _) a_nil))) (pl_E _) a_nil))) (e_peek (e_op o_add e_int (e_peek (e_f (ok_turn h) (hr.mono (by decide)) rfl (takes_of rfl rfl rfl rfl) (a_cons (e_var (i := 0) rfl (.inl rfl)) (pl_var _) (a_cons e_int (pl_k _) a_nil)) (al_cons (al_cons al_nil)))) (pl_k _) (pl_P _))) (pl_P _) (pl_P _))) (pl_P _) (pl_P _)))) b_nil)
    (b_cons (s_if (t_w (w_and (t_cmp (o_eq hu) (e_var (i := 3) rfl (.inl rfl)) e_int (pl_var _) (pl_k _) (nomark _) hp_eq) (w_and1 (t_val (e_peek (e_isi isi_tup h.n_isinstance rfl (e_var (i := 1) rfl (.inl rfl)) (pl_var _) rfl h.n_tuple boot_tuple')) (pl_P _))))) (b_one (s_ret (e_op o_add (e_peek (e_tup (a_cons (e_hold (e_ix ix_get (e_var (i := 1) rfl (.inl rfl)) e_int (pl_var _) (pl_k _) (fun _ _ => rfl))) (pl_E _) a_nil))) (e_peek (e_sl sl_P (e_var (i := 1) rfl (.inl rfl)) (pl_var _) (.some e_int (pl_k _)) .none)) (pl_P _) (pl_P _)))) b_nil)
    (b_one (s_ret (e_tup (a_cons e_str (pl_k _) (a_cons (e_hold (e_var (i := 1) rfl (.inl rfl))) (pl_E _) (a_cons (e_hold (e_op o_add (e_peek (e_tup (a_cons e_str (pl_k _) a_nil))) (e_peek (e_op o_mulQ (e_peek (e_tup (a_cons e_str (pl_k _) a_nil))) (e_peek (e_f (ok_turn h) (hr.mono (by decide)) rfl (takes_of rfl rfl rfl rfl) (a_cons (e_var (i := 0) rfl (.inl rfl)) (pl_var _) (a_cons e_int (pl_k _) a_nil)) (al_cons (al_cons al_nil)))) (pl_P _) (pl_P _))) (pl_P _) (pl_P _))) (pl_E _) a_nil))))))))))))))))
theorem sc_law : FnScope N_law ["_law_script"] (defScope (top 42)) := ⟨rfl, rfl, rfl, by decide +kernel, rfl, by decide +kernel, by decide +kernel⟩
theorem bd_law : BindN "law" (top 42) ["_law_script"] := fun _ _ _ _ _ _ us hl => match us, hl with | [_], _ => rfl
theorem bj_law (h : Fa K mg base) : BodyJ P w K mg base 32 "law" N_law (top 42) [0] c_law := by
  intro cdv hcd A outer s H E hr
  have ecd := cd_eq hcd
  subst ecd
  have hu := hr.u
  have hgd := hr.gd
  exact (b_cons (s_for (passes_of rfl) rfl (i_range1 rfl h.n_range (e_peek (e_callB (f_max2 rfl) rfl h.n_max boot_max' (a_cons e_int (pl_k _) (a_cons (e_peek (e_callB (f_min2 rfl) rfl h.n_min boot_min' (a_cons e_int (pl_k _) (a_cons (e_peek (e_callB f_len rfl h.n_len boot_len' (a_cons (e_var (i := 0) rfl (.inl rfl)) (pl_var _) a_nil))) (pl_P _) a_nil)))) (pl_P _) a_nil)))) (pl_P _)) (g_name (i := 1) sc_law.nd rfl (.inl rfl) (by decide)) (b_cons (s_set (i := 2) sc_law.nd rfl (.inl rfl) (e_f (ok_tap h) (hr.mono (by decide)) rfl (takes_of rfl rfl rfl rfl) (a_cons (e_var (i := 0) rfl (.inl rfl)) (pl_var _) (a_cons (e_var (i := 1) rfl (.inl rfl)) (pl_var _) a_nil)) (al_cons (al_cons al_nil))) (by decide))
    (b_one (s_for (passes_of rfl) rfl (i_range1 rfl h.n_range e_int (pl_k _)) (g_name (i := 3) sc_law.nd rfl (.inl rfl) (by decide)) (b_cons (s_set (i := 4) sc_law.nd rfl (.inl rfl) (e_f (ok_names h) (hr.mono (by decide)) rfl (takes_of rfl rfl rfl rfl) (a_cons (e_var (i := 2) rfl (.inl rfl)) (pl_var _) (a_cons (e_peek (e_op o_add e_int (e_peek (e_f (ok_turn h) (hr.mono (by decide)) rfl (takes_of rfl rfl rfl rfl) (a_cons (e_var (i := 2) rfl (.inl rfl)) (pl_var _) (a_cons e_int (pl_k _) a_nil)) (al_cons (al_cons al_nil)))) (pl_k _) (pl_P _))) (pl_P _) a_nil)) (al_cons (al_cons al_nil))) (by decide))
    (b_cons (s_set (i := 5) sc_law.nd rfl (.inl rfl) (e_f (ok_expression h 10) (hr.mono (by decide)) rfl (takes_of rfl rfl rfl rfl) (a_cons (e_var (i := 2) rfl (.inl rfl)) (pl_var _) (a_cons (e_var (i := 4) rfl (.inl rfl)) (pl_var _) (a_cons (e_peek (e_op o_add e_int (e_peek (e_f (ok_turn h) (hr.mono (by decide)) rfl (takes_of rfl rfl rfl rfl) (a_cons (e_var (i := 2) rfl (.inl rfl)) (pl_var _) (a_cons e_int (pl_k _) a_nil)) (al_cons (al_cons al_nil)))) (pl_k _) (pl_P _))) (pl_P _) (a_cons (e_peek (e_f (ok_turn h) (hr.mono (by decide)) rfl (takes_of rfl rfl rfl rfl) (a_cons (e_var (i := 2) rfl (.inl rfl)) (pl_var _) (a_cons e_int (pl_k _) a_nil)) (al_cons (al_cons al_nil)))) (pl_P _) a_nil)))) (al_cons (al_cons (al_cons (al_cons al_nil))))) (by decide))
    (b_cons (s_if (t_w (w_or (t_not (t_val (e_peek (e_f (ok_value_right h) (hr.mono (by decide)) rfl (takes_of rfl rfl rfl rfl) (a_cons (e_var (i := 5) rfl (.inl rfl)) (pl_var _) a_nil) (al_cons al_nil))) (pl_P _))) (w_or1 (t_not (t_val (e_peek (e_f (ok_value_right h) (hr.mono (by decide)) rfl (takes_of rfl rfl rfl rfl) (a_cons (e_peek (e_f (ok_bent h) (hr.mono (by decide)) rfl (takes_of rfl rfl rfl rfl) (a_cons (e_var (i := 2) rfl (.inl rfl)) (pl_var _) (a_cons (e_var (i := 5) rfl (.inl rfl)) (pl_var _) a_nil)) (al_cons (al_cons al_nil)))) (pl_P _) a_nil) (al_cons al_nil))) (pl_P _)))))) (b_one (s_ret e_bl)) b_nil)
    (b_cons (s_set (i := 6) sc_law.nd rfl (.inl rfl) (e_f (ok_text h 10) (hr.mono (by decide)) rfl (takes_of rfl rfl rfl rfl) (a_cons (e_var (i := 5) rfl (.inl rfl)) (pl_var _) a_nil) (al_cons al_nil)) (by decide))
    (b_cons (s_par2 (i := 7) (j := 8) rfl sc_law.nd rfl rfl (by decide) rfl rfl (e_f (ok_turn h) (hr.mono (by decide)) rfl (takes_of rfl rfl rfl rfl) (a_cons (e_var (i := 2) rfl (.inl rfl)) (pl_var _) (a_cons (e_peek (e_op o_add (e_peek (e_callB f_len rfl h.n_len boot_len' (a_cons (e_var (i := 6) rfl (.inl rfl)) (pl_var _) a_nil))) e_int (pl_P _) (pl_k _))) (pl_P _) a_nil)) (al_cons (al_cons al_nil))) (e_f (ok_pick h) (hr.mono (by decide)) rfl (takes_of rfl rfl rfl rfl) (a_cons (e_var (i := 2) rfl (.inl rfl)) (pl_var _) (a_cons (e_peek (e_lst (a_cons e_str (pl_k _) (a_cons e_str (pl_k _) (a_cons e_str (pl_k _) (a_cons e_str (pl_k _) (a_cons e_str (pl_k _) (a_cons e_str (pl_k _) (a_cons e_str (pl_k _) (a_cons e_str (pl_k _) a_nil)))))))))) (pl_P _) a_nil)) (al_cons (al_cons al_nil))) (by decide) (by decide) rfl)
    (b_cons (s_set (i := 9) sc_law.nd rfl (.inl rfl) (e_op o_add (e_peek (e_op o_add (e_peek (e_sl sl_P (e_var (i := 6) rfl (.inl rfl)) (pl_var _) .none (.some (e_var (i := 7) rfl (.inl rfl)) (pl_var _)))) (e_var (i := 8) rfl (.inl rfl)) (pl_P _) (pl_var _))) (e_peek (e_sl sl_P (e_var (i := 6) rfl (.inl rfl)) (pl_var _) (.some (e_peek (e_op o_add (e_var (i := 7) rfl (.inl rfl)) (e_peek (e_f (ok_turn h) (hr.mono (by decide)) rfl (takes_of rfl rfl rfl rfl) (a_cons (e_var (i := 2) rfl (.inl rfl)) (pl_var _) (a_cons e_int (pl_k _) a_nil)) (al_cons (al_cons al_nil)))) (pl_var _) (pl_P _))) (pl_P _)) .none)) (pl_P _) (pl_P _)) (by decide))
    (b_one (s_if (t_w (w_or (t_not (t_val (e_peek (e_f (ok_text_right h) (hr.mono (by decide)) rfl (takes_of rfl rfl rfl rfl) (a_cons (e_var (i := 6) rfl (.inl rfl)) (pl_var _) a_nil) (al_cons al_nil))) (pl_P _))) (w_or (t_not (t_val (e_peek (e_f (ok_text_right h) (hr.mono (by decide)) rfl (takes_of rfl rfl rfl rfl) (a_cons (e_var (i := 9) rfl (.inl rfl)) (pl_var _) a_nil) (al_cons al_nil))) (pl_P _))) (w_or1 (t_not (t_val (e_peek (e_f (ok_text_right h) (hr.mono (by decide)) rfl (takes_of rfl rfl rfl rfl) (a_cons (e_peek (e_op o_add (e_var (i := 9) rfl (.inl rfl)) (e_var (i := 8) rfl (.inl rfl)) (pl_var _) (pl_var _))) (pl_P _) a_nil) (al_cons al_nil))) (pl_P _))))))) (b_one (s_ret e_bl)) b_nil))))))))))))
    (b_cons (s_set (i := 10) sc_law.nd rfl (.inl rfl) e_str (by decide))
    (b_cons (s_for (passes_of rfl) rfl (i_range1 rfl h.n_range e_int (pl_k _)) (g_name (i := 7) sc_law.nd rfl (.inl rfl) (by decide)) (b_one (s_set (i := 10) sc_law.nd rfl (.inl rfl) (e_tup (a_cons e_str (pl_k _) (a_cons (e_hold (e_var (i := 10) rfl (.inl rfl))) (pl_E _) (a_cons (e_hold (e_var (i := 10) rfl (.inl rfl))) (pl_E _) (a_cons (e_hold (e_var (i := 10) rfl (.inl rfl))) (pl_E _) (a_cons (e_hold (e_var (i := 10) rfl (.inl rfl))) (pl_E _) a_nil)))))) (by decide))))
    (b_cons (s_if (t_cmp o_isNot (e_peek (e_f (ok_is_expression h) (hr.mono (by decide)) rfl (takes_of rfl rfl rfl rfl) (a_cons (e_var (i := 10) rfl (.inl rfl)) (pl_var _) a_nil) (al_cons al_nil))) e_bl (pl_P _) (pl_k _) (nomark _) (hp_to _)) (b_one (s_ret e_bl)) b_nil)
    (b_cons (s_set (i := 11) sc_law.nd rfl (.inl rfl) (e_lst (a_cons e_non (pl_k _) (a_cons e_int (pl_k _) (a_cons (e_hold (e_tup (a_cons e_str (pl_k _) a_nil))) (pl_E _) (a_cons (e_hold (e_lst (a_cons e_str (pl_k _) a_nil))) (pl_E _) (a_cons e_str (pl_k _) (a_cons e_str (pl_k _) (a_cons e_str (pl_k _) (a_cons e_str (pl_k _) (a_cons e_str (pl_k _) (a_cons e_str (pl_k _) (a_cons e_str (pl_k _) (a_cons e_str (pl_k _) (a_cons e_str (pl_k _) a_nil)))))))))))))) (by decide))
    (b_cons (s_set (i := 11) sc_law.nd rfl (.inl rfl) (e_op o_add (e_var (i := 11) rfl (.inl rfl)) (e_peek (e_lst (a_cons (e_hold (e_op o_mulQ e_str e_int (pl_k _) (pl_k _))) (pl_E _) (a_cons (e_hold (e_op o_add (e_peek (e_op o_add (e_peek (e_op o_mulQ e_str e_int (pl_k _) (pl_k _))) e_str (pl_P _) (pl_k _))) (e_peek (e_op o_mulQ e_str e_int (pl_k _) (pl_k _))) (pl_P _) (pl_P _))) (pl_E _) (a_cons (e_hold (e_op o_add (e_peek (e_op o_add e_str (e_peek (e_op o_mulQ e_str e_int (pl_k _) (pl_k _))) (pl_k _) (pl_P _))) e_str (pl_P _) (pl_k _))) (pl_E _) (a_cons (e_hold (e_op o_mulQ e_str e_int (pl_k _) (pl_k _))) (pl_E _) (a_cons (e_hold (e_op o_mulQ e_str e_int (pl_k _) (pl_k _))) (pl_E _) a_nil))))))) (pl_var _) (pl_P _)) (by decide))
    (b_cons (s_setLc (i := 12) (own := [("_law_thing", 13)]) (io' := [0, 1, 2, 3, 4, 5, 6, 7, 8, 9, 10, 11, 12]) rfl sc_law.nd rfl rfl (sw_true rfl rfl rfl (by decide +kernel)) (i_seq (e_var (i := 11) rfl (.inl rfl))) (blkOk_by (N := N_law) (sc := defScope (top 42)) (by decide +kernel)) (fun _ _ _ _ _ => (g_name (i := 13) sc_law.nd rfl (.inr rfl) (by decide))) (fun _ _ _ _ _ => ts_nil) (fun _ _ _ _ _ => (e_told (k := 11) h.f_told sc_told bd_told it_told rfl (.inl rfl) rfl rfl h.x_ParseError.g h.x_InvalidExpression.g h.c_ParseError h.c_InvalidExpression h.t_law rfl rfl (hr.mono (by decide)) rfl (LamX.lamS_by (by kernel_rfl)) rfl (fun _ _ _ _ _ => rfl) (fun A outer s H E f c' hr => by
      have hu := hr.u
      have hgd := hr.gd
      exact (e_hold (e_f (ok_expression_of h) (hr.mono (by decide)) rfl (takes_of rfl rfl rfl rfl) (a_cons (e_var (i := 13) rfl (.inr (.inr rfl))) (pl_var _) a_nil) (al_cons al_nil)))))) (hio_by (N := N_law) (by decide)) (tame_gN _) (by decide))
    (b_one (s_ret (e_and (e_peek (e_cmp (o_eq hu) (e_var (i := 12) rfl (.inl rfl)) (e_peek (e_op o_mulQ (e_peek (e_lst (a_cons (e_hold (e_lst (a_cons e_str (pl_k _) a_nil))) (pl_E _) a_nil))) (e_peek (e_callB f_len rfl h.n_len boot_len' (a_cons (e_var (i := 11) rfl (.inl rfl)) (pl_var _) a_nil))) (pl_P _) (pl_P _))) (pl_var _) (pl_P _) (nomark _))) (pl_P _) (e_one (e_cmp (o_eq hu) (e_peek (e_f (ok_expression_of h) (hr.mono (by decide)) rfl (takes_of rfl rfl rfl rfl) (a_cons e_str (pl_k _) a_nil) (al_cons al_nil))) (e_peek (e_tup (a_cons e_str (pl_k _) a_nil))) (pl_P _) (pl_P _) (nomark _)))))))))))))
end
end K05
end
section

end
section
set_option Elab.async false
set_option linter.all false
set_option maxRecDepth 100000
set_option maxHeartbeats 0
namespace K05
open PySem PySem.Spec L2 Sv
open PyProof.Rows hiding St
def fa0 : List He.Fa := [.glo "InvalidExpression", .exm "InvalidExpression" "InvalidExpression" true, .glo "ParseError", .exm "ParseError" "InvalidExpression" false, .exm "InvalidExpression" "ParseError" false, .exm "ParseError" "ParseError" true, .exc "InvalidExpression", .exc "ParseError", .free "abs", .free "all", .free "int", .free "isinstance", .free "len", .free "max", .free "min", .free "range", .free "repr", .free "set", .free "sorted", .free "str", .free "tuple", .int "MAX_DEPTH" 6, .int "MAX_NAMES" 12, .int "MAX_SIGNS" 8, .int "MAX_TUPLES" 40, .str "LETTERS" "abcdefghijklmnopqrstuvwxyz", .glo "SERIES", .glo "SINGLE", .glo "_law_tap", .glo "is_name"]
def fa1 : List He.Fa := [.glo "has_front", .glo "counts_within", .glo "is_expression", .glo "_law_told", .glo "_law_turn", .glo "_law_names", .glo "_law_pick", .glo "_law_expression", .glo "_law_text", .glo "letters_from", .glo "read_from", .glo "expression_of", .glo "_law_is_name", .glo "_law_shape", .glo "_law_is_one", .glo "is_word", .glo "require_expression", .glo "written_names", .glo "names_in", .glo "text_by", .glo "text_of", .glo "_law_written", .glo "_law_value_right", .glo "_law_read", .glo "_law_text_right", .glo "_law_bent", .glo "law"]
def fa : List He.Fa := fa0 ++ fa1
def fn0 : List He.DefD := [⟨("_law_tap", none), "_law_tap", "_law_tap", defArgs (top 27), defBody (top 27), defScope (top 27), [], []⟩, ⟨("is_name", none), "is_name", "is_name", defArgs (top 7), defBody (top 7), defScope (top 7), [], []⟩, ⟨("has_front", none), "has_front", "has_front", defArgs (top 14), defBody (top 14), defScope (top 14), [], []⟩, ⟨("counts_within", none), "counts_within", "counts_within", defArgs (top 15), defBody (top 15), defScope (top 15), [], []⟩, ⟨("is_expression", none), "is_expression", "is_expression", defArgs (top 16), defBody (top 16), defScope (top 16), [], []⟩, ⟨("_law_told", none), "_law_told", "_law_told", defArgs (top 38), defBody (top 38), defScope (top 38), [], []⟩, ⟨("_law_turn", none), "_law_turn", "_law_turn", defArgs (top 28), defBody (top 28), defScope (top 28), [], []⟩, ⟨("_law_names", none), "_law_names", "_law_names", defArgs (top 30), defBody (top 30), defScope (top 30), [], []⟩, ⟨("_law_pick", none), "_law_pick", "_law_pick", defArgs (top 29), defBody (top 29), defScope (top 29), [], []⟩, ⟨("_law_expression", none), "_law_expression", "_law_expression", defArgs (top 31), defBody (top 31), defScope (top 31), [], []⟩, ⟨("_law_text", none), "_law_text", "_law_text", defArgs (top 36), defBody (top 36), defScope (top 36), [], []⟩, ⟨("letters_from", none), "letters_from", "letters_from", defArgs (top 23), defBody (top 23), defScope (top 23), [], []⟩, ⟨("read_from", none), "read_from", "read_from", defArgs (top 24), defBody (top 24), defScope (top 24), [], []⟩, ⟨("expression_of", none), "expression_of", "expression_of", defArgs (top 25), defBody (top 25), defScope (top 25), [], []⟩, ⟨("_law_is_name", none), "_law_is_name", "_law_is_name", defArgs (top 32), defBody (top 32), defScope (top 32), [], []⟩, ⟨("_law_shape", none), "_law_shape", "_law_shape", defArgs (top 33), defBody (top 33), defScope (top 33), [], []⟩, ⟨("_law_is_one", none), "_law_is_one", "_law_is_one", defArgs (top 34), defBody (top 34), defScope (top 34), [], []⟩, ⟨("is_word", none), "is_word", "is_word", defArgs (top 18), defBody (top 18), defScope (top 18), [], []⟩, ⟨("require_expression", none), "require_expression", "require_expression", defArgs (top 17), defBody (top 17), defScope (top 17), [], []⟩, ⟨("written_names", none), "written_names", "written_names", defArgs (top 19), defBody (top 19), defScope (top 19), [], []⟩, ⟨("names_in", none), "names_in", "names_in", defArgs (top 20), defBody (top 20), defScope (top 20), [], []⟩, ⟨("text_by", none), "text_by", "text_by", defArgs (top 21), defBody (top 21), defScope (top 21), [], []⟩, ⟨("text_of", none), "text_of", "text_of", defArgs (top 22), defBody (top 22), defScope (top 22), [], []⟩, ⟨("_law_written", none), "_law_written", "_law_written", defArgs (top 35), defBody (top 35), defScope (top 35), [], []⟩, ⟨("_law_value_right", none), "_law_value_right", "_law_value_right", defArgs (top 41), defBody (top 41), defScope (top 41), [], []⟩, ⟨("_law_read", none), "_law_read", "_law_read", defArgs (top 39), defBody (top 39), defScope (top 39), [], []⟩, ⟨("_law_text_right", none), "_law_text_right", "_law_text_right", defArgs (top 40), defBody (top 40), defScope (top 40), [], []⟩, ⟨("_law_bent", none), "_law_bent", "_law_bent", defArgs (top 37), defBody (top 37), defScope (top 37), [], []⟩, ⟨("law", none), "law", "law", defArgs (top 42), defBody (top 42), defScope (top 42), [], []⟩]
def fn : List He.DefD := fn0
def loose0 : List Str := ["SeenError", "InvalidExpression", "ParseError", "MAX_SIGNS", "LETTERS", "is_name", "MAX_NAMES", "MAX_TUPLES", "MAX_DEPTH", "SERIES", "SINGLE", "has_front", "counts_within", "is_expression", "require_expression", "is_word", "written_names", "names_in", "text_by", "text_of", "letters_from", "read_from", "expression_of", "_law_tap", "_law_turn", "_law_pick", "_law_names", "_law_expression", "_law_is_name", "_law_shape"]
def loose1 : List Str := ["_law_is_one", "_law_written", "_law_text", "_law_bent", "_law_told", "_law_read", "_law_text_right", "_law_value_right"]
def loose : List Str := loose0 ++ loose1
abbrev R : PySem.W.OpenRow := PySem.W.OpenLaw.row PySem.Challenge.rw_seenabove_k05_expressions_and_their_text
def tf : List He.Defn := [("_law_value_right", none), ("_law_text_right", none), ("law", none)]
def ex (K : PySem.W.Frag) : Bool := (tupB K "SERIES" ["then", "or"]) && (tupB K "SINGLE" ["any", "some", "maybe"]) && (apartB (HasT.t K))
theorem exB_0 {K : PySem.W.Frag} (h : ex K = true) : (tupB K "SERIES" ["then", "or"]) = true := ((Bool.and_eq_true _ _).mp ((Bool.and_eq_true _ _).mp h).1).1
theorem exB_1 {K : PySem.W.Frag} (h : ex K = true) : (tupB K "SINGLE" ["any", "some", "maybe"]) = true := ((Bool.and_eq_true _ _).mp ((Bool.and_eq_true _ _).mp h).1).2
theorem exB_2 {K : PySem.W.Frag} (h : ex K = true) : (apartB (HasT.t K)) = true := ((Bool.and_eq_true _ _).mp h).2
theorem mem_0 (K : PySem.W.Frag) : ((He.cT K ("_law_value_right", none)).2, ("_law_value_right" : Str) ++ ".<locals>." ++ "<lambda>") ∈ HasT.t K := by
  show _ ∈ [((He.cT K ("_law_value_right", none)).2, ("_law_value_right" : Str) ++ ".<locals>." ++ "<lambda>"), ((He.cT K ("_law_text_right", none)).2, ("_law_text_right" : Str) ++ ".<locals>." ++ "<lambda>"), ((He.cT K ("law", none)).2, ("law" : Str) ++ ".<locals>." ++ "<lambda>")]
  simp
theorem one_0 (K : PySem.W.Frag) (h : apartB (HasT.t K) = true) : ∀ q ∈ HasT.t K, q.1 = (He.cT K ("_law_value_right", none)).2 → q.2 = ("_law_value_right" : Str) ++ ".<locals>." ++ "<lambda>" := fun q hq e => congrArg Prod.snd (apart_ok h q hq _ (mem_0 K) e)
theorem mem_1 (K : PySem.W.Frag) : ((He.cT K ("_law_text_right", none)).2, ("_law_text_right" : Str) ++ ".<locals>." ++ "<lambda>") ∈ HasT.t K := by
  show _ ∈ [((He.cT K ("_law_value_right", none)).2, ("_law_value_right" : Str) ++ ".<locals>." ++ "<lambda>"), ((He.cT K ("_law_text_right", none)).2, ("_law_text_right" : Str) ++ ".<locals>." ++ "<lambda>"), ((He.cT K ("law", none)).2, ("law" : Str) ++ ".<locals>." ++ "<lambda>")]
  simp
theorem one_1 (K : PySem.W.Frag) (h : apartB (HasT.t K) = true) : ∀ q ∈ HasT.t K, q.1 = (He.cT K ("_law_text_right", none)).2 → q.2 = ("_law_text_right" : Str) ++ ".<locals>." ++ "<lambda>" := fun q hq e => congrArg Prod.snd (apart_ok h q hq _ (mem_1 K) e)
theorem mem_2 (K : PySem.W.Frag) : ((He.cT K ("law", none)).2, ("law" : Str) ++ ".<locals>." ++ "<lambda>") ∈ HasT.t K := by
  show _ ∈ [((He.cT K ("_law_value_right", none)).2, ("_law_value_right" : Str) ++ ".<locals>." ++ "<lambda>"), ((He.cT K ("_law_text_right", none)).2, ("_law_text_right" : Str) ++ ".<locals>." ++ "<lambda>"), ((He.cT K ("law", none)).2, ("law" : Str) ++ ".<locals>." ++ "<lambda>")]
  simp
theorem one_2 (K : PySem.W.Frag) (h : apartB (HasT.t K) = true) : ∀ q ∈ HasT.t K, q.1 = (He.cT K ("law", none)).2 → q.2 = ("law" : Str) ++ ".<locals>." ++ "<lambda>" := fun q hq e => congrArg Prod.snd (apart_ok h q hq _ (mem_2 K) e)
abbrev hk : PySem.W.Hook := He.hookX 5 fa fn [] tf ex
def ob (s : PySem.W.SharedT) : He.AlX := He.obsX 5 fa fn [] tf ex (HandSHeadRun.getT s)
theorem ob_eq (s : PySem.W.SharedT) : ob s = hk.obs s.abs := He.obsX_eq (HandSHeadRun.getT_eq s)
theorem run (w : World) : HandSHeadRun.RunEq R (PySem.W.view R.prog [42]) hk ob 4000 loose w := by
  intro os
  kernel_rfl
theorem fa_of {K : PySem.W.Frag} {w : World} {h base : Heap} {mg : Str → Option Value} (X : K.In h) (G : h.Ns mainGlobals mg) (c : He.SaysX fa fn [] tf ex w h K) (TB : ∀ p ∈ tf.map (He.cT K), LamX.TabB base mg p.1 p.2) : Fa K mg base where
  c_InvalidExpression := fun y cls k hm he => by
    unfold m_InvalidExpression at he
    split at he
    · rename_i e
      rw [e, He.glo_ok X G (c.t.d.fact 0 rfl)] at hm
      cases hm
      cases he
      exact He.exm_ok (c.t.d.fact 1 rfl)
    · skip
      split at he
      · rename_i e
        rw [e, He.glo_ok X G (c.t.d.fact 2 rfl)] at hm
        cases hm
        cases he
        exact He.exm_ok (c.t.d.fact 3 rfl)
      · skip
        cases he
  c_ParseError := fun y cls k hm he => by
    unfold m_ParseError at he
    split at he
    · rename_i e
      rw [e, He.glo_ok X G (c.t.d.fact 0 rfl)] at hm
      cases hm
      cases he
      exact He.exm_ok (c.t.d.fact 4 rfl)
    · skip
      split at he
      · rename_i e
        rw [e, He.glo_ok X G (c.t.d.fact 2 rfl)] at hm
        cases hm
        cases he
        exact He.exm_ok (c.t.d.fact 5 rfl)
      · skip
        cases he
  x_InvalidExpression := exF_of X G (c.t.d.fact 0 rfl) (c.t.d.fact 6 rfl)
  x_ParseError := exF_of X G (c.t.d.fact 2 rfl) (c.t.d.fact 7 rfl)
  n_abs := He.free_ok X G (c.t.d.fact 8 rfl)
  n_all := He.free_ok X G (c.t.d.fact 9 rfl)
  n_int := He.free_ok X G (c.t.d.fact 10 rfl)
  n_isinstance := He.free_ok X G (c.t.d.fact 11 rfl)
  n_len := He.free_ok X G (c.t.d.fact 12 rfl)
  n_max := He.free_ok X G (c.t.d.fact 13 rfl)
  n_min := He.free_ok X G (c.t.d.fact 14 rfl)
  n_range := He.free_ok X G (c.t.d.fact 15 rfl)
  n_repr := He.free_ok X G (c.t.d.fact 16 rfl)
  n_set := He.free_ok X G (c.t.d.fact 17 rfl)
  n_sorted := He.free_ok X G (c.t.d.fact 18 rfl)
  n_str := He.free_ok X G (c.t.d.fact 19 rfl)
  n_tuple := He.free_ok X G (c.t.d.fact 20 rfl)
  i_MAX_DEPTH := He.int_ok X G (c.t.d.fact 21 rfl)
  i_MAX_NAMES := He.int_ok X G (c.t.d.fact 22 rfl)
  i_MAX_SIGNS := He.int_ok X G (c.t.d.fact 23 rfl)
  i_MAX_TUPLES := He.int_ok X G (c.t.d.fact 24 rfl)
  s_LETTERS := He.str_ok X G (c.t.d.fact 25 rfl)
  u_SERIES := tupF_of X G (c.t.d.fact 26 rfl) (exB_0 c.more)
  u_SINGLE := tupF_of X G (c.t.d.fact 27 rfl) (exB_1 c.more)
  f_tap := defF_of X G (c.t.d.fact 28 rfl) (c.t.d.def_ 0 rfl)
  f_is_name := defF_of X G (c.t.d.fact 29 rfl) (c.t.d.def_ 1 rfl)
  f_has_front := defF_of X G (c.t.d.fact 30 rfl) (c.t.d.def_ 2 rfl)
  f_counts_within := defF_of X G (c.t.d.fact 31 rfl) (c.t.d.def_ 3 rfl)
  f_is_expression := defF_of X G (c.t.d.fact 32 rfl) (c.t.d.def_ 4 rfl)
  f_told := defF_of X G (c.t.d.fact 33 rfl) (c.t.d.def_ 5 rfl)
  f_turn := defF_of X G (c.t.d.fact 34 rfl) (c.t.d.def_ 6 rfl)
  f_names := defF_of X G (c.t.d.fact 35 rfl) (c.t.d.def_ 7 rfl)
  f_pick := defF_of X G (c.t.d.fact 36 rfl) (c.t.d.def_ 8 rfl)
  f_expression := defF_of X G (c.t.d.fact 37 rfl) (c.t.d.def_ 9 rfl)
  f_text := defF_of X G (c.t.d.fact 38 rfl) (c.t.d.def_ 10 rfl)
  f_letters_from := defF_of X G (c.t.d.fact 39 rfl) (c.t.d.def_ 11 rfl)
  f_read_from := defF_of X G (c.t.d.fact 40 rfl) (c.t.d.def_ 12 rfl)
  f_expression_of := defF_of X G (c.t.d.fact 41 rfl) (c.t.d.def_ 13 rfl)
  f_l_is_name := defF_of X G (c.t.d.fact 42 rfl) (c.t.d.def_ 14 rfl)
  f_shape := defF_of X G (c.t.d.fact 43 rfl) (c.t.d.def_ 15 rfl)
  f_is_one := defF_of X G (c.t.d.fact 44 rfl) (c.t.d.def_ 16 rfl)
  f_is_word := defF_of X G (c.t.d.fact 45 rfl) (c.t.d.def_ 17 rfl)
  f_require_expression := defF_of X G (c.t.d.fact 46 rfl) (c.t.d.def_ 18 rfl)
  f_written_names := defF_of X G (c.t.d.fact 47 rfl) (c.t.d.def_ 19 rfl)
  f_names_in := defF_of X G (c.t.d.fact 48 rfl) (c.t.d.def_ 20 rfl)
  f_text_by := defF_of X G (c.t.d.fact 49 rfl) (c.t.d.def_ 21 rfl)
  f_text_of := defF_of X G (c.t.d.fact 50 rfl) (c.t.d.def_ 22 rfl)
  f_written := defF_of X G (c.t.d.fact 51 rfl) (c.t.d.def_ 23 rfl)
  f_value_right := defF_of X G (c.t.d.fact 52 rfl) (c.t.d.def_ 24 rfl)
  f_read := defF_of X G (c.t.d.fact 53 rfl) (c.t.d.def_ 25 rfl)
  f_text_right := defF_of X G (c.t.d.fact 54 rfl) (c.t.d.def_ 26 rfl)
  f_bent := defF_of X G (c.t.d.fact 55 rfl) (c.t.d.def_ 27 rfl)
  f_law := defF_of X G (c.t.d.fact 56 rfl) (c.t.d.def_ 28 rfl)
  t_value_right := tabF_of (TB _ (List.mem_map.mpr ⟨("_law_value_right", none), by simp [tf], rfl⟩)) (mem_0 K) (one_0 K (exB_2 c.more))
  t_text_right := tabF_of (TB _ (List.mem_map.mpr ⟨("_law_text_right", none), by simp [tf], rfl⟩)) (mem_1 K) (one_1 K (exB_2 c.more))
  t_law := tabF_of (TB _ (List.mem_map.mpr ⟨("law", none), by simp [tf], rfl⟩)) (mem_2 K) (one_2 K (exB_2 c.more))
theorem facts {P : Program} {w : World} {K : PySem.W.Frag} {h : Heap} {mg : Str → Option Value} {f : Addr} (X : K.In h) (G : h.Ns mainGlobals mg) (hfa : mg ("law" : Str) = some (.ref f)) (c : He.SaysX fa fn [] tf ex w h K) :
    ∃ fd : FuncData, (∀ (s : Shared) (v : Value), BindsTo s fd ⟨[v], []⟩ [("_law_script", v)]) ∧ ∀ base : Heap, K.In base → base.Ns mainGlobals mg → (∀ p ∈ tf.map (He.cT K), LamX.TabB base mg p.1 p.2) → FnG P w K mg base 33 f fd ["_law_script"] d_law := by
  obtain ⟨fd, F, hm⟩ := (defF_of X G (c.t.d.fact 56 rfl) (c.t.d.def_ 28 rfl) : DefF K mg "law" (top 42) [])
  have e := hfa.symm.trans hm
  cases e
  have b := FunD.bindsA (ps := ["_law_script"]) F bd_law
  exact ⟨fd, fun s v => b s [v] rfl, fun base _ _ TB => fn_sv F sc_law (bj_law (fa_of X G c TB))⟩
end K05
open PySem PySem.W PySem.Calls PyProof.Rows in
theorem PySem.Challenge.cw_seenabove_k05_expressions_and_their_text_holds : PySem.Challenge.rw_seenabove_k05_expressions_and_their_text.Holds := by
  w_on; o_law
  refine HandSHeadRun.head_any (r := OpenLaw.row PySem.Challenge.rw_seenabove_k05_expressions_and_their_text) (q := view (OpenLaw.row PySem.Challenge.rw_seenabove_k05_expressions_and_their_text).prog [42]) (H := K05.hk) (ob := K05.ob) (M := 4000) (loose := K05.loose) (d := HandSHeadRun.topDef (OpenLaw.row PySem.Challenge.rw_seenabove_k05_expressions_and_their_text).prog 42) (kwd := []) K05.ob_eq
    (by kernel_rfl) (fun s => by kernel_rfl) K05.run (by kernel_rfl) (by kernel_rfl) (by kernel_rfl) (by rfl) (by first | assumption | decide +kernel) (by decide +kernel) ⟨rfl, rfl, rfl, rfl, rfl, by decide +kernel⟩ ?hw ?hc
  case hw => w_witness2
  case hc =>
    refine Sv.walk_sv (l := PySem.Challenge.rw_seenabove_k05_expressions_and_their_text) (n := 63) (k := 33) (x := "_law_script") rfl (by decide) (by kernel_rfl) ⟨⟨rfl, by decide, by decide⟩, rfl⟩ ?F K05.law_true
    intro w mg fa h Y G hmg0
    obtain ⟨K, KX, c⟩ := Y
    have hmg : mg ("law" : PySem.Str) = some (.ref fa) := by
      have e : (HandSHeadRun.topDef (OpenLaw.row PySem.Challenge.rw_seenabove_k05_expressions_and_their_text).prog 42).name = ("law" : PySem.Str) := by kernel_rfl
      rw [← e]
      exact hmg0
    obtain ⟨fd, hb, hF⟩ := K05.facts (P := (PySem.Challenge.rw_seenabove_k05_expressions_and_their_text).prog) (w := w) KX G hmg c
    refine ⟨K, fd, K05.tf.map (He.cT K), KX, hb, fun p hp => ?_, fun p hp => ?_, hF⟩
    · obtain ⟨q, hq, rfl⟩ := List.mem_map.mp hp
      exact ⟨c.empty q hq, c.out q hq, PySem.W.codeHd_of_K KX (c.hd q hq)⟩
    · have hp2 : p ∈ [((He.cT K ("_law_value_right", none)).2, ("_law_value_right" : PySem.Str) ++ ".<locals>." ++ "<lambda>"), ((He.cT K ("_law_text_right", none)).2, ("_law_text_right" : PySem.Str) ++ ".<locals>." ++ "<lambda>"), ((He.cT K ("law", none)).2, ("law" : PySem.Str) ++ ".<locals>." ++ "<lambda>")] := hp
      simp only [List.mem_cons, List.not_mem_nil, or_false] at hp2
      rcases hp2 with rfl | rfl | rfl
      · simp [K05.tf]
      · simp [K05.tf]
      · simp [K05.tf]
end
