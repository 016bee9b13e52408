import PyProof.Rows.All
import Wide.All
import OpenK.AllK
import Wide.FinOn
import HandS.ForMost
import HandS.ForExc
import KE.DataCmp
import HandS.Iter
import HandS.Flow
import HandS.Defaults
import HandS.ExcOwn
import HandS.Comp
import HandS.More
import HandS.Star
import HandS.Style
import HandS.TupAny
import HandS.TupMul
import HandS.TupLe
import HandS.IsInst
import HandS.Wide
import KE.DataEq
import PyProof.ReprRoads
import HandS.Codes
import HandS.Ends
import HandS.HeadEnd
import HandS.EndBits
import HandS.TryOnly
import HandS.ExcIs
import HandS.ExcField
import KE.GoesEnum
import HandS.NoneIn
import HandS.Text
import KE.SortData
import HandS.SortInts
import HandS.Head2
import HandS.Head3
import HandS.Head4
import HandS.HeadHook4
import HandS.WordsExc
import KE.KStateDown
import HandS.Head0
import HandS.HeadHook1
import HandS.HeadHook2
import PySem.Challenge.RW_seenabove_k02_documents_made
set_option Elab.async false
section
set_option autoImplicit false
/-! Sv: a plain semantics by values. A program text is read as a Lean function over data (PyData); what a def changes in
    place (a list of its own) is a value of its environment. -/
namespace Sv
open PySem

/-- a value: data that never changes any more, or a list that its holder alone may change -/
inductive B where
  | d (x : PyData)
  | l (xs : List PyData)

/-- an error: its class's name, its fields -/
structure Ex where
  c : Str
  fs : List (Str × PyData)

abbrev Env := List (Option B)

/-- what an expression gives: a value, or the very thing that a slot holds -/
inductive Hd where
  | v (b : B)
  | s (i : Nat)

/-- an outcome: a result and the environment behind it, an error, or nothing said -/
inductive R (α : Type) where
  | ok (a : α) (e : Env)
  | ex (x : Ex) (e : Env)
  | no

namespace R
variable {α β : Type}
def bind (r : R α) (k : α → Env → R β) : R β :=
  match r with
  | .ok a e => k a e
  | .ex x e => .ex x e
  | .no => .no
@[simp] theorem bind_ok (a : α) (e : Env) (k : α → Env → R β) : (R.ok a e).bind k = k a e := rfl
@[simp] theorem bind_ex (x : Ex) (e : Env) (k : α → Env → R β) : (R.ex x e : R α).bind k = .ex x e := rfl
@[simp] theorem bind_no (k : α → Env → R β) : (R.no : R α).bind k = .no := rfl
/-- a result that may lack -/
def opt (o : Option α) (e : Env) : R α :=
  match o with
  | some a => .ok a e
  | none => .no
@[simp] theorem opt_some (a : α) (e : Env) : opt (some a) e = .ok a e := rfl
@[simp] theorem opt_none (e : Env) : opt (none : Option α) e = .no := rfl
end R

abbrev Cd := Env → R Hd
abbrev Td := Env → R Bool
abbrev Ad := Env → R (List Hd)

/-- the value in a slot -/
def slot (e : Env) (i : Nat) : Option B := e[i]?.join
/-- what a value reads as -/
def B.rd : B → PyData
  | .d x => x
  | .l xs => .list xs
@[simp] theorem rd_d (x : PyData) : (B.d x).rd = x := rfl
@[simp] theorem rd_l (xs : List PyData) : (B.l xs).rd = .list xs := rfl
/-- what a handle reads as, now -/
def Hd.rd (h : Hd) (e : Env) : Option PyData :=
  match h with
  | .v b => some b.rd
  | .s i => (slot e i).map B.rd
@[simp] theorem hrd_v (b : B) (e : Env) : (Hd.v b).rd e = some b.rd := rfl
@[simp] theorem hrd_s (i : Nat) (e : Env) : (Hd.s i).rd e = (slot e i).map B.rd := rfl
def rds (hs : List Hd) (e : Env) : Option (List PyData) :=
  match hs with
  | [] => some []
  | h :: r => match h.rd e, rds r e with
    | some x, some xs => some (x :: xs)
    | _, _ => none
@[simp] theorem rds_nil (e : Env) : rds [] e = some [] := rfl
@[simp] theorem rds_cons (h : Hd) (r : List Hd) (e : Env) : rds (h :: r) e = match h.rd e, rds r e with
    | some x, some xs => some (x :: xs)
    | _, _ => none := rfl

/-- kept for good: the thing in a slot becomes data -/
def hold (h : Hd) (e : Env) : R PyData :=
  match h with
  | .v b => .ok b.rd e
  | .s i => match slot e i with
    | some b => .ok b.rd (e.set i (some (.d b.rd)))
    | none => .no

/-! ### expressions -/
def cVar (i : Nat) : Cd := fun e =>
  match slot e i with
  | some _ => .ok (.s i) e
  | none => .no
def cK (x : PyData) : Cd := fun e => .ok (.v (.d x)) e
/-- the value as data, for good -/
def cE (c : Cd) : Cd := fun e => (c e).bind fun h e1 => (hold h e1).bind fun x e2 => .ok (.v (.d x)) e2
/-- the value to be read: a slot's thing stays where it is, a new list becomes data -/
def cP (c : Cd) : Cd := fun e => (c e).bind fun h e1 =>
  match h with
  | .v b => .ok (.v (.d b.rd)) e1
  | .s i => .ok (.s i) e1

/-- an operation on two, on one -/
def cOp (f : PyData → PyData → Option B) (a b : Cd) : Cd := fun e => (a e).bind fun x e1 => (b e1).bind fun y e2 =>
  match x.rd e2, y.rd e2 with
  | some p, some q => (R.opt (f p q) e2).bind fun r e3 => .ok (.v r) e3
  | _, _ => .no
def cUn (f : PyData → Option B) (a : Cd) : Cd := fun e => (a e).bind fun x e1 =>
  match x.rd e1 with
  | some p => (R.opt (f p) e1).bind fun r e3 => .ok (.v r) e3
  | none => .no
/-- x op y op' z -/
def cChain (f g : PyData → PyData → Option Bool) (a b c : Cd) : Cd := fun e => (a e).bind fun x e1 => (b e1).bind fun y e2 =>
  match x.rd e2, y.rd e2 with
  | some p, some q => match f p q with
    | some true => (c e2).bind fun z e3 => match y.rd e3, z.rd e3 with
      | some q', some r => match g q' r with
        | some k => .ok (.v (.d (.bool k))) e3
        | none => .no
      | _, _ => .no
    | some false => .ok (.v (.d (.bool false))) e2
    | none => .no
  | _, _ => .no
/-- a test, a choice -/
def cIf (t : Td) (a b : Cd) : Cd := fun e => (t e).bind fun k e1 => if k = true then a e1 else b e1
def asBool : PyData → Option Bool
  | .bool b => some b
  | _ => none
def cAnd (a b : Cd) : Cd := fun e => (a e).bind fun x e1 =>
  match x.rd e1 with
  | some (.bool true) => b e1
  | some (.bool false) => .ok (.v (.d (.bool false))) e1
  | _ => .no
def cOr (a b : Cd) : Cd := fun e => (a e).bind fun x e1 =>
  match x.rd e1 with
  | some (.bool true) => .ok (.v (.d (.bool true))) e1
  | some (.bool false) => b e1
  | _ => .no
def cNot (a : Cd) : Cd := fun e => (a e).bind fun x e1 =>
  match x.rd e1 with
  | some (.bool k) => .ok (.v (.d (.bool (!k)))) e1
  | _ => .no
/-! ### tests -/
def tB (a : Cd) : Td := fun e => (a e).bind fun x e1 =>
  match x.rd e1 with
  | some (.bool k) => .ok k e1
  | _ => .no
def tAnd (a b : Td) : Td := fun e => (a e).bind fun k e1 => if k = true then b e1 else .ok false e1
def tOr (a b : Td) : Td := fun e => (a e).bind fun k e1 => if k = true then .ok true e1 else b e1
def tNot (a : Td) : Td := fun e => (a e).bind fun k e1 => .ok (!k) e1
/-! ### arguments -/
def aNil : Ad := fun e => .ok [] e
def aCons (c : Cd) (r : Ad) : Ad := fun e => (c e).bind fun x e1 => (r e1).bind fun xs e2 => .ok (x :: xs) e2
/-- *xs among the items -/
def itemsX : PyData → Option (List PyData)
  | .list xs => some xs
  | .tuple xs => some xs
  | _ => none
def aStar (c : Cd) (r : Ad) : Ad := fun e => (cE c e).bind fun x e1 =>
  match x with
  | .v (.d y) => match itemsX y with
    | some xs => (r e1).bind fun hs e2 => .ok (xs.map (fun x => .v (.d x)) ++ hs) e2
    | none => .no
  | _ => .no
/-- a built-in function of values -/
def cCall (f : List PyData → Option B) (a : Ad) : Cd := fun e => (a e).bind fun hs e1 =>
  match rds hs e1 with
  | some xs => (R.opt (f xs) e1).bind fun r e2 => .ok (.v r) e2
  | none => .no

/-- all of them data -/
def datas : List Hd → Option (List PyData)
  | [] => some []
  | .v (.d x) :: r => (datas r).map (x :: ·)
  | _ :: _ => none
@[simp] theorem datas_nil : datas [] = some [] := rfl
@[simp] theorem datas_cons (x : PyData) (r : List Hd) : datas (.v (.d x) :: r) = (datas r).map (x :: ·) := rfl
/-- displays -/
def cTup (a : Ad) : Cd := fun e => (a e).bind fun hs e1 =>
  match datas hs with
  | some xs => if xs.length ≤ sizeLine then .ok (.v (.d (.tuple xs))) e1 else .no
  | none => .no
def cLst (a : Ad) : Cd := fun e => (a e).bind fun hs e1 =>
  match datas hs with
  | some xs => if xs.length ≤ sizeLine then .ok (.v (.l xs)) e1 else .no
  | none => .no
/-- a slice: its bounds are ints or left out -/
def asInt : PyData → Option Int
  | .int i => some i
  | _ => none
@[simp] theorem asInt_int (i : Int) : asInt (.int i) = some i := rfl
def cSl (f : PyData → Option Int → Option Int → Option B) (c : Cd) (lo hi : Option Cd) : Cd := fun e => (c e).bind fun h e1 =>
  (match lo with
    | none => .ok none e1
    | some l => (l e1).bind fun x e2 => match x.rd e2 with
      | some (.int i) => .ok (some i) e2
      | _ => .no : R (Option Int)).bind fun a e2 =>
  (match hi with
    | none => .ok none e2
    | some l => (l e2).bind fun x e3 => match x.rd e3 with
      | some (.int i) => .ok (some i) e3
      | _ => .no : R (Option Int)).bind fun b e3 =>
  match h.rd e3 with
  | some p => (R.opt (f p a b) e3).bind fun r e4 => .ok (.v r) e4
  | none => .no

/-! ### statements -/
inductive RS where
  | nx (e : Env)
  | rt (b : B) (e : Env)
  | bk (e : Env)
  | ct (e : Env)
  | ex (x : Ex) (e : Env)
  | no
abbrev Sd := Env → RS
namespace R
def toS {α : Type} (r : R α) (k : α → Env → RS) : RS :=
  match r with
  | .ok a e => k a e
  | .ex x e => .ex x e
  | .no => .no
@[simp] theorem toS_ok {α : Type} (a : α) (e : Env) (k : α → Env → RS) : (R.ok a e).toS k = k a e := rfl
@[simp] theorem toS_ex {α : Type} (x : Ex) (e : Env) (k : α → Env → RS) : (R.ex x e : R α).toS k = .ex x e := rfl
@[simp] theorem toS_no {α : Type} (k : α → Env → RS) : (R.no : R α).toS k = .no := rfl
end R
def RS.seq (r : RS) (k : Env → RS) : RS :=
  match r with
  | .nx e => k e
  | r => r
@[simp] theorem seq_nx (e : Env) (k : Env → RS) : (RS.nx e).seq k = k e := rfl
@[simp] theorem seq_rt (b : B) (e : Env) (k : Env → RS) : (RS.rt b e).seq k = .rt b e := rfl
@[simp] theorem seq_bk (e : Env) (k : Env → RS) : (RS.bk e).seq k = .bk e := rfl
@[simp] theorem seq_ct (e : Env) (k : Env → RS) : (RS.ct e).seq k = .ct e := rfl
@[simp] theorem seq_ex (x : Ex) (e : Env) (k : Env → RS) : (RS.ex x e).seq k = .ex x e := rfl
@[simp] theorem seq_no (k : Env → RS) : RS.no.seq k = .no := rfl

def sNil : Sd := fun e => .nx e
def sCons (a b : Sd) : Sd := fun e => (a e).seq b
def sPass : Sd := fun e => .nx e
def sBreak : Sd := fun e => .bk e
def sCont : Sd := fun e => .ct e
def sExpr (c : Cd) : Sd := fun e => (c e).toS fun _ e1 => .nx e1
/-- x = e: a new list is x's own; a slot's thing becomes data in both -/
def put (i : Nat) (h : Hd) (e : Env) : RS :=
  match h with
  | .v b => .nx (e.set i (some b))
  | .s j => match slot e j with
    | some b => .nx ((e.set j (some (.d b.rd))).set i (some (.d b.rd)))
    | none => .no
def sSet (i : Nat) (c : Cd) : Sd := fun e => (c e).toS fun h e1 => put i h e1
/-- return e: a slot's thing goes with it -/
def sRet (c : Cd) : Sd := fun e => (c e).toS fun h e1 =>
  match h with
  | .v b => .rt b e1
  | .s i => match slot e1 i with
    | some b => .rt b (e1.set i none)
    | none => .no
def sRetN : Sd := fun e => .rt (.d .none) e
def sIf (t : Td) (a b : Sd) : Sd := fun e => (t e).toS fun k e1 => if k = true then a e1 else b e1
/-- at most n turns -/
def sWhile (t : Td) (b : Sd) : Nat → Sd
  | 0, _ => .no
  | n + 1, e => (t e).toS fun k e1 => if k = true then
      match b e1 with
      | .nx e2 => sWhile t b n e2
      | .ct e2 => sWhile t b n e2
      | .bk e2 => .nx e2
      | r => r
    else .nx e1
/-! ### targets, loops -/
/-- a target: stores data -/
abbrev Gd := PyData → Sd
def gN (i : Nat) : Gd := fun x e => .nx (e.set i (some (.d x)))
def gRun : List Gd → List PyData → Sd
  | [], [], e => .nx e
  | t :: ts, x :: xs, e => (t x e).seq (gRun ts xs)
  | _, _, _ => .no
@[simp] theorem gRun_nil (e : Env) : gRun [] [] e = .nx e := rfl
@[simp] theorem gRun_cons (t : Gd) (ts : List Gd) (x : PyData) (xs : List PyData) (e : Env) : gRun (t :: ts) (x :: xs) e = (t x e).seq (gRun ts xs) := rfl
def gT (ts : List Gd) : Gd := fun x e =>
  match x with
  | .tuple xs => gRun ts xs e
  | _ => .no
def gL (ts : List Gd) : Gd := fun x e =>
  match x with
  | .list xs => gRun ts xs e
  | _ => .no
/-- t = e, the value as data -/
def sAsg (t : Gd) (c : Cd) : Sd := fun e => (c e).toS fun h e1 => (hold h e1).toS fun x e2 => t x e2
/-- what a for walks: the items, known before the first turn -/
abbrev Wd := Env → R (List PyData)
def loopF (t : Gd) (b : Sd) : List PyData → Sd
  | [], e => .nx e
  | x :: xs, e => match (t x e).seq b with
    | .nx e2 => loopF t b xs e2
    | .ct e2 => loopF t b xs e2
    | .bk e2 => .nx e2
    | r => r
def sFor (w : Wd) (t : Gd) (b : Sd) : Sd := fun e => (w e).toS fun xs e1 => loopF t b xs e1
def wSeq (c : Cd) : Wd := fun e => (cE c e).bind fun h e1 =>
  match h with
  | .v (.d (.list xs)) => .ok xs e1
  | .v (.d (.tuple xs)) => .ok xs e1
  | _ => .no
/-- the ints of a range; the signs of a text -/
def rngD (lo : Int) (n : Nat) : List PyData := (List.range n).map fun i => .int (lo + (i : Nat))
def signs (x : Str) : List PyData := x.cps.toList.map fun c => .str ⟨#[c]⟩
def wRange1 (c : Cd) : Wd := fun e => (c e).bind fun h e1 =>
  match h.rd e1 with
  | some (.int j) => if -(2 ^ 62) ≤ j ∧ j < 2 ^ 62 then .ok (rngD 0 j.toNat) e1 else .no
  | _ => .no
def wRange2 (c d : Cd) : Wd := fun e => (c e).bind fun h e1 => (d e1).bind fun g e2 =>
  match h.rd e2, g.rd e2 with
  | some (.int i), some (.int j) => if -(2 ^ 62) ≤ i ∧ i < 2 ^ 62 ∧ -(2 ^ 62) ≤ j ∧ j < 2 ^ 62 then .ok (rngD i (j - i).toNat) e2 else .no
  | _, _ => .no
def wStr (c : Cd) : Wd := fun e => (cE c e).bind fun h e1 =>
  match h with
  | .v (.d (.str x)) => .ok (signs x) e1
  | _ => .no
def enumD (xs : List PyData) : List PyData := xs.mapIdx fun i x => .tuple [.int i, x]
def wEnum (c : Cd) : Wd := fun e => (cE c e).bind fun h e1 =>
  match h with
  | .v (.d (.list xs)) => .ok (enumD xs) e1
  | .v (.d (.tuple xs)) => .ok (enumD xs) e1
  | _ => .no
/-- x op= e on a name that holds data -/
def sAug (i : Nat) (f : PyData → PyData → Option PyData) (c : Cd) : Sd := fun e =>
  match slot e i with
  | some (.d x) => (c e).toS fun h e1 => match h.rd e1 with
    | some y => match f x y with
      | some z => .nx (e1.set i (some (.d z)))
      | none => .no
    | none => .no
  | _ => .no
/-- a method that changes the list in slot i -/
def cMeth (m : List PyData → List PyData → Option (List PyData × PyData)) (i : Nat) (a : Ad) : Cd := fun e =>
  match slot e i with
  | some (.l _) => (a e).bind fun hs e1 => match slot e1 i, datas hs with
    | some (.l cs), some xs => match m cs xs with
      | some (cs', r) => .ok (.v (.d r)) (e1.set i (some (.l cs')))
      | none => .no
    | _, _ => .no
  | _ => .no
/-- x[k] = e on the list in slot i -/
def sSetIx (f : List PyData → PyData → PyData → Option (List PyData)) (i : Nat) (k c : Cd) : Sd := fun e => (cE c e).toS fun h e1 =>
  match slot e1 i with
  | some _ => (k e1).toS fun q e2 => match h, q.rd e2, slot e2 i with
    | .v (.d x), some j, some (.l cs) => match f cs j x with
      | some cs' => .nx (e2.set i (some (.l cs')))
      | none => .no
    | _, _, _ => .no
  | none => .no
/-- a, b = x, y -/
def sPar2 (i j : Nat) (a b : Cd) : Sd := fun e => (a e).toS fun h e1 => (b e1).toS fun g e2 =>
  match h, g with
  | .v x, .v y => .nx ((e2.set i (some x)).set j (some y))
  | _, _ => .no
def sPar3 (i j k : Nat) (a b c : Cd) : Sd := fun e => (a e).toS fun h e1 => (b e1).toS fun g e2 => (c e2).toS fun f e3 =>
  match h, g, f with
  | .v x, .v y, .v z => .nx (((e3.set i (some x)).set j (some y)).set k (some z))
  | _, _, _ => .no
def sRaise (x : Ex) : Sd := fun e => .ex x e

/-- try: .. except X as e: return h(e); m: which errors are caught, i: e's slot -/
def sTryR (i : Nat) (b : Sd) (m : Ex → Option Bool) (h : Ex → Cd) : Sd := fun e =>
  match b e with
  | .ex x e1 => match m x with
    | some true => match h x (e1.set i none) with
      | .ok (.v r) e2 => .rt r e2
      | _ => .no
    | some false => .ex x e1
    | none => .no
  | r => r
/-- the same without a name -/
def sTryN (b : Sd) (m : Ex → Option Bool) (h : Cd) : Sd := fun e =>
  match b e with
  | .ex x e1 => match m x with
    | some true => match h e1 with
      | .ok (.v r) e2 => .rt r e2
      | _ => .no
    | some false => .ex x e1
    | none => .no
  | r => r

/-! ### comprehensions -/
/-- the slots of the comprehension's own names, forgotten -/
def wipeE (e : Env) : List Nat → Env
  | [] => e
  | v :: vs => (wipeE e vs).set v none
/-- .. and as they were ahead of it -/
def restE (e0 e : Env) : List Nat → Env
  | [] => e
  | v :: vs => match e0[v]? with
    | some o => (restE e0 e vs).set v o
    | none => restE e0 e vs
/-- one turn: nothing, or an item more -/
def comp1 (vs : List Nat) (t : Gd) (tt : Td) (c : Cd) (x : PyData) (e : Env) : R (Option PyData) :=
  match t x e with
  | .nx e1 => match tt e1 with
    | .ok true e2 => match cE c e2 with
      | .ok (.v (.d y)) e3 => .ok (some y) (wipeE e3 vs)
      | _ => .no
    | .ok false e2 => .ok none (wipeE e2 vs)
    | _ => .no
  | _ => .no
def compL (vs : List Nat) (t : Gd) (tt : Td) (c : Cd) : List PyData → Env → R (List PyData)
  | [], e => .ok [] e
  | x :: xs, e => match comp1 vs t tt c x e with
    | .ok o e1 => match compL vs t tt c xs e1 with
      | .ok ys e2 => .ok (match o with
        | some y => y :: ys
        | none => ys) e2
      | _ => .no
    | _ => .no
def tYes : Td := fun e => .ok true e
def cComp (vs : List Nat) (w : Wd) (t : Gd) (tt : Td) (c : Cd) : Cd := fun e => (w e).bind fun xs e1 =>
  if xs.length ≤ sizeLine then
    match compL vs t tt c xs (wipeE e1 vs) with
    | .ok ys e2 => .ok (.v (.l ys)) (restE e1 e2 vs)
    | _ => .no
  else .no

/-! ### defs -/
/-- what a call gives: its value (or an error), and what has become of the arguments -/
inductive Rf where
  | ok (b : B) (ps : List (Option B))
  | ex (x : Ex) (ps : List (Option B))
  | no
abbrev Fn := List B → Rf
/-- what a caller knows of his arguments behind the call: io, the parameters that are never stored to -/
def outF (io : List Nat) (e : Env) : Nat → List B → List (Option B)
  | _, [] => []
  | j, b :: r => (if io.contains j = true then slot e j else match b with
      | .d x => some (.d x)
      | .l _ => none) :: outF io e (j + 1) r
def fnD (n : Nat) (io : List Nat) (c : Sd) : Fn := fun bs =>
  match c (bs.map some ++ List.replicate (n - bs.length) none) with
  | .nx e => .ok (.d .none) (outF io e 0 bs)
  | .rt b e => .ok b (outF io e 0 bs)
  | .ex x e => .ex x (outF io e 0 bs)
  | _ => .no
/-- the arguments of a call -/
def argsB : List Hd → Env → Option (List B)
  | [], _ => some []
  | .v b :: r, e => (argsB r e).map (b :: ·)
  | .s i :: r, e => match slot e i, argsB r e with
    | some b, some bs => some (b :: bs)
    | _, _ => none
def slotsOf : List Hd → List Nat
  | [] => []
  | .v _ :: r => slotsOf r
  | .s i :: r => i :: slotsOf r
def back : List Hd → List (Option B) → Env → Env
  | .s i :: hs, p :: ps, e => back hs ps (match slot e i with
    | some (.l _) => e.set i p
    | _ => e)
  | .v _ :: hs, _ :: ps, e => back hs ps e
  | _, _, e => e
def cFn (F : Fn) (a : Ad) : Cd := fun e => (a e).bind fun hs e1 =>
  match argsB hs e1 with
  | some bs => if (slotsOf hs).Nodup then
      match F bs with
      | .ok b ps => .ok (.v b) (back hs ps e1)
      | .ex x ps => .ex x (back hs ps e1)
      | .no => .no
    else .no
  | none => .no
end Sv
end
section
set_option autoImplicit false
set_option linter.all false
/-! Sv: how values of the plain semantics stand in the heap of the hand layer. -/
namespace Sv
open PySem PySem.Spec L2
open PyProof.Rows hiding St

/-- what never changes any more -/
def stays : HO → Bool
  | .tup _ => true
  | .frz _ _ => true
  | _ => false

/-- a list of the written part -/
def KLx (K : PySem.W.Frag) (a : Addr) (xs : List V) : Prop := ∃ (its : List Value) (n : Nat), K.lookup a = some { cls := .type "list", data := .seq its.toArray n } ∧ Vals xs its ∧ its.length ≤ sizeLine
/-- a list that never changes any more; one that is read -/
def FL (K : PySem.W.Frag) (H : Hp) (a : Addr) (xs : List V) : Prop := (∃ o, H a = some (.frz o (.lst xs))) ∨ KLx K a xs
def RL (K : PySem.W.Frag) (H : Hp) (a : Addr) (xs : List V) : Prop := Rd H a (.lst xs) ∨ KLx K a xs
/-- a dict's key as data -/
def keyD : Key → PyData
  | .inl i => .int i
  | .inr x => .str x
mutual
/-- v holds the data d, for good -/
inductive Fz (K : PySem.W.Frag) (H : Hp) : V → PyData → Prop
  | non : Fz K H .non .none
  | bl (b : Bool) : Fz K H (.bl b) (.bool b)
  | int (i : Int) : Fz K H (.int i) (.int i)
  | str (x : Str) : Fz K H (.str x) (.str x)
  | lst {a : Addr} {xs : List V} {ds : List PyData} : FL K H a xs → FzAll K H xs ds → Fz K H (.ref a) (.list ds)
  | tup {a : Addr} {xs : List V} {ds : List PyData} : SqT K H a xs → FzAll K H xs ds → Fz K H (.ref a) (.tuple ds)
  | dct {a : Addr} {o : Obj} {kvs : List (Key × V)} {ks : List PyData} {vs : List PyData} {ps : List (PyData × PyData)} : H a = some (.frz o (.dK kvs)) → ks = kvs.map (fun p => keyD p.1) → FzAll K H (kvs.map (·.2)) vs → ps = ks.zip vs → Fz K H (.ref a) (.dict ps)
inductive FzAll (K : PySem.W.Frag) (H : Hp) : List V → List PyData → Prop
  | nil : FzAll K H [] []
  | cons {v : V} {vs : List V} {d : PyData} {ds : List PyData} : Fz K H v d → FzAll K H vs ds → FzAll K H (v :: vs) (d :: ds)
end

section
variable {K : PySem.W.Frag} {H H' : Hp}
theorem KLx.sq {a : Addr} {xs : List V} (h : KLx K a xs) : SqL K H a xs := by
  obtain ⟨its, n, h1, h2, h3⟩ := h
  exact .inr ⟨_, its.toArray, n, h1, rfl, rfl, rfl, by simpa using h3, by simpa using h2⟩
theorem FL.sq {a : Addr} {xs : List V} (h : FL K H a xs) : SqL K H a xs := h.elim (fun ⟨o, h⟩ => .inl (.inr ⟨o, h⟩)) KLx.sq
theorem RL.sq {a : Addr} {xs : List V} (h : RL K H a xs) : SqL K H a xs := h.elim .inl KLx.sq
theorem FL.rl {a : Addr} {xs : List V} (h : FL K H a xs) : RL K H a xs := h.imp (fun ⟨o, h⟩ => .inr ⟨o, h⟩) id
theorem FL.of {a : Addr} {o : Obj} {xs : List V} (h : H a = some (.frz o (.lst xs))) : FL K H a xs := .inl ⟨o, h⟩
theorem SqT.keep {a : Addr} {xs : List V} (k : ∀ b o, H b = some o → stays o = true → H' b = some o) (h : SqT K H a xs) : SqT K H' a xs := by
  rcases h with (h | ⟨o, h⟩) | h
  · exact .inl (.inl (k _ _ h rfl))
  · exact .inl (.inr ⟨o, k _ _ h rfl⟩)
  · exact .inr h
mutual
theorem Fz.keep (k : ∀ b o, H b = some o → stays o = true → H' b = some o) : ∀ {v : V} {d : PyData}, Fz K H v d → Fz K H' v d
  | _, _, .non => .non
  | _, _, .bl b => .bl b
  | _, _, .int i => .int i
  | _, _, .str x => .str x
  | _, _, .lst h t => .lst (h.imp (fun ⟨o, h⟩ => ⟨o, k _ _ h rfl⟩) id) (FzAll.keep k t)
  | _, _, .tup h t => .tup (SqT.keep k h) (FzAll.keep k t)
  | _, _, .dct h e t f => .dct (k _ _ h rfl) e (FzAll.keep k t) f
theorem FzAll.keep (k : ∀ b o, H b = some o → stays o = true → H' b = some o) : ∀ {vs : List V} {ds : List PyData}, FzAll K H vs ds → FzAll K H' vs ds
  | _, _, .nil => .nil
  | _, _, .cons h t => .cons (Fz.keep k h) (FzAll.keep k t)
end
mutual
/-- v reads as the data d, now -/
inductive Vw (K : PySem.W.Frag) (H : Hp) : V → PyData → Prop
  | non : Vw K H .non .none
  | bl (b : Bool) : Vw K H (.bl b) (.bool b)
  | int (i : Int) : Vw K H (.int i) (.int i)
  | str (x : Str) : Vw K H (.str x) (.str x)
  | lst {a : Addr} {xs : List V} {ds : List PyData} : RL K H a xs → FzAll K H xs ds → Vw K H (.ref a) (.list ds)
  | tup {a : Addr} {xs : List V} {ds : List PyData} : SqT K H a xs → FzAll K H xs ds → Vw K H (.ref a) (.tuple ds)
  | dct {a : Addr} {kvs : List (Key × V)} {ks : List PyData} {vs : List PyData} {ps : List (PyData × PyData)} : Rd H a (.dK kvs) → ks = kvs.map (fun p => keyD p.1) → FzAll K H (kvs.map (·.2)) vs → ps = ks.zip vs → Vw K H (.ref a) (.dict ps)
end
theorem Fz.vw : ∀ {v : V} {d : PyData}, Fz K H v d → Vw K H v d
  | _, _, .non => .non
  | _, _, .bl b => .bl b
  | _, _, .int i => .int i
  | _, _, .str x => .str x
  | _, _, .lst h t => .lst (h.imp (fun ⟨o, h⟩ => .inr ⟨o, h⟩) id) t
  | _, _, .tup h t => .tup h t
  | _, _, .dct h e t f => .dct (.inr ⟨_, h⟩) e t f
inductive VwAll (K : PySem.W.Frag) (H : Hp) : List V → List PyData → Prop
  | nil : VwAll K H [] []
  | cons {v : V} {vs : List V} {d : PyData} {ds : List PyData} : Vw K H v d → VwAll K H vs ds → VwAll K H (v :: vs) (d :: ds)
theorem FzAll.length : ∀ {vs : List V} {ds : List PyData}, FzAll K H vs ds → vs.length = ds.length
  | _, _, .nil => rfl
  | _, _, .cons _ t => by rw [List.length_cons, List.length_cons, FzAll.length t]
theorem FzAll.get : ∀ {vs : List V} {ds : List PyData}, FzAll K H vs ds → ∀ {i : Nat} {d : PyData}, ds[i]? = some d → ∃ v, vs[i]? = some v ∧ Fz K H v d
  | _, _, .nil, _, _, e => by simp at e
  | _, _, .cons h _, 0, _, e => by simp at e; subst e; exact ⟨_, rfl, h⟩
  | _, _, .cons _ t, i + 1, d, e => by
    obtain ⟨v, e1, e2⟩ := FzAll.get t (i := i) (d := d) (by simpa using e)
    exact ⟨v, by simpa using e1, e2⟩
theorem FzAll.get' : ∀ {vs : List V} {ds : List PyData}, FzAll K H vs ds → ∀ {i : Nat} {v : V}, vs[i]? = some v → ∃ d, ds[i]? = some d ∧ Fz K H v d
  | _, _, .nil, _, _, e => by simp at e
  | _, _, .cons h _, 0, _, e => by simp at e; subst e; exact ⟨_, rfl, h⟩
  | _, _, .cons _ t, i + 1, d, e => by
    obtain ⟨v, e1, e2⟩ := FzAll.get' t (i := i) (v := d) (by simpa using e)
    exact ⟨v, by simpa using e1, e2⟩
theorem FzAll.append : ∀ {vs : List V} {ds : List PyData}, FzAll K H vs ds → ∀ {ws : List V} {es : List PyData}, FzAll K H ws es → FzAll K H (vs ++ ws) (ds ++ es)
  | _, _, .nil, _, _, h => h
  | _, _, .cons a t, _, _, h => .cons a (FzAll.append t h)
theorem FzAll.take : ∀ {vs : List V} {ds : List PyData} (n : Nat), FzAll K H vs ds → FzAll K H (vs.take n) (ds.take n)
  | _, _, 0, _ => .nil
  | _, _, _ + 1, .nil => .nil
  | _, _, n + 1, .cons h t => .cons h (FzAll.take n t)
theorem FzAll.drop : ∀ {vs : List V} {ds : List PyData} (n : Nat), FzAll K H vs ds → FzAll K H (vs.drop n) (ds.drop n)
  | _, _, 0, h => h
  | _, _, _ + 1, .nil => .nil
  | _, _, n + 1, .cons _ t => FzAll.drop n t
theorem FzAll.rev : ∀ {vs : List V} {ds : List PyData}, FzAll K H vs ds → FzAll K H vs.reverse ds.reverse
  | _, _, .nil => .nil
  | _, _, .cons h t => by
    rw [List.reverse_cons, List.reverse_cons]
    exact (FzAll.rev t).append (.cons h .nil)
theorem FzAll.set : ∀ {vs : List V} {ds : List PyData} (n : Nat) {v : V} {d : PyData}, FzAll K H vs ds → Fz K H v d → FzAll K H (vs.set n v) (ds.set n d)
  | _, _, _, _, _, .nil, _ => .nil
  | _, _, 0, _, _, .cons _ t, h => .cons h t
  | _, _, n + 1, _, _, .cons a t, h => .cons a (FzAll.set n t h)
theorem FzAll.nil_iff {ds : List PyData} (h : FzAll K H [] ds) : ds = [] := by cases h; rfl
end

/-- v holds the value b -/
def DenB (K : PySem.W.Frag) (H : Hp) (v : V) : B → Prop
  | .d x => Fz K H v x
  | .l xs => ∃ a ys, v = .ref a ∧ H a = some (.lst ys) ∧ FzAll K H ys xs
/-- the address that some slot owns -/
def Own (σ : St) (ρ : Env) (a : Addr) : Prop := ∃ (i : Nat) (xs : List PyData), ρ[i]? = some (some (.l xs)) ∧ σ[i]? = some (some (.ref a))
structure EnvRel (K : PySem.W.Frag) (H : Hp) (σ : St) (ρ : Env) : Prop where
  len : ρ.length = σ.length
  den : ∀ (i : Nat) (b : B), ρ[i]? = some (some b) → ∃ v, σ[i]? = some (some v) ∧ DenB K H v b
  inj : ∀ (i j : Nat) (xs ys : List PyData) (a : Addr), ρ[i]? = some (some (.l xs)) → ρ[j]? = some (some (.l ys)) → σ[i]? = some (some (.ref a)) → σ[j]? = some (some (.ref a)) → i = j

section
variable {K : PySem.W.Frag} {H H1 H2 : Hp} {σ σ1 σ2 : St} {ρ ρ1 ρ2 : Env}
theorem EnvRel.owned (e : EnvRel K H σ ρ) {a : Addr} (h : Own σ ρ a) : ∃ ys, H a = some (.lst ys) := by
  obtain ⟨i, xs, h1, h2⟩ := h
  obtain ⟨v, e1, a', ys, rfl, e2, _⟩ := e.den i _ h1
  rw [h2] at e1
  cases e1
  exact ⟨ys, e2⟩
theorem EnvRel.notOwn (e : EnvRel K H σ ρ) {a : Addr} {o : HO} (h : H a = some o) (s : stays o = true) : ¬ Own σ ρ a := fun q => by
  obtain ⟨ys, e2⟩ := e.owned q
  rw [h] at e2
  cases e2
  cases s

/-- from one state to another: what nobody here owns is kept; what is owned was owned or is new -/
structure Pst (K : PySem.W.Frag) (H : Hp) (σ : St) (ρ : Env) (H1 : Hp) (σ1 : St) (ρ1 : Env) : Prop where
  env : EnvRel K H1 σ1 ρ1
  keep : ∀ b o, H b = some o → ¬ Own σ ρ b → H1 b = some o
  own : ∀ b, Own σ1 ρ1 b → Own σ ρ b ∨ H b = none
  there : ∀ b, H b ≠ none → H1 b ≠ none
theorem Pst.refl (e : EnvRel K H σ ρ) : Pst K H σ ρ H σ ρ := ⟨e, fun _ _ h _ => h, fun _ h => .inl h, fun _ h => h⟩
theorem Pst.trans (p : Pst K H σ ρ H1 σ1 ρ1) (q : Pst K H1 σ1 ρ1 H2 σ2 ρ2) : Pst K H σ ρ H2 σ2 ρ2 where
  env := q.env
  keep := fun b o h n => q.keep b o (p.keep b o h n) fun w => (p.own b w).elim n fun z => by rw [z] at h; cases h
  own := fun b w => by
    rcases q.own b w with w | z
    · exact p.own b w
    · by_cases hb : H b = none
      · exact .inr hb
      · exact absurd z (p.there b hb)
  there := fun b h => q.there b (p.there b h)
/-- what stays, stays -/
theorem Pst.stay (p : Pst K H σ ρ H1 σ1 ρ1) (e : EnvRel K H σ ρ) : ∀ b o, H b = some o → stays o = true → H1 b = some o :=
  fun b o h s => p.keep b o h (e.notOwn h s)
theorem Pst.fz (p : Pst K H σ ρ H1 σ1 ρ1) (e : EnvRel K H σ ρ) {v : V} {d : PyData} (h : Fz K H v d) : Fz K H1 v d := h.keep (p.stay e)
theorem Pst.fzAll (p : Pst K H σ ρ H1 σ1 ρ1) (e : EnvRel K H σ ρ) {v : List V} {d : List PyData} (h : FzAll K H v d) : FzAll K H1 v d := h.keep (p.stay e)

/-- what an expression's end holds: H, σ, ρ at its start -/
def DenR (K : PySem.W.Frag) (H : Hp) (σ : St) (ρ : Env) (H1 : Hp) (σ1 : St) (ρ1 : Env) (v : V) : Hd → Prop
  | .s i => σ1[i]? = some (some v)
  | .v (.d x) => Fz K H1 v x
  | .v (.l xs) => ∃ a ys, v = .ref a ∧ H1 a = some (.lst ys) ∧ FzAll K H1 ys xs ∧ ¬ Own σ1 ρ1 a ∧ (Own σ ρ a ∨ H a = none)
theorem DenR.start {v : V} {h : Hd} (p : Pst K H σ ρ H1 σ1 ρ1) (q : DenR K H1 σ1 ρ1 H2 σ2 ρ2 v h) : DenR K H σ ρ H2 σ2 ρ2 v h := by
  cases h with
  | s i => exact q
  | v b =>
    cases b with
    | d x => exact q
    | l xs =>
      obtain ⟨a, ys, e, h1, h2, h3, h4⟩ := q
      refine ⟨a, ys, e, h1, h2, h3, ?_⟩
      rcases h4 with w | z
      · exact p.own a w
      · by_cases hb : H a = none
        · exact .inr hb
        · exact absurd z (p.there a hb)
end

/-- an error's class and fields in the heap -/
def ExRel (K : PySem.W.Frag) (mg : Str → Option Value) (H : Hp) (x : Ex) (cls : Value) (dd : Option Addr) : Prop :=
  mg x.c = some cls ∧ ((x.fs = [] ∧ dd = none) ∨ ∃ d fs, x.fs ≠ [] ∧ dd = some d ∧ H d = some (.xd fs) ∧ fs.map (·.1) = x.fs.map (·.1) ∧ FzAll K H (fs.map (·.2)) (x.fs.map (·.2)))

/-- what an outcome asks of the ends: Q of a result, W of an error -/
def Fin {α β : Type} (K : PySem.W.Frag) (mg : Str → Option Value) (W : WX) (σ : St) (H : Hp) (ρ : Env) (Rel : Hp → Env → β → α → Prop) (r : R α) (Q : β → Hp → Prop) : Prop :=
  match r with
  | .ok a ρ1 => ∀ v H1, Pst K H σ ρ H1 σ ρ1 → Rel H1 ρ1 v a → Q v H1
  | .ex x ρ1 => ∀ cls dd H1, Pst K H σ ρ H1 σ ρ1 → ExRel K mg H1 x cls dd → W cls dd σ H1
  | .no => False

/-- the readings of the layer, by the plain semantics -/
def tC (K : PySem.W.Frag) (mg : Str → Option Value) (W : WX) (c : Cd) : TE := fun σ H Q =>
  ∃ ρ, EnvRel K H σ ρ ∧ Fin K mg W σ H ρ (fun H1 ρ1 v h => DenR K H σ ρ H1 σ ρ1 v h) (c ρ) Q
def tT (K : PySem.W.Frag) (mg : Str → Option Value) (W : WX) (c : Td) : TT := fun σ H Q =>
  ∃ ρ, EnvRel K H σ ρ ∧ Fin K mg W σ H ρ (fun _ _ (v : Bool) k => v = k) (c ρ) Q
/-- arguments: each is data, or a slot's thing -/
inductive DenA (K : PySem.W.Frag) (H : Hp) (σ : St) : List V → List Hd → Prop
  | nil : DenA K H σ [] []
  | data {v : V} {x : PyData} {vs : List V} {hs : List Hd} : Fz K H v x → DenA K H σ vs hs → DenA K H σ (v :: vs) (.v (.d x) :: hs)
  | slot {v : V} {i : Nat} {vs : List V} {hs : List Hd} : σ[i]? = some (some v) → DenA K H σ vs hs → DenA K H σ (v :: vs) (.s i :: hs)
def tA (K : PySem.W.Frag) (mg : Str → Option Value) (W : WX) (c : Ad) : TA := fun σ H Q =>
  ∃ ρ, EnvRel K H σ ρ ∧ Fin K mg W σ H ρ (fun H1 _ v h => DenA K H1 σ v h) (c ρ) Q

section
variable {K : PySem.W.Frag} {mg : Str → Option Value} {W : WX} {H H1 H2 : Hp} {σ : St} {ρ ρ1 ρ2 : Env}
/-- the same outcome from a later state -/
theorem Fin.later {α β : Type} {Rel Rel' : Hp → Env → β → α → Prop} {r : R α} {Q : β → Hp → Prop} (p : Pst K H σ ρ H1 σ ρ1)
    (hr : ∀ a ρ2, r = .ok a ρ2 → ∀ v H2, Pst K H1 σ ρ1 H2 σ ρ2 → Rel' H2 ρ2 v a → Rel H2 ρ2 v a) (f : Fin K mg W σ H ρ Rel r Q) : Fin K mg W σ H1 ρ1 Rel' r Q := by
  cases r with
  | ok a ρ2 => exact fun v H2 q d => f v H2 (p.trans q) (hr a ρ2 rfl v H2 q d)
  | ex x ρ2 => exact fun cls dd H2 q d => f cls dd H2 (p.trans q) d
  | no => exact f
/-- one part of a whole -/
theorem Fin.part {α β γ δ : Type} {Rel : Hp → Env → β → α → Prop} {Rel' : Hp → Env → δ → γ → Prop} {r : R α} {k : α → Env → R γ} {Q : δ → Hp → Prop} {G : β → Hp → Prop}
    (f : Fin K mg W σ H ρ Rel' (r.bind k) Q) (g : ∀ a ρ1, r = .ok a ρ1 → Fin K mg W σ H ρ Rel' (k a ρ1) Q → ∀ v H1, Pst K H σ ρ H1 σ ρ1 → Rel H1 ρ1 v a → G v H1) : Fin K mg W σ H ρ Rel r G := by
  cases r with
  | ok a ρ1 => exact fun v H1 p d => g a ρ1 rfl f v H1 p d
  | ex x ρ1 => exact f
  | no => exact f
end
end Sv
end
section
set_option autoImplicit false
set_option linter.all false
/-! Sv: names, constants, keeping a thing for good, arguments, operators. -/
namespace Sv
open PySem PySem.Spec L2
open PyProof.Rows hiding St

section
variable {K : PySem.W.Frag} {H H1 H2 : Hp} {σ σ1 σ2 : St} {ρ ρ1 ρ2 : Env}
theorem slot_some {i : Nat} {b : B} (h : slot ρ i = some b) : ρ[i]? = some (some b) := by
  unfold slot at h
  cases e : ρ[i]? with
  | none => rw [e] at h; cases h
  | some o => rw [e] at h; cases o with
    | none => cases h
    | some c => cases h; rfl
theorem slot_of {i : Nat} {b : B} (h : ρ[i]? = some (some b)) : slot ρ i = some b := by unfold slot; rw [h]; rfl
theorem set_same {i : Nat} {b : B} (h : ρ[i]? = some (some b)) : ρ.set i (some b) = ρ := by
  apply List.ext_getElem?
  intro j
  by_cases hj : i = j
  · subst hj
    have hl : i < ρ.length := (List.getElem?_eq_some_iff.mp h).1
    rw [List.getElem?_set_self hl, h]
  · rw [List.getElem?_set_ne hj]

/-- a state grows: all that stood stands -/
theorem EnvRel.grow (er : EnvRel K H σ ρ) (k : ∀ b o, H b = some o → H1 b = some o) : EnvRel K H1 σ ρ := by
  refine ⟨er.len, fun i b h => ?_, er.inj⟩
  obtain ⟨v, e, d⟩ := er.den i b h
  refine ⟨v, e, ?_⟩
  cases b with
  | d x => exact Fz.keep (fun b o h _ => k b o h) d
  | l xs =>
    obtain ⟨a, ys, e1, e2, e3⟩ := d
    exact ⟨a, ys, e1, k _ _ e2, FzAll.keep (fun b o h _ => k b o h) e3⟩
theorem Pst.grow (er : EnvRel K H σ ρ) (k : ∀ b o, H b = some o → H1 b = some o) : Pst K H σ ρ H1 σ ρ :=
  ⟨er.grow k, fun b o h _ => k b o h, fun _ h => .inl h, fun b h => by
    cases e : H b with
    | none => exact absurd e h
    | some o => rw [k b o e]; exact fun z => nomatch z⟩
theorem grow_upd {a : Addr} {o : HO} (h : H a = none) : ∀ b u, H b = some u → upd H a o b = some u := fun b u e => by
  rw [upd_ne (ne_of_none e h)]; exact e
/-- a list that no slot owns becomes data -/
theorem stay_frz {a : Addr} {ys : List V} (o : Obj) (h : H a = some (.lst ys)) : ∀ b u, H b = some u → stays u = true → upd H a (.frz o (.lst ys)) b = some u := fun b u e s => by
  have : b ≠ a := fun z => by rw [z, h] at e; cases e; cases s
  rw [upd_ne this]; exact e
theorem EnvRel.frzTemp {a : Addr} {ys : List V} (o : Obj) (er : EnvRel K H σ ρ) (h : H a = some (.lst ys)) (no : ¬ Own σ ρ a) : EnvRel K (upd H a (.frz o (.lst ys))) σ ρ := by
  refine ⟨er.len, fun i b hb => ?_, er.inj⟩
  obtain ⟨v, e, d⟩ := er.den i b hb
  refine ⟨v, e, ?_⟩
  cases b with
  | d x => exact Fz.keep (stay_frz o h) d
  | l xs =>
    obtain ⟨a', ys', rfl, e2, e3⟩ := d
    have ne : a' ≠ a := fun z => no ⟨i, xs, hb, by rw [← z]; exact e⟩
    exact ⟨a', ys', rfl, by rw [upd_ne ne]; exact e2, FzAll.keep (stay_frz o h) e3⟩
theorem EnvRel.frzSlot {i : Nat} {xs : List PyData} {a : Addr} {ys : List V} (o : Obj) (er : EnvRel K H σ ρ) (hi : ρ[i]? = some (some (.l xs))) (hs : σ[i]? = some (some (.ref a))) (h : H a = some (.lst ys)) (hx : FzAll K H ys xs) :
    EnvRel K (upd H a (.frz o (.lst ys))) σ (ρ.set i (some (.d (.list xs)))) := by
  have hil : i < ρ.length := (List.getElem?_eq_some_iff.mp hi).1
  refine ⟨by rw [List.length_set]; exact er.len, fun j b hb => ?_, fun j k xs' ys' a' h1 h2 h3 h4 => ?_⟩
  · by_cases hj : i = j
    · subst hj
      rw [List.getElem?_set_self hil] at hb
      cases hb
      exact ⟨_, hs, .lst (.of upd_same) (hx.keep (stay_frz o h))⟩
    · rw [List.getElem?_set_ne hj] at hb
      obtain ⟨v, e, d⟩ := er.den j b hb
      refine ⟨v, e, ?_⟩
      cases b with
      | d x => exact Fz.keep (stay_frz o h) d
      | l zs =>
        obtain ⟨a', ys', rfl, e2, e3⟩ := d
        have ne : a' ≠ a := fun z => hj (er.inj i j xs zs a hi hb hs (by rw [← z]; exact e))
        exact ⟨a', ys', rfl, by rw [upd_ne ne]; exact e2, FzAll.keep (stay_frz o h) e3⟩
  · by_cases hj : i = j
    · subst hj
      rw [List.getElem?_set_self hil] at h1
      cases h1
    · by_cases hk : i = k
      · subst hk
        rw [List.getElem?_set_self hil] at h2
        cases h2
      · rw [List.getElem?_set_ne hj] at h1
        rw [List.getElem?_set_ne hk] at h2
        exact er.inj j k _ _ _ h1 h2 h3 h4
theorem own_frz {i : Nat} {x : PyData} {b : Addr} (h : Own σ (ρ.set i (some (.d x))) b) : Own σ ρ b := by
  obtain ⟨j, xs, h1, h2⟩ := h
  by_cases hj : i = j
  · subst hj
    by_cases hl : i < ρ.length
    · rw [List.getElem?_set_self hl] at h1; cases h1
    · rw [List.set_eq_of_length_le (by omega)] at h1; exact ⟨i, xs, h1, h2⟩
  · rw [List.getElem?_set_ne hj] at h1
    exact ⟨j, xs, h1, h2⟩
theorem upd_there {a : Addr} {o : HO} (b : Addr) (h : H b ≠ none) : upd H a o b ≠ none := by
  by_cases e : b = a
  · subst e; rw [upd_same]; exact fun z => nomatch z
  · rw [upd_ne e]; exact h
theorem Pst.frzTemp {a : Addr} {ys : List V} (o : Obj) (p : Pst K H σ ρ H1 σ1 ρ1) (h : H1 a = some (.lst ys)) (no : ¬ Own σ1 ρ1 a) (fr : Own σ ρ a ∨ H a = none) : Pst K H σ ρ (upd H1 a (.frz o (.lst ys))) σ1 ρ1 :=
  ⟨p.env.frzTemp o h no, fun b u e n => by
    have ne : b ≠ a := fun z => by
      subst z
      rcases fr with w | w
      · exact n w
      · rw [w] at e; cases e
    rw [upd_ne ne]; exact p.keep b u e n, p.own, fun b hb => upd_there b (p.there b hb)⟩
theorem Pst.frzSlot {i : Nat} {xs : List PyData} {a : Addr} {ys : List V} (o : Obj) (p : Pst K H σ ρ H1 σ1 ρ1) (hi : ρ1[i]? = some (some (.l xs))) (hs : σ1[i]? = some (some (.ref a))) (h : H1 a = some (.lst ys)) (hx : FzAll K H1 ys xs) :
    Pst K H σ ρ (upd H1 a (.frz o (.lst ys))) σ1 (ρ1.set i (some (.d (.list xs)))) :=
  ⟨p.env.frzSlot o hi hs h hx, fun b u e n => by
    have ne : b ≠ a := fun z => by
      subst z
      rcases p.own b ⟨i, xs, hi, hs⟩ with w | w
      · exact n w
      · rw [w] at e; cases e
    rw [upd_ne ne]; exact p.keep b u e n, fun b w => p.own b (own_frz w), fun b hb => upd_there b (p.there b hb)⟩
end

section
variable {X : Cx} {W : WX}
theorem pe_weak {e : Expr} {t t' : TE} (h : PE X e t) (w : ∀ σ H Q, t' σ H Q → t σ H Q) : PE X e t' := ⟨fun pins s σ H Q I q => h.run pins s σ H Q I (w σ H Q q)⟩
theorem pt_weak {e : Expr} {t t' : TT} (h : PT X e t) (w : ∀ σ H Q, t' σ H Q → t σ H Q) : PT X e t' := ⟨fun pins s σ H Q I q => h.run pins s σ H Q I (w σ H Q q)⟩
theorem pw_weak {e : Expr} {t t' : TT} (h : PW X e t) (w : ∀ σ H Q, t' σ H Q → t σ H Q) : PW X e t' := ⟨fun wh pins s σ H Q I q => h.run wh pins s σ H Q I (w σ H Q q)⟩
theorem pa_weak {e : List Expr} {t t' : TA} (h : PA X e t) (w : ∀ σ H Q, t' σ H Q → t σ H Q) : PA X e t' := ⟨fun pos pins s σ H Q I q => h.run pos pins s σ H Q I (w σ H Q q)⟩
theorem ps_weak {e : Stmt} {t t' : TS} (h : PS X e t) (w : ∀ D σ H, t' D σ H → t D σ H) : PS X e t' := ⟨fun pins s σ H D I q => h.run pins s σ H D I (w D σ H q)⟩
theorem pss_weak {e : List Stmt} {t t' : TS} (h : PSs X e t) (w : ∀ D σ H, t' D σ H → t D σ H) : PSs X e t' := ⟨fun pins s σ H D I q => h.run pins s σ H D I (w D σ H q)⟩

/-- a list may be locked behind an expression -/
def tFz (t : TE) : TE := fun σ H Q => t σ H fun v H1 => Q v H1 ∨ ∃ a ys, H1 a = some (.lst ys) ∧ ∀ o, Q v (upd H1 a (.frz o (.lst ys)))
theorem pe_fz {e : Expr} {t : TE} (h : PE X e t) : PE X e (tFz t) := by
  refine ⟨fun pins s σ H Q I hw => ?_⟩
  refine thn (h.run pins s σ H _ I hw) fun u s1 ⟨v, H1, I1, r, q⟩ => ?_
  rcases q with q | ⟨a, ys, e1, q⟩
  · exact ⟨v, H1, I1, r, q⟩
  · obtain ⟨o, I2⟩ := Inv.lock I1 e1 trivial
    exact ⟨v, _, I2, r, q o⟩

abbrev JE (X : Cx) (W : WX) (e : Expr) (c : Cd) : Prop := PE X e (tC X.K X.mg W c)
abbrev JT (X : Cx) (W : WX) (e : Expr) (c : Td) : Prop := PT X e (tT X.K X.mg W c)
abbrev JW (X : Cx) (W : WX) (e : Expr) (c : Td) : Prop := PW X e (tT X.K X.mg W c)
abbrev JA (X : Cx) (W : WX) (e : List Expr) (c : Ad) : Prop := PA X e (tA X.K X.mg W c)

theorem e_var {i : Nat} {x : Str} {pos : Pos} (hN : X.N[i]? = some x) (hv : Vis X.env.scope x) (hd : (x == ("__debug__" : Str)) = false := by decide) (hcd : (x == ("__classdict__" : Str)) = false := by decide) : JE X W (.Name x pos) (cVar i) :=
  pe_weak (pe_var hN hv hd hcd) fun σ H Q ⟨ρ, er, f⟩ => by
    unfold cVar at f
    cases e : slot ρ i with
    | none => rw [e] at f; exact f.elim
    | some b =>
      rw [e] at f
      obtain ⟨v, e1, _⟩ := er.den i b (slot_some e)
      exact ⟨v, e1, f v H (Pst.refl er) e1⟩
theorem e_c {e : Expr} {v : V} {x : PyData} (h : PE X e (L2.tC v)) (fz : ∀ H, Fz X.K H v x) : JE X W e (cK x) :=
  pe_weak h fun σ H Q ⟨ρ, er, f⟩ => f v H (Pst.refl er) (fz H)
theorem e_int {i : Int} {j : Nat} {pos : Pos} : JE X W (.Constant (.int i) j pos) (cK (.int i)) := e_c pe_int fun _ => .int i
theorem e_str {i : Str} {j : Nat} {pos : Pos} : JE X W (.Constant (.str i) j pos) (cK (.str i)) := e_c pe_str fun _ => .str i
theorem e_bl {i : Bool} {j : Nat} {pos : Pos} : JE X W (.Constant (.bool i) j pos) (cK (.bool i)) := e_c pe_bl fun _ => .bl i
theorem e_non {j : Nat} {pos : Pos} : JE X W (.Constant .none j pos) (cK .none) := e_c pe_non fun _ => .non
/-- a constant of the module -/
theorem e_glob {x : Str} {v : V} {u : Value} {d : PyData} {pos : Pos} (hg : Gl X x) (hm : X.mg x = some u) (r : RelV v u) (fz : ∀ H, Fz X.K H v d) (hd : (x == ("__debug__" : Str)) = false := by decide) : JE X W (.Name x pos) (cK d) :=
  e_c (pe_glob hg hm r hd) fz

theorem e_hold {e : Expr} {c : Cd} (h : JE X W e c) : JE X W e (cE c) :=
  pe_weak (pe_fz h) fun σ H Q ⟨ρ, er, f⟩ => by
    refine ⟨ρ, er, Fin.part f fun hd ρ1 _ f1 v H1 p dn => ?_⟩
    cases hd with
    | v b =>
      cases b with
      | d x => exact .inl (f1 v H1 p dn)
      | l xs =>
        obtain ⟨a, ys, rfl, h1, h2, no, fr⟩ := dn
        exact .inr ⟨a, ys, h1, fun o => f1 _ _ (p.frzTemp o h1 no fr) (.lst (.of upd_same) (h2.keep (stay_frz o h1)))⟩
    | s i =>
      simp only [hold] at f1
      cases e : slot ρ1 i with
      | none => rw [e] at f1; exact f1.elim
      | some b =>
        rw [e] at f1
        obtain ⟨v', e1, d1⟩ := p.env.den i b (slot_some e)
        have ev : v' = v := Option.some.inj (Option.some.inj (e1.symm.trans dn))
        subst ev
        cases b with
        | d x =>
          simp only [R.bind_ok, rd_d, set_same (slot_some e)] at f1
          exact .inl (f1 _ H1 p d1)
        | l xs =>
          obtain ⟨a, ys, rfl, h1, h2⟩ := d1
          exact .inr ⟨a, ys, h1, fun o => f1 _ _ (p.frzSlot o (slot_some e) e1 h1 h2) (.lst (.of upd_same) (h2.keep (stay_frz o h1)))⟩
theorem e_peek {e : Expr} {c : Cd} (h : JE X W e c) : JE X W e (cP c) :=
  pe_weak (pe_fz h) fun σ H Q ⟨ρ, er, f⟩ => by
    refine ⟨ρ, er, Fin.part f fun hd ρ1 _ f1 v H1 p dn => ?_⟩
    cases hd with
    | v b =>
      cases b with
      | d x => exact .inl (f1 v H1 p dn)
      | l xs =>
        obtain ⟨a, ys, rfl, h1, h2, no, fr⟩ := dn
        exact .inr ⟨a, ys, h1, fun o => f1 _ _ (p.frzTemp o h1 no fr) (.lst (.of upd_same) (h2.keep (stay_frz o h1)))⟩
    | s i => exact .inl (f1 v H1 p dn)

/-- what is given to an operator: data, or a slot's thing -/
def plainH : Hd → Prop
  | .v (.l _) => False
  | _ => True
def Pl (c : Cd) : Prop := ∀ ρ hd ρ1, c ρ = .ok hd ρ1 → plainH hd
theorem pl_var (i : Nat) : Pl (cVar i) := fun ρ hd ρ1 h => by
  unfold cVar at h
  cases e : slot ρ i with
  | none => rw [e] at h; cases h
  | some b => rw [e] at h; cases h; trivial
theorem pl_k (x : PyData) : Pl (cK x) := fun ρ hd ρ1 h => by cases h; trivial
theorem pl_E (c : Cd) : Pl (cE c) := fun ρ hd ρ1 h => by
  unfold cE at h
  cases e : c ρ with
  | ok h0 ρ0 =>
    rw [e, R.bind_ok] at h
    cases e1 : hold h0 ρ0 with
    | ok x ρ3 => rw [e1, R.bind_ok] at h; cases h; trivial
    | ex x ρ3 => rw [e1] at h; cases h
    | no => rw [e1] at h; cases h
  | ex x ρ0 => rw [e] at h; cases h
  | no => rw [e] at h; cases h
theorem pl_P (c : Cd) : Pl (cP c) := fun ρ hd ρ1 h => by
  unfold cP at h
  cases e : c ρ with
  | ok h0 ρ0 =>
    rw [e, R.bind_ok] at h
    cases h0 with
    | v b => cases h; trivial
    | s i => cases h; trivial
  | ex x ρ0 => rw [e] at h; cases h
  | no => rw [e] at h; cases h

section
variable {K : PySem.W.Frag} {H H1 H2 : Hp} {σ σ1 σ2 : St} {ρ ρ1 ρ2 : Env}
/-- a handle's thing, read at a later state -/
theorem DenR.vw {v : V} {hd : Hd} {x : PyData} (pl : plainH hd) (dn : DenR K H σ ρ H1 σ ρ1 v hd) (e1 : EnvRel K H1 σ ρ1) (q : Pst K H1 σ ρ1 H2 σ ρ2) (h : hd.rd ρ2 = some x) : Vw K H2 v x := by
  cases hd with
  | v b =>
    cases b with
    | d y => cases h; exact (q.fz e1 dn).vw
    | l xs => exact pl.elim
  | s i =>
    rw [hrd_s] at h
    cases e : slot ρ2 i with
    | none => rw [e] at h; cases h
    | some b =>
      rw [e] at h
      cases h
      obtain ⟨v', e2, d⟩ := q.env.den i b (slot_some e)
      have ev : v' = v := Option.some.inj (Option.some.inj (e2.symm.trans dn))
      subst ev
      cases b with
      | d y => exact Fz.vw d
      | l xs =>
        obtain ⟨a, ys, rfl, h1, h2⟩ := d
        exact .lst (.inl (.inl h1)) h2
end

/-- what an operation by values gives: something new, all that stood stands -/
def NewB (K : PySem.W.Frag) (H H1 : Hp) (v : V) (b : B) : Prop :=
  (∀ p o, H p = some o → H1 p = some o) ∧ match b with
    | .d x => Fz K H1 v x
    | .l xs => ∃ a ys, v = .ref a ∧ H1 a = some (.lst ys) ∧ FzAll K H1 ys xs ∧ H a = none
theorem NewB.fin {K : PySem.W.Frag} {mg : Str → Option Value} {H H1 H2 : Hp} {σ : St} {ρ ρ1 : Env} {v : V} {b : B} {Q : VK} (p : Pst K H σ ρ H1 σ ρ1) (n : NewB K H1 H2 v b)
    (f : Fin K mg W σ H ρ (fun H1 ρ1 v h => DenR K H σ ρ H1 σ ρ1 v h) (.ok (.v b) ρ1) Q) : Q v H2 := by
  have pg := Pst.grow p.env n.1
  refine f v H2 (p.trans pg) ?_
  refine DenR.start p (?_ : DenR K H1 σ ρ1 H2 σ ρ1 v (.v b))
  obtain ⟨k, n⟩ := n
  cases b with
  | d x => exact n
  | l xs =>
    obtain ⟨a, ys, e, h1, h2, h3⟩ := n
    refine ⟨a, ys, e, h1, h2, fun w => ?_, .inr h3⟩
    obtain ⟨zs, h4⟩ := p.env.owned w
    rw [h3] at h4
    cases h4

theorem Fin.laterC {K : PySem.W.Frag} {mg : Str → Option Value} {H H1 : Hp} {σ : St} {ρ ρ1 : Env} {r : R Hd} {Q : VK} (p : Pst K H σ ρ H1 σ ρ1)
    (f : Fin K mg W σ H ρ (fun H2 ρ2 v h => DenR K H σ ρ H2 σ ρ2 v h) r Q) : Fin K mg W σ H1 ρ1 (fun H2 ρ2 v h => DenR K H1 σ ρ1 H2 σ ρ2 v h) r Q :=
  Fin.later p (fun _ _ _ _ _ _ d => DenR.start p d) f

/-- an operation by values -/
def rB2 (K : PySem.W.Frag) (f : PyData → PyData → Option B) : V → V → Hp → VK → Prop := fun x y H Q => ∃ a b r, Vw K H x a ∧ Vw K H y b ∧ f a b = some r ∧ ∀ v H1, NewB K H H1 v r → Q v H1
def rB1 (K : PySem.W.Frag) (f : PyData → Option B) : V → Hp → VK → Prop := fun x H Q => ∃ a r, Vw K H x a ∧ f a = some r ∧ ∀ v H1, NewB K H H1 v r → Q v H1

theorem op_fin {f : PyData → PyData → Option B} {a b : Cd} (pa : Pl a) (pb : Pl b) {σ : St} {H : Hp} {Q : VK} (h : tC X.K X.mg W (cOp f a b) σ H Q) : tOp (rB2 X.K f) (tC X.K X.mg W a) (tC X.K X.mg W b) σ H Q := by
  obtain ⟨ρ, er, f0⟩ := h
  refine ⟨ρ, er, Fin.part f0 fun hd ρ1 c1 f1 v H1 p dn => ?_⟩
  refine ⟨ρ1, p.env, Fin.part (Fin.laterC p f1) fun hd2 ρ2 c2 f2 v2 H2 p2 dn2 => ?_⟩
  cases e1 : hd.rd ρ2 with
  | none => rw [e1] at f2; exact f2.elim
  | some x =>
    cases e2 : hd2.rd ρ2 with
    | none => rw [e1, e2] at f2; exact f2.elim
    | some y =>
      rw [e1, e2] at f2
      simp only at f2
      cases e3 : f x y with
      | none => rw [e3] at f2; exact f2.elim
      | some r =>
        rw [e3] at f2
        exact ⟨x, y, r, dn.vw (pa _ _ _ c1) p.env p2 e1, dn2.vw (pb _ _ _ c2) p2.env (Pst.refl p2.env) e2, e3, fun v3 H3 n => n.fin p2 f2⟩
theorem e_op {op : Operator} {f : PyData → PyData → Option B} {a b : Expr} {ca cb : Cd} {pos : Pos} (ho : OpR X (binaryOp op) (rB2 X.K f)) (ha : JE X W a ca) (hb : JE X W b cb) (pa : Pl ca) (pb : Pl cb) : JE X W (.BinOp a op b pos) (cOp f ca cb) :=
  pe_weak (pe_op ho ha hb) fun σ H Q h => op_fin pa pb h
theorem e_cmp {op : CmpOp} {f : PyData → PyData → Option B} {a b : Expr} {ca cb : Cd} {pos : Pos} (ho : OpR X (compareOp op) (rB2 X.K f)) (ha : JE X W a ca) (hb : JE X W b cb) (pa : Pl ca) (pb : Pl cb) (hm : behindInMarks op b = false) : JE X W (.Compare a [op] [b] pos) (cOp f ca cb) :=
  pe_weak (pe_cmpR ho ha hb hm) fun σ H Q h => op_fin pa pb h
theorem e_un {op : UnaryOp} {f : PyData → Option B} {a : Expr} {ca : Cd} {pos : Pos} (ho : UnR X (unaryOp op) (rB1 X.K f)) (ha : JE X W a ca) (pa : Pl ca) : JE X W (.UnaryOp op a pos) (cUn f ca) :=
  pe_weak (pe_un ho ha) fun σ H Q h => by
    obtain ⟨ρ, er, f0⟩ := h
    refine ⟨ρ, er, Fin.part f0 fun hd ρ1 c1 f1 v H1 p dn => ?_⟩
    cases e1 : hd.rd ρ1 with
    | none => rw [e1] at f1; exact f1.elim
    | some x =>
      rw [e1] at f1
      simp only at f1
      cases e3 : f x with
      | none => rw [e3] at f1; exact f1.elim
      | some r =>
        rw [e3] at f1
        exact ⟨x, r, dn.vw (pa _ _ _ c1) p.env (Pst.refl p.env) e1, e3, fun v3 H3 n => n.fin p f1⟩
end
end Sv
end
section
set_option autoImplicit false
set_option linter.all false
/-! Sv: choices, tests, arguments, displays, calls of built-ins, subscripts. -/
namespace Sv
open PySem PySem.Spec L2
open PyProof.Rows hiding St

section
variable {X : Cx} {W : WX}
section
variable {K : PySem.W.Frag} {mg : Str → Option Value} {H H1 H2 : Hp} {σ : St} {ρ ρ1 ρ2 : Env}
theorem Fin.laterT {β : Type} {r : R β} {Q : β → Hp → Prop} (p : Pst K H σ ρ H1 σ ρ1) (f : Fin K mg W σ H ρ (fun _ _ (v : β) k => v = k) r Q) : Fin K mg W σ H1 ρ1 (fun _ _ (v : β) k => v = k) r Q := Fin.later p (fun _ _ _ _ _ _ d => d) f
theorem Fin.laterA {r : R (List Hd)} {Q : List V → Hp → Prop} (p : Pst K H σ ρ H1 σ ρ1) (f : Fin K mg W σ H ρ (fun H1 _ v h => DenA K H1 σ v h) r Q) : Fin K mg W σ H1 ρ1 (fun H1 _ v h => DenA K H1 σ v h) r Q := Fin.later p (fun _ _ _ _ _ _ d => d) f
theorem Vw.bool {v : V} {k : Bool} (h : Vw K H v (.bool k)) : v = .bl k := by cases h; rfl
theorem Vw.int' {v : V} {k : Int} (h : Vw K H v (.int k)) : v = .int k := by cases h; rfl
theorem Vw.str' {v : V} {k : Str} (h : Vw K H v (.str k)) : v = .str k := by cases h; rfl
theorem Vw.non' {v : V} (h : Vw K H v .none) : v = .non := by cases h; rfl
end

theorem e_if {c a b : Expr} {t : Td} {ca cb : Cd} {pos : Pos} (hc : JT X W c t) (ha : JE X W a ca) (hb : JE X W b cb) : JE X W (.IfExp c a b pos) (cIf t ca cb) :=
  pe_weak (pe_ifExp hc ha hb) fun σ H Q ⟨ρ, er, f⟩ => by
    refine ⟨ρ, er, Fin.part f fun k ρ1 _ f1 v H1 p dn => ?_⟩
    subst dn
    cases v with
    | true => exact ⟨ρ1, p.env, Fin.laterC p f1⟩
    | false => exact ⟨ρ1, p.env, Fin.laterC p f1⟩
theorem e_one {op : BoolOp} {a : Expr} {ca : Cd} {pos : Pos} (ha : JE X W a ca) : JE X W (.BoolOp op [a] pos) ca := pe_one ha
theorem e_and {a b : Expr} {rest : List Expr} {ca cb : Cd} {pos : Pos} (ha : JE X W a ca) (pa : Pl ca) (hb : JE X W (.BoolOp .And (b :: rest) pos) cb) : JE X W (.BoolOp .And (a :: b :: rest) pos) (cAnd ca cb) :=
  pe_weak (pe_and ha hb) fun σ H Q ⟨ρ, er, f⟩ => by
    refine ⟨ρ, er, Fin.part f fun hd ρ1 c1 f1 v H1 p dn => ?_⟩
    cases e1 : hd.rd ρ1 with
    | none => rw [e1] at f1; exact f1.elim
    | some x =>
      rw [e1] at f1
      have hx := dn.vw (pa _ _ _ c1) p.env (Pst.refl p.env) e1
      cases x with
      | bool k =>
        cases Vw.bool hx
        cases k with
        | true => exact ⟨true, rfl, ρ1, p.env, Fin.laterC p f1⟩
        | false => exact ⟨false, rfl, f1 _ H1 p (.bl false)⟩
      | _ => exact f1.elim
theorem e_or {a b : Expr} {rest : List Expr} {ca cb : Cd} {pos : Pos} (ha : JE X W a ca) (pa : Pl ca) (hb : JE X W (.BoolOp .Or (b :: rest) pos) cb) : JE X W (.BoolOp .Or (a :: b :: rest) pos) (cOr ca cb) :=
  pe_weak (pe_or ha hb) fun σ H Q ⟨ρ, er, f⟩ => by
    refine ⟨ρ, er, Fin.part f fun hd ρ1 c1 f1 v H1 p dn => ?_⟩
    cases e1 : hd.rd ρ1 with
    | none => rw [e1] at f1; exact f1.elim
    | some x =>
      rw [e1] at f1
      have hx := dn.vw (pa _ _ _ c1) p.env (Pst.refl p.env) e1
      cases x with
      | bool k =>
        cases Vw.bool hx
        cases k with
        | true => exact ⟨true, rfl, f1 _ H1 p (.bl true)⟩
        | false => exact ⟨false, rfl, ρ1, p.env, Fin.laterC p f1⟩
      | _ => exact f1.elim
theorem e_not {a : Expr} {ca : Cd} {pos : Pos} (ha : JE X W a ca) (pa : Pl ca) : JE X W (.UnaryOp .Not a pos) (cNot ca) :=
  pe_weak (pe_not ha) fun σ H Q ⟨ρ, er, f⟩ => by
    refine ⟨ρ, er, Fin.part f fun hd ρ1 c1 f1 v H1 p dn => ?_⟩
    cases e1 : hd.rd ρ1 with
    | none => rw [e1] at f1; exact f1.elim
    | some x =>
      rw [e1] at f1
      have hx := dn.vw (pa _ _ _ c1) p.env (Pst.refl p.env) e1
      cases x with
      | bool k =>
        cases Vw.bool hx
        exact ⟨k, rfl, f1 _ H1 p (.bl (!k))⟩
      | _ => exact f1.elim

/-! ### tests -/
/-- an expression whose value is a bool, as a test -/
theorem t_val {a : Expr} {ca : Cd} (ha : JE X W a ca) (pa : Pl ca) (he : ∀ whole, isTrue a X.env whole = (do let v ← whole; standAt a.pos; holding [v] (truthy v)) := by intro _; rfl) : JT X W a (Sv.tB ca) :=
  pt_weak (pt_val ha he) fun σ H Q ⟨ρ, er, f⟩ => by
    refine ⟨ρ, er, Fin.part f fun hd ρ1 c1 f1 v H1 p dn => ?_⟩
    cases e1 : hd.rd ρ1 with
    | none => rw [e1] at f1; exact f1.elim
    | some x =>
      rw [e1] at f1
      have hx := dn.vw (pa _ _ _ c1) p.env (Pst.refl p.env) e1
      cases x with
      | bool k =>
        cases Vw.bool hx
        exact ⟨k, rfl, f1 k H1 p rfl⟩
      | _ => exact f1.elim
theorem t_cmp {op : CmpOp} {f : PyData → PyData → Option B} {a b : Expr} {ca cb : Cd} {pos : Pos} (ho : OpR X (compareOp op) (rB2 X.K f)) (ha : JE X W a ca) (hb : JE X W b cb) (pa : Pl ca) (pb : Pl cb) (hm : behindInMarks op b = false)
    (hp : ∀ x y r, f x y = some r → ∃ z, r = .d z) : JT X W (.Compare a [op] [b] pos) (Sv.tB (cOp f ca cb)) :=
  pt_weak (pt_cmpR ho ha hb hm) fun σ H Q ⟨ρ, er, f0⟩ => by
    refine op_fin (Q := fun x H1 => ∃ k, x = .bl k ∧ Q k H1) pa pb ⟨ρ, er, Fin.part f0 fun hd ρ1 c1 f1 v H1 p dn => ?_⟩
    have pl : plainH hd := by
      unfold cOp at c1
      cases e : ca ρ with
      | ok h0 ρ0 =>
        rw [e, R.bind_ok] at c1
        cases e' : cb ρ0 with
        | ok h2 ρ2 =>
          rw [e', R.bind_ok] at c1
          cases e1 : h0.rd ρ2 with
          | none => rw [e1] at c1; cases c1
          | some x =>
            cases e2 : h2.rd ρ2 with
            | none => rw [e1, e2] at c1; cases c1
            | some y =>
              rw [e1, e2] at c1
              simp only at c1
              cases e3 : f x y with
              | none => rw [e3] at c1; cases c1
              | some r =>
                rw [e3] at c1
                obtain ⟨z, rfl⟩ := hp x y r e3
                cases c1
                trivial
        | ex x ρ2 => rw [e'] at c1; cases c1
        | no => rw [e'] at c1; cases c1
      | ex x ρ0 => rw [e] at c1; cases c1
      | no => rw [e] at c1; cases c1
    cases e1 : hd.rd ρ1 with
    | none => rw [e1] at f1; exact f1.elim
    | some x =>
      rw [e1] at f1
      have hx := dn.vw pl p.env (Pst.refl p.env) e1
      cases x with
      | bool k =>
        cases Vw.bool hx
        exact ⟨k, rfl, f1 k H1 p rfl⟩
      | _ => exact f1.elim
theorem t_not {a : Expr} {t : Td} {pos : Pos} (ha : JT X W a t) : JT X W (.UnaryOp .Not a pos) (Sv.tNot t) :=
  pt_weak (pt_not ha) fun σ H Q ⟨ρ, er, f⟩ => by
    refine ⟨ρ, er, Fin.part f fun k ρ1 _ f1 v H1 p dn => ?_⟩
    subst dn
    exact f1 (!v) H1 p rfl
theorem w_and1 {a : Expr} {t : Td} {pos : Pos} (ha : JT X W a t) : JW X W (.BoolOp .And [a] pos) t := pw_and1 ha
theorem w_or1 {a : Expr} {t : Td} {pos : Pos} (ha : JT X W a t) : JW X W (.BoolOp .Or [a] pos) t := pw_or1 ha
theorem w_and {a b : Expr} {rest : List Expr} {t u : Td} {pos : Pos} (ha : JT X W a t) (hb : JW X W (.BoolOp .And (b :: rest) pos) u) : JW X W (.BoolOp .And (a :: b :: rest) pos) (Sv.tAnd t u) :=
  pw_weak (pw_and ha hb) fun σ H Q ⟨ρ, er, f⟩ => by
    refine ⟨ρ, er, Fin.part f fun k ρ1 _ f1 v H1 p dn => ?_⟩
    subst dn
    cases v with
    | true => exact ⟨ρ1, p.env, Fin.laterT p f1⟩
    | false => exact f1 false H1 p rfl
theorem w_or {a b : Expr} {rest : List Expr} {t u : Td} {pos : Pos} (ha : JT X W a t) (hb : JW X W (.BoolOp .Or (b :: rest) pos) u) : JW X W (.BoolOp .Or (a :: b :: rest) pos) (Sv.tOr t u) :=
  pw_weak (pw_or ha hb) fun σ H Q ⟨ρ, er, f⟩ => by
    refine ⟨ρ, er, Fin.part f fun k ρ1 _ f1 v H1 p dn => ?_⟩
    subst dn
    cases v with
    | true => exact f1 true H1 p rfl
    | false => exact ⟨ρ1, p.env, Fin.laterT p f1⟩
theorem t_w {a : Expr} {t : Td} (h : JW X W a t) : JT X W a t := h.pt

/-! ### arguments -/
theorem a_nil : JA X W [] aNil := pa_weak pa_nil fun σ H Q ⟨ρ, er, f⟩ => f [] H (Pst.refl er) .nil
section
variable {K : PySem.W.Frag} {H H1 H2 : Hp} {σ : St} {ρ ρ1 ρ2 : Env}
theorem DenA.of {v : V} {hd : Hd} {vs : List V} {hs : List Hd} (pl : plainH hd) (dn : DenR K H σ ρ H1 σ ρ1 v hd) (e1 : EnvRel K H1 σ ρ1) (q : Pst K H1 σ ρ1 H2 σ ρ2) (t : DenA K H2 σ vs hs) : DenA K H2 σ (v :: vs) (hd :: hs) := by
  cases hd with
  | v b => cases b with
    | d x => exact .data (q.fz e1 dn) t
    | l xs => exact pl.elim
  | s i => exact .slot dn t
theorem DenA.dps : ∀ {vs : List V} {hs : List Hd}, DenA K H σ vs hs → EnvRel K H σ ρ → ∀ {xs : List PyData}, rds hs ρ = some xs → VwAll K H vs xs
  | _, _, .nil, _, xs, h => by cases h; exact .nil
  | _, _, .data fz t, er, xs, h => by
    rw [rds_cons, hrd_v] at h
    cases e : rds _ ρ with
    | none => rw [e] at h; cases h
    | some ys => rw [e] at h; cases h; exact .cons fz.vw (DenA.dps t er e)
  | _, _, .slot (i := i) (v := v) hs t, er, xs, h => by
    rw [rds_cons] at h
    cases e1 : (Hd.s i).rd ρ with
    | none => rw [e1] at h; cases h
    | some y =>
      cases e : rds _ ρ with
      | none => rw [e1, e] at h; cases h
      | some ys =>
        rw [e1, e] at h
        cases h
        exact .cons (DenR.vw (H := H) (ρ := ρ) (hd := .s i) trivial hs er (Pst.refl er) e1) (DenA.dps t er e)
theorem DenA.datas : ∀ {vs : List V} {hs : List Hd}, DenA K H σ vs hs → ∀ {xs : List PyData}, Sv.datas hs = some xs → FzAll K H vs xs
  | _, _, .nil, xs, h => by cases h; exact .nil
  | _, _, .data fz t, xs, h => by
    rw [datas_cons] at h
    cases e : Sv.datas _ with
    | none => rw [e] at h; cases h
    | some ys => rw [e] at h; cases h; exact .cons fz (DenA.datas t e)
  | _, _, .slot _ _, xs, h => by cases h
end
theorem a_cons {e : Expr} {es : List Expr} {c : Cd} {a : Ad} (ha : JE X W e c) (pl : Pl c) (hr : JA X W es a) (hs : starEach (e :: es) X.env = (false, eval e X.env) :: starEach es X.env := by rfl) : JA X W (e :: es) (aCons c a) :=
  pa_weak (pa_cons ha hr hs) fun σ H Q ⟨ρ, er, f⟩ => by
    refine ⟨ρ, er, Fin.part f fun hd ρ1 c1 f1 v H1 p dn => ?_⟩
    refine ⟨ρ1, p.env, Fin.part (Fin.laterA p f1) fun hs ρ2 c2 f2 vs H2 p2 dn2 => ?_⟩
    exact f2 (v :: vs) H2 p2 (DenA.of (pl _ _ _ c1) dn p.env p2 dn2)

/-! ### displays -/
theorem new_tup {K : PySem.W.Frag} {H : Hp} {p : Addr} {vs : List V} {xs : List PyData} (hp : H p = none) (h : FzAll K H vs xs) : NewB K H (upd H p (.tup vs)) (.ref p) (.d (.tuple xs)) :=
  ⟨grow_upd hp, .tup (.inl (.inl upd_same)) (h.keep fun b o e _ => grow_upd hp b o e)⟩
theorem new_lst {K : PySem.W.Frag} {H : Hp} {p : Addr} {vs : List V} {xs : List PyData} (hp : H p = none) (h : FzAll K H vs xs) : NewB K H (upd H p (.lst vs)) (.ref p) (.l xs) :=
  ⟨grow_upd hp, p, vs, rfl, upd_same, h.keep fun b o e _ => grow_upd hp b o e, hp⟩
theorem e_tup {es : List Expr} {a : Ad} {x1 : Nat} {pos : Pos} (h : JA X W es a) : JE X W (.Tuple es x1 pos) (cTup a) :=
  pe_weak (pe_tup h) fun σ H Q ⟨ρ, er, f⟩ => by
    refine ⟨ρ, er, Fin.part f fun hs ρ1 c1 f1 vs H1 p dn => ?_⟩
    cases e : Sv.datas hs with
    | none => rw [e] at f1; exact f1.elim
    | some xs =>
      rw [e] at f1
      simp only at f1
      split at f1
      · rename_i hl
        have hx := dn.datas e
        exact ⟨by rw [hx.length]; exact hl, fun q hq => (new_tup hq hx).fin p f1⟩
      · exact f1.elim
theorem e_lst {es : List Expr} {a : Ad} {pos : Pos} (h : JA X W es a) : JE X W (.List es pos) (cLst a) :=
  pe_weak (pe_lst h) fun σ H Q ⟨ρ, er, f⟩ => by
    refine ⟨ρ, er, Fin.part f fun hs ρ1 c1 f1 vs H1 p dn => ?_⟩
    cases e : Sv.datas hs with
    | none => rw [e] at f1; exact f1.elim
    | some xs =>
      rw [e] at f1
      simp only at f1
      split at f1
      · rename_i hl
        have hx := dn.datas e
        exact ⟨by rw [hx.length]; exact hl, fun q hq => (new_lst hq hx).fin p f1⟩
      · exact f1.elim

/-! ### built-ins -/
def rBn (K : PySem.W.Frag) (f : List PyData → Option B) : List V → Hp → VK → Prop := fun vs H Q => ∃ xs r, VwAll K H vs xs ∧ f xs = some r ∧ ∀ v H1, NewB K H H1 v r → Q v H1
theorem call_fin {f : List PyData → Option B} {a : Ad} {σ : St} {H : Hp} {Q : VK} (h : tC X.K X.mg W (cCall f a) σ H Q) : tCB (rBn X.K f) (tA X.K X.mg W a) σ H Q := by
  obtain ⟨ρ, er, f0⟩ := h
  refine ⟨ρ, er, Fin.part f0 fun hs ρ1 c1 f1 vs H1 p dn => ?_⟩
  cases e : rds hs ρ1 with
  | none => rw [e] at f1; exact f1.elim
  | some xs =>
    rw [e] at f1
    simp only at f1
    cases e3 : f xs with
    | none => rw [e3] at f1; exact f1.elim
    | some r =>
      rw [e3] at f1
      exact ⟨xs, r, dn.dps p.env e, e3, fun v H2 n => n.fin p f1⟩
theorem e_callB {x : Str} {p pos : Pos} {e : Expr} {es : List Expr} {id : String} {f : List PyData → Option B} {a : Ad} (hc : CallR X (.builtin id) (rBn X.K f)) (hg : Gl X x) (hm : X.mg x = none) (hv : bootBuiltins x = some (.builtin id)) (ha : JA X W (e :: es) a) (hn : x ≠ "__name__" := by decide) (hdb : (x == ("__debug__" : Str)) = false := by decide)
    (he : starEach (e :: es) X.env = (false, eval e X.env) :: starEach es X.env := by rfl) (hpl : (backTo pos (starEach es X.env)).any (·.1) = false := by rfl) : JE X W (.Call (.Name x p) (e :: es) [] pos) (cCall f a) :=
  pe_weak (pe_callB hc hg hm hv ha hn hdb he hpl) fun σ H Q h => call_fin h
theorem e_callTy {x : Str} {p pos : Pos} {e : Expr} {es : List Expr} {T : String} {f : List PyData → Option B} {a : Ad} (hc : CallR X (.type T) (rBn X.K f)) (hg : Gl X x) (hm : X.mg x = none) (hv : bootBuiltins x = some (.type T)) (ha : JA X W (e :: es) a) (hn : x ≠ "__name__" := by decide) (hdb : (x == ("__debug__" : Str)) = false := by decide)
    (he : starEach (e :: es) X.env = (false, eval e X.env) :: starEach es X.env := by rfl) (hpl : (backTo pos (starEach es X.env)).any (·.1) = false := by rfl) : JE X W (.Call (.Name x p) (e :: es) [] pos) (cCall f a) :=
  pe_weak (pe_callTy hc hg hm hv ha hn hdb he hpl) fun σ H Q h => call_fin h
/-! ### subscripts -/
theorem e_ix {a b : Expr} {f : PyData → PyData → Option B} {ca cb : Cd} {pos : Pos} (hr : IxR X (rB2 X.K f)) (ha : JE X W a ca) (hb : JE X W b cb) (pa : Pl ca) (pb : Pl cb) (hs : PlainIx b) : JE X W (.Subscript a b pos) (cOp f ca cb) :=
  pe_weak (pe_ix hr ha hb hs) fun σ H Q h => op_fin pa pb h
end
end Sv
end
section
set_option autoImplicit false
set_option linter.all false
/-! Sv: statements. -/
namespace Sv
open PySem PySem.Spec L2
open PyProof.Rows hiding St

/-- the slots that are never stored to keep their values -/
structure Fx (io : List Nat) (σ σ1 : St) : Prop where
  len : σ1.length = σ.length
  at_ : ∀ j ∈ io, σ1[j]? = σ[j]?
theorem Fx.refl {io : List Nat} {σ : St} : Fx io σ σ := ⟨rfl, fun _ _ => rfl⟩
theorem Fx.trans {io : List Nat} {σ σ1 σ2 : St} (a : Fx io σ σ1) (b : Fx io σ1 σ2) : Fx io σ σ2 := ⟨b.len.trans a.len, fun j h => (b.at_ j h).trans (a.at_ j h)⟩
theorem Fx.set {io : List Nat} {σ : St} {i : Nat} {v : Option V} (h : i ∉ io) : Fx io σ (σ.set i v) := ⟨List.length_set, fun j hj => List.getElem?_set_ne fun (e : i = j) => h (by rw [e]; exact hj)⟩

def FinS (K : PySem.W.Frag) (mg : Str → Option Value) (W : WX) (io : List Nat) (D : Ends) (σ : St) (H : Hp) (ρ : Env) (r : RS) : Prop :=
  match r with
  | .nx ρ1 => ∀ σ1 H1, Pst K H σ ρ H1 σ1 ρ1 → Fx io σ σ1 → D.nx σ1 H1
  | .bk ρ1 => ∀ σ1 H1, Pst K H σ ρ H1 σ1 ρ1 → Fx io σ σ1 → D.bk σ1 H1
  | .ct ρ1 => ∀ σ1 H1, Pst K H σ ρ H1 σ1 ρ1 → Fx io σ σ1 → D.ct σ1 H1
  | .rt b ρ1 => ∀ v σ1 H1, Pst K H σ ρ H1 σ1 ρ1 → Fx io σ σ1 → DenR K H σ ρ H1 σ1 ρ1 v (.v b) → D.rt v H1
  | .ex x ρ1 => ∀ cls dd σ1 H1, Pst K H σ ρ H1 σ1 ρ1 → Fx io σ σ1 → ExRel K mg H1 x cls dd → W cls dd σ1 H1
  | .no => False
def tS (K : PySem.W.Frag) (mg : Str → Option Value) (W : WX) (io : List Nat) (c : Sd) : TS := fun D σ H => ∃ ρ, EnvRel K H σ ρ ∧ FinS K mg W io D σ H ρ (c ρ)

section
variable {K : PySem.W.Frag} {mg : Str → Option Value} {W : WX} {io : List Nat} {D : Ends} {H H1 H2 : Hp} {σ σ1 σ2 : St} {ρ ρ1 ρ2 : Env}
theorem FinS.later {r : RS} (p : Pst K H σ ρ H1 σ1 ρ1) (x : Fx io σ σ1) (f : FinS K mg W io D σ H ρ r) : FinS K mg W io D σ1 H1 ρ1 r := by
  cases r with
  | nx ρ2 => exact fun σ2 H2 q y => f σ2 H2 (p.trans q) (x.trans y)
  | bk ρ2 => exact fun σ2 H2 q y => f σ2 H2 (p.trans q) (x.trans y)
  | ct ρ2 => exact fun σ2 H2 q y => f σ2 H2 (p.trans q) (x.trans y)
  | rt b ρ2 => exact fun v σ2 H2 q y d => f v σ2 H2 (p.trans q) (x.trans y) (DenR.start p d)
  | ex e ρ2 => exact fun cls dd σ2 H2 q y d => f cls dd σ2 H2 (p.trans q) (x.trans y) d
  | no => exact f
/-- an expression ahead of a statement's rest -/
theorem FinS.part {α β : Type} {Rel : Hp → Env → β → α → Prop} {r : R α} {k : α → Env → RS} {G : β → Hp → Prop}
    (f : FinS K mg W io D σ H ρ (r.toS k)) (g : ∀ a ρ1, r = .ok a ρ1 → FinS K mg W io D σ H ρ (k a ρ1) → ∀ v H1, Pst K H σ ρ H1 σ ρ1 → Rel H1 ρ1 v a → G v H1) : Fin K mg W σ H ρ Rel r G := by
  cases r with
  | ok a ρ1 => exact fun v H1 p d => g a ρ1 rfl f v H1 p d
  | ex x ρ1 => exact fun cls dd H1 p d => f cls dd σ H1 p .refl d
  | no => exact f
/-- a statement ahead of others -/
theorem FinS.seq {r : RS} {k : Env → RS} {D' : Ends} (hr : D'.rt = D.rt) (hb : D'.bk = D.bk) (hc : D'.ct = D.ct)
    (f : FinS K mg W io D σ H ρ (r.seq k)) (g : ∀ ρ1, r = .nx ρ1 → FinS K mg W io D σ H ρ (k ρ1) → ∀ σ1 H1, Pst K H σ ρ H1 σ1 ρ1 → Fx io σ σ1 → D'.nx σ1 H1) : FinS K mg W io D' σ H ρ r := by
  cases r with
  | nx ρ1 => exact fun σ1 H1 p x => g ρ1 rfl f σ1 H1 p x
  | bk ρ2 => exact fun σ2 H2 q y => by rw [hb]; exact f σ2 H2 q y
  | ct ρ2 => exact fun σ2 H2 q y => by rw [hc]; exact f σ2 H2 q y
  | rt b ρ2 => exact fun v σ2 H2 q y d => by rw [hr]; exact f v σ2 H2 q y d
  | ex e ρ2 => exact f
  | no => exact f

/-! ### stores -/
theorem own_set {i : Nat} {v : Option V} {b : Option B} {a : Addr} (er : EnvRel K H σ ρ) (h : Own (σ.set i v) (ρ.set i b) a) : Own σ ρ a ∨ (v = some (.ref a) ∧ ∃ xs, b = some (.l xs)) := by
  obtain ⟨j, xs, h1, h2⟩ := h
  by_cases hj : i = j
  · subst hj
    by_cases hl : i < ρ.length
    · rw [List.getElem?_set_self hl] at h1
      rw [List.getElem?_set_self (by rw [← er.len]; exact hl)] at h2
      exact .inr ⟨Option.some.inj h2, xs, Option.some.inj h1⟩
    · rw [List.set_eq_of_length_le (by omega)] at h1
      rw [List.set_eq_of_length_le (by rw [← er.len]; omega)] at h2
      exact .inl ⟨i, xs, h1, h2⟩
  · rw [List.getElem?_set_ne hj] at h1 h2
    exact .inl ⟨j, xs, h1, h2⟩
/-- a slot gets a value: data, or a list that no slot owns -/
theorem EnvRel.put {i : Nat} {v : V} {b : B} (er : EnvRel K H σ ρ) (hd : DenB K H v b) (hn : ∀ xs a, b = .l xs → v = .ref a → ¬ Own σ ρ a) : EnvRel K H (σ.set i (some v)) (ρ.set i (some b)) := by
  refine ⟨by rw [List.length_set, List.length_set]; exact er.len, fun j c hc => ?_, fun j k xs ys a h1 h2 h3 h4 => ?_⟩
  · by_cases hj : i = j
    · subst hj
      by_cases hl : i < ρ.length
      · rw [List.getElem?_set_self hl] at hc
        cases hc
        exact ⟨v, List.getElem?_set_self (by rw [← er.len]; exact hl), hd⟩
      · rw [List.set_eq_of_length_le (by omega)] at hc
        exact absurd (List.getElem?_eq_some_iff.mp hc).1 hl
    · rw [List.getElem?_set_ne hj] at hc ⊢
      exact er.den j c hc
  · by_cases hl : i < ρ.length
    · have hl' : i < σ.length := by rw [← er.len]; exact hl
      by_cases hj : i = j
      · subst hj
        by_cases hk : i = k
        · exact hk
        · rw [List.getElem?_set_self hl] at h1
          rw [List.getElem?_set_self hl'] at h3
          rw [List.getElem?_set_ne hk] at h2 h4
          exact absurd ⟨k, ys, h2, h4⟩ (hn xs a (Option.some.inj (Option.some.inj h1)) (Option.some.inj (Option.some.inj h3)))
      · by_cases hk : i = k
        · subst hk
          rw [List.getElem?_set_self hl] at h2
          rw [List.getElem?_set_self hl'] at h4
          rw [List.getElem?_set_ne hj] at h1 h3
          exact absurd ⟨j, xs, h1, h3⟩ (hn ys a (Option.some.inj (Option.some.inj h2)) (Option.some.inj (Option.some.inj h4)))
        · rw [List.getElem?_set_ne hj] at h1 h3
          rw [List.getElem?_set_ne hk] at h2 h4
          exact er.inj j k xs ys a h1 h2 h3 h4
    · rw [List.set_eq_of_length_le (by omega)] at h1 h2
      rw [List.set_eq_of_length_le (by rw [← er.len]; omega)] at h3 h4
      exact er.inj j k xs ys a h1 h2 h3 h4
theorem Pst.put {i : Nat} {v : V} {b : B} (p : Pst K H σ ρ H1 σ1 ρ1) (d : DenR K H σ ρ H1 σ1 ρ1 v (.v b)) : Pst K H σ ρ H1 (σ1.set i (some v)) (ρ1.set i (some b)) := by
  cases b with
  | d x =>
    refine ⟨p.env.put (b := .d x) d (fun xs a e => nomatch e), p.keep, fun a w => ?_, p.there⟩
    rcases own_set p.env w with w | ⟨_, xs, e⟩
    · exact p.own a w
    · cases e
  | l xs =>
    obtain ⟨a, ys, rfl, h1, h2, h3, h4⟩ := d
    refine ⟨p.env.put (b := .l xs) ⟨a, ys, rfl, h1, h2⟩ (fun _ a' _ e => by cases e; exact h3), p.keep, fun a' w => ?_, p.there⟩
    rcases own_set p.env w with w | ⟨e, _⟩
    · exact p.own a' w
    · cases e
      exact h4
/-- a slot is forgotten -/
theorem EnvRel.drop {i : Nat} (er : EnvRel K H σ ρ) : EnvRel K H σ (ρ.set i none) := by
  have sub : ∀ {j : Nat} {b : B}, (ρ.set i none)[j]? = some (some b) → ρ[j]? = some (some b) ∧ i ≠ j := fun {j b} h => by
    by_cases hj : i = j
    · subst hj
      by_cases hl : i < ρ.length
      · rw [List.getElem?_set_self hl] at h; cases h
      · rw [List.set_eq_of_length_le (by omega)] at h
        exact absurd (List.getElem?_eq_some_iff.mp h).1 hl
    · rw [List.getElem?_set_ne hj] at h
      exact ⟨h, hj⟩
  exact ⟨by rw [List.length_set]; exact er.len, fun j b h => er.den j b (sub h).1, fun j k xs ys a h1 h2 => er.inj j k xs ys a (sub h1).1 (sub h2).1⟩
theorem own_drop {i : Nat} {a : Addr} (h : Own σ (ρ.set i none) a) : Own σ ρ a := by
  obtain ⟨j, xs, h1, h2⟩ := h
  by_cases hj : i = j
  · subst hj
    by_cases hl : i < ρ.length
    · rw [List.getElem?_set_self hl] at h1; cases h1
    · rw [List.set_eq_of_length_le (by omega)] at h1
      exact ⟨i, xs, h1, h2⟩
  · rw [List.getElem?_set_ne hj] at h1
    exact ⟨j, xs, h1, h2⟩
theorem Pst.drop {i : Nat} (p : Pst K H σ ρ H1 σ1 ρ1) : Pst K H σ ρ H1 σ1 (ρ1.set i none) := ⟨p.env.drop, p.keep, fun a w => p.own a (own_drop w), p.there⟩
end

section
variable {X : Cx} {W : WX} {io : List Nat}
abbrev JS (X : Cx) (W : WX) (io : List Nat) (st : Stmt) (c : Sd) : Prop := PS X st (tS X.K X.mg W io c)
abbrev JB (X : Cx) (W : WX) (io : List Nat) (st : List Stmt) (c : Sd) : Prop := PSs X st (tS X.K X.mg W io c)

theorem b_nil : JB X W io [] sNil := pss_weak pss_nil fun D σ H ⟨ρ, er, f⟩ => f σ H (Pst.refl er) .refl
theorem b_cons {st : Stmt} {rest : List Stmt} {a b : Sd} (ha : JS X W io st a) (hb : JB X W io rest b) : JB X W io (st :: rest) (sCons a b) :=
  pss_weak (pss_cons ha hb) fun D σ H ⟨ρ, er, f⟩ => ⟨ρ, er, FinS.seq (D := D) (k := b) rfl rfl rfl f fun ρ1 _ f1 σ1 H1 p x => ⟨ρ1, p.env, FinS.later p x f1⟩⟩
theorem b_one {st : Stmt} {a : Sd} (ha : JS X W io st a) : JB X W io [st] a := pss_one ha
theorem s_pass {pos : Pos} : JS X W io (.Pass pos) sPass := ps_weak ps_pass fun D σ H ⟨ρ, er, f⟩ => f σ H (Pst.refl er) .refl
theorem s_break {pos : Pos} : JS X W io (.Break pos) sBreak := ps_weak ps_break fun D σ H ⟨ρ, er, f⟩ => f σ H (Pst.refl er) .refl
theorem s_cont {pos : Pos} : JS X W io (.Continue pos) sCont := ps_weak ps_continue fun D σ H ⟨ρ, er, f⟩ => f σ H (Pst.refl er) .refl
theorem s_expr {e : Expr} {c : Cd} {pos : Pos} (h : JE X W e c) (hs : swapsWith e none pos.line X.env = pure false := by rfl) : JS X W io (.Expr e pos) (sExpr c) :=
  ps_weak (ps_expr h hs) fun D σ H ⟨ρ, er, f⟩ => ⟨ρ, er, FinS.part f fun hd ρ1 _ f1 v H1 p _ => f1 σ H1 p .refl⟩
theorem s_ret {e : Expr} {c : Cd} {pos : Pos} (h : JE X W e c) : JS X W io (.Return (some e) pos) (sRet c) :=
  ps_weak (ps_ret h) fun D σ H ⟨ρ, er, f⟩ => by
    refine ⟨ρ, er, FinS.part f fun hd ρ1 _ f1 v H1 p dn => ?_⟩
    cases hd with
    | v b => exact f1 v σ H1 p .refl dn
    | s i =>
      simp only at f1
      cases e : slot ρ1 i with
      | none => rw [e] at f1; exact f1.elim
      | some b =>
        rw [e] at f1
        obtain ⟨v', e1, d1⟩ := p.env.den i b (slot_some e)
        have ev : v' = v := Option.some.inj (Option.some.inj (e1.symm.trans dn))
        subst ev
        refine f1 _ σ H1 p.drop .refl ?_
        cases b with
        | d x => exact d1
        | l xs =>
          obtain ⟨a, ys, rfl, h1, h2⟩ := d1
          refine ⟨a, ys, rfl, h1, h2, fun w => ?_, p.own a ⟨i, xs, slot_some e, e1⟩⟩
          obtain ⟨j, zs, w1, w2⟩ := w
          have hj : i ≠ j := fun z => by
            subst z
            have hl : i < ρ1.length := (List.getElem?_eq_some_iff.mp (slot_some e)).1
            rw [List.getElem?_set_self hl] at w1
            cases w1
          rw [List.getElem?_set_ne hj] at w1
          exact hj (p.env.inj i j xs zs a (slot_some e) w1 e1 w2)
theorem s_retN {pos : Pos} : JS X W io (.Return none pos) sRetN := ps_weak ps_retN fun D σ H ⟨ρ, er, f⟩ => f .non σ H (Pst.refl er) .refl .non
theorem s_if {c : Expr} {a b : List Stmt} {t : Td} {sa sb : Sd} {pos : Pos} (hc : JT X W c t) (ha : JB X W io a sa) (hb : JB X W io b sb) : JS X W io (.If c a b pos) (sIf t sa sb) :=
  ps_weak (ps_if hc ha hb) fun D σ H ⟨ρ, er, f⟩ => by
    refine ⟨ρ, er, FinS.part f fun k ρ1 _ f1 v H1 p dn => ?_⟩
    subst dn
    cases v with
    | true => exact ⟨ρ1, p.env, FinS.later p .refl f1⟩
    | false => exact ⟨ρ1, p.env, FinS.later p .refl f1⟩
/-- x = e -/
theorem s_set {i : Nat} {x : Str} {e : Expr} {c : Cd} {pos pos' : Pos} (hN : X.N.Nodup) (hi : X.N[i]? = some x) (hx : Loc X.env.scope x) (h : JE X W e c) (hio : i ∉ io)
    (hst : swapsWith e (some (.Name x pos')) pos.line X.env = pure false := by rfl) (hf : X.fn x = true ∨ X.env.scope.names.lookup x = some .local := by first | exact .inl rfl | exact .inr rfl | assumption) :
    JS X W io (.Assign [.Name x pos'] e pos) (sSet i c) :=
  ps_weak (ps_asg (pe_fz h) (pg_name hN hi hx hf) hst) fun D σ H ⟨ρ, er, f⟩ => by
    refine ⟨ρ, er, FinS.part f fun hd ρ1 _ f1 v H1 p dn => ?_⟩
    cases hd with
    | v b => exact .inl (f1 _ H1 (p.put dn) (Fx.set hio))
    | s j =>
      simp only [Sv.put] at f1
      cases e : slot ρ1 j with
      | none => rw [e] at f1; exact f1.elim
      | some b =>
        rw [e] at f1
        obtain ⟨v', e1, d1⟩ := p.env.den j b (slot_some e)
        have ev : v' = v := Option.some.inj (Option.some.inj (e1.symm.trans dn))
        subst ev
        cases b with
        | d x =>
          simp only [rd_d, set_same (slot_some e)] at f1
          exact .inl (f1 _ H1 (p.put (b := .d x) d1) (Fx.set hio))
        | l xs =>
          obtain ⟨a, ys, rfl, h1, h2⟩ := d1
          refine .inr ⟨a, ys, h1, fun o => ?_⟩
          have p2 := p.frzSlot o (slot_some e) e1 h1 h2
          exact f1 _ _ (p2.put (b := .d (.list xs)) (.lst (.of upd_same) (h2.keep (stay_frz o h1)))) (Fx.set hio)
theorem s_while {c : Expr} {body : List Stmt} {t : Td} {b : Sd} {pos : Pos} (n : Nat) (hp : PassesOwn (model X.prog X.w) X.A X.env X.xe) (hc : JT X W c t) (hb : JB X W io body b) : JS X W io (.While c body [] pos) (sWhile t b n) :=
  ps_weak (ps_while hp hc hb) fun D σ H h => by
    refine ⟨fun m σ H => tS X.K X.mg W io (sWhile t b m) D σ H, ⟨n, h⟩, fun m σ H h => ?_⟩
    obtain ⟨ρ, er, f⟩ := h
    cases m with
    | zero => exact f.elim
    | succ m =>
      refine ⟨ρ, er, FinS.part f fun k ρ1 _ f1 v H1 p dn => ?_⟩
      subst dn
      cases v with
      | false => exact f1 σ H1 p .refl
      | true =>
        refine ⟨fun σ' H' => tS X.K X.mg W io (sWhile t b m) D σ' H', fun σ' H' h => ⟨m, Nat.lt_succ_self m, h⟩, ρ1, p.env, ?_⟩
        have f2 := FinS.later p .refl f1
        simp only [if_pos] at f2
        cases e : b ρ1 with
        | nx ρ2 => rw [e] at f2; exact fun σ2 H2 q x => ⟨ρ2, q.env, FinS.later q x f2⟩
        | ct ρ2 => rw [e] at f2; exact fun σ2 H2 q x => ⟨ρ2, q.env, FinS.later q x f2⟩
        | bk ρ2 => rw [e] at f2; exact f2
        | rt b ρ2 => rw [e] at f2; exact f2
        | ex x ρ2 => rw [e] at f2; exact f2
        | no => rw [e] at f2; exact f2
end
end Sv
end
section
set_option autoImplicit false
set_option linter.all false
/-! Sv: defs and their calls. -/
namespace Sv
open PySem PySem.Spec L2
open PyProof.Rows hiding St

/-- room for k calls, and no repr under way -/
structure RoomG (k : Nat) (A : Around) : Prop where
  room : Room k A
  gd : A.guards = some []
theorem RoomG.mono {j k : Nat} {A : Around} (r : RoomG k A) (h : j ≤ k) : RoomG j A := ⟨r.room.mono h, r.gd⟩

section
variable {K : PySem.W.Frag} {H H1 H2 : Hp} {σ σ1 : St} {ρ ρ1 : Env} {vs : List V} {bs : List B} {io : List Nat}
theorem outF_len (io : List Nat) (e : Env) : ∀ (bs : List B) (j : Nat), (outF io e j bs).length = bs.length
  | [], _ => rfl
  | _ :: r, j => by
    show (outF io e (j + 1) r).length + 1 = r.length + 1
    rw [outF_len io e r (j + 1)]
theorem outF_get (io : List Nat) (e : Env) : ∀ (bs : List B) (j i : Nat) (b : B), (outF io e j bs)[i]? = some (some b) → (j + i ∈ io ∧ slot e (j + i) = some b) ∨ ∃ x, b = .d x ∧ bs[i]? = some (.d x)
  | [], _, _, _, h => by cases h
  | c :: r, j, 0, b, h => by
    by_cases hc : io.contains j = true
    · have h' : (if io.contains j = true then slot e j else _) = some b := Option.some.inj h
      rw [if_pos hc] at h'
      exact .inl ⟨by simpa using hc, h'⟩
    · have h' : (if io.contains j = true then slot e j else _) = some b := Option.some.inj h
      rw [if_neg hc] at h'
      cases c with
      | d x => cases h'; exact .inr ⟨x, rfl, rfl⟩
      | l xs => cases h'
  | c :: r, j, i + 1, b, h => by
    have h' : (outF io e (j + 1) r)[i]? = some (some b) := h
    rcases outF_get io e r (j + 1) i b h' with ⟨h1, h2⟩ | ⟨x, h1, h2⟩
    · have e1 : j + 1 + i = j + (i + 1) := by omega
      rw [e1] at h1 h2
      exact .inl ⟨h1, h2⟩
    · exact .inr ⟨x, h1, h2⟩
theorem start_get {N : List Str} {i : Nat} {v : V} : (L2.start N vs)[i]? = some (some v) ↔ (vs.map some)[i]? = some (some v) := by
  unfold L2.start
  by_cases hi : i < vs.length
  · rw [List.getElem?_append_left (by simpa using hi)]
  · rw [List.getElem?_append_right (by simpa using hi), List.getElem?_replicate, List.getElem?_eq_none (by simpa using hi)]
    constructor
    · intro h; split at h <;> cases h
    · intro h; cases h
theorem startB_get {n i : Nat} {b : B} : (bs.map some ++ List.replicate n none)[i]? = some (some b) ↔ (bs.map some)[i]? = some (some b) := by
  by_cases hi : i < bs.length
  · rw [List.getElem?_append_left (by simpa using hi)]
  · rw [List.getElem?_append_right (by simpa using hi), List.getElem?_replicate, List.getElem?_eq_none (by simpa using hi)]
    constructor
    · intro h; split at h <;> cases h
    · intro h; cases h
theorem own_start {N : List Str} {n : Nat} {a : Addr} : Own (L2.start N vs) (bs.map some ++ List.replicate n none) a ↔ Own (vs.map some) (bs.map some) a := by
  constructor
  · rintro ⟨i, xs, h1, h2⟩
    exact ⟨i, xs, startB_get.mp h1, start_get.mp h2⟩
  · rintro ⟨i, xs, h1, h2⟩
    exact ⟨i, xs, startB_get.mpr h1, start_get.mpr h2⟩
theorem EnvRel.start {N : List Str} (er : EnvRel K H (vs.map some) (bs.map some)) (hl : vs.length ≤ N.length) : EnvRel K H (L2.start N vs) (bs.map some ++ List.replicate (N.length - bs.length) none) := by
  have e0 : bs.length = vs.length := by simpa using er.len
  refine ⟨by unfold L2.start; simp [e0], fun i b h => ?_, fun i j xs ys a h1 h2 h3 h4 => er.inj i j xs ys a (startB_get.mp h1) (startB_get.mp h2) (start_get.mp h3) (start_get.mp h4)⟩
  obtain ⟨v, h1, h2⟩ := er.den i b (startB_get.mp h)
  exact ⟨v, start_get.mpr h1, h2⟩
/-- back from a body to its caller -/
theorem own_out {N : List Str} {n : Nat} (p : Pst K H (L2.start N vs) (bs.map some ++ List.replicate n none) H1 σ1 ρ1) (x : Fx io (L2.start N vs) σ1) {a : Addr} (h : Own (vs.map some) (outF io ρ1 0 bs) a) : Own σ1 ρ1 a := by
  obtain ⟨i, xs, h1, h2⟩ := h
  rcases outF_get io ρ1 bs 0 i _ h1 with ⟨hi, hs⟩ | ⟨y, e, _⟩
  · rw [Nat.zero_add] at hi hs
    exact ⟨i, xs, slot_some hs, by rw [x.at_ i hi]; exact start_get.mpr h2⟩
  · cases e
theorem Pst.out {N : List Str} {n : Nat} (er : EnvRel K H (vs.map some) (bs.map some)) (er0 : EnvRel K H (L2.start N vs) (bs.map some ++ List.replicate n none)) (p : Pst K H (L2.start N vs) (bs.map some ++ List.replicate n none) H1 σ1 ρ1) (x : Fx io (L2.start N vs) σ1) :
    Pst K H (vs.map some) (bs.map some) H1 (vs.map some) (outF io ρ1 0 bs) := by
  refine ⟨⟨?_, fun i b h => ?_, fun i j xs ys a h1 h2 h3 h4 => ?_⟩, fun b o h n => p.keep b o h fun w => n (own_start.mp w), fun a w => ?_, p.there⟩
  · rw [outF_len]
    simpa using er.len
  · rcases outF_get io ρ1 bs 0 i b h with ⟨hi, hs⟩ | ⟨y, e, hb⟩
    · rw [Nat.zero_add] at hi hs
      obtain ⟨v, h1, h2⟩ := p.env.den i b (slot_some hs)
      rw [x.at_ i hi] at h1
      exact ⟨v, start_get.mp h1, h2⟩
    · subst e
      obtain ⟨v, h1, h2⟩ := er.den i (.d y) (by rw [List.getElem?_map, hb]; rfl)
      exact ⟨v, h1, p.fz er0 h2⟩
  · rcases outF_get io ρ1 bs 0 i _ h1 with ⟨hi, hs⟩ | ⟨y, e, _⟩
    · rcases outF_get io ρ1 bs 0 j _ h2 with ⟨hj, ht⟩ | ⟨y, e, _⟩
      · rw [Nat.zero_add] at hi hs hj ht
        exact p.env.inj i j xs ys a (slot_some hs) (slot_some ht) (by rw [x.at_ i hi]; exact start_get.mpr h3) (by rw [x.at_ j hj]; exact start_get.mpr h4)
      · cases e
    · cases e
  · rcases p.own a (own_out p x w) with w | w
    · exact .inl (own_start.mp w)
    · exact .inr w
theorem DenR.out {N : List Str} {n : Nat} {v : V} {b : B} (p : Pst K H (L2.start N vs) (bs.map some ++ List.replicate n none) H1 σ1 ρ1) (x : Fx io (L2.start N vs) σ1)
    (d : DenR K H (L2.start N vs) (bs.map some ++ List.replicate n none) H1 σ1 ρ1 v (.v b)) : DenR K H (vs.map some) (bs.map some) H1 (vs.map some) (outF io ρ1 0 bs) v (.v b) := by
  cases b with
  | d y => exact d
  | l xs =>
    obtain ⟨a, ys, e, h1, h2, h3, h4⟩ := d
    exact ⟨a, ys, e, h1, h2, fun w => h3 (own_out p x w), h4.imp (fun w => own_start.mp w) id⟩
end

/-- what a call's outcome asks -/
def FinF (K : PySem.W.Frag) (mg : Str → Option Value) (H : Hp) (vs : List V) (bs : List B) (Q : VK) (E : XK) : Rf → Prop
  | .ok b ps => ∀ v H1, Pst K H (vs.map some) (bs.map some) H1 (vs.map some) ps → DenR K H (vs.map some) (bs.map some) H1 (vs.map some) ps v (.v b) → Q v H1
  | .ex x ps => ∀ cls dd H1, Pst K H (vs.map some) (bs.map some) H1 (vs.map some) ps → ExRel K mg H1 x cls dd → E cls dd H1
  | .no => False
/-- the def at f does what F says, k levels deep at most -/
structure FnG (P : Program) (w : World) (K : PySem.W.Frag) (mg : Str → Option Value) (base : Heap) (k : Nat) (f : Addr) (fd : FuncData) (ps : List Str) (F : Fn) : Prop where
  run : ∀ (A : Around) (outer : List PySem.Env) (s : Shared) (H : Hp) (args : Args) (us : List Value) (vs : List V) (bs : List B) (Q : VK) (E : XK), RoomG k A → Env0 P w K mg base A outer s H → BindsTo s fd args (ps.zip us) → Vals vs us → vs.length = ps.length →
    EnvRel K H (vs.map some) (bs.map some) → FinF K mg H vs bs Q E (F bs) → codeAny (model P w) A (.call (.ref f) args) (CR (CX P w) outer P w H s Q E) s
theorem FnG.mono {P : Program} {w : World} {K : PySem.W.Frag} {mg : Str → Option Value} {base : Heap} {j k : Nat} {f : Addr} {fd : FuncData} {ps : List Str} {F : Fn} (G : FnG P w K mg base j f fd ps F) (h : j ≤ k) : FnG P w K mg base k f fd ps F :=
  ⟨fun A outer s H args us vs bs Q E hr => G.run A outer s H args us vs bs Q E (hr.mono h)⟩

section
variable {P : Program} {w : World} {K : PySem.W.Frag} {mg : Str → Option Value} {base : Heap} {k : Nat} {f : Addr} {fd : FuncData} {x qual : Str} {params : Arguments} {body : List Stmt} {scope : Scope} {dvs : List V} {kws : List (Str × V)} {N ps : List Str} {io : List Nat} {c : Sd}
/-- THE RULE: a def by its body -/
theorem fn_sv (F : FunD K x qual params body scope dvs kws f fd) (S : FnScope N ps scope)
    (hb : ∀ (cdv : Value) (A : Around) (outer : List PySem.Env) (s : Shared) (H : Hp) (E : XK), RoomG k (A.deeper (envOfC qual scope s.heap.objs.size f cdv)) →
      JB (cxOf (CX P w) P w K mg base N qual scope f cdv A outer s H E) (fun cls d _ H => E cls d H) io body c) : FnG P w K mg base (k + 1) f fd ps (fnD N.length io c) := by
  obtain ⟨oc, od, dV, kV, doc, pm, an, cdv, ct, osl, rfl, lk, hcd, _, _⟩ := F.ex
  refine ⟨fun A outer s H args us vs bs Q E hr e0 bind rv hl er fin => ?_⟩
  have hNl : vs.length ≤ N.length := by
    have e := congrArg List.length S.pre
    rw [List.length_take] at e
    omega
  have er0 := er.start (N := N) hNl
  have KX : K.In s.heap := e0.mod.kin.keeps fun b o e => (e0.bs b o e).1
  have NL : s.heap.NoLimit := e0.mod.nolimit.keeps fun b o e => (e0.bs b o e).1
  have kinds : ∀ y ∈ ps.zip us, scope.names.lookup y.1 = some .local ∨ (scope.names.lookup y.1 = some .cell ∧ ((cellsFrom (s.heap.objs.size + 1) scope.names []).lookup y.1).isSome = true) := by
    rintro ⟨n, u⟩ hy
    exact (S.par n (List.of_mem_zip hy).1).imp id fun q => ⟨q, PySem.W.cellsFrom_some _ _ _ (.inl q)⟩
  refine codeAny_call_function hr.room.depth (KX _ _ lk) rfl S.co S.gen rfl (PySem.W.codeRec_of KX hcd) (bind _ _ _ _ ?_)
  refine wpAny_newFunctionEnv_cells S.kind kinds fun env he s1 inC => ?_
  subst he
  refine ⟨NL.keeps inC.toInCall.keep, codeAny_func ?_⟩
  have I : Inv (cxOf (CX P w) P w K mg base N qual scope f cdv A outer s H E) [] (L2.start N vs) H s1 := inv_start S hr.room.hd e0 hl rv inC
  have B := hb cdv A outer s H E ⟨hr.room.deeper _, hr.gd⟩
  have goal : tS K mg (fun cls d _ H => E cls d H) io c { nx := fun _ H' => Q .non H', rt := Q } (L2.start N vs) H := by
    refine ⟨_, er0, ?_⟩
    unfold fnD at fin
    cases e : c (bs.map some ++ List.replicate (N.length - bs.length) none) with
    | nx e1 =>
      rw [e] at fin
      exact fun σ1 H1 p y => fin .non H1 (Pst.out er er0 p y) .non
    | rt b e1 =>
      rw [e] at fin
      exact fun v σ1 H1 p y d => fin v H1 (Pst.out er er0 p y) (DenR.out p y d)
    | ex z e1 =>
      rw [e] at fin
      exact fun cls dd σ1 H1 p y d => fin cls dd H1 (Pst.out er er0 p y) d
    | bk e1 => rw [e] at fin; exact fin.elim
    | ct e1 => rw [e] at fin; exact fin.elim
    | no => rw [e] at fin; exact fin.elim
  refine wpAny_mono (B.run [] s1 (L2.start N vs) H _ I goal) (fun fl s' hs => ?_) fun e s' hs => hs
  cases fl with
  | ret u =>
    obtain ⟨v, σ', H', J, r, q⟩ := hs
    exact ⟨v, H', J.os, J.bare, J.base, J.hok, r, q⟩
  | next =>
    obtain ⟨σ', H', J, q⟩ := hs
    exact ⟨.non, H', J.os, J.bare, J.base, J.hok, rfl, q⟩
  | brk =>
    obtain ⟨_, _, _, q⟩ := hs
    exact q.elim
  | cont =>
    obtain ⟨_, _, _, q⟩ := hs
    exact q.elim
end

/-! ### a call -/
section
variable {K : PySem.W.Frag} {H H1 H2 : Hp} {σ : St} {ρ ρ1 : Env}
theorem args_get : ∀ {hs : List Hd} {bs : List B}, argsB hs ρ = some bs → ∀ {j : Nat} {b : B}, bs[j]? = some b → hs[j]? = some (.v b) ∨ ∃ i, hs[j]? = some (.s i) ∧ ρ[i]? = some (some b)
  | [], bs, h, j, b, hb => by cases h; simp at hb
  | .v c :: r, bs, h, j, b, hb => by
    cases e : argsB r ρ with
    | none => simp [argsB, e] at h
    | some cs =>
      simp [argsB, e] at h
      subst h
      cases j with
      | zero => cases hb; exact .inl rfl
      | succ j => exact args_get e (j := j) (b := b) hb
  | .s i :: r, bs, h, j, b, hb => by
    cases e : argsB r ρ with
    | none => simp only [argsB, e] at h; split at h <;> cases h <;> contradiction
    | some cs =>
      cases e2 : slot ρ i with
      | none => simp [argsB, e, e2] at h
      | some c =>
        simp [argsB, e, e2] at h
        subst h
        cases j with
        | zero => cases hb; exact .inr ⟨i, rfl, slot_some e2⟩
        | succ j => exact args_get e (j := j) (b := b) hb
theorem DenA.get : ∀ {vs : List V} {hs : List Hd}, DenA K H σ vs hs → ∀ {j : Nat} {h : Hd}, hs[j]? = some h → ∃ v, vs[j]? = some v ∧ match h with
    | .v (.d x) => Fz K H v x
    | .v (.l _) => False
    | .s i => σ[i]? = some (some v)
  | _, _, .nil, _, _, h => by simp at h
  | _, _, .data fz t, 0, _, h => by cases h; exact ⟨_, rfl, fz⟩
  | _, _, .slot hs t, 0, _, h => by cases h; exact ⟨_, rfl, hs⟩
  | _, _, .data fz t, j + 1, _, h => DenA.get t (j := j) h
  | _, _, .slot hs t, j + 1, _, h => DenA.get t (j := j) h
theorem DenA.length : ∀ {vs : List V} {hs : List Hd}, DenA K H σ vs hs → vs.length = hs.length
  | _, _, .nil => rfl
  | _, _, .data _ t => by rw [List.length_cons, List.length_cons, DenA.length t]
  | _, _, .slot _ t => by rw [List.length_cons, List.length_cons, DenA.length t]
theorem args_len : ∀ {hs : List Hd} {bs : List B}, argsB hs ρ = some bs → bs.length = hs.length
  | [], bs, h => by cases h; rfl
  | .v c :: r, bs, h => by
    cases e : argsB r ρ with
    | none => simp [argsB, e] at h
    | some cs => simp [argsB, e] at h; subst h; rw [List.length_cons, List.length_cons, args_len e]
  | .s i :: r, bs, h => by
    cases e : argsB r ρ with
    | none => simp only [argsB, e] at h; split at h <;> cases h <;> contradiction
    | some cs =>
      cases e2 : slot ρ i with
      | none => simp [argsB, e, e2] at h
      | some c => simp [argsB, e, e2] at h; subst h; rw [List.length_cons, List.length_cons, args_len e]
theorem slotsOf_mem : ∀ {hs : List Hd} {j i : Nat}, hs[j]? = some (.s i) → i ∈ slotsOf hs
  | [], _, _, h => by simp at h
  | .v _ :: r, 0, _, h => by cases h
  | .v _ :: r, j + 1, i, h => slotsOf_mem (hs := r) (j := j) h
  | .s k :: r, 0, i, h => by cases h; exact List.mem_cons_self
  | .s k :: r, j + 1, i, h => List.mem_cons_of_mem _ (slotsOf_mem (hs := r) (j := j) h)
theorem slots_inj : ∀ {hs : List Hd}, (slotsOf hs).Nodup → ∀ {j k i : Nat}, hs[j]? = some (.s i) → hs[k]? = some (.s i) → j = k
  | [], _, _, _, _, h, _ => by simp at h
  | .v _ :: r, nd, 0, _, _, h, _ => by cases h
  | .v _ :: r, nd, j + 1, 0, _, _, h => by cases h
  | .v _ :: r, nd, j + 1, k + 1, i, h, h' => congrArg (· + 1) (slots_inj (hs := r) nd h h')
  | .s l :: r, nd, 0, 0, _, _, _ => rfl
  | .s l :: r, nd, 0, k + 1, i, h, h' => by cases h; exact absurd (slotsOf_mem (hs := r) (j := k) h') (List.nodup_cons.mp nd).1
  | .s l :: r, nd, j + 1, 0, i, h, h' => by cases h'; exact absurd (slotsOf_mem (hs := r) (j := j) h) (List.nodup_cons.mp nd).1
  | .s l :: r, nd, j + 1, k + 1, i, h, h' => congrArg (· + 1) (slots_inj (hs := r) (List.nodup_cons.mp nd).2 h h')
theorem EnvRel.args {vs : List V} {hs : List Hd} {bs : List B} (er : EnvRel K H σ ρ) (dn : DenA K H σ vs hs) (ea : argsB hs ρ = some bs) (nd : (slotsOf hs).Nodup) : EnvRel K H (vs.map some) (bs.map some) := by
  have lb := args_len ea
  have lv := dn.length
  refine ⟨by simp [lb, lv], fun j b h => ?_, fun j k xs ys a h1 h2 h3 h4 => ?_⟩
  · have hb : bs[j]? = some b := by
      rw [List.getElem?_map] at h
      cases e : bs[j]? with
      | none => rw [e] at h; cases h
      | some c => rw [e] at h; cases h; rfl
    rcases args_get ea hb with h1 | ⟨i, h1, h2⟩
    · obtain ⟨v, h3, h4⟩ := dn.get h1
      refine ⟨v, by rw [List.getElem?_map, h3]; rfl, ?_⟩
      cases b with
      | d x => exact h4
      | l xs => exact h4.elim
    · obtain ⟨v, h3, h4⟩ := dn.get h1
      obtain ⟨v', h5, h6⟩ := er.den i b h2
      have ev : v' = v := Option.some.inj (Option.some.inj (h5.symm.trans h4))
      subst ev
      exact ⟨v', by rw [List.getElem?_map, h3]; rfl, h6⟩
  · have gb : ∀ {j : Nat} {zs : List PyData}, (bs.map some)[j]? = some (some (.l zs)) → (vs.map some)[j]? = some (some (.ref a)) → ∃ i, hs[j]? = some (.s i) ∧ ρ[i]? = some (some (.l zs)) ∧ σ[i]? = some (some (.ref a)) := fun {j zs} h h' => by
      have hb : bs[j]? = some (.l zs) := by
        rw [List.getElem?_map] at h
        cases e : bs[j]? with
        | none => rw [e] at h; cases h
        | some c => rw [e] at h; cases h; rfl
      rcases args_get ea hb with q | ⟨i, q, q2⟩
      · obtain ⟨v, _, q4⟩ := dn.get q
        exact q4.elim
      · obtain ⟨v, q3, q4⟩ := dn.get q
        have ev : v = .ref a := by
          rw [List.getElem?_map, q3] at h'
          exact Option.some.inj (Option.some.inj h')
        subst ev
        exact ⟨i, q, q2, q4⟩
    obtain ⟨i1, p1, p2, p3⟩ := gb h1 h3
    obtain ⟨i2, q1, q2, q3⟩ := gb h2 h4
    have : i1 = i2 := er.inj i1 i2 xs ys a p2 q2 p3 q3
    subst this
    exact slots_inj nd p1 q1
theorem own_args {vs : List V} {hs : List Hd} {bs : List B} (dn : DenA K H σ vs hs) (ea : argsB hs ρ = some bs) {a : Addr} (h : Own (vs.map some) (bs.map some) a) : ∃ (j i : Nat) (xs : List PyData), hs[j]? = some (.s i) ∧ ρ[i]? = some (some (.l xs)) ∧ σ[i]? = some (some (.ref a)) := by
  obtain ⟨j, xs, h1, h2⟩ := h
  have hb : bs[j]? = some (.l xs) := by
    rw [List.getElem?_map] at h1
    cases e : bs[j]? with
    | none => rw [e] at h1; cases h1
    | some c => rw [e] at h1; cases h1; rfl
  rcases args_get ea hb with q | ⟨i, q, q2⟩
  · obtain ⟨v, _, q4⟩ := dn.get q
    exact q4.elim
  · obtain ⟨v, q3, q4⟩ := dn.get q
    have ev : v = .ref a := by
      rw [List.getElem?_map, q3] at h2
      exact Option.some.inj (Option.some.inj h2)
    subst ev
    exact ⟨j, i, xs, q, q2, q4⟩
/-- the slots behind a call -/
theorem back_len : ∀ (hs : List Hd) (ps : List (Option B)) (e : Env), (back hs ps e).length = e.length
  | [], _, _ => by simp [back]
  | .v _ :: r, [], _ => by simp [back]
  | .s _ :: r, [], _ => by simp [back]
  | .v _ :: r, p :: ps, e => by simp only [back]; exact back_len r ps e
  | .s i :: r, p :: ps, e => by
    simp only [back]
    rw [back_len r ps]
    split
    · rw [List.length_set]
    · rfl
theorem back_get : ∀ (hs : List Hd) (ps : List (Option B)) (e : Env), (slotsOf hs).Nodup → hs.length ≤ ps.length → ∀ i : Nat,
    (∃ (j : Nat) (xs : List PyData), hs[j]? = some (.s i) ∧ e[i]? = some (some (.l xs)) ∧ (back hs ps e)[i]? = ps[j]?) ∨ ((back hs ps e)[i]? = e[i]? ∧ ∀ (j : Nat) (xs : List PyData), hs[j]? = some (.s i) → e[i]? ≠ some (some (.l xs)))
  | [], _, _, _, _, i => .inr ⟨by simp [back], fun j xs h => by simp at h⟩
  | .v _ :: r, [], _, _, hl, i => by simp at hl
  | .s _ :: r, [], _, _, hl, i => by simp at hl
  | .v _ :: r, p :: ps, e, nd, hl, i => by
    rcases back_get r ps e nd (by simpa using hl) i with ⟨j, xs, h1, h2, h3⟩ | ⟨h1, h2⟩
    · exact .inl ⟨j + 1, xs, h1, h2, h3⟩
    · refine .inr ⟨h1, fun j xs h => ?_⟩
      cases j with
      | zero => cases h
      | succ j => exact h2 j xs h
  | .s k :: r, p :: ps, e, nd, hl, i => by
    obtain ⟨nk, nd'⟩ := List.nodup_cons.mp nd
    have hl' : r.length ≤ ps.length := by simpa using hl
    have other : ∀ e' : Env, i ≠ k → e'[i]? = e[i]? → (back (.s k :: r) (p :: ps) e) = back r ps e' →
        (∃ (j : Nat) (xs : List PyData), (Hd.s k :: r)[j]? = some (.s i) ∧ e[i]? = some (some (.l xs)) ∧ (back (.s k :: r) (p :: ps) e)[i]? = (p :: ps)[j]?) ∨ ((back (.s k :: r) (p :: ps) e)[i]? = e[i]? ∧ ∀ (j : Nat) (xs : List PyData), (Hd.s k :: r)[j]? = some (.s i) → e[i]? ≠ some (some (.l xs))) := fun e' hik he hb => by
      rw [hb]
      rcases back_get r ps e' nd' hl' i with ⟨j, xs, h1, h2, h3⟩ | ⟨h1, h2⟩
      · exact .inl ⟨j + 1, xs, h1, by rw [← he]; exact h2, h3⟩
      · refine .inr ⟨by rw [h1, he], fun j xs h => ?_⟩
        cases j with
        | zero => cases h; exact absurd rfl hik
        | succ j => rw [← he]; exact h2 j xs h
    have same : ∀ e' : Env, (back r ps e')[k]? = e'[k]? := fun e' => by
      rcases back_get r ps e' nd' hl' k with ⟨j, xs, h1, h2, h3⟩ | ⟨h1, _⟩
      · exact absurd (slotsOf_mem h1) nk
      · exact h1
    cases es : slot e k with
    | none =>
      have hb : back (.s k :: r) (p :: ps) e = back r ps e := by simp only [back, es]
      by_cases hik : i = k
      · subst hik
        refine .inr ⟨by rw [hb]; exact same e, fun j xs _ z => ?_⟩
        rw [slot_of z] at es
        cases es
      · exact other e hik rfl hb
    | some b =>
      cases b with
      | d x =>
        have hb : back (.s k :: r) (p :: ps) e = back r ps e := by simp only [back, es]
        by_cases hik : i = k
        · subst hik
          refine .inr ⟨by rw [hb]; exact same e, fun j xs _ z => ?_⟩
          rw [slot_of z] at es
          cases es
        · exact other e hik rfl hb
      | l xs =>
        have hb : back (.s k :: r) (p :: ps) e = back r ps (e.set k p) := by simp only [back, es]
        by_cases hik : i = k
        · subst hik
          have hlt : i < e.length := (List.getElem?_eq_some_iff.mp (slot_some es)).1
          exact .inl ⟨0, xs, rfl, slot_some es, by rw [hb, same, List.getElem?_set_self hlt]; rfl⟩
        · exact other _ hik (List.getElem?_set_ne (Ne.symm hik)) hb
theorem Pst.back {vs : List V} {hs : List Hd} {bs : List B} {ps : List (Option B)} (er : EnvRel K H σ ρ) (dn : DenA K H σ vs hs) (ea : argsB hs ρ = some bs) (nd : (slotsOf hs).Nodup)
    (p : Pst K H (vs.map some) (bs.map some) H1 (vs.map some) ps) : Pst K H σ ρ H1 σ (Sv.back hs ps ρ) := by
  have lp : hs.length ≤ ps.length := by
    have e1 := p.env.len
    have e2 := dn.length
    simp only [List.length_map] at e1
    omega
  have sub : ∀ a, Own (vs.map some) (bs.map some) a → Own σ ρ a := fun a h => by
    obtain ⟨j, i, xs, _, h2, h3⟩ := own_args dn ea h
    exact ⟨i, xs, h2, h3⟩
  have eA := er.args dn ea nd
  -- a slot's value behind the call
  have val : ∀ (i : Nat) (b : B), (Sv.back hs ps ρ)[i]? = some (some b) → (∃ (j : Nat) (v : V), hs[j]? = some (.s i) ∧ (∃ xs, ρ[i]? = some (some (.l xs))) ∧ ps[j]? = some (some b) ∧ vs[j]? = some v ∧ σ[i]? = some (some v)) ∨
      (ρ[i]? = some (some b) ∧ ∀ (j : Nat) (xs : List PyData), hs[j]? = some (.s i) → ρ[i]? ≠ some (some (.l xs))) := fun i b h => by
    rcases back_get hs ps ρ nd lp i with ⟨j, xs, h1, h2, h3⟩ | ⟨h1, h2⟩
    · obtain ⟨v, h4, h5⟩ := dn.get h1
      exact .inl ⟨j, v, h1, ⟨xs, h2⟩, by rw [← h3]; exact h, h4, h5⟩
    · exact .inr ⟨by rw [← h1]; exact h, h2⟩
  -- an untouched list is not among the arguments
  have apart : ∀ (i : Nat) (xs : List PyData) (a : Addr), ρ[i]? = some (some (.l xs)) → σ[i]? = some (some (.ref a)) → (∀ (j : Nat) (zs : List PyData), hs[j]? = some (.s i) → ρ[i]? ≠ some (some (.l zs))) → ¬ Own (vs.map some) (bs.map some) a := fun i xs a h1 h2 h3 w => by
    obtain ⟨j, i', zs, q1, q2, q3⟩ := own_args dn ea w
    have : i' = i := er.inj i' i zs xs a q2 h1 q3 h2
    subst this
    exact h3 j zs q1 q2
  have toMap : ∀ {j : Nat} {v : V}, vs[j]? = some v → (vs.map some)[j]? = some (some v) := fun {j v} h => by rw [List.getElem?_map, h]; rfl
  refine ⟨⟨by rw [back_len]; exact er.len, fun i b h => ?_, fun i i' xs ys a h1 h2 h3 h4 => ?_⟩, fun b o h n => p.keep b o h fun w => n (sub b w), fun a w => ?_, p.there⟩
  · rcases val i b h with ⟨j, v, _, _, h2, h3, h4⟩ | ⟨h1, h2⟩
    · obtain ⟨v', e1, e2⟩ := p.env.den j b h2
      have ev : v' = v := Option.some.inj (Option.some.inj (e1.symm.trans (toMap h3)))
      subst ev
      exact ⟨v', h4, e2⟩
    · obtain ⟨v, e1, e2⟩ := er.den i b h1
      refine ⟨v, e1, ?_⟩
      cases b with
      | d x => exact p.fz eA e2
      | l xs =>
        obtain ⟨a, ys, rfl, q1, q2⟩ := e2
        exact ⟨a, ys, rfl, p.keep a _ q1 (apart i xs a h1 e1 h2), p.fzAll eA q2⟩
  · rcases val i _ h1 with ⟨j, v, s1, ⟨zs, z1⟩, h5, h6, h7⟩ | ⟨h5, h6⟩
    · have ev : v = .ref a := Option.some.inj (Option.some.inj (h7.symm.trans h3))
      subst ev
      rcases val i' _ h2 with ⟨j', v', s2, _, h8, h9, h10⟩ | ⟨h8, h9⟩
      · have ev : v' = .ref a := Option.some.inj (Option.some.inj (h10.symm.trans h4))
        subst ev
        have hj : j = j' := p.env.inj j j' xs ys a h5 h8 (toMap h6) (toMap h9)
        subst hj
        rw [s1] at s2
        cases s2
        rfl
      · rcases p.own a ⟨j, xs, h5, toMap h6⟩ with w | w
        · exact absurd w (apart i' ys a h8 h4 h9)
        · obtain ⟨zs', q⟩ := er.owned ⟨i', ys, h8, h4⟩
          rw [w] at q
          cases q
    · rcases val i' _ h2 with ⟨j', v', s2, _, h8, h9, h10⟩ | ⟨h8, h9⟩
      · have ev : v' = .ref a := Option.some.inj (Option.some.inj (h10.symm.trans h4))
        subst ev
        rcases p.own a ⟨j', ys, h8, toMap h9⟩ with w | w
        · exact absurd w (apart i xs a h5 h3 h6)
        · obtain ⟨zs', q⟩ := er.owned ⟨i, xs, h5, h3⟩
          rw [w] at q
          cases q
      · exact er.inj i i' xs ys a h5 h8 h3 h4
  · obtain ⟨i, xs, h1, h2⟩ := w
    rcases val i _ h1 with ⟨j, v, _, _, h5, h6, h7⟩ | ⟨h5, h6⟩
    · have ev : v = .ref a := Option.some.inj (Option.some.inj (h7.symm.trans h2))
      subst ev
      rcases p.own a ⟨j, xs, h5, toMap h6⟩ with w | w
      · exact .inl (sub a w)
      · exact .inr w
    · exact .inl ⟨i, xs, h5, h2⟩
end
end Sv
end
section
set_option autoImplicit false
set_option linter.all false
/-! Sv: the call of a def. -/
namespace Sv
open PySem PySem.Spec L2
open PyProof.Rows hiding St

/-- so many arguments -/
def AL (n : Nat) (a : Ad) : Prop := ∀ ρ hs ρ1, a ρ = .ok hs ρ1 → hs.length = n
theorem al_nil : AL 0 aNil := fun ρ hs ρ1 h => by cases h; rfl
theorem al_cons {n : Nat} {c : Cd} {a : Ad} (h : AL n a) : AL (n + 1) (aCons c a) := fun ρ hs ρ1 e => by
  unfold aCons at e
  cases e1 : c ρ with
  | ok x ρ2 =>
    rw [e1, R.bind_ok] at e
    cases e2 : a ρ2 with
    | ok xs ρ3 =>
      rw [e2, R.bind_ok] at e
      cases e
      rw [List.length_cons, h _ _ _ e2]
    | ex x ρ3 => rw [e2] at e; cases e
    | no => rw [e2] at e; cases e
  | ex x ρ2 => rw [e1] at e; cases e
  | no => rw [e1] at e; cases e

/-- the rest of a call, its arguments told -/
def callB (F : Fn) (hs : List Hd) (e1 : Env) : R Hd :=
  match argsB hs e1 with
  | some bs => if (slotsOf hs).Nodup then
      match F bs with
      | .ok b ps => .ok (.v b) (back hs ps e1)
      | .ex x ps => .ex x (back hs ps e1)
      | .no => .no
    else .no
  | none => .no
theorem cFn_eq (F : Fn) (a : Ad) (e : Env) : cFn F a e = (a e).bind fun hs e1 => callB F hs e1 := rfl

section
variable {X : Cx} {W : WX} {k : Nat} {f : Addr} {fd : FuncData} {ps : List Str} {F : Fn}
theorem call_run {pins : List (Addr × Obj)} {σ : St} {H H1 : Hp} {s : Shared} {ρ ρ1 : Env} {us : List Value} {vs : List V} {hs : List Hd} {Q : VK} (G : FnG X.prog X.w X.K X.mg X.base k f fd ps F) (hr : RoomG k X.A) (hb : Binds X.K fd ps []) (tk : Takes X W)
    (I : Inv X pins σ H1 s) (r : Vals vs us) (hl : hs.length = ps.length) (p : Pst X.K H σ ρ H1 σ ρ1) (dn : DenA X.K H1 σ vs hs)
    (fin : Fin X.K X.mg W σ H ρ (fun H2 ρ2 v h => DenR X.K H σ ρ H2 σ ρ2 v h) (callB F hs ρ1) Q) : wpAny (model X.prog X.w) X.A (call (.ref f) us) (EP X pins σ Q) X.xe s := by
  have fin1 := Fin.laterC p fin
  unfold callB at fin1
  cases ea : argsB hs ρ1 with
  | none => rw [ea] at fin1; exact fin1.elim
  | some bs =>
    rw [ea] at fin1
    simp only at fin1
    by_cases nd : (slotsOf hs).Nodup
    · rw [if_pos nd] at fin1
      have er := p.env.args dn ea nd
      have lv : vs.length = ps.length := by rw [dn.length]; exact hl
      have bnd := hb s us I.kIn (by rw [List.append_nil, ← r.length]; exact lv)
      rw [List.append_nil] at bnd
      have want : FinF X.K X.mg H1 vs bs Q (WE W σ) (F bs) := by
        cases ef : F bs with
        | ok b qs =>
          rw [ef] at fin1
          intro v H2 q d
          refine fin1 v H2 (Pst.back p.env dn ea nd q) ?_
          cases b with
          | d x => exact d
          | l xs =>
            obtain ⟨a, ys, rfl, h1, h2, h3, h4⟩ := d
            refine ⟨a, ys, rfl, h1, h2, fun w => ?_, ?_⟩
            · obtain ⟨i, zs, w1, w2⟩ := w
              have lp : hs.length ≤ qs.length := by
                have e1 := q.env.len
                simp only [List.length_map] at e1
                have e2 := dn.length
                omega
              rcases back_get hs qs ρ1 nd lp i with ⟨j, xs', g1, g2, g3⟩ | ⟨g1, g2⟩
              · obtain ⟨v', g4, g5⟩ := dn.get g1
                have ev : v' = .ref a := Option.some.inj (Option.some.inj (g5.symm.trans w2))
                subst ev
                exact h3 ⟨j, zs, by rw [← g3]; exact w1, by rw [List.getElem?_map, g4]; rfl⟩
              · rw [g1] at w1
                rcases h4 with w | w
                · obtain ⟨j, i', zs', q1, q2, q3⟩ := own_args dn ea w
                  have : i' = i := p.env.inj i' i zs' zs a q2 w1 q3 w2
                  subst this
                  exact g2 j zs' q1 q2
                · obtain ⟨zs', g⟩ := p.env.owned ⟨i, zs, w1, w2⟩
                  rw [w] at g
                  cases g
            · rcases h4 with w | w
              · obtain ⟨j, i', zs', _, q2, q3⟩ := own_args dn ea w
                exact .inl ⟨i', zs', q2, q3⟩
              · exact .inr w
        | ex x qs =>
          rw [ef] at fin1
          exact fun cls dd H2 q d => fin1 cls dd H2 (Pst.back p.env dn ea nd q) d
        | no => rw [ef] at fin1; exact fin1
      refine wpAny_call (codeAny_mono (G.run X.A X.stack s H1 ⟨us, []⟩ us vs bs Q (WE W σ) hr I.env0 bnd r lv er want) fun res s' hq => ?_)
      cases res with
      | error e => exact passAt tk σ pins H1 s e s' I hq
      | ok fl =>
        cases fl with
        | ret u => exact I.after hq
        | next => exact hq.elim
        | brk => exact hq.elim
        | cont => exact hq.elim
    · rw [if_neg nd] at fin1
      exact fin1.elim
variable {x : Str} {p pos : Pos} {e : Expr} {es : List Expr} {a : Ad}
theorem e_call (G : FnG X.prog X.w X.K X.mg X.base k f fd ps F) (hr : RoomG k X.A) (hg : Gl X x) (hm : X.mg x = some (.ref f)) (hk : PySem.W.keepIn X.K (.ref f) = true) (hb : Binds X.K fd ps []) (tk : Takes X W) (ha : JA X W (e :: es) a) (al : AL ps.length a)
    (hdb : (x == ("__debug__" : Str)) = false := by decide) (he : starEach (e :: es) X.env = (false, eval e X.env) :: starEach es X.env := by rfl) (hpl : (backTo pos (starEach es X.env)).any (·.1) = false := by rfl) : JE X W (.Call (.Name x p) (e :: es) [] pos) (cFn F a) := by
  refine ⟨fun pins s σ H Q I ⟨ρ, er, f0⟩ => ?_⟩
  refine wpAny_Call_Name_kw (ld_glob I hg hm ?_ hdb)
  refine PySem.W.callWith_K (h₀ := X.base) I.ok.mod.kin hk (thn (ha.run pos pins s σ H (fun vs H1 => ∃ hs ρ1, hs.length = ps.length ∧ Pst X.K H σ ρ H1 σ ρ1 ∧ DenA X.K H1 σ vs hs ∧
    Fin X.K X.mg W σ H ρ (fun H2 ρ2 v h => DenR X.K H σ ρ H2 σ ρ2 v h) (callB F hs ρ1) Q) I ⟨ρ, er, ?_⟩) fun us s1 ⟨vs, H1, I1, r, hs, ρ1, hl, q, dn, fin⟩ => ⟨I1.kIn, call_run G hr hb tk I1 r hl q dn fin⟩) he hpl
  exact Fin.part (cFn_eq F a ρ ▸ f0) fun hs ρ1 c1 f1 vs H1 q dn => ⟨hs, ρ1, al _ _ _ c1, q, dn, f1⟩
theorem e_call0 (G : FnG X.prog X.w X.K X.mg X.base k f fd [] F) (hr : RoomG k X.A) (hg : Gl X x) (hm : X.mg x = some (.ref f)) (hk : PySem.W.keepIn X.K (.ref f) = true) (hb : Binds X.K fd [] []) (tk : Takes X W)
    (hdb : (x == ("__debug__" : Str)) = false := by decide) : JE X W (.Call (.Name x p) [] [] pos) (cFn F aNil) := by
  refine ⟨fun pins s σ H Q I ⟨ρ, er, f0⟩ => ?_⟩
  refine wpAny_Call_Name_kw (ld_glob I hg hm ?_ hdb)
  exact PySem.W.callWith_K0 I.kIn hk (call_run (us := []) (vs := []) (hs := []) G hr hb tk I .nil rfl (Pst.refl er) .nil f0)
end
end Sv
end
section
set_option autoImplicit false
set_option linter.all false
/-! Sv: targets, what is walked, for. -/
namespace Sv
open PySem PySem.Spec L2
open PyProof.Rows hiding St

/-! ### targets -/
def FinG (K : PySem.W.Frag) (io : List Nat) (σ : St) (H : Hp) (ρ : Env) (Q : St → Hp → Prop) : RS → Prop
  | .nx ρ1 => ∀ σ1 H1, Pst K H σ ρ H1 σ1 ρ1 → Fx io σ σ1 → Q σ1 H1
  | _ => False
def tG (K : PySem.W.Frag) (io : List Nat) (t : Gd) : TG := fun v σ H Q => ∃ ρ x, EnvRel K H σ ρ ∧ Fz K H v x ∧ FinG K io σ H ρ Q (t x ρ)
def tGs (K : PySem.W.Frag) (io : List Nat) (ts : List Gd) : TGs := fun vs σ H Q => ∃ ρ xs, EnvRel K H σ ρ ∧ FzAll K H vs xs ∧ FinG K io σ H ρ Q (gRun ts xs ρ)
/-- a target stores, or says nothing -/
def Tame (t : Gd) : Prop := ∀ x ρ, (∃ ρ1, t x ρ = .nx ρ1) ∨ t x ρ = .no
section
variable {K : PySem.W.Frag} {io : List Nat} {H H1 : Hp} {σ σ1 : St} {ρ ρ1 : Env} {Q : St → Hp → Prop}
theorem FinG.later {r : RS} (p : Pst K H σ ρ H1 σ1 ρ1) (x : Fx io σ σ1) (f : FinG K io σ H ρ Q r) : FinG K io σ1 H1 ρ1 Q r := by
  cases r with
  | nx ρ2 => exact fun σ2 H2 q y => f σ2 H2 (p.trans q) (x.trans y)
  | _ => exact f
end
section
variable {X : Cx} {W : WX} {io : List Nat}
structure JG (X : Cx) (io : List Nat) (e : Expr) (t : Gd) : Prop where
  pg : PG X e (tG X.K io t)
  tame : Tame t
structure JGs (X : Cx) (io : List Nat) (es : List Expr) (ts : List Gd) : Prop where
  pgs : PGs X es (tGs X.K io ts)
  tame : ∀ xs ρ, (∃ ρ1, gRun ts xs ρ = .nx ρ1) ∨ gRun ts xs ρ = .no
theorem pg_weak {e : Expr} {t t' : TG} (h : PG X e t) (w : ∀ v σ H Q, t' v σ H Q → t v σ H Q) : PG X e t' := ⟨fun pins s σ H v u Q I r q => h.run pins s σ H v u Q I r (w v σ H Q q)⟩
theorem pgs_weak {e : List Expr} {t t' : TGs} (h : PGs X e t) (w : ∀ v σ H Q, t' v σ H Q → t v σ H Q) : PGs X e t' := ⟨fun pins s σ H v u Q I r q => h.run pins s σ H v u Q I r (w v σ H Q q)⟩
theorem g_name {i : Nat} {x : Str} {pos : Pos} (hN : X.N.Nodup) (hi : X.N[i]? = some x) (hx : Loc X.env.scope x) (hio : i ∉ io) (hf : X.fn x = true ∨ X.env.scope.names.lookup x = some .local := by first | exact .inl rfl | exact .inr rfl | assumption) : JG X io (.Name x pos) (gN i) :=
  ⟨pg_weak (pg_name hN hi hx hf) fun v σ H Q ⟨ρ, x, er, fz, f⟩ => f _ H ((Pst.refl er).put (b := .d x) fz) (Fx.set hio), fun x ρ => .inl ⟨_, rfl⟩⟩
theorem gs_nil : JGs X io [] [] :=
  ⟨pgs_weak pgs_nil fun vs σ H Q ⟨ρ, xs, er, fz, f⟩ => by
    cases fz with
    | nil => exact ⟨rfl, f σ H (Pst.refl er) .refl⟩
    | cons _ _ => exact f.elim, fun xs ρ => by
    cases xs with
    | nil => exact .inl ⟨ρ, rfl⟩
    | cons _ _ => exact .inr rfl⟩
theorem gs_cons {e : Expr} {es : List Expr} {t : Gd} {ts : List Gd} (h1 : JG X io e t) (h2 : JGs X io es ts) (hs : (assignEach (e :: es) X.env).map (·.2) = assign e X.env :: (assignEach es X.env).map (·.2) := by rfl) : JGs X io (e :: es) (t :: ts) := by
  refine ⟨pgs_weak (pgs_cons h1.pg h2.pgs hs) fun vs σ H Q ⟨ρ, xs, er, fz, f⟩ => ?_, fun xs ρ => ?_⟩
  · cases fz with
    | nil => exact f.elim
    | @cons v vs x xs a b =>
      refine ⟨v, vs, rfl, ρ, x, er, a, ?_⟩
      rcases h1.tame x ρ with ⟨ρ1, e1⟩ | e1
      · rw [e1]
        rw [gRun_cons, e1, seq_nx] at f
        exact fun σ1 H1 p y => ⟨ρ1, xs, p.env, p.fzAll er b, FinG.later p y f⟩
      · rw [gRun_cons, e1] at f
        exact f.elim
  · cases xs with
    | nil => exact .inr rfl
    | cons x xs =>
      rw [gRun_cons]
      rcases h1.tame x ρ with ⟨ρ1, e1⟩ | e1
      · rw [e1]; exact h2.tame xs ρ1
      · rw [e1]; exact .inr rfl
theorem gRun_len : ∀ {ts : List Gd} {xs : List PyData} {ρ ρ1 : Env}, gRun ts xs ρ = .nx ρ1 → (∀ t ∈ ts, Tame t) → xs.length = ts.length
  | [], [], _, _, _, _ => rfl
  | [], _ :: _, _, _, h, _ => by cases h
  | _ :: _, [], _, _, h, _ => by cases h
  | t :: ts, x :: xs, ρ, ρ1, h, ht => by
    rw [gRun_cons] at h
    rcases ht t List.mem_cons_self x ρ with ⟨ρ2, e⟩ | e
    · rw [e, seq_nx] at h
      rw [List.length_cons, List.length_cons, gRun_len h fun t' h' => ht t' (List.mem_cons_of_mem _ h')]
    · rw [e] at h; cases h
theorem g_tup {es : List Expr} {ts : List Gd} {k : Nat} {pos : Pos} (hc : X.calm = true) (h : JGs X io es ts) (ht : ∀ t ∈ ts, Tame t) (hn : (assignEach es X.env).length = ts.length := by rfl) (hst : (assignEach es X.env).findIdx? (·.1) = none := by rfl) : JG X io (.Tuple es k pos) (gT ts) := by
  refine ⟨pg_weak (pg_tup hc h.pgs hn hst) fun v σ H Q ⟨ρ, x, er, fz, f⟩ => ?_, fun x ρ => ?_⟩
  · cases fz with
    | @tup a vs xs hq hx =>
      refine ⟨a, vs, rfl, hq, ?_, ρ, xs, er, hx, f⟩
      have f' : FinG X.K io σ H ρ Q (gRun ts xs ρ) := f
      rcases h.tame xs ρ with ⟨ρ1, e⟩ | e
      · rw [hx.length, gRun_len e ht]
      · rw [e] at f'; exact f'.elim
    | _ => exact f.elim
  · cases x with
    | tuple xs => exact h.tame xs ρ
    | _ => exact .inr rfl
/-- t = e by any target -/
theorem s_asg {tg e : Expr} {t : Gd} {c : Cd} {pos : Pos} (he : JE X W e c) (hg : JG X io tg t) (hs : swapsWithSole [tg] e pos.line X.env = pure false := by rfl) (hw : swappedStores [tg] e X.env = pure none := by rfl)
    (h1 : (assignEach [tg] X.env).map (·.2) = [assign tg X.env] := by rfl) : JS X W io (.Assign [tg] e pos) (sAsg t c) :=
  ps_weak (ps_asg (e_hold he) hg.pg hs hw h1) fun D σ H ⟨ρ, er, f⟩ => by
    have f' : FinS X.K X.mg W io D σ H ρ ((cE c ρ).toS fun h e1 => match h with
      | .v (.d x) => t x e1
      | _ => .no) := by
      unfold sAsg at f
      unfold cE
      cases e1 : c ρ with
      | ok h ρ1 =>
        rw [e1] at f
        simp only [R.toS_ok, R.bind_ok] at f ⊢
        cases e2 : hold h ρ1 with
        | ok x ρ2 => rw [e2] at f; exact f
        | ex x ρ2 => rw [e2] at f; exact f
        | no => rw [e2] at f; exact f
      | ex x ρ1 => rw [e1] at f; exact f
      | no => rw [e1] at f; exact f
    refine ⟨ρ, er, FinS.part f' fun hd ρ1 c1 f1 v H1 p dn => ?_⟩
    cases hd with
    | s i => exact f1.elim
    | v b =>
      cases b with
      | l xs => exact f1.elim
      | d x =>
        refine ⟨ρ1, x, p.env, dn, ?_⟩
        have f2 := FinS.later p .refl f1
        rcases hg.tame x ρ1 with ⟨ρ2, e⟩ | e
        · simp only [e] at f2 ⊢
          exact f2
        · simp only [e] at f2
          exact f2.elim

/-! ### what is walked -/
def WalkJ (K : PySem.W.Frag) (H1 : Hp) (J : It) (xs : List PyData) : Prop := ∀ (i : Nat) (H : Hp), (∀ b o, H1 b = some o → stays o = true → H b = some o) →
  (i = xs.length → J.stop i H) ∧ (i < xs.length → J.go i H) ∧ ∀ x H', J.yld i H x H' → ∀ d, xs[i]? = some d → Fz K H' x d ∧ ∀ b o, H b = some o → H' b = some o
def tI (K : PySem.W.Frag) (mg : Str → Option Value) (W : WX) (c : Wd) : TI := fun σ H R => ∃ ρ, EnvRel K H σ ρ ∧ Fin K mg W σ H ρ (fun H1 _ (J : It) xs => WalkJ K H1 J xs) (c ρ) R
abbrev JI (X : Cx) (W : WX) (tg e : Expr) (c : Wd) : Prop := PI X tg e (tI X.K X.mg W c)
theorem pi_weak {tg e : Expr} {t t' : TI} (h : PI X tg e t) (w : ∀ σ H R, t' σ H R → t σ H R) : PI X tg e t' := ⟨fun pins s σ H R I q => h.run pins s σ H R I (w σ H R q)⟩
theorem pi_or {tg e : Expr} {t t' : TI} (h : PI X tg e t) (h' : PI X tg e t') : PI X tg e (fun σ H R => t σ H R ∨ t' σ H R) :=
  ⟨fun pins s σ H R I q => q.elim (fun q => h.run pins s σ H R I q) fun q => h'.run pins s σ H R I q⟩
theorem walk_lst {K : PySem.W.Frag} {H : Hp} {a : Addr} {vs : List V} {xs : List PyData} (h : FL K H a vs) (hx : FzAll K H vs xs) : WalkJ K H (Itl K a) xs := fun i H1 k => by
  have hq : SqL K H1 a vs := FL.sq (h.imp (fun ⟨o, h⟩ => ⟨o, k _ _ h rfl⟩) id)
  have hx1 := hx.keep k
  refine ⟨fun hi => ⟨vs, hq, by rw [hx.length]; exact Nat.le_of_eq hi.symm⟩, fun hi => ?_, fun x H' hy d hd => ?_⟩
  · obtain ⟨v, hv, _⟩ := hx1.get (List.getElem?_eq_getElem hi)
    exact ⟨vs, v, hq, hv⟩
  · obtain ⟨rfl, hy⟩ := hy
    obtain ⟨v, hv, fz⟩ := hx1.get hd
    have ev : v = x := Option.some.inj (hv.symm.trans (hy vs hq))
    subst ev
    exact ⟨fz, fun b o h => h⟩
theorem walk_tup {K : PySem.W.Frag} {H : Hp} {a : Addr} {vs : List V} {xs : List PyData} (h : SqT K H a vs) (hx : FzAll K H vs xs) : WalkJ K H (Itt K a) xs := fun i H1 k => by
  have hq : SqT K H1 a vs := SqT.keep k h
  have hx1 := hx.keep k
  refine ⟨fun hi => ⟨vs, hq, by rw [hx.length]; exact Nat.le_of_eq hi.symm⟩, fun hi => ?_, fun x H' hy d hd => ?_⟩
  · obtain ⟨v, hv, _⟩ := hx1.get (List.getElem?_eq_getElem hi)
    exact ⟨vs, v, hq, hv⟩
  · obtain ⟨rfl, hy⟩ := hy
    obtain ⟨v, hv, fz⟩ := hx1.get hd
    have ev : v = x := Option.some.inj (hv.symm.trans (hy vs hq))
    subst ev
    exact ⟨fz, fun b o h => h⟩
theorem i_seq {tg e : Expr} {c : Cd} (h : JE X W e c) : JI X W tg e (wSeq c) :=
  pi_weak (pi_or (pi_list (e_hold h)) (pi_tup (e_hold h))) fun σ H R ⟨ρ, er, f⟩ => by
    unfold wSeq at f
    cases e1 : cE c ρ with
    | no => rw [e1] at f; exact f.elim
    | ex x ρ1 => rw [e1] at f; exact .inl ⟨ρ, er, by rw [e1]; exact f⟩
    | ok hd ρ1 =>
      rw [e1, Sv.R.bind_ok] at f
      cases hd with
      | s i => exact f.elim
      | v b =>
        cases b with
        | l xs => exact f.elim
        | d x =>
          cases x with
          | list xs =>
            refine .inl ⟨ρ, er, ?_⟩
            rw [e1]
            intro v H1 p dn
            cases dn with
            | lst ha hx => exact ⟨_, rfl, ⟨_, ha.sq⟩, f _ H1 p (walk_lst ha hx)⟩
          | tuple xs =>
            refine .inr ⟨ρ, er, ?_⟩
            rw [e1]
            intro v H1 p dn
            cases dn with
            | tup ha hx => exact ⟨_, rfl, ⟨_, ha⟩, f _ H1 p (walk_tup ha hx)⟩
          | _ => exact f.elim

/-! ### for -/
theorem s_for {tg iter : Expr} {body : List Stmt} {w : Wd} {t : Gd} {b : Sd} {pos : Pos} (hp : PassesOwn (model X.prog X.w) X.A X.env X.xe) (hc : X.calm = true) (hi : JI X W tg iter w) (hg : JG X io tg t) (hb : JB X W io body b)
    (hs : ∀ x, foldedSetIterable iter X.env x = pure x := by intro _; rfl) : JS X W io (.For tg iter body [] pos) (sFor w t b) :=
  ps_weak (ps_for hp hc hi hg.pg hb hs) fun D σ H ⟨ρ, er, f⟩ => by
    refine ⟨ρ, er, FinS.part f fun xs ρ1 _ f1 J H1 p wk => ?_⟩
    refine ⟨fun i m σ' H' => m + i = xs.length ∧ (∀ a o, H1 a = some o → stays o = true → H' a = some o) ∧ tS X.K X.mg W io (loopF t b (xs.drop i)) D σ' H',
      ⟨xs.length, rfl, fun _ _ h _ => h, ρ1, p.env, FinS.later p .refl f1⟩, fun i m σ' H' ⟨hm, k, ρ', er', f'⟩ => ?_⟩
    obtain ⟨w1, w2, w3⟩ := wk i H' k
    by_cases hi : i < xs.length
    · have hd : xs.drop i = xs[i] :: xs.drop (i + 1) := List.drop_eq_getElem_cons hi
      rw [hd] at f'
      refine .inr ⟨w2 hi, fun σ2 H2 => (∀ a o, H1 a = some o → stays o = true → H2 a = some o) ∧ tS X.K X.mg W io (loopF t b (xs.drop (i + 1))) D σ2 H2, fun σ2 H2 q => ⟨m - 1, by omega, by omega, q⟩, fun v H2 hy => ?_⟩
      obtain ⟨fz, gr⟩ := w3 v H2 hy xs[i] (List.getElem?_eq_getElem hi)
      have er2 := er'.grow gr
      have p2 := Pst.grow er' gr
      have k2 : ∀ a o, H1 a = some o → stays o = true → H2 a = some o := fun a o h s => gr a o (k a o h s)
      have f2 := FinS.later p2 .refl f'
      refine ⟨ρ', xs[i], er2, fz, ?_⟩
      simp only [loopF] at f2
      rcases hg.tame xs[i] ρ' with ⟨ρ3, e3⟩ | e3
      · rw [e3]
        rw [e3, seq_nx] at f2
        intro σ3 H3 p3 x3
        have k3 : ∀ a o, H1 a = some o → stays o = true → H3 a = some o := fun a o h s => p3.stay er2 a o (k2 a o h s) s
        have f3 := FinS.later p3 x3 f2
        refine ⟨ρ3, p3.env, ?_⟩
        cases e : b ρ3 with
        | nx ρ4 => rw [e] at f3; exact fun σ4 H4 q x => ⟨fun a o h s => q.stay p3.env a o (k3 a o h s) s, ρ4, q.env, FinS.later q x f3⟩
        | ct ρ4 => rw [e] at f3; exact fun σ4 H4 q x => ⟨fun a o h s => q.stay p3.env a o (k3 a o h s) s, ρ4, q.env, FinS.later q x f3⟩
        | bk ρ4 => rw [e] at f3; exact f3
        | rt b ρ4 => rw [e] at f3; exact f3
        | ex x ρ4 => rw [e] at f3; exact f3
        | no => rw [e] at f3; exact f3
      · rw [e3] at f2
        exact f2.elim
    · have hd : xs.drop i = [] := List.drop_eq_nil_of_le (by omega)
      rw [hd] at f'
      exact .inl ⟨w1 (by omega), f' σ' H' (Pst.refl er') .refl⟩
end
end Sv
end
section
set_option autoImplicit false
set_option linter.all false
/-! Sv: list comprehensions. -/
namespace Sv
open PySem PySem.Spec L2
open PyProof.Rows hiding St

/-- no error leaves -/
def WF : WX := fun _ _ _ _ => False
theorem takesF (X : Cx) : Takes X WF := fun u s' ⟨_, _, _, _, _, _, _, _, _, _, _, _, _, _, _, _, h⟩ => h.elim

section
variable {K : PySem.W.Frag} {H H1 H2 : Hp} {σ σ1 : St} {ρ ρ1 ρ2 : Env} {vs : List Nat}
theorem wipe_get (σ : St) : ∀ (vs : List Nat) (i : Nat), (i ∉ vs ∧ (wipe σ vs)[i]? = σ[i]?) ∨ (i ∈ vs ∧ ∀ v, (wipe σ vs)[i]? ≠ some (some v))
  | [], i => .inl ⟨List.not_mem_nil, rfl⟩
  | v :: vs, i => by
    by_cases e : v = i
    · subst e
      refine .inr ⟨List.mem_cons_self, fun x h => ?_⟩
      unfold wipe at h
      by_cases hl : v < (wipe σ vs).length
      · rw [List.getElem?_set_self hl] at h; cases h
      · rw [List.getElem?_eq_none (by rw [List.length_set]; omega)] at h; cases h
    · have h : (wipe σ (v :: vs))[i]? = (wipe σ vs)[i]? := List.getElem?_set_ne e
      rw [h]
      rcases wipe_get σ vs i with ⟨a, b⟩ | ⟨a, b⟩
      · exact .inl ⟨fun q => (List.mem_cons.mp q).elim (fun z => e z.symm) a, b⟩
      · exact .inr ⟨List.mem_cons_of_mem _ a, b⟩
theorem wipeE_get (ρ : Env) : ∀ (vs : List Nat) (i : Nat), (i ∉ vs ∧ (wipeE ρ vs)[i]? = ρ[i]?) ∨ (i ∈ vs ∧ ∀ v, (wipeE ρ vs)[i]? ≠ some (some v))
  | [], i => .inl ⟨List.not_mem_nil, rfl⟩
  | v :: vs, i => by
    by_cases e : v = i
    · subst e
      refine .inr ⟨List.mem_cons_self, fun x h => ?_⟩
      unfold wipeE at h
      by_cases hl : v < (wipeE ρ vs).length
      · rw [List.getElem?_set_self hl] at h; cases h
      · rw [List.getElem?_eq_none (by rw [List.length_set]; omega)] at h; cases h
    · have h : (wipeE ρ (v :: vs))[i]? = (wipeE ρ vs)[i]? := List.getElem?_set_ne e
      rw [h]
      rcases wipeE_get ρ vs i with ⟨a, b⟩ | ⟨a, b⟩
      · exact .inl ⟨fun q => (List.mem_cons.mp q).elim (fun z => e z.symm) a, b⟩
      · exact .inr ⟨List.mem_cons_of_mem _ a, b⟩
theorem wipeE_len (ρ : Env) : ∀ vs : List Nat, (wipeE ρ vs).length = ρ.length
  | [] => rfl
  | v :: vs => by unfold wipeE; rw [List.length_set, wipeE_len ρ vs]
theorem restE_len (ρ0 ρ : Env) : ∀ vs : List Nat, (restE ρ0 ρ vs).length = ρ.length
  | [] => rfl
  | v :: vs => by
    unfold restE
    split
    · rw [List.length_set, restE_len ρ0 ρ vs]
    · exact restE_len ρ0 ρ vs
theorem restE_get (ρ0 ρ : Env) (hl : ρ0.length = ρ.length) : ∀ (vs : List Nat) (i : Nat), (i ∉ vs ∧ (restE ρ0 ρ vs)[i]? = ρ[i]?) ∨ (i ∈ vs ∧ (restE ρ0 ρ vs)[i]? = ρ0[i]?)
  | [], i => .inl ⟨List.not_mem_nil, rfl⟩
  | v :: vs, i => by
    unfold restE
    cases e0 : ρ0[v]? with
    | none =>
      simp only
      rcases restE_get ρ0 ρ hl vs i with ⟨a, b⟩ | ⟨a, b⟩
      · by_cases e : v = i
        · subst e
          refine .inr ⟨List.mem_cons_self, ?_⟩
          rw [b, e0, List.getElem?_eq_none_iff]
          have := List.getElem?_eq_none_iff.mp e0
          omega
        · exact .inl ⟨fun q => (List.mem_cons.mp q).elim (fun z => e z.symm) a, b⟩
      · exact .inr ⟨List.mem_cons_of_mem _ a, b⟩
    | some o =>
      simp only
      by_cases e : v = i
      · subst e
        have hv : v < ρ0.length := (List.getElem?_eq_some_iff.mp e0).1
        exact .inr ⟨List.mem_cons_self, by rw [List.getElem?_set_self (by rw [restE_len]; omega), e0]⟩
      · rw [List.getElem?_set_ne e]
        rcases restE_get ρ0 ρ hl vs i with ⟨a, b⟩ | ⟨a, b⟩
        · exact .inl ⟨fun q => (List.mem_cons.mp q).elim (fun z => e z.symm) a, b⟩
        · exact .inr ⟨List.mem_cons_of_mem _ a, b⟩
theorem EnvRel.wipe (er : EnvRel K H σ ρ) (vs : List Nat) : EnvRel K H (L2.wipe σ vs) (wipeE ρ vs) := by
  have sub : ∀ {i : Nat} {b : B}, (wipeE ρ vs)[i]? = some (some b) → ρ[i]? = some (some b) ∧ i ∉ vs := fun {i b} h => by
    rcases wipeE_get ρ vs i with ⟨a, e⟩ | ⟨_, e⟩
    · exact ⟨by rw [← e]; exact h, a⟩
    · exact absurd h (e b)
  have sam : ∀ {i : Nat}, i ∉ vs → (L2.wipe σ vs)[i]? = σ[i]? := fun {i} h => by
    rcases wipe_get σ vs i with ⟨_, e⟩ | ⟨a, _⟩
    · exact e
    · exact absurd a h
  refine ⟨by rw [wipeE_len, wipe_length]; exact er.len, fun i b h => ?_, fun i j xs ys a h1 h2 h3 h4 => ?_⟩
  · obtain ⟨h1, h2⟩ := sub h
    obtain ⟨v, e1, e2⟩ := er.den i b h1
    exact ⟨v, by rw [sam h2]; exact e1, e2⟩
  · obtain ⟨p1, p2⟩ := sub h1
    obtain ⟨q1, q2⟩ := sub h2
    rw [sam p2] at h3
    rw [sam q2] at h4
    exact er.inj i j xs ys a p1 q1 h3 h4
theorem own_wipe {a : Addr} (h : Own (L2.wipe σ vs) (wipeE ρ vs) a) : ∃ (i : Nat) (xs : List PyData), i ∉ vs ∧ ρ[i]? = some (some (.l xs)) ∧ σ[i]? = some (some (.ref a)) := by
  obtain ⟨i, xs, h1, h2⟩ := h
  rcases wipeE_get ρ vs i with ⟨n, e⟩ | ⟨_, e⟩
  · rcases wipe_get σ vs i with ⟨_, e'⟩ | ⟨q, _⟩
    · exact ⟨i, xs, n, by rw [← e]; exact h1, by rw [← e']; exact h2⟩
    · exact absurd q n
  · exact absurd h1 (e _)
/-- behind the block: its own names are as they were -/
theorem Pst.rest (er : EnvRel K H σ ρ) (p : Pst K H (L2.wipe σ vs) (wipeE ρ vs) H1 (L2.wipe σ vs) ρ1) : Pst K H σ ρ H1 σ (restE ρ ρ1 vs) := by
  have hl : ρ.length = ρ1.length := by
    have e1 := p.env.len
    rw [wipe_length, ← er.len] at e1
    exact e1.symm
  have sam : ∀ {i : Nat}, i ∉ vs → (L2.wipe σ vs)[i]? = σ[i]? := fun {i} h => by
    rcases wipe_get σ vs i with ⟨_, e⟩ | ⟨a, _⟩
    · exact e
    · exact absurd a h
  have sub : ∀ a, Own (L2.wipe σ vs) (wipeE ρ vs) a → Own σ ρ a := fun a h => by
    obtain ⟨i, xs, _, h1, h2⟩ := own_wipe h
    exact ⟨i, xs, h1, h2⟩
  have val : ∀ {i : Nat} {b : B}, (restE ρ ρ1 vs)[i]? = some (some b) → (i ∈ vs ∧ ρ[i]? = some (some b)) ∨ (i ∉ vs ∧ ρ1[i]? = some (some b)) := fun {i b} h => by
    rcases restE_get ρ ρ1 hl vs i with ⟨a, e⟩ | ⟨a, e⟩
    · exact .inr ⟨a, by rw [← e]; exact h⟩
    · exact .inl ⟨a, by rw [← e]; exact h⟩
  have hid : ∀ {i : Nat} {xs : List PyData} {a : Addr}, i ∈ vs → ρ[i]? = some (some (.l xs)) → σ[i]? = some (some (.ref a)) → ¬ Own (L2.wipe σ vs) (wipeE ρ vs) a := fun {i xs a} hi h1 h2 w => by
    obtain ⟨j, ys, hj, h3, h4⟩ := own_wipe w
    exact hj (er.inj i j xs ys a h1 h3 h2 h4 ▸ hi)
  have ew := er.wipe vs
  refine ⟨⟨by rw [restE_len, ← hl]; exact er.len, fun i b h => ?_, fun i j xs ys a h1 h2 h3 h4 => ?_⟩, fun b o h n => p.keep b o h fun w => n (sub b w), fun a w => ?_, p.there⟩
  · rcases val h with ⟨hi, h1⟩ | ⟨hi, h1⟩
    · obtain ⟨v, e1, e2⟩ := er.den i b h1
      refine ⟨v, e1, ?_⟩
      cases b with
      | d x => exact p.fz ew e2
      | l xs =>
        obtain ⟨a, ys, rfl, q1, q2⟩ := e2
        exact ⟨a, ys, rfl, p.keep a _ q1 (hid hi h1 e1), p.fzAll ew q2⟩
    · obtain ⟨v, e1, e2⟩ := p.env.den i b h1
      rw [sam hi] at e1
      exact ⟨v, e1, e2⟩
  · have cross : ∀ {i j : Nat} {xs ys : List PyData}, i ∈ vs → ρ[i]? = some (some (.l xs)) → σ[i]? = some (some (.ref a)) → j ∉ vs → ρ1[j]? = some (some (.l ys)) → σ[j]? = some (some (.ref a)) → False := fun {i j xs ys} hi q1 q2 hj q3 q4 => by
      rcases p.own a ⟨j, ys, q3, by rw [sam hj]; exact q4⟩ with w | w
      · exact hid hi q1 q2 w
      · obtain ⟨zs, z⟩ := er.owned ⟨i, xs, q1, q2⟩
        rw [w] at z
        cases z
    rcases val h1 with ⟨hi, p1⟩ | ⟨hi, p1⟩
    · rcases val h2 with ⟨hj, p2⟩ | ⟨hj, p2⟩
      · exact er.inj i j xs ys a p1 p2 h3 h4
      · exact (cross hi p1 h3 hj p2 h4).elim
    · rcases val h2 with ⟨hj, p2⟩ | ⟨hj, p2⟩
      · exact (cross hj p2 h4 hi p1 h3).elim
      · exact p.env.inj i j xs ys a p1 p2 (by rw [sam hi]; exact h3) (by rw [sam hj]; exact h4)
  · obtain ⟨i, xs, h1, h2⟩ := w
    rcases val h1 with ⟨hi, p1⟩ | ⟨hi, p1⟩
    · exact .inl ⟨i, xs, p1, h2⟩
    · rcases p.own a ⟨i, xs, p1, by rw [sam hi]; exact h2⟩ with w | w
      · exact .inl (sub a w)
      · exact .inr w
/-- a turn's end: the block's own names are forgotten -/
theorem wipe_of_eq {σ2 : St} (h : L2.wipe σ2 vs = L2.wipe σ vs) (p : Pst K H σ1 ρ1 H1 σ2 ρ2) : Pst K H σ1 ρ1 H1 (L2.wipe σ vs) (wipeE ρ2 vs) := by
  rw [← h]
  refine ⟨p.env.wipe vs, p.keep, fun a w => ?_, p.there⟩
  obtain ⟨i, xs, _, h1, h2⟩ := own_wipe w
  exact p.own a ⟨i, xs, h1, h2⟩
end

section
variable {X : Cx} {W : WX}
abbrev JTs (X : Cx) (ifs : List Expr) (t : Td) : Prop := PTs X ifs (tT X.K X.mg WF t)
theorem ts_nil : JTs X [] Sv.tYes := ⟨fun pins s σ H Q I ⟨ρ, er, f⟩ => pts_nil.run pins s σ H Q I (f true H (Pst.refl er) rfl)⟩
theorem ts_one {c : Expr} {t : Td} (h : JT X WF c t) : JTs X [c] t := pts_one h
theorem wipe_set {σ : St} {vs : List Nat} {i : Nat} {v : Option V} (h : i ∈ vs) : L2.wipe (σ.set i v) vs = L2.wipe σ vs := by
  apply List.ext_getElem?
  intro j
  have hlen : (L2.wipe (σ.set i v) vs).length = (L2.wipe σ vs).length := by rw [wipe_length, wipe_length, List.length_set]
  rcases wipe_get (σ.set i v) vs j with ⟨a, e⟩ | ⟨a, e⟩
  · rcases wipe_get σ vs j with ⟨_, e'⟩ | ⟨a', _⟩
    · rw [e, e', List.getElem?_set_ne fun (z : i = j) => a (by rw [← z]; exact h)]
    · exact absurd a' a
  · rcases wipe_get σ vs j with ⟨a', _⟩ | ⟨_, e'⟩
    · exact absurd a a'
    · cases q : (L2.wipe (σ.set i v) vs)[j]? with
      | none =>
        have q1 := List.getElem?_eq_none_iff.mp q
        exact (List.getElem?_eq_none_iff.mpr (by omega)).symm
      | some o =>
        cases o with
        | some z => exact absurd q (e z)
        | none =>
          have q1 : j < (L2.wipe σ vs).length := by
            have := (List.getElem?_eq_some_iff.mp q).1
            omega
          cases q' : (L2.wipe σ vs)[j]? with
          | none => exact absurd (List.getElem?_eq_none_iff.mp q') (by omega)
          | some o' =>
            cases o' with
            | some z => exact absurd q' (e' z)
            | none => rfl
theorem wipe_same {σ σ1 : St} {vs io : List Nat} (x : Fx io (L2.wipe σ vs) σ1) (h : ∀ j, j < σ.length → j ∉ vs → j ∈ io) : L2.wipe σ1 vs = L2.wipe σ vs := by
  have hl : σ1.length = σ.length := by rw [x.len, wipe_length]
  apply List.ext_getElem?
  intro j
  rcases wipe_get σ1 vs j with ⟨a, e⟩ | ⟨a, e⟩
  · rcases wipe_get σ vs j with ⟨_, e'⟩ | ⟨a', _⟩
    · by_cases hj : j < σ.length
      · rw [e, x.at_ j (h j hj a)]
      · rw [e, List.getElem?_eq_none (by omega), List.getElem?_eq_none (by rw [wipe_length]; omega)]
    · exact absurd a' a
  · rcases wipe_get σ vs j with ⟨a', _⟩ | ⟨_, e'⟩
    · exact absurd a a'
    · by_cases hj : j < σ.length
      · have h1 : j < (L2.wipe σ1 vs).length := by rw [wipe_length]; omega
        have h2 : j < (L2.wipe σ vs).length := by rw [wipe_length]; omega
        have g1 : (L2.wipe σ1 vs)[j]? = some none := by
          rw [List.getElem?_eq_getElem h1]
          cases q : (L2.wipe σ1 vs)[j] with
          | none => rfl
          | some z => exact absurd (by rw [List.getElem?_eq_getElem h1, q]) (e z)
        have g2 : (L2.wipe σ vs)[j]? = some none := by
          rw [List.getElem?_eq_getElem h2]
          cases q : (L2.wipe σ vs)[j] with
          | none => rfl
          | some z => exact absurd (by rw [List.getElem?_eq_getElem h2, q]) (e' z)
        rw [g1, g2]
      · rw [List.getElem?_eq_none (by rw [wipe_length]; omega), List.getElem?_eq_none (by rw [wipe_length]; omega)]
/-- a list that no slot owns is changed -/
theorem stay_chg {H : Hp} {a : Addr} {ys zs : List V} (h : H a = some (.lst ys)) : ∀ b u, H b = some u → stays u = true → upd H a (.lst zs) b = some u := fun b u e s => by
  have : b ≠ a := fun z => by rw [z, h] at e; cases e; cases s
  rw [upd_ne this]; exact e
theorem EnvRel.chg {K : PySem.W.Frag} {H : Hp} {σ : St} {ρ : Env} {a : Addr} {ys : List V} (zs : List V) (er : EnvRel K H σ ρ) (h : H a = some (.lst ys)) (no : ¬ Own σ ρ a) : EnvRel K (upd H a (.lst zs)) σ ρ := by
  refine ⟨er.len, fun i b hb => ?_, er.inj⟩
  obtain ⟨v, e, d⟩ := er.den i b hb
  refine ⟨v, e, ?_⟩
  cases b with
  | d x => exact Fz.keep (stay_chg h) d
  | l xs =>
    obtain ⟨a', ys', rfl, e2, e3⟩ := d
    have ne : a' ≠ a := fun z => no ⟨i, xs, hb, by rw [← z]; exact e⟩
    exact ⟨a', ys', rfl, by rw [upd_ne ne]; exact e2, FzAll.keep (stay_chg h) e3⟩
theorem compL_cons {vs : List Nat} {t : Gd} {tt : Td} {c : Cd} {x : PyData} {xs : List PyData} {e e2 : Env} {zs : List PyData} (h : compL vs t tt c (x :: xs) e = .ok zs e2) :
    ∃ o e1 ys, comp1 vs t tt c x e = .ok o e1 ∧ compL vs t tt c xs e1 = .ok ys e2 ∧ zs = o.toList ++ ys := by
  unfold compL at h
  cases e1 : comp1 vs t tt c x e with
  | ok o e1' =>
    rw [e1] at h
    simp only at h
    cases e3 : compL vs t tt c xs e1' with
    | ok ys e4 =>
      rw [e3] at h
      simp only at h
      cases h
      exact ⟨o, e1', ys, rfl, e3, by cases o <;> rfl⟩
    | ex _ _ => rw [e3] at h; cases h
    | no => rw [e3] at h; cases h
  | ex _ _ => rw [e1] at h; cases h
  | no => rw [e1] at h; cases h
/-- what a comprehension asks, over its walk -/
theorem comp_fin {σ : St} {H : Hp} {Q : VK} {vs io : List Nat} {w : Wd} {t : Gd} {tt : Td} {c : Cd} {elt tg : Expr} {K : PySem.W.Frag} {mg : Str → Option Value} (tm : Tame t) (hio : ∀ j, j < σ.length → j ∉ vs → j ∈ io)
    (h : tC K mg W (cComp vs w t tt c) σ H Q) : tLc (tI K mg W w) (tG K io t) (tT K mg WF tt) (tC K mg WF (cE c)) vs σ H Q := by
  obtain ⟨ρ, er, f⟩ := h
  refine ⟨ρ, er, Fin.part f fun xs ρ1 _ f1 J H1 p wk => ?_⟩
  intro D hD
  by_cases hl : xs.length ≤ sizeLine
  · rw [if_pos hl] at f1
    cases ez : compL vs t tt c xs (wipeE ρ1 vs) with
    | ex _ _ => rw [ez] at f1; exact f1.elim
    | no => rw [ez] at f1; exact f1.elim
    | ok zs ρe =>
      rw [ez] at f1
      have ew := p.env.wipe vs
      refine ⟨fun i m H' => m + i = xs.length ∧ (∀ a o, H1 a = some o → stays o = true → H' a = some o) ∧ ∃ (ρ' : Env) (acc ys : List PyData) (av : List V), Pst K H1 (L2.wipe σ vs) (wipeE ρ1 vs) H' (L2.wipe σ vs) ρ' ∧ H' D = some (.lst av) ∧ FzAll K H' av acc ∧
          acc.length ≤ i ∧ compL vs t tt c (xs.drop i) ρ' = .ok ys ρe ∧ zs = acc ++ ys ∧ ¬ Own (L2.wipe σ vs) ρ' D, ⟨xs.length, rfl, fun a o h _ => grow_upd hD a o h, _, [], zs, [], Pst.grow ew (grow_upd hD), upd_same, .nil, Nat.le_refl 0, ez, rfl, fun z => ?_⟩, fun i m H' ⟨hm, k, ρ', acc, ys, av, q, hv, hx, hlen, ec, ezs, no⟩ => ?_⟩
      · obtain ⟨_, z1⟩ := ew.owned z
        rw [hD] at z1
        cases z1
      · obtain ⟨w1, w2, w3⟩ := wk i H' k
        by_cases hi : i < xs.length
        · rw [List.drop_eq_getElem_cons hi] at ec
          obtain ⟨o, ρn, ys', c1, c2, c3⟩ := compL_cons ec
          refine .inr ⟨w2 hi, fun H2 => (∀ a o, H1 a = some o → stays o = true → H2 a = some o) ∧ ∃ (ρ' : Env) (acc ys : List PyData) (av : List V), Pst K H1 (L2.wipe σ vs) (wipeE ρ1 vs) H2 (L2.wipe σ vs) ρ' ∧ H2 D = some (.lst av) ∧ FzAll K H2 av acc ∧
            acc.length ≤ i + 1 ∧ compL vs t tt c (xs.drop (i + 1)) ρ' = .ok ys ρe ∧ zs = acc ++ ys ∧ ¬ Own (L2.wipe σ vs) ρ' D, fun H2 z => ⟨m - 1, by omega, by omega, z⟩, fun v H2 hy => ?_⟩
          obtain ⟨fz, gr⟩ := w3 v H2 hy xs[i] (List.getElem?_eq_getElem hi)
          have p2 := Pst.grow q.env gr
          refine ⟨ρ', xs[i], p2.env, fz, ?_⟩
          unfold comp1 at c1
          rcases tm xs[i] ρ' with ⟨ρa, ea⟩ | ea
          · rw [ea] at c1 ⊢
            intro σ3 H3 p3 x3
            have we := wipe_same x3 hio
            refine ⟨we, ρa, p3.env, ?_⟩
            simp only at c1
            -- to the turn's end
            have fin : ∀ {ρb : Env} {H4 : Hp} {acc' : List PyData} {av' : List V}, Pst K H3 σ3 ρa H4 σ3 ρb → compL vs t tt c (xs.drop (i + 1)) (wipeE ρb vs) = .ok ys' ρe → zs = acc' ++ ys' → acc'.length ≤ i + 1 → FzAll K H4 av' acc' → ∀ H5 : Hp, (H5 = H4 ∧ av' = av ∨ H5 = upd H4 D (.lst av')) →
                (∀ a o, H1 a = some o → stays o = true → H5 a = some o) ∧ ∃ (ρ' : Env) (acc ys : List PyData) (av : List V), Pst K H1 (L2.wipe σ vs) (wipeE ρ1 vs) H5 (L2.wipe σ vs) ρ' ∧ H5 D = some (.lst av) ∧ FzAll K H5 av acc ∧ acc.length ≤ i + 1 ∧ compL vs t tt c (xs.drop (i + 1)) ρ' = .ok ys ρe ∧ zs = acc ++ ys ∧ ¬ Own (L2.wipe σ vs) ρ' D := by
              intro ρb H4 acc' av' p4 g1 g2 g3 g4 H5 g5
              have pt := ((p2.trans p3).trans p4)
              have pe := wipe_of_eq we pt
              have hD4 : H4 D = some (.lst av) := pe.keep D _ hv no
              have no4 : ¬ Own (L2.wipe σ vs) (wipeE ρb vs) D := fun z => by
                rcases pe.own D z with z | z
                · exact no z
                · rw [z] at hv; cases hv
              have p1 := q.trans pe
              have st4 : ∀ a o, H1 a = some o → stays o = true → H4 a = some o := fun a o h s => p1.stay ew a o h s
              rcases g5 with ⟨rfl, rfl⟩ | rfl
              · exact ⟨st4, _, acc', ys', av', p1, hD4, g4, g3, g1, g2, no4⟩
              · refine ⟨fun a o h s => stay_chg hD4 a o (st4 a o h s) s, _, acc', ys', av', ⟨p1.env.chg av' hD4 no4, fun b o h n => ?_, p1.own, fun b h => upd_there b (p1.there b h)⟩, upd_same, g4.keep (stay_chg hD4), g3, g1, g2, no4⟩
                have ne : b ≠ D := fun z => by rw [z, hD] at h; cases h
                rw [upd_ne ne]
                exact p1.keep b o h n
            cases eb : tt ρa with
            | ex _ _ => rw [eb] at c1; cases c1
            | no => rw [eb] at c1; cases c1
            | ok kb ρb =>
              rw [eb] at c1
              intro kb' H4 p4 ekb
              subst ekb
              cases kb' with
              | false =>
                simp only at c1
                cases c1
                refine fin p4 c2 (by rw [ezs, c3]; rfl) (by omega) (hx.keep fun a o h s => ?_) H4 (.inl ⟨rfl, rfl⟩)
                exact ((p2.trans p3).trans p4).stay q.env a o h s
              | true =>
                simp only at c1
                refine ⟨ρb, p4.env, ?_⟩
                cases ey : cE c ρb with
                | ex _ _ => rw [ey] at c1; cases c1
                | no => rw [ey] at c1; cases c1
                | ok hd ρc =>
                  rw [ey] at c1
                  cases hd with
                  | s _ => cases c1
                  | v b =>
                    cases b with
                    | l _ => cases c1
                    | d y =>
                      simp only at c1
                      cases c1
                      intro vy H5 p5 dn
                      have p6 := p4.trans p5
                      have pt := ((p2.trans p3).trans p6)
                      have hx5 := hx.keep (pt.stay q.env)
                      have hD5 : H5 D = some (.lst av) := (wipe_of_eq we pt).keep D _ hv no
                      refine ⟨av, hD5, by rw [hx.length]; omega, ?_⟩
                      exact fin p6 c2 (by rw [ezs, c3]; simp) (by simp; omega) (hx5.append (.cons dn .nil)) _ (.inr rfl)
          · rw [ea] at c1; cases c1
        · refine .inl ⟨w1 (by omega), ?_⟩
          rw [List.drop_eq_nil_of_le (by omega)] at ec
          cases ec
          rw [List.append_nil] at ezs
          subst ezs
          have pr := Pst.rest p.env q
          refine f1 (.ref D) H' (p.trans pr) (DenR.start p (?_ : DenR K H1 σ ρ1 H' σ (restE ρ1 ρe vs) (.ref D) (.v (.l zs))))
          refine ⟨D, av, rfl, hv, hx, fun z => ?_, .inr hD⟩
          obtain ⟨i', zs', z1, z2⟩ := z
          have hll : ρ1.length = ρe.length := by
            have e1 := q.env.len
            rw [wipe_length, ← p.env.len] at e1
            exact e1.symm
          rcases restE_get ρ1 ρe hll vs i' with ⟨n1, n2⟩ | ⟨n1, n2⟩
          · rw [n2] at z1
            rcases wipe_get σ vs i' with ⟨_, e'⟩ | ⟨a', _⟩
            · exact no ⟨i', zs', z1, by rw [e']; exact z2⟩
            · exact n1 a'
          · rw [n2] at z1
            obtain ⟨_, z3⟩ := p.env.owned ⟨i', zs', z1, z2⟩
            rw [hD] at z3
            cases z3
  · rw [if_neg hl] at f1
    exact f1.elim
/-- [elt for tg in iter if ..] -/
theorem e_comp {elt tg iter : Expr} {ifs : List Expr} {scope : Scope} {own : List (Str × Nat)} {pos : Pos} {w : Wd} {t : Gd} {tt : Td} {c : Cd} {io : List Nat} (hc : X.calm = true) (hN : X.N.Nodup) (hi : JI X W tg iter w) (ok : BlkOk X.N X.env.scope scope own)
    (hg : ∀ (s : Shared) (H : Hp) (C : Addr) (cl : List (Str × Addr)) (fp : List Addr), JG (X.blk s H scope (compEnvC scope cl C X.env) fp) io tg t) (ht : ∀ (s : Shared) (H : Hp) (C : Addr) (cl : List (Str × Addr)) (fp : List Addr), JTs (X.blk s H scope (compEnvC scope cl C X.env) fp) ifs tt)
    (he : ∀ (s : Shared) (H : Hp) (C : Addr) (cl : List (Str × Addr)) (fp : List Addr), JE (X.blk s H scope (compEnvC scope cl C X.env) fp) WF elt c) (hio : ∀ j, j < X.N.length → j ∉ own.map (·.2) → j ∈ io) (tm : Tame t) (hs : ∀ x, foldedSetIterable iter X.env x = pure x := by intro _; rfl) :
    JE X W (.ListComp elt [⟨tg, iter, ifs, 0⟩] scope pos) (cComp (own.map (·.2)) w t tt c) := by
  refine ⟨fun pins s σ H Q I h => ?_⟩
  exact (pe_lc hc hN hi ok (fun s H C cl fp => (hg s H C cl fp).pg) ht (fun s H C cl fp => e_hold (he s H C cl fp)) hs).run pins s σ H Q I (comp_fin (elt := elt) (tg := tg) tm (by rw [I.len]; exact hio) h)
end
end Sv
end
section
set_option autoImplicit false
set_option linter.all false
/-! Sv: methods that change a list, stores to places, x op= e, a, b = x, y, x = [..], raise. -/
namespace Sv
open PySem PySem.Spec L2
open PyProof.Rows hiding St

section
variable {K : PySem.W.Frag} {H H1 H2 : Hp} {σ σ1 : St} {ρ ρ1 : Env}
/-- the list that slot i owns is changed -/
theorem Pst.mut {i : Nat} {cs cs' : List PyData} {a : Addr} {ys ys' : List V} (p : Pst K H σ ρ H1 σ1 ρ1) (hi : ρ1[i]? = some (some (.l cs))) (hs : σ1[i]? = some (some (.ref a))) (h : H1 a = some (.lst ys)) (hx : FzAll K H1 ys' cs') :
    Pst K H σ ρ (upd H1 a (.lst ys')) σ1 (ρ1.set i (some (.l cs'))) := by
  have hil : i < ρ1.length := (List.getElem?_eq_some_iff.mp hi).1
  have get : ∀ {j : Nat} {b : B}, (ρ1.set i (some (.l cs')))[j]? = some (some b) → (i = j ∧ b = .l cs') ∨ (i ≠ j ∧ ρ1[j]? = some (some b)) := fun {j b} h => by
    by_cases hj : i = j
    · subst hj
      rw [List.getElem?_set_self hil] at h
      exact .inl ⟨rfl, (Option.some.inj (Option.some.inj h)).symm⟩
    · rw [List.getElem?_set_ne hj] at h
      exact .inr ⟨hj, h⟩
  have sub : ∀ {b : Addr}, Own σ1 (ρ1.set i (some (.l cs'))) b → Own σ1 ρ1 b := fun {b} ⟨j, zs, h1, h2⟩ => by
    rcases get h1 with ⟨rfl, _⟩ | ⟨_, q⟩
    · exact ⟨i, cs, hi, h2⟩
    · exact ⟨j, zs, q, h2⟩
  refine ⟨⟨by rw [List.length_set]; exact p.env.len, fun j b hb => ?_, fun j k xs zs c h1 h2 h3 h4 => ?_⟩, fun b o e n => ?_, fun b w => p.own b (sub w), fun b hb => upd_there b (p.there b hb)⟩
  · rcases get hb with ⟨rfl, rfl⟩ | ⟨hj, q⟩
    · exact ⟨_, hs, a, ys', rfl, upd_same, hx.keep (stay_chg h)⟩
    · obtain ⟨v, e1, e2⟩ := p.env.den j b q
      refine ⟨v, e1, ?_⟩
      cases b with
      | d x => exact Fz.keep (stay_chg h) e2
      | l xs =>
        obtain ⟨a', ys'', rfl, q1, q2⟩ := e2
        have ne : a' ≠ a := fun z => hj (p.env.inj i j cs xs a hi q hs (by rw [← z]; exact e1))
        exact ⟨a', ys'', rfl, by rw [upd_ne ne]; exact q1, q2.keep (stay_chg h)⟩
  · have up : ∀ {j : Nat} {zs : List PyData}, (ρ1.set i (some (.l cs')))[j]? = some (some (.l zs)) → ∃ ws, ρ1[j]? = some (some (.l ws)) := fun {j zs} h => by
      rcases get h with ⟨rfl, _⟩ | ⟨_, q⟩
      · exact ⟨cs, hi⟩
      · exact ⟨zs, q⟩
    obtain ⟨w1, q1⟩ := up h1
    obtain ⟨w2, q2⟩ := up h2
    exact p.env.inj j k w1 w2 c q1 q2 h3 h4
  · have ne : b ≠ a := fun z => by
      subst z
      rcases p.own b ⟨i, cs, hi, hs⟩ with w | w
      · exact n w
      · rw [w] at e; cases e
    rw [upd_ne ne]
    exact p.keep b o e n
end

/-! ### methods -/
abbrev Mth := List PyData → List PyData → Option (List PyData × PyData)
def rMt (K : PySem.W.Frag) (m : Mth) : V → List V → Hp → VK → Prop := fun x vs H Q => ∃ a ys cs xs cs' r, x = .ref a ∧ H a = some (.lst ys) ∧ FzAll K H ys cs ∧ FzAll K H vs xs ∧ m cs xs = some (cs', r) ∧
  ∀ v ys', FzAll K H ys' cs' → Fz K H v r → Q v (upd H a (.lst ys'))
section
variable {X : Cx} {W : WX} {io : List Nat}
theorem meth_fin {m : Mth} {i : Nat} {a : Ad} {σ : St} {H : Hp} {Q : VK} (h : tC X.K X.mg W (cMeth m i a) σ H Q) : tBM X.K "list" (rMt X.K m) (tC X.K X.mg W (cVar i)) (tA X.K X.mg W a) σ H Q := by
  obtain ⟨ρ, er, f⟩ := h
  unfold cMeth at f
  cases e0 : slot ρ i with
  | none => rw [e0] at f; exact f.elim
  | some b =>
    cases b with
    | d x => rw [e0] at f; exact f.elim
    | l cs0 =>
      rw [e0] at f
      refine ⟨ρ, er, ?_⟩
      unfold cVar
      rw [e0]
      intro v H1 p dn
      have dn : σ[i]? = some (some v) := dn
      obtain ⟨v', e1, a0, ys0, rfl, h0, h00⟩ := p.env.den i _ (slot_some e0)
      have ev : V.ref a0 = v := Option.some.inj (Option.some.inj (e1.symm.trans dn))
      subst ev
      refine ⟨.inl ⟨rfl, ys0, .inl (.inl h0)⟩, ρ, p.env, ?_⟩
      have fl : Fin X.K X.mg W σ H1 ρ (fun H2 ρ2 v h => DenR X.K H1 σ ρ H2 σ ρ2 v h) _ Q := Fin.laterC p f
      refine Fin.part fl fun hs ρ1 c1 f1 vs H2 q dnA => ?_
      cases e2 : slot ρ1 i with
      | none => rw [e2] at f1; exact f1.elim
      | some b =>
        cases b with
        | d x => rw [e2] at f1; exact f1.elim
        | l cs =>
          cases e3 : Sv.datas hs with
          | none => rw [e2, e3] at f1; exact f1.elim
          | some xs =>
            rw [e2, e3] at f1
            simp only at f1
            cases e4 : m cs xs with
            | none => rw [e4] at f1; exact f1.elim
            | some r =>
              obtain ⟨cs', r⟩ := r
              rw [e4] at f1
              obtain ⟨v', e5, a', ys, rfl, h1, h2⟩ := q.env.den i _ (slot_some e2)
              have ev : V.ref a' = V.ref a0 := Option.some.inj (Option.some.inj (e5.symm.trans dn))
              cases ev
              exact ⟨a0, ys, cs, xs, cs', r, rfl, h1, h2, dnA.datas e3, e4, fun v ys' g1 g2 => f1 v _ (q.mut (slot_some e2) dn h1 g1) (g2.keep (stay_chg h1))⟩
variable {o e : Expr} {es : List Expr} {name : Str} {apos cpos : Pos} {id : String} {m : Mth} {i : Nat} {a : Ad}
theorem e_meth (slot : Slot "list" name id) (hty : typeOf (.builtin id) = pure (.type "method_descriptor")) (hm : MtR X id (rMt X.K m)) (ho : JE X W o (cVar i)) (ha : JA X W (e :: es) a)
    (hbase : attributeBase o name X.env (eval o X.env) = eval o X.env := by rfl)
    (hfew : ((backTo cpos (starEach (e :: es) X.env)).all (fun x => !x.1) && (backToKw cpos (keywordEach [] X.env)).all (fun x => x.1.isSome) && decide ((e :: es).length + ([] : List Keyword).length + (if ([] : List Keyword).isEmpty then 0 else 1) < 30)) = true := by rfl)
    (hline : (apos.endLine == cpos.line) = true := by rfl) (hs : starEach (e :: es) X.env = (false, eval e X.env) :: starEach es X.env := by rfl) (hplain : (backTo cpos (starEach es X.env)).any (·.1) = false := by rfl) :
    JE X W (.Call (.Attribute o name apos) (e :: es) [] cpos) (cMeth m i a) :=
  pe_weak (pe_bm PySem.F.plainAttrs_list slot hty hm ho ha hbase hfew hline hs hplain) fun σ H Q h => meth_fin h
theorem e_meth0 (slot : Slot "list" name id) (hty : typeOf (.builtin id) = pure (.type "method_descriptor")) (hm : MtR X id (rMt X.K m)) (ho : JE X W o (cVar i))
    (hbase : attributeBase o name X.env (eval o X.env) = eval o X.env := by rfl) (hline : (apos.endLine == cpos.line) = true := by rfl) : JE X W (.Call (.Attribute o name apos) [] [] cpos) (cMeth m i aNil) :=
  pe_weak (pe_bm0 PySem.F.plainAttrs_list slot hty hm ho hbase hline) fun σ H Q h => by
    refine (show tC X.K X.mg W (cVar i) σ H _ from ?_)
    have h' := meth_fin h
    obtain ⟨ρ, er, f⟩ := h'
    refine ⟨ρ, er, ?_⟩
    cases e : cVar i ρ with
    | ok hd ρ1 =>
      rw [e] at f
      exact fun v H1 p dn => by
        obtain ⟨ty, ρ2, er2, g⟩ := f v H1 p dn
        exact ⟨ty, g [] H1 (Pst.refl er2) .nil⟩
    | ex x ρ1 => rw [e] at f; exact f
    | no => rw [e] at f; exact f
theorem mt_weak {r r' : V → List V → Hp → VK → Prop} (h : MtR X id r) (w : ∀ x vs H Q, r' x vs H Q → r x vs H Q) : MtR X id r' := fun pins s σ H x xs v us Q I rx rv q => h pins s σ H x xs v us Q I rx rv (w x xs H Q q)

/-! ### the methods of lists -/
def mAppend : Mth := fun cs xs => match xs with
  | [x] => if cs.length < sizeLine then some (cs ++ [x], .none) else none
  | _ => none
theorem m_append : MtR X "list.append" (rMt X.K mAppend) := mt_weak mt_append fun x vs H Q ⟨a, ys, cs, xs, cs', r, hx, h1, h2, h3, h4, q⟩ => by
  cases h3 with
  | nil => cases h4
  | cons fz t =>
    cases t with
    | cons _ _ => cases h4
    | nil =>
      simp only [mAppend] at h4
      split at h4
      · rename_i hl
        cases h4
        exact ⟨a, ys, _, hx, rfl, h1, by rw [h2.length]; exact hl, q _ _ (h2.append (.cons fz .nil)) .non⟩
      · cases h4
def mPop : Mth := fun cs xs => match xs with
  | [] => match cs.getLast? with
    | some y => some (cs.dropLast, y)
    | none => none
  | _ => none
theorem FzAll.dropLast {K : PySem.W.Frag} {H : Hp} {vs : List V} {ds : List PyData} (h : FzAll K H vs ds) : FzAll K H vs.dropLast ds.dropLast := by
  rw [List.dropLast_eq_take, List.dropLast_eq_take, h.length]
  exact h.take _
theorem m_pop : MtR X "list.pop" (rMt X.K mPop) := mt_weak mt_pop fun x vs H Q ⟨a, ys, cs, xs, cs', r, hx, h1, h2, h3, h4, q⟩ => by
  cases h3 with
  | cons _ _ => cases h4
  | nil =>
    simp only [mPop] at h4
    cases e : cs.getLast? with
    | none => rw [e] at h4; cases h4
    | some y =>
      rw [e] at h4
      cases h4
      rw [List.getLast?_eq_getElem?] at e
      obtain ⟨v, e1, fz⟩ := h2.get e
      rw [← h2.length] at e1
      exact ⟨a, ys, v, hx, rfl, h1, e1, q _ _ h2.dropLast fz⟩

/-! ### stores to places -/
def rSt (K : PySem.W.Frag) (f : List PyData → PyData → PyData → Option (List PyData)) : TSet := fun o i v H Q => ∃ a ys cs j x cs', o = .ref a ∧ H a = some (.lst ys) ∧ FzAll K H ys cs ∧ Vw K H i j ∧ Fz K H v x ∧ f cs j x = some cs' ∧
  ∀ ys', FzAll K H ys' cs' → Q (upd H a (.lst ys'))
theorem s_setIx {o k e : Expr} {f : List PyData → PyData → PyData → Option (List PyData)} {i : Nat} {ck c : Cd} {pos pos' : Pos} (hset : PSet X (rSt X.K f)) (ho : JE X W o (cVar i)) (hk : JE X W k ck) (pk : Pl ck) (he : JE X W e c)
    (hs : swapsWithSole [.Subscript o k pos'] e pos.line X.env = pure false := by rfl) (hw : swappedStores [.Subscript o k pos'] e X.env = pure none := by rfl) (h1 : (assignEach [.Subscript o k pos'] X.env).map (·.2) = [assign (.Subscript o k pos') X.env] := by rfl)
    (ha : ∀ v, assign (.Subscript o k pos') X.env v = (do
      let ov ← holding [v] (eval o X.env)
      let iv ← holding [v, ov] (eval k X.env)
      standAt pos'
      holding [v, ov, iv] (setItem ov iv v)
      release [v, ov, iv] []) := by intro _; rfl) :
    JS X W io (.Assign [.Subscript o k pos'] e pos) (sSetIx f i ck c) :=
  ps_weak (ps_asg (e_hold he) (pg_sub ho hk hset ha) hs hw h1) fun D σ H ⟨ρ, er, f0⟩ => by
    refine ⟨ρ, er, FinS.part f0 fun hd ρ1 c1 f1 v H1 p dn => ?_⟩
    have pl := pl_E c _ _ _ c1
    cases e0 : slot ρ1 i with
    | none => rw [e0] at f1; exact f1.elim
    | some b0 =>
      rw [e0] at f1
      refine ⟨ρ1, p.env, ?_⟩
      unfold cVar
      rw [e0]
      intro ov H2 p2 do2
      have do2 : σ[i]? = some (some ov) := do2
      have f2 := FinS.later (p.trans p2) .refl f1
      refine ⟨ρ1, p2.env, FinS.part f2 fun hk ρ2 c2 f3 iv H3 p3 dk => ?_⟩
      cases hd with
      | s j => exact f3.elim
      | v b =>
        cases b with
        | l xs => exact pl.elim
        | d x =>
          cases e1 : hk.rd ρ2 with
          | none => rw [e1] at f3; exact f3.elim
          | some j =>
            cases e2 : slot ρ2 i with
            | none => rw [e1, e2] at f3; exact f3.elim
            | some b =>
              cases b with
              | d y => rw [e1, e2] at f3; exact f3.elim
              | l cs =>
                rw [e1, e2] at f3
                simp only at f3
                cases e3 : f cs j x with
                | none => rw [e3] at f3; exact f3.elim
                | some cs' =>
                  rw [e3] at f3
                  obtain ⟨v', e5, a, ys, rfl, g1, g2⟩ := p3.env.den i _ (slot_some e2)
                  have ev : V.ref a = ov := Option.some.inj (Option.some.inj (e5.symm.trans do2))
                  subst ev
                  exact ⟨a, ys, cs, j, x, cs', rfl, g1, g2, dk.vw (pk _ _ _ c2) p3.env (Pst.refl p3.env) e1, p3.fz p2.env (p2.fz p.env dn), e3, fun ys' g => f3 σ _ (p3.mut (slot_some e2) e5 g1 g) .refl⟩
/-! ### x op= e -/
def rIp (K : PySem.W.Frag) (f : PyData → PyData → Option PyData) : TIp := fun x y H Q => ∃ a b r, Fz K H x a ∧ Vw K H y b ∧ f a b = some r ∧ ∀ v H1, (∀ p o, H p = some o → H1 p = some o) → Fz K H1 v r → Q v H1
theorem s_aug {i : Nat} {x : Str} {e : Expr} {c : Cd} {op : Operator} {f : PyData → PyData → Option PyData} {pos pos' : Pos} (hN : X.N.Nodup) (hi : X.N[i]? = some x) (hx : Loc X.env.scope x) (he : JE X W e c) (pl : Pl c) (ho : PIp X op (rIp X.K f)) (hio : i ∉ io)
    (hf : X.fn x = true ∨ X.env.scope.names.lookup x = some .local := by first | exact .inl rfl | exact .inr rfl | assumption) : JS X W io (.AugAssign (.Name x pos') op e pos) (sAug i f c) :=
  ps_weak (ps_aug hN hi hx he ho hf) fun D σ H ⟨ρ, er, f0⟩ => by
    unfold sAug at f0
    cases e0 : slot ρ i with
    | none => rw [e0] at f0; exact f0.elim
    | some b =>
      cases b with
      | l xs => rw [e0] at f0; exact f0.elim
      | d x0 =>
        rw [e0] at f0
        obtain ⟨v0, e1, d0⟩ := er.den i _ (slot_some e0)
        refine ⟨v0, e1, ρ, er, FinS.part f0 fun hd ρ1 c1 f1 v H1 p dn => ?_⟩
        cases e2 : hd.rd ρ1 with
        | none => rw [e2] at f1; exact f1.elim
        | some y =>
          rw [e2] at f1
          simp only at f1
          cases e3 : f x0 y with
          | none => rw [e3] at f1; exact f1.elim
          | some z =>
            rw [e3] at f1
            refine ⟨x0, y, z, p.fz er d0, dn.vw (pl _ _ _ c1) p.env (Pst.refl p.env) e2, e3, fun v2 H2 g fz => ?_⟩
            exact f1 _ H2 ((p.trans (Pst.grow p.env g)).put (b := .d z) fz) (Fx.set hio)
/-! ### a, b = x, y -/
theorem DenR.stay {K : PySem.W.Frag} {H H1 H2 : Hp} {σ : St} {ρ ρ1 ρ2 : Env} {v : V} {b : B} (d : DenR K H σ ρ H1 σ ρ1 v (.v b)) (e1 : EnvRel K H1 σ ρ1) (q : Pst K H1 σ ρ1 H2 σ ρ2) : DenR K H σ ρ H2 σ ρ2 v (.v b) := by
  cases b with
  | d x => exact q.fz e1 d
  | l xs =>
    obtain ⟨a, ys, rfl, h1, h2, h3, h4⟩ := d
    refine ⟨a, ys, rfl, q.keep a _ h1 h3, q.fzAll e1 h2, fun w => ?_, h4⟩
    rcases q.own a w with w | w
    · exact h3 w
    · rw [w] at h1; cases h1
theorem FinS.partL {K : PySem.W.Frag} {mg : Str → Option Value} {D : Ends} {H H1 : Hp} {σ : St} {ρ ρ1 : Env} {α β : Type} {Rel : Hp → Env → β → α → Prop} {r : R α} {k : α → Env → RS} {G : β → Hp → Prop} (p : Pst K H σ ρ H1 σ ρ1)
    (f : FinS K mg W io D σ H ρ (r.toS k)) (g : ∀ a ρ2, r = .ok a ρ2 → FinS K mg W io D σ H ρ (k a ρ2) → ∀ v H2, Pst K H1 σ ρ1 H2 σ ρ2 → Rel H2 ρ2 v a → G v H2) : Fin K mg W σ H1 ρ1 Rel r G := by
  cases r with
  | ok a ρ2 => exact fun v H2 q d => g a ρ2 rfl f v H2 q d
  | ex x ρ2 => exact fun cls dd H2 q d => f cls dd σ H2 (p.trans q) .refl d
  | no => exact f
section
variable {K : PySem.W.Frag} {H H1 H2 H3 : Hp} {σ σ2 : St} {ρ ρ1 ρ2 ρ3 : Env} {v v2 v3 : V} {b1 b2 b3 : B} {i j k : Nat}
/-- a new list is not the one before -/
theorem new_ne {a1 a2 : Addr} {ys : List V} (h : H a1 = some (.lst ys)) (n : ¬ Own σ ρ a1) (f : Own σ ρ a2 ∨ H a2 = none) : a1 ≠ a2 := fun e => by
  subst e
  rcases f with w | w
  · exact n w
  · rw [w] at h; cases h
/-- still nobody's, when another list is put into a slot -/
theorem DenR.put {vs : St} {ρs : Env} (d : DenR K H σ ρ H1 vs ρs v2 (.v b2)) (er : EnvRel K H1 vs ρs) (ne : ∀ a1 a2 xs ys, v = .ref a1 → b1 = .l xs → v2 = .ref a2 → b2 = .l ys → a1 ≠ a2) : DenR K H σ ρ H1 (vs.set i (some v)) (ρs.set i (some b1)) v2 (.v b2) := by
  cases b2 with
  | d x => exact d
  | l xs =>
    obtain ⟨a, ys, rfl, h1, h2, h3, h4⟩ := d
    refine ⟨a, ys, rfl, h1, h2, fun w => ?_, h4⟩
    rcases own_set er w with w | ⟨e, zs, e2⟩
    · exact h3 w
    · cases e
      cases e2
      exact ne a a zs xs rfl rfl rfl rfl rfl
theorem DenR.apart (d1 : DenR K H σ ρ H1 σ ρ1 v (.v b1)) (d2 : DenR K H1 σ ρ1 H2 σ ρ2 v2 (.v b2)) : ∀ a1 a2 xs ys, v = .ref a1 → b1 = .l xs → v2 = .ref a2 → b2 = .l ys → a1 ≠ a2 := by
  intro a1 a2 xs ys e1 e2 e3 e4
  subst e1 e2 e3 e4
  obtain ⟨a, zs, e, h1, _, h3, _⟩ := d1
  cases e
  obtain ⟨a', zs', e', _, _, _, h4⟩ := d2
  cases e'
  exact new_ne h1 h3 h4
theorem put2 (p : Pst K H σ ρ H1 σ ρ1) (q : Pst K H1 σ ρ1 H2 σ ρ2) (d1 : DenR K H σ ρ H1 σ ρ1 v (.v b1)) (d2 : DenR K H1 σ ρ1 H2 σ ρ2 v2 (.v b2)) : Pst K H σ ρ H2 ((σ.set i (some v)).set j (some v2)) ((ρ2.set i (some b1)).set j (some b2)) :=
  ((p.trans q).put (d1.stay p.env q)).put ((DenR.start p d2).put q.env (d1.apart d2))
theorem put3 (p : Pst K H σ ρ H1 σ ρ1) (q : Pst K H1 σ ρ1 H2 σ ρ2) (r : Pst K H2 σ ρ2 H3 σ ρ3) (d1 : DenR K H σ ρ H1 σ ρ1 v (.v b1)) (d2 : DenR K H1 σ ρ1 H2 σ ρ2 v2 (.v b2)) (d3 : DenR K H2 σ ρ2 H3 σ ρ3 v3 (.v b3)) :
    Pst K H σ ρ H3 (((σ.set i (some v)).set j (some v2)).set k (some v3)) (((ρ3.set i (some b1)).set j (some b2)).set k (some b3)) := by
  have e1 := (d1.stay p.env q)
  have e2 := DenR.start p d2
  have P1 := ((p.trans q).trans r).put (i := i) (e1.stay q.env r)
  have E2 := ((e2.stay q.env r).put (i := i) (v := v) (b1 := b1) r.env (d1.apart d2))
  have P2 := P1.put (i := j) E2
  have E3 := (DenR.start (p.trans q) d3).put (i := i) (v := v) (b1 := b1) r.env (DenR.apart e1 d3)
  exact P2.put (E3.put P1.env (DenR.apart e2 d3))
end
theorem s_par2 {i j : Nat} {x y : Str} {a b : Expr} {ca cb : Cd} {px py pt pt2 pos : Pos} {kt k2 : Nat} (hc : X.calm = true) (hN : X.N.Nodup) (hi : X.N[i]? = some x) (hj : X.N[j]? = some y) (hij : i ≠ j)
    (hx : X.env.scope.names.lookup x = some .local) (hy : X.env.scope.names.lookup y = some .local) (ha : JE X W a ca) (hb : JE X W b cb) (hii : i ∉ io) (hjo : j ∉ io)
    (hw : swappedStores [.Tuple [.Name x px, .Name y py] kt pt] (.Tuple [a, b] k2 pt2) X.env = pure (some [x, y]))
    (hs : swapsWithSole [.Tuple [.Name x px, .Name y py] kt pt] (.Tuple [a, b] k2 pt2) pos.line X.env = pure false := by rfl)
    (h1 : starEach [a, b] X.env = (false, eval a X.env) :: starEach [b] X.env := by rfl) (h2 : starEach [b] X.env = (false, eval b X.env) :: starEach [] X.env := by rfl) :
    JS X W io (.Assign [.Tuple [.Name x px, .Name y py] kt pt] (.Tuple [a, b] k2 pt2) pos) (sPar2 i j ca cb) :=
  ps_weak (ps_par hc hN hi hj hij hx hy (pa_cons ha (pa_cons hb pa_nil h2) h1) hw hs) fun D σ H ⟨ρ, er, f0⟩ => by
    refine ⟨ρ, er, FinS.part f0 fun hd ρ1 c1 f1 v H1 p dn => ?_⟩
    refine ⟨ρ1, p.env, FinS.partL p f1 fun hd2 ρ2 c2 f3 v2 H2 q dn2 => ?_⟩
    cases hd with
    | s _ => exact f3.elim
    | v b1 =>
      cases hd2 with
      | s _ => exact f3.elim
      | v b2 => exact ⟨v, v2, rfl, f3 _ H2 (put2 p q dn dn2) ((Fx.set hii).trans (Fx.set hjo))⟩
theorem s_par3 {i j k : Nat} {x y z : Str} {a b c : Expr} {ca cb cc : Cd} {px py pz pt pt2 pos : Pos} {kt k2 : Nat} (hc : X.calm = true) (hN : X.N.Nodup) (hi : X.N[i]? = some x) (hj : X.N[j]? = some y) (hk : X.N[k]? = some z) (hij : i ≠ j) (hik : i ≠ k) (hjk : j ≠ k)
    (hx : X.env.scope.names.lookup x = some .local) (hy : X.env.scope.names.lookup y = some .local) (hz : X.env.scope.names.lookup z = some .local) (ha : JE X W a ca) (hb : JE X W b cb) (hcc : JE X W c cc) (hii : i ∉ io) (hjo : j ∉ io) (hko : k ∉ io)
    (hw : swappedStores [.Tuple [.Name x px, .Name y py, .Name z pz] kt pt] (.Tuple [a, b, c] k2 pt2) X.env = pure (some [x, y, z]))
    (hs : swapsWithSole [.Tuple [.Name x px, .Name y py, .Name z pz] kt pt] (.Tuple [a, b, c] k2 pt2) pos.line X.env = pure false := by rfl)
    (h1 : starEach [a, b, c] X.env = (false, eval a X.env) :: starEach [b, c] X.env := by rfl) (h2 : starEach [b, c] X.env = (false, eval b X.env) :: starEach [c] X.env := by rfl) (h3 : starEach [c] X.env = (false, eval c X.env) :: starEach [] X.env := by rfl) :
    JS X W io (.Assign [.Tuple [.Name x px, .Name y py, .Name z pz] kt pt] (.Tuple [a, b, c] k2 pt2) pos) (sPar3 i j k ca cb cc) :=
  ps_weak (ps_par3 hc hN hi hj hk hij hik hjk hx hy hz (pa_cons ha (pa_cons hb (pa_cons hcc pa_nil h3) h2) h1) hw hs) fun D σ H ⟨ρ, er, f0⟩ => by
    refine ⟨ρ, er, FinS.part f0 fun hd ρ1 c1 f1 v H1 p dn => ?_⟩
    refine ⟨ρ1, p.env, FinS.partL p f1 fun hd2 ρ2 c2 f3 v2 H2 q dn2 => ?_⟩
    refine ⟨ρ2, q.env, FinS.partL (p.trans q) f3 fun hd3 ρ3 c3 f5 v3 H3 r dn3 => ?_⟩
    cases hd with
    | s _ => exact f5.elim
    | v b1 =>
      cases hd2 with
      | s _ => exact f5.elim
      | v b2 =>
        cases hd3 with
        | s _ => exact f5.elim
        | v b3 => exact ⟨v, v2, v3, rfl, f5 _ H3 (put3 p q r dn dn2 dn3) (((Fx.set hii).trans (Fx.set hjo)).trans (Fx.set hko))⟩
/-- x = [..] on one line -/
theorem s_setLc {i : Nat} {y : Str} {py : Pos} {elt tg iter : Expr} {ifs : List Expr} {scope : Scope} {own : List (Str × Nat)} {pos spos : Pos} {w : Wd} {t : Gd} {tt : Td} {c : Cd} {io' : List Nat} (hc : X.calm = true) (hN : X.N.Nodup) (hy : X.N[i]? = some y) (hyl : X.env.scope.names.lookup y = some .local)
    (hsw : swapsWith (.ListComp elt [⟨tg, iter, ifs, 0⟩] scope pos) (some (.Name y py)) spos.line X.env = pure true) (hi : JI X W tg iter w) (ok : BlkOk X.N X.env.scope scope own)
    (hg : ∀ (s : Shared) (H : Hp) (C : Addr) (cl : List (Str × Addr)) (fp : List Addr), JG (X.blk s H scope (compEnvC scope cl C X.env) fp) io' tg t) (ht : ∀ (s : Shared) (H : Hp) (C : Addr) (cl : List (Str × Addr)) (fp : List Addr), JTs (X.blk s H scope (compEnvC scope cl C X.env) fp) ifs tt)
    (he : ∀ (s : Shared) (H : Hp) (C : Addr) (cl : List (Str × Addr)) (fp : List Addr), JE (X.blk s H scope (compEnvC scope cl C X.env) fp) WF elt c) (hio : ∀ j, j < X.N.length → j ∉ own.map (·.2) → j ∈ io') (tm : Tame t) (hii : i ∉ io) (hs : ∀ x, foldedSetIterable iter X.env x = pure x := by intro _; rfl) :
    JS X W io (.Assign [.Name y py] (.ListComp elt [⟨tg, iter, ifs, 0⟩] scope pos) spos) (sSet i (cComp (own.map (·.2)) w t tt c)) := by
  refine ⟨fun pins s σ H D I ⟨ρ, er, f⟩ => ?_⟩
  refine (ps_setLc (te := tC X.K X.mg WF (cE c)) (g := tG X.K io' t) (tt := tT X.K X.mg WF tt) hc hN hy hyl hsw hi ok (fun s H C cl fp => (hg s H C cl fp).pg) ht (fun s H C cl fp => e_hold (he s H C cl fp)) hs).run pins s σ H D I ?_
  refine comp_fin (elt := elt) (tg := tg) tm (by rw [I.len]; exact hio) ⟨ρ, er, FinS.part f fun hd ρ1 c1 f1 v H1 p dn => ?_⟩
  cases hd with
  | v b => exact f1 _ H1 (p.put dn) (Fx.set hii)
  | s j =>
    unfold cComp at c1
    cases ew : w ρ with
    | ex _ _ => rw [ew] at c1; cases c1
    | no => rw [ew] at c1; cases c1
    | ok xs ρ2 =>
      rw [ew, R.bind_ok] at c1
      split at c1
      · split at c1
        · cases c1
        · cases c1
      · cases c1

/-! ### raise -/
theorem s_raise {e : Expr} {C : Addr} {x : Str} {pos : Pos} (hc : X.calm = true) (tk : Takes X W) (hm : X.mg x = some (.ref C)) (he : PMk X e (fun _ H Q => Q (.ref C) none H)) : JS X W io (.Raise (some e) none pos) (sRaise ⟨x, []⟩) :=
  ps_weak (ps_raise hc tk he) fun D σ H ⟨ρ, er, f⟩ => f (.ref C) none σ H (Pst.refl er) .refl ⟨hm, .inl ⟨rfl, rfl⟩⟩
end
end Sv
end
section
set_option autoImplicit false
set_option linter.all false
/-! Sv: operations by values. -/
namespace Sv
open PySem PySem.Spec L2
open PyProof.Rows hiding St

/-! ### what reads as data, in the true heap -/
section
variable {X : Cx} {pins : List (Addr × Obj)} {σ : St} {H : Hp} {s : Shared}
theorem lst_obj {a : Addr} {xs : List V} (I : Inv X pins σ H s) (h : RL X.K H a xs) : ∃ its n, Vals xs its ∧ xs.length ≤ sizeLine ∧ IsL s.heap a its.toArray n := by
  rcases h with h | ⟨its, n, h1, h2, h3⟩
  · obtain ⟨z, its, n, rv, e⟩ := (Rd.ok h I.hok : ObjOk X.prog X.w H s.heap _ (.lst _))
    exact ⟨its, n, rv, z, e⟩
  · exact ⟨its, n, h2, by rw [h2.length]; exact h3, I.kIn a _ h1⟩
mutual
theorem Fz.reads (I : Inv X pins σ H s) : ∀ {v : V} {d : PyData}, Fz X.K H v d → d.plain = true → ∀ {u : Value}, RelV v u → ∃ as, Reads s.heap u d as
  | _, _, .non, _, _, r => by cases r; exact ⟨_, .none⟩
  | _, _, .bl b, _, _, r => by cases r; exact ⟨_, .bool b⟩
  | _, _, .int i, _, _, r => by obtain ⟨t, rfl⟩ := r; exact ⟨_, .int i t⟩
  | _, _, .str x, _, _, r => by obtain ⟨t, rfl⟩ := r; exact ⟨_, .str x t⟩
  | _, _, .lst h t, p, _, r => by
    cases r
    obtain ⟨its, n, rv, _, e⟩ := lst_obj I h.rl
    obtain ⟨as, q⟩ := FzAll.reads I t (by simpa [PyData.plain] using p) rv
    exact ⟨_, .list e rfl rfl (by simpa using q)⟩
  | _, _, .tup h t, p, _, r => by
    cases r
    obtain ⟨its, rv, ⟨o, e, c, n, d⟩, _⟩ := I.tuple h
    obtain ⟨as, q⟩ := FzAll.reads I t (by simpa [PyData.plain] using p) rv
    exact ⟨_, .tuple e c d (by simpa using q)⟩
  | _, _, .dct h e t f, p, _, r => by cases p
theorem FzAll.reads (I : Inv X pins σ H s) : ∀ {vs : List V} {ds : List PyData}, FzAll X.K H vs ds → PyData.plainAll ds = true → ∀ {us : List Value}, Vals vs us → ∃ as, ReadsAll s.heap us ds as
  | _, _, .nil, _, _, r => by cases r; exact ⟨_, .nil⟩
  | _, _, .cons h t, p, _, r => by
    cases r with
    | cons r1 r2 =>
      simp only [PyData.plainAll, Bool.and_eq_true] at p
      obtain ⟨as, q1⟩ := Fz.reads I h p.1 r1
      obtain ⟨bs, q2⟩ := FzAll.reads I t p.2 r2
      exact ⟨_, .cons q1 q2⟩
end
theorem Vw.reads (I : Inv X pins σ H s) : ∀ {v : V} {d : PyData}, Vw X.K H v d → d.plain = true → ∀ {u : Value}, RelV v u → ∃ as, Reads s.heap u d as
  | _, _, .non, _, _, r => by cases r; exact ⟨_, .none⟩
  | _, _, .bl b, _, _, r => by cases r; exact ⟨_, .bool b⟩
  | _, _, .int i, _, _, r => by obtain ⟨t, rfl⟩ := r; exact ⟨_, .int i t⟩
  | _, _, .str x, _, _, r => by obtain ⟨t, rfl⟩ := r; exact ⟨_, .str x t⟩
  | _, _, .lst h t, p, _, r => by
    cases r
    obtain ⟨its, n, rv, _, e⟩ := lst_obj I h
    obtain ⟨as, q⟩ := FzAll.reads I t (by simpa [PyData.plain] using p) rv
    exact ⟨_, .list e rfl rfl (by simpa using q)⟩
  | _, _, .tup h t, p, _, r => by
    cases r
    obtain ⟨its, rv, ⟨o, e, c, n, d⟩, _⟩ := I.tuple h
    obtain ⟨as, q⟩ := FzAll.reads I t (by simpa [PyData.plain] using p) rv
    exact ⟨_, .tuple e c d (by simpa using q)⟩
  | _, _, .dct h e t f, p, _, r => by cases p
end

/-! ### results -/
section
variable {K : PySem.W.Frag} {H : Hp}
theorem nb_int (i : Int) : NewB K H H (.int i) (.d (.int i)) := ⟨fun _ _ h => h, .int i⟩
theorem nb_str (i : Str) : NewB K H H (.str i) (.d (.str i)) := ⟨fun _ _ h => h, .str i⟩
theorem nb_bl (i : Bool) : NewB K H H (.bl i) (.d (.bool i)) := ⟨fun _ _ h => h, .bl i⟩
theorem nb_fz {v : V} {x : PyData} (h : Fz K H v x) : NewB K H H v (.d x) := ⟨fun _ _ h => h, h⟩
theorem Vw.fzT {v : V} {xs : List PyData} (h : Vw K H v (.tuple xs)) : Fz K H v (.tuple xs) := by cases h with | tup a b => exact .tup a b
end

/-! ### + - * // % ** -/
def addP : PyData → PyData → Option B
  | .int a, .int b => some (.d (.int (a + b)))
  | .str a, .str b => if a.length + b.length ≤ sizeLine then some (.d (.str (a ++ b))) else none
  | .tuple a, .tuple b => if a.length + b.length ≤ sizeLine then some (.d (.tuple (a ++ b))) else none
  | .list a, .list b => if a.length + b.length ≤ sizeLine then some (.l (a ++ b)) else none
  | _, _ => none
def subP : PyData → PyData → Option B
  | .int a, .int b => some (.d (.int (a - b)))
  | _, _ => none
def small64 (i : Int) : Bool := decide (i.natAbs < 18446744073709551616)
def mulP : PyData → PyData → Option B
  | .int a, .int b => if (small64 a || small64 b) = true then some (.d (.int (a * b))) else none
  | .tuple a, .int k => if a ≠ [] ∧ 2 ≤ k ∧ k ≤ 1000 ∧ a.length ≤ 1000 then some (.d (.tuple (List.replicate k.toNat a).flatten)) else none
  | .list a, .int k => if 0 ≤ k ∧ k ≤ 1000 ∧ a.length ≤ 1000 then some (.l (List.replicate k.toNat a).flatten) else none
  | _, _ => none
def fdivP : PyData → PyData → Option B
  | .int a, .int b => if 0 < b ∧ b < 1073741824 then some (.d (.int (a / b))) else none
  | _, _ => none
def modP : PyData → PyData → Option B
  | .int a, .int b => if 0 < b then some (.d (.int (a % b))) else none
  | _, _ => none
def powP : PyData → PyData → Option B
  | .int a, .int b => if 0 ≤ b ∧ (Builtin.Int.intBits a : Int) * b ≤ 134217728 then some (.d (.int (a ^ b.toNat))) else none
  | _, _ => none
section
variable {X : Cx}
theorem opr {f : Value → Value → Sem Value} {g : PyData → PyData → Option B} (h : ∀ (pins : List (Addr × Obj)) (s : Shared) (σ : St) (H : Hp) (x y : V) (v u : Value) (a b : PyData) (r : B) (Q : VK), Inv X pins σ H s → RelV x v → RelV y u → Vw X.K H x a → Vw X.K H y b → g a b = some r →
    (∀ v H1, NewB X.K H H1 v r → Q v H1) → wpAny (model X.prog X.w) X.A (f v u) (EP X pins σ Q) X.xe s) : OpR X f (rB2 X.K g) :=
  fun pins s σ H x y v u Q I rx ry ⟨a, b, r, ha, hb, e, q⟩ => h pins s σ H x y v u a b r Q I rx ry ha hb e q
/-- a new list laid -/
theorem lay_list {pins : List (Addr × Obj)} {s : Shared} {σ : St} {H : Hp} {ys : List V} {us : List Value} {xs : List PyData} {Q : VK} (I : Inv X pins σ H s) (r : Vals ys us) (hl : ys.length ≤ sizeLine) (hx : FzAll X.K H ys xs) (q : ∀ v H1, NewB X.K H H1 v (.l xs) → Q v H1) :
    EP X pins σ Q (.ref s.heap.objs.size) { s with heap := s.heap.push { cls := .type "list", data := .seq us.toArray } } := by
  have hf : H s.heap.objs.size = none := I.hok.fresh (Nat.le_refl _)
  refine ⟨.ref s.heap.objs.size, _, I.laid (t' := s.toks) (o := .lst ys) (fun b u e => Heap.get?_push_of_some _ e) (Nat.le_refl _) ?_, rfl, q _ _ (new_lst hf hx)⟩
  exact ⟨hl, us, 0, r, Heap.get?_push_size _ rfl⟩
theorem o_add : OpR X (binaryOp .Add) (rB2 X.K addP) := opr fun pins s σ H x y v u a b r Q I rx ry ha hb e q => by
  cases ha with
  | int i =>
    cases hb with
    | int j => cases e; exact op_add pins s σ H _ _ v u Q I rx ry ⟨_, _, rfl, rfl, q _ _ (nb_int _)⟩
    | _ => cases e
  | str i =>
    cases hb with
    | str j =>
      simp only [addP] at e
      split at e
      · rename_i hl
        cases e
        exact op_add_str pins s σ H _ _ v u Q I rx ry ⟨_, _, rfl, rfl, hl, q _ _ (nb_str _)⟩
      · cases e
    | _ => cases e
  | @tup a1 xs1 ds1 h1 t1 =>
    cases hb with
    | @tup a2 xs2 ds2 h2 t2 =>
      simp only [addP] at e
      split at e
      · rename_i hl
        cases e
        refine op_catA pins s σ H _ _ v u Q I rx ry ⟨a1, a2, xs1, xs2, rfl, rfl, h1, h2, by rw [t1.length, t2.length]; exact hl, fun z => ?_, fun _ z => ?_, fun _ _ p hp => q _ _ (new_tup hp (t1.append t2))⟩
        · subst z
          cases t1
          exact q _ _ (nb_fz (.tup h2 t2))
        · subst z
          cases t2
          rw [List.append_nil] at q
          exact q _ _ (nb_fz (.tup h1 t1))
      · cases e
    | _ => cases e
  | @lst a1 xs1 ds1 h1 t1 =>
    cases hb with
    | @lst a2 xs2 ds2 h2 t2 =>
      simp only [addP] at e
      split at e
      · rename_i hl
        cases e
        cases rx
        cases ry
        obtain ⟨i1, n1, r1, z1, e1⟩ := lst_obj I h1
        obtain ⟨i2, n2, r2, z2, e2⟩ := lst_obj I h2
        have hz : xs1.length + xs2.length ≤ sizeLine := by rw [t1.length, t2.length]; exact hl
        refine PySem.P.add_list e1 e2 ?_ (by rw [List.size_toArray, List.size_toArray, ← r1.length, ← r2.length]; exact hz)
        have ea : i1.toArray ++ i2.toArray = (i1 ++ i2).toArray := by simp
        rw [ea]
        exact lay_list I (r1.append r2) (by rw [List.length_append]; exact hz) (t1.append t2) q
      · cases e
    | _ => cases e
  | _ => cases e
theorem o_sub : OpR X (binaryOp .Sub) (rB2 X.K subP) := opr fun pins s σ H x y v u a b r Q I rx ry ha hb e q => by
  cases ha with
  | int i =>
    cases hb with
    | int j => cases e; exact op_sub pins s σ H _ _ v u Q I rx ry ⟨_, _, rfl, rfl, q _ _ (nb_int _)⟩
    | _ => cases e
  | _ => cases e
theorem small_ok {a : Int} (h : small64 a = true) : -(2 ^ 64) < a ∧ a < 2 ^ 64 := by
  have h1 : a.natAbs < 18446744073709551616 := of_decide_eq_true h
  constructor <;> omega
theorem FzAll.rep {K : PySem.W.Frag} {H : Hp} {vs : List V} {ds : List PyData} (h : FzAll K H vs ds) : ∀ n : Nat, FzAll K H (List.replicate n vs).flatten (List.replicate n ds).flatten
  | 0 => .nil
  | n + 1 => by
    rw [List.replicate_succ, List.replicate_succ, List.flatten_cons, List.flatten_cons]
    exact h.append (FzAll.rep h n)
theorem Vals.repN {vs : List V} {us : List Value} (h : Vals vs us) : ∀ n : Nat, Vals (List.replicate n vs).flatten (List.replicate n us).flatten
  | 0 => .nil
  | n + 1 => by
    rw [List.replicate_succ, List.replicate_succ, List.flatten_cons, List.flatten_cons]
    exact Vals.append h (Vals.repN h n)
theorem rep_arr (us : List Value) (k : Nat) : List.foldl (fun x1 x2 => x1 ++ x2) #[] (List.replicate (if us.toArray.isEmpty = true then 0 else k) us.toArray) = (List.replicate k us).flatten.toArray := by
  have gen : ∀ (n : Nat) (acc : List Value), List.foldl (fun x1 x2 => x1 ++ x2) acc.toArray (List.replicate n us.toArray) = (acc ++ (List.replicate n us).flatten).toArray := by
    intro n
    induction n with
    | zero => intro acc; simp
    | succ n ih =>
      intro acc
      rw [List.replicate_succ, List.foldl_cons, List.replicate_succ, List.flatten_cons]
      have e : acc.toArray ++ us.toArray = (acc ++ us).toArray := by simp
      rw [e, ih, List.append_assoc]
  have g := gen (if us.toArray.isEmpty = true then 0 else k) []
  rw [List.nil_append] at g
  cases us with
  | nil => simp
  | cons a r => rw [if_neg (by simp)] at g ⊢; exact g
theorem mul_lst {pins : List (Addr × Obj)} {s : Shared} {σ : St} {H : Hp} {a : Addr} {k : Int} {t : Tok} {its : List Value} {n : Nat} {xs : List V} {ds : List PyData} {Q : VK} (I : Inv X pins σ H s) (ho : IsL s.heap a its.toArray n) (rv : Vals xs its) (z : xs.length ≤ sizeLine) (t1 : FzAll X.K H xs ds)
    (hk : -(2 ^ 63) ≤ k ∧ k < 2 ^ 63) (few : its.length * k.toNat ≤ 1000000) (q : ∀ v H1, NewB X.K H H1 v (.l (List.replicate k.toNat ds).flatten) → Q v H1) : wpAny (model X.prog X.w) X.A (binaryOp .Mult (.ref a) (.int k t)) (EP X pins σ Q) X.xe s := by
  have fit : ¬ (!Builtin.List.listFitsIndex k) = true := by
    rw [fitsIndex_both hk.1 hk.2]
    decide
  have f2 : its.toArray.size * k.toNat ≤ 1000000 := by rw [List.size_toArray]; exact few
  have f3 : ¬ its.toArray.size * k.toNat > (2 ^ 63 - 1) / 8 := by omega
  have f4 : ¬ Builtin.List.listTooLong (its.toArray.size * k.toNat) = true := by
    rw [notLongL (Nat.le_trans f2 (by decide))]
    decide
  refine wpAny_binaryOp_repeat_ref (T := "list") (U := "int") (by decide) ⟨_, ho, rfl⟩ (fun s1 => typeIs_int s1 k t) noFill_list_mul PySem.F.fills_int_mul PySem.F.slot_int_rmul repeat_list PySem.F.slot_int_index.lookup ?_
  refine call_meets PySem.F.slot_int_rmul (typeIs_int s k t) PySem.F.entry_int_rmul (PySem.F.args_int_rmul_2 _ _) (int___rmul___int_list k t a its.toArray n) ⟨ho, rfl, ⟨_, ho, rfl⟩, ?_⟩
  refine call_meets PySem.F.slot_list_mul ⟨_, ho, rfl⟩ PySem.F.entry_list_mul (PySem.F.args_list_mul_2 _ _) (AutoListH.list___mul___list_int_3 a its.toArray n k t fit f3 f4) ⟨ho, ?_⟩
  rw [rep_arr]
  refine lay_list I (Vals.repN rv k.toNat) ?_ (t1.rep k.toNat) q
  have e : (List.replicate k.toNat xs).flatten.length = its.length * k.toNat := by
    rw [PyProof.Rows.lm_len_rep_flat, rv.length, Nat.mul_comm]
  rw [e]
  exact Nat.le_trans few (by decide)
theorem o_mul : OpR X (binaryOp .Mult) (rB2 X.K mulP) := opr fun pins s σ H x y v u a b r Q I rx ry ha hb e q => by
  cases ha with
  | int i =>
    cases hb with
    | int j =>
      simp only [mulP] at e
      split at e
      · rename_i hs
        cases e
        refine op_mul pins s σ H _ _ v u Q I rx ry ⟨_, _, rfl, rfl, ?_, q _ _ (nb_int _)⟩
        rcases Bool.or_eq_true _ _ ▸ hs with h | h
        · exact .inl (small_ok h)
        · exact .inr (small_ok h)
      · cases e
    | _ => cases e
  | @tup a1 xs1 ds1 h1 t1 =>
    cases hb with
    | int k =>
      simp only [mulP] at e
      split at e
      · rename_i hc
        cases e
        obtain ⟨c1, c2, c3, c4⟩ := hc
        have hne : xs1 ≠ [] := fun z => by subst z; cases t1; exact c1 rfl
        refine op_repT pins s σ H _ _ v u Q I rx ry ⟨a1, k, xs1, rfl, rfl, h1, hne, c2, c3, by rw [t1.length]; exact c4, fun p hp => q _ _ (new_tup hp ?_)⟩
        exact t1.rep _
      · cases e
    | _ => cases e
  | @lst a1 xs1 ds1 h1 t1 =>
    cases hb with
    | int k =>
      simp only [mulP] at e
      split at e
      · rename_i hc
        cases e
        obtain ⟨c1, c2, c3⟩ := hc
        cases rx
        obtain ⟨t, rfl⟩ := ry
        obtain ⟨its, n, rv, z, ho⟩ := lst_obj I h1
        have len : its.length = ds1.length := by rw [← rv.length, t1.length]
        have kn : k.toNat ≤ 1000 := by omega
        have few : its.length * k.toNat ≤ 1000000 := Nat.mul_le_mul (show its.length ≤ 1000 by omega) kn
        exact mul_lst I ho rv z t1 ⟨by omega, by omega⟩ few q
      · cases e
    | _ => cases e
  | _ => cases e
theorem o_fdiv : OpR X (binaryOp .FloorDiv) (rB2 X.K fdivP) := opr fun pins s σ H x y v u a b r Q I rx ry ha hb e q => by
  cases ha with
  | int i =>
    cases hb with
    | int j =>
      simp only [fdivP] at e
      split at e
      · rename_i hc
        cases e
        exact op_fdiv pins s σ H _ _ v u Q I rx ry ⟨_, _, rfl, rfl, hc, q _ _ (nb_int _)⟩
      · cases e
    | _ => cases e
  | _ => cases e
theorem o_mod : OpR X (binaryOp .Mod) (rB2 X.K modP) := opr fun pins s σ H x y v u a b r Q I rx ry ha hb e q => by
  cases ha with
  | int i =>
    cases hb with
    | int j =>
      simp only [modP] at e
      split at e
      · rename_i hc
        cases e
        exact op_mod pins s σ H _ _ v u Q I rx ry ⟨_, _, rfl, rfl, hc, q _ _ (nb_int _)⟩
      · cases e
    | _ => cases e
  | _ => cases e
theorem o_pow : OpR X (binaryOp .Pow) (rB2 X.K powP) := opr fun pins s σ H x y v u a b r Q I rx ry ha hb e q => by
  cases ha with
  | int i =>
    cases hb with
    | int j =>
      simp only [powP] at e
      split at e
      · rename_i hc
        cases e
        obtain ⟨t, rfl⟩ := rx
        obtain ⟨t', rfl⟩ := ry
        exact pow_int hc.1 hc.2 ⟨.int (i ^ j.toNat), H, I.tok _, ⟨_, rfl⟩, q _ _ (nb_int _)⟩
      · cases e
    | _ => cases e
  | _ => cases e
end
end Sv
end
section
set_option autoImplicit false
set_option linter.all false
/-! Sv: comparisons, subscripts, built-ins by values. -/
namespace Sv
open PySem PySem.Spec L2
open PyProof.Rows hiding St

/-! ### == != < <= > >= -/
/-- not too deep to be compared -/
def shal (a b : PyData) : Bool := decide (b.depth ≤ 190) || decide (a.depth ≤ 190)
theorem shal_ok {a b : PyData} (h : shal a b = true) : min a.depth b.depth ≤ 190 := by
  unfold shal at h
  rcases Bool.or_eq_true _ _ ▸ h with h | h
  · have := of_decide_eq_true h; omega
  · have := of_decide_eq_true h; omega
def eqB (a b : PyData) : Option Bool := if (shal a b && b.plain && a.plain) = true then some (PyData.eqv a b) else none
def eqP (a b : PyData) : Option B := (eqB a b).map fun k => .d (.bool k)
def neP (a b : PyData) : Option B := (eqB a b).map fun k => .d (.bool (!k))
theorem eqB_ok {a b : PyData} {k : Bool} (h : eqB a b = some k) : min a.depth b.depth ≤ 190 ∧ a.plain = true ∧ b.plain = true ∧ k = PyData.eqv a b := by
  unfold eqB at h
  split at h
  · rename_i hc
    simp only [Bool.and_eq_true] at hc
    cases h
    exact ⟨shal_ok hc.1.1, hc.2, hc.1.2, rfl⟩
  · cases h
def ordB (f : Int → Int → Bool) (g : PyData → PyData → Bool) (a b : PyData) : Option Bool :=
  match a, b with
  | .int i, .int j => some (f i j)
  | .none, _ => none
  | a, b => if (PySem.W.alike a b && a.plain && b.plain && shal a b) = true then some (g a b) else none
def ltB : PyData → PyData → Option Bool := ordB (fun i j => decide (i < j)) fun a b => PySem.W.dataLt a b
def gtB : PyData → PyData → Option Bool := ordB (fun i j => decide (j < i)) fun a b => PySem.W.dataLt b a
def leB : PyData → PyData → Option Bool := ordB (fun i j => decide (i ≤ j)) fun a b => !PySem.W.dataLt b a
def geB : PyData → PyData → Option Bool := ordB (fun i j => decide (j ≤ i)) fun a b => !PySem.W.dataLt a b
def toP (f : PyData → PyData → Option Bool) (a b : PyData) : Option B := (f a b).map fun k => .d (.bool k)
theorem toP_ok {f : PyData → PyData → Option Bool} {a b : PyData} {r : B} (h : toP f a b = some r) : ∃ k, f a b = some k ∧ r = .d (.bool k) := by
  unfold toP at h
  cases e : f a b with
  | none => rw [e] at h; cases h
  | some k => rw [e] at h; cases h; exact ⟨k, rfl, rfl⟩
section
variable {X : Cx}
theorem fin_b {pins : List (Addr × Obj)} {s : Shared} {σ : St} {H : Hp} {k : Bool} {Q : VK} (I : Inv X pins σ H s) (q : ∀ v H1, NewB X.K H H1 v (.d (.bool k)) → Q v H1) : EP X pins σ Q (.bool k) s := ⟨.bl k, H, I, rfl, q _ _ (nb_bl k)⟩
theorem o_eq (hu : X.A.units + 190 < cLine) : OpR X (compareOp .Eq) (rB2 X.K eqP) := opr fun pins s σ H x y v u a b r Q I rx ry ha hb e q => by
  unfold eqP at e
  cases e1 : eqB a b with
  | none => rw [e1] at e; cases e
  | some k =>
    rw [e1] at e
    cases e
    obtain ⟨h1, h2, h3, rfl⟩ := eqB_ok e1
    obtain ⟨as, ra⟩ := ha.reads I h2 rx
    obtain ⟨bs, rb⟩ := hb.reads I h3 ry
    exact PySem.SeqAt.eq_plain ra rb h2 h3 (by omega) (fin_b I q)
theorem o_ne (hu : X.A.units + 190 < cLine) : OpR X (compareOp .NotEq) (rB2 X.K neP) := opr fun pins s σ H x y v u a b r Q I rx ry ha hb e q => by
  unfold neP at e
  cases e1 : eqB a b with
  | none => rw [e1] at e; cases e
  | some k =>
    rw [e1] at e
    cases e
    obtain ⟨h1, h2, h3, rfl⟩ := eqB_ok e1
    obtain ⟨as, ra⟩ := ha.reads I h2 rx
    obtain ⟨bs, rb⟩ := hb.reads I h3 ry
    exact PySem.SeqAt.ne_plain ra rb h2 h3 (by omega) (fin_b I q)
theorem ord_ok {f : Int → Int → Bool} {g : PyData → PyData → Bool} {a b : PyData} {k : Bool} (h : ordB f g a b = some k) : (∃ i j, a = .int i ∧ b = .int j ∧ k = f i j) ∨ (PySem.W.alike a b = true ∧ a ≠ .none ∧ a.plain = true ∧ b.plain = true ∧ min a.depth b.depth ≤ 190 ∧ k = g a b) := by
  unfold ordB at h
  split at h
  · cases h; exact .inl ⟨_, _, rfl, rfl, rfl⟩
  · cases h
  · rename_i h2 h1
    split at h
    · rename_i hc
      simp only [Bool.and_eq_true] at hc
      cases h
      exact .inr ⟨hc.1.1.1, fun z => h2 z, hc.1.1.2, hc.1.2, shal_ok hc.2, rfl⟩
    · cases h
theorem o_ord {op : CmpOp} {f : Int → Int → Bool} {g : PyData → PyData → Bool} (hu : X.A.units + 190 < cLine)
    (r1 : ∀ (i j : Int) (t u : Tok) (Q : Value → Shared → Prop) (s : Shared), Q (.bool (f i j)) s → wpAny (model X.prog X.w) X.A (compareOp op (.int i t) (.int j u)) Q X.xe s)
    (r2 : ∀ (s : Shared) (a b : Value) (da db : PyData) (as bs : List Addr) (Q : Value → Shared → Prop), Reads s.heap a da as → Reads s.heap b db bs → PySem.W.alike da db = true → da ≠ .none → X.A.units + min da.depth db.depth < cLine → Q (.bool (g da db)) s → wpAny (model X.prog X.w) X.A (compareOp op a b) Q X.xe s) :
    OpR X (compareOp op) (rB2 X.K (toP (ordB f g))) := opr fun pins s σ H x y v u a b r Q I rx ry ha hb e q => by
  obtain ⟨k, e1, rfl⟩ := toP_ok e
  rcases ord_ok e1 with ⟨i, j, rfl, rfl, rfl⟩ | ⟨h1, h2, h3, h4, h5, rfl⟩
  · cases Vw.int' ha
    cases Vw.int' hb
    obtain ⟨t, rfl⟩ := rx
    obtain ⟨t', rfl⟩ := ry
    exact r1 i j t t' _ s (fin_b I q)
  · obtain ⟨as, ra⟩ := ha.reads I h3 rx
    obtain ⟨bs, rb⟩ := hb.reads I h4 ry
    exact r2 s v u a b as bs _ ra rb h1 h2 (by omega) (fin_b I q)
theorem o_lt (hu : X.A.units + 190 < cLine) : OpR X (compareOp .Lt) (rB2 X.K (toP ltB)) := o_ord hu (fun _ _ _ _ _ _ h => lt_int h) fun _ _ _ _ _ _ _ _ ra rb h hn hu h' => PySem.W.lt_data ra rb h hn hu h'
theorem o_gt (hu : X.A.units + 190 < cLine) : OpR X (compareOp .Gt) (rB2 X.K (toP gtB)) := o_ord hu (fun _ _ _ _ _ _ h => gt_int h) fun _ _ _ _ _ _ _ _ ra rb h hn hu h' => PySem.W.gt_data ra rb h hn hu h'
theorem o_le (hu : X.A.units + 190 < cLine) : OpR X (compareOp .LtE) (rB2 X.K (toP leB)) := o_ord hu (fun _ _ _ _ _ _ h => le_int h) fun _ _ _ _ _ _ _ _ ra rb h hn hu h' => PySem.W.le_data ra rb h hn hu h'
theorem o_ge (hu : X.A.units + 190 < cLine) : OpR X (compareOp .GtE) (rB2 X.K (toP geB)) := o_ord hu (fun _ _ _ _ _ _ h => ge_int h) fun _ _ _ _ _ _ _ _ ra rb h hn hu h' => PySem.W.ge_data ra rb h hn hu h'
/-! ### in, is -/
def inB (a b : PyData) : Option Bool :=
  match b with
  | .str z => match a with
    | .str x => match x.cps.toList with
      | [c] => some (decide (c ∈ z.cps.toList))
      | _ => none
    | _ => none
  | .list xs => if (a.plain && PyData.plainAll xs && decide (a.depth ≤ 180)) = true then some (xs.any fun y => PyData.eqv y a) else none
  | .tuple xs => if (a.plain && PyData.plainAll xs && decide (a.depth ≤ 180)) = true then some (xs.any fun y => PyData.eqv y a) else none
  | _ => none
def notInB (a b : PyData) : Option Bool := (inB a b).map (!·)
theorem sign_of {x : Str} {c : Nat} (h : x.cps.toList = [c]) : x = ⟨#[c]⟩ := by
  cases x with
  | mk a =>
    have e : a = #[c] := by
      apply Array.toList_inj.mp
      rw [h]
    rw [e]
theorem o_in (hu : X.A.units + 190 < cLine) : OpR X (compareOp .In) (rB2 X.K (toP inB)) := opr fun pins s σ H x y v u a b r Q I rx ry ha hb e q => by
  obtain ⟨k, e1, rfl⟩ := toP_ok e
  unfold inB at e1
  split at e1
  · split at e1
    · rename_i z x
      cases Vw.str' ha
      cases Vw.str' hb
      split at e1
      · rename_i c hc
        cases e1
        exact op_in_sign pins s σ H _ _ v u Q I rx ry ⟨c, _, by rw [sign_of hc], rfl, q _ _ (nb_bl _)⟩
      · cases e1
    · cases e1
  · split at e1
    · rename_i xs hc
      simp only [Bool.and_eq_true, decide_eq_true_eq] at hc
      cases e1
      obtain ⟨as, ra⟩ := ha.reads I hc.1.1 rx
      obtain ⟨bs, rb⟩ := hb.reads I (by simpa [PyData.plain] using hc.1.2) ry
      exact PySem.SeqAt.in_list_data rb ra hc.1.2 hc.1.1 (by omega) (fin_b I q)
    · cases e1
  · split at e1
    · rename_i xs hc
      simp only [Bool.and_eq_true, decide_eq_true_eq] at hc
      cases e1
      obtain ⟨as, ra⟩ := ha.reads I hc.1.1 rx
      obtain ⟨bs, rb⟩ := hb.reads I (by simpa [PyData.plain] using hc.1.2) ry
      exact PySem.SeqAt.in_tuple_data rb ra hc.1.2 hc.1.1 (by omega) (fin_b I q)
    · cases e1
  · cases e1
theorem o_notIn (hu : X.A.units + 190 < cLine) : OpR X (compareOp .NotIn) (rB2 X.K (toP notInB)) := opr fun pins s σ H x y v u a b r Q I rx ry ha hb e q => by
  obtain ⟨k, e0, rfl⟩ := toP_ok e
  unfold notInB at e0
  cases e1 : inB a b with
  | none => rw [e1] at e0; cases e0
  | some k' =>
    rw [e1] at e0
    cases e0
    unfold inB at e1
    split at e1
    · split at e1
      · rename_i z x
        cases Vw.str' ha
        cases Vw.str' hb
        split at e1
        · rename_i c hc
          cases e1
          exact op_notIn_sign pins s σ H _ _ v u Q I rx ry ⟨c, _, by rw [sign_of hc], rfl, q _ _ (nb_bl _)⟩
        · cases e1
      · cases e1
    · split at e1
      · rename_i xs hc
        simp only [Bool.and_eq_true, decide_eq_true_eq] at hc
        cases e1
        obtain ⟨as, ra⟩ := ha.reads I hc.1.1 rx
        obtain ⟨bs, rb⟩ := hb.reads I (by simpa [PyData.plain] using hc.1.2) ry
        exact PySem.SeqAt.notIn_list_data rb ra hc.1.2 hc.1.1 (by omega) (fin_b I q)
      · cases e1
    · split at e1
      · rename_i xs hc
        simp only [Bool.and_eq_true, decide_eq_true_eq] at hc
        cases e1
        obtain ⟨as, ra⟩ := ha.reads I hc.1.1 rx
        obtain ⟨bs, rb⟩ := hb.reads I (by simpa [PyData.plain] using hc.1.2) ry
        exact PySem.SeqAt.notIn_tuple_data rb ra hc.1.2 hc.1.1 (by omega) (fin_b I q)
      · cases e1
    · cases e1
/-- is None, is True, is False -/
def isB (a b : PyData) : Option Bool :=
  match b with
  | .none => match a with
    | .none => some true
    | _ => some false
  | .bool k => match a with
    | .bool j => some (j == k)
    | _ => none
  | _ => none
def isNotB (a b : PyData) : Option Bool := (isB a b).map (!·)
theorem non_iff {K : PySem.W.Frag} {H : Hp} {v : V} {d : PyData} (h : Vw K H v d) : decide (v = .non) = (match d with | .none => true | _ => false) := by
  cases h <;> rfl
theorem bl_beq (a b : Bool) : decide (a = b) = (a == b) := by cases a <;> cases b <;> rfl
theorem o_is : OpR X (compareOp .Is) (rB2 X.K (toP isB)) := opr fun pins s σ H x y v u a b r Q I rx ry ha hb e q => by
  obtain ⟨k, e1, rfl⟩ := toP_ok e
  unfold isB at e1
  split at e1
  · cases Vw.non' hb
    refine op_isN pins s σ H _ _ v u Q I rx ry ⟨rfl, ?_⟩
    rw [non_iff ha]
    cases a <;> (cases e1; exact q _ _ (nb_bl _))
  · cases Vw.bool hb
    cases a with
    | bool j =>
      cases Vw.bool ha
      cases e1
      refine op_is_bl pins s σ H _ _ v u Q I rx ry ⟨_, _, rfl, rfl, ?_⟩
      rw [bl_beq]
      exact q _ _ (nb_bl _)
    | _ => cases e1
  · cases e1
theorem o_isNot : OpR X (compareOp .IsNot) (rB2 X.K (toP isNotB)) := opr fun pins s σ H x y v u a b r Q I rx ry ha hb e q => by
  obtain ⟨k, e0, rfl⟩ := toP_ok e
  unfold isNotB at e0
  cases e1 : isB a b with
  | none => rw [e1] at e0; cases e0
  | some k' =>
    rw [e1] at e0
    cases e0
    unfold isB at e1
    split at e1
    · cases Vw.non' hb
      refine op_notN pins s σ H _ _ v u Q I rx ry ⟨rfl, ?_⟩
      rw [non_iff ha]
      cases a <;> (cases e1; exact q _ _ (nb_bl _))
    · cases Vw.bool hb
      cases a with
      | bool j =>
        cases Vw.bool ha
        cases e1
        refine op_isnot_bl pins s σ H _ _ v u Q I rx ry ⟨_, _, rfl, rfl, ?_⟩
        rw [bl_beq]
        exact q _ _ (nb_bl _)
      | _ => cases e1
    · cases e1
end
end Sv
end
section
set_option autoImplicit false
set_option linter.all false
/-! Sv: subscripts, slices, built-in functions by values. -/
namespace Sv
open PySem PySem.Spec L2
open PyProof.Rows hiding St

/-! ### subscripts -/
def getP (a b : PyData) : Option B :=
  match a, b with
  | .list xs, .int i => (atI xs i).map .d
  | .tuple xs, .int i => (atI xs i).map .d
  | .str z, .int i => if z.length ≤ sizeLine then (atI z.cps.toList i).map fun c => .d (.str ⟨#[c]⟩) else none
  | _, _ => none
/-- xs[lo:hi] -/
def cutD {α : Type} (xs : List α) (lo hi : Option Int) : List α := (xs.drop (HT.sIx xs.length 0 lo)).take (HT.sIx xs.length xs.length hi - HT.sIx xs.length 0 lo)
def slP (a : PyData) (lo hi : Option Int) : Option B :=
  match a with
  | .list xs => some (.l (cutD xs lo hi))
  | .tuple xs => some (.d (.tuple (cutD xs lo hi)))
  | .str z => if z.length ≤ sizeLine then some (.d (.str (Txt.slice z lo hi))) else none
  | _ => none
section
variable {K : PySem.W.Frag} {H : Hp}
theorem FzAll.atI {vs : List V} {ds : List PyData} (h : FzAll K H vs ds) {i : Int} {d : PyData} (e : L2.atI ds i = some d) : ∃ v, L2.atI vs i = some v ∧ Fz K H v d := by
  unfold L2.atI at e ⊢
  rw [h.length]
  cases q : ixN ds.length i with
  | none => rw [q] at e; cases e
  | some j => rw [q] at e; exact h.get e
theorem FzAll.cut {vs : List V} {ds : List PyData} (h : FzAll K H vs ds) (lo hi : Option Int) : FzAll K H (cutV vs lo hi) (cutD ds lo hi) := by
  unfold cutV cutD
  rw [h.length]
  exact (h.drop _).take _
theorem cutD_len {α : Type} (xs : List α) (lo hi : Option Int) : (cutD xs lo hi).length ≤ xs.length := by
  unfold cutD
  rw [List.length_take, List.length_drop]
  omega
theorem cutD_all {α : Type} {xs : List α} {lo hi : Option Int} (h : HT.sIx xs.length 0 lo = 0 ∧ HT.sIx xs.length xs.length hi = xs.length) : cutD xs lo hi = xs := by
  unfold cutD
  rw [h.1, h.2]
  simp
end
section
variable {X : Cx} {W : WX}
theorem ix_get : IxR X (rB2 X.K getP) := fun value slice pins s σ H x y v u Q I rx ry ⟨a, b, r, ha, hb, e, q⟩ hs => by
  refine ix_seq value slice pins s σ H x y v u Q I rx ry ?_ hs
  cases ha with
  | @lst p xs ds h1 t1 =>
    cases hb with
    | int i =>
      simp only [getP] at e
      cases e1 : L2.atI ds i with
      | none => rw [e1] at e; cases e
      | some d =>
        rw [e1] at e
        cases e
        obtain ⟨w, h2, h3⟩ := t1.atI e1
        exact .inl ⟨p, xs, i, w, rfl, rfl, h1.sq, h2, q _ _ (nb_fz h3)⟩
    | _ => cases e
  | @tup p xs ds h1 t1 =>
    cases hb with
    | int i =>
      simp only [getP] at e
      cases e1 : L2.atI ds i with
      | none => rw [e1] at e; cases e
      | some d =>
        rw [e1] at e
        cases e
        obtain ⟨w, h2, h3⟩ := t1.atI e1
        exact .inr (.inl ⟨p, xs, i, w, rfl, rfl, h1, h2, q _ _ (nb_fz h3)⟩)
    | _ => cases e
  | str z =>
    cases hb with
    | int i =>
      simp only [getP] at e
      split at e
      · rename_i hz
        cases e1 : L2.atI z.cps.toList i with
        | none => rw [e1] at e; cases e
        | some d =>
          rw [e1] at e
          cases e
          exact .inr (.inr ⟨z, i, d, rfl, rfl, hz, e1, q _ _ (nb_str _)⟩)
      · cases e
    | _ => cases e
  | _ => cases e
def rSl (K : PySem.W.Frag) (f : PyData → Option Int → Option Int → Option B) : V → Option Int → Option Int → Hp → VK → Prop := fun x lo hi H Q => ∃ a r, Vw K H x a ∧ f a lo hi = some r ∧ ∀ v H1, NewB K H H1 v r → Q v H1
theorem sl_weak {r r' : V → Option Int → Option Int → Hp → VK → Prop} (h : SlR X r) (w : ∀ x lo hi H Q, r' x lo hi H Q → r x lo hi H Q) : SlR X r' := fun pins s σ H x v vl vu lo hi sl Q I rx hs pl pu q => h pins s σ H x v vl vu lo hi sl Q I rx hs pl pu (w x lo hi H Q q)
theorem sl_P : SlR X (rSl X.K slP) := sl_weak ((sl_list.or sl_tupA).or C8.sl_txt) fun x lo hi H Q ⟨a, r, ha, e, q⟩ => by
  cases ha with
  | @lst p xs ds h1 t1 =>
    cases e
    exact .inl (.inl ⟨p, xs, rfl, h1.sq, fun l hl => q _ _ (new_lst hl (t1.cut lo hi))⟩)
  | @tup p xs ds h1 t1 =>
    cases e
    refine .inl (.inr ⟨p, xs, rfl, h1, fun hw => ?_, fun _ l hl => q _ _ (new_tup hl (t1.cut lo hi))⟩)
    rw [t1.length] at hw
    rw [cutD_all hw] at q
    exact q _ _ (nb_fz (.tup h1 t1))
  | str z =>
    simp only [slP] at e
    split at e
    · rename_i hz
      cases e
      exact .inr ⟨z, rfl, hz, q _ _ (nb_str _)⟩
    · cases e
  | _ => cases e
/-- a bound of a slice -/
def bd (o : Option Cd) (e : Env) : R (Option Int) :=
  match o with
  | none => .ok none e
  | some l => (l e).bind fun x e2 => match x.rd e2 with
    | some (.int i) => .ok (some i) e2
    | _ => .no
inductive JO (X : Cx) (W : WX) : Option Expr → Option Cd → Prop
  | none : JO X W Option.none Option.none
  | some {e : Expr} {c : Cd} : JE X W e c → Pl c → JO X W (Option.some e) (Option.some c)
def tO (K : PySem.W.Frag) (mg : Str → Option Value) (W : WX) (c : Option Cd) : TO := fun σ H Q => ∃ ρ, EnvRel K H σ ρ ∧ Fin K mg W σ H ρ (fun _ _ (v : Option Int) k => v = k) (bd c ρ) Q
theorem JO.po {o : Option Expr} {c : Option Cd} (h : JO X W o c) : PO X o (tO X.K X.mg W c) := by
  cases h with
  | none => exact ⟨fun pins s σ H Q I ⟨ρ, er, f⟩ => po_none.run pins s σ H Q I (f Option.none H (Pst.refl er) rfl)⟩
  | some he pl =>
    refine ⟨fun pins s σ H Q I ⟨ρ, er, f⟩ => (po_some he).run pins s σ H Q I ⟨ρ, er, Fin.part f fun hd ρ1 c1 f1 v H1 p dn => ?_⟩⟩
    cases e1 : hd.rd ρ1 with
    | none => rw [e1] at f1; exact f1.elim
    | some x =>
      rw [e1] at f1
      have hx := dn.vw (pl _ _ _ c1) p.env (Pst.refl p.env) e1
      cases x with
      | int i =>
        cases Vw.int' hx
        exact ⟨i, rfl, f1 (Option.some i) H1 p rfl⟩
      | _ => exact f1.elim
theorem cSl_eq (f : PyData → Option Int → Option Int → Option B) (c : Cd) (lo hi : Option Cd) (e : Env) : cSl f c lo hi e = (c e).bind fun h e1 => (bd lo e1).bind fun a e2 => (bd hi e2).bind fun b e3 =>
    match h.rd e3 with
    | some p => (R.opt (f p a b) e3).bind fun r e4 => .ok (.v r) e4
    | none => .no := rfl
theorem e_sl {e : Expr} {lo hi : Option Expr} {c : Cd} {cl ch : Option Cd} {f : PyData → Option Int → Option Int → Option B} {p2 pos : Pos} (hr : SlR X (rSl X.K f)) (he : JE X W e c) (pl : Pl c) (hl : JO X W lo cl) (hh : JO X W hi ch) : JE X W (.Subscript e (.Slice lo hi none p2) pos) (cSl f c cl ch) :=
  pe_weak (pe_slice hr he hl.po hh.po) fun σ H Q ⟨ρ, er, f0⟩ => by
    rw [cSl_eq] at f0
    refine ⟨ρ, er, Fin.part f0 fun hd ρ1 c1 f1 v H1 p dn => ?_⟩
    refine ⟨ρ1, p.env, Fin.part (Fin.laterC p f1) fun a ρ2 c2 f2 a' H2 p2 da => ?_⟩
    subst da
    refine ⟨ρ2, p2.env, Fin.part (Fin.laterC p2 f2) fun b ρ3 c3 f3 b' H3 p3 db => ?_⟩
    subst db
    cases e1 : hd.rd ρ3 with
    | none => rw [e1] at f3; exact f3.elim
    | some x =>
      rw [e1] at f3
      simp only at f3
      cases e2 : f x a' b' with
      | none => rw [e2] at f3; exact f3.elim
      | some r =>
        rw [e2] at f3
        exact ⟨x, r, dn.vw (pl _ _ _ c1) p.env (p2.trans p3) e1, e2, fun w H4 n => n.fin p3 f3⟩

/-! ### built-in functions -/
theorem cr_weak {f : Value} {r r' : List V → Hp → VK → Prop} (h : CallR X f r) (w : ∀ xs H Q, r' xs H Q → r xs H Q) : CallR X f r' := fun pins s σ H xs us Q I rv q => h pins s σ H xs us Q I rv (w xs H Q q)
def one (f : PyData → Option B) : List PyData → Option B
  | [x] => f x
  | _ => none
def two (f : PyData → PyData → Option B) : List PyData → Option B
  | [x, y] => f x y
  | _ => none
theorem VwAll.one {K : PySem.W.Frag} {H : Hp} {vs : List V} {x : PyData} (h : VwAll K H vs [x]) : ∃ v, vs = [v] ∧ Vw K H v x := by
  cases h with
  | cons a t => cases t; exact ⟨_, rfl, a⟩
theorem VwAll.two {K : PySem.W.Frag} {H : Hp} {vs : List V} {x y : PyData} (h : VwAll K H vs [x, y]) : ∃ v w, vs = [v, w] ∧ Vw K H v x ∧ Vw K H w y := by
  cases h with
  | cons a t => cases t with
    | cons b t => cases t; exact ⟨_, _, rfl, a, b⟩
theorem cr_one {f : Value} {g : PyData → Option B} {r : List V → Hp → VK → Prop} (h : CallR X f r) (w : ∀ v x b H Q, Vw X.K H v x → g x = some b → (∀ v H1, NewB X.K H H1 v b → Q v H1) → r [v] H Q) : CallR X f (rBn X.K (one g)) :=
  cr_weak h fun vs H Q ⟨xs, b, hv, e, q⟩ => by
    unfold one at e
    split at e
    · obtain ⟨v, rfl, hx⟩ := hv.one
      exact w v _ b H Q hx e q
    · cases e
theorem cr_two {f : Value} {g : PyData → PyData → Option B} {r : List V → Hp → VK → Prop} (h : CallR X f r) (w : ∀ v u x y b H Q, Vw X.K H v x → Vw X.K H u y → g x y = some b → (∀ v H1, NewB X.K H H1 v b → Q v H1) → r [v, u] H Q) : CallR X f (rBn X.K (two g)) :=
  cr_weak h fun vs H Q ⟨xs, b, hv, e, q⟩ => by
    unfold two at e
    split at e
    · obtain ⟨v, u, rfl, hx, hy⟩ := hv.two
      exact w v u _ _ b H Q hx hy e q
    · cases e
def lenP : PyData → Option B
  | .list xs => some (.d (.int xs.length))
  | .tuple xs => some (.d (.int xs.length))
  | .str z => if z.length ≤ sizeLine then some (.d (.int z.length)) else none
  | _ => none
theorem f_len : CallR X (.builtin "len") (rBn X.K (one lenP)) := cr_one (call_len_seq.or call_len_str) fun v x b H Q hx e q => by
  cases hx with
  | @lst p xs ds h1 t1 =>
    cases e
    rw [← t1.length] at q
    exact .inl ⟨p, xs, rfl, .inl h1.sq, q _ _ (nb_int _)⟩
  | @tup p xs ds h1 t1 =>
    cases e
    rw [← t1.length] at q
    exact .inl ⟨p, xs, rfl, .inr h1, q _ _ (nb_int _)⟩
  | str z =>
    simp only [lenP] at e
    split at e
    · rename_i hz
      cases e
      exact .inr ⟨z, rfl, hz, q _ _ (nb_int _)⟩
    · cases e
  | _ => cases e
def tupleP : PyData → Option B
  | .list xs => some (.d (.tuple xs))
  | .tuple xs => some (.d (.tuple xs))
  | _ => none
theorem f_tuple : CallR X (.type "tuple") (rBn X.K (one tupleP)) := cr_one call_tuple_of fun v x b H Q hx e q => by
  cases hx with
  | @lst p xs ds h1 t1 =>
    cases e
    exact ⟨p, xs, rfl, .inl ⟨h1.sq, fun l hl => q _ _ (new_tup hl t1)⟩⟩
  | @tup p xs ds h1 t1 =>
    cases e
    exact ⟨p, xs, rfl, .inr ⟨h1, q _ _ (nb_fz (.tup h1 t1))⟩⟩
  | _ => cases e
def listP : PyData → Option B
  | .list xs => some (.l xs)
  | .tuple xs => some (.l xs)
  | _ => none
theorem f_list : CallR X (.type "list") (rBn X.K (one listP)) := cr_one call_list_of fun v x b H Q hx e q => by
  cases hx with
  | @lst p xs ds h1 t1 =>
    cases e
    exact ⟨p, xs, rfl, .inl h1.sq, fun l hl => q _ _ (new_lst hl t1)⟩
  | @tup p xs ds h1 t1 =>
    cases e
    exact ⟨p, xs, rfl, .inr h1, fun l hl => q _ _ (new_lst hl t1)⟩
  | _ => cases e
def intP : PyData → Option B
  | .int i => some (.d (.int i))
  | .bool k => some (.d (.int (if k then 1 else 0)))
  | _ => none
theorem f_int : CallR X (.type "int") (rBn X.K (one intP)) := cr_one call_int1 fun v x b H Q hx e q => by
  cases hx with
  | int i => cases e; exact .inl ⟨i, rfl, q _ _ (nb_int _)⟩
  | bl k => cases e; exact .inr ⟨k, rfl, q _ _ (nb_int _)⟩
  | _ => cases e
def absP : PyData → Option B
  | .int i => some (.d (.int (if i < 0 then -i else i)))
  | _ => none
theorem f_abs : CallR X (.builtin "abs") (rBn X.K (one absP)) := cr_one call_abs fun v x b H Q hx e q => by
  cases hx with
  | int i => cases e; exact ⟨i, rfl, q _ _ (nb_int _)⟩
  | _ => cases e
def max2P : PyData → PyData → Option B
  | .int i, .int j => some (.d (.int (if j > i then j else i)))
  | _, _ => none
def min2P : PyData → PyData → Option B
  | .int i, .int j => some (.d (.int (if j < i then j else i)))
  | _, _ => none
theorem f_max2 (hc : X.calm = true) : CallR X (.builtin "max") (rBn X.K (two max2P)) := cr_two (call_max2 hc) fun v u x y b H Q hx hy e q => by
  cases hx with
  | int i => cases hy with
    | int j => cases e; exact ⟨i, j, rfl, q _ _ (nb_int _)⟩
    | _ => cases e
  | _ => cases e
theorem f_min2 (hc : X.calm = true) : CallR X (.builtin "min") (rBn X.K (two min2P)) := cr_two (call_min2 hc) fun v u x y b H Q hx hy e q => by
  cases hx with
  | int i => cases hy with
    | int j => cases e; exact ⟨i, j, rfl, q _ _ (nb_int _)⟩
    | _ => cases e
  | _ => cases e
/-- a list of whole numbers, of truth values -/
def intsOf : List PyData → Option (List Int)
  | [] => some []
  | .int i :: r => (intsOf r).map (i :: ·)
  | _ :: _ => none
def boolsOf : List PyData → Option (List Bool)
  | [] => some []
  | .bool i :: r => (boolsOf r).map (i :: ·)
  | _ :: _ => none
theorem FzAll.intsOf {K : PySem.W.Frag} {H : Hp} : ∀ {vs : List V} {ds : List PyData}, FzAll K H vs ds → ∀ {ns : List Int}, Sv.intsOf ds = some ns → vs = ns.map V.int
  | _, _, .nil, ns, e => by cases e; rfl
  | _, _, .cons (d := d) h t, ns, e => by
    cases h with
    | int i =>
      simp only [Sv.intsOf] at e
      cases e1 : Sv.intsOf _ with
      | none => rw [e1] at e; cases e
      | some ms => rw [e1] at e; cases e; rw [FzAll.intsOf t e1]; rfl
    | _ => cases e
theorem FzAll.boolsOf {K : PySem.W.Frag} {H : Hp} : ∀ {vs : List V} {ds : List PyData}, FzAll K H vs ds → ∀ {ns : List Bool}, Sv.boolsOf ds = some ns → vs = ns.map V.bl
  | _, _, .nil, ns, e => by cases e; rfl
  | _, _, .cons (d := d) h t, ns, e => by
    cases h with
    | bl i =>
      simp only [Sv.boolsOf] at e
      cases e1 : Sv.boolsOf _ with
      | none => rw [e1] at e; cases e
      | some ms => rw [e1] at e; cases e; rw [FzAll.boolsOf t e1]; rfl
    | _ => cases e
def sumP : PyData → Option B
  | .list xs => (intsOf xs).map fun ns => .d (.int ns.sum)
  | _ => none
theorem f_sum (hc : X.calm = true) : CallR X (.builtin "sum") (rBn X.K (one sumP)) := cr_one (cr_sum hc) fun v x b H Q hx e q => by
  cases hx with
  | @lst p xs ds h1 t1 =>
    simp only [sumP] at e
    cases e1 : intsOf ds with
    | none => rw [e1] at e; cases e
    | some ns =>
      rw [e1] at e
      cases e
      exact ⟨p, ns, rfl, (by rw [← t1.intsOf e1]; exact h1.sq), q _ _ (nb_int _)⟩
  | _ => cases e
def allP : PyData → Option B
  | .list xs => (boolsOf xs).map fun ns => .d (.bool (ns.all id))
  | _ => none
theorem f_all (hc : X.calm = true) : CallR X (.builtin "all") (rBn X.K (one allP)) := cr_one (cr_all hc) fun v x b H Q hx e q => by
  cases hx with
  | @lst p xs ds h1 t1 =>
    simp only [allP] at e
    cases e1 : boolsOf ds with
    | none => rw [e1] at e; cases e
    | some ns =>
      rw [e1] at e
      cases e
      exact ⟨p, ns, rfl, (by rw [← t1.boolsOf e1]; exact h1.sq), q _ _ (nb_bl _)⟩
  | _ => cases e
def anyP : PyData → Option B
  | .list xs => (boolsOf xs).map fun ns => .d (.bool (ns.any id))
  | _ => none
theorem f_any (hc : X.calm = true) : CallR X (.builtin "any") (rBn X.K (one anyP)) := cr_one (cr_any hc) fun v x b H Q hx e q => by
  cases hx with
  | @lst p xs ds h1 t1 =>
    simp only [anyP] at e
    cases e1 : boolsOf ds with
    | none => rw [e1] at e; cases e
    | some ns =>
      rw [e1] at e
      cases e
      exact ⟨p, ns, rfl, (by rw [← t1.boolsOf e1]; exact h1.sq), q _ _ (nb_bl _)⟩
  | _ => cases e
/-! ### repr -/
def reprP (x : PyData) : Option B := if (x.plain && x.showable && decide (x.depth ≤ 180) && decide (x.shown.length ≤ sizeLine)) = true then some (.d (.str x.shown)) else none
mutual
theorem plain_noDict : ∀ d : PyData, d.plain = true → d.hasDict = false
  | .none, _ => by simp only [PyData.hasDict]
  | .bool _, _ => by simp only [PyData.hasDict]
  | .int _, _ => by simp only [PyData.hasDict]
  | .str _, _ => by simp only [PyData.hasDict]
  | .list xs, h => by
    simp only [PyData.hasDict]
    exact plainAll_noDict xs (by simpa only [PyData.plain] using h)
  | .tuple xs, h => by
    simp only [PyData.hasDict]
    exact plainAll_noDict xs (by simpa only [PyData.plain] using h)
  | .dict _, h => by cases h
theorem plainAll_noDict : ∀ ds : List PyData, PyData.plainAll ds = true → PyData.hasDictAll ds = false
  | [], _ => by simp only [PyData.hasDictAll]
  | x :: xs, h => by
    simp only [PyData.plainAll, Bool.and_eq_true] at h
    simp only [PyData.hasDictAll, plain_noDict x h.1, plainAll_noDict xs h.2, Bool.or_self]
end
theorem f_repr (hg : X.A.guards = some []) (hu : X.A.units + 190 < cLine) : CallR X (.builtin "repr") (rBn X.K (one reprP)) := fun pins s σ H vs us Q I rv ⟨xs, b, hv, e, q⟩ => by
  unfold one at e
  split at e
  · rename_i x
    obtain ⟨v, rfl, hx⟩ := hv.one
    unfold reprP at e
    split at e
    · rename_i hc
      simp only [Bool.and_eq_true, decide_eq_true_eq] at hc
      cases e
      cases rv with
      | cons r1 r2 =>
        cases r2
        obtain ⟨as, ra⟩ := hx.reads I hc.1.1.1 r1
        have fin : ∀ (h' : Heap) (u : Tok) (tk : Nat), (∀ b o, s.heap.get? b = some o → h'.get? b = some o) → EP X pins σ Q (.str x.shown u) { s with heap := h', toks := tk } := fun h' u tk k => ⟨.str x.shown, H, I.kept k, ⟨u, rfl⟩, q _ _ (nb_str _)⟩
        have far : ∀ {a : Addr}, v = .ref a → wpAny (model X.prog X.w) X.A (call (.builtin "repr") [.ref a]) (EP X pins σ Q) X.xe s := fun {a} ev => by
          subst ev
          cases r1
          exact repr_of_reads' ra hc.1.1.2 (PyData.noDict_hsm (plain_noDict x hc.1.1.1)) hg (by omega) (fun _ _ h => h) fin hc.2
        cases hx with
        | non => cases r1; exact PySem.P.repr_of_none (fin s.heap _ _ fun _ _ h => h)
        | bl k => cases r1; exact PySem.P.repr_of_bool (fin s.heap _ _ fun _ _ h => h)
        | int i =>
          obtain ⟨t, rfl⟩ := r1
          exact PySem.P.repr_of_int (by simpa [PyData.showable] using hc.1.1.2) (fin s.heap _ _ fun _ _ h => h)
        | str z =>
          obtain ⟨t, rfl⟩ := r1
          exact PySem.P.repr_of_str (fin s.heap _ _ fun _ _ h => h) hc.2
        | lst _ _ => cases r1; exact far rfl
        | tup _ _ => cases r1; exact far rfl
        | dct _ _ _ _ => cases r1; exact far rfl
    · cases e
  · cases e
end
end Sv
end
section
set_option autoImplicit false
set_option linter.all false
/-! Sv: isinstance; more methods of lists; stores; x op= y; stars; what is walked: range, a text. -/
namespace Sv
open PySem PySem.Spec L2
open PyProof.Rows hiding St

/-! ### isinstance(x, T), T a built-in class -/
def tyName : PyData → String
  | .none => "NoneType"
  | .bool _ => "bool"
  | .int _ => "int"
  | .str _ => "str"
  | .list _ => "list"
  | .tuple _ => "tuple"
  | .dict _ => "dict"
section
variable {K : PySem.W.Frag} {H : Hp}
theorem Vw.ty {v : V} {d : PyData} (h : Vw K H v d) : TyX K H v (.type (tyName d)) := by
  cases h with
  | non => exact .base .non
  | bl b => exact .base (.bl b)
  | int i => exact .base (.int i)
  | str x => exact .base (.str x)
  | lst h t =>
    rcases h with (h | ⟨o, h⟩) | ⟨its, n, h, _⟩
    · exact .base (.lst h)
    · exact .base (.frz h)
    · exact .kList h rfl
  | tup h t =>
    rcases h with (h | ⟨o, h⟩) | ⟨o, its, n, h1, h2, _⟩
    · exact .base (.tup h)
    · exact .fTuple h
    · exact .kTuple h1 h2
  | dct h e t f =>
    rcases h with h | ⟨o, h⟩
    · exact .base (.dK h)
    · exact .fDict h
end
def isP (f : PyData → Bool) (x : PyData) : Option B := some (.d (.bool (f x)))
def isStr : PyData → Bool
  | .str _ => true
  | _ => false
def isTup : PyData → Bool
  | .tuple _ => true
  | _ => false
def isLst : PyData → Bool
  | .list _ => true
  | _ => false
def isDct : PyData → Bool
  | .dict _ => true
  | _ => false
def isInt : PyData → Bool
  | .int _ => true
  | .bool _ => true
  | _ => false
def isBool : PyData → Bool
  | .bool _ => true
  | _ => false
/-- what isinstance says of T -/
def Isi (T : String) (f : PyData → Bool) : Prop := ∀ x, kitB (tyName x) T = some (f x)
theorem isi_str : Isi "str" isStr := fun x => by cases x <;> (simp only [tyName, isStr]; decide +kernel)
theorem isi_tup : Isi "tuple" isTup := fun x => by cases x <;> (simp only [tyName, isTup]; decide +kernel)
theorem isi_lst : Isi "list" isLst := fun x => by cases x <;> (simp only [tyName, isLst]; decide +kernel)
theorem isi_dct : Isi "dict" isDct := fun x => by cases x <;> (simp only [tyName, isDct]; decide +kernel)
theorem isi_int : Isi "int" isInt := fun x => by cases x <;> (simp only [tyName, isInt]; decide +kernel)
theorem isi_bool : Isi "bool" isBool := fun x => by cases x <;> (simp only [tyName, isBool]; decide +kernel)
section
variable {X : Cx} {W : WX} {io : List Nat}
theorem e_isi {e : Expr} {c : Cd} {T : String} {T' : Str} {f : PyData → Bool} {p pT pos : Pos} (hT : Isi T f) (hm : X.mg "isinstance" = none) (hg : Gl X "isinstance") (he : JE X W e c) (pl : Pl c) (hgT : Gl X T') (hmT : X.mg T' = none) (hv : bootBuiltins T' = some (.type T)) (hn : T' ≠ "__name__" := by decide)
    (hd : (T' == ("__debug__" : Str)) = false := by decide) (h1 : starEach [e, .Name T' pT] X.env = (false, eval e X.env) :: starEach [.Name T' pT] X.env := by rfl) (h2 : starEach [.Name T' pT] X.env = (false, eval (.Name T' pT) X.env) :: starEach [] X.env := by rfl)
    (hpl : (backTo pos (starEach [.Name T' pT] X.env)).any (·.1) = false := by rfl) : JE X W (.Call (.Name "isinstance" p) [e, .Name T' pT] [] pos) (cUn (isP f) c) :=
  pe_weak (pe_callB call_isi hg hm boot_isinstance (pa_cons he (pa_cons (pe_bltn (v := .ty T) hgT hmT hv rfl hn hd) pa_nil h2) h1) (by decide) (by decide) h1 hpl) fun σ H Q ⟨ρ, er, f0⟩ => by
    refine ⟨ρ, er, Fin.part f0 fun hd ρ1 c1 f1 v H1 p dn => ?_⟩
    cases e1 : hd.rd ρ1 with
    | none => rw [e1] at f1; exact f1.elim
    | some x =>
      rw [e1] at f1
      have hx := dn.vw (pl _ _ _ c1) p.env (Pst.refl p.env) e1
      exact ⟨v, .ty T, .type (tyName x), .type T, f x, rfl, .ty T, hx.ty, kit_ty (hT x), (nb_bl (f x)).fin p f1⟩

/-! ### xs.extend(ys), xs.insert(i, y), xs.pop(i) -/
def mExtend : Mth := fun cs xs => match xs with
  | [.list ys] => if cs.length + ys.length ≤ sizeLine then some (cs ++ ys, .none) else none
  | [.tuple ys] => if cs.length + ys.length ≤ sizeLine then some (cs ++ ys, .none) else none
  | _ => none
theorem not_long {items items2 : Array Value} (h : items.size + items2.size ≤ sizeLine) : ¬ (!items.isEmpty && Builtin.List.listTooLong (items.size + items2.size)) = true := by
  rw [notLongL h, Bool.and_false]
  decide
theorem extend_tup_any (l : Addr) (items : Array Value) (n : Nat) (b : Addr) (items2 : Array Value) (n2 : Nat) (dd : Option Addr) (sl : Array (Option Value)) (hs0 : ¬(!items.isEmpty && Builtin.List.listTooLong (items.size + items2.size)) = true) (hs1 : items.size ≤ sizeLine) (hs2 : items.size + items2.size ≤ sizeLine + 1) :
    Meets (Builtin.«list.extend» ⟨[.ref l, .ref b], []⟩) (fun _ R s => IsL s.heap l items n ∧ s.heap.get? b = some { cls := .type "tuple", dict := dd, data := .seq items2 n2, slots := sl } ∧ R (.ok (.ret Value.none)) { s with heap := s.heap.update l (Obj.mapSeq fun x => x ++ items2), toks := s.toks }) :=
  .of_wp fun prog w A R s h => by
    obtain ⟨hp, g, d, tk, os⟩ := s
    obtain ⟨hl, hb, h⟩ := h
    have f1 := PySem.AutoSeq1.idx_int
    have f2 := PySem.AutoSeq1.sub_tuple_tuple
    have f3 := PySem.AutoSeq1.sub_list_list
    have f4 := PySem.AutoSeq1.sub_tuple_list
    have f5 := PySem.AutoSeq1.sub_list_tuple
    have hz' : (items ++ items2).size ≤ sizeLine + 1 := by rw [Array.size_append]; exact hs2
    wp_walk using (wpAny_updateSeq hl rfl (hz := hs1) (_hz' := hz')), PySem.AutoSeq1.wpAny_loadPart' hl, PySem.AutoSeq1.wpAny_loadPart' hb
    exact ⟨_, rfl, h⟩
theorem m_extend : MtR X "list.extend" (rMt X.K mExtend) := fun pins s σ H x vs v us Q I rx rv ⟨a, ys, cs, xs, cs', r, ex, h1, h2, h3, h4, q⟩ => by
  subst ex
  cases rx
  obtain ⟨z, its, n, r1, hl, e1⟩ := I.lstM h1
  cases h3 with
  | nil => cases h4
  | cons fz t =>
    cases t with
    | cons _ _ => cases fz <;> cases h4
    | nil =>
      cases rv with
      | cons ru rn =>
        cases rn
        cases fz with
        | @lst b zs ds hb hz =>
          simp only [mExtend] at h4
          split at h4
          · rename_i hlen
            cases h4
            cases ru
            obtain ⟨its2, n2, r2, z2, e2⟩ := lst_obj I hb.rl
            have len : its.length + its2.length ≤ sizeLine := by rw [← hl, ← r2.length, h2.length, hz.length]; exact hlen
            refine call_meets PySem.F.slot_list_extend ⟨_, e1, rfl⟩ PySem.F.entry_list_extend (PySem.F.args_list_extend_2 _ _) (PySem.AutoSeq1.list_extend_list_list_0 a its.toArray n b its2.toArray n2 (not_long (by simpa using len)) (by rw [List.size_toArray]; omega) (by rw [List.size_toArray, List.size_toArray]; omega)) ⟨e1, e2, ?_⟩
            refine ⟨.non, _, I.lset (its' := its ++ its2) h1 e1 (by simp) (r1.append r2) ?_, rfl, q _ _ (h2.append hz) .non⟩
            rw [List.length_append, r1.length, r2.length]
            exact len
          · cases h4
        | @tup b zs ds hb hz =>
          simp only [mExtend] at h4
          split at h4
          · rename_i hlen
            cases h4
            cases ru
            obtain ⟨its2, r2, ⟨⟨oc, od, odt, osl⟩, e2, hcl, n2, hdt⟩, z2⟩ := I.tuple hb
            simp only at hcl hdt
            subst hcl hdt
            have len : its.length + its2.length ≤ sizeLine := by rw [← hl, ← r2.length, h2.length, hz.length]; exact hlen
            refine call_meets PySem.F.slot_list_extend ⟨_, e1, rfl⟩ PySem.F.entry_list_extend (PySem.F.args_list_extend_2 _ _) (extend_tup_any a its.toArray n b its2.toArray n2 od osl (not_long (by simpa using len)) (by rw [List.size_toArray]; omega) (by rw [List.size_toArray, List.size_toArray]; omega)) ⟨e1, e2, ?_⟩
            refine ⟨.non, _, I.lset (its' := its ++ its2) h1 e1 (by simp) (r1.append r2) ?_, rfl, q _ _ (h2.append hz) .non⟩
            rw [List.length_append, r1.length, r2.length]
            exact len
          · cases h4
        | _ => cases h4
def mPopAt : Mth := fun cs xs => match xs with
  | [.int i] => match seqIndex? i cs.length with
    | some k => match cs[k]? with
      | some y => if -(2 ^ 63) ≤ i ∧ i < 2 ^ 63 then some (cs.eraseIdx k, y) else none
      | none => none
    | none => none
  | _ => none
theorem FzAll.erase {K : PySem.W.Frag} {H : Hp} : ∀ {vs : List V} {ds : List PyData} (k : Nat), FzAll K H vs ds → FzAll K H (vs.eraseIdx k) (ds.eraseIdx k)
  | _, _, _, .nil => .nil
  | _, _, 0, .cons _ t => t
  | _, _, k + 1, .cons h t => .cons h (FzAll.erase k t)
theorem m_popAt : MtR X "list.pop" (rMt X.K mPopAt) := mt_weak mt_popAt fun x vs H Q ⟨a, ys, cs, xs, cs', r, hx, h1, h2, h3, h4, q⟩ => by
  cases h3 with
  | nil => cases h4
  | cons fz t =>
    cases t with
    | cons _ _ => cases fz <;> cases h4
    | nil =>
      cases fz with
      | int i =>
        simp only [mPopAt] at h4
        cases e1 : seqIndex? i cs.length with
        | none => rw [e1] at h4; cases h4
        | some k =>
          rw [e1] at h4
          simp only at h4
          cases e2 : cs[k]? with
          | none => rw [e2] at h4; cases h4
          | some y =>
            rw [e2] at h4
            simp only at h4
            split at h4
            · rename_i hr
              cases h4
              obtain ⟨v, e3, fz⟩ := h2.get e2
              exact ⟨a, ys, i, k, v, hx, rfl, h1, hr.1, hr.2, by rw [h2.length]; exact e1, e3, q _ _ (h2.erase k) fz⟩
            · cases h4
      | _ => cases h4
def mInsert : Mth := fun cs xs => match xs with
  | [.int i, y] => if cs.length < sizeLine ∧ 0 ≤ i ∧ i < 2 ^ 63 then some (cs.take i.toNat ++ [y] ++ cs.drop i.toNat, .none) else none
  | _ => none
theorem m_insert : MtR X "list.insert" (rMt X.K mInsert) := mt_weak mt_insert fun x vs H Q ⟨a, ys, cs, xs, cs', r, hx, h1, h2, h3, h4, q⟩ => by
  cases h3 with
  | nil => cases h4
  | cons fz t =>
    cases t with
    | nil => cases fz <;> cases h4
    | cons fy t =>
      cases t with
      | cons _ _ => cases fz <;> cases h4
      | nil =>
        cases fz with
        | int i =>
          simp only [mInsert] at h4
          split at h4
          · rename_i hc
            cases h4
            exact ⟨a, ys, i, _, hx, rfl, h1, by rw [h2.length]; exact hc.1, hc.2.1, hc.2.2, q _ _ (((h2.take _).append (.cons fy .nil)).append (h2.drop _)) .non⟩
          · cases h4
        | _ => cases h4
/-! ### xs[i] = v -/
def setD (cs : List PyData) (j x : PyData) : Option (List PyData) :=
  match j with
  | .int i => (ixN cs.length i).map fun k => cs.set k x
  | _ => none
theorem st_list : PSet X (rSt X.K setD) := fun pins s σ H o i v ov iv u Q I ro ri rv ⟨a, ys, cs, j, x, cs', eo, h1, h2, h3, h4, h5, q⟩ => by
  cases h3 with
  | int k =>
    simp only [setD] at h5
    cases e : ixN cs.length k with
    | none => rw [e] at h5; cases h5
    | some m =>
      rw [e] at h5
      cases h5
      exact set_list pins s σ H o _ v ov iv u Q I ro ri rv ⟨a, ys, k, m, eo, rfl, h1, by rw [h2.length]; exact e, q _ (h2.set m h4)⟩
  | _ => cases h5
/-! ### x += y of ints -/
def augAdd : PyData → PyData → Option PyData
  | .int a, .int b => some (.int (a + b))
  | _, _ => none
theorem ip_addD : PIp X .Add (rIp X.K augAdd) := fun pins s σ H x y v u Q I rx ry ⟨a, b, r, ha, hb, e, q⟩ => by
  cases ha with
  | int i =>
    cases hb with
    | int j =>
      cases e
      exact iop_add pins s σ H _ _ v u Q I rx ry ⟨i, j, rfl, rfl, q _ H (fun _ _ h => h) (.int _)⟩
    | _ => cases e
  | _ => cases e
/-! ### [*xs, y] -/
theorem FzAll.denA {K : PySem.W.Frag} {H : Hp} {σ : St} : ∀ {vs : List V} {xs : List PyData}, FzAll K H vs xs → ∀ {ws : List V} {hs : List Hd}, DenA K H σ ws hs → DenA K H σ (vs ++ ws) (xs.map (fun x => Hd.v (.d x)) ++ hs)
  | _, _, .nil, _, _, d => d
  | _, _, .cons h t, _, _, d => .data h (FzAll.denA t d)
theorem a_star {e : Expr} {es : List Expr} {c : Cd} {a : Ad} {p : Pos} (he : JE X W e c) (hr : JA X W es a) (hs : starEach (.Starred e p :: es) X.env = (true, eval e X.env) :: starEach es X.env := by rfl) : JA X W (.Starred e p :: es) (aStar c a) :=
  pa_weak (StX.pa_star (e_hold he) hr hs) fun σ H Q ⟨ρ, er, f⟩ => by
    refine ⟨ρ, er, Fin.part f fun hd ρ1 c1 f1 v H1 p dn => ?_⟩
    cases hd with
    | s i => exact f1.elim
    | v b =>
      cases b with
      | l xs => exact (pl_E c _ _ _ c1).elim
      | d x =>
        simp only at f1
        cases e1 : itemsX x with
        | none => rw [e1] at f1; exact f1.elim
        | some xs =>
          rw [e1] at f1
          have seq : ∃ q vs, v = .ref q ∧ (SqT X.K H1 q vs ∨ SqL X.K H1 q vs) ∧ FzAll X.K H1 vs xs := by
            cases dn with
            | lst ha hx => cases e1; exact ⟨_, _, rfl, .inr ha.sq, hx⟩
            | tup ha hx => cases e1; exact ⟨_, _, rfl, .inl ha, hx⟩
            | _ => cases e1
          obtain ⟨q, vs, rfl, hq, hx⟩ := seq
          refine ⟨q, vs, rfl, hq, ρ1, p.env, Fin.part (Fin.laterA p f1) fun hs ρ2 c2 f2 ws H2 p2 dn2 => ?_⟩
          refine f2 (vs ++ ws) H2 p2 ?_
          exact (p2.fzAll p.env hx).denA dn2
/-! ### what is walked: range, a text -/
theorem walk_rng {K : PySem.W.Frag} {H : Hp} (lo : Int) (n : Nat) : WalkJ K H (Itr lo n) (rngD lo n) := fun i H1 k => by
  have hl : (rngD lo n).length = n := by unfold rngD; rw [List.length_map, List.length_range]
  refine ⟨fun hi => (by rw [hl] at hi; exact Nat.le_of_eq hi.symm), fun hi => (by rw [hl] at hi; exact hi), fun x H' hy d hd => ?_⟩
  obtain ⟨rfl, rfl⟩ := hy
  have hi : i < n := by
    have := (List.getElem?_eq_some_iff.mp hd).1
    omega
  have e : d = .int (lo + i) := by
    unfold rngD at hd
    rw [List.getElem?_map, List.getElem?_range hi] at hd
    exact (Option.some.inj hd).symm
  subst e
  exact ⟨.int _, fun b o h => h⟩
theorem i_range1 {tg a : Expr} {c : Cd} {p pos : Pos} (hg : Gl X "range") (hm : X.mg "range" = none) (ha : JE X W a c) (pl : Pl c) (hs : starEach [a] X.env = [(false, eval a X.env)] := by rfl) : JI X W tg (.Call (.Name "range" p) [a] [] pos) (wRange1 c) :=
  pi_weak (pi_range1 hg hm (pa_cons ha pa_nil hs) hs) fun σ H R ⟨ρ, er, f⟩ => by
    refine ⟨ρ, er, Fin.part f fun hd ρ1 c1 f1 v H1 p dn => ?_⟩
    cases e1 : hd.rd ρ1 with
    | none => rw [e1] at f1; exact f1.elim
    | some x =>
      rw [e1] at f1
      have hx := dn.vw (pl _ _ _ c1) p.env (Pst.refl p.env) e1
      cases x with
      | int j =>
        cases Vw.int' hx
        simp only at f1
        split at f1
        · rename_i hj
          exact ⟨j, rfl, hj.1, hj.2, f1 _ H1 p (walk_rng 0 j.toNat)⟩
        · exact f1.elim
      | _ => exact f1.elim
theorem i_range2 {tg a b : Expr} {c d : Cd} {p pos : Pos} (hg : Gl X "range") (hm : X.mg "range" = none) (ha : JE X W a c) (pa : Pl c) (hb : JE X W b d) (pb : Pl d) (hs : starEach [a, b] X.env = [(false, eval a X.env), (false, eval b X.env)] := by rfl) (hs2 : starEach [b] X.env = [(false, eval b X.env)] := by rfl) :
    JI X W tg (.Call (.Name "range" p) [a, b] [] pos) (wRange2 c d) :=
  pi_weak (pi_range2 hg hm (pa_cons ha (pa_cons hb pa_nil hs2) (by rw [hs, hs2])) hs hs2) fun σ H R ⟨ρ, er, f⟩ => by
    refine ⟨ρ, er, Fin.part f fun hd ρ1 c1 f1 v H1 p dn => ?_⟩
    refine ⟨ρ1, p.env, ?_⟩
    have f1' := Fin.later (Rel' := fun H1 _ (J : It) xs => WalkJ X.K H1 J xs) p (fun _ _ _ _ _ _ d => d) f1
    refine Fin.part f1' fun hd2 ρ2 c2 f2 v2 H2 p2 dn2 => ?_
    cases e1 : hd.rd ρ2 with
    | none => rw [e1] at f2; exact f2.elim
    | some x =>
      cases e2 : hd2.rd ρ2 with
      | none => rw [e1, e2] at f2; split at f2 <;> first | exact f2.elim | contradiction
      | some y =>
        rw [e1, e2] at f2
        have hx := dn.vw (pa _ _ _ c1) p.env p2 e1
        have hy := dn2.vw (pb _ _ _ c2) p2.env (Pst.refl p2.env) e2
        cases x with
        | int i =>
          cases y with
          | int j =>
            cases Vw.int' hx
            cases Vw.int' hy
            simp only at f2
            split at f2
            · rename_i hj
              exact ⟨i, j, rfl, hj, f2 _ H2 p2 (walk_rng i (j - i).toNat)⟩
            · exact f2.elim
          | _ => exact f2.elim
        | _ => exact f2.elim
theorem walk_str {K : PySem.W.Frag} {H : Hp} (x : Str) : WalkJ K H (Its x) (signs x) := fun i H1 k => by
  have hl : (signs x).length = x.cps.size := by unfold signs; rw [List.length_map, Array.length_toList]
  refine ⟨fun hi => (by rw [hl] at hi; exact Nat.le_of_eq hi.symm), fun hi => (by rw [hl] at hi; exact hi), fun v H' hy d hd => ?_⟩
  obtain ⟨rfl, c, hc, rfl⟩ := hy
  have e : d = .str ⟨#[c]⟩ := by
    unfold signs at hd
    rw [List.getElem?_map, Array.getElem?_toList, hc] at hd
    exact (Option.some.inj hd).symm
  subst e
  exact ⟨.str _, fun b o h => h⟩
theorem i_str {tg e : Expr} {c : Cd} (he : JE X W e c) : JI X W tg e (wStr c) :=
  pi_weak (pi_str (e_hold he)) fun σ H R ⟨ρ, er, f⟩ => by
    refine ⟨ρ, er, Fin.part f fun hd ρ1 c1 f1 v H1 p dn => ?_⟩
    cases hd with
    | s i => exact f1.elim
    | v b =>
      cases b with
      | l xs => exact f1.elim
      | d x =>
        cases dn with
        | str z => exact ⟨z, rfl, f1 _ H1 p (walk_str z)⟩
        | _ => exact f1.elim
end
end Sv
end
section
set_option autoImplicit false
set_option linter.all false
/-! Sv: dicts that are data; repr of them. -/
namespace Sv
open PySem PySem.Spec L2
open PyProof.Rows hiding St

section
variable {X : Cx} {W : WX}
/-- a thing may be locked behind an expression -/
def tFzA (t : TE) : TE := fun σ H Q => t σ H fun v H1 => ∃ a u, H1 a = some u ∧ Mut (some u) ∧ ∀ o, Q v (upd H1 a (.frz o u))
theorem pe_fzA {e : Expr} {t : TE} (h : PE X e t) : PE X e (tFzA t) := by
  refine ⟨fun pins s σ H Q I hw => ?_⟩
  refine thn (h.run pins s σ H _ I hw) fun u s1 ⟨v, H1, I1, r, a, w, e1, mu, q⟩ => ?_
  obtain ⟨o, I2⟩ := Inv.lock I1 e1 mu
  exact ⟨v, _, I2, r, q o⟩
theorem grow_new {H : Hp} {p : Addr} {u w : HO} (hp : H p = none) : ∀ b o, H b = some o → upd (upd H p u) p w b = some o := fun b o e => by
  rw [upd_upd, upd_ne (ne_of_none e hp)]; exact e
/-- {} -/
theorem e_dict0 {pos : Pos} : JE X W (.Dict [] [] pos) (cK (.dict [])) :=
  pe_weak (pe_fzA pe_dnewK) fun σ H Q ⟨ρ, er, f⟩ p hp => ⟨p, .dK [], upd_same, trivial, fun o => f _ _ (Pst.grow er (grow_new hp)) (.dct (kvs := []) (ks := []) (vs := []) (by rw [upd_upd]; exact upd_same) rfl .nil rfl)⟩
/-- {'k': v}, both written -/
theorem e_dict1 {k v : Expr} {z : Str} {x : PyData} {w : V} {pos : Pos} (hk : PE X k (L2.tC (.str z))) (hv : PE X v (L2.tC w)) (fz : ∀ H, Fz X.K H w x) : JE X W (.Dict [some k] [v] pos) (cK (.dict [(.str z, x)])) :=
  pe_weak (pe_fzA (pe_disp (pps_cons hk hv pps_nil) rfl rfl (by simp) (by simp))) fun σ H Q ⟨ρ, er, f⟩ p hp => by
    refine ⟨upd_same, [(.inr z, w)], rfl, by simp, p, .dK [(.inr z, w)], upd_same, trivial, fun o => ?_⟩
    refine f _ _ (Pst.grow er ?_) (.dct (kvs := [(.inr z, w)]) (ks := [.str z]) (vs := [x]) (by rw [upd_upd]; exact upd_same) rfl (.cons (fz _) .nil) rfl)
    intro b u e
    rw [upd_upd, upd_upd, upd_ne (ne_of_none e hp)]
    exact e
/-- no list in it -/
def nol : PyData → Bool
  | .none => true
  | .bool _ => true
  | .int _ => true
  | .str _ => true
  | .list _ => false
  | .tuple xs => nolAll xs
  | .dict ps => nolKv ps
where
  nolAll : List PyData → Bool
    | [] => true
    | x :: xs => nol x && nolAll xs
  nolKv : List (PyData × PyData) → Bool
    | [] => true
    | (_, v) :: r => nol v && nolKv r
theorem nolKv_zip : ∀ (ks vs : List PyData), ks.length = vs.length → nol.nolKv (ks.zip vs) = nol.nolAll vs
  | [], [], _ => rfl
  | [], _ :: _, h => by simp at h
  | _ :: _, [], h => by simp at h
  | k :: ks, v :: vs, h => by
    show (nol v && nol.nolKv (ks.zip vs)) = (nol v && nol.nolAll vs)
    rw [nolKv_zip ks vs (by simpa using h)]
section
variable {pins : List (Addr × Obj)} {σ : St} {H : Hp} {s : Shared}
theorem keys_read {h : Heap} {es : List DictEntry} {us : List (Key × Value)} {kvs : List (Key × V)} (p : Pairs (mixKind X.prog X.w) es us) (kv : KV kvs us) : ReadsAll h (es.map (·.key)) (kvs.map fun p => keyD p.1) [] := by
  induction p generalizing kvs with
  | nil => cases kv; exact .nil
  | @cons e0 kv0 es us hk _ _ ih =>
    cases kv with
    | @cons p0 _ ps _ e r =>
      have hk' : keyIs kv0.1 e0.key = true := hk
      have one : Reads h e0.key (keyD p0.1) [] := by
        rw [e.1]
        rcases keyIs_shape hk' with ⟨i, u, e1, e2⟩ | ⟨x, u, e1, e2⟩
        · rw [e1, e2]; exact .int i u
        · rw [e1, e2]; exact .str x u
      exact .cons (as := []) (bs := []) one (ih r)
theorem vals_of {es : List DictEntry} {us : List (Key × Value)} {kvs : List (Key × V)} (p : Pairs (mixKind X.prog X.w) es us) (kv : KV kvs us) : Vals (kvs.map (·.2)) (es.map (·.val)) := by
  induction p generalizing kvs with
  | nil => cases kv; exact .nil
  | @cons e0 kv0 es us _ hv _ ih =>
    cases kv with
    | @cons p0 _ ps _ e r =>
      have q : RelV p0.2 e0.val := by rw [hv]; exact e.2
      exact .cons q (ih r)
theorem dict_reads {a : Addr} {kvs : List (Key × V)} {vs : List PyData} (I : Inv X pins σ H s) (h : Rd H a (.dK kvs)) (hl : kvs.length = vs.length) (hv : ∀ us, Vals (kvs.map (·.2)) us → ∃ as, ReadsAll s.heap us vs as ∧ sysModules ∉ as) :
    ∃ as, Reads s.heap (.ref a) (.dict ((kvs.map fun p => keyD p.1).zip vs)) as ∧ sysModules ∉ as := by
  obtain ⟨_, hm, us, kv, o, es, ep, h1, h2, h3, _, h4, _⟩ := (Rd.ok h I.hok : ObjOk X.prog X.w H s.heap _ (.dK _))
  obtain ⟨bs, q, na⟩ := hv _ (vals_of h4 kv)
  refine ⟨_, .dict (as := []) (bs := bs) h1 h2.1 h3 ?_ ?_, ?_⟩
  · rw [List.map_fst_zip (by rw [List.length_map]; omega)]
    exact keys_read h4 kv
  · rw [List.map_snd_zip (by rw [List.length_map]; omega)]
    exact q
  · simp only [List.append_nil, List.cons_append, List.nil_append, List.mem_cons, not_or]
    exact ⟨fun z => by rw [← z] at hm; simp at hm, na⟩
theorem nol_vals {kvs : List (Key × V)} {vs : List PyData} (hl : kvs.length = vs.length) (p : nol (.dict ((kvs.map fun p => keyD p.1).zip vs)) = true) : nol.nolAll vs = true := by
  have q : nol.nolKv ((kvs.map fun p => keyD p.1).zip vs) = true := p
  rw [nolKv_zip _ _ (by rw [List.length_map]; exact hl)] at q
  exact q
mutual
theorem Fz.readsD (I : Inv X pins σ H s) : ∀ {v : V} {d : PyData}, Fz X.K H v d → nol d = true → ∀ {u : Value}, RelV v u → ∃ as, Reads s.heap u d as ∧ sysModules ∉ as
  | _, _, .non, _, _, r => by cases r; exact ⟨_, .none, by simp⟩
  | _, _, .bl b, _, _, r => by cases r; exact ⟨_, .bool b, by simp⟩
  | _, _, .int i, _, _, r => by obtain ⟨t, rfl⟩ := r; exact ⟨_, .int i t, by simp⟩
  | _, _, .str x, _, _, r => by obtain ⟨t, rfl⟩ := r; exact ⟨_, .str x t, by simp⟩
  | _, _, .lst h t, p, _, r => by cases p
  | _, _, .tup h t, p, _, r => by
    cases r
    obtain ⟨its, rv, ⟨o, e, c, n, d⟩, _⟩ := I.tuple h
    obtain ⟨as, q, na⟩ := FzAll.readsD I t (by simpa [nol] using p) rv
    exact ⟨_, .tuple e c d (by simpa using q), na⟩
  | _, _, .dct h e t f, p, _, r => by
    cases r
    subst e f
    have hl := t.length
    rw [List.length_map] at hl
    exact dict_reads I (.inr ⟨_, h⟩) hl fun us rv => FzAll.readsD I t (nol_vals hl p) rv
theorem FzAll.readsD (I : Inv X pins σ H s) : ∀ {vs : List V} {ds : List PyData}, FzAll X.K H vs ds → nol.nolAll ds = true → ∀ {us : List Value}, Vals vs us → ∃ as, ReadsAll s.heap us ds as ∧ sysModules ∉ as
  | _, _, .nil, _, _, r => by cases r; exact ⟨_, .nil, by simp⟩
  | _, _, .cons h t, p, _, r => by
    cases r with
    | cons r1 r2 =>
      have p2 := Bool.and_eq_true _ _ ▸ (show (nol _ && nol.nolAll _) = true from p)
      obtain ⟨as, q1, n1⟩ := Fz.readsD I h p2.1 r1
      obtain ⟨bs, q2, n2⟩ := FzAll.readsD I t p2.2 r2
      exact ⟨_, .cons q1 q2, by simp [n1, n2]⟩
end
end
/-- repr(x): of data without dicts, or without lists -/
def reprW (x : PyData) : Option B := if ((x.plain || nol x) && x.showable && decide (x.depth ≤ 180) && decide (x.shown.length ≤ sizeLine)) = true then some (.d (.str x.shown)) else none
theorem f_reprW (hg : X.A.guards = some []) (hu : X.A.units + 190 < cLine) : CallR X (.builtin "repr") (rBn X.K (one reprW)) := fun pins s σ H vs us Q I rv ⟨xs, b, hv, e, q⟩ => by
  unfold one at e
  split at e
  · rename_i x
    obtain ⟨v, rfl, hx⟩ := hv.one
    unfold reprW at e
    split at e
    · rename_i hc
      simp only [Bool.and_eq_true, decide_eq_true_eq] at hc
      cases e
      by_cases hp : x.plain = true
      · refine f_repr hg hu pins s σ H [v] us Q I rv ⟨[x], .d (.str x.shown), .cons hx .nil, ?_, q⟩
        show reprP x = _
        unfold reprP
        rw [if_pos (by simp only [Bool.and_eq_true, decide_eq_true_eq]; exact ⟨⟨⟨hp, hc.1.1.2⟩, hc.1.2⟩, hc.2⟩)]
      · have hn : nol x = true := by
          rcases Bool.or_eq_true _ _ ▸ hc.1.1.1 with h | h
          · exact absurd h hp
          · exact h
        cases rv with
        | cons r1 r2 =>
          cases r2
          have fin : ∀ (h' : Heap) (u : Tok) (tk : Nat), (∀ b o, s.heap.get? b = some o → h'.get? b = some o) → EP X pins σ Q (.str x.shown u) { s with heap := h', toks := tk } := fun h' u tk k => ⟨.str x.shown, H, I.kept k, ⟨u, rfl⟩, q _ _ (nb_str _)⟩
          have far : ∀ {a : Addr} {as : List Addr}, v = .ref a → Reads s.heap (.ref a) x as → sysModules ∉ as → wpAny (model X.prog X.w) X.A (call (.builtin "repr") [.ref a]) (EP X pins σ Q) X.xe s := fun {a as} ev ra na => by
            subst ev
            exact repr_of_reads' ra hc.1.1.2 (fun _ => na) hg (by omega) (fun _ _ h => h) fin hc.2
          cases hx with
          | non => exact absurd rfl hp
          | bl k => exact absurd rfl hp
          | int i => exact absurd rfl hp
          | str z => exact absurd rfl hp
          | lst _ _ => cases hn
          | tup h t =>
            cases r1
            obtain ⟨as, ra, na⟩ := Fz.readsD I (.tup h t) hn rfl
            exact far rfl ra na
          | @dct a kvs ks ws ps h e t f =>
            cases r1
            subst e f
            have hl := t.length
            rw [List.length_map] at hl
            obtain ⟨as, ra, na⟩ := dict_reads I h hl fun us rv => FzAll.readsD I t (nol_vals hl hn) rv
            exact far rfl ra na
    · cases e
  · cases e
end
end Sv
end
section
set_option autoImplicit false
set_option linter.all false
/-! Sv: the end, from the law's own def to the row. -/
namespace Sv
open PySem PySem.Spec L2
open PyProof.Rows hiding St

theorem fz_ints {K : PySem.W.Frag} {H : Hp} : ∀ ns : List Int, FzAll K H (ns.map V.int) (ns.map PyData.int)
  | [] => .nil
  | n :: r => .cons (.int n) (fz_ints r)
theorem law_sv {P : Program} {w : World} {K : PySem.W.Frag} {mg mb : Str → Option Value} {k : Nat} {fa a : Addr} {fd : FuncData} {x : Str} {F : Fn} {s1 : Shared} {us : List Value} {ns : List Int}
    (kin : K.In s1.heap) (glob : s1.heap.Ns mainGlobals mg) (blt : s1.heap.Ns builtinsNs mb) (boot : ∀ y : Str, y ≠ "__name__" → mb y = bootBuiltins y) (lim : s1.heap.NoLimit) (gens : s1.gens = #[])
    (obj : s1.heap.get? a = some { cls := .type "list", data := .seq us.toArray }) (are : IntsAre us ns) (few : ns.length ≤ sizeLine) (room : RoomG k callerA)
    (G : ∀ base : Heap, K.In base → base.Ns mainGlobals mg → FnG P w K mg base k fa fd [x] F) (bind : ∀ (s : Shared) (u : Value), BindsTo s fd ⟨[u], []⟩ [(x, u)])
    (law : ∃ qs, F [.d (.list (ns.map .int))] = .ok (.d (.bool true)) qs) :
    codeAny (model P w) callerA (.call (.ref fa) ⟨[.ref a], []⟩) (fun r s' => r = .ok (.ret (.bool true)) ∧ OldK s1.heap s'.heap ∧ s'.os = s1.os ∧ AllBare s'.gens) s1 := by
  have vals := vals_ints are
  have core : ∀ H : Hp, Only H → Fz K H (.ref a) (.list (ns.map .int)) → HOk P w H s1.heap → (∀ b, H b ≠ none → b = a) → (H a ≠ none → K.lookup a = none) →
      codeAny (model P w) callerA (.call (.ref fa) ⟨[.ref a], []⟩) (fun r s' => r = .ok (.ret (.bool true)) ∧ OldK s1.heap s'.heap ∧ s'.os = s1.os ∧ AllBare s'.gens) s1 := by
    intro H only fz hok one out
    have there : ∀ {b : Addr} {o : Obj}, s1.heap.get? b = some o → H b = none → (hidT s1.heap H).get? b = some o := fun e n => hidT_get e n
    have dictFree : ∀ {b : Addr} {o : Obj} {es : Array DictEntry} {ep : Nat}, s1.heap.get? b = some o → o.data = .dict es ep → H b = none := by
      intro b o es ep e d
      cases q : H b with
      | none => rfl
      | some u =>
        have eb : b = a := one b (by rw [q]; exact fun z => nomatch z)
        subst eb
        rw [obj] at e
        cases e
        exact absurd d (fun z => nomatch z)
    have ns_ : ∀ {b : Addr} {m : Str → Option Value}, s1.heap.Ns b m → (hidT s1.heap H).Ns b m := by
      rintro b m ⟨o, es, ep, e, d, r⟩
      exact ⟨o, es, ep, there e (dictFree e d), d, r⟩
    have kb : K.In (hidT s1.heap H) := by
      intro b o e
      refine there (kin b o e) ?_
      cases q : H b with
      | none => rfl
      | some u =>
        have eb : b = a := one b (by rw [q]; exact fun z => nomatch z)
        subst eb
        rw [out (by rw [q]; exact fun z => nomatch z)] at e
        cases e
    have md : Mod K mg (hidT s1.heap H) := by
      obtain ⟨mc, l1, l2⟩ := lim
      exact ⟨kb, ns_ glob, ⟨mb, ns_ blt, boot⟩, ⟨mc, ns_ l1, l2⟩⟩
    have env0 : Env0 P w K mg (hidT s1.heap H) callerA [] s1 H := by
      refine ⟨rfl, md, fun b o e => of_hidT e, Nat.le_of_eq (hidT_size _ _), trivial, fun b hb => ?_, hok, .of_eq gens⟩
      exact absurd (show b ∈ ([] : List Addr) from hb) List.not_mem_nil
    have er : EnvRel K H ([V.ref a].map some) ([B.d (.list (ns.map .int))].map some) := by
      refine ⟨rfl, fun i b h => ?_, fun i j xs ys c h1 _ _ _ => ?_⟩
      · cases i with
        | zero => cases h; exact ⟨_, rfl, fz⟩
        | succ i => cases h
      · cases i with
        | zero => cases h1
        | succ i => cases h1
    obtain ⟨qs, law⟩ := law
    have fin : FinF K mg H [.ref a] [.d (.list (ns.map .int))] (fun v _ => v = .bl true) (fun _ _ _ => False) (F [.d (.list (ns.map .int))]) := by
      rw [law]
      intro v H1 p d
      cases d
      rfl
    refine codeAny_mono ((G _ kb (ns_ glob)).run callerA [] s1 H ⟨[.ref a], []⟩ [.ref a] [.ref a] _ _ _ room env0 (bind s1 (.ref a)) (.cons rfl .nil) rfl er fin) fun r s' h => ?_
    cases r with
    | error e =>
      obtain ⟨_, _, _, _, _, _, _, _, _, _, _, _, z⟩ := h
      exact z.elim
    | ok fl =>
      cases fl with
      | next => exact h.elim
      | brk => exact h.elim
      | cont => exact h.elim
      | ret u =>
        obtain ⟨v, H', hos, hbare, hun, hok', rel, hv⟩ := h
        have hv : v = .bl true := hv
        subst hv
        obtain rfl : u = Value.bool true := rel
        refine ⟨rfl, OldK.of_keep fun b o e => ?_, hos, hbare⟩
        rcases only b with z | ⟨ob, xs, z⟩
        · exact hun.keep b o e z (fun q => absurd (show b ∈ ([] : List Addr) from q) List.not_mem_nil) List.not_mem_nil
        · obtain ⟨e1, _⟩ := hok b _ z
          obtain ⟨e2, _⟩ := hok' b _ (hun.frzs b ob _ z)
          rw [e] at e1
          cases e1
          exact e2
  cases hk : K.lookup a with
  | some o =>
    have e := kin a o hk
    rw [obj] at e
    cases e
    exact core (fun _ => none) (fun _ => .inl rfl) (.lst (.inr ⟨us, _, hk, vals, by rw [← vals.length, List.length_map]; exact few⟩) (fz_ints ns)) (fun b u z => nomatch z) (fun b z => absurd rfl z) fun z => absurd rfl z
  | none =>
    refine core (upd (fun _ => none) a (.frz { cls := .type "list", data := .seq us.toArray } (.lst (ns.map V.int)))) (fun b => ?_) (.lst (.of upd_same) (fz_ints ns)) (fun b u z => ?_) (fun b z => ?_) fun _ => hk
    · by_cases hb : b = a
      · subst hb; exact .inr ⟨_, _, upd_same⟩
      · exact .inl (upd_ne hb)
    · by_cases hb : b = a
      · subst hb
        rw [upd_same] at z
        cases z
        exact ⟨obj, by rw [List.length_map]; exact few, us, _, vals, obj⟩
      · rw [upd_ne hb] at z
        cases z
    · by_cases hb : b = a
      · exact hb
      · exact absurd (upd_ne hb) z
/-- the row's goal behind its head, from the law's own def -/
theorem walk_sv {l : PySem.W.OpenLaw} {n k : Nat} {q : Program} {loose : List Str} {XP : (Str → Option Value) → Heap → Prop} {YP : World → Heap → Prop} {d : DefRec} {x : Str} {F : Fn}
    (hn : l.most = some n) (hn2 : n ≤ sizeLine) (hdf : d.params.defaults = []) (room : RoomG k callerA)
    (G : ∀ (w : World) (mg : Str → Option Value) (fa : Addr) (h : Heap), YP w h → h.Ns mainGlobals mg → mg d.name = some (.ref fa) →
      ∃ (K : PySem.W.Frag) (fd : FuncData), K.In h ∧ (∀ (s : Shared) (u : Value), BindsTo s fd ⟨[u], []⟩ [(x, u)]) ∧ ∀ base : Heap, K.In base → base.Ns mainGlobals mg → FnG l.prog w K mg base k fa fd [x] F)
    (law : ∀ ns : List Int, ns.length ≤ n → (∀ i ∈ ns, Builtin.Int.intBits i ≤ 1048576) → ∃ qs, F [.d (.list (ns.map .int))] = .ok (.d (.bool true)) qs) :
    PySem.W.WalkO q loose XP YP l.row.toRowW d [] (fun f vs => PySem.call f vs) := by
  refine Att.attach_callB hn hdf fun w s0 s1 mg mb fa o pm cd doc a us ns Gr Y ho hd hcd hmg hobj hints hlen hbits hg => ?_
  obtain ⟨K, fd, kin, hb, hF⟩ := G w mg fa _ Y Gr.T.g hmg
  exact law_sv kin Gr.T.g Gr.T.b Gr.T.builtins Gr.T.nolimit hg hobj hints (Nat.le_trans hlen hn2) room hF hb (law ns hlen hbits)
end Sv
end
section
set_option autoImplicit false
set_option linter.all false
/-! Sv: try .. except. -/
namespace Sv
open PySem PySem.Spec L2
open PyProof.Rows hiding St

/-- an expression in an except suite: a the error, slot i its name -/
def tX (K : PySem.W.Frag) (mg : Str → Option Value) (i : Nat) (a : Addr) (cls : Value) (d : Option Addr) (h : Ex → Cd) : TE := fun σ H Q =>
  ∃ x ρ, ExRel K mg H x cls d ∧ EnvRel K H σ ρ ∧ σ[i]? = some (some (.ref a)) ∧ Fin K mg WF σ H ρ (fun H1 ρ1 v hd => DenR K H σ ρ H1 σ ρ1 v hd) (h x ρ) Q
section
variable {X : Cx} {W : WX} {io : List Nat}
theorem x_const {e : Expr} {c : Cd} {i : Nat} {a : Addr} {cls : Value} {d : Option Addr} (h : JE X WF e c) : PE X e (tX X.K X.mg i a cls d fun _ => c) := pe_weak h fun σ H Q ⟨x, ρ, _, er, _, f⟩ => ⟨ρ, er, f⟩
/-- the slot of the error is forgotten -/
theorem EnvRel.err {K : PySem.W.Frag} {H : Hp} {σ : St} {ρ : Env} {i : Nat} {v : Option V} (er : EnvRel K H σ ρ) : EnvRel K H (σ.set i v) (ρ.set i none) := by
  have sub : ∀ {j : Nat} {b : B}, (ρ.set i none)[j]? = some (some b) → ρ[j]? = some (some b) ∧ i ≠ j := fun {j b} h => by
    by_cases hj : i = j
    · subst hj
      by_cases hl : i < ρ.length
      · rw [List.getElem?_set_self hl] at h; cases h
      · rw [List.set_eq_of_length_le (by omega)] at h
        exact absurd (List.getElem?_eq_some_iff.mp h).1 hl
    · rw [List.getElem?_set_ne hj] at h
      exact ⟨h, hj⟩
  refine ⟨by rw [List.length_set, List.length_set]; exact er.len, fun j b h => ?_, fun j k xs ys a h1 h2 h3 h4 => ?_⟩
  · obtain ⟨v, e, d⟩ := er.den j b (sub h).1
    exact ⟨v, by rw [List.getElem?_set_ne (sub h).2]; exact e, d⟩
  · rw [List.getElem?_set_ne (sub h1).2] at h3
    rw [List.getElem?_set_ne (sub h2).2] at h4
    exact er.inj j k xs ys a (sub h1).1 (sub h2).1 h3 h4
theorem Pst.err {K : PySem.W.Frag} {H H1 : Hp} {σ σ1 : St} {ρ ρ1 : Env} {i : Nat} {v : Option V} (p : Pst K H σ ρ H1 σ1 ρ1) : Pst K H σ ρ H1 (σ1.set i v) (ρ1.set i none) := by
  refine ⟨p.env.err, p.keep, fun a w => ?_, p.there⟩
  rcases own_set p.env w with w | ⟨_, xs, e⟩
  · exact p.own a w
  · cases e
theorem s_tryR {x n : Str} {c : Value} {i : Nat} {body : List Stmt} {e : Expr} {np pr pos pos' : Pos} {b : Sd} {m : Ex → Option Bool} {h : Ex → Cd} (hs : X.stack = X.env :: X.outer) (hf : X.env.frame = some X.env.locals) (hN : X.N.Nodup) (hi : X.N[i]? = some n) (hln : X.env.kindOf n = some .local)
    (hc : Names X x c) (tk : Takes X W) (hb : ∀ (W' : WX) (pn : List (Addr × Obj)) (xe : Value → Shared → Prop), Takes (X.tr pn xe) W' → PassesOwn (model X.prog X.w) X.A X.env xe → JB (X.tr pn xe) W' io body b)
    (hm : ∀ (y : Ex) (cls : Value) (k : Bool), X.mg y.c = some cls → m y = some k → PySem.W.exmOne X.K cls c = some k)
    (hsu : ∀ (a : Addr) (oe : Obj) (cls : Value) (d : Option Addr) (pn : List (Addr × Obj)), Zc cls d oe → (∃ vs, oe.data = .fields vs) → PE (X.suite a ((a, oe) :: pn)) e (tX X.K X.mg i a cls d h)) (hio : i ∉ io) :
    JS X W io (.Try body [.ExceptHandler (some (.Name x np)) (some n) [.Return (some e) pr] pos'] [] [] pos) (sTryR i b m h) := by
  refine ⟨fun pins s σ H D I ⟨ρ, er, f⟩ => ?_⟩
  refine (ps_try_as (tb := fun W' => tS X.K X.mg W' io b) (ts := fun a cls d => tRet (tX X.K X.mg i a cls d h)) hs hf hN hi hln hc tk hb (fun a oe cls d pn hz hd => pss_one (ps_ret (hsu a oe cls d pn hz hd)))).run pins s σ H D I ⟨ρ, er, ?_⟩
  have hil : i < σ.length := by rw [I.len]; exact (List.getElem?_eq_some_iff.mp hi).1
  unfold sTryR at f
  cases eb : b ρ with
  | nx ρ1 => rw [eb] at f; exact f
  | bk ρ1 => rw [eb] at f; exact f
  | ct ρ1 => rw [eb] at f; exact f
  | rt r ρ1 => rw [eb] at f; exact f
  | no => rw [eb] at f; exact f
  | ex y ρ1 =>
    rw [eb] at f
    simp only at f
    intro cls dd σ1 H1 p fx er1
    cases em : m y with
    | none => rw [em] at f; exact f.elim
    | some k =>
      rw [em] at f
      refine ⟨k, hm y cls k er1.1 em, fun hk a ha => ?_, fun hk => ?_⟩
      · subst hk
        simp only at f
        have pe : Pst X.K H σ ρ H1 (σ1.set i (some (.ref a))) (ρ1.set i none) := p.err
        refine ⟨y, ρ1.set i none, er1, pe.env, List.getElem?_set_self (by rw [fx.len]; exact hil), ?_⟩
        cases eh : h y (ρ1.set i none) with
        | ex _ _ => rw [eh] at f; exact f.elim
        | no => rw [eh] at f; exact f.elim
        | ok hd ρ2 =>
          rw [eh] at f
          cases hd with
          | s _ => exact f.elim
          | v r => exact fun v H2 q dn => f v _ H2 (pe.trans q) (fx.trans (Fx.set hio)) (DenR.start pe dn)
      · subst hk
        exact f cls dd σ1 H1 p fx er1
theorem s_tryN {x : Str} {c : Value} {body : List Stmt} {e : Expr} {np pr pos pos' : Pos} {b : Sd} {m : Ex → Option Bool} {h : Cd} (hs : X.stack = X.env :: X.outer) (hf : X.env.frame = some X.env.locals)
    (hc : Names X x c) (tk : Takes X W) (hb : ∀ (W' : WX) (pn : List (Addr × Obj)) (xe : Value → Shared → Prop), Takes (X.tr pn xe) W' → PassesOwn (model X.prog X.w) X.A X.env xe → JB (X.tr pn xe) W' io body b)
    (hm : ∀ (y : Ex) (cls : Value) (k : Bool), X.mg y.c = some cls → m y = some k → PySem.W.exmOne X.K cls c = some k)
    (hsu : ∀ (a : Addr) (oe : Obj) (cls : Value) (d : Option Addr) (pn : List (Addr × Obj)), Zc cls d oe → (∃ vs, oe.data = .fields vs) → JE (X.suite a ((a, oe) :: pn)) WF e h) :
    JS X W io (.Try body [.ExceptHandler (some (.Name x np)) none [.Return (some e) pr] pos'] [] [] pos) (sTryN b m h) := by
  refine ⟨fun pins s σ H D I ⟨ρ, er, f⟩ => ?_⟩
  refine (ps_try_only (tb := fun W' => tS X.K X.mg W' io b) (ts := fun a cls d => tRet (tC X.K X.mg WF h)) hs hf hc tk hb (fun a oe cls d pn hz hd => pss_one (ps_ret (hsu a oe cls d pn hz hd)))).run pins s σ H D I ⟨ρ, er, ?_⟩
  unfold sTryN at f
  cases eb : b ρ with
  | nx ρ1 => rw [eb] at f; exact f
  | bk ρ1 => rw [eb] at f; exact f
  | ct ρ1 => rw [eb] at f; exact f
  | rt r ρ1 => rw [eb] at f; exact f
  | no => rw [eb] at f; exact f
  | ex y ρ1 =>
    rw [eb] at f
    simp only at f
    intro cls dd σ1 H1 p fx er1
    cases em : m y with
    | none => rw [em] at f; exact f.elim
    | some k =>
      rw [em] at f
      refine ⟨k, hm y cls k er1.1 em, fun hk a ha => ?_, fun hk => ?_⟩
      · subst hk
        simp only at f
        refine ⟨ρ1, p.env, ?_⟩
        cases eh : h ρ1 with
        | ex _ _ => rw [eh] at f; exact f.elim
        | no => rw [eh] at f; exact f.elim
        | ok hd ρ2 =>
          rw [eh] at f
          cases hd with
          | s _ => exact f.elim
          | v r => exact fun v H2 q dn => f v _ H2 (p.trans q) fx (DenR.start p dn)
      · subst hk
        exact f cls dd σ1 H1 p fx er1
end
end Sv
end
section
set_option autoImplicit false
set_option linter.all false
set_option maxRecDepth 100000
/-! Sv: enumerate of a tuple. -/
namespace Sv
open PySem PySem.Spec L2
open PyProof.Rows hiding St

set_option maxHeartbeats 1000000 in
theorem enum_new1 {v : Value} {o : Obj} {S : Heap → Prop} (bg : Begins v o S) :
    Meets (Builtin.«enumerate.__new__» ⟨[.type "enumerate", v], []⟩) (fun _ R s => S s.heap ∧
      R (.ok (.ret (.ref (s.heap.push o).objs.size))) { s with heap := (s.heap.push o).push { cls := .type "enumerate", data := .fields #[.none, .bool false, .ref s.heap.objs.size, rawInt 0, .none, .none] } }) :=
  .of_wp fun prog w A R s h => by
    obtain ⟨hp, g, d, tk, os⟩ := s
    obtain ⟨h1, h⟩ := h
    have hsub := sub_enumerate
    have step : ∀ {A' : Around} {E : Value → Shared → Prop} {Q : Value → Shared → Prop}, Q (.ref hp.objs.size) ⟨hp.push o, g, d, tk, os⟩ → wpAny (model prog w) A' (pyIter v) Q E ⟨hp, g, d, tk, os⟩ := fun q => bg.iter prog w _ _ ⟨hp, g, d, tk, os⟩ _ h1 q
    wp_walk using step
    refine wpAny_stack_any fun st => wpAny_pure ?_
    split
    · rename_i c _ _ _ _ _
      cases (c == Value.type "enumerate")
      · wp_walk using step
        exact ⟨_, rfl, h⟩
      · wp_walk using step
        exact ⟨_, rfl, h⟩
    · wp_walk using step
      exact ⟨_, rfl, h⟩
section
variable {prog : Program} {w : World} {A : Around} {E : Value → Shared → Prop} {s : Shared}
theorem enum_call1 {v : Value} {o : Obj} {S : Heap → Prop} {Q : Value → Shared → Prop} (bg : Begins v o S) (h1 : S s.heap)
    (h : ∀ h', IsEnum h' (s.heap.objs.size + 1) s.heap.objs.size 0 .none → h'.get? s.heap.objs.size = some o → h'.objs.size = s.heap.objs.size + 2 → (∀ b ob, s.heap.get? b = some ob → h'.get? b = some ob) → Q (.ref (s.heap.objs.size + 1)) { s with heap := h' }) :
    wpAny (model prog w) A (call (.type "enumerate") [v]) Q E s := by
  refine callType_new PySem.F.called_enumerate (by decide) (PySem.F.typeCall_enumerate_1 _) (PySem.F.newCall_enumerate_1 _) (fun ob => PySem.F.args_object_init_2 ob _) PySem.F.entry_enumerate_new (enum_new1 bg) ⟨h1, ?_⟩
  have hz : (s.heap.push o).objs.size = s.heap.objs.size + 1 := Heap.size_push ..
  show _ ∧ _
  rw [hz]
  have he : IsEnum ((s.heap.push o).push { cls := .type "enumerate", data := .fields #[.none, .bool false, .ref s.heap.objs.size, rawInt 0, .none, .none] }) (s.heap.objs.size + 1) s.heap.objs.size 0 .none := by
    have q := Heap.get?_push_size (s.heap.push o) (o := { cls := .type "enumerate", data := .fields #[.none, .bool false, .ref s.heap.objs.size, rawInt 0, .none, .none] }) rfl
    rw [hz] at q
    exact q
  exact ⟨⟨_, he, rfl⟩, h _ he (Heap.get?_push_of_some _ (Heap.get?_push_size _ bg.free)) (by rw [Heap.size_push, hz]) fun b ob x => Heap.get?_push_of_some _ (Heap.get?_push_of_some _ x)⟩
end
/-- the tuple at a, each item in a new pair behind its place -/
def ItE (K : PySem.W.Frag) (a : Addr) : It :=
  ⟨fun i H => ∃ (xs : List V) (x : V), SqT K H a xs ∧ xs[i]? = some x, fun i H v H' => ∃ T x, v = .ref T ∧ H T = none ∧ H' = upd H T (.tup [.int (i : Nat), x]) ∧ ∀ xs, SqT K H a xs → xs[i]? = some x, fun i H => ∃ xs : List V, SqT K H a xs ∧ xs.length = i⟩
theorem turn_enumT {P : Program} {w : World} {K : PySem.W.Frag} {elts : List Expr} {kk : Nat} {tpos : Pos} (a e it : Addr) (hne : e ≠ it) (hai : a ≠ it) (hae : e ≠ a) :
    Turn P w K (.Tuple elts kk tpos) (ItE K a) [e, it] e (fun i h => (∃ old, IsEnum h e it ((i : Nat) : Int) old) ∧ h.IsTupleIter it a i) where
  mem := by simp
  obj := fun i h st b hb => by
    obtain ⟨⟨old, he⟩, o, ho, hc, hd⟩ := st
    rcases (by simpa using hb : b = e ∨ b = it) with z | z
    · rw [z]; exact ⟨_, he, fun v q => nomatch q⟩
    · rw [z]; exact ⟨o, ho, fun v q => by rw [hd] at q; cases q⟩
  keep := fun i h h' st k => ⟨let ⟨old, he⟩ := st.1; ⟨old, k e (by simp) _ he⟩, st.2.at fun o q => k it (by simp) o q⟩
  item := by
    intro X hP hw hK hc i pins s σ H E I hf st hg
    subst hP hw hK
    obtain ⟨⟨old, he⟩, hit⟩ := st
    obtain ⟨xs, x, hq, hx⟩ := hg
    obtain ⟨its, rv, tup, hz⟩ := I.tuple hq
    obtain ⟨u0, hu0, ru0⟩ := rv.get hx
    have hT : s.heap.IsTuple a its.toArray := tup
    have Dr : Draws X.prog X.w X.A.in1 it [it, a] its.toArray.size (fun i v => its.toArray[i]? = some v) (fun i h => h.IsTupleIter it a i ∧ h.IsTuple a its.toArray) := Draws.tuple (show X.A.in1.handled = none from I.ok.hd hc) it a hai its.toArray
    have hi : i < its.toArray.size := by
      have := (List.getElem?_eq_some_iff.mp hu0).1
      simpa using this
    have hel : e < s.heap.objs.size := Heap.lt_size he
    have hil : it < s.heap.objs.size := by obtain ⟨_, q, _⟩ := hit; exact Heap.lt_size q
    refine wpAny_pyNext_enum_itemC Dr he ⟨hit, hT⟩ hi hne (by simp [hne, hae]) fun u h' tk hu ho hst' hTn hsz hk => ?_
    have ue : u = u0 := by
      have q : its[i]? = some u := by simpa using hu
      exact Option.some.inj (q.symm.trans hu0)
    subst ue
    refine ⟨_, rfl, wpAny_letOwnedTupleGo_enum (s := { s with heap := h', toks := tk + 1 }) ho fun h'' he' sb => ?_⟩
    have hT2 : h''.get? s.heap.objs.size = some { cls := .type "tuple", data := .seq #[.int i tk, u] } := (sb.2 _ (Nat.ne_of_gt hel)).trans hTn
    have new : ObjOk X.prog X.w (upd H s.heap.objs.size (.tup [.int (i : Nat), x])) h'' s.heap.objs.size (.tup [.int (i : Nat), x]) :=
      ⟨by show 2 ≤ sizeLine; decide, [.int i tk, u], .cons ⟨_, rfl⟩ (.cons ru0 .nil), ⟨_, hT2, rfl, _, rfl⟩⟩
    have I1 : Inv X pins σ (upd H s.heap.objs.size (.tup [.int (i : Nat), x])) { s with heap := h'', toks := tk + 1 } :=
      I.turnedNew (ch := [e, it]) (fun b ob hb q => (sb.2 b (fun z => hb (by simp [z]))).trans (hk b ob (fun z => hb (by simp [z])) (fun z => hb (by simp [z])) q)) hf (Nat.le_refl _) new
    refine ⟨.ref s.heap.objs.size, _, I1, rfl, ⟨_, x, rfl, I.hok.fresh (Nat.le_refl _), rfl, fun ys hy => by rw [I.tuple_inj hy hq]; exact hx⟩, ⟨⟨u, ?_⟩, hst'.1.at fun o q => (sb.2 it (Ne.symm hne)).trans q⟩, fun b hb => ?_⟩
    · have e1 : ((i + 1 : Nat) : Int) = (i : Int) + 1 := by omega
      rw [e1]
      exact he'
    · have hb' : b < s.heap.objs.size := by
        rcases (by simpa using hb : b = e ∨ b = it) with z | z
        · rw [z]; exact hel
        · rw [z]; exact hil
      rw [upd_ne (Nat.ne_of_lt hb')]
      exact (hf b hb).1
  done := by
    intro X hP hw hK hc i pins s σ H E I hf st hg
    subst hP hw hK
    obtain ⟨⟨old, he⟩, hit⟩ := st
    obtain ⟨xs, hq, hx⟩ := hg
    obtain ⟨its, rv, tup, hz⟩ := I.tuple hq
    obtain ⟨f0, f1, f2, f3, f4, f5⟩ := hf it (by simp)
    have Dr : Draws X.prog X.w X.A.in1 it [it, a] its.toArray.size (fun i v => its.toArray[i]? = some v) (fun i h => h.IsTupleIter it a i ∧ h.IsTuple a its.toArray) := Draws.tuple (show X.A.in1.handled = none from I.ok.hd hc) it a hai its.toArray
    have hn : its.toArray.size = i := by rw [List.size_toArray, ← rv.length]; exact hx
    exact wpAny_pyNext_enum_endD Dr he (by rw [hn]; exact ⟨hit, tup⟩) fun h' eb => ⟨rfl, I.turned (t' := s.toks) (fun b o hb q => eb b o hb q) f0 f1 f3 f4 f5⟩
  self := fun A i s Q E st h => let ⟨_, he⟩ := st.1; wpAny_pyIter_enum he h
section
variable {X : Cx} {W : WX}
def iEnT (K : PySem.W.Frag) (ta : TA) : TI := fun σ H R => ta σ H fun vs H1 => ∃ a xs, vs = [.ref a] ∧ SqT K H1 a xs ∧ R (ItE K a) H1
theorem pi_enT {e : Expr} {ta : TA} {p pos tpos : Pos} {elts : List Expr} {kk : Nat} (hg : Gl X "enumerate") (hm : X.mg "enumerate" = none) (ha : PA X [e] ta) (hs : starEach [e] X.env = [(false, eval e X.env)]) :
    PI X (.Tuple elts kk tpos) (.Call (.Name "enumerate" p) [e] [] pos) (iEnT X.K ta) := by
  refine ⟨fun pins s σ H R I h => ?_⟩
  refine Call_ (ld_blt I hg hm boot_enumerate (PyProof.Rows.callWith_type1 (thn (ha.run pos pins s σ H _ I h) fun us s1 ⟨vs, H1, I1, r1, a, xs, ex, hq, q⟩ => ?_) hs rfl))
  subst ex
  cases r1 with
  | cons r rr =>
    cases rr
    cases r
    obtain ⟨its, rv, tup, hz⟩ := I1.tuple hq
    have hal : a < s1.heap.objs.size := tup.lt
    refine enum_call1 (begins_tuple a its.toArray) tup fun h' he hit hsz hk => wpAny_pyIter_enum he ?_
    have I2 : Inv X pins σ H1 { s1 with heap := h' } := I1.kept (t' := s1.toks) hk
    refine ⟨s1.heap.objs.size + 1, [s1.heap.objs.size + 1, s1.heap.objs.size], _, _, H1, rfl, I2, turn_enumT a _ _ (Nat.succ_ne_self _) (Nat.ne_of_lt hal) (Ne.symm (Nat.ne_of_lt (Nat.lt_succ_of_lt hal))), ⟨⟨_, he⟩, ⟨_, hit, rfl, rfl⟩⟩, fun b hb => ?_, q⟩
    rcases (by simpa using hb : b = s1.heap.objs.size + 1 ∨ b = s1.heap.objs.size) with z | z
    · rw [z]; exact I1.fpOk (Nat.le_succ _) (I1.hok.fresh (Nat.le_succ _))
    · rw [z]; exact I1.fpOk (Nat.le_refl _) (I1.hok.fresh (Nat.le_refl _))
theorem pairs_get (xs : List PyData) (i : Nat) : (enumD xs)[i]? = (xs[i]?).map fun x => .tuple [.int i, x] := by
  unfold enumD
  rw [List.getElem?_mapIdx]
theorem enumD_len (xs : List PyData) : (enumD xs).length = xs.length := by unfold enumD; rw [List.length_mapIdx]
theorem pair_fz {K : PySem.W.Frag} {H H2 : Hp} {T : Addr} {i : Nat} {v : V} {d : PyData} (hT : H T = none) (e : H2 = upd H T (.tup [.int (i : Nat), v])) (fz : Fz K H v d) : Fz K H2 (.ref T) (.tuple [.int i, d]) ∧ ∀ b o, H b = some o → H2 b = some o := by
  subst e
  exact ⟨.tup (.inl (.inl upd_same)) (.cons (.int _) (.cons (fz.keep fun b o h _ => grow_upd hT b o h) .nil)), grow_upd hT⟩
theorem walk_enT {K : PySem.W.Frag} {H : Hp} {a : Addr} {vs : List V} {xs : List PyData} (h : SqT K H a vs) (hx : FzAll K H vs xs) : WalkJ K H (ItE K a) (enumD xs) := fun i H1 k => by
  have hq : SqT K H1 a vs := SqT.keep k h
  have hx1 := hx.keep k
  have hl := enumD_len xs
  refine ⟨fun hi => ⟨vs, hq, by rw [hx.length, hi, hl]⟩, fun hi => ?_, fun x H' hy d hd => ?_⟩
  · obtain ⟨v, hv, _⟩ := hx1.get (List.getElem?_eq_getElem (by rw [← hl]; exact hi : i < xs.length))
    exact ⟨vs, v, hq, hv⟩
  · obtain ⟨T, y, rfl, hT, e, hy⟩ := hy
    rw [pairs_get] at hd
    cases e1 : xs[i]? with
    | none => rw [e1] at hd; cases hd
    | some z =>
      rw [e1] at hd
      cases hd
      obtain ⟨v, hv, fz⟩ := hx1.get e1
      have ev : v = y := Option.some.inj (hv.symm.trans (hy vs hq))
      subst ev
      exact pair_fz hT e fz
theorem walk_enL {K : PySem.W.Frag} {H : Hp} {a : Addr} {vs : List V} {xs : List PyData} (h : FL K H a vs) (hx : FzAll K H vs xs) : WalkJ K H (Ite K a) (enumD xs) := fun i H1 k => by
  have hq : SqL K H1 a vs := FL.sq (h.imp (fun ⟨o, h⟩ => ⟨o, k _ _ h rfl⟩) id)
  have hx1 := hx.keep k
  have hl := enumD_len xs
  refine ⟨fun hi => ⟨vs, hq, by rw [hx.length, hi, hl]; exact Nat.le_refl _⟩, fun hi => ?_, fun x H' hy d hd => ?_⟩
  · obtain ⟨v, hv, _⟩ := hx1.get (List.getElem?_eq_getElem (by rw [← hl]; exact hi : i < xs.length))
    exact ⟨vs, v, hq, hv⟩
  · obtain ⟨T, y, rfl, hT, e, hy⟩ := hy
    rw [pairs_get] at hd
    cases e1 : xs[i]? with
    | none => rw [e1] at hd; cases hd
    | some z =>
      rw [e1] at hd
      cases hd
      obtain ⟨v, hv, fz⟩ := hx1.get e1
      have ev : v = y := Option.some.inj (hv.symm.trans (hy vs hq))
      subst ev
      exact pair_fz hT e fz
theorem i_enum {e : Expr} {c : Cd} {p pos tpos : Pos} {elts : List Expr} {kk : Nat} (hg : Gl X "enumerate") (hm : X.mg "enumerate" = none) (he : JE X W e c) (hs : starEach [e] X.env = [(false, eval e X.env)] := by rfl) :
    JI X W (.Tuple elts kk tpos) (.Call (.Name "enumerate" p) [e] [] pos) (wEnum c) :=
  pi_weak (pi_or (pi_enum hg hm (pa_cons (e_hold he) pa_nil hs) hs) (pi_enT hg hm (pa_cons (e_hold he) pa_nil hs) hs)) fun σ H R ⟨ρ, er, f⟩ => by
    unfold wEnum at f
    cases e1 : cE c ρ with
    | no => rw [e1] at f; exact f.elim
    | ex x ρ1 => rw [e1] at f; exact .inl ⟨ρ, er, by rw [e1]; exact f⟩
    | ok hd ρ1 =>
      rw [e1, Sv.R.bind_ok] at f
      cases hd with
      | s i => exact f.elim
      | v b =>
        cases b with
        | l xs => exact f.elim
        | d x =>
          cases x with
          | list xs =>
            refine .inl ⟨ρ, er, ?_⟩
            rw [e1]
            intro v H1 p dn
            cases dn with
            | lst ha hx => exact ⟨_, _, rfl, ha.sq, f _ H1 p (walk_enL ha hx)⟩
          | tuple xs =>
            refine .inr ⟨ρ, er, ?_⟩
            rw [e1]
            intro v H1 p dn
            cases dn with
            | tup ha hx => exact ⟨_, _, rfl, ha, f _ H1 p (walk_enT ha hx)⟩
          | _ => exact f.elim
end
end Sv
end
section
set_option autoImplicit false
set_option linter.all false
set_option maxRecDepth 100000
/-! Sv: slices from the end, join, unpacked lists, chains, signs. -/
namespace Sv
open PySem PySem.Spec L2
open PyProof.Rows hiding St

section
variable {prog : Program} {w : World} {A : Around} {E : Value → Shared → Prop} {s : Shared}
theorem tup_back {t sl : Addr} {items : Array Value} {vl vu vs : Value} {hi : Option Int} {zs : List Value} {a b : Int} {k : Nat} {Q : Value → Shared → Prop} (ht : IsTup s.heap t items) (hs : s.heap.IsSliceOf sl vl vu vs) (pl : IsPart vl none) (pu : IsPart vu hi) (ps : IsPart vs (some (-1)))
    (ha : Builtin.Slice.sliceAdjust none hi (-1) (items.size : Int) = (a, b)) (hp : Builtin.Slice.slicePlaces a b (-1) = k) (hz : ((List.range k).filterMap fun (m : Nat) => items[(a + (m : Int) * (-1)).toNat]?) = zs) (hl : zs.length ≤ sizeLine)
    (h : Q (.ref s.heap.objs.size) { s with heap := s.heap.push { cls := .type "tuple", data := .seq zs.toArray } }) : wpAny (model prog w) A (getItem (.ref t) (.ref sl)) Q E s := by
  have htake : sizeOk (.seq zs.toArray) := by
    show zs.toArray.size ≤ sizeLine
    rw [List.size_toArray]
    exact hl
  obtain ⟨os, hos, hcs, hds⟩ := id hs
  have hTs : s.TypeIs (.ref sl) "slice" := ⟨os, hos, hcs⟩
  unfold getItem
  try with_reducible refine wpAny_holding ?_
  first | refine wpAny_bind (wpAny_pure ?_) | skip
  refine wpAny_bind (wpAny_sequenceKey ht.typeIs (by decide) ?_)
  refine wpAny_bind (wpAny_callSpecial?_slot (name := Str.ofString "__getitem__") ht.typeIs PyProof.Rows.slot_tuple_getitem
    (wpAny_call_entry PyProof.Rows.slot_tuple_getitem ht.typeIs entry_tuple_getitem ?_ (args_tuple_getitem _ _)))
  show wpAny _ _ (Builtin.Tuple.tupleItemsOf (.ref t) >>= _) _ _ s
  refine wpAny_bind (tupleItemsOf_ ht ?_)
  refine wpAny_bind (wpAny_typeOf hTs ?_)
  rw [if_pos (by decide)]
  refine wpAny_bind ?_
  unfold Builtin.Slice.sliceApplied Builtin.Slice.sliceFields
  refine wpAny_bind (wpAny_bind (wpAny_field hos hds (x := vl) rfl (wpAny_bind (wpAny_field hos hds (x := vu) rfl (wpAny_bind (wpAny_field hos hds (x := vs) rfl (wpAny_pure ?_)))))))
  refine wpAny_bind (HT.slicePart_ ps ?_)
  show wpAny _ _ (if ((-1 : Int) == 0) = true then _ else _) _ _ s
  rw [if_neg (by decide)]
  refine wpAny_bind (HT.slicePart_ pl (wpAny_bind (HT.slicePart_ pu (wpAny_bind (wpAny_pure ?_)))))
  show wpAny _ _ (match Builtin.Slice.sliceAdjust none hi (-1) (items.size : Int) with | (lo, hi) => pure (lo, (-1 : Int), Builtin.Slice.slicePlaces lo hi (-1))) _ _ s
  rw [ha]
  show wpAny _ _ (pure (a, (-1 : Int), Builtin.Slice.slicePlaces a b (-1))) _ _ s
  rw [hp]
  refine wpAny_pure ?_
  have hno : ¬ ((a == 0 && (-1 : Int) == 1 && k == items.size) = true) := by
    intro q
    rw [Bool.and_eq_true, Bool.and_eq_true] at q
    exact absurd q.1.2 (by decide)
  show wpAny _ _ (if (a == 0 && (-1 : Int) == 1 && k == items.size) = true then _ else _) _ _ s
  rw [if_neg hno, hz]
  first
    | exact wpAny_bind (m := Builtin.Tuple.tupleExact _) (wpAny_newObj_type (wpAny_pure ⟨_, rfl, wpAny_pure h⟩) htake)
    | exact wpAny_bind (m := Builtin.Tuple.tupleExact _) (wpAny_newObj_type (wpAny_bind (wpAny_pure (wpAny_pure ⟨_, rfl, wpAny_pure h⟩))) htake)
    | exact wpAny_bind (wpAny_bind (m := Builtin.Tuple.tupleExact _) (wpAny_newObj_type (wpAny_pure (wpAny_pure ⟨_, rfl, wpAny_pure h⟩)) htake))
    | exact wpAny_bind (wpAny_bind (m := Builtin.Tuple.tupleExact _) (wpAny_newObj_type (wpAny_pure ⟨_, rfl, wpAny_pure h⟩) htake))
theorem back_pick (xs : Array Value) (k : Nat) (hk : k ≤ xs.size) : ((List.range k).filterMap fun (m : Nat) => xs[(((xs.size : Int) - 1) + (m : Int) * (-1)).toNat]?) = (xs.toList.drop (xs.size - k)).reverse := by
  apply List.ext_getElem?
  intro i
  have e : ∀ l : List Nat, (∀ m ∈ l, m < xs.size) → (l.filterMap fun (m : Nat) => xs[(((xs.size : Int) - 1) + (m : Int) * (-1)).toNat]?) = l.map fun m => xs[xs.size - 1 - m]! := by
    intro l
    induction l with
    | nil => intro _; rfl
    | cons m r ih =>
      intro hm
      have h1 := hm m List.mem_cons_self
      have e2 : (((xs.size : Int) - 1) + (m : Int) * (-1)).toNat = xs.size - 1 - m := by omega
      rw [List.filterMap_cons, e2, List.map_cons, ih fun m hq => hm m (List.mem_cons_of_mem _ hq)]
      have h3 : xs.size - 1 - m < xs.size := by omega
      rw [Array.getElem?_eq_getElem h3, getElem!_pos xs _ h3]
  rw [e _ fun m hm => by have := List.mem_range.mp hm; omega]
  by_cases hi : i < k
  · rw [List.getElem?_map, List.getElem?_range hi, List.getElem?_reverse (by rw [List.length_drop, Array.length_toList]; omega), List.getElem?_drop, List.length_drop, Array.length_toList]
    have h3 : xs.size - 1 - i < xs.size := by omega
    have e3 : xs.size - k + (xs.size - (xs.size - k) - 1 - i) = xs.size - 1 - i := by omega
    rw [e3, Option.map_some, getElem!_pos xs _ h3, Array.getElem?_toList, Array.getElem?_eq_getElem h3]
  · rw [List.getElem?_eq_none (by rw [List.length_map, List.length_range]; omega), List.getElem?_eq_none (by rw [List.length_reverse, List.length_drop, Array.length_toList]; omega)]
end
/-! ### xs[::-1], xs[:0:-1] -/
def revP : PyData → Option B
  | .list xs => some (.l xs.reverse)
  | .tuple xs => some (.d (.tuple xs.reverse))
  | _ => none
def rev0P : PyData → Option B
  | .tuple xs => some (.d (.tuple xs.tail.reverse))
  | _ => none
section
variable {X : Cx} {W : WX}
def tPt (K : PySem.W.Frag) (r : V → Hp → VK → Prop) (te : TE) : TE := fun σ H Q => te σ H fun x H1 => r x H1 Q
theorem pe_back {e : Expr} {te : TE} {k : Nat} {p1 p2 p3 pos : Pos} {hi : Option Expr} {th : TO} {o : Option Int} {r : V → Hp → VK → Prop} (he : PE X e te) (hh : PO X hi th) (hth : ∀ σ H Q, Q o H → th σ H Q)
    (hr : ∀ (pins : List (Addr × Obj)) (s : Shared) (σ : St) (H : Hp) (x : V) (v vl vu vs : Value) (sl : Addr) (Q : VK), Inv X pins σ H s → RelV x v → s.heap.IsSliceOf sl vl vu vs → IsPart vl none → IsPart vu o → IsPart vs (some (-1)) → r x H Q →
      (∃ (T g : String), typeLookup (.type T) "__getitem__" = pure (some (.builtin g)) ∧ s.TypeIs v T) ∧ wpAny (model X.prog X.w) X.A (getItem v (.ref sl)) (EP X pins σ Q) X.xe s) :
    PE X (.Subscript e (.Slice none hi (some (.UnaryOp .USub (.Constant (.int 1) k p1) p2)) p3) pos) (tPt X.K r te) := by
  refine ⟨fun pins s σ H Q I h => ?_⟩
  refine Subscript_ (thn (he.run pins s σ H _ I h) fun v s1 ⟨x, H1, I1, r1, q1⟩ => ?_)
  have hst : PO X (some (.UnaryOp .USub (.Constant (.int 1) k p1) p2)) (tPart (tUn (rU fun i => .int (-i)) (L2.tC (.int 1)))) := po_some (pe_un un_neg pe_int)
  refine wpAny_Slice (thn (po_none.run pins s1 σ H1 (fun o H2 => o = none ∧ H2 = H1) I1 ⟨rfl, rfl⟩) fun vl s2 ⟨l, H2, I2, pl, el, e2⟩ => ?_)
  subst el e2
  refine thn (hh.run pins s2 σ H2 (fun o' H3 => o' = o ∧ H3 = H2) I2 (hth _ _ _ ⟨rfl, rfl⟩)) fun vu s3 ⟨u, H3, I3, pu, eu, e3⟩ => ?_
  subst eu e3
  refine thn (hst.run pins s3 σ H3 (fun o H4 => o = some (-1) ∧ H4 = H3) I3 ⟨1, rfl, -1, rfl, rfl, rfl⟩) fun vs s4 ⟨o, H4, I4, ps, eo, e4⟩ => ?_
  subst eo e4
  have I5 : Inv X pins σ H4 { s4 with heap := s4.heap.push { cls := .type "slice", data := .fields #[vl, vu, vs] } } := I4.kept (t' := s4.toks) fun b ob q => Heap.get?_push_of_some _ q
  obtain ⟨⟨T, g, hg, ht⟩, hw⟩ := hr pins _ σ H4 x v vl vu vs s4.heap.objs.size Q I5 r1 (Heap.IsSliceOf.new _ vl vu vs) pl pu ps q1
  show wpAny (model X.prog X.w) X.A (subscriptTail e (.Slice none hi (some (.UnaryOp .USub (.Constant (.int 1) k p1) p2)) p3) v (.ref s4.heap.objs.size)) (EP X pins σ Q) X.xe { s4 with heap := s4.heap.push { cls := .type "slice", data := .fields #[vl, vu, vs] } }
  exact tail_any (ops := [v, .ref s4.heap.objs.size]) ht hg hw (by with_unfolding_all rfl)
theorem adj_n (n : Nat) : Builtin.Slice.sliceAdjust none none (-1) (n : Int) = ((n : Int) - 1, -1) := by
  unfold Builtin.Slice.sliceAdjust
  simp
theorem adj_0 (n : Nat) : Builtin.Slice.sliceAdjust none (some 0) (-1) (n : Int) = ((n : Int) - 1, if n = 0 then -1 else 0) := by
  unfold Builtin.Slice.sliceAdjust
  simp
  first | (done) | (split <;> omega) | omega
theorem pl_n (n : Nat) : Builtin.Slice.slicePlaces ((n : Int) - 1) (-1) (-1) = n := by
  unfold Builtin.Slice.slicePlaces
  simp
  omega
theorem pl_0 (n : Nat) : Builtin.Slice.slicePlaces ((n : Int) - 1) (if n = 0 then -1 else 0) (-1) = n - 1 := by
  unfold Builtin.Slice.slicePlaces
  by_cases h : n = 0
  · subst h; simp
  · simp [h]
    omega
theorem pt_fin {f : PyData → Option B} {a : Cd} (pa : Pl a) {σ : St} {H : Hp} {Q : VK} (h : tC X.K X.mg W (cUn f a) σ H Q) : tPt X.K (rB1 X.K f) (tC X.K X.mg W a) σ H Q := by
  obtain ⟨ρ, er, f0⟩ := h
  refine ⟨ρ, er, Fin.part f0 fun hd ρ1 c1 f1 v H1 p dn => ?_⟩
  cases e1 : hd.rd ρ1 with
  | none => rw [e1] at f1; exact f1.elim
  | some x =>
    rw [e1] at f1
    simp only at f1
    cases e2 : f x with
    | none => rw [e2] at f1; exact f1.elim
    | some r =>
      rw [e2] at f1
      exact ⟨x, r, dn.vw (pa _ _ _ c1) p.env (Pst.refl p.env) e1, e2, fun w H4 n => n.fin p f1⟩
theorem FzAll.tail {K : PySem.W.Frag} {H : Hp} {vs : List V} {ds : List PyData} (h : FzAll K H vs ds) : FzAll K H vs.tail ds.tail := by
  cases h with
  | nil => exact .nil
  | cons a t => exact t
theorem vals_tail {xs : List V} {us : List Value} (h : Vals xs us) : Vals xs.tail us.tail := by
  cases h with
  | nil => exact .nil
  | cons a t => exact t
theorem e_rev {e : Expr} {c : Cd} {k : Nat} {p1 p2 p3 pos : Pos} (he : JE X W e c) (pl : Pl c) : JE X W (.Subscript e (.Slice none none (some (.UnaryOp .USub (.Constant (.int 1) k p1) p2)) p3) pos) (cUn revP c) :=
  pe_weak (pe_back (o := none) (r := rB1 X.K revP) he po_none (fun _ _ _ q => q) fun pins s σ H x v vl vu vs sl Q I rx hs pl pu ps ⟨a, r, ha, e1, q⟩ => by
    cases ha with
    | @lst p xs ds h1 t1 =>
      cases e1
      cases rx
      obtain ⟨its, rv, ht, hz⟩ := I.list h1.sq
      have hlen := rv.length
      refine ⟨⟨"list", _, PySem.slot_list_getitem.lookup, ht.isList.typeIs⟩, ?_⟩
      refine wpAny_getItem_list_slice ht.isList hs pl pu ps (by decide) ?_ (by rw [List.size_toArray]; omega)
      rw [PySem.W.krv_pick]
      refine ⟨.ref _, _, I.laid (t' := s.toks) (o := .lst xs.reverse) (fun b ob q => Heap.get?_push_of_some _ q) (Nat.le_refl _) ?_, rfl, q _ _ (new_lst (I.hok.fresh (Nat.le_refl _)) t1.rev)⟩
      exact ⟨by rw [List.length_reverse]; exact hz, _, 0, rv.reverse, Heap.get?_push_size _ rfl⟩
    | @tup p xs ds h1 t1 =>
      cases e1
      cases rx
      obtain ⟨its, rv, ht, hz⟩ := I.tuple h1
      have hlen := rv.length
      refine ⟨⟨"tuple", _, PyProof.Rows.slot_tuple_getitem.lookup, ht.typeIs⟩, ?_⟩
      refine tup_back ht hs pl pu ps (adj_n _) (pl_n _) (back_pick _ _ (Nat.le_refl _)) ?_ ?_
      · simp; omega
      · rw [Nat.sub_self, List.drop_zero]
        refine ⟨.ref _, _, I.laid (t' := s.toks) (o := .tup xs.reverse) (fun b ob q => Heap.get?_push_of_some _ q) (Nat.le_refl _) ?_, rfl, q _ _ (new_tup (I.hok.fresh (Nat.le_refl _)) t1.rev)⟩
        first
          | exact ⟨by rw [List.length_reverse]; exact hz, _, 0, rv.reverse, Heap.get?_push_size _ rfl⟩
          | exact ⟨by rw [List.length_reverse]; exact hz, _, rv.reverse, ⟨_, Heap.get?_push_size _ rfl, rfl, 0, rfl⟩⟩
    | _ => cases e1) fun σ H Q h => pt_fin pl h
theorem e_rev0 {e : Expr} {c : Cd} {k k0 : Nat} {p0 p1 p2 p3 pos : Pos} (he : JE X W e c) (pl : Pl c) : JE X W (.Subscript e (.Slice none (some (.Constant (.int 0) k0 p0)) (some (.UnaryOp .USub (.Constant (.int 1) k p1) p2)) p3) pos) (cUn rev0P c) :=
  pe_weak (pe_back (o := some 0) (r := rB1 X.K rev0P) he (po_some pe_int) (fun _ _ _ q => ⟨0, rfl, q⟩) fun pins s σ H x v vl vu vs sl Q I rx hs pl pu ps ⟨a, r, ha, e1, q⟩ => by
    cases ha with
    | @tup p xs ds h1 t1 =>
      cases e1
      cases rx
      obtain ⟨its, rv, ht, hz⟩ := I.tuple h1
      have hlen := rv.length
      refine ⟨⟨"tuple", _, PyProof.Rows.slot_tuple_getitem.lookup, ht.typeIs⟩, ?_⟩
      refine tup_back ht hs pl pu ps (adj_0 _) (pl_0 _) (back_pick _ _ (Nat.sub_le _ _)) ?_ ?_
      · simp; omega
      · have e2 : (its.toArray.toList.drop (its.toArray.size - (its.toArray.size - 1))) = its.tail := by
          cases its with
          | nil => rfl
          | cons a t => simp
        rw [e2]
        refine ⟨.ref _, _, I.laid (t' := s.toks) (o := .tup xs.tail.reverse) (fun b ob q => Heap.get?_push_of_some _ q) (Nat.le_refl _) ?_, rfl, q _ _ (new_tup (I.hok.fresh (Nat.le_refl _)) t1.tail.rev)⟩
        have hz' : xs.tail.reverse.length ≤ sizeLine := by rw [List.length_reverse, List.length_tail]; omega
        first
          | exact ⟨hz', _, 0, (vals_tail rv).reverse, Heap.get?_push_size _ rfl⟩
          | exact ⟨hz', _, (vals_tail rv).reverse, ⟨_, Heap.get?_push_size _ rfl, rfl, 0, rfl⟩⟩
    | _ => cases e1) fun σ H Q h => pt_fin pl h
end
end Sv
end
section
set_option autoImplicit false
set_option linter.all false
set_option maxRecDepth 100000
/-! Sv: chains, signs, join, unpacked lists, errors asked in their suites. -/
namespace Sv
open PySem PySem.Spec L2
open PyProof.Rows hiding St

section
variable {X : Cx} {W : WX} {io : List Nat}
theorem chain_fin {f g : PyData → PyData → Option Bool} {a b c : Cd} (pa : Pl a) (pb : Pl b) (pc : Pl c) {σ : St} {H : Hp} {Q : VK} (h : tC X.K X.mg W (cChain f g a b c) σ H Q) : tChain (rB2 X.K (toP f)) (rB2 X.K (toP g)) (tC X.K X.mg W a) (tC X.K X.mg W b) (tC X.K X.mg W c) σ H Q := by
  obtain ⟨ρ, er, f0⟩ := h
  refine ⟨ρ, er, Fin.part f0 fun hd ρ1 c1 f1 v H1 p dn => ?_⟩
  refine ⟨ρ1, p.env, Fin.part (Fin.laterC p f1) fun hd2 ρ2 c2 f2 v2 H2 p2 dn2 => ?_⟩
  cases e1 : hd.rd ρ2 with
  | none => rw [e1] at f2; exact f2.elim
  | some x =>
    cases e2 : hd2.rd ρ2 with
    | none => rw [e1, e2] at f2; exact f2.elim
    | some y =>
      rw [e1, e2] at f2
      simp only at f2
      cases e3 : f x y with
      | none => rw [e3] at f2; exact f2.elim
      | some k =>
        rw [e3] at f2
        refine ⟨x, y, .d (.bool k), dn.vw (pa _ _ _ c1) p.env p2 e1, dn2.vw (pb _ _ _ c2) p2.env (Pst.refl p2.env) e2, by unfold toP; rw [e3]; rfl, fun z H3 n => ?_⟩
        obtain ⟨gr, fz⟩ := n
        have hz : z = .bl k := by cases fz; rfl
        refine ⟨k, hz, ?_⟩
        have pg : Pst X.K H2 σ ρ2 H3 σ ρ2 := Pst.grow p2.env gr
        cases k with
        | false =>
          rw [if_neg Bool.false_ne_true]
          have q : NewB X.K H2 H3 (.bl false) (.d (.bool false)) := ⟨gr, .bl false⟩
          exact q.fin p2 f2
        | true =>
          rw [if_pos rfl]
          simp only at f2
          refine ⟨ρ2, pg.env, Fin.part (Fin.laterC (p2.trans pg) f2) fun hd3 ρ3 c3 f3 v3 H4 p4 dn3 => ?_⟩
          cases e4 : hd2.rd ρ3 with
          | none => rw [e4] at f3; exact f3.elim
          | some y' =>
            cases e5 : hd3.rd ρ3 with
            | none => rw [e4, e5] at f3; exact f3.elim
            | some z' =>
              rw [e4, e5] at f3
              simp only at f3
              cases e6 : g y' z' with
              | none => rw [e6] at f3; exact f3.elim
              | some k' =>
                rw [e6] at f3
                exact ⟨y', z', .d (.bool k'), dn2.vw (pb _ _ _ c2) p2.env (pg.trans p4) e4, dn3.vw (pc _ _ _ c3) p4.env (Pst.refl p4.env) e5, by unfold toP; rw [e6]; rfl, fun w H5 n => n.fin p4 f3⟩
theorem e_chain {op op' : CmpOp} {f g : PyData → PyData → Option Bool} {a b c : Expr} {ca cb cc : Cd} {pos : Pos} (ho : OpR X (compareOp op) (rB2 X.K (toP f))) (ho' : OpR X (compareOp op') (rB2 X.K (toP g))) (ha : JE X W a ca) (hb : JE X W b cb) (hc : JE X W c cc) (pa : Pl ca) (pb : Pl cb) (pc : Pl cc)
    (hm : lastMarks [op, op'] [b, c] = false := by with_unfolding_all rfl) : JE X W (.Compare a [op, op'] [b, c] pos) (cChain f g ca cb cc) :=
  pe_weak (pe_chain ho ho' ha hb hc hm) fun σ H Q h => chain_fin pa pb pc h
theorem tB_fin {ca : Cd} (pa : Pl ca) {t : TE} (w : ∀ σ H Q, tC X.K X.mg W ca σ H Q → t σ H Q) {σ : St} {H : Hp} {Q : Bool → Hp → Prop} (h : tT X.K X.mg W (Sv.tB ca) σ H Q) : tTest t σ H Q := by
  obtain ⟨ρ, er, f0⟩ := h
  refine w σ H _ ⟨ρ, er, Fin.part f0 fun hd ρ1 c1 f1 v H1 p dn => ?_⟩
  cases e1 : hd.rd ρ1 with
  | none => rw [e1] at f1; exact f1.elim
  | some x =>
    rw [e1] at f1
    have hx := dn.vw (pa _ _ _ c1) p.env (Pst.refl p.env) e1
    cases x with
    | bool k => cases Vw.bool hx; exact ⟨k, rfl, f1 k H1 p rfl⟩
    | _ => exact f1.elim
theorem pl_chain (f g : PyData → PyData → Option Bool) (a b c : Cd) : Pl (cChain f g a b c) := fun ρ hd ρ1 h => by
  unfold cChain at h
  cases ea : a ρ with
  | ex x e => rw [ea] at h; cases h
  | no => rw [ea] at h; cases h
  | ok x e1 =>
    rw [ea] at h
    simp only [R.bind_ok] at h
    cases eb : b e1 with
    | ex x e => rw [eb] at h; cases h
    | no => rw [eb] at h; cases h
    | ok y e2 =>
      rw [eb] at h
      simp only [R.bind_ok] at h
      split at h
      · split at h
        · cases ec : c e2 with
          | ex x e => rw [ec] at h; cases h
          | no => rw [ec] at h; cases h
          | ok z e3 =>
            rw [ec] at h
            simp only [R.bind_ok] at h
            split at h
            · split at h
              · cases h; trivial
              · cases h
            · cases h
        · cases h; trivial
        · cases h
      · cases h
theorem t_chain {op op' : CmpOp} {f g : PyData → PyData → Option Bool} {a b c : Expr} {ca cb cc : Cd} {pos : Pos} (ho : OpR X (compareOp op) (rB2 X.K (toP f))) (ho' : OpR X (compareOp op') (rB2 X.K (toP g))) (ha : JE X W a ca) (hb : JE X W b cb) (hc : JE X W c cc) (pa : Pl ca) (pb : Pl cb) (pc : Pl cc)
    (hm : lastMarks [op, op'] [b, c] = false := by with_unfolding_all rfl) : JT X W (.Compare a [op, op'] [b, c] pos) (Sv.tB (cChain f g ca cb cc)) :=
  pt_weak (pt_chain ho ho' ha hb hc hm) fun σ H Q h => tB_fin (pl_chain f g ca cb cc) (fun σ H Q h => chain_fin pa pb pc h) h
/-! ### -x -/
def negP : PyData → Option B
  | .int i => some (.d (.int (-i)))
  | _ => none
theorem u_neg : UnR X (unaryOp .USub) (rB1 X.K negP) := fun pins s σ H x v Q I rx ⟨a, r, ha, e, q⟩ => by
  cases ha with
  | int i =>
    cases e
    exact un_neg pins s σ H _ v Q I rx ⟨i, rfl, q _ _ (nb_int _)⟩
  | _ => cases e
/-! ### t.join(xs) -/
def strsOf : List PyData → Option (List Str)
  | [] => some []
  | .str x :: r => (strsOf r).map (x :: ·)
  | _ => none
theorem FzAll.strsOf {K : PySem.W.Frag} {H : Hp} : ∀ {vs : List V} {ds : List PyData}, FzAll K H vs ds → ∀ {ns : List Str}, Sv.strsOf ds = some ns → vs = ns.map V.str
  | _, _, .nil, ns, h => by cases h; rfl
  | _, _, .cons (.str i) t, ns, h => by
    simp only [Sv.strsOf] at h
    cases e : Sv.strsOf _ with
    | none => rw [e] at h; cases h
    | some r => rw [e] at h; cases h; rw [FzAll.strsOf t e]; rfl
  | _, _, .cons (.int i) t, ns, h => by cases h
  | _, _, .cons .non t, ns, h => by cases h
  | _, _, .cons (.bl _) t, ns, h => by cases h
  | _, _, .cons (.lst _ _) t, ns, h => by cases h
  | _, _, .cons (.tup _ _) t, ns, h => by cases h
  | _, _, .cons (.dct _ _ _ _) t, ns, h => by cases h
def joinL (a : Str) (ys : List Str) : Option B := if (ys.map (·.length)).sum + ys.length * a.length ≤ 16777216 then some (.d (.str (Txt.join a ys))) else none
def joinP (z : Str) : PyData → Option B
  | .list xs => (strsOf xs).bind (joinL z)
  | .tuple xs => (strsOf xs).bind (joinL z)
  | _ => none
theorem e_join {e : Expr} {z : Str} {ce : Cd} {j : Nat} {opos apos pos : Pos} (he : JE X W e ce) (pe : Pl ce) (hs : starEach [e] X.env = [(false, eval e X.env)] := by rfl) (hbase : attributeBase (.Constant (.str z) j opos) "join" X.env (eval (.Constant (.str z) j opos) X.env) = eval (.Constant (.str z) j opos) X.env := by rfl) (hline : (apos.endLine == pos.line) = true := by rfl) :
    JE X W (.Call (.Attribute (.Constant (.str z) j opos) "join" apos) [e] [] pos) (cUn (joinP z) ce) :=
  pe_weak (pe_join pe_str he hs hbase hline) fun σ H Q h => by
    obtain ⟨ρ, er, f0⟩ := h
    refine ⟨⟨z, rfl⟩, ρ, er, Fin.part f0 fun hd ρ1 c1 f1 v H1 p dn => ?_⟩
    cases e2 : hd.rd ρ1 with
    | none => rw [e2] at f1; exact f1.elim
    | some y =>
      rw [e2] at f1
      simp only at f1
      have hy := dn.vw (pe _ _ _ c1) p.env (Pst.refl p.env) e2
      cases e3 : joinP z y with
      | none => rw [e3] at f1; exact f1.elim
      | some r =>
        rw [e3] at f1
        unfold joinP at e3
        split at e3
        · rename_i xs
          cases e4 : strsOf xs with
          | none => rw [e4] at e3; cases e3
          | some ys =>
            rw [e4] at e3
            simp only [Option.bind_some, joinL] at e3
            split at e3
            · rename_i hl
              cases e3
              cases hy with
              | lst h1 t1 =>
                refine ⟨z, _, ys, rfl, rfl, .inl ?_, hl, (nb_str _).fin p f1⟩
                rw [← FzAll.strsOf t1 e4]
                exact h1.sq
            · cases e3
        · rename_i xs
          cases e4 : strsOf xs with
          | none => rw [e4] at e3; cases e3
          | some ys =>
            rw [e4] at e3
            simp only [Option.bind_some, joinL] at e3
            split at e3
            · rename_i hl
              cases e3
              cases hy with
              | tup h1 t1 =>
                refine ⟨z, _, ys, rfl, rfl, .inr ?_, hl, (nb_str _).fin p f1⟩
                rw [← FzAll.strsOf t1 e4]
                exact h1
            · cases e3
        · cases e3
/-! ### a, b = a list -/
theorem g_lst {es : List Expr} {ts : List Gd} {k : Nat} {pos : Pos} (hc : X.calm = true) (h : JGs X io es ts) (ht : ∀ t ∈ ts, Tame t) (hn : (assignEach es X.env).length = ts.length := by rfl) (hst : (assignEach es X.env).findIdx? (·.1) = none := by rfl) : JG X io (.Tuple es k pos) (gL ts) := by
  refine ⟨pg_weak (pg_unl hc h.pgs hn hst) fun v σ H Q ⟨ρ, x, er, fz, f⟩ => ?_, fun x ρ => ?_⟩
  · cases fz with
    | @lst a vs xs hq hx =>
      refine ⟨a, vs, rfl, hq.sq, ?_, ρ, xs, er, hx, f⟩
      have f' : FinG X.K io σ H ρ Q (gRun ts xs ρ) := f
      rcases h.tame xs ρ with ⟨ρ1, e⟩ | e
      · rw [hx.length, gRun_len e ht]
      · rw [e] at f'; exact f'.elim
    | _ => exact f.elim
  · cases x with
    | list xs => exact h.tame xs ρ
    | _ => exact .inr rfl
/-! ### asking an error in its suite -/
/-- isinstance(e, T) in the suite of e -/
structure IsE (K : PySem.W.Frag) (mg : Str → Option Value) (T : Str) (D : Addr) (m : Ex → Option Bool) : Prop where
  gl : mg T = some (.ref D)
  ok : ∀ (y : Ex) (cls : Value) (k : Bool), mg y.c = some cls → m y = some k → y.fs = [] ∧ ∃ C, cls = .ref C ∧ ExcC K C ∧ PySem.W.kitOne K (.ref C) (.ref D) = some k
/-- A if isinstance(e, T) else B -/
def hIf (m : Ex → Option Bool) (a b : Cd) : Ex → Cd := fun y e => match m y with
  | some true => a e
  | some false => b e
  | none => .no
theorem x_ifIs {i : Nat} {a D : Addr} {cls : Value} {d : Option Addr} {oe : Obj} {pn : List (Addr × Obj)} {n T : Str} {m : Ex → Option Bool} {ea eb : Expr} {ca cb : Cd} {p pn' pT pos pos' : Pos} (hm : X.mg "isinstance" = none) (hg : Gl X "isinstance") (hN : X.N[i]? = some n) (hv : Vis X.env.scope n)
    (hgT : Gl X T) (hx : IsE X.K X.mg T D m) (hz : Zc cls d oe) (hf : ∃ vs, oe.data = .fields vs) (ha : JE (X.suite a ((a, oe) :: pn)) WF ea ca) (hb : JE (X.suite a ((a, oe) :: pn)) WF eb cb)
    (hd : (n == ("__debug__" : Str)) = false := by decide) (hcd : (n == ("__classdict__" : Str)) = false := by decide) (hdT : (T == ("__debug__" : Str)) = false := by decide)
    (h1 : starEach [.Name n pn', .Name T pT] X.env = (false, eval (.Name n pn') X.env) :: starEach [.Name T pT] X.env := by rfl) (h2 : starEach [.Name T pT] X.env = (false, eval (.Name T pT) X.env) :: starEach [] X.env := by rfl)
    (hpl : (backTo pos (starEach [.Name T pT] X.env)).any (·.1) = false := by rfl) :
    PE (X.suite a ((a, oe) :: pn)) (.IfExp (.Call (.Name "isinstance" p) [.Name n pn', .Name T pT] [] pos) ea eb pos') (tX X.K X.mg i a cls d (hIf m ca cb)) := by
  refine ⟨fun pins s σ H Q I ⟨y, ρ, ex, er, hs, f⟩ => ?_⟩
  cases em : m y with
  | none => simp only [hIf, em] at f; exact f.elim
  | some k =>
    obtain ⟨hfs, C, rfl, xc, hk⟩ := hx.ok y cls k ex.1 em
    have hd0 : d = none := by
      rcases ex.2 with ⟨_, h⟩ | ⟨_, _, h, _⟩
      · exact h
      · exact absurd hfs h
    subst hd0
    have hN' : (X.suite a ((a, oe) :: pn)).N[i]? = some n := hN
    refine (pe_ifExp (pt_val (pe_callB (call_isE xc hz hf) hg hm boot_isinstance (pa_cons (pe_var hN' hv hd hcd) (pa_cons (pe_glob (v := .ref D) hgT hx.gl rfl hdT) pa_nil h2) h1) (by decide) (by decide) h1 hpl)) ha hb).run pins s σ H Q I ?_
    refine ⟨.ref a, hs, .ref D, .ref D, k, rfl, fun u r => r, hk, k, rfl, ?_⟩
    cases k with
    | true => simp only [hIf, em] at f; exact ⟨ρ, er, f⟩
    | false => simp only [hIf, em] at f; exact ⟨ρ, er, f⟩
end
end Sv
end
section
set_option autoImplicit false
set_option linter.all false
set_option maxRecDepth 100000
/-! Sv: sorted, range with a step, defs that take any number of arguments, nothing said. -/
namespace Sv
open PySem PySem.Spec L2
open PyProof.Rows hiding St

/-! ### nothing said -/
def sNo : Sd := fun _ => .no
def cNo : Cd := fun _ => .no
def tNo : Td := fun _ => .no
section
variable {X : Cx} {W : WX} {io : List Nat}
theorem s_no {st : Stmt} : JS X W io st sNo := ⟨fun pins s σ H D I ⟨ρ, er, f⟩ => f.elim⟩
theorem b_no {st : List Stmt} : JB X W io st sNo := ⟨fun pins s σ H D I ⟨ρ, er, f⟩ => f.elim⟩
theorem e_no {e : Expr} : JE X W e cNo := ⟨fun pins s σ H Q I ⟨ρ, er, f⟩ => f.elim⟩
theorem t_no {e : Expr} : JT X W e tNo := ⟨fun pins s σ H Q I ⟨ρ, er, f⟩ => f.elim⟩
end
/-! ### sorted -/
def tupNE : PyData → Bool
  | .tuple (_ :: _) => true
  | _ => false
def noTup : PyData → Bool
  | .none => false
  | .tuple _ => false
  | _ => true
def sortOk (ds : List PyData) : Bool := (ds.all fun d => ds.all fun d' => PySem.W.alike d d') && (ds.all tupNE || ds.all noTup) && ds.all fun d => d.plain && decide (d.depth ≤ 180)
def sortD (ds : List PyData) : List PyData := ds.mergeSort (PySem.W.dataLe false id)
def sortedP : PyData → Option B
  | .list ds => if sortOk ds = true then some (.l (sortD ds)) else none
  | _ => none
theorem each_of {K : PySem.W.Frag} {H : Hp} : ∀ {vs : List V} {ds : List PyData} {us : List Value}, FzAll K H vs ds → Vals vs us → PySem.W.EachIs (fun u d => ∃ v, RelV v u ∧ Fz K H v d) us ds
  | _, _, _, .nil, .nil => .nil
  | _, _, _, .cons h t, .cons r rs => .cons ⟨_, r, h⟩ (each_of t rs)
theorem of_each {K : PySem.W.Frag} {H : Hp} : ∀ {ds : List PyData} {us : List Value}, PySem.W.EachIs (fun u d => ∃ v, RelV v u ∧ Fz K H v d) us ds → ∃ vs, Vals vs us ∧ FzAll K H vs ds
  | _, _, .nil => ⟨[], .nil, .nil⟩
  | _, _, .cons ⟨v, r, h⟩ t => by
    obtain ⟨vs, r2, h2⟩ := of_each t
    exact ⟨v :: vs, .cons r r2, .cons h h2⟩
section
variable {X : Cx} {W : WX}
theorem f_sorted (hu : X.A.units + 190 < cLine) : CallR X (.builtin "sorted") (rBn X.K (one sortedP)) := fun pins s σ H vs us Q I rv ⟨xs, b, hv, e, q⟩ => by
  match xs, e, hv with
  | [x], e, hv =>
    obtain ⟨v, rfl, hx⟩ := hv.one
    simp only [one] at e
    cases hx with
    | @lst p ys ds h1 t1 =>
      simp only [sortedP] at e
      split at e
      · rename_i ok
        cases e
        simp only [sortOk, Bool.and_eq_true] at ok
        obtain ⟨⟨o1, o2⟩, o3⟩ := ok
        obtain ⟨its, rl, hl, hz⟩ := I.list h1.sq
        rw [Vals.ref1 rv]
        have pl : PyData.plainAll ds = true := by
          have : ∀ l : List PyData, (∀ d ∈ l, d.plain = true) → PyData.plainAll l = true := fun l => by
            induction l with
            | nil => intro _; rfl
            | cons a t ih => intro h; simp only [PyData.plainAll, Bool.and_eq_true]; exact ⟨h a List.mem_cons_self, ih fun d hd => h d (List.mem_cons_of_mem _ hd)⟩
          exact this ds fun d hd => ((Bool.and_eq_true _ _).mp (List.all_eq_true.mp o3 d hd)).1
        obtain ⟨as, rd⟩ := FzAll.reads I t1 pl rl
        refine PySem.W.sorted_data (enc := id) (R := fun u d => ∃ v, RelV v u ∧ Fz X.K H v d) hl.isList (each_of t1 rl) (PySem.W.readsAll_each id (by rw [List.map_id]; exact rd)) ?_ ?_ ?_ ?_ ?_
        · rw [List.map_id]
          intro d hd d' hd'
          exact List.all_eq_true.mp (List.all_eq_true.mp o1 d hd) d' hd'
        · rw [List.map_id]
          rcases (Bool.or_eq_true _ _).mp o2 with o2 | o2
          · refine .inl fun d hd => ?_
            have := List.all_eq_true.mp o2 d hd
            unfold tupNE at this
            split at this
            · exact ⟨_, _, rfl⟩
            · cases this
          · refine .inr fun d hd => ?_
            have := List.all_eq_true.mp o2 d hd
            unfold noTup at this
            split at this
            · cases this
            · cases this
            · rename_i n1 n2
              exact ⟨n1, n2⟩
        · have := t1.length
          omega
        · intro d hd
          have := of_decide_eq_true ((Bool.and_eq_true _ _).mp (List.all_eq_true.mp o3 d hd)).2
          show X.A.units + 2 + d.depth < cLine
          omega
        · intro out hlen he
          obtain ⟨zs, r2, h2⟩ := of_each he
          obtain ⟨ep, he'⟩ := PyProof.Rows.sortedAll_at s.heap its out.toArray
          have hlz : zs.length ≤ sizeLine := by
            have := t1.length
            have := r2.length
            omega
          exact ⟨.ref _, upd H (s.heap.objs.size + 1) (.lst zs), I.laid (t' := s.toks) (fun _ _ => PyProof.Rows.sortedAll_old) (Nat.le_succ _) ⟨hlz, out, ep, r2, he'⟩, rfl, q _ _ (new_lst (I.hok.fresh (Nat.le_succ _)) h2)⟩
      · cases e
    | _ => cases e
  | [], e, _ => cases e
  | _ :: _ :: _, e, _ => cases e
end
/-! ### range(i, j, -1) -/
def rngDn (hi : Int) (n : Nat) : List PyData := (List.range n).map fun i => .int (hi - (i : Nat))
def wRangeDn (c d : Cd) : Wd := fun e => (c e).bind fun h e1 => (d e1).bind fun g e2 =>
  match h.rd e2, g.rd e2 with
  | some (.int i), some (.int j) => if -(2 ^ 62) ≤ i ∧ i < 2 ^ 62 ∧ -(2 ^ 62) ≤ j ∧ j < 2 ^ 62 then .ok (rngDn i (i - j).toNat) e2 else .no
  | _, _ => .no
section
variable {X : Cx} {W : WX}
theorem walk_dn {K : PySem.W.Frag} {H : Hp} (hi : Int) (n : Nat) : WalkJ K H (Itc hi (-1) n) (rngDn hi n) := fun i H1 k => by
  have hl : (rngDn hi n).length = n := by unfold rngDn; rw [List.length_map, List.length_range]
  refine ⟨fun hi => (by rw [hl] at hi; exact Nat.le_of_eq hi.symm), fun hi => (by rw [hl] at hi; exact hi), fun x H' hy d hd => ?_⟩
  obtain ⟨rfl, rfl⟩ := hy
  have hi' : i < n := by
    have := (List.getElem?_eq_some_iff.mp hd).1
    omega
  have e : d = .int (hi + (i : Nat) * -1) := by
    unfold rngDn at hd
    rw [List.getElem?_map, List.getElem?_range hi'] at hd
    rw [← Option.some.inj hd]
    rw [show hi + ((i : Nat) : Int) * -1 = hi - (i : Nat) by omega]
  subst e
  exact ⟨.int _, fun b o h => h⟩
theorem i_rangeDn {tg a b : Expr} {c d : Cd} {k : Nat} {p1 p2 p pos : Pos} (hg : Gl X "range") (hm : X.mg "range" = none) (ha : JE X W a c) (pa : Pl c) (hb : JE X W b d) (pb : Pl d)
    (hs : starEach [a, b, .UnaryOp .USub (.Constant (.int 1) k p1) p2] X.env = (false, eval a X.env) :: starEach [b, .UnaryOp .USub (.Constant (.int 1) k p1) p2] X.env := by rfl)
    (hs2 : starEach [b, .UnaryOp .USub (.Constant (.int 1) k p1) p2] X.env = (false, eval b X.env) :: starEach [.UnaryOp .USub (.Constant (.int 1) k p1) p2] X.env := by rfl)
    (hpl : (backTo pos (starEach [b, .UnaryOp .USub (.Constant (.int 1) k p1) p2] X.env)).any (·.1) = false := by rfl) :
    JI X W tg (.Call (.Name "range" p) [a, b, .UnaryOp .USub (.Constant (.int 1) k p1) p2] [] pos) (wRangeDn c d) :=
  pi_weak (pi_range3 hg hm (pa_cons ha (pa_cons hb (pa_cons (pe_un un_neg pe_int) pa_nil) hs2) hs) hs hpl) fun σ H R ⟨ρ, er, f⟩ => by
    refine ⟨ρ, er, Fin.part f fun hd ρ1 c1 f1 v H1 p dn => ?_⟩
    refine ⟨ρ1, p.env, ?_⟩
    have f1' := Fin.later (Rel' := fun H1 _ (J : It) xs => WalkJ X.K H1 J xs) p (fun _ _ _ _ _ _ d => d) f1
    refine Fin.part f1' fun hd2 ρ2 c2 f2 v2 H2 p2 dn2 => ?_
    cases e1 : hd.rd ρ2 with
    | none => rw [e1] at f2; exact f2.elim
    | some x =>
      cases e2 : hd2.rd ρ2 with
      | none => rw [e1, e2] at f2; split at f2 <;> first | exact f2.elim | contradiction
      | some y =>
        rw [e1, e2] at f2
        have hx := dn.vw (pa _ _ _ c1) p.env p2 e1
        have hy := dn2.vw (pb _ _ _ c2) p2.env (Pst.refl p2.env) e2
        cases x with
        | int i =>
          cases y with
          | int j =>
            cases Vw.int' hx
            cases Vw.int' hy
            simp only at f2
            split at f2
            · rename_i hj
              exact ⟨1, rfl, i, j, -1, (i - j).toNat, rfl, RgC.neg hj.1 hj.2.1 hj.2.2.1 hj.2.2.2, f2 _ H2 p2 (walk_dn i (i - j).toNat)⟩
            · exact f2.elim
          | _ => exact f2.elim
        | _ => exact f2.elim
end
end Sv
end
section
set_option autoImplicit false
set_option linter.all false
set_option maxRecDepth 100000
/-! Sv: rules as the printed walks use them. -/
namespace Sv
open PySem PySem.Spec L2
open PyProof.Rows hiding St

section
variable {P : Program} {w : World} {K : PySem.W.Frag} {mg : Str → Option Value} {base : Heap} {k : Nat} {x : Str} {ps N : List Str} {F : Fn} {st : Stmt} {io : List Nat} {c : Sd} {dvs : List V}
/-- a def of the top, and what it does -/
def Fun1 (P : Program) (w : World) (K : PySem.W.Frag) (mg : Str → Option Value) (base : Heap) (k : Nat) (x : Str) (ps : List Str) (F : Fn) : Prop :=
  ∃ f fd, FnG P w K mg base k f fd ps F ∧ Binds K fd ps [] ∧ PySem.W.keepIn K (.ref f) = true ∧ mg x = some (.ref f)
/-- a def of the top, as it stands there -/
def DefF (K : PySem.W.Frag) (mg : Str → Option Value) (x : Str) (st : Stmt) (dvs : List V) : Prop :=
  ∃ fd, FunD K x x (defArgs st) (defBody st) (defScope st) dvs [] (He.ga K x) fd ∧ mg x = some (.ref (He.ga K x))
theorem no_fn {f : Addr} {fd : FuncData} : FnG P w K mg base k f fd ps (fun _ => .no) := ⟨fun _ _ _ _ _ _ _ _ _ _ _ _ _ _ _ _ z => z.elim⟩
abbrev BindN (x : Str) (st : Stmt) (ps : List Str) : Prop := ∀ (kV doc pm : Value) (an : Option Addr) (cdv ct : Value) (us : List Value), us.length = ps.length → bindArgs (PySem.W.fnOf x x (defArgs st) (defBody st) (defScope st) .none kV doc pm an cdv ct) ⟨us, []⟩ = pure (ps.zip us)
/-- every parameter is written, though there are defaults -/
abbrev BindD (x : Str) (st : Stmt) (ps : List Str) (n : Nat) : Prop := ∀ (T : Addr) (kV doc pm : Value) (an : Option Addr) (cdv ct : Value) (us its : List Value), us.length = ps.length → its.length = n →
  ∃ k, bindArgs (PySem.W.fnOf x x (defArgs st) (defBody st) (defScope st) (.ref T) kV doc pm an cdv ct) ⟨us, []⟩ = seqItems? (.ref T) >>= k ∧ k (some its.toArray) = pure (ps.zip (us ++ its.drop n))
abbrev BodyJ (P : Program) (w : World) (K : PySem.W.Frag) (mg : Str → Option Value) (base : Heap) (k : Nat) (x : Str) (N : List Str) (st : Stmt) (io : List Nat) (c : Sd) : Prop :=
  ∀ (cdv : Value) (A : Around) (outer : List PySem.Env) (s : Shared) (H : Hp) (E : XK), RoomG k (A.deeper (envOfC x (defScope st) s.heap.objs.size (He.ga K x) cdv)) →
      JB (cxOf (CX P w) P w K mg base N x (defScope st) (He.ga K x) cdv A outer s H E) (fun cls d _ H => E cls d H) io (defBody st) c
theorem def_sv (D : DefF K mg x st []) (S : FnScope N ps (defScope st)) (hb : BindN x st ps) (hB : BodyJ P w K mg base k x N st io c) : Fun1 P w K mg base (k + 1) x ps (fnD N.length io c) := by
  obtain ⟨fd, F, hm⟩ := D
  exact ⟨_, fd, fn_sv F S hB, F.bindsN hb, F.kp, hm⟩
theorem def_svD {n : Nat} (D : DefF K mg x st dvs) (S : FnScope N ps (defScope st)) (hn : dvs.length = n) (hn0 : n ≠ 0) (hb : BindD x st ps n) (hB : BodyJ P w K mg base k x N st io c) : Fun1 P w K mg base (k + 1) x ps (fnD N.length io c) := by
  obtain ⟨fd, F, hm⟩ := D
  subst hn
  obtain ⟨ds, hv, hb'⟩ := F.binds1 (ps := ps) ps.length dvs.length (fun z => hn0 (by rw [z]; rfl)) (by omega) fun T kV doc pm an cdv ct us its h1 h2 => hb T kV doc pm an cdv ct us its h1 h2
  rw [List.drop_length] at hv
  cases hv
  exact ⟨_, fd, fn_sv F S hB, hb', F.kp, hm⟩
theorem fun_no (D : DefF K mg x st []) (hb : BindN x st ps) : Fun1 P w K mg base k x ps (fun _ => .no) := by
  obtain ⟨fd, F, hm⟩ := D
  exact ⟨_, fd, no_fn, F.bindsN hb, F.kp, hm⟩
theorem RoomG.u {A : Around} (r : RoomG k A) : A.units + 190 < cLine := by
  have := r.room.un
  omega
end
section
variable {X : Cx} {W : WX} {io : List Nat} {k : Nat} {x : Str} {ps : List Str} {F : Fn} {e : Expr} {es : List Expr} {a : Ad} {p pos : Pos}
theorem e_f {j : Nat} (G : Fun1 X.prog X.w X.K X.mg X.base j x ps F) (hr : RoomG j X.A) (hg : Gl X x) (tk : Takes X W) (ha : JA X W (e :: es) a) (al : AL ps.length a)
    (hdb : (x == ("__debug__" : Str)) = false := by decide) (he : starEach (e :: es) X.env = (false, eval e X.env) :: starEach es X.env := by rfl) (hpl : (backTo pos (starEach es X.env)).any (·.1) = false := by rfl) : JE X W (.Call (.Name x p) (e :: es) [] pos) (cFn F a) := by
  obtain ⟨f, fd, G, hb, hk, hm⟩ := G
  exact e_call G hr hg hm hk hb tk ha al hdb he hpl
theorem e_f0 {j : Nat} (G : Fun1 X.prog X.w X.K X.mg X.base j x [] F) (hr : RoomG j X.A) (hg : Gl X x) (tk : Takes X W) (hdb : (x == ("__debug__" : Str)) = false := by decide) : JE X W (.Call (.Name x p) [] [] pos) (cFn F aNil) := by
  obtain ⟨f, fd, G, hb, hk, hm⟩ := G
  exact e_call0 G hr hg hm hk hb tk hdb
theorem e_gi {i : Int} (hm : ∃ t, X.mg x = some (.int i t)) (hg : Gl X x) (hd : (x == ("__debug__" : Str)) = false := by decide) : JE X W (.Name x pos) (cK (.int i)) := by
  obtain ⟨t, hm⟩ := hm
  exact e_glob (v := .int i) hg hm ⟨t, rfl⟩ (fun _ => .int i) hd
theorem e_gs {i : Str} (hm : ∃ t, X.mg x = some (.str i t)) (hg : Gl X x) (hd : (x == ("__debug__" : Str)) = false := by decide) : JE X W (.Name x pos) (cK (.str i)) := by
  obtain ⟨t, hm⟩ := hm
  exact e_glob (v := .str i) hg hm ⟨t, rfl⟩ (fun _ => .str i) hd
/-- an own class over ValueError, without __init__ -/
structure ExF (K : PySem.W.Frag) (mg : Str → Option Value) (x : Str) : Prop where
  g : mg x = some (.ref (He.ga K x))
  e : PySem.W.excIn K (He.ga K x) He.veBase "ValueError.__new__" = true
  k : PySem.W.keepIn K (.ref (He.ga K x)) = true
  b : PySem.W.subIn K (.ref (He.ga K x)) (.type "BaseException") = some true
  t : PySem.W.typeIn K (.ref (He.ga K x)) = some (.type "type")
theorem s_raiseO {m : Str} {j : Nat} {p2 rpos : Pos} (T : ExF X.K X.mg x) (hc : X.calm = true) (tk : Takes X W) (hg : Gl X x) (hdb : (x == ("__debug__" : Str)) = false := by decide) : JS X W io (.Raise (some (.Call (.Name x p) [.Constant (.str m) j p2] [] pos)) none rpos) (sRaise ⟨x, []⟩) :=
  s_raise hc tk T.g (pmk_own PySem.F.excBase_ValueError T.e T.g T.k (raises_own T.b T.t) hg hdb)
theorem tame_gN (i : Nat) : Tame (gN i) := fun x ρ => .inl ⟨_, rfl⟩
theorem tm_nil : ∀ t ∈ ([] : List Gd), Tame t := fun t h => by cases h
theorem tm_cons {g : Gd} {gs : List Gd} (h1 : Tame g) (h2 : ∀ t ∈ gs, Tame t) : ∀ t ∈ g :: gs, Tame t := fun t h => by
  rcases List.mem_cons.mp h with e | h
  · rw [e]; exact h1
  · exact h2 t h
theorem tame_run : ∀ {gs : List Gd}, (∀ t ∈ gs, Tame t) → ∀ (xs : List PyData) (ρ : Env), (∃ ρ1, gRun gs xs ρ = .nx ρ1) ∨ gRun gs xs ρ = .no
  | [], _, [], ρ => .inl ⟨ρ, rfl⟩
  | [], _, _ :: _, ρ => .inr rfl
  | _ :: _, _, [], ρ => .inr rfl
  | g :: gs, h, x :: xs, ρ => by
    rw [gRun_cons]
    rcases h g List.mem_cons_self x ρ with ⟨ρ1, e⟩ | e
    · rw [e, seq_nx]; exact tame_run (fun t ht => h t (List.mem_cons_of_mem _ ht)) xs ρ1
    · rw [e]; exact .inr rfl
theorem tame_gT {gs : List Gd} (h : ∀ t ∈ gs, Tame t) : Tame (gT gs) := fun x ρ => by
  cases x with
  | tuple xs => exact tame_run h xs ρ
  | _ => exact .inr rfl
theorem hio_by {N : List Str} {own : List (Str × Nat)} {io : List Nat} (h : ((List.range N.length).all fun j => (own.map (·.2)).contains j || io.contains j) = true) : ∀ j, j < N.length → j ∉ own.map (·.2) → j ∈ io := fun j hj hn => by
  have q := List.all_eq_true.mp h j (List.mem_range.mpr hj)
  rcases Bool.or_eq_true _ _ ▸ q with q | q
  · exact absurd (List.contains_iff_mem.mp q) hn
  · exact List.contains_iff_mem.mp q
theorem vis_f {X : Cx} {x : Str} (h : X.env.kindOf x = some .free) : Vis X.env.scope x := .inr (.inr h)
theorem exF_of {K : PySem.W.Frag} {h : Heap} {mg : Str → Option Value} {x : Str} (X : K.In h) (G : h.Ns mainGlobals mg) (c : (He.Fa.glo x).ok K = true) (e : (He.Fa.exc x).ok K = true) : ExF K mg x := by
  obtain ⟨e1, e2, e3, e4⟩ := He.exc_ok e
  exact ⟨He.glo_ok X G c, e1, e2, e3, e4⟩
theorem defF_of {K : PySem.W.Frag} {h : Heap} {mg : Str → Option Value} {x : Str} {st : Stmt} {dvs : List V} (X : K.In h) (G : h.Ns mainGlobals mg) (c : (He.Fa.glo x).ok K = true) (d : ∃ fd, FunD K x x (defArgs st) (defBody st) (defScope st) dvs [] (He.ga K x) fd) : DefF K mg x st dvs := by
  obtain ⟨fd, F⟩ := d
  exact ⟨fd, F, He.glo_ok X G c⟩
theorem hp_eq : ∀ x y r, eqP x y = some r → ∃ z, r = .d z := fun x y r h => by
  unfold eqP at h
  cases e : eqB x y with
  | none => rw [e] at h; cases h
  | some k => rw [e] at h; cases h; exact ⟨_, rfl⟩
theorem hp_ne : ∀ x y r, neP x y = some r → ∃ z, r = .d z := fun x y r h => by
  unfold neP at h
  cases e : eqB x y with
  | none => rw [e] at h; cases h
  | some k => rw [e] at h; cases h; exact ⟨_, rfl⟩
theorem hp_to (f : PyData → PyData → Option Bool) : ∀ x y r, toP f x y = some r → ∃ z, r = .d z := fun x y r h => by
  obtain ⟨k, _, e⟩ := toP_ok h
  exact ⟨_, e⟩
theorem boot_len' : bootBuiltins "len" = some (.builtin "len") := by decide +kernel
theorem boot_abs' : bootBuiltins "abs" = some (.builtin "abs") := by decide +kernel
theorem boot_max' : bootBuiltins "max" = some (.builtin "max") := by decide +kernel
theorem boot_min' : bootBuiltins "min" = some (.builtin "min") := by decide +kernel
theorem boot_sum' : bootBuiltins "sum" = some (.builtin "sum") := by decide +kernel
theorem boot_all' : bootBuiltins "all" = some (.builtin "all") := by decide +kernel
theorem boot_any' : bootBuiltins "any" = some (.builtin "any") := by decide +kernel
theorem boot_repr' : bootBuiltins "repr" = some (.builtin "repr") := by decide +kernel
theorem boot_sorted' : bootBuiltins "sorted" = some (.builtin "sorted") := by decide +kernel
theorem boot_int' : bootBuiltins "int" = some (.type "int") := by decide +kernel
theorem boot_str' : bootBuiltins "str" = some (.type "str") := by decide +kernel
theorem boot_tuple' : bootBuiltins "tuple" = some (.type "tuple") := by decide +kernel
theorem boot_list' : bootBuiltins "list" = some (.type "list") := by decide +kernel
theorem boot_dict' : bootBuiltins "dict" = some (.type "dict") := by decide +kernel
theorem boot_bool' : bootBuiltins "bool" = some (.type "bool") := by decide +kernel
end
end Sv
end
section
set_option autoImplicit false
set_option linter.all false
set_option maxRecDepth 100000
/-! Sv: def f(a, .., *v), called with data alone. -/
namespace Sv
open PySem PySem.Spec L2
open PyProof.Rows hiding St
open StX

/-- all of them data -/
def dataB : List B → Option (List PyData)
  | [] => some []
  | .d x :: r => (dataB r).map (x :: ·)
  | .l _ :: _ => none
/-- m arguments, the others as a tuple -/
def starF (m : Nat) (F : Fn) : Fn := fun bs =>
  match dataB bs with
  | none => .no
  | some xs => if m ≤ xs.length ∧ xs.length ≤ sizeLine then
      match F ((xs.take m).map B.d ++ [.d (.tuple (xs.drop m))]) with
      | .ok b _ => .ok b (bs.map some)
      | .ex x _ => .ex x (bs.map some)
      | .no => .no
    else .no
theorem dataB_eq : ∀ {bs : List B} {xs : List PyData}, dataB bs = some xs → bs = xs.map B.d
  | [], xs, h => by cases h; rfl
  | .d x :: r, xs, h => by
    simp only [dataB] at h
    cases e : dataB r with
    | none => rw [e] at h; cases h
    | some ys => rw [e] at h; cases h; rw [dataB_eq e]; rfl
  | .l _ :: _, xs, h => by cases h
section
variable {P : Program} {w : World} {K : PySem.W.Frag} {mg : Str → Option Value} {base : Heap} {k : Nat} {x : Str} {ps N : List Str} {F : Fn} {st : Stmt} {io : List Nat} {c : Sd} {H H1 : Hp}
/-- a def that takes any number of arguments -/
structure FnS (P : Program) (w : World) (K : PySem.W.Frag) (mg : Str → Option Value) (base : Heap) (k : Nat) (f : Addr) (F : Fn) : Prop where
  run : ∀ (A : Around) (outer : List PySem.Env) (s : Shared) (H : Hp) (us : List Value) (vs : List V) (bs : List B) (Q : VK) (E : XK), RoomG k A → Env0 P w K mg base A outer s H → Vals vs us →
    EnvRel K H (vs.map some) (bs.map some) → FinF K mg H vs bs Q E (F bs) → codeAny (model P w) A (.call (.ref f) ⟨us, []⟩) (CR (CX P w) outer P w H s Q E) s
theorem fz_of_env : ∀ {vs : List V} {xs : List PyData}, EnvRel K H (vs.map some) ((xs.map B.d).map some) → FzAll K H vs xs := fun {vs xs} er => by
  have hl : vs.length = xs.length := by
    have := er.len
    simp at this
    omega
  have key : ∀ (i : Nat) (x : PyData), xs[i]? = some x → ∃ v, vs[i]? = some v ∧ Fz K H v x := fun i x h => by
    obtain ⟨v, e, d⟩ := er.den i (.d x) (by rw [List.getElem?_map, List.getElem?_map, h]; rfl)
    rw [List.getElem?_map] at e
    cases q : vs[i]? with
    | none => rw [q] at e; cases e
    | some u => rw [q] at e; cases e; exact ⟨_, rfl, d⟩
  clear er
  induction xs generalizing vs with
  | nil =>
    cases vs with
    | nil => exact .nil
    | cons a t => cases hl
  | cons x r ih =>
    cases vs with
    | nil => cases hl
    | cons a t =>
      obtain ⟨v, e, d⟩ := key 0 x rfl
      cases e
      exact .cons d (ih (by simpa using hl) fun i y h => key (i + 1) y h)
theorem env_of_fz {vs : List V} {xs : List PyData} (h : FzAll K H vs xs) : EnvRel K H (vs.map some) ((xs.map B.d).map some) := by
  refine ⟨by simp [h.length], fun i b q => ?_, fun i j ys zs a q1 _ _ _ => ?_⟩
  · rw [List.getElem?_map, List.getElem?_map] at q
    cases e : xs[i]? with
    | none => rw [e] at q; cases q
    | some x =>
      rw [e] at q
      cases q
      obtain ⟨v, e1, d⟩ := h.get e
      exact ⟨v, by rw [List.getElem?_map, e1]; rfl, d⟩
  · rw [List.getElem?_map, List.getElem?_map] at q1
    cases e : xs[i]? with
    | none => rw [e] at q1; cases q1
    | some x => rw [e] at q1; cases q1
theorem noOwn {vs : List V} {xs : List PyData} {a : Addr} (h : Own (vs.map some) ((xs.map B.d).map some) a) : False := by
  obtain ⟨i, ys, q, _⟩ := h
  rw [List.getElem?_map, List.getElem?_map] at q
  cases e : xs[i]? with
  | none => rw [e] at q; cases q
  | some x => rw [e] at q; cases q
theorem fn_svS {f : Addr} {fd : FuncData} {pv : Str} {m : Nat} (D : FunD K x x (defArgs st) (defBody st) (defScope st) [] [] f fd) (S : FnScope N (ps ++ [pv]) (defScope st)) (hm : ps.length = m)
    (hb : ∀ (kV doc pm : Value) (an : Option Addr) (cdv ct : Value) (us rest : List Value), us.length = ps.length → bindArgs (PySem.W.fnOf x x (defArgs st) (defBody st) (defScope st) .none kV doc pm an cdv ct) ⟨us ++ rest, []⟩ = (newTuple rest >>= fun t => pure (ps.zip us ++ [(pv, t)])))
    (hB : ∀ (cdv : Value) (A : Around) (outer : List PySem.Env) (s : Shared) (H : Hp) (E : XK), RoomG k (A.deeper (envOfC x (defScope st) s.heap.objs.size f cdv)) →
      JB (cxOf (CX P w) P w K mg base N x (defScope st) f cdv A outer s H E) (fun cls d _ H => E cls d H) io (defBody st) c) : FnS P w K mg base (k + 1) f (starF m (fnD N.length io c)) := by
  subst hm
  obtain ⟨oc, od, dV, kV, doc, pm, an, cdv, ct, osl, rfl, lk, hcd, hD, _⟩ := D.ex
  obtain rfl : dV = .none := by
    rcases hD with ⟨_, e⟩ | ⟨e, _⟩
    · exact e
    · exact absurd rfl e
  refine ⟨fun A outer s H us vs bs Q E hr e0 rv er fin => ?_⟩
  unfold starF at fin
  cases eb : dataB bs with
  | none => rw [eb] at fin; exact fin.elim
  | some xs =>
    rw [eb] at fin
    simp only at fin
    split at fin
    · rename_i hlen
      have ebs := dataB_eq eb
      subst ebs
      have fz := fz_of_env er
      have hvl := fz.length
      obtain ⟨u1, u2, eu, r1, r2⟩ := vals_split (ws := vs.take ps.length) (rest := vs.drop ps.length) (by rw [List.take_append_drop]; exact rv)
      subst eu
      have hn : H s.heap.objs.size = Option.none := e0.hok.fresh (Nat.le_refl _)
      have hl0 : (vs.take ps.length).length = ps.length := by rw [List.length_take]; omega
      have hl1 : u1.length = ps.length := by rw [← r1.length]; exact hl0
      have hz : (vs.drop ps.length).length ≤ sizeLine := by rw [List.length_drop]; omega
      have hl2 : u2.length ≤ sizeLine := by rw [← r2.length]; exact hz
      refine run_bnd lk hcd S hr.room e0 (G := fun zs H2 => ∃ p, H p = Option.none ∧ zs = vs.take ps.length ++ [V.ref p] ∧ H2 = upd H p (.tup (vs.drop ps.length))) (fun A' Ex Q' h => ?_) fun s2 H2 zs ⟨p, hp, ex, eH⟩ hr' => ?_
      · rw [hb kV doc pm an cdv ct u1 u2 hl1]
        refine wpAny_bind (wpAny_newTuple (wpAny_pure ?_) hl2)
        have new : ObjOk P w (upd H s.heap.objs.size (.tup (vs.drop ps.length))) (s.heap.push ({ cls := .type "tuple", data := .seq u2.toArray } : Obj)) s.heap.objs.size (.tup (vs.drop ps.length)) := ⟨hz, u2, r2, ⟨_, Heap.get?_push_size _ rfl, rfl, _, rfl⟩⟩
        have un := un_laid (fs := frs outer) (s := s) (o := ({ cls := .type "tuple", data := .seq u2.toArray } : Obj)) (u := .tup (vs.drop ps.length)) hn
        have z := h _ _ (vs.take ps.length ++ [V.ref s.heap.objs.size]) (u1 ++ [Value.ref s.heap.objs.size]) (env0_laid e0 new) un rfl (fun e s' => cxUp outer s H _ _ E e s' un (fun b o q => Heap.get?_push_of_some _ q) rfl) (r1.append (.cons rfl .nil))
          (by rw [List.length_append, List.length_append, hl0] <;> rfl) ⟨_, hn, rfl, rfl⟩
        rw [List.zip_append hl1.symm] at z
        exact z
      · subst ex eH
        have BJ := hB cdv A outer s2 (upd H p (.tup (vs.drop ps.length))) E ⟨hr', hr.gd⟩
        refine ⟨_, BJ, ?_⟩
        have gr : ∀ b o, H b = some o → upd H p (.tup (vs.drop ps.length)) b = some o := grow_upd hp
        have fz2 : FzAll K (upd H p (.tup (vs.drop ps.length))) vs xs := fz.keep fun b o h _ => gr b o h
        have fzT : FzAll K (upd H p (.tup (vs.drop ps.length))) (vs.take ps.length ++ [V.ref p]) (xs.take ps.length ++ [.tuple (xs.drop ps.length)]) :=
          (fz2.take ps.length).append (.cons (.tup (.inl (.inl upd_same)) (fz2.drop ps.length)) .nil)
        have eA : EnvRel K (upd H p (.tup (vs.drop ps.length))) ((vs.take ps.length ++ [V.ref p]).map some) (((xs.take ps.length ++ [PyData.tuple (xs.drop ps.length)]).map B.d).map some) := env_of_fz fzT
        have ebs : (xs.take ps.length ++ [PyData.tuple (xs.drop ps.length)]).map B.d = (xs.take ps.length).map B.d ++ [B.d (.tuple (xs.drop ps.length))] := by simp
        have hlN : (vs.take ps.length ++ [V.ref p]).length ≤ N.length := by
          have e := congrArg List.length S.pre
          rw [List.length_take, List.length_append] at e
          rw [List.length_append, hl0]
          simp at e ⊢
          omega
        have er0 := eA.start (N := N) hlN
        rw [ebs] at er0
        have back : ∀ {H1 : Hp} {qs : List (Option B)}, Pst K (upd H p (.tup (vs.drop ps.length))) ((vs.take ps.length ++ [V.ref p]).map some) (((xs.take ps.length ++ [PyData.tuple (xs.drop ps.length)]).map B.d).map some) H1 ((vs.take ps.length ++ [V.ref p]).map some) qs →
            Pst K H (vs.map some) ((xs.map B.d).map some) H1 (vs.map some) ((xs.map B.d).map some) := fun {H1 qs} q => by
          have st : ∀ b o, H b = some o → H1 b = some o := fun b o h => q.keep b o (gr b o h) fun w => noOwn w
          exact ⟨env_of_fz (fz.keep fun b o h _ => st b o h), fun b o h _ => st b o h, fun a w => (noOwn w).elim, fun b h => by
            cases e : H b with
            | none => exact absurd e h
            | some o => rw [st b o e]; exact fun z => nomatch z⟩
        unfold fnD at fin
        refine ⟨_, er0, ?_⟩
        cases e : c (((xs.take ps.length).map B.d ++ [B.d (.tuple (xs.drop ps.length))]).map some ++ List.replicate (N.length - ((xs.take ps.length).map B.d ++ [B.d (.tuple (xs.drop ps.length))]).length) none) with
        | nx e1 =>
          rw [e] at fin
          refine fun σ1 H1 q y => fin .non H1 (back (Pst.out eA (ebs ▸ er0) (ebs ▸ q) y)) .non
        | rt b e1 =>
          rw [e] at fin
          refine fun v σ1 H1 q y d => fin v H1 (back (Pst.out eA (ebs ▸ er0) (ebs ▸ q) y)) ?_
          cases b with
          | d z => exact d
          | l zs =>
            obtain ⟨a, ys, ev, g1, g2, g3, g4⟩ := d
            refine ⟨a, ys, ev, g1, g2, fun w => noOwn w, .inr ?_⟩
            rcases g4 with g4 | g4
            · rw [← ebs] at g4
              exact (noOwn (own_start.mp g4)).elim
            · cases eh : H a with
              | none => rfl
              | some o => rw [gr a o eh] at g4; cases g4
        | ex z e1 =>
          rw [e] at fin
          exact fun cls dd σ1 H1 q y d => fin cls dd H1 (back (Pst.out eA (ebs ▸ er0) (ebs ▸ q) y)) d
        | bk e1 => rw [e] at fin; exact fin.elim
        | ct e1 => rw [e] at fin; exact fin.elim
        | no => rw [e] at fin; exact fin.elim
    · exact fin.elim
end
section
variable {X : Cx} {W : WX} {k : Nat} {f : Addr} {F : Fn}
theorem call_runS {pins : List (Addr × Obj)} {σ : St} {H H1 : Hp} {s : Shared} {ρ ρ1 : Env} {us : List Value} {vs : List V} {hs : List Hd} {Q : VK} (G : FnS X.prog X.w X.K X.mg X.base k f F) (hr : RoomG k X.A) (tk : Takes X W)
    (I : Inv X pins σ H1 s) (r : Vals vs us) (p : Pst X.K H σ ρ H1 σ ρ1) (dn : DenA X.K H1 σ vs hs)
    (fin : Fin X.K X.mg W σ H ρ (fun H2 ρ2 v h => DenR X.K H σ ρ H2 σ ρ2 v h) (callB F hs ρ1) Q) : wpAny (model X.prog X.w) X.A (call (.ref f) us) (EP X pins σ Q) X.xe s := by
  have fin1 := Fin.laterC p fin
  unfold callB at fin1
  cases ea : argsB hs ρ1 with
  | none => rw [ea] at fin1; exact fin1.elim
  | some bs =>
    rw [ea] at fin1
    simp only at fin1
    by_cases nd : (slotsOf hs).Nodup
    · rw [if_pos nd] at fin1
      have er := p.env.args dn ea nd
      have want : FinF X.K X.mg H1 vs bs Q (WE W σ) (F bs) := by
        cases ef : F bs with
        | ok b qs =>
          rw [ef] at fin1
          intro v H2 q d
          refine fin1 v H2 (Pst.back p.env dn ea nd q) ?_
          cases b with
          | d x => exact d
          | l xs =>
            obtain ⟨a, ys, rfl, h1, h2, h3, h4⟩ := d
            refine ⟨a, ys, rfl, h1, h2, fun w => ?_, ?_⟩
            · obtain ⟨i, zs, w1, w2⟩ := w
              have lp : hs.length ≤ qs.length := by
                have e1 := q.env.len
                simp only [List.length_map] at e1
                have e2 := dn.length
                omega
              rcases back_get hs qs ρ1 nd lp i with ⟨j, xs', g1, g2, g3⟩ | ⟨g1, g2⟩
              · obtain ⟨v', g4, g5⟩ := dn.get g1
                have ev : v' = .ref a := Option.some.inj (Option.some.inj (g5.symm.trans w2))
                subst ev
                exact h3 ⟨j, zs, by rw [← g3]; exact w1, by rw [List.getElem?_map, g4]; rfl⟩
              · rw [g1] at w1
                rcases h4 with w | w
                · obtain ⟨j, i', zs', q1, q2, q3⟩ := own_args dn ea w
                  have : i' = i := p.env.inj i' i zs' zs a q2 w1 q3 w2
                  subst this
                  exact g2 j zs' q1 q2
                · obtain ⟨zs', g⟩ := p.env.owned ⟨i, zs, w1, w2⟩
                  rw [w] at g
                  cases g
            · rcases h4 with w | w
              · obtain ⟨j, i', zs', _, q2, q3⟩ := own_args dn ea w
                exact .inl ⟨i', zs', q2, q3⟩
              · exact .inr w
        | ex x qs =>
          rw [ef] at fin1
          exact fun cls dd H2 q d => fin1 cls dd H2 (Pst.back p.env dn ea nd q) d
        | no => rw [ef] at fin1; exact fin1
      refine wpAny_call (codeAny_mono (G.run X.A X.stack s H1 us vs bs Q (WE W σ) hr I.env0 r er want) fun res s' hq => ?_)
      cases res with
      | error e => exact passAt tk σ pins H1 s e s' I hq
      | ok fl =>
        cases fl with
        | ret u => exact I.after hq
        | next => exact hq.elim
        | brk => exact hq.elim
        | cont => exact hq.elim
    · rw [if_neg nd] at fin1
      exact fin1.elim
variable {x : Str} {p pos : Pos} {e : Expr} {es : List Expr} {a : Ad}
/-- a def of the top that takes any number of arguments, and what it does -/
def Fun2 (P : Program) (w : World) (K : PySem.W.Frag) (mg : Str → Option Value) (base : Heap) (k : Nat) (x : Str) (F : Fn) : Prop :=
  ∃ f, FnS P w K mg base k f F ∧ PySem.W.keepIn K (.ref f) = true ∧ mg x = some (.ref f)
theorem e_fS {j : Nat} (G : Fun2 X.prog X.w X.K X.mg X.base j x F) (hr : RoomG j X.A) (hg : Gl X x) (tk : Takes X W) (ha : JA X W (e :: es) a)
    (hdb : (x == ("__debug__" : Str)) = false := by decide) (he : starEach (e :: es) X.env = (false, eval e X.env) :: starEach es X.env := by rfl) (hpl : (backTo pos (starEach es X.env)).any (·.1) = false := by rfl) : JE X W (.Call (.Name x p) (e :: es) [] pos) (cFn F a) := by
  obtain ⟨f, G, hk, hm⟩ := G
  refine ⟨fun pins s σ H Q I ⟨ρ, er, f0⟩ => ?_⟩
  refine wpAny_Call_Name_kw (ld_glob I hg hm ?_ hdb)
  refine PySem.W.callWith_K (h₀ := X.base) I.ok.mod.kin hk (thn (ha.run pos pins s σ H (fun vs H1 => ∃ hs ρ1, Pst X.K H σ ρ H1 σ ρ1 ∧ DenA X.K H1 σ vs hs ∧
    Fin X.K X.mg W σ H ρ (fun H2 ρ2 v h => DenR X.K H σ ρ H2 σ ρ2 v h) (callB F hs ρ1) Q) I ⟨ρ, er, ?_⟩) fun us s1 ⟨vs, H1, I1, r, hs, ρ1, q, dn, fin⟩ => ⟨I1.kIn, call_runS G hr tk I1 r q dn fin⟩) he hpl
  exact Fin.part (cFn_eq F a ρ ▸ f0) fun hs ρ1 c1 f1 vs H1 q dn => ⟨hs, ρ1, q, dn, f1⟩
end
section
variable {P : Program} {w : World} {K : PySem.W.Frag} {mg : Str → Option Value} {base : Heap} {k : Nat} {x : Str} {ps N : List Str} {st : Stmt} {io : List Nat} {c : Sd}
abbrev BindS (x : Str) (st : Stmt) (ps : List Str) (pv : Str) : Prop := ∀ (kV doc pm : Value) (an : Option Addr) (cdv ct : Value) (us rest : List Value), us.length = ps.length → bindArgs (PySem.W.fnOf x x (defArgs st) (defBody st) (defScope st) .none kV doc pm an cdv ct) ⟨us ++ rest, []⟩ = (newTuple rest >>= fun t => pure (ps.zip us ++ [(pv, t)]))
theorem def_svS {pv : Str} {m : Nat} (D : DefF K mg x st []) (S : FnScope N (ps ++ [pv]) (defScope st)) (hm : ps.length = m) (hb : BindS x st ps pv) (hB : BodyJ P w K mg base k x N st io c) : Fun2 P w K mg base (k + 1) x (starF m (fnD N.length io c)) := by
  obtain ⟨fd, F, g⟩ := D
  exact ⟨_, fn_svS F S hm hb hB, F.kp, g⟩
end
end Sv
end
section
set_option autoImplicit false
set_option linter.all false
set_option maxRecDepth 100000
/-! printed by gen.py: the defs of seenabove_k02_documents_made -/
namespace K02
open PySem PySem.Spec L2 Sv
open PyProof.Rows hiding St
def top (i : Nat) : Stmt := PySem.Challenge.pw_seenabove_k02_documents_made.main.body.getD i (.Pass ⟨0, 0, 0, 0⟩)
def N_size_in : List Str := ["document", "total", "waiting"]
def wt_size_in_0 : Td := (Sv.tB (cOp neP (cVar 2) (cP (cLst aNil))))
def wb_size_in_1 : Sd := (sCons (sAug 1 augAdd (cK (.int 1)))
    (sExpr (cMeth mExtend 2 (aCons (cE (cSl slP (cP (cMeth mPop 2 aNil)) (some (cK (.int 1))) none)) aNil))))
def d_size_in : Fn := fnD 3 [0]
   ((sCons (sSet 1 (cK (.int 0)))
    (sCons (sSet 2 (cLst (aCons (cE (cVar 0)) aNil)))
    (sCons (sWhile wt_size_in_0 wb_size_in_1 100000)
    (sRet (cVar 1))))))
def N_ordered_documents : List Str := ["documents", "found", "total", "document"]
def ce_ordered_documents_0 : Cd := (cTup (aCons (cE (cFn d_size_in (aCons (cVar 3) aNil))) (aCons (cE (cVar 3)) aNil)))
def fb_ordered_documents_1 : Sd := (sIf (Sv.tOr (Sv.tB (cOp eqP (cVar 1) (cP (cLst aNil)))) (Sv.tB (cOp neP (cP (cOp getP (cVar 1) (cP (cUn negP (cK (.int 1)))))) (cVar 3)))) (sExpr (cMeth mAppend 1 (aCons (cE (cVar 3)) aNil))) sNil)
def d_ordered_documents : Fn := fnD 4 [0]
   ((sCons (sSet 1 (cLst aNil))
    (sCons (sFor (wSeq (cCall (one sortedP) (aCons (cP (cComp [3] (wSeq (cVar 0)) (gN 3) tYes ce_ordered_documents_0)) aNil))) (gT [(gN 2), (gN 3)]) fb_ordered_documents_1)
    (sRet (cVar 1)))))
def N_is_name : List Str := ["value", "sign"]
def ce_is_name_0 : Cd := (cOp (toP inB) (cVar 1) (cK (.str "abcdefghijklmnopqrstuvwxyz")))
def d_is_name : Fn := fnD 2 [0]
   ((sRet (cAnd (cP (cUn (isP isStr) (cVar 0))) (cAnd (cP (cChain leB leB (cK (.int 1)) (cP (cCall (one lenP) (aCons (cVar 0) aNil))) (cK (.int 8)))) (cCall (one allP) (aCons (cP (cComp [1] (wStr (cVar 0)) (gN 1) tYes ce_is_name_0)) aNil))))))
def N_is_tree : List Str := ["value", "most", "waiting", "total", "tree"]
def wt_is_tree_0 : Td := (Sv.tB (cOp neP (cVar 2) (cP (cLst aNil))))
def wb_is_tree_1 : Sd := (sCons (sSet 4 (cMeth mPop 2 aNil))
    (sCons (sAug 3 augAdd (cK (.int 1)))
    (sCons (sIf (Sv.tAnd (Sv.tB (cOp (toP isNotB) (cVar 1) (cK .none))) (Sv.tB (cOp (toP gtB) (cVar 3) (cVar 1)))) (sRet (cK (.bool false))) sNil)
    (sCons (sIf (Sv.tOr (Sv.tNot (Sv.tB (cP (cUn (isP isTup) (cVar 4))))) (Sv.tOr (Sv.tB (cOp eqP (cVar 4) (cP (cTup aNil)))) (Sv.tNot (Sv.tB (cP (cFn d_is_name (aCons (cP (cOp getP (cVar 4) (cK (.int 0)))) aNil))))))) (sRet (cK (.bool false))) sNil)
    (sExpr (cMeth mExtend 2 (aCons (cE (cSl slP (cVar 4) (some (cK (.int 1))) none)) aNil)))))))
def d_is_tree : Fn := fnD 5 [0, 1]
   ((sCons (sSet 2 (cLst (aCons (cE (cVar 0)) aNil)))
    (sCons (sSet 3 (cK (.int 0)))
    (sCons (sWhile wt_is_tree_0 wb_is_tree_1 100000)
    (sRet (cK (.bool true)))))))
def N_is_document : List Str := ["value"]
def d_is_document : Fn := fnD 1 [0]
   ((sRet (cFn d_is_tree (aCons (cVar 0) (aCons (cK (.int 200)) aNil)))))
def N_sorted_documents : List Str := ["documents", "document"]
def ce_sorted_documents_0 : Cd := (cFn d_is_document (aCons (cVar 1) aNil))
def d_sorted_documents : Fn := fnD 2 [0]
   ((sCons (sIf (Sv.tOr (Sv.tNot (Sv.tB (cP (cUn (isP isTup) (cVar 0))))) (Sv.tNot (Sv.tB (cP (cCall (one allP) (aCons (cP (cComp [1] (wSeq (cVar 0)) (gN 1) tYes ce_sorted_documents_0)) aNil)))))) (sRaise ⟨"InvalidDocument", []⟩) sNil)
    (sRet (cCall (one tupleP) (aCons (cP (cFn d_ordered_documents (aCons (cVar 0) aNil))) aNil)))))
def N_tap : List Str := ["_law_script", "_law_at_here", "_law_cell", "_law_great", "_law_mixed"]
def d_tap : Fn := fnD 5 [0, 1]
   ((sCons (sSet 2 (cOp addP (cP (cOp mulP (cK (.int 17)) (cVar 1))) (cK (.int 3))))
    (sCons (sIf (Sv.tB (cOp (toP ltB) (cVar 1) (cP (cCall (one lenP) (aCons (cVar 0) aNil))))) (sSet 2 (cOp getP (cVar 0) (cVar 1))) sNil)
    (sCons (sSet 3 (cOp modP (cP (cCall (one intP) (aCons (cP (cCall (one absP) (aCons (cVar 2) aNil))) aNil))) (cP (cOp powP (cP (cOp powP (cK (.int 10)) (cK (.int 60)))) (cK (.int 12))))))
    (sCons (sSet 4 (cOp addP (cP (cOp addP (cP (cOp addP (cP (cOp mulP (cP (cOp modP (cP (cCall (one intP) (aCons (cVar 3) aNil))) (cK (.int 2147483549)))) (cK (.int 48271)))) (cP (cOp mulP (cK (.int 1009)) (cVar 1))))) (cP (cOp mulP (cK (.int 7)) (cP (cCall (one intP) (aCons (cP (cOp (toP ltB) (cVar 2) (cK (.int 0)))) aNil))))))) (cK (.int 29))))
    (sRet (cLst (aCons (cE (cCall (two max2P) (aCons (cK (.int 0)) (aCons (cP (cOp subP (cVar 3) (cP (cOp powP (cK (.int 10)) (cK (.int 18)))))) aNil)))) (aCons (cE (cOp modP (cP (cCall (one intP) (aCons (cVar 4) aNil))) (cK (.int 2147483543)))) (aCons (cK (.int 0)) aNil))))))))))
def N_turn : List Str := ["_law_tap_here", "_law_total", "_law_found", "_law_one", "_law_two"]
def d_turn : Fn := fnD 5 [0, 1]
   ((sCons (sIf (Sv.tB (cOp (toP gtB) (cP (cOp getP (cVar 0) (cK (.int 0)))) (cK (.int 0)))) (sCons (sSet 2 (cOp modP (cP (cCall (one intP) (aCons (cP (cOp getP (cVar 0) (cK (.int 0)))) aNil))) (cVar 1)))
    (sCons (sSetIx setD 0 (cK (.int 0)) (cOp fdivP (cP (cOp getP (cVar 0) (cK (.int 0)))) (cVar 1)))
    (sRet (cVar 2)))) sNil)
    (sCons (sSetIx setD 0 (cK (.int 2)) (cOp addP (cP (cOp getP (cVar 0) (cK (.int 2)))) (cK (.int 1))))
    (sCons (sSet 3 (cOp modP (cP (cCall (one intP) (aCons (cP (cOp addP (cP (cOp getP (cVar 0) (cK (.int 1)))) (cP (cOp mulP (cK (.int 1000151)) (cP (cOp getP (cVar 0) (cK (.int 2)))))))) aNil))) (cK (.int 2305843009213693951))))
    (sCons (sSet 4 (cOp addP (cP (cOp mulP (cP (cOp modP (cP (cCall (one intP) (aCons (cP (cOp mulP (cVar 3) (cVar 3))) aNil))) (cK (.int 2305843009213693921)))) (cVar 3))) (cP (cOp mulP (cK (.int 9173)) (cP (cOp getP (cVar 0) (cK (.int 2))))))))
    (sRet (cOp modP (cP (cCall (one intP) (aCons (cP (cOp fdivP (cP (cOp modP (cP (cCall (one intP) (aCons (cVar 4) aNil))) (cK (.int 2305843009213693907)))) (cK (.int 4096)))) aNil))) (cVar 1))))))))
def N_labels : List Str := ["_law_tap_here", "_law_found"]
def d_labels : Fn := fnD 2 [0]
   ((sCons (sSet 1 (cOp getP (cP (cLst (aCons (cE (cLst (aCons (cK (.str "a")) aNil))) (aCons (cE (cLst (aCons (cK (.str "a")) (aCons (cK (.str "b")) aNil)))) (aCons (cE (cLst (aCons (cK (.str "a")) (aCons (cK (.str "b")) (aCons (cK (.str "c")) aNil))))) (aCons (cE (cLst (aCons (cK (.str "ab")) (aCons (cK (.str "b")) (aCons (cK (.str "abcdefgh")) aNil))))) aNil)))))) (cP (cFn d_turn (aCons (cVar 0) (aCons (cK (.int 4)) aNil))))))
    (sRet (cVar 1))))
def N_weight : List Str := ["_law_tree_here", "_law_part"]
def ce_weight_0 (F : Fn) : Cd := (cFn F (aCons (cVar 1) aNil))
def d_weight : Nat → Fn
  | 0 => fun _ => .no
  | n + 1 => fnD 2 [0]
   ((sRet (cOp addP (cK (.int 1)) (cP (cCall (one sumP) (aCons (cP (cComp [1] (wSeq (cSl slP (cVar 0) (some (cK (.int 1))) none)) (gN 1) tYes (ce_weight_0 (d_weight n)))) aNil))))))
def N_pick : List Str := ["_law_tap_here", "_law_items"]
def d_pick : Fn := fnD 2 [0, 1]
   ((sRet (cOp getP (cVar 1) (cP (cFn d_turn (aCons (cVar 0) (aCons (cP (cCall (one lenP) (aCons (cVar 1) aNil))) aNil)))))))
def N_tree : List Str := ["_law_tap_here", "_law_labels_here", "_law_room", "_law_inner", "_law_left", "_law_part"]
def wt_tree_0 (F : Fn) : Td := (Sv.tAnd (Sv.tB (cOp (toP gtB) (cVar 4) (cK (.int 0)))) (Sv.tB (cOp (toP gtB) (cP (cFn d_turn (aCons (cVar 0) (aCons (cK (.int 3)) aNil)))) (cK (.int 0)))))
def wb_tree_1 (F : Fn) : Sd := (sCons (sSet 5 (cFn F (aCons (cVar 0) (aCons (cVar 1) (aCons (cP (cOp addP (cK (.int 1)) (cP (cFn d_turn (aCons (cVar 0) (aCons (cVar 4) aNil)))))) aNil)))))
    (sCons (sExpr (cMeth mAppend 3 (aCons (cE (cVar 5)) aNil)))
    (sSet 4 (cOp subP (cVar 4) (cP (cFn (d_weight 60) (aCons (cVar 5) aNil)))))))
def d_tree : Nat → Fn
  | 0 => fun _ => .no
  | n + 1 => fnD 6 [0, 1, 2]
   ((sCons (sPar2 3 4 (cLst aNil) (cOp subP (cVar 2) (cK (.int 1))))
    (sCons (sWhile (wt_tree_0 (d_tree n)) (wb_tree_1 (d_tree n)) 100000)
    (sRet (cOp addP (cP (cTup (aCons (cE (cFn d_pick (aCons (cVar 0) (aCons (cVar 1) aNil)))) aNil))) (cP (cCall (one tupleP) (aCons (cVar 3) aNil))))))))
def N_spots : List Str := ["_law_tree_here", "_law_found", "_law_at_here", "_law_part", "_law_spot"]
def ce_spots_0 (F : Fn) : Cd := (cOp addP (cP (cTup (aCons (cE (cVar 2)) aNil))) (cVar 4))
def fb_spots_1 (F : Fn) : Sd := (sExpr (cMeth mExtend 1 (aCons (cE (cComp [4] (wSeq (cFn F (aCons (cVar 3) aNil))) (gN 4) tYes (ce_spots_0 F))) aNil)))
def d_spots : Nat → Fn
  | 0 => fun _ => .no
  | n + 1 => fnD 5 [0]
   ((sCons (sSet 1 (cLst (aCons (cE (cTup aNil)) aNil)))
    (sCons (sFor (wEnum (cSl slP (cVar 0) (some (cK (.int 1))) none)) (gT [(gN 2), (gN 3)]) (fb_spots_1 (d_spots n)))
    (sRet (cVar 1)))))
def N_at : List Str := ["_law_tree_here", "_law_spot"]
def d_at : Nat → Fn
  | 0 => fun _ => .no
  | n + 1 => fnD 2 [0, 1]
   ((sRet (cIf (Sv.tB (cOp eqP (cVar 1) (cP (cTup aNil)))) (cVar 0) (cFn (d_at n) (aCons (cP (cOp getP (cVar 0) (cP (cOp addP (cP (cOp getP (cVar 1) (cK (.int 0)))) (cK (.int 1)))))) (aCons (cP (cSl slP (cVar 1) (some (cK (.int 1))) none)) aNil))))))
def N_document_from : List Str := ["label", "children", "child"]
def ce_document_from_0 : Cd := (cFn d_size_in (aCons (cVar 2) aNil))
def ce_document_from_1 : Cd := (cFn d_is_document (aCons (cVar 2) aNil))
def d_document_from : Fn := fnD 3 [0, 1]
   ((sCons (sIf (Sv.tNot (Sv.tB (cP (cFn d_is_name (aCons (cVar 0) aNil))))) (sRaise ⟨"InvalidName", []⟩) sNil)
    (sCons (sIf (Sv.tOr (Sv.tNot (Sv.tB (cP (cUn (isP isTup) (cVar 1))))) (Sv.tNot (Sv.tB (cP (cCall (one allP) (aCons (cP (cComp [2] (wSeq (cVar 1)) (gN 2) tYes ce_document_from_1)) aNil)))))) (sRaise ⟨"InvalidDocument", []⟩) sNil)
    (sCons (sIf (Sv.tB (cOp (toP gtB) (cP (cOp addP (cP (cCall (one sumP) (aCons (cP (cComp [2] (wSeq (cVar 1)) (gN 2) tYes ce_document_from_0)) aNil))) (cK (.int 1)))) (cK (.int 200)))) sNo sNil)
    (sRet (cTup (aCons (cE (cVar 0)) (aStar (cVar 1) aNil))))))))
def N_make_document : List Str := ["label", "children"]
def d_make_document : Fn := starF 1 <| fnD 2 [0, 1]
   ((sRet (cFn d_document_from (aCons (cVar 0) (aCons (cVar 1) aNil)))))
def N_put : List Str := ["_law_tree_here", "_law_spot", "_law_part", "_law_place"]
def d_put : Nat → Fn
  | 0 => fun _ => .no
  | n + 1 => fnD 4 [0, 1, 2]
   ((sCons (sIf (Sv.tB (cOp eqP (cVar 1) (cP (cTup aNil)))) (sRet (cVar 2)) sNil)
    (sCons (sSet 3 (cOp addP (cP (cOp getP (cVar 1) (cK (.int 0)))) (cK (.int 1))))
    (sRet (cOp addP (cP (cOp addP (cP (cSl slP (cVar 0) none (some (cVar 3)))) (cP (cTup (aCons (cE (cFn (d_put n) (aCons (cP (cOp getP (cVar 0) (cVar 3))) (aCons (cP (cSl slP (cVar 1) (some (cK (.int 1))) none)) (aCons (cVar 2) aNil))))) aNil))))) (cP (cSl slP (cVar 0) (some (cP (cOp addP (cVar 3) (cK (.int 1))))) none)))))))
def N_require_document : List Str := ["document"]
def d_require_document : Fn := fnD 1 [0]
   ((sIf (Sv.tNot (Sv.tB (cP (cFn d_is_document (aCons (cVar 0) aNil))))) (sRaise ⟨"InvalidDocument", []⟩) sNil))
def N_is_integer : List Str := ["value"]
def d_is_integer : Fn := fnD 1 [0]
   ((sRet (cAnd (cP (cUn (isP isInt) (cVar 0))) (cNot (cP (cUn (isP isBool) (cVar 0)))))))
def N_is_node_in : List Str := ["document", "value", "here", "position"]
def fb_is_node_in_0 : Sd := (sCons (sIf (Sv.tOr (Sv.tNot (Sv.tB (cP (cFn d_is_integer (aCons (cVar 3) aNil))))) (Sv.tNot (Sv.tB (cChain leB ltB (cK (.int 0)) (cVar 3) (cP (cOp subP (cP (cCall (one lenP) (aCons (cVar 2) aNil))) (cK (.int 1)))))))) (sRet (cK (.bool false))) sNil)
    (sSet 2 (cOp getP (cVar 2) (cP (cOp addP (cVar 3) (cK (.int 1)))))))
def d_is_node_in : Fn := fnD 4 [0, 1]
   ((sCons (sIf (Sv.tNot (Sv.tB (cP (cUn (isP isTup) (cVar 1))))) (sRet (cK (.bool false))) sNil)
    (sCons (sSet 2 (cVar 0))
    (sCons (sFor (wSeq (cVar 1)) (gN 3) fb_is_node_in_0)
    (sRet (cK (.bool true)))))))
def N_require_node : List Str := ["document", "node"]
def d_require_node : Fn := fnD 2 [0, 1]
   ((sIf (Sv.tNot (Sv.tB (cP (cFn d_is_node_in (aCons (cVar 0) (aCons (cVar 1) aNil)))))) sNo sNil))
def N_put_in : List Str := ["document", "node", "part", "above", "position", "at", "place"]
def fb_put_in_0 : Sd := (sCons (sSet 6 (cOp addP (cP (cOp getP (cVar 1) (cVar 5))) (cK (.int 1))))
    (sSet 2 (cTup (aStar (cSl slP (cP (cOp getP (cVar 3) (cVar 5))) none (some (cVar 6))) (aCons (cE (cVar 2)) (aStar (cSl slP (cP (cOp getP (cVar 3) (cVar 5))) (some (cP (cOp addP (cVar 6) (cK (.int 1))))) none) aNil))))))
def fb_put_in_1 : Sd := (sExpr (cMeth mAppend 3 (aCons (cE (cOp getP (cP (cOp getP (cVar 3) (cP (cUn negP (cK (.int 1)))))) (cP (cOp addP (cVar 4) (cK (.int 1)))))) aNil)))
def d_put_in : Fn := fnD 7 [0, 1]
   ((sCons (sSet 3 (cLst (aCons (cE (cVar 0)) aNil)))
    (sCons (sFor (wSeq (cVar 1)) (gN 4) fb_put_in_1)
    (sCons (sFor (wRangeDn (cP (cOp subP (cP (cCall (one lenP) (aCons (cVar 1) aNil))) (cK (.int 1)))) (cP (cUn negP (cK (.int 1))))) (gN 5) fb_put_in_0)
    (sRet (cVar 2))))))
def N_subtree_in : List Str := ["document", "node", "position"]
def fb_subtree_in_0 : Sd := (sSet 0 (cOp getP (cVar 0) (cP (cOp addP (cVar 2) (cK (.int 1))))))
def d_subtree_in : Fn := fnD 3 [1]
   ((sCons (sFor (wSeq (cVar 1)) (gN 2) fb_subtree_in_0)
    (sRet (cVar 0))))
def N_without_node : List Str := ["document", "node", "tree", "place"]
def d_without_node : Fn := fnD 4 [0, 1]
   ((sCons (sExpr (cFn d_require_document (aCons (cVar 0) aNil)))
    (sCons (sExpr (cFn d_require_node (aCons (cVar 0) (aCons (cVar 1) aNil))))
    (sCons (sIf (Sv.tB (cOp eqP (cVar 1) (cP (cTup aNil)))) (sRaise ⟨"InvalidOperation", []⟩) sNil)
    (sCons (sPar2 2 3 (cFn d_subtree_in (aCons (cVar 0) (aCons (cP (cSl slP (cVar 1) none (some (cP (cUn negP (cK (.int 1))))))) aNil))) (cOp addP (cP (cOp getP (cVar 1) (cP (cUn negP (cK (.int 1)))))) (cK (.int 1))))
    (sRet (cFn d_put_in (aCons (cVar 0) (aCons (cP (cSl slP (cVar 1) none (some (cP (cUn negP (cK (.int 1))))))) (aCons (cP (cTup (aStar (cSl slP (cVar 2) none (some (cVar 3))) (aStar (cSl slP (cVar 2) (some (cP (cOp addP (cVar 3) (cK (.int 1))))) none) aNil)))) aNil))))))))))
def N_cut : List Str := ["_law_tree_here", "_law_spot", "_law_above", "_law_place"]
def d_cut : Fn := fnD 4 [0, 1]
   ((sCons (sPar2 2 3 (cFn (d_at 40) (aCons (cVar 0) (aCons (cP (cSl slP (cVar 1) none (some (cP (cUn negP (cK (.int 1))))))) aNil))) (cOp addP (cP (cOp getP (cVar 1) (cP (cUn negP (cK (.int 1)))))) (cK (.int 1))))
    (sRet (cFn (d_put 40) (aCons (cVar 0) (aCons (cP (cSl slP (cVar 1) none (some (cP (cUn negP (cK (.int 1))))))) (aCons (cP (cOp addP (cP (cSl slP (cVar 2) none (some (cVar 3)))) (cP (cSl slP (cVar 2) (some (cP (cOp addP (cVar 3) (cK (.int 1))))) none)))) aNil)))))))
def N_require_small : List Str := ["document"]
def d_require_small : Fn := fnD 1 [0]
   ((sCons (sIf (Sv.tB (cOp (toP gtB) (cP (cFn d_size_in (aCons (cVar 0) aNil))) (cK (.int 200)))) sNo sNil)
    (sRet (cVar 0))))
def N_with_child : List Str := ["document", "node", "position", "child", "tree"]
def d_with_child : Fn := fnD 5 [0, 1, 2, 3]
   ((sCons (sExpr (cFn d_require_document (aCons (cVar 0) aNil)))
    (sCons (sExpr (cFn d_require_node (aCons (cVar 0) (aCons (cVar 1) aNil))))
    (sCons (sSet 4 (cFn d_subtree_in (aCons (cVar 0) (aCons (cVar 1) aNil))))
    (sCons (sIf (Sv.tOr (Sv.tNot (Sv.tB (cP (cFn d_is_integer (aCons (cVar 2) aNil))))) (Sv.tNot (Sv.tB (cChain leB ltB (cK (.int 0)) (cVar 2) (cP (cCall (one lenP) (aCons (cVar 4) aNil))))))) sNo sNil)
    (sCons (sExpr (cFn d_require_document (aCons (cVar 3) aNil)))
    (sRet (cFn d_require_small (aCons (cP (cFn d_put_in (aCons (cVar 0) (aCons (cVar 1) (aCons (cP (cTup (aStar (cSl slP (cVar 4) none (some (cP (cOp addP (cVar 2) (cK (.int 1)))))) (aCons (cE (cVar 3)) (aStar (cSl slP (cVar 4) (some (cP (cOp addP (cVar 2) (cK (.int 1))))) none) aNil))))) aNil))))) aNil)))))))))
def N_made_right : List Str := ["_law_tap_here", "_law_labels_here", "_law_trees", "_law_label", "_law_one", "_law_two", "_law_three", "_law_spots_here", "_law_spot", "_law_part", "_law_at_here", "_law_due", "_law_other"]
def fb_made_right_0 : Sd := (sIf (Sv.tB (cOp neP (cP (cFn d_without_node (aCons (cVar 4) (aCons (cVar 12) aNil)))) (cP (cFn d_cut (aCons (cVar 4) (aCons (cVar 12) aNil)))))) (sRet (cK (.bool false))) sNil)
def fb_made_right_1 : Sd := (sCons (sSet 11 (cFn (d_put 40) (aCons (cVar 4) (aCons (cVar 8) (aCons (cP (cOp addP (cP (cOp addP (cP (cSl slP (cVar 9) none (some (cP (cOp addP (cVar 10) (cK (.int 1))))))) (cP (cTup (aCons (cE (cVar 5)) aNil))))) (cP (cSl slP (cVar 9) (some (cP (cOp addP (cVar 10) (cK (.int 1))))) none)))) aNil)))))
    (sIf (Sv.tOr (Sv.tB (cOp neP (cP (cFn d_with_child (aCons (cVar 4) (aCons (cVar 8) (aCons (cVar 10) (aCons (cVar 5) aNil)))))) (cVar 11))) (Sv.tB (cOp neP (cP (cFn d_without_node (aCons (cVar 11) (aCons (cP (cOp addP (cVar 8) (cP (cTup (aCons (cE (cVar 10)) aNil))))) aNil)))) (cVar 4)))) (sRet (cK (.bool false))) sNil))
def d_made_right : Fn := fnD 13 [0, 1, 2]
   ((sCons (sSet 3 (cFn d_pick (aCons (cVar 0) (aCons (cVar 1) aNil))))
    (sCons (sIf (Sv.tOr (Sv.tB (cOp neP (cP (cFn d_make_document (aCons (cVar 3) aNil))) (cP (cTup (aCons (cE (cVar 3)) aNil))))) (Sv.tB (cOp neP (cP (cFn d_document_from (aCons (cVar 3) (aCons (cP (cTup aNil)) aNil)))) (cP (cTup (aCons (cE (cVar 3)) aNil)))))) (sRet (cK (.bool false))) sNil)
    (sCons (sPar3 4 5 6 (cOp getP (cVar 2) (cK (.int 0))) (cOp getP (cVar 2) (cK (.int 1))) (cOp getP (cVar 2) (cK (.int 2))))
    (sCons (sIf (Sv.tB (cOp neP (cP (cFn d_make_document (aCons (cVar 3) (aCons (cVar 4) aNil)))) (cP (cTup (aCons (cE (cVar 3)) (aCons (cE (cVar 4)) aNil)))))) (sRet (cK (.bool false))) sNil)
    (sCons (sIf (Sv.tB (cOp neP (cP (cFn d_make_document (aCons (cVar 3) (aCons (cVar 4) (aCons (cVar 5) (aCons (cVar 6) aNil)))))) (cP (cTup (aCons (cE (cVar 3)) (aCons (cE (cVar 4)) (aCons (cE (cVar 5)) (aCons (cE (cVar 6)) aNil)))))))) (sRet (cK (.bool false))) sNil)
    (sCons (sIf (Sv.tB (cOp neP (cP (cFn d_document_from (aCons (cVar 3) (aCons (cP (cTup (aCons (cE (cVar 5)) (aCons (cE (cVar 4)) aNil)))) aNil)))) (cP (cTup (aCons (cE (cVar 3)) (aCons (cE (cVar 5)) (aCons (cE (cVar 4)) aNil))))))) (sRet (cK (.bool false))) sNil)
    (sCons (sIf (Sv.tB (cOp neP (cP (cFn d_document_from (aCons (cVar 3) (aCons (cP (cCall (one tupleP) (aCons (cVar 2) aNil))) aNil)))) (cP (cOp addP (cP (cTup (aCons (cE (cVar 3)) aNil))) (cP (cCall (one tupleP) (aCons (cVar 2) aNil))))))) (sRet (cK (.bool false))) sNil)
    (sCons (sSet 7 (cFn (d_spots 40) (aCons (cVar 4) aNil)))
    (sCons (sSet 8 (cFn d_pick (aCons (cVar 0) (aCons (cVar 7) aNil))))
    (sCons (sSet 9 (cFn (d_at 40) (aCons (cVar 4) (aCons (cVar 8) aNil))))
    (sCons (sFor (wRange1 (cP (cCall (one lenP) (aCons (cVar 9) aNil)))) (gN 10) fb_made_right_1)
    (sCons (sFor (wSeq (cSl slP (cVar 7) (some (cK (.int 1))) none)) (gN 12) fb_made_right_0)
    (sRet (cK (.bool true))))))))))))))))
def N_sorted : List Str := ["_law_trees", "_law_found", "_law_total", "_law_tree_here"]
def ce_sorted_0 : Cd := (cTup (aCons (cE (cFn (d_weight 60) (aCons (cVar 3) aNil))) (aCons (cE (cVar 3)) aNil)))
def fb_sorted_1 : Sd := (sIf (Sv.tOr (Sv.tB (cOp eqP (cVar 1) (cP (cLst aNil)))) (Sv.tB (cOp neP (cP (cOp getP (cVar 1) (cP (cUn negP (cK (.int 1)))))) (cVar 3)))) (sExpr (cMeth mAppend 1 (aCons (cE (cVar 3)) aNil))) sNil)
def d_sorted : Fn := fnD 4 [0]
   ((sCons (sSet 1 (cLst aNil))
    (sCons (sFor (wSeq (cCall (one sortedP) (aCons (cP (cComp [3] (wSeq (cVar 0)) (gN 3) tYes ce_sorted_0)) aNil))) (gT [(gN 2), (gN 3)]) fb_sorted_1)
    (sRet (cVar 1)))))
def N_order_right : List Str := ["_law_tap_here", "_law_trees", "_law_left", "_law_mixed", "_law_turn_here", "_law_told"]
def fb_order_right_0 : Sd := (sExpr (cMeth mAppend 3 (aCons (cE (cMeth mPopAt 2 (aCons (cE (cFn d_turn (aCons (cVar 0) (aCons (cP (cCall (one lenP) (aCons (cVar 2) aNil))) aNil)))) aNil))) aNil)))
def ce_order_right_1 : Cd := (cFn d_pick (aCons (cVar 0) (aCons (cVar 1) aNil)))
def d_order_right : Fn := fnD 6 [0, 1]
   ((sCons (sPar2 2 3 (cOp addP (cVar 1) (cP (cComp [4] (wRange1 (cK (.int 3))) (gN 4) tYes ce_order_right_1))) (cLst aNil))
    (sCons (sFor (wRange1 (cP (cCall (one lenP) (aCons (cVar 2) aNil)))) (gN 4) fb_order_right_0)
    (sCons (sSet 5 (cFn d_sorted_documents (aCons (cP (cCall (one tupleP) (aCons (cVar 3) aNil))) aNil)))
    (sRet (cAnd (cP (cOp eqP (cP (cCall (one reprW) (aCons (cVar 5) aNil))) (cP (cCall (one reprW) (aCons (cP (cCall (one tupleP) (aCons (cP (cFn d_sorted (aCons (cVar 1) aNil))) aNil))) aNil))))) (cOp eqP (cP (cFn d_sorted_documents (aCons (cVar 5) aNil))) (cVar 5))))))))
def N_law : List Str := ["_law_script", "_law_trees", "_law_at_here", "_law_tap_here", "_law_labels_here", "_law_some", "_law_turn_here", "_law_before"]
def ce_law_0 : Cd := (cFn (d_tree 30) (aCons (cVar 3) (aCons (cVar 4) (aCons (cP (cOp addP (cK (.int 1)) (cP (cFn d_turn (aCons (cVar 3) (aCons (cK (.int 8)) aNil)))))) aNil))))
def fb_law_1 : Sd := (sCons (sSet 3 (cFn d_tap (aCons (cVar 0) (aCons (cVar 2) aNil))))
    (sCons (sSet 4 (cFn d_labels (aCons (cVar 3) aNil)))
    (sCons (sSet 5 (cComp [6] (wRange1 (cP (cOp addP (cK (.int 3)) (cP (cFn d_turn (aCons (cVar 3) (aCons (cK (.int 4)) aNil))))))) (gN 6) tYes ce_law_0))
    (sCons (sSet 7 (cCall (one reprW) (aCons (cVar 5) aNil)))
    (sIf (Sv.tOr (Sv.tNot (Sv.tB (cP (cFn d_made_right (aCons (cVar 3) (aCons (cVar 4) (aCons (cVar 5) aNil))))))) (Sv.tOr (Sv.tNot (Sv.tB (cP (cFn d_order_right (aCons (cVar 3) (aCons (cVar 5) aNil)))))) (Sv.tB (cOp neP (cP (cCall (one reprW) (aCons (cVar 5) aNil))) (cVar 7))))) (sRet (cK (.bool false))) sNil)))))
def c_law : Sd :=
   ((sCons (sIf (Sv.tB (cOp neP (cP (cFn d_sorted_documents (aCons (cP (cTup aNil)) aNil))) (cP (cTup aNil)))) (sRet (cK (.bool false))) sNil)
    (sCons (sIf (Sv.tB (cOp neP (cP (cFn d_sorted_documents (aCons (cP (cTup (aCons (cE (cTup (aCons (cK (.str "b")) aNil))) (aCons (cE (cTup (aCons (cK (.str "a")) (aCons (cE (cTup (aCons (cK (.str "a")) aNil))) aNil)))) (aCons (cE (cTup (aCons (cK (.str "a")) aNil))) aNil))))) aNil))) (cP (cTup (aCons (cE (cTup (aCons (cK (.str "a")) aNil))) (aCons (cE (cTup (aCons (cK (.str "b")) aNil))) (aCons (cE (cTup (aCons (cK (.str "a")) (aCons (cE (cTup (aCons (cK (.str "a")) aNil))) aNil)))) aNil))))))) (sRet (cK (.bool false))) sNil)
    (sCons (sSet 1 (cTup (aCons (cE (cTup (aCons (cK (.str "a")) (aCons (cE (cTup (aCons (cK (.str "b")) (aCons (cE (cTup (aCons (cK (.str "c")) aNil))) aNil)))) (aCons (cE (cTup (aCons (cK (.str "a")) aNil))) aNil))))) (aCons (cE (cTup (aCons (cK (.str "a")) (aCons (cE (cTup (aCons (cK (.str "b")) aNil))) (aCons (cE (cTup (aCons (cK (.str "b")) (aCons (cE (cTup (aCons (cK (.str "a")) aNil))) aNil)))) aNil))))) (aCons (cE (cTup (aCons (cK (.str "a")) (aCons (cE (cTup (aCons (cK (.str "b")) aNil))) (aCons (cE (cTup (aCons (cK (.str "a")) aNil))) (aCons (cE (cTup (aCons (cK (.str "a")) aNil))) aNil)))))) aNil)))))
    (sCons (sIf (Sv.tB (cOp neP (cP (cFn d_sorted_documents (aCons (cVar 1) aNil))) (cP (cTup (aCons (cE (cOp getP (cVar 1) (cK (.int 2)))) (aCons (cE (cOp getP (cVar 1) (cK (.int 1)))) (aCons (cE (cOp getP (cVar 1) (cK (.int 0)))) aNil))))))) (sRet (cK (.bool false))) sNil)
    (sCons (sFor (wRange1 (cP (cCall (two max2P) (aCons (cK (.int 1)) (aCons (cP (cCall (two min2P) (aCons (cK (.int 12)) (aCons (cP (cCall (one lenP) (aCons (cVar 0) aNil))) aNil)))) aNil))))) (gN 2) fb_law_1)
    (sRet (cK (.bool true)))))))))
def d_law : Fn := fnD 8 [0] c_law
end K02
end
section
set_option autoImplicit false
set_option linter.all false
set_option maxRecDepth 100000
namespace K02
open PySem Sv

theorem turn_spec (a b c t : Int) (ht : 0 < t) (ht2 : t < 1073741824) : ∃ r a' c', 0 ≤ r ∧ r < t ∧ d_turn [.l [.int a, .int b, .int c], .d (.int t)] = .ok (.d (.int r)) [some (.l [.int a', .int b, .int c']), some (.d (.int t))] := by
  by_cases h : 0 < a
  · refine ⟨a % t, a / t, c, Int.emod_nonneg _ (by omega), Int.emod_lt_of_pos _ ht, ?_⟩
    simp [d_turn, Sv.sNil, Sv.sCons, Sv.sPass, Sv.sBreak, Sv.sCont, Sv.sExpr, Sv.put, Sv.sSet, Sv.sRet, Sv.sRetN, Sv.sIf, Sv.cVar, Sv.cK, Sv.cE, Sv.cP, Sv.cOp, Sv.cUn, Sv.cChain, Sv.cIf, Sv.cAnd, Sv.cOr, Sv.cNot, Sv.tB, Sv.tAnd, Sv.tOr, Sv.tNot, Sv.tYes, Sv.aNil, Sv.aCons, Sv.aStar, Sv.cCall, Sv.cTup, Sv.cLst, Sv.cSl, Sv.cMeth, Sv.sSetIx, Sv.sPar2, Sv.sPar3, Sv.sAsg, Sv.sAug, Sv.hold, Sv.slot, Sv.outF, Sv.argsB, Sv.slotsOf, Sv.back, Sv.rds, Sv.datas, Sv.gN, Sv.gT, Sv.gL, Sv.gRun, Sv.cFn, Sv.fnD, Sv.sRaise, Sv.R.bind, Sv.R.opt, Sv.R.toS, Sv.RS.seq, Sv.Hd.rd, Sv.B.rd, Sv.toP, Sv.eqP, Sv.neP, Sv.one, Sv.two, Sv.getP, Sv.lenP, Sv.addP, Sv.subP, Sv.mulP, Sv.fdivP, Sv.modP, Sv.powP, Sv.intP, Sv.absP, Sv.max2P, Sv.min2P, Sv.negP, Sv.augAdd, Sv.setD, Sv.mAppend, Sv.ltB, Sv.gtB, Sv.leB, Sv.geB, Sv.ordB, Sv.small64, Sv.isP, Sv.wSeq, Sv.wRange1, Sv.sFor, h, ht, ht2, L2.atI, L2.ixN]
  · have b1 : ((b + 1000151 * (c + 1)) % 2305843009213693951).natAbs < 18446744073709551616 := by omega
    refine ⟨((((b + 1000151 * (c + 1)) % 2305843009213693951) * ((b + 1000151 * (c + 1)) % 2305843009213693951) % 2305843009213693921 * ((b + 1000151 * (c + 1)) % 2305843009213693951) + 9173 * (c + 1)) % 2305843009213693907 / 4096) % t, a, c + 1, Int.emod_nonneg _ (by omega), Int.emod_lt_of_pos _ ht, ?_⟩
    simp [d_turn, Sv.sNil, Sv.sCons, Sv.sPass, Sv.sBreak, Sv.sCont, Sv.sExpr, Sv.put, Sv.sSet, Sv.sRet, Sv.sRetN, Sv.sIf, Sv.cVar, Sv.cK, Sv.cE, Sv.cP, Sv.cOp, Sv.cUn, Sv.cChain, Sv.cIf, Sv.cAnd, Sv.cOr, Sv.cNot, Sv.tB, Sv.tAnd, Sv.tOr, Sv.tNot, Sv.tYes, Sv.aNil, Sv.aCons, Sv.aStar, Sv.cCall, Sv.cTup, Sv.cLst, Sv.cSl, Sv.cMeth, Sv.sSetIx, Sv.sPar2, Sv.sPar3, Sv.sAsg, Sv.sAug, Sv.hold, Sv.slot, Sv.outF, Sv.argsB, Sv.slotsOf, Sv.back, Sv.rds, Sv.datas, Sv.gN, Sv.gT, Sv.gL, Sv.gRun, Sv.cFn, Sv.fnD, Sv.sRaise, Sv.R.bind, Sv.R.opt, Sv.R.toS, Sv.RS.seq, Sv.Hd.rd, Sv.B.rd, Sv.toP, Sv.eqP, Sv.neP, Sv.one, Sv.two, Sv.getP, Sv.lenP, Sv.addP, Sv.subP, Sv.mulP, Sv.fdivP, Sv.modP, Sv.powP, Sv.intP, Sv.absP, Sv.max2P, Sv.min2P, Sv.negP, Sv.augAdd, Sv.setD, Sv.mAppend, Sv.ltB, Sv.gtB, Sv.leB, Sv.geB, Sv.ordB, Sv.small64, Sv.isP, Sv.wSeq, Sv.wRange1, Sv.sFor, h, ht, ht2, L2.atI, L2.ixN, b1]
/-- a tap -/
def Tap (x : B) : Prop := ∃ a b c : Int, x = .l [.int a, .int b, .int c]
theorem tap_spec (ns : List Int) (i : Nat) : ∃ x, Tap x ∧ d_tap [.d (.list (ns.map .int)), .d (.int i)] = .ok x [some (.d (.list (ns.map .int))), some (.d (.int i))] := by
  have p1 : Builtin.Int.intBits 10 = 4 := by decide
  have p2 : (Builtin.Int.intBits (1000000000000000000000000000000000000000000000000000000000000 : Int) : Int) * 12 ≤ 134217728 := by decide +kernel
  have p3 : 3 ≤ sizeLine := by rw [sizeLine_eq]; decide
  by_cases h : i < ns.length
  · simp [d_tap, Sv.sNil, Sv.sCons, Sv.sPass, Sv.sBreak, Sv.sCont, Sv.sExpr, Sv.put, Sv.sSet, Sv.sRet, Sv.sRetN, Sv.sIf, Sv.cVar, Sv.cK, Sv.cE, Sv.cP, Sv.cOp, Sv.cUn, Sv.cChain, Sv.cIf, Sv.cAnd, Sv.cOr, Sv.cNot, Sv.tB, Sv.tAnd, Sv.tOr, Sv.tNot, Sv.tYes, Sv.aNil, Sv.aCons, Sv.aStar, Sv.cCall, Sv.cTup, Sv.cLst, Sv.cSl, Sv.cMeth, Sv.sSetIx, Sv.sPar2, Sv.sPar3, Sv.sAsg, Sv.sAug, Sv.hold, Sv.slot, Sv.outF, Sv.argsB, Sv.slotsOf, Sv.back, Sv.rds, Sv.datas, Sv.gN, Sv.gT, Sv.gL, Sv.gRun, Sv.cFn, Sv.fnD, Sv.sRaise, Sv.R.bind, Sv.R.opt, Sv.R.toS, Sv.RS.seq, Sv.Hd.rd, Sv.B.rd, Sv.toP, Sv.eqP, Sv.neP, Sv.one, Sv.two, Sv.getP, Sv.lenP, Sv.addP, Sv.subP, Sv.mulP, Sv.fdivP, Sv.modP, Sv.powP, Sv.intP, Sv.absP, Sv.max2P, Sv.min2P, Sv.negP, Sv.augAdd, Sv.setD, Sv.mAppend, Sv.ltB, Sv.gtB, Sv.leB, Sv.geB, Sv.ordB, Sv.small64, Sv.isP, Sv.wSeq, Sv.wRange1, Sv.sFor, L2.atI, L2.ixN, h, p1, p2, p3]
    exact ⟨_, _, _, rfl⟩
  · simp [d_tap, Sv.sNil, Sv.sCons, Sv.sPass, Sv.sBreak, Sv.sCont, Sv.sExpr, Sv.put, Sv.sSet, Sv.sRet, Sv.sRetN, Sv.sIf, Sv.cVar, Sv.cK, Sv.cE, Sv.cP, Sv.cOp, Sv.cUn, Sv.cChain, Sv.cIf, Sv.cAnd, Sv.cOr, Sv.cNot, Sv.tB, Sv.tAnd, Sv.tOr, Sv.tNot, Sv.tYes, Sv.aNil, Sv.aCons, Sv.aStar, Sv.cCall, Sv.cTup, Sv.cLst, Sv.cSl, Sv.cMeth, Sv.sSetIx, Sv.sPar2, Sv.sPar3, Sv.sAsg, Sv.sAug, Sv.hold, Sv.slot, Sv.outF, Sv.argsB, Sv.slotsOf, Sv.back, Sv.rds, Sv.datas, Sv.gN, Sv.gT, Sv.gL, Sv.gRun, Sv.cFn, Sv.fnD, Sv.sRaise, Sv.R.bind, Sv.R.opt, Sv.R.toS, Sv.RS.seq, Sv.Hd.rd, Sv.B.rd, Sv.toP, Sv.eqP, Sv.neP, Sv.one, Sv.two, Sv.getP, Sv.lenP, Sv.addP, Sv.subP, Sv.mulP, Sv.fdivP, Sv.modP, Sv.powP, Sv.intP, Sv.absP, Sv.max2P, Sv.min2P, Sv.negP, Sv.augAdd, Sv.setD, Sv.mAppend, Sv.ltB, Sv.gtB, Sv.leB, Sv.geB, Sv.ordB, Sv.small64, Sv.isP, Sv.wSeq, Sv.wRange1, Sv.sFor, L2.atI, L2.ixN, h, p1, p2, p3]
    exact ⟨_, _, _, rfl⟩
theorem turn_tap {x : B} (h : Tap x) (t : Int) (ht : 0 < t) (ht2 : t < 1073741824) : ∃ r y, 0 ≤ r ∧ r < t ∧ Tap y ∧ d_turn [x, .d (.int t)] = .ok (.d (.int r)) [some y, some (.d (.int t))] := by
  obtain ⟨a, b, c, rfl⟩ := h
  obtain ⟨r, a', c', h1, h2, h3⟩ := turn_spec a b c t ht ht2
  exact ⟨r, _, h1, h2, ⟨a', b, c', rfl⟩, h3⟩
theorem pick_tap {x : B} (h : Tap x) (l : List PyData) (hl : 0 < l.length) (hz : l.length ≤ 1000) : ∃ r y, r ∈ l ∧ Tap y ∧ d_pick [x, .d (.list l)] = .ok (.d r) [some y, some (.d (.list l))] := by
  obtain ⟨r, y, h1, h2, h3, h4⟩ := turn_tap h (l.length : Int) (by omega) (by omega)
  have hr : r.toNat < l.length := by omega
  have e : (r.toNat : Int) = r := by omega
  obtain ⟨a, b, c, rfl⟩ := h
  obtain ⟨a', b', c', rfl⟩ := h3
  refine ⟨l[r.toNat], _, List.getElem_mem hr, ⟨a', b', c', rfl⟩, ?_⟩
  simp [d_pick, Sv.sNil, Sv.sCons, Sv.sPass, Sv.sBreak, Sv.sCont, Sv.sExpr, Sv.put, Sv.sSet, Sv.sRet, Sv.sRetN, Sv.sIf, Sv.cVar, Sv.cK, Sv.cE, Sv.cP, Sv.cOp, Sv.cUn, Sv.cChain, Sv.cIf, Sv.cAnd, Sv.cOr, Sv.cNot, Sv.tB, Sv.tAnd, Sv.tOr, Sv.tNot, Sv.tYes, Sv.aNil, Sv.aCons, Sv.aStar, Sv.cCall, Sv.cTup, Sv.cLst, Sv.cSl, Sv.cMeth, Sv.sSetIx, Sv.sPar2, Sv.sPar3, Sv.sAsg, Sv.sAug, Sv.hold, Sv.slot, Sv.outF, Sv.argsB, Sv.slotsOf, Sv.back, Sv.rds, Sv.datas, Sv.gN, Sv.gT, Sv.gL, Sv.gRun, Sv.cFn, Sv.fnD, Sv.sRaise, Sv.R.bind, Sv.R.opt, Sv.R.toS, Sv.RS.seq, Sv.Hd.rd, Sv.B.rd, Sv.toP, Sv.eqP, Sv.neP, Sv.one, Sv.two, Sv.getP, Sv.lenP, Sv.addP, Sv.subP, Sv.mulP, Sv.fdivP, Sv.modP, Sv.powP, Sv.intP, Sv.absP, Sv.max2P, Sv.min2P, Sv.negP, Sv.augAdd, Sv.setD, Sv.mAppend, Sv.ltB, Sv.gtB, Sv.leB, Sv.geB, Sv.ordB, Sv.small64, Sv.isP, Sv.wSeq, Sv.wRange1, Sv.sFor, h4, L2.atI, L2.ixN, h1, h2, hr]
/-! ### trees -/
inductive Tr where
  | nd (l : Str) (cs : List Tr)
mutual
def enc : Tr → PyData
  | .nd l cs => .tuple (.str l :: encs cs)
def encs : List Tr → List PyData
  | [] => []
  | t :: r => enc t :: encs r
end
mutual
def size : Tr → Nat
  | .nd _ cs => 1 + sizes cs
def sizes : List Tr → Nat
  | [] => 0
  | t :: r => size t + sizes r
end
mutual
def ht : Tr → Nat
  | .nd _ cs => 1 + hts cs
def hts : List Tr → Nat
  | [] => 0
  | t :: r => max (ht t) (hts r)
end
theorem encs_map : ∀ cs : List Tr, encs cs = cs.map enc
  | [] => rfl
  | t :: r => by rw [encs, encs_map r]; rfl
theorem encs_len : ∀ cs : List Tr, (encs cs).length = cs.length
  | [] => rfl
  | t :: r => by rw [encs, List.length_cons, encs_len r]; rfl
theorem size_pos : ∀ t : Tr, 0 < size t
  | .nd _ cs => by rw [size]; omega
mutual
theorem ht_size : ∀ t : Tr, ht t ≤ size t
  | .nd _ cs => by rw [ht, size]; have := hts_sizes cs; omega
theorem hts_sizes : ∀ cs : List Tr, hts cs ≤ sizes cs
  | [] => Nat.le_refl _
  | t :: r => by rw [hts, sizes]; have := ht_size t; have := hts_sizes r; omega
end
theorem hts_mem : ∀ {cs : List Tr} {t : Tr}, t ∈ cs → ht t ≤ hts cs
  | a :: r, t, h => by
    rw [hts]
    rcases List.mem_cons.mp h with e | h
    · subst e; omega
    · have := hts_mem h; omega
theorem len_sizes : ∀ cs : List Tr, cs.length ≤ sizes cs
  | [] => Nat.le_refl _
  | t :: r => by rw [sizes, List.length_cons]; have := size_pos t; have := len_sizes r; omega
/-! ### comprehensions that change nothing around them -/
theorem set_back {e : Sv.Env} {v : Nat} (he : e[v]? = some none) (b : Option B) : (e.set v b).set v none = e := by
  rw [List.set_set]
  apply List.ext_getElem?
  intro i
  by_cases hi : v = i
  · subst hi
    rw [List.getElem?_set_self (List.getElem?_eq_some_iff.mp he).1, he]
  · rw [List.getElem?_set_ne hi]
theorem compL_map {α : Type} {v : Nat} {c : Cd} {f g : α → PyData} {e : Sv.Env} (he : e[v]? = some none) : ∀ (xs : List α), (∀ x ∈ xs, cE c (e.set v (some (.d (f x)))) = .ok (.v (.d (g x))) (e.set v (some (.d (f x))))) → compL [v] (gN v) tYes c (xs.map f) e = .ok (xs.map g) e
  | [], _ => rfl
  | x :: xs, h => by
    have h1 := h x List.mem_cons_self
    have ih := compL_map he xs fun y hy => h y (List.mem_cons_of_mem _ hy)
    simp only [List.map_cons, compL, comp1, gN, tYes, h1, wipeE, set_back he, ih]
theorem intsOf_map {α : Type} (g : α → Int) : ∀ l : List α, intsOf (l.map fun a => .int (g a)) = some (l.map g)
  | [] => rfl
  | a :: r => by simp only [List.map_cons, intsOf, intsOf_map g r, Option.map_some]
theorem sizes_sum : ∀ cs : List Tr, (cs.map fun t => (size t : Int)).sum = sizes cs
  | [] => rfl
  | t :: r => by rw [List.map_cons, List.sum_cons, sizes_sum r, sizes]; omega
theorem cut1 {α : Type} (x : α) (xs : List α) : cutD (x :: xs) (some 1) none = xs := by
  unfold cutD HT.sIx
  simp
theorem weight_spec : ∀ (n : Nat) (t : Tr), ht t ≤ n → size t ≤ 1000 → d_weight n [.d (enc t)] = .ok (.d (.int (size t))) [some (.d (enc t))]
  | 0, .nd l cs, h, _ => by rw [ht] at h; omega
  | n + 1, .nd l cs, h, hz => by
    rw [ht] at h
    rw [size] at hz
    have hl : cs.length ≤ sizeLine := by
      rw [sizeLine_eq]
      have := len_sizes cs
      omega
    have sub : compL [1] (gN 1) tYes (ce_weight_0 (d_weight n)) (cs.map enc) [some (.d (enc (.nd l cs))), none] = .ok (cs.map fun t => .int (size t)) [some (.d (enc (.nd l cs))), none] := by
      refine compL_map rfl cs fun t ht' => ?_
      have h1 : ht t ≤ n := by have := hts_mem ht'; omega
      have h2 : size t ≤ 1000 := by
        have : ∀ (l : List Tr), t ∈ l → size t ≤ sizes l := fun l => by
          induction l with
          | nil => intro h; cases h
          | cons a r ih =>
            intro h
            rw [sizes]
            rcases List.mem_cons.mp h with e | h
            · subst e; omega
            · have := ih h; omega
        have := this cs ht'
        omega
      have ih := weight_spec n t h1 h2
      simp [ce_weight_0, Sv.sNil, Sv.sCons, Sv.sPass, Sv.sBreak, Sv.sCont, Sv.sExpr, Sv.put, Sv.sSet, Sv.sRet, Sv.sRetN, Sv.sIf, Sv.cVar, Sv.cK, Sv.cE, Sv.cP, Sv.cOp, Sv.cUn, Sv.cChain, Sv.cIf, Sv.cAnd, Sv.cOr, Sv.cNot, Sv.tB, Sv.tAnd, Sv.tOr, Sv.tNot, Sv.tYes, Sv.aNil, Sv.aCons, Sv.aStar, Sv.cCall, Sv.cTup, Sv.cLst, Sv.cSl, Sv.cMeth, Sv.sSetIx, Sv.sPar2, Sv.sPar3, Sv.sAsg, Sv.sAug, Sv.hold, Sv.slot, Sv.outF, Sv.argsB, Sv.slotsOf, Sv.back, Sv.rds, Sv.datas, Sv.gN, Sv.gT, Sv.gL, Sv.gRun, Sv.cFn, Sv.fnD, Sv.sRaise, Sv.R.bind, Sv.R.opt, Sv.R.toS, Sv.RS.seq, Sv.Hd.rd, Sv.B.rd, Sv.toP, Sv.eqP, Sv.neP, Sv.one, Sv.two, Sv.getP, Sv.lenP, Sv.addP, Sv.subP, Sv.mulP, Sv.fdivP, Sv.modP, Sv.powP, Sv.intP, Sv.absP, Sv.max2P, Sv.min2P, Sv.negP, Sv.augAdd, Sv.setD, Sv.mAppend, Sv.ltB, Sv.gtB, Sv.leB, Sv.geB, Sv.ordB, Sv.small64, Sv.isP, Sv.wSeq, Sv.wRange1, Sv.sFor, ih]
    rw [enc, encs_map] at sub
    simp [d_weight, enc, encs_map, Sv.sNil, Sv.sCons, Sv.sPass, Sv.sBreak, Sv.sCont, Sv.sExpr, Sv.put, Sv.sSet, Sv.sRet, Sv.sRetN, Sv.sIf, Sv.cVar, Sv.cK, Sv.cE, Sv.cP, Sv.cOp, Sv.cUn, Sv.cChain, Sv.cIf, Sv.cAnd, Sv.cOr, Sv.cNot, Sv.tB, Sv.tAnd, Sv.tOr, Sv.tNot, Sv.tYes, Sv.aNil, Sv.aCons, Sv.aStar, Sv.cCall, Sv.cTup, Sv.cLst, Sv.cSl, Sv.cMeth, Sv.sSetIx, Sv.sPar2, Sv.sPar3, Sv.sAsg, Sv.sAug, Sv.hold, Sv.slot, Sv.outF, Sv.argsB, Sv.slotsOf, Sv.back, Sv.rds, Sv.datas, Sv.gN, Sv.gT, Sv.gL, Sv.gRun, Sv.cFn, Sv.fnD, Sv.sRaise, Sv.R.bind, Sv.R.opt, Sv.R.toS, Sv.RS.seq, Sv.Hd.rd, Sv.B.rd, Sv.toP, Sv.eqP, Sv.neP, Sv.one, Sv.two, Sv.getP, Sv.lenP, Sv.addP, Sv.subP, Sv.mulP, Sv.fdivP, Sv.modP, Sv.powP, Sv.intP, Sv.absP, Sv.max2P, Sv.min2P, Sv.negP, Sv.augAdd, Sv.setD, Sv.mAppend, Sv.ltB, Sv.gtB, Sv.leB, Sv.geB, Sv.ordB, Sv.small64, Sv.isP, Sv.wSeq, Sv.wRange1, Sv.sFor, cComp, slP, cut1, wipeE, restE, hl, sub, sumP, intsOf_map, sizes_sum, size]
mutual
def labIn (labs : List Str) : Tr → Prop
  | .nd l cs => l ∈ labs ∧ labsIn labs cs
def labsIn (labs : List Str) : List Tr → Prop
  | [] => True
  | t :: r => labIn labs t ∧ labsIn labs r
end
theorem sizes_app : ∀ a b : List Tr, sizes (a ++ b) = sizes a + sizes b
  | [], b => by simp [sizes]
  | t :: r, b => by rw [List.cons_append, sizes, sizes, sizes_app r b]; omega
theorem labsIn_app {labs : List Str} : ∀ {a b : List Tr}, labsIn labs a → labsIn labs b → labsIn labs (a ++ b)
  | [], b, _, h => h
  | t :: r, b, h1, h2 => by
    rw [List.cons_append, labsIn]
    rw [labsIn] at h1
    exact ⟨h1.1, labsIn_app h1.2 h2⟩
/-- what a call of the def gives, one level down -/
def TreeOk (labs : List Str) (F : Fn) (n : Nat) : Prop := ∀ (x : B) (room : Nat), Tap x → 1 ≤ room → room ≤ n → ∃ t y, Tap y ∧ size t ≤ room ∧ labIn labs t ∧
  F [x, .d (.list (labs.map .str)), .d (.int room)] = .ok (.d (enc t)) [some y, some (.d (.list (labs.map .str))), some (.d (.int room))]
theorem tree_loop {labs : List Str} {F : Fn} {n : Nat} (hF : TreeOk labs F n) (hn : n ≤ 30) (room : Nat) : ∀ (m left : Nat) (x : B) (cs : List Tr) (q : Option B), Tap x → left ≤ m → left ≤ n → sizes cs + left ≤ 30 → labsIn labs cs → ∃ y cs' left' q', Tap y ∧ sizes (cs ++ cs') ≤ sizes cs + left ∧ labsIn labs (cs ++ cs') ∧
    sWhile (wt_tree_0 F) (wb_tree_1 F) (m + 1) [some x, some (.d (.list (labs.map .str))), some (.d (.int room)), some (.l (encs cs)), some (.d (.int left)), q] =
      .nx [some y, some (.d (.list (labs.map .str))), some (.d (.int room)), some (.l (encs (cs ++ cs'))), some (.d (.int left')), q'] := by
  intro m
  induction m with
  | zero =>
    intro left x cs q hx h1 h2 h3 h4
    obtain rfl : left = 0 := by omega
    refine ⟨x, [], 0, q, hx, by simp, by simpa using h4, ?_⟩
    simp [sWhile, wt_tree_0, Sv.sNil, Sv.sCons, Sv.sPass, Sv.sBreak, Sv.sCont, Sv.sExpr, Sv.put, Sv.sSet, Sv.sRet, Sv.sRetN, Sv.sIf, Sv.cVar, Sv.cK, Sv.cE, Sv.cP, Sv.cOp, Sv.cUn, Sv.cChain, Sv.cIf, Sv.cAnd, Sv.cOr, Sv.cNot, Sv.tB, Sv.tAnd, Sv.tOr, Sv.tNot, Sv.tYes, Sv.aNil, Sv.aCons, Sv.aStar, Sv.cCall, Sv.cTup, Sv.cLst, Sv.cSl, Sv.cMeth, Sv.sSetIx, Sv.sPar2, Sv.sPar3, Sv.sAsg, Sv.sAug, Sv.hold, Sv.slot, Sv.outF, Sv.argsB, Sv.slotsOf, Sv.back, Sv.rds, Sv.datas, Sv.gN, Sv.gT, Sv.gL, Sv.gRun, Sv.cFn, Sv.fnD, Sv.sRaise, Sv.R.bind, Sv.R.opt, Sv.R.toS, Sv.RS.seq, Sv.Hd.rd, Sv.B.rd, Sv.toP, Sv.eqP, Sv.neP, Sv.one, Sv.two, Sv.getP, Sv.lenP, Sv.addP, Sv.subP, Sv.mulP, Sv.fdivP, Sv.modP, Sv.powP, Sv.intP, Sv.absP, Sv.max2P, Sv.min2P, Sv.negP, Sv.augAdd, Sv.setD, Sv.mAppend, Sv.ltB, Sv.gtB, Sv.leB, Sv.geB, Sv.ordB, Sv.small64, Sv.isP, Sv.wSeq, Sv.wRange1, Sv.sFor]
  | succ m ih =>
    intro left x cs q hx h1 h2 h3 h4
    by_cases h0 : left = 0
    · subst h0
      refine ⟨x, [], 0, q, hx, by simp, by simpa using h4, ?_⟩
      simp [sWhile, wt_tree_0, Sv.sNil, Sv.sCons, Sv.sPass, Sv.sBreak, Sv.sCont, Sv.sExpr, Sv.put, Sv.sSet, Sv.sRet, Sv.sRetN, Sv.sIf, Sv.cVar, Sv.cK, Sv.cE, Sv.cP, Sv.cOp, Sv.cUn, Sv.cChain, Sv.cIf, Sv.cAnd, Sv.cOr, Sv.cNot, Sv.tB, Sv.tAnd, Sv.tOr, Sv.tNot, Sv.tYes, Sv.aNil, Sv.aCons, Sv.aStar, Sv.cCall, Sv.cTup, Sv.cLst, Sv.cSl, Sv.cMeth, Sv.sSetIx, Sv.sPar2, Sv.sPar3, Sv.sAsg, Sv.sAug, Sv.hold, Sv.slot, Sv.outF, Sv.argsB, Sv.slotsOf, Sv.back, Sv.rds, Sv.datas, Sv.gN, Sv.gT, Sv.gL, Sv.gRun, Sv.cFn, Sv.fnD, Sv.sRaise, Sv.R.bind, Sv.R.opt, Sv.R.toS, Sv.RS.seq, Sv.Hd.rd, Sv.B.rd, Sv.toP, Sv.eqP, Sv.neP, Sv.one, Sv.two, Sv.getP, Sv.lenP, Sv.addP, Sv.subP, Sv.mulP, Sv.fdivP, Sv.modP, Sv.powP, Sv.intP, Sv.absP, Sv.max2P, Sv.min2P, Sv.negP, Sv.augAdd, Sv.setD, Sv.mAppend, Sv.ltB, Sv.gtB, Sv.leB, Sv.geB, Sv.ordB, Sv.small64, Sv.isP, Sv.wSeq, Sv.wRange1, Sv.sFor]
    · obtain ⟨r, y, r1, r2, hy, e1⟩ := turn_tap hx 3 (by omega) (by omega)
      obtain ⟨a, b, c, rfl⟩ := hx
      obtain ⟨a', b', c', rfl⟩ := hy
      have hpos : (0 : Int) < left := by omega
      have hposN : 0 < left := by omega
      by_cases hr : 0 < r
      · obtain ⟨r', y', s1, s2, hy', e2⟩ := turn_tap (x := .l [.int a', .int b', .int c']) ⟨_, _, _, rfl⟩ left hpos (by omega)
        obtain ⟨a2, b2, c2, rfl⟩ := hy'
        obtain ⟨t, z, hz, t1, t2, e3⟩ := hF (.l [.int a2, .int b2, .int c2]) (1 + r'.toNat) ⟨_, _, _, rfl⟩ (by omega) (by omega)
        obtain ⟨a3, b3, c3, rfl⟩ := hz
        have er : ((1 + r'.toNat : Nat) : Int) = 1 + r' := by omega
        rw [er] at e3
        have hw : d_weight 60 [.d (enc t)] = .ok (.d (.int (size t))) [some (.d (enc t))] := weight_spec 60 t (by have := ht_size t; omega) (by omega)
        obtain ⟨y, cs', left', q', hy, k1, k2, k3⟩ := ih (left - size t) (.l [.int a3, .int b3, .int c3]) (cs ++ [t]) (some (.d (enc t))) ⟨_, _, _, rfl⟩ (by have := size_pos t; omega) (by omega)
          (by rw [sizes_app]; simp only [sizes]; omega) (labsIn_app h4 (by simpa [labsIn] using t2))
        refine ⟨y, t :: cs', left', q', hy, ?_, ?_, ?_⟩
        · rw [List.append_assoc] at k1
          rw [sizes_app] at k1
          rw [sizes_app] at k1 ⊢
          simp only [sizes, List.singleton_append] at k1 ⊢
          simp only [sizes_app, sizes] at k1
          omega
        · rw [List.append_assoc] at k2
          exact k2
        · rw [List.append_assoc] at k3
          rw [show cs ++ t :: cs' = cs ++ ([t] ++ cs') from rfl, ← k3]
          have el : ((left - size t : Nat) : Int) = (left : Int) - size t := by omega
          have ec : encs (cs ++ [t]) = encs cs ++ [enc t] := by rw [encs_map, encs_map, List.map_append]; rfl
          rw [el, ec]
          have hz1 : (encs cs).length < sizeLine := by
            rw [encs_len, sizeLine_eq]
            have := len_sizes cs
            omega
          rw [sWhile]
          simp [wt_tree_0, wb_tree_1, Sv.sNil, Sv.sCons, Sv.sPass, Sv.sBreak, Sv.sCont, Sv.sExpr, Sv.put, Sv.sSet, Sv.sRet, Sv.sRetN, Sv.sIf, Sv.cVar, Sv.cK, Sv.cE, Sv.cP, Sv.cOp, Sv.cUn, Sv.cChain, Sv.cIf, Sv.cAnd, Sv.cOr, Sv.cNot, Sv.tB, Sv.tAnd, Sv.tOr, Sv.tNot, Sv.tYes, Sv.aNil, Sv.aCons, Sv.aStar, Sv.cCall, Sv.cTup, Sv.cLst, Sv.cSl, Sv.cMeth, Sv.sSetIx, Sv.sPar2, Sv.sPar3, Sv.sAsg, Sv.sAug, Sv.hold, Sv.slot, Sv.outF, Sv.argsB, Sv.slotsOf, Sv.back, Sv.rds, Sv.datas, Sv.gN, Sv.gT, Sv.gL, Sv.gRun, Sv.cFn, Sv.fnD, Sv.sRaise, Sv.R.bind, Sv.R.opt, Sv.R.toS, Sv.RS.seq, Sv.Hd.rd, Sv.B.rd, Sv.toP, Sv.eqP, Sv.neP, Sv.one, Sv.two, Sv.getP, Sv.lenP, Sv.addP, Sv.subP, Sv.mulP, Sv.fdivP, Sv.modP, Sv.powP, Sv.intP, Sv.absP, Sv.max2P, Sv.min2P, Sv.negP, Sv.augAdd, Sv.setD, Sv.mAppend, Sv.ltB, Sv.gtB, Sv.leB, Sv.geB, Sv.ordB, Sv.small64, Sv.isP, Sv.wSeq, Sv.wRange1, Sv.sFor, e1, e2, e3, hpos, hr, hw, hposN, hz1]
      · refine ⟨_, [], left, q, ⟨a', b', c', rfl⟩, by simp, by simpa using h4, ?_⟩
        rw [sWhile]
        simp [wt_tree_0, Sv.sNil, Sv.sCons, Sv.sPass, Sv.sBreak, Sv.sCont, Sv.sExpr, Sv.put, Sv.sSet, Sv.sRet, Sv.sRetN, Sv.sIf, Sv.cVar, Sv.cK, Sv.cE, Sv.cP, Sv.cOp, Sv.cUn, Sv.cChain, Sv.cIf, Sv.cAnd, Sv.cOr, Sv.cNot, Sv.tB, Sv.tAnd, Sv.tOr, Sv.tNot, Sv.tYes, Sv.aNil, Sv.aCons, Sv.aStar, Sv.cCall, Sv.cTup, Sv.cLst, Sv.cSl, Sv.cMeth, Sv.sSetIx, Sv.sPar2, Sv.sPar3, Sv.sAsg, Sv.sAug, Sv.hold, Sv.slot, Sv.outF, Sv.argsB, Sv.slotsOf, Sv.back, Sv.rds, Sv.datas, Sv.gN, Sv.gT, Sv.gL, Sv.gRun, Sv.cFn, Sv.fnD, Sv.sRaise, Sv.R.bind, Sv.R.opt, Sv.R.toS, Sv.RS.seq, Sv.Hd.rd, Sv.B.rd, Sv.toP, Sv.eqP, Sv.neP, Sv.one, Sv.two, Sv.getP, Sv.lenP, Sv.addP, Sv.subP, Sv.mulP, Sv.fdivP, Sv.modP, Sv.powP, Sv.intP, Sv.absP, Sv.max2P, Sv.min2P, Sv.negP, Sv.augAdd, Sv.setD, Sv.mAppend, Sv.ltB, Sv.gtB, Sv.leB, Sv.geB, Sv.ordB, Sv.small64, Sv.isP, Sv.wSeq, Sv.wRange1, Sv.sFor, e1, hpos, hr, hposN]
end K02
end
section
set_option autoImplicit false
set_option linter.all false
set_option maxRecDepth 100000
namespace K02
open PySem Sv

theorem tree_spec (labs : List Str) (h0 : 0 < labs.length) (h1 : labs.length ≤ 1000) : ∀ n : Nat, n ≤ 30 → TreeOk labs (d_tree n) n
  | 0, _ => fun x room _ a b => by omega
  | n + 1, hn => fun x room hx a b => by
    have ih := tree_spec labs h0 h1 n (by omega)
    obtain ⟨y, cs, left', q', hy, k1, k2, k3⟩ := tree_loop ih (by omega) room 99999 (room - 1) x [] none hx (by omega) (by omega) (by simp [sizes]; omega) (by simp [labsIn])
    simp only [List.nil_append] at k1 k2 k3
    obtain ⟨r, z, hr, hz, e⟩ := pick_tap hy (labs.map .str) (by simpa using h0) (by simpa using h1)
    obtain ⟨l, hl, rfl⟩ := List.mem_map.mp hr
    obtain ⟨a1, b1, c1, rfl⟩ := hx
    obtain ⟨a2, b2, c2, rfl⟩ := hy
    obtain ⟨a3, b3, c3, rfl⟩ := hz
    refine ⟨.nd l cs, _, ⟨a3, b3, c3, rfl⟩, ?_, ?_, ?_⟩
    · rw [size]
      simp only [sizes] at k1
      omega
    · rw [labIn]
      exact ⟨hl, k2⟩
    · have el : ((room - 1 : Nat) : Int) = (room : Int) - 1 := by omega
      have p0 : 1 ≤ sizeLine := by rw [sizeLine_eq]; decide
      have p1 : 1 + cs.length ≤ sizeLine := by
        rw [sizeLine_eq]
        have := len_sizes cs
        simp only [sizes] at k1
        omega
      rw [el, encs] at k3
      simp [d_tree, Sv.sNil, Sv.sCons, Sv.sPass, Sv.sBreak, Sv.sCont, Sv.sExpr, Sv.put, Sv.sSet, Sv.sRet, Sv.sRetN, Sv.sIf, Sv.cVar, Sv.cK, Sv.cE, Sv.cP, Sv.cOp, Sv.cUn, Sv.cChain, Sv.cIf, Sv.cAnd, Sv.cOr, Sv.cNot, Sv.tB, Sv.tAnd, Sv.tOr, Sv.tNot, Sv.tYes, Sv.aNil, Sv.aCons, Sv.aStar, Sv.cCall, Sv.cTup, Sv.cLst, Sv.cSl, Sv.cMeth, Sv.sSetIx, Sv.sPar2, Sv.sPar3, Sv.sAsg, Sv.sAug, Sv.hold, Sv.slot, Sv.outF, Sv.argsB, Sv.slotsOf, Sv.back, Sv.rds, Sv.datas, Sv.gN, Sv.gT, Sv.gL, Sv.gRun, Sv.cFn, Sv.fnD, Sv.sRaise, Sv.R.bind, Sv.R.opt, Sv.R.toS, Sv.RS.seq, Sv.Hd.rd, Sv.B.rd, Sv.toP, Sv.eqP, Sv.neP, Sv.one, Sv.two, Sv.getP, Sv.lenP, Sv.addP, Sv.subP, Sv.mulP, Sv.fdivP, Sv.modP, Sv.powP, Sv.intP, Sv.absP, Sv.max2P, Sv.min2P, Sv.negP, Sv.augAdd, Sv.setD, Sv.mAppend, Sv.ltB, Sv.gtB, Sv.leB, Sv.geB, Sv.ordB, Sv.small64, Sv.isP, Sv.wSeq, Sv.wRange1, Sv.sFor, k3, e, tupleP, enc, encs_len, p0, p1]
theorem labels_spec {x : B} (hx : Tap x) : ∃ (labs : List Str) (y : B), Tap y ∧ 0 < labs.length ∧ labs.length ≤ 3 ∧ (∀ l ∈ labs, l ∈ ([Str.ofString "a", Str.ofString "b", Str.ofString "c", Str.ofString "ab", Str.ofString "abcdefgh"] : List Str)) ∧ d_labels [x] = .ok (.d (.list (labs.map .str))) [some y] := by
  obtain ⟨r, y, r1, r2, hy, e⟩ := turn_tap hx 4 (by omega) (by omega)
  obtain ⟨a, b, c, rfl⟩ := hx
  obtain ⟨a', b', c', rfl⟩ := hy
  have p : 4 ≤ sizeLine := by rw [sizeLine_eq]; decide
  have p1 : 1 ≤ sizeLine := by omega
  have p2 : 2 ≤ sizeLine := by omega
  have p3 : 3 ≤ sizeLine := by omega
  have hr : r = 0 ∨ r = 1 ∨ r = 2 ∨ r = 3 := by omega
  rcases hr with rfl | rfl | rfl | rfl
  · refine ⟨[Str.ofString "a"], _, ⟨a', b', c', rfl⟩, by decide, by decide, by decide, ?_⟩
    simp [d_labels, Sv.sNil, Sv.sCons, Sv.sPass, Sv.sBreak, Sv.sCont, Sv.sExpr, Sv.put, Sv.sSet, Sv.sRet, Sv.sRetN, Sv.sIf, Sv.cVar, Sv.cK, Sv.cE, Sv.cP, Sv.cOp, Sv.cUn, Sv.cChain, Sv.cIf, Sv.cAnd, Sv.cOr, Sv.cNot, Sv.tB, Sv.tAnd, Sv.tOr, Sv.tNot, Sv.tYes, Sv.aNil, Sv.aCons, Sv.aStar, Sv.cCall, Sv.cTup, Sv.cLst, Sv.cSl, Sv.cMeth, Sv.sSetIx, Sv.sPar2, Sv.sPar3, Sv.sAsg, Sv.sAug, Sv.hold, Sv.slot, Sv.outF, Sv.argsB, Sv.slotsOf, Sv.back, Sv.rds, Sv.datas, Sv.gN, Sv.gT, Sv.gL, Sv.gRun, Sv.cFn, Sv.fnD, Sv.sRaise, Sv.R.bind, Sv.R.opt, Sv.R.toS, Sv.RS.seq, Sv.Hd.rd, Sv.B.rd, Sv.toP, Sv.eqP, Sv.neP, Sv.one, Sv.two, Sv.getP, Sv.lenP, Sv.addP, Sv.subP, Sv.mulP, Sv.fdivP, Sv.modP, Sv.powP, Sv.intP, Sv.absP, Sv.max2P, Sv.min2P, Sv.negP, Sv.augAdd, Sv.setD, Sv.mAppend, Sv.ltB, Sv.gtB, Sv.leB, Sv.geB, Sv.ordB, Sv.small64, Sv.isP, Sv.wSeq, Sv.wRange1, Sv.sFor, e, L2.atI, L2.ixN, p, p1, p2, p3]
  · refine ⟨[Str.ofString "a", Str.ofString "b"], _, ⟨a', b', c', rfl⟩, by decide, by decide, by decide, ?_⟩
    simp [d_labels, Sv.sNil, Sv.sCons, Sv.sPass, Sv.sBreak, Sv.sCont, Sv.sExpr, Sv.put, Sv.sSet, Sv.sRet, Sv.sRetN, Sv.sIf, Sv.cVar, Sv.cK, Sv.cE, Sv.cP, Sv.cOp, Sv.cUn, Sv.cChain, Sv.cIf, Sv.cAnd, Sv.cOr, Sv.cNot, Sv.tB, Sv.tAnd, Sv.tOr, Sv.tNot, Sv.tYes, Sv.aNil, Sv.aCons, Sv.aStar, Sv.cCall, Sv.cTup, Sv.cLst, Sv.cSl, Sv.cMeth, Sv.sSetIx, Sv.sPar2, Sv.sPar3, Sv.sAsg, Sv.sAug, Sv.hold, Sv.slot, Sv.outF, Sv.argsB, Sv.slotsOf, Sv.back, Sv.rds, Sv.datas, Sv.gN, Sv.gT, Sv.gL, Sv.gRun, Sv.cFn, Sv.fnD, Sv.sRaise, Sv.R.bind, Sv.R.opt, Sv.R.toS, Sv.RS.seq, Sv.Hd.rd, Sv.B.rd, Sv.toP, Sv.eqP, Sv.neP, Sv.one, Sv.two, Sv.getP, Sv.lenP, Sv.addP, Sv.subP, Sv.mulP, Sv.fdivP, Sv.modP, Sv.powP, Sv.intP, Sv.absP, Sv.max2P, Sv.min2P, Sv.negP, Sv.augAdd, Sv.setD, Sv.mAppend, Sv.ltB, Sv.gtB, Sv.leB, Sv.geB, Sv.ordB, Sv.small64, Sv.isP, Sv.wSeq, Sv.wRange1, Sv.sFor, e, L2.atI, L2.ixN, p, p1, p2, p3]
  · refine ⟨[Str.ofString "a", Str.ofString "b", Str.ofString "c"], _, ⟨a', b', c', rfl⟩, by decide, by decide, by decide, ?_⟩
    simp [d_labels, Sv.sNil, Sv.sCons, Sv.sPass, Sv.sBreak, Sv.sCont, Sv.sExpr, Sv.put, Sv.sSet, Sv.sRet, Sv.sRetN, Sv.sIf, Sv.cVar, Sv.cK, Sv.cE, Sv.cP, Sv.cOp, Sv.cUn, Sv.cChain, Sv.cIf, Sv.cAnd, Sv.cOr, Sv.cNot, Sv.tB, Sv.tAnd, Sv.tOr, Sv.tNot, Sv.tYes, Sv.aNil, Sv.aCons, Sv.aStar, Sv.cCall, Sv.cTup, Sv.cLst, Sv.cSl, Sv.cMeth, Sv.sSetIx, Sv.sPar2, Sv.sPar3, Sv.sAsg, Sv.sAug, Sv.hold, Sv.slot, Sv.outF, Sv.argsB, Sv.slotsOf, Sv.back, Sv.rds, Sv.datas, Sv.gN, Sv.gT, Sv.gL, Sv.gRun, Sv.cFn, Sv.fnD, Sv.sRaise, Sv.R.bind, Sv.R.opt, Sv.R.toS, Sv.RS.seq, Sv.Hd.rd, Sv.B.rd, Sv.toP, Sv.eqP, Sv.neP, Sv.one, Sv.two, Sv.getP, Sv.lenP, Sv.addP, Sv.subP, Sv.mulP, Sv.fdivP, Sv.modP, Sv.powP, Sv.intP, Sv.absP, Sv.max2P, Sv.min2P, Sv.negP, Sv.augAdd, Sv.setD, Sv.mAppend, Sv.ltB, Sv.gtB, Sv.leB, Sv.geB, Sv.ordB, Sv.small64, Sv.isP, Sv.wSeq, Sv.wRange1, Sv.sFor, e, L2.atI, L2.ixN, p, p1, p2, p3]
  · refine ⟨[Str.ofString "ab", Str.ofString "b", Str.ofString "abcdefgh"], _, ⟨a', b', c', rfl⟩, by decide, by decide, by decide, ?_⟩
    simp [d_labels, Sv.sNil, Sv.sCons, Sv.sPass, Sv.sBreak, Sv.sCont, Sv.sExpr, Sv.put, Sv.sSet, Sv.sRet, Sv.sRetN, Sv.sIf, Sv.cVar, Sv.cK, Sv.cE, Sv.cP, Sv.cOp, Sv.cUn, Sv.cChain, Sv.cIf, Sv.cAnd, Sv.cOr, Sv.cNot, Sv.tB, Sv.tAnd, Sv.tOr, Sv.tNot, Sv.tYes, Sv.aNil, Sv.aCons, Sv.aStar, Sv.cCall, Sv.cTup, Sv.cLst, Sv.cSl, Sv.cMeth, Sv.sSetIx, Sv.sPar2, Sv.sPar3, Sv.sAsg, Sv.sAug, Sv.hold, Sv.slot, Sv.outF, Sv.argsB, Sv.slotsOf, Sv.back, Sv.rds, Sv.datas, Sv.gN, Sv.gT, Sv.gL, Sv.gRun, Sv.cFn, Sv.fnD, Sv.sRaise, Sv.R.bind, Sv.R.opt, Sv.R.toS, Sv.RS.seq, Sv.Hd.rd, Sv.B.rd, Sv.toP, Sv.eqP, Sv.neP, Sv.one, Sv.two, Sv.getP, Sv.lenP, Sv.addP, Sv.subP, Sv.mulP, Sv.fdivP, Sv.modP, Sv.powP, Sv.intP, Sv.absP, Sv.max2P, Sv.min2P, Sv.negP, Sv.augAdd, Sv.setD, Sv.mAppend, Sv.ltB, Sv.gtB, Sv.leB, Sv.geB, Sv.ordB, Sv.small64, Sv.isP, Sv.wSeq, Sv.wRange1, Sv.sFor, e, L2.atI, L2.ixN, p, p1, p2, p3]
mutual
theorem enc_plain : ∀ t : Tr, (enc t).plain = true
  | .nd l cs => by simp [enc, PyData.plain, PyData.plainAll, encs_plain cs]
theorem encs_plain : ∀ cs : List Tr, PyData.plainAll (encs cs) = true
  | [] => rfl
  | t :: r => by simp [encs, PyData.plainAll, enc_plain t, encs_plain r]
end
theorem encs_app (a b : List Tr) : encs (a ++ b) = encs a ++ encs b := by rw [encs_map, encs_map, encs_map, List.map_append]
theorem while_step {t : Td} {b : Sd} {n : Nat} {e e1 e2 : Sv.Env} (ht : t e = .ok true e1) (hb : b e1 = .nx e2) : sWhile t b (n + 1) e = sWhile t b n e2 := by
  rw [sWhile, ht, R.toS_ok, if_pos rfl, hb]
theorem while_end {t : Td} {b : Sd} {n : Nat} {e e1 : Sv.Env} (ht : t e = .ok false e1) : sWhile t b (n + 1) e = .nx e1 := by
  rw [sWhile, ht, R.toS_ok, if_neg Bool.false_ne_true]
theorem while_ret {t : Td} {b : Sd} {n : Nat} {e e1 e2 : Sv.Env} {x : B} (ht : t e = .ok true e1) (hb : b e1 = .rt x e2) : sWhile t b (n + 1) e = .rt x e2 := by
  rw [sWhile, ht, R.toS_ok, if_pos rfl, hb]
theorem eq_nil {xs : List PyData} (h : PyData.plainAll xs = true) : eqB (.list xs) (.list []) = some xs.isEmpty := by
  cases xs with
  | nil => decide
  | cons a r =>
    have e : PyData.eqv (.list (a :: r)) (.list []) = false := by simp [PyData.eqv, PyData.eqvAll]
    have p : (PyData.list (a :: r)).plain = true := by simpa [PyData.plain] using h
    have q : shal (.list (a :: r)) (.list []) = true := by simp [shal, PyData.depth, PyData.depthAll]
    have q2 : (PyData.list []).plain = true := by simp [PyData.plain, PyData.plainAll]
    simp [eqB, e, p, q, q2]
theorem z1 : (0 : Nat) ≤ sizeLine := Nat.zero_le _
theorem size_loop (d : Option B) : ∀ (m : Nat) (ws : List Tr) (k : Int), sizes ws ≤ m → sizes ws ≤ 1000 → sWhile wt_size_in_0 wb_size_in_1 (m + 1) [d, some (.d (.int k)), some (.l (encs ws))] = .nx [d, some (.d (.int (k + sizes ws))), some (.l [])] := by
  have test : ∀ (k : Int) (ws : List Tr), wt_size_in_0 [d, some (.d (.int k)), some (.l (encs ws))] = .ok (!(encs ws).isEmpty) [d, some (.d (.int k)), some (.l (encs ws))] := fun k ws => by
    simp [wt_size_in_0, Sv.sNil, Sv.sCons, Sv.sPass, Sv.sBreak, Sv.sCont, Sv.sExpr, Sv.put, Sv.sSet, Sv.sRet, Sv.sRetN, Sv.sIf, Sv.cVar, Sv.cK, Sv.cE, Sv.cP, Sv.cOp, Sv.cUn, Sv.cChain, Sv.cIf, Sv.cAnd, Sv.cOr, Sv.cNot, Sv.tB, Sv.tAnd, Sv.tOr, Sv.tNot, Sv.tYes, Sv.aNil, Sv.aCons, Sv.aStar, Sv.cCall, Sv.cTup, Sv.cLst, Sv.cSl, Sv.cMeth, Sv.sSetIx, Sv.sPar2, Sv.sPar3, Sv.sAsg, Sv.sAug, Sv.hold, Sv.slot, Sv.outF, Sv.argsB, Sv.slotsOf, Sv.back, Sv.rds, Sv.datas, Sv.gN, Sv.gT, Sv.gL, Sv.gRun, Sv.cFn, Sv.fnD, Sv.sRaise, Sv.R.bind, Sv.R.opt, Sv.R.toS, Sv.RS.seq, Sv.Hd.rd, Sv.B.rd, Sv.toP, Sv.eqP, Sv.neP, Sv.one, Sv.two, Sv.getP, Sv.lenP, Sv.addP, Sv.subP, Sv.mulP, Sv.fdivP, Sv.modP, Sv.powP, Sv.intP, Sv.absP, Sv.max2P, Sv.min2P, Sv.negP, Sv.augAdd, Sv.setD, Sv.mAppend, Sv.ltB, Sv.gtB, Sv.leB, Sv.geB, Sv.ordB, Sv.small64, Sv.isP, Sv.wSeq, Sv.wRange1, Sv.sFor, eq_nil (encs_plain ws)]
  intro m
  induction m with
  | zero =>
    intro ws k h h2
    cases ws with
    | nil =>
      rw [while_end (by rw [test]; rfl)]
      simp [sizes, encs]
    | cons t r => rw [sizes] at h; have := size_pos t; omega
  | succ m ih =>
    intro ws k h h2
    rcases List.eq_nil_or_concat ws with rfl | ⟨init, t, rfl⟩
    · rw [while_end (by rw [test]; rfl)]
      simp [sizes, encs]
    · obtain ⟨l, cs⟩ := t
      rw [List.concat_eq_append] at h h2 ⊢
      rw [sizes_app] at h h2 ⊢
      simp only [sizes, size] at h h2 ⊢
      have hz : (encs init).length + (encs cs).length ≤ sizeLine := by
        rw [encs_len, encs_len, sizeLine_eq]
        have := len_sizes cs
        have := len_sizes init
        omega
      have body : wb_size_in_1 [d, some (.d (.int k)), some (.l (encs (init ++ [.nd l cs])))] = .nx [d, some (.d (.int (k + 1))), some (.l (encs (init ++ cs)))] := by
        simp [wb_size_in_1, Sv.sNil, Sv.sCons, Sv.sPass, Sv.sBreak, Sv.sCont, Sv.sExpr, Sv.put, Sv.sSet, Sv.sRet, Sv.sRetN, Sv.sIf, Sv.cVar, Sv.cK, Sv.cE, Sv.cP, Sv.cOp, Sv.cUn, Sv.cChain, Sv.cIf, Sv.cAnd, Sv.cOr, Sv.cNot, Sv.tB, Sv.tAnd, Sv.tOr, Sv.tNot, Sv.tYes, Sv.aNil, Sv.aCons, Sv.aStar, Sv.cCall, Sv.cTup, Sv.cLst, Sv.cSl, Sv.cMeth, Sv.sSetIx, Sv.sPar2, Sv.sPar3, Sv.sAsg, Sv.sAug, Sv.hold, Sv.slot, Sv.outF, Sv.argsB, Sv.slotsOf, Sv.back, Sv.rds, Sv.datas, Sv.gN, Sv.gT, Sv.gL, Sv.gRun, Sv.cFn, Sv.fnD, Sv.sRaise, Sv.R.bind, Sv.R.opt, Sv.R.toS, Sv.RS.seq, Sv.Hd.rd, Sv.B.rd, Sv.toP, Sv.eqP, Sv.neP, Sv.one, Sv.two, Sv.getP, Sv.lenP, Sv.addP, Sv.subP, Sv.mulP, Sv.fdivP, Sv.modP, Sv.powP, Sv.intP, Sv.absP, Sv.max2P, Sv.min2P, Sv.negP, Sv.augAdd, Sv.setD, Sv.mAppend, Sv.ltB, Sv.gtB, Sv.leB, Sv.geB, Sv.ordB, Sv.small64, Sv.isP, Sv.wSeq, Sv.wRange1, Sv.sFor, encs_app, encs, enc, mPop, mExtend, slP, cut1, hz]
      have t1 : wt_size_in_0 [d, some (.d (.int k)), some (.l (encs (init ++ [.nd l cs])))] = .ok true [d, some (.d (.int k)), some (.l (encs (init ++ [.nd l cs])))] := by
        have e : (encs (init ++ [.nd l cs])).isEmpty = false := by rw [encs_app]; simp [encs]
        rw [test, e]
        rfl
      have s1 : sizes (init ++ cs) = sizes init + sizes cs := sizes_app _ _
      have e1 : k + 1 + ((sizes (init ++ cs) : Nat) : Int) = k + ((sizes init + (1 + sizes cs + 0) : Nat) : Int) := by omega
      have i1 := ih (init ++ cs) (k + 1) (by omega) (by omega)
      rw [e1] at i1
      exact (while_step t1 body).trans i1
theorem size_in_spec (t : Tr) (h : size t ≤ 1000) : d_size_in [.d (enc t)] = .ok (.d (.int (size t))) [some (.d (enc t))] := by
  have e1 : sizes [t] = size t := by simp [sizes]
  have h1 : sizes [t] ≤ 99999 := by omega
  have h2 : sizes [t] ≤ 1000 := by omega
  have k := size_loop (some (.d (enc t))) 99999 [t] 0 h1 h2
  rw [e1] at k
  simp only [encs] at k
  have p : 1 ≤ sizeLine := by rw [sizeLine_eq]; decide
  simp [d_size_in, Sv.sNil, Sv.sCons, Sv.sPass, Sv.sBreak, Sv.sCont, Sv.sExpr, Sv.put, Sv.sSet, Sv.sRet, Sv.sRetN, Sv.sIf, Sv.cVar, Sv.cK, Sv.cE, Sv.cP, Sv.cOp, Sv.cUn, Sv.cChain, Sv.cIf, Sv.cAnd, Sv.cOr, Sv.cNot, Sv.tB, Sv.tAnd, Sv.tOr, Sv.tNot, Sv.tYes, Sv.aNil, Sv.aCons, Sv.aStar, Sv.cCall, Sv.cTup, Sv.cLst, Sv.cSl, Sv.cMeth, Sv.sSetIx, Sv.sPar2, Sv.sPar3, Sv.sAsg, Sv.sAug, Sv.hold, Sv.slot, Sv.outF, Sv.argsB, Sv.slotsOf, Sv.back, Sv.rds, Sv.datas, Sv.gN, Sv.gT, Sv.gL, Sv.gRun, Sv.cFn, Sv.fnD, Sv.sRaise, Sv.R.bind, Sv.R.opt, Sv.R.toS, Sv.RS.seq, Sv.Hd.rd, Sv.B.rd, Sv.toP, Sv.eqP, Sv.neP, Sv.one, Sv.two, Sv.getP, Sv.lenP, Sv.addP, Sv.subP, Sv.mulP, Sv.fdivP, Sv.modP, Sv.powP, Sv.intP, Sv.absP, Sv.max2P, Sv.min2P, Sv.negP, Sv.augAdd, Sv.setD, Sv.mAppend, Sv.ltB, Sv.gtB, Sv.leB, Sv.geB, Sv.ordB, Sv.small64, Sv.isP, Sv.wSeq, Sv.wRange1, Sv.sFor, k, p]
end K02
end
section
set_option autoImplicit false
set_option linter.all false
set_option maxRecDepth 100000
namespace K02
open PySem Sv

def goods : List Str := [Str.ofString "a", Str.ofString "b", Str.ofString "c", Str.ofString "ab", Str.ofString "abcdefgh"]
theorem name_spec : ∀ l ∈ goods, d_is_name [.d (.str l)] = .ok (.d (.bool true)) [some (.d (.str l))] := by
  intro l h
  simp only [goods, List.mem_cons, List.not_mem_nil, or_false] at h
  rcases h with rfl | rfl | rfl | rfl | rfl <;> rfl
theorem eq_tup {x : PyData} {xs : List PyData} (h : PyData.plainAll (x :: xs) = true) : eqB (.tuple (x :: xs)) (.tuple []) = some false := by
  have e : PyData.eqv (.tuple (x :: xs)) (.tuple []) = false := by simp [PyData.eqv, PyData.eqvAll]
  have p : (PyData.tuple (x :: xs)).plain = true := by simpa [PyData.plain] using h
  have q : shal (.tuple (x :: xs)) (.tuple []) = true := by simp [shal, PyData.depth, PyData.depthAll]
  have q2 : (PyData.tuple []).plain = true := by simp [PyData.plain, PyData.plainAll]
  simp [eqB, e, p, q, q2]
theorem isTree_loop (d : Option B) : ∀ (m : Nat) (ws : List Tr) (k : Nat) (q : Option B), sizes ws ≤ m → k + sizes ws ≤ 200 → labsIn goods ws → ∃ q', sWhile wt_is_tree_0 wb_is_tree_1 (m + 1) [d, some (.d (.int 200)), some (.l (encs ws)), some (.d (.int k)), q] = .nx [d, some (.d (.int 200)), some (.l []), some (.d (.int (k + sizes ws : Nat))), q'] := by
  have test : ∀ (k : Nat) (ws : List Tr) (q : Option B), wt_is_tree_0 [d, some (.d (.int 200)), some (.l (encs ws)), some (.d (.int k)), q] = .ok (!(encs ws).isEmpty) [d, some (.d (.int 200)), some (.l (encs ws)), some (.d (.int k)), q] := fun k ws q => by
    simp [wt_is_tree_0, Sv.sNil, Sv.sCons, Sv.sPass, Sv.sBreak, Sv.sCont, Sv.sExpr, Sv.put, Sv.sSet, Sv.sRet, Sv.sRetN, Sv.sIf, Sv.cVar, Sv.cK, Sv.cE, Sv.cP, Sv.cOp, Sv.cUn, Sv.cChain, Sv.cIf, Sv.cAnd, Sv.cOr, Sv.cNot, Sv.tB, Sv.tAnd, Sv.tOr, Sv.tNot, Sv.tYes, Sv.aNil, Sv.aCons, Sv.aStar, Sv.cCall, Sv.cTup, Sv.cLst, Sv.cSl, Sv.cMeth, Sv.sSetIx, Sv.sPar2, Sv.sPar3, Sv.sAsg, Sv.sAug, Sv.hold, Sv.slot, Sv.outF, Sv.argsB, Sv.slotsOf, Sv.back, Sv.rds, Sv.datas, Sv.gN, Sv.gT, Sv.gL, Sv.gRun, Sv.cFn, Sv.fnD, Sv.sRaise, Sv.R.bind, Sv.R.opt, Sv.R.toS, Sv.RS.seq, Sv.Hd.rd, Sv.B.rd, Sv.toP, Sv.eqP, Sv.neP, Sv.one, Sv.two, Sv.getP, Sv.lenP, Sv.addP, Sv.subP, Sv.mulP, Sv.fdivP, Sv.modP, Sv.powP, Sv.intP, Sv.absP, Sv.max2P, Sv.min2P, Sv.negP, Sv.augAdd, Sv.setD, Sv.mAppend, Sv.ltB, Sv.gtB, Sv.leB, Sv.geB, Sv.ordB, Sv.small64, Sv.isP, Sv.wSeq, Sv.wRange1, Sv.sFor, eq_nil (encs_plain ws)]
  intro m
  induction m with
  | zero =>
    intro ws k q h h2 h3
    cases ws with
    | nil => exact ⟨q, by rw [while_end (test k [] q)]; simp [sizes, encs]⟩
    | cons t r => rw [sizes] at h; have := size_pos t; omega
  | succ m ih =>
    intro ws k q h h2 h3
    rcases List.eq_nil_or_concat ws with rfl | ⟨init, t, rfl⟩
    · exact ⟨q, by rw [while_end (test k [] q)]; simp [sizes, encs]⟩
    · obtain ⟨l, cs⟩ := t
      rw [List.concat_eq_append] at h h2 h3 ⊢
      rw [sizes_app] at h h2 ⊢
      simp only [sizes, size] at h h2 ⊢
      have hz : (encs init).length + (encs cs).length ≤ sizeLine := by
        rw [encs_len, encs_len, sizeLine_eq]
        have := len_sizes cs
        have := len_sizes init
        omega
      have h4 : labsIn goods init ∧ l ∈ goods ∧ labsIn goods cs := by
        have : ∀ a : List Tr, labsIn goods (a ++ [.nd l cs]) → labsIn goods a ∧ l ∈ goods ∧ labsIn goods cs := fun a => by
          induction a with
          | nil => intro h; simpa [labsIn, labIn] using h
          | cons t r ih => intro h; rw [List.cons_append, labsIn] at h; have := ih h.2; rw [labsIn]; exact ⟨⟨h.1, this.1⟩, this.2⟩
        exact this init h3
      have hn := name_spec l h4.2.1
      have hk : ¬ (200 : Int) < (k : Int) + 1 := by omega
      have ek : ((k : Int) + 1) = ((k + 1 : Nat) : Int) := by omega
      have hp : PyData.plainAll (.str l :: encs cs) = true := by simp [PyData.plainAll, PyData.plain, encs_plain cs]
      have body : wb_is_tree_1 [d, some (.d (.int 200)), some (.l (encs (init ++ [.nd l cs]))), some (.d (.int k)), q] = .nx [d, some (.d (.int 200)), some (.l (encs (init ++ cs))), some (.d (.int (k + 1 : Nat))), some (.d (enc (.nd l cs)))] := by
        simp [wb_is_tree_1, Sv.sNil, Sv.sCons, Sv.sPass, Sv.sBreak, Sv.sCont, Sv.sExpr, Sv.put, Sv.sSet, Sv.sRet, Sv.sRetN, Sv.sIf, Sv.cVar, Sv.cK, Sv.cE, Sv.cP, Sv.cOp, Sv.cUn, Sv.cChain, Sv.cIf, Sv.cAnd, Sv.cOr, Sv.cNot, Sv.tB, Sv.tAnd, Sv.tOr, Sv.tNot, Sv.tYes, Sv.aNil, Sv.aCons, Sv.aStar, Sv.cCall, Sv.cTup, Sv.cLst, Sv.cSl, Sv.cMeth, Sv.sSetIx, Sv.sPar2, Sv.sPar3, Sv.sAsg, Sv.sAug, Sv.hold, Sv.slot, Sv.outF, Sv.argsB, Sv.slotsOf, Sv.back, Sv.rds, Sv.datas, Sv.gN, Sv.gT, Sv.gL, Sv.gRun, Sv.cFn, Sv.fnD, Sv.sRaise, Sv.R.bind, Sv.R.opt, Sv.R.toS, Sv.RS.seq, Sv.Hd.rd, Sv.B.rd, Sv.toP, Sv.eqP, Sv.neP, Sv.one, Sv.two, Sv.getP, Sv.lenP, Sv.addP, Sv.subP, Sv.mulP, Sv.fdivP, Sv.modP, Sv.powP, Sv.intP, Sv.absP, Sv.max2P, Sv.min2P, Sv.negP, Sv.augAdd, Sv.setD, Sv.mAppend, Sv.ltB, Sv.gtB, Sv.leB, Sv.geB, Sv.ordB, Sv.small64, Sv.isP, Sv.wSeq, Sv.wRange1, Sv.sFor, encs_app, encs, enc, mPop, mExtend, slP, cut1, hz, isNotB, isB, hk, isTup, eq_tup hp, L2.atI, L2.ixN, hn]
      have t1 : wt_is_tree_0 [d, some (.d (.int 200)), some (.l (encs (init ++ [.nd l cs]))), some (.d (.int k)), q] = .ok true [d, some (.d (.int 200)), some (.l (encs (init ++ [.nd l cs]))), some (.d (.int k)), q] := by
        have e : (encs (init ++ [.nd l cs])).isEmpty = false := by rw [encs_app]; simp [encs]
        rw [test, e]
        rfl
      have s1 : sizes (init ++ cs) = sizes init + sizes cs := sizes_app _ _
      have e1 : k + 1 + sizes (init ++ cs) = k + (sizes init + (1 + sizes cs + 0)) := by omega
      obtain ⟨q', i1⟩ := ih (init ++ cs) (k + 1) (some (.d (enc (.nd l cs)))) (by omega) (by omega) (labsIn_app h4.1 h4.2.2)
      rw [e1] at i1
      exact ⟨q', (while_step t1 body).trans i1⟩
theorem is_tree_spec (t : Tr) (h : size t ≤ 200) (hl : labIn goods t) : d_is_tree [.d (enc t), .d (.int 200)] = .ok (.d (.bool true)) [some (.d (enc t)), some (.d (.int 200))] := by
  have e1 : sizes [t] = size t := by simp [sizes]
  obtain ⟨q', k⟩ := isTree_loop (some (.d (enc t))) 99999 [t] 0 none (by omega) (by omega) (by simpa [labsIn] using hl)
  simp only [encs] at k
  have p : 1 ≤ sizeLine := by rw [sizeLine_eq]; decide
  rw [show ((0 : Nat) : Int) = 0 from rfl] at k
  simp [d_is_tree, Sv.sNil, Sv.sCons, Sv.sPass, Sv.sBreak, Sv.sCont, Sv.sExpr, Sv.put, Sv.sSet, Sv.sRet, Sv.sRetN, Sv.sIf, Sv.cVar, Sv.cK, Sv.cE, Sv.cP, Sv.cOp, Sv.cUn, Sv.cChain, Sv.cIf, Sv.cAnd, Sv.cOr, Sv.cNot, Sv.tB, Sv.tAnd, Sv.tOr, Sv.tNot, Sv.tYes, Sv.aNil, Sv.aCons, Sv.aStar, Sv.cCall, Sv.cTup, Sv.cLst, Sv.cSl, Sv.cMeth, Sv.sSetIx, Sv.sPar2, Sv.sPar3, Sv.sAsg, Sv.sAug, Sv.hold, Sv.slot, Sv.outF, Sv.argsB, Sv.slotsOf, Sv.back, Sv.rds, Sv.datas, Sv.gN, Sv.gT, Sv.gL, Sv.gRun, Sv.cFn, Sv.fnD, Sv.sRaise, Sv.R.bind, Sv.R.opt, Sv.R.toS, Sv.RS.seq, Sv.Hd.rd, Sv.B.rd, Sv.toP, Sv.eqP, Sv.neP, Sv.one, Sv.two, Sv.getP, Sv.lenP, Sv.addP, Sv.subP, Sv.mulP, Sv.fdivP, Sv.modP, Sv.powP, Sv.intP, Sv.absP, Sv.max2P, Sv.min2P, Sv.negP, Sv.augAdd, Sv.setD, Sv.mAppend, Sv.ltB, Sv.gtB, Sv.leB, Sv.geB, Sv.ordB, Sv.small64, Sv.isP, Sv.wSeq, Sv.wRange1, Sv.sFor, p, k]
theorem is_document_spec (t : Tr) (h : size t ≤ 200) (hl : labIn goods t) : d_is_document [.d (enc t)] = .ok (.d (.bool true)) [some (.d (enc t))] := by
  simp [d_is_document, Sv.sNil, Sv.sCons, Sv.sPass, Sv.sBreak, Sv.sCont, Sv.sExpr, Sv.put, Sv.sSet, Sv.sRet, Sv.sRetN, Sv.sIf, Sv.cVar, Sv.cK, Sv.cE, Sv.cP, Sv.cOp, Sv.cUn, Sv.cChain, Sv.cIf, Sv.cAnd, Sv.cOr, Sv.cNot, Sv.tB, Sv.tAnd, Sv.tOr, Sv.tNot, Sv.tYes, Sv.aNil, Sv.aCons, Sv.aStar, Sv.cCall, Sv.cTup, Sv.cLst, Sv.cSl, Sv.cMeth, Sv.sSetIx, Sv.sPar2, Sv.sPar3, Sv.sAsg, Sv.sAug, Sv.hold, Sv.slot, Sv.outF, Sv.argsB, Sv.slotsOf, Sv.back, Sv.rds, Sv.datas, Sv.gN, Sv.gT, Sv.gL, Sv.gRun, Sv.cFn, Sv.fnD, Sv.sRaise, Sv.R.bind, Sv.R.opt, Sv.R.toS, Sv.RS.seq, Sv.Hd.rd, Sv.B.rd, Sv.toP, Sv.eqP, Sv.neP, Sv.one, Sv.two, Sv.getP, Sv.lenP, Sv.addP, Sv.subP, Sv.mulP, Sv.fdivP, Sv.modP, Sv.powP, Sv.intP, Sv.absP, Sv.max2P, Sv.min2P, Sv.negP, Sv.augAdd, Sv.setD, Sv.mAppend, Sv.ltB, Sv.gtB, Sv.leB, Sv.geB, Sv.ordB, Sv.small64, Sv.isP, Sv.wSeq, Sv.wRange1, Sv.sFor, is_tree_spec t h hl]
theorem require_document_spec (t : Tr) (h : size t ≤ 200) (hl : labIn goods t) : d_require_document [.d (enc t)] = .ok (.d .none) [some (.d (enc t))] := by
  simp [d_require_document, Sv.sNil, Sv.sCons, Sv.sPass, Sv.sBreak, Sv.sCont, Sv.sExpr, Sv.put, Sv.sSet, Sv.sRet, Sv.sRetN, Sv.sIf, Sv.cVar, Sv.cK, Sv.cE, Sv.cP, Sv.cOp, Sv.cUn, Sv.cChain, Sv.cIf, Sv.cAnd, Sv.cOr, Sv.cNot, Sv.tB, Sv.tAnd, Sv.tOr, Sv.tNot, Sv.tYes, Sv.aNil, Sv.aCons, Sv.aStar, Sv.cCall, Sv.cTup, Sv.cLst, Sv.cSl, Sv.cMeth, Sv.sSetIx, Sv.sPar2, Sv.sPar3, Sv.sAsg, Sv.sAug, Sv.hold, Sv.slot, Sv.outF, Sv.argsB, Sv.slotsOf, Sv.back, Sv.rds, Sv.datas, Sv.gN, Sv.gT, Sv.gL, Sv.gRun, Sv.cFn, Sv.fnD, Sv.sRaise, Sv.R.bind, Sv.R.opt, Sv.R.toS, Sv.RS.seq, Sv.Hd.rd, Sv.B.rd, Sv.toP, Sv.eqP, Sv.neP, Sv.one, Sv.two, Sv.getP, Sv.lenP, Sv.addP, Sv.subP, Sv.mulP, Sv.fdivP, Sv.modP, Sv.powP, Sv.intP, Sv.absP, Sv.max2P, Sv.min2P, Sv.negP, Sv.augAdd, Sv.setD, Sv.mAppend, Sv.ltB, Sv.gtB, Sv.leB, Sv.geB, Sv.ordB, Sv.small64, Sv.isP, Sv.wSeq, Sv.wRange1, Sv.sFor, is_document_spec t h hl]
/-! ### places in a tree -/
/-- a place: the numbers of the children on the way -/
def encP (p : List Nat) : PyData := .tuple (p.map fun i => .int (i : Nat))
def cat (t : Tr) : List Nat → Option Tr
  | [] => some t
  | i :: p => match t with
    | .nd _ cs => match cs[i]? with
      | some c => cat c p
      | none => none
theorem int_spec (i : Int) : d_is_integer [.d (.int i)] = .ok (.d (.bool true)) [some (.d (.int i))] := rfl
theorem encs_get {cs : List Tr} {i : Nat} {c : Tr} (h : cs[i]? = some c) : (encs cs)[i]? = some (enc c) := by rw [encs_map, List.getElem?_map, h]; rfl
theorem atI_enc {l : Str} {cs : List Tr} {i : Nat} {c : Tr} (h : cs[i]? = some c) : L2.atI (.str l :: encs cs) ((i : Int) + 1) = some (enc c) := by
  have hi := (List.getElem?_eq_some_iff.mp h).1
  have e : (((i : Int) + 1)).toNat = i + 1 := by omega
  unfold L2.atI L2.ixN
  rw [if_pos (by omega), if_pos (by simp [encs_len]; omega), e]
  exact encs_get h
theorem nodeIn_loop (d v : Option B) : ∀ (p : List Nat) (t u : Tr) (q : Option B), cat t p = some u → ∃ q', loopF (gN 3) fb_is_node_in_0 (p.map fun i => .int (i : Nat)) [d, v, some (.d (enc t)), q] = .nx [d, v, some (.d (enc u)), q'] := by
  intro p
  induction p with
  | nil => intro t u q h; cases h; exact ⟨q, rfl⟩
  | cons i p ih =>
    intro t u q h
    obtain ⟨l, cs⟩ := t
    rw [cat] at h
    cases hc : cs[i]? with
    | none => rw [hc] at h; cases h
    | some c =>
      rw [hc] at h
      obtain ⟨q', k⟩ := ih c u (some (.d (.int i))) h
      have hi := (List.getElem?_eq_some_iff.mp hc).1
      have h1 : (i : Int) < (cs.length : Int) := by omega
      have body : fb_is_node_in_0 [d, v, some (.d (enc (.nd l cs))), some (.d (.int i))] = .nx [d, v, some (.d (enc c)), some (.d (.int i))] := by
        have ha := atI_enc (l := l) hc
        simp [fb_is_node_in_0, Sv.sNil, Sv.sCons, Sv.sPass, Sv.sBreak, Sv.sCont, Sv.sExpr, Sv.put, Sv.sSet, Sv.sRet, Sv.sRetN, Sv.sIf, Sv.cVar, Sv.cK, Sv.cE, Sv.cP, Sv.cOp, Sv.cUn, Sv.cChain, Sv.cIf, Sv.cAnd, Sv.cOr, Sv.cNot, Sv.tB, Sv.tAnd, Sv.tOr, Sv.tNot, Sv.tYes, Sv.aNil, Sv.aCons, Sv.aStar, Sv.cCall, Sv.cTup, Sv.cLst, Sv.cSl, Sv.cMeth, Sv.sSetIx, Sv.sPar2, Sv.sPar3, Sv.sAsg, Sv.sAug, Sv.hold, Sv.slot, Sv.outF, Sv.argsB, Sv.slotsOf, Sv.back, Sv.rds, Sv.datas, Sv.gN, Sv.gT, Sv.gL, Sv.gRun, Sv.cFn, Sv.fnD, Sv.sRaise, Sv.R.bind, Sv.R.opt, Sv.R.toS, Sv.RS.seq, Sv.Hd.rd, Sv.B.rd, Sv.toP, Sv.eqP, Sv.neP, Sv.one, Sv.two, Sv.getP, Sv.lenP, Sv.addP, Sv.subP, Sv.mulP, Sv.fdivP, Sv.modP, Sv.powP, Sv.intP, Sv.absP, Sv.max2P, Sv.min2P, Sv.negP, Sv.augAdd, Sv.setD, Sv.mAppend, Sv.ltB, Sv.gtB, Sv.leB, Sv.geB, Sv.ordB, Sv.small64, Sv.isP, Sv.wSeq, Sv.wRange1, Sv.sFor, int_spec, enc, encs_len, h1, ha, hi]
      refine ⟨q', ?_⟩
      rw [List.map_cons, loopF]
      simp [gN, body, k, RS.seq]
theorem node_in_spec (t u : Tr) (p : List Nat) (h : cat t p = some u) : d_is_node_in [.d (enc t), .d (encP p)] = .ok (.d (.bool true)) [some (.d (enc t)), some (.d (encP p))] := by
  obtain ⟨q', k⟩ := nodeIn_loop (some (.d (enc t))) (some (.d (encP p))) p t u none h
  simp only [encP] at k ⊢
  simp [d_is_node_in, Sv.sNil, Sv.sCons, Sv.sPass, Sv.sBreak, Sv.sCont, Sv.sExpr, Sv.put, Sv.sSet, Sv.sRet, Sv.sRetN, Sv.sIf, Sv.cVar, Sv.cK, Sv.cE, Sv.cP, Sv.cOp, Sv.cUn, Sv.cChain, Sv.cIf, Sv.cAnd, Sv.cOr, Sv.cNot, Sv.tB, Sv.tAnd, Sv.tOr, Sv.tNot, Sv.tYes, Sv.aNil, Sv.aCons, Sv.aStar, Sv.cCall, Sv.cTup, Sv.cLst, Sv.cSl, Sv.cMeth, Sv.sSetIx, Sv.sPar2, Sv.sPar3, Sv.sAsg, Sv.sAug, Sv.hold, Sv.slot, Sv.outF, Sv.argsB, Sv.slotsOf, Sv.back, Sv.rds, Sv.datas, Sv.gN, Sv.gT, Sv.gL, Sv.gRun, Sv.cFn, Sv.fnD, Sv.sRaise, Sv.R.bind, Sv.R.opt, Sv.R.toS, Sv.RS.seq, Sv.Hd.rd, Sv.B.rd, Sv.toP, Sv.eqP, Sv.neP, Sv.one, Sv.two, Sv.getP, Sv.lenP, Sv.addP, Sv.subP, Sv.mulP, Sv.fdivP, Sv.modP, Sv.powP, Sv.intP, Sv.absP, Sv.max2P, Sv.min2P, Sv.negP, Sv.augAdd, Sv.setD, Sv.mAppend, Sv.ltB, Sv.gtB, Sv.leB, Sv.geB, Sv.ordB, Sv.small64, Sv.isP, Sv.wSeq, Sv.wRange1, Sv.sFor, isTup, k]
theorem require_node_spec (t u : Tr) (p : List Nat) (h : cat t p = some u) : d_require_node [.d (enc t), .d (encP p)] = .ok (.d .none) [some (.d (enc t)), some (.d (encP p))] := by
  simp [d_require_node, Sv.sNil, Sv.sCons, Sv.sPass, Sv.sBreak, Sv.sCont, Sv.sExpr, Sv.put, Sv.sSet, Sv.sRet, Sv.sRetN, Sv.sIf, Sv.cVar, Sv.cK, Sv.cE, Sv.cP, Sv.cOp, Sv.cUn, Sv.cChain, Sv.cIf, Sv.cAnd, Sv.cOr, Sv.cNot, Sv.tB, Sv.tAnd, Sv.tOr, Sv.tNot, Sv.tYes, Sv.aNil, Sv.aCons, Sv.aStar, Sv.cCall, Sv.cTup, Sv.cLst, Sv.cSl, Sv.cMeth, Sv.sSetIx, Sv.sPar2, Sv.sPar3, Sv.sAsg, Sv.sAug, Sv.hold, Sv.slot, Sv.outF, Sv.argsB, Sv.slotsOf, Sv.back, Sv.rds, Sv.datas, Sv.gN, Sv.gT, Sv.gL, Sv.gRun, Sv.cFn, Sv.fnD, Sv.sRaise, Sv.R.bind, Sv.R.opt, Sv.R.toS, Sv.RS.seq, Sv.Hd.rd, Sv.B.rd, Sv.toP, Sv.eqP, Sv.neP, Sv.one, Sv.two, Sv.getP, Sv.lenP, Sv.addP, Sv.subP, Sv.mulP, Sv.fdivP, Sv.modP, Sv.powP, Sv.intP, Sv.absP, Sv.max2P, Sv.min2P, Sv.negP, Sv.augAdd, Sv.setD, Sv.mAppend, Sv.ltB, Sv.gtB, Sv.leB, Sv.geB, Sv.ordB, Sv.small64, Sv.isP, Sv.wSeq, Sv.wRange1, Sv.sFor, node_in_spec t u p h]
theorem subtree_loop (v : Option B) : ∀ (p : List Nat) (t u : Tr) (q : Option B), cat t p = some u → ∃ q', loopF (gN 2) fb_subtree_in_0 (p.map fun i => .int (i : Nat)) [some (.d (enc t)), v, q] = .nx [some (.d (enc u)), v, q'] := by
  intro p
  induction p with
  | nil => intro t u q h; cases h; exact ⟨q, rfl⟩
  | cons i p ih =>
    intro t u q h
    obtain ⟨l, cs⟩ := t
    rw [cat] at h
    cases hc : cs[i]? with
    | none => rw [hc] at h; cases h
    | some c =>
      rw [hc] at h
      obtain ⟨q', k⟩ := ih c u (some (.d (.int i))) h
      have body : fb_subtree_in_0 [some (.d (enc (.nd l cs))), v, some (.d (.int i))] = .nx [some (.d (enc c)), v, some (.d (.int i))] := by
        have ha := atI_enc (l := l) hc
        simp [fb_subtree_in_0, Sv.sNil, Sv.sCons, Sv.sPass, Sv.sBreak, Sv.sCont, Sv.sExpr, Sv.put, Sv.sSet, Sv.sRet, Sv.sRetN, Sv.sIf, Sv.cVar, Sv.cK, Sv.cE, Sv.cP, Sv.cOp, Sv.cUn, Sv.cChain, Sv.cIf, Sv.cAnd, Sv.cOr, Sv.cNot, Sv.tB, Sv.tAnd, Sv.tOr, Sv.tNot, Sv.tYes, Sv.aNil, Sv.aCons, Sv.aStar, Sv.cCall, Sv.cTup, Sv.cLst, Sv.cSl, Sv.cMeth, Sv.sSetIx, Sv.sPar2, Sv.sPar3, Sv.sAsg, Sv.sAug, Sv.hold, Sv.slot, Sv.outF, Sv.argsB, Sv.slotsOf, Sv.back, Sv.rds, Sv.datas, Sv.gN, Sv.gT, Sv.gL, Sv.gRun, Sv.cFn, Sv.fnD, Sv.sRaise, Sv.R.bind, Sv.R.opt, Sv.R.toS, Sv.RS.seq, Sv.Hd.rd, Sv.B.rd, Sv.toP, Sv.eqP, Sv.neP, Sv.one, Sv.two, Sv.getP, Sv.lenP, Sv.addP, Sv.subP, Sv.mulP, Sv.fdivP, Sv.modP, Sv.powP, Sv.intP, Sv.absP, Sv.max2P, Sv.min2P, Sv.negP, Sv.augAdd, Sv.setD, Sv.mAppend, Sv.ltB, Sv.gtB, Sv.leB, Sv.geB, Sv.ordB, Sv.small64, Sv.isP, Sv.wSeq, Sv.wRange1, Sv.sFor, enc, ha]
      refine ⟨q', ?_⟩
      rw [List.map_cons, loopF]
      simp [gN, body, k, RS.seq]
theorem subtree_in_spec (t u : Tr) (p : List Nat) (h : cat t p = some u) : d_subtree_in [.d (enc t), .d (encP p)] = .ok (.d (enc u)) [some (.d (enc t)), some (.d (encP p))] := by
  obtain ⟨q', k⟩ := subtree_loop (some (.d (encP p))) p t u none h
  simp only [encP] at k ⊢
  simp [d_subtree_in, Sv.sNil, Sv.sCons, Sv.sPass, Sv.sBreak, Sv.sCont, Sv.sExpr, Sv.put, Sv.sSet, Sv.sRet, Sv.sRetN, Sv.sIf, Sv.cVar, Sv.cK, Sv.cE, Sv.cP, Sv.cOp, Sv.cUn, Sv.cChain, Sv.cIf, Sv.cAnd, Sv.cOr, Sv.cNot, Sv.tB, Sv.tAnd, Sv.tOr, Sv.tNot, Sv.tYes, Sv.aNil, Sv.aCons, Sv.aStar, Sv.cCall, Sv.cTup, Sv.cLst, Sv.cSl, Sv.cMeth, Sv.sSetIx, Sv.sPar2, Sv.sPar3, Sv.sAsg, Sv.sAug, Sv.hold, Sv.slot, Sv.outF, Sv.argsB, Sv.slotsOf, Sv.back, Sv.rds, Sv.datas, Sv.gN, Sv.gT, Sv.gL, Sv.gRun, Sv.cFn, Sv.fnD, Sv.sRaise, Sv.R.bind, Sv.R.opt, Sv.R.toS, Sv.RS.seq, Sv.Hd.rd, Sv.B.rd, Sv.toP, Sv.eqP, Sv.neP, Sv.one, Sv.two, Sv.getP, Sv.lenP, Sv.addP, Sv.subP, Sv.mulP, Sv.fdivP, Sv.modP, Sv.powP, Sv.intP, Sv.absP, Sv.max2P, Sv.min2P, Sv.negP, Sv.augAdd, Sv.setD, Sv.mAppend, Sv.ltB, Sv.gtB, Sv.leB, Sv.geB, Sv.ordB, Sv.small64, Sv.isP, Sv.wSeq, Sv.wRange1, Sv.sFor, k]
end K02
end
section
set_option autoImplicit false
set_option linter.all false
set_option maxRecDepth 100000
namespace K02
open PySem Sv

theorem ints_plain : ∀ p : List Nat, PyData.plainAll (p.map fun i => PyData.int (i : Nat)) = true
  | [] => rfl
  | i :: p => by simp [PyData.plainAll, PyData.plain, ints_plain p]
theorem eq_place (p : List Nat) : eqB (encP p) (.tuple []) = some p.isEmpty := by
  cases p with
  | nil => decide
  | cons i p => exact eq_tup (ints_plain (i :: p))
theorem atI0 {α : Type} (x : α) (xs : List α) : L2.atI (x :: xs) 0 = some x := by simp [L2.atI, L2.ixN]
theorem at_spec : ∀ (n : Nat) (p : List Nat) (t u : Tr), p.length < n → cat t p = some u → ∃ o1 o2, d_at n [.d (enc t), .d (encP p)] = .ok (.d (enc u)) [o1, o2]
  | 0, p, t, u, h, _ => by omega
  | n + 1, [], t, u, _, h => by
    cases h
    refine ⟨none, some (.d (encP [])), ?_⟩
    simp [d_at, Sv.sNil, Sv.sCons, Sv.sPass, Sv.sBreak, Sv.sCont, Sv.sExpr, Sv.put, Sv.sSet, Sv.sRet, Sv.sRetN, Sv.sIf, Sv.cVar, Sv.cK, Sv.cE, Sv.cP, Sv.cOp, Sv.cUn, Sv.cChain, Sv.cIf, Sv.cAnd, Sv.cOr, Sv.cNot, Sv.tB, Sv.tAnd, Sv.tOr, Sv.tNot, Sv.tYes, Sv.aNil, Sv.aCons, Sv.aStar, Sv.cCall, Sv.cTup, Sv.cLst, Sv.cSl, Sv.cMeth, Sv.sSetIx, Sv.sPar2, Sv.sPar3, Sv.sAsg, Sv.sAug, Sv.hold, Sv.slot, Sv.outF, Sv.argsB, Sv.slotsOf, Sv.back, Sv.rds, Sv.datas, Sv.gN, Sv.gT, Sv.gL, Sv.gRun, Sv.cFn, Sv.fnD, Sv.sRaise, Sv.R.bind, Sv.R.opt, Sv.R.toS, Sv.RS.seq, Sv.Hd.rd, Sv.B.rd, Sv.toP, Sv.eqP, Sv.neP, Sv.one, Sv.two, Sv.getP, Sv.lenP, Sv.addP, Sv.subP, Sv.mulP, Sv.fdivP, Sv.modP, Sv.powP, Sv.intP, Sv.absP, Sv.max2P, Sv.min2P, Sv.negP, Sv.augAdd, Sv.setD, Sv.mAppend, Sv.ltB, Sv.gtB, Sv.leB, Sv.geB, Sv.ordB, Sv.small64, Sv.isP, Sv.wSeq, Sv.wRange1, Sv.sFor, eq_place]
  | n + 1, i :: p, .nd l cs, u, hn, h => by
    rw [cat] at h
    cases hc : cs[i]? with
    | none => rw [hc] at h; cases h
    | some c =>
      rw [hc] at h
      obtain ⟨o1, o2, k⟩ := at_spec n p c u (by simpa using hn) h
      refine ⟨some (.d (enc (.nd l cs))), some (.d (encP (i :: p))), ?_⟩
      have ha := atI_enc (l := l) hc
      have hp := eq_place (i :: p)
      simp only [encP, List.map_cons, List.isEmpty_cons] at hp k ⊢
      simp [d_at, Sv.sNil, Sv.sCons, Sv.sPass, Sv.sBreak, Sv.sCont, Sv.sExpr, Sv.put, Sv.sSet, Sv.sRet, Sv.sRetN, Sv.sIf, Sv.cVar, Sv.cK, Sv.cE, Sv.cP, Sv.cOp, Sv.cUn, Sv.cChain, Sv.cIf, Sv.cAnd, Sv.cOr, Sv.cNot, Sv.tB, Sv.tAnd, Sv.tOr, Sv.tNot, Sv.tYes, Sv.aNil, Sv.aCons, Sv.aStar, Sv.cCall, Sv.cTup, Sv.cLst, Sv.cSl, Sv.cMeth, Sv.sSetIx, Sv.sPar2, Sv.sPar3, Sv.sAsg, Sv.sAug, Sv.hold, Sv.slot, Sv.outF, Sv.argsB, Sv.slotsOf, Sv.back, Sv.rds, Sv.datas, Sv.gN, Sv.gT, Sv.gL, Sv.gRun, Sv.cFn, Sv.fnD, Sv.sRaise, Sv.R.bind, Sv.R.opt, Sv.R.toS, Sv.RS.seq, Sv.Hd.rd, Sv.B.rd, Sv.toP, Sv.eqP, Sv.neP, Sv.one, Sv.two, Sv.getP, Sv.lenP, Sv.addP, Sv.subP, Sv.mulP, Sv.fdivP, Sv.modP, Sv.powP, Sv.intP, Sv.absP, Sv.max2P, Sv.min2P, Sv.negP, Sv.augAdd, Sv.setD, Sv.mAppend, Sv.ltB, Sv.gtB, Sv.leB, Sv.geB, Sv.ordB, Sv.small64, Sv.isP, Sv.wSeq, Sv.wRange1, Sv.sFor, hp, enc, ha, slP, cut1, atI0, k]
/-- the part at a place changed -/
def rep : Tr → List Nat → Tr → Option Tr
  | _, [], x => some x
  | .nd l cs, i :: p, x => match cs[i]? with
    | some c => match rep c p x with
      | some c' => some (.nd l (cs.set i c'))
      | none => none
    | none => none
theorem cut_to {α : Type} (x : α) (xs : List α) (i : Nat) (h : i ≤ xs.length) : cutD (x :: xs) none (some ((i : Int) + 1)) = x :: xs.take i := by
  have e : HT.sIx (xs.length + 1) (xs.length + 1) (some ((i : Int) + 1)) = i + 1 := by
    rw [show ((i : Int) + 1) = ((i + 1 : Nat) : Int) by omega, HT.sIx_nat]
    omega
  unfold cutD
  rw [List.length_cons, e]
  simp [HT.sIx]
theorem cut_from {α : Type} (x : α) (xs : List α) (i : Nat) (h : i ≤ xs.length) : cutD (x :: xs) (some ((i : Int) + 1)) none = xs.drop i := by
  have e : HT.sIx (xs.length + 1) 0 (some ((i : Int) + 1)) = i + 1 := by
    rw [show ((i : Int) + 1) = ((i + 1 : Nat) : Int) by omega, HT.sIx_nat]
    omega
  unfold cutD
  rw [List.length_cons, e]
  simp [HT.sIx]
  exact List.take_of_length_le (by simp)
theorem set_split {α : Type} : ∀ (xs : List α) (i : Nat) (y : α), i < xs.length → xs.set i y = xs.take i ++ y :: xs.drop (i + 1)
  | x :: xs, 0, y, _ => rfl
  | x :: xs, i + 1, y, h => by rw [List.set_cons_succ, set_split xs i y (by simpa using h)]; rfl
theorem put_spec : ∀ (n : Nat) (p : List Nat) (t u x : Tr), p.length < n → size t ≤ 1000 → rep t p x = some u → ∃ o1 o2 o3, d_put n [.d (enc t), .d (encP p), .d (enc x)] = .ok (.d (enc u)) [o1, o2, o3]
  | 0, p, t, u, x, h, _, _ => by omega
  | n + 1, [], t, u, x, _, _, h => by
    rw [rep] at h
    cases h
    refine ⟨some (.d (enc t)), some (.d (encP [])), none, ?_⟩
    simp [d_put, Sv.sNil, Sv.sCons, Sv.sPass, Sv.sBreak, Sv.sCont, Sv.sExpr, Sv.put, Sv.sSet, Sv.sRet, Sv.sRetN, Sv.sIf, Sv.cVar, Sv.cK, Sv.cE, Sv.cP, Sv.cOp, Sv.cUn, Sv.cChain, Sv.cIf, Sv.cAnd, Sv.cOr, Sv.cNot, Sv.tB, Sv.tAnd, Sv.tOr, Sv.tNot, Sv.tYes, Sv.aNil, Sv.aCons, Sv.aStar, Sv.cCall, Sv.cTup, Sv.cLst, Sv.cSl, Sv.cMeth, Sv.sSetIx, Sv.sPar2, Sv.sPar3, Sv.sAsg, Sv.sAug, Sv.hold, Sv.slot, Sv.outF, Sv.argsB, Sv.slotsOf, Sv.back, Sv.rds, Sv.datas, Sv.gN, Sv.gT, Sv.gL, Sv.gRun, Sv.cFn, Sv.fnD, Sv.sRaise, Sv.R.bind, Sv.R.opt, Sv.R.toS, Sv.RS.seq, Sv.Hd.rd, Sv.B.rd, Sv.toP, Sv.eqP, Sv.neP, Sv.one, Sv.two, Sv.getP, Sv.lenP, Sv.addP, Sv.subP, Sv.mulP, Sv.fdivP, Sv.modP, Sv.powP, Sv.intP, Sv.absP, Sv.max2P, Sv.min2P, Sv.negP, Sv.augAdd, Sv.setD, Sv.mAppend, Sv.ltB, Sv.gtB, Sv.leB, Sv.geB, Sv.ordB, Sv.small64, Sv.isP, Sv.wSeq, Sv.wRange1, Sv.sFor, eq_place]
  | n + 1, i :: p, .nd l cs, u, x, hn, hz, h => by
    rw [rep] at h
    rw [size] at hz
    cases hc : cs[i]? with
    | none => rw [hc] at h; cases h
    | some c =>
      rw [hc] at h
      simp only at h
      cases hr : rep c p x with
      | none => rw [hr] at h; cases h
      | some c' =>
        rw [hr] at h
        cases h
        have hi := (List.getElem?_eq_some_iff.mp hc).1
        have hls := len_sizes cs
        have hsz : ∀ l : List Tr, c ∈ l → size c ≤ sizes l := fun l => by
          induction l with
          | nil => intro h; cases h
          | cons a r ih =>
            intro h
            rw [sizes]
            rcases List.mem_cons.mp h with e | h
            · subst e; omega
            · have := ih h; omega
        have hc1 := hsz cs (List.mem_of_getElem? hc)
        obtain ⟨o1, o2, o3, k⟩ := put_spec n p c c' x (by simpa using hn) (by omega) hr
        refine ⟨some (.d (enc (.nd l cs))), some (.d (encP (i :: p))), some (.d (enc x)), ?_⟩
        have ha := atI_enc (l := l) hc
        have hp := eq_place (i :: p)
        have hl : (encs cs).length = cs.length := encs_len cs
        have c1 := cut_to (PyData.str l) (encs cs) i (by omega)
        have c2 := cut_from (PyData.str l) (encs cs) (i + 1) (by omega)
        have e2 : ((i + 1 : Nat) : Int) + 1 = (i : Int) + 1 + 1 := by omega
        rw [e2] at c2
        have es : encs (cs.set i c') = (encs cs).take i ++ enc c' :: (encs cs).drop (i + 1) := by
          rw [encs_map, List.map_set, set_split _ _ _ (by simpa using hi), encs_map]
        have z0 : 1 ≤ sizeLine := by rw [sizeLine_eq]; decide
        have z1 : i + 1 + 1 ≤ sizeLine := by rw [sizeLine_eq]; omega
        have z2 : min i cs.length = i := by omega
        have z3 : i + 1 + (1 + (cs.length - (i + 1))) ≤ sizeLine := by rw [sizeLine_eq]; omega
        have z4 : i + (1 + (cs.length - (i + 1))) + 1 ≤ sizeLine := by rw [sizeLine_eq]; omega
        have z5 : i + 1 + 1 + (cs.length - (i + 1)) ≤ sizeLine := by rw [sizeLine_eq]; omega
        simp only [encP, List.map_cons, List.isEmpty_cons] at hp k ⊢
        simp [d_put, Sv.sNil, Sv.sCons, Sv.sPass, Sv.sBreak, Sv.sCont, Sv.sExpr, Sv.put, Sv.sSet, Sv.sRet, Sv.sRetN, Sv.sIf, Sv.cVar, Sv.cK, Sv.cE, Sv.cP, Sv.cOp, Sv.cUn, Sv.cChain, Sv.cIf, Sv.cAnd, Sv.cOr, Sv.cNot, Sv.tB, Sv.tAnd, Sv.tOr, Sv.tNot, Sv.tYes, Sv.aNil, Sv.aCons, Sv.aStar, Sv.cCall, Sv.cTup, Sv.cLst, Sv.cSl, Sv.cMeth, Sv.sSetIx, Sv.sPar2, Sv.sPar3, Sv.sAsg, Sv.sAug, Sv.hold, Sv.slot, Sv.outF, Sv.argsB, Sv.slotsOf, Sv.back, Sv.rds, Sv.datas, Sv.gN, Sv.gT, Sv.gL, Sv.gRun, Sv.cFn, Sv.fnD, Sv.sRaise, Sv.R.bind, Sv.R.opt, Sv.R.toS, Sv.RS.seq, Sv.Hd.rd, Sv.B.rd, Sv.toP, Sv.eqP, Sv.neP, Sv.one, Sv.two, Sv.getP, Sv.lenP, Sv.addP, Sv.subP, Sv.mulP, Sv.fdivP, Sv.modP, Sv.powP, Sv.intP, Sv.absP, Sv.max2P, Sv.min2P, Sv.negP, Sv.augAdd, Sv.setD, Sv.mAppend, Sv.ltB, Sv.gtB, Sv.leB, Sv.geB, Sv.ordB, Sv.small64, Sv.isP, Sv.wSeq, Sv.wRange1, Sv.sFor, hp, enc, ha, slP, cut1, atI0, k, c1, c2, es, z0, z1, hl, z2, z3, z4, z5]
end K02
end
section
set_option autoImplicit false
set_option linter.all false
set_option maxRecDepth 100000
namespace K02
open PySem Sv

theorem atI_last {α : Type} (xs : List α) (a : α) : L2.atI (xs ++ [a]) (-1) = some a := by
  unfold L2.atI L2.ixN
  have e : ((-1 : Int) + ((xs ++ [a]).length : Int)).toNat = xs.length := by simp; omega
  rw [if_neg (by decide), if_pos (by simp; omega), e]
  simp
/-- the trees on the way -/
def path : Tr → List Nat → Option (List Tr)
  | t, [] => some [t]
  | .nd l cs, i :: p => match cs[i]? with
    | some c => match path c p with
      | some ws => some (.nd l cs :: ws)
      | none => none
    | none => none
theorem up_loop (d v x : Option B) : ∀ (p : List Nat) (t : Tr) (ws : List Tr) (pre : List PyData) (q : Option B), path t p = some ws → pre.length + p.length ≤ 1000 →
    ∃ q', loopF (gN 4) fb_put_in_1 (p.map fun i => .int (i : Nat)) [d, v, x, some (.l (pre ++ [enc t])), q, none, none] = .nx [d, v, x, some (.l (pre ++ encs ws)), q', none, none] := by
  intro p
  induction p with
  | nil =>
    intro t ws pre q h hz
    rw [path] at h
    cases h
    exact ⟨q, by simp [loopF, encs]⟩
  | cons i p ih =>
    intro t ws pre q h hz
    obtain ⟨l, cs⟩ := t
    rw [path] at h
    cases hc : cs[i]? with
    | none => rw [hc] at h; cases h
    | some c =>
      rw [hc] at h
      simp only at h
      cases hr : path c p with
      | none => rw [hr] at h; cases h
      | some ws' =>
        rw [hr] at h
        cases h
        simp only [List.length_cons] at hz
        obtain ⟨q', k⟩ := ih c ws' (pre ++ [enc (.nd l cs)]) (some (.d (.int i))) hr (by simp; omega)
        refine ⟨q', ?_⟩
        have ha := atI_enc (l := l) hc
        have hz1 : pre.length + 1 < sizeLine := by rw [sizeLine_eq]; omega
        have hl := atI_last pre (enc (.nd l cs))
        have body : fb_put_in_1 [d, v, x, some (.l (pre ++ [enc (.nd l cs)])), some (.d (.int i)), none, none] = .nx [d, v, x, some (.l (pre ++ [enc (.nd l cs)] ++ [enc c])), some (.d (.int i)), none, none] := by
          rw [enc] at hl ⊢
          simp [fb_put_in_1, Sv.sNil, Sv.sCons, Sv.sPass, Sv.sBreak, Sv.sCont, Sv.sExpr, Sv.put, Sv.sSet, Sv.sRet, Sv.sRetN, Sv.sIf, Sv.cVar, Sv.cK, Sv.cE, Sv.cP, Sv.cOp, Sv.cUn, Sv.cChain, Sv.cIf, Sv.cAnd, Sv.cOr, Sv.cNot, Sv.tB, Sv.tAnd, Sv.tOr, Sv.tNot, Sv.tYes, Sv.aNil, Sv.aCons, Sv.aStar, Sv.cCall, Sv.cTup, Sv.cLst, Sv.cSl, Sv.cMeth, Sv.sSetIx, Sv.sPar2, Sv.sPar3, Sv.sAsg, Sv.sAug, Sv.hold, Sv.slot, Sv.outF, Sv.argsB, Sv.slotsOf, Sv.back, Sv.rds, Sv.datas, Sv.gN, Sv.gT, Sv.gL, Sv.gRun, Sv.cFn, Sv.fnD, Sv.sRaise, Sv.R.bind, Sv.R.opt, Sv.R.toS, Sv.RS.seq, Sv.Hd.rd, Sv.B.rd, Sv.toP, Sv.eqP, Sv.neP, Sv.one, Sv.two, Sv.getP, Sv.lenP, Sv.addP, Sv.subP, Sv.mulP, Sv.fdivP, Sv.modP, Sv.powP, Sv.intP, Sv.absP, Sv.max2P, Sv.min2P, Sv.negP, Sv.augAdd, Sv.setD, Sv.mAppend, Sv.ltB, Sv.gtB, Sv.leB, Sv.geB, Sv.ordB, Sv.small64, Sv.isP, Sv.wSeq, Sv.wRange1, Sv.sFor, hl, ha, hz1]
        rw [List.map_cons, loopF]
        simp only [gN, RS.seq, List.set_cons_succ, List.set_cons_zero]
        rw [body]
        simp only
        rw [k, encs, List.append_assoc]
        rfl
theorem atI_nat {α : Type} (xs : List α) (i : Nat) (a : α) (h : xs[i]? = some a) : L2.atI xs (i : Int) = some a := by
  have hi := (List.getElem?_eq_some_iff.mp h).1
  unfold L2.atI L2.ixN
  rw [if_pos (by omega), if_pos (by omega), Int.toNat_natCast]
  exact h
theorem rngDn_succ (j : Nat) : rngDn (j : Int) (j + 1) = .int j :: rngDn ((j : Int) - 1) j := by
  unfold rngDn
  rw [List.range_succ_eq_map, List.map_cons, List.map_map]
  congr 1
  simp
  intro a _
  omega
theorem datas_map (xs : List PyData) (hs : List Hd) : datas (xs.map (fun x => Hd.v (B.d x)) ++ hs) = (datas hs).map (xs ++ ·) := by
  induction xs with
  | nil => simp
  | cons x r ih =>
    simp only [List.map_cons, List.cons_append, datas, ih, Option.map_map]
    rfl
theorem datas_take (n : Nat) (xs : List PyData) (hs : List Hd) : datas (List.take n (xs.map (fun x => Hd.v (B.d x))) ++ hs) = (datas hs).map (List.take n xs ++ ·) := by
  rw [← List.map_take]
  exact datas_map _ _
theorem datas_all (xs : List PyData) : datas (xs.map (fun x => Hd.v (B.d x))) = some xs := by
  have := datas_map xs []
  simpa using this
theorem datas_drop (n : Nat) (xs : List PyData) : datas (List.drop n (xs.map (fun x => Hd.v (B.d x)))) = some (List.drop n xs) := by
  rw [← List.map_drop]
  exact datas_all _
theorem down_loop (d : Option B) (p : List Nat) (ws : List Tr) (x u : Tr) (q4 : Option B) (hz : ∀ w ∈ ws, size w ≤ 1000) (hu0 : ∀ w, ws[0]? = some w → rep w p x = some u) (hl : ws.length = p.length + 1)
    (hs : ∀ j i, p[j]? = some i → ∃ l cs c, ws[j]? = some (.nd l cs) ∧ cs[i]? = some c ∧ ws[j + 1]? = some c) : ∀ (j : Nat) (w uj : Tr) (q5 q6 : Option B), j ≤ p.length → ws[j]? = some w → rep w (p.drop j) x = some uj → ∃ q5' q6',
    loopF (gN 5) fb_put_in_0 (rngDn ((j : Int) - 1) j) [d, some (.d (encP p)), some (.d (enc uj)), some (.l (encs ws)), q4, q5, q6] = .nx [d, some (.d (encP p)), some (.d (enc u)), some (.l (encs ws)), q4, q5', q6'] := by
  intro j
  induction j with
  | zero =>
    intro w uj q5 q6 h1 h2 h3
    have := hu0 w h2
    rw [List.drop_zero, this] at h3
    cases h3
    exact ⟨q5, q6, rfl⟩
  | succ j ih =>
    intro w uj q5 q6 h1 h2 h3
    have hj : j < p.length := by omega
    obtain ⟨l, cs, c, e1, e2, e3⟩ := hs j p[j] (List.getElem?_eq_getElem hj)
    rw [h2] at e3
    cases e3
    have hi := (List.getElem?_eq_some_iff.mp e2).1
    have hr : rep (.nd l cs) (p.drop j) x = some (.nd l (cs.set p[j] uj)) := by
      rw [List.drop_eq_getElem_cons hj, rep, e2]
      simp only [h3]
    obtain ⟨q5', q6', k⟩ := ih (.nd l cs) (.nd l (cs.set p[j] uj)) (some (.d (.int j))) (some (.d (.int ((p[j] : Int) + 1)))) (by omega) e1 hr
    refine ⟨q5', q6', ?_⟩
    have a1 : L2.atI (p.map fun i => PyData.int (i : Nat)) (j : Int) = some (.int (p[j] : Nat)) := atI_nat _ _ _ (by rw [List.getElem?_map, List.getElem?_eq_getElem hj]; rfl)
    have a2 : L2.atI (encs ws) (j : Int) = some (enc (.nd l cs)) := atI_nat _ _ _ (encs_get e1)
    have hsz := hz _ (List.mem_of_getElem? e1)
    rw [size] at hsz
    have hls := len_sizes cs
    have hle : (encs cs).length = cs.length := encs_len cs
    have c1 := cut_to (PyData.str l) (encs cs) p[j] (by omega)
    have c2 := cut_from (PyData.str l) (encs cs) (p[j] + 1) (by omega)
    have e4 : ((p[j] + 1 : Nat) : Int) + 1 = (p[j] : Int) + 1 + 1 := by omega
    rw [e4] at c2
    have es : encs (cs.set p[j] uj) = (encs cs).take p[j] ++ enc uj :: (encs cs).drop (p[j] + 1) := by
      rw [encs_map, List.map_set, set_split _ _ _ (by simpa using hi), encs_map]
    have z2 : min p[j] cs.length = p[j] := by omega
    have z4 : p[j] + (cs.length - (p[j] + 1) + 1) + 1 ≤ sizeLine := by rw [sizeLine_eq]; omega
    have body : fb_put_in_0 [d, some (.d (encP p)), some (.d (enc uj)), some (.l (encs ws)), q4, some (.d (.int j)), q6] = .nx [d, some (.d (encP p)), some (.d (enc (.nd l (cs.set p[j] uj)))), some (.l (encs ws)), q4, some (.d (.int j)), some (.d (.int ((p[j] : Int) + 1)))] := by
      rw [enc] at a2
      simp [fb_put_in_0, Sv.sNil, Sv.sCons, Sv.sPass, Sv.sBreak, Sv.sCont, Sv.sExpr, Sv.put, Sv.sSet, Sv.sRet, Sv.sRetN, Sv.sIf, Sv.cVar, Sv.cK, Sv.cE, Sv.cP, Sv.cOp, Sv.cUn, Sv.cChain, Sv.cIf, Sv.cAnd, Sv.cOr, Sv.cNot, Sv.tB, Sv.tAnd, Sv.tOr, Sv.tNot, Sv.tYes, Sv.aNil, Sv.aCons, Sv.aStar, Sv.cCall, Sv.cTup, Sv.cLst, Sv.cSl, Sv.cMeth, Sv.sSetIx, Sv.sPar2, Sv.sPar3, Sv.sAsg, Sv.sAug, Sv.hold, Sv.slot, Sv.outF, Sv.argsB, Sv.slotsOf, Sv.back, Sv.rds, Sv.datas, Sv.gN, Sv.gT, Sv.gL, Sv.gRun, Sv.cFn, Sv.fnD, Sv.sRaise, Sv.R.bind, Sv.R.opt, Sv.R.toS, Sv.RS.seq, Sv.Hd.rd, Sv.B.rd, Sv.toP, Sv.eqP, Sv.neP, Sv.one, Sv.two, Sv.getP, Sv.lenP, Sv.addP, Sv.subP, Sv.mulP, Sv.fdivP, Sv.modP, Sv.powP, Sv.intP, Sv.absP, Sv.max2P, Sv.min2P, Sv.negP, Sv.augAdd, Sv.setD, Sv.mAppend, Sv.ltB, Sv.gtB, Sv.leB, Sv.geB, Sv.ordB, Sv.small64, Sv.isP, Sv.wSeq, Sv.wRange1, Sv.sFor, encP, a1, a2, slP, c1, c2, itemsX, enc, es, datas_take, datas_drop, hle, z2, z4]
    rw [show ((j + 1 : Nat) : Int) - 1 = (j : Int) by omega, rngDn_succ, loopF]
    simp only [gN, RS.seq, List.set_cons_succ, List.set_cons_zero]
    rw [body]
    exact k
theorem path_facts : ∀ (p : List Nat) (t u x : Tr), rep t p x = some u → size t ≤ 1000 → ∃ ws, path t p = some ws ∧ ws.length = p.length + 1 ∧ ws[0]? = some t ∧ (∀ w ∈ ws, size w ≤ 1000) ∧
    (∀ j i, p[j]? = some i → ∃ l cs c, ws[j]? = some (.nd l cs) ∧ cs[i]? = some c ∧ ws[j + 1]? = some c)
  | [], t, u, x, h, hz => ⟨[t], rfl, rfl, rfl, by simpa using hz, fun j i h => by simp at h⟩
  | i :: p, .nd l cs, u, x, h, hz => by
    rw [rep] at h
    cases hc : cs[i]? with
    | none => rw [hc] at h; cases h
    | some c =>
      rw [hc] at h
      simp only at h
      cases hr : rep c p x with
      | none => rw [hr] at h; cases h
      | some c' =>
        have hsz : ∀ l : List Tr, c ∈ l → size c ≤ sizes l := fun l => by
          induction l with
          | nil => intro h; cases h
          | cons a r ih =>
            intro h
            rw [sizes]
            rcases List.mem_cons.mp h with e | h
            · subst e; omega
            · have := ih h; omega
        have hc1 := hsz cs (List.mem_of_getElem? hc)
        have hz' := hz
        rw [size] at hz'
        obtain ⟨ws, k1, k2, k3, k4, k5⟩ := path_facts p c c' x hr (by omega)
        refine ⟨.nd l cs :: ws, by rw [path, hc]; simp only [k1], by rw [List.length_cons, k2]; rfl, rfl, fun w hw => ?_, fun j i' h' => ?_⟩
        · rcases List.mem_cons.mp hw with e | hw
          · subst e; exact hz
          · exact k4 w hw
        · cases j with
          | zero => cases h'; exact ⟨l, cs, c, rfl, hc, k3⟩
          | succ j => exact k5 j i' h'
theorem put_in_spec (p : List Nat) (t u x : Tr) (h : rep t p x = some u) (hz : size t ≤ 1000) (hp : p.length ≤ 900) : ∃ o3, d_put_in [.d (enc t), .d (encP p), .d (enc x)] = .ok (.d (enc u)) [some (.d (enc t)), some (.d (encP p)), o3] := by
  obtain ⟨ws, k1, k2, k3, k4, k5⟩ := path_facts p t u x h hz
  obtain ⟨q, a⟩ := up_loop (some (.d (enc t))) (some (.d (encP p))) (some (.d (enc x))) p t ws [] none k1 (by simp; omega)
  have hl : p.length < ws.length := by omega
  obtain ⟨q5, q6, b⟩ := down_loop (some (.d (enc t))) p ws x u q k4 (fun w hw => by rw [k3] at hw; cases hw; exact h) k2 k5 p.length ws[p.length] x none none (Nat.le_refl _) (List.getElem?_eq_getElem hl) (by rw [List.drop_length, rep])
  refine ⟨some (.d (enc x)), ?_⟩
  have p1 : 1 ≤ sizeLine := by rw [sizeLine_eq]; decide
  simp only [List.nil_append] at a
  have w1 : -4611686018427387904 ≤ (p.length : Int) - 1 ∧ (p.length : Int) - 1 < 4611686018427387904 := by omega
  have e1 : ((p.length : Int) - 1 - -1).toNat = p.length := by omega
  simp only [encP] at a b ⊢
  simp [d_put_in, Sv.sNil, Sv.sCons, Sv.sPass, Sv.sBreak, Sv.sCont, Sv.sExpr, Sv.put, Sv.sSet, Sv.sRet, Sv.sRetN, Sv.sIf, Sv.cVar, Sv.cK, Sv.cE, Sv.cP, Sv.cOp, Sv.cUn, Sv.cChain, Sv.cIf, Sv.cAnd, Sv.cOr, Sv.cNot, Sv.tB, Sv.tAnd, Sv.tOr, Sv.tNot, Sv.tYes, Sv.aNil, Sv.aCons, Sv.aStar, Sv.cCall, Sv.cTup, Sv.cLst, Sv.cSl, Sv.cMeth, Sv.sSetIx, Sv.sPar2, Sv.sPar3, Sv.sAsg, Sv.sAug, Sv.hold, Sv.slot, Sv.outF, Sv.argsB, Sv.slotsOf, Sv.back, Sv.rds, Sv.datas, Sv.gN, Sv.gT, Sv.gL, Sv.gRun, Sv.cFn, Sv.fnD, Sv.sRaise, Sv.R.bind, Sv.R.opt, Sv.R.toS, Sv.RS.seq, Sv.Hd.rd, Sv.B.rd, Sv.toP, Sv.eqP, Sv.neP, Sv.one, Sv.two, Sv.getP, Sv.lenP, Sv.addP, Sv.subP, Sv.mulP, Sv.fdivP, Sv.modP, Sv.powP, Sv.intP, Sv.absP, Sv.max2P, Sv.min2P, Sv.negP, Sv.augAdd, Sv.setD, Sv.mAppend, Sv.ltB, Sv.gtB, Sv.leB, Sv.geB, Sv.ordB, Sv.small64, Sv.isP, Sv.wSeq, Sv.wRange1, Sv.sFor, wRangeDn, a, b, p1, w1, e1]
end K02
end
section
set_option autoImplicit false
set_option linter.all false
set_option maxRecDepth 100000
namespace K02
open PySem Sv

/-! ### rep and cat -/
theorem rep_of_cat : ∀ (p : List Nat) (t z y : Tr), cat t p = some z → ∃ u, rep t p y = some u
  | [], t, z, y, h => ⟨y, rfl⟩
  | i :: p, .nd l cs, z, y, h => by
    rw [cat] at h
    cases hc : cs[i]? with
    | none => rw [hc] at h; cases h
    | some c =>
      rw [hc] at h
      obtain ⟨u, hu⟩ := rep_of_cat p c z y h
      exact ⟨.nd l (cs.set i u), by rw [rep, hc]; simp only [hu]⟩
theorem cat_rep : ∀ (p : List Nat) (t u y : Tr), rep t p y = some u → cat u p = some y
  | [], t, u, y, h => by rw [rep] at h; cases h; rfl
  | i :: p, .nd l cs, u, y, h => by
    rw [rep] at h
    cases hc : cs[i]? with
    | none => rw [hc] at h; cases h
    | some c =>
      rw [hc] at h
      simp only at h
      cases hr : rep c p y with
      | none => rw [hr] at h; cases h
      | some c' =>
        rw [hr] at h
        cases h
        have hi := (List.getElem?_eq_some_iff.mp hc).1
        rw [cat, List.getElem?_set_self hi]
        exact cat_rep p c c' y hr
theorem rep_rep : ∀ (p : List Nat) (t u y z : Tr), rep t p y = some u → cat t p = some z → rep u p z = some t
  | [], t, u, y, z, h, h2 => by cases h2; rfl
  | i :: p, .nd l cs, u, y, z, h, h2 => by
    rw [rep] at h
    rw [cat] at h2
    cases hc : cs[i]? with
    | none => rw [hc] at h; cases h
    | some c =>
      rw [hc] at h h2
      simp only at h h2
      cases hr : rep c p y with
      | none => rw [hr] at h; cases h
      | some c' =>
        rw [hr] at h
        cases h
        have hi := (List.getElem?_eq_some_iff.mp hc).1
        have k := rep_rep p c c' y z hr h2
        rw [rep, List.getElem?_set_self hi]
        simp only [k]
        rw [List.set_set]
        congr 2
        apply List.ext_getElem?
        intro j
        by_cases hj : i = j
        · subst hj; rw [List.getElem?_set_self hi, hc]
        · rw [List.getElem?_set_ne hj]
theorem rep_size : ∀ (p : List Nat) (t u y z : Tr), rep t p y = some u → cat t p = some z → size u + size z = size t + size y
  | [], t, u, y, z, h, h2 => by rw [rep] at h; cases h; cases h2; omega
  | i :: p, .nd l cs, u, y, z, h, h2 => by
    rw [rep] at h
    rw [cat] at h2
    cases hc : cs[i]? with
    | none => rw [hc] at h; cases h
    | some c =>
      rw [hc] at h h2
      simp only at h h2
      cases hr : rep c p y with
      | none => rw [hr] at h; cases h
      | some c' =>
        rw [hr] at h
        cases h
        have k := rep_size p c c' y z hr h2
        have : ∀ (cs : List Tr) (i : Nat), cs[i]? = some c → sizes (cs.set i c') + size c = sizes cs + size c' := fun cs => by
          induction cs with
          | nil => intro i h; simp at h
          | cons a r ih =>
            intro i h
            cases i with
            | zero => cases h; simp only [List.set_cons_zero, sizes]; omega
            | succ i => have := ih i h; simp only [List.set_cons_succ, sizes]; omega
        have k2 := this cs i hc
        simp only [size]
        omega
end K02
end
section
set_option autoImplicit false
set_option linter.all false
set_option maxRecDepth 100000
namespace K02
open PySem Sv

theorem labsIn_mem {labs : List Str} : ∀ {cs : List Tr}, labsIn labs cs ↔ ∀ c ∈ cs, labIn labs c
  | [] => by simp [labsIn]
  | t :: r => by rw [labsIn, labsIn_mem (cs := r)]; simp
theorem rep_lab (labs : List Str) : ∀ (p : List Nat) (t u y : Tr), rep t p y = some u → labIn labs t → labIn labs y → labIn labs u
  | [], t, u, y, h, _, hy => by rw [rep] at h; cases h; exact hy
  | i :: p, .nd l cs, u, y, h, ht, hy => by
    rw [rep] at h
    rw [labIn] at ht
    cases hc : cs[i]? with
    | none => rw [hc] at h; cases h
    | some c =>
      rw [hc] at h
      simp only at h
      cases hr : rep c p y with
      | none => rw [hr] at h; cases h
      | some c' =>
        rw [hr] at h
        cases h
        have k := rep_lab labs p c c' y hr (labsIn_mem.mp ht.2 c (List.mem_of_getElem? hc)) hy
        rw [labIn]
        refine ⟨ht.1, labsIn_mem.mpr fun x hx => ?_⟩
        rcases List.mem_or_eq_of_mem_set hx with hx | e
        · exact labsIn_mem.mp ht.2 x hx
        · subst e; exact k
theorem cat_lab (labs : List Str) : ∀ (p : List Nat) (t u : Tr), cat t p = some u → labIn labs t → labIn labs u
  | [], t, u, h, ht => by cases h; exact ht
  | i :: p, .nd l cs, u, h, ht => by
    rw [cat] at h
    rw [labIn] at ht
    cases hc : cs[i]? with
    | none => rw [hc] at h; cases h
    | some c =>
      rw [hc] at h
      exact cat_lab labs p c u h (labsIn_mem.mp ht.2 c (List.mem_of_getElem? hc))
theorem cut_last {α : Type} (xs : List α) (a : α) : cutD (xs ++ [a]) none (some (-1)) = xs := by
  have e : HT.sIx (xs.length + 1) (xs.length + 1) (some (-1)) = xs.length := by
    unfold HT.sIx
    simp
    omega
  unfold cutD
  rw [List.length_append, List.length_singleton, e]
  simp [HT.sIx]
theorem encP_app (p : List Nat) (i : Nat) : encP (p ++ [i]) = .tuple ((p.map fun i => PyData.int (i : Nat)) ++ [.int (i : Nat)]) := by simp [encP]
end K02
end
section
set_option autoImplicit false
set_option linter.all false
set_option maxRecDepth 100000
namespace K02
open PySem Sv

theorem encs_take (cs : List Tr) (i : Nat) : encs (cs.take i) = (encs cs).take i := by rw [encs_map, encs_map, List.map_take]
theorem encs_drop (cs : List Tr) (i : Nat) : encs (cs.drop i) = (encs cs).drop i := by rw [encs_map, encs_map, List.map_drop]
/-- a child left out -/
def less (l : Str) (cs : List Tr) (i : Nat) : Tr := .nd l (cs.take i ++ cs.drop (i + 1))
theorem enc_less (l : Str) (cs : List Tr) (i : Nat) : enc (less l cs i) = .tuple (.str l :: ((encs cs).take i ++ (encs cs).drop (i + 1))) := by
  rw [less, enc, encs_app, encs_take, encs_drop]
theorem cut_spec (t u : Tr) (p : List Nat) (i : Nat) (l : Str) (cs : List Tr) (hc : cat t p = some (.nd l cs)) (hi : i < cs.length) (hu : rep t p (less l cs i) = some u) (hp : p.length < 40) (hz : size t ≤ 1000) (hcs : cs.length ≤ 1000) :
    ∃ o1 o2, d_cut [.d (enc t), .d (encP (p ++ [i]))] = .ok (.d (enc u)) [o1, o2] := by
  obtain ⟨a1, a2, ha⟩ := at_spec 40 p t (.nd l cs) hp hc
  obtain ⟨b1, b2, b3, hb⟩ := put_spec 40 p t u (less l cs i) hp hz hu
  have hle : (encs cs).length = cs.length := encs_len cs
  have c1 := cut_to (PyData.str l) (encs cs) i (by omega)
  have c2 := cut_from (PyData.str l) (encs cs) (i + 1) (by omega)
  have e4 : ((i + 1 : Nat) : Int) + 1 = (i : Int) + 1 + 1 := by omega
  rw [e4] at c2
  have k1 := cut_last (p.map fun i => PyData.int (i : Nat)) (.int (i : Nat))
  have k2 := atI_last (p.map fun i => PyData.int (i : Nat)) (PyData.int (i : Nat))
  rw [enc_less] at hb
  rw [enc] at ha
  refine ⟨some (.d (enc t)), some (.d (encP (p ++ [i]))), ?_⟩
  rw [encP_app]
  simp only [encP] at ha hb
  have z : i + 1 + (cs.length - (i + 1)) ≤ sizeLine := by rw [sizeLine_eq]; omega
  have z2 : min i cs.length = i := by omega
  simp [d_cut, Sv.sNil, Sv.sCons, Sv.sPass, Sv.sBreak, Sv.sCont, Sv.sExpr, Sv.put, Sv.sSet, Sv.sRet, Sv.sRetN, Sv.sIf, Sv.cVar, Sv.cK, Sv.cE, Sv.cP, Sv.cOp, Sv.cUn, Sv.cChain, Sv.cIf, Sv.cAnd, Sv.cOr, Sv.cNot, Sv.tB, Sv.tAnd, Sv.tOr, Sv.tNot, Sv.tYes, Sv.aNil, Sv.aCons, Sv.aStar, Sv.cCall, Sv.cTup, Sv.cLst, Sv.cSl, Sv.cMeth, Sv.sSetIx, Sv.sPar2, Sv.sPar3, Sv.sAsg, Sv.sAug, Sv.hold, Sv.slot, Sv.outF, Sv.argsB, Sv.slotsOf, Sv.back, Sv.rds, Sv.datas, Sv.gN, Sv.gT, Sv.gL, Sv.gRun, Sv.cFn, Sv.fnD, Sv.sRaise, Sv.R.bind, Sv.R.opt, Sv.R.toS, Sv.RS.seq, Sv.Hd.rd, Sv.B.rd, Sv.toP, Sv.eqP, Sv.neP, Sv.one, Sv.two, Sv.getP, Sv.lenP, Sv.addP, Sv.subP, Sv.mulP, Sv.fdivP, Sv.modP, Sv.powP, Sv.intP, Sv.absP, Sv.max2P, Sv.min2P, Sv.negP, Sv.augAdd, Sv.setD, Sv.mAppend, Sv.ltB, Sv.gtB, Sv.leB, Sv.geB, Sv.ordB, Sv.small64, Sv.isP, Sv.wSeq, Sv.wRange1, Sv.sFor, slP, k1, k2, ha, hb, c1, c2, hle, z, z2]
theorem without_spec (t u : Tr) (p : List Nat) (i : Nat) (l : Str) (cs : List Tr) (c : Tr) (hc : cat t p = some (.nd l cs)) (hi : i < cs.length) (hcat : cat t (p ++ [i]) = some c) (hu : rep t p (less l cs i) = some u) (hp : p.length ≤ 900) (hz : size t ≤ 200) (hcs : cs.length ≤ 1000) (hl : labIn goods t) :
    ∃ o1 o2, d_without_node [.d (enc t), .d (encP (p ++ [i]))] = .ok (.d (enc u)) [o1, o2] := by
  have a1 := subtree_in_spec t (.nd l cs) p hc
  have a2 := require_document_spec t hz hl
  have a3 := require_node_spec t c (p ++ [i]) hcat
  obtain ⟨b3, hb⟩ := put_in_spec p t u (less l cs i) hu (by omega) hp
  have hle : (encs cs).length = cs.length := encs_len cs
  have c1 := cut_to (PyData.str l) (encs cs) i (by omega)
  have c2 := cut_from (PyData.str l) (encs cs) (i + 1) (by omega)
  have e4 : ((i + 1 : Nat) : Int) + 1 = (i : Int) + 1 + 1 := by omega
  rw [e4] at c2
  have k1 := cut_last (p.map fun i => PyData.int (i : Nat)) (.int (i : Nat))
  have k2 := atI_last (p.map fun i => PyData.int (i : Nat)) (PyData.int (i : Nat))
  have k3 := eq_place (p ++ [i])
  rw [enc_less] at hb
  rw [enc] at a1
  refine ⟨some (.d (enc t)), some (.d (encP (p ++ [i]))), ?_⟩
  rw [encP_app] at a3 k3 ⊢
  have k4 : (p ++ [i]).isEmpty = false := by simp
  rw [k4] at k3
  simp only [encP] at a1 hb
  have z : i + (cs.length - (i + 1)) + 1 ≤ sizeLine := by rw [sizeLine_eq]; omega
  have z2 : min i cs.length = i := by omega
  simp [d_without_node, Sv.sNil, Sv.sCons, Sv.sPass, Sv.sBreak, Sv.sCont, Sv.sExpr, Sv.put, Sv.sSet, Sv.sRet, Sv.sRetN, Sv.sIf, Sv.cVar, Sv.cK, Sv.cE, Sv.cP, Sv.cOp, Sv.cUn, Sv.cChain, Sv.cIf, Sv.cAnd, Sv.cOr, Sv.cNot, Sv.tB, Sv.tAnd, Sv.tOr, Sv.tNot, Sv.tYes, Sv.aNil, Sv.aCons, Sv.aStar, Sv.cCall, Sv.cTup, Sv.cLst, Sv.cSl, Sv.cMeth, Sv.sSetIx, Sv.sPar2, Sv.sPar3, Sv.sAsg, Sv.sAug, Sv.hold, Sv.slot, Sv.outF, Sv.argsB, Sv.slotsOf, Sv.back, Sv.rds, Sv.datas, Sv.gN, Sv.gT, Sv.gL, Sv.gRun, Sv.cFn, Sv.fnD, Sv.sRaise, Sv.R.bind, Sv.R.opt, Sv.R.toS, Sv.RS.seq, Sv.Hd.rd, Sv.B.rd, Sv.toP, Sv.eqP, Sv.neP, Sv.one, Sv.two, Sv.getP, Sv.lenP, Sv.addP, Sv.subP, Sv.mulP, Sv.fdivP, Sv.modP, Sv.powP, Sv.intP, Sv.absP, Sv.max2P, Sv.min2P, Sv.negP, Sv.augAdd, Sv.setD, Sv.mAppend, Sv.ltB, Sv.gtB, Sv.leB, Sv.geB, Sv.ordB, Sv.small64, Sv.isP, Sv.wSeq, Sv.wRange1, Sv.sFor, slP, k1, k2, k3, a1, a2, a3, hb, c1, c2, hle, itemsX, datas_take, datas_drop, z, z2]
end K02
end
section
set_option autoImplicit false
set_option linter.all false
set_option maxRecDepth 100000
namespace K02
open PySem Sv

/-- a child put in -/
def more (l : Str) (cs : List Tr) (i : Nat) (x : Tr) : Tr := .nd l (cs.take i ++ x :: cs.drop i)
theorem enc_more (l : Str) (cs : List Tr) (i : Nat) (x : Tr) : enc (more l cs i x) = .tuple (.str l :: ((encs cs).take i ++ enc x :: (encs cs).drop i)) := by
  rw [more, enc, encs_app, encs, encs_take, encs_drop]
theorem with_spec (t u x : Tr) (p : List Nat) (i : Nat) (l : Str) (cs : List Tr) (hc : cat t p = some (.nd l cs)) (hi : i ≤ cs.length) (hu : rep t p (more l cs i x) = some u) (hp : p.length ≤ 900) (hz : size t ≤ 200) (hx : size x ≤ 200) (hzu : size u ≤ 200) (hcs : cs.length ≤ 1000) (hl : labIn goods t) (hlx : labIn goods x) :
    ∃ o1 o2 o3 o4, d_with_child [.d (enc t), .d (encP p), .d (.int i), .d (enc x)] = .ok (.d (enc u)) [o1, o2, o3, o4] := by
  have a1 := subtree_in_spec t (.nd l cs) p hc
  have a2 := require_document_spec t hz hl
  have a3 := require_node_spec t (.nd l cs) p hc
  have a4 := require_document_spec x hx hlx
  obtain ⟨b3, hb⟩ := put_in_spec p t u (more l cs i x) hu (by omega) hp
  have a5 : ∃ o, d_require_small [.d (enc u)] = .ok (.d (enc u)) [o] := by
    refine ⟨none, ?_⟩
    have h : ¬ (200 : Int) < (size u : Int) := by omega
    have h' : ¬ 200 < size u := by omega
    simp [d_require_small, Sv.sNil, Sv.sCons, Sv.sPass, Sv.sBreak, Sv.sCont, Sv.sExpr, Sv.put, Sv.sSet, Sv.sRet, Sv.sRetN, Sv.sIf, Sv.cVar, Sv.cK, Sv.cE, Sv.cP, Sv.cOp, Sv.cUn, Sv.cChain, Sv.cIf, Sv.cAnd, Sv.cOr, Sv.cNot, Sv.tB, Sv.tAnd, Sv.tOr, Sv.tNot, Sv.tYes, Sv.aNil, Sv.aCons, Sv.aStar, Sv.cCall, Sv.cTup, Sv.cLst, Sv.cSl, Sv.cMeth, Sv.sSetIx, Sv.sPar2, Sv.sPar3, Sv.sAsg, Sv.sAug, Sv.hold, Sv.slot, Sv.outF, Sv.argsB, Sv.slotsOf, Sv.back, Sv.rds, Sv.datas, Sv.gN, Sv.gT, Sv.gL, Sv.gRun, Sv.cFn, Sv.fnD, Sv.sRaise, Sv.R.bind, Sv.R.opt, Sv.R.toS, Sv.RS.seq, Sv.Hd.rd, Sv.B.rd, Sv.toP, Sv.eqP, Sv.neP, Sv.one, Sv.two, Sv.getP, Sv.lenP, Sv.addP, Sv.subP, Sv.mulP, Sv.fdivP, Sv.modP, Sv.powP, Sv.intP, Sv.absP, Sv.max2P, Sv.min2P, Sv.negP, Sv.augAdd, Sv.setD, Sv.mAppend, Sv.ltB, Sv.gtB, Sv.leB, Sv.geB, Sv.ordB, Sv.small64, Sv.isP, Sv.wSeq, Sv.wRange1, Sv.sFor, size_in_spec u (by omega), h, h']
  obtain ⟨o, a5⟩ := a5
  have hle : (encs cs).length = cs.length := encs_len cs
  have c1 := cut_to (PyData.str l) (encs cs) i (by omega)
  have c2 := cut_from (PyData.str l) (encs cs) i (by omega)
  rw [enc_more] at hb
  rw [enc] at a1
  refine ⟨some (.d (enc t)), some (.d (encP p)), some (.d (.int i)), some (.d (enc x)), ?_⟩
  have z : i + (cs.length - i + 1) + 1 ≤ sizeLine := by rw [sizeLine_eq]; omega
  have z2 : min i cs.length = i := by omega
  have z3 : (0 : Int) ≤ i := by omega
  have z4 : (i : Int) < (cs.length : Int) + 1 := by omega
  simp [d_with_child, Sv.sNil, Sv.sCons, Sv.sPass, Sv.sBreak, Sv.sCont, Sv.sExpr, Sv.put, Sv.sSet, Sv.sRet, Sv.sRetN, Sv.sIf, Sv.cVar, Sv.cK, Sv.cE, Sv.cP, Sv.cOp, Sv.cUn, Sv.cChain, Sv.cIf, Sv.cAnd, Sv.cOr, Sv.cNot, Sv.tB, Sv.tAnd, Sv.tOr, Sv.tNot, Sv.tYes, Sv.aNil, Sv.aCons, Sv.aStar, Sv.cCall, Sv.cTup, Sv.cLst, Sv.cSl, Sv.cMeth, Sv.sSetIx, Sv.sPar2, Sv.sPar3, Sv.sAsg, Sv.sAug, Sv.hold, Sv.slot, Sv.outF, Sv.argsB, Sv.slotsOf, Sv.back, Sv.rds, Sv.datas, Sv.gN, Sv.gT, Sv.gL, Sv.gRun, Sv.cFn, Sv.fnD, Sv.sRaise, Sv.R.bind, Sv.R.opt, Sv.R.toS, Sv.RS.seq, Sv.Hd.rd, Sv.B.rd, Sv.toP, Sv.eqP, Sv.neP, Sv.one, Sv.two, Sv.getP, Sv.lenP, Sv.addP, Sv.subP, Sv.mulP, Sv.fdivP, Sv.modP, Sv.powP, Sv.intP, Sv.absP, Sv.max2P, Sv.min2P, Sv.negP, Sv.augAdd, Sv.setD, Sv.mAppend, Sv.ltB, Sv.gtB, Sv.leB, Sv.geB, Sv.ordB, Sv.small64, Sv.isP, Sv.wSeq, Sv.wRange1, Sv.sFor, slP, int_spec, a1, a2, a3, a4, a5, hb, c1, c2, hle, itemsX, datas_take, datas_drop, z, z2, z3, z4, hi]
end K02
end
section
set_option autoImplicit false
set_option linter.all false
set_option maxRecDepth 100000
namespace K02
open PySem Sv

theorem boolsOf_all {α : Type} : ∀ l : List α, boolsOf (l.map fun _ => .bool true) = some (l.map fun _ => true)
  | [] => rfl
  | a :: r => by simp only [List.map_cons, boolsOf, boolsOf_all r, Option.map_some]
theorem datas_comp (cs : List Tr) : datas (List.map ((fun x => Hd.v (B.d x)) ∘ enc) cs) = some (cs.map enc) := by
  rw [← List.map_map]
  exact datas_all _
theorem docfrom_spec (l : Str) (hl : l ∈ goods) (cs : List Tr) (hz : sizes cs + 1 ≤ 200) (hcs : labsIn goods cs) : ∃ o1 o2, d_document_from [.d (.str l), .d (.tuple (encs cs))] = .ok (.d (enc (.nd l cs))) [o1, o2] := by
  have hn := name_spec l hl
  have hlen := len_sizes cs
  have hsz : ∀ (c : Tr) (l : List Tr), c ∈ l → size c ≤ sizes l := fun c l => by
    induction l with
    | nil => intro h; cases h
    | cons a r ih =>
      intro h
      rw [sizes]
      rcases List.mem_cons.mp h with e | h
      · subst e; omega
      · have := ih h; omega
  have zl : cs.length ≤ sizeLine := by rw [sizeLine_eq]; omega
  have zl1 : cs.length + 1 ≤ sizeLine := by rw [sizeLine_eq]; omega
  have s1 : compL [2] (gN 2) tYes ce_document_from_1 (cs.map enc) [some (.d (.str l)), some (.d (.tuple (cs.map enc))), none] = .ok (cs.map fun _ => .bool true) [some (.d (.str l)), some (.d (.tuple (cs.map enc))), none] :=
    compL_map rfl cs fun t ht => by
      have := is_document_spec t (by have := hsz t cs ht; omega) (labsIn_mem.mp hcs t ht)
      simp [ce_document_from_1, Sv.sNil, Sv.sCons, Sv.sPass, Sv.sBreak, Sv.sCont, Sv.sExpr, Sv.put, Sv.sSet, Sv.sRet, Sv.sRetN, Sv.sIf, Sv.cVar, Sv.cK, Sv.cE, Sv.cP, Sv.cOp, Sv.cUn, Sv.cChain, Sv.cIf, Sv.cAnd, Sv.cOr, Sv.cNot, Sv.tB, Sv.tAnd, Sv.tOr, Sv.tNot, Sv.tYes, Sv.aNil, Sv.aCons, Sv.aStar, Sv.cCall, Sv.cTup, Sv.cLst, Sv.cSl, Sv.cMeth, Sv.sSetIx, Sv.sPar2, Sv.sPar3, Sv.sAsg, Sv.sAug, Sv.hold, Sv.slot, Sv.outF, Sv.argsB, Sv.slotsOf, Sv.back, Sv.rds, Sv.datas, Sv.gN, Sv.gT, Sv.gL, Sv.gRun, Sv.cFn, Sv.fnD, Sv.sRaise, Sv.R.bind, Sv.R.opt, Sv.R.toS, Sv.RS.seq, Sv.Hd.rd, Sv.B.rd, Sv.toP, Sv.eqP, Sv.neP, Sv.one, Sv.two, Sv.getP, Sv.lenP, Sv.addP, Sv.subP, Sv.mulP, Sv.fdivP, Sv.modP, Sv.powP, Sv.intP, Sv.absP, Sv.max2P, Sv.min2P, Sv.negP, Sv.augAdd, Sv.setD, Sv.mAppend, Sv.ltB, Sv.gtB, Sv.leB, Sv.geB, Sv.ordB, Sv.small64, Sv.isP, Sv.wSeq, Sv.wRange1, Sv.sFor, this]
  have s2 : compL [2] (gN 2) tYes ce_document_from_0 (cs.map enc) [some (.d (.str l)), some (.d (.tuple (cs.map enc))), none] = .ok (cs.map fun t => .int (size t)) [some (.d (.str l)), some (.d (.tuple (cs.map enc))), none] :=
    compL_map rfl cs fun t ht => by
      have := size_in_spec t (by have := hsz t cs ht; omega)
      simp [ce_document_from_0, Sv.sNil, Sv.sCons, Sv.sPass, Sv.sBreak, Sv.sCont, Sv.sExpr, Sv.put, Sv.sSet, Sv.sRet, Sv.sRetN, Sv.sIf, Sv.cVar, Sv.cK, Sv.cE, Sv.cP, Sv.cOp, Sv.cUn, Sv.cChain, Sv.cIf, Sv.cAnd, Sv.cOr, Sv.cNot, Sv.tB, Sv.tAnd, Sv.tOr, Sv.tNot, Sv.tYes, Sv.aNil, Sv.aCons, Sv.aStar, Sv.cCall, Sv.cTup, Sv.cLst, Sv.cSl, Sv.cMeth, Sv.sSetIx, Sv.sPar2, Sv.sPar3, Sv.sAsg, Sv.sAug, Sv.hold, Sv.slot, Sv.outF, Sv.argsB, Sv.slotsOf, Sv.back, Sv.rds, Sv.datas, Sv.gN, Sv.gT, Sv.gL, Sv.gRun, Sv.cFn, Sv.fnD, Sv.sRaise, Sv.R.bind, Sv.R.opt, Sv.R.toS, Sv.RS.seq, Sv.Hd.rd, Sv.B.rd, Sv.toP, Sv.eqP, Sv.neP, Sv.one, Sv.two, Sv.getP, Sv.lenP, Sv.addP, Sv.subP, Sv.mulP, Sv.fdivP, Sv.modP, Sv.powP, Sv.intP, Sv.absP, Sv.max2P, Sv.min2P, Sv.negP, Sv.augAdd, Sv.setD, Sv.mAppend, Sv.ltB, Sv.gtB, Sv.leB, Sv.geB, Sv.ordB, Sv.small64, Sv.isP, Sv.wSeq, Sv.wRange1, Sv.sFor, this]
  refine ⟨some (.d (.str l)), some (.d (.tuple (encs cs))), ?_⟩
  have h1 : ¬ (200 : Int) < (sizes cs : Int) + 1 := by omega
  rw [enc, encs_map]
  simp [d_document_from, Sv.sNil, Sv.sCons, Sv.sPass, Sv.sBreak, Sv.sCont, Sv.sExpr, Sv.put, Sv.sSet, Sv.sRet, Sv.sRetN, Sv.sIf, Sv.cVar, Sv.cK, Sv.cE, Sv.cP, Sv.cOp, Sv.cUn, Sv.cChain, Sv.cIf, Sv.cAnd, Sv.cOr, Sv.cNot, Sv.tB, Sv.tAnd, Sv.tOr, Sv.tNot, Sv.tYes, Sv.aNil, Sv.aCons, Sv.aStar, Sv.cCall, Sv.cTup, Sv.cLst, Sv.cSl, Sv.cMeth, Sv.sSetIx, Sv.sPar2, Sv.sPar3, Sv.sAsg, Sv.sAug, Sv.hold, Sv.slot, Sv.outF, Sv.argsB, Sv.slotsOf, Sv.back, Sv.rds, Sv.datas, Sv.gN, Sv.gT, Sv.gL, Sv.gRun, Sv.cFn, Sv.fnD, Sv.sRaise, Sv.R.bind, Sv.R.opt, Sv.R.toS, Sv.RS.seq, Sv.Hd.rd, Sv.B.rd, Sv.toP, Sv.eqP, Sv.neP, Sv.one, Sv.two, Sv.getP, Sv.lenP, Sv.addP, Sv.subP, Sv.mulP, Sv.fdivP, Sv.modP, Sv.powP, Sv.intP, Sv.absP, Sv.max2P, Sv.min2P, Sv.negP, Sv.augAdd, Sv.setD, Sv.mAppend, Sv.ltB, Sv.gtB, Sv.leB, Sv.geB, Sv.ordB, Sv.small64, Sv.isP, Sv.wSeq, Sv.wRange1, Sv.sFor, hn, isTup, cComp, wipeE, restE, zl, zl1, s1, s2, allP, boolsOf_all, sumP, intsOf_map, sizes_sum, h1, itemsX, datas_comp]
end K02
end
section
set_option autoImplicit false
set_option linter.all false
set_option maxRecDepth 100000
namespace K02
open PySem Sv

theorem make0 (l : Str) (hl : l ∈ goods) : d_make_document [.d (.str l)] = .ok (.d (enc (.nd l []))) [some (.d (.str l))] := by
  obtain ⟨o1, o2, h⟩ := docfrom_spec l hl [] (by simp [sizes]) (by simp [labsIn])
  simp only [encs] at h
  have z : 1 ≤ sizeLine := by rw [sizeLine_eq]; decide
  simp [d_make_document, starF, dataB, Sv.sNil, Sv.sCons, Sv.sPass, Sv.sBreak, Sv.sCont, Sv.sExpr, Sv.put, Sv.sSet, Sv.sRet, Sv.sRetN, Sv.sIf, Sv.cVar, Sv.cK, Sv.cE, Sv.cP, Sv.cOp, Sv.cUn, Sv.cChain, Sv.cIf, Sv.cAnd, Sv.cOr, Sv.cNot, Sv.tB, Sv.tAnd, Sv.tOr, Sv.tNot, Sv.tYes, Sv.aNil, Sv.aCons, Sv.aStar, Sv.cCall, Sv.cTup, Sv.cLst, Sv.cSl, Sv.cMeth, Sv.sSetIx, Sv.sPar2, Sv.sPar3, Sv.sAsg, Sv.sAug, Sv.hold, Sv.slot, Sv.outF, Sv.argsB, Sv.slotsOf, Sv.back, Sv.rds, Sv.datas, Sv.gN, Sv.gT, Sv.gL, Sv.gRun, Sv.cFn, Sv.fnD, Sv.sRaise, Sv.R.bind, Sv.R.opt, Sv.R.toS, Sv.RS.seq, Sv.Hd.rd, Sv.B.rd, Sv.toP, Sv.eqP, Sv.neP, Sv.one, Sv.two, Sv.getP, Sv.lenP, Sv.addP, Sv.subP, Sv.mulP, Sv.fdivP, Sv.modP, Sv.powP, Sv.intP, Sv.absP, Sv.max2P, Sv.min2P, Sv.negP, Sv.augAdd, Sv.setD, Sv.mAppend, Sv.ltB, Sv.gtB, Sv.leB, Sv.geB, Sv.ordB, Sv.small64, Sv.isP, Sv.wSeq, Sv.wRange1, Sv.sFor, h, z]
theorem make1 (l : Str) (hl : l ∈ goods) (a : Tr) (hz : size a ≤ 150) (ha : labIn goods a) : d_make_document [.d (.str l), .d (enc a)] = .ok (.d (enc (.nd l [a]))) [some (.d (.str l)), some (.d (enc a))] := by
  obtain ⟨o1, o2, h⟩ := docfrom_spec l hl [a] (by simp [sizes]; omega) (by simp [labsIn, ha])
  simp only [encs] at h
  have z : 2 ≤ sizeLine := by rw [sizeLine_eq]; decide
  simp [d_make_document, starF, dataB, Sv.sNil, Sv.sCons, Sv.sPass, Sv.sBreak, Sv.sCont, Sv.sExpr, Sv.put, Sv.sSet, Sv.sRet, Sv.sRetN, Sv.sIf, Sv.cVar, Sv.cK, Sv.cE, Sv.cP, Sv.cOp, Sv.cUn, Sv.cChain, Sv.cIf, Sv.cAnd, Sv.cOr, Sv.cNot, Sv.tB, Sv.tAnd, Sv.tOr, Sv.tNot, Sv.tYes, Sv.aNil, Sv.aCons, Sv.aStar, Sv.cCall, Sv.cTup, Sv.cLst, Sv.cSl, Sv.cMeth, Sv.sSetIx, Sv.sPar2, Sv.sPar3, Sv.sAsg, Sv.sAug, Sv.hold, Sv.slot, Sv.outF, Sv.argsB, Sv.slotsOf, Sv.back, Sv.rds, Sv.datas, Sv.gN, Sv.gT, Sv.gL, Sv.gRun, Sv.cFn, Sv.fnD, Sv.sRaise, Sv.R.bind, Sv.R.opt, Sv.R.toS, Sv.RS.seq, Sv.Hd.rd, Sv.B.rd, Sv.toP, Sv.eqP, Sv.neP, Sv.one, Sv.two, Sv.getP, Sv.lenP, Sv.addP, Sv.subP, Sv.mulP, Sv.fdivP, Sv.modP, Sv.powP, Sv.intP, Sv.absP, Sv.max2P, Sv.min2P, Sv.negP, Sv.augAdd, Sv.setD, Sv.mAppend, Sv.ltB, Sv.gtB, Sv.leB, Sv.geB, Sv.ordB, Sv.small64, Sv.isP, Sv.wSeq, Sv.wRange1, Sv.sFor, h, z]
theorem make3 (l : Str) (hl : l ∈ goods) (a b c : Tr) (hz : size a + size b + size c ≤ 150) (ha : labIn goods a) (hb : labIn goods b) (hc : labIn goods c) :
    d_make_document [.d (.str l), .d (enc a), .d (enc b), .d (enc c)] = .ok (.d (enc (.nd l [a, b, c]))) [some (.d (.str l)), some (.d (enc a)), some (.d (enc b)), some (.d (enc c))] := by
  obtain ⟨o1, o2, h⟩ := docfrom_spec l hl [a, b, c] (by simp [sizes]; omega) (by simp [labsIn, ha, hb, hc])
  simp only [encs] at h
  have z : 4 ≤ sizeLine := by rw [sizeLine_eq]; decide
  simp [d_make_document, starF, dataB, Sv.sNil, Sv.sCons, Sv.sPass, Sv.sBreak, Sv.sCont, Sv.sExpr, Sv.put, Sv.sSet, Sv.sRet, Sv.sRetN, Sv.sIf, Sv.cVar, Sv.cK, Sv.cE, Sv.cP, Sv.cOp, Sv.cUn, Sv.cChain, Sv.cIf, Sv.cAnd, Sv.cOr, Sv.cNot, Sv.tB, Sv.tAnd, Sv.tOr, Sv.tNot, Sv.tYes, Sv.aNil, Sv.aCons, Sv.aStar, Sv.cCall, Sv.cTup, Sv.cLst, Sv.cSl, Sv.cMeth, Sv.sSetIx, Sv.sPar2, Sv.sPar3, Sv.sAsg, Sv.sAug, Sv.hold, Sv.slot, Sv.outF, Sv.argsB, Sv.slotsOf, Sv.back, Sv.rds, Sv.datas, Sv.gN, Sv.gT, Sv.gL, Sv.gRun, Sv.cFn, Sv.fnD, Sv.sRaise, Sv.R.bind, Sv.R.opt, Sv.R.toS, Sv.RS.seq, Sv.Hd.rd, Sv.B.rd, Sv.toP, Sv.eqP, Sv.neP, Sv.one, Sv.two, Sv.getP, Sv.lenP, Sv.addP, Sv.subP, Sv.mulP, Sv.fdivP, Sv.modP, Sv.powP, Sv.intP, Sv.absP, Sv.max2P, Sv.min2P, Sv.negP, Sv.augAdd, Sv.setD, Sv.mAppend, Sv.ltB, Sv.gtB, Sv.leB, Sv.geB, Sv.ordB, Sv.small64, Sv.isP, Sv.wSeq, Sv.wRange1, Sv.sFor, h, z]
end K02
end
section
set_option autoImplicit false
set_option linter.all false
set_option maxRecDepth 100000
namespace K02
open PySem Sv

/-! ### spots -/
mutual
def spots : Tr → List (List Nat)
  | .nd _ cs => [] :: spotsAt 0 cs
def spotsAt : Nat → List Tr → List (List Nat)
  | _, [] => []
  | i, c :: r => (spots c).map (i :: ·) ++ spotsAt (i + 1) r
end
theorem spots_loop (F : Fn) (t0 : Option B) : ∀ (cs : List Tr) (i : Nat) (acc : List (List Nat)) (q2 q3 : Option B), (∀ c ∈ cs, ∃ o, F [.d (enc c)] = .ok (.l ((spots c).map encP)) [o]) → (∀ c ∈ cs, ∀ p ∈ spots c, p.length ≤ 1000) → acc.length + (spotsAt i cs).length ≤ 100000 →
    ∃ q2' q3', loopF (gT [gN 2, gN 3]) (fb_spots_1 F) ((cs.map enc).mapIdx fun j x => .tuple [.int ((i + j : Nat) : Int), x]) [t0, some (.l (acc.map encP)), q2, q3, none] = .nx [t0, some (.l ((acc ++ spotsAt i cs).map encP)), q2', q3', none] := by
  intro cs
  induction cs with
  | nil => intro i acc q2 q3 _ _ _; exact ⟨q2, q3, by simp [loopF, spotsAt]⟩
  | cons c r ih =>
    intro i acc q2 q3 hF hd hz
    rw [spotsAt] at hz
    simp only [List.length_append, List.length_map] at hz
    obtain ⟨o, h⟩ := hF c List.mem_cons_self
    have s1 : compL [4] (gN 4) tYes (ce_spots_0 F) ((spots c).map encP) [t0, some (.l (acc.map encP)), some (.d (.int i)), some (.d (enc c)), none] = .ok ((spots c).map fun p => encP (i :: p)) [t0, some (.l (acc.map encP)), some (.d (.int i)), some (.d (enc c)), none] :=
      compL_map rfl (spots c) fun p hp => by
        have z : 1 + p.length ≤ sizeLine := by have := hd c List.mem_cons_self p hp; rw [sizeLine_eq]; omega
        have z0 : 1 ≤ sizeLine := by rw [sizeLine_eq]; decide
        simp [ce_spots_0, Sv.sNil, Sv.sCons, Sv.sPass, Sv.sBreak, Sv.sCont, Sv.sExpr, Sv.put, Sv.sSet, Sv.sRet, Sv.sRetN, Sv.sIf, Sv.cVar, Sv.cK, Sv.cE, Sv.cP, Sv.cOp, Sv.cUn, Sv.cChain, Sv.cIf, Sv.cAnd, Sv.cOr, Sv.cNot, Sv.tB, Sv.tAnd, Sv.tOr, Sv.tNot, Sv.tYes, Sv.aNil, Sv.aCons, Sv.aStar, Sv.cCall, Sv.cTup, Sv.cLst, Sv.cSl, Sv.cMeth, Sv.sSetIx, Sv.sPar2, Sv.sPar3, Sv.sAsg, Sv.sAug, Sv.hold, Sv.slot, Sv.outF, Sv.argsB, Sv.slotsOf, Sv.back, Sv.rds, Sv.datas, Sv.gN, Sv.gT, Sv.gL, Sv.gRun, Sv.cFn, Sv.fnD, Sv.sRaise, Sv.R.bind, Sv.R.opt, Sv.R.toS, Sv.RS.seq, Sv.Hd.rd, Sv.B.rd, Sv.toP, Sv.eqP, Sv.neP, Sv.one, Sv.two, Sv.getP, Sv.lenP, Sv.addP, Sv.subP, Sv.mulP, Sv.fdivP, Sv.modP, Sv.powP, Sv.intP, Sv.absP, Sv.max2P, Sv.min2P, Sv.negP, Sv.augAdd, Sv.setD, Sv.mAppend, Sv.ltB, Sv.gtB, Sv.leB, Sv.geB, Sv.ordB, Sv.small64, Sv.isP, Sv.wSeq, Sv.wRange1, Sv.sFor, encP, z, z0]
    obtain ⟨q2', q3', k⟩ := ih (i + 1) (acc ++ (spots c).map (i :: ·)) (some (.d (.int i))) (some (.d (enc c))) (fun c' hc' => hF c' (List.mem_cons_of_mem _ hc')) (fun c' hc' => hd c' (List.mem_cons_of_mem _ hc')) (by simp only [List.length_append, List.length_map]; omega)
    refine ⟨q2', q3', ?_⟩
    have z1 : (spots c).length ≤ sizeLine := by rw [sizeLine_eq]; omega
    have z2 : acc.length + (spots c).length ≤ sizeLine := by rw [sizeLine_eq]; omega
    have body : fb_spots_1 F [t0, some (.l (acc.map encP)), some (.d (.int i)), some (.d (enc c)), none] = .nx [t0, some (.l ((acc ++ (spots c).map (i :: ·)).map encP)), some (.d (.int i)), some (.d (enc c)), none] := by
      simp [fb_spots_1, Sv.sNil, Sv.sCons, Sv.sPass, Sv.sBreak, Sv.sCont, Sv.sExpr, Sv.put, Sv.sSet, Sv.sRet, Sv.sRetN, Sv.sIf, Sv.cVar, Sv.cK, Sv.cE, Sv.cP, Sv.cOp, Sv.cUn, Sv.cChain, Sv.cIf, Sv.cAnd, Sv.cOr, Sv.cNot, Sv.tB, Sv.tAnd, Sv.tOr, Sv.tNot, Sv.tYes, Sv.aNil, Sv.aCons, Sv.aStar, Sv.cCall, Sv.cTup, Sv.cLst, Sv.cSl, Sv.cMeth, Sv.sSetIx, Sv.sPar2, Sv.sPar3, Sv.sAsg, Sv.sAug, Sv.hold, Sv.slot, Sv.outF, Sv.argsB, Sv.slotsOf, Sv.back, Sv.rds, Sv.datas, Sv.gN, Sv.gT, Sv.gL, Sv.gRun, Sv.cFn, Sv.fnD, Sv.sRaise, Sv.R.bind, Sv.R.opt, Sv.R.toS, Sv.RS.seq, Sv.Hd.rd, Sv.B.rd, Sv.toP, Sv.eqP, Sv.neP, Sv.one, Sv.two, Sv.getP, Sv.lenP, Sv.addP, Sv.subP, Sv.mulP, Sv.fdivP, Sv.modP, Sv.powP, Sv.intP, Sv.absP, Sv.max2P, Sv.min2P, Sv.negP, Sv.augAdd, Sv.setD, Sv.mAppend, Sv.ltB, Sv.gtB, Sv.leB, Sv.geB, Sv.ordB, Sv.small64, Sv.isP, Sv.wSeq, Sv.wRange1, Sv.sFor, cComp, wipeE, restE, h, z1, s1, mExtend, z2]
    rw [List.map_cons, List.mapIdx_cons, loopF, spotsAt, ← List.append_assoc]
    simp only [gT, gRun, gN, RS.seq, List.set_cons_succ, List.set_cons_zero, Nat.add_zero]
    rw [body]
    simp only
    have e : (fun (j : Nat) (x : PyData) => PyData.tuple [.int ((i + (j + 1) : Nat) : Int), x]) = fun (j : Nat) (x : PyData) => PyData.tuple [.int ((i + 1 + j : Nat) : Int), x] := by
      funext j x
      rw [show i + (j + 1) = i + 1 + j by omega]
    rw [e]
    exact k
mutual
theorem spots_len : ∀ t : Tr, (spots t).length = size t
  | .nd _ cs => by rw [spots, size, List.length_cons, spotsAt_len 0 cs]; omega
theorem spotsAt_len : ∀ (i : Nat) (cs : List Tr), (spotsAt i cs).length = sizes cs
  | _, [] => rfl
  | i, c :: r => by rw [spotsAt, sizes, List.length_append, List.length_map, spots_len c, spotsAt_len (i + 1) r]
end
mutual
theorem spots_deep : ∀ (t : Tr) (p : List Nat), p ∈ spots t → p.length < ht t
  | .nd _ cs, p, h => by
    rw [spots] at h
    rw [ht]
    rcases List.mem_cons.mp h with e | h
    · subst e; simp; omega
    · have := spotsAt_deep 0 cs p h; omega
theorem spotsAt_deep : ∀ (i : Nat) (cs : List Tr) (p : List Nat), p ∈ spotsAt i cs → p.length ≤ hts cs
  | _, [], p, h => by cases h
  | i, c :: r, p, h => by
    rw [spotsAt] at h
    rw [hts]
    rcases List.mem_append.mp h with h | h
    · obtain ⟨q, hq, rfl⟩ := List.mem_map.mp h
      have := spots_deep c q hq
      simp
      omega
    · have := spotsAt_deep (i + 1) r p h; omega
end
theorem sizes_mem {c : Tr} : ∀ {l : List Tr}, c ∈ l → size c ≤ sizes l
  | a :: r, h => by
    rw [sizes]
    rcases List.mem_cons.mp h with e | h
    · subst e; omega
    · have := sizes_mem h; omega
theorem spots_spec : ∀ (n : Nat) (t : Tr), ht t ≤ n → size t ≤ 900 → d_spots n [.d (enc t)] = .ok (.l ((spots t).map encP)) [some (.d (enc t))]
  | 0, .nd l cs, h, _ => by rw [ht] at h; omega
  | n + 1, .nd l cs, h, hz => by
    rw [ht] at h
    rw [size] at hz
    obtain ⟨q2, q3, k⟩ := spots_loop (d_spots n) (some (.d (enc (.nd l cs)))) cs 0 [[]] none none (fun c hc => ⟨_, spots_spec n c (by have := hts_mem hc; omega) (by have := sizes_mem hc; omega)⟩)
      (fun c hc p hp => by have := spots_deep c p hp; have := ht_size c; have := sizes_mem hc; omega) (by rw [spotsAt_len]; simp; omega)
    have z : 1 ≤ sizeLine := by rw [sizeLine_eq]; decide
    rw [spots]
    simp only [List.map_cons, List.map_nil, encP, Nat.zero_add, List.singleton_append] at k ⊢
    rw [enc, encs_map] at k ⊢
    simp [d_spots, Sv.sNil, Sv.sCons, Sv.sPass, Sv.sBreak, Sv.sCont, Sv.sExpr, Sv.put, Sv.sSet, Sv.sRet, Sv.sRetN, Sv.sIf, Sv.cVar, Sv.cK, Sv.cE, Sv.cP, Sv.cOp, Sv.cUn, Sv.cChain, Sv.cIf, Sv.cAnd, Sv.cOr, Sv.cNot, Sv.tB, Sv.tAnd, Sv.tOr, Sv.tNot, Sv.tYes, Sv.aNil, Sv.aCons, Sv.aStar, Sv.cCall, Sv.cTup, Sv.cLst, Sv.cSl, Sv.cMeth, Sv.sSetIx, Sv.sPar2, Sv.sPar3, Sv.sAsg, Sv.sAug, Sv.hold, Sv.slot, Sv.outF, Sv.argsB, Sv.slotsOf, Sv.back, Sv.rds, Sv.datas, Sv.gN, Sv.gT, Sv.gL, Sv.gRun, Sv.cFn, Sv.fnD, Sv.sRaise, Sv.R.bind, Sv.R.opt, Sv.R.toS, Sv.RS.seq, Sv.Hd.rd, Sv.B.rd, Sv.toP, Sv.eqP, Sv.neP, Sv.one, Sv.two, Sv.getP, Sv.lenP, Sv.addP, Sv.subP, Sv.mulP, Sv.fdivP, Sv.modP, Sv.powP, Sv.intP, Sv.absP, Sv.max2P, Sv.min2P, Sv.negP, Sv.augAdd, Sv.setD, Sv.mAppend, Sv.ltB, Sv.gtB, Sv.leB, Sv.geB, Sv.ordB, Sv.small64, Sv.isP, Sv.wSeq, Sv.wRange1, Sv.sFor, wEnum, enumD, slP, cut1, z, k]
end K02
end
section
set_option autoImplicit false
set_option linter.all false
set_option maxRecDepth 100000
namespace K02
open PySem Sv

/-! ### the order of documents -/
mutual
theorem alike_enc : ∀ a b : Tr, PySem.W.alike (enc a) (enc b) = true
  | .nd l cs, .nd m ds => by simp [enc, PySem.W.alike, PySem.W.alikeAll, alike_encs cs ds]
theorem alike_encs : ∀ a b : List Tr, PySem.W.alikeAll (encs a) (encs b) = true
  | [], _ => by simp [encs, PySem.W.alikeAll]
  | _ :: _, [] => by simp [encs, PySem.W.alikeAll]
  | a :: r, b :: q => by simp [encs, PySem.W.alikeAll, alike_enc a b, alike_encs r q]
end
mutual
theorem eqv_enc : ∀ a b : Tr, PyData.eqv (enc a) (enc b) = true → a = b
  | .nd l cs, .nd m ds, h => by
    simp only [enc, PyData.eqv, PyData.eqvAll, Bool.and_eq_true, beq_iff_eq] at h
    rw [h.1, eqv_encs cs ds h.2]
theorem eqv_encs : ∀ a b : List Tr, PyData.eqvAll (encs a) (encs b) = true → a = b
  | [], [], _ => rfl
  | [], _ :: _, h => by simp [encs, PyData.eqvAll] at h
  | _ :: _, [], h => by simp [encs, PyData.eqvAll] at h
  | a :: r, b :: q, h => by
    simp only [encs, PyData.eqvAll, Bool.and_eq_true] at h
    rw [eqv_enc a b h.1, eqv_encs r q h.2]
end
theorem eqv_self (a : Tr) : PyData.eqv (enc a) (enc a) = true := PySem.SeqAt.eqv_refl_plain _ (enc_plain a)
def pr (t : Tr) : PyData := .tuple [.int (size t), enc t]
theorem alike_pr (a b : Tr) : PySem.W.alike (pr a) (pr b) = true := by simp [pr, PySem.W.alike, PySem.W.alikeAll, alike_enc a b]
theorem toks_inj {x y : PyData} (h : PySem.W.alike x y = true) (e : PySem.W.keyToks x = PySem.W.keyToks y) : PyData.eqv x y = true := by
  cases k : PyData.eqv x y with
  | true => rfl
  | false =>
    have q := (PySem.W.toks_eqv x y h).2 k [.inl 0] [.inl 1]
    rw [e, PySem.W.lex_pre] at q
    have q2 : PyProof.Rows.lexLt PyProof.Rows.itemOrd (PySem.W.keyToks y) (PySem.W.keyToks y) = false := PyProof.Rows.lex_irrefl _
    rw [q2] at q
    exact absurd q (by decide)
def tle (a b : Tr) : Bool := PySem.W.dataLe false pr a b
theorem tle_total : PySem.W.TotalLe tle := PySem.W.sortLe_total (PyProof.Rows.listOrd PyProof.Rows.itemOrd) false fun b => PySem.W.keyToks (pr b)
theorem tle_anti {a b : Tr} (h1 : tle a b = true) (h2 : tle b a = true) : a = b := by
  have h1' : (!PyProof.Rows.lexLt PyProof.Rows.itemOrd (PySem.W.keyToks (pr b)) (PySem.W.keyToks (pr a))) = true := h1
  have h2' : (!PyProof.Rows.lexLt PyProof.Rows.itemOrd (PySem.W.keyToks (pr a)) (PySem.W.keyToks (pr b))) = true := h2
  have e := PyProof.Rows.lex_total _ _ (by simpa using h1') (by simpa using h2')
  have q := toks_inj (alike_pr b a) e
  simp only [pr, PyData.eqv, PyData.eqvAll, Bool.and_eq_true, Bool.and_true] at q
  exact (eqv_enc b a q.2).symm
open Classical in
noncomputable def uniqA (acc : List Tr) : List Tr → List Tr
  | [] => acc
  | t :: r => uniqA (if acc.getLast? = some t then acc else acc ++ [t]) r
theorem uniqA_mem : ∀ (l acc : List Tr) (x : Tr), x ∈ uniqA acc l ↔ x ∈ acc ∨ x ∈ l
  | [], acc, x => by simp [uniqA]
  | t :: r, acc, x => by
    rw [uniqA, uniqA_mem r]
    split
    · rename_i h
      have := List.mem_of_getLast? h
      simp only [List.mem_cons]
      constructor
      · rintro (h | h)
        · exact .inl h
        · exact .inr (.inr h)
      · rintro (h | rfl | h)
        · exact .inl h
        · exact .inl this
        · exact .inr h
    · simp only [List.mem_append, List.mem_cons, List.not_mem_nil, or_false]
      constructor
      · rintro ((h | h) | h)
        · exact .inl h
        · exact .inr (.inl h)
        · exact .inr (.inr h)
      · rintro (h | h | h)
        · exact .inl (.inl h)
        · exact .inl (.inr h)
        · exact .inr h
def tlt (a b : Tr) : Prop := tle a b = true ∧ a ≠ b
theorem uniqA_sorted : ∀ (l acc : List Tr), acc.Pairwise tlt → (acc ++ l).Pairwise (fun a b => tle a b = true) → (uniqA acc l).Pairwise tlt
  | [], acc, h, _ => by rw [uniqA]; exact h
  | t :: r, acc, h, h2 => by
    rw [uniqA]
    refine uniqA_sorted r _ ?_ ?_
    · split
      · exact h
      · rename_i hne
        rw [List.pairwise_append]
        refine ⟨h, List.pairwise_singleton _ _, fun a ha b hb => ?_⟩
        rw [List.mem_singleton] at hb
        subst hb
        rw [List.pairwise_append] at h2
        refine ⟨h2.2.2 a ha b List.mem_cons_self, ?_⟩
        rintro rfl
        rcases List.eq_nil_or_concat acc with e | ⟨i, z, e⟩
        · subst e; cases ha
        · rw [List.concat_eq_append] at e
          subst e
          rw [List.getLast?_concat] at hne
          rw [List.mem_append, List.mem_singleton] at ha
          rcases ha with ha | ha
          · rw [List.pairwise_append] at h
            have a1 := h.2.2 a ha z (by simp)
            have a2 := h2.2.2 z (by simp) a List.mem_cons_self
            exact a1.2 (tle_anti a1.1 a2)
          · exact hne (by rw [ha])
    · split
      · rw [List.pairwise_append] at h2 ⊢
        refine ⟨h2.1, (List.pairwise_cons.mp h2.2.1).2, fun a ha b hb => h2.2.2 a ha b (List.mem_cons_of_mem _ hb)⟩
      · rw [List.append_assoc]
        exact h2
noncomputable def srt (ts : List Tr) : List Tr := uniqA [] (ts.mergeSort tle)
theorem srt_mem (ts : List Tr) (x : Tr) : x ∈ srt ts ↔ x ∈ ts := by
  rw [srt, uniqA_mem]
  simp [List.mem_mergeSort]
theorem srt_sorted (ts : List Tr) : (srt ts).Pairwise tlt :=
  uniqA_sorted _ _ .nil (by rw [List.nil_append]; exact PySem.W.sort_pairwise tle_total ts)
theorem sorted_ext {a b : List Tr} (ha : a.Pairwise tlt) (hb : b.Pairwise tlt) (h : ∀ x, x ∈ a ↔ x ∈ b) : a = b := by
  have na : a.Nodup := ha.imp fun h => h.2
  have nb : b.Nodup := hb.imp fun h => h.2
  have p := (List.perm_ext_iff_of_nodup na nb).mpr h
  exact List.Perm.eq_of_pairwise (le := fun a b => tle a b = true) (fun x y _ _ => tle_anti) (ha.imp fun h => h.1) (hb.imp fun h => h.1) p
theorem srt_ext {a b : List Tr} (h : ∀ x, x ∈ a ↔ x ∈ b) : srt a = srt b :=
  sorted_ext (srt_sorted a) (srt_sorted b) fun x => by rw [srt_mem, srt_mem, h]
theorem srt_len (ts : List Tr) : (srt ts).length ≤ ts.length := by
  have : ∀ (l acc : List Tr), (uniqA acc l).length ≤ acc.length + l.length := fun l => by
    induction l with
    | nil => intro acc; simp [uniqA]
    | cons t r ih =>
      intro acc
      rw [uniqA]
      refine Nat.le_trans (ih _) ?_
      split
      · simp only [List.length_cons]; omega
      · simp only [List.length_append, List.length_cons, List.length_nil]; omega
  have h := this (ts.mergeSort tle) []
  simpa [srt, List.length_mergeSort] using h
theorem srt_srt (ts : List Tr) : srt (srt ts) = srt ts := srt_ext (srt_mem ts)
theorem sortD_pr (ts : List Tr) : sortD (ts.map pr) = (ts.mergeSort tle).map pr :=
  (PySem.W.sort_maps pr fun a _ b _ => rfl).symm
end K02
end
section
set_option autoImplicit false
set_option linter.all false
set_option maxRecDepth 100000
namespace K02
open PySem Sv

mutual
theorem depth_enc : ∀ t : Tr, (enc t).depth ≤ ht t
  | .nd l cs => by simp only [enc, PyData.depth, PyData.depthAll, ht]; have := depth_encs cs; omega
theorem depth_encs : ∀ cs : List Tr, PyData.depthAll (encs cs) ≤ hts cs
  | [] => by simp [encs, PyData.depthAll, hts]
  | t :: r => by simp only [encs, PyData.depthAll, hts]; have := depth_enc t; have := depth_encs r; omega
end
open Classical in
theorem eq_enc (a b : Tr) (h : size a ≤ 190) : eqB (enc a) (enc b) = some (decide (a = b)) := by
  have q : shal (enc a) (enc b) = true := by
    have := depth_enc a
    have := ht_size a
    simp [shal]
    omega
  have e : PyData.eqv (enc a) (enc b) = decide (a = b) := by
    by_cases hab : a = b
    · subst hab; simp [eqv_self]
    · simp only [hab, decide_false]
      cases k : PyData.eqv (enc a) (enc b) with
      | false => rfl
      | true => exact absurd (eqv_enc a b k) hab
  simp [eqB, q, enc_plain, e]
theorem ord_loop (d : Option B) : ∀ (l acc : List Tr) (q2 q3 : Option B), (∀ t ∈ acc, size t ≤ 190) → (∀ t ∈ l, size t ≤ 190) → acc.length + l.length ≤ 1000 → ∃ q2' q3',
    loopF (gT [gN 2, gN 3]) fb_ordered_documents_1 (l.map pr) [d, some (.l (encs acc)), q2, q3] = .nx [d, some (.l (encs (uniqA acc l))), q2', q3'] := by
  intro l
  induction l with
  | nil => intro acc q2 q3 _ _ _; exact ⟨q2, q3, rfl⟩
  | cons t r ih =>
    intro acc q2 q3 h1 h2 hz
    simp only [List.length_cons] at hz
    have ht := h2 t List.mem_cons_self
    by_cases hl : acc.getLast? = some t
    · obtain ⟨q2', q3', k⟩ := ih acc (some (.d (.int (size t)))) (some (.d (enc t))) h1 (fun x hx => h2 x (List.mem_cons_of_mem _ hx)) (by omega)
      refine ⟨q2', q3', ?_⟩
      have body : fb_ordered_documents_1 [d, some (.l (encs acc)), some (.d (.int (size t))), some (.d (enc t))] = .nx [d, some (.l (encs acc)), some (.d (.int (size t))), some (.d (enc t))] := by
        rcases List.eq_nil_or_concat acc with e | ⟨i, z, e⟩
        · subst e; cases hl
        · rw [List.concat_eq_append] at e
          subst e
          rw [List.getLast?_concat] at hl
          cases hl
          have e1 := eq_nil (encs_plain (i ++ [t]))
          have e2 : (encs (i ++ [t])).isEmpty = false := by rw [encs_app]; simp [encs]
          rw [e2] at e1
          have e3 : L2.atI (encs (i ++ [t])) (-1) = some (enc t) := by rw [encs_app]; exact atI_last _ _
          have e4 : eqB (enc t) (enc t) = some true := by rw [eq_enc t t ht]; simp
          simp [fb_ordered_documents_1, Sv.sNil, Sv.sCons, Sv.sPass, Sv.sBreak, Sv.sCont, Sv.sExpr, Sv.put, Sv.sSet, Sv.sRet, Sv.sRetN, Sv.sIf, Sv.cVar, Sv.cK, Sv.cE, Sv.cP, Sv.cOp, Sv.cUn, Sv.cChain, Sv.cIf, Sv.cAnd, Sv.cOr, Sv.cNot, Sv.tB, Sv.tAnd, Sv.tOr, Sv.tNot, Sv.tYes, Sv.aNil, Sv.aCons, Sv.aStar, Sv.cCall, Sv.cTup, Sv.cLst, Sv.cSl, Sv.cMeth, Sv.sSetIx, Sv.sPar2, Sv.sPar3, Sv.sAsg, Sv.sAug, Sv.hold, Sv.slot, Sv.outF, Sv.argsB, Sv.slotsOf, Sv.back, Sv.rds, Sv.datas, Sv.gN, Sv.gT, Sv.gL, Sv.gRun, Sv.cFn, Sv.fnD, Sv.sRaise, Sv.R.bind, Sv.R.opt, Sv.R.toS, Sv.RS.seq, Sv.Hd.rd, Sv.B.rd, Sv.toP, Sv.eqP, Sv.neP, Sv.one, Sv.two, Sv.getP, Sv.lenP, Sv.addP, Sv.subP, Sv.mulP, Sv.fdivP, Sv.modP, Sv.powP, Sv.intP, Sv.absP, Sv.max2P, Sv.min2P, Sv.negP, Sv.augAdd, Sv.setD, Sv.mAppend, Sv.ltB, Sv.gtB, Sv.leB, Sv.geB, Sv.ordB, Sv.small64, Sv.isP, Sv.wSeq, Sv.wRange1, Sv.sFor, e1, e3, e4]
      rw [List.map_cons, loopF, uniqA, if_pos hl]
      simp only [pr, gT, gRun, gN, RS.seq, List.set_cons_succ, List.set_cons_zero]
      rw [body]
      exact k
    · have ht1 : ∀ x ∈ acc ++ [t], size x ≤ 190 := fun x hx => by
        rw [List.mem_append, List.mem_singleton] at hx
        rcases hx with hx | hx
        · exact h1 x hx
        · subst hx; exact ht
      obtain ⟨q2', q3', k⟩ := ih (acc ++ [t]) (some (.d (.int (size t)))) (some (.d (enc t))) ht1 (fun x hx => h2 x (List.mem_cons_of_mem _ hx)) (by simp; omega)
      refine ⟨q2', q3', ?_⟩
      have hz1 : (encs acc).length < sizeLine := by rw [encs_len, sizeLine_eq]; omega
      have body : fb_ordered_documents_1 [d, some (.l (encs acc)), some (.d (.int (size t))), some (.d (enc t))] = .nx [d, some (.l (encs (acc ++ [t]))), some (.d (.int (size t))), some (.d (enc t))] := by
        have e1 := eq_nil (encs_plain acc)
        rw [encs_app]
        rcases List.eq_nil_or_concat acc with e | ⟨i, z, e⟩
        · subst e
          simp only [encs, List.isEmpty_nil, List.length_nil] at e1 hz1
          simp [fb_ordered_documents_1, Sv.sNil, Sv.sCons, Sv.sPass, Sv.sBreak, Sv.sCont, Sv.sExpr, Sv.put, Sv.sSet, Sv.sRet, Sv.sRetN, Sv.sIf, Sv.cVar, Sv.cK, Sv.cE, Sv.cP, Sv.cOp, Sv.cUn, Sv.cChain, Sv.cIf, Sv.cAnd, Sv.cOr, Sv.cNot, Sv.tB, Sv.tAnd, Sv.tOr, Sv.tNot, Sv.tYes, Sv.aNil, Sv.aCons, Sv.aStar, Sv.cCall, Sv.cTup, Sv.cLst, Sv.cSl, Sv.cMeth, Sv.sSetIx, Sv.sPar2, Sv.sPar3, Sv.sAsg, Sv.sAug, Sv.hold, Sv.slot, Sv.outF, Sv.argsB, Sv.slotsOf, Sv.back, Sv.rds, Sv.datas, Sv.gN, Sv.gT, Sv.gL, Sv.gRun, Sv.cFn, Sv.fnD, Sv.sRaise, Sv.R.bind, Sv.R.opt, Sv.R.toS, Sv.RS.seq, Sv.Hd.rd, Sv.B.rd, Sv.toP, Sv.eqP, Sv.neP, Sv.one, Sv.two, Sv.getP, Sv.lenP, Sv.addP, Sv.subP, Sv.mulP, Sv.fdivP, Sv.modP, Sv.powP, Sv.intP, Sv.absP, Sv.max2P, Sv.min2P, Sv.negP, Sv.augAdd, Sv.setD, Sv.mAppend, Sv.ltB, Sv.gtB, Sv.leB, Sv.geB, Sv.ordB, Sv.small64, Sv.isP, Sv.wSeq, Sv.wRange1, Sv.sFor, e1, hz1, encs]
        · rw [List.concat_eq_append] at e
          subst e
          rw [List.getLast?_concat] at hl
          have hne : ¬ z = t := fun q => hl (by rw [q])
          have e2 : (encs (i ++ [z])).isEmpty = false := by rw [encs_app]; simp [encs]
          rw [e2] at e1
          have e3 : L2.atI (encs (i ++ [z])) (-1) = some (enc z) := by rw [encs_app]; exact atI_last _ _
          have e4 : eqB (enc z) (enc t) = some false := by rw [eq_enc z t (h1 z (by simp))]; simp [hne]
          simp [fb_ordered_documents_1, Sv.sNil, Sv.sCons, Sv.sPass, Sv.sBreak, Sv.sCont, Sv.sExpr, Sv.put, Sv.sSet, Sv.sRet, Sv.sRetN, Sv.sIf, Sv.cVar, Sv.cK, Sv.cE, Sv.cP, Sv.cOp, Sv.cUn, Sv.cChain, Sv.cIf, Sv.cAnd, Sv.cOr, Sv.cNot, Sv.tB, Sv.tAnd, Sv.tOr, Sv.tNot, Sv.tYes, Sv.aNil, Sv.aCons, Sv.aStar, Sv.cCall, Sv.cTup, Sv.cLst, Sv.cSl, Sv.cMeth, Sv.sSetIx, Sv.sPar2, Sv.sPar3, Sv.sAsg, Sv.sAug, Sv.hold, Sv.slot, Sv.outF, Sv.argsB, Sv.slotsOf, Sv.back, Sv.rds, Sv.datas, Sv.gN, Sv.gT, Sv.gL, Sv.gRun, Sv.cFn, Sv.fnD, Sv.sRaise, Sv.R.bind, Sv.R.opt, Sv.R.toS, Sv.RS.seq, Sv.Hd.rd, Sv.B.rd, Sv.toP, Sv.eqP, Sv.neP, Sv.one, Sv.two, Sv.getP, Sv.lenP, Sv.addP, Sv.subP, Sv.mulP, Sv.fdivP, Sv.modP, Sv.powP, Sv.intP, Sv.absP, Sv.max2P, Sv.min2P, Sv.negP, Sv.augAdd, Sv.setD, Sv.mAppend, Sv.ltB, Sv.gtB, Sv.leB, Sv.geB, Sv.ordB, Sv.small64, Sv.isP, Sv.wSeq, Sv.wRange1, Sv.sFor, e1, e3, e4, hz1, encs]
      rw [List.map_cons, loopF, uniqA, if_neg hl]
      simp only [pr, gT, gRun, gN, RS.seq, List.set_cons_succ, List.set_cons_zero]
      rw [body]
      exact k
theorem fb_same : fb_sorted_1 = fb_ordered_documents_1 := rfl
theorem sortOk_pr (ts : List Tr) (h : ∀ t ∈ ts, size t ≤ 170) : sortOk (ts.map pr) = true := by
  simp only [sortOk, Bool.and_eq_true, Bool.or_eq_true, List.all_eq_true, List.mem_map]
  refine ⟨⟨?_, .inl ?_⟩, ?_⟩
  · rintro _ ⟨a, _, rfl⟩ _ ⟨b, _, rfl⟩; exact alike_pr a b
  · rintro _ ⟨a, _, rfl⟩; rfl
  · rintro _ ⟨a, ha, rfl⟩
    have h1 := depth_enc a
    have h2 := ht_size a
    have h3 := h a ha
    simp [pr, PyData.plain, PyData.plainAll, enc_plain, PyData.depth, PyData.depthAll]
    omega
theorem ordered_spec (ts : List Tr) (h : ∀ t ∈ ts, size t ≤ 170) (hl : ts.length ≤ 900) : d_ordered_documents [.d (.tuple (encs ts))] = .ok (.l (encs (srt ts))) [some (.d (.tuple (encs ts)))] := by
  have z : ts.length ≤ sizeLine := by rw [sizeLine_eq]; omega
  have z2 : 2 ≤ sizeLine := by rw [sizeLine_eq]; decide
  have s1 : compL [3] (gN 3) tYes ce_ordered_documents_0 (ts.map enc) [some (.d (.tuple (ts.map enc))), some (.l []), none, none] = .ok (ts.map pr) [some (.d (.tuple (ts.map enc))), some (.l []), none, none] :=
    compL_map rfl ts fun t ht => by
      have := size_in_spec t (by have := h t ht; omega)
      simp [ce_ordered_documents_0, Sv.sNil, Sv.sCons, Sv.sPass, Sv.sBreak, Sv.sCont, Sv.sExpr, Sv.put, Sv.sSet, Sv.sRet, Sv.sRetN, Sv.sIf, Sv.cVar, Sv.cK, Sv.cE, Sv.cP, Sv.cOp, Sv.cUn, Sv.cChain, Sv.cIf, Sv.cAnd, Sv.cOr, Sv.cNot, Sv.tB, Sv.tAnd, Sv.tOr, Sv.tNot, Sv.tYes, Sv.aNil, Sv.aCons, Sv.aStar, Sv.cCall, Sv.cTup, Sv.cLst, Sv.cSl, Sv.cMeth, Sv.sSetIx, Sv.sPar2, Sv.sPar3, Sv.sAsg, Sv.sAug, Sv.hold, Sv.slot, Sv.outF, Sv.argsB, Sv.slotsOf, Sv.back, Sv.rds, Sv.datas, Sv.gN, Sv.gT, Sv.gL, Sv.gRun, Sv.cFn, Sv.fnD, Sv.sRaise, Sv.R.bind, Sv.R.opt, Sv.R.toS, Sv.RS.seq, Sv.Hd.rd, Sv.B.rd, Sv.toP, Sv.eqP, Sv.neP, Sv.one, Sv.two, Sv.getP, Sv.lenP, Sv.addP, Sv.subP, Sv.mulP, Sv.fdivP, Sv.modP, Sv.powP, Sv.intP, Sv.absP, Sv.max2P, Sv.min2P, Sv.negP, Sv.augAdd, Sv.setD, Sv.mAppend, Sv.ltB, Sv.gtB, Sv.leB, Sv.geB, Sv.ordB, Sv.small64, Sv.isP, Sv.wSeq, Sv.wRange1, Sv.sFor, this, pr, z2]
  obtain ⟨q2, q3, k⟩ := ord_loop (some (.d (.tuple (ts.map enc)))) (ts.mergeSort tle) [] none none (fun t ht => by cases ht) (fun t ht => by have := h t (List.mem_mergeSort.mp ht); omega) (by rw [List.length_mergeSort]; simp; omega)
  have so := sortOk_pr ts h
  simp only [encs] at k
  rw [encs_map ts, srt]
  simp [d_ordered_documents, Sv.sNil, Sv.sCons, Sv.sPass, Sv.sBreak, Sv.sCont, Sv.sExpr, Sv.put, Sv.sSet, Sv.sRet, Sv.sRetN, Sv.sIf, Sv.cVar, Sv.cK, Sv.cE, Sv.cP, Sv.cOp, Sv.cUn, Sv.cChain, Sv.cIf, Sv.cAnd, Sv.cOr, Sv.cNot, Sv.tB, Sv.tAnd, Sv.tOr, Sv.tNot, Sv.tYes, Sv.aNil, Sv.aCons, Sv.aStar, Sv.cCall, Sv.cTup, Sv.cLst, Sv.cSl, Sv.cMeth, Sv.sSetIx, Sv.sPar2, Sv.sPar3, Sv.sAsg, Sv.sAug, Sv.hold, Sv.slot, Sv.outF, Sv.argsB, Sv.slotsOf, Sv.back, Sv.rds, Sv.datas, Sv.gN, Sv.gT, Sv.gL, Sv.gRun, Sv.cFn, Sv.fnD, Sv.sRaise, Sv.R.bind, Sv.R.opt, Sv.R.toS, Sv.RS.seq, Sv.Hd.rd, Sv.B.rd, Sv.toP, Sv.eqP, Sv.neP, Sv.one, Sv.two, Sv.getP, Sv.lenP, Sv.addP, Sv.subP, Sv.mulP, Sv.fdivP, Sv.modP, Sv.powP, Sv.intP, Sv.absP, Sv.max2P, Sv.min2P, Sv.negP, Sv.augAdd, Sv.setD, Sv.mAppend, Sv.ltB, Sv.gtB, Sv.leB, Sv.geB, Sv.ordB, Sv.small64, Sv.isP, Sv.wSeq, Sv.wRange1, Sv.sFor, cComp, wipeE, restE, z, s1, sortedP, so, sortD_pr, k]
end K02
end
section
set_option autoImplicit false
set_option linter.all false
set_option maxRecDepth 100000
namespace K02
open PySem Sv

theorem sorted_docs_spec (ts : List Tr) (h : ∀ t ∈ ts, size t ≤ 170) (hg : ∀ t ∈ ts, labIn goods t) (hl : ts.length ≤ 900) : d_sorted_documents [.d (.tuple (encs ts))] = .ok (.d (.tuple (encs (srt ts)))) [some (.d (.tuple (encs ts)))] := by
  have z : ts.length ≤ sizeLine := by rw [sizeLine_eq]; omega
  have s1 : compL [1] (gN 1) tYes ce_sorted_documents_0 (ts.map enc) [some (.d (.tuple (ts.map enc))), none] = .ok (ts.map fun _ => .bool true) [some (.d (.tuple (ts.map enc))), none] :=
    compL_map rfl ts fun t ht => by
      have := is_document_spec t (by have := h t ht; omega) (hg t ht)
      simp [ce_sorted_documents_0, Sv.sNil, Sv.sCons, Sv.sPass, Sv.sBreak, Sv.sCont, Sv.sExpr, Sv.put, Sv.sSet, Sv.sRet, Sv.sRetN, Sv.sIf, Sv.cVar, Sv.cK, Sv.cE, Sv.cP, Sv.cOp, Sv.cUn, Sv.cChain, Sv.cIf, Sv.cAnd, Sv.cOr, Sv.cNot, Sv.tB, Sv.tAnd, Sv.tOr, Sv.tNot, Sv.tYes, Sv.aNil, Sv.aCons, Sv.aStar, Sv.cCall, Sv.cTup, Sv.cLst, Sv.cSl, Sv.cMeth, Sv.sSetIx, Sv.sPar2, Sv.sPar3, Sv.sAsg, Sv.sAug, Sv.hold, Sv.slot, Sv.outF, Sv.argsB, Sv.slotsOf, Sv.back, Sv.rds, Sv.datas, Sv.gN, Sv.gT, Sv.gL, Sv.gRun, Sv.cFn, Sv.fnD, Sv.sRaise, Sv.R.bind, Sv.R.opt, Sv.R.toS, Sv.RS.seq, Sv.Hd.rd, Sv.B.rd, Sv.toP, Sv.eqP, Sv.neP, Sv.one, Sv.two, Sv.getP, Sv.lenP, Sv.addP, Sv.subP, Sv.mulP, Sv.fdivP, Sv.modP, Sv.powP, Sv.intP, Sv.absP, Sv.max2P, Sv.min2P, Sv.negP, Sv.augAdd, Sv.setD, Sv.mAppend, Sv.ltB, Sv.gtB, Sv.leB, Sv.geB, Sv.ordB, Sv.small64, Sv.isP, Sv.wSeq, Sv.wRange1, Sv.sFor, this]
  have k := ordered_spec ts h hl
  rw [encs_map ts] at k ⊢
  simp [d_sorted_documents, Sv.sNil, Sv.sCons, Sv.sPass, Sv.sBreak, Sv.sCont, Sv.sExpr, Sv.put, Sv.sSet, Sv.sRet, Sv.sRetN, Sv.sIf, Sv.cVar, Sv.cK, Sv.cE, Sv.cP, Sv.cOp, Sv.cUn, Sv.cChain, Sv.cIf, Sv.cAnd, Sv.cOr, Sv.cNot, Sv.tB, Sv.tAnd, Sv.tOr, Sv.tNot, Sv.tYes, Sv.aNil, Sv.aCons, Sv.aStar, Sv.cCall, Sv.cTup, Sv.cLst, Sv.cSl, Sv.cMeth, Sv.sSetIx, Sv.sPar2, Sv.sPar3, Sv.sAsg, Sv.sAug, Sv.hold, Sv.slot, Sv.outF, Sv.argsB, Sv.slotsOf, Sv.back, Sv.rds, Sv.datas, Sv.gN, Sv.gT, Sv.gL, Sv.gRun, Sv.cFn, Sv.fnD, Sv.sRaise, Sv.R.bind, Sv.R.opt, Sv.R.toS, Sv.RS.seq, Sv.Hd.rd, Sv.B.rd, Sv.toP, Sv.eqP, Sv.neP, Sv.one, Sv.two, Sv.getP, Sv.lenP, Sv.addP, Sv.subP, Sv.mulP, Sv.fdivP, Sv.modP, Sv.powP, Sv.intP, Sv.absP, Sv.max2P, Sv.min2P, Sv.negP, Sv.augAdd, Sv.setD, Sv.mAppend, Sv.ltB, Sv.gtB, Sv.leB, Sv.geB, Sv.ordB, Sv.small64, Sv.isP, Sv.wSeq, Sv.wRange1, Sv.sFor, isTup, cComp, wipeE, restE, z, s1, allP, boolsOf_all, k, tupleP]
theorem sorted_spec (ts : List Tr) (h : ∀ t ∈ ts, size t ≤ 60) (hl : ts.length ≤ 900) : d_sorted [.l (encs ts)] = .ok (.l (encs (srt ts))) [some (.d (.list (encs ts)))] := by
  have z : ts.length ≤ sizeLine := by rw [sizeLine_eq]; omega
  have z2 : 2 ≤ sizeLine := by rw [sizeLine_eq]; decide
  have s1 : compL [3] (gN 3) tYes ce_sorted_0 (ts.map enc) [some (.d (.list (ts.map enc))), some (.l []), none, none] = .ok (ts.map pr) [some (.d (.list (ts.map enc))), some (.l []), none, none] :=
    compL_map rfl ts fun t ht => by
      have := weight_spec 60 t (by have := h t ht; have := ht_size t; omega) (by have := h t ht; omega)
      simp [ce_sorted_0, Sv.sNil, Sv.sCons, Sv.sPass, Sv.sBreak, Sv.sCont, Sv.sExpr, Sv.put, Sv.sSet, Sv.sRet, Sv.sRetN, Sv.sIf, Sv.cVar, Sv.cK, Sv.cE, Sv.cP, Sv.cOp, Sv.cUn, Sv.cChain, Sv.cIf, Sv.cAnd, Sv.cOr, Sv.cNot, Sv.tB, Sv.tAnd, Sv.tOr, Sv.tNot, Sv.tYes, Sv.aNil, Sv.aCons, Sv.aStar, Sv.cCall, Sv.cTup, Sv.cLst, Sv.cSl, Sv.cMeth, Sv.sSetIx, Sv.sPar2, Sv.sPar3, Sv.sAsg, Sv.sAug, Sv.hold, Sv.slot, Sv.outF, Sv.argsB, Sv.slotsOf, Sv.back, Sv.rds, Sv.datas, Sv.gN, Sv.gT, Sv.gL, Sv.gRun, Sv.cFn, Sv.fnD, Sv.sRaise, Sv.R.bind, Sv.R.opt, Sv.R.toS, Sv.RS.seq, Sv.Hd.rd, Sv.B.rd, Sv.toP, Sv.eqP, Sv.neP, Sv.one, Sv.two, Sv.getP, Sv.lenP, Sv.addP, Sv.subP, Sv.mulP, Sv.fdivP, Sv.modP, Sv.powP, Sv.intP, Sv.absP, Sv.max2P, Sv.min2P, Sv.negP, Sv.augAdd, Sv.setD, Sv.mAppend, Sv.ltB, Sv.gtB, Sv.leB, Sv.geB, Sv.ordB, Sv.small64, Sv.isP, Sv.wSeq, Sv.wRange1, Sv.sFor, this, pr, z2]
  obtain ⟨q2, q3, k⟩ := ord_loop (some (.d (.list (ts.map enc)))) (ts.mergeSort tle) [] none none (fun t ht => by cases ht) (fun t ht => by have := h t (List.mem_mergeSort.mp ht); omega) (by rw [List.length_mergeSort]; simp; omega)
  have so := sortOk_pr ts fun t ht => by have := h t ht; omega
  simp only [encs] at k
  rw [encs_map ts, srt]
  simp [d_sorted, Sv.sNil, Sv.sCons, Sv.sPass, Sv.sBreak, Sv.sCont, Sv.sExpr, Sv.put, Sv.sSet, Sv.sRet, Sv.sRetN, Sv.sIf, Sv.cVar, Sv.cK, Sv.cE, Sv.cP, Sv.cOp, Sv.cUn, Sv.cChain, Sv.cIf, Sv.cAnd, Sv.cOr, Sv.cNot, Sv.tB, Sv.tAnd, Sv.tOr, Sv.tNot, Sv.tYes, Sv.aNil, Sv.aCons, Sv.aStar, Sv.cCall, Sv.cTup, Sv.cLst, Sv.cSl, Sv.cMeth, Sv.sSetIx, Sv.sPar2, Sv.sPar3, Sv.sAsg, Sv.sAug, Sv.hold, Sv.slot, Sv.outF, Sv.argsB, Sv.slotsOf, Sv.back, Sv.rds, Sv.datas, Sv.gN, Sv.gT, Sv.gL, Sv.gRun, Sv.cFn, Sv.fnD, Sv.sRaise, Sv.R.bind, Sv.R.opt, Sv.R.toS, Sv.RS.seq, Sv.Hd.rd, Sv.B.rd, Sv.toP, Sv.eqP, Sv.neP, Sv.one, Sv.two, Sv.getP, Sv.lenP, Sv.addP, Sv.subP, Sv.mulP, Sv.fdivP, Sv.modP, Sv.powP, Sv.intP, Sv.absP, Sv.max2P, Sv.min2P, Sv.negP, Sv.augAdd, Sv.setD, Sv.mAppend, Sv.ltB, Sv.gtB, Sv.leB, Sv.geB, Sv.ordB, Sv.small64, Sv.isP, Sv.wSeq, Sv.wRange1, Sv.sFor, cComp, wipeE, restE, z, s1, sortedP, so, sortD_pr, fb_same, k]
theorem pick_list {x : B} (h : Tap x) (l : List PyData) (hl : 0 < l.length) (hz : l.length ≤ 1000) : ∃ r y, r ∈ l ∧ Tap y ∧ d_pick [x, .l l] = .ok (.d r) [some y, some (.l l)] := by
  obtain ⟨r, y, h1, h2, h3, h4⟩ := turn_tap h (l.length : Int) (by omega) (by omega)
  have hr : r.toNat < l.length := by omega
  have e : (r.toNat : Int) = r := by omega
  obtain ⟨a, b, c, rfl⟩ := h
  obtain ⟨a', b', c', rfl⟩ := h3
  refine ⟨l[r.toNat], _, List.getElem_mem hr, ⟨a', b', c', rfl⟩, ?_⟩
  simp [d_pick, Sv.sNil, Sv.sCons, Sv.sPass, Sv.sBreak, Sv.sCont, Sv.sExpr, Sv.put, Sv.sSet, Sv.sRet, Sv.sRetN, Sv.sIf, Sv.cVar, Sv.cK, Sv.cE, Sv.cP, Sv.cOp, Sv.cUn, Sv.cChain, Sv.cIf, Sv.cAnd, Sv.cOr, Sv.cNot, Sv.tB, Sv.tAnd, Sv.tOr, Sv.tNot, Sv.tYes, Sv.aNil, Sv.aCons, Sv.aStar, Sv.cCall, Sv.cTup, Sv.cLst, Sv.cSl, Sv.cMeth, Sv.sSetIx, Sv.sPar2, Sv.sPar3, Sv.sAsg, Sv.sAug, Sv.hold, Sv.slot, Sv.outF, Sv.argsB, Sv.slotsOf, Sv.back, Sv.rds, Sv.datas, Sv.gN, Sv.gT, Sv.gL, Sv.gRun, Sv.cFn, Sv.fnD, Sv.sRaise, Sv.R.bind, Sv.R.opt, Sv.R.toS, Sv.RS.seq, Sv.Hd.rd, Sv.B.rd, Sv.toP, Sv.eqP, Sv.neP, Sv.one, Sv.two, Sv.getP, Sv.lenP, Sv.addP, Sv.subP, Sv.mulP, Sv.fdivP, Sv.modP, Sv.powP, Sv.intP, Sv.absP, Sv.max2P, Sv.min2P, Sv.negP, Sv.augAdd, Sv.setD, Sv.mAppend, Sv.ltB, Sv.gtB, Sv.leB, Sv.geB, Sv.ordB, Sv.small64, Sv.isP, Sv.wSeq, Sv.wRange1, Sv.sFor, h4, L2.atI, L2.ixN, h1, h2, hr]
theorem erase_map {α β : Type} (f : α → β) : ∀ (l : List α) (j : Nat), (l.map f).eraseIdx j = (l.eraseIdx j).map f
  | [], _ => rfl
  | _ :: _, 0 => rfl
  | a :: r, j + 1 => by simp [erase_map f r j]
/-! ### the drawn order -/
theorem picks_loop (ts : List Tr) (h0 : 0 < ts.length) (hz : ts.length ≤ 1000) (f : Nat → PyData) : ∀ (n : Nat) (i : Nat) (x : B), Tap x → ∃ us y, Tap y ∧ us.length = n ∧ (∀ u ∈ us, u ∈ ts) ∧
    compL [4] (gN 4) tYes ce_order_right_1 ((List.range' i n).map f) [some x, some (.l (encs ts)), none, none, none, none] = .ok (encs us) [some y, some (.l (encs ts)), none, none, none, none]
  | 0, i, x, hx => ⟨[], x, hx, rfl, ⟨fun u hu => absurd hu List.not_mem_nil, rfl⟩⟩
  | n + 1, i, x, hx => by
    obtain ⟨r, y, hr, hy, e⟩ := pick_list hx (encs ts) (by rw [encs_len]; exact h0) (by rw [encs_len]; exact hz)
    obtain ⟨us, w, hw, hu1, hu2, k⟩ := picks_loop ts h0 hz f n (i + 1) y hy
    rw [encs_map] at hr
    obtain ⟨t, ht, rfl⟩ := List.mem_map.mp hr
    refine ⟨t :: us, w, hw, by simp [hu1], fun u hu => ?_, ?_⟩
    · rcases List.mem_cons.mp hu with e | hu
      · subst e; exact ht
      · exact hu2 u hu
    · obtain ⟨a, b, c, rfl⟩ := hx
      obtain ⟨a', b', c', rfl⟩ := hy
      have c1 : comp1 [4] (gN 4) tYes ce_order_right_1 (f i) [some (.l [.int a, .int b, .int c]), some (.l (encs ts)), none, none, none, none] = .ok (some (enc t)) [some (.l [.int a', .int b', .int c']), some (.l (encs ts)), none, none, none, none] := by
        simp [comp1, ce_order_right_1, Sv.sNil, Sv.sCons, Sv.sPass, Sv.sBreak, Sv.sCont, Sv.sExpr, Sv.put, Sv.sSet, Sv.sRet, Sv.sRetN, Sv.sIf, Sv.cVar, Sv.cK, Sv.cE, Sv.cP, Sv.cOp, Sv.cUn, Sv.cChain, Sv.cIf, Sv.cAnd, Sv.cOr, Sv.cNot, Sv.tB, Sv.tAnd, Sv.tOr, Sv.tNot, Sv.tYes, Sv.aNil, Sv.aCons, Sv.aStar, Sv.cCall, Sv.cTup, Sv.cLst, Sv.cSl, Sv.cMeth, Sv.sSetIx, Sv.sPar2, Sv.sPar3, Sv.sAsg, Sv.sAug, Sv.hold, Sv.slot, Sv.outF, Sv.argsB, Sv.slotsOf, Sv.back, Sv.rds, Sv.datas, Sv.gN, Sv.gT, Sv.gL, Sv.gRun, Sv.cFn, Sv.fnD, Sv.sRaise, Sv.R.bind, Sv.R.opt, Sv.R.toS, Sv.RS.seq, Sv.Hd.rd, Sv.B.rd, Sv.toP, Sv.eqP, Sv.neP, Sv.one, Sv.two, Sv.getP, Sv.lenP, Sv.addP, Sv.subP, Sv.mulP, Sv.fdivP, Sv.modP, Sv.powP, Sv.intP, Sv.absP, Sv.max2P, Sv.min2P, Sv.negP, Sv.augAdd, Sv.setD, Sv.mAppend, Sv.ltB, Sv.gtB, Sv.leB, Sv.geB, Sv.ordB, Sv.small64, Sv.isP, Sv.wSeq, Sv.wRange1, Sv.sFor, wipeE, e]
      rw [List.range'_succ, List.map_cons, compL, c1]
      simp only [k, encs]
theorem mix_loop (ts : B) (f : Nat → PyData) (v5 : Option B) : ∀ (n i : Nat) (x : B) (us acc : List Tr) (q : Option B), Tap x → us.length = n → acc.length + n ≤ 900 → ∃ y ws q', Tap y ∧ (∀ t, t ∈ ws ↔ t ∈ acc ∨ t ∈ us) ∧ ws.length = acc.length + n ∧
    loopF (gN 4) fb_order_right_0 ((List.range' i n).map f) [some x, some ts, some (.l (encs us)), some (.l (encs acc)), q, v5] = .nx [some y, some ts, some (.l []), some (.l (encs ws)), q', v5]
  | 0, i, x, us, acc, q, hx, hu, _ => by
    obtain rfl : us = [] := List.length_eq_zero_iff.mp hu
    exact ⟨x, acc, q, hx, fun t => by simp, rfl, rfl⟩
  | n + 1, i, x, us, acc, q, hx, hu, hz => by
    obtain ⟨r, y, h1, h2, hy, e⟩ := turn_tap hx (us.length : Int) (by omega) (by omega)
    have hr : r.toNat < us.length := by omega
    obtain ⟨y', ws, q', hy', m1, m2, k⟩ := mix_loop ts f v5 n (i + 1) y (us.eraseIdx r.toNat) (acc ++ [us[r.toNat]]) (some (.d (f i))) hy (by rw [List.length_eraseIdx_of_lt hr]; omega) (by simp; omega)
    refine ⟨y', ws, q', hy', fun t => ?_, by rw [m2]; simp; omega, ?_⟩
    · rw [m1, List.mem_append, List.mem_singleton, or_assoc]
      have p : ∀ (l : List Tr) (j : Nat) (hj : j < l.length), t ∈ l ↔ t = l[j] ∨ t ∈ l.eraseIdx j := fun l => by
        induction l with
        | nil => intro j hj; simp at hj
        | cons a r ih =>
          intro j hj
          cases j with
          | zero => simp
          | succ j =>
            have := ih j (by simpa using hj)
            simp only [List.eraseIdx_cons_succ, List.mem_cons, List.getElem_cons_succ, this]
            constructor
            · rintro (h | h | h)
              · exact .inr (.inl h)
              · exact .inl h
              · exact .inr (.inr h)
            · rintro (h | h | h)
              · exact .inr (.inl h)
              · exact .inl h
              · exact .inr (.inr h)
      rw [p us r.toNat hr]
    · obtain ⟨a, b, c, rfl⟩ := hx
      obtain ⟨a', b', c', rfl⟩ := hy
      have z1 : (encs acc).length < sizeLine := by rw [encs_len, sizeLine_eq]; omega
      have z2 : (encs us).length = us.length := encs_len us
      have s1 : seqIndex? r us.length = some r.toNat := by
        have hn : ¬ r < 0 := by omega
        simp [seqIndex?, h1, h2, hn]
      have g1 : (encs us)[r.toNat]? = some (enc us[r.toNat]) := encs_get (List.getElem?_eq_getElem hr)
      have s2 : (encs us).eraseIdx r.toNat = encs (us.eraseIdx r.toNat) := by rw [encs_map, encs_map, erase_map]
      have b1 : -9223372036854775808 ≤ r ∧ r < 9223372036854775808 := by omega
      have body : fb_order_right_0 [some (.l [.int a, .int b, .int c]), some ts, some (.l (encs us)), some (.l (encs acc)), some (.d (f i)), v5] = .nx [some (.l [.int a', .int b', .int c']), some ts, some (.l (encs (us.eraseIdx r.toNat))), some (.l (encs (acc ++ [us[r.toNat]]))), some (.d (f i)), v5] := by
        simp [fb_order_right_0, Sv.sNil, Sv.sCons, Sv.sPass, Sv.sBreak, Sv.sCont, Sv.sExpr, Sv.put, Sv.sSet, Sv.sRet, Sv.sRetN, Sv.sIf, Sv.cVar, Sv.cK, Sv.cE, Sv.cP, Sv.cOp, Sv.cUn, Sv.cChain, Sv.cIf, Sv.cAnd, Sv.cOr, Sv.cNot, Sv.tB, Sv.tAnd, Sv.tOr, Sv.tNot, Sv.tYes, Sv.aNil, Sv.aCons, Sv.aStar, Sv.cCall, Sv.cTup, Sv.cLst, Sv.cSl, Sv.cMeth, Sv.sSetIx, Sv.sPar2, Sv.sPar3, Sv.sAsg, Sv.sAug, Sv.hold, Sv.slot, Sv.outF, Sv.argsB, Sv.slotsOf, Sv.back, Sv.rds, Sv.datas, Sv.gN, Sv.gT, Sv.gL, Sv.gRun, Sv.cFn, Sv.fnD, Sv.sRaise, Sv.R.bind, Sv.R.opt, Sv.R.toS, Sv.RS.seq, Sv.Hd.rd, Sv.B.rd, Sv.toP, Sv.eqP, Sv.neP, Sv.one, Sv.two, Sv.getP, Sv.lenP, Sv.addP, Sv.subP, Sv.mulP, Sv.fdivP, Sv.modP, Sv.powP, Sv.intP, Sv.absP, Sv.max2P, Sv.min2P, Sv.negP, Sv.augAdd, Sv.setD, Sv.mAppend, Sv.ltB, Sv.gtB, Sv.leB, Sv.geB, Sv.ordB, Sv.small64, Sv.isP, Sv.wSeq, Sv.wRange1, Sv.sFor, z2, e, mPopAt, s1, g1, s2, b1, z1, encs_app, encs]
      rw [List.range'_succ, List.map_cons, loopF]
      simp only [gN, RS.seq, List.set_cons_succ, List.set_cons_zero]
      rw [body]
      exact k
end K02
end
section
set_option autoImplicit false
set_option linter.all false
set_option maxRecDepth 100000
namespace K02
open PySem Sv

/-! ### repr -/
theorem tupleText_le (ts : List Str) : (tupleText ts).length ≤ piled ts + 3 := by
  unfold tupleText
  rw [strLen_append, strLen_append]
  have e1 : ((("(" : String) : Str)).length = 1 := rfl
  have e3 : (((if ts.length == 1 then ",)" else ")" : String) : Str)).length ≤ 2 := by split <;> decide
  rw [e1]
  by_cases h : ts = []
  · subst h; simp [piled]; decide
  · have := join_length_add ts h
    omega
theorem textFrom_le : ∀ (ts : List Str) (k : Nat) (acc : Str), (textFrom k acc ts).length ≤ acc.length + piled ts
  | [], k, acc => by show acc.length ≤ _; omega
  | t :: r, k, acc => by
    have ih := textFrom_le r (k + 1) (acc ++ (if k > 0 then ", " else "" : String) ++ t)
    have e : (acc ++ (if k > 0 then ", " else "" : String) ++ t).length = acc.length + (if k > 0 then 2 else 0) + t.length := by
      rw [strLen_append, strLen_append]
      split <;> rfl
    rw [e] at ih
    rw [piled_cons]
    show (textFrom (k + 1) _ r).length ≤ _
    have : (if k > 0 then 2 else 0 : Nat) ≤ 2 := by split <;> omega
    omega
theorem listText_le (ts : List Str) : (listText ts).length ≤ piled ts + 2 := by
  unfold listText
  rw [strLen_append]
  have := textFrom_le ts 0 "["
  have e1 : ((("[" : String) : Str)).length = 1 := rfl
  have e2 : ((("]" : String) : Str)).length = 1 := rfl
  omega
theorem good_repr : ∀ l ∈ goods, (reprText l).length ≤ 10 := by decide +kernel
mutual
theorem shown_len : ∀ t : Tr, labIn goods t → (enc t).shown.length + 2 ≤ 20 * size t
  | .nd l cs, h => by
    rw [labIn] at h
    have h1 := good_repr l h.1
    have h2 := showns_len cs h.2
    have h3 := tupleText_le (PyData.shownAll (.str l :: encs cs))
    simp only [PyData.shownAll, PyData.shown, piled_cons] at h3
    simp only [enc, PyData.shown, size]
    simp only [PyData.shownAll, PyData.shown]
    omega
theorem showns_len : ∀ cs : List Tr, labsIn goods cs → piled (PyData.shownAll (encs cs)) ≤ 20 * sizes cs
  | [], _ => by simp [encs, PyData.shownAll, piled, sizes]
  | t :: r, h => by
    rw [labsIn] at h
    have := shown_len t h.1
    have := showns_len r h.2
    simp only [encs, PyData.shownAll, piled_cons, sizes]
    omega
end
mutual
theorem showable_enc : ∀ t : Tr, (enc t).showable = true
  | .nd l cs => by simp [enc, PyData.showable, PyData.showableAll, showable_encs cs]
theorem showable_encs : ∀ cs : List Tr, PyData.showableAll (encs cs) = true
  | [] => rfl
  | t :: r => by simp [encs, PyData.showableAll, showable_enc t, showable_encs r]
end
theorem sizes_le {m : Nat} : ∀ (ts : List Tr), (∀ t ∈ ts, size t ≤ m) → sizes ts ≤ m * ts.length
  | [], _ => by simp [sizes]
  | t :: r, h => by
    have := sizes_le r fun x hx => h x (List.mem_cons_of_mem _ hx)
    have := h t List.mem_cons_self
    simp only [sizes, List.length_cons, Nat.mul_succ]
    omega
theorem hts_le {m : Nat} : ∀ (ts : List Tr), (∀ t ∈ ts, size t ≤ m) → hts ts ≤ m
  | [], _ => by simp [hts]
  | t :: r, h => by
    have := hts_le r fun x hx => h x (List.mem_cons_of_mem _ hx)
    have := h t List.mem_cons_self
    have := ht_size t
    simp only [hts]
    omega
theorem repr_tup (ts : List Tr) (h : ∀ t ∈ ts, size t ≤ 60) (hg : labsIn goods ts) (hl : ts.length ≤ 100) : reprW (.tuple (encs ts)) = some (.d (.str (PyData.tuple (encs ts)).shown)) := by
  have a1 := showns_len ts hg
  have a2 := sizes_le ts h
  have a3 := tupleText_le (PyData.shownAll (encs ts))
  have a4 : (PyData.tuple (encs ts)).shown.length ≤ sizeLine := by
    rw [sizeLine_eq]
    simp only [PyData.shown]
    omega
  have a5 := depth_encs ts
  have a6 := hts_le ts h
  have a7 : PyData.depth (.tuple (encs ts)) ≤ 180 := by simp only [PyData.depth]; omega
  unfold reprW
  rw [if_pos]
  simp only [Bool.and_eq_true, Bool.or_eq_true, decide_eq_true_eq]
  exact ⟨⟨⟨.inl (by simp [PyData.plain, encs_plain]), by simp [PyData.showable, showable_encs]⟩, a7⟩, a4⟩
theorem repr_lst (ts : List Tr) (h : ∀ t ∈ ts, size t ≤ 60) (hg : labsIn goods ts) (hl : ts.length ≤ 100) : reprW (.list (encs ts)) = some (.d (.str (PyData.list (encs ts)).shown)) := by
  have a1 := showns_len ts hg
  have a2 := sizes_le ts h
  have a3 := listText_le (PyData.shownAll (encs ts))
  have a4 : (PyData.list (encs ts)).shown.length ≤ sizeLine := by
    rw [sizeLine_eq]
    simp only [PyData.shown]
    omega
  have a5 := depth_encs ts
  have a6 := hts_le ts h
  have a7 : PyData.depth (.list (encs ts)) ≤ 180 := by simp only [PyData.depth]; omega
  unfold reprW
  rw [if_pos]
  simp only [Bool.and_eq_true, Bool.or_eq_true, decide_eq_true_eq]
  exact ⟨⟨⟨.inl (by simp [PyData.plain, encs_plain]), by simp [PyData.showable, showable_encs]⟩, a7⟩, a4⟩
theorem eq_str (x : Str) : eqB (.str x) (.str x) = some true := by
  simp [eqB, shal, PyData.depth, PyData.plain, PyData.eqv]
theorem eq_tups (ts : List Tr) (h : ∀ t ∈ ts, size t ≤ 170) : eqB (.tuple (encs ts)) (.tuple (encs ts)) = some true := by
  have a5 := depth_encs ts
  have a6 := hts_le ts h
  have p : (PyData.tuple (encs ts)).plain = true := by simp [PyData.plain, encs_plain]
  have e := PySem.SeqAt.eqv_refl_plain _ p
  have q : shal (.tuple (encs ts)) (.tuple (encs ts)) = true := by simp [shal, PyData.depth]; omega
  simp [eqB, q, p, e]
theorem wr_gen {c : Cd} {e e1 : Sv.Env} {h : Hd} {j : Int} (hc : c e = .ok h e1) (hr : h.rd e1 = some (.int j)) (hj : -(2 ^ 62) ≤ j ∧ j < 2 ^ 62) : wRange1 c e = .ok (rngD 0 j.toNat) e1 := by
  unfold wRange1
  rw [hc, R.bind_ok, hr]
  exact if_pos hj
theorem wr_len {i : Nat} {e : Sv.Env} {xs : List PyData} (h : slot e i = some (.l xs)) (hz : xs.length < 100000) : wRange1 (cP (cCall (one lenP) (aCons (cVar i) aNil))) e = .ok (rngD 0 xs.length) e := by
  have k := wr_gen (c := cP (cCall (one lenP) (aCons (cVar i) aNil))) (e := e) (e1 := e) (h := .v (.d (.int xs.length))) (j := (xs.length : Int)) (by simp [Sv.sNil, Sv.sCons, Sv.sPass, Sv.sBreak, Sv.sCont, Sv.sExpr, Sv.put, Sv.sSet, Sv.sRet, Sv.sRetN, Sv.sIf, Sv.cVar, Sv.cK, Sv.cE, Sv.cP, Sv.cOp, Sv.cUn, Sv.cChain, Sv.cIf, Sv.cAnd, Sv.cOr, Sv.cNot, Sv.tB, Sv.tAnd, Sv.tOr, Sv.tNot, Sv.tYes, Sv.aNil, Sv.aCons, Sv.aStar, Sv.cCall, Sv.cTup, Sv.cLst, Sv.cSl, Sv.cMeth, Sv.sSetIx, Sv.sPar2, Sv.sPar3, Sv.sAsg, Sv.sAug, Sv.hold, Sv.outF, Sv.argsB, Sv.slotsOf, Sv.back, Sv.rds, Sv.datas, Sv.gN, Sv.gT, Sv.gL, Sv.gRun, Sv.cFn, Sv.fnD, Sv.sRaise, Sv.R.bind, Sv.R.opt, Sv.R.toS, Sv.RS.seq, Sv.Hd.rd, Sv.B.rd, Sv.toP, Sv.eqP, Sv.neP, Sv.one, Sv.two, Sv.getP, Sv.lenP, Sv.addP, Sv.subP, Sv.mulP, Sv.fdivP, Sv.modP, Sv.powP, Sv.intP, Sv.absP, Sv.max2P, Sv.min2P, Sv.negP, Sv.augAdd, Sv.setD, Sv.mAppend, Sv.ltB, Sv.gtB, Sv.leB, Sv.geB, Sv.ordB, Sv.small64, Sv.isP, Sv.wSeq, Sv.wRange1, Sv.sFor, h]) rfl (by omega)
  rw [Int.toNat_natCast] at k
  exact k
theorem wr_k (n : Nat) (hz : n < 100000) (e : Sv.Env) : wRange1 (cK (.int n)) e = .ok (rngD 0 n) e := by
  have k := wr_gen (c := cK (.int n)) (e := e) (e1 := e) (h := .v (.d (.int n))) (j := (n : Int)) rfl rfl (by omega)
  rw [Int.toNat_natCast] at k
  exact k
theorem for_gen {W : Wd} {g : Gd} {b : Sd} {e e1 : Sv.Env} {r : RS} {xs : List PyData} (w : W e = .ok xs e1) (k : loopF g b xs e1 = r) : sFor W g b e = r := by
  unfold sFor
  rw [w, R.toS_ok]
  exact k
theorem wr_two (x a b o o2 : Option B) (ts us : List Tr) (n : Nat) (hn : ts.length + us.length = n) (hz : n < 100000) : wRange1 (cP (cCall (one lenP) (aCons (cVar 2) aNil))) [x, a, some (.l (encs ts ++ encs us)), b, o, o2] = .ok (rngD 0 n) [x, a, some (.l (encs ts ++ encs us)), b, o, o2] := by
  have e : (encs ts ++ encs us).length = n := by rw [List.length_append, encs_len, encs_len]; exact hn
  have k := wr_len (i := 2) (e := [x, a, some (.l (encs ts ++ encs us)), b, o, o2]) (xs := encs ts ++ encs us) rfl (by rw [e]; exact hz)
  rw [e] at k
  exact k
/-! ### steps -/
theorem seq_gen {a b : Sd} {e e1 : Sv.Env} {r : RS} (h : a e = .nx e1) (k : b e1 = r) : sCons a b e = r := by
  unfold sCons
  rw [h, seq_nx]
  exact k
theorem fn_gen {n : Nat} {io : List Nat} {c : Sd} {bs : List B} {r : B} {e : Sv.Env} (h : c (bs.map some ++ List.replicate (n - bs.length) none) = .rt r e) : fnD n io c bs = .ok r (outF io e 0 bs) := by
  unfold fnD
  rw [h]
/-! ### order_right -/
theorem or1 {W1 : Wd} {F3 : Cd} {x y : B} {xs ys rs : List PyData} {v : PyData} (w : ∀ e, W1 e = .ok rs e) (hr : rs.length ≤ sizeLine) (hz : xs.length + ys.length ≤ sizeLine)
    (k : compL [4] (gN 4) tYes F3 rs [some x, some (.l xs), none, none, none, none] = .ok ys [some y, some (.l xs), none, none, none, none]) :
    sPar2 2 3 (cOp addP (cVar 1) (cP (cComp [4] W1 (gN 4) tYes F3))) (cLst aNil) [some x, some (.l xs), none, none, none, none] = .nx [some y, some (.l xs), some (.l (xs ++ ys)), some (.l []), none, none] := by
  simp [Sv.sNil, Sv.sCons, Sv.sPass, Sv.sBreak, Sv.sCont, Sv.sExpr, Sv.put, Sv.sSet, Sv.sRet, Sv.sRetN, Sv.sIf, Sv.cVar, Sv.cK, Sv.cE, Sv.cP, Sv.cOp, Sv.cUn, Sv.cChain, Sv.cIf, Sv.cAnd, Sv.cOr, Sv.cNot, Sv.tB, Sv.tAnd, Sv.tOr, Sv.tNot, Sv.tYes, Sv.aNil, Sv.aCons, Sv.aStar, Sv.cCall, Sv.cTup, Sv.cLst, Sv.cSl, Sv.cMeth, Sv.sSetIx, Sv.sPar2, Sv.sPar3, Sv.sAsg, Sv.sAug, Sv.hold, Sv.slot, Sv.outF, Sv.argsB, Sv.slotsOf, Sv.back, Sv.rds, Sv.datas, Sv.gN, Sv.gT, Sv.gL, Sv.gRun, Sv.cFn, Sv.fnD, Sv.sRaise, Sv.R.bind, Sv.R.opt, Sv.R.toS, Sv.RS.seq, Sv.Hd.rd, Sv.B.rd, Sv.toP, Sv.eqP, Sv.neP, Sv.one, Sv.two, Sv.getP, Sv.lenP, Sv.addP, Sv.subP, Sv.mulP, Sv.fdivP, Sv.modP, Sv.powP, Sv.intP, Sv.absP, Sv.max2P, Sv.min2P, Sv.negP, Sv.augAdd, Sv.setD, Sv.mAppend, Sv.ltB, Sv.gtB, Sv.leB, Sv.geB, Sv.ordB, Sv.small64, Sv.isP, Sv.wSeq, Sv.sFor, w, cComp, wipeE, restE, hr, hz, k]
theorem or3 {F1 : Fn} {x ts : B} {q : Option B} {ws ss : List PyData} {o : Option B} (s : F1 [.d (.tuple ws)] = .ok (.d (.tuple ss)) [o]) :
    sSet 5 (cFn F1 (aCons (cP (cCall (one tupleP) (aCons (cVar 3) aNil))) aNil)) [some x, some ts, some (.l []), some (.l ws), q, none] = .nx [some x, some ts, some (.l []), some (.l ws), q, some (.d (.tuple ss))] := by
  simp [Sv.sNil, Sv.sCons, Sv.sPass, Sv.sBreak, Sv.sCont, Sv.sExpr, Sv.put, Sv.sSet, Sv.sRet, Sv.sRetN, Sv.sIf, Sv.cVar, Sv.cK, Sv.cE, Sv.cP, Sv.cOp, Sv.cUn, Sv.cChain, Sv.cIf, Sv.cAnd, Sv.cOr, Sv.cNot, Sv.tB, Sv.tAnd, Sv.tOr, Sv.tNot, Sv.tYes, Sv.aNil, Sv.aCons, Sv.aStar, Sv.cCall, Sv.cTup, Sv.cLst, Sv.cSl, Sv.cMeth, Sv.sSetIx, Sv.sPar2, Sv.sPar3, Sv.sAsg, Sv.sAug, Sv.hold, Sv.slot, Sv.outF, Sv.argsB, Sv.slotsOf, Sv.back, Sv.rds, Sv.datas, Sv.gN, Sv.gT, Sv.gL, Sv.gRun, Sv.cFn, Sv.fnD, Sv.sRaise, Sv.R.bind, Sv.R.opt, Sv.R.toS, Sv.RS.seq, Sv.Hd.rd, Sv.B.rd, Sv.toP, Sv.eqP, Sv.neP, Sv.one, Sv.two, Sv.getP, Sv.lenP, Sv.addP, Sv.subP, Sv.mulP, Sv.fdivP, Sv.modP, Sv.powP, Sv.intP, Sv.absP, Sv.max2P, Sv.min2P, Sv.negP, Sv.augAdd, Sv.setD, Sv.mAppend, Sv.ltB, Sv.gtB, Sv.leB, Sv.geB, Sv.ordB, Sv.small64, Sv.isP, Sv.wSeq, Sv.wRange1, Sv.sFor, tupleP, s]
theorem or4 {F1 F2 : Fn} {F5 : PyData → Option B} {F6 : Str} {x : B} {q : Option B} {ts ws ss : List PyData} {o : Option B} (s2 : F1 [.d (.tuple ss)] = .ok (.d (.tuple ss)) [o]) (s3 : F2 [.l ts] = .ok (.l ss) [some (.d (.list ts))])
    (r1 : F5 (.tuple ss) = some (.d (.str F6))) (e1 : eqB (.tuple ss) (.tuple ss) = some true) :
    sRet (cAnd (cP (cOp eqP (cP (cCall (one F5) (aCons (cVar 5) aNil))) (cP (cCall (one F5) (aCons (cP (cCall (one tupleP) (aCons (cP (cFn F2 (aCons (cVar 1) aNil))) aNil))) aNil))))) (cOp eqP (cP (cFn F1 (aCons (cVar 5) aNil))) (cVar 5)))
      [some x, some (.l ts), some (.l []), some (.l ws), q, some (.d (.tuple ss))] = .rt (.d (.bool true)) [some x, some (.d (.list ts)), some (.l []), some (.l ws), q, some (.d (.tuple ss))] := by
  simp [Sv.sNil, Sv.sCons, Sv.sPass, Sv.sBreak, Sv.sCont, Sv.sExpr, Sv.put, Sv.sSet, Sv.sRet, Sv.sRetN, Sv.sIf, Sv.cVar, Sv.cK, Sv.cE, Sv.cP, Sv.cOp, Sv.cUn, Sv.cChain, Sv.cIf, Sv.cAnd, Sv.cOr, Sv.cNot, Sv.tB, Sv.tAnd, Sv.tOr, Sv.tNot, Sv.tYes, Sv.aNil, Sv.aCons, Sv.aStar, Sv.cCall, Sv.cTup, Sv.cLst, Sv.cSl, Sv.cMeth, Sv.sSetIx, Sv.sPar2, Sv.sPar3, Sv.sAsg, Sv.sAug, Sv.hold, Sv.slot, Sv.outF, Sv.argsB, Sv.slotsOf, Sv.back, Sv.rds, Sv.datas, Sv.gN, Sv.gT, Sv.gL, Sv.gRun, Sv.cFn, Sv.fnD, Sv.sRaise, Sv.R.bind, Sv.R.opt, Sv.R.toS, Sv.RS.seq, Sv.Hd.rd, Sv.B.rd, Sv.toP, Sv.eqP, Sv.neP, Sv.one, Sv.two, Sv.getP, Sv.lenP, Sv.addP, Sv.subP, Sv.mulP, Sv.fdivP, Sv.modP, Sv.powP, Sv.intP, Sv.absP, Sv.max2P, Sv.min2P, Sv.negP, Sv.augAdd, Sv.setD, Sv.mAppend, Sv.ltB, Sv.gtB, Sv.leB, Sv.geB, Sv.ordB, Sv.small64, Sv.isP, Sv.wSeq, Sv.wRange1, Sv.sFor, tupleP, s2, s3, r1, e1, eq_str]
theorem order_spec {x : B} (hx : Tap x) (ts : List Tr) (h : ∀ t ∈ ts, size t ≤ 60) (hg : labsIn goods ts) (h0 : 0 < ts.length) (hl : ts.length ≤ 20) : ∃ y, Tap y ∧ d_order_right [x, .l (encs ts)] = .ok (.d (.bool true)) [some y, some (.d (.list (encs ts)))] := by
  obtain ⟨us, y, hy, u1, u2, k1⟩ := picks_loop ts h0 (by omega) (fun i => .int (0 + (i : Nat))) 3 0 x hx
  obtain ⟨y', ws, q', hy', m1, m2, k2⟩ := mix_loop (.l (encs ts)) (fun i => .int (0 + (i : Nat))) none (ts.length + 3) 0 y (ts ++ us) [] none hy (by rw [List.length_append, u1]) (by rw [List.length_nil]; omega)
  have hw : ∀ t, t ∈ ws ↔ t ∈ ts := fun t => by
    rw [m1]
    simp only [List.not_mem_nil, false_or, List.mem_append]
    constructor
    · rintro (h | h)
      · exact h
      · exact u2 t h
    · exact .inl
  have es : srt ws = srt ts := srt_ext hw
  have w1 : ∀ t ∈ ws, size t ≤ 170 := fun t ht => by have := h t ((hw t).mp ht); omega
  have w2 : ∀ t ∈ ws, labIn goods t := fun t ht => labsIn_mem.mp hg t ((hw t).mp ht)
  have s0 : ∀ t, t ∈ srt ts ↔ t ∈ ts := srt_mem ts
  have s1 := sorted_docs_spec ws w1 w2 (by rw [m2, List.length_nil]; omega)
  rw [es] at s1
  have s2 := sorted_docs_spec (srt ts) (fun t ht => by have := h t ((s0 t).mp ht); omega) (fun t ht => labsIn_mem.mp hg t ((s0 t).mp ht)) (by have := srt_len ts; omega)
  rw [srt_srt] at s2
  have s3 := sorted_spec ts h (by omega)
  have r1 := repr_tup (srt ts) (fun t ht => h t ((s0 t).mp ht)) (labsIn_mem.mpr fun t ht => labsIn_mem.mp hg t ((s0 t).mp ht)) (by have := srt_len ts; omega)
  have e1 := eq_tups (srt ts) (fun t ht => by have := h t ((s0 t).mp ht); omega)
  have z2 : (encs ts).length + (encs us).length ≤ sizeLine := by rw [encs_len, encs_len, u1, sizeLine_eq]; omega
  have v2 := wr_two (some y) (some (.l (encs ts))) (some (.l [])) none none ts us (ts.length + 3) (by rw [u1]) (by omega)
  rw [encs_app] at k2
  rw [← List.range_eq_range'] at k1 k2
  have z5 : (rngD 0 3).length ≤ sizeLine := by rw [rngD, List.length_map, List.length_range, sizeLine_eq]; decide
  have st1 := or1 (W1 := wRange1 (cK (.int 3))) (v := .none) (wr_k 3 (by decide)) z5 z2 k1
  have st2 := for_gen v2 k2
  have st3 := or3 (x := y') (ts := .l (encs ts)) (q := q') s1
  have st4 := or4 (x := y') (q := q') (ws := encs ws) s2 s3 r1 e1
  exact ⟨y', hy', fn_gen (io := [0, 1]) (seq_gen st1 (seq_gen st2 (seq_gen st3 st4)))⟩
end K02
end
section
set_option autoImplicit false
set_option linter.all false
set_option maxRecDepth 100000
namespace K02
open PySem Sv

/-! ### places -/
mutual
theorem spots_cat : ∀ (t : Tr) (p : List Nat), p ∈ spots t → ∃ u, cat t p = some u
  | .nd l cs, p, h => by
    rw [spots] at h
    rcases List.mem_cons.mp h with e | h
    · subst e; exact ⟨_, rfl⟩
    · obtain ⟨i, q, c, u, rfl, hc, hu⟩ := spotsAt_cat 0 cs p h
      rw [Nat.sub_zero] at hc
      exact ⟨u, by rw [cat, hc]; exact hu⟩
theorem spotsAt_cat : ∀ (k : Nat) (cs : List Tr) (p : List Nat), p ∈ spotsAt k cs → ∃ i q c u, p = i :: q ∧ cs[i - k]? = some c ∧ cat c q = some u
  | k, [], p, h => by cases h
  | k, c :: r, p, h => by
    rw [spotsAt] at h
    rcases List.mem_append.mp h with h | h
    · obtain ⟨q, hq, rfl⟩ := List.mem_map.mp h
      obtain ⟨u, hu⟩ := spots_cat c q hq
      exact ⟨k, q, c, u, rfl, by simp, hu⟩
    · obtain ⟨i, q, c', u, rfl, hc, hu⟩ := spotsAt_cat (k + 1) r p h
      have hk : k + 1 ≤ i := spotsAt_ge (k + 1) r _ h i q rfl
      refine ⟨i, q, c', u, rfl, ?_, hu⟩
      rw [show i - k = (i - (k + 1)) + 1 by omega, List.getElem?_cons_succ]
      exact hc
theorem spotsAt_ge : ∀ (k : Nat) (cs : List Tr) (p : List Nat), p ∈ spotsAt k cs → ∀ i q, p = i :: q → k ≤ i
  | k, [], p, h, i, q, e => by cases h
  | k, c :: r, p, h, i, q, e => by
    rw [spotsAt] at h
    rcases List.mem_append.mp h with h | h
    · obtain ⟨q', hq, e'⟩ := List.mem_map.mp h
      rw [e] at e'
      cases e'
      exact Nat.le_refl _
    · have := spotsAt_ge (k + 1) r p h i q e
      omega
end
theorem spotsAt_ne : ∀ (k : Nat) (cs : List Tr) (p : List Nat), p ∈ spotsAt k cs → p ≠ []
  | k, [], p, h => by cases h
  | k, c :: r, p, h => by
    rw [spotsAt] at h
    rcases List.mem_append.mp h with h | h
    · obtain ⟨q', hq, e'⟩ := List.mem_map.mp h
      rw [← e']
      exact List.cons_ne_nil _ _
    · exact spotsAt_ne (k + 1) r p h
theorem cat_snoc : ∀ (p : List Nat) (i : Nat) (t c : Tr), cat t (p ++ [i]) = some c → ∃ l cs, cat t p = some (.nd l cs) ∧ cs[i]? = some c
  | [], i, .nd l cs, c, h => by
    rw [List.nil_append, cat] at h
    cases hc : cs[i]? with
    | none => rw [hc] at h; cases h
    | some c' => rw [hc] at h; cases h; exact ⟨l, cs, rfl, hc⟩
  | j :: p, i, .nd l cs, c, h => by
    rw [List.cons_append, cat] at h
    rw [cat]
    cases hc : cs[j]? with
    | none => rw [hc] at h; cases h
    | some c' =>
      rw [hc] at h
      exact cat_snoc p i c' c h
theorem snoc_cat : ∀ (p : List Nat) (i : Nat) (t c : Tr) (l : Str) (cs : List Tr), cat t p = some (.nd l cs) → cs[i]? = some c → cat t (p ++ [i]) = some c
  | [], i, t, c, l, cs, h, hc => by
    cases h
    rw [List.nil_append, cat, hc]
    rfl
  | j :: p, i, .nd m ds, c, l, cs, h, hc => by
    rw [List.cons_append, cat]
    rw [cat] at h
    cases hd : ds[j]? with
    | none => rw [hd] at h; cases h
    | some c' =>
      rw [hd] at h
      exact snoc_cat p i c' c l cs h hc
theorem cat_size : ∀ (p : List Nat) (t u : Tr), cat t p = some u → size u ≤ size t
  | [], t, u, h => by cases h; exact Nat.le_refl _
  | i :: p, .nd l cs, u, h => by
    rw [cat] at h
    cases hc : cs[i]? with
    | none => rw [hc] at h; cases h
    | some c =>
      rw [hc] at h
      have := cat_size p c u h
      have := sizes_mem (List.mem_of_getElem? hc)
      rw [size]
      omega
theorem less_more (l : Str) (cs : List Tr) (i : Nat) (x : Tr) (h : i ≤ cs.length) : less l (cs.take i ++ x :: cs.drop i) i = .nd l cs := by
  rw [less]
  congr 1
  have e : (cs.take i).length = i := by rw [List.length_take]; omega
  rw [List.take_append_of_le_length (by omega), List.take_take, Nat.min_self]
  have : List.drop (i + 1) (cs.take i ++ x :: cs.drop i) = cs.drop i := by
    rw [List.drop_append, e, List.drop_of_length_le (by omega)]
    simp
  rw [this, List.take_append_drop]
theorem size_more (l : Str) (cs : List Tr) (i : Nat) (x : Tr) : size (more l cs i x) = size (.nd l cs) + size x := by
  rw [more, size, size, sizes_app, sizes]
  have : sizes (cs.take i) + sizes (cs.drop i) = sizes cs := by rw [← sizes_app, List.take_append_drop]
  omega
theorem lab_more {labs : List Str} {l : Str} {cs : List Tr} {i : Nat} {x : Tr} (h : labIn labs (.nd l cs)) (hx : labIn labs x) : labIn labs (more l cs i x) := by
  rw [more, labIn]
  rw [labIn] at h
  refine ⟨h.1, labsIn_mem.mpr fun y hy => ?_⟩
  rcases List.mem_append.mp hy with hy | hy
  · exact labsIn_mem.mp h.2 y (List.mem_of_mem_take hy)
  · rcases List.mem_cons.mp hy with e | hy
    · subst e; exact hx
    · exact labsIn_mem.mp h.2 y (List.mem_of_mem_drop hy)
/-! ### made_right: its two loops -/
theorem ifne {A B : Cd} {S : Sd} {e e1 e2 : Sv.Env} {x y : PyData} (ha : A e = .ok (.v (.d x)) e1) (hb : B e1 = .ok (.v (.d y)) e2) (h : eqB x y = some true) : sIf (Sv.tB (cOp neP A B)) S sNil e = .nx e2 := by
  simp [Sv.sIf, Sv.tB, cOp, Sv.sNil, R.bind, R.toS, ha, hb, neP, h, Hd.rd, Sv.B.rd, R.opt]
theorem ifne2 {A B A' B' : Cd} {S : Sd} {e e1 e2 e3 e4 : Sv.Env} {x y x' y' : PyData} (ha : A e = .ok (.v (.d x)) e1) (hb : B e1 = .ok (.v (.d y)) e2) (h : eqB x y = some true)
    (ha' : A' e2 = .ok (.v (.d x')) e3) (hb' : B' e3 = .ok (.v (.d y')) e4) (h' : eqB x' y' = some true) : sIf (Sv.tOr (Sv.tB (cOp neP A B)) (Sv.tB (cOp neP A' B'))) S sNil e = .nx e4 := by
  simp [Sv.sIf, Sv.tOr, Sv.tB, cOp, Sv.sNil, R.bind, R.toS, ha, hb, ha', hb', neP, h, h', Hd.rd, Sv.B.rd, R.opt]
theorem eq_encT (a : Tr) (h : size a ≤ 190) : eqB (enc a) (enc a) = some true := by rw [eq_enc a a h]; simp
theorem mr0_step {F G : Fn} {s0 s1 s2 s3 s5 s6 s7 s8 s9 s10 s11 : Option B} {a p : PyData} {u : Tr} (hu : size u ≤ 190) {o1 o2 o3 o4 : Option B} (h1 : F [.d a, .d p] = .ok (.d (enc u)) [o1, o2]) (h2 : G [.d a, .d p] = .ok (.d (enc u)) [o3, o4]) :
    sIf (Sv.tB (cOp neP (cP (cFn F (aCons (cVar 4) (aCons (cVar 12) aNil)))) (cP (cFn G (aCons (cVar 4) (aCons (cVar 12) aNil)))))) (sRet (cK (.bool false))) sNil [s0, s1, s2, s3, some (.d a), s5, s6, s7, s8, s9, s10, s11, some (.d p)]
      = .nx [s0, s1, s2, s3, some (.d a), s5, s6, s7, s8, s9, s10, s11, some (.d p)] := by
  have e := eq_encT u hu
  simp [Sv.sNil, Sv.sCons, Sv.sPass, Sv.sBreak, Sv.sCont, Sv.sExpr, Sv.put, Sv.sSet, Sv.sRet, Sv.sRetN, Sv.sIf, Sv.cVar, Sv.cK, Sv.cE, Sv.cP, Sv.cOp, Sv.cUn, Sv.cChain, Sv.cIf, Sv.cAnd, Sv.cOr, Sv.cNot, Sv.tB, Sv.tAnd, Sv.tOr, Sv.tNot, Sv.tYes, Sv.aNil, Sv.aCons, Sv.aStar, Sv.cCall, Sv.cTup, Sv.cLst, Sv.cSl, Sv.cMeth, Sv.sSetIx, Sv.sPar2, Sv.sPar3, Sv.sAsg, Sv.sAug, Sv.hold, Sv.slot, Sv.outF, Sv.argsB, Sv.slotsOf, Sv.back, Sv.rds, Sv.datas, Sv.gN, Sv.gT, Sv.gL, Sv.gRun, Sv.cFn, Sv.fnD, Sv.sRaise, Sv.R.bind, Sv.R.opt, Sv.R.toS, Sv.RS.seq, Sv.Hd.rd, Sv.B.rd, Sv.toP, Sv.eqP, Sv.neP, Sv.one, Sv.two, Sv.getP, Sv.lenP, Sv.addP, Sv.subP, Sv.mulP, Sv.fdivP, Sv.modP, Sv.powP, Sv.intP, Sv.absP, Sv.max2P, Sv.min2P, Sv.negP, Sv.augAdd, Sv.setD, Sv.mAppend, Sv.ltB, Sv.gtB, Sv.leB, Sv.geB, Sv.ordB, Sv.small64, Sv.isP, Sv.wSeq, Sv.wRange1, Sv.sFor, h1, h2, e]
theorem mr0_loop (one : Tr) (hz : size one ≤ 30) (hl : labIn goods one) (s0 s1 s2 s3 s5 s6 s7 s8 s9 s10 s11 : Option B) : ∀ (qs : List (List Nat)) (o : Option B), (∀ q ∈ qs, q ≠ [] ∧ q.length ≤ 30 ∧ ∃ u, cat one q = some u) → ∃ o',
    loopF (gN 12) fb_made_right_0 (qs.map encP) [s0, s1, s2, s3, some (.d (enc one)), s5, s6, s7, s8, s9, s10, s11, o] = .nx [s0, s1, s2, s3, some (.d (enc one)), s5, s6, s7, s8, s9, s10, s11, o']
  | [], o, _ => ⟨o, rfl⟩
  | q :: qs, o, h => by
    obtain ⟨hne, hlen, c, hc⟩ := h q List.mem_cons_self
    obtain ⟨o', k⟩ := mr0_loop one hz hl s0 s1 s2 s3 s5 s6 s7 s8 s9 s10 s11 qs (some (.d (encP q))) fun x hx => h x (List.mem_cons_of_mem _ hx)
    refine ⟨o', ?_⟩
    rcases List.eq_nil_or_concat q with e | ⟨p, i, e⟩
    · exact absurd e hne
    · rw [List.concat_eq_append] at e
      subst e
      obtain ⟨l, cs, h1, h2⟩ := cat_snoc p i one c hc
      have hi := (List.getElem?_eq_some_iff.mp h2).1
      obtain ⟨u, hu⟩ := rep_of_cat p one (.nd l cs) (less l cs i) h1
      have hsz := cat_size p one _ h1
      rw [size] at hsz
      have hls := len_sizes cs
      rw [List.length_append, List.length_singleton] at hlen
      have hzu := rep_size p one u (less l cs i) (.nd l cs) hu h1
      have hles : size (less l cs i) ≤ size (.nd l cs) := by
        rw [less, size, size, sizes_app]
        have : sizes (cs.take i) + sizes (cs.drop i) = sizes cs := by rw [← sizes_app, List.take_append_drop]
        have h3 : sizes (cs.drop (i + 1)) ≤ sizes (cs.drop i) := by
          rw [List.drop_eq_getElem_cons hi, sizes]; omega
        omega
      obtain ⟨o1, o2, k1⟩ := without_spec one u p i l cs c h1 hi hc hu (by omega) (by omega) (by omega) hl
      obtain ⟨o3, o4, k2⟩ := cut_spec one u p i l cs h1 hi hu (by omega) (by omega) (by omega)
      have st := mr0_step (s0 := s0) (s1 := s1) (s2 := s2) (s3 := s3) (s5 := s5) (s6 := s6) (s7 := s7) (s8 := s8) (s9 := s9) (s10 := s10) (s11 := s11) (by omega) k1 k2
      rw [List.map_cons, loopF]
      simp only [gN, RS.seq, List.set_cons_succ, List.set_cons_zero]
      rw [show fb_made_right_0 = sIf (Sv.tB (cOp neP (cP (cFn d_without_node (aCons (cVar 4) (aCons (cVar 12) aNil)))) (cP (cFn d_cut (aCons (cVar 4) (aCons (cVar 12) aNil)))))) (sRet (cK (.bool false))) sNil from rfl] at k ⊢
      rw [st]
      exact k
end K02
end
section
set_option autoImplicit false
set_option linter.all false
set_option maxRecDepth 100000
namespace K02
open PySem Sv

theorem mr1_step {P W N : Fn} {s0 s1 s2 s3 s6 s7 s11 s12 : Option B} {a b : PyData} {l : Str} {cs : List Tr} {p : List Nat} {i : Nat} {two u one : Tr} {o1 o2 o3 o4 o5 o6 o7 o8 o9 : Option B} (hi : i ≤ cs.length) (hcs : cs.length ≤ 1000) (hp : p.length ≤ 1000) (hu : size u ≤ 190) (ho : size one ≤ 190)
    (h1 : P [.d (enc one), .d (encP p), .d (enc (more l cs i two))] = .ok (.d (enc u)) [o1, o2, o3]) (h2 : W [.d (enc one), .d (encP p), .d (.int i), .d (enc two)] = .ok (.d (enc u)) [o4, o5, o6, o7]) (h3 : N [.d (enc u), .d (encP (p ++ [i]))] = .ok (.d (enc one)) [o8, o9]) :
    (sCons (sSet 11 (cFn P (aCons (cVar 4) (aCons (cVar 8) (aCons (cP (cOp addP (cP (cOp addP (cP (cSl slP (cVar 9) none (some (cP (cOp addP (cVar 10) (cK (.int 1))))))) (cP (cTup (aCons (cE (cVar 5)) aNil))))) (cP (cSl slP (cVar 9) (some (cP (cOp addP (cVar 10) (cK (.int 1))))) none)))) aNil)))))
    (sIf (Sv.tOr (Sv.tB (cOp neP (cP (cFn W (aCons (cVar 4) (aCons (cVar 8) (aCons (cVar 10) (aCons (cVar 5) aNil)))))) (cVar 11))) (Sv.tB (cOp neP (cP (cFn N (aCons (cVar 11) (aCons (cP (cOp addP (cVar 8) (cP (cTup (aCons (cE (cVar 10)) aNil))))) aNil)))) (cVar 4)))) (sRet (cK (.bool false))) sNil))
      [s0, s1, s2, s3, some (.d (enc one)), some (.d (enc two)), s6, s7, some (.d (encP p)), some (.d (enc (.nd l cs))), some (.d (.int i)), s11, s12]
      = .nx [s0, s1, s2, s3, some (.d (enc one)), some (.d (enc two)), s6, s7, some (.d (encP p)), some (.d (enc (.nd l cs))), some (.d (.int i)), some (.d (enc u)), s12] := by
  have hle : (encs cs).length = cs.length := encs_len cs
  have c1 := cut_to (PyData.str l) (encs cs) i (by omega)
  have c2 := cut_from (PyData.str l) (encs cs) i (by omega)
  have z0 : 1 ≤ sizeLine := by rw [sizeLine_eq]; decide
  have z1 : i + 1 + 1 ≤ sizeLine := by rw [sizeLine_eq]; omega
  have z2 : min i cs.length = i := by omega
  have z3 : i + (1 + (cs.length - i)) + 1 ≤ sizeLine := by rw [sizeLine_eq]; omega
  have z4 : i + 1 + 1 + (cs.length - i) ≤ sizeLine := by rw [sizeLine_eq]; omega
  have z5 : p.length + 1 ≤ sizeLine := by rw [sizeLine_eq]; omega
  have e1 := eq_encT u hu
  have e2 := eq_encT one ho
  rw [encP_app] at h3
  rw [enc_more] at h1
  simp only [encP] at h1 h2 h3 ⊢
  rw [enc]
  generalize enc one = E1 at *
  generalize enc u = E2 at *
  simp [Sv.sNil, Sv.sCons, Sv.sPass, Sv.sBreak, Sv.sCont, Sv.sExpr, Sv.put, Sv.sSet, Sv.sRet, Sv.sRetN, Sv.sIf, Sv.cVar, Sv.cK, Sv.cE, Sv.cP, Sv.cOp, Sv.cUn, Sv.cChain, Sv.cIf, Sv.cAnd, Sv.cOr, Sv.cNot, Sv.tB, Sv.tAnd, Sv.tOr, Sv.tNot, Sv.tYes, Sv.aNil, Sv.aCons, Sv.aStar, Sv.cCall, Sv.cTup, Sv.cLst, Sv.cSl, Sv.cMeth, Sv.sSetIx, Sv.sPar2, Sv.sPar3, Sv.sAsg, Sv.sAug, Sv.hold, Sv.slot, Sv.outF, Sv.argsB, Sv.slotsOf, Sv.back, Sv.rds, Sv.datas, Sv.gN, Sv.gT, Sv.gL, Sv.gRun, Sv.cFn, Sv.fnD, Sv.sRaise, Sv.R.bind, Sv.R.opt, Sv.R.toS, Sv.RS.seq, Sv.Hd.rd, Sv.B.rd, Sv.toP, Sv.eqP, Sv.neP, Sv.one, Sv.two, Sv.getP, Sv.lenP, Sv.addP, Sv.subP, Sv.mulP, Sv.fdivP, Sv.modP, Sv.powP, Sv.intP, Sv.absP, Sv.max2P, Sv.min2P, Sv.negP, Sv.augAdd, Sv.setD, Sv.mAppend, Sv.ltB, Sv.gtB, Sv.leB, Sv.geB, Sv.ordB, Sv.small64, Sv.isP, Sv.wSeq, Sv.wRange1, Sv.sFor, slP, c1, c2, hle, z0, z1, z2, z3, z4, z5, h1, h2, h3, e1, e2]
theorem mr1_loop (one two : Tr) (hz : size one ≤ 30) (hz2 : size two ≤ 30) (hl : labIn goods one) (hl2 : labIn goods two) (p : List Nat) (l : Str) (cs : List Tr) (hp : p.length ≤ 30) (hc : cat one p = some (.nd l cs)) (s0 s1 s2 s3 s6 s7 s12 : Option B) : ∀ (n k : Nat) (s10 s11 : Option B), k + n = cs.length + 1 → ∃ s10' s11',
    loopF (gN 10) fb_made_right_1 ((List.range' k n).map fun i => .int (0 + (i : Nat))) [s0, s1, s2, s3, some (.d (enc one)), some (.d (enc two)), s6, s7, some (.d (encP p)), some (.d (enc (.nd l cs))), s10, s11, s12] = .nx [s0, s1, s2, s3, some (.d (enc one)), some (.d (enc two)), s6, s7, some (.d (encP p)), some (.d (enc (.nd l cs))), s10', s11', s12]
  | 0, k, s10, s11, _ => ⟨s10, s11, rfl⟩
  | n + 1, i, s10, s11, hk => by
    have hi : i ≤ cs.length := by omega
    have hsz := cat_size p one _ hc
    have hcs := len_sizes cs
    have hsz' := hsz
    rw [size] at hsz'
    obtain ⟨u, hu⟩ := rep_of_cat p one (.nd l cs) (more l cs i two) hc
    have su := rep_size p one u (more l cs i two) (.nd l cs) hu hc
    have sm := size_more l cs i two
    have hlu : labIn goods u := rep_lab goods p one u _ hu hl (lab_more (cat_lab goods p one _ hc hl) hl2)
    have cu : cat u p = some (.nd l (cs.take i ++ two :: cs.drop i)) := cat_rep p one u _ hu
    have el : (cs.take i).length = i := by rw [List.length_take]; omega
    have g1 : (cs.take i ++ two :: cs.drop i)[i]? = some two := by rw [List.getElem?_append_right (by omega), el]; simp
    have cu2 := snoc_cat p i u two l _ cu g1
    have ll : (cs.take i ++ two :: cs.drop i).length = cs.length + 1 := by simp; omega
    have r1 : rep u p (less l (cs.take i ++ two :: cs.drop i) i) = some one := by
      rw [less_more l cs i two hi]
      exact rep_rep p one u _ _ hu hc
    obtain ⟨a1, a2, a3, k1⟩ := put_spec 40 p one u (more l cs i two) (by omega) (by omega) hu
    obtain ⟨b1, b2, b3, b4, k2⟩ := with_spec one u two p i l cs hc hi hu (by omega) (by omega) (by omega) (by omega) (by omega) hl hl2
    obtain ⟨d1, d2, k3⟩ := without_spec u one p i l _ two cu (by omega) cu2 r1 (by omega) (by omega) (by omega) hlu
    have st := mr1_step (s0 := s0) (s1 := s1) (s2 := s2) (s3 := s3) (s6 := s6) (s7 := s7) (s11 := s11) (s12 := s12) (a := .none) (b := .none) hi (by omega) (by omega) (by omega) (by omega) k1 k2 k3
    obtain ⟨t10, t11, k⟩ := mr1_loop one two hz hz2 hl hl2 p l cs hp hc s0 s1 s2 s3 s6 s7 s12 n (i + 1) (some (.d (.int i))) (some (.d (enc u))) (by omega)
    refine ⟨t10, t11, ?_⟩
    have e0 : (0 : Int) + (i : Nat) = (i : Nat) := by omega
    rw [List.range'_succ, List.map_cons, loopF, e0]
    simp only [gN, RS.seq, List.set_cons_succ, List.set_cons_zero]
    rw [show fb_made_right_1 [s0, s1, s2, s3, some (.d (enc one)), some (.d (enc two)), s6, s7, some (.d (encP p)), some (.d (enc (.nd l cs))), some (.d (.int i)), s11, s12] = _ from st]
    exact k
end K02
end
section
set_option autoImplicit false
set_option linter.all false
set_option maxRecDepth 100000
namespace K02
open PySem Sv

section
variable {s0 s1 s2 s3 s4 s5 s6 s7 s8 s9 s10 s11 s12 : Option B}
theorem ma1 {F : Fn} {xs ys : List PyData} {labs : PyData} {v : PyData} {o : Option B} (h : F [.l xs, .d labs] = .ok (.d v) [some (.l ys), o]) :
    sSet 3 (cFn F (aCons (cVar 0) (aCons (cVar 1) aNil))) [some (.l xs), some (.d labs), s2, s3, s4, s5, s6, s7, s8, s9, s10, s11, s12] = .nx [some (.l ys), some (.d labs), s2, some (.d v), s4, s5, s6, s7, s8, s9, s10, s11, s12] := by
  simp [Sv.sNil, Sv.sCons, Sv.sPass, Sv.sBreak, Sv.sCont, Sv.sExpr, Sv.put, Sv.sSet, Sv.sRet, Sv.sRetN, Sv.sIf, Sv.cVar, Sv.cK, Sv.cE, Sv.cP, Sv.cOp, Sv.cUn, Sv.cChain, Sv.cIf, Sv.cAnd, Sv.cOr, Sv.cNot, Sv.tB, Sv.tAnd, Sv.tOr, Sv.tNot, Sv.tYes, Sv.aNil, Sv.aCons, Sv.aStar, Sv.cCall, Sv.cTup, Sv.cLst, Sv.cSl, Sv.cMeth, Sv.sSetIx, Sv.sPar2, Sv.sPar3, Sv.sAsg, Sv.sAug, Sv.hold, Sv.slot, Sv.outF, Sv.argsB, Sv.slotsOf, Sv.back, Sv.rds, Sv.datas, Sv.gN, Sv.gT, Sv.gL, Sv.gRun, Sv.cFn, Sv.fnD, Sv.sRaise, Sv.R.bind, Sv.R.opt, Sv.R.toS, Sv.RS.seq, Sv.Hd.rd, Sv.B.rd, Sv.toP, Sv.eqP, Sv.neP, Sv.one, Sv.two, Sv.getP, Sv.lenP, Sv.addP, Sv.subP, Sv.mulP, Sv.fdivP, Sv.modP, Sv.powP, Sv.intP, Sv.absP, Sv.max2P, Sv.min2P, Sv.negP, Sv.augAdd, Sv.setD, Sv.mAppend, Sv.ltB, Sv.gtB, Sv.leB, Sv.geB, Sv.ordB, Sv.small64, Sv.isP, Sv.wSeq, Sv.wRange1, Sv.sFor, h]
theorem ma2 {F G : Fn} {l : Str} {o o1 o2 : Option B} (h : F [.d (.str l)] = .ok (.d (enc (.nd l []))) [o]) (h2 : G [.d (.str l), .d (.tuple [])] = .ok (.d (enc (.nd l []))) [o1, o2]) :
    sIf (Sv.tOr (Sv.tB (cOp neP (cP (cFn F (aCons (cVar 3) aNil))) (cP (cTup (aCons (cE (cVar 3)) aNil))))) (Sv.tB (cOp neP (cP (cFn G (aCons (cVar 3) (aCons (cP (cTup aNil)) aNil)))) (cP (cTup (aCons (cE (cVar 3)) aNil)))))) (sRet (cK (.bool false))) sNil
      [s0, s1, s2, some (.d (.str l)), s4, s5, s6, s7, s8, s9, s10, s11, s12] = .nx [s0, s1, s2, some (.d (.str l)), s4, s5, s6, s7, s8, s9, s10, s11, s12] := by
  have z0 : 1 ≤ sizeLine := by rw [sizeLine_eq]; decide
  have e := eq_encT (.nd l []) (by simp [size, sizes])
  simp only [enc, encs] at h h2 e
  simp [Sv.sNil, Sv.sCons, Sv.sPass, Sv.sBreak, Sv.sCont, Sv.sExpr, Sv.put, Sv.sSet, Sv.sRet, Sv.sRetN, Sv.sIf, Sv.cVar, Sv.cK, Sv.cE, Sv.cP, Sv.cOp, Sv.cUn, Sv.cChain, Sv.cIf, Sv.cAnd, Sv.cOr, Sv.cNot, Sv.tB, Sv.tAnd, Sv.tOr, Sv.tNot, Sv.tYes, Sv.aNil, Sv.aCons, Sv.aStar, Sv.cCall, Sv.cTup, Sv.cLst, Sv.cSl, Sv.cMeth, Sv.sSetIx, Sv.sPar2, Sv.sPar3, Sv.sAsg, Sv.sAug, Sv.hold, Sv.slot, Sv.outF, Sv.argsB, Sv.slotsOf, Sv.back, Sv.rds, Sv.datas, Sv.gN, Sv.gT, Sv.gL, Sv.gRun, Sv.cFn, Sv.fnD, Sv.sRaise, Sv.R.bind, Sv.R.opt, Sv.R.toS, Sv.RS.seq, Sv.Hd.rd, Sv.B.rd, Sv.toP, Sv.eqP, Sv.neP, Sv.one, Sv.two, Sv.getP, Sv.lenP, Sv.addP, Sv.subP, Sv.mulP, Sv.fdivP, Sv.modP, Sv.powP, Sv.intP, Sv.absP, Sv.max2P, Sv.min2P, Sv.negP, Sv.augAdd, Sv.setD, Sv.mAppend, Sv.ltB, Sv.gtB, Sv.leB, Sv.geB, Sv.ordB, Sv.small64, Sv.isP, Sv.wSeq, Sv.wRange1, Sv.sFor, h, h2, z0, e]
theorem ma3 {a b c : PyData} {r : List PyData} :
    sPar3 4 5 6 (cOp getP (cVar 2) (cK (.int 0))) (cOp getP (cVar 2) (cK (.int 1))) (cOp getP (cVar 2) (cK (.int 2))) [s0, s1, some (.l (a :: b :: c :: r)), s3, s4, s5, s6, s7, s8, s9, s10, s11, s12]
      = .nx [s0, s1, some (.l (a :: b :: c :: r)), s3, some (.d a), some (.d b), some (.d c), s7, s8, s9, s10, s11, s12] := by
  have a0 : L2.atI (a :: b :: c :: r) 0 = some a := atI_nat _ 0 _ rfl
  have a1 : L2.atI (a :: b :: c :: r) 1 = some b := atI_nat _ 1 _ rfl
  have a2 : L2.atI (a :: b :: c :: r) 2 = some c := atI_nat _ 2 _ rfl
  simp [Sv.sNil, Sv.sCons, Sv.sPass, Sv.sBreak, Sv.sCont, Sv.sExpr, Sv.put, Sv.sSet, Sv.sRet, Sv.sRetN, Sv.sIf, Sv.cVar, Sv.cK, Sv.cE, Sv.cP, Sv.cOp, Sv.cUn, Sv.cChain, Sv.cIf, Sv.cAnd, Sv.cOr, Sv.cNot, Sv.tB, Sv.tAnd, Sv.tOr, Sv.tNot, Sv.tYes, Sv.aNil, Sv.aCons, Sv.aStar, Sv.cCall, Sv.cTup, Sv.cLst, Sv.cSl, Sv.cMeth, Sv.sSetIx, Sv.sPar2, Sv.sPar3, Sv.sAsg, Sv.sAug, Sv.hold, Sv.slot, Sv.outF, Sv.argsB, Sv.slotsOf, Sv.back, Sv.rds, Sv.datas, Sv.gN, Sv.gT, Sv.gL, Sv.gRun, Sv.cFn, Sv.fnD, Sv.sRaise, Sv.R.bind, Sv.R.opt, Sv.R.toS, Sv.RS.seq, Sv.Hd.rd, Sv.B.rd, Sv.toP, Sv.eqP, Sv.neP, Sv.one, Sv.two, Sv.getP, Sv.lenP, Sv.addP, Sv.subP, Sv.mulP, Sv.fdivP, Sv.modP, Sv.powP, Sv.intP, Sv.absP, Sv.max2P, Sv.min2P, Sv.negP, Sv.augAdd, Sv.setD, Sv.mAppend, Sv.ltB, Sv.gtB, Sv.leB, Sv.geB, Sv.ordB, Sv.small64, Sv.isP, Sv.wSeq, Sv.wRange1, Sv.sFor, a0, a1, a2]
theorem ma4 {F : Fn} {l : Str} {a : Tr} {o o1 : Option B} (hz : size a ≤ 150) (h : F [.d (.str l), .d (enc a)] = .ok (.d (enc (.nd l [a]))) [o, o1]) :
    sIf (Sv.tB (cOp neP (cP (cFn F (aCons (cVar 3) (aCons (cVar 4) aNil)))) (cP (cTup (aCons (cE (cVar 3)) (aCons (cE (cVar 4)) aNil)))))) (sRet (cK (.bool false))) sNil
      [s0, s1, s2, some (.d (.str l)), some (.d (enc a)), s5, s6, s7, s8, s9, s10, s11, s12] = .nx [s0, s1, s2, some (.d (.str l)), some (.d (enc a)), s5, s6, s7, s8, s9, s10, s11, s12] := by
  have z0 : 2 ≤ sizeLine := by rw [sizeLine_eq]; decide
  have e := eq_encT (.nd l [a]) (by simp [size, sizes]; omega)
  rw [enc.eq_def (.nd l [a])] at h e
  simp only [encs] at h e
  simp [Sv.sNil, Sv.sCons, Sv.sPass, Sv.sBreak, Sv.sCont, Sv.sExpr, Sv.put, Sv.sSet, Sv.sRet, Sv.sRetN, Sv.sIf, Sv.cVar, Sv.cK, Sv.cE, Sv.cP, Sv.cOp, Sv.cUn, Sv.cChain, Sv.cIf, Sv.cAnd, Sv.cOr, Sv.cNot, Sv.tB, Sv.tAnd, Sv.tOr, Sv.tNot, Sv.tYes, Sv.aNil, Sv.aCons, Sv.aStar, Sv.cCall, Sv.cTup, Sv.cLst, Sv.cSl, Sv.cMeth, Sv.sSetIx, Sv.sPar2, Sv.sPar3, Sv.sAsg, Sv.sAug, Sv.hold, Sv.slot, Sv.outF, Sv.argsB, Sv.slotsOf, Sv.back, Sv.rds, Sv.datas, Sv.gN, Sv.gT, Sv.gL, Sv.gRun, Sv.cFn, Sv.fnD, Sv.sRaise, Sv.R.bind, Sv.R.opt, Sv.R.toS, Sv.RS.seq, Sv.Hd.rd, Sv.B.rd, Sv.toP, Sv.eqP, Sv.neP, Sv.one, Sv.two, Sv.getP, Sv.lenP, Sv.addP, Sv.subP, Sv.mulP, Sv.fdivP, Sv.modP, Sv.powP, Sv.intP, Sv.absP, Sv.max2P, Sv.min2P, Sv.negP, Sv.augAdd, Sv.setD, Sv.mAppend, Sv.ltB, Sv.gtB, Sv.leB, Sv.geB, Sv.ordB, Sv.small64, Sv.isP, Sv.wSeq, Sv.wRange1, Sv.sFor, h, z0, e]
theorem ma5 {F : Fn} {l : Str} {a b c : Tr} {o o1 o2 o3 : Option B} (hz : size a + size b + size c ≤ 150) (h : F [.d (.str l), .d (enc a), .d (enc b), .d (enc c)] = .ok (.d (enc (.nd l [a, b, c]))) [o, o1, o2, o3]) :
    sIf (Sv.tB (cOp neP (cP (cFn F (aCons (cVar 3) (aCons (cVar 4) (aCons (cVar 5) (aCons (cVar 6) aNil)))))) (cP (cTup (aCons (cE (cVar 3)) (aCons (cE (cVar 4)) (aCons (cE (cVar 5)) (aCons (cE (cVar 6)) aNil)))))))) (sRet (cK (.bool false))) sNil
      [s0, s1, s2, some (.d (.str l)), some (.d (enc a)), some (.d (enc b)), some (.d (enc c)), s7, s8, s9, s10, s11, s12] = .nx [s0, s1, s2, some (.d (.str l)), some (.d (enc a)), some (.d (enc b)), some (.d (enc c)), s7, s8, s9, s10, s11, s12] := by
  have z0 : 4 ≤ sizeLine := by rw [sizeLine_eq]; decide
  have e := eq_encT (.nd l [a, b, c]) (by simp [size, sizes]; omega)
  rw [enc.eq_def (.nd l [a, b, c])] at h e
  simp only [encs] at h e
  simp [Sv.sNil, Sv.sCons, Sv.sPass, Sv.sBreak, Sv.sCont, Sv.sExpr, Sv.put, Sv.sSet, Sv.sRet, Sv.sRetN, Sv.sIf, Sv.cVar, Sv.cK, Sv.cE, Sv.cP, Sv.cOp, Sv.cUn, Sv.cChain, Sv.cIf, Sv.cAnd, Sv.cOr, Sv.cNot, Sv.tB, Sv.tAnd, Sv.tOr, Sv.tNot, Sv.tYes, Sv.aNil, Sv.aCons, Sv.aStar, Sv.cCall, Sv.cTup, Sv.cLst, Sv.cSl, Sv.cMeth, Sv.sSetIx, Sv.sPar2, Sv.sPar3, Sv.sAsg, Sv.sAug, Sv.hold, Sv.slot, Sv.outF, Sv.argsB, Sv.slotsOf, Sv.back, Sv.rds, Sv.datas, Sv.gN, Sv.gT, Sv.gL, Sv.gRun, Sv.cFn, Sv.fnD, Sv.sRaise, Sv.R.bind, Sv.R.opt, Sv.R.toS, Sv.RS.seq, Sv.Hd.rd, Sv.B.rd, Sv.toP, Sv.eqP, Sv.neP, Sv.one, Sv.two, Sv.getP, Sv.lenP, Sv.addP, Sv.subP, Sv.mulP, Sv.fdivP, Sv.modP, Sv.powP, Sv.intP, Sv.absP, Sv.max2P, Sv.min2P, Sv.negP, Sv.augAdd, Sv.setD, Sv.mAppend, Sv.ltB, Sv.gtB, Sv.leB, Sv.geB, Sv.ordB, Sv.small64, Sv.isP, Sv.wSeq, Sv.wRange1, Sv.sFor, h, z0, e]
theorem ma6 {F : Fn} {l : Str} {a b : Tr} {o o1 : Option B} (hz : size a + size b ≤ 150) (h : F [.d (.str l), .d (.tuple (encs [b, a]))] = .ok (.d (enc (.nd l [b, a]))) [o, o1]) :
    sIf (Sv.tB (cOp neP (cP (cFn F (aCons (cVar 3) (aCons (cP (cTup (aCons (cE (cVar 5)) (aCons (cE (cVar 4)) aNil)))) aNil)))) (cP (cTup (aCons (cE (cVar 3)) (aCons (cE (cVar 5)) (aCons (cE (cVar 4)) aNil))))))) (sRet (cK (.bool false))) sNil
      [s0, s1, s2, some (.d (.str l)), some (.d (enc a)), some (.d (enc b)), s6, s7, s8, s9, s10, s11, s12] = .nx [s0, s1, s2, some (.d (.str l)), some (.d (enc a)), some (.d (enc b)), s6, s7, s8, s9, s10, s11, s12] := by
  have z0 : 3 ≤ sizeLine := by rw [sizeLine_eq]; decide
  have z1 : 2 ≤ sizeLine := by rw [sizeLine_eq]; decide
  have e := eq_encT (.nd l [b, a]) (by simp [size, sizes]; omega)
  rw [enc.eq_def (.nd l [b, a])] at h e
  simp only [encs] at h e
  simp [Sv.sNil, Sv.sCons, Sv.sPass, Sv.sBreak, Sv.sCont, Sv.sExpr, Sv.put, Sv.sSet, Sv.sRet, Sv.sRetN, Sv.sIf, Sv.cVar, Sv.cK, Sv.cE, Sv.cP, Sv.cOp, Sv.cUn, Sv.cChain, Sv.cIf, Sv.cAnd, Sv.cOr, Sv.cNot, Sv.tB, Sv.tAnd, Sv.tOr, Sv.tNot, Sv.tYes, Sv.aNil, Sv.aCons, Sv.aStar, Sv.cCall, Sv.cTup, Sv.cLst, Sv.cSl, Sv.cMeth, Sv.sSetIx, Sv.sPar2, Sv.sPar3, Sv.sAsg, Sv.sAug, Sv.hold, Sv.slot, Sv.outF, Sv.argsB, Sv.slotsOf, Sv.back, Sv.rds, Sv.datas, Sv.gN, Sv.gT, Sv.gL, Sv.gRun, Sv.cFn, Sv.fnD, Sv.sRaise, Sv.R.bind, Sv.R.opt, Sv.R.toS, Sv.RS.seq, Sv.Hd.rd, Sv.B.rd, Sv.toP, Sv.eqP, Sv.neP, Sv.one, Sv.two, Sv.getP, Sv.lenP, Sv.addP, Sv.subP, Sv.mulP, Sv.fdivP, Sv.modP, Sv.powP, Sv.intP, Sv.absP, Sv.max2P, Sv.min2P, Sv.negP, Sv.augAdd, Sv.setD, Sv.mAppend, Sv.ltB, Sv.gtB, Sv.leB, Sv.geB, Sv.ordB, Sv.small64, Sv.isP, Sv.wSeq, Sv.wRange1, Sv.sFor, h, z0, z1, e]
theorem ma7 {F : Fn} {l : Str} {ts : List Tr} {o o1 : Option B} (hz : sizes ts ≤ 150) (h : F [.d (.str l), .d (.tuple (encs ts))] = .ok (.d (enc (.nd l ts))) [o, o1]) :
    sIf (Sv.tB (cOp neP (cP (cFn F (aCons (cVar 3) (aCons (cP (cCall (one tupleP) (aCons (cVar 2) aNil))) aNil)))) (cP (cOp addP (cP (cTup (aCons (cE (cVar 3)) aNil))) (cP (cCall (one tupleP) (aCons (cVar 2) aNil))))))) (sRet (cK (.bool false))) sNil
      [s0, s1, some (.l (encs ts)), some (.d (.str l)), s4, s5, s6, s7, s8, s9, s10, s11, s12] = .nx [s0, s1, some (.l (encs ts)), some (.d (.str l)), s4, s5, s6, s7, s8, s9, s10, s11, s12] := by
  have z0 : 1 ≤ sizeLine := by rw [sizeLine_eq]; decide
  have z1 : 1 + (encs ts).length ≤ sizeLine := by rw [sizeLine_eq, encs_len]; have := len_sizes ts; omega
  have e := eq_encT (.nd l ts) (by simp [size]; omega)
  rw [enc] at h e
  simp [Sv.sNil, Sv.sCons, Sv.sPass, Sv.sBreak, Sv.sCont, Sv.sExpr, Sv.put, Sv.sSet, Sv.sRet, Sv.sRetN, Sv.sIf, Sv.cVar, Sv.cK, Sv.cE, Sv.cP, Sv.cOp, Sv.cUn, Sv.cChain, Sv.cIf, Sv.cAnd, Sv.cOr, Sv.cNot, Sv.tB, Sv.tAnd, Sv.tOr, Sv.tNot, Sv.tYes, Sv.aNil, Sv.aCons, Sv.aStar, Sv.cCall, Sv.cTup, Sv.cLst, Sv.cSl, Sv.cMeth, Sv.sSetIx, Sv.sPar2, Sv.sPar3, Sv.sAsg, Sv.sAug, Sv.hold, Sv.slot, Sv.outF, Sv.argsB, Sv.slotsOf, Sv.back, Sv.rds, Sv.datas, Sv.gN, Sv.gT, Sv.gL, Sv.gRun, Sv.cFn, Sv.fnD, Sv.sRaise, Sv.R.bind, Sv.R.opt, Sv.R.toS, Sv.RS.seq, Sv.Hd.rd, Sv.B.rd, Sv.toP, Sv.eqP, Sv.neP, Sv.one, Sv.two, Sv.getP, Sv.lenP, Sv.addP, Sv.subP, Sv.mulP, Sv.fdivP, Sv.modP, Sv.powP, Sv.intP, Sv.absP, Sv.max2P, Sv.min2P, Sv.negP, Sv.augAdd, Sv.setD, Sv.mAppend, Sv.ltB, Sv.gtB, Sv.leB, Sv.geB, Sv.ordB, Sv.small64, Sv.isP, Sv.wSeq, Sv.wRange1, Sv.sFor, tupleP, h, z0, z1, e]
theorem ma8 {F : Fn} {a : PyData} {xs : List PyData} {o : Option B} (h : F [.d a] = .ok (.l xs) [o]) :
    sSet 7 (cFn F (aCons (cVar 4) aNil)) [s0, s1, s2, s3, some (.d a), s5, s6, s7, s8, s9, s10, s11, s12] = .nx [s0, s1, s2, s3, some (.d a), s5, s6, some (.l xs), s8, s9, s10, s11, s12] := by
  simp [Sv.sNil, Sv.sCons, Sv.sPass, Sv.sBreak, Sv.sCont, Sv.sExpr, Sv.put, Sv.sSet, Sv.sRet, Sv.sRetN, Sv.sIf, Sv.cVar, Sv.cK, Sv.cE, Sv.cP, Sv.cOp, Sv.cUn, Sv.cChain, Sv.cIf, Sv.cAnd, Sv.cOr, Sv.cNot, Sv.tB, Sv.tAnd, Sv.tOr, Sv.tNot, Sv.tYes, Sv.aNil, Sv.aCons, Sv.aStar, Sv.cCall, Sv.cTup, Sv.cLst, Sv.cSl, Sv.cMeth, Sv.sSetIx, Sv.sPar2, Sv.sPar3, Sv.sAsg, Sv.sAug, Sv.hold, Sv.slot, Sv.outF, Sv.argsB, Sv.slotsOf, Sv.back, Sv.rds, Sv.datas, Sv.gN, Sv.gT, Sv.gL, Sv.gRun, Sv.cFn, Sv.fnD, Sv.sRaise, Sv.R.bind, Sv.R.opt, Sv.R.toS, Sv.RS.seq, Sv.Hd.rd, Sv.B.rd, Sv.toP, Sv.eqP, Sv.neP, Sv.one, Sv.two, Sv.getP, Sv.lenP, Sv.addP, Sv.subP, Sv.mulP, Sv.fdivP, Sv.modP, Sv.powP, Sv.intP, Sv.absP, Sv.max2P, Sv.min2P, Sv.negP, Sv.augAdd, Sv.setD, Sv.mAppend, Sv.ltB, Sv.gtB, Sv.leB, Sv.geB, Sv.ordB, Sv.small64, Sv.isP, Sv.wSeq, Sv.wRange1, Sv.sFor, h]
theorem ma9 {F : Fn} {xs ys ps : List PyData} {v : PyData} (h : F [.l xs, .l ps] = .ok (.d v) [some (.l ys), some (.l ps)]) :
    sSet 8 (cFn F (aCons (cVar 0) (aCons (cVar 7) aNil))) [some (.l xs), s1, s2, s3, s4, s5, s6, some (.l ps), s8, s9, s10, s11, s12] = .nx [some (.l ys), s1, s2, s3, s4, s5, s6, some (.l ps), some (.d v), s9, s10, s11, s12] := by
  simp [Sv.sNil, Sv.sCons, Sv.sPass, Sv.sBreak, Sv.sCont, Sv.sExpr, Sv.put, Sv.sSet, Sv.sRet, Sv.sRetN, Sv.sIf, Sv.cVar, Sv.cK, Sv.cE, Sv.cP, Sv.cOp, Sv.cUn, Sv.cChain, Sv.cIf, Sv.cAnd, Sv.cOr, Sv.cNot, Sv.tB, Sv.tAnd, Sv.tOr, Sv.tNot, Sv.tYes, Sv.aNil, Sv.aCons, Sv.aStar, Sv.cCall, Sv.cTup, Sv.cLst, Sv.cSl, Sv.cMeth, Sv.sSetIx, Sv.sPar2, Sv.sPar3, Sv.sAsg, Sv.sAug, Sv.hold, Sv.slot, Sv.outF, Sv.argsB, Sv.slotsOf, Sv.back, Sv.rds, Sv.datas, Sv.gN, Sv.gT, Sv.gL, Sv.gRun, Sv.cFn, Sv.fnD, Sv.sRaise, Sv.R.bind, Sv.R.opt, Sv.R.toS, Sv.RS.seq, Sv.Hd.rd, Sv.B.rd, Sv.toP, Sv.eqP, Sv.neP, Sv.one, Sv.two, Sv.getP, Sv.lenP, Sv.addP, Sv.subP, Sv.mulP, Sv.fdivP, Sv.modP, Sv.powP, Sv.intP, Sv.absP, Sv.max2P, Sv.min2P, Sv.negP, Sv.augAdd, Sv.setD, Sv.mAppend, Sv.ltB, Sv.gtB, Sv.leB, Sv.geB, Sv.ordB, Sv.small64, Sv.isP, Sv.wSeq, Sv.wRange1, Sv.sFor, h]
theorem ma10 {F : Fn} {a p v : PyData} {o1 o2 : Option B} (h : F [.d a, .d p] = .ok (.d v) [o1, o2]) :
    sSet 9 (cFn F (aCons (cVar 4) (aCons (cVar 8) aNil))) [s0, s1, s2, s3, some (.d a), s5, s6, s7, some (.d p), s9, s10, s11, s12] = .nx [s0, s1, s2, s3, some (.d a), s5, s6, s7, some (.d p), some (.d v), s10, s11, s12] := by
  simp [Sv.sNil, Sv.sCons, Sv.sPass, Sv.sBreak, Sv.sCont, Sv.sExpr, Sv.put, Sv.sSet, Sv.sRet, Sv.sRetN, Sv.sIf, Sv.cVar, Sv.cK, Sv.cE, Sv.cP, Sv.cOp, Sv.cUn, Sv.cChain, Sv.cIf, Sv.cAnd, Sv.cOr, Sv.cNot, Sv.tB, Sv.tAnd, Sv.tOr, Sv.tNot, Sv.tYes, Sv.aNil, Sv.aCons, Sv.aStar, Sv.cCall, Sv.cTup, Sv.cLst, Sv.cSl, Sv.cMeth, Sv.sSetIx, Sv.sPar2, Sv.sPar3, Sv.sAsg, Sv.sAug, Sv.hold, Sv.slot, Sv.outF, Sv.argsB, Sv.slotsOf, Sv.back, Sv.rds, Sv.datas, Sv.gN, Sv.gT, Sv.gL, Sv.gRun, Sv.cFn, Sv.fnD, Sv.sRaise, Sv.R.bind, Sv.R.opt, Sv.R.toS, Sv.RS.seq, Sv.Hd.rd, Sv.B.rd, Sv.toP, Sv.eqP, Sv.neP, Sv.one, Sv.two, Sv.getP, Sv.lenP, Sv.addP, Sv.subP, Sv.mulP, Sv.fdivP, Sv.modP, Sv.powP, Sv.intP, Sv.absP, Sv.max2P, Sv.min2P, Sv.negP, Sv.augAdd, Sv.setD, Sv.mAppend, Sv.ltB, Sv.gtB, Sv.leB, Sv.geB, Sv.ordB, Sv.small64, Sv.isP, Sv.wSeq, Sv.wRange1, Sv.sFor, h]
theorem ma11 {l : Str} {cs : List Tr} (hz : cs.length ≤ 1000) : wRange1 (cP (cCall (one lenP) (aCons (cVar 9) aNil))) [s0, s1, s2, s3, s4, s5, s6, s7, s8, some (.d (enc (.nd l cs))), s10, s11, s12]
      = .ok (rngD 0 (cs.length + 1)) [s0, s1, s2, s3, s4, s5, s6, s7, s8, some (.d (enc (.nd l cs))), s10, s11, s12] := by
  have k := wr_gen (c := cP (cCall (one lenP) (aCons (cVar 9) aNil))) (e := [s0, s1, s2, s3, s4, s5, s6, s7, s8, some (.d (enc (.nd l cs))), s10, s11, s12]) (e1 := [s0, s1, s2, s3, s4, s5, s6, s7, s8, some (.d (enc (.nd l cs))), s10, s11, s12]) (h := .v (.d (.int ((cs.length + 1 : Nat) : Int)))) (j := ((cs.length + 1 : Nat) : Int)) (by
    rw [enc]
    simp [Sv.sNil, Sv.sCons, Sv.sPass, Sv.sBreak, Sv.sCont, Sv.sExpr, Sv.put, Sv.sSet, Sv.sRet, Sv.sRetN, Sv.sIf, Sv.cVar, Sv.cK, Sv.cE, Sv.cP, Sv.cOp, Sv.cUn, Sv.cChain, Sv.cIf, Sv.cAnd, Sv.cOr, Sv.cNot, Sv.tB, Sv.tAnd, Sv.tOr, Sv.tNot, Sv.tYes, Sv.aNil, Sv.aCons, Sv.aStar, Sv.cCall, Sv.cTup, Sv.cLst, Sv.cSl, Sv.cMeth, Sv.sSetIx, Sv.sPar2, Sv.sPar3, Sv.sAsg, Sv.sAug, Sv.hold, Sv.slot, Sv.outF, Sv.argsB, Sv.slotsOf, Sv.back, Sv.rds, Sv.datas, Sv.gN, Sv.gT, Sv.gL, Sv.gRun, Sv.cFn, Sv.fnD, Sv.sRaise, Sv.R.bind, Sv.R.opt, Sv.R.toS, Sv.RS.seq, Sv.Hd.rd, Sv.B.rd, Sv.toP, Sv.eqP, Sv.neP, Sv.one, Sv.two, Sv.getP, Sv.lenP, Sv.addP, Sv.subP, Sv.mulP, Sv.fdivP, Sv.modP, Sv.powP, Sv.intP, Sv.absP, Sv.max2P, Sv.min2P, Sv.negP, Sv.augAdd, Sv.setD, Sv.mAppend, Sv.ltB, Sv.gtB, Sv.leB, Sv.geB, Sv.ordB, Sv.small64, Sv.isP, Sv.wSeq, Sv.sFor, encs_len]) rfl (by omega)
  rw [Int.toNat_natCast] at k
  exact k
theorem ma12 {x : PyData} {ps : List PyData} : wSeq (cSl slP (cVar 7) (some (cK (.int 1))) none) [s0, s1, s2, s3, s4, s5, s6, some (.l (x :: ps)), s8, s9, s10, s11, s12] = .ok ps [s0, s1, s2, s3, s4, s5, s6, some (.l (x :: ps)), s8, s9, s10, s11, s12] := by
  simp [Sv.sNil, Sv.sCons, Sv.sPass, Sv.sBreak, Sv.sCont, Sv.sExpr, Sv.put, Sv.sSet, Sv.sRet, Sv.sRetN, Sv.sIf, Sv.cVar, Sv.cK, Sv.cE, Sv.cP, Sv.cOp, Sv.cUn, Sv.cChain, Sv.cIf, Sv.cAnd, Sv.cOr, Sv.cNot, Sv.tB, Sv.tAnd, Sv.tOr, Sv.tNot, Sv.tYes, Sv.aNil, Sv.aCons, Sv.aStar, Sv.cCall, Sv.cTup, Sv.cLst, Sv.cSl, Sv.cMeth, Sv.sSetIx, Sv.sPar2, Sv.sPar3, Sv.sAsg, Sv.sAug, Sv.hold, Sv.slot, Sv.outF, Sv.argsB, Sv.slotsOf, Sv.back, Sv.rds, Sv.datas, Sv.gN, Sv.gT, Sv.gL, Sv.gRun, Sv.cFn, Sv.fnD, Sv.sRaise, Sv.R.bind, Sv.R.opt, Sv.R.toS, Sv.RS.seq, Sv.Hd.rd, Sv.B.rd, Sv.toP, Sv.eqP, Sv.neP, Sv.one, Sv.two, Sv.getP, Sv.lenP, Sv.addP, Sv.subP, Sv.mulP, Sv.fdivP, Sv.modP, Sv.powP, Sv.intP, Sv.absP, Sv.max2P, Sv.min2P, Sv.negP, Sv.augAdd, Sv.setD, Sv.mAppend, Sv.ltB, Sv.gtB, Sv.leB, Sv.geB, Sv.ordB, Sv.small64, Sv.isP, Sv.wSeq, Sv.wRange1, Sv.sFor, slP, cut1]
end
theorem made_spec {x : B} (hx : Tap x) (labs : List Str) (h0 : 0 < labs.length) (h1 : labs.length ≤ 1000) (hlg : ∀ l ∈ labs, l ∈ goods) (a b c : Tr) (r : List Tr) (h : ∀ t ∈ a :: b :: c :: r, size t ≤ 20) (hg : labsIn goods (a :: b :: c :: r)) (hl : r.length ≤ 3) :
    ∃ y, Tap y ∧ d_made_right [x, .d (.list (labs.map .str)), .l (encs (a :: b :: c :: r))] = .ok (.d (.bool true)) [some y, some (.d (.list (labs.map .str))), some (.l (encs (a :: b :: c :: r)))] := by
  obtain ⟨v, y, hv, hy, k1⟩ := pick_tap hx (labs.map .str) (by rw [List.length_map]; exact h0) (by rw [List.length_map]; exact h1)
  obtain ⟨l, hl1, rfl⟩ := List.mem_map.mp hv
  have hl2 := hlg l hl1
  have za := h a (by simp)
  have zb := h b (by simp)
  have zc := h c (by simp)
  have hg' := hg
  simp only [labsIn] at hg'
  obtain ⟨ga, gb, gc, gr⟩ := hg'
  have zs := sizes_le _ h
  simp only [List.length_cons] at zs
  obtain ⟨o1, o2, k2⟩ := docfrom_spec l hl2 [] (by simp [sizes]) (by simp [labsIn])
  obtain ⟨o3, o4, k3⟩ := docfrom_spec l hl2 [b, a] (by simp [sizes]; omega) (by simp [labsIn, ga, gb])
  obtain ⟨o5, o6, k4⟩ := docfrom_spec l hl2 (a :: b :: c :: r) (by omega) hg
  have k5 := spots_spec 40 a (by have := ht_size a; omega) (by omega)
  have hsp := spots_len a
  have hp0 := size_pos a
  obtain ⟨v2, z, hv2, hz, k6⟩ := pick_list hy ((spots a).map encP) (by rw [List.length_map]; omega) (by rw [List.length_map]; omega)
  obtain ⟨p, hp, rfl⟩ := List.mem_map.mp hv2
  obtain ⟨⟨l', cs⟩, hu⟩ := spots_cat a p hp
  have hpl := spots_deep a p hp
  have hht := ht_size a
  obtain ⟨o7, o8, k7⟩ := at_spec 40 p a _ (by omega) hu
  have hcs := cat_size p a _ hu
  rw [size] at hcs
  have hcl := len_sizes cs
  obtain ⟨xa, xb, xc, rfl⟩ := hx
  obtain ⟨ya, yb, yc, rfl⟩ := hy
  obtain ⟨wa, wb, wc, rfl⟩ := hz
  obtain ⟨s10, s11, k8⟩ := mr1_loop a b (by omega) (by omega) ga gb p l' cs (by omega) hu (some (.l [.int wa, .int wb, .int wc])) (some (.d (.list (labs.map .str)))) (some (.l (encs (a :: b :: c :: r)))) (some (.d (.str l))) (some (.d (enc c))) (some (.l ((spots a).map encP))) none (cs.length + 1) 0 none none (by omega)
  rw [← List.range_eq_range'] at k8
  obtain ⟨la, ca⟩ := a
  have es : spots (.nd la ca) = [] :: spotsAt 0 ca := by rw [spots]
  obtain ⟨s12, k9⟩ := mr0_loop (.nd la ca) (by omega) ga (some (.l [.int wa, .int wb, .int wc])) (some (.d (.list (labs.map .str)))) (some (.l (encs (.nd la ca :: b :: c :: r)))) (some (.d (.str l))) (some (.d (enc b))) (some (.d (enc c))) (some (.l ((spots (.nd la ca)).map encP))) (some (.d (encP p))) (some (.d (enc (.nd l' cs)))) s10 s11 (spotsAt 0 ca) none (fun q hq => by
    have hm : q ∈ spots (.nd la ca) := by rw [es]; exact List.mem_cons_of_mem _ hq
    have hd := spots_deep _ q hm
    exact ⟨spotsAt_ne 0 ca q hq, by omega, spots_cat _ q hm⟩)
  have em : (spots (.nd la ca)).map encP = encP [] :: (spotsAt 0 ca).map encP := by rw [es, List.map_cons]
  rw [em] at k5 k6 k8 k9
  refine ⟨_, ⟨wa, wb, wc, rfl⟩, ?_⟩
  exact fn_gen (io := [0, 1, 2]) (seq_gen (ma1 k1) (seq_gen (ma2 (make0 l hl2) k2) (seq_gen ma3 (seq_gen (ma4 (by omega) (make1 l hl2 _ (by omega) ga)) (seq_gen (ma5 (by omega) (make3 l hl2 _ _ _ (by omega) ga gb gc)) (seq_gen (ma6 (by omega) k3) (seq_gen (ma7 (by omega) k4)
    (seq_gen (ma8 k5) (seq_gen (ma9 k6) (seq_gen (ma10 k7) (seq_gen (for_gen (ma11 (by omega)) k8) (seq_gen (for_gen ma12 k9) rfl))))))))))))
end K02
end
section
set_option autoImplicit false
set_option linter.all false
set_option maxRecDepth 100000
namespace K02
open PySem Sv

mutual
theorem lab_mono {labs labs' : List Str} (h : ∀ l ∈ labs, l ∈ labs') : ∀ t : Tr, labIn labs t → labIn labs' t
  | .nd l cs, k => by rw [labIn] at k ⊢; exact ⟨h l k.1, labs_mono h cs k.2⟩
theorem labs_mono {labs labs' : List Str} (h : ∀ l ∈ labs, l ∈ labs') : ∀ cs : List Tr, labsIn labs cs → labsIn labs' cs
  | [], _ => trivial
  | t :: r, k => by rw [labsIn] at k ⊢; exact ⟨lab_mono h t k.1, labs_mono h r k.2⟩
end
/-! ### the law's loop -/
theorem trees_loop (labs : List Str) (h0 : 0 < labs.length) (h1 : labs.length ≤ 1000) (s0 s1 s2 s5 s7 : Option B) (f : Nat → PyData) : ∀ (n i : Nat) (x : B), Tap x → ∃ us y, Tap y ∧ us.length = n ∧ (∀ u ∈ us, size u ≤ 8) ∧ labsIn labs us ∧
    compL [6] (gN 6) tYes ce_law_0 ((List.range' i n).map f) [s0, s1, s2, some x, some (.d (.list (labs.map .str))), s5, none, s7] = .ok (encs us) [s0, s1, s2, some y, some (.d (.list (labs.map .str))), s5, none, s7]
  | 0, i, x, hx => ⟨[], x, hx, rfl, ⟨fun u hu => absurd hu List.not_mem_nil, trivial, rfl⟩⟩
  | n + 1, i, x, hx => by
    obtain ⟨r, y, r1, r2, hy, e1⟩ := turn_tap hx 8 (by omega) (by omega)
    obtain ⟨t, z, hz, t1, t2, e2⟩ := tree_spec labs h0 h1 30 (by omega) y (1 + r.toNat) hy (by omega) (by omega)
    have er : ((1 + r.toNat : Nat) : Int) = 1 + r := by omega
    rw [er] at e2
    obtain ⟨us, w, hw, u1, u2, u3, k⟩ := trees_loop labs h0 h1 s0 s1 s2 s5 s7 f n (i + 1) z hz
    refine ⟨t :: us, w, hw, by simp [u1], fun u hu => ?_, ?_, ?_⟩
    · rcases List.mem_cons.mp hu with e | hu
      · subst e; omega
      · exact u2 u hu
    · rw [labsIn]; exact ⟨t2, u3⟩
    · obtain ⟨a, b, c, rfl⟩ := hx
      obtain ⟨a', b', c', rfl⟩ := hy
      obtain ⟨a2, b2, c2, rfl⟩ := hz
      have c1 : comp1 [6] (gN 6) tYes ce_law_0 (f i) [s0, s1, s2, some (.l [.int a, .int b, .int c]), some (.d (.list (labs.map .str))), s5, none, s7] = .ok (some (enc t)) [s0, s1, s2, some (.l [.int a2, .int b2, .int c2]), some (.d (.list (labs.map .str))), s5, none, s7] := by
        have e3 : ∀ F : Fn, F [.l [.int a', .int b', .int c'], .d (.list (labs.map .str)), .d (.int (1 + r))] = .ok (.d (enc t)) [some (.l [.int a2, .int b2, .int c2]), some (.d (.list (labs.map .str))), some (.d (.int (1 + r)))] → ∀ G : Fn, G [.l [.int a, .int b, .int c], .d (.int 8)] = .ok (.d (.int r)) [some (.l [.int a', .int b', .int c']), some (.d (.int 8))] →
            comp1 [6] (gN 6) tYes (cFn F (aCons (cVar 3) (aCons (cVar 4) (aCons (cP (cOp addP (cK (.int 1)) (cP (cFn G (aCons (cVar 3) (aCons (cK (.int 8)) aNil)))))) aNil)))) (f i) [s0, s1, s2, some (.l [.int a, .int b, .int c]), some (.d (.list (labs.map .str))), s5, none, s7] = .ok (some (enc t)) [s0, s1, s2, some (.l [.int a2, .int b2, .int c2]), some (.d (.list (labs.map .str))), s5, none, s7] := by
          intro F hF G hG
          simp [comp1, Sv.sNil, Sv.sCons, Sv.sPass, Sv.sBreak, Sv.sCont, Sv.sExpr, Sv.put, Sv.sSet, Sv.sRet, Sv.sRetN, Sv.sIf, Sv.cVar, Sv.cK, Sv.cE, Sv.cP, Sv.cOp, Sv.cUn, Sv.cChain, Sv.cIf, Sv.cAnd, Sv.cOr, Sv.cNot, Sv.tB, Sv.tAnd, Sv.tOr, Sv.tNot, Sv.tYes, Sv.aNil, Sv.aCons, Sv.aStar, Sv.cCall, Sv.cTup, Sv.cLst, Sv.cSl, Sv.cMeth, Sv.sSetIx, Sv.sPar2, Sv.sPar3, Sv.sAsg, Sv.sAug, Sv.hold, Sv.slot, Sv.outF, Sv.argsB, Sv.slotsOf, Sv.back, Sv.rds, Sv.datas, Sv.gN, Sv.gT, Sv.gL, Sv.gRun, Sv.cFn, Sv.fnD, Sv.sRaise, Sv.R.bind, Sv.R.opt, Sv.R.toS, Sv.RS.seq, Sv.Hd.rd, Sv.B.rd, Sv.toP, Sv.eqP, Sv.neP, Sv.one, Sv.two, Sv.getP, Sv.lenP, Sv.addP, Sv.subP, Sv.mulP, Sv.fdivP, Sv.modP, Sv.powP, Sv.intP, Sv.absP, Sv.max2P, Sv.min2P, Sv.negP, Sv.augAdd, Sv.setD, Sv.mAppend, Sv.ltB, Sv.gtB, Sv.leB, Sv.geB, Sv.ordB, Sv.small64, Sv.isP, Sv.wSeq, Sv.wRange1, Sv.sFor, wipeE, hF, hG]
        exact e3 _ e2 _ e1
      rw [List.range'_succ, List.map_cons, compL, c1]
      simp only [k, encs]
section
variable {s0 s1 s2 s3 s4 s5 s6 s7 : Option B}
theorem la1 {F : Fn} {a i : PyData} {x : B} {o1 o2 : Option B} (h : F [.d a, .d i] = .ok x [o1, o2]) :
    sSet 3 (cFn F (aCons (cVar 0) (aCons (cVar 2) aNil))) [some (.d a), s1, some (.d i), s3, s4, s5, s6, s7] = .nx [some (.d a), s1, some (.d i), some x, s4, s5, s6, s7] := by
  simp [Sv.sNil, Sv.sCons, Sv.sPass, Sv.sBreak, Sv.sCont, Sv.sExpr, Sv.put, Sv.sSet, Sv.sRet, Sv.sRetN, Sv.sIf, Sv.cVar, Sv.cK, Sv.cE, Sv.cP, Sv.cOp, Sv.cUn, Sv.cChain, Sv.cIf, Sv.cAnd, Sv.cOr, Sv.cNot, Sv.tB, Sv.tAnd, Sv.tOr, Sv.tNot, Sv.tYes, Sv.aNil, Sv.aCons, Sv.aStar, Sv.cCall, Sv.cTup, Sv.cLst, Sv.cSl, Sv.cMeth, Sv.sSetIx, Sv.sPar2, Sv.sPar3, Sv.sAsg, Sv.sAug, Sv.hold, Sv.slot, Sv.outF, Sv.argsB, Sv.slotsOf, Sv.back, Sv.rds, Sv.datas, Sv.gN, Sv.gT, Sv.gL, Sv.gRun, Sv.cFn, Sv.fnD, Sv.sRaise, Sv.R.bind, Sv.R.opt, Sv.R.toS, Sv.RS.seq, Sv.Hd.rd, Sv.B.rd, Sv.toP, Sv.eqP, Sv.neP, Sv.one, Sv.two, Sv.getP, Sv.lenP, Sv.addP, Sv.subP, Sv.mulP, Sv.fdivP, Sv.modP, Sv.powP, Sv.intP, Sv.absP, Sv.max2P, Sv.min2P, Sv.negP, Sv.augAdd, Sv.setD, Sv.mAppend, Sv.ltB, Sv.gtB, Sv.leB, Sv.geB, Sv.ordB, Sv.small64, Sv.isP, Sv.wSeq, Sv.wRange1, Sv.sFor, h]
theorem la2 {F : Fn} {xs ys : List PyData} {v : PyData} (h : F [.l xs] = .ok (.d v) [some (.l ys)]) :
    sSet 4 (cFn F (aCons (cVar 3) aNil)) [s0, s1, s2, some (.l xs), s4, s5, s6, s7] = .nx [s0, s1, s2, some (.l ys), some (.d v), s5, s6, s7] := by
  simp [Sv.sNil, Sv.sCons, Sv.sPass, Sv.sBreak, Sv.sCont, Sv.sExpr, Sv.put, Sv.sSet, Sv.sRet, Sv.sRetN, Sv.sIf, Sv.cVar, Sv.cK, Sv.cE, Sv.cP, Sv.cOp, Sv.cUn, Sv.cChain, Sv.cIf, Sv.cAnd, Sv.cOr, Sv.cNot, Sv.tB, Sv.tAnd, Sv.tOr, Sv.tNot, Sv.tYes, Sv.aNil, Sv.aCons, Sv.aStar, Sv.cCall, Sv.cTup, Sv.cLst, Sv.cSl, Sv.cMeth, Sv.sSetIx, Sv.sPar2, Sv.sPar3, Sv.sAsg, Sv.sAug, Sv.hold, Sv.slot, Sv.outF, Sv.argsB, Sv.slotsOf, Sv.back, Sv.rds, Sv.datas, Sv.gN, Sv.gT, Sv.gL, Sv.gRun, Sv.cFn, Sv.fnD, Sv.sRaise, Sv.R.bind, Sv.R.opt, Sv.R.toS, Sv.RS.seq, Sv.Hd.rd, Sv.B.rd, Sv.toP, Sv.eqP, Sv.neP, Sv.one, Sv.two, Sv.getP, Sv.lenP, Sv.addP, Sv.subP, Sv.mulP, Sv.fdivP, Sv.modP, Sv.powP, Sv.intP, Sv.absP, Sv.max2P, Sv.min2P, Sv.negP, Sv.augAdd, Sv.setD, Sv.mAppend, Sv.ltB, Sv.gtB, Sv.leB, Sv.geB, Sv.ordB, Sv.small64, Sv.isP, Sv.wSeq, Sv.wRange1, Sv.sFor, h]
theorem la3 {W : Wd} {C : Cd} {e1 e2 : Sv.Env} {rs us : List PyData} {x x' y : Option B} (w : W [s0, s1, s2, x, s4, s5, none, s7] = .ok rs [s0, s1, s2, x', s4, s5, none, s7]) (hr : rs.length ≤ sizeLine) (k : compL [6] (gN 6) tYes C rs [s0, s1, s2, x', s4, s5, none, s7] = .ok us [s0, s1, s2, y, s4, s5, none, s7]) :
    sSet 5 (cComp [6] W (gN 6) tYes C) [s0, s1, s2, x, s4, s5, none, s7] = .nx [s0, s1, s2, y, s4, some (.l us), none, s7] := by
  simp [Sv.sNil, Sv.sCons, Sv.sPass, Sv.sBreak, Sv.sCont, Sv.sExpr, Sv.put, Sv.sSet, Sv.sRet, Sv.sRetN, Sv.sIf, Sv.cVar, Sv.cK, Sv.cE, Sv.cP, Sv.cOp, Sv.cUn, Sv.cChain, Sv.cIf, Sv.cAnd, Sv.cOr, Sv.cNot, Sv.tB, Sv.tAnd, Sv.tOr, Sv.tNot, Sv.tYes, Sv.aNil, Sv.aCons, Sv.aStar, Sv.cCall, Sv.cTup, Sv.cLst, Sv.cSl, Sv.cMeth, Sv.sSetIx, Sv.sPar2, Sv.sPar3, Sv.sAsg, Sv.sAug, Sv.hold, Sv.slot, Sv.outF, Sv.argsB, Sv.slotsOf, Sv.back, Sv.rds, Sv.datas, Sv.gN, Sv.gT, Sv.gL, Sv.gRun, Sv.cFn, Sv.fnD, Sv.sRaise, Sv.R.bind, Sv.R.opt, Sv.R.toS, Sv.RS.seq, Sv.Hd.rd, Sv.B.rd, Sv.toP, Sv.eqP, Sv.neP, Sv.one, Sv.two, Sv.getP, Sv.lenP, Sv.addP, Sv.subP, Sv.mulP, Sv.fdivP, Sv.modP, Sv.powP, Sv.intP, Sv.absP, Sv.max2P, Sv.min2P, Sv.negP, Sv.augAdd, Sv.setD, Sv.mAppend, Sv.ltB, Sv.gtB, Sv.leB, Sv.geB, Sv.ordB, Sv.small64, Sv.isP, Sv.wSeq, Sv.sFor, w, cComp, wipeE, restE, hr, k]
theorem la3w {F : Fn} {xs ys : List PyData} {r : Int} {o : Option B} (h : F [.l xs, .d (.int 4)] = .ok (.d (.int r)) [some (.l ys), o]) (h1 : 0 ≤ r) (h2 : r < 4) :
    wRange1 (cP (cOp addP (cK (.int 3)) (cP (cFn F (aCons (cVar 3) (aCons (cK (.int 4)) aNil)))))) [s0, s1, s2, some (.l xs), s4, s5, s6, s7] = .ok (rngD 0 (3 + r.toNat)) [s0, s1, s2, some (.l ys), s4, s5, s6, s7] := by
  have k := wr_gen (c := cP (cOp addP (cK (.int 3)) (cP (cFn F (aCons (cVar 3) (aCons (cK (.int 4)) aNil)))))) (e := [s0, s1, s2, some (.l xs), s4, s5, s6, s7]) (e1 := [s0, s1, s2, some (.l ys), s4, s5, s6, s7]) (h := .v (.d (.int (3 + r)))) (j := 3 + r) (by simp [Sv.sNil, Sv.sCons, Sv.sPass, Sv.sBreak, Sv.sCont, Sv.sExpr, Sv.put, Sv.sSet, Sv.sRet, Sv.sRetN, Sv.sIf, Sv.cVar, Sv.cK, Sv.cE, Sv.cP, Sv.cOp, Sv.cUn, Sv.cChain, Sv.cIf, Sv.cAnd, Sv.cOr, Sv.cNot, Sv.tB, Sv.tAnd, Sv.tOr, Sv.tNot, Sv.tYes, Sv.aNil, Sv.aCons, Sv.aStar, Sv.cCall, Sv.cTup, Sv.cLst, Sv.cSl, Sv.cMeth, Sv.sSetIx, Sv.sPar2, Sv.sPar3, Sv.sAsg, Sv.sAug, Sv.hold, Sv.slot, Sv.outF, Sv.argsB, Sv.slotsOf, Sv.back, Sv.rds, Sv.datas, Sv.gN, Sv.gT, Sv.gL, Sv.gRun, Sv.cFn, Sv.fnD, Sv.sRaise, Sv.R.bind, Sv.R.opt, Sv.R.toS, Sv.RS.seq, Sv.Hd.rd, Sv.B.rd, Sv.toP, Sv.eqP, Sv.neP, Sv.one, Sv.two, Sv.getP, Sv.lenP, Sv.addP, Sv.subP, Sv.mulP, Sv.fdivP, Sv.modP, Sv.powP, Sv.intP, Sv.absP, Sv.max2P, Sv.min2P, Sv.negP, Sv.augAdd, Sv.setD, Sv.mAppend, Sv.ltB, Sv.gtB, Sv.leB, Sv.geB, Sv.ordB, Sv.small64, Sv.isP, Sv.wSeq, Sv.sFor, h]) rfl (by omega)
  rw [show (3 + r).toNat = 3 + r.toNat by omega] at k
  exact k
theorem la4 {F : PyData → Option B} {us : List PyData} {z : PyData} (h : F (.list us) = some (.d z)) :
    sSet 7 (cCall (one F) (aCons (cVar 5) aNil)) [s0, s1, s2, s3, s4, some (.l us), s6, s7] = .nx [s0, s1, s2, s3, s4, some (.l us), s6, some (.d z)] := by
  simp [Sv.sNil, Sv.sCons, Sv.sPass, Sv.sBreak, Sv.sCont, Sv.sExpr, Sv.put, Sv.sSet, Sv.sRet, Sv.sRetN, Sv.sIf, Sv.cVar, Sv.cK, Sv.cE, Sv.cP, Sv.cOp, Sv.cUn, Sv.cChain, Sv.cIf, Sv.cAnd, Sv.cOr, Sv.cNot, Sv.tB, Sv.tAnd, Sv.tOr, Sv.tNot, Sv.tYes, Sv.aNil, Sv.aCons, Sv.aStar, Sv.cCall, Sv.cTup, Sv.cLst, Sv.cSl, Sv.cMeth, Sv.sSetIx, Sv.sPar2, Sv.sPar3, Sv.sAsg, Sv.sAug, Sv.hold, Sv.slot, Sv.outF, Sv.argsB, Sv.slotsOf, Sv.back, Sv.rds, Sv.datas, Sv.gN, Sv.gT, Sv.gL, Sv.gRun, Sv.cFn, Sv.fnD, Sv.sRaise, Sv.R.bind, Sv.R.opt, Sv.R.toS, Sv.RS.seq, Sv.Hd.rd, Sv.B.rd, Sv.toP, Sv.eqP, Sv.neP, Sv.one, Sv.two, Sv.getP, Sv.lenP, Sv.addP, Sv.subP, Sv.mulP, Sv.fdivP, Sv.modP, Sv.powP, Sv.intP, Sv.absP, Sv.max2P, Sv.min2P, Sv.negP, Sv.augAdd, Sv.setD, Sv.mAppend, Sv.ltB, Sv.gtB, Sv.leB, Sv.geB, Sv.ordB, Sv.small64, Sv.isP, Sv.wSeq, Sv.wRange1, Sv.sFor, h]
theorem la5 {F G : Fn} {R : PyData → Option B} {xs ys zs us : List PyData} {v : PyData} {z : Str} {o1 o2 : Option B} (h1 : F [.l xs, .d v, .l us] = .ok (.d (.bool true)) [some (.l ys), some (.d v), some (.l us)]) (h2 : G [.l ys, .l us] = .ok (.d (.bool true)) [some (.l zs), some (.d (.list us))]) (hr : R (.list us) = some (.d (.str z))) :
    sIf (Sv.tOr (Sv.tNot (Sv.tB (cP (cFn F (aCons (cVar 3) (aCons (cVar 4) (aCons (cVar 5) aNil))))))) (Sv.tOr (Sv.tNot (Sv.tB (cP (cFn G (aCons (cVar 3) (aCons (cVar 5) aNil)))))) (Sv.tB (cOp neP (cP (cCall (one R) (aCons (cVar 5) aNil))) (cVar 7))))) (sRet (cK (.bool false))) sNil
      [s0, s1, s2, some (.l xs), some (.d v), some (.l us), s6, some (.d (.str z))] = .nx [s0, s1, s2, some (.l zs), some (.d v), some (.d (.list us)), s6, some (.d (.str z))] := by
  have e := eq_str z
  simp [Sv.sNil, Sv.sCons, Sv.sPass, Sv.sBreak, Sv.sCont, Sv.sExpr, Sv.put, Sv.sSet, Sv.sRet, Sv.sRetN, Sv.sIf, Sv.cVar, Sv.cK, Sv.cE, Sv.cP, Sv.cOp, Sv.cUn, Sv.cChain, Sv.cIf, Sv.cAnd, Sv.cOr, Sv.cNot, Sv.tB, Sv.tAnd, Sv.tOr, Sv.tNot, Sv.tYes, Sv.aNil, Sv.aCons, Sv.aStar, Sv.cCall, Sv.cTup, Sv.cLst, Sv.cSl, Sv.cMeth, Sv.sSetIx, Sv.sPar2, Sv.sPar3, Sv.sAsg, Sv.sAug, Sv.hold, Sv.slot, Sv.outF, Sv.argsB, Sv.slotsOf, Sv.back, Sv.rds, Sv.datas, Sv.gN, Sv.gT, Sv.gL, Sv.gRun, Sv.cFn, Sv.fnD, Sv.sRaise, Sv.R.bind, Sv.R.opt, Sv.R.toS, Sv.RS.seq, Sv.Hd.rd, Sv.B.rd, Sv.toP, Sv.eqP, Sv.neP, Sv.one, Sv.two, Sv.getP, Sv.lenP, Sv.addP, Sv.subP, Sv.mulP, Sv.fdivP, Sv.modP, Sv.powP, Sv.intP, Sv.absP, Sv.max2P, Sv.min2P, Sv.negP, Sv.augAdd, Sv.setD, Sv.mAppend, Sv.ltB, Sv.gtB, Sv.leB, Sv.geB, Sv.ordB, Sv.small64, Sv.isP, Sv.wSeq, Sv.wRange1, Sv.sFor, h1, h2, hr, e]
end
theorem law_body (ns : List Int) (i : Nat) (s1 s3 s4 s5 s7 : Option B) : ∃ t3 t4 t5 t7, fb_law_1 [some (.d (.list (ns.map .int))), s1, some (.d (.int i)), s3, s4, s5, none, s7] = .nx [some (.d (.list (ns.map .int))), s1, some (.d (.int i)), t3, t4, t5, none, t7] := by
  obtain ⟨x, hx, k1⟩ := tap_spec ns i
  obtain ⟨labs, y, hy, l1, l2, l3, k2⟩ := labels_spec hx
  obtain ⟨r, z, r1, r2, hz, k3⟩ := turn_tap hy 4 (by omega) (by omega)
  obtain ⟨us, w, hw, u1, u2, u3, k4⟩ := trees_loop labs l1 (by omega) (some (.d (.list (ns.map .int)))) s1 (some (.d (.int i))) s5 s7 (fun i => .int (0 + (i : Nat))) (3 + r.toNat) 0 z hz
  rw [← List.range_eq_range'] at k4
  have hg : labsIn goods us := by
    have : ∀ t, labIn labs t → labIn goods t := lab_mono l3
    exact labsIn_mem.mpr fun t ht => this t (labsIn_mem.mp u3 t ht)
  have hr := repr_lst us (fun t ht => by have := u2 t ht; omega) hg (by omega)
  obtain ⟨a, b, c, rest, e⟩ : ∃ a b c rest, us = a :: b :: c :: rest := by
    cases us with
    | nil => simp only [List.length_nil] at u1; omega
    | cons a us =>
      cases us with
      | nil => simp only [List.length_cons, List.length_nil] at u1; omega
      | cons b us =>
        cases us with
        | nil => simp only [List.length_cons, List.length_nil] at u1; omega
        | cons c us => exact ⟨a, b, c, us, rfl⟩
  subst e
  simp only [List.length_cons] at u1
  obtain ⟨w2, hw2, k5⟩ := made_spec hw labs l1 (by omega) l3 a b c rest (fun t ht => by have := u2 t ht; omega) hg (by omega)
  obtain ⟨w3, hw3, k6⟩ := order_spec hw2 (a :: b :: c :: rest) (fun t ht => by have := u2 t ht; omega) hg (by simp) (by simp; omega)
  obtain ⟨xa, xb, xc, rfl⟩ := hx
  obtain ⟨ya, yb, yc, rfl⟩ := hy
  obtain ⟨za, zb, zc, rfl⟩ := hz
  obtain ⟨wa, wb, wc, rfl⟩ := hw
  obtain ⟨va, vb, vc, rfl⟩ := hw2
  obtain ⟨ta, tb, tc, rfl⟩ := hw3
  have hlen : (rngD 0 (3 + r.toNat)).length ≤ sizeLine := by rw [rngD, List.length_map, List.length_range, sizeLine_eq]; omega
  exact ⟨_, _, _, _, seq_gen (la1 k1) (seq_gen (la2 k2) (seq_gen (la3 (e1 := []) (e2 := []) (la3w k3 r1 r2) hlen k4) (seq_gen (la4 hr) (la5 (o1 := none) (o2 := none) k5 k6 hr))))⟩
theorem law_loop (ns : List Int) (s1 : Option B) : ∀ (n i : Nat) (s2 s3 s4 s5 s7 : Option B), ∃ t2 t3 t4 t5 t7, loopF (gN 2) fb_law_1 ((List.range' i n).map fun i => .int (0 + (i : Nat))) [some (.d (.list (ns.map .int))), s1, s2, s3, s4, s5, none, s7] = .nx [some (.d (.list (ns.map .int))), s1, t2, t3, t4, t5, none, t7]
  | 0, i, s2, s3, s4, s5, s7 => ⟨s2, s3, s4, s5, s7, rfl⟩
  | n + 1, i, s2, s3, s4, s5, s7 => by
    obtain ⟨t3, t4, t5, t7, k⟩ := law_body ns i s1 s3 s4 s5 s7
    obtain ⟨u2, u3, u4, u5, u7, k2⟩ := law_loop ns s1 n (i + 1) (some (.d (.int i))) t3 t4 t5 t7
    refine ⟨u2, u3, u4, u5, u7, ?_⟩
    have e0 : (0 : Int) + (i : Nat) = (i : Nat) := by omega
    rw [List.range'_succ, List.map_cons, loopF, e0]
    simp only [gN, RS.seq, List.set_cons_succ, List.set_cons_zero]
    rw [k]
    exact k2
end K02
end
section
set_option autoImplicit false
set_option linter.all false
set_option maxRecDepth 100000
namespace K02
open PySem Sv

theorem srt_is {a b : List Tr} (hb : b.Pairwise tlt) (h : ∀ x, x ∈ a ↔ x ∈ b) : srt a = b :=
  sorted_ext (srt_sorted a) hb fun x => by rw [srt_mem, h]
abbrev sA : Str := Str.ofString "a"
abbrev sB : Str := Str.ofString "b"
abbrev sC : Str := Str.ofString "c"
abbrev tA : Tr := .nd sA []
abbrev tAA : Tr := .nd sA [tA]
abbrev tB1 : Tr := .nd sB []
abbrev w0 : Tr := .nd sA [.nd sB [.nd sC []], tA]
abbrev w1 : Tr := .nd sA [tB1, .nd sB [tA]]
abbrev w2 : Tr := .nd sA [tB1, tA, tA]
theorem srt_nil : srt [] = [] := srt_is .nil fun x => Iff.rfl
theorem srt_one : srt [tB1, tAA, tA] = [tA, tB1, tAA] := by
  refine srt_is ?_ fun x => by simp only [List.mem_cons, List.not_mem_nil, or_false]; constructor <;> (rintro (h | h | h) <;> simp [h])
  refine .cons (fun y hy => ?_) (.cons (fun y hy => ?_) (.cons (fun y hy => absurd hy List.not_mem_nil) .nil))
  · simp only [List.mem_cons, List.not_mem_nil, or_false] at hy
    rcases hy with rfl | rfl
    · exact ⟨by decide +kernel, fun h => by injection h with h _; exact absurd h (by decide)⟩
    · exact ⟨by decide +kernel, fun h => by injection h with _ h; cases h⟩
  · simp only [List.mem_cons, List.not_mem_nil, or_false] at hy
    rcases hy with rfl
    exact ⟨by decide +kernel, fun h => by injection h with _ h; cases h⟩
theorem srt_two : srt [w0, w1, w2] = [w2, w1, w0] := by
  refine srt_is ?_ fun x => by simp only [List.mem_cons, List.not_mem_nil, or_false]; constructor <;> (rintro (h | h | h) <;> simp [h])
  refine .cons (fun y hy => ?_) (.cons (fun y hy => ?_) (.cons (fun y hy => absurd hy List.not_mem_nil) .nil))
  · simp only [List.mem_cons, List.not_mem_nil, or_false] at hy
    rcases hy with rfl | rfl
    · exact ⟨by decide +kernel, fun h => by injection h with _ h; injection h with _ h; injection h with _ h; cases h⟩
    · exact ⟨by decide +kernel, fun h => by injection h with _ h; injection h with _ h; injection h with _ h; cases h⟩
  · simp only [List.mem_cons, List.not_mem_nil, or_false] at hy
    rcases hy with rfl
    exact ⟨by decide +kernel, fun h => by injection h with _ h; injection h with h _; injection h with _ h; cases h⟩
section
variable {s0 s1 s2 s3 s4 s5 s6 s7 : Option B}
theorem lb1 {F : Fn} {o : Option B} (h : F [.d (.tuple (encs []))] = .ok (.d (.tuple (encs []))) [o]) :
    sIf (Sv.tB (cOp neP (cP (cFn F (aCons (cP (cTup aNil)) aNil))) (cP (cTup aNil)))) (sRet (cK (.bool false))) sNil [s0, s1, s2, s3, s4, s5, s6, s7] = .nx [s0, s1, s2, s3, s4, s5, s6, s7] := by
  have e := eq_tups [] (by simp)
  simp only [encs] at h e
  simp [Sv.sNil, Sv.sCons, Sv.sPass, Sv.sBreak, Sv.sCont, Sv.sExpr, Sv.put, Sv.sSet, Sv.sRet, Sv.sRetN, Sv.sIf, Sv.cVar, Sv.cK, Sv.cE, Sv.cP, Sv.cOp, Sv.cUn, Sv.cChain, Sv.cIf, Sv.cAnd, Sv.cOr, Sv.cNot, Sv.tB, Sv.tAnd, Sv.tOr, Sv.tNot, Sv.tYes, Sv.aNil, Sv.aCons, Sv.aStar, Sv.cCall, Sv.cTup, Sv.cLst, Sv.cSl, Sv.cMeth, Sv.sSetIx, Sv.sPar2, Sv.sPar3, Sv.sAsg, Sv.sAug, Sv.hold, Sv.slot, Sv.outF, Sv.argsB, Sv.slotsOf, Sv.back, Sv.rds, Sv.datas, Sv.gN, Sv.gT, Sv.gL, Sv.gRun, Sv.cFn, Sv.fnD, Sv.sRaise, Sv.R.bind, Sv.R.opt, Sv.R.toS, Sv.RS.seq, Sv.Hd.rd, Sv.B.rd, Sv.toP, Sv.eqP, Sv.neP, Sv.one, Sv.two, Sv.getP, Sv.lenP, Sv.addP, Sv.subP, Sv.mulP, Sv.fdivP, Sv.modP, Sv.powP, Sv.intP, Sv.absP, Sv.max2P, Sv.min2P, Sv.negP, Sv.augAdd, Sv.setD, Sv.mAppend, Sv.ltB, Sv.gtB, Sv.leB, Sv.geB, Sv.ordB, Sv.small64, Sv.isP, Sv.wSeq, Sv.wRange1, Sv.sFor, h, e]
theorem lb2 {F : Fn} {o : Option B} (h : F [.d (.tuple (encs [tB1, tAA, tA]))] = .ok (.d (.tuple (encs [tA, tB1, tAA]))) [o]) :
    sIf (Sv.tB (cOp neP (cP (cFn F (aCons (cP (cTup (aCons (cE (cTup (aCons (cK (.str "b")) aNil))) (aCons (cE (cTup (aCons (cK (.str "a")) (aCons (cE (cTup (aCons (cK (.str "a")) aNil))) aNil)))) (aCons (cE (cTup (aCons (cK (.str "a")) aNil))) aNil))))) aNil))) (cP (cTup (aCons (cE (cTup (aCons (cK (.str "a")) aNil))) (aCons (cE (cTup (aCons (cK (.str "b")) aNil))) (aCons (cE (cTup (aCons (cK (.str "a")) (aCons (cE (cTup (aCons (cK (.str "a")) aNil))) aNil)))) aNil))))))) (sRet (cK (.bool false))) sNil
      [s0, s1, s2, s3, s4, s5, s6, s7] = .nx [s0, s1, s2, s3, s4, s5, s6, s7] := by
  have e := eq_tups [tA, tB1, tAA] (by simp [size, sizes])
  have z1 : 1 ≤ sizeLine := by rw [sizeLine_eq]; decide
  have z2 : 2 ≤ sizeLine := by rw [sizeLine_eq]; decide
  have z3 : 3 ≤ sizeLine := by rw [sizeLine_eq]; decide
  simp only [enc, encs] at h e
  simp [Sv.sNil, Sv.sCons, Sv.sPass, Sv.sBreak, Sv.sCont, Sv.sExpr, Sv.put, Sv.sSet, Sv.sRet, Sv.sRetN, Sv.sIf, Sv.cVar, Sv.cK, Sv.cE, Sv.cP, Sv.cOp, Sv.cUn, Sv.cChain, Sv.cIf, Sv.cAnd, Sv.cOr, Sv.cNot, Sv.tB, Sv.tAnd, Sv.tOr, Sv.tNot, Sv.tYes, Sv.aNil, Sv.aCons, Sv.aStar, Sv.cCall, Sv.cTup, Sv.cLst, Sv.cSl, Sv.cMeth, Sv.sSetIx, Sv.sPar2, Sv.sPar3, Sv.sAsg, Sv.sAug, Sv.hold, Sv.slot, Sv.outF, Sv.argsB, Sv.slotsOf, Sv.back, Sv.rds, Sv.datas, Sv.gN, Sv.gT, Sv.gL, Sv.gRun, Sv.cFn, Sv.fnD, Sv.sRaise, Sv.R.bind, Sv.R.opt, Sv.R.toS, Sv.RS.seq, Sv.Hd.rd, Sv.B.rd, Sv.toP, Sv.eqP, Sv.neP, Sv.one, Sv.two, Sv.getP, Sv.lenP, Sv.addP, Sv.subP, Sv.mulP, Sv.fdivP, Sv.modP, Sv.powP, Sv.intP, Sv.absP, Sv.max2P, Sv.min2P, Sv.negP, Sv.augAdd, Sv.setD, Sv.mAppend, Sv.ltB, Sv.gtB, Sv.leB, Sv.geB, Sv.ordB, Sv.small64, Sv.isP, Sv.wSeq, Sv.wRange1, Sv.sFor, h, e, z1, z2, z3]
theorem lb3 :
    sSet 1 (cTup (aCons (cE (cTup (aCons (cK (.str "a")) (aCons (cE (cTup (aCons (cK (.str "b")) (aCons (cE (cTup (aCons (cK (.str "c")) aNil))) aNil)))) (aCons (cE (cTup (aCons (cK (.str "a")) aNil))) aNil))))) (aCons (cE (cTup (aCons (cK (.str "a")) (aCons (cE (cTup (aCons (cK (.str "b")) aNil))) (aCons (cE (cTup (aCons (cK (.str "b")) (aCons (cE (cTup (aCons (cK (.str "a")) aNil))) aNil)))) aNil))))) (aCons (cE (cTup (aCons (cK (.str "a")) (aCons (cE (cTup (aCons (cK (.str "b")) aNil))) (aCons (cE (cTup (aCons (cK (.str "a")) aNil))) (aCons (cE (cTup (aCons (cK (.str "a")) aNil))) aNil)))))) aNil))))
      [s0, s1, s2, s3, s4, s5, s6, s7] = .nx [s0, some (.d (.tuple (encs [w0, w1, w2]))), s2, s3, s4, s5, s6, s7] := by
  have z1 : 1 ≤ sizeLine := by rw [sizeLine_eq]; decide
  have z2 : 2 ≤ sizeLine := by rw [sizeLine_eq]; decide
  have z3 : 3 ≤ sizeLine := by rw [sizeLine_eq]; decide
  have z4 : 4 ≤ sizeLine := by rw [sizeLine_eq]; decide
  simp only [enc, encs]
  simp [Sv.sNil, Sv.sCons, Sv.sPass, Sv.sBreak, Sv.sCont, Sv.sExpr, Sv.put, Sv.sSet, Sv.sRet, Sv.sRetN, Sv.sIf, Sv.cVar, Sv.cK, Sv.cE, Sv.cP, Sv.cOp, Sv.cUn, Sv.cChain, Sv.cIf, Sv.cAnd, Sv.cOr, Sv.cNot, Sv.tB, Sv.tAnd, Sv.tOr, Sv.tNot, Sv.tYes, Sv.aNil, Sv.aCons, Sv.aStar, Sv.cCall, Sv.cTup, Sv.cLst, Sv.cSl, Sv.cMeth, Sv.sSetIx, Sv.sPar2, Sv.sPar3, Sv.sAsg, Sv.sAug, Sv.hold, Sv.slot, Sv.outF, Sv.argsB, Sv.slotsOf, Sv.back, Sv.rds, Sv.datas, Sv.gN, Sv.gT, Sv.gL, Sv.gRun, Sv.cFn, Sv.fnD, Sv.sRaise, Sv.R.bind, Sv.R.opt, Sv.R.toS, Sv.RS.seq, Sv.Hd.rd, Sv.B.rd, Sv.toP, Sv.eqP, Sv.neP, Sv.one, Sv.two, Sv.getP, Sv.lenP, Sv.addP, Sv.subP, Sv.mulP, Sv.fdivP, Sv.modP, Sv.powP, Sv.intP, Sv.absP, Sv.max2P, Sv.min2P, Sv.negP, Sv.augAdd, Sv.setD, Sv.mAppend, Sv.ltB, Sv.gtB, Sv.leB, Sv.geB, Sv.ordB, Sv.small64, Sv.isP, Sv.wSeq, Sv.wRange1, Sv.sFor, z1, z2, z3, z4]
theorem lb4 {F : Fn} {a b c : Tr} (hz : size a ≤ 170 ∧ size b ≤ 170 ∧ size c ≤ 170) {o : Option B} (h : F [.d (.tuple (encs [a, b, c]))] = .ok (.d (.tuple (encs [c, b, a]))) [o]) :
    sIf (Sv.tB (cOp neP (cP (cFn F (aCons (cVar 1) aNil))) (cP (cTup (aCons (cE (cOp getP (cVar 1) (cK (.int 2)))) (aCons (cE (cOp getP (cVar 1) (cK (.int 1)))) (aCons (cE (cOp getP (cVar 1) (cK (.int 0)))) aNil))))))) (sRet (cK (.bool false))) sNil
      [s0, some (.d (.tuple (encs [a, b, c]))), s2, s3, s4, s5, s6, s7] = .nx [s0, some (.d (.tuple (encs [a, b, c]))), s2, s3, s4, s5, s6, s7] := by
  have e := eq_tups [c, b, a] (by simp; omega)
  have z3 : 3 ≤ sizeLine := by rw [sizeLine_eq]; decide
  simp only [encs] at h e ⊢
  have a0 : L2.atI [enc a, enc b, enc c] 0 = some (enc a) := atI_nat _ 0 _ rfl
  have a1 : L2.atI [enc a, enc b, enc c] 1 = some (enc b) := atI_nat _ 1 _ rfl
  have a2 : L2.atI [enc a, enc b, enc c] 2 = some (enc c) := atI_nat _ 2 _ rfl
  simp [Sv.sNil, Sv.sCons, Sv.sPass, Sv.sBreak, Sv.sCont, Sv.sExpr, Sv.put, Sv.sSet, Sv.sRet, Sv.sRetN, Sv.sIf, Sv.cVar, Sv.cK, Sv.cE, Sv.cP, Sv.cOp, Sv.cUn, Sv.cChain, Sv.cIf, Sv.cAnd, Sv.cOr, Sv.cNot, Sv.tB, Sv.tAnd, Sv.tOr, Sv.tNot, Sv.tYes, Sv.aNil, Sv.aCons, Sv.aStar, Sv.cCall, Sv.cTup, Sv.cLst, Sv.cSl, Sv.cMeth, Sv.sSetIx, Sv.sPar2, Sv.sPar3, Sv.sAsg, Sv.sAug, Sv.hold, Sv.slot, Sv.outF, Sv.argsB, Sv.slotsOf, Sv.back, Sv.rds, Sv.datas, Sv.gN, Sv.gT, Sv.gL, Sv.gRun, Sv.cFn, Sv.fnD, Sv.sRaise, Sv.R.bind, Sv.R.opt, Sv.R.toS, Sv.RS.seq, Sv.Hd.rd, Sv.B.rd, Sv.toP, Sv.eqP, Sv.neP, Sv.one, Sv.two, Sv.getP, Sv.lenP, Sv.addP, Sv.subP, Sv.mulP, Sv.fdivP, Sv.modP, Sv.powP, Sv.intP, Sv.absP, Sv.max2P, Sv.min2P, Sv.negP, Sv.augAdd, Sv.setD, Sv.mAppend, Sv.ltB, Sv.gtB, Sv.leB, Sv.geB, Sv.ordB, Sv.small64, Sv.isP, Sv.wSeq, Sv.wRange1, Sv.sFor, h, e, z3, a0, a1, a2]
end
theorem law_true (ns : List Int) (hl : ns.length ≤ 63) (hb : ∀ i ∈ ns, Builtin.Int.intBits i ≤ 1048576) : ∃ qs, d_law [.d (.list (ns.map .int))] = .ok (.d (.bool true)) qs := by
  have g1 : ∀ t ∈ [tB1, tAA, tA], labIn goods t := by simp [labIn, labsIn, goods]
  have g2 : ∀ t ∈ [w0, w1, w2], labIn goods t := by simp [labIn, labsIn, goods]
  have k1 := sorted_docs_spec [] (by simp) (by simp) (by simp)
  rw [srt_nil] at k1
  have k2 := sorted_docs_spec [tB1, tAA, tA] (by simp [size, sizes]) g1 (by simp)
  rw [srt_one] at k2
  have k4 := sorted_docs_spec [w0, w1, w2] (by simp [size, sizes]) g2 (by simp)
  rw [srt_two] at k4
  have e1 : ∀ (a : Option B) (r : List (Option B)), wRange1 (cP (cCall (two max2P) (aCons (cK (.int 1)) (aCons (cP (cCall (two min2P) (aCons (cK (.int 12)) (aCons (cP (cCall (one lenP) (aCons (cVar 0) aNil))) aNil)))) aNil)))) (some (.d (.list (ns.map .int))) :: a :: r) = .ok (rngD 0 (max 1 (min 12 ns.length))) (some (.d (.list (ns.map .int))) :: a :: r) := by
    intro a r
    have h1 : (cP (cCall (two max2P) (aCons (cK (.int 1)) (aCons (cP (cCall (two min2P) (aCons (cK (.int 12)) (aCons (cP (cCall (one lenP) (aCons (cVar 0) aNil))) aNil)))) aNil)))) (some (.d (.list (ns.map .int))) :: a :: r) = .ok (.v (.d (.int (max 1 (min 12 ns.length : Nat) : Nat)))) (some (.d (.list (ns.map .int))) :: a :: r) := by
      simp [Sv.sNil, Sv.sCons, Sv.sPass, Sv.sBreak, Sv.sCont, Sv.sExpr, Sv.put, Sv.sSet, Sv.sRet, Sv.sRetN, Sv.sIf, Sv.cVar, Sv.cK, Sv.cE, Sv.cP, Sv.cOp, Sv.cUn, Sv.cChain, Sv.cIf, Sv.cAnd, Sv.cOr, Sv.cNot, Sv.tB, Sv.tAnd, Sv.tOr, Sv.tNot, Sv.tYes, Sv.aNil, Sv.aCons, Sv.aStar, Sv.cCall, Sv.cTup, Sv.cLst, Sv.cSl, Sv.cMeth, Sv.sSetIx, Sv.sPar2, Sv.sPar3, Sv.sAsg, Sv.sAug, Sv.hold, Sv.slot, Sv.outF, Sv.argsB, Sv.slotsOf, Sv.back, Sv.rds, Sv.datas, Sv.gN, Sv.gT, Sv.gL, Sv.gRun, Sv.cFn, Sv.fnD, Sv.sRaise, Sv.R.bind, Sv.R.opt, Sv.R.toS, Sv.RS.seq, Sv.Hd.rd, Sv.B.rd, Sv.toP, Sv.eqP, Sv.neP, Sv.one, Sv.two, Sv.getP, Sv.lenP, Sv.addP, Sv.subP, Sv.mulP, Sv.fdivP, Sv.modP, Sv.powP, Sv.intP, Sv.absP, Sv.max2P, Sv.min2P, Sv.negP, Sv.augAdd, Sv.setD, Sv.mAppend, Sv.ltB, Sv.gtB, Sv.leB, Sv.geB, Sv.ordB, Sv.small64, Sv.isP, Sv.wSeq, Sv.sFor]
      omega
    have k := wr_gen (j := ((max 1 (min 12 ns.length : Nat) : Nat) : Int)) h1 rfl (by omega)
    rw [Int.toNat_natCast] at k
    exact k
  obtain ⟨t2, t3, t4, t5, t7, k5⟩ := law_loop ns (some (.d (.tuple (encs [w0, w1, w2])))) (max 1 (min 12 ns.length)) 0 none none none none none
  rw [← List.range_eq_range'] at k5
  refine ⟨_, fn_gen (e := [some (.d (.list (ns.map .int))), some (.d (.tuple (encs [w0, w1, w2]))), t2, t3, t4, t5, none, t7]) ?_⟩
  exact seq_gen (lb1 k1) (seq_gen (lb2 k2) (seq_gen lb3 (seq_gen (lb4 (by simp [size, sizes]) k4) (seq_gen (for_gen (e1 _ _) k5) rfl))))
end K02
end
section
set_option autoImplicit false
set_option linter.all false
set_option maxRecDepth 100000
set_option maxHeartbeats 2000000
namespace K02
open PySem PySem.Spec L2 Sv
open PyProof.Rows hiding St
/-- what the walks know of the top -/
structure Fa (K : PySem.W.Frag) (mg : Str → Option Value) : Prop where
  x_InvalidDocument : ExF K mg "InvalidDocument"
  x_InvalidName : ExF K mg "InvalidName"
  x_InvalidOperation : ExF K mg "InvalidOperation"
  n_abs : mg "abs" = none
  n_all : mg "all" = none
  n_bool : mg "bool" = none
  n_enumerate : mg "enumerate" = none
  n_int : mg "int" = none
  n_isinstance : mg "isinstance" = none
  n_len : mg "len" = none
  n_max : mg "max" = none
  n_min : mg "min" = none
  n_range : mg "range" = none
  n_repr : mg "repr" = none
  n_sorted : mg "sorted" = none
  n_str : mg "str" = none
  n_sum : mg "sum" = none
  n_tuple : mg "tuple" = none
  i_MAX_NODES : ∃ t, mg "MAX_NODES" = some (.int 200 t)
  i_MAX_SIGNS : ∃ t, mg "MAX_SIGNS" = some (.int 8 t)
  s_LETTERS : ∃ t, mg "LETTERS" = some (.str "abcdefghijklmnopqrstuvwxyz" t)
  f_size_in : DefF K mg "size_in" (top 20) []
  f_ordered_documents : DefF K mg "ordered_documents" (top 22) []
  f_is_name : DefF K mg "is_name" (top 12) []
  f_is_tree : DefF K mg "is_tree" (top 14) [.non]
  f_is_document : DefF K mg "is_document" (top 15) []
  f_sorted_documents : DefF K mg "sorted_documents" (top 28) []
  f_tap : DefF K mg "_law_tap" (top 30) []
  f_turn : DefF K mg "_law_turn" (top 31) []
  f_labels : DefF K mg "_law_labels" (top 38) []
  f_weight : DefF K mg "_law_weight" (top 33) []
  f_pick : DefF K mg "_law_pick" (top 32) []
  f_tree : DefF K mg "_law_tree" (top 34) []
  f_spots : DefF K mg "_law_spots" (top 35) []
  f_at : DefF K mg "_law_at" (top 36) []
  f_document_from : DefF K mg "document_from" (top 24) []
  f_make_document : DefF K mg "make_document" (top 25) []
  f_put : DefF K mg "_law_put" (top 37) []
  f_require_document : DefF K mg "require_document" (top 16) []
  f_is_integer : DefF K mg "is_integer" (top 13) []
  f_is_node_in : DefF K mg "is_node_in" (top 17) []
  f_require_node : DefF K mg "require_node" (top 18) []
  f_put_in : DefF K mg "put_in" (top 21) []
  f_subtree_in : DefF K mg "subtree_in" (top 19) []
  f_without_node : DefF K mg "without_node" (top 27) []
  f_cut : DefF K mg "_law_cut" (top 40) []
  f_require_small : DefF K mg "require_small" (top 23) []
  f_with_child : DefF K mg "with_child" (top 26) []
  f_made_right : DefF K mg "_law_made_right" (top 41) []
  f_sorted : DefF K mg "_law_sorted" (top 39) []
  f_order_right : DefF K mg "_law_order_right" (top 42) []
  f_law : DefF K mg "law" (top 43) []
section
variable {P : Program} {w : World} {K : PySem.W.Frag} {mg : Str → Option Value} {base : Heap}
theorem sc_size_in : FnScope N_size_in ["document"] (defScope (top 20)) := ⟨rfl, rfl, rfl, by decide +kernel, rfl, by decide +kernel, by decide +kernel⟩
theorem bd_size_in : BindN "size_in" (top 20) ["document"] := fun _ _ _ _ _ _ us hl => match us, hl with | [_], _ => rfl
theorem ok_size_in (h : Fa K mg) : Fun1 P w K mg base 1 "size_in" ["document"] d_size_in := by
  refine def_sv h.f_size_in sc_size_in bd_size_in fun cdv A outer s H E hr => ?_
  have hu := hr.u
  have hgd := hr.gd
  exact (b_cons (s_set (i := 1) sc_size_in.nd rfl (.inl rfl) e_int (by decide))
    (b_cons (s_set (i := 2) sc_size_in.nd rfl (.inl rfl) (e_lst (a_cons (e_hold (e_var (i := 0) rfl (.inl rfl))) (pl_E _) a_nil)) (by decide))
    (b_cons (s_while 100000 (passes_of rfl) (t_cmp (o_ne hu) (e_var (i := 2) rfl (.inl rfl)) (e_peek (e_lst a_nil)) (pl_var _) (pl_P _) (nomark _) hp_ne) (b_cons (s_aug (i := 1) sc_size_in.nd rfl (.inl rfl) e_int (pl_k _) ip_addD (by decide))
    (b_one (s_expr (e_meth PySem.F.slot_list_extend PySem.F.type_list_extend m_extend (e_var (i := 2) rfl (.inl rfl)) (a_cons (e_hold (e_sl sl_P (e_peek (e_meth0 PySem.F.slot_list_pop PySem.F.type_list_pop m_pop (e_var (i := 2) rfl (.inl rfl)))) (pl_P _) (.some e_int (pl_k _)) .none)) (pl_E _) a_nil))))))
    (b_one (s_ret (e_var (i := 1) rfl (.inl rfl)))))))
theorem sc_ordered_documents : FnScope N_ordered_documents ["documents"] (defScope (top 22)) := ⟨rfl, rfl, rfl, by decide +kernel, rfl, by decide +kernel, by decide +kernel⟩
theorem bd_ordered_documents : BindN "ordered_documents" (top 22) ["documents"] := fun _ _ _ _ _ _ us hl => match us, hl with | [_], _ => rfl
theorem ok_ordered_documents (h : Fa K mg) : Fun1 P w K mg base 2 "ordered_documents" ["documents"] d_ordered_documents := by
  refine def_sv h.f_ordered_documents sc_ordered_documents bd_ordered_documents fun cdv A outer s H E hr => ?_
  have hu := hr.u
  have hgd := hr.gd
  exact (b_cons (s_set (i := 1) sc_ordered_documents.nd rfl (.inl rfl) (e_lst a_nil) (by decide))
    (b_cons (s_for (passes_of rfl) rfl (i_seq (e_callB (f_sorted hu) rfl h.n_sorted boot_sorted' (a_cons (e_peek (e_comp (own := [("document", 3)]) (io := [0, 1, 2]) rfl sc_ordered_documents.nd (i_seq (e_var (i := 0) rfl (.inl rfl))) (blkOk_by (N := N_ordered_documents) (sc := defScope (top 22)) (by decide +kernel)) (fun _ _ _ _ _ => (g_name (i := 3) sc_ordered_documents.nd rfl (.inl rfl) (by decide))) (fun _ _ _ _ _ => ts_nil) (fun _ _ _ _ _ => (e_tup (a_cons (e_hold (e_f (ok_size_in h) (hr.mono (by decide)) rfl (takesF _) (a_cons (e_var (i := 3) rfl (.inl rfl)) (pl_var _) a_nil) (al_cons al_nil))) (pl_E _) (a_cons (e_hold (e_var (i := 3) rfl (.inl rfl))) (pl_E _) a_nil)))) (hio_by (N := N_ordered_documents) (by decide)) (tame_gN _))) (pl_P _) a_nil))) (g_tup rfl (gs_cons (g_name (i := 2) sc_ordered_documents.nd rfl (.inl rfl) (by decide)) (gs_cons (g_name (i := 3) sc_ordered_documents.nd rfl (.inl rfl) (by decide)) gs_nil)) (tm_cons (tame_gN _) (tm_cons (tame_gN _) tm_nil))) (b_one (s_if (t_w (w_or (t_cmp (o_eq hu) (e_var (i := 1) rfl (.inl rfl)) (e_peek (e_lst a_nil)) (pl_var _) (pl_P _) (nomark _) hp_eq) (w_or1 (t_cmp (o_ne hu) (e_peek (e_ix ix_get (e_var (i := 1) rfl (.inl rfl)) (e_peek (e_un u_neg e_int (pl_k _))) (pl_var _) (pl_P _) (fun _ _ => rfl))) (e_var (i := 3) rfl (.inl rfl)) (pl_P _) (pl_var _) (nomark _) hp_ne)))) (b_one (s_expr (e_meth PySem.F.slot_list_append PySem.F.type_list_append m_append (e_var (i := 1) rfl (.inl rfl)) (a_cons (e_hold (e_var (i := 3) rfl (.inl rfl))) (pl_E _) a_nil)))) b_nil)))
    (b_one (s_ret (e_var (i := 1) rfl (.inl rfl))))))
theorem sc_is_name : FnScope N_is_name ["value"] (defScope (top 12)) := ⟨rfl, rfl, rfl, by decide +kernel, rfl, by decide +kernel, by decide +kernel⟩
theorem bd_is_name : BindN "is_name" (top 12) ["value"] := fun _ _ _ _ _ _ us hl => match us, hl with | [_], _ => rfl
theorem ok_is_name (h : Fa K mg) : Fun1 P w K mg base 1 "is_name" ["value"] d_is_name := by
  refine def_sv h.f_is_name sc_is_name bd_is_name fun cdv A outer s H E hr => ?_
  have hu := hr.u
  have hgd := hr.gd
  exact (b_one (s_ret (e_and (e_peek (e_isi isi_str h.n_isinstance rfl (e_var (i := 0) rfl (.inl rfl)) (pl_var _) rfl h.n_str boot_str')) (pl_P _) (e_and (e_peek (e_chain (o_le hu) (o_le hu) e_int (e_peek (e_callB f_len rfl h.n_len boot_len' (a_cons (e_var (i := 0) rfl (.inl rfl)) (pl_var _) a_nil))) (e_gi h.i_MAX_SIGNS rfl) (pl_k _) (pl_P _) (pl_k _))) (pl_P _) (e_one (e_callB (f_all rfl) rfl h.n_all boot_all' (a_cons (e_peek (e_comp (own := [("sign", 1)]) (io := [0]) rfl sc_is_name.nd (i_str (e_var (i := 0) rfl (.inl rfl))) (blkOk_by (N := N_is_name) (sc := defScope (top 12)) (by decide +kernel)) (fun _ _ _ _ _ => (g_name (i := 1) sc_is_name.nd rfl (.inl rfl) (by decide))) (fun _ _ _ _ _ => ts_nil) (fun _ _ _ _ _ => (e_cmp (o_in hu) (e_var (i := 1) rfl (.inl rfl)) (e_gs h.s_LETTERS rfl) (pl_var _) (pl_k _) rfl)) (hio_by (N := N_is_name) (by decide)) (tame_gN _))) (pl_P _) a_nil)))))))
theorem sc_is_tree : FnScope N_is_tree ["value", "most"] (defScope (top 14)) := ⟨rfl, rfl, rfl, by decide +kernel, rfl, by decide +kernel, by decide +kernel⟩
theorem bd_is_tree : BindD "is_tree" (top 14) ["value", "most"] 1 := fun _ _ _ _ _ _ _ us its hl hi => match us, its, hl, hi with | [_, _], [_], _, _ => ⟨_, rfl, rfl⟩
theorem ok_is_tree (h : Fa K mg) : Fun1 P w K mg base 2 "is_tree" ["value", "most"] d_is_tree := by
  refine def_svD h.f_is_tree sc_is_tree rfl (by decide) bd_is_tree fun cdv A outer s H E hr => ?_
  have hu := hr.u
  have hgd := hr.gd
  exact (b_cons (s_set (i := 2) sc_is_tree.nd rfl (.inl rfl) (e_lst (a_cons (e_hold (e_var (i := 0) rfl (.inl rfl))) (pl_E _) a_nil)) (by decide))
    (b_cons (s_set (i := 3) sc_is_tree.nd rfl (.inl rfl) e_int (by decide))
    (b_cons (s_while 100000 (passes_of rfl) (t_cmp (o_ne hu) (e_var (i := 2) rfl (.inl rfl)) (e_peek (e_lst a_nil)) (pl_var _) (pl_P _) (nomark _) hp_ne) (b_cons (s_set (i := 4) sc_is_tree.nd rfl (.inl rfl) (e_meth0 PySem.F.slot_list_pop PySem.F.type_list_pop m_pop (e_var (i := 2) rfl (.inl rfl))) (by decide))
    (b_cons (s_aug (i := 3) sc_is_tree.nd rfl (.inl rfl) e_int (pl_k _) ip_addD (by decide))
    (b_cons (s_if (t_w (w_and (t_cmp o_isNot (e_var (i := 1) rfl (.inl rfl)) e_non (pl_var _) (pl_k _) (nomark _) (hp_to _)) (w_and1 (t_cmp (o_gt hu) (e_var (i := 3) rfl (.inl rfl)) (e_var (i := 1) rfl (.inl rfl)) (pl_var _) (pl_var _) (nomark _) (hp_to _))))) (b_one (s_ret e_bl)) b_nil)
    (b_cons (s_if (t_w (w_or (t_not (t_val (e_peek (e_isi isi_tup h.n_isinstance rfl (e_var (i := 4) rfl (.inl rfl)) (pl_var _) rfl h.n_tuple boot_tuple')) (pl_P _))) (w_or (t_cmp (o_eq hu) (e_var (i := 4) rfl (.inl rfl)) (e_peek (e_tup a_nil)) (pl_var _) (pl_P _) (nomark _) hp_eq) (w_or1 (t_not (t_val (e_peek (e_f (ok_is_name h) (hr.mono (by decide)) rfl (takes_of rfl rfl rfl rfl) (a_cons (e_peek (e_ix ix_get (e_var (i := 4) rfl (.inl rfl)) e_int (pl_var _) (pl_k _) (fun _ _ => rfl))) (pl_P _) a_nil) (al_cons al_nil))) (pl_P _))))))) (b_one (s_ret e_bl)) b_nil)
    (b_one (s_expr (e_meth PySem.F.slot_list_extend PySem.F.type_list_extend m_extend (e_var (i := 2) rfl (.inl rfl)) (a_cons (e_hold (e_sl sl_P (e_var (i := 4) rfl (.inl rfl)) (pl_var _) (.some e_int (pl_k _)) .none)) (pl_E _) a_nil)))))))))
    (b_one (s_ret e_bl)))))
theorem sc_is_document : FnScope N_is_document ["value"] (defScope (top 15)) := ⟨rfl, rfl, rfl, by decide +kernel, rfl, by decide +kernel, by decide +kernel⟩
theorem bd_is_document : BindN "is_document" (top 15) ["value"] := fun _ _ _ _ _ _ us hl => match us, hl with | [_], _ => rfl
theorem ok_is_document (h : Fa K mg) : Fun1 P w K mg base 3 "is_document" ["value"] d_is_document := by
  refine def_sv h.f_is_document sc_is_document bd_is_document fun cdv A outer s H E hr => ?_
  have hu := hr.u
  have hgd := hr.gd
  exact (b_one (s_ret (e_f (ok_is_tree h) (hr.mono (by decide)) rfl (takes_of rfl rfl rfl rfl) (a_cons (e_var (i := 0) rfl (.inl rfl)) (pl_var _) (a_cons (e_gi h.i_MAX_NODES rfl) (pl_k _) a_nil)) (al_cons (al_cons al_nil)))))
theorem sc_sorted_documents : FnScope N_sorted_documents ["documents"] (defScope (top 28)) := ⟨rfl, rfl, rfl, by decide +kernel, rfl, by decide +kernel, by decide +kernel⟩
theorem bd_sorted_documents : BindN "sorted_documents" (top 28) ["documents"] := fun _ _ _ _ _ _ us hl => match us, hl with | [_], _ => rfl
theorem ok_sorted_documents (h : Fa K mg) : Fun1 P w K mg base 4 "sorted_documents" ["documents"] d_sorted_documents := by
  refine def_sv h.f_sorted_documents sc_sorted_documents bd_sorted_documents fun cdv A outer s H E hr => ?_
  have hu := hr.u
  have hgd := hr.gd
  exact (b_cons (s_if (t_w (w_or (t_not (t_val (e_peek (e_isi isi_tup h.n_isinstance rfl (e_var (i := 0) rfl (.inl rfl)) (pl_var _) rfl h.n_tuple boot_tuple')) (pl_P _))) (w_or1 (t_not (t_val (e_peek (e_callB (f_all rfl) rfl h.n_all boot_all' (a_cons (e_peek (e_comp (own := [("document", 1)]) (io := [0]) rfl sc_sorted_documents.nd (i_seq (e_var (i := 0) rfl (.inl rfl))) (blkOk_by (N := N_sorted_documents) (sc := defScope (top 28)) (by decide +kernel)) (fun _ _ _ _ _ => (g_name (i := 1) sc_sorted_documents.nd rfl (.inl rfl) (by decide))) (fun _ _ _ _ _ => ts_nil) (fun _ _ _ _ _ => (e_f (ok_is_document h) (hr.mono (by decide)) rfl (takesF _) (a_cons (e_var (i := 1) rfl (.inl rfl)) (pl_var _) a_nil) (al_cons al_nil))) (hio_by (N := N_sorted_documents) (by decide)) (tame_gN _))) (pl_P _) a_nil))) (pl_P _)))))) (b_one (s_raiseO h.x_InvalidDocument rfl (takes_of rfl rfl rfl rfl) rfl)) b_nil)
    (b_one (s_ret (e_callTy f_tuple rfl h.n_tuple boot_tuple' (a_cons (e_peek (e_f (ok_ordered_documents h) (hr.mono (by decide)) rfl (takes_of rfl rfl rfl rfl) (a_cons (e_var (i := 0) rfl (.inl rfl)) (pl_var _) a_nil) (al_cons al_nil))) (pl_P _) a_nil)))))
theorem sc_tap : FnScope N_tap ["_law_script", "_law_at_here"] (defScope (top 30)) := ⟨rfl, rfl, rfl, by decide +kernel, rfl, by decide +kernel, by decide +kernel⟩
theorem bd_tap : BindN "_law_tap" (top 30) ["_law_script", "_law_at_here"] := fun _ _ _ _ _ _ us hl => match us, hl with | [_, _], _ => rfl
theorem ok_tap (h : Fa K mg) : Fun1 P w K mg base 1 "_law_tap" ["_law_script", "_law_at_here"] d_tap := by
  refine def_sv h.f_tap sc_tap bd_tap fun cdv A outer s H E hr => ?_
  have hu := hr.u
  have hgd := hr.gd
  exact (b_cons (s_set (i := 2) sc_tap.nd rfl (.inl rfl) (e_op o_add (e_peek (e_op o_mul e_int (e_var (i := 1) rfl (.inl rfl)) (pl_k _) (pl_var _))) e_int (pl_P _) (pl_k _)) (by decide))
    (b_cons (s_if (t_cmp (o_lt hu) (e_var (i := 1) rfl (.inl rfl)) (e_peek (e_callB f_len rfl h.n_len boot_len' (a_cons (e_var (i := 0) rfl (.inl rfl)) (pl_var _) a_nil))) (pl_var _) (pl_P _) (nomark _) (hp_to _)) (b_one (s_set (i := 2) sc_tap.nd rfl (.inl rfl) (e_ix ix_get (e_var (i := 0) rfl (.inl rfl)) (e_var (i := 1) rfl (.inl rfl)) (pl_var _) (pl_var _) (fun _ _ => rfl)) (by decide))) b_nil)
    (b_cons (s_set (i := 3) sc_tap.nd rfl (.inl rfl) (e_op o_mod (e_peek (e_callTy f_int rfl h.n_int boot_int' (a_cons (e_peek (e_callB f_abs rfl h.n_abs boot_abs' (a_cons (e_var (i := 2) rfl (.inl rfl)) (pl_var _) a_nil))) (pl_P _) a_nil))) (e_peek (e_op o_pow (e_peek (e_op o_pow e_int e_int (pl_k _) (pl_k _))) e_int (pl_P _) (pl_k _))) (pl_P _) (pl_P _)) (by decide))
    (b_cons (s_set (i := 4) sc_tap.nd rfl (.inl rfl) (e_op o_add (e_peek (e_op o_add (e_peek (e_op o_add (e_peek (e_op o_mul (e_peek (e_op o_mod (e_peek (e_callTy f_int rfl h.n_int boot_int' (a_cons (e_var (i := 3) rfl (.inl rfl)) (pl_var _) a_nil))) e_int (pl_P _) (pl_k _))) e_int (pl_P _) (pl_k _))) (e_peek (e_op o_mul e_int (e_var (i := 1) rfl (.inl rfl)) (pl_k _) (pl_var _))) (pl_P _) (pl_P _))) (e_peek (e_op o_mul e_int (e_peek (e_callTy f_int rfl h.n_int boot_int' (a_cons (e_peek (e_cmp (o_lt hu) (e_var (i := 2) rfl (.inl rfl)) e_int (pl_var _) (pl_k _) (nomark _))) (pl_P _) a_nil))) (pl_k _) (pl_P _))) (pl_P _) (pl_P _))) e_int (pl_P _) (pl_k _)) (by decide))
    (b_one (s_ret (e_lst (a_cons (e_hold (e_callB (f_max2 rfl) rfl h.n_max boot_max' (a_cons e_int (pl_k _) (a_cons (e_peek (e_op o_sub (e_var (i := 3) rfl (.inl rfl)) (e_peek (e_op o_pow e_int e_int (pl_k _) (pl_k _))) (pl_var _) (pl_P _))) (pl_P _) a_nil)))) (pl_E _) (a_cons (e_hold (e_op o_mod (e_peek (e_callTy f_int rfl h.n_int boot_int' (a_cons (e_var (i := 4) rfl (.inl rfl)) (pl_var _) a_nil))) e_int (pl_P _) (pl_k _))) (pl_E _) (a_cons e_int (pl_k _) a_nil))))))))))
theorem sc_turn : FnScope N_turn ["_law_tap_here", "_law_total"] (defScope (top 31)) := ⟨rfl, rfl, rfl, by decide +kernel, rfl, by decide +kernel, by decide +kernel⟩
theorem bd_turn : BindN "_law_turn" (top 31) ["_law_tap_here", "_law_total"] := fun _ _ _ _ _ _ us hl => match us, hl with | [_, _], _ => rfl
theorem ok_turn (h : Fa K mg) : Fun1 P w K mg base 1 "_law_turn" ["_law_tap_here", "_law_total"] d_turn := by
  refine def_sv h.f_turn sc_turn bd_turn fun cdv A outer s H E hr => ?_
  have hu := hr.u
  have hgd := hr.gd
  exact (b_cons (s_if (t_cmp (o_gt hu) (e_peek (e_ix ix_get (e_var (i := 0) rfl (.inl rfl)) e_int (pl_var _) (pl_k _) (fun _ _ => rfl))) e_int (pl_P _) (pl_k _) (nomark _) (hp_to _)) (b_cons (s_set (i := 2) sc_turn.nd rfl (.inl rfl) (e_op o_mod (e_peek (e_callTy f_int rfl h.n_int boot_int' (a_cons (e_peek (e_ix ix_get (e_var (i := 0) rfl (.inl rfl)) e_int (pl_var _) (pl_k _) (fun _ _ => rfl))) (pl_P _) a_nil))) (e_var (i := 1) rfl (.inl rfl)) (pl_P _) (pl_var _)) (by decide))
    (b_cons (s_setIx st_list (e_var (i := 0) rfl (.inl rfl)) e_int (pl_k _) (e_op o_fdiv (e_peek (e_ix ix_get (e_var (i := 0) rfl (.inl rfl)) e_int (pl_var _) (pl_k _) (fun _ _ => rfl))) (e_var (i := 1) rfl (.inl rfl)) (pl_P _) (pl_var _)))
    (b_one (s_ret (e_var (i := 2) rfl (.inl rfl)))))) b_nil)
    (b_cons (s_setIx st_list (e_var (i := 0) rfl (.inl rfl)) e_int (pl_k _) (e_op o_add (e_peek (e_ix ix_get (e_var (i := 0) rfl (.inl rfl)) e_int (pl_var _) (pl_k _) (fun _ _ => rfl))) e_int (pl_P _) (pl_k _)))
    (b_cons (s_set (i := 3) sc_turn.nd rfl (.inl rfl) (e_op o_mod (e_peek (e_callTy f_int rfl h.n_int boot_int' (a_cons (e_peek (e_op o_add (e_peek (e_ix ix_get (e_var (i := 0) rfl (.inl rfl)) e_int (pl_var _) (pl_k _) (fun _ _ => rfl))) (e_peek (e_op o_mul e_int (e_peek (e_ix ix_get (e_var (i := 0) rfl (.inl rfl)) e_int (pl_var _) (pl_k _) (fun _ _ => rfl))) (pl_k _) (pl_P _))) (pl_P _) (pl_P _))) (pl_P _) a_nil))) e_int (pl_P _) (pl_k _)) (by decide))
    (b_cons (s_set (i := 4) sc_turn.nd rfl (.inl rfl) (e_op o_add (e_peek (e_op o_mul (e_peek (e_op o_mod (e_peek (e_callTy f_int rfl h.n_int boot_int' (a_cons (e_peek (e_op o_mul (e_var (i := 3) rfl (.inl rfl)) (e_var (i := 3) rfl (.inl rfl)) (pl_var _) (pl_var _))) (pl_P _) a_nil))) e_int (pl_P _) (pl_k _))) (e_var (i := 3) rfl (.inl rfl)) (pl_P _) (pl_var _))) (e_peek (e_op o_mul e_int (e_peek (e_ix ix_get (e_var (i := 0) rfl (.inl rfl)) e_int (pl_var _) (pl_k _) (fun _ _ => rfl))) (pl_k _) (pl_P _))) (pl_P _) (pl_P _)) (by decide))
    (b_one (s_ret (e_op o_mod (e_peek (e_callTy f_int rfl h.n_int boot_int' (a_cons (e_peek (e_op o_fdiv (e_peek (e_op o_mod (e_peek (e_callTy f_int rfl h.n_int boot_int' (a_cons (e_var (i := 4) rfl (.inl rfl)) (pl_var _) a_nil))) e_int (pl_P _) (pl_k _))) e_int (pl_P _) (pl_k _))) (pl_P _) a_nil))) (e_var (i := 1) rfl (.inl rfl)) (pl_P _) (pl_var _))))))))
theorem sc_labels : FnScope N_labels ["_law_tap_here"] (defScope (top 38)) := ⟨rfl, rfl, rfl, by decide +kernel, rfl, by decide +kernel, by decide +kernel⟩
theorem bd_labels : BindN "_law_labels" (top 38) ["_law_tap_here"] := fun _ _ _ _ _ _ us hl => match us, hl with | [_], _ => rfl
theorem ok_labels (h : Fa K mg) : Fun1 P w K mg base 2 "_law_labels" ["_law_tap_here"] d_labels := by
  refine def_sv h.f_labels sc_labels bd_labels fun cdv A outer s H E hr => ?_
  have hu := hr.u
  have hgd := hr.gd
  exact (b_cons (s_set (i := 1) sc_labels.nd rfl (.inl rfl) (e_ix ix_get (e_peek (e_lst (a_cons (e_hold (e_lst (a_cons e_str (pl_k _) a_nil))) (pl_E _) (a_cons (e_hold (e_lst (a_cons e_str (pl_k _) (a_cons e_str (pl_k _) a_nil)))) (pl_E _) (a_cons (e_hold (e_lst (a_cons e_str (pl_k _) (a_cons e_str (pl_k _) (a_cons e_str (pl_k _) a_nil))))) (pl_E _) (a_cons (e_hold (e_lst (a_cons e_str (pl_k _) (a_cons e_str (pl_k _) (a_cons e_str (pl_k _) a_nil))))) (pl_E _) a_nil)))))) (e_peek (e_f (ok_turn h) (hr.mono (by decide)) rfl (takes_of rfl rfl rfl rfl) (a_cons (e_var (i := 0) rfl (.inl rfl)) (pl_var _) (a_cons e_int (pl_k _) a_nil)) (al_cons (al_cons al_nil)))) (pl_P _) (pl_P _) (fun _ _ => rfl)) (by decide))
    (b_one (s_ret (e_var (i := 1) rfl (.inl rfl)))))
theorem sc_weight : FnScope N_weight ["_law_tree_here"] (defScope (top 33)) := ⟨rfl, rfl, rfl, by decide +kernel, rfl, by decide +kernel, by decide +kernel⟩
theorem bd_weight : BindN "_law_weight" (top 33) ["_law_tree_here"] := fun _ _ _ _ _ _ us hl => match us, hl with | [_], _ => rfl
theorem ok_weight (h : Fa K mg) : ∀ n : Nat, Fun1 P w K mg base (0 + n) "_law_weight" ["_law_tree_here"] (d_weight n)
  | 0 => fun_no h.f_weight bd_weight
  | n + 1 => by
    have ih := ok_weight h n
    refine def_sv h.f_weight sc_weight bd_weight fun cdv A outer s H E hr => ?_
    have hu := hr.u
    have hgd := hr.gd
    exact (b_one (s_ret (e_op o_add e_int (e_peek (e_callB (f_sum rfl) rfl h.n_sum boot_sum' (a_cons (e_peek (e_comp (own := [("_law_part", 1)]) (io := [0]) rfl sc_weight.nd (i_seq (e_sl sl_P (e_var (i := 0) rfl (.inl rfl)) (pl_var _) (.some e_int (pl_k _)) .none)) (blkOk_by (N := N_weight) (sc := defScope (top 33)) (by decide +kernel)) (fun _ _ _ _ _ => (g_name (i := 1) sc_weight.nd rfl (.inl rfl) (by decide))) (fun _ _ _ _ _ => ts_nil) (fun _ _ _ _ _ => (e_f ih hr rfl (takesF _) (a_cons (e_var (i := 1) rfl (.inl rfl)) (pl_var _) a_nil) (al_cons al_nil))) (hio_by (N := N_weight) (by decide)) (tame_gN _))) (pl_P _) a_nil))) (pl_k _) (pl_P _))))
theorem sc_pick : FnScope N_pick ["_law_tap_here", "_law_items"] (defScope (top 32)) := ⟨rfl, rfl, rfl, by decide +kernel, rfl, by decide +kernel, by decide +kernel⟩
theorem bd_pick : BindN "_law_pick" (top 32) ["_law_tap_here", "_law_items"] := fun _ _ _ _ _ _ us hl => match us, hl with | [_, _], _ => rfl
theorem ok_pick (h : Fa K mg) : Fun1 P w K mg base 2 "_law_pick" ["_law_tap_here", "_law_items"] d_pick := by
  refine def_sv h.f_pick sc_pick bd_pick fun cdv A outer s H E hr => ?_
  have hu := hr.u
  have hgd := hr.gd
  exact (b_one (s_ret (e_ix ix_get (e_var (i := 1) rfl (.inl rfl)) (e_peek (e_f (ok_turn h) (hr.mono (by decide)) rfl (takes_of rfl rfl rfl rfl) (a_cons (e_var (i := 0) rfl (.inl rfl)) (pl_var _) (a_cons (e_peek (e_callB f_len rfl h.n_len boot_len' (a_cons (e_var (i := 1) rfl (.inl rfl)) (pl_var _) a_nil))) (pl_P _) a_nil)) (al_cons (al_cons al_nil)))) (pl_var _) (pl_P _) (fun _ _ => rfl))))
theorem sc_tree : FnScope N_tree ["_law_tap_here", "_law_labels_here", "_law_room"] (defScope (top 34)) := ⟨rfl, rfl, rfl, by decide +kernel, rfl, by decide +kernel, by decide +kernel⟩
theorem bd_tree : BindN "_law_tree" (top 34) ["_law_tap_here", "_law_labels_here", "_law_room"] := fun _ _ _ _ _ _ us hl => match us, hl with | [_, _, _], _ => rfl
theorem ok_tree (h : Fa K mg) : ∀ n : Nat, Fun1 P w K mg base (60 + n) "_law_tree" ["_law_tap_here", "_law_labels_here", "_law_room"] (d_tree n)
  | 0 => fun_no h.f_tree bd_tree
  | n + 1 => by
    have ih := ok_tree h n
    refine def_sv h.f_tree sc_tree bd_tree fun cdv A outer s H E hr => ?_
    have hu := hr.u
    have hgd := hr.gd
    exact (b_cons (s_par2 (i := 3) (j := 4) rfl sc_tree.nd rfl rfl (by decide) rfl rfl (e_lst a_nil) (e_op o_sub (e_var (i := 2) rfl (.inl rfl)) e_int (pl_var _) (pl_k _)) (by decide) (by decide) rfl)
    (b_cons (s_while 100000 (passes_of rfl) (t_w (w_and (t_cmp (o_gt hu) (e_var (i := 4) rfl (.inl rfl)) e_int (pl_var _) (pl_k _) (nomark _) (hp_to _)) (w_and1 (t_cmp (o_gt hu) (e_peek (e_f (ok_turn h) (hr.mono (Nat.le_trans (show 1 ≤ 60 by decide) (Nat.le_add_right _ _))) rfl (takes_of rfl rfl rfl rfl) (a_cons (e_var (i := 0) rfl (.inl rfl)) (pl_var _) (a_cons e_int (pl_k _) a_nil)) (al_cons (al_cons al_nil)))) e_int (pl_P _) (pl_k _) (nomark _) (hp_to _))))) (b_cons (s_set (i := 5) sc_tree.nd rfl (.inl rfl) (e_f ih hr rfl (takes_of rfl rfl rfl rfl) (a_cons (e_var (i := 0) rfl (.inl rfl)) (pl_var _) (a_cons (e_var (i := 1) rfl (.inl rfl)) (pl_var _) (a_cons (e_peek (e_op o_add e_int (e_peek (e_f (ok_turn h) (hr.mono (Nat.le_trans (show 1 ≤ 60 by decide) (Nat.le_add_right _ _))) rfl (takes_of rfl rfl rfl rfl) (a_cons (e_var (i := 0) rfl (.inl rfl)) (pl_var _) (a_cons (e_var (i := 4) rfl (.inl rfl)) (pl_var _) a_nil)) (al_cons (al_cons al_nil)))) (pl_k _) (pl_P _))) (pl_P _) a_nil))) (al_cons (al_cons (al_cons al_nil)))) (by decide))
    (b_cons (s_expr (e_meth PySem.F.slot_list_append PySem.F.type_list_append m_append (e_var (i := 3) rfl (.inl rfl)) (a_cons (e_hold (e_var (i := 5) rfl (.inl rfl))) (pl_E _) a_nil)))
    (b_one (s_set (i := 4) sc_tree.nd rfl (.inl rfl) (e_op o_sub (e_var (i := 4) rfl (.inl rfl)) (e_peek (e_f (ok_weight h 60) (hr.mono (Nat.le_trans (show 60 ≤ 60 by decide) (Nat.le_add_right _ _))) rfl (takes_of rfl rfl rfl rfl) (a_cons (e_var (i := 5) rfl (.inl rfl)) (pl_var _) a_nil) (al_cons al_nil))) (pl_var _) (pl_P _)) (by decide))))))
    (b_one (s_ret (e_op o_add (e_peek (e_tup (a_cons (e_hold (e_f (ok_pick h) (hr.mono (Nat.le_trans (show 2 ≤ 60 by decide) (Nat.le_add_right _ _))) rfl (takes_of rfl rfl rfl rfl) (a_cons (e_var (i := 0) rfl (.inl rfl)) (pl_var _) (a_cons (e_var (i := 1) rfl (.inl rfl)) (pl_var _) a_nil)) (al_cons (al_cons al_nil)))) (pl_E _) a_nil))) (e_peek (e_callTy f_tuple rfl h.n_tuple boot_tuple' (a_cons (e_var (i := 3) rfl (.inl rfl)) (pl_var _) a_nil))) (pl_P _) (pl_P _))))))
theorem sc_spots : FnScope N_spots ["_law_tree_here"] (defScope (top 35)) := ⟨rfl, rfl, rfl, by decide +kernel, rfl, by decide +kernel, by decide +kernel⟩
theorem bd_spots : BindN "_law_spots" (top 35) ["_law_tree_here"] := fun _ _ _ _ _ _ us hl => match us, hl with | [_], _ => rfl
theorem ok_spots (h : Fa K mg) : ∀ n : Nat, Fun1 P w K mg base (0 + n) "_law_spots" ["_law_tree_here"] (d_spots n)
  | 0 => fun_no h.f_spots bd_spots
  | n + 1 => by
    have ih := ok_spots h n
    refine def_sv h.f_spots sc_spots bd_spots fun cdv A outer s H E hr => ?_
    have hu := hr.u
    have hgd := hr.gd
    exact (b_cons (s_set (i := 1) sc_spots.nd rfl (.inl rfl) (e_lst (a_cons (e_hold (e_tup a_nil)) (pl_E _) a_nil)) (by decide))
    (b_cons (s_for (passes_of rfl) rfl (i_enum rfl h.n_enumerate (e_sl sl_P (e_var (i := 0) rfl (.inl rfl)) (pl_var _) (.some e_int (pl_k _)) .none)) (g_tup rfl (gs_cons (g_name (i := 2) sc_spots.nd rfl (.inr rfl) (by decide)) (gs_cons (g_name (i := 3) sc_spots.nd rfl (.inl rfl) (by decide)) gs_nil)) (tm_cons (tame_gN _) (tm_cons (tame_gN _) tm_nil))) (b_one (s_expr (e_meth PySem.F.slot_list_extend PySem.F.type_list_extend m_extend (e_var (i := 1) rfl (.inl rfl)) (a_cons (e_hold (e_comp (own := [("_law_spot", 4)]) (io := [0, 1, 2, 3]) rfl sc_spots.nd (i_seq (e_f ih hr rfl (takes_of rfl rfl rfl rfl) (a_cons (e_var (i := 3) rfl (.inl rfl)) (pl_var _) a_nil) (al_cons al_nil))) (blkOk_by (N := N_spots) (sc := defScope (top 35)) (by decide +kernel)) (fun _ _ _ _ _ => (g_name (i := 4) sc_spots.nd rfl (.inl rfl) (by decide))) (fun _ _ _ _ _ => ts_nil) (fun _ _ _ _ _ => (e_op o_add (e_peek (e_tup (a_cons (e_hold (e_var (i := 2) rfl (.inr (.inl rfl)))) (pl_E _) a_nil))) (e_var (i := 4) rfl (.inl rfl)) (pl_P _) (pl_var _))) (hio_by (N := N_spots) (by decide)) (tame_gN _))) (pl_E _) a_nil)))))
    (b_one (s_ret (e_var (i := 1) rfl (.inl rfl))))))
theorem sc_at : FnScope N_at ["_law_tree_here", "_law_spot"] (defScope (top 36)) := ⟨rfl, rfl, rfl, by decide +kernel, rfl, by decide +kernel, by decide +kernel⟩
theorem bd_at : BindN "_law_at" (top 36) ["_law_tree_here", "_law_spot"] := fun _ _ _ _ _ _ us hl => match us, hl with | [_, _], _ => rfl
theorem ok_at (h : Fa K mg) : ∀ n : Nat, Fun1 P w K mg base (0 + n) "_law_at" ["_law_tree_here", "_law_spot"] (d_at n)
  | 0 => fun_no h.f_at bd_at
  | n + 1 => by
    have ih := ok_at h n
    refine def_sv h.f_at sc_at bd_at fun cdv A outer s H E hr => ?_
    have hu := hr.u
    have hgd := hr.gd
    exact (b_one (s_ret (e_if (t_cmp (o_eq hu) (e_var (i := 1) rfl (.inl rfl)) (e_peek (e_tup a_nil)) (pl_var _) (pl_P _) (nomark _) hp_eq) (e_var (i := 0) rfl (.inl rfl)) (e_f ih hr rfl (takes_of rfl rfl rfl rfl) (a_cons (e_peek (e_ix ix_get (e_var (i := 0) rfl (.inl rfl)) (e_peek (e_op o_add (e_peek (e_ix ix_get (e_var (i := 1) rfl (.inl rfl)) e_int (pl_var _) (pl_k _) (fun _ _ => rfl))) e_int (pl_P _) (pl_k _))) (pl_var _) (pl_P _) (fun _ _ => rfl))) (pl_P _) (a_cons (e_peek (e_sl sl_P (e_var (i := 1) rfl (.inl rfl)) (pl_var _) (.some e_int (pl_k _)) .none)) (pl_P _) a_nil)) (al_cons (al_cons al_nil))))))
theorem sc_document_from : FnScope N_document_from ["label", "children"] (defScope (top 24)) := ⟨rfl, rfl, rfl, by decide +kernel, rfl, by decide +kernel, by decide +kernel⟩
theorem bd_document_from : BindN "document_from" (top 24) ["label", "children"] := fun _ _ _ _ _ _ us hl => match us, hl with | [_, _], _ => rfl
theorem ok_document_from (h : Fa K mg) : Fun1 P w K mg base 4 "document_from" ["label", "children"] d_document_from := by
  refine def_sv h.f_document_from sc_document_from bd_document_from fun cdv A outer s H E hr => ?_
  have hu := hr.u
  have hgd := hr.gd
  exact (b_cons (s_if (t_not (t_val (e_peek (e_f (ok_is_name h) (hr.mono (by decide)) rfl (takes_of rfl rfl rfl rfl) (a_cons (e_var (i := 0) rfl (.inl rfl)) (pl_var _) a_nil) (al_cons al_nil))) (pl_P _))) (b_one (s_raiseO h.x_InvalidName rfl (takes_of rfl rfl rfl rfl) rfl)) b_nil)
    (b_cons (s_if (t_w (w_or (t_not (t_val (e_peek (e_isi isi_tup h.n_isinstance rfl (e_var (i := 1) rfl (.inl rfl)) (pl_var _) rfl h.n_tuple boot_tuple')) (pl_P _))) (w_or1 (t_not (t_val (e_peek (e_callB (f_all rfl) rfl h.n_all boot_all' (a_cons (e_peek (e_comp (own := [("child", 2)]) (io := [0, 1]) rfl sc_document_from.nd (i_seq (e_var (i := 1) rfl (.inl rfl))) (blkOk_by (N := N_document_from) (sc := defScope (top 24)) (by decide +kernel)) (fun _ _ _ _ _ => (g_name (i := 2) sc_document_from.nd rfl (.inl rfl) (by decide))) (fun _ _ _ _ _ => ts_nil) (fun _ _ _ _ _ => (e_f (ok_is_document h) (hr.mono (by decide)) rfl (takesF _) (a_cons (e_var (i := 2) rfl (.inl rfl)) (pl_var _) a_nil) (al_cons al_nil))) (hio_by (N := N_document_from) (by decide)) (tame_gN _))) (pl_P _) a_nil))) (pl_P _)))))) (b_one (s_raiseO h.x_InvalidDocument rfl (takes_of rfl rfl rfl rfl) rfl)) b_nil)
    (b_cons (s_if (t_cmp (o_gt hu) (e_peek (e_op o_add (e_peek (e_callB (f_sum rfl) rfl h.n_sum boot_sum' (a_cons (e_peek (e_comp (own := [("child", 2)]) (io := [0, 1]) rfl sc_document_from.nd (i_seq (e_var (i := 1) rfl (.inl rfl))) (blkOk_by (N := N_document_from) (sc := defScope (top 24)) (by decide +kernel)) (fun _ _ _ _ _ => (g_name (i := 2) sc_document_from.nd rfl (.inl rfl) (by decide))) (fun _ _ _ _ _ => ts_nil) (fun _ _ _ _ _ => (e_f (ok_size_in h) (hr.mono (by decide)) rfl (takesF _) (a_cons (e_var (i := 2) rfl (.inl rfl)) (pl_var _) a_nil) (al_cons al_nil))) (hio_by (N := N_document_from) (by decide)) (tame_gN _))) (pl_P _) a_nil))) e_int (pl_P _) (pl_k _))) (e_gi h.i_MAX_NODES rfl) (pl_P _) (pl_k _) (nomark _) (hp_to _)) (b_one s_no) b_nil)
    (b_one (s_ret (e_tup (a_cons (e_hold (e_var (i := 0) rfl (.inl rfl))) (pl_E _) (a_star (e_var (i := 1) rfl (.inl rfl)) a_nil))))))))
theorem sc_make_document : FnScope N_make_document ["label", "children"] (defScope (top 25)) := ⟨rfl, rfl, rfl, by decide +kernel, rfl, by decide +kernel, by decide +kernel⟩
theorem bd_make_document : BindS "make_document" (top 25) ["label"] "children" := fun _ _ _ _ _ _ us rest hl => match us, rest, hl with | [_], [], _ => rfl | [_], _ :: _, _ => rfl
theorem ok_make_document (h : Fa K mg) : Fun2 P w K mg base 5 "make_document" d_make_document := by
  refine def_svS (ps := ["label"]) h.f_make_document sc_make_document rfl bd_make_document fun cdv A outer s H E hr => ?_
  have hu := hr.u
  have hgd := hr.gd
  exact (b_one (s_ret (e_f (ok_document_from h) (hr.mono (by decide)) rfl (takes_of rfl rfl rfl rfl) (a_cons (e_var (i := 0) rfl (.inl rfl)) (pl_var _) (a_cons (e_var (i := 1) rfl (.inl rfl)) (pl_var _) a_nil)) (al_cons (al_cons al_nil)))))
theorem sc_put : FnScope N_put ["_law_tree_here", "_law_spot", "_law_part"] (defScope (top 37)) := ⟨rfl, rfl, rfl, by decide +kernel, rfl, by decide +kernel, by decide +kernel⟩
theorem bd_put : BindN "_law_put" (top 37) ["_law_tree_here", "_law_spot", "_law_part"] := fun _ _ _ _ _ _ us hl => match us, hl with | [_, _, _], _ => rfl
theorem ok_put (h : Fa K mg) : ∀ n : Nat, Fun1 P w K mg base (0 + n) "_law_put" ["_law_tree_here", "_law_spot", "_law_part"] (d_put n)
  | 0 => fun_no h.f_put bd_put
  | n + 1 => by
    have ih := ok_put h n
    refine def_sv h.f_put sc_put bd_put fun cdv A outer s H E hr => ?_
    have hu := hr.u
    have hgd := hr.gd
    exact (b_cons (s_if (t_cmp (o_eq hu) (e_var (i := 1) rfl (.inl rfl)) (e_peek (e_tup a_nil)) (pl_var _) (pl_P _) (nomark _) hp_eq) (b_one (s_ret (e_var (i := 2) rfl (.inl rfl)))) b_nil)
    (b_cons (s_set (i := 3) sc_put.nd rfl (.inl rfl) (e_op o_add (e_peek (e_ix ix_get (e_var (i := 1) rfl (.inl rfl)) e_int (pl_var _) (pl_k _) (fun _ _ => rfl))) e_int (pl_P _) (pl_k _)) (by decide))
    (b_one (s_ret (e_op o_add (e_peek (e_op o_add (e_peek (e_sl sl_P (e_var (i := 0) rfl (.inl rfl)) (pl_var _) .none (.some (e_var (i := 3) rfl (.inl rfl)) (pl_var _)))) (e_peek (e_tup (a_cons (e_hold (e_f ih hr rfl (takes_of rfl rfl rfl rfl) (a_cons (e_peek (e_ix ix_get (e_var (i := 0) rfl (.inl rfl)) (e_var (i := 3) rfl (.inl rfl)) (pl_var _) (pl_var _) (fun _ _ => rfl))) (pl_P _) (a_cons (e_peek (e_sl sl_P (e_var (i := 1) rfl (.inl rfl)) (pl_var _) (.some e_int (pl_k _)) .none)) (pl_P _) (a_cons (e_var (i := 2) rfl (.inl rfl)) (pl_var _) a_nil))) (al_cons (al_cons (al_cons al_nil))))) (pl_E _) a_nil))) (pl_P _) (pl_P _))) (e_peek (e_sl sl_P (e_var (i := 0) rfl (.inl rfl)) (pl_var _) (.some (e_peek (e_op o_add (e_var (i := 3) rfl (.inl rfl)) e_int (pl_var _) (pl_k _))) (pl_P _)) .none)) (pl_P _) (pl_P _))))))
theorem sc_require_document : FnScope N_require_document ["document"] (defScope (top 16)) := ⟨rfl, rfl, rfl, by decide +kernel, rfl, by decide +kernel, by decide +kernel⟩
theorem bd_require_document : BindN "require_document" (top 16) ["document"] := fun _ _ _ _ _ _ us hl => match us, hl with | [_], _ => rfl
theorem ok_require_document (h : Fa K mg) : Fun1 P w K mg base 4 "require_document" ["document"] d_require_document := by
  refine def_sv h.f_require_document sc_require_document bd_require_document fun cdv A outer s H E hr => ?_
  have hu := hr.u
  have hgd := hr.gd
  exact (b_one (s_if (t_not (t_val (e_peek (e_f (ok_is_document h) (hr.mono (by decide)) rfl (takes_of rfl rfl rfl rfl) (a_cons (e_var (i := 0) rfl (.inl rfl)) (pl_var _) a_nil) (al_cons al_nil))) (pl_P _))) (b_one (s_raiseO h.x_InvalidDocument rfl (takes_of rfl rfl rfl rfl) rfl)) b_nil))
theorem sc_is_integer : FnScope N_is_integer ["value"] (defScope (top 13)) := ⟨rfl, rfl, rfl, by decide +kernel, rfl, by decide +kernel, by decide +kernel⟩
theorem bd_is_integer : BindN "is_integer" (top 13) ["value"] := fun _ _ _ _ _ _ us hl => match us, hl with | [_], _ => rfl
theorem ok_is_integer (h : Fa K mg) : Fun1 P w K mg base 1 "is_integer" ["value"] d_is_integer := by
  refine def_sv h.f_is_integer sc_is_integer bd_is_integer fun cdv A outer s H E hr => ?_
  have hu := hr.u
  have hgd := hr.gd
  exact (b_one (s_ret (e_and (e_peek (e_isi isi_int h.n_isinstance rfl (e_var (i := 0) rfl (.inl rfl)) (pl_var _) rfl h.n_int boot_int')) (pl_P _) (e_one (e_not (e_peek (e_isi isi_bool h.n_isinstance rfl (e_var (i := 0) rfl (.inl rfl)) (pl_var _) rfl h.n_bool boot_bool')) (pl_P _))))))
theorem sc_is_node_in : FnScope N_is_node_in ["document", "value"] (defScope (top 17)) := ⟨rfl, rfl, rfl, by decide +kernel, rfl, by decide +kernel, by decide +kernel⟩
theorem bd_is_node_in : BindN "is_node_in" (top 17) ["document", "value"] := fun _ _ _ _ _ _ us hl => match us, hl with | [_, _], _ => rfl
theorem ok_is_node_in (h : Fa K mg) : Fun1 P w K mg base 2 "is_node_in" ["document", "value"] d_is_node_in := by
  refine def_sv h.f_is_node_in sc_is_node_in bd_is_node_in fun cdv A outer s H E hr => ?_
  have hu := hr.u
  have hgd := hr.gd
  exact (b_cons (s_if (t_not (t_val (e_peek (e_isi isi_tup h.n_isinstance rfl (e_var (i := 1) rfl (.inl rfl)) (pl_var _) rfl h.n_tuple boot_tuple')) (pl_P _))) (b_one (s_ret e_bl)) b_nil)
    (b_cons (s_set (i := 2) sc_is_node_in.nd rfl (.inl rfl) (e_var (i := 0) rfl (.inl rfl)) (by decide))
    (b_cons (s_for (passes_of rfl) rfl (i_seq (e_var (i := 1) rfl (.inl rfl))) (g_name (i := 3) sc_is_node_in.nd rfl (.inl rfl) (by decide)) (b_cons (s_if (t_w (w_or (t_not (t_val (e_peek (e_f (ok_is_integer h) (hr.mono (by decide)) rfl (takes_of rfl rfl rfl rfl) (a_cons (e_var (i := 3) rfl (.inl rfl)) (pl_var _) a_nil) (al_cons al_nil))) (pl_P _))) (w_or1 (t_not (t_chain (o_le hu) (o_lt hu) e_int (e_var (i := 3) rfl (.inl rfl)) (e_peek (e_op o_sub (e_peek (e_callB f_len rfl h.n_len boot_len' (a_cons (e_var (i := 2) rfl (.inl rfl)) (pl_var _) a_nil))) e_int (pl_P _) (pl_k _))) (pl_k _) (pl_var _) (pl_P _)))))) (b_one (s_ret e_bl)) b_nil)
    (b_one (s_set (i := 2) sc_is_node_in.nd rfl (.inl rfl) (e_ix ix_get (e_var (i := 2) rfl (.inl rfl)) (e_peek (e_op o_add (e_var (i := 3) rfl (.inl rfl)) e_int (pl_var _) (pl_k _))) (pl_var _) (pl_P _) (fun _ _ => rfl)) (by decide)))))
    (b_one (s_ret e_bl)))))
theorem sc_require_node : FnScope N_require_node ["document", "node"] (defScope (top 18)) := ⟨rfl, rfl, rfl, by decide +kernel, rfl, by decide +kernel, by decide +kernel⟩
theorem bd_require_node : BindN "require_node" (top 18) ["document", "node"] := fun _ _ _ _ _ _ us hl => match us, hl with | [_, _], _ => rfl
theorem ok_require_node (h : Fa K mg) : Fun1 P w K mg base 3 "require_node" ["document", "node"] d_require_node := by
  refine def_sv h.f_require_node sc_require_node bd_require_node fun cdv A outer s H E hr => ?_
  have hu := hr.u
  have hgd := hr.gd
  exact (b_one (s_if (t_not (t_val (e_peek (e_f (ok_is_node_in h) (hr.mono (by decide)) rfl (takes_of rfl rfl rfl rfl) (a_cons (e_var (i := 0) rfl (.inl rfl)) (pl_var _) (a_cons (e_var (i := 1) rfl (.inl rfl)) (pl_var _) a_nil)) (al_cons (al_cons al_nil)))) (pl_P _))) (b_one s_no) b_nil))
theorem sc_put_in : FnScope N_put_in ["document", "node", "part"] (defScope (top 21)) := ⟨rfl, rfl, rfl, by decide +kernel, rfl, by decide +kernel, by decide +kernel⟩
theorem bd_put_in : BindN "put_in" (top 21) ["document", "node", "part"] := fun _ _ _ _ _ _ us hl => match us, hl with | [_, _, _], _ => rfl
theorem ok_put_in (h : Fa K mg) : Fun1 P w K mg base 1 "put_in" ["document", "node", "part"] d_put_in := by
  refine def_sv h.f_put_in sc_put_in bd_put_in fun cdv A outer s H E hr => ?_
  have hu := hr.u
  have hgd := hr.gd
  exact (b_cons (s_set (i := 3) sc_put_in.nd rfl (.inl rfl) (e_lst (a_cons (e_hold (e_var (i := 0) rfl (.inl rfl))) (pl_E _) a_nil)) (by decide))
    (b_cons (s_for (passes_of rfl) rfl (i_seq (e_var (i := 1) rfl (.inl rfl))) (g_name (i := 4) sc_put_in.nd rfl (.inl rfl) (by decide)) (b_one (s_expr (e_meth PySem.F.slot_list_append PySem.F.type_list_append m_append (e_var (i := 3) rfl (.inl rfl)) (a_cons (e_hold (e_ix ix_get (e_peek (e_ix ix_get (e_var (i := 3) rfl (.inl rfl)) (e_peek (e_un u_neg e_int (pl_k _))) (pl_var _) (pl_P _) (fun _ _ => rfl))) (e_peek (e_op o_add (e_var (i := 4) rfl (.inl rfl)) e_int (pl_var _) (pl_k _))) (pl_P _) (pl_P _) (fun _ _ => rfl))) (pl_E _) a_nil)))))
    (b_cons (s_for (passes_of rfl) rfl (i_rangeDn rfl h.n_range (e_peek (e_op o_sub (e_peek (e_callB f_len rfl h.n_len boot_len' (a_cons (e_var (i := 1) rfl (.inl rfl)) (pl_var _) a_nil))) e_int (pl_P _) (pl_k _))) (pl_P _) (e_peek (e_un u_neg e_int (pl_k _))) (pl_P _)) (g_name (i := 5) sc_put_in.nd rfl (.inl rfl) (by decide)) (b_cons (s_set (i := 6) sc_put_in.nd rfl (.inl rfl) (e_op o_add (e_peek (e_ix ix_get (e_var (i := 1) rfl (.inl rfl)) (e_var (i := 5) rfl (.inl rfl)) (pl_var _) (pl_var _) (fun _ _ => rfl))) e_int (pl_P _) (pl_k _)) (by decide))
    (b_one (s_set (i := 2) sc_put_in.nd rfl (.inl rfl) (e_tup (a_star (e_sl sl_P (e_peek (e_ix ix_get (e_var (i := 3) rfl (.inl rfl)) (e_var (i := 5) rfl (.inl rfl)) (pl_var _) (pl_var _) (fun _ _ => rfl))) (pl_P _) .none (.some (e_var (i := 6) rfl (.inl rfl)) (pl_var _))) (a_cons (e_hold (e_var (i := 2) rfl (.inl rfl))) (pl_E _) (a_star (e_sl sl_P (e_peek (e_ix ix_get (e_var (i := 3) rfl (.inl rfl)) (e_var (i := 5) rfl (.inl rfl)) (pl_var _) (pl_var _) (fun _ _ => rfl))) (pl_P _) (.some (e_peek (e_op o_add (e_var (i := 6) rfl (.inl rfl)) e_int (pl_var _) (pl_k _))) (pl_P _)) .none) a_nil)))) (by decide)))))
    (b_one (s_ret (e_var (i := 2) rfl (.inl rfl)))))))
theorem sc_subtree_in : FnScope N_subtree_in ["document", "node"] (defScope (top 19)) := ⟨rfl, rfl, rfl, by decide +kernel, rfl, by decide +kernel, by decide +kernel⟩
theorem bd_subtree_in : BindN "subtree_in" (top 19) ["document", "node"] := fun _ _ _ _ _ _ us hl => match us, hl with | [_, _], _ => rfl
theorem ok_subtree_in (h : Fa K mg) : Fun1 P w K mg base 1 "subtree_in" ["document", "node"] d_subtree_in := by
  refine def_sv h.f_subtree_in sc_subtree_in bd_subtree_in fun cdv A outer s H E hr => ?_
  have hu := hr.u
  have hgd := hr.gd
  exact (b_cons (s_for (passes_of rfl) rfl (i_seq (e_var (i := 1) rfl (.inl rfl))) (g_name (i := 2) sc_subtree_in.nd rfl (.inl rfl) (by decide)) (b_one (s_set (i := 0) sc_subtree_in.nd rfl (.inl rfl) (e_ix ix_get (e_var (i := 0) rfl (.inl rfl)) (e_peek (e_op o_add (e_var (i := 2) rfl (.inl rfl)) e_int (pl_var _) (pl_k _))) (pl_var _) (pl_P _) (fun _ _ => rfl)) (by decide))))
    (b_one (s_ret (e_var (i := 0) rfl (.inl rfl)))))
theorem sc_without_node : FnScope N_without_node ["document", "node"] (defScope (top 27)) := ⟨rfl, rfl, rfl, by decide +kernel, rfl, by decide +kernel, by decide +kernel⟩
theorem bd_without_node : BindN "without_node" (top 27) ["document", "node"] := fun _ _ _ _ _ _ us hl => match us, hl with | [_, _], _ => rfl
theorem ok_without_node (h : Fa K mg) : Fun1 P w K mg base 5 "without_node" ["document", "node"] d_without_node := by
  refine def_sv h.f_without_node sc_without_node bd_without_node fun cdv A outer s H E hr => ?_
  have hu := hr.u
  have hgd := hr.gd
  exact (b_cons (s_expr (e_f (ok_require_document h) (hr.mono (by decide)) rfl (takes_of rfl rfl rfl rfl) (a_cons (e_var (i := 0) rfl (.inl rfl)) (pl_var _) a_nil) (al_cons al_nil)))
    (b_cons (s_expr (e_f (ok_require_node h) (hr.mono (by decide)) rfl (takes_of rfl rfl rfl rfl) (a_cons (e_var (i := 0) rfl (.inl rfl)) (pl_var _) (a_cons (e_var (i := 1) rfl (.inl rfl)) (pl_var _) a_nil)) (al_cons (al_cons al_nil))))
    (b_cons (s_if (t_cmp (o_eq hu) (e_var (i := 1) rfl (.inl rfl)) (e_peek (e_tup a_nil)) (pl_var _) (pl_P _) (nomark _) hp_eq) (b_one (s_raiseO h.x_InvalidOperation rfl (takes_of rfl rfl rfl rfl) rfl)) b_nil)
    (b_cons (s_par2 (i := 2) (j := 3) rfl sc_without_node.nd rfl rfl (by decide) rfl rfl (e_f (ok_subtree_in h) (hr.mono (by decide)) rfl (takes_of rfl rfl rfl rfl) (a_cons (e_var (i := 0) rfl (.inl rfl)) (pl_var _) (a_cons (e_peek (e_sl sl_P (e_var (i := 1) rfl (.inl rfl)) (pl_var _) .none (.some (e_peek (e_un u_neg e_int (pl_k _))) (pl_P _)))) (pl_P _) a_nil)) (al_cons (al_cons al_nil))) (e_op o_add (e_peek (e_ix ix_get (e_var (i := 1) rfl (.inl rfl)) (e_peek (e_un u_neg e_int (pl_k _))) (pl_var _) (pl_P _) (fun _ _ => rfl))) e_int (pl_P _) (pl_k _)) (by decide) (by decide) rfl)
    (b_one (s_ret (e_f (ok_put_in h) (hr.mono (by decide)) rfl (takes_of rfl rfl rfl rfl) (a_cons (e_var (i := 0) rfl (.inl rfl)) (pl_var _) (a_cons (e_peek (e_sl sl_P (e_var (i := 1) rfl (.inl rfl)) (pl_var _) .none (.some (e_peek (e_un u_neg e_int (pl_k _))) (pl_P _)))) (pl_P _) (a_cons (e_peek (e_tup (a_star (e_sl sl_P (e_var (i := 2) rfl (.inl rfl)) (pl_var _) .none (.some (e_var (i := 3) rfl (.inl rfl)) (pl_var _))) (a_star (e_sl sl_P (e_var (i := 2) rfl (.inl rfl)) (pl_var _) (.some (e_peek (e_op o_add (e_var (i := 3) rfl (.inl rfl)) e_int (pl_var _) (pl_k _))) (pl_P _)) .none) a_nil)))) (pl_P _) a_nil))) (al_cons (al_cons (al_cons al_nil))))))))))
theorem sc_cut : FnScope N_cut ["_law_tree_here", "_law_spot"] (defScope (top 40)) := ⟨rfl, rfl, rfl, by decide +kernel, rfl, by decide +kernel, by decide +kernel⟩
theorem bd_cut : BindN "_law_cut" (top 40) ["_law_tree_here", "_law_spot"] := fun _ _ _ _ _ _ us hl => match us, hl with | [_, _], _ => rfl
theorem ok_cut (h : Fa K mg) : Fun1 P w K mg base 41 "_law_cut" ["_law_tree_here", "_law_spot"] d_cut := by
  refine def_sv h.f_cut sc_cut bd_cut fun cdv A outer s H E hr => ?_
  have hu := hr.u
  have hgd := hr.gd
  exact (b_cons (s_par2 (i := 2) (j := 3) rfl sc_cut.nd rfl rfl (by decide) rfl rfl (e_f (ok_at h 40) (hr.mono (by decide)) rfl (takes_of rfl rfl rfl rfl) (a_cons (e_var (i := 0) rfl (.inl rfl)) (pl_var _) (a_cons (e_peek (e_sl sl_P (e_var (i := 1) rfl (.inl rfl)) (pl_var _) .none (.some (e_peek (e_un u_neg e_int (pl_k _))) (pl_P _)))) (pl_P _) a_nil)) (al_cons (al_cons al_nil))) (e_op o_add (e_peek (e_ix ix_get (e_var (i := 1) rfl (.inl rfl)) (e_peek (e_un u_neg e_int (pl_k _))) (pl_var _) (pl_P _) (fun _ _ => rfl))) e_int (pl_P _) (pl_k _)) (by decide) (by decide) rfl)
    (b_one (s_ret (e_f (ok_put h 40) (hr.mono (by decide)) rfl (takes_of rfl rfl rfl rfl) (a_cons (e_var (i := 0) rfl (.inl rfl)) (pl_var _) (a_cons (e_peek (e_sl sl_P (e_var (i := 1) rfl (.inl rfl)) (pl_var _) .none (.some (e_peek (e_un u_neg e_int (pl_k _))) (pl_P _)))) (pl_P _) (a_cons (e_peek (e_op o_add (e_peek (e_sl sl_P (e_var (i := 2) rfl (.inl rfl)) (pl_var _) .none (.some (e_var (i := 3) rfl (.inl rfl)) (pl_var _)))) (e_peek (e_sl sl_P (e_var (i := 2) rfl (.inl rfl)) (pl_var _) (.some (e_peek (e_op o_add (e_var (i := 3) rfl (.inl rfl)) e_int (pl_var _) (pl_k _))) (pl_P _)) .none)) (pl_P _) (pl_P _))) (pl_P _) a_nil))) (al_cons (al_cons (al_cons al_nil)))))))
theorem sc_require_small : FnScope N_require_small ["document"] (defScope (top 23)) := ⟨rfl, rfl, rfl, by decide +kernel, rfl, by decide +kernel, by decide +kernel⟩
theorem bd_require_small : BindN "require_small" (top 23) ["document"] := fun _ _ _ _ _ _ us hl => match us, hl with | [_], _ => rfl
theorem ok_require_small (h : Fa K mg) : Fun1 P w K mg base 2 "require_small" ["document"] d_require_small := by
  refine def_sv h.f_require_small sc_require_small bd_require_small fun cdv A outer s H E hr => ?_
  have hu := hr.u
  have hgd := hr.gd
  exact (b_cons (s_if (t_cmp (o_gt hu) (e_peek (e_f (ok_size_in h) (hr.mono (by decide)) rfl (takes_of rfl rfl rfl rfl) (a_cons (e_var (i := 0) rfl (.inl rfl)) (pl_var _) a_nil) (al_cons al_nil))) (e_gi h.i_MAX_NODES rfl) (pl_P _) (pl_k _) (nomark _) (hp_to _)) (b_one s_no) b_nil)
    (b_one (s_ret (e_var (i := 0) rfl (.inl rfl)))))
theorem sc_with_child : FnScope N_with_child ["document", "node", "position", "child"] (defScope (top 26)) := ⟨rfl, rfl, rfl, by decide +kernel, rfl, by decide +kernel, by decide +kernel⟩
theorem bd_with_child : BindN "with_child" (top 26) ["document", "node", "position", "child"] := fun _ _ _ _ _ _ us hl => match us, hl with | [_, _, _, _], _ => rfl
theorem ok_with_child (h : Fa K mg) : Fun1 P w K mg base 5 "with_child" ["document", "node", "position", "child"] d_with_child := by
  refine def_sv h.f_with_child sc_with_child bd_with_child fun cdv A outer s H E hr => ?_
  have hu := hr.u
  have hgd := hr.gd
  exact (b_cons (s_expr (e_f (ok_require_document h) (hr.mono (by decide)) rfl (takes_of rfl rfl rfl rfl) (a_cons (e_var (i := 0) rfl (.inl rfl)) (pl_var _) a_nil) (al_cons al_nil)))
    (b_cons (s_expr (e_f (ok_require_node h) (hr.mono (by decide)) rfl (takes_of rfl rfl rfl rfl) (a_cons (e_var (i := 0) rfl (.inl rfl)) (pl_var _) (a_cons (e_var (i := 1) rfl (.inl rfl)) (pl_var _) a_nil)) (al_cons (al_cons al_nil))))
    (b_cons (s_set (i := 4) sc_with_child.nd rfl (.inl rfl) (e_f (ok_subtree_in h) (hr.mono (by decide)) rfl (takes_of rfl rfl rfl rfl) (a_cons (e_var (i := 0) rfl (.inl rfl)) (pl_var _) (a_cons (e_var (i := 1) rfl (.inl rfl)) (pl_var _) a_nil)) (al_cons (al_cons al_nil))) (by decide))
    (b_cons (s_if (t_w (w_or (t_not (t_val (e_peek (e_f (ok_is_integer h) (hr.mono (by decide)) rfl (takes_of rfl rfl rfl rfl) (a_cons (e_var (i := 2) rfl (.inl rfl)) (pl_var _) a_nil) (al_cons al_nil))) (pl_P _))) (w_or1 (t_not (t_chain (o_le hu) (o_lt hu) e_int (e_var (i := 2) rfl (.inl rfl)) (e_peek (e_callB f_len rfl h.n_len boot_len' (a_cons (e_var (i := 4) rfl (.inl rfl)) (pl_var _) a_nil))) (pl_k _) (pl_var _) (pl_P _)))))) (b_one s_no) b_nil)
    (b_cons (s_expr (e_f (ok_require_document h) (hr.mono (by decide)) rfl (takes_of rfl rfl rfl rfl) (a_cons (e_var (i := 3) rfl (.inl rfl)) (pl_var _) a_nil) (al_cons al_nil)))
    (b_one (s_ret (e_f (ok_require_small h) (hr.mono (by decide)) rfl (takes_of rfl rfl rfl rfl) (a_cons (e_peek (e_f (ok_put_in h) (hr.mono (by decide)) rfl (takes_of rfl rfl rfl rfl) (a_cons (e_var (i := 0) rfl (.inl rfl)) (pl_var _) (a_cons (e_var (i := 1) rfl (.inl rfl)) (pl_var _) (a_cons (e_peek (e_tup (a_star (e_sl sl_P (e_var (i := 4) rfl (.inl rfl)) (pl_var _) .none (.some (e_peek (e_op o_add (e_var (i := 2) rfl (.inl rfl)) e_int (pl_var _) (pl_k _))) (pl_P _))) (a_cons (e_hold (e_var (i := 3) rfl (.inl rfl))) (pl_E _) (a_star (e_sl sl_P (e_var (i := 4) rfl (.inl rfl)) (pl_var _) (.some (e_peek (e_op o_add (e_var (i := 2) rfl (.inl rfl)) e_int (pl_var _) (pl_k _))) (pl_P _)) .none) a_nil))))) (pl_P _) a_nil))) (al_cons (al_cons (al_cons al_nil))))) (pl_P _) a_nil) (al_cons al_nil)))))))))
theorem sc_made_right : FnScope N_made_right ["_law_tap_here", "_law_labels_here", "_law_trees"] (defScope (top 41)) := ⟨rfl, rfl, rfl, by decide +kernel, rfl, by decide +kernel, by decide +kernel⟩
theorem bd_made_right : BindN "_law_made_right" (top 41) ["_law_tap_here", "_law_labels_here", "_law_trees"] := fun _ _ _ _ _ _ us hl => match us, hl with | [_, _, _], _ => rfl
theorem ok_made_right (h : Fa K mg) : Fun1 P w K mg base 42 "_law_made_right" ["_law_tap_here", "_law_labels_here", "_law_trees"] d_made_right := by
  refine def_sv h.f_made_right sc_made_right bd_made_right fun cdv A outer s H E hr => ?_
  have hu := hr.u
  have hgd := hr.gd
  exact (b_cons (s_set (i := 3) sc_made_right.nd rfl (.inl rfl) (e_f (ok_pick h) (hr.mono (by decide)) rfl (takes_of rfl rfl rfl rfl) (a_cons (e_var (i := 0) rfl (.inl rfl)) (pl_var _) (a_cons (e_var (i := 1) rfl (.inl rfl)) (pl_var _) a_nil)) (al_cons (al_cons al_nil))) (by decide))
    (b_cons (s_if (t_w (w_or (t_cmp (o_ne hu) (e_peek (e_fS (ok_make_document h) (hr.mono (by decide)) rfl (takes_of rfl rfl rfl rfl) (a_cons (e_var (i := 3) rfl (.inl rfl)) (pl_var _) a_nil))) (e_peek (e_tup (a_cons (e_hold (e_var (i := 3) rfl (.inl rfl))) (pl_E _) a_nil))) (pl_P _) (pl_P _) (nomark _) hp_ne) (w_or1 (t_cmp (o_ne hu) (e_peek (e_f (ok_document_from h) (hr.mono (by decide)) rfl (takes_of rfl rfl rfl rfl) (a_cons (e_var (i := 3) rfl (.inl rfl)) (pl_var _) (a_cons (e_peek (e_tup a_nil)) (pl_P _) a_nil)) (al_cons (al_cons al_nil)))) (e_peek (e_tup (a_cons (e_hold (e_var (i := 3) rfl (.inl rfl))) (pl_E _) a_nil))) (pl_P _) (pl_P _) (nomark _) hp_ne)))) (b_one (s_ret e_bl)) b_nil)
    (b_cons (s_par3 (i := 4) (j := 5) (k := 6) rfl sc_made_right.nd rfl rfl rfl (by decide) (by decide) (by decide) rfl rfl rfl (e_ix ix_get (e_var (i := 2) rfl (.inl rfl)) e_int (pl_var _) (pl_k _) (fun _ _ => rfl)) (e_ix ix_get (e_var (i := 2) rfl (.inl rfl)) e_int (pl_var _) (pl_k _) (fun _ _ => rfl)) (e_ix ix_get (e_var (i := 2) rfl (.inl rfl)) e_int (pl_var _) (pl_k _) (fun _ _ => rfl)) (by decide) (by decide) (by decide) rfl)
    (b_cons (s_if (t_cmp (o_ne hu) (e_peek (e_fS (ok_make_document h) (hr.mono (by decide)) rfl (takes_of rfl rfl rfl rfl) (a_cons (e_var (i := 3) rfl (.inl rfl)) (pl_var _) (a_cons (e_var (i := 4) rfl (.inl rfl)) (pl_var _) a_nil)))) (e_peek (e_tup (a_cons (e_hold (e_var (i := 3) rfl (.inl rfl))) (pl_E _) (a_cons (e_hold (e_var (i := 4) rfl (.inl rfl))) (pl_E _) a_nil)))) (pl_P _) (pl_P _) (nomark _) hp_ne) (b_one (s_ret e_bl)) b_nil)
    (b_cons (s_if (t_cmp (o_ne hu) (e_peek (e_fS (ok_make_document h) (hr.mono (by decide)) rfl (takes_of rfl rfl rfl rfl) (a_cons (e_var (i := 3) rfl (.inl rfl)) (pl_var _) (a_cons (e_var (i := 4) rfl (.inl rfl)) (pl_var _) (a_cons (e_var (i := 5) rfl (.inl rfl)) (pl_var _) (a_cons (e_var (i := 6) rfl (.inl rfl)) (pl_var _) a_nil)))))) (e_peek (e_tup (a_cons (e_hold (e_var (i := 3) rfl (.inl rfl))) (pl_E _) (a_cons (e_hold (e_var (i := 4) rfl (.inl rfl))) (pl_E _) (a_cons (e_hold (e_var (i := 5) rfl (.inl rfl))) (pl_E _) (a_cons (e_hold (e_var (i := 6) rfl (.inl rfl))) (pl_E _) a_nil)))))) (pl_P _) (pl_P _) (nomark _) hp_ne) (b_one (s_ret e_bl)) b_nil)
    (b_cons (s_if (t_cmp (o_ne hu) (e_peek (e_f (ok_document_from h) (hr.mono (by decide)) rfl (takes_of rfl rfl rfl rfl) (a_cons (e_var (i := 3) rfl (.inl rfl)) (pl_var _) (a_cons (e_peek (e_tup (a_cons (e_hold (e_var (i := 5) rfl (.inl rfl))) (pl_E _) (a_cons (e_hold (e_var (i := 4) rfl (.inl rfl))) (pl_E _) a_nil)))) (pl_P _) a_nil)) (al_cons (al_cons al_nil)))) (e_peek (e_tup (a_cons (e_hold (e_var (i := 3) rfl (.inl rfl))) (pl_E _) (a_cons (e_hold (e_var (i := 5) rfl (.inl rfl))) (pl_E _) (a_cons (e_hold (e_var (i := 4) rfl (.inl rfl))) (pl_E _) a_nil))))) (pl_P _) (pl_P _) (nomark _) hp_ne) (b_one (s_ret e_bl)) b_nil)
    (b_cons (s_if (t_cmp (o_ne hu) (e_peek (e_f (ok_document_from h) (hr.mono (by decide)) rfl (takes_of rfl rfl rfl rfl) (a_cons (e_var (i := 3) rfl (.inl rfl)) (pl_var _) (a_cons (e_peek (e_callTy f_tuple rfl h.n_tuple boot_tuple' (a_cons (e_var (i := 2) rfl (.inl rfl)) (pl_var _) a_nil))) (pl_P _) a_nil)) (al_cons (al_cons al_nil)))) (e_peek (e_op o_add (e_peek (e_tup (a_cons (e_hold (e_var (i := 3) rfl (.inl rfl))) (pl_E _) a_nil))) (e_peek (e_callTy f_tuple rfl h.n_tuple boot_tuple' (a_cons (e_var (i := 2) rfl (.inl rfl)) (pl_var _) a_nil))) (pl_P _) (pl_P _))) (pl_P _) (pl_P _) (nomark _) hp_ne) (b_one (s_ret e_bl)) b_nil)
    (b_cons (s_set (i := 7) sc_made_right.nd rfl (.inl rfl) (e_f (ok_spots h 40) (hr.mono (by decide)) rfl (takes_of rfl rfl rfl rfl) (a_cons (e_var (i := 4) rfl (.inl rfl)) (pl_var _) a_nil) (al_cons al_nil)) (by decide))
    (b_cons (s_set (i := 8) sc_made_right.nd rfl (.inl rfl) (e_f (ok_pick h) (hr.mono (by decide)) rfl (takes_of rfl rfl rfl rfl) (a_cons (e_var (i := 0) rfl (.inl rfl)) (pl_var _) (a_cons (e_var (i := 7) rfl (.inl rfl)) (pl_var _) a_nil)) (al_cons (al_cons al_nil))) (by decide))
    (b_cons (s_set (i := 9) sc_made_right.nd rfl (.inl rfl) (e_f (ok_at h 40) (hr.mono (by decide)) rfl (takes_of rfl rfl rfl rfl) (a_cons (e_var (i := 4) rfl (.inl rfl)) (pl_var _) (a_cons (e_var (i := 8) rfl (.inl rfl)) (pl_var _) a_nil)) (al_cons (al_cons al_nil))) (by decide))
    (b_cons (s_for (passes_of rfl) rfl (i_range1 rfl h.n_range (e_peek (e_callB f_len rfl h.n_len boot_len' (a_cons (e_var (i := 9) rfl (.inl rfl)) (pl_var _) a_nil))) (pl_P _)) (g_name (i := 10) sc_made_right.nd rfl (.inl rfl) (by decide)) (b_cons (s_set (i := 11) sc_made_right.nd rfl (.inl rfl) (e_f (ok_put h 40) (hr.mono (by decide)) rfl (takes_of rfl rfl rfl rfl) (a_cons (e_var (i := 4) rfl (.inl rfl)) (pl_var _) (a_cons (e_var (i := 8) rfl (.inl rfl)) (pl_var _) (a_cons (e_peek (e_op o_add (e_peek (e_op o_add (e_peek (e_sl sl_P (e_var (i := 9) rfl (.inl rfl)) (pl_var _) .none (.some (e_peek (e_op o_add (e_var (i := 10) rfl (.inl rfl)) e_int (pl_var _) (pl_k _))) (pl_P _)))) (e_peek (e_tup (a_cons (e_hold (e_var (i := 5) rfl (.inl rfl))) (pl_E _) a_nil))) (pl_P _) (pl_P _))) (e_peek (e_sl sl_P (e_var (i := 9) rfl (.inl rfl)) (pl_var _) (.some (e_peek (e_op o_add (e_var (i := 10) rfl (.inl rfl)) e_int (pl_var _) (pl_k _))) (pl_P _)) .none)) (pl_P _) (pl_P _))) (pl_P _) a_nil))) (al_cons (al_cons (al_cons al_nil)))) (by decide))
    (b_one (s_if (t_w (w_or (t_cmp (o_ne hu) (e_peek (e_f (ok_with_child h) (hr.mono (by decide)) rfl (takes_of rfl rfl rfl rfl) (a_cons (e_var (i := 4) rfl (.inl rfl)) (pl_var _) (a_cons (e_var (i := 8) rfl (.inl rfl)) (pl_var _) (a_cons (e_var (i := 10) rfl (.inl rfl)) (pl_var _) (a_cons (e_var (i := 5) rfl (.inl rfl)) (pl_var _) a_nil)))) (al_cons (al_cons (al_cons (al_cons al_nil)))))) (e_var (i := 11) rfl (.inl rfl)) (pl_P _) (pl_var _) (nomark _) hp_ne) (w_or1 (t_cmp (o_ne hu) (e_peek (e_f (ok_without_node h) (hr.mono (by decide)) rfl (takes_of rfl rfl rfl rfl) (a_cons (e_var (i := 11) rfl (.inl rfl)) (pl_var _) (a_cons (e_peek (e_op o_add (e_var (i := 8) rfl (.inl rfl)) (e_peek (e_tup (a_cons (e_hold (e_var (i := 10) rfl (.inl rfl))) (pl_E _) a_nil))) (pl_var _) (pl_P _))) (pl_P _) a_nil)) (al_cons (al_cons al_nil)))) (e_var (i := 4) rfl (.inl rfl)) (pl_P _) (pl_var _) (nomark _) hp_ne)))) (b_one (s_ret e_bl)) b_nil))))
    (b_cons (s_for (passes_of rfl) rfl (i_seq (e_sl sl_P (e_var (i := 7) rfl (.inl rfl)) (pl_var _) (.some e_int (pl_k _)) .none)) (g_name (i := 12) sc_made_right.nd rfl (.inl rfl) (by decide)) (b_one (s_if (t_cmp (o_ne hu) (e_peek (e_f (ok_without_node h) (hr.mono (by decide)) rfl (takes_of rfl rfl rfl rfl) (a_cons (e_var (i := 4) rfl (.inl rfl)) (pl_var _) (a_cons (e_var (i := 12) rfl (.inl rfl)) (pl_var _) a_nil)) (al_cons (al_cons al_nil)))) (e_peek (e_f (ok_cut h) (hr.mono (by decide)) rfl (takes_of rfl rfl rfl rfl) (a_cons (e_var (i := 4) rfl (.inl rfl)) (pl_var _) (a_cons (e_var (i := 12) rfl (.inl rfl)) (pl_var _) a_nil)) (al_cons (al_cons al_nil)))) (pl_P _) (pl_P _) (nomark _) hp_ne) (b_one (s_ret e_bl)) b_nil)))
    (b_one (s_ret e_bl))))))))))))))
theorem sc_sorted : FnScope N_sorted ["_law_trees"] (defScope (top 39)) := ⟨rfl, rfl, rfl, by decide +kernel, rfl, by decide +kernel, by decide +kernel⟩
theorem bd_sorted : BindN "_law_sorted" (top 39) ["_law_trees"] := fun _ _ _ _ _ _ us hl => match us, hl with | [_], _ => rfl
theorem ok_sorted (h : Fa K mg) : Fun1 P w K mg base 61 "_law_sorted" ["_law_trees"] d_sorted := by
  refine def_sv h.f_sorted sc_sorted bd_sorted fun cdv A outer s H E hr => ?_
  have hu := hr.u
  have hgd := hr.gd
  exact (b_cons (s_set (i := 1) sc_sorted.nd rfl (.inl rfl) (e_lst a_nil) (by decide))
    (b_cons (s_for (passes_of rfl) rfl (i_seq (e_callB (f_sorted hu) rfl h.n_sorted boot_sorted' (a_cons (e_peek (e_comp (own := [("_law_tree_here", 3)]) (io := [0, 1, 2]) rfl sc_sorted.nd (i_seq (e_var (i := 0) rfl (.inl rfl))) (blkOk_by (N := N_sorted) (sc := defScope (top 39)) (by decide +kernel)) (fun _ _ _ _ _ => (g_name (i := 3) sc_sorted.nd rfl (.inl rfl) (by decide))) (fun _ _ _ _ _ => ts_nil) (fun _ _ _ _ _ => (e_tup (a_cons (e_hold (e_f (ok_weight h 60) (hr.mono (by decide)) rfl (takesF _) (a_cons (e_var (i := 3) rfl (.inl rfl)) (pl_var _) a_nil) (al_cons al_nil))) (pl_E _) (a_cons (e_hold (e_var (i := 3) rfl (.inl rfl))) (pl_E _) a_nil)))) (hio_by (N := N_sorted) (by decide)) (tame_gN _))) (pl_P _) a_nil))) (g_tup rfl (gs_cons (g_name (i := 2) sc_sorted.nd rfl (.inl rfl) (by decide)) (gs_cons (g_name (i := 3) sc_sorted.nd rfl (.inl rfl) (by decide)) gs_nil)) (tm_cons (tame_gN _) (tm_cons (tame_gN _) tm_nil))) (b_one (s_if (t_w (w_or (t_cmp (o_eq hu) (e_var (i := 1) rfl (.inl rfl)) (e_peek (e_lst a_nil)) (pl_var _) (pl_P _) (nomark _) hp_eq) (w_or1 (t_cmp (o_ne hu) (e_peek (e_ix ix_get (e_var (i := 1) rfl (.inl rfl)) (e_peek (e_un u_neg e_int (pl_k _))) (pl_var _) (pl_P _) (fun _ _ => rfl))) (e_var (i := 3) rfl (.inl rfl)) (pl_P _) (pl_var _) (nomark _) hp_ne)))) (b_one (s_expr (e_meth PySem.F.slot_list_append PySem.F.type_list_append m_append (e_var (i := 1) rfl (.inl rfl)) (a_cons (e_hold (e_var (i := 3) rfl (.inl rfl))) (pl_E _) a_nil)))) b_nil)))
    (b_one (s_ret (e_var (i := 1) rfl (.inl rfl))))))
theorem sc_order_right : FnScope N_order_right ["_law_tap_here", "_law_trees"] (defScope (top 42)) := ⟨rfl, rfl, rfl, by decide +kernel, rfl, by decide +kernel, by decide +kernel⟩
theorem bd_order_right : BindN "_law_order_right" (top 42) ["_law_tap_here", "_law_trees"] := fun _ _ _ _ _ _ us hl => match us, hl with | [_, _], _ => rfl
theorem ok_order_right (h : Fa K mg) : Fun1 P w K mg base 62 "_law_order_right" ["_law_tap_here", "_law_trees"] d_order_right := by
  refine def_sv h.f_order_right sc_order_right bd_order_right fun cdv A outer s H E hr => ?_
  have hu := hr.u
  have hgd := hr.gd
  exact (b_cons (s_par2 (i := 2) (j := 3) rfl sc_order_right.nd rfl rfl (by decide) rfl rfl (e_op o_add (e_var (i := 1) rfl (.inr (.inl rfl))) (e_peek (e_comp (own := [("_law_turn_here", 4)]) (io := [0, 1, 2, 3, 5]) rfl sc_order_right.nd (i_range1 rfl h.n_range e_int (pl_k _)) (blkOk_by (N := N_order_right) (sc := defScope (top 42)) (by decide +kernel)) (fun _ _ _ _ _ => (g_name (i := 4) sc_order_right.nd rfl (.inl rfl) (by decide))) (fun _ _ _ _ _ => ts_nil) (fun _ _ _ _ _ => (e_f (ok_pick h) (hr.mono (by decide)) rfl (takesF _) (a_cons (e_var (i := 0) rfl (.inr (.inl rfl))) (pl_var _) (a_cons (e_var (i := 1) rfl (.inr (.inl rfl))) (pl_var _) a_nil)) (al_cons (al_cons al_nil)))) (hio_by (N := N_order_right) (by decide)) (tame_gN _))) (pl_var _) (pl_P _)) (e_lst a_nil) (by decide) (by decide) rfl)
    (b_cons (s_for (passes_of rfl) rfl (i_range1 rfl h.n_range (e_peek (e_callB f_len rfl h.n_len boot_len' (a_cons (e_var (i := 2) rfl (.inl rfl)) (pl_var _) a_nil))) (pl_P _)) (g_name (i := 4) sc_order_right.nd rfl (.inl rfl) (by decide)) (b_one (s_expr (e_meth PySem.F.slot_list_append PySem.F.type_list_append m_append (e_var (i := 3) rfl (.inl rfl)) (a_cons (e_hold (e_meth PySem.F.slot_list_pop PySem.F.type_list_pop m_popAt (e_var (i := 2) rfl (.inl rfl)) (a_cons (e_hold (e_f (ok_turn h) (hr.mono (by decide)) rfl (takes_of rfl rfl rfl rfl) (a_cons (e_var (i := 0) rfl (.inr (.inl rfl))) (pl_var _) (a_cons (e_peek (e_callB f_len rfl h.n_len boot_len' (a_cons (e_var (i := 2) rfl (.inl rfl)) (pl_var _) a_nil))) (pl_P _) a_nil)) (al_cons (al_cons al_nil)))) (pl_E _) a_nil))) (pl_E _) a_nil)))))
    (b_cons (s_set (i := 5) sc_order_right.nd rfl (.inl rfl) (e_f (ok_sorted_documents h) (hr.mono (by decide)) rfl (takes_of rfl rfl rfl rfl) (a_cons (e_peek (e_callTy f_tuple rfl h.n_tuple boot_tuple' (a_cons (e_var (i := 3) rfl (.inl rfl)) (pl_var _) a_nil))) (pl_P _) a_nil) (al_cons al_nil)) (by decide))
    (b_one (s_ret (e_and (e_peek (e_cmp (o_eq hu) (e_peek (e_callB (f_reprW hgd hu) rfl h.n_repr boot_repr' (a_cons (e_var (i := 5) rfl (.inl rfl)) (pl_var _) a_nil))) (e_peek (e_callB (f_reprW hgd hu) rfl h.n_repr boot_repr' (a_cons (e_peek (e_callTy f_tuple rfl h.n_tuple boot_tuple' (a_cons (e_peek (e_f (ok_sorted h) (hr.mono (by decide)) rfl (takes_of rfl rfl rfl rfl) (a_cons (e_var (i := 1) rfl (.inr (.inl rfl))) (pl_var _) a_nil) (al_cons al_nil))) (pl_P _) a_nil))) (pl_P _) a_nil))) (pl_P _) (pl_P _) (nomark _))) (pl_P _) (e_one (e_cmp (o_eq hu) (e_peek (e_f (ok_sorted_documents h) (hr.mono (by decide)) rfl (takes_of rfl rfl rfl rfl) (a_cons (e_var (i := 5) rfl (.inl rfl)) (pl_var _) a_nil) (al_cons al_nil))) (e_var (i := 5) rfl (.inl rfl)) (pl_P _) (pl_var _) (nomark _)))))))))
theorem sc_law : FnScope N_law ["_law_script"] (defScope (top 43)) := ⟨rfl, rfl, rfl, by decide +kernel, rfl, by decide +kernel, by decide +kernel⟩
theorem bd_law : BindN "law" (top 43) ["_law_script"] := fun _ _ _ _ _ _ us hl => match us, hl with | [_], _ => rfl
theorem bj_law (h : Fa K mg) : BodyJ P w K mg base 90 "law" N_law (top 43) [0] c_law := by
  intro cdv A outer s H E hr
  have hu := hr.u
  have hgd := hr.gd
  exact (b_cons (s_if (t_cmp (o_ne hu) (e_peek (e_f (ok_sorted_documents h) (hr.mono (by decide)) rfl (takes_of rfl rfl rfl rfl) (a_cons (e_peek (e_tup a_nil)) (pl_P _) a_nil) (al_cons al_nil))) (e_peek (e_tup a_nil)) (pl_P _) (pl_P _) (nomark _) hp_ne) (b_one (s_ret e_bl)) b_nil)
    (b_cons (s_if (t_cmp (o_ne hu) (e_peek (e_f (ok_sorted_documents h) (hr.mono (by decide)) rfl (takes_of rfl rfl rfl rfl) (a_cons (e_peek (e_tup (a_cons (e_hold (e_tup (a_cons e_str (pl_k _) a_nil))) (pl_E _) (a_cons (e_hold (e_tup (a_cons e_str (pl_k _) (a_cons (e_hold (e_tup (a_cons e_str (pl_k _) a_nil))) (pl_E _) a_nil)))) (pl_E _) (a_cons (e_hold (e_tup (a_cons e_str (pl_k _) a_nil))) (pl_E _) a_nil))))) (pl_P _) a_nil) (al_cons al_nil))) (e_peek (e_tup (a_cons (e_hold (e_tup (a_cons e_str (pl_k _) a_nil))) (pl_E _) (a_cons (e_hold (e_tup (a_cons e_str (pl_k _) a_nil))) (pl_E _) (a_cons (e_hold (e_tup (a_cons e_str (pl_k _) (a_cons (e_hold (e_tup (a_cons e_str (pl_k _) a_nil))) (pl_E _) a_nil)))) (pl_E _) a_nil))))) (pl_P _) (pl_P _) (nomark _) hp_ne) (b_one (s_ret e_bl)) b_nil)
    (b_cons (s_set (i := 1) sc_law.nd rfl (.inl rfl) (e_tup (a_cons (e_hold (e_tup (a_cons e_str (pl_k _) (a_cons (e_hold (e_tup (a_cons e_str (pl_k _) (a_cons (e_hold (e_tup (a_cons e_str (pl_k _) a_nil))) (pl_E _) a_nil)))) (pl_E _) (a_cons (e_hold (e_tup (a_cons e_str (pl_k _) a_nil))) (pl_E _) a_nil))))) (pl_E _) (a_cons (e_hold (e_tup (a_cons e_str (pl_k _) (a_cons (e_hold (e_tup (a_cons e_str (pl_k _) a_nil))) (pl_E _) (a_cons (e_hold (e_tup (a_cons e_str (pl_k _) (a_cons (e_hold (e_tup (a_cons e_str (pl_k _) a_nil))) (pl_E _) a_nil)))) (pl_E _) a_nil))))) (pl_E _) (a_cons (e_hold (e_tup (a_cons e_str (pl_k _) (a_cons (e_hold (e_tup (a_cons e_str (pl_k _) a_nil))) (pl_E _) (a_cons (e_hold (e_tup (a_cons e_str (pl_k _) a_nil))) (pl_E _) (a_cons (e_hold (e_tup (a_cons e_str (pl_k _) a_nil))) (pl_E _) a_nil)))))) (pl_E _) a_nil)))) (by decide))
    (b_cons (s_if (t_cmp (o_ne hu) (e_peek (e_f (ok_sorted_documents h) (hr.mono (by decide)) rfl (takes_of rfl rfl rfl rfl) (a_cons (e_var (i := 1) rfl (.inl rfl)) (pl_var _) a_nil) (al_cons al_nil))) (e_peek (e_tup (a_cons (e_hold (e_ix ix_get (e_var (i := 1) rfl (.inl rfl)) e_int (pl_var _) (pl_k _) (fun _ _ => rfl))) (pl_E _) (a_cons (e_hold (e_ix ix_get (e_var (i := 1) rfl (.inl rfl)) e_int (pl_var _) (pl_k _) (fun _ _ => rfl))) (pl_E _) (a_cons (e_hold (e_ix ix_get (e_var (i := 1) rfl (.inl rfl)) e_int (pl_var _) (pl_k _) (fun _ _ => rfl))) (pl_E _) a_nil))))) (pl_P _) (pl_P _) (nomark _) hp_ne) (b_one (s_ret e_bl)) b_nil)
    (b_cons (s_for (passes_of rfl) rfl (i_range1 rfl h.n_range (e_peek (e_callB (f_max2 rfl) rfl h.n_max boot_max' (a_cons e_int (pl_k _) (a_cons (e_peek (e_callB (f_min2 rfl) rfl h.n_min boot_min' (a_cons e_int (pl_k _) (a_cons (e_peek (e_callB f_len rfl h.n_len boot_len' (a_cons (e_var (i := 0) rfl (.inl rfl)) (pl_var _) a_nil))) (pl_P _) a_nil)))) (pl_P _) a_nil)))) (pl_P _)) (g_name (i := 2) sc_law.nd rfl (.inl rfl) (by decide)) (b_cons (s_set (i := 3) sc_law.nd rfl (.inr rfl) (e_f (ok_tap h) (hr.mono (by decide)) rfl (takes_of rfl rfl rfl rfl) (a_cons (e_var (i := 0) rfl (.inl rfl)) (pl_var _) (a_cons (e_var (i := 2) rfl (.inl rfl)) (pl_var _) a_nil)) (al_cons (al_cons al_nil))) (by decide))
    (b_cons (s_set (i := 4) sc_law.nd rfl (.inr rfl) (e_f (ok_labels h) (hr.mono (by decide)) rfl (takes_of rfl rfl rfl rfl) (a_cons (e_var (i := 3) rfl (.inr (.inl rfl))) (pl_var _) a_nil) (al_cons al_nil)) (by decide))
    (b_cons (s_setLc (i := 5) (own := [("_law_turn_here", 6)]) (io' := [0, 1, 2, 3, 4, 5, 7]) rfl sc_law.nd rfl rfl (sw_true rfl rfl rfl (by decide +kernel)) (i_range1 rfl h.n_range (e_peek (e_op o_add e_int (e_peek (e_f (ok_turn h) (hr.mono (by decide)) rfl (takes_of rfl rfl rfl rfl) (a_cons (e_var (i := 3) rfl (.inr (.inl rfl))) (pl_var _) (a_cons e_int (pl_k _) a_nil)) (al_cons (al_cons al_nil)))) (pl_k _) (pl_P _))) (pl_P _)) (blkOk_by (N := N_law) (sc := defScope (top 43)) (by decide +kernel)) (fun _ _ _ _ _ => (g_name (i := 6) sc_law.nd rfl (.inl rfl) (by decide))) (fun _ _ _ _ _ => ts_nil) (fun _ _ _ _ _ => (e_f (ok_tree h 30) (hr.mono (by decide)) rfl (takesF _) (a_cons (e_var (i := 3) rfl (.inr (.inl rfl))) (pl_var _) (a_cons (e_var (i := 4) rfl (.inr (.inl rfl))) (pl_var _) (a_cons (e_peek (e_op o_add e_int (e_peek (e_f (ok_turn h) (hr.mono (by decide)) rfl (takesF _) (a_cons (e_var (i := 3) rfl (.inr (.inl rfl))) (pl_var _) (a_cons e_int (pl_k _) a_nil)) (al_cons (al_cons al_nil)))) (pl_k _) (pl_P _))) (pl_P _) a_nil))) (al_cons (al_cons (al_cons al_nil))))) (hio_by (N := N_law) (by decide)) (tame_gN _) (by decide))
    (b_cons (s_set (i := 7) sc_law.nd rfl (.inl rfl) (e_callB (f_reprW hgd hu) rfl h.n_repr boot_repr' (a_cons (e_var (i := 5) rfl (.inl rfl)) (pl_var _) a_nil)) (by decide))
    (b_one (s_if (t_w (w_or (t_not (t_val (e_peek (e_f (ok_made_right h) (hr.mono (by decide)) rfl (takes_of rfl rfl rfl rfl) (a_cons (e_var (i := 3) rfl (.inr (.inl rfl))) (pl_var _) (a_cons (e_var (i := 4) rfl (.inr (.inl rfl))) (pl_var _) (a_cons (e_var (i := 5) rfl (.inl rfl)) (pl_var _) a_nil))) (al_cons (al_cons (al_cons al_nil))))) (pl_P _))) (w_or (t_not (t_val (e_peek (e_f (ok_order_right h) (hr.mono (by decide)) rfl (takes_of rfl rfl rfl rfl) (a_cons (e_var (i := 3) rfl (.inr (.inl rfl))) (pl_var _) (a_cons (e_var (i := 5) rfl (.inl rfl)) (pl_var _) a_nil)) (al_cons (al_cons al_nil)))) (pl_P _))) (w_or1 (t_cmp (o_ne hu) (e_peek (e_callB (f_reprW hgd hu) rfl h.n_repr boot_repr' (a_cons (e_var (i := 5) rfl (.inl rfl)) (pl_var _) a_nil))) (e_var (i := 7) rfl (.inl rfl)) (pl_P _) (pl_var _) (nomark _) hp_ne))))) (b_one (s_ret e_bl)) b_nil)))))))
    (b_one (s_ret e_bl)))))))
end
end K02
end
section

end
section
set_option Elab.async false
set_option linter.all false
set_option maxRecDepth 100000
set_option maxHeartbeats 0
namespace K02
open PySem PySem.Spec L2 Sv
open PyProof.Rows hiding St
def fa0 : List He.Fa := [.glo "InvalidDocument", .exc "InvalidDocument", .glo "InvalidName", .exc "InvalidName", .glo "InvalidOperation", .exc "InvalidOperation", .free "abs", .free "all", .free "bool", .free "enumerate", .free "int", .free "isinstance", .free "len", .free "max", .free "min", .free "range", .free "repr", .free "sorted", .free "str", .free "sum", .free "tuple", .int "MAX_NODES" 200, .int "MAX_SIGNS" 8, .str "LETTERS" "abcdefghijklmnopqrstuvwxyz", .glo "size_in", .glo "ordered_documents", .glo "is_name", .glo "is_tree", .glo "is_document", .glo "sorted_documents"]
def fa1 : List He.Fa := [.glo "_law_tap", .glo "_law_turn", .glo "_law_labels", .glo "_law_weight", .glo "_law_pick", .glo "_law_tree", .glo "_law_spots", .glo "_law_at", .glo "document_from", .glo "make_document", .glo "_law_put", .glo "require_document", .glo "is_integer", .glo "is_node_in", .glo "require_node", .glo "put_in", .glo "subtree_in", .glo "without_node", .glo "_law_cut", .glo "require_small", .glo "with_child", .glo "_law_made_right", .glo "_law_sorted", .glo "_law_order_right", .glo "law"]
def fa : List He.Fa := fa0 ++ fa1
def fn0 : List He.DefD := [⟨("size_in", none), "size_in", "size_in", defArgs (top 20), defBody (top 20), defScope (top 20), [], []⟩, ⟨("ordered_documents", none), "ordered_documents", "ordered_documents", defArgs (top 22), defBody (top 22), defScope (top 22), [], []⟩, ⟨("is_name", none), "is_name", "is_name", defArgs (top 12), defBody (top 12), defScope (top 12), [], []⟩, ⟨("is_tree", none), "is_tree", "is_tree", defArgs (top 14), defBody (top 14), defScope (top 14), [.non], []⟩, ⟨("is_document", none), "is_document", "is_document", defArgs (top 15), defBody (top 15), defScope (top 15), [], []⟩, ⟨("sorted_documents", none), "sorted_documents", "sorted_documents", defArgs (top 28), defBody (top 28), defScope (top 28), [], []⟩, ⟨("_law_tap", none), "_law_tap", "_law_tap", defArgs (top 30), defBody (top 30), defScope (top 30), [], []⟩, ⟨("_law_turn", none), "_law_turn", "_law_turn", defArgs (top 31), defBody (top 31), defScope (top 31), [], []⟩, ⟨("_law_labels", none), "_law_labels", "_law_labels", defArgs (top 38), defBody (top 38), defScope (top 38), [], []⟩, ⟨("_law_weight", none), "_law_weight", "_law_weight", defArgs (top 33), defBody (top 33), defScope (top 33), [], []⟩, ⟨("_law_pick", none), "_law_pick", "_law_pick", defArgs (top 32), defBody (top 32), defScope (top 32), [], []⟩, ⟨("_law_tree", none), "_law_tree", "_law_tree", defArgs (top 34), defBody (top 34), defScope (top 34), [], []⟩, ⟨("_law_spots", none), "_law_spots", "_law_spots", defArgs (top 35), defBody (top 35), defScope (top 35), [], []⟩, ⟨("_law_at", none), "_law_at", "_law_at", defArgs (top 36), defBody (top 36), defScope (top 36), [], []⟩, ⟨("document_from", none), "document_from", "document_from", defArgs (top 24), defBody (top 24), defScope (top 24), [], []⟩, ⟨("make_document", none), "make_document", "make_document", defArgs (top 25), defBody (top 25), defScope (top 25), [], []⟩, ⟨("_law_put", none), "_law_put", "_law_put", defArgs (top 37), defBody (top 37), defScope (top 37), [], []⟩, ⟨("require_document", none), "require_document", "require_document", defArgs (top 16), defBody (top 16), defScope (top 16), [], []⟩, ⟨("is_integer", none), "is_integer", "is_integer", defArgs (top 13), defBody (top 13), defScope (top 13), [], []⟩, ⟨("is_node_in", none), "is_node_in", "is_node_in", defArgs (top 17), defBody (top 17), defScope (top 17), [], []⟩, ⟨("require_node", none), "require_node", "require_node", defArgs (top 18), defBody (top 18), defScope (top 18), [], []⟩, ⟨("put_in", none), "put_in", "put_in", defArgs (top 21), defBody (top 21), defScope (top 21), [], []⟩, ⟨("subtree_in", none), "subtree_in", "subtree_in", defArgs (top 19), defBody (top 19), defScope (top 19), [], []⟩, ⟨("without_node", none), "without_node", "without_node", defArgs (top 27), defBody (top 27), defScope (top 27), [], []⟩, ⟨("_law_cut", none), "_law_cut", "_law_cut", defArgs (top 40), defBody (top 40), defScope (top 40), [], []⟩, ⟨("require_small", none), "require_small", "require_small", defArgs (top 23), defBody (top 23), defScope (top 23), [], []⟩, ⟨("with_child", none), "with_child", "with_child", defArgs (top 26), defBody (top 26), defScope (top 26), [], []⟩, ⟨("_law_made_right", none), "_law_made_right", "_law_made_right", defArgs (top 41), defBody (top 41), defScope (top 41), [], []⟩, ⟨("_law_sorted", none), "_law_sorted", "_law_sorted", defArgs (top 39), defBody (top 39), defScope (top 39), [], []⟩, ⟨("_law_order_right", none), "_law_order_right", "_law_order_right", defArgs (top 42), defBody (top 42), defScope (top 42), [], []⟩]
def fn1 : List He.DefD := [⟨("law", none), "law", "law", defArgs (top 43), defBody (top 43), defScope (top 43), [], []⟩]
def fn : List He.DefD := fn0 ++ fn1
def loose0 : List Str := ["SeenError", "InvalidName", "InvalidDocument", "InvalidOperation", "InvalidNode", "InvalidNumber", "TooLarge", "MAX_NODES", "MAX_SIGNS", "LETTERS", "is_name", "is_integer", "is_tree", "is_document", "require_document", "is_node_in", "require_node", "subtree_in", "size_in", "put_in", "ordered_documents", "require_small", "document_from", "make_document", "with_child", "without_node", "sorted_documents", "_law_tap", "_law_turn", "_law_pick"]
def loose1 : List Str := ["_law_weight", "_law_tree", "_law_spots", "_law_at", "_law_put", "_law_labels", "_law_sorted", "_law_cut", "_law_made_right", "_law_order_right"]
def loose : List Str := loose0 ++ loose1
abbrev R : PySem.W.OpenRow := PySem.W.OpenLaw.row PySem.Challenge.rw_seenabove_k02_documents_made
abbrev hk : PySem.W.Hook := He.hookD 5 fa fn
def ob (s : PySem.W.SharedT) : He.AlD := He.obsDG 5 fa fn (HandSHeadRun.getT s)
theorem ob_eq (s : PySem.W.SharedT) : ob s = hk.obs s.abs := He.obsDG_eq (HandSHeadRun.getT_eq s)
theorem run (w : World) : HandSHeadRun.RunEq R (PySem.W.view R.prog [43]) hk ob 4000 loose w := by
  intro os
  kernel_rfl
theorem fa_of {K : PySem.W.Frag} {h : Heap} {mg : Str → Option Value} (X : K.In h) (G : h.Ns mainGlobals mg) (c : He.SaysD fa fn K) : Fa K mg where
  x_InvalidDocument := exF_of X G (c.fact 0 rfl) (c.fact 1 rfl)
  x_InvalidName := exF_of X G (c.fact 2 rfl) (c.fact 3 rfl)
  x_InvalidOperation := exF_of X G (c.fact 4 rfl) (c.fact 5 rfl)
  n_abs := He.free_ok X G (c.fact 6 rfl)
  n_all := He.free_ok X G (c.fact 7 rfl)
  n_bool := He.free_ok X G (c.fact 8 rfl)
  n_enumerate := He.free_ok X G (c.fact 9 rfl)
  n_int := He.free_ok X G (c.fact 10 rfl)
  n_isinstance := He.free_ok X G (c.fact 11 rfl)
  n_len := He.free_ok X G (c.fact 12 rfl)
  n_max := He.free_ok X G (c.fact 13 rfl)
  n_min := He.free_ok X G (c.fact 14 rfl)
  n_range := He.free_ok X G (c.fact 15 rfl)
  n_repr := He.free_ok X G (c.fact 16 rfl)
  n_sorted := He.free_ok X G (c.fact 17 rfl)
  n_str := He.free_ok X G (c.fact 18 rfl)
  n_sum := He.free_ok X G (c.fact 19 rfl)
  n_tuple := He.free_ok X G (c.fact 20 rfl)
  i_MAX_NODES := He.int_ok X G (c.fact 21 rfl)
  i_MAX_SIGNS := He.int_ok X G (c.fact 22 rfl)
  s_LETTERS := He.str_ok X G (c.fact 23 rfl)
  f_size_in := defF_of X G (c.fact 24 rfl) (c.def_ 0 rfl)
  f_ordered_documents := defF_of X G (c.fact 25 rfl) (c.def_ 1 rfl)
  f_is_name := defF_of X G (c.fact 26 rfl) (c.def_ 2 rfl)
  f_is_tree := defF_of X G (c.fact 27 rfl) (c.def_ 3 rfl)
  f_is_document := defF_of X G (c.fact 28 rfl) (c.def_ 4 rfl)
  f_sorted_documents := defF_of X G (c.fact 29 rfl) (c.def_ 5 rfl)
  f_tap := defF_of X G (c.fact 30 rfl) (c.def_ 6 rfl)
  f_turn := defF_of X G (c.fact 31 rfl) (c.def_ 7 rfl)
  f_labels := defF_of X G (c.fact 32 rfl) (c.def_ 8 rfl)
  f_weight := defF_of X G (c.fact 33 rfl) (c.def_ 9 rfl)
  f_pick := defF_of X G (c.fact 34 rfl) (c.def_ 10 rfl)
  f_tree := defF_of X G (c.fact 35 rfl) (c.def_ 11 rfl)
  f_spots := defF_of X G (c.fact 36 rfl) (c.def_ 12 rfl)
  f_at := defF_of X G (c.fact 37 rfl) (c.def_ 13 rfl)
  f_document_from := defF_of X G (c.fact 38 rfl) (c.def_ 14 rfl)
  f_make_document := defF_of X G (c.fact 39 rfl) (c.def_ 15 rfl)
  f_put := defF_of X G (c.fact 40 rfl) (c.def_ 16 rfl)
  f_require_document := defF_of X G (c.fact 41 rfl) (c.def_ 17 rfl)
  f_is_integer := defF_of X G (c.fact 42 rfl) (c.def_ 18 rfl)
  f_is_node_in := defF_of X G (c.fact 43 rfl) (c.def_ 19 rfl)
  f_require_node := defF_of X G (c.fact 44 rfl) (c.def_ 20 rfl)
  f_put_in := defF_of X G (c.fact 45 rfl) (c.def_ 21 rfl)
  f_subtree_in := defF_of X G (c.fact 46 rfl) (c.def_ 22 rfl)
  f_without_node := defF_of X G (c.fact 47 rfl) (c.def_ 23 rfl)
  f_cut := defF_of X G (c.fact 48 rfl) (c.def_ 24 rfl)
  f_require_small := defF_of X G (c.fact 49 rfl) (c.def_ 25 rfl)
  f_with_child := defF_of X G (c.fact 50 rfl) (c.def_ 26 rfl)
  f_made_right := defF_of X G (c.fact 51 rfl) (c.def_ 27 rfl)
  f_sorted := defF_of X G (c.fact 52 rfl) (c.def_ 28 rfl)
  f_order_right := defF_of X G (c.fact 53 rfl) (c.def_ 29 rfl)
  f_law := defF_of X G (c.fact 54 rfl) (c.def_ 30 rfl)
theorem facts {P : Program} {w : World} {K : PySem.W.Frag} {h : Heap} {mg : Str → Option Value} {f : Addr} (X : K.In h) (G : h.Ns mainGlobals mg) (hfa : mg ("law" : Str) = some (.ref f)) (c : He.SaysD fa fn K) :
    ∃ fd : FuncData, (∀ (s : Shared) (v : Value), BindsTo s fd ⟨[v], []⟩ [("_law_script", v)]) ∧ ∀ base : Heap, K.In base → base.Ns mainGlobals mg → FnG P w K mg base 91 f fd ["_law_script"] d_law := by
  have hF := fa_of X G c
  obtain ⟨fd, F, hm⟩ := hF.f_law
  have e := hfa.symm.trans hm
  cases e
  have b := FunD.bindsA (ps := ["_law_script"]) F bd_law
  exact ⟨fd, fun s v => b s [v] rfl, fun base _ _ => fn_sv F sc_law (bj_law hF)⟩
end K02
open PySem PySem.W PySem.Calls PyProof.Rows in
theorem PySem.Challenge.cw_seenabove_k02_documents_made_holds : PySem.Challenge.rw_seenabove_k02_documents_made.Holds := by
  w_on; o_law
  refine HandSHeadRun.head_any (r := OpenLaw.row PySem.Challenge.rw_seenabove_k02_documents_made) (q := view (OpenLaw.row PySem.Challenge.rw_seenabove_k02_documents_made).prog [43]) (H := K02.hk) (ob := K02.ob) (M := 4000) (loose := K02.loose) (d := HandSHeadRun.topDef (OpenLaw.row PySem.Challenge.rw_seenabove_k02_documents_made).prog 43) (kwd := []) K02.ob_eq
    (by kernel_rfl) (fun s => by kernel_rfl) K02.run (by kernel_rfl) (by kernel_rfl) (by kernel_rfl) (by rfl) (by first | assumption | decide +kernel) (by decide +kernel) ⟨rfl, rfl, rfl, rfl, rfl, by decide +kernel⟩ ?hw ?hc
  case hw => w_witness2
  case hc =>
    refine Sv.walk_sv (l := PySem.Challenge.rw_seenabove_k02_documents_made) (n := 63) (k := 91) (x := "_law_script") rfl (by decide) (by kernel_rfl) ⟨⟨rfl, by decide, by decide⟩, rfl⟩ ?F K02.law_true
    intro w mg fa h Y G hmg0
    obtain ⟨K, KX, c⟩ := Y
    have hmg : mg ("law" : PySem.Str) = some (.ref fa) := by
      have e : (HandSHeadRun.topDef (OpenLaw.row PySem.Challenge.rw_seenabove_k02_documents_made).prog 43).name = ("law" : PySem.Str) := by kernel_rfl
      rw [← e]
      exact hmg0
    obtain ⟨fd, hb, hF⟩ := K02.facts (P := (PySem.Challenge.rw_seenabove_k02_documents_made).prog) (w := w) KX G hmg c
    exact ⟨K, fd, KX, hb, hF⟩
end
